import PyProof.Rows.All
import Wide.All
import OpenK.AllK
import Wide.FinOn
import PyProof.EqAt
import PyProof.EqKinds
import PyProof.TupleCall
import HandS.ForMost
import HandS.ForExc
import HandS.Flow
import HandS.Style
import HandS.More
import HandS.Strs
import HandS.Sort
import HandS.SortRule
import HandS.SortInts
import HandS.SetBool
import HandS.SetKeys
import HandS.DictComp
import HandS.DeepEq
import HandS.OwnEq
import HandS.IsInst
import HandS.Property
import HandS.Defaults
import HandS.FStr
import HandS.Wide
import HandS.Codes
import HandS.Finally
import HandS.Replace
import HandS.NoneIn
import HandS.Conv
import HandS.ExcInit
import HandS.ExcField
import HandS.TupLe
import HandS.Walk
import KE.IntTextLaws
import PySem.Challenge.RW_allcells_k80_whole_states_written_and_re
section
set_option Elab.async false
set_option maxRecDepth 100000
set_option maxHeartbeats 4000000
namespace A80
open PySem L2 PyProof.Rows
/-! ### the text by places -/
def topS (i : Nat) : Stmt := PySem.Challenge.pw_allcells_k80_whole_states_written_and_re.main.body.getD i (.Pass ⟨0, 0, 0, 0⟩)
end A80
end
section
set_option Elab.async false
set_option maxRecDepth 100000
set_option maxHeartbeats 4000000
namespace A80
open PySem PySem.Spec L2 PyProof.Rows
/-! ### rules of my own -/
section
variable {X : Cx}
/-- len of a set of ints -/
theorem len_setO : CallR X (.builtin "len") (fun xs H Q => ∃ a S n, xs = [V.ref a] ∧ H a = some (SetO X.w a S n) ∧ Q (.int (n : Nat)) H) := by
  intro pins s σ H xs us Q I r h
  obtain ⟨a, S, n, rfl, ha, q⟩ := h
  obtain ⟨u, rfl, ru⟩ := vals1 r
  obtain rfl : u = Value.ref a := ru
  obtain ⟨o, es, ep, t, ho, hex, hd, _, _, _, hb, hf, hn, _⟩ := setO_get I ha
  subst hn
  have hfit : (es.size : Int) < 2 ^ 63 := by
    have : es.size < 4096 := hb
    omega
  exact call_len_set ho hex hd hf hfit ⟨.int (es.size : Nat), H, I.tok _, ⟨_, rfl⟩, q⟩
/-- a text times a small number -/
theorem op_repS : OpR X (binaryOp .Mult) (fun x y H Q => ∃ (z : Str) (n : Int), x = .str z ∧ y = .int n ∧ 1 ≤ n ∧ n ≤ 100 ∧ z.length ≤ 100 ∧ ∀ r : Str, r.length = z.length * n.toNat → Q (.str r) H) := by
  intro pins s σ H x y u v Q I rx ry h
  obtain ⟨z, n, rfl, rfl, h1, h2, h3, q⟩ := h
  obtain ⟨t, rfl⟩ := rx
  obtain ⟨t', rfl⟩ := ry
  have hl : z.length * n.toNat ≤ 10000 := by
    have : n.toNat ≤ 100 := by omega
    calc z.length * n.toNat ≤ 100 * 100 := Nat.mul_le_mul h3 this
      _ = 10000 := rfl
  have hrep : ∀ (k : Nat) (a : Array Nat), ((List.replicate k z.cps).foldl (· ++ ·) a).size = a.size + z.length * k := by
    intro k
    induction k with
    | zero => intro a; simp
    | succ k ih =>
      intro a
      rw [List.replicate_succ, List.foldl_cons, ih]
      show (a ++ z.cps).size + z.length * k = a.size + z.length * (k + 1)
      rw [Array.size_append, Nat.mul_succ]
      show a.size + z.length + z.length * k = _
      omega
  refine P.mul_str (by rw [decide_eq_false (by omega), decide_eq_false (by omega)]; rfl) (fun _ _ => ?_) (fun _ _ => ?_) ?_
  · have : (2 ^ 63 - 1 : Int) / n ≥ 100 := by
      refine (Int.le_ediv_iff_mul_le (by omega)).mpr ?_
      omega
    omega
  · have e : sizeLine = 16777216 := sizeLine_eq
    show decide (z.length * n.toNat > sizeLine) = false
    exact decide_eq_false (by omega)
  · rw [if_neg (by omega)]
    by_cases e : (n == 1 || z.length == 0) = true
    · rw [if_pos e]
      refine ⟨.str z, H, I.tok _, ⟨_, rfl⟩, q z ?_⟩
      rcases Bool.or_eq_true_iff.mp e with e | e
      · have := beq_iff_eq.mp e
        subst this
        show z.length = z.length * 1
        omega
      · have e0 : z.length = 0 := beq_iff_eq.mp e
        rw [e0, Nat.zero_mul]
    · rw [if_neg e]
      refine ⟨?_, .str _, H, I.tok _, ⟨_, rfl⟩, q _ ?_⟩
      · show ((List.replicate n.toNat z.cps).foldl (· ++ ·) #[]).size ≤ sizeLine
        rw [hrep]
        have : sizeLine = 16777216 := sizeLine_eq
        simp
        omega
      · show ((List.replicate n.toNat z.cps).foldl (· ++ ·) #[]).size = _
        rw [hrep]
        simp
/-! sorted(d), d a dict with text keys, any number of them -/
def strLt (v u : Value) : Bool := decide ((strOf v).cps.toList < (strOf u).cps.toList)
theorem lex_asymm {a b : List Nat} (h : a < b) : ¬ b < a := fun q => List.lt_irrefl a (List.lt_trans h q)
theorem swo_strLt : SrtO.Swo strLt := by
  refine ⟨fun x y h => ?_, fun x y z h1 h2 => ?_⟩
  · have a := of_decide_eq_true (p := (strOf x).cps.toList < (strOf y).cps.toList) h
    exact decide_eq_false (lex_asymm a)
  · have a := of_decide_eq_false (p := (strOf y).cps.toList < (strOf x).cps.toList) h1
    have b := of_decide_eq_false (p := (strOf z).cps.toList < (strOf y).cps.toList) h2
    refine decide_eq_false fun q => ?_
    have a' : (strOf x).cps.toList ≤ (strOf y).cps.toList := List.not_lt.mp a
    have b' : (strOf y).cps.toList ≤ (strOf z).cps.toList := List.not_lt.mp b
    exact absurd q (List.not_lt.mpr (List.le_trans a' b'))
theorem str_cmp {prog : Program} {w : World} {A : Around} {s : Shared} {vs : List Value} {ss : List Str} (hS : StrsAre vs ss) : SrtO.Cmp prog w A s oneType' (fun p => p.1 ∈ vs) (SrtO.lt2 strLt) := by
  intro p q hm hm'
  obtain ⟨a, t, e⟩ := hS.all _ hm
  obtain ⟨b, u, e'⟩ := hS.all _ hm'
  show wpAny (model prog w) A (keyLt' oneType' p.1 q.1) (fun r s' => s' = s ∧ r = strLt p.1 q.1) (fun _ _ => False) s
  rw [e, e']
  rw [keyLt'_oneType]
  exact oneLt_str ⟨rfl, rfl⟩
theorem strs_sortable {prog : Program} {w : World} {A : Around} {s : Shared} {a : Addr} {vs : List Value} {ss : List Str} (hS : StrsAre vs ss) (h2 : 2 ≤ vs.length) : SrtO.SortableO prog w A s a vs strLt := by
  intro h' _
  refine ⟨oneType', fun Q E hq => ?_, str_cmp hS⟩
  match vs, hS, h2 with
  | [], _, h => exact absurd h (by decide)
  | [_], _, h => exact absurd h (by simp)
  | v1 :: v2 :: rest, hS, _ =>
    rw [keyKind_strs hS]
    exact wpAny_pure hq
theorem strs_out {vs out : List Value} {ss : List Str} (hS : StrsAre vs ss) (h1 : SrtO.Srtd strLt out) (h2 : SrtO.Stb strLt out vs) :
    StrsAre out (out.map strOf) ∧ (out.map strOf).Perm ss ∧ (out.map strOf).Pairwise (fun x y => ¬ y.cps.toList < x.cps.toList) := by
  refine ⟨strsAre_map out fun v hv => hS.all v (h2.perm.mem_iff.mp hv), ?_, ?_⟩
  · rw [← hS.strs]
    exact h2.perm.map strOf
  · refine List.pairwise_map.mpr (h1.imp fun {x y} h => ?_)
    exact of_decide_eq_false (p := (strOf y).cps.toList < (strOf x).cps.toList) h
theorem cr_sortedKeys (hcalm : X.calm = true) : CallR X (.builtin "sorted") (fun xs H Q => ∃ (a : Addr) (kvs : List (Key × V)) (ks : List Str), xs = [.ref a] ∧ Rd H a (.dK kvs) ∧ kvs.map (·.1) = ks.map Sum.inr ∧
    ∀ (ys : List Str) (p : Addr), ys.Perm ks → ys.Pairwise (fun x y => ¬ y.cps.toList < x.cps.toList) → H p = none → Q (.ref p) (upd H p (.lst (ys.map V.str)))) := by
  intro pins s σ H xs us Q I r q
  obtain ⟨a, kvs, ks, rfl, hd, hks, q⟩ := q
  obtain ⟨u, rfl, ru⟩ := vals1 r
  obtain rfl : u = Value.ref a := ru
  obtain ⟨hz, hlo, vs, rel, dd⟩ := dk_rd I.hok hd
  obtain ⟨ep, dat⟩ := dd.dictAt
  have hlen : vs.length = ks.length := by
    rw [← rel.length, ← List.length_map (f := (·.1)), hks, List.length_map]
  have hsz : vs.length ≤ sizeLine := by rw [← rel.length]; exact hz
  refine Calls.call_function_entry kind_sorted plain_sorted entry_sorted (args_sorted1 _) ?_
  unfold Builtin.«sorted»
  refine wpAny_bind (m := checkCount "sorted" 1 1 _) (wpAny_pure ?_)
  refine wpAny_bind (PySem.W.kdu_collect (PySem.W.kdl_dict (prog := X.prog) (w := X.w) (knd := mixKind X.prog X.w) hlo) (I.ok.hd hcalm) dat hsz fun h1 tk got hk hgot => ?_)
  have lg : got.toList.length = ks.length := by rw [Array.length_toList, hgot.1, hlen]
  have keysAre : vs.map (·.1) = ks.map Sum.inr := by rw [← rel.keys, hks]
  have hS : StrsAre got.toList ks := L2.strs_at lg fun j v e => by
    rw [Array.getElem?_toList] at e
    obtain ⟨k, x, e1, e2⟩ := hgot.2 j v e
    have e3 : (ks.map Sum.inr : List Key)[j]? = some k := by rw [← keysAre, List.getElem?_map, e1]; rfl
    rw [List.getElem?_map] at e3
    obtain ⟨y, e4, e5⟩ := Option.map_eq_some_iff.mp e3
    subst e5
    obtain ⟨t, ev⟩ := Value.isStrOf_shape (x := y) (v := v) e2
    exact ⟨y, t, e4, ev⟩
  have hgz : got.toList.length ≤ sizeLine := by rw [lg, ← hlen]; exact hsz
  have I1 : Inv X pins σ H { s with heap := h1, toks := tk } := I.kept hk
  refine wpAny_bind (wpAny_newList ?_ hgz)
  have hoL : (h1.push (seqObj "list" got.toList.toArray 0)).get? h1.objs.size = some (seqObj "list" got.toList.toArray 0) := Heap.get?_push_size _ rfl
  show wpAny _ _ _ _ _ { s with heap := h1.push (seqObj "list" got.toList.toArray 0), toks := tk }
  refine wpAny_bind (wpAny_holding (wpAny_call_entry slot_list_sort ⟨_, hoL, rfl⟩ entry_list_sort
    (SrtO.list_sort_ord swo_strLt hoL hgz (fun h2 => strs_sortable hS h2) fun out o1 o2 => ⟨_, rfl, ?_⟩) (args_list_sort _)))
  obtain ⟨k1, k2, k3⟩ := strs_out hS o1 o2
  obtain ⟨e', he'⟩ := sortedHeap_at (vs := got.toList) (out := out.toArray) hoL
  have hfin : ((out.map strOf).map V.str).length ≤ sizeLine := by
    rw [List.length_map, k2.length_eq, ← hlen]
    exact hsz
  refine wpAny_pure ⟨_, rfl, .ref h1.objs.size, upd H h1.objs.size (.lst ((out.map strOf).map V.str)), I1.laid (t' := tk) (fun b o e => ?_) (Nat.le_refl _)
    ⟨hfin, out, e', vals_of_strs k1, he'⟩, rfl, q _ _ k2 k3 (I1.hok.fresh (Nat.le_refl _))⟩
  have hb : b < h1.objs.size := Heap.lt_size e
  rw [sortedHeap_old (Nat.ne_of_lt hb) (by rw [size_push']; exact Nat.lt_succ_of_lt hb)]
  exact Heap.get?_push_of_some _ e
end
end A80
end
section
set_option Elab.async false
set_option maxRecDepth 100000
set_option maxHeartbeats 4000000
namespace A80
open PySem PySem.Spec L2 PyProof.Rows
/-! ### {elt for target in iter}, elt an int, no test: the new set stands at D -/
def tScI (w : World) (wi : TI) (g : TG) (te : TE) (vs : List Nat) : TE := fun σ H Q => wi σ H fun J H1 => ∀ D, H1 D = none →
  ∃ W : Nat → Nat → Hp → Prop, (∃ m, W 0 m (upd H1 D (SetO w D (fun _ => false) 0))) ∧ ∀ i m H, W i m H →
    (J.stop i H ∧ Q (.ref D) H) ∨
    (J.go i H ∧ ∃ Nx : Hp → Prop, (∀ H', Nx H' → ∃ m', m' < m ∧ W (i + 1) m' H') ∧ ∀ x H', J.yld i H x H' →
      g x (wipe σ vs) H' fun σ2 H2 => wipe σ2 vs = wipe σ vs ∧ te σ2 H2 fun y H3 => ∃ (k : Int) (S : Int → Bool) (n : Nat),
        y = .int k ∧ H3 D = some (SetO w D S n) ∧ n + 1 < scanBound ∧ Nx (upd H3 D (SetO w D (fun j => S j || decide (j = k)) (if S k = true then n else n + 1))))
section
variable {X : Cx}
theorem put_setO {pins : List (Addr × Obj)} {σ : L2.St} {H : Hp} {s : Shared} {E : Value → Shared → Prop} {D : Addr} {S : Int → Bool} {n : Nat} {k : Int} {t : Tok} {Q : Value → Shared → Prop} (I : Inv X pins σ H s)
    (hD : H D = some (SetO X.w D S n)) (room : n + 1 < scanBound)
    (h : ∀ s', Inv X pins σ (upd H D (SetO X.w D (fun j => S j || decide (j = k)) (if S k = true then n else n + 1))) s' → Q .none s') :
    wpAny (model X.prog X.w) X.A (call (.builtin "set.add") [.ref D, .int k t]) Q E s :=
  setR_add (setO_get I hD) room fun h' sb R' => by
    obtain ⟨o, es, ep, tb, ho, rest⟩ := R'
    exact h _ (I.write (e := D) (t' := s.toks + 1) (by rw [hD]; trivial) (.inl rfl) (fun b u hb hu => (sb.2 b hb).trans hu) ⟨o, ho⟩ (setO_new ⟨o, es, ep, tb, ho, rest⟩))
theorem pe_scI {elt tg iter : Expr} {scope : Scope} {own : List (Str × Nat)} {pos : Pos} {wi : TI} {g : TG} {te : TE} (hc : X.calm = true) (hN : X.N.Nodup) (hi : PI X tg iter wi) (ok : BlkOk X.N X.env.scope scope own)
    (hg : ∀ (s : Shared) (H : Hp) (C : Addr) (cl : List (Str × Addr)) (fp : List Addr), PG (X.blk s H scope (compEnvC scope cl C X.env) fp) tg g)
    (ht : ∀ (s : Shared) (H : Hp) (C : Addr) (cl : List (Str × Addr)) (fp : List Addr), PTs (X.blk s H scope (compEnvC scope cl C X.env) fp) [] tYes)
    (he : ∀ (s : Shared) (H : Hp) (C : Addr) (cl : List (Str × Addr)) (fp : List Addr), PE (X.blk s H scope (compEnvC scope cl C X.env) fp) elt te)
    (hs : ∀ x, foldedSetIterable iter X.env x = pure x := by intro _; rfl) :
    PE X (.SetComp elt [⟨tg, iter, [], 0⟩] scope pos) (tScI X.w wi g te (own.map (·.2))) := by
  refine ⟨fun pins s σ H Q I hq => ?_⟩
  rw [PpSet.eval_SetComp]
  have captured : ∀ y ∈ scope.names, y.2 = .free → ∃ c, X.env.cells.lookup y.1 = some c := fun y hy ef =>
    (ok.free y hy ef).elim (fun k => I.ok.has _ (.inl k)) (fun k => I.ok.has _ (.inr k))
  refine wpAny_comprehension_free (use := none) rfl hs (closure_ok captured) ok.kind (fun y hy ey => by rw [ok.uniq y hy, ey])
    (thn (hi.run pins s σ H _ I hq) fun xv sa hx => thn hx fun itv sb hb => ?_)
  obtain ⟨it, fp, tn, J, Hb, rfl, Ib, T, stb, fpb, rest⟩ := hb
  refine PpSet.newSet_ok (newEnv_comp ?_)
  -- the set's place
  obtain ⟨D, hD⟩ : ∃ D, D = sb.heap.objs.size := ⟨_, rfl⟩
  have dNew : Hb D = none := Ib.hok.fresh (Nat.le_of_eq hD.symm)
  obtain ⟨W, ⟨m0, w0⟩, turn⟩ := rest D dNew
  obtain ⟨sc, hsc⟩ : ∃ sc : Shared, sc = { sb with heap := sb.heap.push { cls := .type "set", dict := none, data := .set #[] 0 (.fresh 0 0 (!X.w.params.followText "set-order")) } } := ⟨_, rfl⟩
  have hch : sc.heap = sb.heap.push { cls := .type "set", dict := none, data := .set #[] 0 (.fresh 0 0 (!X.w.params.followText "set-order")) } := by rw [hsc]
  have Ic : Inv X pins σ (upd Hb D (SetO X.w D (fun _ => false) 0)) sc := by
    rw [hsc, hD]
    exact Ib.laid (t' := sb.toks) (fun b o e => Heap.get?_push_of_some _ e) (Nat.le_refl _) (setO_new (setR_fresh X.w))
  have below : ∀ b ∈ fp, b < sb.heap.objs.size := fun b hb => (T.obj _ _ stb b hb).elim fun o e => Heap.lt_size e.1
  have fpc : ∀ b ∈ fp, FpOk X pins (upd Hb D (SetO X.w D (fun _ => false) 0)) b ∧ b < sc.heap.objs.size := fun b hb => by
    refine ⟨⟨?_, (fpb b hb).2⟩, ?_⟩
    · rw [upd_ne (by rw [hD]; exact Nat.ne_of_lt (below b hb))]
      exact (fpb b hb).1
    · rw [hch, Heap.size_push]
      exact Nat.lt_succ_of_lt (below b hb)
  have stc : tn 0 sc.heap := T.keep _ _ _ stb fun b _ o e => by rw [hch]; exact Heap.get?_push_of_some _ e
  obtain ⟨Hc, hHc⟩ : ∃ Hc, Hc = upd Hb D (SetO X.w D (fun _ => false) 0) := ⟨_, rfl⟩
  rw [← hHc] at Ic w0 fpc
  have Id := block_start Ic ok hN fpc
  have hsD : sb.heap.objs.size = D := hD.symm
  rw [← hsc, hsD]
  show codeAny _ _ (.compStart (.SetComp elt [⟨tg, iter, [], 0⟩] scope pos) 0 (.ref it) (.ref D) (compEnvC scope (cellsFrom (sc.heap.objs.size + 1) scope.names (cloFrom X.env.cells scope.names [])) sc.heap.objs.size X.env))
    (compPost (model X.prog X.w) X.A X.xe none (EP X pins σ Q) (.ref D) sc.heap.objs.size) { sc with heap := pushCells (sc.heap.push { cls := .type "dict", data := .dict #[] }) scope.names }
  obtain ⟨ce, hce⟩ : ∃ ce, ce = compEnvC scope (cellsFrom (sc.heap.objs.size + 1) scope.names (cloFrom X.env.cells scope.names [])) sc.heap.objs.size X.env := ⟨_, rfl⟩
  have tgt := hg sc Hc sc.heap.objs.size (cellsFrom (sc.heap.objs.size + 1) scope.names (cloFrom X.env.cells scope.names [])) fp
  have val := he sc Hc sc.heap.objs.size (cellsFrom (sc.heap.objs.size + 1) scope.names (cloFrom X.env.cells scope.names [])) fp
  have cL : ce.locals = sc.heap.objs.size := by rw [hce]; rfl
  rw [← hce] at Id tgt val ⊢
  obtain ⟨sd, hsd⟩ : ∃ sd : Shared, sd = { sc with heap := pushCells (sc.heap.push { cls := .type "dict", data := .dict #[] }) scope.names } := ⟨_, rfl⟩
  rw [← hsd] at Id ⊢
  have std : tn 0 sd.heap := T.keep _ _ _ stc fun b _ o e => by rw [hsd]; exact pushCells_keeps _ _ _ _ (Heap.get?_push_of_some _ e)
  have still : ∀ {σ' : L2.St} {H' : Hp} {s' : Shared}, Inv (X.blk sc Hc scope ce fp) [] σ' H' s' → (∀ b ∈ fp, H' b = none) → ∀ b ∈ fp, FpOk (X.blk sc Hc scope ce fp) [] H' b := fun {σ' H' s'} I' hn b hb =>
    ⟨hn b hb, (I'.ok.exf b hb).1, I'.ok.exfs b hb, .inl hb, fun x c e => (I'.ok.exf b hb).2 x c e, fun p hp => absurd (show p ∈ ([] : List (Addr × Obj)) ++ [] from hp) (by simp)⟩
  have goal : codeAny (model X.prog X.w) X.A (.compLoop (.SetComp elt [⟨tg, iter, [], 0⟩] scope pos) 0 (.ref it) (.ref D) ce) (compPost (model X.prog X.w) X.A X.xe none (EP X pins σ Q) (.ref D) sc.heap.objs.size) sd := by
    refine PpSet.compLoopS_any (fun n s' => ∃ i H', Inv (X.blk sc Hc scope ce fp) [] (wipe σ (own.map (·.2))) H' s' ∧ tn i s'.heap ∧ (∀ b ∈ fp, H' b = none) ∧ W i n H') ?_ m0
      ⟨0, Hc, Id, std, fun b hb => (fpc b hb).1.1, w0⟩
    rintro n s1 ⟨i, H1, I1, st1, n1, w1⟩
    rcases turn i n H1 w1 with ⟨stop, fin⟩ | ⟨go, Nx, hNx, step⟩
    · refine thnF (T.done (X.blk sc Hc scope ce fp) rfl rfl rfl hc i [] s1 _ H1 (fun _ _ => False) I1 (still I1 n1) st1 stop) fun r s2 ⟨hr, I2⟩ => ?_
      subst hr
      have back : Inv X pins σ H1 s2 := Ic.call' (ch := fp) I2.os I2.base I2.hok I2.bare fun b hb => ⟨(fpc b hb).1.2.2.2.1, (fpc b hb).1.2.1, (fpc b hb).1.2.2.2.2.1, (fpc b hb).1.2.2.2.2.2⟩
      have nC : H1 sc.heap.objs.size = none := by
        have z : H1 ce.locals = none := I2.free
        rwa [cL] at z
      obtain ⟨mm, hns, _⟩ := I2.loc
      have hns : s2.heap.Ns ce.locals mm := hns
      rw [cL] at hns
      refine ⟨mm, hns, fun h'' sbt => ?_⟩
      obtain ⟨f0, f1, f2, f3, f4, f5⟩ := Ic.fpOk (Nat.le_refl _) nC
      exact ⟨.ref D, H1, back.turned (t' := s2.toks) (fun b o hb e => (sbt.2 b hb).trans e) f0 f1 f3 f4 f5, rfl, fin⟩
    · refine thnF (T.item (X.blk sc Hc scope ce fp) rfl rfl rfl hc i [] s1 _ H1 (fun _ _ => False) I1 (still I1 n1) st1 go) fun r s2 ⟨u, hr, h2⟩ => ?_
      subst hr
      refine thnF h2 fun _ s3 ⟨x, H3, I3, r3, y3, st3, n3⟩ => ?_
      have I3p := I3.pinned (still I3 n3) (T.obj _ _ st3)
      refine thnF (tgt.run _ s3 _ H3 x u _ I3p r3 (step x H3 y3)) fun _ s4 ⟨σ4, H4, I4, hw4, q4⟩ => ?_
      refine wpAny_tests_nil ?_
      rw [if_pos rfl]
      refine thnF (val.run _ s4 σ4 H4 _ I4 q4) fun z s5 ⟨yv, H5, I5, r5, k, S0, n0, ey, hD5, room, nx⟩ => ?_
      subst ey
      obtain ⟨t, rfl⟩ := r5
      refine put_setO (X := X.blk sc Hc scope ce fp) I5 hD5 room fun s6 I6 => ?_
      obtain ⟨m', hm, w'⟩ := hNx _ nx
      have pinned : ∀ b ∈ fp, ∀ o, s3.heap.get? b = some o → s6.heap.get? b = some o ∧ (upd H5 D (SetO X.w D (fun j => S0 j || decide (j = k)) (if S0 k = true then n0 else n0 + 1))) b = none := fun b hb o e => by
        have z := I6.pin (b, o) (List.mem_append_right _ (List.mem_append_right _ (mem_pinsAt hb e)))
        exact ⟨z.1, z.2.1⟩
      have hl : (wipe σ (own.map (·.2))).length = σ4.length := by rw [← hw4, wipe_length]
      refine ⟨m', hm, i + 1, _, (I6.unpinned (pins := [])).weak hl (fun j v e => ?_), T.keep _ _ _ st3 fun b hb o e => (pinned b hb o e).1, fun b hb => ?_, w'⟩
      · rw [← hw4] at e
        exact (wipe_some e).1
      · obtain ⟨o, e, _⟩ := T.obj _ _ st3 b hb
        exact (pinned b hb o e).2
  exact PpSet.codeAny_compStart_set goal (T.self X.A 0 _ _ _ std goal)
end
end A80
end
section
set_option Elab.async false
set_option maxRecDepth 100000
set_option maxHeartbeats 4000000
namespace A80
open PySem L2 TL NumText
/-! ### whole numbers as signs -/
theorem snocInd {α : Type} {P : List α → Prop} (nil : P []) (snoc : ∀ p c, P p → P (p ++ [c])) (l : List α) : P l := by
  have h : ∀ n (l : List α), l.length = n → P l := by
    intro n
    induction n with
    | zero =>
      intro l hl
      rw [List.length_eq_zero_iff.mp hl]
      exact nil
    | succ n ih =>
      intro l hl
      have hne : l ≠ [] := fun e => by rw [e] at hl; cases hl
      rw [← List.dropLast_concat_getLast hne]
      exact snoc _ _ (ih _ (by rw [List.length_dropLast, hl]; rfl))
  exact h _ l rfl
def isDig (c : Nat) : Bool := decide (48 ≤ c) && decide (c ≤ 57)
theorem isDig_iff {c : Nat} : isDig c = true ↔ 48 ≤ c ∧ c ≤ 57 := by
  unfold isDig
  rw [Bool.and_eq_true, decide_eq_true_eq, decide_eq_true_eq]
def showI (n : Int) : List Nat := if n < 0 then 45 :: numL n.natAbs else numL n.natAbs
def okI (n : Int) : Prop := (numL n.natAbs).length ≤ 60
def bodyI (t : List Nat) : List Nat := if t.take 1 = [45] then t.drop 1 else t
def valI (t : List Nat) : Int := if t.take 1 = [45] then -((digitsVal (bodyI t) : Nat) : Int) else ((digitsVal (bodyI t) : Nat) : Int)
def readI (t : List Nat) : Option Int :=
  if bodyI t = [] ∨ 60 < (bodyI t).length then none
  else if (bodyI t).all isDig = false then none
  else if (bodyI t).take 1 = [48] ∧ t ≠ [48] then none
  else some (valI t)
theorem digitsVal_snoc (l : List Nat) (c : Nat) : digitsVal (l ++ [c]) = digitsVal l * 10 + (c - 48) := by
  unfold digitsVal
  rw [List.foldl_append]
  rfl
theorem digitsVal_pos : ∀ {l : List Nat}, AllDigits l → l ≠ [] → l.take 1 ≠ [48] → 1 ≤ digitsVal l := by
  intro l
  induction l using snocInd with
  | nil => intro _ h _; exact absurd rfl h
  | snoc p c ih =>
    intro hd _ h48
    rw [digitsVal_snoc]
    cases p with
    | nil =>
      have := hd c (by simp)
      have hc : c ≠ 48 := fun e => h48 (by rw [e]; rfl)
      show 1 ≤ digitsVal [] * 10 + (c - 48)
      omega
    | cons a p =>
      have := ih (fun x hx => hd x (List.mem_append_left _ hx)) (by simp) (by simpa using h48)
      omega
theorem numL_back : ∀ {l : List Nat}, AllDigits l → l ≠ [] → (l.take 1 ≠ [48] ∨ l = [48]) → numL (digitsVal l) = l := by
  intro l
  induction l using snocInd with
  | nil => intro _ h _; exact absurd rfl h
  | snoc p c ih =>
    intro hd _ h48
    have hc := hd c (by simp)
    rw [digitsVal_snoc]
    cases p with
    | nil =>
      show numL (0 * 10 + (c - 48)) = [c]
      rw [numL_lt (by omega)]
      congr 1
      omega
    | cons a p =>
      have hp : AllDigits (a :: p) := fun x hx => hd x (List.mem_append_left _ hx)
      have h1 : (a :: p).take 1 ≠ [48] := by
        rcases h48 with h | h
        · simpa using h
        · have := congrArg List.length h
          simp at this
      have hpos := digitsVal_pos hp (by simp) h1
      have e := ih hp (by simp) (.inl h1)
      rw [numL_step (by omega)]
      have e1 : (digitsVal (a :: p) * 10 + (c - 48)) / 10 = digitsVal (a :: p) := by omega
      have e2 : 48 + (digitsVal (a :: p) * 10 + (c - 48)) % 10 = c := by omega
      rw [e1, e2, e]
theorem numL_head (n : Nat) : (numL n).take 1 = [48] → n = 0 := by
  intro h
  have h1 := numL_val n
  by_cases h0 : n = 0
  · exact h0
  · exfalso
    -- a number that is not 0 has no leading 0
    have key : ∀ k : Nat, 0 < k → (numL k).take 1 ≠ [48] := by
      intro k
      induction k using Nat.strongRecOn with
      | ind k ih =>
        intro hk
        by_cases hlt : k < 10
        · rw [numL_lt hlt]
          intro q
          have : 48 + k = 48 := by simpa using q
          omega
        · rw [numL_step (by omega)]
          have := ih (k / 10) (by omega) (by omega)
          have hne := numL_ne (k / 10)
          cases e : numL (k / 10) with
          | nil => exact absurd e hne
          | cons a r =>
            rw [e] at this
            simpa using this
    exact key n (by omega) h
theorem dig_ne45 {l : List Nat} (h : AllDigits l) : l.take 1 ≠ [45] := by
  cases l with
  | nil => simp
  | cons a r =>
    intro q
    have := h a (by simp)
    have : a = 45 := by simpa using q
    omega
theorem all_isDig {l : List Nat} : l.all isDig = true ↔ AllDigits l := by
  rw [List.all_eq_true]
  exact ⟨fun h c hc => isDig_iff.mp (h c hc), fun h c hc => isDig_iff.mpr (h c hc)⟩
theorem showI_take (n : Int) : ((showI n).take 1 = [45]) ↔ n < 0 := by
  unfold showI
  by_cases h : n < 0
  · rw [if_pos h]
    simp [h]
  · rw [if_neg h]
    exact ⟨fun q => absurd q (dig_ne45 (numL_digits _)), fun q => absurd q h⟩
theorem body_showI (n : Int) : bodyI (showI n) = numL n.natAbs := by
  unfold bodyI
  by_cases h : n < 0
  · rw [if_pos ((showI_take n).mpr h)]
    unfold showI
    rw [if_pos h]
    rfl
  · rw [if_neg (fun q => h ((showI_take n).mp q))]
    unfold showI
    rw [if_neg h]
theorem val_showI (n : Int) : valI (showI n) = n := by
  unfold valI
  rw [body_showI, numL_val]
  by_cases h : n < 0
  · rw [if_pos ((showI_take n).mpr h)]
    omega
  · rw [if_neg (fun q => h ((showI_take n).mp q))]
    omega
theorem readI_show {n : Int} (h : okI n) : readI (showI n) = some n := by
  unfold readI
  rw [body_showI, if_neg (fun q => q.elim (numL_ne _) (Nat.not_lt.mpr h)), if_neg (by rw [all_isDig.mpr (numL_digits _)]; decide), if_neg, val_showI]
  rintro ⟨h1, h2⟩
  have h0 := numL_head _ h1
  have : n = 0 := by omega
  subst this
  exact h2 (by decide)
theorem show_readI {t : List Nat} {n : Int} (h : readI t = some n) : t = showI n ∧ okI n := by
  unfold readI at h
  by_cases h1 : bodyI t = [] ∨ 60 < (bodyI t).length
  · rw [if_pos h1] at h; cases h
  · rw [if_neg h1] at h
    by_cases h2 : (bodyI t).all isDig = false
    · rw [if_pos h2] at h; cases h
    · rw [if_neg h2] at h
      by_cases h3 : (bodyI t).take 1 = [48] ∧ t ≠ [48]
      · rw [if_pos h3] at h; cases h
      · rw [if_neg h3] at h
        have e := Option.some.inj h
        have hd : AllDigits (bodyI t) := all_isDig.mp (by simpa using h2)
        have hne : bodyI t ≠ [] := fun q => h1 (.inl q)
        have hlen : (bodyI t).length ≤ 60 := Nat.not_lt.mp fun q => h1 (.inr q)
        have hb : numL (digitsVal (bodyI t)) = bodyI t := by
          refine numL_back hd hne ?_
          by_cases q : (bodyI t).take 1 = [48]
          · right
            have ht : t = [48] := Classical.byContradiction fun z => h3 ⟨q, z⟩
            rw [ht]; rfl
          · exact .inl q
        unfold valI at e
        by_cases h4 : t.take 1 = [45]
        · rw [if_pos h4] at e
          have hbt : t = 45 :: bodyI t := by
            unfold bodyI
            rw [if_pos h4]
            cases t with
            | nil => simp at h4
            | cons a r =>
              have : a = 45 := by simpa using h4
              subst this
              rfl
          have hpos : 1 ≤ digitsVal (bodyI t) := by
            refine digitsVal_pos hd hne fun q => h3 ⟨q, fun z => ?_⟩
            rw [z] at h4
            simp at h4
          have hn : n.natAbs = digitsVal (bodyI t) := by omega
          constructor
          · unfold showI
            rw [if_pos (by omega), hn, hb]
            exact hbt
          · unfold okI
            rw [hn, hb]
            exact hlen
        · rw [if_neg h4] at e
          have hbt : bodyI t = t := by unfold bodyI; rw [if_neg h4]
          have hn : n.natAbs = digitsVal (bodyI t) := by omega
          constructor
          · unfold showI
            rw [if_neg (by omega), hn, hb, hbt]
          · unfold okI
            rw [hn, hb]
            exact hlen
theorem readI_iff {t : List Nat} {n : Int} : readI t = some n ↔ t = showI n ∧ okI n :=
  ⟨show_readI, fun h => by rw [h.1]; exact readI_show h.2⟩
theorem showI_inj {m n : Int} (h : showI m = showI n) : m = n := by
  rw [← val_showI m, ← val_showI n, h]
theorem showI_ne (n : Int) : showI n ≠ [] := by
  unfold showI
  by_cases h : n < 0
  · rw [if_pos h]; simp
  · rw [if_neg h]; exact numL_ne _
theorem showI_signs {n : Int} {c : Nat} (h : c ∈ showI n) : c = 45 ∨ (48 ≤ c ∧ c ≤ 57) := by
  unfold showI at h
  by_cases hn : n < 0
  · rw [if_pos hn] at h
    rcases List.mem_cons.mp h with e | e
    · exact .inl e
    · exact .inr (numL_digits _ c e)
  · rw [if_neg hn] at h
    exact .inr (numL_digits _ c h)
theorem showI_free {n : Int} {c : Nat} (h : c ≠ 45) (h2 : c < 48 ∨ 57 < c) : c ∉ showI n := fun q => by
  rcases showI_signs q with e | e
  · exact h e
  · omega
/-- the model's text of a number -/
theorem tl_showI (n : Int) : tl (Str.ofString (toString n)) = showI n := by
  unfold showI
  by_cases h : n < 0
  · rw [if_pos h]
    obtain ⟨k, rfl⟩ := Int.eq_negSucc_of_lt_zero h
    rw [tl_ofString]
    have e : toString (Int.negSucc k) = "-" ++ toString (k + 1) := rfl
    rw [e, String.toList_append, List.map_append]
    have e2 := tl_num (k + 1)
    rw [tl_ofString] at e2
    have e3 : toString (((k + 1 : Nat)) : Int) = toString (k + 1) := rfl
    rw [e3] at e2
    rw [e2]
    rfl
  · rw [if_neg h]
    have e : ((n.natAbs : Nat) : Int) = n := by omega
    have e2 := tl_num n.natAbs
    rw [e] at e2
    exact e2
theorem okI_of {n : Int} (h : n.natAbs < 10 ^ 60) : okI n := numL_len (by decide) h
theorem okI_lt {n : Int} (h : okI n) : n.natAbs < 10 ^ 60 := by
  have h1 : ∀ l : List Nat, AllDigits l → digitsVal l < 10 ^ l.length := by
    intro l
    induction l using snocInd with
    | nil => intro _; decide
    | snoc p c ih =>
      intro hd
      have hc := hd c (by simp)
      have := ih fun x hx => hd x (List.mem_append_left _ hx)
      rw [digitsVal_snoc, List.length_append, List.length_singleton, Nat.pow_succ]
      omega
  have h2 := h1 _ (numL_digits n.natAbs)
  rw [numL_val] at h2
  exact Nat.lt_of_lt_of_le h2 (Nat.pow_le_pow_right (by decide) h)
theorem okI_log {n : Int} (h : okI n) : n.natAbs.log2 < 1920 := by
  have h1 := okI_lt h
  by_cases h0 : n.natAbs = 0
  · rw [h0]; decide
  · have h2 : n.natAbs.log2 < 200 := (Nat.log2_lt h0).mpr (Nat.lt_of_lt_of_le h1 (by decide))
    omega
/-- int(text), where the text can be read -/
theorem intText_read {x : Str} {n : Int} (h : readI (tl x) = some n) : intText? x = some n := by
  obtain ⟨ht, hok⟩ := show_readI h
  have hd := numL_digits n.natAbs
  have hl : x.length ≤ 4300 := by
    rw [len_tl, ht]
    unfold showI
    unfold okI at hok
    split
    · rw [List.length_cons]; omega
    · omega
  unfold showI at ht
  by_cases hn : n < 0
  · rw [if_pos hn] at ht
    rw [intText_neg ht hd (numL_ne _) hl, numL_val]
    congr 1
    omega
  · rw [if_neg hn] at ht
    have hd' : AllDigits x.cps.toList := by rw [show x.cps.toList = numL n.natAbs from ht]; exact hd
    rw [intText_digits hd' (by rw [show x.cps.toList = numL n.natAbs from ht]; exact numL_ne _) hl, show x.cps.toList = numL n.natAbs from ht, numL_val]
    congr 1
    omega
theorem showI_len {n : Int} (h : okI n) : (showI n).length ≤ 61 := by
  unfold showI
  unfold okI at h
  split
  · rw [List.length_cons]; omega
  · omega
end A80
end
section
set_option Elab.async false
set_option maxRecDepth 100000
set_option maxHeartbeats 4000000
namespace A80
open PySem L2 TL NumText
/-! ### cut at the first sign c -/
def bef (c : Nat) (t : List Nat) : List Nat := t.takeWhile fun d => decide (d ≠ c)
def aft (c : Nat) (t : List Nat) : List Nat := (t.dropWhile fun d => decide (d ≠ c)).drop 1
theorem bef_free (c : Nat) (t : List Nat) : c ∉ bef c t := fun h => by
  have := List.all_takeWhile (p := fun d => decide (d ≠ c)) (l := t)
  rw [List.all_eq_true] at this
  have := this c h
  simp at this
theorem bef_aft {c : Nat} {t : List Nat} (h : c ∈ t) : t = bef c t ++ c :: aft c t := by
  induction t with
  | nil => simp at h
  | cons d r ih =>
    unfold bef aft
    by_cases e : d = c
    · subst e
      simp
    · have hr : c ∈ r := by
        rcases List.mem_cons.mp h with q | q
        · exact absurd q.symm e
        · exact q
      have := ih hr
      unfold bef aft at this
      simp only [ne_eq, e, not_false_eq_true, decide_true, List.takeWhile_cons_of_pos, List.dropWhile_cons_of_pos, List.cons_append]
      rw [← this]
theorem bef_of {c : Nat} {a b : List Nat} (h : c ∉ a) : bef c (a ++ c :: b) = a := by
  unfold bef
  induction a with
  | nil => simp
  | cons d r ih =>
    have hd : d ≠ c := fun e => h (by rw [e]; exact List.mem_cons_self)
    simp only [List.cons_append, ne_eq, hd, not_false_eq_true, decide_true, List.takeWhile_cons_of_pos]
    rw [ih fun q => h (List.mem_cons_of_mem _ q)]
theorem aft_of {c : Nat} {a b : List Nat} (h : c ∉ a) : aft c (a ++ c :: b) = b := by
  unfold aft
  induction a with
  | nil => simp
  | cons d r ih =>
    have hd : d ≠ c := fun e => h (by rw [e]; exact List.mem_cons_self)
    simp only [List.cons_append, ne_eq, hd, not_false_eq_true, decide_true, List.dropWhile_cons_of_pos]
    exact ih fun q => h (List.mem_cons_of_mem _ q)
theorem bef_none {c : Nat} {t : List Nat} (h : c ∉ t) : bef c t = t := by
  unfold bef
  induction t with
  | nil => rfl
  | cons d r ih =>
    have hd : d ≠ c := fun e => h (by rw [e]; exact List.mem_cons_self)
    simp only [ne_eq, hd, not_false_eq_true, decide_true, List.takeWhile_cons_of_pos]
    rw [ih fun q => h (List.mem_cons_of_mem _ q)]
theorem aft_none {c : Nat} {t : List Nat} (h : c ∉ t) : aft c t = [] := by
  unfold aft
  induction t with
  | nil => rfl
  | cons d r ih =>
    have hd : d ≠ c := fun e => h (by rw [e]; exact List.mem_cons_self)
    simp only [ne_eq, hd, not_false_eq_true, decide_true, List.dropWhile_cons_of_pos]
    exact ih fun q => h (List.mem_cons_of_mem _ q)
theorem mem_of_aft {c : Nat} {t : List Nat} (h : aft c t ≠ []) : c ∈ t := Classical.byContradiction fun q => h (aft_none q)
/-- partition by one sign -/
theorem partition1 (x y : Str) {c : Nat} (hy : tl y = [c]) :
    Txt.partition x y = (if c ∈ tl x then (⟨(bef c (tl x)).toArray⟩, y, ⟨(aft c (tl x)).toArray⟩) else (x, Str.empty, Str.empty)) := by
  by_cases h : c ∈ tl x
  · rw [if_pos h, partition_par x y (by rw [hy]; simp), hy]
    have e := bef_aft h
    have e2 : par [c] [] (tl x) = some (bef c (tl x), aft c (tl x)) := by
      have := par_part1 (S := []) (acc := []) (rest := aft c (tl x)) (bef_free c (tl x))
      rw [List.nil_append] at this
      rw [← this]
      congr 1
    rw [e2]
  · rw [if_neg h, partition_none hy h]
theorem part_tl (x y : Str) {c : Nat} (hy : tl y = [c]) : tl (Txt.partition x y).1 = bef c (tl x) ∧ ((Txt.partition x y).2.1 = y ∨ (Txt.partition x y).2.1 = Str.empty) ∧
    ((Txt.partition x y).2.1 = Str.empty ↔ c ∉ tl x) ∧ tl (Txt.partition x y).2.2 = aft c (tl x) := by
  rw [partition1 x y hy]
  by_cases h : c ∈ tl x
  · rw [if_pos h]
    refine ⟨rfl, .inl rfl, ⟨fun q => ?_, fun q => absurd h q⟩, rfl⟩
    have : tl y = [] := by rw [show y = Str.empty from q]; rfl
    rw [hy] at this
    cases this
  · rw [if_neg h]
    exact ⟨(bef_none h).symm, .inr rfl, ⟨fun _ => h, fun _ => rfl⟩, (aft_none h).symm⟩
/-! ### split and joined -/
theorem spl_ne (S : List Nat) : ∀ (k : Nat) (acc l : List Nat), spl S k acc l ≠ []
  | k, acc, [] => by rw [spl_nil]; simp
  | 0, acc, c :: r => by
    cases h : pre S (c :: r) with
    | true => rw [spl_hit h]; simp
    | false => rw [spl_miss h]; exact spl_ne S 0 _ r
  | k + 1, acc, c :: r => by
    show spl S k acc r ≠ []
    exact spl_ne S k acc r
theorem joinL_cons {S p : List Nat} {l : List (List Nat)} (h : l ≠ []) : joinL S (p :: l) = p ++ (S ++ joinL S l) := by
  cases l with
  | nil => exact absurd rfl h
  | cons q r => rfl
/-- what was split, joined again -/
theorem join_spl {S : List Nat} (hS : S ≠ []) : ∀ (n : Nat) (l acc : List Nat), l.length ≤ n → joinL S (spl S 0 acc l) = acc ++ l := by
  intro n
  induction n with
  | zero =>
    intro l acc h
    have : l = [] := List.length_eq_zero_iff.mp (by omega)
    subst this
    rw [spl_nil, List.append_nil]
    rfl
  | succ n ih =>
    intro l acc h
    cases l with
    | nil =>
      rw [spl_nil, List.append_nil]
      rfl
    | cons c r =>
      rw [List.length_cons] at h
      cases hp : pre S (c :: r) with
      | false =>
        rw [spl_miss hp, ih r _ (by omega), List.append_assoc]
        rfl
      | true =>
        have e : (c :: r).take S.length = S := eq_of_beq hp
        rw [spl_hit hp, joinL_cons (spl_ne _ _ _ _), spl_pass]
        cases S with
        | nil => exact absurd rfl hS
        | cons s S =>
          rw [ih _ _ (by rw [List.length_drop]; omega), List.nil_append]
          have e2 : (c :: r).drop (s :: S).length = r.drop ((s :: S).length - 1) := by
            rw [List.length_cons, List.drop_succ_cons]; rfl
          have e3 : (s :: S) ++ (c :: r).drop (s :: S).length = c :: r := by
            conv => rhs; rw [← List.take_append_drop (s :: S).length (c :: r), e]
          rw [← e2, e3]
theorem join_spl0 {S : List Nat} (hS : S ≠ []) (t : List Nat) : joinL S (spl S 0 [] t) = t := by
  rw [join_spl hS t.length t [] (Nat.le_refl _), List.nil_append]
/-- the sum of the lengths of the parts -/
theorem joinL_len (S : List Nat) : ∀ {l : List (List Nat)}, l ≠ [] → (joinL S l).length + S.length = (l.map fun p => p.length + S.length).sum
  | [], h => absurd rfl h
  | [p], _ => by simp [joinL]
  | p :: q :: r, _ => by
    have ih := joinL_len S (l := q :: r) (by simp)
    rw [joinL_cons (by simp), List.map_cons, List.sum_cons, ← ih, List.length_append, List.length_append]
    omega
theorem joinL_append {S : List Nat} : ∀ {a b : List (List Nat)}, a ≠ [] → b ≠ [] → joinL S (a ++ b) = joinL S a ++ (S ++ joinL S b)
  | [], _, h, _ => absurd rfl h
  | [p], b, _, hb => joinL_cons hb
  | p :: q :: r, b, _, hb => by
    have ih := joinL_append (S := S) (a := q :: r) (b := b) (by simp) hb
    have e1 : joinL S (p :: q :: r ++ b) = p ++ (S ++ joinL S (q :: r ++ b)) := rfl
    have e2 : joinL S (p :: q :: r) = p ++ (S ++ joinL S (q :: r)) := rfl
    rw [e1, e2, ih, List.append_assoc, List.append_assoc]
/-- a text of parts, each of which is a thing's text -/
theorem mapM_split {α : Type} {s : Nat} {S : List Nat} {f : List Nat → Option α} {g : α → List Nat} {ok : α → Prop} (hf : ∀ t e, f t = some e ↔ t = g e ∧ ok e) (hg : ∀ e, ok e → s ∉ g e) {t : List Nat} {es : List α} :
    (spl (s :: S) 0 [] t).mapM f = some es ↔ t = joinL (s :: S) (es.map g) ∧ es ≠ [] ∧ ∀ e ∈ es, ok e := by
  have hm : ∀ (l : List (List Nat)) (es : List α), l.mapM f = some es ↔ l = es.map g ∧ ∀ e ∈ es, ok e := by
    intro l
    induction l with
    | nil =>
      intro es
      rw [List.mapM_nil]
      constructor
      · intro h
        cases h
        exact ⟨rfl, fun e he => by simp at he⟩
      · rintro ⟨h, _⟩
        have : es = [] := List.map_eq_nil_iff.mp h.symm
        subst this
        rfl
    | cons p l ih =>
      intro es
      rw [List.mapM_cons]
      constructor
      · intro h
        cases hp : f p with
        | none => rw [hp] at h; cases h
        | some e =>
          rw [hp] at h
          cases hl : l.mapM f with
          | none => rw [hl] at h; cases h
          | some es' =>
            rw [hl] at h
            have h : some (e :: es') = some es := h
            cases h
            obtain ⟨h1, h2⟩ := (hf p e).mp hp
            obtain ⟨h3, h4⟩ := (ih es').mp hl
            refine ⟨by rw [List.map_cons, ← h1, ← h3], fun x hx => ?_⟩
            rcases List.mem_cons.mp hx with q | q
            · rw [q]; exact h2
            · exact h4 x q
      · rintro ⟨h1, h2⟩
        cases es with
        | nil => cases h1
        | cons e es' =>
          rw [List.map_cons] at h1
          injection h1 with h3 h4
          rw [(hf p e).mpr ⟨h3, h2 e List.mem_cons_self⟩, (ih es').mpr ⟨h4, fun x hx => h2 x (List.mem_cons_of_mem _ hx)⟩]
          rfl
  rw [hm]
  constructor
  · rintro ⟨h1, h2⟩
    refine ⟨?_, fun q => ?_, h2⟩
    · rw [← h1, join_spl0 (by simp)]
    · rw [q] at h1
      exact spl_ne _ _ _ _ h1
  · rintro ⟨h1, h2, h3⟩
    refine ⟨?_, h3⟩
    rw [h1]
    refine spl_join (fun q => h2 (List.map_eq_nil_iff.mp q)) fun p hp => ?_
    obtain ⟨e, he, rfl⟩ := List.mem_map.mp hp
    exact hg e (h3 e he)
/-! ### cells and rows -/
abbrev Row := List (Int × Int)
def showC (p : Int × Int) : List Nat := showI p.1 ++ 58 :: showI p.2
def readC (t : List Nat) : Option (Int × Int) :=
  if 58 ∈ t then
    match readI (bef 58 t), readI (aft 58 t) with
    | some p, some v => some (p, v)
    | _, _ => none
  else none
def okC (p : Int × Int) : Prop := okI p.1 ∧ okI p.2
theorem readC_iff (t : List Nat) (p : Int × Int) : readC t = some p ↔ t = showC p ∧ okC p := by
  unfold readC
  constructor
  · intro h
    by_cases hc : 58 ∈ t
    · rw [if_pos hc] at h
      cases h1 : readI (bef 58 t) with
      | none => rw [h1] at h; cases h
      | some a =>
        cases h2 : readI (aft 58 t) with
        | none => rw [h1, h2] at h; cases h
        | some b =>
          rw [h1, h2] at h
          have h : some (a, b) = some p := h
          cases h
          obtain ⟨e1, o1⟩ := show_readI h1
          obtain ⟨e2, o2⟩ := show_readI h2
          refine ⟨?_, o1, o2⟩
          unfold showC
          rw [← e1, ← e2]
          exact bef_aft hc
    · rw [if_neg hc] at h
      cases h
  · rintro ⟨rfl, o1, o2⟩
    have hf : 58 ∉ showI p.1 := showI_free (by decide) (by decide)
    have hm : 58 ∈ showC p := by unfold showC; simp
    rw [if_pos hm]
    unfold showC
    rw [bef_of hf, aft_of hf, readI_show o1, readI_show o2]
theorem showC_free {p : Int × Int} {c : Nat} (h : c ≠ 45) (h2 : c ≠ 58) (h3 : c < 48 ∨ 57 < c) : c ∉ showC p := by
  unfold showC
  intro q
  rcases List.mem_append.mp q with q | q
  · exact showI_free h h3 q
  · rcases List.mem_cons.mp q with q | q
    · exact h2 q
    · exact showI_free h h3 q
def rowT (row : Row) : List Nat := joinL [44] (row.map showC)
def readCs (t : List Nat) : Option Row := (spl [44] 0 [] t).mapM readC
theorem readCs_iff {t : List Nat} {row : Row} : readCs t = some row ↔ t = rowT row ∧ row ≠ [] ∧ ∀ p ∈ row, okC p :=
  mapM_split readC_iff fun _ _ => showC_free (by decide) (by decide) (by decide)
theorem rowT_ne {row : Row} (h : row ≠ []) : rowT row ≠ [] := by
  cases row with
  | nil => exact absurd rfl h
  | cons p r =>
    intro q
    have : (joinL [44] ((p :: r).map showC)).length = 0 := by
      have e : joinL [44] ((p :: r).map showC) = [] := q
      rw [e]; rfl
    have h1 := joinL_len [44] (l := (p :: r).map showC) (by simp)
    have h2 : (showC p).length ≥ 1 := by unfold showC; rw [List.length_append, List.length_cons]; omega
    rw [this, List.map_cons, List.map_cons, List.sum_cons] at h1
    simp at h1
    omega
theorem rowT_free {row : Row} {c : Nat} (h : c ≠ 45) (h2 : c ≠ 58) (h3 : c < 48 ∨ 57 < c) (h4 : c ≠ 44) : c ∉ rowT row := by
  unfold rowT
  induction row with
  | nil => simp [joinL]
  | cons p r ih =>
    cases r with
    | nil => exact showC_free h h2 h3
    | cons q r =>
      rw [List.map_cons, joinL_cons (by simp)]
      intro m
      rcases List.mem_append.mp m with m | m
      · exact showC_free h h2 h3 m
      · rcases List.mem_append.mp m with m | m
        · exact h4 (List.mem_singleton.mp m)
        · exact ih m
end A80
end
section
set_option Elab.async false
set_option maxRecDepth 100000
set_option maxHeartbeats 4000000
namespace A80
open PySem L2 TL NumText
/-! ### rows in their least form -/
def keepG : Int → Row → Row
  | _, [] => []
  | v, e :: r => if e.2 = v then keepG v r else e :: keepG e.2 r
def leastK (v : Int) : Row → Row
  | [] => [(0, v)]
  | f :: s => (f.1 - 1, v) :: f :: s
def leastS : Row → Row
  | [] => []
  | e :: r => leastK e.2 (keepG e.2 r)
theorem leastS_cons (e : Int × Int) (r : Row) : leastS (e :: r) = leastK e.2 (keepG e.2 r) := rfl
def Asc (row : Row) : Prop := row.Pairwise fun a b => a.1 < b.1
theorem keepG_sub : ∀ (r : Row) (v : Int), (keepG v r).Sublist r
  | [], _ => List.Sublist.refl _
  | e :: r, v => by
    unfold keepG
    by_cases h : e.2 = v
    · rw [if_pos h]
      exact List.Sublist.cons _ (keepG_sub r v)
    · rw [if_neg h]
      exact List.Sublist.cons_cons _ (keepG_sub r e.2)
theorem keepG_idem : ∀ (r : Row) (v : Int), keepG v (keepG v r) = keepG v r
  | [], _ => rfl
  | e :: r, v => by
    by_cases h : e.2 = v
    · have e1 : keepG v (e :: r) = keepG v r := if_pos h
      rw [e1]
      exact keepG_idem r v
    · have e1 : keepG v (e :: r) = e :: keepG e.2 r := if_neg h
      have e2 : keepG v (e :: keepG e.2 r) = e :: keepG e.2 (keepG e.2 r) := if_neg h
      rw [e1, e2, keepG_idem r e.2]
theorem leastS_idem (row : Row) : leastS (leastS row) = leastS row := by
  cases row with
  | nil => rfl
  | cons e r =>
    have h1 := keepG_idem r e.2
    rw [leastS_cons]
    cases h : keepG e.2 r with
    | nil => rfl
    | cons f s =>
      rw [h] at h1
      show leastK e.2 (keepG e.2 (f :: s)) = _
      rw [h1]
theorem leastS_ne {row : Row} (h : row ≠ []) : leastS row ≠ [] := by
  cases row with
  | nil => exact absurd rfl h
  | cons e r =>
    rw [leastS_cons]
    cases keepG e.2 r <;> simp [leastK]
theorem leastS_asc {row : Row} (h : Asc row) : Asc (leastS row) := by
  cases row with
  | nil => exact h
  | cons e r =>
    have h2 : Asc (keepG e.2 r) := (List.pairwise_cons.mp h).2.sublist (keepG_sub r e.2)
    rw [leastS_cons]
    cases hk : keepG e.2 r with
    | nil => exact List.pairwise_singleton _ _
    | cons f s =>
      rw [hk] at h2
      refine List.pairwise_cons.mpr ⟨fun a ha => ?_, h2⟩
      rcases List.mem_cons.mp ha with q | q
      · rw [q]; show f.1 - 1 < f.1; omega
      · have := (List.pairwise_cons.mp h2).1 a q
        show f.1 - 1 < a.1
        omega
theorem leastS_len (row : Row) : (leastS row).length ≤ row.length := by
  cases row with
  | nil => exact Nat.le_refl _
  | cons e r =>
    have h := (keepG_sub r e.2).length_le
    rw [leastS_cons]
    cases hk : keepG e.2 r with
    | nil => simp [leastK]
    | cons f s =>
      rw [hk] at h
      simp only [leastK, List.length_cons] at h ⊢
      omega
/-- what the numbers of a least row are -/
theorem leastS_mem {row : Row} {q : Int × Int} (h : q ∈ leastS row) : (∃ p ∈ row, q.2 = p.2) ∧ (q ∈ row ∨ q.1 = 0 ∨ ∃ p ∈ row, q.1 = p.1 - 1) := by
  cases row with
  | nil => simp [leastS] at h
  | cons e r =>
    rw [leastS_cons] at h
    cases hk : keepG e.2 r with
    | nil =>
      rw [hk] at h
      have : q = (0, e.2) := by simpa [leastK] using h
      subst this
      exact ⟨⟨e, List.mem_cons_self, rfl⟩, .inr (.inl rfl)⟩
    | cons f s =>
      rw [hk] at h
      have hsub : ∀ x ∈ f :: s, x ∈ e :: r := fun x hx => List.mem_cons_of_mem _ ((keepG_sub r e.2).subset (by rw [hk]; exact hx))
      rcases List.mem_cons.mp h with z | z
      · subst z
        exact ⟨⟨e, List.mem_cons_self, rfl⟩, .inr (.inr ⟨f, hsub f List.mem_cons_self, rfl⟩)⟩
      · exact ⟨⟨q, hsub q z, rfl⟩, .inl (hsub q z)⟩
/-- ascending arrangements are one -/
theorem asc_uniq {a b : Row} (ha : Asc a) (hb : Asc b) (h : a.Perm b) : a = b := by
  refine List.Perm.eq_of_pairwise (le := fun x y : Int × Int => x.1 < y.1) (fun x y _ _ h1 h2 => ?_) ha hb h
  omega
def sortA (row : Row) : Row := row.mergeSort fun a b => decide (a.1 ≤ b.1)
theorem sortA_perm (row : Row) : (sortA row).Perm row := List.mergeSort_perm _ _
theorem sortA_asc {row : Row} (h : (row.map (·.1)).Nodup) : Asc (sortA row) := by
  have h1 : (sortA row).Pairwise fun a b => decide (a.1 ≤ b.1) = true :=
    List.pairwise_mergeSort (fun a b c h1 h2 => by rw [decide_eq_true_eq] at *; omega) (fun a b => by rw [Bool.or_eq_true, decide_eq_true_eq, decide_eq_true_eq]; omega) row
  have h2 : ((sortA row).map (·.1)).Nodup := ((sortA_perm row).map _).nodup_iff.mpr h
  have h3 : (sortA row).Pairwise fun a b => a.1 ≠ b.1 := List.pairwise_map.mp h2
  exact (h1.and h3).imp fun {a b} q => by
    have := of_decide_eq_true q.1
    have := q.2
    omega
theorem sortA_eq {row ys : Row} (hp : ys.Perm row) (ha : Asc ys) : sortA row = ys := by
  have hn : (row.map (·.1)).Nodup := by
    have : (ys.map (·.1)).Nodup := List.pairwise_map.mpr (ha.imp fun {a b} h => by omega)
    exact (hp.map _).nodup_iff.mp this
  exact asc_uniq (sortA_asc hn) ha ((sortA_perm row).trans hp.symm)
theorem asc_nodup {row : Row} (ha : Asc row) : (row.map (·.1)).Nodup := List.pairwise_map.mpr (ha.imp fun {a b} h => by omega)
theorem sortA_self {row : Row} (ha : Asc row) : sortA row = row := sortA_eq (List.Perm.refl _) ha
def leastOf (row : Row) : Row := leastS (sortA row)
/-- a row as a text may have it; a row in its least form -/
def rawR (row : Row) : Prop := row ≠ [] ∧ (row.map (·.1)).Nodup ∧ ∀ p ∈ row, okC p
def okR (row : Row) : Prop := row ≠ [] ∧ Asc row ∧ leastS row = row ∧ ∀ p ∈ row, okC p
theorem okR.raw {row : Row} (h : okR row) : rawR row := ⟨h.1, asc_nodup h.2.1, h.2.2.2⟩
theorem leastOf_ok {row : Row} (h : okR row) : leastOf row = row := by
  unfold leastOf
  rw [sortA_self h.2.1, h.2.2.1]
theorem okI_pred {n : Int} (h : n.natAbs < 10 ^ 59) : okI (n - 1) := okI_of (by omega)
end A80
end
section
set_option Elab.async false
set_option maxRecDepth 100000
set_option maxHeartbeats 4000000
namespace A80
open PySem L2 TL NumText
/-! ### pieces of a state's text -/
def isLet (c : Nat) : Bool := decide (97 ≤ c) && decide (c ≤ 122)
theorem isLet_iff {c : Nat} : isLet c = true ↔ 97 ≤ c ∧ c ≤ 122 := by
  unfold isLet
  rw [Bool.and_eq_true, decide_eq_true_eq, decide_eq_true_eq]
def okNm (t : List Nat) : Bool := decide (t ≠ []) && decide (t.length ≤ 6) && t.all isLet
def okN (x : Str) : Prop := okNm (tl x) = true
theorem okNm_iff {t : List Nat} : okNm t = true ↔ t ≠ [] ∧ t.length ≤ 6 ∧ ∀ c ∈ t, 97 ≤ c ∧ c ≤ 122 := by
  unfold okNm
  rw [Bool.and_eq_true, Bool.and_eq_true, decide_eq_true_eq, decide_eq_true_eq, List.all_eq_true, and_assoc]
  exact ⟨fun h => ⟨h.1, h.2.1, fun c hc => isLet_iff.mp (h.2.2 c hc)⟩, fun h => ⟨h.1, h.2.1, fun c hc => isLet_iff.mpr (h.2.2 c hc)⟩⟩
theorem okNm_free {t : List Nat} (h : okNm t = true) {c : Nat} (hc : c < 97) : c ∉ t := fun q => by
  have := (okNm_iff.mp h).2.2 c q
  omega
inductive En where
  | pl (x : Str) (n : Int)
  | va (x : Str) (n : Int)
  | ar (x : Str) (row : Row)
def En.role : En → Nat
  | .pl _ _ => 0
  | .va _ _ => 1
  | .ar _ _ => 2
def En.nm : En → Str
  | .pl x _ => x
  | .va x _ => x
  | .ar x _ => x
def wordL : Nat → List Nat
  | 0 => [112, 108, 97, 99, 101]
  | 1 => [118, 97, 108, 117, 101]
  | _ => [97, 114, 114, 97, 121]
def En.shown : En → List Nat
  | .pl _ n => showI n
  | .va _ n => showI n
  | .ar _ row => rowT row
def showE (e : En) : List Nat := wordL e.role ++ 32 :: (tl e.nm ++ 61 :: e.shown)
/-- what an entry must have so that its text tells it -/
def shE : En → Prop
  | .pl x _ => okN x
  | .va x _ => okN x
  | .ar x row => okN x ∧ row ≠ []
/-- .. with numbers of at most 60 digits, and rows that are r -/
def okEr (r : Row → Prop) : En → Prop
  | .pl x n => okN x ∧ okI n
  | .va x n => okN x ∧ okI n
  | .ar x row => okN x ∧ r row
theorem okEr.sh {r : Row → Prop} (hr : ∀ row, r row → row ≠ []) {e : En} (h : okEr r e) : shE e := by
  cases e with
  | pl x n => exact h.1
  | va x n => exact h.1
  | ar x row => exact ⟨h.1, hr row h.2⟩
theorem okEr.mono {r r' : Row → Prop} (hr : ∀ row, r row → r' row) {e : En} (h : okEr r e) : okEr r' e := by
  cases e with
  | pl x n => exact h
  | va x n => exact h
  | ar x row => exact ⟨h.1, hr row h.2⟩
theorem okEr.nm {r : Row → Prop} {e : En} (h : okEr r e) : okN e.nm := by
  cases e with
  | pl x n => exact h.1
  | va x n => exact h.1
  | ar x row => exact h.1
theorem shE.nm {e : En} (h : shE e) : okN e.nm := by
  cases e with
  | pl x n => exact h
  | va x n => exact h
  | ar x row => exact h.1
theorem word_free (k : Nat) {c : Nat} (h : c < 97) : c ∉ wordL k := by
  match k with
  | 0 => simp [wordL]; omega
  | 1 => simp [wordL]; omega
  | k + 2 => simp [wordL]; omega
theorem shown_ne {e : En} (h : shE e) : e.shown ≠ [] := by
  cases e with
  | pl x n => exact showI_ne n
  | va x n => exact showI_ne n
  | ar x row => exact rowT_ne h.2
theorem showE_parts {e : En} (h : shE e) : bef 32 (showE e) = wordL e.role ∧ bef 61 (aft 32 (showE e)) = tl e.nm ∧ aft 61 (aft 32 (showE e)) = e.shown := by
  unfold showE
  have h1 : 32 ∉ wordL e.role := word_free _ (by decide)
  have h2 : 61 ∉ tl e.nm := okNm_free h.nm (by decide)
  rw [bef_of h1, aft_of h1, bef_of h2, aft_of h2]
  exact ⟨rfl, rfl, rfl⟩
theorem showE_free {e : En} (h : shE e) : 59 ∉ showE e := by
  unfold showE
  intro q
  rcases List.mem_append.mp q with q | q
  · exact word_free _ (by decide) q
  · rcases List.mem_cons.mp q with q | q
    · cases q
    · rcases List.mem_append.mp q with q | q
      · exact okNm_free h.nm (by decide) q
      · rcases List.mem_cons.mp q with q | q
        · cases q
        · cases e with
          | pl x n => exact showI_free (by decide) (by decide) q
          | va x n => exact showI_free (by decide) (by decide) q
          | ar x row => exact rowT_free (by decide) (by decide) (by decide) (by decide) q
/-- a piece read: its row by rd -/
def parseE (rd : List Nat → Option Row) (t : List Nat) : Option En :=
  let x : Str := ⟨(bef 61 (aft 32 t)).toArray⟩
  let sh := aft 61 (aft 32 t)
  if okNm (bef 61 (aft 32 t)) = true then
    if bef 32 t = wordL 0 then (readI sh).map (En.pl x)
    else if bef 32 t = wordL 1 then (readI sh).map (En.va x)
    else if bef 32 t = wordL 2 then (rd sh).map (En.ar x)
    else none
  else none
theorem parseE_iff {rd : List Nat → Option Row} {r : Row → Prop} (hrd : ∀ t row, rd t = some row ↔ t = rowT row ∧ r row) (hne : ∀ row, r row → row ≠ []) (t : List Nat) (e : En) :
    parseE rd t = some e ↔ t = showE e ∧ okEr r e := by
  have whole : ∀ e : En, shE e → bef 32 t = wordL e.role → bef 61 (aft 32 t) = tl e.nm → aft 61 (aft 32 t) = e.shown → t = showE e := by
    intro e hs h1 h2 h3
    have m1 : 61 ∈ aft 32 t := mem_of_aft (by rw [h3]; exact shown_ne hs)
    have m2 : 32 ∈ t := mem_of_aft fun q => by rw [q] at m1; simp at m1
    rw [bef_aft m2, bef_aft m1, h1, h2, h3]
    rfl
  have nmx : ∀ l : List Nat, tl (⟨l.toArray⟩ : Str) = l := fun l => rfl
  constructor
  · intro h
    unfold parseE at h
    by_cases hn : okNm (bef 61 (aft 32 t)) = true
    · simp only [hn, if_true] at h
      by_cases h0 : bef 32 t = wordL 0
      · rw [if_pos h0] at h
        obtain ⟨n, e1, e2⟩ := Option.map_eq_some_iff.mp h
        subst e2
        obtain ⟨e3, e4⟩ := show_readI e1
        exact ⟨whole _ hn h0 rfl e3, hn, e4⟩
      · rw [if_neg h0] at h
        by_cases h1 : bef 32 t = wordL 1
        · rw [if_pos h1] at h
          obtain ⟨n, e1, e2⟩ := Option.map_eq_some_iff.mp h
          subst e2
          obtain ⟨e3, e4⟩ := show_readI e1
          exact ⟨whole _ hn h1 rfl e3, hn, e4⟩
        · rw [if_neg h1] at h
          by_cases h2 : bef 32 t = wordL 2
          · rw [if_pos h2] at h
            obtain ⟨row, e1, e2⟩ := Option.map_eq_some_iff.mp h
            subst e2
            obtain ⟨e3, e4⟩ := (hrd _ _).mp e1
            exact ⟨whole _ ⟨hn, hne _ e4⟩ h2 rfl e3, hn, e4⟩
          · rw [if_neg h2] at h
            cases h
    · rw [if_neg hn] at h
      cases h
  · rintro ⟨rfl, h⟩
    obtain ⟨p1, p2, p3⟩ := showE_parts (h.sh hne)
    unfold parseE
    simp only [p1, p2, p3]
    have hn : okNm (tl e.nm) = true := h.nm
    rw [if_pos hn, mk_tl]
    cases e with
    | pl x n =>
      rw [if_pos (by rfl)]
      show (readI (showI n)).map _ = _
      rw [readI_show h.2]
      rfl
    | va x n =>
      rw [if_neg (show ¬ wordL (En.va x n).role = wordL 0 from (by decide : ¬ wordL 1 = wordL 0)), if_pos (by rfl)]
      show (readI (showI n)).map _ = _
      rw [readI_show h.2]
      rfl
    | ar x row =>
      rw [if_neg (show ¬ wordL (En.ar x row).role = wordL 0 from (by decide : ¬ wordL 2 = wordL 0)), if_neg (show ¬ wordL (En.ar x row).role = wordL 1 from (by decide : ¬ wordL 2 = wordL 1)), if_pos (by rfl)]
      show (rd (rowT row)).map _ = _
      rw [(hrd _ _).mpr ⟨rfl, h.2⟩]
      rfl
/-! ### one text, one thing -/
theorem readC_anyInj {p q : Int × Int} (h : showC p = showC q) : p = q := by
  have hf : ∀ r : Int × Int, 58 ∉ showI r.1 := fun r => showI_free (by decide) (by decide)
  have h1 : bef 58 (showC p) = bef 58 (showC q) := by rw [h]
  have h2 : aft 58 (showC p) = aft 58 (showC q) := by rw [h]
  unfold showC at h1 h2
  rw [bef_of (hf p), bef_of (hf q)] at h1
  rw [aft_of (hf p), aft_of (hf q)] at h2
  exact Prod.ext (showI_inj h1) (showI_inj h2)
theorem map_inj_on {α β : Type} {g : α → β} {ok : α → Prop} (hi : ∀ a b, ok a → ok b → g a = g b → a = b) : ∀ {l m : List α}, (∀ a ∈ l, ok a) → (∀ a ∈ m, ok a) → l.map g = m.map g → l = m
  | [], [], _, _, _ => rfl
  | [], _ :: _, _, _, h => by simp at h
  | _ :: _, [], _, _, h => by simp at h
  | a :: l, b :: m, ha, hb, h => by
    rw [List.map_cons, List.map_cons] at h
    injection h with h1 h2
    rw [hi a b (ha a List.mem_cons_self) (hb b List.mem_cons_self) h1, map_inj_on hi (fun x hx => ha x (List.mem_cons_of_mem _ hx)) (fun x hx => hb x (List.mem_cons_of_mem _ hx)) h2]
theorem rowT_inj {a b : Row} (ha : a ≠ []) (hb : b ≠ []) (h : rowT a = rowT b) : a = b := by
  have h1 : ∀ r : Row, r ≠ [] → spl [44] 0 [] (rowT r) = r.map showC := fun r hr => by
    refine spl_join (fun q => hr (List.map_eq_nil_iff.mp q)) fun p hp => ?_
    obtain ⟨q, _, rfl⟩ := List.mem_map.mp hp
    exact showC_free (by decide) (by decide) (by decide)
  have h2 : a.map showC = b.map showC := by rw [← h1 a ha, ← h1 b hb, h]
  exact map_inj_on (ok := fun _ => True) (fun x y _ _ q => readC_anyInj q) (fun _ _ => trivial) (fun _ _ => trivial) h2
theorem showE_inj (e f : En) (he : shE e) (hf : shE f) (h : showE e = showE f) : e = f := by
  obtain ⟨a1, a2, a3⟩ := showE_parts he
  obtain ⟨b1, b2, b3⟩ := showE_parts hf
  rw [h] at a1 a2 a3
  have k1 : wordL e.role = wordL f.role := a1.symm.trans b1
  have k2 : e.nm = f.nm := ext_tl (a2.symm.trans b2)
  have k3 : e.shown = f.shown := a3.symm.trans b3
  cases e with
  | pl x n =>
    cases f with
    | pl y m =>
      have : x = y := k2
      rw [this, showI_inj k3]
    | va y m => exact absurd k1 (show ¬ wordL 0 = wordL 1 by decide)
    | ar y m => exact absurd k1 (show ¬ wordL 0 = wordL 2 by decide)
  | va x n =>
    cases f with
    | pl y m => exact absurd k1 (show ¬ wordL 1 = wordL 0 by decide)
    | va y m =>
      have : x = y := k2
      rw [this, showI_inj k3]
    | ar y m => exact absurd k1 (show ¬ wordL 1 = wordL 2 by decide)
  | ar x n =>
    cases f with
    | pl y m => exact absurd k1 (show ¬ wordL 2 = wordL 0 by decide)
    | va y m => exact absurd k1 (show ¬ wordL 2 = wordL 1 by decide)
    | ar y m =>
      have : x = y := k2
      rw [this, rowT_inj he.2 hf.2 k3]
theorem showE_ne (e : En) : showE e ≠ [] := by
  unfold showE
  simp
/-- a text of entries -/
def showS (es : List En) : List Nat := joinL [59, 32] (es.map showE)
theorem spl_showS {es : List En} (hne : es ≠ []) (h : ∀ e ∈ es, shE e) : spl [59, 32] 0 [] (showS es) = es.map showE := by
  refine spl_join (fun q => hne (List.map_eq_nil_iff.mp q)) fun p hp => ?_
  obtain ⟨e, he, rfl⟩ := List.mem_map.mp hp
  exact showE_free (h e he)
theorem showS_nil {es : List En} : showS es = [] ↔ es = [] := by
  constructor
  · intro h
    cases es with
    | nil => rfl
    | cons e r =>
      have h1 := joinL_len [59, 32] (l := (e :: r).map showE) (by simp)
      have h2 : (joinL [59, 32] ((e :: r).map showE)).length = 0 := by
        have q : joinL [59, 32] ((e :: r).map showE) = [] := h
        rw [q]; rfl
      rw [h2, List.map_cons, List.map_cons, List.sum_cons] at h1
      have h3 : (showE e).length ≥ 1 := by
        have := showE_ne e
        cases hs : showE e with
        | nil => exact absurd hs this
        | cons a b => simp
      simp at h1
      omega
  · rintro rfl
    rfl
theorem showS_inj {a b : List En} (ha : ∀ e ∈ a, shE e) (hb : ∀ e ∈ b, shE e) (h : showS a = showS b) : a = b := by
  by_cases h0 : a = []
  · subst h0
    exact (showS_nil.mp (h.symm.trans (showS_nil.mpr rfl))).symm
  · have h1 : b ≠ [] := fun q => h0 (showS_nil.mp (h.trans (showS_nil.mpr q)))
    have h2 : a.map showE = b.map showE := by rw [← spl_showS h0 ha, ← spl_showS h1 hb, h]
    exact map_inj_on (fun x y hx hy q => showE_inj x y hx hy q) ha hb h2
/-! ### the order of the keys -/
def kLt (a b : Nat × List Nat) : Prop := a.1 < b.1 ∨ (a.1 = b.1 ∧ a.2 < b.2)
def En.key (e : En) : Nat × List Nat := (e.role, tl e.nm)
theorem kLt_trans {a b c : Nat × List Nat} (h1 : kLt a b) (h2 : kLt b c) : kLt a c := by
  unfold kLt at *
  rcases h1 with h1 | ⟨h1, h3⟩
  · rcases h2 with h2 | ⟨h2, h4⟩
    · exact .inl (by omega)
    · exact .inl (by omega)
  · rcases h2 with h2 | ⟨h2, h4⟩
    · exact .inl (by omega)
    · exact .inr ⟨by omega, List.lt_trans h3 h4⟩
theorem kLt_irrefl (a : Nat × List Nat) : ¬ kLt a a := fun h => by
  rcases h with h | ⟨_, h⟩
  · omega
  · exact List.lt_irrefl _ h
def WFC (c : List En) : Prop := (∀ e ∈ c, okEr okR e) ∧ c.Pairwise fun a b => kLt a.key b.key
theorem WFC.sh {c : List En} (h : WFC c) : ∀ e ∈ c, shE e := fun e he => (h.1 e he).sh fun _ q => q.1
end A80
end
section
set_option Elab.async false
set_option maxRecDepth 100000
set_option maxHeartbeats 4000000
namespace A80
open PySem L2 TL NumText
/-! ### the two readers of rows -/
def rdRaw (t : List Nat) : Option Row := match readCs t with
  | some row => if (row.map (·.1)).Nodup then some row else none
  | none => none
instance (row : Row) : Decidable (Asc row) := by unfold Asc; infer_instance
def rdL (t : List Nat) : Option Row := match readCs t with
  | some row => if Asc row ∧ leastS row = row then some row else none
  | none => none
theorem rdRaw_iff (t : List Nat) (row : Row) : rdRaw t = some row ↔ t = rowT row ∧ rawR row := by
  unfold rdRaw
  constructor
  · intro h
    cases hc : readCs t with
    | none => rw [hc] at h; cases h
    | some r =>
      rw [hc] at h
      obtain ⟨h1, h2, h3⟩ := readCs_iff.mp hc
      by_cases hn : (r.map (·.1)).Nodup
      · have h : (if (r.map (·.1)).Nodup then some r else none) = some row := h
        rw [if_pos hn] at h
        cases h
        exact ⟨h1, h2, hn, h3⟩
      · have h : (if (r.map (·.1)).Nodup then some r else none) = some row := h
        rw [if_neg hn] at h
        cases h
  · rintro ⟨h1, h2, h3, h4⟩
    rw [readCs_iff.mpr ⟨h1, h2, h4⟩]
    exact if_pos h3
theorem rdL_iff (t : List Nat) (row : Row) : rdL t = some row ↔ t = rowT row ∧ okR row := by
  unfold rdL
  constructor
  · intro h
    cases hc : readCs t with
    | none => rw [hc] at h; cases h
    | some r =>
      rw [hc] at h
      obtain ⟨h1, h2, h3⟩ := readCs_iff.mp hc
      have h : (if Asc r ∧ leastS r = r then some r else none) = some row := h
      by_cases hn : Asc r ∧ leastS r = r
      · rw [if_pos hn] at h
        cases h
        exact ⟨h1, h2, hn.1, hn.2, h3⟩
      · rw [if_neg hn] at h
        cases h
  · rintro ⟨h1, h2, h3, h4, h5⟩
    rw [readCs_iff.mpr ⟨h1, h2, h5⟩]
    exact if_pos ⟨h3, h4⟩
theorem parseRaw (t : List Nat) (e : En) : parseE rdRaw t = some e ↔ t = showE e ∧ okEr rawR e := parseE_iff rdRaw_iff (fun _ h => h.1) t e
theorem parseL (t : List Nat) (e : En) : parseE rdL t = some e ↔ t = showE e ∧ okEr okR e := parseE_iff rdL_iff (fun _ h => h.1) t e
/-! ### lists of names and things -/
abbrev Al (α : Type) := List (Str × α)
section
variable {α : Type}
def putS (l : Al α) (k : Str) (v : α) : Al α :=
  if (l.any fun p => decide (p.1 = k)) = true then l.map (fun p => if p.1 = k then (p.1, v) else p) else l ++ [(k, v)]
theorem putS_new {l : Al α} {k : Str} {v : α} (h : k ∉ l.map (·.1)) : putS l k v = l ++ [(k, v)] := by
  unfold putS
  rw [if_neg]
  intro q
  obtain ⟨p, hp, e⟩ := List.any_eq_true.mp q
  exact h (List.mem_map.mpr ⟨p, hp, of_decide_eq_true e⟩)
theorem putS_keys (l : Al α) (k : Str) (v : α) : (putS l k v).map (·.1) = if k ∈ l.map (·.1) then l.map (·.1) else l.map (·.1) ++ [k] := by
  by_cases h : k ∈ l.map (·.1)
  · rw [if_pos h]
    unfold putS
    obtain ⟨p, hp, e⟩ := List.mem_map.mp h
    rw [if_pos (List.any_eq_true.mpr ⟨p, hp, decide_eq_true e⟩), List.map_map]
    refine List.map_congr_left fun q _ => ?_
    show (if q.1 = k then (q.1, v) else q).1 = q.1
    split <;> rfl
  · rw [if_neg h, putS_new h, List.map_append]
    rfl
theorem putS_nodup {l : Al α} (k : Str) (v : α) (h : (l.map (·.1)).Nodup) : ((putS l k v).map (·.1)).Nodup := by
  rw [putS_keys]
  by_cases hk : k ∈ l.map (·.1)
  · rw [if_pos hk]; exact h
  · rw [if_neg hk]
    refine List.nodup_append.mpr ⟨h, List.pairwise_singleton _ _, fun a ha b hb e => ?_⟩
    rw [List.mem_singleton.mp hb] at e
    exact hk (e ▸ ha)
theorem putS_mem {l : Al α} {k : Str} {v : α} {p : Str × α} (h : p ∈ putS l k v) : p ∈ l ∨ p = (k, v) := by
  unfold putS at h
  by_cases hk : (l.any fun p => decide (p.1 = k)) = true
  · rw [if_pos hk] at h
    obtain ⟨q, hq, e⟩ := List.mem_map.mp h
    by_cases hqk : q.1 = k
    · rw [if_pos hqk, hqk] at e
      exact .inr e.symm
    · rw [if_neg hqk] at e
      exact .inl (e ▸ hq)
  · rw [if_neg hk] at h
    rcases List.mem_append.mp h with h | h
    · exact .inl h
    · exact .inr (List.mem_singleton.mp h)
def AscK (l : Al α) : Prop := l.Pairwise fun a b => tl a.1 < tl b.1
theorem tlt_asymm {a b : List Nat} (h : a < b) : ¬ b < a := fun q => List.lt_irrefl a (List.lt_trans h q)
theorem tl_conn {a b : Str} (h1 : ¬ tl a < tl b) (h2 : ¬ tl b < tl a) : a = b := by
  refine ext_tl ?_
  exact List.le_antisymm (List.not_lt.mp h2) (List.not_lt.mp h1)
theorem AscK.nodup {l : Al α} (h : AscK l) : (l.map (·.1)).Nodup := List.pairwise_map.mpr (h.imp fun {a b} q e => by rw [e] at q; exact List.lt_irrefl _ q)
def sortK (l : Al α) : Al α := l.mergeSort fun a b => decide (¬ tl b.1 < tl a.1)
theorem sortK_perm (l : Al α) : (sortK l).Perm l := List.mergeSort_perm _ _
theorem sortK_asc {l : Al α} (h : (l.map (·.1)).Nodup) : AscK (sortK l) := by
  have h1 : (sortK l).Pairwise fun a b => decide (¬ tl b.1 < tl a.1) = true :=
    List.pairwise_mergeSort (fun a b c h1 h2 => by
        rw [decide_eq_true_eq] at *
        exact List.not_lt.mpr (List.le_trans (List.not_lt.mp h1) (List.not_lt.mp h2)))
      (fun a b => by
        rw [Bool.or_eq_true, decide_eq_true_eq, decide_eq_true_eq]
        by_cases q : tl b.1 < tl a.1
        · exact .inr (tlt_asymm q)
        · exact .inl q) l
  have h2 : ((sortK l).map (·.1)).Nodup := ((sortK_perm l).map _).nodup_iff.mpr h
  have h3 : (sortK l).Pairwise fun a b => a.1 ≠ b.1 := List.pairwise_map.mp h2
  refine (h1.and h3).imp fun {a b} q => ?_
  have q1 := of_decide_eq_true q.1
  exact Classical.byContradiction fun z => q.2 (tl_conn z q1)
theorem ascK_uniq {a b : Al α} (ha : AscK a) (hb : AscK b) (h : a.Perm b) : a = b := by
  refine List.Perm.eq_of_pairwise (le := fun x y : Str × α => tl x.1 < tl y.1) (fun x y _ _ h1 h2 => ?_) ha hb h
  exact absurd h2 (tlt_asymm h1)
theorem sortK_self {l : Al α} (h : AscK l) : sortK l = l := ascK_uniq (sortK_asc h.nodup) h (sortK_perm l)
/-- what sorted(d) gives -/
theorem sorted_keys {l : Al α} (hn : (l.map (·.1)).Nodup) {ys : List Str} (hp : ys.Perm (l.map (·.1))) (hs : ys.Pairwise fun x y => ¬ tl y < tl x) : ys = (sortK l).map (·.1) := by
  have h2 : ys.Nodup := hp.nodup_iff.mpr hn
  have h3 : ys.Pairwise fun x y => tl x < tl y := (hs.and h2).imp fun {a b} q => Classical.byContradiction fun z => q.2 (tl_conn z q.1)
  have h4 : ((sortK l).map (·.1)).Pairwise fun x y => tl x < tl y := List.pairwise_map.mpr (sortK_asc hn)
  refine List.Perm.eq_of_pairwise (le := fun x y : Str => tl x < tl y) (fun x y _ _ h1 h2 => absurd h2 (tlt_asymm h1)) h3 h4 ?_
  exact hp.trans ((sortK_perm l).map _).symm
end
/-! ### the dicts that the pieces fill -/
def plsOf (es : List En) : Al Int := es.filterMap fun | .pl x n => some (x, n) | _ => none
def vasOf (es : List En) : Al Int := es.filterMap fun | .va x n => some (x, n) | _ => none
def arsOf (es : List En) : Al Row := es.filterMap fun | .ar x r => some (x, r) | _ => none
def stP (l : Al Int) : En → Al Int
  | .pl x n => putS l x n
  | _ => l
def stN (l : Al Int) : En → Al Int
  | .va x n => putS l x n
  | _ => l
def stA (l : Al Row) : En → Al Row
  | .ar x r => putS l x r
  | _ => l
def dP (es : List En) : Al Int := es.foldl stP []
def dN (es : List En) : Al Int := es.foldl stN []
def dA (es : List En) : Al Row := es.foldl stA []
theorem dP_snoc (es : List En) (e : En) : dP (es ++ [e]) = stP (dP es) e := by unfold dP; rw [List.foldl_append]; rfl
theorem dN_snoc (es : List En) (e : En) : dN (es ++ [e]) = stN (dN es) e := by unfold dN; rw [List.foldl_append]; rfl
theorem dA_snoc (es : List En) (e : En) : dA (es ++ [e]) = stA (dA es) e := by unfold dA; rw [List.foldl_append]; rfl
theorem plsOf_snoc (es : List En) (e : En) : plsOf (es ++ [e]) = plsOf es ++ plsOf [e] := List.filterMap_append
theorem vasOf_snoc (es : List En) (e : En) : vasOf (es ++ [e]) = vasOf es ++ vasOf [e] := List.filterMap_append
theorem arsOf_snoc (es : List En) (e : En) : arsOf (es ++ [e]) = arsOf es ++ arsOf [e] := List.filterMap_append
theorem pls_mem {es : List En} {p : Str × Int} : p ∈ plsOf es ↔ En.pl p.1 p.2 ∈ es := by
  unfold plsOf
  rw [List.mem_filterMap]
  constructor
  · rintro ⟨e, he, q⟩
    cases e with
    | pl x n => cases q; exact he
    | va x n => cases q
    | ar x n => cases q
  · intro h
    exact ⟨_, h, rfl⟩
theorem vas_mem {es : List En} {p : Str × Int} : p ∈ vasOf es ↔ En.va p.1 p.2 ∈ es := by
  unfold vasOf
  rw [List.mem_filterMap]
  constructor
  · rintro ⟨e, he, q⟩
    cases e with
    | va x n => cases q; exact he
    | pl x n => cases q
    | ar x n => cases q
  · intro h
    exact ⟨_, h, rfl⟩
theorem ars_mem {es : List En} {p : Str × Row} : p ∈ arsOf es ↔ En.ar p.1 p.2 ∈ es := by
  unfold arsOf
  rw [List.mem_filterMap]
  constructor
  · rintro ⟨e, he, q⟩
    cases e with
    | ar x n => cases q; exact he
    | pl x n => cases q
    | va x n => cases q
  · intro h
    exact ⟨_, h, rfl⟩
theorem key_ne {es : List En} {e : En} (h : (es ++ [e]).Pairwise fun a b => kLt a.key b.key) : ∀ a ∈ es, kLt a.key e.key := fun a ha =>
  (List.pairwise_append.mp h).2.2 a ha e (List.mem_singleton.mpr rfl)
theorem d_of_asc : ∀ {es : List En}, es.Pairwise (fun a b => kLt a.key b.key) → dP es = plsOf es ∧ dN es = vasOf es ∧ dA es = arsOf es := by
  intro es
  induction es using snocInd with
  | nil => intro _; exact ⟨rfl, rfl, rfl⟩
  | snoc es e ih =>
    intro h
    obtain ⟨h1, h2, h3⟩ := ih (List.pairwise_append.mp h).1
    have hk := key_ne h
    rw [dP_snoc, dN_snoc, dA_snoc, plsOf_snoc, vasOf_snoc, arsOf_snoc, h1, h2, h3]
    cases e with
    | pl x n =>
      refine ⟨putS_new fun q => ?_, (List.append_nil _).symm, (List.append_nil _).symm⟩
      obtain ⟨p, hp, ep⟩ := List.mem_map.mp q
      have := hk _ (pls_mem.mp hp)
      have e1 : (En.pl p.1 p.2).key = (En.pl x n).key := by show (0, tl p.1) = (0, tl x); rw [ep]
      rw [e1] at this
      exact kLt_irrefl _ this
    | va x n =>
      refine ⟨(List.append_nil _).symm, putS_new fun q => ?_, (List.append_nil _).symm⟩
      obtain ⟨p, hp, ep⟩ := List.mem_map.mp q
      have := hk _ (vas_mem.mp hp)
      have e1 : (En.va p.1 p.2).key = (En.va x n).key := by show (1, tl p.1) = (1, tl x); rw [ep]
      rw [e1] at this
      exact kLt_irrefl _ this
    | ar x n =>
      refine ⟨(List.append_nil _).symm, (List.append_nil _).symm, putS_new fun q => ?_⟩
      obtain ⟨p, hp, ep⟩ := List.mem_map.mp q
      have := hk _ (ars_mem.mp hp)
      have e1 : (En.ar p.1 p.2).key = (En.ar x n).key := by show (2, tl p.1) = (2, tl x); rw [ep]
      rw [e1] at this
      exact kLt_irrefl _ this
/-- the entries of a state -/
def canon (P N : Al Int) (A : Al Row) : List En := (sortK P).map (fun p => En.pl p.1 p.2) ++ (sortK N).map (fun p => En.va p.1 p.2) ++ A.map fun p => En.ar p.1 p.2
theorem pls_canon (P N : Al Int) (A : Al Row) : plsOf (canon P N A) = sortK P ∧ vasOf (canon P N A) = sortK N ∧ arsOf (canon P N A) = A := by
  have nilP : ∀ l : Al Int, (l.map (fun p => En.va p.1 p.2)).filterMap (fun | .pl x n => some (x, n) | _ => none) = ([] : Al Int) := fun l => by
    induction l with
    | nil => rfl
    | cons p l ih => rw [List.map_cons, List.filterMap_cons]; exact ih
  have nilP2 : ∀ l : Al Row, (l.map (fun p => En.ar p.1 p.2)).filterMap (fun | .pl x n => some (x, n) | _ => none) = ([] : Al Int) := fun l => by
    induction l with
    | nil => rfl
    | cons p l ih => rw [List.map_cons, List.filterMap_cons]; exact ih
  have idP : ∀ l : Al Int, (l.map (fun p => En.pl p.1 p.2)).filterMap (fun | .pl x n => some (x, n) | _ => none) = l := fun l => by
    induction l with
    | nil => rfl
    | cons p l ih => rw [List.map_cons, List.filterMap_cons]; show p :: _ = p :: l; rw [ih]
  have nilV : ∀ l : Al Int, (l.map (fun p => En.pl p.1 p.2)).filterMap (fun | .va x n => some (x, n) | _ => none) = ([] : Al Int) := fun l => by
    induction l with
    | nil => rfl
    | cons p l ih => rw [List.map_cons, List.filterMap_cons]; exact ih
  have nilV2 : ∀ l : Al Row, (l.map (fun p => En.ar p.1 p.2)).filterMap (fun | .va x n => some (x, n) | _ => none) = ([] : Al Int) := fun l => by
    induction l with
    | nil => rfl
    | cons p l ih => rw [List.map_cons, List.filterMap_cons]; exact ih
  have idV : ∀ l : Al Int, (l.map (fun p => En.va p.1 p.2)).filterMap (fun | .va x n => some (x, n) | _ => none) = l := fun l => by
    induction l with
    | nil => rfl
    | cons p l ih => rw [List.map_cons, List.filterMap_cons]; show p :: _ = p :: l; rw [ih]
  have nilA : ∀ l : Al Int, (l.map (fun p => En.pl p.1 p.2)).filterMap (fun | .ar x n => some (x, n) | _ => none) = ([] : Al Row) := fun l => by
    induction l with
    | nil => rfl
    | cons p l ih => rw [List.map_cons, List.filterMap_cons]; exact ih
  have nilA2 : ∀ l : Al Int, (l.map (fun p => En.va p.1 p.2)).filterMap (fun | .ar x n => some (x, n) | _ => none) = ([] : Al Row) := fun l => by
    induction l with
    | nil => rfl
    | cons p l ih => rw [List.map_cons, List.filterMap_cons]; exact ih
  have idA : ∀ l : Al Row, (l.map (fun p => En.ar p.1 p.2)).filterMap (fun | .ar x n => some (x, n) | _ => none) = l := fun l => by
    induction l with
    | nil => rfl
    | cons p l ih => rw [List.map_cons, List.filterMap_cons]; show p :: _ = p :: l; rw [ih]
  unfold plsOf vasOf arsOf canon
  refine ⟨?_, ?_, ?_⟩
  · rw [List.filterMap_append, List.filterMap_append, idP, nilP, nilP2, List.append_nil, List.append_nil]
  · rw [List.filterMap_append, List.filterMap_append, nilV, idV, nilV2, List.append_nil, List.nil_append]
  · rw [List.filterMap_append, List.filterMap_append, nilA, nilA2, idA, List.nil_append, List.nil_append]
/-- an ascending list of entries is its parts -/
theorem parts_of_asc : ∀ {es : List En}, es.Pairwise (fun a b => kLt a.key b.key) →
    es = (plsOf es).map (fun p => En.pl p.1 p.2) ++ (vasOf es).map (fun p => En.va p.1 p.2) ++ (arsOf es).map fun p => En.ar p.1 p.2
  | [], _ => rfl
  | e :: r, h => by
    obtain ⟨h1, h2⟩ := List.pairwise_cons.mp h
    have ih := parts_of_asc h2
    cases e with
    | pl x n =>
      have e1 : plsOf (.pl x n :: r) = (x, n) :: plsOf r := rfl
      have e2 : vasOf (.pl x n :: r) = vasOf r := rfl
      have e3 : arsOf (.pl x n :: r) = arsOf r := rfl
      rw [e1, e2, e3, List.map_cons, List.cons_append, List.cons_append, ← ih]
    | va x n =>
      have e1 : plsOf (.va x n :: r) = plsOf r := rfl
      have e2 : vasOf (.va x n :: r) = (x, n) :: vasOf r := rfl
      have e3 : arsOf (.va x n :: r) = arsOf r := rfl
      have e0 : plsOf r = [] := List.eq_nil_iff_forall_not_mem.mpr fun p hp => by
        have := h1 _ (pls_mem.mp hp)
        rcases this with q | ⟨q, _⟩
        · exact absurd q (show ¬ (1 < 0) by decide)
        · exact absurd q (show ¬ (1 = 0) by decide)
      rw [e0] at ih
      rw [e1, e2, e3, e0, List.map_cons, List.map_nil, List.nil_append, List.cons_append]
      rw [List.map_nil, List.nil_append] at ih
      rw [← ih]
    | ar x n =>
      have e1 : plsOf (.ar x n :: r) = plsOf r := rfl
      have e2 : vasOf (.ar x n :: r) = vasOf r := rfl
      have e3 : arsOf (.ar x n :: r) = (x, n) :: arsOf r := rfl
      have e0 : plsOf r = [] := List.eq_nil_iff_forall_not_mem.mpr fun p hp => by
        have := h1 _ (pls_mem.mp hp)
        rcases this with q | ⟨q, _⟩
        · exact absurd q (show ¬ (2 < 0) by decide)
        · exact absurd q (show ¬ (2 = 0) by decide)
      have e4 : vasOf r = [] := List.eq_nil_iff_forall_not_mem.mpr fun p hp => by
        have := h1 _ (vas_mem.mp hp)
        rcases this with q | ⟨q, _⟩
        · exact absurd q (show ¬ (2 < 1) by decide)
        · exact absurd q (show ¬ (2 = 1) by decide)
      rw [e0, e4] at ih
      rw [e1, e2, e3, e0, e4, List.map_cons, List.map_nil, List.map_nil, List.nil_append, List.nil_append]
      rw [List.map_nil, List.map_nil, List.nil_append, List.nil_append] at ih
      rw [← ih]
theorem ofs_asc {es : List En} (h : es.Pairwise fun a b => kLt a.key b.key) : AscK (plsOf es) ∧ AscK (vasOf es) ∧ AscK (arsOf es) := by
  rw [parts_of_asc h] at h
  obtain ⟨h1, h2, _⟩ := List.pairwise_append.mp h
  obtain ⟨h3, h4, _⟩ := List.pairwise_append.mp h1
  refine ⟨(List.pairwise_map.mp h3).imp fun {a b} q => ?_, (List.pairwise_map.mp h4).imp fun {a b} q => ?_, (List.pairwise_map.mp h2).imp fun {a b} q => ?_⟩
  · rcases q with q | ⟨_, q⟩
    · exact absurd q (Nat.lt_irrefl 0)
    · exact q
  · rcases q with q | ⟨_, q⟩
    · exact absurd q (Nat.lt_irrefl 1)
    · exact q
  · rcases q with q | ⟨_, q⟩
    · exact absurd q (Nat.lt_irrefl 2)
    · exact q
theorem canon_asc {P N : Al Int} {A : Al Row} (hP : (P.map (·.1)).Nodup) (hN : (N.map (·.1)).Nodup) (hA : AscK A) : (canon P N A).Pairwise fun a b => kLt a.key b.key := by
  unfold canon
  refine List.pairwise_append.mpr ⟨List.pairwise_append.mpr ⟨?_, ?_, ?_⟩, ?_, ?_⟩
  · exact List.pairwise_map.mpr ((sortK_asc hP).imp fun {a b} q => .inr ⟨rfl, q⟩)
  · exact List.pairwise_map.mpr ((sortK_asc hN).imp fun {a b} q => .inr ⟨rfl, q⟩)
  · intro a ha b hb
    obtain ⟨p, _, rfl⟩ := List.mem_map.mp ha
    obtain ⟨q, _, rfl⟩ := List.mem_map.mp hb
    exact .inl (show 0 < 1 by decide)
  · exact List.pairwise_map.mpr (hA.imp fun {a b} q => .inr ⟨rfl, q⟩)
  · intro a ha b hb
    obtain ⟨q, _, rfl⟩ := List.mem_map.mp hb
    rcases List.mem_append.mp ha with ha | ha
    · obtain ⟨p, _, rfl⟩ := List.mem_map.mp ha
      exact .inl (show 0 < 2 by decide)
    · obtain ⟨p, _, rfl⟩ := List.mem_map.mp ha
      exact .inl (show 1 < 2 by decide)
/-- the rows of a State object, by the dict that it is made of -/
def rowsOf (A : Al Row) : Al Row := (sortK A).map fun p => (p.1, leastOf p.2)
theorem rowsOf_keys (A : Al Row) : (rowsOf A).map (·.1) = (sortK A).map (·.1) := by
  unfold rowsOf
  rw [List.map_map]
  rfl
theorem rowsOf_asc {A : Al Row} (h : (A.map (·.1)).Nodup) : AscK (rowsOf A) := List.pairwise_map.mpr (sortK_asc h)
theorem rowsOf_self {A : Al Row} (h : AscK A) (hr : ∀ p ∈ A, leastOf p.2 = p.2) : rowsOf A = A := by
  unfold rowsOf
  rw [sortK_self h]
  have : ∀ l : Al Row, (∀ p ∈ l, leastOf p.2 = p.2) → l.map (fun p => (p.1, leastOf p.2)) = l := fun l hl => by
    induction l with
    | nil => rfl
    | cons p l ih =>
      rw [List.map_cons, ih fun q hq => hl q (List.mem_cons_of_mem _ hq), hl p List.mem_cons_self]
  exact this A hr
/-- a canonical list of entries is the list of the state that is made of it -/
theorem canon_self {es : List En} (h : WFC es) : canon (dP es) (dN es) (rowsOf (dA es)) = es ∧ rowsOf (dA es) = arsOf es := by
  obtain ⟨h1, h2, h3⟩ := d_of_asc h.2
  obtain ⟨a1, a2, a3⟩ := ofs_asc h.2
  have e : rowsOf (dA es) = arsOf es := by
    rw [h3]
    refine rowsOf_self a3 fun p hp => ?_
    have := h.1 _ (ars_mem.mp hp)
    exact leastOf_ok this.2
  refine ⟨?_, e⟩
  rw [e, h1, h2]
  unfold canon
  rw [sortK_self a1, sortK_self a2]
  exact (parts_of_asc h.2).symm
end A80
end
section
set_option Elab.async false
set_option maxRecDepth 100000
set_option maxHeartbeats 4000000
namespace A80
open PySem L2 TL NumText
theorem dP_nodup (es : List En) : ((dP es).map (·.1)).Nodup := by
  induction es using snocInd with
  | nil => exact List.nodup_nil
  | snoc es e ih =>
    rw [dP_snoc]
    cases e with
    | pl x n => exact putS_nodup _ _ ih
    | va x n => exact ih
    | ar x n => exact ih
theorem dN_nodup (es : List En) : ((dN es).map (·.1)).Nodup := by
  induction es using snocInd with
  | nil => exact List.nodup_nil
  | snoc es e ih =>
    rw [dN_snoc]
    cases e with
    | va x n => exact putS_nodup _ _ ih
    | pl x n => exact ih
    | ar x n => exact ih
theorem dA_nodup (es : List En) : ((dA es).map (·.1)).Nodup := by
  induction es using snocInd with
  | nil => exact List.nodup_nil
  | snoc es e ih =>
    rw [dA_snoc]
    cases e with
    | ar x n => exact putS_nodup _ _ ih
    | pl x n => exact ih
    | va x n => exact ih
theorem dP_mem {es : List En} {p : Str × Int} (h : p ∈ dP es) : En.pl p.1 p.2 ∈ es := by
  induction es using snocInd with
  | nil => simp [dP] at h
  | snoc es e ih =>
    rw [dP_snoc] at h
    refine List.mem_append.mpr ?_
    cases e with
    | pl x n =>
      rcases putS_mem h with q | q
      · exact .inl (ih q)
      · rw [q]; exact .inr (List.mem_singleton.mpr rfl)
    | va x n => exact .inl (ih h)
    | ar x n => exact .inl (ih h)
theorem dN_mem {es : List En} {p : Str × Int} (h : p ∈ dN es) : En.va p.1 p.2 ∈ es := by
  induction es using snocInd with
  | nil => simp [dN] at h
  | snoc es e ih =>
    rw [dN_snoc] at h
    refine List.mem_append.mpr ?_
    cases e with
    | va x n =>
      rcases putS_mem h with q | q
      · exact .inl (ih q)
      · rw [q]; exact .inr (List.mem_singleton.mpr rfl)
    | pl x n => exact .inl (ih h)
    | ar x n => exact .inl (ih h)
theorem dA_mem {es : List En} {p : Str × Row} (h : p ∈ dA es) : En.ar p.1 p.2 ∈ es := by
  induction es using snocInd with
  | nil => simp [dA] at h
  | snoc es e ih =>
    rw [dA_snoc] at h
    refine List.mem_append.mpr ?_
    cases e with
    | ar x n =>
      rcases putS_mem h with q | q
      · exact .inl (ih q)
      · rw [q]; exact .inr (List.mem_singleton.mpr rfl)
    | pl x n => exact .inl (ih h)
    | va x n => exact .inl (ih h)
theorem rowsOf_mem {A : Al Row} {p : Str × Row} (h : p ∈ rowsOf A) : ∃ r, (p.1, r) ∈ A ∧ p.2 = leastOf r := by
  unfold rowsOf at h
  obtain ⟨q, hq, e⟩ := List.mem_map.mp h
  subst e
  exact ⟨q.2, (sortK_perm A).mem_iff.mp hq, rfl⟩
theorem leastOf_asc {row : Row} (h : (row.map (·.1)).Nodup) : Asc (leastOf row) := leastS_asc (sortA_asc h)
theorem leastOf_ne {row : Row} (h : row ≠ []) : leastOf row ≠ [] := leastS_ne fun q => h (by
  have := (sortA_perm row).length_eq
  rw [q] at this
  exact List.length_eq_zero_iff.mp this.symm)
theorem leastOf_idem (row : Row) : leastS (leastOf row) = leastOf row := leastS_idem _
theorem leastOf_len (row : Row) : (leastOf row).length ≤ row.length := by
  have h1 := leastS_len (sortA row)
  have h2 := (sortA_perm row).length_eq
  unfold leastOf
  omega
/-- THE DECISION: the state that was read has the text exactly if the entries are canonical -/
theorem read_decide {es : List En} (hraw : ∀ e ∈ es, okEr rawR e) : showS (canon (dP es) (dN es) (rowsOf (dA es))) = showS es ↔ WFC es := by
  constructor
  · intro h
    have hc : canon (dP es) (dN es) (rowsOf (dA es)) = es := by
      refine showS_inj (fun e he => ?_) (fun e he => (hraw e he).sh fun _ q => q.1) h
      unfold canon at he
      rcases List.mem_append.mp he with he | he
      · rcases List.mem_append.mp he with he | he
        · obtain ⟨p, hp, rfl⟩ := List.mem_map.mp he
          exact (hraw _ (dP_mem ((sortK_perm _).mem_iff.mp hp))).1
        · obtain ⟨p, hp, rfl⟩ := List.mem_map.mp he
          exact (hraw _ (dN_mem ((sortK_perm _).mem_iff.mp hp))).1
      · obtain ⟨p, hp, rfl⟩ := List.mem_map.mp he
        obtain ⟨r, hr, e⟩ := rowsOf_mem hp
        have := hraw _ (dA_mem hr)
        exact ⟨this.1, by show p.2 ≠ []; rw [e]; exact leastOf_ne this.2.1⟩
    refine ⟨fun e he => ?_, ?_⟩
    · have hr := hraw e he
      cases e with
      | pl x n => exact hr
      | va x n => exact hr
      | ar x row =>
        refine ⟨hr.1, hr.2.1, ?_, ?_, hr.2.2.2⟩
        · have hm : (x, row) ∈ rowsOf (dA es) := by
            have := (pls_canon (dP es) (dN es) (rowsOf (dA es))).2.2
            rw [hc] at this
            rw [← this]
            exact ars_mem.mpr he
          obtain ⟨r, hr2, e⟩ := rowsOf_mem hm
          have h3 := hraw _ (dA_mem hr2)
          show Asc row
          rw [show row = leastOf r from e]
          exact leastOf_asc h3.2.2.1
        · have hm : (x, row) ∈ rowsOf (dA es) := by
            have := (pls_canon (dP es) (dN es) (rowsOf (dA es))).2.2
            rw [hc] at this
            rw [← this]
            exact ars_mem.mpr he
          obtain ⟨r, hr2, e⟩ := rowsOf_mem hm
          rw [show row = leastOf r from e]
          exact leastOf_idem r
    · have := canon_asc (dP_nodup es) (dN_nodup es) (rowsOf_asc (dA_nodup es))
      rw [hc] at this
      exact this
  · intro h
    rw [(canon_self h).1]
/-! ### how long -/
def wE : En → Nat
  | .pl _ _ => 1
  | .va _ _ => 1
  | .ar _ row => 1 + row.length
def sz (es : List En) : Nat := (es.map wE).sum
def szA (A : Al Row) : Nat := (A.map fun p => 1 + p.2.length).sum
def stz (P N : Al Int) (A : Al Row) : Nat := P.length + N.length + szA A
theorem sum_perm {α : Type} (f : α → Nat) {a b : List α} (h : a.Perm b) : (a.map f).sum = (b.map f).sum := (h.map f).sum_nat
theorem sum_le {α : Type} (f g : α → Nat) : ∀ l : List α, (∀ a ∈ l, f a ≤ g a) → (l.map f).sum ≤ (l.map g).sum
  | [], _ => Nat.le_refl _
  | a :: l, h => by
    have h1 := h a List.mem_cons_self
    have h2 := sum_le f g l fun x hx => h x (List.mem_cons_of_mem _ hx)
    rw [List.map_cons, List.map_cons, List.sum_cons, List.sum_cons]
    omega
theorem putS_len {α : Type} (l : Al α) (k : Str) (v : α) : (putS l k v).length ≤ l.length + 1 := by
  unfold putS
  split
  · rw [List.length_map]; omega
  · rw [List.length_append, List.length_singleton]; omega
theorem putS_szA (l : Al Row) (k : Str) (v : Row) (hn : (l.map (·.1)).Nodup) : szA (putS l k v) ≤ szA l + (1 + v.length) := by
  by_cases h : k ∈ l.map (·.1)
  · have key : ∀ l : Al Row, (l.map (·.1)).Nodup → szA (l.map (fun p => if p.1 = k then (p.1, v) else p)) ≤ szA l + (1 + v.length) ∧ (k ∉ l.map (·.1) → szA (l.map (fun p => if p.1 = k then (p.1, v) else p)) = szA l) := by
      intro l
      induction l with
      | nil => intro _; exact ⟨Nat.zero_le _, fun _ => rfl⟩
      | cons p l ih =>
        intro hn
        rw [List.map_cons] at hn
        obtain ⟨hn1, hn2⟩ := List.nodup_cons.mp hn
        obtain ⟨i1, i2⟩ := ih hn2
        have e0 : ∀ q : Str × Row, ∀ m : Al Row, szA (q :: m) = (1 + q.2.length) + szA m := fun q m => by unfold szA; rw [List.map_cons, List.sum_cons]
        constructor
        · rw [List.map_cons, e0, e0]
          by_cases e : p.1 = k
          · rw [if_pos e, i2 (by rw [← e]; exact hn1)]
            show 1 + v.length + szA l ≤ _
            omega
          · rw [if_neg e]
            omega
        · intro hk
          rw [List.map_cons] at hk
          have e : ¬ p.1 = k := fun q => hk (by rw [q]; exact List.mem_cons_self)
          rw [List.map_cons, e0, e0, if_neg e, i2 fun q => hk (List.mem_cons_of_mem _ q)]
    unfold putS
    obtain ⟨p, hp, e⟩ := List.mem_map.mp h
    rw [if_pos (List.any_eq_true.mpr ⟨p, hp, decide_eq_true e⟩)]
    exact (key l hn).1
  · rw [putS_new h]
    unfold szA
    rw [List.map_append, List.sum_append]
    simp
theorem szA_rowsOf (A : Al Row) : szA (rowsOf A) ≤ szA A := by
  unfold szA rowsOf
  rw [List.map_map]
  refine Nat.le_trans (sum_le _ (fun p => 1 + p.2.length) (sortK A) fun p _ => ?_) (Nat.le_of_eq (sum_perm _ (sortK_perm A)))
  have := leastOf_len p.2
  show 1 + (leastOf p.2).length ≤ 1 + p.2.length
  omega
theorem stz_le (es : List En) : (dP es).length + (dN es).length + szA (dA es) ≤ sz es := by
  induction es using snocInd with
  | nil => exact Nat.zero_le _
  | snoc es e ih =>
    have e1 : sz (es ++ [e]) = sz es + wE e := by unfold sz; rw [List.map_append, List.sum_append]; simp
    rw [dP_snoc, dN_snoc, dA_snoc, e1]
    cases e with
    | pl x n =>
      have := putS_len (dP es) x n
      show (putS (dP es) x n).length + (dN es).length + szA (dA es) ≤ sz es + 1
      omega
    | va x n =>
      have := putS_len (dN es) x n
      show (dP es).length + (putS (dN es) x n).length + szA (dA es) ≤ sz es + 1
      omega
    | ar x n =>
      have := putS_szA (dA es) x n (dA_nodup es)
      show (dP es).length + (dN es).length + szA (putS (dA es) x n) ≤ sz es + (1 + n.length)
      omega
theorem rowT_len {row : Row} (h : row ≠ []) : 4 * row.length ≤ (rowT row).length + 1 := by
  have h1 := joinL_len [44] (l := row.map showC) (fun q => h (List.map_eq_nil_iff.mp q))
  have h2 : ∀ r : Row, 4 * r.length ≤ ((r.map showC).map fun p => p.length + [44].length).sum := by
    intro r
    induction r with
    | nil => exact Nat.zero_le _
    | cons p r ih =>
      have a1 : (showI p.1).length ≥ 1 := by
        cases e : showI p.1 with
        | nil => exact absurd e (showI_ne _)
        | cons a b => simp
      have a2 : (showI p.2).length ≥ 1 := by
        cases e : showI p.2 with
        | nil => exact absurd e (showI_ne _)
        | cons a b => simp
      have a3 : (showC p).length = (showI p.1).length + ((showI p.2).length + 1) := by unfold showC; rw [List.length_append, List.length_cons]
      rw [List.map_cons, List.map_cons, List.sum_cons, List.length_cons, a3]
      simp only [List.length_singleton] at ih ⊢
      omega
  have := h2 row
  unfold rowT
  simp only [List.length_singleton] at *
  omega
theorem wE_le {e : En} (h : shE e) : wE e ≤ (showE e).length := by
  unfold showE
  rw [List.length_append, List.length_cons, List.length_append, List.length_cons]
  cases e with
  | pl x n => show 1 ≤ _; omega
  | va x n => show 1 ≤ _; omega
  | ar x row =>
    have := rowT_len h.2
    have : (En.ar x row).shown.length = (rowT row).length := rfl
    show 1 + row.length ≤ _
    omega
theorem sz_le_text {es : List En} (h : ∀ e ∈ es, shE e) : sz es ≤ (showS es).length := by
  by_cases h0 : es = []
  · subst h0; exact Nat.zero_le _
  · have h1 := joinL_len [59, 32] (l := es.map showE) (fun q => h0 (List.map_eq_nil_iff.mp q))
    rw [List.map_map] at h1
    have h2 : (es.map fun e => wE e + 2).sum ≤ (es.map ((fun p => p.length + [59, 32].length) ∘ showE)).sum := sum_le _ _ es fun e he => by
      have := wE_le (h e he)
      show wE e + 2 ≤ (showE e).length + 2
      omega
    have h3 : ∀ l : List En, l ≠ [] → (l.map wE).sum + 2 ≤ (l.map fun e => wE e + 2).sum := by
      intro l
      induction l with
      | nil => intro q; exact absurd rfl q
      | cons e l ih =>
        intro _
        rw [List.map_cons, List.map_cons, List.sum_cons, List.sum_cons]
        by_cases hl : l = []
        · subst hl; simp
        · have := ih hl
          omega
    have := h3 es h0
    unfold sz showS
    simp only [List.length_cons, List.length_nil] at h1 h2
    omega
/-- the text's length by its numbers' -/
def EnI (d : Nat) : En → Prop
  | .pl _ n => (showI n).length ≤ d
  | .va _ n => (showI n).length ≤ d
  | .ar _ row => ∀ p ∈ row, (showI p.1).length ≤ d ∧ (showI p.2).length ≤ d
theorem rowT_le {d : Nat} {row : Row} (h : ∀ p ∈ row, (showI p.1).length ≤ d ∧ (showI p.2).length ≤ d) : (rowT row).length ≤ (2 * d + 2) * row.length := by
  by_cases h0 : row = []
  · subst h0; exact Nat.zero_le _
  · have h1 := joinL_len [44] (l := row.map showC) (fun q => h0 (List.map_eq_nil_iff.mp q))
    rw [List.map_map] at h1
    have h2 : (row.map ((fun p => p.length + [44].length) ∘ showC)).sum ≤ (row.map fun _ => 2 * d + 2).sum := sum_le _ _ row fun p hp => by
      obtain ⟨a1, a2⟩ := h p hp
      have a3 : (showC p).length = (showI p.1).length + ((showI p.2).length + 1) := by unfold showC; rw [List.length_append, List.length_cons]
      show (showC p).length + 1 ≤ _
      omega
    have h3 : (row.map fun _ => 2 * d + 2).sum = (2 * d + 2) * row.length := by
      rw [List.map_const', List.sum_replicate_nat, Nat.mul_comm]
    have e0 : [44].length = 1 := rfl
    have e4 : (rowT row).length = (joinL [44] (row.map showC)).length := rfl
    rw [e4]
    omega
theorem showE_le {d : Nat} {e : En} (hs : shE e) (h : EnI d e) : (showE e).length + 2 ≤ (2 * d + 15) * wE e := by
  have hn := (okNm_iff.mp hs.nm).2.1
  have hw : (wordL e.role).length = 5 := by cases e <;> rfl
  unfold showE
  rw [List.length_append, List.length_cons, List.length_append, List.length_cons, hw]
  cases e with
  | pl x n =>
    have : (showI n).length ≤ d := h
    show 5 + ((tl x).length + ((showI n).length + 1) + 1) + 2 ≤ (2 * d + 15) * 1
    have : (tl x).length ≤ 6 := hn
    omega
  | va x n =>
    have : (showI n).length ≤ d := h
    show 5 + ((tl x).length + ((showI n).length + 1) + 1) + 2 ≤ (2 * d + 15) * 1
    have : (tl x).length ≤ 6 := hn
    omega
  | ar x row =>
    have h1 := rowT_le h
    show 5 + ((tl x).length + ((rowT row).length + 1) + 1) + 2 ≤ (2 * d + 15) * (1 + row.length)
    have : (tl x).length ≤ 6 := hn
    have e1 : (2 * d + 15) * (1 + row.length) = (2 * d + 15) + (2 * d + 2) * row.length + 13 * row.length := by
      rw [Nat.mul_add, Nat.mul_one, show 2 * d + 15 = (2 * d + 2) + 13 by omega, Nat.add_mul]
      omega
    rw [e1]
    omega
theorem sumE_le {d : Nat} {es : List En} (hs : ∀ e ∈ es, shE e) (h : ∀ e ∈ es, EnI d e) : (es.map fun e => (showE e).length + 2).sum ≤ (2 * d + 15) * sz es := by
  refine Nat.le_trans (sum_le _ (fun e => (2 * d + 15) * wE e) es fun e he => showE_le (hs e he) (h e he)) (Nat.le_of_eq ?_)
  unfold sz
  induction es with
  | nil => rfl
  | cons e es ih =>
    rw [List.map_cons, List.map_cons, List.sum_cons, List.sum_cons, Nat.mul_add, ih (fun x hx => hs x (List.mem_cons_of_mem _ hx)) fun x hx => h x (List.mem_cons_of_mem _ hx)]
theorem showS_le {d : Nat} {es : List En} (hs : ∀ e ∈ es, shE e) (h : ∀ e ∈ es, EnI d e) : (showS es).length ≤ (2 * d + 15) * sz es := by
  by_cases h0 : es = []
  · subst h0; exact Nat.zero_le _
  · have h1 := joinL_len [59, 32] (l := es.map showE) (fun q => h0 (List.map_eq_nil_iff.mp q))
    rw [List.map_map] at h1
    have h2 := sumE_le hs h
    have e1 : ((fun p : List Nat => p.length + [59, 32].length) ∘ showE) = fun e => (showE e).length + 2 := rfl
    rw [e1] at h1
    have e2 : (showS es).length = (joinL [59, 32] (es.map showE)).length := rfl
    rw [e2]
    omega
theorem sz_canon (P N : Al Int) (A : Al Row) : sz (canon P N A) = stz P N A := by
  unfold sz canon stz szA
  rw [List.map_append, List.map_append, List.sum_append, List.sum_append, List.map_map, List.map_map, List.map_map]
  have e1 : ∀ l : Al Int, (l.map (wE ∘ fun p => En.pl p.1 p.2)).sum = l.length := fun l => by
    induction l with
    | nil => rfl
    | cons a l ih => rw [List.map_cons, List.sum_cons, ih, List.length_cons]; show 1 + _ = _; omega
  have e2 : ∀ l : Al Int, (l.map (wE ∘ fun p => En.va p.1 p.2)).sum = l.length := fun l => by
    induction l with
    | nil => rfl
    | cons a l ih => rw [List.map_cons, List.sum_cons, ih, List.length_cons]; show 1 + _ = _; omega
  rw [e1, e2, (sortK_perm P).length_eq, (sortK_perm N).length_eq]
  rfl
end A80
end
section
set_option Elab.async false
set_option maxRecDepth 100000
set_option maxHeartbeats 4000000
namespace A80
open PySem PySem.Spec L2 PyProof.Rows TL
/-! ### what the top has written -/
structure Tx (K : PySem.W.Frag) (mg : Str → Option Value) (CS : Addr) : Prop where
  b_len : mg "len" = none
  b_isinstance : mg "isinstance" = none
  b_str : mg "str" = none
  b_int : mg "int" = none
  b_bool : mg "bool" = none
  b_dict : mg "dict" = none
  b_list : mg "list" = none
  b_tuple : mg "tuple" = none
  b_sorted : mg "sorted" = none
  b_min : mg "min" = none
  b_max : mg "max" = none
  b_all : mg "all" = none
  b_range : mg "range" = none
  gLETTERS : ∃ u, mg "LETTERS" = some u ∧ RelV (.str (Str.ofString "abcdefghijklmnopqrstuvwxyz")) u
  gDIGITS : ∃ u, mg "DIGITS" = some u ∧ RelV (.str (Str.ofString "0123456789")) u
  gState : ∃ u, mg "State" = some u ∧ RelV (.ref CS) u
  cl : Cls K CS
  nSp : NoAttr K CS "spots"
  nAm : NoAttr K CS "amounts"
  nRo : NoAttr K CS "rows"
/-- a def of the module under its name -/
structure Df (K : PySem.W.Frag) (mg : Str → Option Value) (x : Str) (st : Stmt) (ps : List Str) : Prop where
  ex : ∃ (f : Addr) (fd : FuncData), Fun K x x st f fd ∧ mg x = some (.ref f) ∧ Binds K fd ps []
/-- what may be called by its name, and keeps sp -/
structure Cl (P : Program) (w : World) (K : PySem.W.Frag) (mg : Str → Option Value) (base : Heap) (k : Nat) (x : Str) (sp : Sp) : Prop where
  ex : ∃ (f : Addr) (fd : FuncData) (ps : List Str), FnOk P w K mg base CX0 k f fd ps sp ∧ mg x = some (.ref f) ∧ PySem.W.keepIn K (.ref f) = true ∧ Binds K fd ps []
section
variable {P : Program} {w : World} {K : PySem.W.Frag} {mg : Str → Option Value} {base : Heap}
theorem cl_mk {x : Str} {st : Stmt} {N ps : List Str} {k : Nat} {sp : Sp} (D : Df K mg x st ps) (S : FnScope N ps (defScope st)) (len : ∀ vs H Q E, sp vs H Q E → vs.length = ps.length)
    (hbody : ∀ (f : Addr) (cdv : Value) (A : Around) (outer : List Env) (s : Shared) (H : Hp) (vs : List V) (Q : VK) (E : XK), Room k (A.deeper (envOfC x (defScope st) s.heap.objs.size f cdv)) → sp vs H Q E →
      ∃ t, PSs (cxOf CX0 P w K mg base N x (defScope st) f cdv A outer s H E).nox (defBody st) t ∧ t { nx := fun _ H' => Q .non H', rt := Q } (start N vs) H) : Cl P w K mg base (k + 1) x sp := by
  obtain ⟨f, fd, F, hm, b⟩ := D.ex
  exact ⟨f, fd, ps, F.ok S len (fun cdv A outer s H vs Q E hr h => hbody f cdv A outer s H vs Q E hr h), hm, F.kp, b⟩
theorem Cl.mono {x : Str} {j k : Nat} {sp : Sp} (c : Cl P w K mg base j x sp) (h : j ≤ k) : Cl P w K mg base k x sp := by
  obtain ⟨f, fd, ps, F, a⟩ := c.ex
  exact ⟨f, fd, ps, F.mono h, a⟩
theorem Cl.imp {x : Str} {k : Nat} {sp sp' : Sp} (c : Cl P w K mg base k x sp) (h : ∀ vs H Q E, sp' vs H Q E → sp vs H Q E) : Cl P w K mg base k x sp' := by
  obtain ⟨f, fd, ps, F, a⟩ := c.ex
  exact ⟨f, fd, ps, F.imp h, a⟩
end
section
variable {X : Cx} {k j : Nat} {x : Str} {sp : Sp} {p pos : Pos} {e : Expr} {es : List Expr} {t : TA}
theorem pe_c (c : Cl X.prog X.w X.K X.mg X.base k x sp) (hr : Room j X.A) (hk : k ≤ j) (hg : Gl X x) (ha : PA X (e :: es) t)
    (hdb : (x == ("__debug__" : Str)) = false := by decide) (he : starEach (e :: es) X.env = (false, eval e X.env) :: starEach es X.env := by rfl) (hpl : (backTo pos (starEach es X.env)).any (·.1) = false := by rfl) :
    PE X (.Call (.Name x p) (e :: es) [] pos) (tCall sp [] E0 t) := by
  obtain ⟨f, fd, ps, F, hm, kp, b⟩ := c.ex
  exact pe_call F (hr.mono hk) hg hm kp b .nil pass0 ha hdb he hpl
theorem pe_gc {v : V} (hg : Gl X x) (h : ∃ u, X.mg x = some u ∧ RelV v u) (hd : (x == ("__debug__" : Str)) = false := by decide) : PE X (.Name x pos) (tC v) := by
  obtain ⟨u, hm, r⟩ := h
  exact pe_glob hg hm r hd
end
/-! ### heaps that only grow -/
theorem Same.new {H : Hp} {p : Addr} {o : HO} (h : H p = none) : Same H (upd H p o) := fun b u e => by
  rw [upd_ne (ne_of_none e h)]
  exact e
theorem Same.mut {H H' : Hp} {p : Addr} {o : HO} (e : Same H H') (h : H p = none) : Same H (upd H' p o) := fun b u hb => by
  rw [upd_ne (ne_of_none hb h)]
  exact e b u hb
theorem Same.step {H H' : Hp} {p : Addr} {o : HO} (e : Same H H') (h : H' p = none) : Same H (upd H' p o) := e.trans (Same.new h)
/-- behind a walk over a locked dict -/
theorem Same.unlock {H H' : Hp} {d : Addr} {od : Obj} {u : HO} (hd : H d = some u) (e : Same (upd H d (.frz od u)) H') : Same H (upd H' d u) := fun b o hb => by
  by_cases h : b = d
  · subst h
    rw [upd_same, ← hd, hb]
  · rw [upd_ne h]
    exact e b o (by rw [upd_ne h]; exact hb)
/-- two ints in a tuple -/
def PrAt (H : Hp) (t : Addr) (q : Int × Int) : Prop := H t = some (.tup [.int q.1, .int q.2])
/-- a list of such tuples -/
def RowAt (H : Hp) (a : Addr) (row : Row) : Prop := ∃ ts : List Addr, H a = some (.lst (ts.map V.ref)) ∧ Paired (PrAt H) ts row
theorem PrAt.same {H H' : Hp} (e : Same H H') {t : Addr} {q : Int × Int} (h : PrAt H t q) : PrAt H' t q := e _ _ h
theorem prs_same {H H' : Hp} (e : Same H H') : ∀ {ts : List Addr} {row : Row}, Paired (PrAt H) ts row → Paired (PrAt H') ts row
  | _, _, .nil => .nil
  | _, _, .cons a b => .cons (a.same e) (prs_same e b)
theorem RowAt.same {H H' : Hp} (e : Same H H') {a : Addr} {row : Row} (h : RowAt H a row) : RowAt H' a row := by
  obtain ⟨ts, h1, h2⟩ := h
  exact ⟨ts, e _ _ h1, prs_same e h2⟩
theorem paired_get {α β : Type} {R : α → β → Prop} : ∀ {l : List α} {m : List β} {i : Nat} {a : α}, Paired R l m → l[i]? = some a → ∃ b, m[i]? = some b ∧ R a b
  | _, _, _, _, .nil, e => by simp at e
  | _, _, 0, _, .cons r _, e => by simp at e; subst e; exact ⟨_, rfl, r⟩
  | _, _, i + 1, a, .cons _ t, e => by
    obtain ⟨b, h1, h2⟩ := paired_get (i := i) (a := a) t (by simpa using e)
    exact ⟨b, by simpa using h1, h2⟩
theorem paired_get' {α β : Type} {R : α → β → Prop} : ∀ {l : List α} {m : List β} {i : Nat} {b : β}, Paired R l m → m[i]? = some b → ∃ a, l[i]? = some a ∧ R a b
  | _, _, _, _, .nil, e => by simp at e
  | _, _, 0, _, .cons r _, e => by simp at e; subst e; exact ⟨_, rfl, r⟩
  | _, _, i + 1, a, .cons _ t, e => by
    obtain ⟨b, h1, h2⟩ := paired_get' (i := i) (b := a) t (by simpa using e)
    exact ⟨b, by simpa using h1, h2⟩
theorem paired_snoc {α β : Type} {R : α → β → Prop} : ∀ {l : List α} {m : List β} {a : α} {b : β}, Paired R l m → R a b → Paired R (l ++ [a]) (m ++ [b])
  | _, _, _, _, .nil, r => .cons r .nil
  | _, _, _, _, .cons q t, r => .cons q (paired_snoc t r)
theorem paired_len {α β : Type} {R : α → β → Prop} {l : List α} {m : List β} (h : Paired R l m) : l.length = m.length := Paired.length h
theorem get_map_ref {ts : List Addr} {i : Nat} {v : V} (h : (ts.map V.ref)[i]? = some v) : ∃ t, ts[i]? = some t ∧ v = .ref t := by
  rw [List.getElem?_map] at h
  obtain ⟨t, h1, h2⟩ := Option.map_eq_some_iff.mp h
  exact ⟨t, h1, h2.symm⟩
theorem get_map_int {ts : List Int} {i : Nat} {v : V} (h : (ts.map V.int)[i]? = some v) : ∃ t, ts[i]? = some t ∧ v = .int t := by
  rw [List.getElem?_map] at h
  obtain ⟨t, h1, h2⟩ := Option.map_eq_some_iff.mp h
  exact ⟨t, h1, h2.symm⟩
theorem get_map_str {ts : List Str} {i : Nat} {v : V} (h : (ts.map V.str)[i]? = some v) : ∃ t, ts[i]? = some t ∧ v = .str t := by
  rw [List.getElem?_map] at h
  obtain ⟨t, h1, h2⟩ := Option.map_eq_some_iff.mp h
  exact ⟨t, h1, h2.symm⟩
theorem atI_get {α : Type} {xs : List α} {i : Nat} {v : α} (h : xs[i]? = some v) : atI xs (i : Int) = some v := by
  have hl : i < xs.length := (List.getElem?_eq_some_iff.mp h).1
  unfold atI ixN
  rw [if_pos (by omega), if_pos (by omega)]
  show xs[((i : Int)).toNat]? = some v
  rw [Int.toNat_natCast]
  exact h
theorem atI_pos {α : Type} {xs : List α} {k : Int} {v : α} (h0 : 0 ≤ k) (h : xs[k.toNat]? = some v) : atI xs k = some v := by
  have := atI_get h
  rw [show ((k.toNat : Nat) : Int) = k by omega] at this
  exact this
theorem size_le {n : Nat} (h : n ≤ 10000000) : n ≤ sizeLine := by
  have : sizeLine = 16777216 := sizeLine_eq
  omega
theorem size_lt {n : Nat} (h : n ≤ 10000000) : n < sizeLine := by
  have : sizeLine = 16777216 := sizeLine_eq
  omega
end A80
end
section
set_option Elab.async false
set_option maxRecDepth 100000
set_option maxHeartbeats 4000000
namespace A80
open PySem PySem.Spec L2 PyProof.Rows TL
/-! ### loops over a text -/
theorem get_sign {x : Str} {i : Nat} {c : Nat} (h : x.cps[i]? = some c) : (tl x)[i]? = some c := by
  show x.cps.toList[i]? = some c
  rw [Array.getElem?_toList]
  exact h
theorem for_str {x : Str} {g : TG} {tb : TS} {D : Ends} {σ : L2.St} {H : Hp} (Pv : Nat → L2.St → Hp → Prop) (h0 : Pv 0 σ H)
    (hs : ∀ i c σ H, (tl x)[i]? = some c → Pv i σ H → g (.str ⟨#[c]⟩) σ H fun σ2 H2 => tb { D with nx := Pv (i + 1), ct := Pv (i + 1), bk := D.nx } σ2 H2) (hd : ∀ σ H, Pv (tl x).length σ H → D.nx σ H) :
    ∃ W : Nat → Nat → L2.St → Hp → Prop, (∃ m, W 0 m σ H) ∧ ∀ i m σ H, W i m σ H →
      ((Its x).stop i H ∧ D.nx σ H) ∨ ((Its x).go i H ∧ ∃ N : L2.St → Hp → Prop, (∀ σ' H', N σ' H' → ∃ m', m' < m ∧ W (i + 1) m' σ' H') ∧ ∀ v H', (Its x).yld i H v H' → g v σ H' fun σ2 H2 => tb { D with nx := N, ct := N, bk := D.nx } σ2 H2) := by
  have hl : (tl x).length = x.cps.size := Array.length_toList
  refine ⟨fun i m σ H => m = x.cps.size - i ∧ i ≤ x.cps.size ∧ Pv i σ H, ⟨_, rfl, Nat.zero_le _, h0⟩, ?_⟩
  rintro i m σ H ⟨rfl, hi, p⟩
  by_cases hlt : i < x.cps.size
  · refine .inr ⟨hlt, Pv (i + 1), fun σ' H' p' => ⟨x.cps.size - (i + 1), by omega, rfl, hlt, p'⟩, ?_⟩
    rintro v H' ⟨rfl, c, hc, rfl⟩
    exact hs i c σ H' (get_sign hc) p
  · have e : i = (tl x).length := by omega
    subst e
    exact .inl ⟨by show x.cps.size ≤ _; omega, hd σ H p⟩
theorem str_eq {x y : Str} : (V.str x = V.str y) ↔ tl x = tl y := by
  constructor
  · intro h
    cases h
    rfl
  · intro h
    rw [ext_tl h]
theorem int_eq {x y : Int} : (V.int x = V.int y) ↔ x = y := by
  constructor
  · intro h
    cases h
    rfl
  · intro h
    rw [h]
theorem dec_str {x y : Str} : decide (V.str x = V.str y) = decide (tl x = tl y) := decide_eq_decide.mpr str_eq
theorem dec_int {x y : Int} : decide (V.int x = V.int y) = decide (x = y) := decide_eq_decide.mpr int_eq
theorem ite_t {c : Bool} {A B : Prop} (hc : c = true) (h : A) : if c = true then A else B := by rw [if_pos hc]; exact h
theorem ite_f {c : Bool} {A B : Prop} (hc : c = false) (h : B) : if c = true then A else B := by rw [hc, if_neg Bool.false_ne_true]; exact h
theorem ite_b {c : Bool} {A B : Prop} (h1 : c = true → A) (h2 : c = false → B) : if c = true then A else B := by
  cases c with
  | true => exact iteT (h1 rfl)
  | false => exact iteF (h2 rfl)
theorem sgs_letters : tl (Str.ofString "abcdefghijklmnopqrstuvwxyz") = (List.range 26).map (97 + ·) := by decide +kernel
theorem sgs_digits : tl (Str.ofString "0123456789") = (List.range 10).map (48 + ·) := by decide +kernel
theorem mem_letters (c : Nat) : decide (c ∈ tl (Str.ofString "abcdefghijklmnopqrstuvwxyz")) = isLet c := by
  rw [sgs_letters, Bool.eq_iff_iff, decide_eq_true_eq, isLet_iff, List.mem_map]
  constructor
  · rintro ⟨a, ha, e⟩
    have := List.mem_range.mp ha
    omega
  · intro h
    exact ⟨c - 97, List.mem_range.mpr (by omega), by omega⟩
theorem mem_digits (c : Nat) : decide (c ∈ tl (Str.ofString "0123456789")) = isDig c := by
  rw [sgs_digits, Bool.eq_iff_iff, decide_eq_true_eq, isDig_iff, List.mem_map]
  constructor
  · rintro ⟨a, ha, e⟩
    have := List.mem_range.mp ha
    omega
  · intro h
    exact ⟨c - 48, List.mem_range.mpr (by omega), by omega⟩
theorem take_succ_get {α : Type} {l : List α} {i : Nat} {a : α} (h : l[i]? = some a) : l.take (i + 1) = l.take i ++ [a] := by
  rw [List.take_succ, h]
  rfl
end A80
end
section
set_option Elab.async false
set_option maxRecDepth 100000
set_option maxHeartbeats 4000000
namespace A80
open PySem PySem.Spec L2 PyProof.Rows TL
/-! ### slices -/
theorem tl_cut (z : Str) (lo hi : Option Int) : tl (cutS z lo hi) = ((tl z).drop (HT.sIx z.length 0 lo)).take (HT.sIx z.length z.length hi - HT.sIx z.length 0 lo) := rfl
theorem cut_take (z : Str) (k : Nat) : tl (cutS z none (some (k : Int))) = (tl z).take k := by
  rw [tl_cut, HT.sIx_none, HT.sIx_nat, List.drop_zero, Nat.sub_zero, len_tl, List.take_eq_take_iff]
  omega
theorem cut_drop (z : Str) (k : Nat) : tl (cutS z (some (k : Int)) none) = (tl z).drop k := by
  rw [tl_cut, HT.sIx_none, HT.sIx_nat]
  have hz := len_tl z
  by_cases h : k ≤ z.length
  · rw [Nat.min_eq_left h]
    refine List.take_of_length_le ?_
    rw [List.length_drop]
    omega
  · have e : min k z.length = z.length := by omega
    rw [e, Nat.sub_self, List.take_zero]
    exact (List.drop_eq_nil_of_le (by omega)).symm
theorem cutV_eq (xs : List V) (lo hi : Option Int) : cutV xs lo hi = (xs.drop (HT.sIx xs.length 0 lo)).take (HT.sIx xs.length xs.length hi - HT.sIx xs.length 0 lo) := rfl
theorem cutV_take (xs : List V) (k : Nat) : cutV xs none (some (k : Int)) = xs.take k := by
  rw [cutV_eq, HT.sIx_none, HT.sIx_nat, List.drop_zero, Nat.sub_zero, List.take_eq_take_iff]
  omega
theorem cutV_drop (xs : List V) (k : Nat) : cutV xs (some (k : Int)) none = xs.drop k := by
  rw [cutV_eq, HT.sIx_none, HT.sIx_nat]
  by_cases h : k ≤ xs.length
  · rw [Nat.min_eq_left h]
    refine List.take_of_length_le ?_
    rw [List.length_drop]
    omega
  · have e : min k xs.length = xs.length := by omega
    rw [e, Nat.sub_self, List.take_zero]
    exact (List.drop_eq_nil_of_le (by omega)).symm
theorem cutV_mem {xs : List V} {lo hi : Option Int} {v : V} (h : v ∈ cutV xs lo hi) : v ∈ xs := by
  rw [cutV_eq] at h
  exact List.mem_of_mem_drop (List.mem_of_mem_take h)
theorem cutV_len (xs : List V) (lo hi : Option Int) : (cutV xs lo hi).length ≤ xs.length := by
  rw [cutV_eq, List.length_take, List.length_drop]
  omega
theorem cutV_map {α : Type} (f : α → V) (xs : List α) (lo hi : Option Int) : ∃ ys : List α, cutV (xs.map f) lo hi = ys.map f ∧ (∀ y ∈ ys, y ∈ xs) ∧ ys.length ≤ xs.length := by
  refine ⟨(xs.drop (HT.sIx (xs.map f).length 0 lo)).take (HT.sIx (xs.map f).length (xs.map f).length hi - HT.sIx (xs.map f).length 0 lo), ?_, fun y hy => List.mem_of_mem_drop (List.mem_of_mem_take hy), ?_⟩
  · rw [cutV_eq, List.map_take, List.map_drop]
  · rw [List.length_take, List.length_drop]
    omega
theorem str_len (z : Str) : z.length = (tl z).length := len_tl z
/-! ### a comprehension that grows a new list, the heap else only growing -/
theorem lc_grow {J : It} {n : Nat} {G : Hp → Prop} {Y : Nat → Hp → V → Hp → Prop} (w : Walk J n G Y) {g : TG} {tt : TT} {te : TE} {vs : List Nat} {σ : L2.St} {H1 : Hp} {D : Addr} {Qd : Hp → Prop} (hD : H1 D = none) (hn : n ≤ 1000000)
    (hG : ∀ H', Same H1 H' → G H') (Pv : Nat → List V → Hp → Prop) (hP : ∀ i acc acc' H H', H D = some (.lst acc') → (∀ a o, a ≠ D → H a = some o → H' a = some o) → Pv i acc H → Pv i acc H') (h0 : Pv 0 [] (upd H1 D (.lst [])))
    (hs : ∀ i x acc H H' (N1 : V → Hp → Prop) (N0 : Hp → Prop), i < n → Same H1 H → H D = some (.lst acc) → acc.length ≤ i → Pv i acc H →
      (∀ y H4, Same H H4 → Pv (i + 1) (acc ++ [y]) H4 → N1 y H4) → (∀ H3, Same H H3 → Pv (i + 1) acc H3 → N0 H3) → Y i H x H' →
      g x (wipe σ vs) H' fun σ2 H2 => wipe σ2 vs = wipe σ vs ∧ tt σ2 H2 fun b H3 => if b = true then te σ2 H3 N1 else N0 H3)
    (hd : ∀ acc H', Same H1 H' → H' D = some (.lst acc) → acc.length ≤ n → Pv n acc H' → Qd H') :
    ∃ W : Nat → Nat → Hp → Prop, (∃ m, W 0 m (upd H1 D (.lst []))) ∧ ∀ i m H, W i m H →
      (J.stop i H ∧ Qd H) ∨ (J.go i H ∧ ∃ Nx : Hp → Prop, (∀ H', Nx H' → ∃ m', m' < m ∧ W (i + 1) m' H') ∧ ∀ x H', J.yld i H x H' → g x (wipe σ vs) H' fun σ2 H2 => wipe σ2 vs = wipe σ vs ∧ tt σ2 H2 fun b H3 =>
        if b = true then te σ2 H3 fun y H4 => ∃ acc, H4 D = some (.lst acc) ∧ acc.length < sizeLine ∧ Nx (upd H4 D (.lst (acc ++ [y]))) else Nx H3) := by
  refine lc_it w (fun i H => ∃ acc, Same H1 H ∧ H D = some (.lst acc) ∧ acc.length ≤ i ∧ Pv i acc H) ⟨[], Same.new hD, upd_same, Nat.zero_le _, h0⟩ (fun i H _ ⟨_, s1, _⟩ => hG H s1) ?_ ?_
  · rintro i x H H' hi ⟨acc, s1, hl, ha, hp⟩ hy
    refine hs i x acc H H' _ _ hi s1 hl ha hp (fun y H4 s4 p4 => ?_) (fun H3 s3 p3 => ?_) hy
    · refine ⟨acc, s4 _ _ hl, size_lt (by omega), acc ++ [y], ?_, upd_same, ?_, ?_⟩
      · exact Same.mut (s1.trans s4) hD
      · rw [List.length_append, List.length_singleton]; omega
      · exact hP _ _ _ _ _ (s4 _ _ hl) (fun a o hne e => by rw [upd_ne hne]; exact e) p4
    · exact ⟨acc, s1.trans s3, s3 _ _ hl, by omega, p3⟩
  · rintro H ⟨acc, s1, hl, ha, hp⟩
    exact hd acc H s1 hl ha hp
/-- what leans on tuples alone stays when a list changes -/
theorem prs_but {H H' : Hp} {D : Addr} {acc : List V} (hD : H D = some (.lst acc)) (e : ∀ a o, a ≠ D → H a = some o → H' a = some o) : ∀ {ts : List Addr} {row : Row}, Paired (PrAt H) ts row → Paired (PrAt H') ts row
  | _, _, .nil => .nil
  | _, _, .cons a b => .cons (e _ _ (ne_of a hD (by intro z; cases z)) a) (prs_but hD e b)
end A80
end
section
set_option Elab.async false
set_option maxRecDepth 100000
set_option maxHeartbeats 4000000
namespace A80
open PySem PySem.Spec L2 PyProof.Rows TL
/-! ### the layer's rules with the written part named (within a comprehension its block must not show) -/
section
variable {X : Cx}
theorem ixL (K : PySem.W.Frag) (h : X.K = K := by rfl) : IxR X (rIxL K) := by subst h; exact ix_list
theorem ixT (K : PySem.W.Frag) (h : X.K = K := by rfl) : IxR X (rIxT K) := by subst h; exact ix_tup
theorem ixA (K : PySem.W.Frag) (h : X.K = K := by rfl) : IxR X (rIx K) := by subst h; exact ix_seq
theorem slL (K : PySem.W.Frag) (h : X.K = K := by rfl) : SlR X (rSlL K) := by subst h; exact sl_list
theorem opIn (K : PySem.W.Frag) (h : X.K = K := by rfl) : OpR X (compareOp .In) (rIn K false) := by subst h; exact op_in_seq
theorem opNI (K : PySem.W.Frag) (h : X.K = K := by rfl) : OpR X (compareOp .NotIn) (rIn K true) := by subst h; exact op_notIn_seq
theorem piL (K : PySem.W.Frag) {tg l : Expr} {tl : TE} (hl : PE X l tl) (h : X.K = K := by rfl) : PI X tg l (iList K tl) := by subst h; exact pi_list hl
theorem peF (K : PySem.W.Frag) {e : Expr} {f : Str} {pos : Pos} {ta : TE} (he : PE X e ta) (hb : attributeBase e f X.env (eval e X.env) = eval e X.env) (h : X.K = K := by rfl) : PE X (.Attribute e f pos) (tFld K ta f) := by subst h; exact pe_fld he hb
theorem pgT (K : PySem.W.Frag) {es : List Expr} {k : Nat} {t : TGs} {n : Nat} {pos : Pos} (hc : X.calm = true) (h : PGs X es t) (hn : (assignEach es X.env).length = n := by rfl) (hst : (assignEach es X.env).findIdx? (·.1) = none := by rfl) (hk : X.K = K := by rfl) :
    PG X (.Tuple es k pos) (gTup K n t) := by subst hk; exact pg_tup hc h hn hst
theorem cLen (K : PySem.W.Frag) (h : X.K = K := by rfl) : CallR X (.builtin "len") (fun xs H Q => ∃ p ys, xs = [.ref p] ∧ (SqL K H p ys ∨ SqT K H p ys) ∧ Q (.int ys.length) H) := by subst h; exact call_len_seq
theorem cLst (K : PySem.W.Frag) (h : X.K = K := by rfl) : CallR X (.type "list") (fun xs H Q => ∃ p ys, xs = [.ref p] ∧ (SqL K H p ys ∨ SqT K H p ys) ∧ ∀ l, H l = none → Q (.ref l) (upd H l (.lst ys))) := by subst h; exact call_list_of
theorem cIsi (K : PySem.W.Frag) (h : X.K = K := by rfl) : CallR X (.builtin "isinstance") (rIsi K) := by subst h; exact call_isi
end
/-- range(n) -/
theorem walk_r0 {n : Nat} : Walk (Itr 0 n) n (fun _ => True) (YFn fun i => .int ((i : Nat) : Int)) :=
  walk_range.mono (fun _ h => h) fun i H x H' _ _ y => ⟨y.1, by
    rw [y.2]
    show V.int (0 + (i : Int)) = _
    rw [Int.zero_add]⟩
end A80
end
section
set_option Elab.async false
set_option maxRecDepth 100000
set_option maxHeartbeats 4000000
namespace A80
open PySem PySem.Spec L2 PyProof.Rows TL
/-! ### dicts with text keys -/
section
variable {α : Type}
def kvOf (f : α → V) (l : Al α) : List (L2.Key × V) := l.map fun p => (Sum.inr p.1, f p.2)
def lookS (l : Al α) (k : Str) : Option α := (l.find? fun p => decide (p.1 = k)).map (·.2)
theorem kvOf_len (f : α → V) (l : Al α) : (kvOf f l).length = l.length := List.length_map ..
theorem inr_dec (a b : Str) : decide ((Sum.inr a : L2.Key) = Sum.inr b) = decide (a = b) := decide_eq_decide.mpr ⟨fun h => by cases h; rfl, fun h => by rw [h]⟩
theorem valV_of (f : α → V) (k : Str) : ∀ l : Al α, valV (kvOf f l) (.inr k) = (lookS l k).map f
  | [] => rfl
  | p :: l => by
    have ih := valV_of f k l
    unfold valV kvOf lookS at ih ⊢
    rw [List.map_cons, List.find?_cons, List.find?_cons, inr_dec]
    by_cases h : p.1 = k
    · rw [decide_eq_true h]
      rfl
    · rw [decide_eq_false h]
      exact ih
theorem putK_of (f : α → V) (l : Al α) (k : Str) (v : α) : putK (kvOf f l) (.inr k) (f v) = kvOf f (putS l k v) := by
  unfold putK putS
  have e : ((kvOf f l).any fun kv => decide (kv.1 = Sum.inr k)) = l.any fun p => decide (p.1 = k) := by
    unfold kvOf
    rw [List.any_map]
    congr 1
    funext p
    exact inr_dec _ _
  rw [e]
  split
  · unfold kvOf
    rw [List.map_map, List.map_map]
    refine List.map_congr_left fun p _ => ?_
    show (if (Sum.inr p.1 : L2.Key) = Sum.inr k then _ else _) = (Sum.inr (if p.1 = k then (p.1, v) else p).1, f (if p.1 = k then (p.1, v) else p).2)
    by_cases h : p.1 = k
    · rw [if_pos h, if_pos (by rw [h])]
    · rw [if_neg h, if_neg (fun q => h (by cases q; rfl))]
  · unfold kvOf
    rw [List.map_append]
    rfl
theorem merge_of (f : α → V) : ∀ (m l : Al α), (m.map (·.1)).Nodup → (∀ p ∈ m, p.1 ∉ l.map (·.1)) → mergeK (kvOf f l) (kvOf f m) = kvOf f (l ++ m)
  | [], l, _, _ => by rw [List.append_nil]; rfl
  | p :: m, l, hn, hd => by
    have h1 := List.nodup_cons.mp hn
    show mergeK (putK (kvOf f l) (.inr p.1) (f p.2)) (kvOf f m) = _
    rw [putK_of, putS_new (hd p List.mem_cons_self), merge_of f m _ h1.2, List.append_assoc]
    · rfl
    · intro q hq
      rw [List.map_append, List.mem_append]
      rintro (h | h)
      · exact hd q (List.mem_cons_of_mem _ hq) h
      · have := List.mem_singleton.mp h
        exact h1.1 (List.mem_map.mpr ⟨q, hq, this⟩)
theorem merge_nil (f : α → V) (m : Al α) (hn : (m.map (·.1)).Nodup) : mergeK [] (kvOf f m) = kvOf f m := merge_of f m [] hn fun _ _ => by simp
theorem lookS_mem {l : Al α} {k : Str} {v : α} (h : lookS l k = some v) : (k, v) ∈ l := by
  unfold lookS at h
  obtain ⟨p, h1, h2⟩ := Option.map_eq_some_iff.mp h
  have h3 : p.1 = k := by simpa using List.find?_some h1
  have := List.mem_of_find?_eq_some h1
  rw [← h3, ← h2]
  exact this
theorem lookS_of {l : Al α} {k : Str} {v : α} (hn : (l.map (·.1)).Nodup) (h : (k, v) ∈ l) : lookS l k = some v := by
  induction l with
  | nil => simp at h
  | cons p l ih =>
    have h1 := List.nodup_cons.mp hn
    unfold lookS
    rw [List.find?_cons]
    by_cases e : p.1 = k
    · rw [decide_eq_true e]
      rcases List.mem_cons.mp h with h | h
      · subst h; rfl
      · exact absurd (List.mem_map.mpr ⟨(k, v), h, e.symm⟩) h1.1
    · rw [decide_eq_false e]
      rcases List.mem_cons.mp h with h | h
      · subst h; exact absurd rfl e
      · exact ih h1.2 h
theorem lookS_none {l : Al α} {k : Str} (h : k ∉ l.map (·.1)) : lookS l k = none := by
  cases e : lookS l k with
  | none => rfl
  | some v => exact absurd (List.mem_map.mpr ⟨_, lookS_mem e, rfl⟩) h
theorem lookS_isSome {l : Al α} {k : Str} (h : k ∈ l.map (·.1)) : ∃ v, lookS l k = some v := by
  obtain ⟨p, hp, e⟩ := List.mem_map.mp h
  cases q : lookS l k with
  | some v => exact ⟨v, rfl⟩
  | none =>
    unfold lookS at q
    rw [Option.map_eq_none_iff, List.find?_eq_none] at q
    exact absurd (decide_eq_true e) (q p hp)
end
/-- a dict from texts to ints -/
def DiI (H : Hp) (d : Addr) (P : Al Int) : Prop := H d = some (.dK (kvOf V.int P))
/-- a dict from texts to lists of pairs -/
def DiR (H : Hp) (d : Addr) (A : Al Row) : Prop := ∃ rs : Al Addr, H d = some (.dK (kvOf V.ref rs)) ∧ Paired (fun a b => a.1 = b.1 ∧ RowAt H a.2 b.2) rs A
theorem DiI.same {H H' : Hp} (e : Same H H') {d : Addr} {P : Al Int} (h : DiI H d P) : DiI H' d P := e _ _ h
theorem rws_same {H H' : Hp} (e : Same H H') : ∀ {rs : Al Addr} {A : Al Row}, Paired (fun a b => a.1 = b.1 ∧ RowAt H a.2 b.2) rs A → Paired (fun a b => a.1 = b.1 ∧ RowAt H' a.2 b.2) rs A
  | _, _, .nil => .nil
  | _, _, .cons a b => .cons ⟨a.1, a.2.same e⟩ (rws_same e b)
theorem DiR.same {H H' : Hp} (e : Same H H') {d : Addr} {A : Al Row} (h : DiR H d A) : DiR H' d A := by
  obtain ⟨rs, h1, h2⟩ := h
  exact ⟨rs, e _ _ h1, rws_same e h2⟩
theorem rws_keys {H : Hp} : ∀ {rs : Al Addr} {A : Al Row}, Paired (fun a b => a.1 = b.1 ∧ RowAt H a.2 b.2) rs A → rs.map (·.1) = A.map (·.1)
  | _, _, .nil => rfl
  | _, _, .cons a b => by rw [List.map_cons, List.map_cons, a.1, rws_keys b]
theorem rws_look {H : Hp} {k : Str} : ∀ {rs : Al Addr} {A : Al Row}, Paired (fun a b => a.1 = b.1 ∧ RowAt H a.2 b.2) rs A → ∀ {r : Row}, lookS A k = some r → ∃ a, lookS rs k = some a ∧ RowAt H a r
  | _, _, .nil, r, h => by cases h
  | _, _, @Paired.cons _ _ _ a b l m x y, r, h => by
    unfold lookS at h ⊢
    rw [List.find?_cons] at h ⊢
    by_cases e : b.1 = k
    · rw [decide_eq_true e] at h
      rw [x.1, decide_eq_true e]
      cases h
      exact ⟨_, rfl, x.2⟩
    · rw [decide_eq_false e] at h
      rw [x.1, decide_eq_false e]
      exact rws_look y h
/-- heaps that keep all that is no dict d -/
def Keep (d : Addr) (H H' : Hp) : Prop := ∀ a o, a ≠ d → H a = some o → H' a = some o
theorem Keep.lock {d : Addr} {H : Hp} {o : HO} : Keep d H (upd H d o) := fun a u h e => by rw [upd_ne h]; exact e
theorem Keep.trans {d : Addr} {H H' H'' : Hp} (a : Keep d H H') (b : Keep d H' H'') : Keep d H H'' := fun x o h e => b x o h (a x o h e)
theorem Same.keep {d : Addr} {H H' : Hp} (e : Same H H') : Keep d H H' := fun a o _ h => e a o h
theorem PrAt.keep {d : Addr} {H H' : Hp} {kvs : List (L2.Key × V)} (e : Keep d H H') (hd : H d = some (.dK kvs)) {t : Addr} {q : Int × Int} (h : PrAt H t q) : PrAt H' t q := e _ _ (ne_of h hd (by intro z; cases z)) h
theorem prs_keep {d : Addr} {H H' : Hp} {kvs : List (L2.Key × V)} (e : Keep d H H') (hd : H d = some (.dK kvs)) : ∀ {ts : List Addr} {row : Row}, Paired (PrAt H) ts row → Paired (PrAt H') ts row
  | _, _, .nil => .nil
  | _, _, .cons a b => .cons (a.keep e hd) (prs_keep e hd b)
theorem RowAt.keep {d : Addr} {H H' : Hp} {kvs : List (L2.Key × V)} (e : Keep d H H') (hd : H d = some (.dK kvs)) {a : Addr} {row : Row} (h : RowAt H a row) : RowAt H' a row := by
  obtain ⟨ts, h1, h2⟩ := h
  exact ⟨ts, e _ _ (ne_of h1 hd (by intro z; cases z)) h1, prs_keep e hd h2⟩
theorem rws_keep {d : Addr} {H H' : Hp} {kvs : List (L2.Key × V)} (e : Keep d H H') (hd : H d = some (.dK kvs)) : ∀ {rs : Al Addr} {A : Al Row}, Paired (fun a b => a.1 = b.1 ∧ RowAt H a.2 b.2) rs A → Paired (fun a b => a.1 = b.1 ∧ RowAt H' a.2 b.2) rs A
  | _, _, .nil => .nil
  | _, _, .cons a b => .cons ⟨a.1, a.2.keep e hd⟩ (rws_keep e hd b)
end A80
end
section
set_option Elab.async false
set_option maxRecDepth 100000
set_option maxHeartbeats 4000000
namespace A80
open PySem PySem.Spec L2 PyProof.Rows TL
/-! ### lists as data, for == -/
def pairD (p : Int × Int) : PyData := .tuple [.int p.1, .int p.2]
def rowD (row : Row) : PyData := .list (row.map pairD)
def intsD (ns : List Int) : PyData := .list (ns.map PyData.int)
section
variable {K : PySem.W.Frag} {H : Hp}
theorem dp_pair {t : Addr} {p : Int × Int} (h : PrAt H t p) : Dp K H (.ref t) (pairD p) := .tup (SqT.of h) (.cons (.int _) (.cons (.int _) .nil))
theorem dp_prs : ∀ {ts : List Addr} {row : Row}, Paired (PrAt H) ts row → DpAll K H (ts.map V.ref) (row.map pairD)
  | _, _, .nil => .nil
  | _, _, .cons a b => .cons (dp_pair a) (dp_prs b)
theorem dp_row {a : Addr} {row : Row} (h : RowAt H a row) : Dp K H (.ref a) (rowD row) := by
  obtain ⟨ts, h1, h2⟩ := h
  exact .lst (SqL.of h1) (dp_prs h2)
theorem dp_intsA : ∀ ns : List Int, DpAll K H (ns.map V.int) (ns.map PyData.int)
  | [] => .nil
  | n :: ns => .cons (.int n) (dp_intsA ns)
theorem dp_ints {a : Addr} {ns : List Int} (h : H a = some (.lst (ns.map V.int))) : Dp K H (.ref a) (intsD ns) := .lst (SqL.of h) (dp_intsA ns)
theorem dp_nil {a : Addr} (h : H a = some (.lst [])) : Dp K H (.ref a) (.list []) := .lst (SqL.of h) .nil
end
theorem pairs_shaped : ∀ row : Row, PyData.canLayAll0 (row.map pairD) = true ∧ PyData.depthAll (row.map pairD) ≤ 1
  | [] => ⟨rfl, Nat.zero_le _⟩
  | p :: r => by
    obtain ⟨a, b⟩ := pairs_shaped r
    constructor
    · show (true && PyData.canLayAll0 (r.map pairD)) = true
      rw [a]; rfl
    · show max (PyData.depth (pairD p)) (PyData.depthAll (r.map pairD)) ≤ 1
      have : PyData.depth (pairD p) = 1 := rfl
      omega
theorem shaped_row (row : Row) : SeqAt.shaped (rowD row) = true := by
  obtain ⟨a, b⟩ := pairs_shaped row
  have e1 : PyData.canLay0 (rowD row) = PyData.canLayAll0 (row.map pairD) := rfl
  have e2 : PyData.depth (rowD row) = PyData.depthAll (row.map pairD) + 1 := rfl
  unfold SeqAt.shaped
  rw [e1, e2, a, decide_eq_true (by omega)]
  rfl
theorem ints_shaped : ∀ ns : List Int, PyData.canLayAll0 (ns.map PyData.int) = true ∧ PyData.depthAll (ns.map PyData.int) = 0
  | [] => ⟨rfl, rfl⟩
  | n :: r => by
    obtain ⟨a, b⟩ := ints_shaped r
    constructor
    · show (true && PyData.canLayAll0 (r.map PyData.int)) = true
      rw [a]; rfl
    · show max (PyData.depth (PyData.int n)) (PyData.depthAll (r.map PyData.int)) = 0
      have : PyData.depth (PyData.int n) = 0 := rfl
      omega
theorem shaped_ints (ns : List Int) : SeqAt.shaped (intsD ns) = true := by
  obtain ⟨a, b⟩ := ints_shaped ns
  have e1 : PyData.canLay0 (intsD ns) = PyData.canLayAll0 (ns.map PyData.int) := rfl
  have e2 : PyData.depth (intsD ns) = PyData.depthAll (ns.map PyData.int) + 1 := rfl
  unfold SeqAt.shaped
  rw [e1, e2, a, b]
  rfl
theorem eqv_pairs : ∀ a b : Row, PyData.eqvAll (a.map pairD) (b.map pairD) = decide (a = b)
  | [], [] => rfl
  | [], _ :: _ => rfl
  | _ :: _, [] => rfl
  | p :: a, q :: b => by
    show (PyData.eqv (pairD p) (pairD q) && PyData.eqvAll (a.map pairD) (b.map pairD)) = _
    rw [eqv_pairs a b]
    have : PyData.eqv (pairD p) (pairD q) = decide (p = q) := by
      show ((p.1 == q.1) && ((p.2 == q.2) && true)) = _
      rw [Bool.and_true, Bool.eq_iff_iff]
      simp [Prod.ext_iff]
    rw [this, Bool.eq_iff_iff]
    simp
theorem eqv_row (a b : Row) : PyData.eqv (rowD a) (rowD b) = decide (a = b) := eqv_pairs a b
theorem eqv_ints0 (ns : List Int) : PyData.eqv (intsD ns) (.list []) = decide (ns = []) := by
  cases ns <;> rfl
theorem rowD_nil : rowD [] = .list [] := rfl
end A80
end
section
set_option Elab.async false
set_option maxRecDepth 100000
set_option maxHeartbeats 4000000
namespace A80
open PySem PySem.Spec L2 PyProof.Rows TL
theorem keepG_cons (v : Int) (e : Int × Int) (r : Row) : keepG v (e :: r) = if e.2 = v then keepG v r else e :: keepG e.2 r := rfl
/-! ### sorted rows -/
def prOf (H : Hp) : V → Int × Int
  | .ref t => match H t with
    | some (.tup [.int i, .int j]) => (i, j)
    | _ => (0, 0)
  | _ => (0, 0)
theorem prOf_at {H : Hp} {t : Addr} {q : Int × Int} (h : PrAt H t q) : prOf H (.ref t) = q := by
  show (match H t with | some (.tup [.int i, .int j]) => (i, j) | _ => (0, 0)) = q
  unfold PrAt at h
  rw [h]
theorem prs_map {H : Hp} : ∀ {ts : List Addr} {row : Row}, Paired (PrAt H) ts row → row = ts.map fun t => prOf H (.ref t)
  | _, _, .nil => rfl
  | _, _, .cons a b => by
    rw [List.map_cons, prOf_at a, ← prs_map b]
theorem prs_of {H : Hp} : ∀ {ts : List Addr}, (∀ t ∈ ts, ∃ q, PrAt H t q) → Paired (PrAt H) ts (ts.map fun t => prOf H (.ref t))
  | [], _ => .nil
  | t :: ts, h => by
    obtain ⟨q, hq⟩ := h t List.mem_cons_self
    rw [List.map_cons]
    refine .cons ?_ (prs_of fun u hu => h u (List.mem_cons_of_mem _ hu))
    rw [prOf_at hq]
    exact hq
theorem refs_of : ∀ {ys : List V} {ts : List Addr}, (∀ y ∈ ys, y ∈ ts.map V.ref) → ∃ us : List Addr, ys = us.map V.ref ∧ ∀ u ∈ us, u ∈ ts
  | [], _, _ => ⟨[], rfl, fun u hu => by simp at hu⟩
  | y :: ys, ts, h => by
    obtain ⟨us, e, hu⟩ := refs_of (ys := ys) (ts := ts) fun z hz => h z (List.mem_cons_of_mem _ hz)
    obtain ⟨t, ht, rfl⟩ := List.mem_map.mp (h y List.mem_cons_self)
    refine ⟨t :: us, by rw [List.map_cons, e], fun u hu2 => ?_⟩
    rcases List.mem_cons.mp hu2 with q | q
    · rw [q]; exact ht
    · exact hu u q
theorem ref_inj : Function.Injective V.ref := fun a b h => by cases h; rfl
/-- what sorted gives of a row whose places are different -/
theorem sorted_row {H : Hp} {ts : List Addr} {row : Row} (hp : Paired (PrAt H) ts row) (hn : (row.map (·.1)).Nodup) {ys : List V} (h1 : SrtO.Srtd (ltP (prOf H)) ys) (h2 : SrtO.Stb (ltP (prOf H)) ys (ts.map V.ref)) :
    ∃ us : List Addr, ys = us.map V.ref ∧ Paired (PrAt H) us (sortA row) := by
  obtain ⟨us, rfl, hu⟩ := refs_of (ys := ys) (ts := ts) fun y hy => h2.perm.mem_iff.mp hy
  have hat : ∀ u ∈ us, ∃ q, PrAt H u q := fun u hm => by
    obtain ⟨i, hi⟩ := List.getElem?_of_mem (hu u hm)
    obtain ⟨q, _, hq⟩ := paired_get hp hi
    exact ⟨q, hq⟩
  have hpu := prs_of hat
  have eperm : (us.map fun t => prOf H (.ref t)).Perm row := by
    have := h2.perm.map (prOf H)
    rw [List.map_map, List.map_map] at this
    rw [prs_map hp]
    exact this
  have hn2 : ((us.map fun t => prOf H (.ref t)).map (·.1)).Nodup := (eperm.map _).nodup_iff.mpr hn
  have hasc : Asc (us.map fun t => prOf H (.ref t)) := by
    have a1 : (us.map fun t => prOf H (.ref t)).Pairwise fun a b => SrtO.lexB b a = false := List.pairwise_map.mpr (List.pairwise_map.mp h1)
    have a2 : (us.map fun t => prOf H (.ref t)).Pairwise fun a b => a.1 ≠ b.1 := List.pairwise_map.mp hn2
    exact (a1.and a2).imp fun {a b} q => by
      have := SrtO.lexB_no.mp q.1
      have := q.2
      omega
  rw [sortA_eq eperm hasc]
  exact ⟨us, rfl, hpu⟩
/-- what cr_sortedPO asks of a row -/
theorem row_items {H : Hp} {ts : List Addr} {row : Row} (hp : Paired (PrAt H) ts row) : ∀ x ∈ ts.map V.ref, ∃ t, x = V.ref t ∧ H t = some (.tup [.int (prOf H x).1, .int (prOf H x).2]) := fun x hx => by
  obtain ⟨t, ht, rfl⟩ := List.mem_map.mp hx
  obtain ⟨i, hi⟩ := List.getElem?_of_mem ht
  obtain ⟨q, _, hq⟩ := paired_get hp hi
  refine ⟨t, rfl, ?_⟩
  rw [prOf_at hq]
  exact hq
theorem ixN_last (n : Nat) : ixN (n + 1) (-1) = some n := by
  unfold ixN
  rw [if_neg (by omega), if_pos (by omega)]
  congr 1
  omega
theorem atI_last' {α : Type} (l : List α) (a : α) : atI (l ++ [a]) (-1) = some a := by
  unfold atI
  rw [List.length_append, List.length_singleton, ixN_last]
  show (l ++ [a])[l.length]? = some a
  rw [List.getElem?_append_right (Nat.le_refl _), Nat.sub_self]
  rfl
theorem paired_nil_left {α β : Type} {R : α → β → Prop} {m : List β} (h : Paired R [] m) : m = [] := by cases h; rfl
theorem paired_mem {α β : Type} {R : α → β → Prop} {l : List α} {m : List β} {a : α} (h : Paired R l m) (ha : a ∈ l) : ∃ b ∈ m, R a b := by
  obtain ⟨i, hi⟩ := List.getElem?_of_mem ha
  obtain ⟨b, hb, hr⟩ := paired_get h hi
  exact ⟨b, List.mem_of_getElem? hb, hr⟩
/-! ### least_row -/
def spLeast : Sp := fun vs H Q _ => ∃ (a : Addr) (row : Row), vs = [.ref a] ∧ RowAt H a row ∧ row ≠ [] ∧ (row.map (·.1)).Nodup ∧ row.length ≤ 100000 ∧ ∀ p H', Same H H' → H p = none → RowAt H' p (leastOf row) → Q (.ref p) H'
abbrev S_least_row : Stmt := topS 11
theorem sc_least_row : FnScope ["row", "entries", "kept", "entry", "first"] ["row"] (defScope S_least_row) := ⟨rfl, rfl, rfl, by decide +kernel, rfl, by decide +kernel, by decide +kernel⟩
section
variable {P : Program} {w : World} {K : PySem.W.Frag} {mg : Str → Option Value} {base : Heap} {CS : Addr}
theorem cl_least_row (T : Tx K mg CS) (D : Df K mg "least_row" S_least_row ["row"]) : Cl P w K mg base 1 "least_row" spLeast := by
  have sc := sc_least_row
  refine cl_mk D sc (fun vs H Q E h => ?_) (fun f cdv A outer s H vs Q E hr h => ?_)
  · obtain ⟨a, row, rfl, _⟩ := h
    rfl
  · obtain ⟨a, row, rfl, ⟨ts, hl, hp⟩, hne, hnd, hz, k⟩ := h
    refine ⟨_, (pss_cons (ps_set (i := 1) sc.nd rfl (Or.inl rfl) (pe_callB cr_sortedPO (by rfl) T.b_sorted (by decide +kernel) (pa_cons (pv 0) pa_nil)))
      (pss_cons (ps_set (i := 2) sc.nd rfl (Or.inl rfl) (pe_lst (pa_cons (pe_ix (ixL K) (pv 1) pe_int (fun _ _ => rfl)) pa_nil)))
      (pss_cons (ps_for PassesOwn.never rfl (piL K (pe_slice (slL K) (pv 1) (po_some pe_int) po_none)) (pg_name (i := 3) sc.nd rfl (Or.inl rfl))
      (pss_one (ps_if (pt_cmpR op_ne (pe_ix (ixT K) (pv 3) pe_int (fun _ _ => rfl)) (pe_ix (ixT K) (pe_ix (ixL K) (pv 2) (pe_un un_neg pe_int) (fun _ _ => rfl)) pe_int (fun _ _ => rfl)) (nomark _))
      (pss_one (ps_expr (pe_bm PySem.F.plainAttrs_list PySem.F.slot_list_append PySem.F.type_list_append mt_append (pv 2) (pa_cons (pv 3) pa_nil))))
      pss_nil)))
      (pss_cons (ps_set (i := 4) sc.nd rfl (Or.inl rfl) pe_int)
      (C8.pss_cut (ps_if (pt_cmpR op_gt (pe_callB (cLen K) (by rfl) T.b_len (by decide +kernel) (pa_cons (pv 2) pa_nil)) pe_int (nomark _))
      (pss_one (ps_set (i := 4) sc.nd rfl (Or.inl rfl) (pe_op op_sub (pe_ix (ixT K) (pe_ix (ixL K) (pv 2) pe_int (fun _ _ => rfl)) pe_int (fun _ _ => rfl)) pe_int)))
      pss_nil)
      (pss_cons (ps_asg (pe_tup (pa_cons (pv 4) (pa_cons (pe_ix (ixT K) (pe_ix (ixL K) (pv 2) pe_int (fun _ _ => rfl)) pe_int (fun _ _ => rfl)) pa_nil))) (pg_sub (pv 2) pe_int set_list))
      (pss_one (ps_ret (pv 2))))))))), ?_⟩
    -- entries = sorted(row)
    refine ⟨_, rfl, a, _, prOf H, rfl, SqL.of hl, row_items hp, fun ys b h1 h2 hb => ?_⟩
    obtain ⟨us, rfl, hu⟩ := sorted_row hp hnd h1 h2
    obtain ⟨e, r, er⟩ : ∃ e r, sortA row = e :: r := by
      cases q : sortA row with
      | nil =>
        have := (sortA_perm row).length_eq
        rw [q] at this
        exact absurd (List.length_eq_zero_iff.mp this.symm) hne
      | cons e r => exact ⟨e, r, rfl⟩
    rw [er] at hu
    cases hu with
    | @cons u _ us _ hu0 hu1 =>
      have s1 : L2.Same H (upd H b (.lst ((u :: us).map V.ref))) := Same.new hb
      have hbl : upd H b (.lst ((u :: us).map V.ref)) b = some (.lst ((u :: us).map V.ref)) := upd_same
      obtain ⟨H1, e1⟩ : ∃ H1, H1 = upd H b (.lst ((u :: us).map V.ref)) := ⟨_, rfl⟩
      rw [← e1] at s1 hbl ⊢
      have hu0 := PrAt.same s1 hu0
      have hu1 := prs_same s1 hu1
      -- kept = [entries[0]]
      refine ⟨_, rfl, b, _, 0, _, rfl, rfl, SqL.of hbl, atI_get (i := 0) rfl, size_le (by show 1 ≤ _; omega), fun d hd => ?_⟩
      have nbd : b ≠ d := ne_of_none hbl hd
      -- for entry in entries[1:]
      refine ⟨_, rfl, 1, rfl, b, _, rfl, SqL.of (by rw [upd_ne nbd]; exact hbl), fun c hc => ?_⟩
      have ncd : c ≠ d := fun z => by rw [z, upd_same] at hc; cases hc
      have hc0 : H1 c = none := by rw [upd_ne ncd] at hc; exact hc
      have ecut : cutV ((u :: us).map V.ref) (some 1) none = us.map V.ref := by
        rw [show (1 : Int) = ((1 : Nat) : Int) from rfl, cutV_drop]
        rfl
      rw [ecut]
      have stay : ∀ H', L2.Same H1 H' → ∀ t q, PrAt H1 t q → PrAt H' t q := fun H' s t q h => PrAt.same s h
      refine ⟨c, rfl, ⟨_, SqL.of upd_same⟩, for_it walk_list (fun i σ H' => ∃ (v : Option V) (ks : List Addr) (t : Addr) (kr : Row) (z : Int × Int), σ = [some (.ref a), some (.ref b), some (.ref d), v, none] ∧ L2.Same H1 H' ∧
          H' c = some (.lst (us.map V.ref)) ∧ H' d = some (.lst ((ks ++ [t]).map V.ref)) ∧ Paired (PrAt H1) (ks ++ [t]) (kr ++ [z]) ∧ (ks ++ [t]).length ≤ i + 1 ∧ kr ++ z :: keepG z.2 (r.drop i) = e :: keepG e.2 r)
        ⟨none, [], u, [], e, rfl, ?_, upd_same, ?_, .cons hu0 .nil, Nat.le_refl _, rfl⟩ (fun i σ H' _ ⟨_, _, _, _, _, _, _, h, _⟩ => SqL.of h) ?_ ?_⟩
      · exact Same.mut (Same.new hd) hc0
      · rw [upd_ne ncd.symm, upd_same]
        rfl
      · rintro i x σ H2 H3 hi ⟨v, ks, t, kr, z, rfl, s2, hcl, hdl, hks, hkl, hk⟩ ⟨rfl, hx⟩
        obtain ⟨g, hg, rfl⟩ := get_map_ref hx
        obtain ⟨q, hq, hgq⟩ := paired_get hu1 hg
        have hzt : PrAt H1 t z := by
          have e2 : (ks ++ [t])[ks.length]? = some t := by rw [List.getElem?_append_right (Nat.le_refl _), Nat.sub_self]; rfl
          obtain ⟨z', e3, e4⟩ := paired_get hks e2
          have hlen := paired_len hks
          rw [List.length_append, List.length_append, List.length_singleton, List.length_singleton] at hlen
          rw [show ks.length = kr.length by omega, List.getElem?_append_right (Nat.le_refl _), Nat.sub_self] at e3
          have : z' = z := by cases e3; rfl
          rw [← this]
          exact e4
        have hdr : r.drop i = q :: r.drop (i + 1) := by
          obtain ⟨a1, a2⟩ := List.getElem?_eq_some_iff.mp hq
          rw [List.drop_eq_getElem_cons a1, a2]
        rw [hdr, keepG_cons] at hk
        -- if entry[1] != kept[-1][1]: kept.append(entry)
        refine ⟨_, rfl, _, _, 1, _, rfl, rfl, SqT.of (PrAt.same s2 hgq), atI_get (i := 1) rfl, _, rfl, _, rfl, d, _, -1, .ref t, rfl, rfl, SqL.of hdl, ?_, t, _, 1, _, rfl, rfl, SqT.of (PrAt.same s2 hzt), atI_get (i := 1) rfl, rfl, _, rfl, ite_b (fun cc => ?_) (fun cc => ?_)⟩
        · rw [List.map_append]
          exact atI_last' _ _
        · have cc : q.2 ≠ z.2 := fun h => by rw [h] at cc; simp at cc
          refine ⟨_, rfl, .inl ⟨rfl, _, SqL.of hdl⟩, _, rfl, d, _, _, rfl, rfl, hdl, ?_, ?_⟩
          · rw [List.length_map]
            have := paired_len hu1
            have : us.length ≤ 100000 := by
              have h5 := (sortA_perm row).length_eq
              rw [er, List.length_cons] at h5
              omega
            have hi' : i < us.length := by
              rw [List.length_map] at hi
              exact hi
            exact size_lt (by omega)
          · refine ⟨_, ks ++ [t], g, kr ++ [z], q, rfl, Same.mut s2 ?_, ?_, ?_, ?_, ?_, ?_⟩
            · exact hd
            · rw [upd_ne ncd]; exact hcl
            · rw [upd_same, List.map_append (l₁ := ks ++ [t])]
              rfl
            · exact paired_snoc hks hgq
            · rw [List.length_append, List.length_singleton]; omega
            · rw [if_neg cc] at hk
              rw [List.append_assoc]
              exact hk
        · have cc : q.2 = z.2 := Classical.byContradiction fun h => by rw [dec_int, decide_eq_false h] at cc; simp at cc
          refine ⟨_, ks, t, kr, z, rfl, s2, hcl, hdl, hks, by omega, ?_⟩
          rw [if_pos cc] at hk
          exact hk
      · rintro σ H2 ⟨v, ks, t, kr, z, rfl, s2, hcl, hdl, hks, hkl, hk⟩
        have hrl : (us.map V.ref).length = r.length := by rw [List.length_map]; exact paired_len hu1
        rw [hrl, List.drop_length] at hk
        -- the list that was kept
        obtain ⟨k0, ks', ek⟩ : ∃ k0 ks', ks ++ [t] = k0 :: ks' := by
          cases q : ks ++ [t] with
          | nil => simp at q
          | cons x y => exact ⟨x, y, rfl⟩
        have hkk : kr ++ [z] = e :: keepG e.2 r := hk
        rw [ek] at hdl hks
        rw [hkk] at hks
        cases hks with
        | cons hk0 hks' =>
          have hleast : leastOf row = leastK e.2 (keepG e.2 r) := by unfold leastOf; rw [er]; rfl
          -- first = 0; if len(kept) > 1: first = kept[1][0] - 1
          refine ⟨fun σ H' => H' = H2 ∧ ∃ fi : Int, σ = [some (.ref a), some (.ref b), some (.ref d), v, some (.int fi)] ∧ leastK e.2 (keepG e.2 r) = (fi, e.2) :: keepG e.2 r, ?_, ?_⟩
          · refine ⟨_, rfl, d, _, rfl, .inl (SqL.of hdl), _, _, rfl, rfl, _, rfl, ite_b (fun cc => ?_) (fun cc => ?_)⟩
            · cases hkg : keepG e.2 r with
              | nil =>
                rw [hkg] at hks'
                have : ks' = [] := by cases hks'; rfl
                rw [this] at cc
                have := of_decide_eq_true cc
                simp at this
              | cons f2 s2' =>
                rw [hkg] at hks'
                cases hks' with
                | @cons m _ ms _ hm0 hm1 =>
                  refine ⟨_, rfl, d, _, 1, .ref m, rfl, rfl, SqL.of hdl, atI_get (i := 1) rfl, m, _, 0, _, rfl, rfl, SqT.of (PrAt.same s2 hm0), atI_get (i := 0) rfl, _, _, rfl, rfl, ?_⟩
                  exact ⟨rfl, _, rfl, rfl⟩
            · cases hkg : keepG e.2 r with
              | nil => exact ⟨rfl, 0, rfl, rfl⟩
              | cons f2 s2' =>
                rw [hkg] at hks'
                cases hks' with
                | @cons m _ ms _ hm0 hm1 =>
                  exfalso
                  have := of_decide_eq_false cc
                  rw [List.length_map, List.length_cons, List.length_cons] at this
                  omega
          · rintro σ H3 ⟨rfl, fi, rfl, hfi⟩
            -- kept[0] = (first, kept[0][1]); return kept
            refine ⟨_, rfl, _, rfl, d, _, 0, .ref k0, rfl, rfl, SqL.of hdl, atI_get (i := 0) rfl, k0, _, 1, _, rfl, rfl, SqT.of (PrAt.same s2 hk0), atI_get (i := 1) rfl, size_le (by show 2 ≤ _; omega), fun n hn => ?_⟩
            have ndn : d ≠ n := ne_of_none hdl hn
            refine ⟨_, rfl, d, _, 0, 0, rfl, rfl, by rw [upd_ne ndn]; exact hdl, by unfold ixN; rw [if_pos (by omega), if_pos (by rw [List.length_map, List.length_cons]; omega)]; rfl, ?_⟩
            have sN : L2.Same H1 (upd H3 n (.tup [.int fi, .int e.2])) := Same.step s2 hn
            have sF : L2.Same H1 (upd (upd H3 n (.tup [.int fi, .int e.2])) d (.lst (((k0 :: ks').map V.ref).set 0 (.ref n)))) := Same.mut sN hd
            refine ⟨_, rfl, k d _ (s1.trans sF) (s1.free hd) ⟨n :: ks', upd_same, ?_⟩⟩
            rw [hleast, hfi]
            refine .cons ?_ (prs_same sF hks')
            show upd _ d _ n = _
            rw [upd_ne ndn.symm]
            exact upd_same
end
end A80
end
section
set_option Elab.async false
set_option maxRecDepth 100000
set_option maxHeartbeats 4000000
namespace A80
open PySem PySem.Spec L2 PyProof.Rows TL
/-! ### _law_head, _law_figure, _law_draws -/
abbrev S_law_head : Stmt := topS 33
theorem sc_law_head : FnScope ["_law_text", "_law_many", "_law_sign"] ["_law_text"] (defScope S_law_head) := ⟨rfl, rfl, rfl, by decide +kernel, rfl, by decide +kernel, by decide +kernel⟩
abbrev S_law_figure : Stmt := topS 22
theorem sc_law_figure : FnScope ["_law_script", "_law_at", "_law_figure_here"] ["_law_script", "_law_at"] (defScope S_law_figure) := ⟨rfl, rfl, rfl, by decide +kernel, rfl, by decide +kernel, by decide +kernel⟩
abbrev S_law_draws : Stmt := topS 23
theorem sc_law_draws : FnScope ["_law_script", "_law_at", "_law_limits", "_law_figure_here", "_law_rest", "_law_drawn", "_law_k", "_law_stir"] ["_law_script", "_law_at", "_law_limits"] (defScope S_law_draws) := ⟨rfl, rfl, rfl, by decide +kernel, rfl, by decide +kernel, by decide +kernel⟩
/-- letters that begin a text -/
def headN : List Nat → Nat
  | [] => 0
  | c :: r => if isLet c = true then headN r + 1 else 0
theorem headN_take : ∀ (l : List Nat) (i : Nat), (∀ c ∈ l.take i, isLet c = true) → i ≤ l.length → headN l = i + headN (l.drop i)
  | _, 0, _, _ => by rw [List.drop_zero, Nat.zero_add]
  | [], i + 1, _, h => by simp at h
  | c :: r, i + 1, h, hl => by
    have hc := h c (by rw [List.take_succ_cons]; exact List.mem_cons_self)
    have := headN_take r i (fun d hd => h d (by rw [List.take_succ_cons]; exact List.mem_cons_of_mem _ hd)) (by simpa using hl)
    show (if isLet c = true then headN r + 1 else 0) = i + 1 + headN (r.drop i)
    rw [if_pos hc, this]
    omega
theorem headN_le : ∀ l : List Nat, headN l ≤ l.length
  | [] => Nat.le_refl _
  | c :: r => by
    have := headN_le r
    show (if isLet c = true then headN r + 1 else 0) ≤ r.length + 1
    split <;> omega
theorem headN_all : ∀ l : List Nat, headN l = l.length ↔ l.all isLet = true
  | [] => by simp [headN]
  | c :: r => by
    have := headN_all r
    have := headN_le r
    show (if isLet c = true then headN r + 1 else 0) = r.length + 1 ↔ _
    rw [List.all_cons, Bool.and_eq_true]
    by_cases h : isLet c = true
    · rw [if_pos h]
      constructor
      · intro q; exact ⟨h, headN_all r |>.mp (by omega)⟩
      · intro q; have := (headN_all r).mpr q.2; omega
    · rw [if_neg h]
      constructor
      · intro q; omega
      · intro q; exact absurd q.1 h
theorem _root_.L2.SqL.sm {K : PySem.W.Frag} {H H' : Hp} {a : Addr} {xs : List V} (h : SqL K H a xs) (e : Same H H') : SqL K H' a xs := h.ext e
def spHead : Sp := fun vs H Q _ => ∃ x : Str, vs = [.str x] ∧ x.length ≤ 1000000 ∧ Q (.int (headN (tl x))) H
def spFigure (K : PySem.W.Frag) : Sp := fun vs H Q _ => ∃ (a : Addr) (k : Int) (ns : List Int), vs = [.ref a, .int k] ∧ SqL K H a (ns.map V.int) ∧ 0 ≤ k ∧ ∀ n : Int, Q (.int n) H
def spDraws (K : PySem.W.Frag) : Sp := fun vs H Q _ => ∃ (a : Addr) (k : Int) (ns : List Int) (l : Addr) (ls : List Int), vs = [.ref a, .int k, .ref l] ∧ SqL K H a (ns.map V.int) ∧ 0 ≤ k ∧ H l = some (.lst (ls.map V.int)) ∧ (∀ x ∈ ls, 0 < x ∧ x < 1073741824) ∧ ls.length ≤ 10000 ∧
  ∀ (p : Addr) (H' : Hp) (ds : List Int), Same H H' → H p = none → H' p = some (.lst (ds.map V.int)) → Paired (fun d x => 0 ≤ d ∧ d < x) ds ls → Q (.ref p) H'
section
variable {P : Program} {w : World} {K : PySem.W.Frag} {mg : Str → Option Value} {base : Heap} {CS : Addr}
theorem cl_law_head (T : Tx K mg CS) (D : Df K mg "_law_head" S_law_head ["_law_text"]) : Cl P w K mg base 1 "_law_head" spHead := by
  have sc := sc_law_head
  refine cl_mk D sc (fun vs H Q E h => ?_) (fun f cdv A outer s H vs Q E hr h => ?_)
  · obtain ⟨x, rfl, _⟩ := h
    rfl
  · obtain ⟨x, rfl, hl, k⟩ := h
    refine ⟨_, (pss_cons (ps_set (i := 1) sc.nd rfl (Or.inl rfl) pe_int)
      (pss_cons (ps_for PassesOwn.never rfl (pi_str (pv 0)) (pg_name (i := 2) sc.nd rfl (Or.inl rfl))
      (pss_cons (ps_if (pt_cmpR op_notIn_sign (pv 2) pe_str rfl)
      (pss_one ps_break)
      pss_nil)
      (pss_one (ps_set (i := 1) sc.nd rfl (Or.inl rfl) (pe_op op_add (pv 1) pe_int)))))
      (pss_one (ps_ret (pv 1))))), ?_⟩
    refine ⟨_, rfl, x, rfl, for_str (fun i σ H' => H' = H ∧ ∃ v, σ = [some (.str x), some (.int (i : Nat)), v] ∧ ∀ c ∈ (tl x).take i, isLet c = true) ⟨rfl, _, rfl, fun c hc => by simp at hc⟩ ?_ ?_⟩
    · rintro i c σ H' hc ⟨rfl, v, rfl, hp⟩
      have hi : i < (tl x).length := (List.getElem?_eq_some_iff.mp hc).1
      refine ⟨_, rfl, c, _, rfl, rfl, _, rfl, ite_b (fun q => ?_) (fun q => ?_)⟩
      · have q : isLet c = false := by
          have : (!decide (c ∈ tl (Str.ofString "abcdefghijklmnopqrstuvwxyz"))) = true := q
          rw [mem_letters] at this
          simpa using this
        refine ⟨_, rfl, ?_⟩
        have e := headN_take _ _ hp (Nat.le_of_lt hi)
        rw [(List.drop_eq_getElem_cons hi), show (tl x)[i] = c from (List.getElem?_eq_some_iff.mp hc).2] at e
        have e2 : headN (tl x) = i := by
          rw [e]
          show i + (if isLet c = true then headN _ + 1 else 0) = i
          rw [q, if_neg Bool.false_ne_true, Nat.add_zero]
        rw [e2] at k
        exact k
      · have q : isLet c = true := by
          have : (!decide (c ∈ tl (Str.ofString "abcdefghijklmnopqrstuvwxyz"))) = false := q
          rw [mem_letters] at this
          simpa using this
        refine ⟨_, rfl, _, _, rfl, rfl, rfl, _, rfl, fun d hd => ?_⟩
        rw [take_succ_get hc] at hd
        rcases List.mem_append.mp hd with z | z
        · exact hp d z
        · rw [List.mem_singleton.mp z]; exact q
    · rintro σ H' ⟨rfl, v, rfl, hp⟩
      refine ⟨_, rfl, ?_⟩
      rw [List.take_length] at hp
      have : headN (tl x) = (tl x).length := (headN_all _).mpr (List.all_eq_true.mpr hp)
      rw [this] at k
      exact k
theorem cl_law_figure (T : Tx K mg CS) (D : Df K mg "_law_figure" S_law_figure ["_law_script", "_law_at"]) : Cl P w K mg base 1 "_law_figure" (spFigure K) := by
  have sc := sc_law_figure
  refine cl_mk D sc (fun vs H Q E h => ?_) (fun f cdv A outer s H vs Q E hr h => ?_)
  · obtain ⟨a, k, ns, rfl, _⟩ := h
    rfl
  · obtain ⟨a, j, ns, rfl, hl, h0, k⟩ := h
    refine ⟨_, (pss_cons (ps_set (i := 2) sc.nd rfl (Or.inl rfl) pe_int)
      (C8.pss_cut (ps_if (pt_cmpR op_lt (pv 1) (pe_callB (cLen K) (by rfl) T.b_len (by decide +kernel) (pa_cons (pv 0) pa_nil)) (nomark _))
      (pss_one (ps_set (i := 2) sc.nd rfl (Or.inl rfl) (pe_ix (ixL K) (pv 0) (pv 1) (fun _ _ => rfl))))
      pss_nil)
      (C8.pss_cut (ps_if (pt_cmpR op_lt (pv 2) pe_int (nomark _))
      (pss_one (ps_set (i := 2) sc.nd rfl (Or.inl rfl) (pe_op op_sub (pe_un un_neg pe_int) (pe_op op_mul pe_int (pv 2)))))
      pss_nil)
      (pss_one (ps_ret (pe_op op_mod (pe_callTy call_int1 (by rfl) T.b_int (by decide +kernel) (pa_cons (pv 2) pa_nil)) (pe_op op_mulW (pe_op op_mulW (pe_op op_pow pe_int pe_int) (pe_op op_pow pe_int pe_int)) (pe_op op_pow pe_int pe_int)))))))), ?_⟩
    refine ⟨fun σ H' => H' = H ∧ ∃ n : Int, σ = [some (.ref a), some (.int j), some (.int n)], ?_, ?_⟩
    · refine ⟨_, rfl, _, rfl, a, _, rfl, .inl (hl), _, _, rfl, rfl, _, rfl, ite_b (fun c => ?_) (fun c => ⟨rfl, _, rfl⟩)⟩
      have c := of_decide_eq_true c
      rw [List.length_map] at c
      obtain ⟨v, hv⟩ : ∃ v, ns[j.toNat]? = some v := ⟨ns[j.toNat]'(by omega), List.getElem?_eq_getElem (by omega)⟩
      exact ⟨_, rfl, _, rfl, a, _, _, .int v, rfl, rfl, hl, atI_pos h0 (by rw [List.getElem?_map, hv]; rfl), rfl, _, rfl⟩
    rintro σ H' ⟨rfl, n, rfl⟩
    refine ⟨fun σ H'' => H'' = H' ∧ ∃ n : Int, σ = [some (.ref a), some (.int j), some (.int n)], ?_, ?_⟩
    · refine ⟨_, rfl, _, _, rfl, rfl, _, rfl, ite_b (fun c => ?_) (fun c => ⟨rfl, _, rfl⟩)⟩
      exact ⟨_, rfl, _, rfl, _, _, rfl, rfl, .inl (by decide), _, _, rfl, rfl, rfl, _, rfl⟩
    rintro σ H'' ⟨rfl, n, rfl⟩
    refine ⟨_, rfl, .inl ⟨_, rfl, _, _, rfl, rfl, ⟨by decide, by decide, by decide⟩, _, _, rfl, rfl, ⟨by decide, by decide, by decide⟩, _, _, rfl, rfl, wide_mul (a := 200) (b := 200) (by decide +kernel) (by decide +kernel) (by decide) (by decide) (by decide),
      _, _, rfl, rfl, ⟨by decide, by decide, by decide⟩, _, _, rfl, rfl, wide_mul (a := 400) (b := 200) (by decide +kernel) (by decide +kernel) (by decide) (by decide) (by decide), _, _, rfl, rfl, (show (0 : Int) < 10 ^ Int.toNat 60 * 10 ^ Int.toNat 60 * 10 ^ Int.toNat 60 by decide +kernel), k _⟩⟩
theorem cl_law_draws (T : Tx K mg CS) (D : Df K mg "_law_draws" S_law_draws ["_law_script", "_law_at", "_law_limits"]) (c_law_figure : Cl P w K mg base 1 "_law_figure" (spFigure K)) : Cl P w K mg base 2 "_law_draws" (spDraws K) := by
  have sc := sc_law_draws
  refine cl_mk D sc (fun vs H Q E h => ?_) (fun f cdv A outer s H vs Q E hr h => ?_)
  · obtain ⟨a, k, ns, l, ls, rfl, _⟩ := h
    rfl
  · obtain ⟨a, j, ns, l, ls, rfl, hl, h0, hls, hlim, hz, k⟩ := h
    refine ⟨_, (pss_cons (ps_set (i := 3) sc.nd rfl (Or.inl rfl) (pe_c c_law_figure hr (by decide) rfl (pa_cons (pv 0) (pa_cons (pv 1) pa_nil))))
      (pss_cons (ps_set (i := 4) sc.nd rfl (Or.inl rfl) (pe_op op_sub (pv 3) (pe_op op_pow pe_int pe_int)))
      (pss_cons (ps_set (i := 5) sc.nd rfl (Or.inl rfl) (pe_lst pa_nil))
      (pss_cons (ps_for PassesOwn.never rfl (pi_range1 rfl T.b_range (pa_cons (pe_callB (cLen K) (by rfl) T.b_len (by decide +kernel) (pa_cons (pv 2) pa_nil)) pa_nil)) (pg_name (i := 6) sc.nd rfl (Or.inl rfl))
      (pss_cons (ps_set (i := 7) sc.nd rfl (Or.inl rfl) (pe_op op_mod (pe_callTy call_int1 (by rfl) T.b_int (by decide +kernel) (pa_cons (pe_op op_add (pe_op op_add (pe_op op_mul (pv 3) (pe_op op_add pe_int (pe_op op_mul (pe_op op_mul pe_int (pv 6)) (pv 6)))) (pe_op op_mul (pe_op op_add (pv 6) pe_int) pe_int)) (pe_op op_mul (pv 1) pe_int)) pa_nil)) pe_int))
      (pss_cons (ps_set (i := 7) sc.nd rfl (Or.inl rfl) (pe_op op_fdiv (pe_op op_mod (pe_callTy call_int1 (by rfl) T.b_int (by decide +kernel) (pa_cons (pe_op op_add (pe_op op_add (pe_op op_mul (pv 7) (pv 7)) (pe_op op_mul pe_int (pv 6))) (pv 3)) pa_nil)) pe_int) pe_int))
      (C8.pss_cut (ps_if (pt_cmpR op_ge (pv 3) (pe_op op_pow pe_int pe_int) (nomark _))
      (pss_cons (ps_set (i := 7) sc.nd rfl (Or.inl rfl) (pv 4))
      (pss_one (ps_set (i := 4) sc.nd rfl (Or.inl rfl) (pe_op op_fdiv (pv 4) (pe_ix (ixL K) (pv 2) (pv 6) (fun _ _ => rfl))))))
      pss_nil)
      (pss_one (ps_expr (pe_bm PySem.F.plainAttrs_list PySem.F.slot_list_append PySem.F.type_list_append mt_append (pv 5) (pa_cons (pe_op op_mod (pe_callTy call_int1 (by rfl) T.b_int (by decide +kernel) (pa_cons (pv 7) pa_nil)) (pe_ix (ixL K) (pv 2) (pv 6) (fun _ _ => rfl))) pa_nil))))))))
      (pss_one (ps_ret (pv 5))))))), ?_⟩
    refine ⟨_, rfl, _, rfl, a, j, ns, rfl, hl, h0, fun n => ?_⟩
    refine ⟨_, rfl, _, _, rfl, rfl, ⟨by decide, by decide, by decide⟩, _, _, rfl, rfl, size_le (by show 0 ≤ _; omega), fun d hd => ?_⟩
    have s1 : L2.Same H (upd H d (.lst [])) := Same.new hd
    have e0 : H l = some (.lst (ls.map V.int)) := hls
    refine ⟨_, rfl, l, _, rfl, .inl (SqL.of (s1 _ _ hls)), _, rfl, by rw [List.length_map]; omega, by rw [List.length_map]; omega, ?_⟩
    rw [show (((ls.map V.int).length : Nat) : Int).toNat = ls.length by rw [List.length_map]; rfl]
    refine for_it walk_r0 (fun i σ H1 => ∃ (r : Int) (v w : Option V) (ds : List Int), σ = [some (.ref a), some (.int j), some (.ref l), some (.int n), some (.int r), some (.ref d), v, w] ∧ L2.Same H H1 ∧ H1 d = some (.lst (ds.map V.int)) ∧ Paired (fun d x => 0 ≤ d ∧ d < x) ds (ls.take i))
      ⟨_, none, none, [], rfl, s1, upd_same, .nil⟩ (fun _ _ _ _ _ => trivial) ?_ ?_
    · rintro i x σ H1 H2 hi ⟨r, v, w, ds, rfl, s2, hdl, hds⟩ ⟨rfl, rfl⟩
      obtain ⟨q, hq⟩ : ∃ q, ls[i]? = some q := ⟨ls[i], List.getElem?_eq_getElem hi⟩
      have hq0 := hlim q (List.mem_of_getElem? hq)
      have hql : (ls.map V.int)[i]? = some (.int q) := by rw [List.getElem?_map, hq]; rfl
      have hdz : ds.length ≤ 10000 := by
        rw [paired_len hds, List.length_take]
        omega
      refine ⟨_, rfl, _, rfl, _, _, rfl, rfl, .inl (by decide), _, rfl, _, _, rfl, rfl, .inr (by omega), _, _, rfl, rfl, _, _, rfl, rfl, .inr ?_, _, rfl, _, _, rfl, rfl, _, _, rfl, rfl, .inr (by decide), _, _, rfl, rfl, _, rfl, _, _, rfl, rfl, .inr (by decide), _, _, rfl, rfl,
        .inl ⟨_, rfl, _, _, rfl, rfl, (show (0 : Int) < 2147483587 by decide), ?_⟩⟩
      · have h1 : (0 : Int) ≤ (i : Int) * (i : Int) := Int.mul_nonneg (by omega) (by omega)
        have h2 : (i : Int) * (i : Int) ≤ 10000 * 10000 := Int.mul_le_mul (by omega) (by omega) (by omega) (by omega)
        have h3 : 2 * (i : Int) * (i : Int) = 2 * ((i : Int) * (i : Int)) := Int.mul_assoc _ _ _
        rw [h3]
        omega
      refine ⟨_, rfl, _, rfl, _, _, rfl, rfl, .inl ?_, _, rfl, _, _, rfl, rfl, .inl (by decide), _, _, rfl, rfl, _, rfl, _, _, rfl, rfl, .inl ⟨_, rfl, _, _, rfl, rfl, (show (0 : Int) < 2147483549 by decide), _, _, rfl, rfl, ⟨by decide, by decide⟩, ?_⟩⟩
      · have h1 := Int.emod_nonneg (n * (30011 + 2 * (i : Int) * (i : Int)) + ((i : Int) + 5) * 86028121 + j * 15485863) (show (2147483587 : Int) ≠ 0 by decide)
        have h2 := Int.emod_lt_of_pos (n * (30011 + 2 * (i : Int) * (i : Int)) + ((i : Int) + 5) * 86028121 + j * 15485863) (show (0 : Int) < 2147483587 by decide)
        omega
      refine ⟨fun σ H' => H' = H2 ∧ ∃ r t : Int, σ = [some (.ref a), some (.int j), some (.ref l), some (.int n), some (.int r), some (.ref d), some (.int i), some (.int t)], ?_, ?_⟩
      · refine ⟨_, rfl, _, _, rfl, rfl, ⟨by decide, by decide, by decide⟩, _, _, rfl, rfl, _, rfl, ite_b (fun c => ?_) (fun c => ⟨rfl, _, _, rfl⟩)⟩
        exact ⟨_, rfl, _, rfl, _, rfl, _, rfl, l, _, _, _, rfl, rfl, SqL.of (s2 _ _ hls), atI_get hql, _, _, rfl, rfl, hq0, rfl, _, _, rfl⟩
      · rintro σ H3 ⟨rfl, r, t, rfl⟩
        refine ⟨_, rfl, .inl ⟨rfl, _, SqL.of hdl⟩, _, rfl, .inl ⟨_, rfl, _, rfl, _, rfl, l, _, _, _, rfl, rfl, SqL.of (s2 _ _ hls), atI_get hql, _, _, rfl, rfl, hq0.1, d, _, _, rfl, rfl, hdl, size_lt (by rw [List.length_map]; omega), ?_⟩⟩
        refine ⟨r, _, _, ds ++ [t % q], rfl, Same.mut s2 hd, ?_, ?_⟩
        · rw [upd_same, List.map_append]
          rfl
        · rw [take_succ_get hq]
          exact paired_snoc hds ⟨Int.emod_nonneg _ (by omega), Int.emod_lt_of_pos _ hq0.1⟩
    · rintro σ H1 ⟨r, v, w, ds, rfl, s2, hdl, hds⟩
      rw [List.take_length] at hds
      exact ⟨_, rfl, k d H1 ds s2 hd hdl hds⟩
end
end A80
end
section
set_option Elab.async false
set_option maxRecDepth 100000
set_option maxHeartbeats 4000000
namespace A80
open PySem PySem.Spec L2 PyProof.Rows TL
/-! ### _law_long, _law_scale -/
abbrev S_law_long : Stmt := topS 24
theorem sc_law_long : FnScope ["_law_script", "_law_at", "_law_many", "_law_drawn", "_law_numbers", "_law_k", "_law_top", "_law_turn", "_law_number_here", "_law_part"] ["_law_script", "_law_at", "_law_many"] (defScope S_law_long) := ⟨rfl, rfl, rfl, by decide +kernel, rfl, by decide +kernel, by decide +kernel⟩
abbrev S_law_scale : Stmt := topS 29
theorem sc_law_scale : FnScope ["_law_script", "_law_at", "_law_drawn", "_law_far"] ["_law_script", "_law_at"] (defScope S_law_scale) := ⟨rfl, rfl, rfl, by decide +kernel, rfl, by decide +kernel, by decide +kernel⟩
theorem atI_int {ns : List Int} {j : Int} {i : Nat} {q : Int} (e : j = (i : Int)) (h : ns[i]? = some q) : atI (ns.map V.int) j = some (.int q) := by
  rw [e]
  exact atI_get (by rw [List.getElem?_map, h]; rfl)
theorem atI_ref {ts : List Addr} {j : Int} {i : Nat} {q : Addr} (e : j = (i : Int)) (h : ts[i]? = some q) : atI (ts.map V.ref) j = some (.ref q) := by
  rw [e]
  exact atI_get (by rw [List.getElem?_map, h]; rfl)
theorem atI_str {ts : List Str} {j : Int} {i : Nat} {q : Str} (e : j = (i : Int)) (h : ts[i]? = some q) : atI (ts.map V.str) j = some (.str q) := by
  rw [e]
  exact atI_get (by rw [List.getElem?_map, h]; rfl)
theorem rep_len {α : Type} (xs : List α) : ∀ m : Nat, (List.replicate m xs).flatten.length = m * xs.length
  | 0 => by simp
  | m + 1 => by
    rw [List.replicate_succ, List.flatten_cons, List.length_append, rep_len xs m, Nat.succ_mul]
    omega
theorem rep_get {α : Type} {xs : List α} {j : Nat} {a : α} (h : xs[j]? = some a) : ∀ {m k : Nat}, k < m → (List.replicate m xs).flatten[xs.length * k + j]? = some a
  | m + 1, 0, _ => by
    have hj := (List.getElem?_eq_some_iff.mp h).1
    rw [List.replicate_succ, List.flatten_cons, Nat.mul_zero, Nat.zero_add, List.getElem?_append_left hj, h]
  | m + 1, k + 1, hk => by
    rw [List.replicate_succ, List.flatten_cons, List.getElem?_append_right (by rw [Nat.mul_succ]; omega), show xs.length * (k + 1) + j - xs.length = xs.length * k + j by rw [Nat.mul_succ]; omega]
    exact rep_get h (by omega)
theorem rep_mem {α : Type} {xs : List α} {a : α} {m : Nat} (h : a ∈ (List.replicate m xs).flatten) : a ∈ xs := by
  obtain ⟨l, h1, h2⟩ := List.mem_flatten.mp h
  rw [(List.mem_replicate.mp h1).2] at h2
  exact h2
theorem rep_map {α β : Type} (f : α → β) (xs : List α) (m : Nat) : (List.replicate m (xs.map f)).flatten = (List.replicate m xs).flatten.map f := by
  rw [List.map_flatten, List.map_replicate]
theorem drawn_get {ds ls : List Int} (h : Paired (fun d x => 0 ≤ d ∧ d < x) ds ls) {i : Nat} {q : Int} (e : ls[i]? = some q) : ∃ d, ds[i]? = some d ∧ 0 ≤ d ∧ d < q := paired_get' h e
def spLong (K : PySem.W.Frag) : Sp := fun vs H Q _ => ∃ (a : Addr) (k : Int) (ns : List Int), vs = [.ref a, .int k, .int 2] ∧ SqL K H a (ns.map V.int) ∧ 0 ≤ k ∧
  ∀ (p : Addr) (H' : Hp) (f g : Int), Same H H' → H p = none → H' p = some (.lst [.int f, .int g]) → -(10 ^ 30) < f → f < 10 ^ 30 → -(10 ^ 30) < g → g < 10 ^ 30 → Q (.ref p) H'
/-- a scale: factors from 1 to 10^15, shifts below 10^29 -/
def ScOk (a b c d : Int) : Prop := 1 ≤ a ∧ a < 10 ^ 15 ∧ -(10 ^ 30) < b ∧ b < 10 ^ 30 ∧ 1 ≤ c ∧ c < 10 ^ 15 ∧ -(10 ^ 30) < d ∧ d < 10 ^ 30
def spScale (K : PySem.W.Frag) : Sp := fun vs H Q _ => ∃ (a : Addr) (k : Int) (ns : List Int), vs = [.ref a, .int k] ∧ SqL K H a (ns.map V.int) ∧ 0 ≤ k ∧
  ∀ (p : Addr) (H' : Hp) (x y z t : Int), Same H H' → H p = none → H' p = some (.tup [.int x, .int y, .int z, .int t]) → ScOk x y z t → Q (.ref p) H'
abbrev lims6 : List Int := [31, 2, 10 ^ Int.toNat 8, 10 ^ Int.toNat 8, 10 ^ Int.toNat 8, 10 ^ Int.toNat 8]
theorem pow_mono10 {j : Nat} (h : j ≤ 30) : (10 : Int) ^ j ≤ 10 ^ 30 := by
  rcases Nat.exists_eq_add_of_le h with ⟨d, hd⟩
  rw [hd, Int.pow_add]
  have h1 : (0 : Int) < 10 ^ d := Int.pow_pos (by decide)
  have h2 : (0 : Int) < 10 ^ j := Int.pow_pos (by decide)
  have := Int.mul_le_mul_of_nonneg_left (show (1 : Int) ≤ 10 ^ d by omega) (show (0 : Int) ≤ 10 ^ j by omega)
  rw [Int.mul_one] at this
  exact this
section
variable {P : Program} {w : World} {K : PySem.W.Frag} {mg : Str → Option Value} {base : Heap} {CS : Addr}
theorem cl_law_long (T : Tx K mg CS) (D : Df K mg "_law_long" S_law_long ["_law_script", "_law_at", "_law_many"]) (c_law_draws : Cl P w K mg base 2 "_law_draws" (spDraws K)) : Cl P w K mg base 3 "_law_long" (spLong K) := by
  have sc := sc_law_long
  refine cl_mk D sc (fun vs H Q E h => ?_) (fun f cdv A outer s H vs Q E hr h => ?_)
  · obtain ⟨a, k, ns, rfl, _⟩ := h
    rfl
  · obtain ⟨a, j, ns, rfl, hl, h0, k⟩ := h
    refine ⟨_, (pss_cons (ps_set (i := 3) sc.nd rfl (Or.inl rfl) (pe_c c_law_draws hr (by decide) rfl (pa_cons (pv 0) (pa_cons (pv 1) (pa_cons (pe_op op_rep (pe_lst (pa_cons pe_int (pa_cons pe_int (pa_cons (pe_op op_pow pe_int pe_int) (pa_cons (pe_op op_pow pe_int pe_int) (pa_cons (pe_op op_pow pe_int pe_int) (pa_cons (pe_op op_pow pe_int pe_int) pa_nil))))))) (pv 2)) pa_nil)))))
      (pss_cons (ps_set (i := 4) sc.nd rfl (Or.inl rfl) (pe_lst pa_nil))
      (pss_cons (ps_for PassesOwn.never rfl (pi_range1 rfl T.b_range (pa_cons (pv 2) pa_nil)) (pg_name (i := 5) sc.nd rfl (Or.inl rfl))
      (pss_cons (ps_set (i := 6) sc.nd rfl (Or.inl rfl) pe_int)
      (pss_cons (ps_for PassesOwn.never rfl (pi_range1 rfl T.b_range (pa_cons (pe_ix (ixL K) (pv 3) (pe_op op_mul pe_int (pv 5)) (fun _ _ => rfl)) pa_nil)) (pg_name (i := 7) sc.nd rfl (Or.inl rfl))
      (pss_one (ps_set (i := 6) sc.nd rfl (Or.inl rfl) (pe_op op_mul (pv 6) pe_int))))
      (pss_cons (ps_set (i := 8) sc.nd rfl (Or.inl rfl) pe_int)
      (pss_cons (ps_for PassesOwn.never rfl (piL K (pe_slice (slL K) (pv 3) (po_some (pe_op op_add (pe_op op_mul pe_int (pv 5)) pe_int)) (po_some (pe_op op_add (pe_op op_mul pe_int (pv 5)) pe_int)))) (pg_name (i := 9) sc.nd rfl (Or.inl rfl))
      (pss_one (ps_set (i := 8) sc.nd rfl (Or.inl rfl) (pe_op op_add (pe_op op_mul (pv 8) (pe_op op_pow pe_int pe_int)) (pv 9)))))
      (pss_cons (ps_set (i := 8) sc.nd rfl (Or.inl rfl) (pe_op op_mod (pe_callTy call_int1 (by rfl) T.b_int (by decide +kernel) (pa_cons (pv 8) pa_nil)) (pv 6)))
      (pss_one (ps_expr (pe_bm PySem.F.plainAttrs_list PySem.F.slot_list_append PySem.F.type_list_append mt_append (pv 4) (pa_cons (pe_ifExp (pt_cmpR op_eq (pe_ix (ixL K) (pv 3) (pe_op op_add (pe_op op_mul pe_int (pv 5)) pe_int) (fun _ _ => rfl)) pe_int (nomark _)) (pe_un un_neg (pv 8)) (pv 8)) pa_nil))))))))))
      (pss_one (ps_ret (pv 4)))))), ?_⟩
    have pw : CPow 10 8 := ⟨by decide, by decide, by decide⟩
    refine ⟨_, rfl, _, rfl, _, _, rfl, rfl, pw, _, _, rfl, rfl, pw, _, _, rfl, rfl, pw, _, _, rfl, rfl, pw, size_le (by show 6 ≤ _; omega), fun q hq => ?_⟩
    have s1 := Same.new (o := .lst (lims6.map V.int)) hq
    refine ⟨_, rfl, q, _, lims6.map V.int, rfl, rfl, upd_same, by omega, by omega, by show 6 * 2 ≤ _; exact size_le (by omega), fun l hl2 => ?_⟩
    have el : (List.replicate (Int.toNat 2) (lims6.map V.int)).flatten = (List.replicate 2 lims6).flatten.map V.int := rep_map V.int lims6 2
    rw [el]
    have s2 := Same.step (o := .lst ((List.replicate 2 lims6).flatten.map V.int)) s1 hl2
    refine ⟨a, j, ns, l, (List.replicate 2 lims6).flatten, rfl, hl.sm s2, h0, upd_same, fun x hx => ?_, ?_, fun p H1 ds s3 hp hpl hds => ?_⟩
    · have := rep_mem hx
      revert this
      revert x
      decide +kernel
    · rw [rep_len]
      show 2 * 6 ≤ _
      omega
    have s3 := s2.trans s3
    refine ⟨size_le (by show 0 ≤ _; omega), fun n hn => ?_⟩
    have s4 := Same.step (o := .lst []) s3 hn
    have hpl4 := (Same.new (o := .lst []) hn) _ _ hpl
    refine ⟨_, rfl, _, rfl, by omega, by omega, ?_⟩
    rw [show Int.toNat 2 = 2 from rfl]
    refine for_it walk_r0 (fun i σ H2 => ∃ (xs : List Int) (v5 v6 v7 v8 v9 : Option V), σ = [some (.ref a), some (.int j), some (.int 2), some (.ref p), some (.ref n), v5, v6, v7, v8, v9] ∧ L2.Same H H2 ∧ H2 p = some (.lst (ds.map V.int)) ∧ H2 n = some (.lst (xs.map V.int)) ∧ xs.length = i ∧ ∀ x ∈ xs, -(10 ^ 30) < x ∧ x < 10 ^ 30)
      ⟨[], none, none, none, none, none, rfl, s4, hpl4, upd_same, rfl, fun x hx => by simp at hx⟩ (fun _ _ _ _ _ => trivial) ?_ ?_
    · rintro i x σ H2 H3 hi ⟨xs, v5, v6, v7, v8, v9, rfl, s5, hpd, hnl, hxl, hxb⟩ ⟨rfl, rfl⟩
      obtain ⟨d0, e0, b0, c0⟩ := drawn_get hds (rep_get (xs := lims6) (j := 0) (a := 31) rfl hi)
      obtain ⟨d1, e1, b1, c1⟩ := drawn_get hds (rep_get (xs := lims6) (j := 1) (a := 2) rfl hi)
      refine ⟨_, rfl, _, rfl, _, _, rfl, rfl, .inl (by decide), p, _, _, _, rfl, rfl, SqL.of hpd, atI_int (by show (6 : Int) * (i : Int) = _; simp) e0, _, rfl, by omega, by omega, ?_⟩
      refine for_it walk_r0 (fun k σ H4 => H4 = H3 ∧ ∃ v7 : Option V, σ = [some (.ref a), some (.int j), some (.int 2), some (.ref p), some (.ref n), some (.int i), some (.int (10 ^ k)), v7, v8, v9])
        ⟨rfl, _, rfl⟩ (fun _ _ _ _ _ => trivial) ?_ ?_
      · rintro k' x σ H4 H5 hk ⟨rfl, v7, rfl⟩ ⟨rfl, rfl⟩
        refine ⟨_, rfl, _, _, rfl, rfl, .inr (by decide), rfl, some (.int (k' : Nat)), ?_⟩
        rw [Int.pow_succ]
        rfl
      · rintro σ H4 ⟨rfl, v7, rfl⟩
        have htop : (0 : Int) < 10 ^ d0.toNat := Int.pow_pos (by decide)
        have htop2 := pow_mono10 (j := d0.toNat) (by omega)
        refine ⟨_, rfl, _, rfl, _, _, rfl, rfl, .inl (by decide), _, _, rfl, rfl, _, rfl, _, rfl, _, _, rfl, rfl, .inl (by decide), _, _, rfl, rfl, _, rfl, p, _, rfl, SqL.of hpd, fun c hc => ?_⟩
        obtain ⟨ys, ey, _, _⟩ := cutV_map V.int ds (some (6 * (i : Int) + 2)) (some (6 * (i : Int) + 6))
        rw [ey]
        have s6 := Same.new (o := .lst (ys.map V.int)) hc
        refine ⟨c, rfl, ⟨_, SqL.of upd_same⟩, ?_⟩
        refine for_it walk_list (fun k σ H5 => H5 = upd H4 c (.lst (ys.map V.int)) ∧ ∃ (m : Int) (v9 : Option V), σ = [some (.ref a), some (.int j), some (.int 2), some (.ref p), some (.ref n), some (.int i), some (.int (10 ^ d0.toNat)), v7, some (.int m), v9])
          ⟨rfl, 0, _, rfl⟩ (fun _ _ _ _ h => by rw [h.1]; exact SqL.of upd_same) ?_ ?_
        · rintro k' x σ H5 H6 hk ⟨rfl, m, v9, rfl⟩ ⟨rfl, hx⟩
          obtain ⟨t, ht, rfl⟩ := get_map_int hx
          exact ⟨_, rfl, _, _, rfl, rfl, pw, _, _, rfl, rfl, .inr (by decide), _, rfl, _, _, rfl, rfl, rfl, _, _, rfl⟩
        · rintro σ H5 ⟨rfl, m, v9, rfl⟩
          have s7 := s5.trans s6
          have hpd7 := s6 _ _ hpd
          have hnl7 := s6 _ _ hnl
          have m0 := Int.emod_nonneg m (show (10 : Int) ^ d0.toNat ≠ 0 by omega)
          have m1 := Int.emod_lt_of_pos m htop
          refine ⟨_, rfl, .inl ⟨_, rfl, _, rfl, _, _, rfl, rfl, htop, ?_⟩⟩
          refine ⟨_, rfl, .inl ⟨rfl, _, SqL.of hnl7⟩, _, rfl, _, rfl, _, _, rfl, rfl, .inl (by decide), _, _, rfl, rfl, p, _, _, _, rfl, rfl, SqL.of hpd7, atI_int (by show (6 : Int) * (i : Int) + 1 = _; simp) e1, rfl, _, rfl, ite_b (fun cc => ?_) (fun cc => ?_)⟩
          · refine ⟨_, rfl, _, rfl, n, _, _, rfl, rfl, hnl7, size_lt (by rw [List.length_map]; omega), ?_⟩
            refine ⟨xs ++ [-(m % 10 ^ d0.toNat)], _, _, _, _, _, rfl, Same.mut s7 (s3.free hn), by rw [upd_ne (ne_of_none hpl hn)]; exact hpd7, by rw [upd_same, List.map_append]; rfl, by rw [List.length_append, hxl]; rfl, fun x hx => ?_⟩
            rcases List.mem_append.mp hx with h | h
            · exact hxb x h
            · rw [List.mem_singleton.mp h]
              omega
          · refine ⟨_, rfl, n, _, _, rfl, rfl, hnl7, size_lt (by rw [List.length_map]; omega), ?_⟩
            refine ⟨xs ++ [m % 10 ^ d0.toNat], _, _, _, _, _, rfl, Same.mut s7 (s3.free hn), by rw [upd_ne (ne_of_none hpl hn)]; exact hpd7, by rw [upd_same, List.map_append]; rfl, by rw [List.length_append, hxl]; rfl, fun x hx => ?_⟩
            rcases List.mem_append.mp hx with h | h
            · exact hxb x h
            · rw [List.mem_singleton.mp h]
              omega
    · rintro σ H2 ⟨xs, v5, v6, v7, v8, v9, rfl, s5, hpd, hnl, hxl, hxb⟩
      match xs, hxl, hnl, hxb with
      | [f, g], _, hnl, hxb =>
        have hf := hxb f (by simp)
        have hg := hxb g (by simp)
        exact ⟨_, rfl, k n H2 f g s5 (s3.free hn) hnl hf.1 hf.2 hg.1 hg.2⟩
theorem cl_law_scale (T : Tx K mg CS) (D : Df K mg "_law_scale" S_law_scale ["_law_script", "_law_at"]) (c_law_draws : Cl P w K mg base 2 "_law_draws" (spDraws K)) (c_law_long : Cl P w K mg base 3 "_law_long" (spLong K)) : Cl P w K mg base 4 "_law_scale" (spScale K) := by
  have sc := sc_law_scale
  refine cl_mk D sc (fun vs H Q E h => ?_) (fun f cdv A outer s H vs Q E hr h => ?_)
  · obtain ⟨a, k, ns, rfl, _⟩ := h
    rfl
  · obtain ⟨a, j, ns, rfl, hl, h0, k⟩ := h
    refine ⟨_, (pss_cons (ps_set (i := 2) sc.nd rfl (Or.inl rfl) (pe_c c_law_draws hr (by decide) rfl (pa_cons (pv 0) (pa_cons (pv 1) (pa_cons (pe_lst (pa_cons pe_int (pa_cons (pe_op op_pow pe_int pe_int) (pa_cons (pe_op op_pow pe_int pe_int) (pa_cons (pe_op op_pow pe_int pe_int) (pa_cons (pe_op op_pow pe_int pe_int) pa_nil)))))) pa_nil)))))
      (pss_cons (ps_set (i := 3) sc.nd rfl (Or.inl rfl) (pe_c c_law_long hr (by decide) rfl (pa_cons (pv 0) (pa_cons (pe_op op_add (pv 1) pe_int) (pa_cons pe_int pa_nil)))))
      (pss_cons (ps_if (pt_cmpR op_eq (pe_ix (ixL K) (pv 2) pe_int (fun _ _ => rfl)) pe_int (nomark _))
      (pss_one (ps_ret (pe_tup (pa_cons pe_int (pa_cons pe_int (pa_cons pe_int (pa_cons pe_int pa_nil)))))))
      pss_nil)
      (pss_cons (ps_if (pt_cmpR op_eq (pe_ix (ixL K) (pv 2) pe_int (fun _ _ => rfl)) pe_int (nomark _))
      (pss_one (ps_ret (pe_tup (pa_cons pe_int (pa_cons (pe_op op_fdiv (pe_ix (ixL K) (pv 3) pe_int (fun _ _ => rfl)) pe_int) (pa_cons pe_int (pa_cons (pe_op op_fdiv (pe_ix (ixL K) (pv 3) pe_int (fun _ _ => rfl)) pe_int) pa_nil)))))))
      pss_nil)
      (pss_one (ps_ret (pe_tup (pa_cons (pe_op op_add pe_int (pe_op op_mul (pe_ix (ixL K) (pv 2) pe_int (fun _ _ => rfl)) (pe_ix (ixL K) (pv 2) pe_int (fun _ _ => rfl)))) (pa_cons (pe_op op_fdiv (pe_ix (ixL K) (pv 3) pe_int (fun _ _ => rfl)) pe_int) (pa_cons (pe_op op_add pe_int (pe_op op_mul (pe_ix (ixL K) (pv 2) pe_int (fun _ _ => rfl)) (pe_ix (ixL K) (pv 2) pe_int (fun _ _ => rfl)))) (pa_cons (pe_op op_fdiv (pe_ix (ixL K) (pv 3) pe_int (fun _ _ => rfl)) pe_int) pa_nil))))))))))), ?_⟩
    have pw : CPow 10 8 := ⟨by decide, by decide, by decide⟩
    have pw6 : CPow 10 6 := ⟨by decide, by decide, by decide⟩
    refine ⟨_, rfl, _, rfl, _, _, rfl, rfl, pw, _, _, rfl, rfl, pw6, _, _, rfl, rfl, pw, _, _, rfl, rfl, pw6, size_le (by show 5 ≤ _; omega), fun q hq => ?_⟩
    have s1 := Same.new (o := .lst (([4, 10 ^ Int.toNat 8, 10 ^ Int.toNat 6, 10 ^ Int.toNat 8, 10 ^ Int.toNat 6] : List Int).map V.int)) hq
    refine ⟨a, j, ns, q, [4, 10 ^ Int.toNat 8, 10 ^ Int.toNat 6, 10 ^ Int.toNat 8, 10 ^ Int.toNat 6], rfl, hl.sm s1, h0, upd_same, by decide +kernel, by show 5 ≤ _; omega, fun p H1 ds s3 hp hpl hds => ?_⟩
    have s3 := s1.trans s3
    refine ⟨_, rfl, _, rfl, _, _, rfl, rfl, a, j + 1, ns, rfl, hl.sm s3, by omega, fun q2 H2 f g s4 hq2 hql f1 f2 g1 g2 => ?_⟩
    have s5 := s3.trans s4
    have hpl2 := s4 _ _ hpl
    match ds, hds, hpl2 with
    | [d0, d1, d2, d3, d4], hds, hpl2 =>
      obtain ⟨_, e0, b0, c0⟩ := drawn_get hds (i := 0) rfl
      obtain ⟨_, e1, b1, c1⟩ := drawn_get hds (i := 1) rfl
      obtain ⟨_, e2, b2, c2⟩ := drawn_get hds (i := 2) rfl
      obtain ⟨_, e3, b3, c3⟩ := drawn_get hds (i := 3) rfl
      obtain ⟨_, e4, b4, c4⟩ := drawn_get hds (i := 4) rfl
      cases e0; cases e1; cases e2; cases e3; cases e4
      have c1 : d1 < 100000000 := c1
      have c2 : d2 < 1000000 := c2
      have c3 : d3 < 100000000 := c3
      have c4 : d4 < 1000000 := c4
      refine ⟨_, rfl, p, _, 0, _, rfl, rfl, SqL.of hpl2, rfl, rfl, _, rfl, ite_b (fun cc => ?_) (fun cc => ?_)⟩
      · refine ⟨size_le (by show 4 ≤ _; omega), fun t ht => ?_⟩
        exact k t _ 1 0 1 0 (Same.step s5 ht) (s5.free ht) upd_same (by unfold ScOk; decide +kernel)
      have bf : -(10 ^ 30) < f / 10 ∧ f / 10 < 10 ^ 30 := by omega
      have bg : -(10 ^ 30) < g / 10 ∧ g / 10 < 10 ^ 30 := by omega
      refine ⟨_, rfl, p, _, 0, _, rfl, rfl, SqL.of hpl2, rfl, rfl, _, rfl, ite_b (fun cc => ?_) (fun cc => ?_)⟩
      · refine ⟨_, rfl, q2, _, 0, _, rfl, rfl, SqL.of hql, rfl, _, _, rfl, rfl, ⟨by decide, by decide⟩, _, rfl, q2, _, 1, _, rfl, rfl, SqL.of hql, rfl, _, _, rfl, rfl, ⟨by decide, by decide⟩, size_le (by show 4 ≤ _; omega), fun t ht => ?_⟩
        exact k t _ 1 (f / 10) 1 (g / 10) (Same.step s5 ht) (s5.free ht) upd_same ⟨by decide, by decide +kernel, bf.1, bf.2, by decide, by decide +kernel, bg.1, bg.2⟩
      · refine ⟨_, rfl, p, _, 1, _, rfl, rfl, SqL.of hpl2, rfl, _, rfl, p, _, 2, _, rfl, rfl, SqL.of hpl2, rfl, _, _, rfl, rfl, .inr (by omega), _, _, rfl, rfl, _, rfl, q2, _, 0, _, rfl, rfl, SqL.of hql, rfl, _, _, rfl, rfl, ⟨by decide, by decide⟩,
          _, rfl, p, _, 3, _, rfl, rfl, SqL.of hpl2, rfl, _, rfl, p, _, 4, _, rfl, rfl, SqL.of hpl2, rfl, _, _, rfl, rfl, .inr (by omega), _, _, rfl, rfl, _, rfl, q2, _, 1, _, rfl, rfl, SqL.of hql, rfl, _, _, rfl, rfl, ⟨by decide, by decide⟩, size_le (by show 4 ≤ _; omega), fun t ht => ?_⟩
        have m1 : 0 ≤ d1 * d2 := Int.mul_nonneg b1 b2
        have m2 : d1 * d2 ≤ 99999999 * 999999 := Int.mul_le_mul (by omega) (by omega) b2 (by omega)
        have m3 : 0 ≤ d3 * d4 := Int.mul_nonneg b3 b4
        have m4 : d3 * d4 ≤ 99999999 * 999999 := Int.mul_le_mul (by omega) (by omega) b4 (by omega)
        exact k t _ (1 + d1 * d2) (f / 10) (1 + d3 * d4) (g / 10) (Same.step s5 ht) (s5.free ht) upd_same ⟨by omega, by omega, bf.1, bf.2, by omega, by omega, bg.1, bg.2⟩
end
end A80
end
section
set_option Elab.async false
set_option maxRecDepth 100000
set_option maxHeartbeats 4000000
namespace A80
open PySem PySem.Spec L2 PyProof.Rows TL
/-! ### _law_names -/
abbrev S_law_names : Stmt := topS 26
theorem sc_law_names : FnScope ["_law_script", "_law_at", "_law_many", "_law_letters", "_law_drawn", "_law_names_here", "_law_k", "_law_signs", "_law_name", "_law_turn", "_law_sign"] ["_law_script", "_law_at", "_law_many"] (defScope S_law_names) := ⟨rfl, rfl, rfl, by decide +kernel, rfl, by decide +kernel, by decide +kernel⟩
theorem let_at {n : Nat} (h : n < 26) : (tl (Str.ofString "abcdefghijklmnopqrstuvwxyz"))[n]? = some (97 + n) := by
  rw [sgs_letters, List.getElem?_map, List.getElem?_range h]
  rfl
theorem join_one : ∀ cs : List Nat, joinL [] (cs.map fun c => [c]) = cs
  | [] => rfl
  | [c] => rfl
  | c :: d :: r => by
    have := join_one (d :: r)
    show [c] ++ ([] ++ joinL [] ((d :: r).map fun c => [c])) = _
    rw [this]
    rfl
theorem cutV_nat {α : Type} (f : α → V) (xs : List α) (a b : Nat) (h : b ≤ xs.length) : cutV (xs.map f) (some (a : Int)) (some (b : Int)) = ((xs.drop a).take (b - a)).map f := by
  rw [cutV_eq, HT.sIx_nat, HT.sIx_nat, List.length_map, Nat.min_eq_left h, List.map_take, List.map_drop]
  by_cases hab : a ≤ xs.length
  · rw [Nat.min_eq_left hab]
  · rw [Nat.min_eq_right (by omega), List.drop_of_length_le (by rw [List.length_map]; omega), List.drop_of_length_le (by rw [List.length_map]; omega)]
    simp
def spNames (K : PySem.W.Frag) : Sp := fun vs H Q _ => ∃ (a : Addr) (k : Int) (ns : List Int), vs = [.ref a, .int k, .int 8] ∧ SqL K H a (ns.map V.int) ∧ 0 ≤ k ∧
  ∀ (p : Addr) (H' : Hp) (xs : List Str), Same H H' → H p = none → H' p = some (.lst (xs.map V.str)) → xs.length = 8 → (∀ x ∈ xs, okN x) → Q (.ref p) H'
abbrev lims7 : List Int := [6, 26, 26, 26, 26, 26, 26]
theorem okN_of {x : Str} (h1 : tl x ≠ []) (h2 : (tl x).length ≤ 6) (h3 : ∀ c ∈ tl x, 97 ≤ c ∧ c ≤ 122) : okN x := okNm_iff.mpr ⟨h1, h2, h3⟩
theorem chr_len (c : Nat) : (⟨#[c]⟩ : Str).length = 1 := rfl
section
variable {P : Program} {w : World} {K : PySem.W.Frag} {mg : Str → Option Value} {base : Heap} {CS : Addr}
theorem cl_law_names (T : Tx K mg CS) (D : Df K mg "_law_names" S_law_names ["_law_script", "_law_at", "_law_many"]) (c_law_draws : Cl P w K mg base 2 "_law_draws" (spDraws K)) : Cl P w K mg base 3 "_law_names" (spNames K) := by
  have sc := sc_law_names
  refine cl_mk D sc (fun vs H Q E h => ?_) (fun f cdv A outer s H vs Q E hr h => ?_)
  · obtain ⟨a, k, ns, rfl, _⟩ := h
    rfl
  · obtain ⟨a, j, ns, rfl, hl, h0, k⟩ := h
    refine ⟨_, (pss_cons (ps_set (i := 3) sc.nd rfl (Or.inr rfl) pe_str)
      (pss_cons (ps_set (i := 4) sc.nd rfl (Or.inl rfl) (pe_c c_law_draws hr (by decide) rfl (pa_cons (pv 0) (pa_cons (pv 1) (pa_cons (pe_op op_cat (pe_lst (pa_cons pe_int pa_nil)) (pe_op op_rep (pe_lst (pa_cons pe_int (pa_cons pe_int (pa_cons pe_int (pa_cons pe_int (pa_cons pe_int (pa_cons pe_int (pa_cons pe_int pa_nil)))))))) (pv 2))) pa_nil)))))
      (pss_cons (ps_set (i := 5) sc.nd rfl (Or.inl rfl) (pe_lst pa_nil))
      (pss_cons (ps_for PassesOwn.never rfl (pi_range1 rfl T.b_range (pa_cons (pv 2) pa_nil)) (pg_name (i := 6) sc.nd rfl (Or.inl rfl))
      (pss_cons (ps_set (i := 7) sc.nd rfl (Or.inl rfl) (pe_slice (slL K) (pv 4) (po_some (pe_op op_add pe_int (pe_op op_mul pe_int (pv 6)))) (po_some (pe_op op_add (pe_op op_add pe_int (pe_op op_mul pe_int (pv 6))) (pe_ix (ixL K) (pv 4) (pe_op op_add pe_int (pe_op op_mul pe_int (pv 6))) (fun _ _ => rfl))))))
      (C8.pss_cut (ps_if (pt_cmpR op_eq (pe_ix (ixL K) (pv 4) pe_int (fun _ _ => rfl)) pe_int (nomark _))
      (pss_one (ps_setLc (i := 7) (own := [("_law_sign", 10)]) rfl sc.nd rfl rfl (sw_true rfl rfl rfl (by decide +kernel)) (piL K (pv 7)) (blkOk_by (own := [("_law_sign", 10)]) (N := ["_law_script", "_law_at", "_law_many", "_law_letters", "_law_drawn", "_law_names_here", "_law_k", "_law_signs", "_law_name", "_law_turn", "_law_sign"]) (sc := (defScope S_law_names)) (by decide +kernel)) (fun _ _ _ _ _ => (pg_name (i := 10) sc.nd rfl (Or.inl rfl))) (fun _ _ _ _ _ => pts_nil) (fun _ _ _ _ _ => (pe_op op_mod (pe_callTy call_int1 (by rfl) T.b_int (by decide +kernel) (pa_cons (pv 10) pa_nil)) pe_int))))
      pss_nil)
      (pss_cons (ps_set (i := 8) sc.nd rfl (Or.inl rfl) (pe_join pe_str (pe_lc (own := [("_law_sign", 10)]) rfl sc.nd (piL K (pv 7)) (blkOk_by (own := [("_law_sign", 10)]) (N := ["_law_script", "_law_at", "_law_many", "_law_letters", "_law_drawn", "_law_names_here", "_law_k", "_law_signs", "_law_name", "_law_turn", "_law_sign"]) (sc := (defScope S_law_names)) (by decide +kernel)) (fun _ _ _ _ _ => (pg_name (i := 10) sc.nd rfl (Or.inl rfl))) (fun _ _ _ _ _ => pts_nil) (fun _ _ _ _ _ => (pe_ix ix_str (pv 3) (pv 10) (fun _ _ => rfl))))))
      (pss_cons (ps_for PassesOwn.never rfl (pi_range1 rfl T.b_range (pa_cons pe_int pa_nil)) (pg_name (i := 9) sc.nd rfl (Or.inl rfl))
      (pss_one (ps_if (pt_cmpR (opIn K) (pv 8) (pv 5) rfl)
      (pss_one (ps_set (i := 8) sc.nd rfl (Or.inl rfl) (pe_op op_add_str (pe_ix ix_str (pv 3) (pe_op op_mod (pe_callTy call_int1 (by rfl) T.b_int (by decide +kernel) (pa_cons (pe_op op_add (pe_op op_add (pe_ix (ixL K) (pv 7) pe_int (fun _ _ => rfl)) (pv 9)) pe_int) pa_nil)) pe_int) (fun _ _ => rfl)) (pe_slice sl_str (pv 8) (po_some pe_int) po_none))))
      pss_nil)))
      (pss_one (ps_expr (pe_bm PySem.F.plainAttrs_list PySem.F.slot_list_append PySem.F.type_list_append mt_append (pv 5) (pa_cons (pv 8) pa_nil)))))))))
      (pss_one (ps_ret (pv 5))))))), ?_⟩
    refine ⟨_, rfl, _, rfl, size_le (by show 1 ≤ _; omega), fun q hq => ?_⟩
    have s1 := Same.new (o := .lst (([4] : List Int).map V.int)) hq
    refine ⟨size_le (by show 7 ≤ _; omega), fun q2 hq2 => ?_⟩
    have s2 := Same.step (o := .lst (lims7.map V.int)) s1 hq2
    have n12 : q ≠ q2 := ne_of_none upd_same hq2
    refine ⟨_, rfl, q2, _, lims7.map V.int, rfl, rfl, upd_same, by omega, by omega, by show 7 * 8 ≤ _; exact size_le (by omega), fun q3 hq3 => ?_⟩
    have el : (List.replicate (Int.toNat 8) (lims7.map V.int)).flatten = (List.replicate 8 lims7).flatten.map V.int := rep_map V.int lims7 8
    rw [el]
    have s3 := Same.step (o := .lst ((List.replicate 8 lims7).flatten.map V.int)) s2 hq3
    have hq1 : upd (upd (upd H q (.lst (([4] : List Int).map V.int))) q2 (.lst (lims7.map V.int))) q3 (.lst ((List.replicate 8 lims7).flatten.map V.int)) q = some (.lst (([4] : List Int).map V.int)) :=
      (Same.step (Same.new hq2) hq3) _ _ upd_same
    refine ⟨q, q3, ([4] : List Int).map V.int, _, rfl, rfl, hq1, upd_same, by rw [List.length_map, List.length_map, rep_len]; exact size_le (by show 1 + 8 * 7 ≤ _; omega), fun l hl2 => ?_⟩
    rw [← List.map_append]
    have s4 := Same.step (o := .lst ((([4] : List Int) ++ (List.replicate 8 lims7).flatten).map V.int)) s3 hl2
    refine ⟨a, j, ns, l, [4] ++ (List.replicate 8 lims7).flatten, rfl, hl.sm s4, h0, upd_same, fun x hx => ?_, ?_, fun p H1 ds s5 hp hpl hds => ?_⟩
    · rcases List.mem_append.mp hx with hx | hx
      · rw [List.mem_singleton.mp hx]; omega
      · have := rep_mem hx
        revert this
        revert x
        decide
    · rw [List.length_append, rep_len]
      show 1 + 8 * 7 ≤ _
      omega
    have s5 := s4.trans s5
    have hdl : ds.length = 57 := by rw [paired_len hds, List.length_append, rep_len]; rfl
    refine ⟨size_le (by show 0 ≤ _; omega), fun n hn => ?_⟩
    have s6 := Same.step (o := .lst []) s5 hn
    have hpl6 := (Same.new (o := .lst []) hn) _ _ hpl
    have hnH : H n = none := s5.free hn
    have npn : p ≠ n := ne_of_none hpl hn
    obtain ⟨d00, e00, _, _⟩ := drawn_get hds (i := 0) (q := 4) rfl
    refine ⟨_, rfl, _, rfl, by omega, by omega, ?_⟩
    rw [show Int.toNat 8 = 8 from rfl]
    refine for_it walk_r0 (fun i σ H2 => ∃ (xs : List Str) (v6 v7 v8 v9 v10 : Option V), σ = [some (.ref a), some (.int j), some (.int 8), some (.str (Str.ofString "abcdefghijklmnopqrstuvwxyz")), some (.ref p), some (.ref n), v6, v7, v8, v9, v10] ∧ L2.Same H H2 ∧ H2 p = some (.lst (ds.map V.int)) ∧ H2 n = some (.lst (xs.map V.str)) ∧ xs.length = i ∧ ∀ x ∈ xs, okN x)
      ⟨[], none, none, none, none, none, rfl, s6, hpl6, upd_same, rfl, fun x hx => by simp at hx⟩ (fun _ _ _ _ _ => trivial) ?_ ?_
    · rintro i x σ H2 H3 hi ⟨xs, v6, v7, v8, v9, v10, rfl, s7, hpd, hnl, hxl, hxb⟩ ⟨rfl, rfl⟩
      have get : ∀ {t : Nat} {q : Int}, lims7[t]? = some q → ∃ d, ds[1 + (7 * i + t)]? = some d ∧ 0 ≤ d ∧ d < q := fun {t q} e => by
        have g := rep_get (xs := lims7) (j := t) (a := q) e hi
        refine drawn_get hds (i := 1 + (7 * i + t)) ?_
        rw [List.getElem?_append_right (by show 1 ≤ _; omega)]
        rw [← g]
        congr 1
        show 1 + (7 * i + t) - 1 = 7 * i + t
        omega
      obtain ⟨d, ed, bd, cd⟩ := get (t := 0) rfl
      -- signs = drawn[2 + 7 * k:3 + 7 * k + drawn[1 + 7 * k]]
      refine ⟨_, rfl, _, rfl, _, _, rfl, rfl, .inl (by decide), _, _, rfl, rfl, _, rfl, _, rfl, _, _, rfl, rfl, .inl (by decide), _, _, rfl, rfl, _, rfl, _, rfl, _, _, rfl, rfl, .inl (by decide), _, _, rfl, rfl, p, _, _, _, rfl, rfl, SqL.of hpd, atI_int (by show 1 + (7 : Int) * (i : Int) = _; simp) ed,
        _, _, rfl, rfl, _, rfl, p, _, rfl, SqL.of hpd, fun c hc => ?_⟩
      obtain ⟨dn, rfl⟩ : ∃ dn : Nat, d = dn := ⟨d.toNat, by omega⟩
      have ecut : cutV (ds.map V.int) (some (2 + 7 * (i : Int))) (some (3 + 7 * (i : Int) + (dn : Int))) = ((ds.drop (2 + 7 * i)).take (1 + dn)).map V.int := by
        have := cutV_nat V.int ds (2 + 7 * i) (3 + 7 * i + dn) (by omega)
        rw [show 3 + 7 * i + dn - (2 + 7 * i) = 1 + dn by omega] at this
        rw [← this]
        congr 2 <;> simp
      rw [ecut]
      obtain ⟨ys, hys⟩ : ∃ ys, ys = (ds.drop (2 + 7 * i)).take (1 + dn) := ⟨_, rfl⟩
      rw [← hys]
      have hyl : ys.length = 1 + dn := by rw [hys, List.length_take, List.length_drop]; omega
      have hyb : ∀ y ∈ ys, 0 ≤ y ∧ y < 26 := fun y hy => by
        rw [hys] at hy
        obtain ⟨t, ht⟩ := List.getElem?_of_mem hy
        have htl : t < 1 + dn := by
          have := (List.getElem?_eq_some_iff.mp ht).1
          rw [List.length_take] at this
          omega
        rw [List.getElem?_take_of_lt htl, List.getElem?_drop] at ht
        have hl7 : lims7[1 + t]? = some 26 := by
          have : ∀ t, t < 6 → lims7[1 + t]? = some 26 := by decide
          exact this t (by omega)
        obtain ⟨d', e', b', c'⟩ := get hl7
        rw [show 1 + (7 * i + (1 + t)) = 2 + 7 * i + t by omega] at e'
        rw [e'] at ht
        cases ht
        exact ⟨b', c'⟩
      have s8 := Same.new (o := .lst (ys.map V.int)) hc
      have hpd8 := s8 _ _ hpd
      -- if drawn[0] == 1
      refine ⟨fun σ H' => L2.Same (upd H3 c (.lst (ys.map V.int))) H' ∧ ∃ (g : Addr) (zs : List Int), σ = [some (.ref a), some (.int j), some (.int 8), some (.str (Str.ofString "abcdefghijklmnopqrstuvwxyz")), some (.ref p), some (.ref n), some (.int i), some (.ref g), v8, v9, v10] ∧
        H' g = some (.lst (zs.map V.int)) ∧ zs.length = 1 + dn ∧ ∀ z ∈ zs, 0 ≤ z ∧ z < 26, ?_, ?_⟩
      · refine ⟨_, rfl, p, _, 0, _, rfl, rfl, SqL.of hpd8, atI_int (i := 0) rfl e00, rfl, _, rfl, ite_b (fun cc => ?_) (fun cc => ?_)⟩
        · refine ⟨_, rfl, c, rfl, ⟨_, SqL.of upd_same⟩, fun D hD => lc_grow walk_list hD (by rw [List.length_map]; omega) (fun H' s => SqL.of (s _ _ upd_same)) (fun t acc _ => ∃ zs : List Int, acc = zs.map V.int ∧ zs.length = t ∧ ∀ z ∈ zs, 0 ≤ z ∧ z < 26) (fun _ _ _ _ _ _ _ h => h) ⟨[], rfl, rfl, fun z hz => by simp at hz⟩ ?_ ?_⟩
          · rintro t v acc H4 H5 N1 N0 ht s9 hDl ha ⟨zs, rfl, hzl, hzb⟩ k1 k0 ⟨rfl, hv⟩
            obtain ⟨y, hy, rfl⟩ := get_map_int hv
            refine ⟨rfl, _, rfl, .inl ⟨_, rfl, _, _, rfl, rfl, (show (0 : Int) < 2 by decide), k1 _ _ (L2.Same.refl _) ⟨zs ++ [y % 2], by rw [List.map_append]; rfl, by rw [List.length_append, hzl]; rfl, fun z hz => ?_⟩⟩⟩
            rcases List.mem_append.mp hz with h | h
            · exact hzb z h
            · rw [List.mem_singleton.mp h]
              omega
          · rintro acc H4 s9 hDl ha ⟨zs, rfl, hzl, hzb⟩
            exact ⟨s9, D, zs, rfl, hDl, by rw [hzl, List.length_map, hyl], hzb⟩
        · exact ⟨L2.Same.refl _, c, ys, rfl, upd_same, hyl, hyb⟩
      rintro σ H4 ⟨s9, g, zs, rfl, hgl, hzl, hzb⟩
      -- name = ''.join([letters[sign] for sign in signs])
      refine ⟨⟨_, rfl⟩, _, rfl, g, rfl, ⟨_, SqL.of hgl⟩, fun D hD => lc_grow walk_list hD (by rw [List.length_map]; omega) (fun H' s => SqL.of (s _ _ hgl)) (fun t acc _ => ∃ cs : List Nat, acc = cs.map (fun c => V.str ⟨#[c]⟩) ∧ cs.length = t ∧ ∀ z ∈ cs, 97 ≤ z ∧ z ≤ 122) (fun _ _ _ _ _ _ _ h => h) ⟨[], rfl, rfl, fun z hz => by simp at hz⟩ ?_ ?_⟩
      · rintro t v acc H5 H6 N1 N0 ht s10 hDl ha ⟨cs, rfl, hcl, hcb⟩ k1 k0 ⟨rfl, hv⟩
        obtain ⟨y, hy, rfl⟩ := get_map_int hv
        have hyb := hzb y (List.mem_of_getElem? hy)
        refine ⟨rfl, _, rfl, _, rfl, _, _, 97 + y.toNat, rfl, rfl, size_le (by show 26 ≤ _; omega), atI_pos hyb.1 (let_at (by omega)), k1 _ _ (L2.Same.refl _) ⟨cs ++ [97 + y.toNat], by rw [List.map_append]; rfl, by rw [List.length_append, hcl]; rfl, fun z hz => ?_⟩⟩
        rcases List.mem_append.mp hz with h | h
        · exact hcb z h
        · rw [List.mem_singleton.mp h]
          omega
      rintro acc H5 s10 hDl ha ⟨cs, rfl, hcl, hcb⟩
      rw [List.length_map, hzl] at hcl
      have ecs : (cs.map fun c => V.str ⟨#[c]⟩) = (cs.map fun c => (⟨#[c]⟩ : Str)).map V.str := by rw [List.map_map]; rfl
      refine ⟨Str.empty, D, cs.map fun c => ⟨#[c]⟩, rfl, rfl, .inl (SqL.of (by rw [← ecs]; exact hDl)), ?_, ?_⟩
      · rw [List.map_map, show (Str.length ∘ fun c => (⟨#[c]⟩ : Str)) = fun _ => 1 from rfl, List.map_const', List.sum_replicate_nat, List.length_map]
        show cs.length * 1 + cs.length * 0 ≤ _
        omega
      have hnm : tl (Txt.join Str.empty (cs.map fun c => ⟨#[c]⟩)) = cs := by
        rw [join_eq, tl_join, List.map_map]
        exact join_one cs
      have hok : okN (Txt.join Str.empty (cs.map fun c => ⟨#[c]⟩)) := okN_of (by rw [hnm]; intro z; rw [z] at hcl; simp at hcl; omega) (by rw [hnm, hcl]; omega) (by rw [hnm]; exact hcb)
      have s11 := s9.trans s10
      have hnl11 := s11 _ _ (s8 _ _ hnl)
      have hgl11 := s10 _ _ hgl
      refine ⟨_, rfl, by decide, by decide, ?_⟩
      rw [show Int.toNat 26 = 26 from rfl]
      refine for_it walk_r0 (fun t σ H' => H' = H5 ∧ ∃ (z : Str) (v9 : Option V), σ = [some (.ref a), some (.int j), some (.int 8), some (.str (Str.ofString "abcdefghijklmnopqrstuvwxyz")), some (.ref p), some (.ref n), some (.int i), some (.ref g), some (.str z), v9, v10] ∧ okN z)
        ⟨rfl, _, _, rfl, hok⟩ (fun _ _ _ _ _ => trivial) ?_ ?_
      · rintro t x σ H' H6 ht ⟨rfl, z, v9, rfl, hz⟩ ⟨rfl, rfl⟩
        refine ⟨_, rfl, _, rfl, n, _, rfl, .inl (SqL.of hnl11), rfl, ?_, _, rfl, ite_b (fun cc => ?_) (fun cc => ⟨rfl, _, _, rfl, hz⟩)⟩
        · rw [List.all_map, List.all_eq_true]
          intro _ _
          rfl
        · obtain ⟨z0, hz0⟩ : ∃ z0, zs[0]? = some z0 := ⟨zs[0]'(by omega), List.getElem?_eq_getElem (by omega)⟩
          have hm0 := Int.emod_nonneg (z0 + (t : Int) + 1) (show (26 : Int) ≠ 0 by decide)
          have hm1 := Int.emod_lt_of_pos (z0 + (t : Int) + 1) (show (0 : Int) < 26 by decide)
          have hzn := okNm_iff.mp hz
          have hzl := str_len z
          refine ⟨_, rfl, _, rfl, g, _, 0, _, rfl, rfl, SqL.of hgl11, atI_int (i := 0) rfl hz0, _, rfl, _, _, rfl, rfl, _, _, rfl, rfl, .inl ⟨_, rfl, _, _, rfl, rfl, (show (0 : Int) < 26 by decide), _, _, 97 + ((z0 + (t : Int) + 1) % 26).toNat, rfl, rfl, size_le (by show 26 ≤ _; omega), atI_pos hm0 (let_at (by omega)),
            _, rfl, 1, rfl, z, rfl, size_le (by omega), _, _, rfl, rfl, ?_, rfl, _, _, rfl, ?_⟩⟩
          · have h1 := str_len (cutS z (some 1) none)
            rw [show (1 : Int) = ((1 : Nat) : Int) from rfl, cut_drop, List.length_drop] at h1
            rw [show (1 : Int) = ((1 : Nat) : Int) from rfl]
            rw [h1]
            exact size_le (by show 1 + _ ≤ _; omega)
          · have et : tl (⟨#[97 + ((z0 + (t : Int) + 1) % 26).toNat]⟩ ++ cutS z (some 1) none : Str) = (97 + ((z0 + (t : Int) + 1) % 26).toNat) :: (tl z).drop 1 := by
              rw [tl_append, show (1 : Int) = ((1 : Nat) : Int) from rfl, cut_drop]
              rfl
            refine okN_of (by rw [et]; intro z; cases z) (by rw [et, List.length_cons, List.length_drop]; omega) (by
              rw [et]
              intro c hc
              rcases List.mem_cons.mp hc with h | h
              · rw [h]; omega
              · exact hzn.2.2 c (List.mem_of_mem_drop h))
      · rintro σ H' ⟨rfl, z, v9, rfl, hz⟩
        have s12 := s7.trans (s8.trans s11)
        refine ⟨_, rfl, .inl ⟨rfl, _, SqL.of hnl11⟩, _, rfl, n, _, _, rfl, rfl, hnl11, size_lt (by rw [List.length_map]; omega), xs ++ [z], _, _, _, _, _, rfl, Same.mut s12 hnH, ?_, ?_, ?_, ?_⟩
        · rw [upd_ne npn]
          exact s11 _ _ hpd8
        · rw [upd_same, List.map_append]
          rfl
        · rw [List.length_append, hxl]
          rfl
        · intro x hx
          rcases List.mem_append.mp hx with h | h
          · exact hxb x h
          · rw [List.mem_singleton.mp h]
            exact hz
    · rintro σ H2 ⟨xs, v6, v7, v8, v9, v10, rfl, s7, hpd, hnl, hxl, hxb⟩
      exact ⟨_, rfl, k n H2 xs s7 hnH hnl hxl hxb⟩
end
end A80
end
section
set_option Elab.async false
set_option maxRecDepth 100000
set_option maxHeartbeats 4000000
namespace A80
open PySem PySem.Spec L2 PyProof.Rows TL
/-! ### _law_row -/
abbrev S_law_row : Stmt := topS 27
theorem sc_law_row : FnScope ["_law_script", "_law_at", "_law_first", "_law_size", "_law_high", "_law_drawn", "_law_row_here", "_law_values", "_law_k", "_law_entry"] ["_law_script", "_law_at", "_law_first", "_law_size", "_law_high"] (defScope S_law_row) := ⟨rfl, rfl, rfl, by decide +kernel, rfl, by decide +kernel, by decide +kernel⟩
def RwB (row : Row) : Prop := row ≠ [] ∧ (row.map (·.1)).Nodup ∧ row.length ≤ 15 ∧ ∀ p ∈ row, -6 ≤ p.1 ∧ p.1 ≤ 9 ∧ 0 ≤ p.2 ∧ p.2 < 7
theorem RwB.perm {r r' : Row} (h : RwB r) (p : r'.Perm r) : RwB r' := by
  obtain ⟨h1, h2, h3, h4⟩ := h
  refine ⟨fun z => h1 ?_, (p.map _).nodup_iff.mpr h2, by rw [p.length_eq]; exact h3, fun q hq => h4 q (p.mem_iff.mp hq)⟩
  rw [z] at p
  exact p.nil_eq.symm
theorem prs_rev {H : Hp} {ts : List Addr} {row : Row} (h : Paired (PrAt H) ts row) : Paired (PrAt H) ts.reverse row.reverse := by
  induction h with
  | nil => exact .nil
  | cons a b ih =>
    rw [List.reverse_cons, List.reverse_cons]
    exact paired_snoc ih a
theorem paired_take {α β : Type} {R : α → β → Prop} : ∀ {l : List α} {m : List β} (n : Nat), Paired R l m → Paired R (l.take n) (m.take n)
  | _, _, 0, _ => .nil
  | _, _, _ + 1, .nil => .nil
  | _, _, n + 1, .cons a b => .cons a (paired_take n b)
theorem paired_drop {α β : Type} {R : α → β → Prop} : ∀ {l : List α} {m : List β} (n : Nat), Paired R l m → Paired R (l.drop n) (m.drop n)
  | _, _, 0, h => h
  | _, _, _ + 1, .nil => .nil
  | _, _, n + 1, .cons _ b => paired_drop n b
theorem paired_app {α β : Type} {R : α → β → Prop} : ∀ {l l' : List α} {m m' : List β}, Paired R l m → Paired R l' m' → Paired R (l ++ l') (m ++ m')
  | _, _, _, _, .nil, h => h
  | _, _, _, _, .cons a b, h => .cons a (paired_app b h)
def spRowL (K : PySem.W.Frag) : Sp := fun vs H Q _ => ∃ (a : Addr) (k : Int) (ns : List Int) (h : Int), vs = [.ref a, .int k, .int (-6), .int 15, .int h] ∧ SqL K H a (ns.map V.int) ∧ 0 ≤ k ∧ 1 ≤ h ∧ h ≤ 4 ∧
  ∀ (p : Addr) (H' : Hp) (row : Row), Same H H' → H p = none → RowAt H' p row → RwB row → Q (.ref p) H'
section
variable {P : Program} {w : World} {K : PySem.W.Frag} {mg : Str → Option Value} {base : Heap} {CS : Addr}
theorem cl_law_row (T : Tx K mg CS) (D : Df K mg "_law_row" S_law_row ["_law_script", "_law_at", "_law_first", "_law_size", "_law_high"]) (c_law_draws : Cl P w K mg base 2 "_law_draws" (spDraws K)) : Cl P w K mg base 3 "_law_row" (spRowL K) := by
  have sc := sc_law_row
  refine cl_mk D sc (fun vs H Q E h => ?_) (fun f cdv A outer s H vs Q E hr h => ?_)
  · obtain ⟨a, k, ns, hh, rfl, _⟩ := h
    rfl
  · obtain ⟨a, j, ns, hh, rfl, hl, h0, hh1, hh2, k⟩ := h
    refine ⟨_, (pss_cons (ps_set (i := 5) sc.nd rfl (Or.inr rfl) (pe_c c_law_draws hr (by decide) rfl (pa_cons (pv 0) (pa_cons (pv 1) (pa_cons (pe_op op_cat (pe_lst (pa_cons pe_int (pa_cons (pv 3) (pa_cons (pv 4) pa_nil)))) (pe_op op_rep (pe_lst (pa_cons pe_int (pa_cons (pv 4) pa_nil))) (pv 3))) pa_nil)))))
      (pss_cons (ps_set (i := 6) sc.nd rfl (Or.inr rfl) (pe_lc (own := [("_law_k", 8)]) rfl sc.nd (pi_range1 rfl T.b_range (pa_cons (pv 3) pa_nil)) (blkOk_by (own := [("_law_k", 8)]) (N := ["_law_script", "_law_at", "_law_first", "_law_size", "_law_high", "_law_drawn", "_law_row_here", "_law_values", "_law_k", "_law_entry"]) (sc := (defScope S_law_row)) (by decide +kernel)) (fun _ _ _ _ _ => (pg_name (i := 8) sc.nd rfl (Or.inl rfl))) (fun _ _ _ _ _ => (pts_one (pt_cmpR op_eq (pe_ix (ixL K) (pv 5) (pe_op op_add pe_int (pe_op op_mul pe_int (pv 8))) (fun _ _ => rfl)) pe_int (nomark _)))) (fun _ _ _ _ _ => (pe_tup (pa_cons (pe_op op_add (pv 2) (pv 8)) (pa_cons (pe_ix (ixL K) (pv 5) (pe_op op_add pe_int (pe_op op_mul pe_int (pv 8))) (fun _ _ => rfl)) pa_nil))))))
      (C8.pss_cut (ps_if (pt_cmpR (op_eqD hr.units) (pv 6) (pe_lst pa_nil) (nomark _))
      (pss_one (ps_set (i := 6) sc.nd rfl (Or.inr rfl) (pe_lst (pa_cons (pe_tup (pa_cons (pe_op op_add (pv 2) (pe_ix (ixL K) (pv 5) pe_int (fun _ _ => rfl))) (pa_cons (pe_ix (ixL K) (pv 5) pe_int (fun _ _ => rfl)) pa_nil))) pa_nil))))
      pss_nil)
      (C8.pss_cut (ps_if (pt_cmpR op_eq (pe_ix (ixL K) (pv 5) pe_int (fun _ _ => rfl)) pe_int (nomark _))
      (pss_one (ps_set (i := 6) sc.nd rfl (Or.inr rfl) (pe_revL (pv 6))))
      pss_nil)
      (C8.pss_cut (ps_if (pt_cmpR op_eq (pe_ix (ixL K) (pv 5) pe_int (fun _ _ => rfl)) pe_int (nomark _))
      (pss_one (ps_set (i := 6) sc.nd rfl (Or.inr rfl) (pe_op op_cat (pe_slice (slL K) (pv 6) (po_some pe_int) po_none) (pe_slice (slL K) (pv 6) po_none (po_some pe_int)))))
      pss_nil)
      (C8.pss_cut (ps_if (pt_cmpR op_eq (pe_ix (ixL K) (pv 5) pe_int (fun _ _ => rfl)) pe_int (nomark _))
      (pss_cons (ps_set (i := 7) sc.nd rfl (Or.inr rfl) (pe_callB cr_sortedI (by rfl) T.b_sorted (by decide +kernel) (pa_cons (pe_lc (own := [("_law_entry", 9)]) rfl sc.nd (piL K (pv 6)) (blkOk_by (own := [("_law_entry", 9)]) (N := ["_law_script", "_law_at", "_law_first", "_law_size", "_law_high", "_law_drawn", "_law_row_here", "_law_values", "_law_k", "_law_entry"]) (sc := (defScope S_law_row)) (by decide +kernel)) (fun _ _ _ _ _ => (pg_name (i := 9) sc.nd rfl (Or.inl rfl))) (fun _ _ _ _ _ => pts_nil) (fun _ _ _ _ _ => (pe_ix (ixT K) (pv 9) pe_int (fun _ _ => rfl)))) pa_nil)))
      (pss_one (ps_set (i := 6) sc.nd rfl (Or.inr rfl) (pe_lc (own := [("_law_k", 8)]) rfl sc.nd (pi_range1 rfl T.b_range (pa_cons (pe_callB (cLen K) (by rfl) T.b_len (by decide +kernel) (pa_cons (pv 6) pa_nil)) pa_nil)) (blkOk_by (own := [("_law_k", 8)]) (N := ["_law_script", "_law_at", "_law_first", "_law_size", "_law_high", "_law_drawn", "_law_row_here", "_law_values", "_law_k", "_law_entry"]) (sc := (defScope S_law_row)) (by decide +kernel)) (fun _ _ _ _ _ => (pg_name (i := 8) sc.nd rfl (Or.inl rfl))) (fun _ _ _ _ _ => pts_nil) (fun _ _ _ _ _ => (pe_tup (pa_cons (pe_ix (ixT K) (pe_ix (ixL K) (pv 6) (pv 8) (fun _ _ => rfl)) pe_int (fun _ _ => rfl)) (pa_cons (pe_ix (ixL K) (pv 7) (pv 8) (fun _ _ => rfl)) pa_nil))))))))
      pss_nil)
      (pss_one (ps_ret (pv 6))))))))), ?_⟩
    refine ⟨_, rfl, _, rfl, _, rfl, _, rfl, size_le (by show 3 ≤ _; omega), fun q hq => ?_⟩
    have s1 := Same.new (o := .lst (([4, 15, hh] : List Int).map V.int)) hq
    refine ⟨_, rfl, size_le (by show 2 ≤ _; omega), fun q2 hq2 => ?_⟩
    have s2 := Same.step (o := .lst (([2, hh] : List Int).map V.int)) s1 hq2
    refine ⟨_, rfl, q2, _, ([2, hh] : List Int).map V.int, rfl, rfl, upd_same, by omega, by omega, by show 2 * 15 ≤ _; exact size_le (by omega), fun q3 hq3 => ?_⟩
    have el : (List.replicate (Int.toNat 15) (([2, hh] : List Int).map V.int)).flatten = (List.replicate 15 [2, hh]).flatten.map V.int := rep_map V.int [2, hh] 15
    rw [el]
    have s3 := Same.step (o := .lst ((List.replicate 15 [2, hh]).flatten.map V.int)) s2 hq3
    have hq1 : upd (upd (upd H q (.lst (([4, 15, hh] : List Int).map V.int))) q2 (.lst (([2, hh] : List Int).map V.int))) q3 (.lst ((List.replicate 15 [2, hh]).flatten.map V.int)) q = some (.lst (([4, 15, hh] : List Int).map V.int)) :=
      (Same.step (Same.new hq2) hq3) _ _ upd_same
    refine ⟨q, q3, ([4, 15, hh] : List Int).map V.int, _, rfl, rfl, hq1, upd_same, by rw [List.length_map, List.length_map, rep_len]; exact size_le (by show 3 + 15 * 2 ≤ _; omega), fun l hl2 => ?_⟩
    rw [← List.map_append]
    have s4 := Same.step (o := .lst ((([4, 15, hh] : List Int) ++ (List.replicate 15 [2, hh]).flatten).map V.int)) s3 hl2
    refine ⟨a, j, ns, l, [4, 15, hh] ++ (List.replicate 15 [2, hh]).flatten, rfl, hl.sm s4, h0, upd_same, fun x hx => ?_, ?_, fun p H1 ds s5 hp hpl hds => ?_⟩
    · rcases List.mem_append.mp hx with hx | hx
      · simp at hx
        omega
      · have := rep_mem hx
        simp at this
        omega
    · rw [List.length_append, rep_len]
      show 3 + 15 * 2 ≤ _
      omega
    have s5 := s4.trans s5
    obtain ⟨d0, e0, b0, c0⟩ := drawn_get hds (i := 0) (q := 4) rfl
    obtain ⟨d1, e1, b1, c1⟩ := drawn_get hds (i := 1) (q := 15) rfl
    obtain ⟨d2, e2, b2, c2⟩ := drawn_get hds (i := 2) (q := hh) rfl
    have get : ∀ {i t : Nat} {q : Int}, i < 15 → ([2, hh] : List Int)[t]? = some q → ∃ d, ds[3 + (2 * i + t)]? = some d ∧ 0 ≤ d ∧ d < q := fun {i t q} hi e => by
      have g := rep_get (xs := [2, hh]) (j := t) (a := q) e hi
      refine drawn_get hds (i := 3 + (2 * i + t)) ?_
      rw [List.getElem?_append_right (by show 3 ≤ _; omega)]
      rw [← g]
      congr 1
      show 3 + (2 * i + t) - 3 = 2 * i + t
      omega
    -- row = [(first + k, drawn[4 + 2 * k]) for k in range(size) if drawn[3 + 2 * k] == 1]
    refine ⟨_, rfl, _, rfl, by decide, by decide, fun D hD => lc_grow (n := 15) walk_r0 hD (by omega) (fun _ _ => trivial) (fun t acc H' => ∃ (ts : List Addr) (row : Row), acc = ts.map V.ref ∧ Paired (PrAt H') ts row ∧ (row.map (·.1)).Nodup ∧ row.length ≤ t ∧ ∀ p ∈ row, -6 ≤ p.1 ∧ p.1 < -6 + (t : Int) ∧ 0 ≤ p.2 ∧ p.2 < 4)
      (by rintro i acc acc' H H' hd he ⟨ts, row, ea, hp, hn⟩; exact ⟨ts, row, ea, prs_but hd he hp, hn⟩) ⟨[], [], rfl, .nil, List.nodup_nil, Nat.zero_le _, fun p hp => by simp at hp⟩ ?_ ?_⟩
    · rintro t v acc H2 H3 N1 N0 ht s6 hDl ha ⟨ts, row, rfl, hp2, hnd, hrl, hrb⟩ k1 k0 ⟨rfl, rfl⟩
      have hpd : SqL K H3 p (ds.map V.int) := SqL.of (s6 _ _ hpl)
      obtain ⟨x, ex, bx, cx⟩ := get (t := 0) ht rfl
      obtain ⟨y, ey, yb, yc⟩ := get (t := 1) ht rfl
      refine ⟨rfl, _, rfl, _, rfl, _, _, rfl, rfl, .inl (by decide), _, _, rfl, rfl, p, _, _, _, rfl, rfl, hpd, atI_int (by show 3 + (2 : Int) * (t : Int) = _; simp) ex, rfl, _, rfl, ite_b (fun cc => ?_) (fun cc => ?_)⟩
      · refine ⟨_, rfl, _, rfl, _, _, rfl, rfl, _, rfl, _, rfl, _, _, rfl, rfl, .inl (by decide), _, _, rfl, rfl, p, _, _, _, rfl, rfl, hpd, atI_int (by show 4 + (2 : Int) * (t : Int) = _; simp; omega) ey, size_le (by show 2 ≤ _; omega), fun u hu => ?_⟩
        have s7 := Same.new (o := .tup [.int (-6 + (t : Int)), .int y]) hu
        refine k1 _ _ s7 ⟨ts ++ [u], row ++ [(-6 + (t : Int), y)], by rw [List.map_append]; rfl, paired_snoc (prs_same s7 hp2) upd_same, ?_, ?_, ?_⟩
        · rw [List.map_append]
          refine List.nodup_append.mpr ⟨hnd, List.pairwise_singleton _ _, fun a ha b hb e => ?_⟩
          rw [List.map_singleton, List.mem_singleton] at hb
          obtain ⟨q, hq, e2⟩ := List.mem_map.mp ha
          have := hrb q hq
          have e3 : b = -6 + (t : Int) := hb
          omega
        · rw [List.length_append, List.length_singleton]; omega
        · intro q hq
          rcases List.mem_append.mp hq with h | h
          · have := hrb q h
            omega
          · rw [List.mem_singleton.mp h]
            show -6 ≤ -6 + (t : Int) ∧ -6 + (t : Int) < -6 + ((t + 1 : Nat) : Int) ∧ 0 ≤ y ∧ y < 4
            omega
      · refine k0 _ (L2.Same.refl _) ⟨ts, row, rfl, hp2, hnd, by omega, fun q hq => ?_⟩
        have := hrb q hq
        omega
    rintro acc H2 s6 hDl ha ⟨ts, row, rfl, hp2, hnd, hrl, hrb⟩
    have hrow : RowAt H2 D row := ⟨ts, hDl, hp2⟩
    have s7 := s5.trans s6
    have hpl2 := s6 _ _ hpl
    have hDn := s5.free hD
    -- if row == []
    refine ⟨fun σ H' => L2.Same H H' ∧ H' p = some (.lst (ds.map V.int)) ∧ ∃ (g : Addr) (r : Row) (v7 v8 v9 : Option V), σ = [some (.ref a), some (.int j), some (.int (-6)), some (.int 15), some (.int hh), some (.ref p), some (.ref g), v7, v8, v9] ∧ RowAt H' g r ∧ RwB r ∧ H g = none, ?_, ?_⟩
    · refine ⟨_, rfl, size_le (by show 0 ≤ _; omega), fun q4 hq4 => ?_⟩
      have s8 := Same.new (o := .lst []) hq4
      refine ⟨rowD row, .list [], dp_row (hrow.same s8), dp_nil upd_same, shaped_row _, rfl, _, rfl, ite_b (fun cc => ?_) (fun cc => ?_)⟩
      · refine ⟨_, rfl, _, rfl, p, _, 1, _, rfl, rfl, SqL.of (s8 _ _ hpl2), atI_int (i := 1) rfl e1, _, _, rfl, rfl, _, rfl, p, _, 2, _, rfl, rfl, SqL.of (s8 _ _ hpl2), atI_int (i := 2) rfl e2, size_le (by show 2 ≤ _; omega), fun u hu => ?_⟩
        have s9 := Same.new (o := .tup [.int (-6 + d1), .int d2]) hu
        refine ⟨size_le (by show 1 ≤ _; omega), fun g hg => ?_⟩
        have s10 := Same.new (o := .lst [.ref u]) hg
        have s11 := s8.trans (s9.trans s10)
        refine ⟨s7.trans s11, s11 _ _ hpl2, g, [(-6 + d1, d2)], none, none, none, rfl, ⟨[u], upd_same, .cons (s10 _ _ upd_same) .nil⟩, ⟨by simp, by simp, by simp, fun q hq => ?_⟩, (s7.trans (s8.trans s9)).free hg⟩
        rw [List.mem_singleton.mp hq]
        show -6 ≤ -6 + d1 ∧ -6 + d1 ≤ 9 ∧ 0 ≤ d2 ∧ d2 < 7
        omega
      · have cc : ¬ row = [] := by
          have h := eqv_row row []
          rw [rowD_nil] at h
          rw [h] at cc
          exact of_decide_eq_false cc
        refine ⟨s7.trans s8, s8 _ _ hpl2, D, row, none, none, none, rfl, hrow.same s8, ⟨cc, hnd, hrl, fun q hq => ?_⟩, hDn⟩
        have := hrb q hq
        omega
    rintro σ H3 ⟨s8, hpl3, g, r, v7, v8, v9, rfl, hr1, hrb1, hgn⟩
    -- if drawn[0] == 1: row = row[::-1]
    refine ⟨fun σ H' => L2.Same H H' ∧ H' p = some (.lst (ds.map V.int)) ∧ ∃ (g : Addr) (r : Row) (v7 v8 v9 : Option V), σ = [some (.ref a), some (.int j), some (.int (-6)), some (.int 15), some (.int hh), some (.ref p), some (.ref g), v7, v8, v9] ∧ RowAt H' g r ∧ RwB r ∧ H g = none, ?_, ?_⟩
    · refine ⟨_, rfl, p, _, 0, _, rfl, rfl, SqL.of hpl3, atI_int (i := 0) rfl e0, rfl, _, rfl, ite_b (fun cc => ?_) (fun cc => ⟨s8, hpl3, g, r, v7, v8, v9, rfl, hr1, hrb1, hgn⟩)⟩
      obtain ⟨ts, ht1, ht2⟩ := hr1
      refine ⟨_, rfl, g, _, rfl, SqL.of ht1, fun u hu => ?_⟩
      rw [← List.map_reverse]
      have s9 := Same.new (o := .lst (ts.reverse.map V.ref)) hu
      exact ⟨s8.trans s9, s9 _ _ hpl3, u, r.reverse, v7, v8, v9, rfl, ⟨ts.reverse, upd_same, prs_same s9 (prs_rev ht2)⟩, hrb1.perm r.reverse_perm, s8.free hu⟩
    clear hr1 hrb1 hgn hpl3 s8
    rintro σ H3 ⟨s8, hpl3, g, r, v7, v8, v9, rfl, hr1, hrb1, hgn⟩
    -- if drawn[0] == 2: row = row[1:] + row[:1]
    refine ⟨fun σ H' => L2.Same H H' ∧ H' p = some (.lst (ds.map V.int)) ∧ ∃ (g : Addr) (r : Row) (v7 v8 v9 : Option V), σ = [some (.ref a), some (.int j), some (.int (-6)), some (.int 15), some (.int hh), some (.ref p), some (.ref g), v7, v8, v9] ∧ RowAt H' g r ∧ RwB r ∧ H g = none, ?_, ?_⟩
    · refine ⟨_, rfl, p, _, 0, _, rfl, rfl, SqL.of hpl3, atI_int (i := 0) rfl e0, rfl, _, rfl, ite_b (fun cc => ?_) (fun cc => ⟨s8, hpl3, g, r, v7, v8, v9, rfl, hr1, hrb1, hgn⟩)⟩
      obtain ⟨ts, ht1, ht2⟩ := hr1
      refine ⟨_, rfl, 1, rfl, g, _, rfl, SqL.of ht1, fun u hu => ?_⟩
      rw [show (1 : Int) = ((1 : Nat) : Int) from rfl, cutV_drop, ← List.map_drop]
      have s9 := Same.new (o := .lst ((ts.drop 1).map V.ref)) hu
      refine ⟨_, rfl, 1, rfl, g, _, rfl, SqL.of (s9 _ _ ht1), fun u2 hu2 => ?_⟩
      rw [show (1 : Int) = ((1 : Nat) : Int) from rfl, cutV_take, ← List.map_take]
      have s10 := Same.step (o := .lst ((ts.take 1).map V.ref)) s9 hu2
      have s10b := Same.new (o := .lst ((ts.take 1).map V.ref)) hu2
      refine ⟨u, u2, _, _, rfl, rfl, s10b _ _ upd_same, upd_same, ?_, fun u3 hu3 => ?_⟩
      · have := paired_len ht2
        have := hrb1.2.2.1
        rw [List.length_map, List.length_map, List.length_drop, List.length_take]
        exact size_le (by omega)
      · rw [← List.map_append]
        have s11 := Same.step (o := .lst ((ts.drop 1 ++ ts.take 1).map V.ref)) s10 hu3
        refine ⟨s8.trans s11, s11 _ _ hpl3, u3, r.drop 1 ++ r.take 1, v7, v8, v9, rfl, ⟨_, upd_same, prs_same s11 (paired_app (paired_drop 1 ht2) (paired_take 1 ht2))⟩, hrb1.perm ?_, (s8.trans s10).free hu3⟩
        refine List.perm_append_comm.trans ?_
        rw [List.take_append_drop]
    clear hr1 hrb1 hgn hpl3 s8
    rintro σ H3 ⟨s8, hpl3, g, r, v7, v8, v9, rfl, hr1, hrb1, hgn⟩
    -- if drawn[0] == 3: the values sorted
    refine ⟨fun σ H' => L2.Same H H' ∧ H' p = some (.lst (ds.map V.int)) ∧ ∃ (g : Addr) (r : Row) (v7 v8 v9 : Option V), σ = [some (.ref a), some (.int j), some (.int (-6)), some (.int 15), some (.int hh), some (.ref p), some (.ref g), v7, v8, v9] ∧ RowAt H' g r ∧ RwB r ∧ H g = none, ?_, ?_⟩
    · refine ⟨_, rfl, p, _, 0, _, rfl, rfl, SqL.of hpl3, atI_int (i := 0) rfl e0, rfl, _, rfl, ite_b (fun cc => ?_) (fun cc => ⟨s8, hpl3, g, r, v7, v8, v9, rfl, hr1, hrb1, hgn⟩)⟩
      obtain ⟨ts, ht1, ht2⟩ := hr1
      obtain ⟨q1, q2, q3, q4⟩ := hrb1
      have hlen := paired_len ht2
      refine ⟨_, rfl, g, rfl, ⟨_, SqL.of ht1⟩, fun D2 hD2 => lc_grow walk_list hD2 (by rw [List.length_map]; omega) (fun H' s => SqL.of (s _ _ ht1)) (fun t acc _ => acc = ((r.take t).map (·.2)).map V.int) (fun _ _ _ _ _ _ _ h => h) rfl ?_ ?_⟩
      · rintro t v acc H4 H5 N1 N0 ht s9 hDl ha rfl k1 k0 ⟨rfl, hv⟩
        obtain ⟨u, hu, rfl⟩ := get_map_ref hv
        obtain ⟨q, hq, hqu⟩ := paired_get ht2 hu
        refine ⟨rfl, _, rfl, u, _, 1, _, rfl, rfl, SqT.of (hqu.same s9), atI_get (i := 1) rfl, k1 _ _ (L2.Same.refl _) ?_⟩
        rw [take_succ_get hq, List.map_append, List.map_append]
        rfl
      rintro acc H4 s9 hDl ha rfl
      have etk : r.take (ts.map V.ref).length = r := List.take_of_length_le (by rw [List.length_map]; omega)
      rw [etk] at hDl
      refine ⟨D2, r.map (·.2), rfl, SqL.of hDl, fun zs u hperm hsrt hu => ?_⟩
      have s10 := Same.new (o := .lst (zs.map V.int)) hu
      have s11 := s9.trans s10
      have hg11 := s11 _ _ ht1
      have hzl : zs.length = r.length := by rw [hperm.length_eq, List.length_map]
      refine ⟨_, rfl, g, _, rfl, .inl (SqL.of hg11), _, rfl, by rw [List.length_map]; omega, by rw [List.length_map]; omega, fun D3 hD3 => ?_⟩
      have hn0 : (((ts.map V.ref).length : Nat) : Int).toNat = r.length := by rw [List.length_map]; omega
      rw [hn0]
      refine lc_grow walk_r0 hD3 (by omega) (fun _ _ => trivial) (fun t acc H' => ∃ (us : List Addr) (row : Row), acc = us.map V.ref ∧ Paired (PrAt H') us row ∧ row.map (·.1) = (r.map (·.1)).take t ∧ ∀ p ∈ row, 0 ≤ p.2 ∧ p.2 < 7)
        (by rintro i acc acc' H H' hd he ⟨ts, row, ea, hp, hn⟩; exact ⟨ts, row, ea, prs_but hd he hp, hn⟩) ⟨[], [], rfl, .nil, rfl, fun p hp => by simp at hp⟩ ?_ ?_
      · rintro t v acc H6 H7 N1 N0 ht s12 hDl2 ha ⟨us, row, rfl, hp3, hrw, hrb3⟩ k1 k0 ⟨rfl, rfl⟩
        obtain ⟨e, he⟩ : ∃ e, ts[t]? = some e := ⟨ts[t]'(by omega), List.getElem?_eq_getElem (by omega)⟩
        obtain ⟨q, hq, hqe⟩ := paired_get ht2 he
        obtain ⟨z, hz⟩ : ∃ z, zs[t]? = some z := ⟨zs[t]'(by omega), List.getElem?_eq_getElem (by omega)⟩
        have hzb : 0 ≤ z ∧ z < 7 := by
          obtain ⟨q', hq', e'⟩ := List.mem_map.mp (hperm.mem_iff.mp (List.mem_of_getElem? hz))
          have := q4 q' hq'
          omega
        have s13 := s11.trans s12
        refine ⟨rfl, _, rfl, _, rfl, g, _, _, _, rfl, rfl, SqL.of (s12 _ _ hg11), atI_ref rfl he, e, _, 0, _, rfl, rfl, SqT.of (hqe.same s13), atI_get (i := 0) rfl, _, rfl, _, rfl, u, _, _, _, rfl, rfl, SqL.of (s12 _ _ upd_same), atI_int rfl hz, size_le (by show 2 ≤ _; omega), fun n hn => ?_⟩
        have s14 := Same.new (o := .tup [.int q.1, .int z]) hn
        refine k1 _ _ s14 ⟨us ++ [n], row ++ [(q.1, z)], by rw [List.map_append]; rfl, paired_snoc (prs_same s14 hp3) upd_same, ?_, ?_⟩
        · have : (r.map (·.1))[t]? = some q.1 := by rw [List.getElem?_map, hq]; rfl
          rw [take_succ_get this, List.map_append, hrw]
          rfl
        · intro p hp
          rcases List.mem_append.mp hp with h | h
          · exact hrb3 p h
          · rw [List.mem_singleton.mp h]
            exact hzb
      · rintro acc H6 s12 hDl2 ha ⟨us, row, rfl, hp3, hrw, hrb3⟩
        rw [List.take_of_length_le (by rw [List.length_map]; omega)] at hrw
        have hl3 : row.length = r.length := by
          have := congrArg List.length hrw
          rw [List.length_map, List.length_map] at this
          exact this
        have s13 := s11.trans s12
        refine ⟨s8.trans s13, s13 _ _ hpl3, D3, row, _, _, _, rfl, ⟨us, hDl2, hp3⟩, ⟨fun z => q1 ?_, by rw [hrw]; exact q2, by omega, fun p hp => ?_⟩, (s8.trans s11).free hD3⟩
        · rw [z] at hl3
          exact List.length_eq_zero_iff.mp hl3.symm
        · have h1 := hrb3 p hp
          have h2 : p.1 ∈ r.map (·.1) := by rw [← hrw]; exact List.mem_map.mpr ⟨p, hp, rfl⟩
          obtain ⟨q', hq', e'⟩ := List.mem_map.mp h2
          have h3 := q4 q' hq'
          omega
    clear hr1 hrb1 hgn hpl3 s8
    rintro σ H3 ⟨s8, hpl3, g, r, v7, v8, v9, rfl, hr1, hrb1, hgn⟩
    exact ⟨_, rfl, k g H3 r s8 hgn hr1 hrb1⟩
end
end A80
end
section
set_option Elab.async false
set_option maxRecDepth 100000
set_option maxHeartbeats 4000000
namespace A80
open PySem PySem.Spec L2 PyProof.Rows TL
/-! ### _law_parts -/
abbrev S_law_parts : Stmt := topS 28
theorem sc_law_parts : FnScope ["_law_script", "_law_at", "_law_drawn", "_law_names_here", "_law_places", "_law_k", "_law_numbers", "_law_arrays", "_law_row_here", "_law_spots", "_law_place", "_law_value", "_law_entry"] ["_law_script", "_law_at"] (defScope S_law_parts) := ⟨rfl, rfl, rfl, by decide +kernel, rfl, by decide +kernel, by decide +kernel⟩
def RwC (row : Row) : Prop := row ≠ [] ∧ (row.map (·.1)).Nodup ∧ row.length ≤ 15 ∧ ∀ p ∈ row, -6 ≤ p.1 ∧ p.1 ≤ 9 ∧ 0 ≤ p.2 ∧ p.2 < 10
theorem RwB.c {r : Row} (h : RwB r) : RwC r := ⟨h.1, h.2.1, h.2.2.1, fun p hp => by have := h.2.2.2 p hp; omega⟩
def IntsOk (m : Nat) (b : Int) (P : Al Int) : Prop := (P.map (·.1)).Nodup ∧ (∀ p ∈ P, okN p.1) ∧ P.length ≤ m ∧ ∀ p ∈ P, -b ≤ p.2 ∧ p.2 ≤ b
def RowsOk (R : Row → Prop) (m : Nat) (A : Al Row) : Prop := (A.map (·.1)).Nodup ∧ (∀ p ∈ A, okN p.1) ∧ A.length ≤ m ∧ ∀ p ∈ A, R p.2
theorem IntsOk.nil {m : Nat} {b : Int} : IntsOk m b [] := ⟨List.nodup_nil, fun p hp => by simp at hp, Nat.zero_le _, fun p hp => by simp at hp⟩
theorem RowsOk.nil {R : Row → Prop} {m : Nat} : RowsOk R m [] := ⟨List.nodup_nil, fun p hp => by simp at hp, Nat.zero_le _, fun p hp => by simp at hp⟩
theorem IntsOk.put {m : Nat} {b : Int} {P : Al Int} (h : IntsOk m b P) {k : Str} {v : Int} (hk : okN k) (h1 : -b ≤ v) (h2 : v ≤ b) : IntsOk (m + 1) b (putS P k v) := by
  obtain ⟨a1, a2, a3, a4⟩ := h
  refine ⟨putS_nodup k v a1, fun p hp => ?_, Nat.le_trans (putS_len P k v) (by omega), fun p hp => ?_⟩
  · rcases putS_mem hp with q | q
    · exact a2 p q
    · rw [q]; exact hk
  · rcases putS_mem hp with q | q
    · exact a4 p q
    · rw [q]; exact ⟨h1, h2⟩
theorem RowsOk.put {R : Row → Prop} {m : Nat} {A : Al Row} (h : RowsOk R m A) {k : Str} {v : Row} (hk : okN k) (h1 : R v) : RowsOk R (m + 1) (putS A k v) := by
  obtain ⟨a1, a2, a3, a4⟩ := h
  refine ⟨putS_nodup k v a1, fun p hp => ?_, Nat.le_trans (putS_len A k v) (by omega), fun p hp => ?_⟩
  · rcases putS_mem hp with q | q
    · exact a2 p q
    · rw [q]; exact hk
  · rcases putS_mem hp with q | q
    · exact a4 p q
    · rw [q]; exact h1
theorem putS_has {α : Type} {l : Al α} {k : Str} (v : α) (h : k ∈ l.map (·.1)) : (putS l k v).map (·.1) = l.map (·.1) := by rw [putS_keys, if_pos h]
theorem RowsOk.put' {R : Row → Prop} {m : Nat} {A : Al Row} (h : RowsOk R m A) {k : Str} {v : Row} (hk : k ∈ A.map (·.1)) (h1 : R v) : RowsOk R m (putS A k v) := by
  obtain ⟨a1, a2, a3, a4⟩ := h
  refine ⟨putS_nodup k v a1, fun p hp => ?_, ?_, fun p hp => ?_⟩
  · have : p.1 ∈ A.map (·.1) := by
      rw [← putS_has v hk]
      exact List.mem_map.mpr ⟨p, hp, rfl⟩
    obtain ⟨q, hq, e⟩ := List.mem_map.mp this
    rw [← e]
    exact a2 q hq
  · have := congrArg List.length (putS_has v hk)
    rw [List.length_map, List.length_map] at this
    omega
  · rcases putS_mem hp with q | q
    · exact a4 p q
    · rw [q]; exact h1
theorem paired_map {α β γ δ : Type} {R : α → β → Prop} {S : γ → δ → Prop} {f : α → γ} {g : β → δ} (h : ∀ a b, R a b → S (f a) (g b)) : ∀ {l : List α} {m : List β}, Paired R l m → Paired S (l.map f) (m.map g)
  | _, _, .nil => .nil
  | _, _, .cons a b => .cons (h _ _ a) (paired_map h b)
theorem paired_set {α β : Type} {R : α → β → Prop} {a : α} {b : β} : ∀ {l : List α} {m : List β} (i : Nat), Paired R l m → R a b → Paired R (l.set i a) (m.set i b)
  | _, _, _, .nil, _ => .nil
  | _, _, 0, .cons _ t, r => .cons r t
  | _, _, i + 1, .cons q t, r => .cons q (paired_set i t r)
theorem any_keys {α : Type} (l : Al α) (k : Str) : (l.any fun p => decide (p.1 = k)) = (l.map (·.1)).any fun x => decide (x = k) := by rw [List.any_map]; rfl
theorem rws_put {H : Hp} {k : Str} {a : Addr} {r : Row} (hr : RowAt H a r) {rs : Al Addr} {A : Al Row} (h : Paired (fun a b => a.1 = b.1 ∧ RowAt H a.2 b.2) rs A) : Paired (fun a b => a.1 = b.1 ∧ RowAt H a.2 b.2) (putS rs k a) (putS A k r) := by
  unfold putS
  rw [any_keys, any_keys, rws_keys h]
  split
  · refine paired_map (fun p q e => ?_) h
    rw [e.1]
    split
    · exact ⟨e.1 ▸ rfl, hr⟩
    · exact e
  · exact paired_snoc h ⟨rfl, hr⟩
theorem DiR.put {H : Hp} {d : Addr} {rs : Al Addr} {A : Al Row} (hd : H d = some (.dK (kvOf V.ref rs))) (h : Paired (fun a b => a.1 = b.1 ∧ RowAt H a.2 b.2) rs A) {k : Str} {a : Addr} {r : Row} (hr : RowAt H a r) :
    DiR (upd H d (.dK (putK (kvOf V.ref rs) (.inr k) (.ref a)))) d (putS A k r) := by
  refine ⟨putS rs k a, ?_, ?_⟩
  · rw [upd_same, putK_of]
  · exact rws_put (hr.keep Keep.lock hd) (rws_keep Keep.lock hd h)
theorem DiI.put {H : Hp} {d : Addr} {P : Al Int} (k : Str) (v : Int) : DiI (upd H d (.dK (putK (kvOf V.int P) (.inr k) (.int v)))) d (putS P k v) := by
  show upd _ d _ d = _
  rw [upd_same, putK_of]
theorem inV_ints (z : Int) (ns : List Int) : inV (.int z) (ns.map V.int) = decide (z ∈ ns) := by
  unfold inV
  rw [List.any_map, Bool.eq_iff_iff, List.any_eq_true, decide_eq_true_eq]
  constructor
  · rintro ⟨x, hx, e⟩
    have : (x == z) = true := e
    rw [← beq_iff_eq.mp this]
    exact hx
  · intro h
    exact ⟨z, h, show (z == z) = true by simp⟩
theorem ints_flat (ns : List Int) : (ns.map V.int).all flatV = true := by
  rw [List.all_map, List.all_eq_true]
  intro _ _
  rfl
def spParts (K : PySem.W.Frag) : Sp := fun vs H Q _ => ∃ (a : Addr) (k : Int) (ns : List Int), vs = [.ref a, .int k] ∧ SqL K H a (ns.map V.int) ∧ 0 ≤ k ∧
  ∀ (p : Addr) (H' : Hp) (dp dn da : Addr) (P N : Al Int) (A : Al Row), Same H H' → H p = none → H' p = some (.tup [.ref dp, .ref dn, .ref da]) → DiI H' dp P → DiI H' dn N → DiR H' da A → IntsOk 3 10 P → IntsOk 2 10 N → RowsOk RwC 3 A → Q (.ref p) H'
abbrev lims10 : List Int := [4, 3, 4, 2, 3, 11, 11, 11, 9, 9]
section
variable {P : Program} {w : World} {K : PySem.W.Frag} {mg : Str → Option Value} {base : Heap} {CS : Addr}
theorem cl_law_parts (T : Tx K mg CS) (D : Df K mg "_law_parts" S_law_parts ["_law_script", "_law_at"]) (c_law_draws : Cl P w K mg base 2 "_law_draws" (spDraws K)) (c_law_names : Cl P w K mg base 3 "_law_names" (spNames K)) (c_law_row : Cl P w K mg base 3 "_law_row" (spRowL K)) : Cl P w K mg base 4 "_law_parts" (spParts K) := by
  have sc := sc_law_parts
  refine cl_mk D sc (fun vs H Q E h => ?_) (fun f cdv A outer s H vs Q E hr h => ?_)
  · obtain ⟨a, k, ns, rfl, _⟩ := h
    rfl
  · obtain ⟨a, j, ns, rfl, hl, h0, k⟩ := h
    refine ⟨_, (pss_cons (ps_set (i := 2) sc.nd rfl (Or.inr rfl) (pe_c c_law_draws hr (by decide) rfl (pa_cons (pv 0) (pa_cons (pv 1) (pa_cons (pe_op op_cat (pe_op op_cat (pe_lst (pa_cons pe_int (pa_cons pe_int (pa_cons pe_int (pa_cons pe_int (pa_cons pe_int pa_nil)))))) (pe_op op_rep (pe_lst (pa_cons pe_int pa_nil)) pe_int)) (pe_op op_rep (pe_lst (pa_cons pe_int pa_nil)) pe_int)) pa_nil)))))
      (pss_cons (ps_set (i := 3) sc.nd rfl (Or.inl rfl) (pe_c c_law_names hr (by decide) rfl (pa_cons (pv 0) (pa_cons (pe_op op_add (pv 1) pe_int) (pa_cons pe_int pa_nil)))))
      (pss_cons (ps_set (i := 4) sc.nd rfl (Or.inl rfl) pe_dnewK)
      (pss_cons (ps_for PassesOwn.never rfl (pi_range1 rfl T.b_range (pa_cons (pe_ix (ixL K) (pv 2) pe_int (fun _ _ => rfl)) pa_nil)) (pg_name (i := 5) sc.nd rfl (Or.inl rfl))
      (pss_one (ps_dput (hu_of hr) (pv 4) (pe_ix (ixL K) (pv 3) (pv 5) (fun _ _ => rfl)) (pe_op op_sub (pe_ix (ixL K) (pv 2) (pe_op op_add pe_int (pv 5)) (fun _ _ => rfl)) pe_int) rfl)))
      (pss_cons (ps_set (i := 6) sc.nd rfl (Or.inl rfl) pe_dnewK)
      (pss_cons (ps_for PassesOwn.never rfl (pi_range1 rfl T.b_range (pa_cons (pe_ix (ixL K) (pv 2) pe_int (fun _ _ => rfl)) pa_nil)) (pg_name (i := 5) sc.nd rfl (Or.inl rfl))
      (pss_one (ps_dput (hu_of hr) (pv 6) (pe_ix (ixL K) (pv 3) (pe_op op_add pe_int (pv 5)) (fun _ _ => rfl)) (pe_op op_sub (pe_ix (ixL K) (pv 2) (pe_op op_add pe_int (pv 5)) (fun _ _ => rfl)) pe_int) rfl)))
      (pss_cons (ps_set (i := 7) sc.nd rfl (Or.inl rfl) pe_dnewK)
      (pss_cons (ps_for PassesOwn.never rfl (pi_range1 rfl T.b_range (pa_cons (pe_ix (ixL K) (pv 2) pe_int (fun _ _ => rfl)) pa_nil)) (pg_name (i := 5) sc.nd rfl (Or.inl rfl))
      (pss_one (ps_dput (hu_of hr) (pv 7) (pe_ix (ixL K) (pv 3) (pe_op op_add pe_int (pv 5)) (fun _ _ => rfl)) (pe_c c_law_row hr (by decide) rfl (pa_cons (pv 0) (pa_cons (pe_op op_add (pe_op op_add (pv 1) pe_int) (pv 5)) (pa_cons (pe_un un_neg pe_int) (pa_cons pe_int (pa_cons (pe_op op_sub pe_int (pe_ix (ixL K) (pv 2) pe_int (fun _ _ => rfl))) pa_nil)))))) rfl)))
      (C8.pss_cut (ps_if (PW.pt (pw_and (pt_cmpR op_gt (pe_ix (ixL K) (pv 2) pe_int (fun _ _ => rfl)) pe_int (nomark _)) (pw_and1 (pt_cmpR op_eq (pe_ix (ixL K) (pv 2) pe_int (fun _ _ => rfl)) pe_int (nomark _)))))
      (pss_cons (ps_set (i := 8) sc.nd rfl (Or.inr rfl) (pe_lc (own := [("_law_place", 10), ("_law_value", 11)]) rfl sc.nd (piL K (pe_dget (hu_of hr) (pv 7) (pe_ix (ixL K) (pv 3) pe_int (fun _ _ => rfl)) (fun _ _ => rfl))) (blkOk_by (own := [("_law_place", 10), ("_law_value", 11)]) (N := ["_law_script", "_law_at", "_law_drawn", "_law_names_here", "_law_places", "_law_k", "_law_numbers", "_law_arrays", "_law_row_here", "_law_spots", "_law_place", "_law_value", "_law_entry"]) (sc := (defScope S_law_parts)) (by decide +kernel)) (fun _ _ _ _ _ => (pgT K (n := 2) rfl (pgs_cons (pg_name (i := 10) sc.nd rfl (Or.inl rfl)) (pgs_cons (pg_name (i := 11) sc.nd rfl (Or.inl rfl)) pgs_nil)))) (fun _ _ _ _ _ => pts_nil) (fun _ _ _ _ _ => (pe_tup (pa_cons (pv 10) (pa_cons (pe_op op_add (pv 11) (pe_ix (ixL K) (pv 2) pe_int (fun _ _ => rfl))) pa_nil))))))
      (pss_cons (ps_asg (pe_ix (ixL K) (pe_dget (hu_of hr) (pv 7) (pe_ix (ixL K) (pv 3) pe_int (fun _ _ => rfl)) (fun _ _ => rfl)) pe_int (fun _ _ => rfl)) (pg_sub (pv 8) (pe_op op_mod (pe_callTy call_int1 (by rfl) T.b_int (by decide +kernel) (pa_cons (pe_ix (ixL K) (pv 2) pe_int (fun _ _ => rfl)) pa_nil)) (pe_callB (cLen K) (by rfl) T.b_len (by decide +kernel) (pa_cons (pv 8) pa_nil))) set_list))
      (pss_cons (ps_set (i := 9) sc.nd rfl (Or.inr rfl) (pe_lc (own := [("_law_entry", 12)]) rfl sc.nd (piL K (pv 8)) (blkOk_by (own := [("_law_entry", 12)]) (N := ["_law_script", "_law_at", "_law_drawn", "_law_names_here", "_law_places", "_law_k", "_law_numbers", "_law_arrays", "_law_row_here", "_law_spots", "_law_place", "_law_value", "_law_entry"]) (sc := (defScope S_law_parts)) (by decide +kernel)) (fun _ _ _ _ _ => (pg_name (i := 12) sc.nd rfl (Or.inl rfl))) (fun _ _ _ _ _ => pts_nil) (fun _ _ _ _ _ => (pe_ix (ixT K) (pv 12) pe_int (fun _ _ => rfl)))))
      (pss_one (ps_dput (hu_of hr) (pv 7) (pe_ix (ixL K) (pv 3) pe_int (fun _ _ => rfl)) (pe_lc (own := [("_law_k", 5)]) rfl sc.nd (pi_range1 rfl T.b_range (pa_cons (pe_callB (cLen K) (by rfl) T.b_len (by decide +kernel) (pa_cons (pv 8) pa_nil)) pa_nil)) (blkOk_by (own := [("_law_k", 5)]) (N := ["_law_script", "_law_at", "_law_drawn", "_law_names_here", "_law_places", "_law_k", "_law_numbers", "_law_arrays", "_law_row_here", "_law_spots", "_law_place", "_law_value", "_law_entry"]) (sc := (defScope S_law_parts)) (by decide +kernel)) (fun _ _ _ _ _ => (pg_name (i := 5) sc.nd rfl (Or.inl rfl))) (fun _ _ _ _ _ => (pts_one (pt_cmpR (opNI K) (pe_ix (ixT K) (pe_ix (ixL K) (pv 8) (pv 5) (fun _ _ => rfl)) pe_int (fun _ _ => rfl)) (pe_slice (slL K) (pv 9) po_none (po_some (pv 5))) rfl))) (fun _ _ _ _ _ => (pe_ix (ixL K) (pv 8) (pv 5) (fun _ _ => rfl)))) rfl)))))
      pss_nil)
      (pss_one (ps_ret (pe_tup (pa_cons (pv 4) (pa_cons (pv 6) (pa_cons (pv 7) pa_nil))))))))))))))), ?_⟩
    refine ⟨_, rfl, _, rfl, size_le (by show 5 ≤ _; omega), fun q hq => ?_⟩
    have s1 := Same.new (o := .lst (([4, 3, 4, 2, 3] : List Int).map V.int)) hq
    refine ⟨size_le (by show 1 ≤ _; omega), fun q2 hq2 => ?_⟩
    have s2 := Same.step (o := .lst (([11] : List Int).map V.int)) s1 hq2
    refine ⟨q2, _, ([11] : List Int).map V.int, rfl, rfl, upd_same, by omega, by omega, by show 1 * 3 ≤ _; exact size_le (by omega), fun q3 hq3 => ?_⟩
    have s3 := Same.step (o := .lst (([11, 11, 11] : List Int).map V.int)) s2 hq3
    refine ⟨q, q3, ([4, 3, 4, 2, 3] : List Int).map V.int, ([11, 11, 11] : List Int).map V.int, rfl, rfl, (Same.step (o := .lst (([11, 11, 11] : List Int).map V.int)) (Same.new (o := .lst (([11] : List Int).map V.int)) hq2) hq3) _ _ upd_same, upd_same, by show 5 + 3 ≤ _; exact size_le (by omega), fun q4 hq4 => ?_⟩
    have s4 := Same.step (o := .lst (([4, 3, 4, 2, 3, 11, 11, 11] : List Int).map V.int)) s3 hq4
    refine ⟨size_le (by show 1 ≤ _; omega), fun q5 hq5 => ?_⟩
    have s5 := Same.step (o := .lst (([9] : List Int).map V.int)) s4 hq5
    refine ⟨q5, _, ([9] : List Int).map V.int, rfl, rfl, upd_same, by omega, by omega, by show 1 * 2 ≤ _; exact size_le (by omega), fun q6 hq6 => ?_⟩
    have s6 := Same.step (o := .lst (([9, 9] : List Int).map V.int)) s5 hq6
    refine ⟨q4, q6, ([4, 3, 4, 2, 3, 11, 11, 11] : List Int).map V.int, ([9, 9] : List Int).map V.int, rfl, rfl, (Same.step (o := .lst (([9, 9] : List Int).map V.int)) (Same.new (o := .lst (([9] : List Int).map V.int)) hq5) hq6) _ _ upd_same, upd_same, by show 8 + 2 ≤ _; exact size_le (by omega), fun l hl2 => ?_⟩
    have s7 := Same.step (o := .lst (lims10.map V.int)) s6 hl2
    refine ⟨a, j, ns, l, lims10, rfl, hl.sm s7, h0, upd_same, by decide, by decide, fun p H1 ds s8 hp hpl hds => ?_⟩
    have s8 : L2.Same H H1 := s7.trans s8
    refine ⟨_, rfl, _, rfl, _, _, rfl, rfl, a, j + 1, ns, rfl, hl.sm s8, by omega, fun nl H2 xs s9 hnl0 hnl hxl hxb => ?_⟩
    have hpl := s9 _ _ hpl
    have s9 := s8.trans s9
    have name : ∀ {i : Nat}, i < 8 → ∃ nm, xs[i]? = some nm ∧ okN nm := fun {i} hi => ⟨xs[i]'(by omega), List.getElem?_eq_getElem (by omega), hxb _ (List.getElem_mem ..)⟩
    have l3 : ∀ k, k < 3 → lims10[5 + k]? = some 11 := by decide
    have l2 : ∀ k, k < 2 → lims10[8 + k]? = some 9 := by decide
    obtain ⟨d0, e0, b0, c0⟩ := drawn_get hds (i := 0) (q := 4) rfl
    obtain ⟨d1, e1, b1, c1⟩ := drawn_get hds (i := 1) (q := 3) rfl
    obtain ⟨d2, e2, b2, c2⟩ := drawn_get hds (i := 2) (q := 4) rfl
    obtain ⟨d3, e3, b3, c3⟩ := drawn_get hds (i := 3) (q := 2) rfl
    obtain ⟨d4, e4, b4, c4⟩ := drawn_get hds (i := 4) (q := 3) rfl
    obtain ⟨d5, e5, b5, c5⟩ := drawn_get hds (i := 5) (q := 11) rfl
    -- places
    refine fun dp hdp => ?_
    have s10 := Same.step (o := .dK []) s9 hdp
    have t10 := Same.new (o := .dK []) hdp
    refine ⟨_, rfl, p, _, 0, _, rfl, rfl, SqL.of (t10 _ _ hpl), atI_int (i := 0) rfl e0, _, rfl, by omega, by omega, ?_⟩
    refine for_it walk_r0 (fun i σ H' => L2.Same H2 H' ∧ ∃ (P : Al Int) (v5 : Option V), σ = [some (.ref a), some (.int j), some (.ref p), some (.ref nl), some (.ref dp), v5, none, none, none, none, none, none, none] ∧ DiI H' dp P ∧ IntsOk i 10 P)
      ⟨t10, [], none, rfl, upd_same, .nil⟩ (fun _ _ _ _ _ => trivial) ?_ ?_
    · rintro i x σ H3 H4 hi ⟨s11, P, v5, rfl, hP, ok⟩ ⟨rfl, rfl⟩
      obtain ⟨y, ey, yb, yc⟩ := drawn_get hds (l3 i (by omega))
      obtain ⟨nm, en, on⟩ := name (i := i) (by omega)
      refine ⟨_, rfl, _, rfl, _, _, rfl, rfl, p, _, _, _, rfl, rfl, SqL.of (s11 _ _ hpl), atI_int (by show (5 : Int) + (i : Int) = _; simp) ey, _, _, rfl, rfl, _, rfl, _, rfl, _, rfl, nl, _, _, _, rfl, rfl, SqL.of (s11 _ _ hnl), atI_str rfl en, dp, _, rfl, DPut.k (k := .inr nm) hP (by rw [kvOf_len]; have := ok.2.2.1; exact size_lt (by omega)), ?_⟩
      exact ⟨Same.mut s11 hdp, putS P nm (y - 4), _, rfl, DiI.put nm (y - 4), ok.put on (by omega) (by omega)⟩
    rintro σ H3 ⟨s11, P, v5, rfl, hP, okP⟩
    have okP : IntsOk 3 10 P := ⟨okP.1, okP.2.1, by have := okP.2.2.1; omega, okP.2.2.2⟩
    -- numbers
    refine fun dn hdn => ?_
    have t12 := Same.new (o := .dK []) hdn
    have s12 := s11.trans t12
    refine ⟨_, rfl, p, _, 1, _, rfl, rfl, SqL.of (s12 _ _ hpl), atI_int (i := 1) rfl e1, _, rfl, by omega, by omega, ?_⟩
    refine for_it walk_r0 (fun i σ H' => L2.Same H3 H' ∧ ∃ (N : Al Int) (v5 : Option V), σ = [some (.ref a), some (.int j), some (.ref p), some (.ref nl), some (.ref dp), v5, some (.ref dn), none, none, none, none, none, none] ∧ DiI H' dn N ∧ IntsOk i 10 N)
      ⟨t12, [], _, rfl, upd_same, .nil⟩ (fun _ _ _ _ _ => trivial) ?_ ?_
    · rintro i x σ H4 H5 hi ⟨s13, N, v5, rfl, hN, ok⟩ ⟨rfl, rfl⟩
      obtain ⟨y, ey, yb, yc⟩ := drawn_get hds (l2 i (by omega))
      obtain ⟨nm, en, on⟩ := name (i := 3 + i) (by omega)
      refine ⟨_, rfl, _, rfl, _, _, rfl, rfl, p, _, _, _, rfl, rfl, SqL.of ((s11.trans s13) _ _ hpl), atI_int (by show (8 : Int) + (i : Int) = _; simp) ey, _, _, rfl, rfl, _, rfl, _, rfl, _, rfl, _, _, rfl, rfl, nl, _, _, _, rfl, rfl, SqL.of ((s11.trans s13) _ _ hnl), atI_str (by show (3 : Int) + (i : Int) = _; simp) en, dn, _, rfl, DPut.k (k := .inr nm) hN (by rw [kvOf_len]; have := ok.2.2.1; exact size_lt (by omega)), ?_⟩
      exact ⟨Same.mut s13 hdn, putS N nm (y - 2), _, rfl, DiI.put nm (y - 2), ok.put on (by omega) (by omega)⟩
    clear v5
    rintro σ H4 ⟨s13, N, v5, rfl, hN, okN⟩
    have okN' : IntsOk 2 10 N := ⟨okN.1, okN.2.1, by have := okN.2.2.1; omega, okN.2.2.2⟩
    have hP4 := hP.same s13
    -- arrays
    refine fun da hda => ?_
    have t14 := Same.new (o := .dK []) hda
    have s14 := s11.trans (s13.trans t14)
    refine ⟨_, rfl, p, _, 2, _, rfl, rfl, SqL.of (s14 _ _ hpl), atI_int (i := 2) rfl e2, _, rfl, by omega, by omega, ?_⟩
    refine for_it walk_r0 (fun i σ H' => L2.Same H4 H' ∧ ∃ (A : Al Row) (v5 : Option V), σ = [some (.ref a), some (.int j), some (.ref p), some (.ref nl), some (.ref dp), v5, some (.ref dn), some (.ref da), none, none, none, none, none] ∧ DiR H' da A ∧ RowsOk RwB i A ∧ ∀ t < i, ∀ nm, xs[5 + t]? = some nm → nm ∈ A.map (·.1))
      ⟨t14, [], _, rfl, ⟨[], upd_same, .nil⟩, .nil, fun t ht => absurd ht (Nat.not_lt_zero t)⟩ (fun _ _ _ _ _ => trivial) ?_ ?_
    · rintro i x σ H5 H6 hi ⟨s15, A, v5, rfl, hA, ok, hk⟩ ⟨rfl, rfl⟩
      obtain ⟨nm, en, on⟩ := name (i := 5 + i) (by omega)
      have s16 := s11.trans (s13.trans s15)
      have s17 := s9.trans s16
      refine ⟨_, rfl, _, rfl, _, _, rfl, rfl, _, rfl, _, _, rfl, rfl, _, rfl, _, rfl, p, _, 3, _, rfl, rfl, SqL.of (s16 _ _ hpl), atI_int (i := 3) rfl e3, _, _, rfl, rfl, a, _, ns, _, rfl, hl.sm s17, by omega, by omega, by omega, fun g H7 row s18 hg hrow hb => ?_⟩
      obtain ⟨rs, ha1, ha2⟩ := hA
      have s19 := s16.trans s18
      have ha1 := s18 _ _ ha1
      refine ⟨_, rfl, _, rfl, _, rfl, _, _, rfl, rfl, nl, _, _, _, rfl, rfl, SqL.of (s19 _ _ hnl), atI_str (by show (5 : Int) + (i : Int) = _; simp) en, da, _, rfl, DPut.k (k := .inr nm) ha1 (by rw [kvOf_len, paired_len ha2]; have := ok.2.2.1; exact size_lt (by omega)), ?_⟩
      refine ⟨Same.mut (s15.trans s18) hda, putS A nm row, _, rfl, DiR.put ha1 (rws_same s18 ha2) hrow, ok.put on hb, fun t ht nm' e' => ?_⟩
      rw [putS_keys]
      by_cases ht2 : t < i
      · have := hk t ht2 nm' e'
        split
        · exact this
        · exact List.mem_append_left _ this
      · have : t = i := by omega
        subst this
        rw [e'] at en
        cases en
        split
        · assumption
        · exact List.mem_append_right _ (List.mem_singleton.mpr rfl)
    clear v5
    rintro σ H5 ⟨s15, A, v5, rfl, hA, okA, hk⟩
    have okA' : RowsOk RwC 3 A := ⟨okA.1, okA.2.1, by have := okA.2.2.1; omega, fun p hp => (okA.2.2.2 p hp).c⟩
    have s16 := s11.trans (s13.trans s15)
    have hpl5 := s16 _ _ hpl
    have hnl5 := s16 _ _ hnl
    have hndp : dp ≠ da := ne_of_none hP4 hda
    have hndn : dn ≠ da := ne_of_none hN hda
    have sH4 := s9.trans (s11.trans s13)
    refine ⟨fun σ H' => L2.Same H4 H' ∧ ∃ (A : Al Row) (v5 v8 v9 v10 v11 v12 : Option V), σ = [some (.ref a), some (.int j), some (.ref p), some (.ref nl), some (.ref dp), v5, some (.ref dn), some (.ref da), v8, v9, v10, v11, v12] ∧ DiR H' da A ∧ RowsOk RwC 3 A, ?_, ?_⟩
    · refine ⟨_, rfl, p, _, 2, _, rfl, rfl, SqL.of hpl5, atI_int (i := 2) rfl e2, _, _, rfl, rfl, _, rfl, ite_b (fun cc => ?_) (fun cc => ⟨s15, A, v5, none, none, none, none, none, rfl, hA, okA'⟩)⟩
      refine ⟨_, rfl, p, _, 3, _, rfl, rfl, SqL.of hpl5, atI_int (i := 3) rfl e3, rfl, _, rfl, ite_b (fun cc3 => ?_) (fun cc3 => ⟨s15, A, v5, none, none, none, none, none, rfl, hA, okA'⟩)⟩
      have cc : 1 < d2 := of_decide_eq_true cc
      obtain ⟨rs, ha1, ha2⟩ := hA
      obtain ⟨nm5, en5, on5⟩ := name (i := 5) (by omega)
      obtain ⟨nm6, en6, on6⟩ := name (i := 6) (by omega)
      have has6 := hk 1 (by omega) nm6 en6
      obtain ⟨r5, hr5⟩ := lookS_isSome (hk 0 (by omega) nm5 en5)
      obtain ⟨r6, hr6⟩ := lookS_isSome has6
      obtain ⟨g5, hg5, g5r⟩ := rws_look ha2 hr5
      obtain ⟨g6, hg6, g6r⟩ := rws_look ha2 hr6
      have ok5 : RwB r5 := okA.2.2.2 _ (lookS_mem hr5)
      have okB5 := ok5.2.2.2
      have ok6 : RwC r6 := okA'.2.2.2 _ (lookS_mem hr6)
      have get5 : DGet H5 da (.str nm5) (some (.ref g5)) := by
        have := DGet.k (k := .inr nm5) ha1
        rw [valV_of, hg5] at this
        exact this
      obtain ⟨t5, h51, h52⟩ := g5r
      have hl5 := paired_len h52
      have z5 := ok5.2.2.1
      -- row_here = [(place, value + drawn[4]) for place, value in arrays[names[5]]]
      refine ⟨_, rfl, _, rfl, nl, _, 5, _, rfl, rfl, SqL.of hnl5, atI_str (i := 5) rfl en5, da, _, rfl, get5, g5, rfl, ⟨_, SqL.of h51⟩, fun g hg => lc_grow walk_list hg (by rw [List.length_map]; omega) (fun H' s => SqL.of (s _ _ h51))
        (fun t acc H' => ∃ (us : List Addr) (row : Row), acc = us.map V.ref ∧ Paired (PrAt H') us row ∧ row = (r5.take t).map fun q => (q.1, q.2 + d4)) (by rintro i acc acc' H H' hd he ⟨ts, row, ea, hp, hn⟩; exact ⟨ts, row, ea, prs_but hd he hp, hn⟩) ⟨[], [], rfl, .nil, rfl⟩ ?_ ?_⟩
      · rintro t v acc H6 H7 N1 N0 ht s18 hDl ha ⟨us, row, rfl, hp3, hrw⟩ k1 k0 ⟨rfl, hv⟩
        obtain ⟨u, hu, rfl⟩ := get_map_ref hv
        obtain ⟨q, hq, hqu⟩ := paired_get h52 hu
        refine ⟨u, _, rfl, SqT.of (hqu.same s18), rfl, _, _, rfl, _, _, rfl, rfl, rfl, _, rfl, _, rfl, _, rfl, p, _, 4, _, rfl, rfl, SqL.of (s18 _ _ hpl5), atI_int (i := 4) rfl e4, _, _, rfl, rfl, size_le (by show 2 ≤ _; omega), fun n hn => ?_⟩
        have s19 := Same.new (o := .tup [.int q.1, .int (q.2 + d4)]) hn
        refine k1 _ _ s19 ⟨us ++ [n], row ++ [(q.1, q.2 + d4)], by rw [List.map_append]; rfl, paired_snoc (prs_same s19 hp3) upd_same, ?_⟩
        rw [take_succ_get hq, List.map_append, hrw]
        rfl
      rintro acc H6 s18 hDl ha ⟨us, row, rfl, hp3, hrw⟩
      rw [List.take_of_length_le (by rw [List.length_map]; omega)] at hrw
      have hrowl : row.length = r5.length := by rw [hrw, List.length_map]
      have husl := paired_len hp3
      have s19 := s15.trans s18
      have hpl6 := s18 _ _ hpl5
      have hnl6 := s18 _ _ hnl5
      have ha16 := s18 _ _ ha1
      have get6 : DGet H6 da (.str nm6) (some (.ref g6)) := by
        have := DGet.k (k := .inr nm6) ha16
        rw [valV_of, hg6] at this
        exact this
      obtain ⟨t6, h61, h62⟩ := g6r
      have hl6 := paired_len h62
      obtain ⟨q6, hq6⟩ : ∃ q, r6[0]? = some q := ⟨r6[0]'(List.length_pos_iff.mpr ok6.1), List.getElem?_eq_getElem _⟩
      obtain ⟨u6, hu6, hqu6⟩ := paired_get' h62 hq6
      have hpos : 0 < us.length := by have := List.length_pos_iff.mpr ok5.1; omega
      have m0 := Int.emod_nonneg d5 (show ((us.length : Nat) : Int) ≠ 0 by omega)
      have m1 := Int.emod_lt_of_pos d5 (show (0 : Int) < ((us.length : Nat) : Int) by omega)
      have hgd : g ≠ da := fun e => by rw [e, ha1] at hg; cases hg
      -- row_here[int(drawn[5]) % len(row_here)] = arrays[names[6]][0]
      refine ⟨_, rfl, _, rfl, nl, _, 6, _, rfl, rfl, SqL.of hnl6, atI_str (i := 6) rfl en6, da, _, rfl, get6, g6, _, 0, _, rfl, rfl, SqL.of (s18 _ _ h61), atI_ref (i := 0) rfl hu6, _, rfl, _, rfl, p, _, 5, _, rfl, rfl, SqL.of hpl6, atI_int (i := 5) rfl e5,
        .inl ⟨_, rfl, _, rfl, g, _, rfl, .inl (SqL.of hDl), _, _, rfl, rfl, by rw [List.length_map]; omega, g, _, _, (d5 % (us.length : Int)).toNat, rfl, rfl, hDl, ?_, ?_⟩⟩
      · rw [List.length_map]
        unfold ixN
        rw [if_pos m0, if_pos (by omega)]
      rw [← List.map_set]
      obtain ⟨jx, ejx⟩ : ∃ jx, jx = (d5 % (us.length : Int)).toNat := ⟨_, rfl⟩
      rw [← ejx]
      have hgn4 : H4 g = none := s15.free hg
      have hgn5 := hg
      obtain ⟨H7, e7⟩ : ∃ H7, H7 = upd H6 g (.lst ((us.set jx u6).map V.ref)) := ⟨_, rfl⟩
      have s20 : L2.Same H5 H7 := by rw [e7]; exact Same.mut s18 hg
      have he7 : ∀ a o, a ≠ g → H6 a = some o → H7 a = some o := fun a o hne e => by rw [e7, upd_ne hne]; exact e
      have hg7 : H7 g = some (.lst ((us.set jx u6).map V.ref)) := by rw [e7, upd_same]
      rw [← e7]
      have hp7 : Paired (PrAt H7) (us.set jx u6) (row.set jx q6) := paired_set jx (prs_but hDl he7 hp3) (hqu6.same s20)
      obtain ⟨row2, erow2⟩ : ∃ row2, row2 = row.set jx q6 := ⟨_, rfl⟩
      obtain ⟨us2, eus2⟩ : ∃ us2, us2 = us.set jx u6 := ⟨_, rfl⟩
      rw [← erow2, ← eus2] at hp7
      rw [← eus2] at hg7
      have hrow2l : row2.length = r5.length := by rw [erow2, List.length_set]; exact hrowl
      have hus2l := paired_len hp7
      have hrow2b : ∀ q ∈ row2, -6 ≤ q.1 ∧ q.1 ≤ 9 ∧ 0 ≤ q.2 ∧ q.2 < 10 := fun q hq => by
        rw [erow2] at hq
        rcases List.mem_or_eq_of_mem_set hq with h | h
        · rw [hrw] at h
          obtain ⟨q', hq', e⟩ := List.mem_map.mp h
          have := okB5 q' hq'
          rw [← e]
          show -6 ≤ q'.1 ∧ q'.1 ≤ 9 ∧ 0 ≤ q'.2 + d4 ∧ q'.2 + d4 < 10
          omega
        · rw [h]
          exact ok6.2.2.2 _ (List.mem_of_getElem? hq6)
      have hpl7 := s20 _ _ hpl5
      have hnl7 := s20 _ _ hnl5
      have ha17 := s20 _ _ ha1
      -- spots = [entry[0] for entry in row_here]
      refine ⟨_, rfl, g, rfl, ⟨_, SqL.of hg7⟩, fun D2 hD2 => lc_grow walk_list hD2 (by rw [List.length_map]; omega) (fun H' s => SqL.of (s _ _ hg7)) (fun t acc _ => acc = ((row2.take t).map (·.1)).map V.int) (fun _ _ _ _ _ _ _ h => h) rfl ?_ ?_⟩
      · rintro t v acc H8 H9 N1 N0 ht s21 hDl2 ha rfl k1 k0 ⟨rfl, hv⟩
        obtain ⟨u, hu, rfl⟩ := get_map_ref hv
        obtain ⟨q, hq, hqu⟩ := paired_get hp7 hu
        refine ⟨rfl, _, rfl, u, _, 0, _, rfl, rfl, SqT.of (hqu.same s21), atI_get (i := 0) rfl, k1 _ _ (L2.Same.refl _) ?_⟩
        rw [take_succ_get hq, List.map_append, List.map_append]
        rfl
      rintro acc H8 s21 hDl2 ha rfl
      rw [List.take_of_length_le (by rw [List.length_map]; omega)] at hDl2
      have hg8 := s21 _ _ hg7
      have hp8 := prs_same s21 hp7
      -- arrays[names[6]] = [row_here[k] for k in range(len(row_here)) if row_here[k][0] not in spots[:k]]
      refine ⟨_, rfl, g, _, rfl, .inl (SqL.of hg8), _, rfl, by rw [List.length_map]; omega, by rw [List.length_map]; omega, fun D3 hD3 => ?_⟩
      have hn0 : (((us2.map V.ref).length : Nat) : Int).toNat = r5.length := by rw [List.length_map]; omega
      rw [hn0]
      refine lc_grow walk_r0 hD3 (by omega) (fun _ _ => trivial) (fun t acc H' => ∃ (vs : List Addr) (row : Row), acc = vs.map V.ref ∧ Paired (PrAt H') vs row ∧ (row.map (·.1)).Nodup ∧ row.length ≤ t ∧ (∀ q ∈ row, q ∈ row2 ∧ q.1 ∈ (row2.map (·.1)).take t) ∧ (0 < t → row ≠ []))
        (by rintro i acc acc' H H' hd he ⟨ts, row, ea, hp, hn⟩; exact ⟨ts, row, ea, prs_but hd he hp, hn⟩) ⟨[], [], rfl, .nil, List.nodup_nil, Nat.zero_le _, fun p hp => by simp at hp, fun h => absurd h (Nat.lt_irrefl 0)⟩ ?_ ?_
      · rintro t v acc H9 H10 N1 N0 ht s22 hDl3 ha ⟨vs, row3, rfl, hp9, hnd, hrl, hrb, hrne⟩ k1 k0 ⟨rfl, rfl⟩
        obtain ⟨u, hu⟩ : ∃ u, us2[t]? = some u := ⟨us2[t]'(by omega), List.getElem?_eq_getElem (by omega)⟩
        obtain ⟨q, hq, hqu⟩ := paired_get hp8 hu
        have hg9 := s22 _ _ hg8
        have hpt : (row2.map (·.1))[t]? = some q.1 := by rw [List.getElem?_map, hq]; rfl
        refine ⟨rfl, _, rfl, _, rfl, g, _, _, _, rfl, rfl, SqL.of hg9, atI_ref rfl hu, u, _, 0, _, rfl, rfl, SqT.of (hqu.same s22), atI_get (i := 0) rfl, _, rfl, _, rfl, _, rfl, D2, _, rfl, SqL.of (s22 _ _ hDl2), fun c hc => ?_⟩
        rw [cutV_take, ← List.map_take]
        have s23 := Same.new (o := .lst (((row2.map (·.1)).take t).map V.int)) hc
        refine ⟨c, _, rfl, .inl (SqL.of upd_same), rfl, ints_flat _, _, rfl, ite_b (fun cx => ?_) (fun cx => ?_)⟩
        · have cx : q.1 ∉ (row2.map (·.1)).take t := by
            have cx : (!inV (.int q.1) (((row2.map (·.1)).take t).map V.int)) = true := cx
            rw [inV_ints] at cx
            simpa using cx
          refine ⟨_, rfl, _, rfl, g, _, _, _, rfl, rfl, SqL.of (s23 _ _ hg9), atI_ref rfl hu, k1 _ _ s23 ⟨vs ++ [u], row3 ++ [q], by rw [List.map_append]; rfl, paired_snoc (prs_same s23 hp9) ((hqu.same s22).same s23), ?_, ?_, ?_, ?_⟩⟩
          · rw [List.map_append]
            refine List.nodup_append.mpr ⟨hnd, List.pairwise_singleton _ _, fun a ha b hb e => ?_⟩
            rw [List.map_singleton, List.mem_singleton] at hb
            obtain ⟨q', hq', e2⟩ := List.mem_map.mp ha
            refine cx ?_
            rw [← hb, ← e, ← e2]
            exact (hrb q' hq').2
          · rw [List.length_append, List.length_singleton]; omega
          · intro q' hq'
            rw [take_succ_get hpt]
            rcases List.mem_append.mp hq' with h | h
            · exact ⟨(hrb q' h).1, List.mem_append_left _ (hrb q' h).2⟩
            · rw [List.mem_singleton.mp h]
              exact ⟨List.mem_of_getElem? hq, List.mem_append_right _ (List.mem_singleton.mpr rfl)⟩
          · intro _ z
            simp at z
        · have cx : q.1 ∈ (row2.map (·.1)).take t := by
            have cx : (!inV (.int q.1) (((row2.map (·.1)).take t).map V.int)) = false := cx
            rw [inV_ints] at cx
            simpa using cx
          have t0 : 0 < t := by
            rcases Nat.eq_zero_or_pos t with h | h
            · rw [h] at cx; simp at cx
            · exact h
          refine k0 _ s23 ⟨vs, row3, rfl, prs_same s23 hp9, hnd, by omega, fun q' hq' => ?_, fun _ => hrne t0⟩
          rw [take_succ_get hpt]
          exact ⟨(hrb q' hq').1, List.mem_append_left _ (hrb q' hq').2⟩
      · rintro acc H9 s22 hDl3 ha ⟨vs, row3, rfl, hp9, hnd, hrl, hrb, hrne⟩
        have s23 := s20.trans (s21.trans s22)
        refine ⟨_, rfl, _, rfl, nl, _, 6, _, rfl, rfl, SqL.of (s23 _ _ hnl5), atI_str (i := 6) rfl en6, da, _, rfl, DPut.k (k := .inr nm6) (s23 _ _ ha1) (by rw [kvOf_len, paired_len ha2]; have := okA'.2.2.1; exact size_lt (by omega)), ?_⟩
        have hr5l := List.length_pos_iff.mpr ok5.1
        exact ⟨Same.mut (s15.trans s23) hda, putS A nm6 row3, _, _, _, _, _, _, rfl, DiR.put (s23 _ _ ha1) (rws_same s23 ha2) ⟨vs, hDl3, hp9⟩, okA'.put' has6 ⟨hrne hr5l, hnd, by omega, fun q hq => hrow2b q (hrb q hq).1⟩⟩
    · clear v5
      rintro σ H6 ⟨s18, A, v5, v8, v9, v10, v11, v12, rfl, hA, okA⟩
      refine ⟨_, rfl, _, rfl, _, rfl, size_le (by show 3 ≤ _; omega), fun t ht => ?_⟩
      have s19 := Same.new (o := .tup [.ref dp, .ref dn, .ref da]) ht
      exact k t _ dp dn da P N A (sH4.trans (s18.trans s19)) ((sH4.trans s18).free ht) upd_same (hP4.same (s18.trans s19)) (hN.same (s18.trans s19)) (hA.same s19) okP okN' okA
end
end A80
end
section
set_option Elab.async false
set_option maxRecDepth 100000
set_option maxHeartbeats 4000000
namespace A80
open PySem PySem.Spec L2 PyProof.Rows TL
/-! ### _law_scaled_parts -/
abbrev S_law_scaled_parts : Stmt := topS 30
theorem sc_law_scaled_parts : FnScope ["_law_parts_here", "_law_scale_here", "_law_places", "_law_numbers", "_law_arrays", "_law_name", "_law_p", "_law_v"] ["_law_parts_here", "_law_scale_here"] (defScope S_law_scaled_parts) := ⟨rfl, rfl, rfl, by decide +kernel, rfl, by decide +kernel, by decide +kernel⟩
theorem paired_imp {α β : Type} {R S : α → β → Prop} (h : ∀ a b, R a b → S a b) : ∀ {l : List α} {m : List β}, Paired R l m → Paired S l m
  | _, _, .nil => .nil
  | _, _, .cons a b => .cons (h _ _ a) (paired_imp h b)
def NmAt (H : Hp) (u : Addr) (q : Str × Int) : Prop := H u = some (.tup [.str q.1, .int q.2])
theorem nms_same {H H' : Hp} (e : Same H H') {us : List Addr} {P : Al Int} (h : Paired (NmAt H) us P) : Paired (NmAt H') us P := paired_imp (fun _ _ r => e _ _ r) h
theorem nms_but {H H' : Hp} {D : Addr} {acc : List V} (hD : H D = some (.lst acc)) (e : ∀ a o, a ≠ D → H a = some o → H' a = some o) {us : List Addr} {P : Al Int} (h : Paired (NmAt H) us P) : Paired (NmAt H') us P :=
  paired_imp (fun _ _ r => e _ _ (ne_of r hD (by intro z; cases z)) r) h
theorem nm_sq {K : PySem.W.Frag} {H : Hp} : ∀ {us : List Addr} {P : Al Int}, Paired (NmAt H) us P → Paired (fun p kv => SqT K H p [kV kv.1, kv.2]) us (kvOf V.int P)
  | _, _, .nil => .nil
  | u :: us, q :: P, .cons a b => .cons (show SqT K H u [V.str q.1, V.int q.2] from SqT.of a) (nm_sq b)
theorem DGet.fk {H : Hp} {a : Addr} {o : Obj} {kvs : List (L2.Key × V)} {k : L2.Key} (e : H a = some (.frz o (.dK kvs))) : DGet H a (kV k) (valV kvs k) := .inl ⟨kvs, k, .inr ⟨o, e⟩, rfl, rfl⟩
theorem kvOf_get {α : Type} {f : α → V} {l : Al α} {i : Nat} {k : L2.Key} {v : V} (h : (kvOf f l)[i]? = some (k, v)) : ∃ q, l[i]? = some q ∧ k = .inr q.1 ∧ v = f q.2 := by
  unfold kvOf at h
  rw [List.getElem?_map] at h
  obtain ⟨q, h1, h2⟩ := Option.map_eq_some_iff.mp h
  cases h2
  exact ⟨q, h1, rfl, rfl⟩
theorem look_at {α : Type} {l : Al α} (hn : (l.map (·.1)).Nodup) {i : Nat} {q : Str × α} (h : l[i]? = some q) : lookS l q.1 = some q.2 := lookS_of hn (List.mem_of_getElem? h)
theorem nodup_at {α : Type} {l : Al α} (hn : (l.map (·.1)).Nodup) {i : Nat} {q : Str × α} (h : l[i]? = some q) : q.1 ∉ (l.take i).map (·.1) := fun z => by
  have h2 : l.take (i + 1) = l.take i ++ [q] := take_succ_get h
  have h3 : ((l.take (i + 1)).map (·.1)).Nodup := List.Nodup.sublist ((List.take_sublist _ _).map _) hn
  rw [h2, List.map_append] at h3
  have := (List.nodup_append.mp h3).2.2 q.1 z q.1 (List.mem_singleton.mpr rfl)
  exact this rfl
theorem Keep.unlock {H0 H H' : Hp} {d ar : Addr} {od : Obj} {u : HO} (hd : H d = some u) (har : H0 ar = none) (s : Same H0 H) (k : Keep ar (upd H d (.frz od u)) H') : Same H0 (upd H' d u) := fun b o hb => by
  by_cases h : b = d
  · subst h
    rw [upd_same, ← hd]
    exact s _ _ hb
  · rw [upd_ne h]
    refine k b o (fun e => by rw [e, har] at hb; cases hb) ?_
    rw [upd_ne h]
    exact s _ _ hb
def Big : Int := 2 * 10 ^ 30
def RwS (row : Row) : Prop := row ≠ [] ∧ (row.map (·.1)).Nodup ∧ row.length ≤ 15 ∧ ∀ p ∈ row, -Big ≤ p.1 ∧ p.1 ≤ Big ∧ -Big ≤ p.2 ∧ p.2 ≤ Big
theorem scale_bd {x y v : Int} (h1 : 1 ≤ x) (h2 : x < 10 ^ 15) (h3 : -(10 ^ 30) < y) (h4 : y < 10 ^ 30) (v1 : -10 ≤ v) (v2 : v ≤ 10) : -Big ≤ v * x + y ∧ v * x + y ≤ Big := by
  have a : v * x ≤ 10 * x := Int.mul_le_mul_of_nonneg_right v2 (by omega)
  have b : -10 * x ≤ v * x := Int.mul_le_mul_of_nonneg_right v1 (by omega)
  unfold Big
  omega
def scP (x y : Int) (P : Al Int) : Al Int := P.map fun q => (q.1, q.2 * x + y)
def scR (x y z t : Int) (row : Row) : Row := row.map fun q => (q.1 * x + y, q.2 * z + t)
theorem scP_ok {m : Nat} {x y : Int} {P : Al Int} (h : IntsOk m 10 P) (h1 : 1 ≤ x) (h2 : x < 10 ^ 15) (h3 : -(10 ^ 30) < y) (h4 : y < 10 ^ 30) : IntsOk m Big (scP x y P) := by
  obtain ⟨a1, a2, a3, a4⟩ := h
  refine ⟨?_, ?_, by unfold scP; rw [List.length_map]; exact a3, ?_⟩
  · unfold scP
    rw [List.map_map]
    exact a1
  · intro p hp
    obtain ⟨q, hq, rfl⟩ := List.mem_map.mp hp
    exact a2 q hq
  · intro p hp
    obtain ⟨q, hq, rfl⟩ := List.mem_map.mp hp
    have := a4 q hq
    exact scale_bd h1 h2 h3 h4 this.1 this.2
theorem scR_ok {x y z t : Int} {row : Row} (h : RwC row) (s : ScOk x y z t) : RwS (scR x y z t row) := by
  obtain ⟨a1, a2, a3, a4⟩ := h
  obtain ⟨x1, x2, y1, y2, z1, z2, t1, t2⟩ := s
  refine ⟨fun e => a1 (List.map_eq_nil_iff.mp e), ?_, by unfold scR; rw [List.length_map]; exact a3, ?_⟩
  · unfold scR
    rw [List.map_map]
    have : ((fun p : Int × Int => p.1) ∘ fun q : Int × Int => (q.1 * x + y, q.2 * z + t)) = (fun n => n * x + y) ∘ fun p : Int × Int => p.1 := rfl
    rw [this, ← List.map_map]
    refine List.pairwise_map.mpr (a2.imp fun {a b} ne e => ne ?_)
    have : a * x = b * x := by omega
    exact Int.eq_of_mul_eq_mul_right (by omega) this
  · intro p hp
    obtain ⟨q, hq, rfl⟩ := List.mem_map.mp hp
    have := a4 q hq
    have b1 := scale_bd x1 x2 y1 y2 (show -10 ≤ q.1 by omega) (show q.1 ≤ 10 by omega)
    have b2 := scale_bd z1 z2 t1 t2 (show -10 ≤ q.2 by omega) (show q.2 ≤ 10 by omega)
    exact ⟨b1.1, b1.2, b2.1, b2.2⟩
def spScaled : Sp := fun vs H Q _ => ∃ (p sc dp dn da : Addr) (x y z t : Int) (P N : Al Int) (A : Al Row), vs = [.ref p, .ref sc] ∧ H p = some (.tup [.ref dp, .ref dn, .ref da]) ∧ H sc = some (.tup [.int x, .int y, .int z, .int t]) ∧ ScOk x y z t ∧ DiI H dp P ∧ DiI H dn N ∧ DiR H da A ∧ IntsOk 3 10 P ∧ IntsOk 2 10 N ∧ RowsOk RwC 3 A ∧
  ∀ (r : Addr) (H' : Hp) (dp dn da : Addr) (P N : Al Int) (A : Al Row), Same H H' → H r = none → H' r = some (.tup [.ref dp, .ref dn, .ref da]) → DiI H' dp P → DiI H' dn N → DiR H' da A → IntsOk 3 Big P → IntsOk 2 Big N → RowsOk RwS 3 A → Q (.ref r) H'
section
variable {P : Program} {w : World} {K : PySem.W.Frag} {mg : Str → Option Value} {base : Heap} {CS : Addr}
theorem cl_law_scaled_parts (T : Tx K mg CS) (D : Df K mg "_law_scaled_parts" S_law_scaled_parts ["_law_parts_here", "_law_scale_here"]) : Cl P w K mg base 1 "_law_scaled_parts" spScaled := by
  have sc := sc_law_scaled_parts
  refine cl_mk D sc (fun vs H Q E h => ?_) (fun f cdv A outer s H vs Q E hr h => ?_)
  · obtain ⟨_, _, _, _, _, _, _, _, _, _, _, _, rfl, _⟩ := h
    rfl
  · obtain ⟨p, c, dp, dn, da, x, y, z, t, P, N, A, rfl, hp, hc, hsc, hP, hN, hA, okP, okN, okA, k⟩ := h
    refine ⟨_, (pss_cons (ps_lock (ps_setLc (i := 2) (own := [("_law_name", 5)]) rfl sc.nd rfl rfl (sw_true rfl rfl rfl (by decide +kernel)) (pi_keys (pe_ix (ixT K) (pv 0) pe_int (fun _ _ => rfl))) (blkOk_by (own := [("_law_name", 5)]) (N := ["_law_parts_here", "_law_scale_here", "_law_places", "_law_numbers", "_law_arrays", "_law_name", "_law_p", "_law_v"]) (sc := (defScope S_law_scaled_parts)) (by decide +kernel)) (fun _ _ _ _ _ => (pg_name (i := 5) sc.nd rfl (Or.inl rfl))) (fun _ _ _ _ _ => pts_nil) (fun _ _ _ _ _ => (pe_tup (pa_cons (pv 5) (pa_cons (pe_op op_add (pe_op op_mul (pe_dget (hu_of hr) (pe_ix (ixT K) (pv 0) pe_int (fun _ _ => rfl)) (pv 5) (fun _ _ => rfl)) (pe_ix (ixT K) (pv 1) pe_int (fun _ _ => rfl))) (pe_ix (ixT K) (pv 1) pe_int (fun _ _ => rfl))) pa_nil))))))
      (pss_cons (ps_lock (ps_setLc (i := 3) (own := [("_law_name", 5)]) rfl sc.nd rfl rfl (sw_true rfl rfl rfl (by decide +kernel)) (pi_keys (pe_ix (ixT K) (pv 0) pe_int (fun _ _ => rfl))) (blkOk_by (own := [("_law_name", 5)]) (N := ["_law_parts_here", "_law_scale_here", "_law_places", "_law_numbers", "_law_arrays", "_law_name", "_law_p", "_law_v"]) (sc := (defScope S_law_scaled_parts)) (by decide +kernel)) (fun _ _ _ _ _ => (pg_name (i := 5) sc.nd rfl (Or.inl rfl))) (fun _ _ _ _ _ => pts_nil) (fun _ _ _ _ _ => (pe_tup (pa_cons (pv 5) (pa_cons (pe_op op_add (pe_op op_mul (pe_dget (hu_of hr) (pe_ix (ixT K) (pv 0) pe_int (fun _ _ => rfl)) (pv 5) (fun _ _ => rfl)) (pe_ix (ixT K) (pv 1) pe_int (fun _ _ => rfl))) (pe_ix (ixT K) (pv 1) pe_int (fun _ _ => rfl))) pa_nil))))))
      (pss_cons (ps_set (i := 4) sc.nd rfl (Or.inl rfl) pe_dnewK)
      (pss_cons (ps_lock (ps_for PassesOwn.never rfl (pi_keys (pe_ix (ixT K) (pv 0) pe_int (fun _ _ => rfl))) (pg_name (i := 5) sc.nd rfl (Or.inl rfl))
      (pss_one (ps_dput (hu_of hr) (pv 4) (pv 5) (pe_lc (own := [("_law_p", 6), ("_law_v", 7)]) rfl sc.nd (piL K (pe_dget (hu_of hr) (pe_ix (ixT K) (pv 0) pe_int (fun _ _ => rfl)) (pv 5) (fun _ _ => rfl))) (blkOk_by (own := [("_law_p", 6), ("_law_v", 7)]) (N := ["_law_parts_here", "_law_scale_here", "_law_places", "_law_numbers", "_law_arrays", "_law_name", "_law_p", "_law_v"]) (sc := (defScope S_law_scaled_parts)) (by decide +kernel)) (fun _ _ _ _ _ => (pgT K (n := 2) rfl (pgs_cons (pg_name (i := 6) sc.nd rfl (Or.inl rfl)) (pgs_cons (pg_name (i := 7) sc.nd rfl (Or.inl rfl)) pgs_nil)))) (fun _ _ _ _ _ => pts_nil) (fun _ _ _ _ _ => (pe_tup (pa_cons (pe_op op_add (pe_op op_mul (pv 6) (pe_ix (ixT K) (pv 1) pe_int (fun _ _ => rfl))) (pe_ix (ixT K) (pv 1) pe_int (fun _ _ => rfl))) (pa_cons (pe_op op_add (pe_op op_mul (pv 7) (pe_ix (ixT K) (pv 1) pe_int (fun _ _ => rfl))) (pe_ix (ixT K) (pv 1) pe_int (fun _ _ => rfl))) pa_nil))))) rfl))))
      (pss_one (ps_ret (pe_tup (pa_cons (pe_callTy (call_dictP rfl) (by rfl) T.b_dict (by decide +kernel) (pa_cons (pv 2) pa_nil)) (pa_cons (pe_callTy (call_dictP rfl) (by rfl) T.b_dict (by decide +kernel) (pa_cons (pv 3) pa_nil)) (pa_cons (pv 4) pa_nil)))))))))), ?_⟩
    have hsc' := hsc
    obtain ⟨x1, x2, y1, y2, z1, z2, t1, t2⟩ := hsc
    have cx : CMul 0 x := .inr (by omega)
    have cz : CMul 0 z := .inr (by omega)
    have cxr : ∀ v, CMul v x := fun v => .inr (by omega)
    have czr : ∀ v, CMul v z := fun v => .inr (by omega)
    -- places
    have npd : p ≠ dp := ne_of hp hP (by intro z; cases z)
    have ncd : c ≠ dp := ne_of hc hP (by intro z; cases z)
    refine ⟨dp, _, hP, trivial, fun od => ?_⟩
    obtain ⟨HL, eHL⟩ : ∃ HL, HL = upd H dp (.frz od (.dK (kvOf V.int P))) := ⟨_, rfl⟩
    have lf : HL dp = some (.frz od (.dK (kvOf V.int P))) := by rw [eHL, upd_same]
    have lp : HL p = some (.tup [.ref dp, .ref dn, .ref da]) := by rw [eHL, upd_ne npd]; exact hp
    have lc : HL c = some (.tup [.int x, .int y, .int z, .int t]) := by rw [eHL, upd_ne ncd]; exact hc
    have lfree : ∀ a, HL a = none → H a = none := fun a h => by
      rw [eHL] at h
      by_cases e : a = dp
      · subst e; rw [upd_same] at h; cases h
      · rw [upd_ne e] at h; exact h
    rw [← eHL]
    refine ⟨_, rfl, p, _, 0, _, rfl, rfl, SqT.of lp, atI_get (i := 0) rfl, dp, od, rfl, .inl ⟨_, lf, fun D1 hD1 => lc_grow walk_keys hD1 (by rw [kvOf_len]; have := okP.2.2.1; omega) (fun H' s => s _ _ lf)
      (fun i acc H' => ∃ us : List Addr, acc = us.map V.ref ∧ Paired (NmAt H') us (scP x y (P.take i))) (by rintro i acc acc' H H' hd he ⟨us, ea, hp⟩; exact ⟨us, ea, nms_but hd he hp⟩) ⟨[], rfl, .nil⟩ ?_ ?_⟩⟩
    · rintro i v acc H1 H2 N1 N0 hi s1 hDl ha ⟨us, rfl, hu⟩ k1 k0 ⟨rfl, kk, vv, hkv, rfl⟩
      obtain ⟨q, hq, rfl, rfl⟩ := kvOf_get hkv
      have g : DGet H2 dp (.str q.1) (some (.int q.2)) := by
        have := DGet.fk (k := .inr q.1) (s1 _ _ lf)
        rw [valV_of, look_at okP.1 hq] at this
        exact this
      refine ⟨rfl, _, rfl, _, rfl, p, _, 0, _, rfl, rfl, SqT.of (s1 _ _ lp), atI_get (i := 0) rfl, _, rfl, dp, _, rfl, g, _, rfl, c, _, 0, _, rfl, rfl, SqT.of (s1 _ _ lc), atI_get (i := 0) rfl, _, _, rfl, rfl, cxr _, _, rfl, c, _, 1, _, rfl, rfl, SqT.of (s1 _ _ lc), atI_get (i := 1) rfl, _, _, rfl, rfl, size_le (by show 2 ≤ _; omega), fun n hn => ?_⟩
      have s2 := Same.new (o := .tup [.str q.1, .int (q.2 * x + y)]) hn
      refine k1 _ _ s2 ⟨us ++ [n], by rw [List.map_append]; rfl, ?_⟩
      rw [take_succ_get hq]
      unfold scP
      rw [List.map_append]
      exact paired_snoc (nms_same s2 hu) upd_same
    rintro acc H1 s1 hDl ha ⟨us, rfl, hu⟩
    rw [List.take_of_length_le (by rw [kvOf_len]; omega)] at hu
    refine ⟨s1 _ _ lf, ?_⟩
    rw [eHL] at s1
    have s2 := Same.unlock hP s1
    have hDd : D1 ≠ dp := fun e => by rw [e, lf] at hD1; cases hD1
    obtain ⟨H2, e2⟩ : ∃ H2, H2 = upd H1 dp (.dK (kvOf V.int P)) := ⟨_, rfl⟩
    have hDl2 : H2 D1 = some (.lst (us.map V.ref)) := by rw [e2, upd_ne hDd]; exact hDl
    have hu2 : Paired (NmAt H2) us (scP x y P) := paired_imp (fun a b (r : NmAt H1 a b) => by
      have hd1 : H1 dp = some (.frz od (.dK (kvOf V.int P))) := s1 _ _ upd_same
      have : a ≠ dp := fun e => by
        have r' : H1 a = some (.tup [.str b.1, .int b.2]) := r
        rw [e, hd1] at r'
        cases r'
      show H2 a = _
      rw [e2, upd_ne this]
      exact r) hu
    rw [← e2] at s2 ⊢
    clear hu hDl s1 lf lp lc lfree ha
    clear eHL
    -- numbers
    have hN2 := hN.same s2
    have hp2 := s2 _ _ hp
    have hc2 := s2 _ _ hc
    have npd : p ≠ dn := ne_of hp hN (by intro z; cases z)
    have ncd : c ≠ dn := ne_of hc hN (by intro z; cases z)
    refine ⟨dn, _, hN2, trivial, fun od => ?_⟩
    obtain ⟨HL, eHL⟩ : ∃ HL, HL = upd H2 dn (.frz od (.dK (kvOf V.int N))) := ⟨_, rfl⟩
    have lf : HL dn = some (.frz od (.dK (kvOf V.int N))) := by rw [eHL, upd_same]
    have lp : HL p = some (.tup [.ref dp, .ref dn, .ref da]) := by rw [eHL, upd_ne npd]; exact hp2
    have lc : HL c = some (.tup [.int x, .int y, .int z, .int t]) := by rw [eHL, upd_ne ncd]; exact hc2
    rw [← eHL]
    refine ⟨_, rfl, p, _, 1, _, rfl, rfl, SqT.of lp, atI_get (i := 1) rfl, dn, od, rfl, .inl ⟨_, lf, fun D2 hD2 => lc_grow walk_keys hD2 (by rw [kvOf_len]; have := okN.2.2.1; omega) (fun H' s => s _ _ lf)
      (fun i acc H' => ∃ us : List Addr, acc = us.map V.ref ∧ Paired (NmAt H') us (scP z t (N.take i))) (by rintro i acc acc' H H' hd he ⟨us, ea, hp⟩; exact ⟨us, ea, nms_but hd he hp⟩) ⟨[], rfl, .nil⟩ ?_ ?_⟩⟩
    · rintro i v acc H3 H4 N1 N0 hi s1 hDl ha ⟨us, rfl, hu⟩ k1 k0 ⟨rfl, kk, vv, hkv, rfl⟩
      obtain ⟨q, hq, rfl, rfl⟩ := kvOf_get hkv
      have g : DGet H4 dn (.str q.1) (some (.int q.2)) := by
        have := DGet.fk (k := .inr q.1) (s1 _ _ lf)
        rw [valV_of, look_at okN.1 hq] at this
        exact this
      refine ⟨rfl, _, rfl, _, rfl, p, _, 1, _, rfl, rfl, SqT.of (s1 _ _ lp), atI_get (i := 1) rfl, _, rfl, dn, _, rfl, g, _, rfl, c, _, 2, _, rfl, rfl, SqT.of (s1 _ _ lc), atI_get (i := 2) rfl, _, _, rfl, rfl, czr _, _, rfl, c, _, 3, _, rfl, rfl, SqT.of (s1 _ _ lc), atI_get (i := 3) rfl, _, _, rfl, rfl, size_le (by show 2 ≤ _; omega), fun n hn => ?_⟩
      have s2 := Same.new (o := .tup [.str q.1, .int (q.2 * z + t)]) hn
      refine k1 _ _ s2 ⟨us ++ [n], by rw [List.map_append]; rfl, ?_⟩
      rw [take_succ_get hq]
      unfold scP
      rw [List.map_append]
      exact paired_snoc (nms_same s2 hu) upd_same
    rintro acc H3 s1 hDl ha ⟨us', rfl, hu⟩
    rw [List.take_of_length_le (by rw [kvOf_len]; omega)] at hu
    refine ⟨s1 _ _ lf, ?_⟩
    rw [eHL] at s1
    have s3 := Same.unlock hN2 s1
    have hDd : D2 ≠ dn := fun e => by rw [e, lf] at hD2; cases hD2
    obtain ⟨H4, e4⟩ : ∃ H4, H4 = upd H3 dn (.dK (kvOf V.int N)) := ⟨_, rfl⟩
    have hDl4 : H4 D2 = some (.lst (us'.map V.ref)) := by rw [e4, upd_ne hDd]; exact hDl
    have hu4 : Paired (NmAt H4) us' (scP z t N) := paired_imp (fun a b (r : NmAt H3 a b) => by
      have hd1 : H3 dn = some (.frz od (.dK (kvOf V.int N))) := s1 _ _ upd_same
      have : a ≠ dn := fun e => by
        have r' : H3 a = some (.tup [.str b.1, .int b.2]) := r
        rw [e, hd1] at r'
        cases r'
      show H4 a = _
      rw [e4, upd_ne this]
      exact r) hu
    rw [← e4] at s3 ⊢
    clear hu hDl s1 lf lp lc ha
    clear eHL
    have hDl1 := s3 _ _ hDl2
    have hu1 := nms_same s3 hu2
    have s4 := s2.trans s3
    -- arrays
    refine fun ar har => ?_
    have s5 := Same.new (o := .dK []) har
    obtain ⟨H5, e5⟩ : ∃ H5, H5 = upd H4 ar (.dK []) := ⟨_, rfl⟩
    have har5 : H5 ar = some (.dK []) := by rw [e5, upd_same]
    rw [← e5] at s5 ⊢
    have s6 := s4.trans s5
    obtain ⟨rs, ha1, ha2⟩ := hA.same s6
    have hp5 := s6 _ _ hp
    have hc5 := s6 _ _ hc
    have nar : ar ≠ da := fun e => by
      obtain ⟨rs', h1, _⟩ := hA.same s4
      rw [e, h1] at har
      cases har
    have npd : p ≠ da := ne_of hp5 ha1 (by intro z; cases z)
    have ncd : c ≠ da := ne_of hc5 ha1 (by intro z; cases z)
    have npr : p ≠ ar := ne_of hp5 har5 (by intro z; cases z)
    have ncr : c ≠ ar := ne_of hc5 har5 (by intro z; cases z)
    refine ⟨da, _, ha1, trivial, fun od => ?_⟩
    obtain ⟨HL, eHL⟩ : ∃ HL, HL = upd H5 da (.frz od (.dK (kvOf V.ref rs))) := ⟨_, rfl⟩
    have lf : HL da = some (.frz od (.dK (kvOf V.ref rs))) := by rw [eHL, upd_same]
    have lp : HL p = some (.tup [.ref dp, .ref dn, .ref da]) := by rw [eHL, upd_ne npd]; exact hp5
    have lc : HL c = some (.tup [.int x, .int y, .int z, .int t]) := by rw [eHL, upd_ne ncd]; exact hc5
    have lar : HL ar = some (.dK []) := by rw [eHL, upd_ne nar]; exact har5
    have lrs : Paired (fun a b => a.1 = b.1 ∧ RowAt HL a.2 b.2) rs A := by rw [eHL]; exact rws_keep Keep.lock ha1 ha2
    have hrk := rws_keys ha2
    have hrn : (rs.map (·.1)).Nodup := by rw [hrk]; exact okA.1
    rw [← eHL]
    refine ⟨_, rfl, p, _, 2, _, rfl, rfl, SqT.of lp, atI_get (i := 2) rfl, da, od, rfl, .inl ⟨_, lf, ?_⟩⟩
    refine for_it walk_keys (fun i σ H' => Keep ar HL H' ∧ ∃ v5 v6 v7 : Option V, σ = [some (.ref p), some (.ref c), some (.ref D1), some (.ref D2), some (.ref ar), v5, v6, v7] ∧ DiR H' ar ((A.take i).map fun q => (q.1, scR x y z t q.2)))
      ⟨fun _ _ _ h => h, none, none, none, rfl, [], lar, .nil⟩ (fun i σ H' _ h => h.1 _ _ (fun e => nar e.symm) lf) ?_ ?_
    · rintro i v σ H6 H7 hi ⟨kp, v5, v6, v7, rfl, rs2, hr1, hr2⟩ ⟨rfl, kk, vv, hkv, rfl⟩
      obtain ⟨q, hq, rfl, rfl⟩ := kvOf_get hkv
      obtain ⟨b, hb, hbk, hbr⟩ := paired_get lrs hq
      obtain ⟨ts, ht1, ht2⟩ := hbr.keep kp lar
      have lf7 := kp _ _ (fun e => nar e.symm) lf
      have lp7 := kp _ _ npr lp
      have lc7 := kp _ _ ncr lc
      have g : DGet H7 da (.str q.1) (some (.ref q.2)) := by
        have := DGet.fk (k := .inr q.1) lf7
        rw [valV_of, look_at hrn hq] at this
        exact this
      have okb := okA.2.2.2 b (List.mem_of_getElem? hb)
      have hrl := paired_len ht2
      have hz := okb.2.2.1
      refine ⟨_, rfl, p, _, 2, _, rfl, rfl, SqT.of lp7, atI_get (i := 2) rfl, _, rfl, da, _, rfl, g, q.2, rfl, ⟨_, SqL.of ht1⟩, fun D3 hD3 => lc_grow walk_list hD3 (by rw [List.length_map]; omega) (fun H' s => SqL.of (s _ _ ht1))
        (fun j acc H' => ∃ (us : List Addr), acc = us.map V.ref ∧ Paired (PrAt H') us (scR x y z t (b.2.take j))) (by rintro i acc acc' H H' hd he ⟨us, ea, hp⟩; exact ⟨us, ea, prs_but hd he hp⟩) ⟨[], rfl, .nil⟩ ?_ ?_⟩
      · rintro j v acc H8 H9 N1 N0 hj s8 hDl ha ⟨us, rfl, hu⟩ k1 k0 ⟨rfl, hv⟩
        obtain ⟨u, hu0, rfl⟩ := get_map_ref hv
        obtain ⟨e, he, hue⟩ := paired_get ht2 hu0
        refine ⟨u, _, rfl, SqT.of (hue.same s8), rfl, _, _, rfl, _, _, rfl, rfl, rfl, _, rfl, _, rfl, c, _, 0, _, rfl, rfl, SqT.of (s8 _ _ lc7), atI_get (i := 0) rfl, _, _, rfl, rfl, cxr _, _, rfl, c, _, 1, _, rfl, rfl, SqT.of (s8 _ _ lc7), atI_get (i := 1) rfl, _, _, rfl, rfl,
          _, rfl, _, rfl, c, _, 2, _, rfl, rfl, SqT.of (s8 _ _ lc7), atI_get (i := 2) rfl, _, _, rfl, rfl, czr _, _, rfl, c, _, 3, _, rfl, rfl, SqT.of (s8 _ _ lc7), atI_get (i := 3) rfl, _, _, rfl, rfl, size_le (by show 2 ≤ _; omega), fun n hn => ?_⟩
        have s9 := Same.new (o := .tup [.int (e.1 * x + y), .int (e.2 * z + t)]) hn
        refine k1 _ _ s9 ⟨us ++ [n], by rw [List.map_append]; rfl, ?_⟩
        rw [take_succ_get he]
        unfold scR
        rw [List.map_append]
        exact paired_snoc (prs_same s9 hu) upd_same
      · rintro acc H8 s8 hDl ha ⟨us, rfl, hu⟩
        rw [List.take_of_length_le (by rw [List.length_map]; omega)] at hu
        have hr18 := s8 _ _ hr1
        refine ⟨_, rfl, _, rfl, ar, _, rfl, DPut.k (k := .inr q.1) hr18 (by rw [kvOf_len, paired_len hr2, List.length_map, List.length_take]; have := okA.2.2.1; exact size_lt (by omega)), ?_⟩
        refine ⟨fun a o hne h => ?_, _, _, _, rfl, ?_⟩
        · rw [upd_ne hne]
          exact s8 _ _ (kp _ _ hne h)
        · have := DiR.put hr18 (rws_same s8 hr2) (k := q.1) (show RowAt H8 D3 (scR x y z t b.2) from ⟨us, hDl, hu⟩)
          rw [putS_new] at this
          · rw [take_succ_get hb, List.map_append]
            have e : (b.1, scR x y z t b.2) = (q.1, scR x y z t b.2) := by rw [hbk]
            rw [List.map_singleton, e]
            exact this
          · rw [List.map_map, hbk]
            exact nodup_at okA.1 hb
    · rintro σ H6 ⟨kp, v5, v6, v7, rfl, hA6⟩
      have hrl := paired_len ha2
      rw [List.take_of_length_le (by rw [kvOf_len]; omega)] at hA6
      refine ⟨kp _ _ (fun e => nar e.symm) lf, ?_⟩
      rw [eHL] at kp
      have s7 := Keep.unlock ha1 har (Same.refl _ |>.trans s5) kp
      have hA7 : DiR (upd H6 da (.dK (kvOf V.ref rs))) ar (A.map fun q => (q.1, scR x y z t q.2)) := by
        obtain ⟨rs2, h1, h2⟩ := hA6
        have hd6 : H6 da = some (.frz od (.dK (kvOf V.ref rs))) := kp _ _ (fun e => nar e.symm) upd_same
        have kk : ∀ a o, a ≠ da → H6 a = some o → upd H6 da (.dK (kvOf V.ref rs)) a = some o := fun a o hne h => by rw [upd_ne hne]; exact h
        refine ⟨rs2, kk _ _ nar h1, paired_imp (fun a b r => ⟨r.1, ?_⟩) h2⟩
        obtain ⟨ts, q1, q2⟩ := r.2
        exact ⟨ts, kk _ _ (ne_of q1 hd6 (by intro z; cases z)) q1, paired_imp (fun a b (r : PrAt H6 a b) => kk _ _ (ne_of r hd6 (by intro z; cases z)) r) q2⟩
      obtain ⟨H7, e7⟩ : ∃ H7, H7 = upd H6 da (.dK (kvOf V.ref rs)) := ⟨_, rfl⟩
      rw [← e7] at s7 hA7 ⊢
      have okP' := scP_ok okP x1 x2 y1 y2
      have okN' := scP_ok okN z1 z2 t1 t2
      have hu7 := nms_same s7 hu1
      have hu7' := nms_same s7 hu4
      refine ⟨_, rfl, D1, us, kvOf V.int (scP x y P), rfl, SqL.of (s7 _ _ hDl1), ?_, fun b1 hb1 => ?_⟩
      · exact nm_sq hu7
      rw [merge_nil V.int _ okP'.1]
      have s8 := Same.new (o := .dK (kvOf V.int (scP x y P))) hb1
      refine ⟨_, rfl, D2, us', kvOf V.int (scP z t N), rfl, SqL.of (s8 _ _ (s7 _ _ hDl4)), ?_, fun b2 hb2 => ?_⟩
      · exact nm_sq (nms_same s8 hu7')
      rw [merge_nil V.int _ okN'.1]
      have s9 := Same.new (o := .dK (kvOf V.int (scP z t N))) hb2
      refine ⟨_, rfl, size_le (by show 3 ≤ _; omega), fun r hr => ?_⟩
      have s10 := Same.new (o := .tup [.ref b1, .ref b2, .ref ar]) hr
      refine k r _ b1 b2 ar _ _ _ (s4.trans (s7.trans (s8.trans (s9.trans s10)))) ((s4.trans (s7.trans (s8.trans s9))).free hr) upd_same (s10 _ _ (s9 _ _ upd_same)) (s10 _ _ upd_same) (hA7.same (s8.trans (s9.trans s10))) okP' okN' ?_
      obtain ⟨a1, a2, a3, a4⟩ := okA
      refine ⟨by rw [List.map_map]; exact a1, fun p hp => ?_, by rw [List.length_map]; exact a3, fun p hp => ?_⟩
      · obtain ⟨q, hq, rfl⟩ := List.mem_map.mp hp
        exact a2 q hq
      · obtain ⟨q, hq, rfl⟩ := List.mem_map.mp hp
        exact scR_ok (a4 q hq) hsc'
end
end A80
end
section
set_option Elab.async false
set_option maxRecDepth 100000
set_option maxHeartbeats 4000000
namespace A80
open PySem PySem.Spec L2 PyProof.Rows TL
/-! ### == of two dicts of rows -/
section
variable {X : Cx}
theorem rows_eqP {pins : List (Addr × Obj)} {σ : L2.St} {H : Hp} {s : Shared} (I : Inv X pins σ H s) (hu : X.A.units + 64 < cLine) {a b : Addr} {row : Row} (ha : RowAt H a row) (hb : RowAt H b row) : SeqAt.EqP X.prog X.w X.A.in1 s (.ref a) (.ref b) true := by
  by_cases e : a = b
  · subst e
    exact (SeqAt.EqAt.same _).eqP
  · refine SeqAt.eqP_refs e fun E Q q => ?_
    obtain ⟨as, r1⟩ := Dp.reads (X := X) I (rowD row) (.ref a) (.ref a) (dp_row ha) rfl
    obtain ⟨bs, r2⟩ := Dp.reads (X := X) I (rowD row) (.ref b) (.ref b) (dp_row hb) rfl
    have hc := SeqAt.canLay_of_shaped (shaped_row row)
    have hd := (pairs_shaped row).2
    have e2 : PyData.depth (rowD row) = PyData.depthAll (row.map pairD) + 1 := rfl
    refine PySem.SeqAt.eqOverData X.prog X.w X.A.in1 E s _ _ _ _ _ _ Q r1 r2 hc hc ?_ ?_
    · show X.A.units + 1 + min _ _ < cLine
      rw [Nat.min_self, e2]
      omega
    · rw [eqv_row, decide_eq_true rfl]
      exact q
theorem op_eqRows (hu : X.A.units + 64 < cLine) : OpR X (compareOp .Eq) (fun x y H Q => ∃ (a b : Addr) (A : Al Row), x = .ref a ∧ y = .ref b ∧ DiR H a A ∧ DiR H b A ∧ (A.map (·.1)).Nodup ∧ Q (.bl true) H) := by
  intro pins s σ H x y v u Q I rx ry h
  obtain ⟨a, b, A, rfl, rfl, ⟨rs, ha, pa⟩, ⟨qs, hb, pb⟩, hn, q⟩ := h
  cases (show v = Value.ref a from rx)
  cases (show u = Value.ref b from ry)
  obtain ⟨_, ya, va, ra, da⟩ := (show ObjOk X.prog X.w H s.heap a (.dK (kvOf V.ref rs)) from I.hok a _ ha)
  obtain ⟨_, yb, vb, rb, db⟩ := (show ObjOk X.prog X.w H s.heap b (.dK (kvOf V.ref qs)) from I.hok b _ hb)
  have hl : va.length = vb.length := by rw [← ra.length, ← rb.length, kvOf_len, kvOf_len, paired_len pa, paired_len pb]
  refine PySem.W.rcP_dicts (knd := mixKind X.prog X.w) (r := true) ya yb da db (by omega) (fun _ => hits_run (F := fun x y => ∃ a b row, x = V.ref a ∧ y = V.ref b ∧ RowAt H a row ∧ RowAt H b row) ?_ rb ra ?_) X.xe _ ?_
  · rintro x y v u ⟨c, d, row, rfl, rfl, hc, hd⟩ rv ru
    cases (show v = Value.ref c from rv)
    cases (show u = Value.ref d from ru)
    exact rows_eqP I hu hc hd
  · intro p hp
    obtain ⟨i, hi⟩ := List.getElem?_of_mem hp
    obtain ⟨p1, p2⟩ := p
    obtain ⟨r, hr, rfl, rfl⟩ := kvOf_get hi
    obtain ⟨m, hm, m1, m2⟩ := paired_get pa hr
    obtain ⟨n, hn1, n1, n2⟩ := paired_get' pb hm
    have hqn : (qs.map (·.1)).Nodup := by rw [rws_keys pb]; exact hn
    refine ⟨.ref n.2, ?_, r.2, n.2, m.2, rfl, rfl, m2, n2⟩
    show valV (kvOf V.ref qs) (.inr r.1) = _
    rw [valV_of, m1, ← n1, look_at hqn hn1]
    rfl
  · rw [show (va.length == vb.length && true) = true from by rw [hl]; simp]
    exact ⟨.bl true, H, I, rfl, q⟩
end
/-! ### a set of the places of a row -/
theorem sc_grow {w : World} {J : It} {n : Nat} {G : Hp → Prop} {Y : Nat → Hp → V → Hp → Prop} (wk : Walk J n G Y) {g : TG} {te : TE} {vs : List Nat} {σ : L2.St} {H1 : Hp} {D : Addr} {Qd : Hp → Prop} (hD : H1 D = none) (hn : n + 1 < 4096)
    (hG : ∀ H', Same H1 H' → G H') (ks : List Int) (hk : ks.length = n)
    (hs : ∀ i x H H' (N1 : V → Hp → Prop) q, i < n → ks[i]? = some q → Same H1 H → (∀ H4, Same H H4 → N1 (.int q) H4) → Y i H x H' → g x (wipe σ vs) H' fun σ2 H2 => wipe σ2 vs = wipe σ vs ∧ te σ2 H2 N1)
    (hd : ∀ S m H', Same H1 H' → H' D = some (SetO w D S m) → m ≤ n → (m = n ↔ ks.Nodup) → Qd H') :
    ∃ W : Nat → Nat → Hp → Prop, (∃ m, W 0 m (upd H1 D (SetO w D (fun _ => false) 0))) ∧ ∀ i m H, W i m H →
      (J.stop i H ∧ Qd H) ∨ (J.go i H ∧ ∃ Nx : Hp → Prop, (∀ H', Nx H' → ∃ m', m' < m ∧ W (i + 1) m' H') ∧ ∀ x H', J.yld i H x H' →
        g x (wipe σ vs) H' fun σ2 H2 => wipe σ2 vs = wipe σ vs ∧ te σ2 H2 fun y H3 => ∃ (k : Int) (S : Int → Bool) (n : Nat),
          y = .int k ∧ H3 D = some (SetO w D S n) ∧ n + 1 < scanBound ∧ Nx (upd H3 D (SetO w D (fun j => S j || decide (j = k)) (if S k = true then n else n + 1)))) := by
  let Pv : Nat → Hp → Prop := fun i H => ∃ (S : Int → Bool) (c : Nat), Same H1 H ∧ H D = some (SetO w D S c) ∧ c ≤ i ∧ (∀ j, S j = decide (j ∈ ks.take i)) ∧ (c = i ↔ (ks.take i).Nodup)
  refine ⟨fun i m H => m = n - i ∧ i ≤ n ∧ Pv i H, ⟨n, by simp, Nat.zero_le _, fun _ => false, 0, Same.new hD, upd_same, Nat.le_refl _, fun j => by simp, by simp⟩, ?_⟩
  rintro i m H ⟨rfl, hi, S, c, s1, hS, hc, hSj, hcn⟩
  have q := hG H s1
  by_cases hlt : i < n
  · obtain ⟨k, hkq⟩ : ∃ k, ks[i]? = some k := ⟨ks[i]'(by omega), List.getElem?_eq_getElem (by omega)⟩
    refine .inr ⟨wk.goes i H hlt q, Pv (i + 1), fun H' p' => ⟨n - (i + 1), by omega, rfl, hlt, p'⟩, fun x H' y => hs i x H H' _ k hlt hkq s1 (fun H4 s4 => ?_) (wk.yields i H x H' hlt q y)⟩
    refine ⟨k, S, c, rfl, s4 _ _ hS, by show c + 1 < 4096; omega, _, _, Same.mut (s1.trans s4) hD, upd_same, ?_, fun j => ?_, ?_⟩
    · split <;> omega
    · rw [take_succ_get hkq, hSj j, Bool.eq_iff_iff]
      simp
    · have e := take_succ_get hkq
      rw [hSj k]
      by_cases hm : k ∈ ks.take i
      · rw [decide_eq_true hm, if_pos rfl]
        constructor
        · intro z; omega
        · intro z
          rw [e] at z
          exact absurd rfl ((List.nodup_append.mp z).2.2 k hm k (List.mem_singleton.mpr rfl))
      · rw [decide_eq_false hm, if_neg Bool.false_ne_true]
        constructor
        · intro z
          have := hcn.mp (by omega)
          rw [e]
          exact List.nodup_append.mpr ⟨this, List.pairwise_singleton _ _, fun a ha b hb e2 => hm (by rw [List.mem_singleton.mp hb] at e2; exact e2 ▸ ha)⟩
        · intro z
          rw [e] at z
          have := hcn.mpr (List.nodup_append.mp z).1
          omega
  · have e : i = n := by omega
    subst e
    rw [List.take_of_length_le (Nat.le_of_eq hk)] at hcn
    exact .inl ⟨wk.stops H q, hd S c H s1 hS hc hcn⟩
/-! ### a State object -/
def stF (ds da dr : Addr) : List (Str × V) := [("spots", .ref ds), ("amounts", .ref da), ("rows", .ref dr)]
theorem stF_s (ds da dr : Addr) : (stF ds da dr).lookup ("spots" : Str) = some (.ref ds) := by simp [stF, List.lookup]
theorem stF_a (ds da dr : Addr) : (stF ds da dr).lookup ("amounts" : Str) = some (.ref da) := by
  show List.lookup _ [_, _, _] = _
  rw [List.lookup_cons, show ((("amounts" : Str)) == (("spots" : Str))) = false by decide]
  simp [List.lookup]
theorem stF_r (ds da dr : Addr) : (stF ds da dr).lookup ("rows" : Str) = some (.ref dr) := by
  show List.lookup _ [_, _, _] = _
  rw [List.lookup_cons, show ((("rows" : Str)) == (("spots" : Str))) = false by decide]
  show List.lookup _ [_, _] = _
  rw [List.lookup_cons, show ((("rows" : Str)) == (("amounts" : Str))) = false by decide]
  simp [List.lookup]
structure StP (CS : Addr) (H : Hp) (p dx ds da dr : Addr) (P N : Al Int) (A : Al Row) : Prop where
  at_ : H p = some (.ins CS dx (stF ds da dr))
  s : DiI H ds P
  a : DiI H da N
  r : DiR H dr A
def StAt (CS : Addr) (H : Hp) (p : Addr) (P N : Al Int) (A : Al Row) : Prop := ∃ dx ds da dr, StP CS H p dx ds da dr P N A
theorem StP.same {CS : Addr} {H H' : Hp} {p dx ds da dr : Addr} {P N : Al Int} {A : Al Row} (e : Same H H') (h : StP CS H p dx ds da dr P N A) : StP CS H' p dx ds da dr P N A := ⟨e _ _ h.at_, h.s.same e, h.a.same e, h.r.same e⟩
theorem StAt.same {CS : Addr} {H H' : Hp} {p : Addr} {P N : Al Int} {A : Al Row} (e : Same H H') (h : StAt CS H p P N A) : StAt CS H' p P N A := by
  obtain ⟨dx, ds, da, dr, h⟩ := h
  exact ⟨dx, ds, da, dr, h.same e⟩
/-- what a State object holds -/
def NmOk {α : Type} (l : Al α) : Prop := (l.map (·.1)).Nodup ∧ ∀ p ∈ l, okN p.1
def StOk (P N : Al Int) (A : Al Row) : Prop := NmOk P ∧ NmOk N ∧ (AscK A ∧ ∀ p ∈ A, okN p.1) ∧ ∀ p ∈ A, p.2 ≠ [] ∧ Asc p.2
end A80
end
section
set_option Elab.async false
set_option maxRecDepth 100000
set_option maxHeartbeats 4000000
namespace A80
open PySem PySem.Spec L2 PyProof.Rows TL
/-! ### methods, properties, the making of a State -/
/-- a def of the class -/
structure Ms (K : PySem.W.Frag) (CS : Addr) (x qual : Str) (st : Stmt) (ps : List Str) : Prop where
  ex : ∃ (f : Addr) (fd : FuncData), Fun K x qual st f fd ∧ PySem.W.findIn K (.ref CS) x = some (some (.ref f)) ∧ PySem.W.isFn K (.ref f) = true ∧ Binds K fd ps []
/-- a property of the class -/
structure Ps (K : PySem.W.Frag) (CS : Addr) (x qual : Str) (st : Stmt) : Prop where
  ex : ∃ (p f : Addr) (fd : FuncData), Fun K x qual st f fd ∧ PropOf K CS x p f ∧ Binds K fd ["self"] []
/-- a property that keeps sp -/
structure Prp (P : Program) (w : World) (K : PySem.W.Frag) (mg : Str → Option Value) (base : Heap) (k : Nat) (C : Addr) (x : Str) (sp : Sp) : Prop where
  ex : ∃ (p f : Addr) (fd : FuncData) (ps : List Str), Cls K C ∧ PropOf K C x p f ∧ FnOk P w K mg base CX0 k f fd ps sp ∧ Binds K fd ps []
section
variable {P : Program} {w : World} {K : PySem.W.Frag} {mg : Str → Option Value} {base : Heap}
theorem met_mk {CS : Addr} {x qual : Str} {st : Stmt} {N ps : List Str} {k : Nat} {sp : Sp} (c : Cls K CS) (D : Ms K CS x qual st ps) (S : FnScope N ps (defScope st)) (len : ∀ vs H Q E, sp vs H Q E → vs.length = ps.length)
    (hbody : ∀ (f : Addr) (cdv : Value) (A : Around) (outer : List Env) (s : Shared) (H : Hp) (vs : List V) (Q : VK) (E : XK), Room k (A.deeper (envOfC qual (defScope st) s.heap.objs.size f cdv)) → sp vs H Q E →
      ∃ t, PSs (cxOf CX0 P w K mg base N qual (defScope st) f cdv A outer s H E).nox (defBody st) t ∧ t { nx := fun _ H' => Q .non H', rt := Q } (start N vs) H) : C8.Met P w K mg base (k + 1) CS x sp [] := by
  obtain ⟨f, fd, F, hf, hi, b⟩ := D.ex
  exact ⟨f, fd, ps, [], c, ⟨hf, hi, F.kp⟩, F.ok S len (fun cdv A outer s H vs Q E hr h => hbody f cdv A outer s H vs Q E hr h), b, .nil⟩
theorem prp_mk {CS : Addr} {x qual : Str} {st : Stmt} {N : List Str} {k : Nat} {sp : Sp} (c : Cls K CS) (D : Ps K CS x qual st) (S : FnScope N ["self"] (defScope st)) (len : ∀ vs H Q E, sp vs H Q E → vs.length = 1)
    (hbody : ∀ (f : Addr) (cdv : Value) (A : Around) (outer : List Env) (s : Shared) (H : Hp) (vs : List V) (Q : VK) (E : XK), Room k (A.deeper (envOfC qual (defScope st) s.heap.objs.size f cdv)) → sp vs H Q E →
      ∃ t, PSs (cxOf CX0 P w K mg base N qual (defScope st) f cdv A outer s H E).nox (defBody st) t ∧ t { nx := fun _ H' => Q .non H', rt := Q } (start N vs) H) : Prp P w K mg base (k + 1) CS x sp := by
  obtain ⟨p, f, fd, F, hp, b⟩ := D.ex
  exact ⟨p, f, fd, ["self"], c, hp, F.ok S len (fun cdv A outer s H vs Q E hr h => hbody f cdv A outer s H vs Q E hr h), b⟩
theorem mak_mk {CS : Addr} {qual : Str} {st : Stmt} {N ps : List Str} {k : Nat} {sp : Sp} (m1 : PySem.W.makesIn K CS = true) (m2 : PySem.W.keepIn K (.ref CS) = true) (hm : mg "State" = some (.ref CS)) (D : Ms K CS "__init__" qual st ps) (S : FnScope N ps (defScope st)) (len : ∀ vs H Q E, sp vs H Q E → vs.length = ps.length)
    (hbody : ∀ (f : Addr) (cdv : Value) (A : Around) (outer : List Env) (s : Shared) (H : Hp) (vs : List V) (Q : VK) (E : XK), Room k (A.deeper (envOfC qual (defScope st) s.heap.objs.size f cdv)) → sp vs H Q E →
      ∃ t, PSs (cxOf CX0 P w K mg base N qual (defScope st) f cdv A outer s H E).nox (defBody st) t ∧ t { nx := fun _ H' => Q .non H', rt := Q } (start N vs) H) : C8.Mak P w K mg base (k + 1) "State" CS sp [] := by
  obtain ⟨f, fd, F, hf, hi, b⟩ := D.ex
  exact ⟨f, fd, ps, [], ⟨m1, hf, hi, m2⟩, F.ok S len (fun cdv A outer s H vs Q E hr h => hbody f cdv A outer s H vs Q E hr h), hm, b, .nil⟩
end
section
variable {X : Cx} {k j : Nat} {C : Addr} {x : Str} {sp : Sp} {e : Expr} {pos : Pos} {ta : TE}
theorem pe_p (c : Prp X.prog X.w X.K X.mg X.base k C x sp) (hr : Room j X.A) (hk : k + 1 ≤ j) (he : PE X e ta) (hab : attributeBase e x X.env (eval e X.env) = eval e X.env) : PE X (.Attribute e x pos) (tProp C sp [] E0 ta) := by
  obtain ⟨p, f, fd, ps, hc, hp, F, b⟩ := c.ex
  exact pe_prop he hc hp F (hr.mono hk) b .nil pass0 hab
end
end A80
end
section
set_option Elab.async false
set_option maxRecDepth 100000
set_option maxHeartbeats 4000000
namespace A80
open PySem PySem.Spec L2 PyProof.Rows TL
/-! ### is_name -/
def spIsName : Sp := fun vs H Q _ => ∃ x : Str, vs = [.str x] ∧ x.length ≤ 1000000 ∧ Q (.bl (okNm (tl x))) H
abbrev S_is_name : Stmt := topS 8
theorem sc_is_name : FnScope ["thing", "sign"] ["thing"] (defScope S_is_name) := ⟨rfl, rfl, rfl, by decide +kernel, rfl, by decide +kernel, by decide +kernel⟩
section
variable {P : Program} {w : World} {K : PySem.W.Frag} {mg : Str → Option Value} {base : Heap} {CS : Addr}
theorem cl_is_name (T : Tx K mg CS) (D : Df K mg "is_name" S_is_name ["thing"]) : Cl P w K mg base 1 "is_name" spIsName := by
  have sc := sc_is_name
  refine cl_mk D sc (fun vs H Q E h => ?_) (fun f cdv A outer s H vs Q E hr h => ?_)
  · obtain ⟨x, rfl, _⟩ := h
    rfl
  · obtain ⟨x, rfl, hl, k⟩ := h
    refine ⟨_, (pss_cons (ps_if (PW.pt (pw_or (pt_not (pt_val (pe_callB (cIsi K) (by rfl) T.b_isinstance (by decide +kernel) (pa_cons (pv 0) (pa_cons (pe_bltn (v := .ty "str") (by rfl) T.b_str (by decide +kernel) rfl) pa_nil))))) (pw_or (pt_cmpR op_eq (pv 0) pe_str (nomark _)) (pw_or1 (pt_cmpR op_gt (pe_callB call_len_str (by rfl) T.b_len (by decide +kernel) (pa_cons (pv 0) pa_nil)) pe_int (nomark _))))))
      (pss_one (ps_ret pe_bl))
      pss_nil)
      (pss_cons (ps_for PassesOwn.never rfl (pi_str (pv 0)) (pg_name (i := 1) sc.nd rfl (Or.inl rfl))
      (pss_one (ps_if (pt_cmpR op_notIn_sign (pv 1) (pe_gc rfl T.gLETTERS) rfl)
      (pss_one (ps_ret pe_bl))
      pss_nil)))
      (pss_one (ps_ret pe_bl)))), ?_⟩
    -- isinstance(thing, str), thing == '', len(thing) > 6
    refine ⟨_, rfl, _, _, _, _, true, rfl, .ty _, .base (.str _), kit_ty (by decide +kernel), true, rfl, iteF ?_⟩
    refine ⟨_, rfl, rfl, _, rfl, ite_b (fun c => ?_) (fun c => ?_)⟩
    · have e : tl x = [] := str_eq.mp (of_decide_eq_true c)
      refine iteT ?_
      rw [e] at k
      exact k
    have e0 : tl x ≠ [] := fun z => of_decide_eq_false c (str_eq.mpr z)
    refine ⟨_, rfl, _, rfl, size_le (by omega), _, _, rfl, rfl, _, rfl, ite_b (fun c => ?_) (fun c => ?_)⟩
    · have e : ¬ (tl x).length ≤ 6 := by
        have := of_decide_eq_true c
        rw [len_tl] at this
        omega
      have : okNm (tl x) = false := by
        unfold okNm
        rw [decide_eq_false e, Bool.and_false, Bool.false_and]
      rw [this] at k
      exact k
    have e6 : (tl x).length ≤ 6 := by
      have := of_decide_eq_false c
      rw [len_tl] at this
      omega
    have keq : okNm (tl x) = (tl x).all isLet := by
      unfold okNm
      rw [decide_eq_true e0, decide_eq_true e6, Bool.true_and, Bool.true_and]
    rw [keq] at k
    refine ⟨_, rfl, x, rfl, for_str (x := x) (fun i σ H' => H' = H ∧ ∃ v, σ = [some (.str x), v] ∧ ((tl x).take i).all isLet = true) ⟨rfl, _, rfl, rfl⟩ ?_ ?_⟩
    · rintro i c σ H' hi ⟨rfl, v, rfl, ha⟩
      refine ⟨_, rfl, c, _, rfl, rfl, _, rfl, ite_b (fun q => ?_) (fun q => ?_)⟩
      · rw [mem_letters] at q
        have : (tl x).all isLet = false := by
          rw [List.all_eq_false]
          exact ⟨c, List.mem_of_getElem? hi, by simpa using q⟩
        rw [this] at k
        exact k
      · rw [mem_letters] at q
        refine ⟨rfl, _, rfl, ?_⟩
        rw [take_succ_get hi, List.all_append, ha]
        simpa using q
    · rintro σ H' ⟨rfl, v, rfl, ha⟩
      rw [List.take_length] at ha
      rw [ha] at k
      exact k
end
end A80
end
section
set_option Elab.async false
set_option maxRecDepth 100000
set_option maxHeartbeats 4000000
namespace A80
open PySem PySem.Spec L2 PyProof.Rows TL
/-! ### cell_at -/
def cellGo (place : Int) : Int → Row → Int
  | f, [] => f
  | f, e :: r => if e.1 > place then f else cellGo place e.2 r
def cellAt (row : Row) (place : Int) : Int := match row with
  | [] => 0
  | e :: r => cellGo place e.2 (e :: r)
theorem cellGo_mem (place : Int) : ∀ (r : Row) (f : Int), cellGo place f r = f ∨ ∃ e ∈ r, cellGo place f r = e.2
  | [], f => .inl rfl
  | e :: r, f => by
    unfold cellGo
    by_cases h : e.1 > place
    · rw [if_pos h]; exact .inl rfl
    · rw [if_neg h]
      rcases cellGo_mem place r e.2 with q | ⟨x, hx, q⟩
      · exact .inr ⟨e, List.mem_cons_self, q⟩
      · exact .inr ⟨x, List.mem_cons_of_mem _ hx, q⟩
theorem cellAt_mem {row : Row} (h : row ≠ []) (place : Int) : ∃ e ∈ row, cellAt row place = e.2 := by
  cases row with
  | nil => exact absurd rfl h
  | cons e r =>
    rcases cellGo_mem place (e :: r) e.2 with q | q
    · exact ⟨e, List.mem_cons_self, q⟩
    · exact q
theorem cellGo_asc (p v : Int) : ∀ (r : Row) (f : Int), Asc r → (p, v) ∈ r → cellGo p f r = v
  | [], f, _, h => by simp at h
  | e :: r, f, ha, h => by
    obtain ⟨h1, h2⟩ := List.pairwise_cons.mp ha
    unfold cellGo
    rcases List.mem_cons.mp h with q | q
    · subst q
      rw [if_neg (by show ¬ p > p; omega)]
      cases r with
      | nil => rfl
      | cons g r =>
        unfold cellGo
        rw [if_pos]
        exact h1 g List.mem_cons_self
    · have := h1 _ q
      rw [if_neg (by show ¬ e.1 > p; have : e.1 < p := this; omega)]
      exact cellGo_asc p v r e.2 h2 q
theorem cellAt_asc {row : Row} {p v : Int} (ha : Asc row) (h : (p, v) ∈ row) : cellAt row p = v := by
  cases row with
  | nil => simp at h
  | cons e r => exact cellGo_asc p v (e :: r) e.2 ha h
def spCellAt : Sp := fun vs H Q _ => ∃ (a : Addr) (row : Row) (p : Int), vs = [.ref a, .int p] ∧ RowAt H a row ∧ row ≠ [] ∧ Q (.int (cellAt row p)) H
abbrev S_cell_at : Stmt := topS 10
theorem sc_cell_at : FnScope ["row", "place", "found", "spot", "value"] ["row", "place"] (defScope S_cell_at) := ⟨rfl, rfl, rfl, by decide +kernel, rfl, by decide +kernel, by decide +kernel⟩
section
variable {P : Program} {w : World} {K : PySem.W.Frag} {mg : Str → Option Value} {base : Heap} {CS : Addr}
theorem cl_cell_at (D : Df K mg "cell_at" S_cell_at ["row", "place"]) : Cl P w K mg base 1 "cell_at" spCellAt := by
  have sc := sc_cell_at
  refine cl_mk D sc (fun vs H Q E h => ?_) (fun f cdv A outer s H vs Q E hr h => ?_)
  · obtain ⟨a, row, p, rfl, _⟩ := h
    rfl
  · obtain ⟨a, row, p, rfl, ⟨ts, hl, hp⟩, hne, k⟩ := h
    refine ⟨_, (pss_cons (ps_set (i := 2) sc.nd rfl (Or.inl rfl) (pe_ix (ixT K) (pe_ix (ixL K) (pv 0) pe_int (fun _ _ => rfl)) pe_int (fun _ _ => rfl)))
      (pss_cons (ps_for PassesOwn.never rfl (piL K (pv 0)) (pgT K (n := 2) rfl (pgs_cons (pg_name (i := 3) sc.nd rfl (Or.inl rfl)) (pgs_cons (pg_name (i := 4) sc.nd rfl (Or.inl rfl)) pgs_nil)))
      (pss_cons (ps_if (pt_cmpR op_gt (pv 3) (pv 1) (nomark _))
      (pss_one ps_break)
      pss_nil)
      (pss_one (ps_set (i := 2) sc.nd rfl (Or.inl rfl) (pv 4)))))
      (pss_one (ps_ret (pv 2))))), ?_⟩
    obtain ⟨e, r, rfl⟩ : ∃ e r, row = e :: r := by
      cases row with
      | nil => exact absurd rfl hne
      | cons e r => exact ⟨e, r, rfl⟩
    cases hp with
    | cons h0 hp0 =>
      rename_i t ts
      -- found = row[0][1]
      refine ⟨_, rfl, _, _, _, _, rfl, rfl, SqL.of hl, atI_get (i := 0) rfl, _, _, _, _, rfl, rfl, SqT.of h0, atI_get (i := 1) rfl, ?_⟩
      have hps : Paired (PrAt H) (t :: ts) (e :: r) := .cons h0 hp0
      refine ⟨_, rfl, a, rfl, ⟨_, SqL.of hl⟩, for_it walk_list (fun i σ H' => H' = H ∧ ∃ f v1 v2, σ = [some (.ref a), some (.int p), some (.int f), v1, v2] ∧ cellGo p f ((e :: r).drop i) = cellAt (e :: r) p)
        ⟨rfl, e.2, none, none, rfl, rfl⟩ (fun i σ H' _ h => by rw [h.1]; exact SqL.of hl) ?_ ?_⟩
      · rintro i x σ H1 H2 hi ⟨rfl, f, v1, v2, rfl, hc⟩ ⟨rfl, hx⟩
        obtain ⟨u, hu, rfl⟩ := get_map_ref hx
        obtain ⟨q, hq, hq2⟩ := paired_get hps hu
        refine ⟨u, _, rfl, SqT.of hq2, rfl, _, _, rfl, _, _, rfl, rfl, ?_⟩
        have hd : (e :: r).drop i = q :: (e :: r).drop (i + 1) := by
          obtain ⟨h1, h2⟩ := List.getElem?_eq_some_iff.mp hq
          rw [List.drop_eq_getElem_cons h1, h2]
        rw [hd] at hc
        refine ⟨_, rfl, _, rfl, _, _, rfl, rfl, _, rfl, ite_b (fun c => ?_) (fun c => ?_)⟩
        · have c := of_decide_eq_true c
          unfold cellGo at hc
          rw [if_pos c] at hc
          subst hc
          exact ⟨_, rfl, k⟩
        · have c := of_decide_eq_false c
          unfold cellGo at hc
          rw [if_neg c] at hc
          exact ⟨_, rfl, rfl, _, _, _, rfl, hc⟩
      · rintro σ H1 ⟨rfl, f, v1, v2, rfl, hc⟩
        have hlen : ((t :: ts).map V.ref).length = (e :: r).length := by rw [List.length_map]; exact paired_len hps
        rw [hlen, List.drop_length] at hc
        have hc : f = cellAt (e :: r) p := hc
        subst hc
        exact ⟨_, rfl, k⟩
end
end A80
end
section
set_option Elab.async false
set_option maxRecDepth 100000
set_option maxHeartbeats 4000000
set_option autoImplicit false
namespace A80
open PySem PySem.Spec L2 PyProof.Rows TL
/-! ### State.__init__ -/
abbrev S_State_init : Stmt := inClass (topS 12) 0
theorem sc_State_init : FnScope ["self", "places", "numbers", "arrays", "names", "name", "rows", "row", "entry"] ["self", "places", "numbers", "arrays"] (defScope S_State_init) := ⟨rfl, rfl, rfl, by decide +kernel, rfl, by decide +kernel, by decide +kernel⟩
theorem kvOf_keys {α : Type} (f : α → V) (l : Al α) : (kvOf f l).map (·.1) = (l.map (·.1)).map Sum.inr := by
  unfold kvOf
  rw [List.map_map, List.map_map]
  rfl
section
variable {d C dx : Addr} {H H' : Hp} {fs : List (Str × V)}
theorem PrAt.keepI (e : Keep d H H') (hd : H d = some (.ins C dx fs)) {t : Addr} {q : Int × Int} (h : PrAt H t q) : PrAt H' t q := e _ _ (ne_of h hd (by intro z; cases z)) h
theorem RowAt.keepI (e : Keep d H H') (hd : H d = some (.ins C dx fs)) {a : Addr} {row : Row} (h : RowAt H a row) : RowAt H' a row := by
  obtain ⟨ts, h1, h2⟩ := h
  exact ⟨ts, e _ _ (ne_of h1 hd (by intro z; cases z)) h1, paired_imp (fun _ _ r => PrAt.keepI e hd r) h2⟩
theorem DiR.keepI (e : Keep d H H') (hd : H d = some (.ins C dx fs)) {a : Addr} {A : Al Row} (h : DiR H a A) : DiR H' a A := by
  obtain ⟨rs, h1, h2⟩ := h
  exact ⟨rs, e _ _ (ne_of h1 hd (by intro z; cases z)) h1, paired_imp (fun _ _ r => ⟨r.1, RowAt.keepI e hd r.2⟩) h2⟩
end
theorem stF_put (ds da dr : Addr) : putF "rows" (.ref dr) (putF "amounts" (.ref da) (putF "spots" (.ref ds) [])) = stF ds da dr := by
  have e1 : ¬ (("spots" : Str) = ("amounts" : Str)) := by decide
  have e2 : ¬ (("spots" : Str) = ("rows" : Str)) := by decide
  have e3 : ¬ (("amounts" : Str) = ("rows" : Str)) := by decide
  simp [putF, stF, e1, e2, e3]
theorem putF_len (f : Str) (v : V) : ∀ fs : List (Str × V), (putF f v fs).length ≤ fs.length + 1
  | [] => Nat.le_refl _
  | (g, x) :: r => by
    have := putF_len f v r
    show (if g = f then (g, v) :: r else (g, x) :: putF f v r).length ≤ r.length + 1 + 1
    split
    · show r.length + 1 ≤ _; omega
    · show (putF f v r).length + 1 ≤ _; omega
def InOk (P N : Al Int) (A : Al Row) : Prop := NmOk P ∧ NmOk N ∧ NmOk A ∧ (∀ p ∈ A, p.2 ≠ [] ∧ (p.2.map (·.1)).Nodup ∧ p.2.length ≤ 4000) ∧ P.length ≤ 100000 ∧ N.length ≤ 100000 ∧ A.length ≤ 100000
def spInit (CS : Addr) : Sp := fun vs H Q _ => ∃ (x dx : Addr) (H0 : Hp) (dP dN dA : Addr) (P N : Al Int) (A : Al Row), vs = [.ref x, .ref dP, .ref dN, .ref dA] ∧ H0 x = none ∧ H0 dx = none ∧ dx ≠ x ∧ H = upd (upd H0 dx (.own x)) x (.ins CS dx []) ∧
  DiI H0 dP P ∧ DiI H0 dN N ∧ DiR H0 dA A ∧ InOk P N A ∧ ∀ H', Same H0 H' → StAt CS H' x P N (rowsOf A) → Q .non H'
theorem inOk_stOk {P N : Al Int} {A : Al Row} (h : InOk P N A) : StOk P N (rowsOf A) := by
  obtain ⟨h1, h2, h3, h4, _⟩ := h
  refine ⟨h1, h2, ⟨rowsOf_asc h3.1, fun p hp => ?_⟩, fun p hp => ?_⟩
  · obtain ⟨r, hr, _⟩ := rowsOf_mem hp
    exact h3.2 (p.1, r) hr
  · obtain ⟨r, hr, e⟩ := rowsOf_mem hp
    obtain ⟨a, b, _⟩ := h4 _ hr
    rw [e]
    exact ⟨leastOf_ne a, leastOf_asc b⟩
section
variable {P : Program} {w : World} {K : PySem.W.Frag} {mg : Str → Option Value} {base : Heap} {CS : Addr}
theorem cl_State (T : Tx K mg CS) (m1 : PySem.W.makesIn K CS = true) (m2 : PySem.W.keepIn K (.ref CS) = true) (hm : mg "State" = some (.ref CS)) (D : Ms K CS "__init__" "State.__init__" S_State_init ["self", "places", "numbers", "arrays"]) (c_is_name : Cl P w K mg base 1 "is_name" spIsName) (c_least_row : Cl P w K mg base 1 "least_row" spLeast) :
    C8.Mak P w K mg base 2 "State" CS (spInit CS) [] := by
  have sc := sc_State_init
  refine mak_mk m1 m2 hm D sc (fun vs H Q E h => ?_) (fun f cdv A outer s H vs Q E hr h => ?_)
  · obtain ⟨_, _, _, _, _, _, _, _, _, rfl, _⟩ := h
    rfl
  · obtain ⟨x, dx, H0, dP, dN, dA, P, N, A, rfl, hx0, hdx0, hdx, rfl, hP0, hN0, hA0, ⟨okP, okNN, okA, okR, zP, zN, zA⟩, k⟩ := h
    refine ⟨_, (pss_cons (ps_for PassesOwn.never rfl (pi_tup (pe_tup (pa_cons (pv 1) (pa_cons (pv 2) pa_nil)))) (pg_name (i := 4) sc.nd rfl (Or.inl rfl))
      (pss_one (ps_for PassesOwn.never rfl (piL K (pe_callB (cr_sortedKeys rfl) (by rfl) T.b_sorted (by decide +kernel) (pa_cons (pv 4) pa_nil))) (pg_name (i := 5) sc.nd rfl (Or.inl rfl))
      (pss_one (ps_if (pt_not (pt_val (pe_c c_is_name hr (by decide) rfl (pa_cons (pv 5) pa_nil))))
      (pss_one ps_never)
      pss_nil)))))
      (pss_cons (ps_set (i := 6) sc.nd rfl (Or.inl rfl) pe_dnewK)
      (pss_cons (ps_for PassesOwn.never rfl (piL K (pe_callB (cr_sortedKeys rfl) (by rfl) T.b_sorted (by decide +kernel) (pa_cons (pv 3) pa_nil))) (pg_name (i := 5) sc.nd rfl (Or.inl rfl))
      (pss_cons (ps_if (pt_not (pt_val (pe_c c_is_name hr (by decide) rfl (pa_cons (pv 5) pa_nil))))
      (pss_one ps_never)
      pss_nil)
      (pss_cons (ps_set (i := 7) sc.nd rfl (Or.inl rfl) (pe_callTy (cLst K) (by rfl) T.b_list (by decide +kernel) (pa_cons (pe_dget (hu_of hr) (pv 3) (pv 5) (fun _ _ => rfl)) pa_nil)))
      (pss_cons (ps_if (pt_cmpR op_lt (pe_callB len_setO (by rfl) T.b_len (by decide +kernel) (pa_cons (pe_scI (own := [("entry", 8)]) rfl sc.nd (piL K (pv 7)) (blkOk_by (own := [("entry", 8)]) (N := ["self", "places", "numbers", "arrays", "names", "name", "rows", "row", "entry"]) (sc := (defScope S_State_init)) (by decide +kernel)) (fun _ _ _ _ _ => (pg_name (i := 8) sc.nd rfl (Or.inl rfl))) (fun _ _ _ _ _ => pts_nil) (fun _ _ _ _ _ => (pe_ix (ixT K) (pv 8) pe_int (fun _ _ => rfl)))) pa_nil)) (pe_callB (call_max2 rfl) (by rfl) T.b_max (by decide +kernel) (pa_cons pe_int (pa_cons (pe_callB (cLen K) (by rfl) T.b_len (by decide +kernel) (pa_cons (pv 7) pa_nil)) pa_nil))) (nomark _))
      (pss_one ps_never)
      pss_nil)
      (pss_one (ps_dput (hu_of hr) (pv 6) (pv 5) (pe_c c_least_row hr (by decide) rfl (pa_cons (pv 7) pa_nil)) rfl))))))
      (pss_cons (ps_fld (pv 0) (pe_callTy call_dictD (by rfl) T.b_dict (by decide +kernel) (pa_cons (pv 1) pa_nil)) rfl)
      (pss_cons (ps_fld (pv 0) (pe_callTy call_dictD (by rfl) T.b_dict (by decide +kernel) (pa_cons (pv 2) pa_nil)) rfl)
      (pss_one (ps_fld (pv 0) (pv 6) rfl))))))), ?_⟩
    have sA : L2.Same H0 (upd (upd H0 dx (.own x)) x (.ins CS dx [])) := Same.mut (Same.new hdx0) hx0
    have hxA : upd (upd H0 dx (.own x)) x (.ins CS dx []) x = some (.ins CS dx []) := upd_same
    obtain ⟨H1, e1⟩ : ∃ H1, H1 = upd (upd H0 dx (.own x)) x (.ins CS dx []) := ⟨_, rfl⟩
    rw [← e1] at sA hxA ⊢
    have hP := hP0.same sA
    have hN := hN0.same sA
    have hA := hA0.same sA
    -- the names of the places and of the numbers
    refine ⟨_, rfl, _, rfl, size_le (by show 2 ≤ _; omega), fun t ht => ?_⟩
    have s2 := Same.new (o := .tup [.ref dP, .ref dN]) ht
    have htt : upd H1 t (.tup [.ref dP, .ref dN]) t = some (.tup [.ref dP, .ref dN]) := upd_same
    obtain ⟨H2, e2⟩ : ∃ H2, H2 = upd H1 t (.tup [.ref dP, .ref dN]) := ⟨_, rfl⟩
    rw [← e2] at s2 htt ⊢
    refine ⟨t, rfl, ⟨_, SqT.of htt⟩, ?_⟩
    refine for_it walk_tup (fun i σ H' => L2.Same H2 H' ∧ ∃ v4 v5 : Option V, σ = [some (.ref x), some (.ref dP), some (.ref dN), some (.ref dA), v4, v5, none, none, none]) ⟨L2.Same.refl _, none, none, rfl⟩ (fun i σ H' _ h => SqT.of (h.1 _ _ htt)) ?_ ?_
    · rintro i y σ H3 H4 hi ⟨s3, v4, v5, rfl⟩ ⟨rfl, hy⟩
      obtain ⟨d, L, rfl, hd, okL⟩ : ∃ (d : Addr) (L : Al Int), y = .ref d ∧ DiI H2 d L ∧ NmOk L := by
        match i, hy with
        | 0, hy => cases hy; exact ⟨dP, P, rfl, hP.same s2, okP⟩
        | 1, hy => cases hy; exact ⟨dN, N, rfl, hN.same s2, okNN⟩
        | i + 2, hy => simp at hy
      refine ⟨_, rfl, d, _, L.map (·.1), rfl, Rd.of (hd.same s3), kvOf_keys _ _, fun ys p hperm _ hp => ?_⟩
      have s4 := Same.new (o := .lst (ys.map V.str)) hp
      have hpl : upd H4 p (.lst (ys.map V.str)) p = some (.lst (ys.map V.str)) := upd_same
      refine ⟨p, rfl, ⟨_, SqL.of hpl⟩, ?_⟩
      refine for_it walk_list (fun j σ H' => H' = upd H4 p (.lst (ys.map V.str)) ∧ ∃ v5 : Option V, σ = [some (.ref x), some (.ref dP), some (.ref dN), some (.ref dA), some (.ref d), v5, none, none, none]) ⟨rfl, _, rfl⟩ (fun j σ H' _ h => by rw [h.1]; exact SqL.of hpl) ?_ ?_
      · rintro j z σ H5 H6 hj ⟨rfl, v5, rfl⟩ ⟨rfl, hz⟩
        obtain ⟨nm, hnm, rfl⟩ := get_map_str hz
        obtain ⟨q, hq, eq⟩ := List.mem_map.mp (hperm.mem_iff.mp (List.mem_of_getElem? hnm))
        have hon : okN nm := eq ▸ okL.2 q hq
        have hl6 := (okNm_iff.mp hon).2.1
        rw [← str_len] at hl6
        have e : okNm (tl nm) = true := hon
        refine ⟨_, rfl, nm, rfl, by omega, true, by rw [e], ?_⟩
        exact iteF ⟨rfl, _, rfl⟩
      · rintro σ H5 ⟨rfl, v5, rfl⟩
        exact ⟨s3.trans s4, _, _, rfl⟩
    rintro σ H3 ⟨s3, v4, v5, rfl⟩
    have s4 := s2.trans s3
    -- the rows
    refine fun rw' hrw => ?_
    have s5 := Same.new (o := .dK []) hrw
    have hrw0 : upd H3 rw' (.dK []) rw' = some (.dK []) := upd_same
    have hA3 := (hA.same s4).same s5
    have s6 := s4.trans s5
    obtain ⟨H4, e4⟩ : ∃ H4, H4 = upd H3 rw' (.dK []) := ⟨_, rfl⟩
    rw [← e4] at s5 hrw0 hA3 s6 ⊢
    obtain ⟨rs, ha1, ha2⟩ := hA3
    refine ⟨_, rfl, dA, _, A.map (·.1), rfl, Rd.of ha1, by rw [kvOf_keys, rws_keys ha2], fun ys p hperm hsrt hp => ?_⟩
    have eys := sorted_keys okA.1 hperm hsrt
    have hrk := rws_keys ha2
    have hrn : (rs.map (·.1)).Nodup := by rw [hrk]; exact okA.1
    have s7 := Same.new (o := .lst (ys.map V.str)) hp
    have hpl : upd H4 p (.lst (ys.map V.str)) p = some (.lst (ys.map V.str)) := upd_same
    obtain ⟨H5, e5⟩ : ∃ H5, H5 = upd H4 p (.lst (ys.map V.str)) := ⟨_, rfl⟩
    rw [← e5] at s7 hpl ⊢
    have npr : p ≠ rw' := fun e => by rw [e, hrw0] at hp; cases hp
    have hpH3 : H3 p = none := s5.free hp
    refine ⟨p, rfl, ⟨_, SqL.of hpl⟩, ?_⟩
    refine for_it walk_list (fun i σ H' => L2.Same H3 H' ∧ H' p = some (.lst (ys.map V.str)) ∧ ∃ v5 v7 v8 : Option V, σ = [some (.ref x), some (.ref dP), some (.ref dN), some (.ref dA), v4, v5, some (.ref rw'), v7, v8] ∧ DiR H' rw' ((rowsOf A).take i))
      ⟨s5.trans s7, hpl, v5, none, none, rfl, [], s7 _ _ hrw0, .nil⟩ (fun i σ H' _ h => SqL.of h.2.1) ?_ ?_
    · rintro i y σ H6 H7 hi ⟨s8, hp6, v5, v7, v8, rfl, qs, hq1, hq2⟩ ⟨rfl, hy⟩
      obtain ⟨nm, hnm, rfl⟩ := get_map_str hy
      rw [eys, List.getElem?_map] at hnm
      obtain ⟨q, hq, eq⟩ := Option.map_eq_some_iff.mp hnm
      subst eq
      have hqA : q ∈ A := (sortK_perm A).mem_iff.mp (List.mem_of_getElem? hq)
      have hon : okN q.1 := okA.2 q hqA
      have hl6 := (okNm_iff.mp hon).2.1
      rw [← str_len] at hl6
      have e : okNm (tl q.1) = true := hon
      obtain ⟨r1, r2, r3⟩ := okR q hqA
      obtain ⟨rs', ha1', ha2'⟩ := (hA.same s4).same s8
      obtain ⟨b, hb, hrow⟩ := rws_look ha2' (lookS_of okA.1 (show (q.1, q.2) ∈ A from hqA))
      have get : DGet H7 dA (.str q.1) (some (.ref b)) := by
        have := DGet.k (k := .inr q.1) ha1'
        rw [valV_of, hb] at this
        exact this
      obtain ⟨ts, ht1, ht2⟩ := hrow
      have htl := paired_len ht2
      refine ⟨_, rfl, q.1, rfl, by omega, true, by rw [e], iteF ?_⟩
      -- row = list(arrays[name])
      refine ⟨_, rfl, _, rfl, dA, _, rfl, get, b, _, rfl, .inl (SqL.of ht1), fun l hl => ?_⟩
      have s9 := Same.new (o := .lst (ts.map V.ref)) hl
      have hll : upd H7 l (.lst (ts.map V.ref)) l = some (.lst (ts.map V.ref)) := upd_same
      have ht2' := prs_same s9 ht2
      obtain ⟨H8, e8⟩ : ∃ H8, H8 = upd H7 l (.lst (ts.map V.ref)) := ⟨_, rfl⟩
      rw [← e8] at s9 hll ht2' ⊢
      refine ⟨_, rfl, l, rfl, ⟨_, SqL.of hll⟩, fun D hD => sc_grow walk_list hD (by rw [List.length_map]; omega) (fun H' s => SqL.of (s _ _ hll)) (q.2.map (·.1)) (by rw [List.length_map, List.length_map]; omega) ?_ ?_⟩
      · rintro j v H9 H10 N1 pk hj hpk s10 k1 ⟨rfl, hv⟩
        obtain ⟨u, hu, rfl⟩ := get_map_ref hv
        obtain ⟨e', he', hue⟩ := paired_get ht2' hu
        rw [List.getElem?_map, he'] at hpk
        cases hpk
        exact ⟨rfl, _, rfl, u, _, 0, _, rfl, rfl, SqT.of (hue.same s10), atI_get (i := 0) rfl, k1 _ (L2.Same.refl _)⟩
      · rintro S m H9 s10 hS hml hmn
        have hm2 := hmn.mpr r2
        rw [List.length_map] at hm2
        have hlen := List.length_pos_iff.mpr r1
        refine ⟨D, S, m, rfl, hS, _, rfl, l, _, rfl, .inl (SqL.of (s10 _ _ hll)), _, _, rfl, _, _, rfl, rfl, _, rfl, ite_f (decide_eq_false ?_) ?_⟩
        · rw [List.length_map, hm2]
          split <;> omega
        · have s11 := s9.trans s10
          have s12 := s8.trans s11
          have hz : (kvOf V.ref qs).length < sizeLine := by
            rw [kvOf_len, paired_len hq2, List.length_take]
            have e1 := (sortK_perm A).length_eq
            have e2 : (rowsOf A).length = A.length := by unfold rowsOf; rw [List.length_map]; omega
            exact size_lt (by omega)
          refine ⟨_, rfl, l, q.2, rfl, ⟨ts, s10 _ _ hll, prs_same s10 ht2'⟩, r1, r2, by omega, fun g H11 s13 hg hgr => ?_⟩
          have s14 := s11.trans s13
          refine ⟨_, rfl, _, rfl, rw', _, rfl, DPut.k (k := .inr q.1) (s14 _ _ hq1) hz, ?_⟩
          refine ⟨Same.mut (s8.trans s14) hrw, ?_, _, _, _, rfl, ?_⟩
          · rw [upd_ne npr]
            exact s14 _ _ hp6
          · have := DiR.put (s14 _ _ hq1) (rws_same s14 hq2) (k := q.1) hgr
            have hri : (rowsOf A)[i]? = some (q.1, leastOf q.2) := by unfold rowsOf; rw [List.getElem?_map, hq]; rfl
            rw [putS_new] at this
            · rw [take_succ_get hri]
              exact this
            · exact nodup_at (q := (q.1, leastOf q.2)) (rowsOf_asc okA.1).nodup hri
    · rintro σ H6 ⟨s8, hp6, v5, v7, v8, rfl, hR⟩
      have hyl : ys.length = A.length := by rw [hperm.length_eq, List.length_map]
      have hRl : (rowsOf A).length = A.length := by unfold rowsOf; rw [List.length_map]; exact (sortK_perm A).length_eq
      rw [List.take_of_length_le (by rw [List.length_map]; omega)] at hR
      have s9 := s4.trans s8
      have hx6 := s9 _ _ hxA
      have sH6 := sA.trans s9
      have hP6 := hP.same s9
      have hN6 := hN.same s9
      -- self.spots = dict(places)
      refine ⟨_, rfl, dP, _, rfl, Rd.of hP6, fun b1 hb1 => ?_⟩
      have nb1 : x ≠ b1 := ne_of_none hx6 hb1
      refine ⟨_, rfl, x, CS, dx, [], rfl, by rw [upd_ne nb1]; exact hx6, T.cl, T.nSp, (by show 0 < 1000; decide), ?_⟩
      have t1 := Same.step (o := .dK (kvOf V.int P)) sH6 hb1
      have t2 := Same.mut (o := .ins CS dx (putF "spots" (.ref b1) [])) t1 hx0
      have nNx : dN ≠ x := ne_of hN6 hx6 (by intro z; cases z)
      have nNb : dN ≠ b1 := ne_of_none hN6 hb1
      refine ⟨_, rfl, dN, kvOf V.int N, rfl, Rd.of (by rw [upd_ne nNx, upd_ne nNb]; exact hN6), fun b2 hb2 => ?_⟩
      have nb2 : x ≠ b2 := ne_of_none upd_same hb2
      have nb21 : b1 ≠ b2 := by
        intro e
        rw [← e, upd_ne nb1.symm, upd_same] at hb2
        cases hb2
      refine ⟨_, rfl, x, CS, dx, _, rfl, by rw [upd_ne nb2]; exact upd_same, T.cl, T.nAm, Nat.lt_of_le_of_lt (putF_len _ _ _) (by decide), ?_⟩
      have t3 := Same.step (o := .dK (kvOf V.int N)) t2 hb2
      have t4 := Same.mut (o := .ins CS dx (putF "amounts" (.ref b2) (putF "spots" (.ref b1) []))) t3 hx0
      refine ⟨_, rfl, _, rfl, x, CS, dx, _, rfl, upd_same, T.cl, T.nRo, Nat.lt_of_le_of_lt (putF_len _ _ _) (Nat.lt_of_le_of_lt (Nat.succ_le_succ (putF_len _ _ _)) (by decide)), ?_⟩
      have t5 := Same.mut (o := .ins CS dx (putF "rows" (.ref rw') (putF "amounts" (.ref b2) (putF "spots" (.ref b1) [])))) t4 hx0
      refine k _ t5 ⟨dx, b1, b2, rw', ?_, ?_, ?_, ?_⟩
      · rw [upd_same, stF_put]
      · show upd _ _ _ b1 = _
        rw [upd_ne nb1.symm, upd_ne nb1.symm, upd_ne nb21, upd_ne nb1.symm, upd_same]
      · show upd _ _ _ b2 = _
        rw [upd_ne nb2.symm, upd_ne nb2.symm, upd_same]
      · refine hR.keepI (d := x) (fun a o hne h => ?_) hx6
        have h1 : a ≠ b1 := ne_of_none h hb1
        have h2 : a ≠ b2 := by
          intro e
          rw [← e, upd_ne hne, upd_ne h1, h] at hb2
          cases hb2
        rw [upd_ne hne, upd_ne hne, upd_ne h2, upd_ne hne, upd_ne h1]
        exact h
end
end A80
end
section
set_option Elab.async false
set_option maxRecDepth 100000
set_option maxHeartbeats 4000000
set_option autoImplicit false
namespace A80
open PySem PySem.Spec L2 PyProof.Rows TL
/-! ### properties and small methods -/
abbrev S_State_places : Stmt := inClass (topS 12) 1
theorem sc_State_places : FnScope ["self"] ["self"] (defScope S_State_places) := ⟨rfl, rfl, rfl, by decide +kernel, rfl, by decide +kernel, by decide +kernel⟩
abbrev S_State_numbers : Stmt := inClass (topS 12) 2
theorem sc_State_numbers : FnScope ["self"] ["self"] (defScope S_State_numbers) := ⟨rfl, rfl, rfl, by decide +kernel, rfl, by decide +kernel, by decide +kernel⟩
abbrev S_State_arrays : Stmt := inClass (topS 12) 3
theorem sc_State_arrays : FnScope ["self", "name"] ["self"] (defScope S_State_arrays) := ⟨rfl, rfl, rfl, by decide +kernel, rfl, by decide +kernel, by decide +kernel⟩
abbrev S_State_place_of : Stmt := inClass (topS 12) 4
theorem sc_State_place_of : FnScope ["self", "term", "name", "k"] ["self", "term"] (defScope S_State_place_of) := ⟨rfl, rfl, rfl, by decide +kernel, rfl, by decide +kernel, by decide +kernel⟩
abbrev S_State_value_of : Stmt := inClass (topS 12) 5
theorem sc_State_value_of : FnScope ["self", "term", "array", "place", "k", "name"] ["self", "term"] (defScope S_State_value_of) := ⟨rfl, rfl, rfl, by decide +kernel, rfl, by decide +kernel, by decide +kernel⟩
abbrev S_State_len : Stmt := inClass (topS 12) 7
theorem sc_State_len : FnScope ["self"] ["self"] (defScope S_State_len) := ⟨rfl, rfl, rfl, by decide +kernel, rfl, by decide +kernel, by decide +kernel⟩
abbrev S_State_eq : Stmt := inClass (topS 12) 8
theorem sc_State_eq : FnScope ["self", "other"] ["self", "other"] (defScope S_State_eq) := ⟨rfl, rfl, rfl, by decide +kernel, rfl, by decide +kernel, by decide +kernel⟩
theorem stF_no (ds da dr : Addr) (f : Str) (h1 : (f == ("spots" : Str)) = false := by decide) (h2 : (f == ("amounts" : Str)) = false := by decide) (h3 : (f == ("rows" : Str)) = false := by decide) : (stF ds da dr).lookup f = none := by
  show List.lookup f [_, _, _] = none
  rw [List.lookup_cons, h1]
  show List.lookup f [_, _] = none
  rw [List.lookup_cons, h2]
  show List.lookup f [_] = none
  rw [List.lookup_cons, h3]
  rfl
def spPlaces (CS : Addr) : Sp := fun vs H Q _ => ∃ (p : Addr) (P N : Al Int) (A : Al Row), vs = [.ref p] ∧ StAt CS H p P N A ∧ ∀ d H', Same H H' → H d = none → DiI H' d P → Q (.ref d) H'
def spNumbers (CS : Addr) : Sp := fun vs H Q _ => ∃ (p : Addr) (P N : Al Int) (A : Al Row), vs = [.ref p] ∧ StAt CS H p P N A ∧ ∀ d H', Same H H' → H d = none → DiI H' d N → Q (.ref d) H'
/-- a dict of rows, all of it new -/
def DiRF (H H' : Hp) (d : Addr) (A : Al Row) : Prop := ∃ rs : Al Addr, H' d = some (.dK (kvOf V.ref rs)) ∧ Paired (fun a b => a.1 = b.1 ∧ RowAt H' a.2 b.2) rs A ∧ (∀ b ∈ rs, H b.2 = none) ∧ (rs.map (·.2)).Nodup
theorem DiRF.r {H H' : Hp} {d : Addr} {A : Al Row} (h : DiRF H H' d A) : DiR H' d A := by
  obtain ⟨rs, h1, h2, _⟩ := h
  exact ⟨rs, h1, h2⟩
def spArrays (CS : Addr) : Sp := fun vs H Q _ => ∃ (p : Addr) (P N : Al Int) (A : Al Row), vs = [.ref p] ∧ StAt CS H p P N A ∧ (A.map (·.1)).Nodup ∧ A.length ≤ 100000 ∧ ∀ d H', Same H H' → H d = none → DiRF H H' d A → Q (.ref d) H'
def spPlaceOf (CS : Addr) : Sp := fun vs H Q _ => ∃ (p u : Addr) (nm : Str) (k : Int) (P N : Al Int) (A : Al Row), vs = [.ref p, .ref u] ∧ StAt CS H p P N A ∧ H u = some (.tup [.str nm, .int k]) ∧ ((tl nm = [] ∧ Q (.int k) H) ∨ ∃ v, tl nm ≠ [] ∧ lookS P nm = some v ∧ Q (.int (v + k)) H)
def spValueOf (CS : Addr) : Sp := fun vs H Q _ => ∃ (p t u : Addr) (nm : Str) (q k : Int) (P N : Al Int) (A : Al Row) (row : Row), vs = [.ref p, .ref t] ∧ StAt CS H p P N A ∧ H t = some (.tup [.str nm, .ref u, .int k]) ∧ H u = some (.tup [.str Str.empty, .int q]) ∧ lookS A nm = some row ∧ row ≠ [] ∧ Q (.int (cellAt row q + k)) H
def spLen (CS : Addr) : Sp := fun vs H Q _ => ∃ (p : Addr) (P N : Al Int) (A : Al Row), vs = [.ref p] ∧ StAt CS H p P N A ∧ P.length + N.length + A.length ≤ 100000 ∧ ∀ H', Same H H' → Q (.int ((P.length + N.length + A.length : Nat) : Int)) H'
def SamM (P P' : Al Int) : Prop := P.length = P'.length ∧ ∀ p ∈ P, lookS P' p.1 = some p.2
def EqR80 (CS : Addr) (a b : Addr) (H : Hp) : Prop := ∃ (P N P' N' : Al Int) (A : Al Row), StAt CS H a P N A ∧ StAt CS H b P' N' A ∧ SamM P P' ∧ SamM N N' ∧ (A.map (·.1)).Nodup
section
variable {P : Program} {w : World} {K : PySem.W.Frag} {mg : Str → Option Value} {base : Heap} {CS : Addr}
theorem cl_places (T : Tx K mg CS) (D : Ps K CS "places" "State.places" S_State_places) : Prp P w K mg base 1 CS "places" (spPlaces CS) := by
  have sc := sc_State_places
  refine prp_mk T.cl D sc (fun vs H Q E h => ?_) (fun f cdv A outer s H vs Q E hr h => ?_)
  · obtain ⟨p, P, N, A, rfl, _⟩ := h
    rfl
  · obtain ⟨p, P, N, A, rfl, ⟨dx, ds, da, dr, hs⟩, k⟩ := h
    refine ⟨_, (pss_one (ps_ret (pe_callTy call_dictD (by rfl) T.b_dict (by decide +kernel) (pa_cons (peF K (pv 0) rfl) pa_nil)))), ?_⟩
    refine ⟨_, rfl, p, CS, dx, _, _, rfl, hs.at_, T.cl, T.nSp, stF_s _ _ _, ds, _, rfl, Rd.of hs.s, fun d hd => ?_⟩
    exact k d _ (Same.new hd) hd upd_same
theorem cl_numbers (T : Tx K mg CS) (D : Ps K CS "numbers" "State.numbers" S_State_numbers) : Prp P w K mg base 1 CS "numbers" (spNumbers CS) := by
  have sc := sc_State_numbers
  refine prp_mk T.cl D sc (fun vs H Q E h => ?_) (fun f cdv A outer s H vs Q E hr h => ?_)
  · obtain ⟨p, P, N, A, rfl, _⟩ := h
    rfl
  · obtain ⟨p, P, N, A, rfl, ⟨dx, ds, da, dr, hs⟩, k⟩ := h
    refine ⟨_, (pss_one (ps_ret (pe_callTy call_dictD (by rfl) T.b_dict (by decide +kernel) (pa_cons (peF K (pv 0) rfl) pa_nil)))), ?_⟩
    refine ⟨_, rfl, p, CS, dx, _, _, rfl, hs.at_, T.cl, T.nAm, stF_a _ _ _, da, _, rfl, Rd.of hs.a, fun d hd => ?_⟩
    exact k d _ (Same.new hd) hd upd_same
theorem cl_place_of (T : Tx K mg CS) (D : Ms K CS "place_of" "State.place_of" S_State_place_of ["self", "term"]) : C8.Met P w K mg base 1 CS "place_of" (spPlaceOf CS) [] := by
  have sc := sc_State_place_of
  refine met_mk T.cl D sc (fun vs H Q E h => ?_) (fun f cdv A outer s H vs Q E hr h => ?_)
  · obtain ⟨p, u, nm, k, P, N, A, rfl, _⟩ := h
    rfl
  · obtain ⟨p, u, nm, i, P, N, A, rfl, ⟨dx, ds, da, dr, hs⟩, hu, k⟩ := h
    refine ⟨_, (pss_cons (ps_asg (pv 1) (pgT K (n := 2) rfl (pgs_cons (pg_name (i := 2) sc.nd rfl (Or.inl rfl)) (pgs_cons (pg_name (i := 3) sc.nd rfl (Or.inl rfl)) pgs_nil))))
      (pss_cons (ps_if (pt_cmpR op_eq (pv 2) pe_str (nomark _))
      (pss_one (ps_ret (pv 3)))
      pss_nil)
      (pss_cons (ps_if (pt_cmp (pc_dnotin (hu_of hr) (pv 2) (peF K (pv 0) rfl)))
      (pss_one ps_never)
      pss_nil)
      (pss_one (ps_ret (pe_op op_add (pe_dget (hu_of hr) (peF K (pv 0) rfl) (pv 2) (fun _ _ => rfl)) (pv 3))))))), ?_⟩
    refine ⟨_, rfl, u, _, rfl, SqT.of hu, rfl, _, _, rfl, _, _, rfl, rfl, ?_⟩
    refine ⟨_, rfl, rfl, _, rfl, ite_b (fun c => ?_) (fun c => ?_)⟩
    · have e := str_eq.mp (of_decide_eq_true c)
      rcases k with ⟨_, k⟩ | ⟨v, h1, _⟩
      · exact ⟨_, rfl, k⟩
      · exact absurd e h1
    · have e : tl nm ≠ [] := fun z => of_decide_eq_false c (str_eq.mpr z)
      rcases k with ⟨h1, _⟩ | ⟨v, h1, h2, k⟩
      · exact absurd h1 e
      · have g : DGet H ds (.str nm) (some (.int v)) := by
          have := DGet.k (k := .inr nm) hs.s
          rw [valV_of, h2] at this
          exact this
        refine ⟨_, rfl, _, rfl, p, CS, dx, _, _, rfl, hs.at_, T.cl, T.nSp, stF_s _ _ _, ds, _, rfl, g, _, rfl, ite_f rfl ?_⟩
        exact ⟨_, rfl, p, CS, dx, _, _, rfl, hs.at_, T.cl, T.nSp, stF_s _ _ _, _, rfl, ds, _, rfl, g, _, rfl, _, _, rfl, rfl, k⟩
theorem cl_value_of (T : Tx K mg CS) (D : Ms K CS "value_of" "State.value_of" S_State_value_of ["self", "term"]) (c_cell_at : Cl P w K mg base 1 "cell_at" spCellAt) (c_place_of : C8.Met P w K mg base 1 CS "place_of" (spPlaceOf CS) []) :
    C8.Met P w K mg base 2 CS "value_of" (spValueOf CS) [] := by
  have sc := sc_State_value_of
  refine met_mk T.cl D sc (fun vs H Q E h => ?_) (fun f cdv A outer s H vs Q E hr h => ?_)
  · obtain ⟨p, t, u, nm, q, k, P, N, A, row, rfl, _⟩ := h
    rfl
  · obtain ⟨p, t, u, nm, q, i, P, N, A, row, rfl, hst, ht, hu, hl, hne, k⟩ := h
    obtain ⟨dx, ds, da, dr, hs⟩ := id hst
    obtain ⟨rs, hr1, hr2⟩ := hs.r
    obtain ⟨b, hb, hbr⟩ := rws_look hr2 hl
    have g : DGet H dr (.str nm) (some (.ref b)) := by
      have := DGet.k (k := .inr nm) hr1
      rw [valV_of, hb] at this
      exact this
    refine ⟨_, (pss_cons (ps_if (pt_cmpR op_eq (pe_callB (cLen K) (by rfl) T.b_len (by decide +kernel) (pa_cons (pv 1) pa_nil)) pe_int (nomark _))
      (pss_cons (ps_asg (pv 1) (pgT K (n := 3) rfl (pgs_cons (pg_name (i := 2) sc.nd rfl (Or.inl rfl)) (pgs_cons (pg_name (i := 3) sc.nd rfl (Or.inl rfl)) (pgs_cons (pg_name (i := 4) sc.nd rfl (Or.inl rfl)) pgs_nil)))))
      (pss_cons (ps_if (pt_cmp (pc_dnotin (hu_of hr) (pv 2) (peF K (pv 0) rfl)))
      (pss_one ps_never)
      pss_nil)
      (pss_one (ps_ret (pe_op op_add (pe_c c_cell_at hr (by decide) rfl (pa_cons (pe_dget (hu_of hr) (peF K (pv 0) rfl) (pv 2) (fun _ _ => rfl)) (pa_cons (C8.pe_mt c_place_of hr (by decide) (pv 0) (pa_cons (pv 3) pa_nil)) pa_nil))) (pv 4))))))
      pss_nil)
      (pss_cons (ps_asg (pv 1) (pgT K (n := 2) rfl (pgs_cons (pg_name (i := 5) sc.nd rfl (Or.inl rfl)) (pgs_cons (pg_name (i := 4) sc.nd rfl (Or.inl rfl)) pgs_nil))))
      (pss_cons (ps_if (pt_cmpR op_eq (pv 5) pe_str (nomark _))
      (pss_one (ps_ret (pv 4)))
      pss_nil)
      (pss_cons (ps_if (pt_cmp (pc_dnotin (hu_of hr) (pv 5) (peF K (pv 0) rfl)))
      (pss_one ps_never)
      pss_nil)
      (pss_one (ps_ret (pe_op op_add (pe_dget (hu_of hr) (peF K (pv 0) rfl) (pv 5) (fun _ _ => rfl)) (pv 4)))))))), ?_⟩
    refine ⟨_, rfl, t, _, rfl, .inr (SqT.of ht), rfl, _, rfl, ite_t rfl ?_⟩
    refine ⟨_, rfl, t, _, rfl, SqT.of ht, rfl, _, _, rfl, _, _, rfl, _, _, rfl, rfl, ?_⟩
    refine ⟨_, rfl, _, rfl, p, CS, dx, _, _, rfl, hs.at_, T.cl, T.nRo, stF_r _ _ _, dr, _, rfl, g, _, rfl, ite_f rfl ?_⟩
    refine ⟨_, rfl, p, CS, dx, _, _, rfl, hs.at_, T.cl, T.nRo, stF_r _ _ _, _, rfl, dr, _, rfl, g, _, rfl, p, dx, _, rfl, hs.at_, stF_no _ _ _ _, _, rfl, p, u, Str.empty, q, P, N, A, rfl, hst, hu, .inl ⟨rfl, ?_⟩⟩
    exact ⟨b, row, q, rfl, hbr, hne, _, rfl, _, _, rfl, rfl, k⟩
theorem cl_len (T : Tx K mg CS) (D : Ms K CS "__len__" "State.__len__" S_State_len ["self"]) : C8.Met P w K mg base 1 CS "__len__" (spLen CS) [] := by
  have sc := sc_State_len
  refine met_mk T.cl D sc (fun vs H Q E h => ?_) (fun f cdv A outer s H vs Q E hr h => ?_)
  · obtain ⟨p, P, N, A, rfl, _⟩ := h
    rfl
  · obtain ⟨p, P, N, A, rfl, ⟨dx, ds, da, dr, hs⟩, hz, k⟩ := h
    refine ⟨_, (pss_one (ps_ret (pe_callB (cLen K) (by rfl) T.b_len (by decide +kernel) (pa_cons (pe_op op_cat (pe_op op_cat (pe_callTy (call_listD rfl) (by rfl) T.b_list (by decide +kernel) (pa_cons (peF K (pv 0) rfl) pa_nil)) (pe_callTy (call_listD rfl) (by rfl) T.b_list (by decide +kernel) (pa_cons (peF K (pv 0) rfl) pa_nil))) (pe_callTy (call_listD rfl) (by rfl) T.b_list (by decide +kernel) (pa_cons (peF K (pv 0) rfl) pa_nil))) pa_nil)))), ?_⟩
    obtain ⟨rs, hr1, hr2⟩ := hs.r
    refine ⟨_, rfl, p, CS, dx, _, _, rfl, hs.at_, T.cl, T.nSp, stF_s _ _ _, ds, _, rfl, Rd.of hs.s, fun b1 hb1 => ?_⟩
    have s1 := Same.new (o := .lst ((kvOf V.int P).map fun kv => kV kv.1)) hb1
    refine ⟨_, rfl, p, CS, dx, _, _, rfl, s1 _ _ hs.at_, T.cl, T.nAm, stF_a _ _ _, da, _, rfl, Rd.of (s1 _ _ hs.a), fun b2 hb2 => ?_⟩
    have s2 := Same.new (o := .lst ((kvOf V.int N).map fun kv => kV kv.1)) hb2
    refine ⟨b1, b2, _, _, rfl, rfl, s2 _ _ upd_same, upd_same, by rw [List.length_map, List.length_map, kvOf_len, kvOf_len]; exact size_le (by omega), fun b3 hb3 => ?_⟩
    have s3 := Same.new (o := .lst ((kvOf V.int P).map (fun kv => kV kv.1) ++ (kvOf V.int N).map fun kv => kV kv.1)) hb3
    have s23 := s1.trans (s2.trans s3)
    refine ⟨_, rfl, p, CS, dx, _, _, rfl, s23 _ _ hs.at_, T.cl, T.nRo, stF_r _ _ _, dr, _, rfl, Rd.of (s23 _ _ hr1), fun b4 hb4 => ?_⟩
    have s4 := Same.new (o := .lst ((kvOf V.ref rs).map fun kv => kV kv.1)) hb4
    refine ⟨b3, b4, _, _, rfl, rfl, s4 _ _ upd_same, upd_same, by rw [List.length_append, List.length_map, List.length_map, List.length_map, kvOf_len, kvOf_len, kvOf_len, paired_len hr2]; exact size_le (by omega), fun b5 hb5 => ?_⟩
    refine ⟨b5, _, rfl, .inl (SqL.of upd_same), ?_⟩
    have s5 := Same.new (o := .lst (((kvOf V.int P).map (fun kv => kV kv.1) ++ (kvOf V.int N).map fun kv => kV kv.1) ++ (kvOf V.ref rs).map fun kv => kV kv.1)) hb5
    have e : (((kvOf V.int P).map (fun kv => kV kv.1) ++ (kvOf V.int N).map fun kv => kV kv.1) ++ (kvOf V.ref rs).map fun kv => kV kv.1).length = P.length + N.length + A.length := by
      rw [List.length_append, List.length_append, List.length_map, List.length_map, List.length_map, kvOf_len, kvOf_len, kvOf_len, paired_len hr2]
    have kk := k _ (s23.trans (s4.trans s5))
    rw [← e] at kk
    exact kk
theorem cl_eq (T : Tx K mg CS) (iC : C8.InsC K CS) (D : Ms K CS "__eq__" "State.__eq__" S_State_eq ["self", "other"]) : C8.Met P w K mg base 1 CS "__eq__" (spEq (EqR80 CS)) [] := by
  have sc := sc_State_eq
  refine met_mk T.cl D sc (fun vs H Q E h => ?_) (fun f cdv A outer s H vs Q E hr h => ?_)
  · obtain ⟨a, b, rfl, _⟩ := h
    rfl
  · obtain ⟨a, b, rfl, ⟨P, N, P', N', A, ⟨dx, ds, da, dr, hs⟩, ⟨dx', ds', da', dr', hs'⟩, ⟨lP, mP⟩, ⟨lN, mN⟩, hn⟩, k⟩ := h
    refine ⟨_, (pss_cons (ps_if (pt_not (pt_val (pe_callB (C8.call_isC iC) (by rfl) T.b_isinstance (by decide +kernel) (pa_cons (pv 1) (pa_cons (pe_gc rfl T.gState) pa_nil)))))
      (pss_one (ps_ret pe_bl))
      pss_nil)
      (pss_one (ps_ret (pe_and (pe_cmpR (op_eq_dictA hr.units0) (peF K (pv 0) rfl) (peF K (pv 1) rfl) (nomark _)) (pe_and (pe_cmpR (op_eq_dictA hr.units0) (peF K (pv 0) rfl) (peF K (pv 1) rfl) (nomark _)) (pe_one (pe_cmpR (op_eqRows hr.units) (peF K (pv 0) rfl) (peF K (pv 1) rfl) (nomark _)))))))), ?_⟩
    have flat : ∀ {P P' : Al Int}, (∀ p ∈ P, lookS P' p.1 = some p.2) → ∀ p ∈ kvOf V.int P, valV (kvOf V.int P') p.1 = some p.2 ∧ flatB p.2 = true := fun {P P'} m p hp => by
      obtain ⟨q, hq, rfl⟩ := List.mem_map.mp hp
      refine ⟨?_, rfl⟩
      show valV (kvOf V.int P') (.inr q.1) = some (.int q.2)
      rw [valV_of, m q hq]
      rfl
    refine ⟨_, rfl, b, dx', _, rfl, hs'.at_, _, rfl, ite_f rfl ?_⟩
    refine ⟨_, rfl, a, CS, dx, _, _, rfl, hs.at_, T.cl, T.nSp, stF_s _ _ _, _, rfl, b, CS, dx', _, _, rfl, hs'.at_, T.cl, T.nSp, stF_s _ _ _, ds, ds', _, _, rfl, rfl, hs.s, hs'.s, by rw [kvOf_len, kvOf_len]; exact lP, flat mP, true, rfl, ?_⟩
    refine ⟨_, rfl, a, CS, dx, _, _, rfl, hs.at_, T.cl, T.nAm, stF_a _ _ _, _, rfl, b, CS, dx', _, _, rfl, hs'.at_, T.cl, T.nAm, stF_a _ _ _, da, da', _, _, rfl, rfl, hs.a, hs'.a, by rw [kvOf_len, kvOf_len]; exact lN, flat mN, true, rfl, ?_⟩
    exact ⟨_, rfl, a, CS, dx, _, _, rfl, hs.at_, T.cl, T.nRo, stF_r _ _ _, _, rfl, b, CS, dx', _, _, rfl, hs'.at_, T.cl, T.nRo, stF_r _ _ _, dr, dr', A, rfl, rfl, hs.r, hs'.r, hn, k _ (fun _ _ h => h)⟩
end
end A80
end
section
set_option Elab.async false
set_option maxRecDepth 100000
set_option maxHeartbeats 4000000
set_option autoImplicit false
namespace A80
open PySem PySem.Spec L2 PyProof.Rows TL
/-! ### State.arrays -/
theorem dc_grow {J : It} {n : Nat} {G : Hp → Prop} {Y : Nat → Hp → V → Hp → Prop} (wk : Walk J n G Y) {g : TG} {tt : TT} {tk tv : TE} {vs : List Nat} {σ : L2.St} {H1 : Hp} {D : Addr} {Qd : Hp → Prop} (Pv : Nat → Hp → Prop) (h0 : Pv 0 (upd H1 D (.dK [])))
    (hG : ∀ i H, i ≤ n → Pv i H → G H)
    (hs : ∀ i x H H', i < n → Pv i H → Y i H x H' → g x (wipe σ vs) H' fun σ2 H2 => wipe σ2 vs = wipe σ vs ∧ tt σ2 H2 fun b H3 =>
      if b = true then tk σ2 H3 fun y H4 => tv σ2 H4 fun z H5 => ∃ kvs k, y = kV k ∧ H5 D = some (.dK kvs) ∧ kvs.length < sizeLine ∧ Pv (i + 1) (upd H5 D (.dK (putK kvs k z))) else Pv (i + 1) H3) (hd : ∀ H, Pv n H → Qd H) :
    ∃ W : Nat → Nat → Hp → Prop, (∃ m, W 0 m (upd H1 D (.dK []))) ∧ ∀ i m H, W i m H →
      (J.stop i H ∧ Qd H) ∨ (J.go i H ∧ ∃ Nx : Hp → Prop, (∀ H', Nx H' → ∃ m', m' < m ∧ W (i + 1) m' H') ∧ ∀ x H', J.yld i H x H' → g x (wipe σ vs) H' fun σ2 H2 => wipe σ2 vs = wipe σ vs ∧ tt σ2 H2 fun b H3 =>
        if b = true then tk σ2 H3 fun y H4 => tv σ2 H4 fun z H5 => ∃ kvs k, y = kV k ∧ H5 D = some (.dK kvs) ∧ kvs.length < sizeLine ∧ Nx (upd H5 D (.dK (putK kvs k z))) else Nx H3) := by
  refine ⟨fun i m H => m = n - i ∧ i ≤ n ∧ Pv i H, ⟨n, by simp, Nat.zero_le _, h0⟩, ?_⟩
  rintro i m H ⟨rfl, hi, p⟩
  have q := hG i H hi p
  by_cases hlt : i < n
  · exact .inr ⟨wk.goes i H hlt q, Pv (i + 1), fun H' p' => ⟨n - (i + 1), by omega, rfl, hlt, p'⟩, fun x H' y => hs i x H H' hlt p (wk.yields i H x H' hlt q y)⟩
  · have e : i = n := by omega
    subst e
    exact .inl ⟨wk.stops H q, hd H p⟩
section
variable {P : Program} {w : World} {K : PySem.W.Frag} {mg : Str → Option Value} {base : Heap} {CS : Addr}
theorem cl_arrays (T : Tx K mg CS) (D : Ps K CS "arrays" "State.arrays" S_State_arrays) : Prp P w K mg base 1 CS "arrays" (spArrays CS) := by
  have sc := sc_State_arrays
  refine prp_mk T.cl D sc (fun vs H Q E h => ?_) (fun f cdv A outer s H vs Q E hr h => ?_)
  · obtain ⟨p, P, N, A, rfl, _⟩ := h
    rfl
  · obtain ⟨p, P, N, A, rfl, ⟨dx, ds, da, dr, hs⟩, hn, hz, k⟩ := h
    refine ⟨_, (pss_one (ps_ret (pe_lock (pe_dc (own := [("name", 1)]) rfl sc.nd (pi_keys (peF K (pv 0) rfl)) (blkOk_by (own := [("name", 1)]) (N := ["self", "name"]) (sc := (defScope S_State_arrays)) (by decide +kernel)) (fun _ _ _ _ _ => (pg_name (i := 1) sc.nd rfl (Or.inl rfl))) (fun _ _ _ _ _ => pts_nil) (fun _ _ _ _ _ => (pv 1)) (fun _ _ _ _ _ => (pe_callTy (cLst K) (by rfl) T.b_list (by decide +kernel) (pa_cons (pe_dget (hu_of hr) (peF K (pv 0) rfl) (pv 1) (fun _ _ => rfl)) pa_nil))))))), ?_⟩
    obtain ⟨rs, hr1, hr2⟩ := hs.r
    have hrn : (rs.map (·.1)).Nodup := by rw [rws_keys hr2]; exact hn
    have hrl := paired_len hr2
    have npd : p ≠ dr := ne_of hs.at_ hr1 (by intro z; cases z)
    refine ⟨dr, _, hr1, trivial, fun od => ?_⟩
    obtain ⟨HL, eHL⟩ : ∃ HL, HL = upd H dr (.frz od (.dK (kvOf V.ref rs))) := ⟨_, rfl⟩
    have lf : HL dr = some (.frz od (.dK (kvOf V.ref rs))) := by rw [eHL, upd_same]
    have lp : HL p = some (.ins CS dx (stF ds da dr)) := by rw [eHL, upd_ne npd]; exact hs.at_
    have lrs : Paired (fun a b => a.1 = b.1 ∧ RowAt HL a.2 b.2) rs A := by rw [eHL]; exact rws_keep Keep.lock hr1 hr2
    have lfree : ∀ a, HL a = none → H a = none := fun a h => by
      rw [eHL] at h
      by_cases e : a = dr
      · subst e; rw [upd_same] at h; cases h
      · rw [upd_ne e] at h; exact h
    rw [← eHL]
    refine ⟨_, rfl, p, CS, dx, _, _, rfl, lp, T.cl, T.nRo, stF_r _ _ _, dr, od, rfl, .inl ⟨_, lf, fun D hD => ?_⟩⟩
    have nDd : D ≠ dr := fun e => by rw [e, lf] at hD; cases hD
    refine dc_grow walk_keys (fun i H' => Keep D HL H' ∧ ∃ qs : Al Addr, H' D = some (.dK (kvOf V.ref qs)) ∧ Paired (fun a b => a.1 = b.1 ∧ RowAt H' a.2 b.2) qs (A.take i) ∧ (∀ b ∈ qs, HL b.2 = none ∧ H' b.2 ≠ none) ∧ (qs.map (·.2)).Nodup)
      ⟨Keep.lock, [], upd_same, .nil, fun b hb => by simp at hb, List.nodup_nil⟩ (fun i H' _ h => h.1 _ _ nDd.symm lf) ?_ ?_
    · rintro i v H1 H2 hi ⟨kp, qs, hq1, hq2, hqf, hqn⟩ ⟨rfl, kk, vv, hkv, rfl⟩
      obtain ⟨q, hq, rfl, rfl⟩ := kvOf_get hkv
      obtain ⟨b, hb, hbk, hbr⟩ := paired_get lrs hq
      have lf2 := kp _ _ nDd.symm lf
      have lp2 := kp _ _ (ne_of_none lp hD) lp
      obtain ⟨ts, ht1, ht2⟩ := hbr
      have kk : ∀ {a o}, HL a = some o → H2 a = some o := fun {a o} h => kp _ _ (ne_of_none h hD) h
      have ht1' := kk ht1
      have ht2' : Paired (PrAt H2) ts b.2 := paired_imp (fun _ _ r => kk r) ht2
      have g : DGet H2 dr (.str q.1) (some (.ref q.2)) := by
        have := DGet.fk (k := .inr q.1) lf2
        rw [valV_of, look_at hrn hq] at this
        exact this
      refine ⟨rfl, _, rfl, _, rfl, p, CS, dx, _, _, rfl, lp2, T.cl, T.nRo, stF_r _ _ _, _, rfl, dr, _, rfl, g, q.2, _, rfl, .inl (SqL.of ht1'), fun l hl => ?_⟩
      have s3 := Same.new (o := .lst (ts.map V.ref)) hl
      have hq13 := s3 _ _ hq1
      have hll : upd H2 l (.lst (ts.map V.ref)) l = some (.lst (ts.map V.ref)) := upd_same
      have nlD : l ≠ D := fun e => by rw [e, hq1] at hl; cases hl
      have hzq : (kvOf V.ref qs).length < sizeLine := by
        rw [kvOf_len, paired_len hq2, List.length_take]
        rw [kvOf_len] at hi
        exact size_lt (by omega)
      refine ⟨_, .inr q.1, rfl, hq13, hzq, fun a o hne h => ?_, ?_⟩
      · rw [upd_ne hne]
        exact s3 _ _ (kp _ _ hne h)
      · have hput := rws_put (k := q.1) (r := b.2) (show RowAt _ l b.2 from ⟨ts, hll, prs_same s3 ht2'⟩) (rws_same s3 hq2)
        have hnk : q.1 ∉ ((A.take i).map (·.1)) := by rw [hbk]; exact nodup_at hn hb
        have hnk' : q.1 ∉ qs.map (·.1) := by rw [rws_keys hq2]; exact hnk
        rw [putS_new hnk', putS_new hnk] at hput
        refine ⟨qs ++ [(q.1, l)], ?_, ?_, ?_, ?_⟩
        · rw [upd_same, putK_of, putS_new hnk']
        · have e2 : A.take (i + 1) = A.take i ++ [(q.1, b.2)] := by rw [take_succ_get hb, hbk]
          rw [e2]
          exact rws_keep Keep.lock hq13 hput
        · intro c hc
          rcases List.mem_append.mp hc with h | h
          · obtain ⟨c1, c2⟩ := hqf c h
            refine ⟨c1, ?_⟩
            by_cases e : c.2 = D
            · rw [e, upd_same]; intro z; cases z
            · rw [upd_ne e]
              cases e2 : H2 c.2 with
              | none => exact absurd e2 c2
              | some o => rw [s3 _ _ e2]; intro z; cases z
          · rw [List.mem_singleton.mp h]
            refine ⟨?_, ?_⟩
            · cases e : HL l with
              | none => rfl
              | some o =>
                rw [kk e] at hl
                cases hl
            · rw [upd_ne nlD, hll]; intro z; cases z
        · rw [List.map_append]
          refine List.nodup_append.mpr ⟨hqn, List.pairwise_singleton _ _, fun a ha b hb e => ?_⟩
          obtain ⟨c, hc, e2⟩ := List.mem_map.mp ha
          have e3 : b = l := by simpa using hb
          have := (hqf c hc).2
          rw [e2, e, e3] at this
          exact this hl
    · rintro H1 ⟨kp, qs, hq1, hq2, hqf, hqn⟩
      rw [List.take_of_length_le (by rw [kvOf_len]; omega)] at hq2
      have lf1 := kp _ _ nDd.symm lf
      refine ⟨lf1, ?_⟩
      have hDH := lfree D hD
      rw [eHL] at kp
      have s7 := Keep.unlock (H0 := H) hr1 hDH (L2.Same.refl _) kp
      have kk : ∀ a o, a ≠ dr → H1 a = some o → upd H1 dr (.dK (kvOf V.ref rs)) a = some o := fun a o hne h => by rw [upd_ne hne]; exact h
      refine k D _ s7 hDH ⟨qs, kk _ _ nDd hq1, paired_imp (fun a b r => ⟨r.1, ?_⟩) hq2, fun b hb => lfree _ (hqf b hb).1, hqn⟩
      obtain ⟨ts, q1, q2⟩ := r.2
      exact ⟨ts, kk _ _ (ne_of q1 lf1 (by intro z; cases z)) q1, paired_imp (fun a b (r : PrAt H1 a b) => kk _ _ (ne_of r lf1 (by intro z; cases z)) r) q2⟩
end
end A80
end
section
set_option Elab.async false
set_option maxRecDepth 100000
set_option maxHeartbeats 4000000
set_option autoImplicit false
namespace A80
open PySem PySem.Spec L2 PyProof.Rows TL
/-! ### State.with_cell -/
abbrev S_State_with_cell : Stmt := inClass (topS 12) 6
theorem sc_State_with_cell : FnScope ["self", "array", "place", "value", "row", "entries", "arrays", "entry"] ["self", "array", "place", "value"] (defScope S_State_with_cell) := ⟨rfl, rfl, rfl, by decide +kernel, rfl, by decide +kernel, by decide +kernel⟩
/-- the cells that with_cell lays -/
def cellRow (row : Row) (e0 : Int × Int) (pl v : Int) : Row := [((if e0.1 < pl then e0.1 else pl) - 1, e0.2)] ++ row.filter (fun q => decide (q.1 < pl)) ++ [(pl, v), (pl + 1, cellAt row (pl + 1))] ++ row.filter (fun q => decide (q.1 > pl + 1))
theorem filter_len2 (row : Row) (pl : Int) : (row.filter (fun q => decide (q.1 < pl))).length + (row.filter (fun q => decide (q.1 > pl + 1))).length ≤ row.length := by
  induction row with
  | nil => exact Nat.le_refl _
  | cons e r ih =>
    rw [List.filter_cons, List.filter_cons]
    by_cases h1 : e.1 < pl
    · rw [if_pos (decide_eq_true h1), if_neg (by simp; omega)]
      simp only [List.length_cons]
      omega
    · rw [if_neg (by simpa using h1)]
      split <;> simp only [List.length_cons] <;> omega
theorem cellRow_len (row : Row) (e0 : Int × Int) (pl v : Int) : (cellRow row e0 pl v).length ≤ row.length + 3 := by
  have := filter_len2 row pl
  unfold cellRow
  rw [List.length_append, List.length_append, List.length_append]
  show 1 + _ + 2 + _ ≤ _
  omega
theorem cellRow_asc {e0 : Int × Int} {r : Row} (h : Asc (e0 :: r)) (pl v : Int) : Asc (cellRow (e0 :: r) e0 pl v) := by
  unfold cellRow
  have hf : ∀ q ∈ e0 :: r, e0.1 ≤ q.1 := fun q hq => by
    rcases List.mem_cons.mp hq with z | z
    · rw [z]; omega
    · have := (List.pairwise_cons.mp h).1 q z
      omega
  have f1 : ∀ q ∈ (e0 :: r).filter (fun q => decide (q.1 < pl)), q.1 < pl ∧ e0.1 ≤ q.1 := fun q hq => by
    have := List.mem_filter.mp hq
    exact ⟨of_decide_eq_true this.2, hf q this.1⟩
  have f2 : ∀ q ∈ (e0 :: r).filter (fun q => decide (q.1 > pl + 1)), q.1 > pl + 1 := fun q hq => of_decide_eq_true (List.mem_filter.mp hq).2
  have hm : (if e0.1 < pl then e0.1 else pl) ≤ pl ∧ (if e0.1 < pl then e0.1 else pl) ≤ e0.1 := by split <;> omega
  refine List.pairwise_append.mpr ⟨List.pairwise_append.mpr ⟨List.pairwise_append.mpr ⟨List.pairwise_singleton _ _, h.sublist List.filter_sublist, ?_⟩, ?_, ?_⟩, h.sublist List.filter_sublist, ?_⟩
  · intro a ha b hb
    rw [List.mem_singleton.mp ha]
    have := f1 b hb
    show (if e0.1 < pl then e0.1 else pl) - 1 < b.1
    omega
  · refine List.pairwise_cons.mpr ⟨fun b hb => ?_, List.pairwise_singleton _ _⟩
    rw [List.mem_singleton.mp hb]
    show pl < pl + 1
    omega
  · intro a ha b hb
    have hb1 : pl ≤ b.1 := by
      simp at hb
      rcases hb with z | z <;> rw [z] <;> simp <;> omega
    rcases List.mem_append.mp ha with z | z
    · rw [List.mem_singleton.mp z]
      show (if e0.1 < pl then e0.1 else pl) - 1 < b.1
      omega
    · have := f1 a z
      omega
  · intro a ha b hb
    have h2 := f2 b hb
    rcases List.mem_append.mp ha with z | z
    · rcases List.mem_append.mp z with z | z
      · rw [List.mem_singleton.mp z]
        show (if e0.1 < pl then e0.1 else pl) - 1 < b.1
        omega
      · have := f1 a z
        omega
    · simp at z
      rcases z with z | z <;> rw [z] <;> simp <;> omega
/-- all numbers of the rows below B -/
def RIn (B : Int) (row : Row) : Prop := ∀ q ∈ row, -B ≤ q.1 ∧ q.1 ≤ B ∧ -B ≤ q.2 ∧ q.2 ≤ B
theorem cellGo_in {B p : Int} : ∀ (r : Row) (f : Int), -B ≤ f → f ≤ B → RIn B r → -B ≤ cellGo p f r ∧ cellGo p f r ≤ B
  | [], f, h1, h2, _ => ⟨h1, h2⟩
  | e :: r, f, h1, h2, h => by
    unfold cellGo
    split
    · exact ⟨h1, h2⟩
    · have := h e List.mem_cons_self
      exact cellGo_in r e.2 this.2.2.1 this.2.2.2 fun q hq => h q (List.mem_cons_of_mem _ hq)
theorem cellAt_in {B p : Int} {e : Int × Int} {r : Row} (h : RIn B (e :: r)) : -B ≤ cellAt (e :: r) p ∧ cellAt (e :: r) p ≤ B := by
  have := h e List.mem_cons_self
  exact cellGo_in (e :: r) e.2 this.2.2.1 this.2.2.2 h
theorem cellRow_in {B : Int} {e0 : Int × Int} {r : Row} {pl v : Int} (h : RIn B (e0 :: r)) (p1 : -B ≤ pl) (p2 : pl + 1 ≤ B) (v1 : -B ≤ v) (v2 : v ≤ B) : RIn (B + 1) (cellRow (e0 :: r) e0 pl v) := fun q hq => by
  have he := h e0 List.mem_cons_self
  have hc := cellAt_in (p := pl + 1) h
  unfold cellRow at hq
  rcases List.mem_append.mp hq with z | z
  · rcases List.mem_append.mp z with z | z
    · rcases List.mem_append.mp z with z | z
      · rw [List.mem_singleton.mp z]
        show -(B + 1) ≤ (if e0.1 < pl then e0.1 else pl) - 1 ∧ (if e0.1 < pl then e0.1 else pl) - 1 ≤ B + 1 ∧ -(B + 1) ≤ e0.2 ∧ e0.2 ≤ B + 1
        have hm : (if e0.1 < pl then e0.1 else pl) = e0.1 ∨ (if e0.1 < pl then e0.1 else pl) = pl := by split <;> simp
        omega
      · have := h q (List.mem_filter.mp z).1
        omega
    · simp at z
      rcases z with z | z <;> rw [z] <;> simp <;> omega
  · have := h q (List.mem_filter.mp z).1
    omega
theorem leastOf_in {B : Int} {row : Row} (_ : 0 ≤ B) (h : RIn B row) : RIn (B + 1) (leastOf row) := fun q hq => by
  have hs : ∀ p ∈ sortA row, p ∈ row := fun p hp => (sortA_perm row).mem_iff.mp hp
  obtain ⟨⟨p, hp, e⟩, h2⟩ := leastS_mem hq
  have h1 := h p (hs p hp)
  rcases h2 with h2 | h2 | ⟨p', hp', h2⟩
  · have := h q (hs q h2)
    omega
  · omega
  · have := h p' (hs p' hp')
    omega
theorem RIn.mono {B C : Int} {row : Row} (h : RIn B row) (hBC : B ≤ C) : RIn C row := fun q hq => by have := h q hq; omega
def AIn (B : Int) (A : Al Row) : Prop := ∀ p ∈ A, RIn B p.2
theorem putS_szA2 (k : Str) (v : Row) : ∀ (l : Al Row) (r : Row), (l.map (·.1)).Nodup → (k, r) ∈ l → szA (putS l k v) + r.length = szA l + v.length := by
  have e0 : ∀ q : Str × Row, ∀ m : Al Row, szA (q :: m) = (1 + q.2.length) + szA m := fun q m => by unfold szA; rw [List.map_cons, List.sum_cons]
  have none_ : ∀ l : Al Row, k ∉ l.map (·.1) → l.map (fun p => if p.1 = k then (p.1, v) else p) = l := by
    intro l
    induction l with
    | nil => intro _; rfl
    | cons p l ih =>
      intro h
      rw [List.map_cons] at h
      rw [List.map_cons, if_neg (fun q => h (by rw [q]; exact List.mem_cons_self)), ih fun q => h (List.mem_cons_of_mem _ q)]
  have key : ∀ (l : Al Row) (r : Row), (l.map (·.1)).Nodup → (k, r) ∈ l → szA (l.map (fun p => if p.1 = k then (p.1, v) else p)) + r.length = szA l + v.length := by
    intro l
    induction l with
    | nil => intro r _ h; simp at h
    | cons p l ih =>
      intro r hn h
      rw [List.map_cons] at hn
      obtain ⟨hn1, hn2⟩ := List.nodup_cons.mp hn
      rw [List.map_cons, e0, e0]
      rcases List.mem_cons.mp h with z | z
      · subst z
        rw [if_pos rfl, none_ l hn1]
        show 1 + v.length + szA l + r.length = 1 + r.length + szA l + v.length
        omega
      · have : ¬ p.1 = k := fun q => hn1 (by rw [q]; exact List.mem_map.mpr ⟨_, z, rfl⟩)
        rw [if_neg this]
        have := ih r hn2 z
        omega
  intro l r hn h
  unfold putS
  rw [if_pos (List.any_eq_true.mpr ⟨_, h, decide_eq_true rfl⟩)]
  exact key l r hn h
theorem szA_row {A : Al Row} {p : Str × Row} (h : p ∈ A) : p.2.length ≤ szA A := by
  induction A with
  | nil => simp at h
  | cons q l ih =>
    have e0 : szA (q :: l) = (1 + q.2.length) + szA l := by unfold szA; rw [List.map_cons, List.sum_cons]
    rw [e0]
    rcases List.mem_cons.mp h with z | z
    · rw [z]; omega
    · have := ih z; omega
theorem szA_len (A : Al Row) : A.length ≤ szA A := by
  induction A with
  | nil => exact Nat.zero_le _
  | cons q l ih =>
    have e0 : szA (q :: l) = (1 + q.2.length) + szA l := by unfold szA; rw [List.map_cons, List.sum_cons]
    rw [e0, List.length_cons]
    omega
theorem rowsOf_least {A : Al Row} : ∀ p ∈ rowsOf A, leastS p.2 = p.2 := fun p hp => by
  obtain ⟨r, _, e⟩ := rowsOf_mem hp
  rw [e]
  exact leastOf_idem r
def spWithCell (CS : Addr) : Sp := fun vs H Q _ => ∃ (p : Addr) (nm : Str) (pl v : Int) (P N : Al Int) (A : Al Row) (row : Row) (B : Int), vs = [.ref p, .str nm, .int pl, .int v] ∧ StAt CS H p P N A ∧ StOk P N A ∧ P.length ≤ 1000 ∧ N.length ≤ 1000 ∧ szA A ≤ 1000 ∧ lookS A nm = some row ∧ AIn B A ∧ -B ≤ pl ∧ pl + 1 ≤ B ∧ -B ≤ v ∧ v ≤ B ∧
  ∀ (q : Addr) (H' : Hp) (A' : Al Row), Same H H' → H q = none → StAt CS H' q P N A' → StOk P N A' → A'.map (·.1) = A.map (·.1) → szA A' ≤ szA A + 3 → AIn (B + 2) A' → (∀ p ∈ A', leastS p.2 = p.2) → Q (.ref q) H'
section
variable {P : Program} {w : World} {K : PySem.W.Frag} {mg : Str → Option Value} {base : Heap} {CS : Addr}
theorem cl_with_cell (T : Tx K mg CS) (D : Ms K CS "with_cell" "State.with_cell" S_State_with_cell ["self", "array", "place", "value"]) (c_cell_at : Cl P w K mg base 1 "cell_at" spCellAt) (c_p_arrays : Prp P w K mg base 1 CS "arrays" (spArrays CS)) (c_State : C8.Mak P w K mg base 2 "State" CS (spInit CS) []) :
    C8.Met P w K mg base 4 CS "with_cell" (spWithCell CS) [] := by
  have sc := sc_State_with_cell
  refine met_mk T.cl D sc (fun vs H Q E h => ?_) (fun f cdv A outer s H vs Q E hr h => ?_)
  · obtain ⟨p, nm, pl, v, P, N, A, row, B, rfl, _⟩ := h
    rfl
  · obtain ⟨p, nm, pl, v, P, N, A, row, B, rfl, hst, hok, zP, zN, zA, hlk, hin, p1, p2, v1, v2, k⟩ := h
    refine ⟨_, (pss_cons (ps_if (pt_cmp (pc_dnotin (hu_of hr) (pv 1) (peF K (pv 0) rfl)))
      (pss_one ps_never)
      pss_nil)
      (pss_cons (ps_set (i := 4) sc.nd rfl (Or.inl rfl) (pe_dget (hu_of hr) (peF K (pv 0) rfl) (pv 1) (fun _ _ => rfl)))
      (pss_cons (ps_set (i := 5) sc.nd rfl (Or.inl rfl) (pe_lst (pa_cons (pe_tup (pa_cons (pe_op op_sub (pe_callB (call_min2 rfl) (by rfl) T.b_min (by decide +kernel) (pa_cons (pv 2) (pa_cons (pe_ix (ixT K) (pe_ix (ixL K) (pv 4) pe_int (fun _ _ => rfl)) pe_int (fun _ _ => rfl)) pa_nil))) pe_int) (pa_cons (pe_ix (ixT K) (pe_ix (ixL K) (pv 4) pe_int (fun _ _ => rfl)) pe_int (fun _ _ => rfl)) pa_nil))) pa_nil)))
      (pss_cons (ps_set (i := 5) sc.nd rfl (Or.inl rfl) (pe_op op_cat (pv 5) (pe_lc (own := [("entry", 7)]) rfl sc.nd (piL K (pv 4)) (blkOk_by (own := [("entry", 7)]) (N := ["self", "array", "place", "value", "row", "entries", "arrays", "entry"]) (sc := (defScope S_State_with_cell)) (by decide +kernel)) (fun _ _ _ _ _ => (pg_name (i := 7) sc.nd rfl (Or.inl rfl))) (fun _ _ _ _ _ => (pts_one (pt_cmpR op_lt (pe_ix (ixT K) (pv 7) pe_int (fun _ _ => rfl)) (pv 2) (nomark _)))) (fun _ _ _ _ _ => (pv 7)))))
      (pss_cons (ps_set (i := 5) sc.nd rfl (Or.inl rfl) (pe_op op_cat (pv 5) (pe_lst (pa_cons (pe_tup (pa_cons (pv 2) (pa_cons (pv 3) pa_nil))) (pa_cons (pe_tup (pa_cons (pe_op op_add (pv 2) pe_int) (pa_cons (pe_c c_cell_at hr (by decide) rfl (pa_cons (pv 4) (pa_cons (pe_op op_add (pv 2) pe_int) pa_nil))) pa_nil))) pa_nil)))))
      (pss_cons (ps_set (i := 6) sc.nd rfl (Or.inl rfl) (pe_p c_p_arrays hr (by decide) (pv 0) rfl))
      (pss_cons (ps_dput (hu_of hr) (pv 6) (pv 1) (pe_op op_cat (pv 5) (pe_lc (own := [("entry", 7)]) rfl sc.nd (piL K (pv 4)) (blkOk_by (own := [("entry", 7)]) (N := ["self", "array", "place", "value", "row", "entries", "arrays", "entry"]) (sc := (defScope S_State_with_cell)) (by decide +kernel)) (fun _ _ _ _ _ => (pg_name (i := 7) sc.nd rfl (Or.inl rfl))) (fun _ _ _ _ _ => (pts_one (pt_cmpR op_gt (pe_ix (ixT K) (pv 7) pe_int (fun _ _ => rfl)) (pe_op op_add (pv 2) pe_int) (nomark _)))) (fun _ _ _ _ _ => (pv 7)))) rfl)
      (pss_one (ps_ret (C8.pe_mk c_State hr (by decide) rfl (pa_cons (peF K (pv 0) rfl) (pa_cons (peF K (pv 0) rfl) (pa_cons (pv 6) pa_nil))))))))))))), ?_⟩
    obtain ⟨dx, ds, da, dr, hs⟩ := id hst
    obtain ⟨okP, okN', ⟨okA, okAn⟩, okR⟩ := id hok
    obtain ⟨rs, hr1, hr2⟩ := hs.r
    obtain ⟨b, hb, hbr⟩ := rws_look hr2 hlk
    have hmem := lookS_mem hlk
    obtain ⟨hne, hasc⟩ := okR _ hmem
    have hrz : row.length ≤ 1000 := Nat.le_trans (szA_row hmem) zA
    have hnA := okA.nodup
    have g : DGet H dr (.str nm) (some (.ref b)) := by
      have := DGet.k (k := .inr nm) hr1
      rw [valV_of, hb] at this
      exact this
    obtain ⟨e0, r, rfl⟩ : ∃ e0 r, row = e0 :: r := by
      cases row with
      | nil => exact absurd rfl hne
      | cons e r => exact ⟨e, r, rfl⟩
    obtain ⟨ts, ht1, ht2⟩ := hbr
    have htl := paired_len ht2
    obtain ⟨u0, hu0, hue0⟩ := paired_get' ht2 (i := 0) (b := e0) rfl
    -- if array not in self.rows
    refine ⟨_, rfl, _, rfl, p, CS, dx, _, _, rfl, hs.at_, T.cl, T.nRo, stF_r _ _ _, dr, _, rfl, g, _, rfl, ite_f rfl ?_⟩
    refine ⟨_, rfl, p, CS, dx, _, _, rfl, hs.at_, T.cl, T.nRo, stF_r _ _ _, _, rfl, dr, _, rfl, g, ?_⟩
    -- entries = [(min(place, row[0][0]) - 1, row[0][1])]
    refine ⟨_, rfl, _, rfl, b, _, 0, _, rfl, rfl, SqL.of ht1, atI_ref (i := 0) rfl hu0, u0, _, 0, _, rfl, rfl, SqT.of hue0, atI_get (i := 0) rfl, _, _, rfl, _, _, rfl, rfl, _, rfl, b, _, 0, _, rfl, rfl, SqL.of ht1, atI_ref (i := 0) rfl hu0, u0, _, 1, _, rfl, rfl, SqT.of hue0, atI_get (i := 1) rfl, size_le (by show 2 ≤ _; omega), fun t1 h1 => ?_⟩
    obtain ⟨c0, ec0⟩ : ∃ c0 : Int × Int, c0 = ((if e0.1 < pl then e0.1 else pl) - 1, e0.2) := ⟨_, rfl⟩
    have s1 := Same.new (o := .tup [.int ((if e0.1 < pl then e0.1 else pl) - 1), .int e0.2]) h1
    have a1 : PrAt (upd H t1 (.tup [.int ((if e0.1 < pl then e0.1 else pl) - 1), .int e0.2])) t1 c0 := by rw [ec0]; exact upd_same
    obtain ⟨H1, e1⟩ : ∃ H1, H1 = upd H t1 (.tup [.int ((if e0.1 < pl then e0.1 else pl) - 1), .int e0.2]) := ⟨_, rfl⟩
    refine ⟨size_le (by show 1 ≤ _; omega), fun l1 h2 => ?_⟩
    have s2 := Same.new (o := .lst ([t1].map V.ref)) h2
    rw [← e1] at s1 a1 s2
    have a2 : upd H1 l1 (.lst ([t1].map V.ref)) l1 = some (.lst ([t1].map V.ref)) := upd_same
    obtain ⟨H2, e2⟩ : ∃ H2, H2 = upd H1 l1 (.lst ([t1].map V.ref)) := ⟨_, rfl⟩
    have goal2 : ∀ {G : Hp → Prop}, G H2 → G (upd (upd H t1 (.tup [.int ((if e0.1 < pl then e0.1 else pl) - 1), .int e0.2])) l1 (.lst [.ref t1])) := fun {G} h => by rw [e2, e1] at h; exact h
    rw [← e2] at s2 a2
    refine goal2 ?_
    clear goal2 e1 e2
    have s12 := s1.trans s2
    have a1 := PrAt.same s2 a1
    have hb2 := s12 _ _ ht1
    have ht2' := prs_same s12 ht2
    -- entries = entries + [entry for entry in row if entry[0] < place]
    refine ⟨_, rfl, _, rfl, b, rfl, ⟨_, SqL.of hb2⟩, fun D hD => lc_grow walk_list hD (by rw [List.length_map]; omega) (fun H' s => SqL.of (s _ _ hb2))
      (fun i acc H' => ∃ us : List Addr, acc = us.map V.ref ∧ Paired (PrAt H') us (((e0 :: r).take i).filter fun q => decide (q.1 < pl))) (by rintro i acc acc' H H' hd he ⟨us, ea, hp⟩; exact ⟨us, ea, prs_but hd he hp⟩) ⟨[], rfl, .nil⟩ ?_ ?_⟩
    · rintro i x acc H3 H4 N1 N0 hi s3 hDl ha ⟨us, rfl, hu⟩ k1 k0 ⟨rfl, hv⟩
      obtain ⟨u, hu1, rfl⟩ := get_map_ref hv
      obtain ⟨q, hq, hqu⟩ := paired_get ht2' hu1
      refine ⟨rfl, _, rfl, u, _, 0, _, rfl, rfl, SqT.of (hqu.same s3), atI_get (i := 0) rfl, _, rfl, _, _, rfl, rfl, _, rfl, ite_b (fun c => ?_) (fun c => ?_)⟩
      · refine ⟨_, rfl, k1 _ _ (L2.Same.refl _) ⟨us ++ [u], by rw [List.map_append]; rfl, ?_⟩⟩
        rw [take_succ_get hq, List.filter_append]
        have : [q].filter (fun q => decide (q.1 < pl)) = [q] := by rw [List.filter_cons, if_pos c]; rfl
        rw [this]
        exact paired_snoc hu (hqu.same s3)
      · refine k0 _ (L2.Same.refl _) ⟨us, rfl, ?_⟩
        rw [take_succ_get hq, List.filter_append]
        have : [q].filter (fun q => decide (q.1 < pl)) = [] := by rw [List.filter_cons, c]; rfl
        rw [this, List.append_nil]
        exact hu
    rintro acc H3 s3 hDl ha ⟨us, rfl, hu⟩
    rw [List.take_of_length_le (by rw [List.length_map]; omega)] at hu
    have hfl := filter_len2 (e0 :: r) pl
    have husl := paired_len hu
    refine ⟨l1, D, _, _, rfl, rfl, s3 _ _ a2, hDl, by rw [List.length_map, List.length_map]; exact size_le (by simp only [List.length_cons, List.length_nil]; omega), fun l2 hl2 => ?_⟩
    rw [← List.map_append]
    have s4 := Same.new (o := .lst (([t1] ++ us).map V.ref)) hl2
    have a4 : upd H3 l2 (.lst (([t1] ++ us).map V.ref)) l2 = some (.lst (([t1] ++ us).map V.ref)) := upd_same
    obtain ⟨H4, e4⟩ : ∃ H4, H4 = upd H3 l2 (.lst (([t1] ++ us).map V.ref)) := ⟨_, rfl⟩
    rw [← e4] at s4 a4 ⊢
    have p4 : Paired (PrAt H4) ([t1] ++ us) ([c0] ++ (e0 :: r).filter (fun q => decide (q.1 < pl))) := .cons (PrAt.same (s3.trans s4) a1) (prs_same s4 hu)
    have s14 := s12.trans (s3.trans s4)
    -- entries = entries + [(place, value), (place + 1, cell_at(row, place + 1))]
    refine ⟨_, rfl, _, rfl, _, rfl, size_le (by show 2 ≤ _; omega), fun t2 ht2n => ?_⟩
    have s5 := Same.new (o := .tup [.int pl, .int v]) ht2n
    have b5 : PrAt (upd H4 t2 (.tup [.int pl, .int v])) t2 (pl, v) := upd_same
    obtain ⟨H5, e5⟩ : ∃ H5, H5 = upd H4 t2 (.tup [.int pl, .int v]) := ⟨_, rfl⟩
    rw [← e5] at s5 b5 ⊢
    have s15 := s14.trans s5
    refine ⟨_, rfl, _, _, rfl, rfl, _, rfl, _, rfl, _, _, rfl, rfl, b, e0 :: r, pl + 1, rfl, ⟨ts, s15 _ _ ht1, prs_same s15 ht2⟩, hne, size_le (by show 2 ≤ _; omega), fun t3 ht3n => ?_⟩
    have s6 := Same.new (o := .tup [.int (pl + 1), .int (cellAt (e0 :: r) (pl + 1))]) ht3n
    have b6 : PrAt (upd H5 t3 (.tup [.int (pl + 1), .int (cellAt (e0 :: r) (pl + 1))])) t3 (pl + 1, cellAt (e0 :: r) (pl + 1)) := upd_same
    obtain ⟨H6, e6⟩ : ∃ H6, H6 = upd H5 t3 (.tup [.int (pl + 1), .int (cellAt (e0 :: r) (pl + 1))]) := ⟨_, rfl⟩
    rw [← e6] at s6 b6 ⊢
    refine ⟨size_le (by show 2 ≤ _; omega), fun l3 hl3 => ?_⟩
    have s7 := Same.new (o := .lst ([t2, t3].map V.ref)) hl3
    have a7 : upd H6 l3 (.lst ([t2, t3].map V.ref)) l3 = some (.lst ([t2, t3].map V.ref)) := upd_same
    have s57 := s5.trans (s6.trans s7)
    refine ⟨l2, l3, ([t1] ++ us).map V.ref, [t2, t3].map V.ref, rfl, rfl, s57 _ _ a4, a7, by rw [List.length_map, List.length_map]; exact size_le (by simp only [List.length_append, List.length_cons, List.length_nil]; omega), fun l4 hl4 => ?_⟩
    rw [← List.map_append]
    have hl4 : upd H6 l3 (.lst ([t2, t3].map V.ref)) l4 = none := hl4
    have s8 := Same.new (o := .lst (([t1] ++ us ++ [t2, t3]).map V.ref)) hl4
    have a8 : upd (upd H6 l3 (.lst ([t2, t3].map V.ref))) l4 (.lst (([t1] ++ us ++ [t2, t3]).map V.ref)) l4 = some (.lst (([t1] ++ us ++ [t2, t3]).map V.ref)) := upd_same
    obtain ⟨H8, e8⟩ : ∃ H8, H8 = upd (upd H6 l3 (.lst ([t2, t3].map V.ref))) l4 (.lst (([t1] ++ us ++ [t2, t3]).map V.ref)) := ⟨_, rfl⟩
    rw [← e8] at s8 a8
    have goal8 : ∀ {G : Hp → Prop}, G H8 → G (upd (upd H6 l3 (.lst [.ref t2, .ref t3])) l4 (.lst (([t1] ++ us ++ [t2, t3]).map V.ref))) := fun {G} h => by rw [e8] at h; exact h
    refine goal8 ?_
    clear goal8 e8
    have s78 := s7.trans s8
    have p8 : Paired (PrAt H8) ([t1] ++ us ++ [t2, t3]) ([c0] ++ (e0 :: r).filter (fun q => decide (q.1 < pl)) ++ [(pl, v), (pl + 1, cellAt (e0 :: r) (pl + 1))]) :=
      paired_app (prs_same (s5.trans (s6.trans s78)) p4) (.cons (PrAt.same (s6.trans s78) b5) (.cons (PrAt.same s78 b6) .nil))
    have s18 := s15.trans (s6.trans s78)
    -- arrays = self.arrays
    refine ⟨_, rfl, p, dx, _, rfl, s18 _ _ hs.at_, p, P, N, A, rfl, hst.same s18, hnA, by have := szA_len A; omega, fun d H9 s9 hd hDF => ?_⟩
    obtain ⟨qs, hq1, hq2, hq3, hq4⟩ := hDF
    have s19 := s18.trans s9
    have hb9 := s19 _ _ ht1
    have ht9 := prs_same s19 ht2
    have a9 := s9 _ _ a8
    have p9 := prs_same s9 p8
    -- arrays[array] = entries + [entry for entry in row if entry[0] > place + 1]
    refine ⟨_, rfl, _, rfl, b, rfl, ⟨_, SqL.of hb9⟩, fun D' hD' => lc_grow walk_list hD' (by rw [List.length_map]; omega) (fun H' s => SqL.of (s _ _ hb9))
      (fun i acc H' => ∃ us : List Addr, acc = us.map V.ref ∧ Paired (PrAt H') us (((e0 :: r).take i).filter fun q => decide (q.1 > pl + 1))) (by rintro i acc acc' H H' hd he ⟨us, ea, hp⟩; exact ⟨us, ea, prs_but hd he hp⟩) ⟨[], rfl, .nil⟩ ?_ ?_⟩
    · rintro i x acc H3 H4 N1 N0 hi s3 hDl ha ⟨us, rfl, hu⟩ k1 k0 ⟨rfl, hv⟩
      obtain ⟨u, hu1, rfl⟩ := get_map_ref hv
      obtain ⟨q, hq, hqu⟩ := paired_get ht9 hu1
      refine ⟨rfl, _, rfl, u, _, 0, _, rfl, rfl, SqT.of (hqu.same s3), atI_get (i := 0) rfl, _, rfl, _, _, rfl, rfl, _, _, rfl, rfl, _, rfl, ite_b (fun c => ?_) (fun c => ?_)⟩
      · refine ⟨_, rfl, k1 _ _ (L2.Same.refl _) ⟨us ++ [u], by rw [List.map_append]; rfl, ?_⟩⟩
        rw [take_succ_get hq, List.filter_append]
        have : [q].filter (fun q => decide (q.1 > pl + 1)) = [q] := by rw [List.filter_cons, if_pos c]; rfl
        rw [this]
        exact paired_snoc hu (hqu.same s3)
      · refine k0 _ (L2.Same.refl _) ⟨us, rfl, ?_⟩
        rw [take_succ_get hq, List.filter_append]
        have : [q].filter (fun q => decide (q.1 > pl + 1)) = [] := by
          have c : decide (q.1 > pl + 1) = false := c
          rw [List.filter_cons, c]
          rfl
        rw [this, List.append_nil]
        exact hu
    rintro acc H10 s10 hDl' ha ⟨us', rfl, hu'⟩
    rw [List.take_of_length_le (by rw [List.length_map]; omega)] at hu'
    have husl' := paired_len hu'
    refine ⟨l4, D', _, us'.map V.ref, rfl, rfl, s10 _ _ a9, hDl', by rw [List.length_map, List.length_map]; exact size_le (by simp only [List.length_append, List.length_cons, List.length_nil]; omega), fun l5 hl5 => ?_⟩
    rw [← List.map_append]
    have s11 := Same.new (o := .lst (([t1] ++ us ++ [t2, t3] ++ us').map V.ref)) hl5
    have a11 : upd H10 l5 (.lst (([t1] ++ us ++ [t2, t3] ++ us').map V.ref)) l5 = some (.lst (([t1] ++ us ++ [t2, t3] ++ us').map V.ref)) := upd_same
    obtain ⟨H11, e11⟩ : ∃ H11, H11 = upd H10 l5 (.lst (([t1] ++ us ++ [t2, t3] ++ us').map V.ref)) := ⟨_, rfl⟩
    rw [← e11] at s11 a11 ⊢
    have hrow : RowAt H11 l5 (cellRow (e0 :: r) e0 pl v) := ⟨_, a11, by
      unfold cellRow
      rw [← ec0]
      exact paired_app (prs_same (s10.trans s11) p9) (prs_same s11 hu')⟩
    have s911 := s10.trans s11
    have hq11 := s911 _ _ hq1
    refine ⟨_, rfl, _, rfl, d, _, rfl, DPut.k (k := .inr nm) hq11 (by rw [kvOf_len, paired_len hq2]; have := szA_len A; exact size_lt (by omega)), ?_⟩
    have hD12 := DiR.put hq11 (rws_same s911 hq2) (k := nm) hrow
    have hdH := s18.free hd
    have s12' : L2.Same H (upd H11 d (.dK (putK (kvOf V.ref qs) (.inr nm) (.ref l5)))) := Same.mut (s19.trans s911) hdH
    obtain ⟨H12, e12⟩ : ∃ H12, H12 = upd H11 d (.dK (putK (kvOf V.ref qs) (.inr nm) (.ref l5))) := ⟨_, rfl⟩
    rw [← e12] at s12' hD12 ⊢
    have hs12 := hs.same s12'
    have hkm : nm ∈ A.map (·.1) := List.mem_map.mpr ⟨_, hmem, rfl⟩
    have hkeys : (putS A nm (cellRow (e0 :: r) e0 pl v)).map (·.1) = A.map (·.1) := putS_has _ hkm
    have hB : 0 ≤ B := by omega
    have hpin : AIn (B + 1) (putS A nm (cellRow (e0 :: r) e0 pl v)) := fun q hq => by
      rcases putS_mem hq with z | z
      · exact (hin q z).mono (by omega)
      · rw [z]
        exact cellRow_in (hin _ hmem) p1 p2 v1 v2
    have hsz2 := putS_szA2 nm (cellRow (e0 :: r) e0 pl v) A _ hnA hmem
    have hcl := cellRow_len (e0 :: r) e0 pl v
    have hz : szA (putS A nm (cellRow (e0 :: r) e0 pl v)) ≤ szA A + 3 := by omega
    have inok : InOk P N (putS A nm (cellRow (e0 :: r) e0 pl v)) := by
      refine ⟨okP, okN', ⟨putS_nodup _ _ hnA, fun q hq => ?_⟩, fun q hq => ?_, by omega, by omega, ?_⟩
      · have : q.1 ∈ A.map (·.1) := by rw [← hkeys]; exact List.mem_map.mpr ⟨q, hq, rfl⟩
        obtain ⟨q', hq', e⟩ := List.mem_map.mp this
        rw [← e]
        exact okAn q' hq'
      · have hzq := szA_row hq
        rcases putS_mem hq with z | z
        · exact ⟨(okR q z).1, asc_nodup (okR q z).2, by omega⟩
        · rw [z]
          refine ⟨?_, asc_nodup (cellRow_asc hasc pl v), by show (cellRow (e0 :: r) e0 pl v).length ≤ _; omega⟩
          intro z
          have := congrArg List.length z
          unfold cellRow at this
          simp at this
      · have := szA_len (putS A nm (cellRow (e0 :: r) e0 pl v))
        omega
    refine ⟨_, rfl, p, CS, dx, _, _, rfl, hs12.at_, T.cl, T.nSp, stF_s _ _ _, _, rfl, p, CS, dx, _, _, rfl, hs12.at_, T.cl, T.nAm, stF_a _ _ _, _, rfl, fun x dx' hx hdx' hne' => ?_⟩
    refine ⟨x, dx', H12, ds, da, d, P, N, _, rfl, hx, hdx', hne', rfl, hs12.s, hs12.a, hD12, inok, fun H' s' st => ⟨rfl, ?_⟩⟩
    refine k x H' _ (s12'.trans s') (s12'.free hx) st (inOk_stOk inok) ?_ (Nat.le_trans (szA_rowsOf _) hz) ?_ rowsOf_least
    · rw [rowsOf_keys]
      have : AscK (putS A nm (cellRow (e0 :: r) e0 pl v)) := by
        have h3 : (A.map (·.1)).Pairwise (fun a b => tl a < tl b) := List.pairwise_map.mpr okA
        rw [← hkeys] at h3
        exact (List.pairwise_map (f := fun p : Str × Row => p.1) (R := fun a b : Str => tl a < tl b)).mp h3
      rw [sortK_self this]
      exact hkeys
    · intro q hq
      obtain ⟨r', hr', e⟩ := rowsOf_mem hq
      rw [e]
      exact (leastOf_in (by omega) (hpin _ hr')).mono (by omega)
end
end A80
end
section
set_option Elab.async false
set_option maxRecDepth 100000
set_option maxHeartbeats 4000000
set_option autoImplicit false
namespace A80
open PySem PySem.Spec L2 PyProof.Rows TL
/-! ### show_state -/
def tJn (ts : List TE) : TE := fun σ H Q => tJs ts Str.empty σ H fun out H1 => Q (.str out) H1
theorem pe_jn {X : Cx} {v1 v2 : Expr} {rest : List Expr} {ts : List TE} {pos : Pos} (h : PJ X (v1 :: v2 :: rest) ts) : PE X (.JoinedStr (v1 :: v2 :: rest) pos) (tJn ts) := pe_joined h
abbrev S_show_state : Stmt := topS 14
theorem sc_show_state : FnScope ["state", "places", "numbers", "arrays", "shown", "name", "cells", "place", "value"] ["state"] (defScope S_show_state) := ⟨rfl, rfl, rfl, by decide +kernel, rfl, by decide +kernel, by decide +kernel⟩
def okW (n : Int) : Prop := n.natAbs < 10 ^ 61
theorem okW_len {n : Int} (h : okW n) : (showI n).length ≤ 62 := by
  have h1 : (numL n.natAbs).length ≤ 61 := numL_len (by decide) h
  unfold showI
  split
  · rw [List.length_cons]; omega
  · omega
theorem okW_log {n : Int} (h : okW n) : n.natAbs.log2 < 1920 := by
  by_cases h0 : n.natAbs = 0
  · rw [h0]; decide
  · have h2 : n.natAbs.log2 < 210 := (Nat.log2_lt h0).mpr (Nat.lt_of_lt_of_le h (by decide +kernel))
    omega
def NumW (P N : Al Int) (A : Al Row) : Prop := (∀ p ∈ P, okW p.2) ∧ (∀ p ∈ N, okW p.2) ∧ ∀ p ∈ A, ∀ q ∈ p.2, okW q.1 ∧ okW q.2
theorem canon_sh {P N : Al Int} {A : Al Row} (h : StOk P N A) : ∀ e ∈ canon P N A, shE e := by
  obtain ⟨⟨_, h1⟩, ⟨_, h2⟩, ⟨_, h3⟩, h4⟩ := h
  intro e he
  unfold canon at he
  rcases List.mem_append.mp he with he | he
  · rcases List.mem_append.mp he with he | he
    · obtain ⟨q, hq, rfl⟩ := List.mem_map.mp he
      exact h1 q ((sortK_perm P).mem_iff.mp hq)
    · obtain ⟨q, hq, rfl⟩ := List.mem_map.mp he
      exact h2 q ((sortK_perm N).mem_iff.mp hq)
  · obtain ⟨q, hq, rfl⟩ := List.mem_map.mp he
    exact ⟨h3 q hq, (h4 q hq).1⟩
theorem canon_in {P N : Al Int} {A : Al Row} (h : NumW P N A) : ∀ e ∈ canon P N A, EnI 62 e := by
  obtain ⟨h1, h2, h3⟩ := h
  intro e he
  unfold canon at he
  rcases List.mem_append.mp he with he | he
  · rcases List.mem_append.mp he with he | he
    · obtain ⟨q, hq, rfl⟩ := List.mem_map.mp he
      exact okW_len (h1 q ((sortK_perm P).mem_iff.mp hq))
    · obtain ⟨q, hq, rfl⟩ := List.mem_map.mp he
      exact okW_len (h2 q ((sortK_perm N).mem_iff.mp hq))
  · obtain ⟨q, hq, rfl⟩ := List.mem_map.mp he
    exact fun p hp => ⟨okW_len (h3 q hq p hp).1, okW_len (h3 q hq p hp).2⟩
theorem len_app (a b : Str) : (a ++ b).length = a.length + b.length := by rw [str_len, str_len, str_len, tl_append, List.length_append]
theorem tl_emp : tl Str.empty = [] := rfl
theorem join_sum (k : Nat) (ts : List Str) (L : List (List Nat)) (h : ts.map tl = L) : (ts.map (·.length)).sum + ts.length * k = (L.map fun p => p.length + k).sum := by
  subst h
  induction ts with
  | nil => simp
  | cons t ts ih =>
    rw [List.map_cons, List.sum_cons, List.length_cons, List.map_cons, List.map_cons, List.sum_cons, ← ih, Nat.succ_mul, str_len]
    omega
theorem rowT_small {row : Row} (h : ∀ q ∈ row, okW q.1 ∧ okW q.2) : (rowT row).length ≤ 126 * row.length := rowT_le fun p hp => ⟨okW_len (h p hp).1, okW_len (h p hp).2⟩
theorem tl_word0 : tl (Str.ofString "place ") = [112, 108, 97, 99, 101, 32] := by decide +kernel
theorem tl_word1 : tl (Str.ofString "value ") = [118, 97, 108, 117, 101, 32] := by decide +kernel
theorem tl_word2 : tl (Str.ofString "array ") = [97, 114, 114, 97, 121, 32] := by decide +kernel
theorem tl_eqs : tl (Str.ofString "=") = [61] := by decide +kernel
theorem tl_colon : tl (Str.ofString ":") = [58] := by decide +kernel
theorem tl_comma : tl (Str.ofString ",") = [44] := by decide +kernel
theorem tl_semi : tl (Str.ofString "; ") = [59, 32] := by decide +kernel
theorem shown_pl (nm : Str) (n : Int) : tl (Str.empty ++ Str.ofString "place " ++ nm ++ Str.ofString "=" ++ Str.ofString (toString n)) = showE (.pl nm n) := by
  rw [tl_append, tl_append, tl_append, tl_append, tl_emp, tl_word0, tl_eqs, tl_showI]
  show _ = [112, 108, 97, 99, 101] ++ 32 :: (tl nm ++ 61 :: showI n)
  simp
theorem shown_va (nm : Str) (n : Int) : tl (Str.empty ++ Str.ofString "value " ++ nm ++ Str.ofString "=" ++ Str.ofString (toString n)) = showE (.va nm n) := by
  rw [tl_append, tl_append, tl_append, tl_append, tl_emp, tl_word1, tl_eqs, tl_showI]
  show _ = [118, 97, 108, 117, 101] ++ 32 :: (tl nm ++ 61 :: showI n)
  simp
theorem shown_c (a b : Int) : tl (Str.empty ++ Str.ofString (toString a) ++ Str.ofString ":" ++ Str.ofString (toString b)) = showC (a, b) := by
  rw [tl_append, tl_append, tl_append, tl_emp, tl_colon, tl_showI, tl_showI]
  unfold showC
  simp
theorem shown_ar (nm t : Str) (row : Row) (h : tl t = rowT row) : tl (Str.ofString "array " ++ nm ++ Str.ofString "=" ++ t) = showE (.ar nm row) := by
  rw [tl_append, tl_append, tl_append, tl_word2, tl_eqs, h]
  show _ = [97, 114, 114, 97, 121] ++ 32 :: (tl nm ++ 61 :: rowT row)
  simp
theorem int_tlen {n : Int} (h : okW n) : (Str.ofString (toString n)).length ≤ 62 := by
  rw [str_len, tl_showI]
  exact okW_len h
theorem nm_len {x : Str} (h : okN x) : x.length ≤ 6 := by
  rw [str_len]
  exact (okNm_iff.mp h).2.1
def spShow (CS : Addr) : Sp := fun vs H Q _ => ∃ (p : Addr) (P N : Al Int) (A : Al Row), vs = [.ref p] ∧ StAt CS H p P N A ∧ StOk P N A ∧ NumW P N A ∧ stz P N A ≤ 20000 ∧ ∀ (t : Str) (H' : Hp), Same H H' → tl t = showS (canon P N A) → Q (.str t) H'
section
variable {P : Program} {w : World} {K : PySem.W.Frag} {mg : Str → Option Value} {base : Heap} {CS : Addr}
theorem cl_show_state (T : Tx K mg CS) (D : Df K mg "show_state" S_show_state ["state"]) (c_p_places : Prp P w K mg base 1 CS "places" (spPlaces CS)) (c_p_numbers : Prp P w K mg base 1 CS "numbers" (spNumbers CS)) (c_p_arrays : Prp P w K mg base 1 CS "arrays" (spArrays CS)) : Cl P w K mg base 3 "show_state" (spShow CS) := by
  have sc := sc_show_state
  refine cl_mk D sc (fun vs H Q E h => ?_) (fun f cdv A outer s H vs Q E hr h => ?_)
  · obtain ⟨p, P, N, A, rfl, _⟩ := h
    rfl
  · obtain ⟨p, P, N, A, rfl, hst, hok, hnum, hz, k⟩ := h
    refine ⟨_, (pss_cons (ps_set (i := 1) sc.nd rfl (Or.inr rfl) (pe_p c_p_places hr (by decide) (pv 0) rfl))
      (pss_cons (ps_set (i := 2) sc.nd rfl (Or.inr rfl) (pe_p c_p_numbers hr (by decide) (pv 0) rfl))
      (pss_cons (ps_set (i := 3) sc.nd rfl (Or.inl rfl) (pe_p c_p_arrays hr (by decide) (pv 0) rfl))
      (pss_cons (ps_setLc (i := 4) (own := [("name", 5)]) rfl sc.nd rfl rfl (sw_true rfl rfl rfl (by decide +kernel)) (piL K (pe_callB (cr_sortedKeys rfl) (by rfl) T.b_sorted (by decide +kernel) (pa_cons (pv 1) pa_nil))) (blkOk_by (own := [("name", 5)]) (N := ["state", "places", "numbers", "arrays", "shown", "name", "cells", "place", "value"]) (sc := (defScope S_show_state)) (by decide +kernel)) (fun _ _ _ _ _ => (pg_name (i := 5) sc.nd rfl (Or.inl rfl))) (fun _ _ _ _ _ => pts_nil) (fun _ _ _ _ _ => (pe_jn (PJ.cons pe_str (PJ.cons (pe_fmt (pv 5)) (PJ.cons pe_str (PJ.cons (pe_fmt (pe_dget (hu_of hr) (pv 1) (pv 5) (fun _ _ => rfl))) PJ.nil)))))))
      (pss_cons (ps_set (i := 4) sc.nd rfl (Or.inl rfl) (pe_op op_cat (pv 4) (pe_lc (own := [("name", 5)]) rfl sc.nd (piL K (pe_callB (cr_sortedKeys rfl) (by rfl) T.b_sorted (by decide +kernel) (pa_cons (pv 2) pa_nil))) (blkOk_by (own := [("name", 5)]) (N := ["state", "places", "numbers", "arrays", "shown", "name", "cells", "place", "value"]) (sc := (defScope S_show_state)) (by decide +kernel)) (fun _ _ _ _ _ => (pg_name (i := 5) sc.nd rfl (Or.inl rfl))) (fun _ _ _ _ _ => pts_nil) (fun _ _ _ _ _ => (pe_jn (PJ.cons pe_str (PJ.cons (pe_fmt (pv 5)) (PJ.cons pe_str (PJ.cons (pe_fmt (pe_dget (hu_of hr) (pv 2) (pv 5) (fun _ _ => rfl))) PJ.nil)))))))))
      (pss_cons (ps_for PassesOwn.never rfl (piL K (pe_callB (cr_sortedKeys rfl) (by rfl) T.b_sorted (by decide +kernel) (pa_cons (pv 3) pa_nil))) (pg_name (i := 5) sc.nd rfl (Or.inl rfl))
      (pss_cons (ps_setLc (i := 6) (own := [("place", 7), ("value", 8)]) rfl sc.nd rfl rfl (sw_true rfl rfl rfl (by decide +kernel)) (piL K (pe_dget (hu_of hr) (pv 3) (pv 5) (fun _ _ => rfl))) (blkOk_by (own := [("place", 7), ("value", 8)]) (N := ["state", "places", "numbers", "arrays", "shown", "name", "cells", "place", "value"]) (sc := (defScope S_show_state)) (by decide +kernel)) (fun _ _ _ _ _ => (pgT K (n := 2) rfl (pgs_cons (pg_name (i := 7) sc.nd rfl (Or.inl rfl)) (pgs_cons (pg_name (i := 8) sc.nd rfl (Or.inl rfl)) pgs_nil)))) (fun _ _ _ _ _ => pts_nil) (fun _ _ _ _ _ => (pe_jn (PJ.cons (pe_fmt (pv 7)) (PJ.cons pe_str (PJ.cons (pe_fmt (pv 8)) PJ.nil))))))
      (pss_one (ps_expr (pe_bm PySem.F.plainAttrs_list PySem.F.slot_list_append PySem.F.type_list_append mt_append (pv 4) (pa_cons (pe_op op_add_str (pe_op op_add_str (pe_op op_add_str pe_str (pv 5)) pe_str) (pe_join pe_str (pv 6))) pa_nil))))))
      (pss_one (ps_ret (pe_join pe_str (pv 4)))))))))), ?_⟩
    obtain ⟨dx, ds, da, dr, hs⟩ := id hst
    have hsh := canon_sh hok
    have hEn := canon_in hnum
    have hsum := sumE_le hsh hEn
    rw [sz_canon] at hsum
    obtain ⟨⟨okP, okPn⟩, ⟨okN', okNn⟩, ⟨okA, okAn⟩, okR⟩ := hok
    obtain ⟨nP, nN, nA⟩ := hnum
    have zA := szA_len A
    unfold stz at hz
    -- places, numbers, arrays
    refine ⟨_, rfl, p, dx, _, rfl, hs.at_, p, P, N, A, rfl, hst, fun d1 H1 s1 _ hP1 => ?_⟩
    refine ⟨_, rfl, p, dx, _, rfl, s1 _ _ hs.at_, p, P, N, A, rfl, hst.same s1, fun d2 H2 s2 _ hN2 => ?_⟩
    have hP2 := hP1.same s2
    have s2 := s1.trans s2
    refine ⟨_, rfl, p, dx, _, rfl, s2 _ _ hs.at_, p, P, N, A, rfl, hst.same s2, okA.nodup, by omega, fun d3 H3 s3 _ hA3 => ?_⟩
    have hP3 := hP2.same s3
    have hN3 := hN2.same s3
    have hA3 := hA3.r
    have s3 := s2.trans s3
    -- shown = [f'place {name}={places[name]}' for name in sorted(places)]
    refine ⟨_, rfl, d1, _, P.map (·.1), rfl, Rd.of hP3, kvOf_keys _ _, fun ys q hperm hsrt hq => ?_⟩
    have eys := sorted_keys okP hperm hsrt
    subst eys
    have s4 := Same.new (o := .lst (((sortK P).map (·.1)).map V.str)) hq
    have a4 : upd H3 q (.lst (((sortK P).map (·.1)).map V.str)) q = some (.lst (((sortK P).map (·.1)).map V.str)) := upd_same
    obtain ⟨H4, e4⟩ : ∃ H4, H4 = upd H3 q (.lst (((sortK P).map (·.1)).map V.str)) := ⟨_, rfl⟩
    rw [← e4] at s4 a4 ⊢
    have hP4 := hP3.same s4
    have lP := (sortK_perm P).length_eq
    have lN := (sortK_perm N).length_eq
    refine ⟨q, rfl, ⟨_, SqL.of a4⟩, fun D hD => lc_grow walk_list hD (by rw [List.length_map, List.length_map]; omega) (fun H' s => SqL.of (s _ _ a4))
      (fun i acc _ => ∃ ts : List Str, acc = ts.map V.str ∧ ts.map tl = ((sortK P).take i).map fun x => showE (.pl x.1 x.2)) (fun _ _ _ _ _ _ _ h => h) ⟨[], rfl, rfl⟩ ?_ ?_⟩
    · rintro i v acc H5 H6 N1 N0 hi s5 hDl ha ⟨ts, rfl, hts⟩ k1 k0 ⟨rfl, hv⟩
      obtain ⟨nm, hnm, rfl⟩ := get_map_str hv
      rw [List.getElem?_map] at hnm
      obtain ⟨x, hx, rfl⟩ := Option.map_eq_some_iff.mp hnm
      have hxP : x ∈ P := (sortK_perm P).mem_iff.mp (List.mem_of_getElem? hx)
      have hl := nm_len (okPn x hxP)
      have hi2 := int_tlen (nP x hxP)
      have g : DGet H6 d1 (.str x.1) (some (.int x.2)) := by
        have := DGet.k (k := .inr x.1) (hP4.same s5)
        rw [valV_of, lookS_of okP (show (x.1, x.2) ∈ P from hxP)] at this
        exact this
      have e1 : (Str.empty ++ Str.ofString "place " : Str).length = 6 := rfl
      have e2 : (Str.ofString "=" : Str).length = 1 := rfl
      refine ⟨rfl, _, rfl, size_le (by rw [e1]; omega), _, rfl, .inl ⟨x.1, rfl, size_le (by omega), _, rfl, size_le (by rw [len_app, e1]; omega), _, rfl, size_le (by rw [len_app, len_app, e1, e2]; omega),
        _, rfl, _, rfl, d1, _, rfl, g, .inr ⟨x.2, rfl, okW_log (nP x hxP), _, rfl, size_le (Nat.le_trans (Nat.le_of_eq (len_app _ _)) (by rw [len_app, len_app, e1, e2]; exact Nat.le_trans (Nat.add_le_add_left hi2 _) (by omega))), k1 _ _ (L2.Same.refl _) ⟨ts ++ [Str.empty ++ Str.ofString "place " ++ x.1 ++ Str.ofString "=" ++ Str.ofString (toString x.2)], by rw [List.map_append]; rfl, ?_⟩⟩⟩⟩
      rw [take_succ_get hx, List.map_append, List.map_append, hts, List.map_singleton, List.map_singleton, shown_pl]
    rintro acc H5 s5 hDl ha ⟨ts1, rfl, hts1⟩
    rw [List.take_of_length_le (by rw [List.length_map, List.length_map]; omega)] at hts1
    have lt1 : ts1.length = P.length := by have := congrArg List.length hts1; rw [List.length_map, List.length_map] at this; omega
    have s35 := s4.trans s5
    have hN5 := hN3.same s35
    -- shown = shown + [..]
    refine ⟨_, rfl, _, rfl, d2, _, N.map (·.1), rfl, Rd.of hN5, kvOf_keys _ _, fun ys q2 hperm2 hsrt2 hq2 => ?_⟩
    have eys := sorted_keys okN' hperm2 hsrt2
    subst eys
    have s6 := Same.new (o := .lst (((sortK N).map (·.1)).map V.str)) hq2
    have a6 : upd H5 q2 (.lst (((sortK N).map (·.1)).map V.str)) q2 = some (.lst (((sortK N).map (·.1)).map V.str)) := upd_same
    obtain ⟨H6, e6⟩ : ∃ H6, H6 = upd H5 q2 (.lst (((sortK N).map (·.1)).map V.str)) := ⟨_, rfl⟩
    rw [← e6] at s6 a6 ⊢
    have hN6 := hN5.same s6
    refine ⟨q2, rfl, ⟨_, SqL.of a6⟩, fun D2 hD2 => lc_grow walk_list hD2 (by rw [List.length_map, List.length_map]; omega) (fun H' s => SqL.of (s _ _ a6))
      (fun i acc _ => ∃ ts : List Str, acc = ts.map V.str ∧ ts.map tl = ((sortK N).take i).map fun x => showE (.va x.1 x.2)) (fun _ _ _ _ _ _ _ h => h) ⟨[], rfl, rfl⟩ ?_ ?_⟩
    · rintro i v acc H7 H8 N1 N0 hi s7 hDl ha ⟨ts, rfl, hts⟩ k1 k0 ⟨rfl, hv⟩
      obtain ⟨nm, hnm, rfl⟩ := get_map_str hv
      rw [List.getElem?_map] at hnm
      obtain ⟨x, hx, rfl⟩ := Option.map_eq_some_iff.mp hnm
      have hxP : x ∈ N := (sortK_perm N).mem_iff.mp (List.mem_of_getElem? hx)
      have hl := nm_len (okNn x hxP)
      have hi2 := int_tlen (nN x hxP)
      have g : DGet H8 d2 (.str x.1) (some (.int x.2)) := by
        have := DGet.k (k := .inr x.1) (hN6.same s7)
        rw [valV_of, lookS_of okN' (show (x.1, x.2) ∈ N from hxP)] at this
        exact this
      have e1 : (Str.empty ++ Str.ofString "value " : Str).length = 6 := rfl
      have e2 : (Str.ofString "=" : Str).length = 1 := rfl
      refine ⟨rfl, _, rfl, size_le (by rw [e1]; omega), _, rfl, .inl ⟨x.1, rfl, size_le (by omega), _, rfl, size_le (by rw [len_app, e1]; omega), _, rfl, size_le (by rw [len_app, len_app, e1, e2]; omega),
        _, rfl, _, rfl, d2, _, rfl, g, .inr ⟨x.2, rfl, okW_log (nN x hxP), _, rfl, size_le (Nat.le_trans (Nat.le_of_eq (len_app _ _)) (by rw [len_app, len_app, e1, e2]; exact Nat.le_trans (Nat.add_le_add_left hi2 _) (by omega))), k1 _ _ (L2.Same.refl _) ⟨ts ++ [Str.empty ++ Str.ofString "value " ++ x.1 ++ Str.ofString "=" ++ Str.ofString (toString x.2)], by rw [List.map_append]; rfl, ?_⟩⟩⟩⟩
      rw [take_succ_get hx, List.map_append, List.map_append, hts, List.map_singleton, List.map_singleton, shown_va]
    rintro acc H7 s7 hDl2 ha ⟨ts2, rfl, hts2⟩
    rw [List.take_of_length_le (by rw [List.length_map, List.length_map]; omega)] at hts2
    have lt2 : ts2.length = N.length := by have := congrArg List.length hts2; rw [List.length_map, List.length_map] at this; omega
    have s67 := s6.trans s7
    refine ⟨D, D2, _, _, rfl, rfl, s67 _ _ hDl, hDl2, by rw [List.length_map, List.length_map]; exact size_le (by omega), fun l hl => ?_⟩
    rw [← List.map_append]
    have s8 := Same.new (o := .lst ((ts1 ++ ts2).map V.str)) hl
    have a8 : upd H7 l (.lst ((ts1 ++ ts2).map V.str)) l = some (.lst ((ts1 ++ ts2).map V.str)) := upd_same
    have s78 := s35.trans (s67.trans s8)
    have hlH7 := hl
    have hA8 := hA3.same s78
    obtain ⟨H8, e8⟩ : ∃ H8, H8 = upd H7 l (.lst ((ts1 ++ ts2).map V.str)) := ⟨_, rfl⟩
    rw [← e8] at s8 a8 hA8 s78 ⊢
    -- the arrays
    obtain ⟨rs, hr1, hr2⟩ := hA8
    have hrk := rws_keys hr2
    have hrl := paired_len hr2
    refine ⟨_, rfl, d3, _, A.map (·.1), rfl, Rd.of hr1, by rw [kvOf_keys, hrk], fun ys q3 hperm3 hsrt3 hq3 => ?_⟩
    have eys := sorted_keys okA.nodup hperm3 hsrt3
    rw [sortK_self okA] at eys
    subst eys
    have s9 := Same.new (o := .lst ((A.map (·.1)).map V.str)) hq3
    have a9 : upd H8 q3 (.lst ((A.map (·.1)).map V.str)) q3 = some (.lst ((A.map (·.1)).map V.str)) := upd_same
    have hl9 := s9 _ _ a8
    obtain ⟨H9, e9⟩ : ∃ H9, H9 = upd H8 q3 (.lst ((A.map (·.1)).map V.str)) := ⟨_, rfl⟩
    rw [← e9] at s9 a9 hl9 ⊢
    have hA9 : DiR H9 d3 A := ⟨rs, s9 _ _ hr1, rws_same s9 hr2⟩
    have nlq : q3 ≠ l := fun e => by rw [e, a8] at hq3; cases hq3
    have sb : L2.Same H7 H9 := s8.trans s9
    refine ⟨q3, rfl, ⟨_, SqL.of a9⟩, ?_⟩
    refine for_it walk_list (fun i σ H' => (∀ a o, a ≠ l → H9 a = some o → H' a = some o) ∧ L2.Same H7 H' ∧ ∃ (v5 v6 v7 v8 : Option V) (ts : List Str), σ = [some (.ref p), some (.ref d1), some (.ref d2), some (.ref d3), some (.ref l), v5, v6, v7, v8] ∧ H' l = some (.lst (ts.map V.str)) ∧
        ts.map tl = (ts1 ++ ts2).map tl ++ (A.take i).map fun x => showE (.ar x.1 x.2))
      ⟨fun _ _ _ h => h, sb, _, _, none, none, ts1 ++ ts2, rfl, hl9, by rw [List.take_zero, List.map_nil, List.append_nil]⟩ (fun i σ H' _ h => SqL.of (h.1 _ _ nlq a9)) ?_ ?_
    · rintro i v σ H10 H11 hi ⟨kp, sm, v5, v6, v7, v8, ts, rfl, hll, hts⟩ ⟨rfl, hv⟩
      obtain ⟨nm, hnm, rfl⟩ := get_map_str hv
      rw [List.getElem?_map] at hnm
      obtain ⟨x, hx, rfl⟩ := Option.map_eq_some_iff.mp hnm
      have hxA : x ∈ A := List.mem_of_getElem? hx
      obtain ⟨rs', hr1', hr2'⟩ := hA9
      obtain ⟨b, hb, hbr⟩ := rws_look hr2' (lookS_of okA.nodup (show (x.1, x.2) ∈ A from hxA))
      obtain ⟨us, hu1, hu2⟩ := hbr
      have hr1'' := kp _ _ (ne_of hr1' hl9 (by intro z; cases z)) hr1'
      have nbl : b ≠ l := by
        intro e
        rw [e] at hu1
        have := sb
        rw [hl9] at hu1
        cases hx2 : x.2 with
        | nil => exact (okR x hxA).1 hx2
        | cons y ys =>
          rw [hx2] at hu2
          cases hu2 with
          | @cons u _ us' _ hu _ =>
            have h1 : (ts1 ++ ts2).map V.str = (u :: us').map V.ref := by
              have := hu1
              injection this with this
              injection this
            cases h3 : ts1 ++ ts2 with
            | nil => rw [h3] at h1; cases h1
            | cons t ts => rw [h3] at h1; cases h1
      have hu1' := kp _ _ nbl hu1
      have hu2' : Paired (PrAt H11) us x.2 := paired_imp (fun _ _ r => kp _ _ (ne_of r hl9 (by intro z; cases z)) r) hu2
      have g : DGet H11 d3 (.str x.1) (some (.ref b)) := by
        have := DGet.k (k := .inr x.1) hr1''
        rw [valV_of, hb] at this
        exact this
      have hxl := szA_row hxA
      have hul := paired_len hu2
      -- cells = [f'{place}:{value}' for place, value in arrays[name]]
      refine ⟨_, rfl, _, rfl, d3, _, rfl, g, b, rfl, ⟨_, SqL.of hu1'⟩, fun D3 hD3 => lc_grow walk_list hD3 (by rw [List.length_map]; omega) (fun H' s => SqL.of (s _ _ hu1'))
        (fun j acc _ => ∃ cs : List Str, acc = cs.map V.str ∧ cs.map tl = (x.2.take j).map showC) (fun _ _ _ _ _ _ _ h => h) ⟨[], rfl, rfl⟩ ?_ ?_⟩
      · rintro j v acc H12 H13 N1 N0 hj s12 hDl ha ⟨cs, rfl, hcs⟩ k1 k0 ⟨rfl, hv⟩
        obtain ⟨u, hu, rfl⟩ := get_map_ref hv
        obtain ⟨c, hc, hcu⟩ := paired_get hu2' hu
        obtain ⟨w1, w2⟩ := nA x hxA c (List.mem_of_getElem? hc)
        have i1 := int_tlen w1
        have i2 := int_tlen w2
        have e0 : (Str.empty : Str).length = 0 := rfl
        have e2 : (Str.ofString ":" : Str).length = 1 := rfl
        have l1 : (Str.empty ++ Str.ofString (toString c.1)).length ≤ 62 := by rw [len_app, e0]; omega
        have l2 : (Str.empty ++ Str.ofString (toString c.1) ++ Str.ofString ":").length ≤ 63 := by rw [len_app, e2]; omega
        have l3 : (Str.empty ++ Str.ofString (toString c.1) ++ Str.ofString ":" ++ Str.ofString (toString c.2)).length ≤ 125 := by rw [len_app]; omega
        refine ⟨u, _, rfl, SqT.of (hcu.same s12), rfl, _, _, rfl, _, _, rfl, rfl, rfl, _, rfl, .inr ⟨c.1, rfl, okW_log w1, _, rfl, size_le (Nat.le_trans l1 (by omega)), _, rfl, size_le (Nat.le_trans l2 (by omega)), _, rfl, .inr ⟨c.2, rfl, okW_log w2, _, rfl, size_le (Nat.le_trans l3 (by omega)),
          k1 _ _ (L2.Same.refl _) ⟨cs ++ [Str.empty ++ Str.ofString (toString c.1) ++ Str.ofString ":" ++ Str.ofString (toString c.2)], by rw [List.map_append]; rfl, ?_⟩⟩⟩⟩
        rw [take_succ_get hc, List.map_append, List.map_append, hcs, List.map_singleton, List.map_singleton, shown_c]
      rintro acc H12 s12 hDl ha ⟨cs, rfl, hcs⟩
      rw [List.take_of_length_le (by rw [List.length_map]; omega)] at hcs
      have lcs : cs.length = x.2.length := by have := congrArg List.length hcs; rw [List.length_map, List.length_map] at this; omega
      have hsm := join_sum 1 cs _ hcs
      have hrt := rowT_small (nA x hxA)
      have hnl : x.2.map showC ≠ [] := fun z => (okR x hxA).1 (List.map_eq_nil_iff.mp z)
      have hjl := joinL_len [44] hnl
      have hjl2 : (rowT x.2).length + 1 = ((x.2.map showC).map fun p => p.length + 1).sum := hjl
      have hjoin : tl (Txt.join (Str.ofString ",") cs) = rowT x.2 := by
        rw [join_eq, tl_join, tl_comma, hcs]
        rfl
      have hjlen : (Txt.join (Str.ofString ",") cs).length = (rowT x.2).length := by rw [str_len, hjoin]
      have hnml := nm_len (okAn x hxA)
      have e1 : (Str.ofString "array " : Str).length = 6 := rfl
      have e2 : (Str.ofString "=" : Str).length = 1 := rfl
      have e3 : (Str.ofString "," : Str).length = 1 := rfl
      have l1 : (Str.ofString "array " ++ x.1).length ≤ 12 := by rw [len_app, e1]; omega
      have l2 : (Str.ofString "array " ++ x.1 ++ Str.ofString "=").length ≤ 13 := by rw [len_app, e2]; omega
      have hll12 := s12 _ _ hll
      -- shown.append('array ' + name + '=' + ','.join(cells))
      refine ⟨_, rfl, .inl ⟨rfl, _, SqL.of hll12⟩, _, rfl, _, _, rfl, rfl, size_le (by rw [e1]; omega), _, _, rfl, rfl, size_le (by rw [e2]; omega), ⟨_, rfl⟩, _, rfl, Str.ofString ",", D3, cs, rfl, rfl, .inl (SqL.of hDl), ?_, _, _, rfl, rfl, size_le (by rw [hjlen]; omega), l, _, _, rfl, rfl, hll12, ?_, ?_⟩
      · rw [e3, hsm]
        omega
      · have : ts.length = (ts1 ++ ts2).length + (A.take i).length := by have := congrArg List.length hts; rw [List.length_map, List.length_append, List.length_map, List.length_map] at this; omega
        rw [List.length_append, List.length_take] at this
        rw [List.length_map]
        exact size_lt (by omega)
      · refine ⟨fun a o hne h => ?_, Same.mut (sm.trans s12) hlH7, _, _, _, _, ts ++ [Str.ofString "array " ++ x.1 ++ Str.ofString "=" ++ Txt.join (Str.ofString ",") cs], rfl, ?_, ?_⟩
        · rw [upd_ne hne]
          exact s12 _ _ (kp _ _ hne h)
        · rw [upd_same, List.map_append]
          rfl
        · rw [List.map_append, hts, take_succ_get hx, List.map_singleton, shown_ar _ _ _ hjoin, List.append_assoc, List.map_append (l₁ := A.take i)]
          rfl
    · rintro σ H10 ⟨kp, sm, v5, v6, v7, v8, ts, rfl, hll, hts⟩
      rw [List.take_of_length_le (by rw [List.length_map, List.length_map]; omega), List.map_append, hts1, hts2] at hts
      have ets : ts.map tl = (canon P N A).map showE := by
        rw [hts]
        unfold canon
        rw [List.map_append, List.map_append, List.map_map, List.map_map, List.map_map]
        rfl
      have hjs := join_sum 2 ts _ ets
      rw [List.map_map] at hjs
      have e2 : (Str.ofString "; " : Str).length = 2 := rfl
      refine ⟨⟨_, rfl⟩, _, rfl, Str.ofString "; ", l, ts, rfl, rfl, .inl (SqL.of hll), ?_, ?_⟩
      · rw [e2, hjs]
        refine Nat.le_trans hsum ?_
        unfold stz
        omega
      · refine k _ H10 ((s3.trans (s35.trans s67)).trans sm) ?_
        rw [join_eq, tl_join, tl_semi, ets]
        rfl
end
end A80
end
section
set_option Elab.async false
set_option maxRecDepth 100000
set_option maxHeartbeats 4000000
namespace A80
open PySem PySem.Spec L2 PyProof.Rows TL
/-! ### read_integer -/
def optV {α : Type} (f : α → V) : Option α → List V
  | some n => [f n]
  | none => []
def spReadInt : Sp := fun vs H Q _ => ∃ x : Str, vs = [.str x] ∧ x.length ≤ 1000000 ∧ ∀ p H', Same H H' → H p = none → H' p = some (.lst (optV V.int (readI (tl x)))) → Q (.ref p) H'
abbrev S_read_integer : Stmt := topS 17
theorem sc_read_integer : FnScope ["text", "digits", "sign"] ["text"] (defScope S_read_integer) := ⟨rfl, rfl, rfl, by decide +kernel, rfl, by decide +kernel, by decide +kernel⟩
theorem body_cut (x : Str) (h : (tl x).take 1 = [45]) : tl (cutS x (some ((1 : Nat) : Int)) none) = bodyI (tl x) := by
  rw [cut_drop]
  unfold bodyI
  rw [if_pos h]
section
variable {P : Program} {w : World} {K : PySem.W.Frag} {mg : Str → Option Value} {base : Heap} {CS : Addr}
theorem cl_read_integer (T : Tx K mg CS) (D : Df K mg "read_integer" S_read_integer ["text"]) : Cl P w K mg base 1 "read_integer" spReadInt := by
  have sc := sc_read_integer
  refine cl_mk D sc (fun vs H Q E h => ?_) (fun f cdv A outer s H vs Q E hr h => ?_)
  · obtain ⟨x, rfl, _⟩ := h
    rfl
  · obtain ⟨x, rfl, hl, k'⟩ := h
    have k : ∀ p, H p = none → Q (.ref p) (upd H p (.lst (optV V.int (readI (tl x))))) := fun p hp => k' p _ (Same.new hp) hp upd_same
    refine ⟨_, (pss_cons (ps_set (i := 1) sc.nd rfl (Or.inl rfl) (pv 0))
      (C8.pss_cut (ps_if (pt_cmpR op_eq (pe_slice sl_str (pv 0) po_none (po_some pe_int)) pe_str (nomark _))
      (pss_one (ps_set (i := 1) sc.nd rfl (Or.inl rfl) (pe_slice sl_str (pv 0) (po_some pe_int) po_none)))
      pss_nil)
      (pss_cons (ps_if (PW.pt (pw_or (pt_cmpR op_eq (pv 1) pe_str (nomark _)) (pw_or1 (pt_cmpR op_gt (pe_callB call_len_str (by rfl) T.b_len (by decide +kernel) (pa_cons (pv 1) pa_nil)) pe_int (nomark _)))))
      (pss_one (ps_ret (pe_lst pa_nil)))
      pss_nil)
      (pss_cons (ps_for PassesOwn.never rfl (pi_str (pv 1)) (pg_name (i := 2) sc.nd rfl (Or.inl rfl))
      (pss_one (ps_if (pt_cmpR op_notIn_sign (pv 2) (pe_gc rfl T.gDIGITS) rfl)
      (pss_one (ps_ret (pe_lst pa_nil)))
      pss_nil)))
      (pss_cons (ps_if (PW.pt (pw_and (pt_cmpR op_eq (pe_ix ix_str (pv 1) pe_int (fun _ _ => rfl)) pe_str (nomark _)) (pw_and1 (pt_cmpR op_ne (pv 0) pe_str (nomark _)))))
      (pss_one (ps_ret (pe_lst pa_nil)))
      pss_nil)
      (pss_one (ps_ret (pe_lst (pa_cons (pe_callTy call_int_str (by rfl) T.b_int (by decide +kernel) (pa_cons (pv 0) pa_nil)) pa_nil))))))))), ?_⟩
    -- digits = text, without the sign
    refine ⟨_, rfl, fun σ H' => H' = H ∧ ∃ d : Str, σ = [some (.str x), some (.str d), none] ∧ tl d = bodyI (tl x) ∧ d.length ≤ 1000000, ?_, ?_⟩
    · refine ⟨_, rfl, 1, rfl, x, rfl, size_le (by omega), rfl, _, rfl, ite_b (fun c => ?_) (fun c => ?_)⟩
      · have e := str_eq.mp (of_decide_eq_true c)
        rw [show ((1 : Int)) = ((1 : Nat) : Int) from rfl, cut_take] at e
        refine ⟨_, rfl, 1, rfl, x, rfl, size_le (by omega), rfl, _, rfl, body_cut x e, ?_⟩
        exact Nat.le_trans (cutS_length _ _ _) hl
      · have e : ¬ (tl x).take 1 = [45] := fun z => of_decide_eq_false c (str_eq.mpr (by rw [show ((1 : Int)) = ((1 : Nat) : Int) from rfl, cut_take]; exact z))
        refine ⟨rfl, x, rfl, ?_, hl⟩
        unfold bodyI
        rw [if_neg e]
    rintro σ H' ⟨rfl, d, rfl, hd, hdl⟩
    -- if digits == '' or len(digits) > 60: return []
    have gone : readI (tl x) = none → ∀ p, H' p = none → Q (.ref p) (upd H' p (.lst [])) := fun e p hp => by
      have := k p hp
      rw [e] at this
      exact this
    refine ⟨_, rfl, rfl, _, rfl, ite_b (fun c => ?_) (fun c => ?_)⟩
    · have e := str_eq.mp (of_decide_eq_true c)
      refine iteT ⟨Nat.zero_le _, gone ?_⟩
      unfold readI
      rw [if_pos (.inl (by rw [← hd, e]; rfl))]
    have n0 : bodyI (tl x) ≠ [] := fun z => of_decide_eq_false c (str_eq.mpr (by rw [hd, z]; rfl))
    refine ⟨_, rfl, d, rfl, size_le (by omega), _, _, rfl, rfl, _, rfl, ite_b (fun c => ?_) (fun c => ?_)⟩
    · have c := of_decide_eq_true c
      refine ⟨Nat.zero_le _, gone ?_⟩
      unfold readI
      rw [if_pos (.inr (by rw [← hd, ← str_len]; omega))]
    have n60 : (bodyI (tl x)).length ≤ 60 := by
      have c := of_decide_eq_false c
      rw [← hd, ← str_len]
      omega
    -- for sign in digits: if sign not in DIGITS: return []
    refine ⟨_, rfl, d, rfl, for_str (x := d) (fun i σ H1 => H1 = H' ∧ ∃ v, σ = [some (.str x), some (.str d), v] ∧ ((tl d).take i).all isDig = true) ⟨rfl, _, rfl, rfl⟩ ?_ ?_⟩
    · rintro i c σ H1 hi ⟨rfl, v, rfl, ha⟩
      refine ⟨_, rfl, c, _, rfl, rfl, _, rfl, ite_b (fun q => ?_) (fun q => ?_)⟩
      · rw [mem_digits] at q
        refine ⟨Nat.zero_le _, gone ?_⟩
        unfold readI
        rw [if_neg (fun z => z.elim n0 (Nat.not_lt.mpr n60)), if_pos]
        rw [← hd, List.all_eq_false]
        exact ⟨c, List.mem_of_getElem? hi, by simpa using q⟩
      · rw [mem_digits] at q
        refine ⟨rfl, _, rfl, ?_⟩
        rw [take_succ_get hi, List.all_append, ha]
        simpa using q
    rintro σ H1 ⟨rfl, v, rfl, ha⟩
    rw [List.take_length, hd] at ha
    -- if digits[0] == '0' and text != '0': return []
    obtain ⟨c0, r0, e0⟩ : ∃ c0 r0, bodyI (tl x) = c0 :: r0 := by
      cases e : bodyI (tl x) with
      | nil => exact absurd e n0
      | cons a b => exact ⟨a, b, rfl⟩
    have nd : ¬ (bodyI (tl x)).all isDig = false := by rw [ha]; decide
    have n1 : ¬ (bodyI (tl x) = [] ∨ 60 < (bodyI (tl x)).length) := fun z => z.elim n0 (Nat.not_lt.mpr n60)
    have last : ¬ ((bodyI (tl x)).take 1 = [48] ∧ tl x ≠ [48]) → ∃ n, readI (tl x) = some n := fun z => by
      unfold readI
      rw [if_neg n1, if_neg nd, if_neg z]
      exact ⟨_, rfl⟩
    have fin : (∃ n, readI (tl x) = some n) → _ := fun ⟨n, hn⟩ => (⟨_, rfl, x, n, rfl, intText_read hn, (by
        have h1 := (show_readI hn).1
        have h2 := showI_len (show_readI hn).2
        rw [← h1, ← str_len] at h2
        omega), (show 1 ≤ sizeLine from size_le (by omega)), fun p hp => by
        have := k p hp
        rw [hn] at this
        exact this⟩ : tRet (tLst (tCons (tCB (fun xs H Q => ∃ a n, xs = [V.str a] ∧ PySem.intText? a = some n ∧ a.length ≤ 640 ∧ Q (V.int n) H) (tCons (tVar 0) tNil)) tNil)) { nx := fun _ H' => Q .non H', rt := Q } [some (.str x), some (.str d), v] H1)
    refine ⟨_, rfl, d, 0, c0, rfl, rfl, size_le (by omega), atI_get (i := 0) (by show (tl d)[0]? = some c0; rw [hd, e0]; rfl), rfl, _, rfl, ite_b (fun c => ?_) (fun c => ?_)⟩
    · have c : [c0] = [48] := str_eq.mp (of_decide_eq_true c)
      refine ⟨_, rfl, rfl, _, rfl, ite_b (fun c2 => ?_) (fun c2 => ?_)⟩
      · refine ⟨Nat.zero_le _, gone ?_⟩
        have c2 : ¬ V.str x = V.str (Str.ofString "0") := by simpa using c2
        unfold readI
        rw [if_neg n1, if_neg nd, if_pos ⟨by rw [e0]; exact c, fun z => c2 (str_eq.mpr z)⟩]
      · have c2 : V.str x = V.str (Str.ofString "0") := by simpa using c2
        exact fin (last fun z => z.2 (str_eq.mp c2))
    · refine iteF (fin (last fun z => of_decide_eq_false c (str_eq.mpr ?_)))
      have := z.1
      rw [e0] at this
      exact this
end
end A80
end
section
set_option Elab.async false
set_option maxRecDepth 100000
set_option maxHeartbeats 4000000
namespace A80
open PySem PySem.Spec L2 PyProof.Rows TL
/-! ### _law_number -/
abbrev S_law_number : Stmt := topS 32
theorem sc_law_number : FnScope ["_law_text", "_law_body", "_law_digits", "_law_sign"] ["_law_text"] (defScope S_law_number) := ⟨rfl, rfl, rfl, by decide +kernel, rfl, by decide +kernel, by decide +kernel⟩
theorem lit_digits : (Str.ofString "0123456789").cps.toList = tl (Str.ofString "0123456789") := rfl
section
variable {P : Program} {w : World} {K : PySem.W.Frag} {mg : Str → Option Value} {base : Heap} {CS : Addr}
theorem cl_law_number (T : Tx K mg CS) (D : Df K mg "_law_number" S_law_number ["_law_text"]) : Cl P w K mg base 1 "_law_number" spReadInt := by
  have sc := sc_law_number
  refine cl_mk D sc (fun vs H Q E h => ?_) (fun f cdv A outer s H vs Q E hr h => ?_)
  · obtain ⟨x, rfl, _⟩ := h
    rfl
  · obtain ⟨x, rfl, hl, k⟩ := h
    refine ⟨_, (C8.pss_cut (ps_set (i := 1) sc.nd rfl (Or.inl rfl) (pe_ifExp (pt_cmpR op_eq (pe_slice sl_str (pv 0) po_none (po_some pe_int)) pe_str (nomark _)) (pe_slice sl_str (pv 0) (po_some pe_int) po_none) (pv 0)))
      (pss_cons (ps_setLc (i := 2) (own := [("_law_sign", 3)]) rfl sc.nd rfl rfl (sw_true rfl rfl rfl (by decide +kernel)) (pi_str (pv 1)) (blkOk_by (own := [("_law_sign", 3)]) (N := ["_law_text", "_law_body", "_law_digits", "_law_sign"]) (sc := (defScope S_law_number)) (by decide +kernel)) (fun _ _ _ _ _ => (pg_name (i := 3) sc.nd rfl (Or.inl rfl))) (fun _ _ _ _ _ => (pts_one (pt_cmpR op_in_sign (pv 3) pe_str rfl))) (fun _ _ _ _ _ => (pv 3)))
      (pss_cons (ps_if (PW.pt (pw_or (pt_cmpR op_eq (pv 1) pe_str (nomark _)) (pw_or (pt_cmpR op_lt (pe_callB (cLen K) (by rfl) T.b_len (by decide +kernel) (pa_cons (pv 2) pa_nil)) (pe_callB call_len_str (by rfl) T.b_len (by decide +kernel) (pa_cons (pv 1) pa_nil)) (nomark _)) (pw_or1 (pt_cmpR op_gt (pe_callB call_len_str (by rfl) T.b_len (by decide +kernel) (pa_cons (pv 1) pa_nil)) pe_int (nomark _))))))
      (pss_one (ps_ret (pe_lst pa_nil)))
      pss_nil)
      (pss_cons (ps_if (PW.pt (pw_and (pt_cmpR op_eq (pe_ix ix_str (pv 1) pe_int (fun _ _ => rfl)) pe_str (nomark _)) (pw_and1 (pt_cmpR op_ne (pv 0) pe_str (nomark _)))))
      (pss_one (ps_ret (pe_lst pa_nil)))
      pss_nil)
      (pss_one (ps_ret (pe_lst (pa_cons (pe_callTy call_int_str (by rfl) T.b_int (by decide +kernel) (pa_cons (pv 0) pa_nil)) pa_nil)))))))), ?_⟩
    -- body = text, without the sign
    refine ⟨fun σ H' => H' = H ∧ ∃ d : Str, σ = [some (.str x), some (.str d), none, none] ∧ tl d = bodyI (tl x) ∧ d.length ≤ 1000000, ?_, ?_⟩
    · refine ⟨_, rfl, 1, rfl, x, rfl, size_le (by omega), rfl, _, rfl, ite_b (fun c => ?_) (fun c => ?_)⟩
      · have e := str_eq.mp (of_decide_eq_true c)
        rw [show ((1 : Int)) = ((1 : Nat) : Int) from rfl, cut_take] at e
        refine ⟨_, rfl, 1, rfl, x, rfl, size_le (by omega), rfl, _, rfl, body_cut x e, ?_⟩
        exact Nat.le_trans (cutS_length _ _ _) hl
      · have e : ¬ (tl x).take 1 = [45] := fun z => of_decide_eq_false c (str_eq.mpr (by rw [show ((1 : Int)) = ((1 : Nat) : Int) from rfl, cut_take]; exact z))
        refine ⟨_, rfl, rfl, x, rfl, ?_, hl⟩
        unfold bodyI
        rw [if_neg e]
    rintro σ H' ⟨rfl, d, rfl, hd, hdl⟩
    -- digits = [sign for sign in body if sign in '0123456789']
    have hdl' := str_len d
    refine ⟨_, rfl, d, rfl, fun D hD => lc_grow walk_str hD (by show d.length ≤ _; omega) (fun _ _ => trivial) (fun i acc _ => acc.length = (((tl d).take i).filter isDig).length) (fun _ _ _ _ _ _ _ h => h) rfl ?_ ?_⟩
    · rintro i v acc H1 H2 N1 N0 hi s1 hl1 ha hp k1 k0 ⟨rfl, c, hc, rfl⟩
      have hc := get_sign hc
      refine ⟨rfl, _, rfl, c, _, rfl, rfl, _, rfl, ite_b (fun q => ?_) (fun q => ?_)⟩
      · rw [lit_digits, mem_digits] at q
        refine ⟨_, rfl, k1 _ _ (L2.Same.refl _) ?_⟩
        rw [take_succ_get hc, List.filter_append, List.length_append, List.length_append, hp]
        simp [q]
      · rw [lit_digits, mem_digits] at q
        refine k0 _ (L2.Same.refl _) ?_
        rw [take_succ_get hc, List.filter_append, List.length_append, hp]
        simp [q]
    rintro acc H1 s1 hl1 ha hp
    have hz : d.cps.size = (tl d).length := hdl'
    rw [hz, List.take_length] at hp
    have gone : readI (tl x) = none → ∀ p, H1 p = none → Q (.ref p) (upd H1 p (.lst [])) := fun e p hp => by
      refine k p _ (Same.step s1 hp) (s1.free hp) ?_
      rw [e]
      exact upd_same
    have hall : acc.length = (tl d).length ↔ (tl d).all isDig = true := by
      rw [hp, List.length_filter_eq_length_iff, List.all_eq_true]
    have hle : acc.length ≤ (tl d).length := by
      rw [hp]
      exact List.length_filter_le _ _
    -- if body == '' or len(digits) < len(body) or len(body) > 60: return []
    refine ⟨_, rfl, rfl, _, rfl, ite_b (fun c => ?_) (fun c => ?_)⟩
    · have e := str_eq.mp (of_decide_eq_true c)
      refine iteT ⟨Nat.zero_le _, gone ?_⟩
      unfold readI
      rw [if_pos (.inl (by rw [← hd, e]; rfl))]
    have n0 : bodyI (tl x) ≠ [] := fun z => of_decide_eq_false c (str_eq.mpr (by rw [hd, z]; rfl))
    by_cases n60 : 60 < (bodyI (tl x)).length
    · have gn : readI (tl x) = none := by
        unfold readI
        rw [if_pos (.inr n60)]
      refine ⟨_, rfl, D, _, rfl, .inl (SqL.of hl1), _, rfl, d, rfl, size_le (by omega), _, _, rfl, rfl, _, rfl, ite_b (fun c => ?_) (fun c => ?_)⟩
      · exact iteT ⟨Nat.zero_le _, gone gn⟩
      · refine ⟨_, rfl, d, rfl, size_le (by omega), _, _, rfl, rfl, _, rfl, ite_t (decide_eq_true ?_) ⟨Nat.zero_le _, gone gn⟩⟩
        rw [← hd, ← str_len] at n60
        omega
    have n1 : ¬ (bodyI (tl x) = [] ∨ 60 < (bodyI (tl x)).length) := fun z => z.elim n0 n60
    refine ⟨_, rfl, D, _, rfl, .inl (SqL.of hl1), _, rfl, d, rfl, size_le (by omega), _, _, rfl, rfl, _, rfl, ite_b (fun c => ?_) (fun c => ?_)⟩
    · refine iteT ⟨Nat.zero_le _, gone ?_⟩
      have c := of_decide_eq_true c
      unfold readI
      rw [if_neg n1, if_pos]
      rw [← hd]
      refine Bool.eq_false_iff.mpr fun q => ?_
      have := hall.mpr q
      omega
    have ha2 : (tl d).all isDig = true := by
      have c := of_decide_eq_false c
      exact hall.mp (by omega)
    rw [hd] at ha2
    have nd : ¬ (bodyI (tl x)).all isDig = false := by rw [ha2]; decide
    refine ⟨_, rfl, d, rfl, size_le (by omega), _, _, rfl, rfl, _, rfl, ite_f (decide_eq_false ?_) ?_⟩
    · rw [← hd, ← str_len] at n60
      omega
    -- if body[0] == '0' and text != '0': return []
    obtain ⟨c0, r0, e0⟩ : ∃ c0 r0, bodyI (tl x) = c0 :: r0 := by
      cases e : bodyI (tl x) with
      | nil => exact absurd e n0
      | cons a b => exact ⟨a, b, rfl⟩
    have last : ¬ ((bodyI (tl x)).take 1 = [48] ∧ tl x ≠ [48]) → ∃ n, readI (tl x) = some n := fun z => by
      unfold readI
      rw [if_neg n1, if_neg nd, if_neg z]
      exact ⟨_, rfl⟩
    have fin : (∃ n, readI (tl x) = some n) → _ := fun ⟨n, hn⟩ => (⟨_, rfl, x, n, rfl, intText_read hn, (by
        have h1 := (show_readI hn).1
        have h2 := showI_len (show_readI hn).2
        rw [← h1, ← str_len] at h2
        omega), (show 1 ≤ sizeLine from size_le (by omega)), fun p hp => by
        refine k p _ (Same.step s1 hp) (s1.free hp) ?_
        rw [hn]
        exact upd_same⟩ : tRet (tLst (tCons (tCB (fun xs H Q => ∃ a n, xs = [V.str a] ∧ PySem.intText? a = some n ∧ a.length ≤ 640 ∧ Q (V.int n) H) (tCons (tVar 0) tNil)) tNil)) { nx := fun _ H' => Q .non H', rt := Q } [some (.str x), some (.str d), some (.ref D), none] H1)
    refine ⟨_, rfl, d, 0, c0, rfl, rfl, size_le (by omega), atI_get (i := 0) (by show (tl d)[0]? = some c0; rw [hd, e0]; rfl), rfl, _, rfl, ite_b (fun c => ?_) (fun c => ?_)⟩
    · have c : [c0] = [48] := str_eq.mp (of_decide_eq_true c)
      refine ⟨_, rfl, rfl, _, rfl, ite_b (fun c2 => ?_) (fun c2 => ?_)⟩
      · refine ⟨Nat.zero_le _, gone ?_⟩
        have c2 : ¬ V.str x = V.str (Str.ofString "0") := by simpa using c2
        unfold readI
        rw [if_neg n1, if_neg nd, if_pos ⟨by rw [e0]; exact c, fun z => c2 (str_eq.mpr z)⟩]
      · have c2 : V.str x = V.str (Str.ofString "0") := by simpa using c2
        exact fin (last fun z => z.2 (str_eq.mp c2))
    · refine iteF (fin (last fun z => of_decide_eq_false c (str_eq.mpr ?_)))
      have := z.1
      rw [e0] at this
      exact this
end
end A80
end
section
set_option Elab.async false
set_option maxRecDepth 100000
set_option maxHeartbeats 4000000
namespace A80
open PySem PySem.Spec L2 PyProof.Rows TL
/-! ### _law_least -/
abbrev S_law_least : Stmt := topS 31
theorem sc_law_least : FnScope ["_law_row_here", "_law_entries", "_law_kept", "_law_k"] ["_law_row_here"] (defScope S_law_least) := ⟨rfl, rfl, rfl, by decide +kernel, rfl, by decide +kernel, by decide +kernel⟩
theorem dec_ne {x y : Int} : (!decide (V.int x = V.int y)) = !decide (x = y) := by rw [dec_int]
section
variable {P : Program} {w : World} {K : PySem.W.Frag} {mg : Str → Option Value} {base : Heap} {CS : Addr}
theorem cl_law_least (T : Tx K mg CS) (D : Df K mg "_law_least" S_law_least ["_law_row_here"]) : Cl P w K mg base 1 "_law_least" spLeast := by
  have sc := sc_law_least
  refine cl_mk D sc (fun vs H Q E h => ?_) (fun f cdv A outer s H vs Q E hr h => ?_)
  · obtain ⟨a, row, rfl, _⟩ := h
    rfl
  · obtain ⟨a, row, rfl, ⟨ts, hl, hp⟩, hne, hnd, hz, k⟩ := h
    refine ⟨_, (pss_cons (ps_set (i := 1) sc.nd rfl (Or.inr rfl) (pe_callB cr_sortedPO (by rfl) T.b_sorted (by decide +kernel) (pa_cons (pv 0) pa_nil)))
      (pss_cons (ps_setLc (i := 2) (own := [("_law_k", 3)]) rfl sc.nd rfl rfl (sw_true rfl rfl rfl (by decide +kernel)) (pi_range1 rfl T.b_range (pa_cons (pe_callB (cLen K) (by rfl) T.b_len (by decide +kernel) (pa_cons (pv 1) pa_nil)) pa_nil)) (blkOk_by (own := [("_law_k", 3)]) (N := ["_law_row_here", "_law_entries", "_law_kept", "_law_k"]) (sc := (defScope S_law_least)) (by decide +kernel)) (fun _ _ _ _ _ => (pg_name (i := 3) sc.nd rfl (Or.inl rfl))) (fun _ _ _ _ _ => (pts_one (PW.pt (pw_or (pt_cmpR op_eq (pv 3) pe_int (nomark _)) (pw_or1 (pt_cmpR op_ne (pe_ix (ixT K) (pe_ix (ixL K) (pv 1) (pv 3) (fun _ _ => rfl)) pe_int (fun _ _ => rfl)) (pe_ix (ixT K) (pe_ix (ixL K) (pv 1) (pe_op op_sub (pv 3) pe_int) (fun _ _ => rfl)) pe_int (fun _ _ => rfl)) (nomark _))))))) (fun _ _ _ _ _ => (pe_ix (ixL K) (pv 1) (pv 3) (fun _ _ => rfl))))
      (pss_cons (ps_if (pt_cmpR op_eq (pe_callB (cLen K) (by rfl) T.b_len (by decide +kernel) (pa_cons (pv 2) pa_nil)) pe_int (nomark _))
      (pss_one (ps_ret (pe_lst (pa_cons (pe_tup (pa_cons pe_int (pa_cons (pe_ix (ixT K) (pe_ix (ixL K) (pv 2) pe_int (fun _ _ => rfl)) pe_int (fun _ _ => rfl)) pa_nil))) pa_nil))))
      pss_nil)
      (pss_one (ps_ret (pe_op op_cat (pe_lst (pa_cons (pe_tup (pa_cons (pe_op op_sub (pe_ix (ixT K) (pe_ix (ixL K) (pv 2) pe_int (fun _ _ => rfl)) pe_int (fun _ _ => rfl)) pe_int) (pa_cons (pe_ix (ixT K) (pe_ix (ixL K) (pv 2) pe_int (fun _ _ => rfl)) pe_int (fun _ _ => rfl)) pa_nil))) pa_nil)) (pe_slice (slL K) (pv 2) (po_some pe_int) po_none))))))), ?_⟩
    -- entries = sorted(row)
    refine ⟨_, rfl, a, _, prOf H, rfl, SqL.of hl, row_items hp, fun ys b h1 h2 hb => ?_⟩
    obtain ⟨us, rfl, hu⟩ := sorted_row hp hnd h1 h2
    have hzl : us.length ≤ 100000 := by
      have := paired_len hu
      have := (sortA_perm row).length_eq
      omega
    obtain ⟨e, r, er⟩ : ∃ e r, sortA row = e :: r := by
      cases q : sortA row with
      | nil =>
        have := (sortA_perm row).length_eq
        rw [q] at this
        exact absurd (List.length_eq_zero_iff.mp this.symm) hne
      | cons e r => exact ⟨e, r, rfl⟩
    rw [er] at hu
    have hul : us.length = r.length + 1 := by rw [paired_len hu, List.length_cons]
    have s1 : L2.Same H (upd H b (.lst (us.map V.ref))) := Same.new hb
    have hbl : upd H b (.lst (us.map V.ref)) b = some (.lst (us.map V.ref)) := upd_same
    obtain ⟨H1, e1⟩ : ∃ H1, H1 = upd H b (.lst (us.map V.ref)) := ⟨_, rfl⟩
    rw [← e1] at s1 hbl ⊢
    have hu := prs_same s1 hu
    -- kept = [..]
    refine ⟨_, rfl, b, _, rfl, .inl (SqL.of hbl), _, rfl, by rw [List.length_map]; omega, by rw [List.length_map]; omega, fun d hd => ?_⟩
    have hn0 : (((us.map V.ref).length : Nat) : Int).toNat = us.length := by rw [List.length_map]; omega
    rw [hn0]
    refine lc_grow walk_r0 hd (by omega) (fun _ _ => trivial) (fun i acc _ => ∃ (ks : List Addr) (kr : Row), acc = ks.map V.ref ∧ Paired (PrAt H1) ks kr ∧ (i = 0 → kr = []) ∧
      (∀ j, i = j + 1 → ∃ prev, (e :: r)[j]? = some prev ∧ kr ++ keepG prev.2 ((e :: r).drop i) = e :: keepG e.2 r)) (fun _ _ _ _ _ _ _ h => h) ⟨[], [], rfl, .nil, fun _ => rfl, fun j hj => by cases hj⟩ ?_ ?_
    · rintro i x acc H2 H3 N1 N0 hi s2 hl2 ha ⟨ks, kr, rfl, hks, hk0, hk1⟩ k1 k0 ⟨rfl, rfl⟩
      have hsb : SqL K H3 b (us.map V.ref) := SqL.of (s2 _ _ hbl)
      obtain ⟨g, hg⟩ : ∃ g, us[i]? = some g := ⟨us[i], List.getElem?_eq_getElem hi⟩
      obtain ⟨q, hq, hgq⟩ := paired_get hu hg
      have hdr : (e :: r).drop i = q :: (e :: r).drop (i + 1) := by
        obtain ⟨a1, a2⟩ := List.getElem?_eq_some_iff.mp hq
        rw [List.drop_eq_getElem_cons a1, a2]
      have hgr : (us.map V.ref)[i]? = some (.ref g) := by rw [List.getElem?_map, hg]; rfl
      refine ⟨rfl, _, rfl, rfl, _, rfl, ite_b (fun c => ?_) (fun c => ?_)⟩
      · have c := int_eq.mp (of_decide_eq_true c)
        have i0 : i = 0 := by omega
        subst i0
        have := hk0 rfl
        subst this
        cases hks
        refine iteT ⟨_, rfl, _, rfl, b, _, _, _, rfl, rfl, hsb, atI_get hgr, k1 _ _ (L2.Same.refl _) ⟨[g], [q], rfl, .cons hgq .nil, (fun h => by cases h), fun j hj => ?_⟩⟩
        have : j = 0 := by omega
        subst this
        have eq0 : q = e := by
          have : some e = some q := hq
          cases this
          rfl
        subst eq0
        exact ⟨q, rfl, rfl⟩
      · have c : ¬ i = 0 := fun z => of_decide_eq_false c (int_eq.mpr (by omega))
        obtain ⟨j, rfl⟩ : ∃ j, i = j + 1 := ⟨i - 1, by omega⟩
        obtain ⟨prev, hprev, hk⟩ := hk1 j rfl
        obtain ⟨pg, hpg, hpgp⟩ := paired_get' hu hprev
        have hpr : (us.map V.ref)[j]? = some (.ref pg) := by rw [List.getElem?_map, hpg]; rfl
        have ej : ((j + 1 : Nat) : Int) - 1 = ((j : Nat) : Int) := by omega
        rw [hdr, keepG_cons] at hk
        refine ⟨_, rfl, _, rfl, b, _, _, _, rfl, rfl, hsb, atI_get hgr, g, _, 1, _, rfl, rfl, SqT.of (PrAt.same s2 hgq), atI_get (i := 1) rfl, _, rfl, _, rfl, _, _, rfl, rfl, b, _, _, .ref pg, rfl, rfl, hsb, by rw [ej]; exact atI_get hpr,
          pg, _, 1, _, rfl, rfl, SqT.of (PrAt.same s2 hpgp), atI_get (i := 1) rfl, rfl, _, rfl, ite_b (fun cc => ?_) (fun cc => ?_)⟩
        · have cc : q.2 ≠ prev.2 := fun h => by rw [h] at cc; simp at cc
          rw [if_neg cc] at hk
          refine ⟨_, rfl, _, rfl, b, _, _, _, rfl, rfl, hsb, atI_get hgr, k1 _ _ (L2.Same.refl _) ⟨ks ++ [g], kr ++ [q], by rw [List.map_append]; rfl, paired_snoc hks hgq, (fun h => by cases h), fun j' hj' => ?_⟩⟩
          have : j' = j + 1 := by omega
          subst this
          refine ⟨q, hq, ?_⟩
          rw [List.append_assoc]
          exact hk
        · have cc : q.2 = prev.2 := Classical.byContradiction fun h => by rw [dec_int, decide_eq_false h] at cc; simp at cc
          rw [if_pos cc] at hk
          refine k0 _ (L2.Same.refl _) ⟨ks, kr, rfl, hks, (fun h => by cases h), fun j' hj' => ?_⟩
          have : j' = j + 1 := by omega
          subst this
          refine ⟨q, hq, ?_⟩
          rw [cc]
          exact hk
    · rintro acc H2 s2 hl2 ha ⟨ks, kr, rfl, hks, _, hk1⟩
      obtain ⟨prev, _, hk⟩ := hk1 r.length hul
      rw [hul, show (e :: r).drop (r.length + 1) = [] from List.drop_length (l := e :: r)] at hk
      have hkk : kr = e :: keepG e.2 r := by
        rw [← hk]
        show kr = kr ++ []
        rw [List.append_nil]
      subst hkk
      have hleast : leastOf row = leastK e.2 (keepG e.2 r) := by unfold leastOf; rw [er]; rfl
      cases hks with
      | @cons k0 _ ks _ hk0 hks' =>
        have hk0' := PrAt.same s2 hk0
        -- if len(kept) == 1
        refine ⟨_, rfl, d, _, rfl, .inl (SqL.of hl2), rfl, _, rfl, ite_b (fun cc => ?_) (fun cc => ?_)⟩
        · have cc := int_eq.mp (of_decide_eq_true cc)
          cases hkg : keepG e.2 r with
          | nil =>
            rw [hkg] at hks' hleast
            refine ⟨_, rfl, d, _, 0, .ref k0, rfl, rfl, SqL.of hl2, atI_get (i := 0) rfl, k0, _, 1, _, rfl, rfl, SqT.of hk0', atI_get (i := 1) rfl, size_le (by show 2 ≤ _; omega), fun n hn => ?_⟩
            refine ⟨size_le (by show 1 ≤ _; omega), fun p hp => ?_⟩
            have s3 := Same.step (o := .tup [.int 0, .int e.2]) s2 hn
            have s4 := Same.step (o := .lst [.ref n]) s3 hp
            refine k p _ (s1.trans s4) ((s1.trans s3).free hp) ⟨[n], upd_same, ?_⟩
            rw [hleast]
            refine .cons ?_ .nil
            show upd _ p _ n = _
            rw [upd_ne (ne_of_none upd_same hp)]
            exact upd_same
          | cons f2 s2' =>
            rw [hkg] at hks'
            cases hks' with
            | cons hm0 hm1 =>
              rw [List.length_map, List.length_cons, List.length_cons] at cc
              omega
        · have cc : ¬ (((k0 :: ks).map V.ref).length : Int) = 1 := fun z => of_decide_eq_false cc (int_eq.mpr z)
          cases hkg : keepG e.2 r with
          | nil =>
            rw [hkg] at hks'
            cases hks'
            exact absurd rfl cc
          | cons f2 s2' =>
            rw [hkg] at hks' hleast
            cases hks' with
            | @cons m _ ms _ hm0 hm1 =>
              have hm0' := PrAt.same s2 hm0
              -- return [(kept[1][0] - 1, kept[0][1])] + kept[1:]
              refine ⟨_, rfl, d, _, 1, .ref m, rfl, rfl, SqL.of hl2, atI_get (i := 1) rfl, m, _, 0, _, rfl, rfl, SqT.of hm0', atI_get (i := 0) rfl, _, _, rfl, rfl,
                _, rfl, d, _, 0, .ref k0, rfl, rfl, SqL.of hl2, atI_get (i := 0) rfl, k0, _, 1, _, rfl, rfl, SqT.of hk0', atI_get (i := 1) rfl, size_le (by show 2 ≤ _; omega), fun n hn => ?_⟩
              have s3 := Same.new (o := .tup [.int (f2.1 - 1), .int e.2]) hn
              refine ⟨size_le (by show 1 ≤ _; omega), fun p hp => ?_⟩
              have s4 := Same.step (o := .lst [.ref n]) s3 hp
              refine ⟨_, rfl, 1, rfl, d, _, rfl, SqL.of (s4 _ _ hl2), fun o ho => ?_⟩
              have ecut : cutV ((k0 :: m :: ms).map V.ref) (some 1) none = (m :: ms).map V.ref := by
                rw [show (1 : Int) = ((1 : Nat) : Int) from rfl, cutV_drop]
                rfl
              rw [ecut]
              have s5 := Same.step (o := .lst ((m :: ms).map V.ref)) s4 ho
              have npo : p ≠ o := ne_of_none upd_same ho
              have hmz : ms.length ≤ 100000 := by
                have q1 := paired_len hm1
                have q2 := (keepG_sub r e.2).length_le
                rw [hkg, List.length_cons] at q2
                omega
              refine ⟨p, o, [.ref n], (m :: ms).map V.ref, rfl, rfl, by rw [upd_ne npo]; exact upd_same, upd_same, size_le (by rw [List.length_map, List.length_singleton, List.length_cons]; omega), fun t ht => ?_⟩
              have s6 := Same.step (o := .lst ([.ref n] ++ (m :: ms).map V.ref)) s5 ht
              refine k t _ (s1.trans (s2.trans s6)) (s1.free (s2.free (s5.free ht))) ⟨n :: m :: ms, upd_same, ?_⟩
              rw [hleast]
              refine .cons ?_ (.cons (PrAt.same s6 hm0') (prs_same s6 (prs_same s2 hm1)))
              have hnn : upd H2 n (.tup [.int (f2.1 - 1), .int e.2]) n = some (.tup [.int (f2.1 - 1), .int e.2]) := upd_same
              have q1 : upd (upd H2 n (.tup [.int (f2.1 - 1), .int e.2])) p (.lst [.ref n]) n = some (.tup [.int (f2.1 - 1), .int e.2]) := by rw [upd_ne (ne_of_none hnn hp)]; exact hnn
              exact Same.step (Same.new ho) ht _ _ q1
end
end A80
end
section
set_option Elab.async false
set_option maxRecDepth 100000
set_option maxHeartbeats 4000000
set_option autoImplicit false
namespace A80
open PySem PySem.Spec L2 PyProof.Rows TL
/-! ### read_cell, read_row -/
abbrev S_read_cell : Stmt := topS 18
theorem sc_read_cell : FnScope ["text", "place", "colon", "value", "spot", "number"] ["text"] (defScope S_read_cell) := ⟨rfl, rfl, rfl, by decide +kernel, rfl, by decide +kernel, by decide +kernel⟩
abbrev S_read_row : Stmt := topS 19
theorem sc_read_row : FnScope ["text", "pieces", "row", "piece", "entry"] ["text"] (defScope S_read_row) := ⟨rfl, rfl, rfl, by decide +kernel, rfl, by decide +kernel, by decide +kernel⟩
theorem it_gen {J : It} {n : Nat} {G : Hp → Prop} {Y : Nat → Hp → V → Hp → Prop} (w : Walk J n G Y) {Body : V → Hp → (Hp → Prop) → Prop} {H0 : Hp} {Qd : Hp → Prop} (Pv : Nat → Hp → Prop) (h0 : Pv 0 H0) (hG : ∀ i H, i ≤ n → Pv i H → G H)
    (hs : ∀ i x H H', i < n → Pv i H → Y i H x H' → Body x H' (Pv (i + 1))) (hd : ∀ H, Pv n H → Qd H) :
    ∃ W : Nat → Nat → Hp → Prop, (∃ m, W 0 m H0) ∧ ∀ i m H, W i m H → (J.stop i H ∧ Qd H) ∨ (J.go i H ∧ ∃ Nx : Hp → Prop, (∀ H', Nx H' → ∃ m', m' < m ∧ W (i + 1) m' H') ∧ ∀ x H', J.yld i H x H' → Body x H' Nx) := by
  refine ⟨fun i m H => m = n - i ∧ i ≤ n ∧ Pv i H, ⟨n, by simp, Nat.zero_le _, h0⟩, ?_⟩
  rintro i m H ⟨rfl, hi, p⟩
  have q := hG i H hi p
  by_cases hlt : i < n
  · exact .inr ⟨w.goes i H hlt q, Pv (i + 1), fun H' p' => ⟨n - (i + 1), by omega, rfl, hlt, p'⟩, fun x H' y => hs i x H H' hlt p (w.yields i H x H' hlt q y)⟩
  · have e : i = n := by omega
    subst e
    exact .inl ⟨w.stops H q, hd H p⟩
theorem optV_map {α : Type} (f : α → V) (o : Option α) : optV f o = o.toList.map f := by cases o <;> rfl
theorem Keep.same {H H1 H' : Hp} {D : Addr} (s : Same H H1) (hD : H1 D = none) (k : Keep D H1 H') : Same H H' := fun b o hb => k b o (fun e => by rw [e] at hb; have := s _ _ hb; rw [hD] at this; cases this) (s _ _ hb)
theorem split_tl (x y : Str) (hy : tl y ≠ []) (hk : Builtin.Str.strKind y ≤ Builtin.Str.strKind (Str.ofString ",")) : (Txt.split x y).map tl = spl (tl y) 0 [] (tl x) := by
  refine split_spl x y hy ?_
  have h1 : Builtin.Str.strKind (Str.ofString ",") = 1 := by decide +kernel
  have h2 : 1 ≤ Builtin.Str.strKind x := by
    unfold Builtin.Str.strKind
    split <;> first | decide | (split <;> decide)
  omega
theorem readC_nil : readC [] = none := rfl
def spReadCell : Sp := fun vs H Q _ => ∃ x : Str, vs = [.str x] ∧ x.length ≤ 100000 ∧ ∀ p H', Same H H' → H p = none → RowAt H' p (readC (tl x)).toList → Q (.ref p) H'
def spReadRow : Sp := fun vs H Q _ => ∃ x : Str, vs = [.str x] ∧ x.length ≤ 16000 ∧ ∀ p H', Same H H' → H p = none → RowAt H' p ((rdRaw (tl x)).getD []) → Q (.ref p) H'
/-- the pieces that can be read -/
def fmR (l : List (List Nat)) : Row := l.flatMap fun t => (readC t).toList
theorem fmR_snoc (l : List (List Nat)) (t : List Nat) : fmR (l ++ [t]) = fmR l ++ (readC t).toList := by unfold fmR; rw [List.flatMap_append]; simp
theorem fmR_len : ∀ l : List (List Nat), (fmR l).length ≤ l.length
  | [] => Nat.le_refl _
  | t :: l => by
    have := fmR_len l
    have e : fmR (t :: l) = (readC t).toList ++ fmR l := by unfold fmR; rw [List.flatMap_cons]
    rw [e, List.length_append, List.length_cons]
    cases readC t <;> simp <;> omega
theorem fmR_all : ∀ l : List (List Nat), (fmR l).length = l.length ↔ l.mapM readC = some (fmR l)
  | [] => by simp [fmR]
  | t :: l => by
    have ih := fmR_all l
    have hle := fmR_len l
    have e : fmR (t :: l) = (readC t).toList ++ fmR l := by unfold fmR; rw [List.flatMap_cons]
    rw [e, List.length_append, List.length_cons, List.mapM_cons]
    cases hc : readC t with
    | none =>
      simp
      omega
    | some p =>
      simp only [Option.toList_some, List.length_singleton]
      constructor
      · intro h
        rw [ih.mp (by omega)]
        rfl
      · intro h
        cases hm : l.mapM readC with
        | none => rw [hm] at h; cases h
        | some r =>
          rw [hm] at h
          have h : some (p :: r) = some (p :: fmR l) := h
          injection h with h
          injection h with _ h
          have := ih.mpr (by rw [hm, h])
          omega
theorem readC_len {t : List Nat} {p : Int × Int} (h : readC t = some p) : 3 ≤ t.length := by
  have := (readC_iff t p).mp h
  rw [this.1]
  unfold showC
  rw [List.length_append, List.length_cons]
  have h1 : ∀ n : Int, 1 ≤ (showI n).length := fun n => by
    unfold showI
    have := numL_ne n.natAbs
    have : 0 < (numL n.natAbs).length := List.length_pos_iff.mpr this
    split
    · rw [List.length_cons]; omega
    · exact this
  have := h1 p.1
  have := h1 p.2
  omega
theorem fmR_small : ∀ l : List (List Nat), 4 * (fmR l).length ≤ (l.map fun p => p.length + 1).sum
  | [] => Nat.le_refl _
  | t :: l => by
    have ih := fmR_small l
    have e : fmR (t :: l) = (readC t).toList ++ fmR l := by unfold fmR; rw [List.flatMap_cons]
    rw [e, List.length_append, List.map_cons, List.sum_cons]
    cases hc : readC t with
    | none => simp; omega
    | some p =>
      have := readC_len hc
      simp only [Option.toList_some, List.length_singleton]
      omega
/-- what read_row tells -/
theorem rdRaw_pieces (t : List Nat) : rdRaw t = if (fmR (spl [44] 0 [] t)).length = (spl [44] 0 [] t).length ∧ ((fmR (spl [44] 0 [] t)).map (·.1)).Nodup then some (fmR (spl [44] 0 [] t)) else none := by
  unfold rdRaw readCs
  by_cases h : (fmR (spl [44] 0 [] t)).length = (spl [44] 0 [] t).length
  · rw [(fmR_all _).mp h]
    by_cases hn : ((fmR (spl [44] 0 [] t)).map (·.1)).Nodup
    · rw [if_pos ⟨h, hn⟩]
      exact if_pos hn
    · rw [if_neg (fun z => hn z.2)]
      exact if_neg hn
  · rw [if_neg (fun z => h z.1)]
    cases hm : (spl [44] 0 [] t).mapM readC with
    | none => rfl
    | some r =>
      exfalso
      apply h
      rw [fmR_all, hm]
      have gen : ∀ (l : List (List Nat)) (r : Row), l.mapM readC = some r → r = fmR l := by
        intro l
        induction l with
        | nil => intro r h; simp at h; rw [h]; rfl
        | cons t l ih =>
          intro r h
          rw [List.mapM_cons] at h
          cases hc : readC t with
          | none => rw [hc] at h; cases h
          | some p =>
            rw [hc] at h
            cases hl : l.mapM readC with
            | none => rw [hl] at h; cases h
            | some s =>
              rw [hl] at h
              have h : some (p :: s) = some r := h
              injection h with h
              rw [← h, ih s hl]
              unfold fmR
              rw [List.flatMap_cons, hc]
              rfl
      rw [gen _ _ hm]
section
variable {P : Program} {w : World} {K : PySem.W.Frag} {mg : Str → Option Value} {base : Heap} {CS : Addr}
theorem cl_read_cell (T : Tx K mg CS) (D : Df K mg "read_cell" S_read_cell ["text"]) (c_read_integer : Cl P w K mg base 1 "read_integer" spReadInt) : Cl P w K mg base 2 "read_cell" spReadCell := by
  have sc := sc_read_cell
  refine cl_mk D sc (fun vs H Q E h => ?_) (fun f cdv A outer s H vs Q E hr h => ?_)
  · obtain ⟨x, rfl, _⟩ := h
    rfl
  · obtain ⟨x, rfl, hl, k⟩ := h
    refine ⟨_, (pss_cons (ps_asg (pe_partition (pv 0) pe_str) (pgT K (n := 3) rfl (pgs_cons (pg_name (i := 1) sc.nd rfl (Or.inl rfl)) (pgs_cons (pg_name (i := 2) sc.nd rfl (Or.inl rfl)) (pgs_cons (pg_name (i := 3) sc.nd rfl (Or.inr rfl)) pgs_nil)))))
      (pss_cons (ps_if (pt_cmpR op_eq (pv 2) pe_str (nomark _))
      (pss_one (ps_ret (pe_lst pa_nil)))
      pss_nil)
      (pss_one (ps_ret (pe_lc2 (own := [("spot", 4), ("number", 5)]) (vs1 := [5]) rfl sc.nd (piL K (pe_c c_read_integer hr (by decide) rfl (pa_cons (pv 1) pa_nil))) (blkOk_by (own := [("spot", 4), ("number", 5)]) (N := ["text", "place", "colon", "value", "spot", "number"]) (sc := (defScope S_read_cell)) (by decide +kernel)) (by decide) (fun _ _ _ _ _ => (pg_name (i := 4) sc.nd rfl (Or.inl rfl))) (fun _ _ _ _ _ => pts_nil) (fun _ _ _ _ _ => (piL K (pe_c c_read_integer hr (by decide) rfl (pa_cons (pv 3) pa_nil)))) (fun _ _ _ _ _ => (pg_name (i := 5) sc.nd rfl (Or.inl rfl))) (fun _ _ _ _ _ => pts_nil) (fun _ _ _ _ _ => (pe_tup (pa_cons (pv 4) (pa_cons (pv 5) pa_nil))))))))), ?_⟩
    obtain ⟨h1, h2, h3, h4⟩ := part_tl x (Str.ofString ":") tl_colon
    refine ⟨_, rfl, ⟨_, rfl⟩, x, Str.ofString ":", rfl, rfl, by decide +kernel, size_le (by omega), fun p hp => ?_⟩
    obtain ⟨a, ea⟩ : ∃ a, a = (Txt.partition x (Str.ofString ":")).1 := ⟨_, rfl⟩
    obtain ⟨b, eb⟩ : ∃ b, b = (Txt.partition x (Str.ofString ":")).2.1 := ⟨_, rfl⟩
    obtain ⟨c, ec⟩ : ∃ c, c = (Txt.partition x (Str.ofString ":")).2.2 := ⟨_, rfl⟩
    rw [← ea, ← eb, ← ec]
    rw [← ea] at h1
    rw [← eb] at h2 h3
    rw [← ec] at h4
    have hal : a.length ≤ x.length := by
      rw [str_len, h1, str_len]
      unfold bef
      exact (List.takeWhile_sublist _).length_le
    have hcl : c.length ≤ x.length := by
      rw [str_len, h4, str_len]
      unfold aft
      rw [List.length_drop]
      have := (List.dropWhile_sublist (fun d => decide (d ≠ 58)) (l := tl x)).length_le
      omega
    have s1 := Same.new (o := .tup [.str a, .str b, .str c]) hp
    refine ⟨p, _, rfl, SqT.of upd_same, rfl, _, _, rfl, _, _, rfl, _, _, rfl, rfl, ?_⟩
    -- if colon == '': return []
    refine ⟨_, rfl, rfl, _, rfl, ite_b (fun cc => ?_) (fun cc => ?_)⟩
    · have e : b = Str.empty := ext_tl (str_eq.mp (of_decide_eq_true cc))
      have hn := h3.mp e
      refine ⟨Nat.zero_le _, fun q hq => ?_⟩
      refine k q _ (Same.step s1 hq) (s1.free hq) ⟨[], upd_same, ?_⟩
      have : readC (tl x) = none := by unfold readC; rw [if_neg hn]
      rw [this]
      exact .nil
    have hmem : 58 ∈ tl x := Classical.byContradiction fun z => by
      have := h3.mpr z
      rw [this] at cc
      exact of_decide_eq_false cc rfl
    -- for spot in read_integer(place) for number in read_integer(value)
    refine ⟨_, rfl, a, rfl, by omega, fun l1 H1 s2 hl1n hl1 => ?_⟩
    rw [h1, optV_map] at hl1
    have s12 := s1.trans s2
    refine ⟨l1, rfl, ⟨_, SqL.of hl1⟩, fun D hD => ?_⟩
    have nl1 : l1 ≠ D := ne_of_none hl1 hD
    have vz : ((readI (aft 58 (tl x))).toList).length ≤ 1 := by cases readI (aft 58 (tl x)) <;> simp
    have pz : ((readI (bef 58 (tl x))).toList).length ≤ 1 := by cases readI (bef 58 (tl x)) <;> simp
    refine it_gen walk_list (fun i H' => Keep D (upd H1 D (.lst [])) H' ∧ ∃ (ts : List Addr), H' D = some (.lst (ts.map V.ref)) ∧ Paired (PrAt H') ts (((readI (bef 58 (tl x))).toList.take i).flatMap fun a => (readI (aft 58 (tl x))).toList.map fun b => (a, b)))
      ⟨fun _ _ _ h => h, [], upd_same, .nil⟩ (fun i H' _ h => SqL.of (h.1 _ _ nl1 (by rw [upd_ne nl1]; exact hl1))) ?_ ?_
    · rintro i v H2 H3 hi ⟨kp, ts, hDl, hts⟩ ⟨rfl, hv⟩
      obtain ⟨n, hn, rfl⟩ := get_map_int hv
      have i0 : i = 0 := by rw [List.length_map] at hi; omega
      subst i0
      have hts0 : ts = [] := by
        rw [List.take_zero] at hts
        cases hts
        rfl
      subst hts0
      refine ⟨rfl, _, rfl, c, rfl, by omega, fun l2 H4 s4 hl2n hl2 => ?_⟩
      rw [h4, optV_map] at hl2
      have nl2 : l2 ≠ D := fun e => by rw [e, hDl] at hl2n; cases hl2n
      refine ⟨l2, rfl, ⟨_, SqL.of hl2⟩, ?_⟩
      refine it_gen walk_list (fun j H' => Keep D H4 H' ∧ ∃ (ts : List Addr), H' D = some (.lst (ts.map V.ref)) ∧ Paired (PrAt H') ts (((readI (aft 58 (tl x))).toList.take j).map fun b => (n, b)))
        ⟨fun _ _ _ h => h, [], s4 _ _ hDl, .nil⟩ (fun j H' _ h => SqL.of (h.1 _ _ nl2 hl2)) ?_ ?_
      · rintro j v' H5 H6 hj ⟨kp5, us, hDl5, hus⟩ ⟨rfl, hv'⟩
        obtain ⟨m, hm, rfl⟩ := get_map_int hv'
        refine ⟨rfl, _, rfl, _, rfl, size_le (by show 2 ≤ _; omega), fun u hu => ?_⟩
        have s6 := Same.new (o := .tup [.int n, .int m]) hu
        have hlen := paired_len hus
        rw [List.length_map, List.length_take] at hlen
        refine ⟨us.map V.ref, s6 _ _ hDl5, by rw [List.length_map]; exact size_lt (by omega), fun a o hne h => ?_, us ++ [u], ?_, ?_⟩
        · rw [upd_ne hne]
          exact s6 _ _ (kp5 _ _ hne h)
        · rw [upd_same, List.map_append]
          rfl
        · rw [take_succ_get hm, List.map_append]
          refine prs_but (s6 _ _ hDl5) (fun a o hne h => by rw [upd_ne hne]; exact h) (paired_snoc (prs_same s6 hus) ?_)
          exact upd_same
      · rintro H5 ⟨kp5, us, hDl5, hus⟩
        rw [List.take_of_length_le (by rw [List.length_map]; omega)] at hus
        refine ⟨fun a o hne h => kp5 _ _ hne (s4 _ _ (kp _ _ hne h)), us, hDl5, ?_⟩
        rw [take_succ_get hn, List.take_zero]
        show Paired _ _ (([] ++ [n]).flatMap _)
        rw [List.nil_append, List.flatMap_singleton]
        exact hus
    · rintro H2 ⟨kp, ts, hDl, hts⟩
      rw [List.take_of_length_le (by rw [List.length_map]; omega)] at hts
      have kp' : Keep D H1 H2 := fun a o hne h => kp _ _ hne (by rw [upd_ne hne]; exact h)
      refine k D H2 (Keep.same s12 hD kp') (s12.free hD) ⟨ts, hDl, ?_⟩
      have : (readC (tl x)).toList = (readI (bef 58 (tl x))).toList.flatMap fun a => (readI (aft 58 (tl x))).toList.map fun b => (a, b) := by
        unfold readC
        rw [if_pos hmem]
        cases readI (bef 58 (tl x)) <;> cases readI (aft 58 (tl x)) <;> rfl
      rw [this]
      exact hts
theorem cl_read_row (T : Tx K mg CS) (D : Df K mg "read_row" S_read_row ["text"]) (c_read_cell : Cl P w K mg base 2 "read_cell" spReadCell) : Cl P w K mg base 3 "read_row" spReadRow := by
  have sc := sc_read_row
  refine cl_mk D sc (fun vs H Q E h => ?_) (fun f cdv A outer s H vs Q E hr h => ?_)
  · obtain ⟨x, rfl, _⟩ := h
    rfl
  · obtain ⟨x, rfl, hl, k⟩ := h
    refine ⟨_, (pss_cons (ps_set (i := 1) sc.nd rfl (Or.inl rfl) (pe_split (pv 0) pe_str))
      (pss_cons (ps_setLc2 (i := 2) (own := [("piece", 3), ("entry", 4)]) (vs1 := [4]) rfl sc.nd rfl rfl (sw_true rfl rfl rfl (by decide +kernel)) (piL K (pv 1)) (blkOk_by (own := [("piece", 3), ("entry", 4)]) (N := ["text", "pieces", "row", "piece", "entry"]) (sc := (defScope S_read_row)) (by decide +kernel)) (by decide) (fun _ _ _ _ _ => (pg_name (i := 3) sc.nd rfl (Or.inl rfl))) (fun _ _ _ _ _ => pts_nil) (fun _ _ _ _ _ => (piL K (pe_c c_read_cell hr (by decide) rfl (pa_cons (pv 3) pa_nil)))) (fun _ _ _ _ _ => (pg_name (i := 4) sc.nd rfl (Or.inl rfl))) (fun _ _ _ _ _ => pts_nil) (fun _ _ _ _ _ => (pv 4)))
      (pss_cons (ps_if (pt_cmpR op_lt (pe_callB len_setO (by rfl) T.b_len (by decide +kernel) (pa_cons (pe_scI (own := [("entry", 4)]) rfl sc.nd (piL K (pv 2)) (blkOk_by (own := [("entry", 4)]) (N := ["text", "pieces", "row", "piece", "entry"]) (sc := (defScope S_read_row)) (by decide +kernel)) (fun _ _ _ _ _ => (pg_name (i := 4) sc.nd rfl (Or.inl rfl))) (fun _ _ _ _ _ => pts_nil) (fun _ _ _ _ _ => (pe_ix (ixT K) (pv 4) pe_int (fun _ _ => rfl)))) pa_nil)) (pe_callB (cLen K) (by rfl) T.b_len (by decide +kernel) (pa_cons (pv 1) pa_nil)) (nomark _))
      (pss_one (ps_ret (pe_lst pa_nil)))
      pss_nil)
      (pss_one (ps_ret (pv 2)))))), ?_⟩
    have hsp := split_tl x (Str.ofString ",") (by rw [tl_comma]; simp) (Nat.le_refl _)
    rw [tl_comma] at hsp
    have hraw := rdRaw_pieces (tl x)
    obtain ⟨ps, eps⟩ : ∃ ps, ps = Txt.split x (Str.ofString ",") := ⟨_, rfl⟩
    rw [← eps] at hsp
    rw [← hsp] at hraw
    have hne : ps ≠ [] := fun z => by rw [z] at hsp; exact spl_ne _ _ _ _ hsp.symm
    have hjoin := joinL_len [44] (l := ps.map tl) (fun z => hne (List.map_eq_nil_iff.mp z))
    rw [hsp, join_spl0 (by simp)] at hjoin
    have hsmall := fmR_small (ps.map tl)
    rw [hsp] at hsmall
    have hjoin : (tl x).length + 1 = ((spl [44] 0 [] (tl x)).map fun p => p.length + 1).sum := hjoin
    have hfl : (fmR (ps.map tl)).length ≤ 4000 := by rw [hsp]; rw [str_len] at hl; omega
    have hpl : ps.length ≤ 16001 := by
      have h1 : ps.length ≤ ((spl [44] 0 [] (tl x)).map fun p => p.length + 1).sum := by
        rw [← hsp]
        clear hraw hsmall hfl hjoin hsp hne eps
        induction ps with
        | nil => exact Nat.zero_le _
        | cons a l ih => rw [List.map_cons, List.map_cons, List.sum_cons, List.length_cons]; omega
      rw [str_len] at hl
      omega
    have hpiece : ∀ t ∈ ps, t.length ≤ 16000 := fun t ht => by
      have h1 : t.length + 1 ≤ ((spl [44] 0 [] (tl x)).map fun p => p.length + 1).sum := by
        rw [← hsp]
        clear hraw hsmall hfl hjoin hsp hne eps hpl
        induction ps with
        | nil => simp at ht
        | cons a l ih =>
          rw [List.map_cons, List.map_cons, List.sum_cons]
          rcases List.mem_cons.mp ht with z | z
          · rw [z, str_len]; omega
          · have := ih z; omega
      rw [str_len] at hl
      omega
    -- pieces = text.split(',')
    refine ⟨_, rfl, ⟨_, rfl⟩, x, Str.ofString ",", rfl, rfl, by decide +kernel, by rw [sizeLine_eq]; omega, fun l1 hl1n => ?_⟩
    rw [← eps]
    have s1 := Same.new (o := .lst (ps.map V.str)) hl1n
    have a1 : upd H l1 (.lst (ps.map V.str)) l1 = some (.lst (ps.map V.str)) := upd_same
    obtain ⟨H1, e1⟩ : ∃ H1, H1 = upd H l1 (.lst (ps.map V.str)) := ⟨_, rfl⟩
    rw [← e1] at s1 a1 ⊢
    -- row = [entry for piece in pieces for entry in read_cell(piece)]
    refine ⟨_, rfl, l1, rfl, ⟨_, SqL.of a1⟩, fun D hD => ?_⟩
    have nl1 : l1 ≠ D := ne_of_none a1 hD
    refine it_gen walk_list (fun i H' => Keep D (upd H1 D (.lst [])) H' ∧ ∃ (ts : List Addr), H' D = some (.lst (ts.map V.ref)) ∧ Paired (PrAt H') ts (fmR ((ps.take i).map tl)) ∧ ts.length ≤ i)
      ⟨fun _ _ _ h => h, [], upd_same, .nil, Nat.zero_le _⟩ (fun i H' _ h => SqL.of (h.1 _ _ nl1 (by rw [upd_ne nl1]; exact a1))) ?_ ?_
    · rintro i v H2 H3 hi ⟨kp, ts, hDl, hts, htl⟩ ⟨rfl, hv⟩
      obtain ⟨t, ht, rfl⟩ := get_map_str hv
      have htz := hpiece t (List.mem_of_getElem? ht)
      refine ⟨rfl, _, rfl, t, rfl, by omega, fun l2 H4 s4 hl2n hl2 => ?_⟩
      have nl2 : l2 ≠ D := fun e => by rw [e, hDl] at hl2n; cases hl2n
      obtain ⟨us, hu1, hu2⟩ := hl2
      have vz : ((readC (tl t)).toList).length ≤ 1 := by cases readC (tl t) <;> simp
      have hul := paired_len hu2
      refine ⟨l2, rfl, ⟨_, SqL.of hu1⟩, ?_⟩
      refine it_gen walk_list (fun j H' => Keep D H4 H' ∧ H' D = some (.lst ((ts ++ us.take j).map V.ref)))
        ⟨fun _ _ _ h => h, by rw [List.take_zero, List.append_nil]; exact s4 _ _ hDl⟩ (fun j H' _ h => SqL.of (h.1 _ _ nl2 hu1)) ?_ ?_
      · rintro j v' H5 H6 hj ⟨kp5, hDl5⟩ ⟨rfl, hv'⟩
        obtain ⟨u, hu, rfl⟩ := get_map_ref hv'
        rw [List.length_map] at hi
        refine ⟨rfl, _, rfl, _, hDl5, by rw [List.length_map, List.length_append, List.length_take]; exact size_lt (by omega), fun a o hne h => ?_, ?_⟩
        · rw [upd_ne hne]
          exact kp5 _ _ hne h
        · rw [upd_same, take_succ_get hu, ← List.append_assoc, List.map_append (l₁ := ts ++ us.take j)]
          rfl
      · rintro H5 ⟨kp5, hDl5⟩
        rw [List.take_of_length_le (by rw [List.length_map]; omega)] at hDl5
        have kk : Keep D H3 H5 := fun a o hne h => kp5 _ _ hne (s4 _ _ h)
        refine ⟨fun a o hne h => kk _ _ hne (kp _ _ hne h), ts ++ us, hDl5, ?_, by rw [List.length_append]; omega⟩
        rw [take_succ_get ht, List.map_append, List.map_singleton, fmR_snoc]
        refine paired_app (prs_but hDl kk hts) ?_
        exact prs_but (s4 _ _ hDl) kp5 hu2
    · rintro H2 ⟨kp, ts, hDl, hts, htl⟩
      rw [List.take_of_length_le (by rw [List.length_map]; omega)] at hts
      have kp' : Keep D H1 H2 := fun a o hne h => kp _ _ hne (by rw [upd_ne hne]; exact h)
      have s2 := Keep.same s1 hD kp'
      have hDn := s1.free hD
      have a2 := kp' _ _ nl1 a1
      have htl2 := paired_len hts
      -- if len({entry[0] for entry in row}) < len(pieces): return []
      refine ⟨_, rfl, D, rfl, ⟨_, SqL.of hDl⟩, fun D2 hD2 => sc_grow walk_list hD2 (by rw [List.length_map]; omega) (fun H' s => SqL.of (s _ _ hDl)) ((fmR (ps.map tl)).map (·.1)) (by rw [List.length_map, List.length_map]; omega) ?_ ?_⟩
      · rintro j v H9 H10 N1 pk hj hpk s10 k1 ⟨rfl, hv⟩
        obtain ⟨u, hu, rfl⟩ := get_map_ref hv
        obtain ⟨e', he', hue⟩ := paired_get hts hu
        rw [List.getElem?_map, he'] at hpk
        cases hpk
        exact ⟨rfl, _, rfl, u, _, 0, _, rfl, rfl, SqT.of (hue.same s10), atI_get (i := 0) rfl, k1 _ (L2.Same.refl _)⟩
      · rintro S m H9 s9 hS hml hmn
        rw [List.length_map] at hml hmn
        have hfm := fmR_len (ps.map tl)
        rw [List.length_map] at hfm
        refine ⟨D2, S, m, rfl, hS, _, rfl, l1, _, rfl, .inl (SqL.of (s9 _ _ a2)), _, _, rfl, rfl, _, rfl, ite_b (fun cc => ?_) (fun cc => ?_)⟩
        · have cc := of_decide_eq_true cc
          rw [List.length_map] at cc
          have hr0 : rdRaw (tl x) = none := by
            rw [hraw, if_neg]
            rintro ⟨z1, z2⟩
            have := hmn.mpr z2
            rw [List.length_map] at z1
            omega
          refine ⟨size_le (by show 0 ≤ _; omega), fun q hq => ?_⟩
          refine k q _ (Same.step (s2.trans s9) hq) ((s2.trans s9).free hq) ⟨[], upd_same, ?_⟩
          rw [hr0]
          exact .nil
        · have cc := of_decide_eq_false cc
          rw [List.length_map] at cc
          have hmm : m = ts.length := by omega
          have hr1 : rdRaw (tl x) = some (fmR (ps.map tl)) := by
            rw [hraw, if_pos]
            exact ⟨by rw [List.length_map]; omega, hmn.mp hmm⟩
          refine ⟨_, rfl, k D H9 (s2.trans s9) hDn ⟨ts, s9 _ _ hDl, ?_⟩⟩
          rw [hr1]
          exact prs_same s9 hts
end
end A80
end
section
set_option Elab.async false
set_option maxRecDepth 100000
set_option maxHeartbeats 4000000
set_option autoImplicit false
namespace A80
open PySem PySem.Spec L2 PyProof.Rows TL
/-! ### Unreadable -/
abbrev S_CellError_init : Stmt := inClass (topS 1) 0
theorem sc_CellError_init : FnScope ["self", "value"] ["self", "value"] (defScope S_CellError_init) := ⟨rfl, rfl, rfl, by decide +kernel, rfl, by decide +kernel, by decide +kernel⟩
/-- what the written part says of Unreadable -/
structure Ux (K : PySem.W.Frag) (mg : Str → Option Value) (CU : Addr) : Prop where
  oex : OexC K CU
  nov : PySem.W.findIn K (.ref CU) "value" = some none
  xf : XfC K CU
  g : mg "Unreadable" = some (.ref CU)
  te : PySem.W.exmOne K (.ref CU) (.ref CU) = some true
/-- its __init__, which stands in CellError -/
structure Ui (K : PySem.W.Frag) (CU : Addr) : Prop where
  ex : ∃ (f : Addr) (fd : FuncData), Fun K "__init__" "CellError.__init__" S_CellError_init f fd ∧ PySem.W.findIn K (.ref CU) "__init__" = some (some (.ref f)) ∧ PySem.W.typeIn K (.ref f) = some (.type "function") ∧ Binds K fd ["self", "value"] []
def spErr (CU : Addr) : Sp := fun vs H Q _ => ∃ (a : Addr) (t : Str), vs = [.ref a, .str t] ∧ H a = some (exo a CU none) ∧ ∀ dx, H dx = none → dx ≠ a → Q .non (upd (upd H dx (exd dx [("value", .str t)])) a (exo a CU (some dx)))
structure ErrI (P : Program) (w : World) (K : PySem.W.Frag) (mg : Str → Option Value) (base : Heap) (k : Nat) (CU : Addr) : Prop where
  ex : ∃ (f : Addr) (fd : FuncData), FnOk P w K mg base CX0 k f fd ["self", "value"] (spErr CU) ∧ PySem.W.findIn K (.ref CU) "__init__" = some (some (.ref f)) ∧ PySem.W.typeIn K (.ref f) = some (.type "function") ∧ Binds K fd ["self", "value"] []
section
variable {P : Program} {w : World} {K : PySem.W.Frag} {mg : Str → Option Value} {base : Heap} {CU : Addr}
theorem err_ok (U : Ux K mg CU) (D : Ui K CU) : ErrI P w K mg base 1 CU := by
  obtain ⟨f, fd, F, hf, ht, b⟩ := D.ex
  have sc := sc_CellError_init
  refine ⟨f, fd, F.ok sc (fun vs H Q E h => ?_) (fun cdv A outer s H vs Q E hr h => ?_), hf, ht, b⟩
  · obtain ⟨a, t, rfl, _⟩ := h
    rfl
  · obtain ⟨a, t, rfl, ha, k⟩ := h
    refine ⟨_, pss_one (ps_ost (pv 0) (pv 1)), ?_⟩
    exact ⟨_, rfl, _, rfl, a, CU, rfl, U.oex, U.nov, .inl ⟨ha, fun dx hdx hne => k dx hdx hne⟩⟩
end
def tUnr (CU : Addr) (W : WX) (ta : TA) : TS := fun _ σ H => tMkO CU (spErr CU) [] ta σ H fun cls d H' => W cls d σ H'
theorem ps_unread {X : Cx} {CU : Addr} {e : Expr} {ta : TA} {W : WX} {p pos pos2 : Pos} {j : Nat} (U : Ux X.K X.mg CU) (c : ErrI X.prog X.w X.K X.mg X.base 1 CU) (hr : Room j X.A) (hk : 2 ≤ j) (hc : X.calm = true) (tk : Takes X W) (ha : PA X [e] ta) (hg : Gl X "Unreadable")
    (he : starEach [e] X.env = (false, eval e X.env) :: starEach [] X.env := by rfl) (hpl : (backTo pos (starEach [] X.env)).any (·.1) = false := by rfl) :
    PS X (.Raise (some (.Call (.Name "Unreadable" p) [e] [] pos)) none pos2) (tUnr CU W ta) := by
  obtain ⟨f, fd, F, hf, ht, b⟩ := c.ex
  exact ps_raise hc tk (pmk_oex U.oex hf ht F (hr.mono hk) b .nil pass0 hg U.g ha (by decide) he hpl)
/-- what the way out finds -/
theorem boom {CU : Addr} {x : Str} {H Hc : Hp} {R : XK} (s : Same H Hc) (k : ∀ (d : Addr) (H' : Hp), Same H H' → H d = none → H' d = some (.xd [("value", .str x)]) → R (.ref CU) (some d) H') :
    ∀ a, Hc a = none → spErr CU (.ref a :: ([V.str x] ++ [])) (upd Hc a (exo a CU none)) (fun v H2 => v = .non ∧ ∃ (d : Addr) (fs : List (Str × V)), H2 a = some (exo a CU (some d)) ∧ H2 d = some (exd d fs) ∧ Hc d = none ∧ R (.ref CU) (some d) (upd (del H2 a) d (.xd fs))) (fun _ _ _ => False) := fun a ha => by
  refine ⟨a, x, rfl, upd_same, fun dx hdx hne => ⟨rfl, dx, [("value", .str x)], upd_same, by rw [upd_ne hne, upd_same], by rw [upd_ne hne] at hdx; exact hdx, ?_⟩⟩
  have hdc : Hc dx = none := by rw [upd_ne hne] at hdx; exact hdx
  refine k dx _ (fun b o hb => ?_) (s.free hdc) upd_same
  have hb2 := s _ _ hb
  have n1 : b ≠ dx := ne_of_none hb2 hdc
  have n2 : b ≠ a := ne_of_none hb2 ha
  rw [upd_ne n1, del_ne n2, upd_ne n2, upd_ne n1, upd_ne n2]
  exact hb2
/-! ### a def that may raise -/
structure ClX (P : Program) (w : World) (K : PySem.W.Frag) (mg : Str → Option Value) (base : Heap) (k : Nat) (x : Str) (ps : List Str) (sp : Sp) : Prop where
  ex : ∃ (f : Addr) (fd : FuncData), FnOk P w K mg base (L2.CX P w) k f fd ps sp ∧ mg x = some (.ref f) ∧ PySem.W.keepIn K (.ref f) = true ∧ Binds K fd ps [] ∧ KBn K fd ps 0 ps (fun _ ws => ws) (fun _ zs => zs)
/-- .. and its binding by keywords -/
structure Kb (K : PySem.W.Frag) (mg : Str → Option Value) (x : Str) (st : Stmt) (ps : List Str) : Prop where
  ex : ∃ (f : Addr) (fd : FuncData), Fun K x x st f fd ∧ mg x = some (.ref f) ∧ Binds K fd ps [] ∧ KBn K fd ps 0 ps (fun _ ws => ws) (fun _ zs => zs)
section
variable {P : Program} {w : World} {K : PySem.W.Frag} {mg : Str → Option Value} {base : Heap}
theorem clx_mk {x : Str} {st : Stmt} {N ps : List Str} {k : Nat} {sp : Sp} (D : Kb K mg x st ps) (S : FnScope N ps (defScope st)) (len : ∀ vs H Q E, sp vs H Q E → vs.length = ps.length)
    (hbody : ∀ (f : Addr) (cdv : Value) (A : Around) (outer : List Env) (s : Shared) (H : Hp) (vs : List V) (Q : VK) (E : XK), Room k (A.deeper (envOfC x (defScope st) s.heap.objs.size f cdv)) → sp vs H Q E →
      ∃ t, PSs (cxOf (L2.CX P w) P w K mg base N x (defScope st) f cdv A outer s H E) (defBody st) t ∧ t { nx := fun _ H' => Q .non H', rt := Q } (start N vs) H) : ClX P w K mg base (k + 1) x ps sp := by
  obtain ⟨f, fd, F, hm, b, kb⟩ := D.ex
  exact ⟨f, fd, F.okX S len (fun cdv A outer s H vs Q E hr h => hbody f cdv A outer s H vs Q E hr h), hm, F.kp, b, kb⟩
end
section
variable {X : Cx} {k j : Nat} {x : Str} {ps : List Str} {sp : Sp} {p pos : Pos} {e : Expr} {es : List Expr} {t : TA}
theorem pe_cx (c : ClX X.prog X.w X.K X.mg X.base k x ps sp) (hr : Room j X.A) (hk : k ≤ j) (hg : Gl X x) (ha : PA X (e :: es) t)
    (hdb : (x == ("__debug__" : Str)) = false := by decide) (he : starEach (e :: es) X.env = (false, eval e X.env) :: starEach es X.env := by rfl) (hpl : (backTo pos (starEach es X.env)).any (·.1) = false := by rfl) :
    PE X (.Call (.Name x p) (e :: es) [] pos) (tCall sp [] E0 t) := by
  obtain ⟨f, fd, F, hm, kp, b, _⟩ := c.ex
  exact pe_call F (hr.mono hk) hg hm kp b .nil passL ha hdb he hpl
end
end A80
end
section
set_option Elab.async false
set_option maxRecDepth 100000
set_option maxHeartbeats 4000000
set_option autoImplicit false
namespace A80
open PySem PySem.Spec L2 PyProof.Rows TL
/-! ### read_state -/
abbrev S_read_state : Stmt := topS 20
theorem sc_read_state : FnScope ["text", "known", "pieces", "piece", "word", "gap", "rest", "name", "sign", "shown", "found", "state"] ["text"] (defScope S_read_state) := ⟨rfl, rfl, rfl, by decide +kernel, rfl, by decide +kernel, by decide +kernel⟩
def piecesOf (t : List Nat) : List (List Nat) := if t = [] then [] else spl [59, 32] 0 [] t
theorem pieces_join {t : List Nat} {es : List En} (h : piecesOf t = es.map showE) : t = showS es := by
  unfold piecesOf at h
  by_cases h0 : t = []
  · rw [if_pos h0] at h
    have : es = [] := List.map_eq_nil_iff.mp h.symm
    rw [this, h0]
    rfl
  · rw [if_neg h0] at h
    have := join_spl0 (S := [59, 32]) (by simp) t
    rw [h] at this
    exact this.symm
theorem pieces_show {es : List En} (h : ∀ e ∈ es, shE e) : piecesOf (showS es) = es.map showE := by
  unfold piecesOf
  by_cases h0 : es = []
  · subst h0
    exact if_pos rfl
  · rw [if_neg (fun z => h0 (showS_nil.mp z)), spl_showS h0 h]
theorem parse_fail {x t : List Nat} (ht : t ∈ piecesOf x) (hp : parseE rdRaw t = none) : ¬ ∃ c, WFC c ∧ x = showS c := by
  rintro ⟨c, hc, rfl⟩
  rw [pieces_show hc.sh] at ht
  obtain ⟨e, he, rfl⟩ := List.mem_map.mp ht
  have := (parseRaw (showE e) e).mpr ⟨rfl, (hc.1 e he).mono fun _ q => q.raw⟩
  rw [this] at hp
  cases hp
section
variable {rd : List Nat → Option Row} {t : List Nat} {nm : Str}
theorem parse_pl (h1 : tl nm = bef 61 (aft 32 t)) (hn : okNm (tl nm) = true) (hw : bef 32 t = wordL 0) : parseE rd t = (readI (aft 61 (aft 32 t))).map (En.pl nm) := by
  unfold parseE
  rw [← h1, if_pos hn, if_pos hw, mk_tl]
theorem parse_va (h1 : tl nm = bef 61 (aft 32 t)) (hn : okNm (tl nm) = true) (hw : bef 32 t = wordL 1) : parseE rd t = (readI (aft 61 (aft 32 t))).map (En.va nm) := by
  unfold parseE
  rw [← h1, if_pos hn, if_neg (by rw [hw]; decide), if_pos hw, mk_tl]
theorem parse_ar (h1 : tl nm = bef 61 (aft 32 t)) (hn : okNm (tl nm) = true) (hw : bef 32 t = wordL 2) : parseE rd t = (rd (aft 61 (aft 32 t))).map (En.ar nm) := by
  unfold parseE
  rw [← h1, if_pos hn, if_neg (by rw [hw]; decide), if_neg (by rw [hw]; decide), if_pos hw, mk_tl]
theorem parse_bad (h1 : tl nm = bef 61 (aft 32 t)) (h : okNm (tl nm) = false ∨ (bef 32 t ≠ wordL 0 ∧ bef 32 t ≠ wordL 1 ∧ bef 32 t ≠ wordL 2)) : parseE rd t = none := by
  unfold parseE
  rw [← h1]
  rcases h with h | ⟨a, b, c⟩
  · rw [h, if_neg Bool.false_ne_true]
  · by_cases hn : okNm (tl nm) = true
    · rw [if_pos hn, if_neg a, if_neg b, if_neg c]
    · rw [if_neg hn]
end
theorem dP_len (es : List En) : (dP es).length ≤ es.length := by
  induction es using snocInd with
  | nil => exact Nat.le_refl _
  | snoc es e ih =>
    rw [dP_snoc, List.length_append, List.length_singleton]
    cases e with
    | pl x n => exact Nat.le_trans (putS_len _ _ _) (by omega)
    | va x n => show (dP es).length ≤ _; omega
    | ar x n => show (dP es).length ≤ _; omega
theorem dN_len (es : List En) : (dN es).length ≤ es.length := by
  induction es using snocInd with
  | nil => exact Nat.le_refl _
  | snoc es e ih =>
    rw [dN_snoc, List.length_append, List.length_singleton]
    cases e with
    | va x n => exact Nat.le_trans (putS_len _ _ _) (by omega)
    | pl x n => show (dN es).length ≤ _; omega
    | ar x n => show (dN es).length ≤ _; omega
theorem dA_len (es : List En) : (dA es).length ≤ es.length := by
  induction es using snocInd with
  | nil => exact Nat.le_refl _
  | snoc es e ih =>
    rw [dA_snoc, List.length_append, List.length_singleton]
    cases e with
    | ar x n => exact Nat.le_trans (putS_len _ _ _) (by omega)
    | pl x n => show (dA es).length ≤ _; omega
    | va x n => show (dA es).length ≤ _; omega
theorem DiI.keep {d a : Addr} {H H' : Hp} {P : Al Int} (e : Keep d H H') (hne : a ≠ d) (h : DiI H a P) : DiI H' a P := e _ _ hne h
theorem DiR.keep {d a : Addr} {H H' : Hp} {kvs : List (L2.Key × V)} {A : Al Row} (e : Keep d H H') (hd : H d = some (.dK kvs)) (hne : a ≠ d) (h : DiR H a A) : DiR H' a A := by
  obtain ⟨rs, h1, h2⟩ := h
  exact ⟨rs, e _ _ hne h1, rws_keep e hd h2⟩
structure Rk (H : Hp) (dk kp kv ka : Addr) : Prop where
  fk : H dk = none
  fp : H kp = none
  fv : H kv = none
  fa : H ka = none
  n1 : dk ≠ kp
  n2 : dk ≠ kv
  n3 : dk ≠ ka
  n4 : kp ≠ kv
  n5 : kp ≠ ka
  n6 : kv ≠ ka
def kn (kp kv ka : Addr) : Al Addr := [(Str.ofString "place", kp), (Str.ofString "value", kv), (Str.ofString "array", ka)]
structure RdSt (H H' : Hp) (dk kp kv ka : Addr) (es : List En) : Prop where
  s : Same H H'
  k : H' dk = some (.dK (kvOf V.ref (kn kp kv ka)))
  p : DiI H' kp (dP es)
  v : DiI H' kv (dN es)
  a : DiR H' ka (dA es)
section
variable {H H' H'' : Hp} {dk kp kv ka : Addr} {es : List En}
theorem RdSt.more (e : Same H' H'') (h : RdSt H H' dk kp kv ka es) : RdSt H H'' dk kp kv ka es := ⟨h.s.trans e, e _ _ h.k, h.p.same e, h.v.same e, h.a.same e⟩
theorem RdSt.putP (r : Rk H dk kp kv ka) (h : RdSt H H' dk kp kv ka es) (nm : Str) (n : Int) : RdSt H (upd H' kp (.dK (putK (kvOf V.int (dP es)) (.inr nm) (.int n)))) dk kp kv ka (es ++ [.pl nm n]) := by
  refine ⟨Same.mut h.s r.fp, by rw [upd_ne r.n1]; exact h.k, ?_, ?_, ?_⟩
  · rw [dP_snoc]; exact DiI.put nm n
  · rw [dN_snoc]; exact DiI.keep Keep.lock r.n4.symm h.v
  · rw [dA_snoc]; exact DiR.keep Keep.lock h.p r.n5.symm h.a
theorem RdSt.putV (r : Rk H dk kp kv ka) (h : RdSt H H' dk kp kv ka es) (nm : Str) (n : Int) : RdSt H (upd H' kv (.dK (putK (kvOf V.int (dN es)) (.inr nm) (.int n)))) dk kp kv ka (es ++ [.va nm n]) := by
  refine ⟨Same.mut h.s r.fv, by rw [upd_ne r.n2]; exact h.k, ?_, ?_, ?_⟩
  · rw [dP_snoc]; exact DiI.keep Keep.lock r.n4 h.p
  · rw [dN_snoc]; exact DiI.put nm n
  · rw [dA_snoc]; exact DiR.keep Keep.lock h.v r.n6.symm h.a
theorem RdSt.putA {rs : Al Addr} {l : Addr} {row : Row} (r : Rk H dk kp kv ka) (h : RdSt H H' dk kp kv ka es) (nm : Str) (h1 : H' ka = some (.dK (kvOf V.ref rs))) (h2 : Paired (fun a b => a.1 = b.1 ∧ RowAt H' a.2 b.2) rs (dA es)) (hl : RowAt H' l row) :
    RdSt H (upd H' ka (.dK (putK (kvOf V.ref rs) (.inr nm) (.ref l)))) dk kp kv ka (es ++ [.ar nm row]) := by
  refine ⟨Same.mut h.s r.fa, by rw [upd_ne r.n3]; exact h.k, ?_, ?_, ?_⟩
  · rw [dP_snoc]; exact DiI.keep Keep.lock r.n5 h.p
  · rw [dN_snoc]; exact DiI.keep Keep.lock r.n6 h.v
  · rw [dA_snoc]; exact DiR.put h1 h2 hl
end
theorem w_ne1 : ¬ (Str.ofString "place" = Str.ofString "value") := by decide
theorem w_ne2 : ¬ (Str.ofString "place" = Str.ofString "array") := by decide
theorem w_ne3 : ¬ (Str.ofString "value" = Str.ofString "array") := by decide
theorem kn0 (kp kv ka : Addr) : lookS (kn kp kv ka) (Str.ofString "place") = some kp := by simp [lookS, kn]
theorem kn1 (kp kv ka : Addr) : lookS (kn kp kv ka) (Str.ofString "value") = some kv := by simp [lookS, kn, w_ne1]
theorem kn2 (kp kv ka : Addr) : lookS (kn kp kv ka) (Str.ofString "array") = some ka := by simp [lookS, kn, w_ne2, w_ne3]
theorem kn_no (kp kv ka : Addr) {x : Str} (h0 : x ≠ Str.ofString "place") (h1 : x ≠ Str.ofString "value") (h2 : x ≠ Str.ofString "array") : lookS (kn kp kv ka) x = none := by simp [lookS, kn, Ne.symm h0, Ne.symm h1, Ne.symm h2]
theorem tl_w0 : tl (Str.ofString "place") = wordL 0 := by decide +kernel
theorem tl_w1 : tl (Str.ofString "value") = wordL 1 := by decide +kernel
theorem tl_w2 : tl (Str.ofString "array") = wordL 2 := by decide +kernel
theorem tl_sp : tl (Str.ofString " ") = [32] := by decide +kernel
def spReadState (CS CU : Addr) : Sp := fun vs H Q E => ∃ x : Str, vs = [.str x] ∧ x.length ≤ 16000 ∧
  (∀ c, WFC c → tl x = showS c → ∀ p H', Same H H' → H p = none → StAt CS H' p (plsOf c) (vasOf c) (arsOf c) → Q (.ref p) H') ∧
  ((¬ ∃ c, WFC c ∧ tl x = showS c) → ∀ (d : Addr) (H' : Hp), Same H H' → H d = none → H' d = some (.xd [("value", .str x)]) → E (.ref CU) (some d) H')
theorem bef_len (c : Nat) (t : List Nat) : (bef c t).length ≤ t.length := (List.takeWhile_sublist _).length_le
theorem aft_len (c : Nat) (t : List Nat) : (aft c t).length ≤ t.length := by
  unfold aft
  rw [List.length_drop]
  have := (List.dropWhile_sublist (fun d => decide (d ≠ c)) (l := t)).length_le
  omega
end A80
end
section
set_option Elab.async false
set_option maxRecDepth 100000
set_option maxHeartbeats 4000000
set_option autoImplicit false
namespace A80
open PySem PySem.Spec L2 PyProof.Rows TL
theorem pieces_len (t : List Nat) : (piecesOf t).length ≤ t.length + 2 ∧ ∀ p ∈ piecesOf t, p.length ≤ t.length := by
  unfold piecesOf
  by_cases h0 : t = []
  · rw [if_pos h0]
    exact ⟨Nat.zero_le _, fun p hp => by simp at hp⟩
  · rw [if_neg h0]
    have hj := joinL_len [59, 32] (spl_ne [59, 32] 0 [] t)
    rw [join_spl0 (by simp)] at hj
    have hj : t.length + 2 = ((spl [59, 32] 0 [] t).map fun p => p.length + 2).sum := hj
    have gen : ∀ l : List (List Nat), 2 * l.length ≤ (l.map fun p => p.length + 2).sum ∧ ∀ p ∈ l, p.length + 2 ≤ (l.map fun p => p.length + 2).sum := by
      intro l
      induction l with
      | nil => exact ⟨Nat.zero_le _, fun p hp => by simp at hp⟩
      | cons a l ih =>
        rw [List.map_cons, List.sum_cons, List.length_cons]
        refine ⟨by omega, fun p hp => ?_⟩
        rcases List.mem_cons.mp hp with z | z
        · rw [z]; omega
        · have := ih.2 p z; omega
    obtain ⟨g1, g2⟩ := gen (spl [59, 32] 0 [] t)
    exact ⟨by omega, fun p hp => by have := g2 p hp; omega⟩
section
variable {P : Program} {w : World} {K : PySem.W.Frag} {mg : Str → Option Value} {base : Heap} {CS CU : Addr}
theorem cl_read_state (T : Tx K mg CS) (U : Ux K mg CU) (D : Kb K mg "read_state" S_read_state ["text"]) (c_err : ErrI P w K mg base 1 CU) (c_is_name : Cl P w K mg base 1 "is_name" spIsName) (c_read_row : Cl P w K mg base 3 "read_row" spReadRow)
    (c_read_integer : Cl P w K mg base 1 "read_integer" spReadInt) (c_State : C8.Mak P w K mg base 2 "State" CS (spInit CS) []) (c_show_state : Cl P w K mg base 3 "show_state" (spShow CS)) :
    ClX P w K mg base 4 "read_state" ["text"] (spReadState CS CU) := by
  have sc := sc_read_state
  refine clx_mk D sc (fun vs H Q E h => ?_) (fun f cdv A outer s H vs Q E hr h => ?_)
  · obtain ⟨x, rfl, _⟩ := h
    rfl
  · obtain ⟨x, rfl, hxl, kOk, kBad⟩ := h
    refine ⟨_, (pss_cons (ps_set (i := 1) sc.nd rfl (Or.inl rfl) (pe_disp (pps_cons pe_str pe_dnewK (pps_cons pe_str pe_dnewK (pps_cons pe_str pe_dnewK pps_nil))) (by rfl) (by rfl) (fun z => by cases z) (by decide)))
      (C8.pss_cut (ps_set (i := 2) sc.nd rfl (Or.inl rfl) (pe_ifExp (pt_cmpR op_ne (pv 0) pe_str (nomark _)) (pe_split (pv 0) pe_str) (pe_lst pa_nil)))
      (pss_cons (ps_for (passes_of rfl) rfl (piL K (pv 2)) (pg_name (i := 3) sc.nd rfl (Or.inl rfl))
      (pss_cons (ps_asg (pe_partition (pv 3) pe_str) (pgT K (n := 3) rfl (pgs_cons (pg_name (i := 4) sc.nd rfl (Or.inl rfl)) (pgs_cons (pg_name (i := 5) sc.nd rfl (Or.inl rfl)) (pgs_cons (pg_name (i := 6) sc.nd rfl (Or.inl rfl)) pgs_nil)))))
      (pss_cons (ps_asg (pe_partition (pv 6) pe_str) (pgT K (n := 3) rfl (pgs_cons (pg_name (i := 7) sc.nd rfl (Or.inl rfl)) (pgs_cons (pg_name (i := 8) sc.nd rfl (Or.inl rfl)) (pgs_cons (pg_name (i := 9) sc.nd rfl (Or.inl rfl)) pgs_nil)))))
      (pss_cons (ps_if (PW.pt (pw_or (pt_cmp (pc_dnotin (hu_of hr) (pv 4) (pv 1))) (pw_or1 (pt_not (pt_val (pe_c c_is_name hr (by decide) rfl (pa_cons (pv 7) pa_nil)))))))
      (pss_one (ps_unread U c_err hr (by decide) rfl (takes_of rfl rfl rfl rfl) (pa_cons (pv 0) pa_nil) rfl))
      pss_nil)
      (pss_one (ps_if (pt_cmpR op_eq (pv 4) pe_str (nomark _))
      (pss_cons (ps_dput (hu_of hr) (pe_dget (hu_of hr) (pv 1) (pv 4) (fun _ _ => rfl)) (pv 7) (pe_c c_read_row hr (by decide) rfl (pa_cons (pv 9) pa_nil)) rfl)
      (pss_one (ps_if (pt_cmpR (op_eqD hr.units) (pe_dget (hu_of hr) (pe_dget (hu_of hr) (pv 1) (pv 4) (fun _ _ => rfl)) (pv 7) (fun _ _ => rfl)) (pe_lst pa_nil) (nomark _))
      (pss_one (ps_unread U c_err hr (by decide) rfl (takes_of rfl rfl rfl rfl) (pa_cons (pv 0) pa_nil) rfl))
      pss_nil)))
      (pss_cons (ps_set (i := 10) sc.nd rfl (Or.inl rfl) (pe_c c_read_integer hr (by decide) rfl (pa_cons (pv 9) pa_nil)))
      (pss_cons (ps_if (pt_cmpR (op_eqD hr.units) (pv 10) (pe_lst pa_nil) (nomark _))
      (pss_one (ps_unread U c_err hr (by decide) rfl (takes_of rfl rfl rfl rfl) (pa_cons (pv 0) pa_nil) rfl))
      pss_nil)
      (pss_one (ps_dput (hu_of hr) (pe_dget (hu_of hr) (pv 1) (pv 4) (fun _ _ => rfl)) (pv 7) (pe_ix (ixL K) (pv 10) pe_int (fun _ _ => rfl)) rfl))))))))))
      (pss_cons (ps_set (i := 11) sc.nd rfl (Or.inl rfl) (C8.pe_mk c_State hr (by decide) rfl (pa_cons (pe_dget (hu_of hr) (pv 1) pe_str (fun _ _ => rfl)) (pa_cons (pe_dget (hu_of hr) (pv 1) pe_str (fun _ _ => rfl)) (pa_cons (pe_dget (hu_of hr) (pv 1) pe_str (fun _ _ => rfl)) pa_nil)))))
      (pss_cons (ps_if (pt_cmpR op_ne (pe_c c_show_state hr (by decide) rfl (pa_cons (pv 11) pa_nil)) (pv 0) (nomark _))
      (pss_one (ps_unread U c_err hr (by decide) rfl (takes_of rfl rfl rfl rfl) (pa_cons (pv 0) pa_nil) rfl))
      pss_nil)
      (pss_one (ps_ret (pv 11)))))))), ?_⟩
    have hxt : (tl x).length ≤ 16000 := by rw [← str_len]; exact hxl
    -- known = {'place': {}, 'value': {}, 'array': {}}
    refine fun dk hdk => ?_
    refine fun kp hkp => ?_
    refine fun kv hkv => ?_
    refine fun ka hka => ?_
    have n1 : dk ≠ kp := ne_of_none upd_same hkp
    have n2 : dk ≠ kv := ne_of_none (Same.new hkp _ _ upd_same) hkv
    have n4 : kp ≠ kv := ne_of_none upd_same hkv
    have n3 : dk ≠ ka := ne_of_none (Same.new hkv _ _ (Same.new hkp _ _ upd_same)) hka
    have n5 : kp ≠ ka := ne_of_none (Same.new hkv _ _ upd_same) hka
    have n6 : kv ≠ ka := ne_of_none upd_same hka
    have s1 : L2.Same H (upd H dk (.dK [])) := Same.new hdk
    have s2 := Same.step (o := .dK []) s1 hkp
    have s3 := Same.step (o := .dK []) s2 hkv
    have s4 := Same.step (o := .dK []) s3 hka
    have rk : Rk H dk kp kv ka := ⟨hdk, s1.free hkp, s2.free hkv, s3.free hka, n1, n2, n3, n4, n5, n6⟩
    refine ⟨(by rw [upd_ne n3, upd_ne n2, upd_ne n1, upd_same]), kvOf V.ref (kn kp kv ka), rfl, (by show 3 ≤ 15; omega), ?_⟩
    rw [merge_nil V.ref (kn kp kv ka) (by
      show (List.map (fun x => x.1) [(Str.ofString "place", kp), (Str.ofString "value", kv), (Str.ofString "array", ka)]).Nodup
      simp [w_ne1, w_ne2, w_ne3])]
    have st0 : RdSt H (upd (upd (upd (upd (upd H dk (.dK [])) kp (.dK [])) kv (.dK [])) ka (.dK [])) dk (.dK (kvOf V.ref (kn kp kv ka)))) dk kp kv ka [] := by
      refine ⟨Same.mut s4 hdk, upd_same, ?_, ?_, [], ?_, .nil⟩
      · show upd _ _ _ kp = _
        rw [upd_ne n1.symm, upd_ne n5, upd_ne n4, upd_same]
        rfl
      · show upd _ _ _ kv = _
        rw [upd_ne n2.symm, upd_ne n6, upd_same]
        rfl
      · rw [upd_ne n3.symm, upd_same]
        rfl
    obtain ⟨H0, e0⟩ : ∃ H0, H0 = upd (upd (upd (upd (upd H dk (.dK [])) kp (.dK [])) kv (.dK [])) ka (.dK [])) dk (.dK (kvOf V.ref (kn kp kv ka))) := ⟨_, rfl⟩
    rw [← e0] at st0 ⊢
    clear e0 s1 s2 s3 s4
    -- pieces
    refine ⟨fun σ H' => ∃ (l : Addr) (ps : List Str), σ = [some (.str x), some (.ref dk), some (.ref l), none, none, none, none, none, none, none, none, none] ∧ RdSt H H' dk kp kv ka [] ∧ H' l = some (.lst (ps.map V.str)) ∧ ps.map tl = piecesOf (tl x), ?_, ?_⟩
    · refine ⟨_, rfl, rfl, _, rfl, ite_b (fun c => ?_) (fun c => ?_)⟩
      · have c : tl x ≠ [] := fun z => by
          have c : (!decide (V.str x = V.str (Str.ofString ""))) = true := c
          rw [decide_eq_true (str_eq.mpr z)] at c
          cases c
        refine ⟨_, rfl, ⟨_, rfl⟩, x, Str.ofString "; ", rfl, rfl, by decide +kernel, by rw [sizeLine_eq]; omega, fun l hl => ?_⟩
        refine ⟨l, _, rfl, st0.more (Same.new hl), upd_same, ?_⟩
        rw [split_tl x (Str.ofString "; ") (by rw [tl_semi]; simp) (by decide +kernel), tl_semi]
        unfold piecesOf
        rw [if_neg c]
      · have c : tl x = [] := by
          have c : (!decide (V.str x = V.str (Str.ofString ""))) = false := c
          have c : decide (V.str x = V.str (Str.ofString "")) = true := by simpa using c
          exact str_eq.mp (of_decide_eq_true c)
        refine ⟨size_le (by show 0 ≤ _; omega), fun l hl => ?_⟩
        refine ⟨l, [], rfl, st0.more (Same.new hl), upd_same, ?_⟩
        unfold piecesOf
        rw [if_pos c]
        rfl
    rintro σ H1 ⟨l, ps, rfl, st1, hl1, hps⟩
    obtain ⟨hpl, hpz⟩ := pieces_len (tl x)
    have hpl' : ps.length ≤ 16002 := by have := congrArg List.length hps; rw [List.length_map] at this; omega
    have nl : ∀ {a kvs}, H1 a = some (.dK kvs) → l ≠ a := fun {a kvs} h => ne_of hl1 h (by intro z; cases z)
    have nlp := nl st1.p
    have nlv := nl st1.v
    have nla : l ≠ ka := by obtain ⟨rs, h, _⟩ := st1.a; exact nl h
    refine ⟨_, rfl, l, rfl, ⟨_, SqL.of hl1⟩, ?_⟩
    refine for_it walk_list (fun i σ H' => ∃ (es : List En) (v3 v4 v5 v6 v7 v8 v9 v10 : Option V), σ = [some (.str x), some (.ref dk), some (.ref l), v3, v4, v5, v6, v7, v8, v9, v10, none] ∧ RdSt H H' dk kp kv ka es ∧ H' l = some (.lst (ps.map V.str)) ∧ (ps.take i).map tl = es.map showE ∧ ∀ e ∈ es, okEr rawR e)
      ⟨[], none, none, none, none, none, none, none, none, rfl, st1, hl1, rfl, fun e he => by simp at he⟩ (fun i σ H' _ ⟨_, _, _, _, _, _, _, _, _, _, _, h, _⟩ => SqL.of h) ?_ ?_
    · rintro i v σ H2 H3 hi ⟨es, v3, v4, v5, v6, v7, v8, v9, v10, rfl, st, hll, hes, hraw⟩ ⟨rfl, hv⟩
      obtain ⟨t, ht, rfl⟩ := get_map_str hv
      have htp : tl t ∈ piecesOf (tl x) := by rw [← hps]; exact List.mem_map.mpr ⟨t, List.mem_of_getElem? ht, rfl⟩
      have htz := hpz _ htp
      have htl : t.length ≤ 16000 := by rw [str_len]; omega
      have hes2 : (ps.take (i + 1)).map tl = es.map showE ++ [tl t] := by rw [take_succ_get ht, List.map_append, hes]; rfl
      have hel : es.length ≤ 16002 := by have := congrArg List.length hes; rw [List.length_map, List.length_map, List.length_take] at this; omega
      -- word, gap, rest = piece.partition(' ')
      obtain ⟨p1, p2, p3, p4⟩ := part_tl t (Str.ofString " ") tl_sp
      refine ⟨_, rfl, ⟨_, rfl⟩, t, Str.ofString " ", rfl, rfl, by decide +kernel, size_le (by omega), fun q1 hq1 => ?_⟩
      obtain ⟨word, ew⟩ : ∃ a, a = (Txt.partition t (Str.ofString " ")).1 := ⟨_, rfl⟩
      obtain ⟨gap, eg⟩ : ∃ a, a = (Txt.partition t (Str.ofString " ")).2.1 := ⟨_, rfl⟩
      obtain ⟨rest, er⟩ : ∃ a, a = (Txt.partition t (Str.ofString " ")).2.2 := ⟨_, rfl⟩
      rw [← ew, ← eg, ← er]
      rw [← ew] at p1
      rw [← er] at p4
      have t1 := Same.new (o := .tup [.str word, .str gap, .str rest]) hq1
      refine ⟨q1, _, rfl, SqT.of upd_same, rfl, _, _, rfl, _, _, rfl, _, _, rfl, rfl, ?_⟩
      have hrl : rest.length ≤ 16000 := by have := aft_len 32 (tl t); rw [← p4, ← str_len] at this; omega
      -- name, sign, shown = rest.partition('=')
      obtain ⟨r1, r2, r3, r4⟩ := part_tl rest (Str.ofString "=") tl_eqs
      refine ⟨_, rfl, ⟨_, rfl⟩, rest, Str.ofString "=", rfl, rfl, by decide +kernel, size_le (by omega), fun q2 hq2 => ?_⟩
      obtain ⟨nm, en⟩ : ∃ a, a = (Txt.partition rest (Str.ofString "=")).1 := ⟨_, rfl⟩
      obtain ⟨sign, es'⟩ : ∃ a, a = (Txt.partition rest (Str.ofString "=")).2.1 := ⟨_, rfl⟩
      obtain ⟨sh, esh⟩ : ∃ a, a = (Txt.partition rest (Str.ofString "=")).2.2 := ⟨_, rfl⟩
      rw [← en, ← es', ← esh]
      rw [← en, p4] at r1
      rw [← esh, p4] at r4
      have t2 := Same.step (o := .tup [.str nm, .str sign, .str sh]) t1 hq2
      refine ⟨q2, _, rfl, SqT.of upd_same, rfl, _, _, rfl, _, _, rfl, _, _, rfl, rfl, ?_⟩
      have hnl : nm.length ≤ 16000 := by rw [str_len, r1]; exact Nat.le_trans (bef_len _ _) (Nat.le_trans (aft_len _ _) (by omega))
      have hsl : sh.length ≤ 16000 := by rw [str_len, r4]; exact Nat.le_trans (aft_len _ _) (Nat.le_trans (aft_len _ _) (by omega))
      obtain ⟨H4, e4⟩ : ∃ H4, H4 = upd (upd H3 q1 (.tup [.str word, .str gap, .str rest])) q2 (.tup [.str nm, .str sign, .str sh]) := ⟨_, rfl⟩
      rw [← e4] at t2 ⊢
      have st4 := st.more t2
      have hl4 := t2 _ _ hll
      have bad : parseE rdRaw (tl t) = none → ∀ H', L2.Same H H' → ∀ a, H' a = none → spErr CU (.ref a :: ([V.str x] ++ [])) (upd H' a (exo a CU none)) (fun v H2 => v = .non ∧ ∃ (d : Addr) (fs : List (Str × V)), H2 a = some (exo a CU (some d)) ∧ H2 d = some (exd d fs) ∧ H' d = none ∧ E (.ref CU) (some d) (upd (del H2 a) d (.xd fs))) (fun _ _ _ => False) :=
        fun hp H' s' => boom s' (kBad (parse_fail htp hp))
      -- if word not in known or not is_name(name): raise
      refine ⟨_, rfl, _, rfl, dk, lookS (kn kp kv ka) word |>.map V.ref, rfl, by have := DGet.k (k := .inr word) st4.k; rw [valV_of] at this; exact this, ?_⟩
      by_cases hw0 : word = Str.ofString "place" ∨ word = Str.ofString "value" ∨ word = Str.ofString "array"
      case neg =>
        have a0 : word ≠ Str.ofString "place" := fun z => hw0 (.inl z)
        have a1 : word ≠ Str.ofString "value" := fun z => hw0 (.inr (.inl z))
        have a2 : word ≠ Str.ofString "array" := fun z => hw0 (.inr (.inr z))
        rw [kn_no kp kv ka a0 a1 a2]
        refine ⟨_, rfl, iteT ?_⟩
        refine ⟨_, rfl, (by show 1 ≤ 1000; omega), bad (parse_bad r1 (.inr ⟨fun z => a0 (ext_tl ?_), fun z => a1 (ext_tl ?_), fun z => a2 (ext_tl ?_)⟩)) H4 st4.s⟩
        · rw [p1, z, tl_w0]
        · rw [p1, z, tl_w1]
        · rw [p1, z, tl_w2]
      have hsome : ∃ d, lookS (kn kp kv ka) word = some d := by
        rcases hw0 with h | h | h
        · rw [h]; exact ⟨_, kn0 _ _ _⟩
        · rw [h]; exact ⟨_, kn1 _ _ _⟩
        · rw [h]; exact ⟨_, kn2 _ _ _⟩
      obtain ⟨d, hd⟩ := hsome
      rw [hd]
      refine ⟨_, rfl, iteF ?_⟩
      refine ⟨_, rfl, nm, rfl, by omega, _, rfl, ?_⟩
      cases hn : okNm (tl nm) with
      | false => exact ⟨_, rfl, (by show 1 ≤ 1000; omega), bad (parse_bad r1 (.inl hn)) H4 st4.s⟩
      | true =>
        -- if word == 'array'
        refine ⟨_, rfl, rfl, _, rfl, ite_b (fun c => ?_) (fun c => ?_)⟩
        · have ewd : word = Str.ofString "array" := ext_tl (str_eq.mp (of_decide_eq_true c))
          have hw : bef 32 (tl t) = wordL 2 := by rw [← p1, ewd]; exact tl_w2
          have hpar := parse_ar (rd := rdRaw) r1 hn hw
          rw [ewd, kn2] at hd
          cases hd
          rw [← r4] at hpar
          -- known[word][name] = read_row(shown)
          refine ⟨_, rfl, sh, rfl, hsl, fun g H5 s5 hg hgr => ?_⟩
          have st5 := st4.more s5
          have hl5 := s5 _ _ hl4
          obtain ⟨rs, ha1, ha2⟩ := st5.a
          have getk : DGet H5 dk (.str word) (some (.ref ka)) := by
            have := DGet.k (k := .inr word) st5.k
            rw [valV_of, ewd, kn2] at this
            rw [ewd]
            exact this
          refine ⟨_, rfl, _, rfl, dk, _, rfl, getk, _, rfl, ka, _, rfl, DPut.k (k := .inr nm) ha1 (by rw [kvOf_len, paired_len ha2]; have := dA_len es; exact size_lt (by omega)), ?_⟩
          have st6 := st5.putA rk nm ha1 ha2 hgr
          have hl6 : upd H5 ka (.dK (putK (kvOf V.ref rs) (.inr nm) (.ref g))) l = some (.lst (ps.map V.str)) := by rw [upd_ne nla]; exact hl5
          have ha6 : upd H5 ka (.dK (putK (kvOf V.ref rs) (.inr nm) (.ref g))) ka = some (.dK (kvOf V.ref (putS rs nm g))) := by rw [upd_same, putK_of]
          have hgr6 := hgr.keep (Keep.lock (o := .dK (putK (kvOf V.ref rs) (.inr nm) (.ref g)))) ha1
          obtain ⟨H6, e6⟩ : ∃ H6, H6 = upd H5 ka (.dK (putK (kvOf V.ref rs) (.inr nm) (.ref g))) := ⟨_, rfl⟩
          rw [← e6] at st6 hl6 ha6 hgr6 ⊢
          have hnrs : (rs.map (·.1)).Nodup := by rw [rws_keys ha2]; exact dA_nodup es
          have hlook : lookS (putS rs nm g) nm = some g := by
            refine lookS_of (putS_nodup nm g hnrs) ?_
            unfold putS
            split
            · rename_i hany
              obtain ⟨q, hq, e⟩ := List.any_eq_true.mp hany
              have e : q.1 = nm := of_decide_eq_true e
              refine List.mem_map.mpr ⟨q, hq, ?_⟩
              rw [if_pos e, e]
            · exact List.mem_append_right _ (List.mem_singleton.mpr rfl)
          have getk6 : DGet H6 dk (.str word) (some (.ref ka)) := by
            have := DGet.k (k := .inr word) st6.k
            rw [valV_of, ewd, kn2] at this
            rw [ewd]
            exact this
          have getr6 : DGet H6 ka (.str nm) (some (.ref g)) := by
            have := DGet.k (k := .inr nm) ha6
            rw [valV_of, hlook] at this
            exact this
          -- if known[word][name] == []: raise
          refine ⟨_, rfl, _, rfl, dk, _, rfl, getk6, _, rfl, ka, _, rfl, getr6, size_le (by show 0 ≤ _; omega), fun q3 hq3 => ?_⟩
          have s7 := Same.new (o := .lst []) hq3
          refine ⟨rowD ((rdRaw (tl sh)).getD []), .list [], dp_row (hgr6.same s7), dp_nil upd_same, shaped_row _, rfl, _, rfl, ite_b (fun cc => ?_) (fun cc => ?_)⟩
          · have cc : (rdRaw (tl sh)).getD [] = [] := by
              have h := eqv_row ((rdRaw (tl sh)).getD []) []
              rw [rowD_nil] at h
              rw [h] at cc
              exact of_decide_eq_true cc
            have hp0 : parseE rdRaw (tl t) = none := by
              cases hr0 : rdRaw (tl sh) with
              | none => rw [hpar, hr0]; rfl
              | some row =>
                rw [hr0] at cc
                exact absurd cc ((rdRaw_iff _ _).mp hr0).2.1
            exact ⟨_, rfl, (by show 1 ≤ 1000; omega), bad hp0 _ (st6.s.trans s7)⟩
          · have cc : ¬ (rdRaw (tl sh)).getD [] = [] := by
              have h := eqv_row ((rdRaw (tl sh)).getD []) []
              rw [rowD_nil] at h
              rw [h] at cc
              exact of_decide_eq_false cc
            cases hr0 : rdRaw (tl sh) with
            | none => rw [hr0] at cc; exact absurd rfl cc
            | some row =>
              rw [hr0] at hpar st6
              obtain ⟨b1, b2⟩ := (parseRaw (tl t) (.ar nm row)).mp hpar
              refine ⟨es ++ [.ar nm row], _, _, _, _, _, _, _, _, rfl, st6.more s7, s7 _ _ hl6, ?_, fun e he => ?_⟩
              · rw [hes2, List.map_append, b1]
                rfl
              · rcases List.mem_append.mp he with z | z
                · exact hraw e z
                · rw [List.mem_singleton.mp z]; exact b2
        · have ewd : word ≠ Str.ofString "array" := fun z => of_decide_eq_false c (by rw [z])
          -- one of the two dicts of ints
          obtain ⟨mkE, L, hL, hpar, step⟩ : ∃ (mkE : Int → En) (L : Al Int), L.length ≤ es.length ∧ parseE rdRaw (tl t) = (readI (tl sh)).map mkE ∧ ∀ H', RdSt H H' dk kp kv ka es → DiI H' d L ∧ l ≠ d ∧ ∀ n, RdSt H (upd H' d (.dK (putK (kvOf V.int L) (.inr nm) (.int n)))) dk kp kv ka (es ++ [mkE n]) := by
            rcases hw0 with h | h | h
            · rw [h, kn0] at hd
              cases hd
              refine ⟨En.pl nm, dP es, dP_len es, ?_, fun H' st => ⟨st.p, nlp, fun n => st.putP rk nm n⟩⟩
              rw [r4]
              exact parse_pl r1 hn (by rw [← p1, h]; exact tl_w0)
            · rw [h, kn1] at hd
              cases hd
              refine ⟨En.va nm, dN es, dN_len es, ?_, fun H' st => ⟨st.v, nlv, fun n => st.putV rk nm n⟩⟩
              rw [r4]
              exact parse_va r1 hn (by rw [← p1, h]; exact tl_w1)
            · exact absurd h ewd
          -- found = read_integer(shown)
          refine ⟨_, rfl, sh, rfl, by omega, fun g H5 s5 hg hgl => ?_⟩
          rw [optV_map] at hgl
          have st5 := st4.more s5
          have hl5 := s5 _ _ hl4
          refine ⟨_, rfl, size_le (by show 0 ≤ _; omega), fun q3 hq3 => ?_⟩
          have s7 := Same.new (o := .lst []) hq3
          have hgl7 := s7 _ _ hgl
          refine ⟨intsD (readI (tl sh)).toList, .list [], dp_ints hgl7, dp_nil upd_same, shaped_ints _, rfl, _, rfl, ite_b (fun cc => ?_) (fun cc => ?_)⟩
          · rw [eqv_ints0] at cc
            have cc := of_decide_eq_true cc
            cases hr0 : readI (tl sh) with
            | some n => rw [hr0] at cc; cases cc
            | none =>
              rw [hr0] at hpar
              exact ⟨_, rfl, (by show 1 ≤ 1000; omega), bad hpar _ (st5.s.trans s7)⟩
          · rw [eqv_ints0] at cc
            have cc := of_decide_eq_false cc
            cases hr0 : readI (tl sh) with
            | none => rw [hr0] at cc; exact absurd rfl cc
            | some n =>
              rw [hr0] at hpar hgl7
              obtain ⟨b1, b2⟩ := (parseRaw (tl t) (mkE n)).mp hpar
              have st7 := st5.more s7
              obtain ⟨hdd, hld, hput⟩ := step _ st7
              have getk : DGet (upd H5 q3 (.lst [])) dk (.str word) (some (.ref d)) := by
                have := DGet.k (k := .inr word) st7.k
                rw [valV_of, hd] at this
                exact this
              refine ⟨_, rfl, g, _, 0, _, rfl, rfl, SqL.of hgl7, atI_get (i := 0) rfl, _, rfl, _, rfl, dk, _, rfl, getk, _, rfl, d, _, rfl, DPut.k (k := .inr nm) hdd (by rw [kvOf_len]; exact size_lt (by omega)), ?_⟩
              refine ⟨es ++ [mkE n], _, _, _, _, _, _, _, _, rfl, hput n, ?_, ?_, fun e he => ?_⟩
              · rw [upd_ne hld]
                exact s7 _ _ hl5
              · rw [hes2, List.map_append, b1]
                rfl
              · rcases List.mem_append.mp he with z | z
                · exact hraw e z
                · rw [List.mem_singleton.mp z]; exact b2
    · rintro σ H2 ⟨es, v3, v4, v5, v6, v7, v8, v9, v10, rfl, st, hll, hes, hraw⟩
      rw [List.take_of_length_le (by rw [List.length_map]; omega), hps] at hes
      have htext := pieces_join hes
      have hshE : ∀ e ∈ es, shE e := fun e he => (hraw e he).sh fun _ q => q.1
      have hsz := sz_le_text hshE
      rw [← htext] at hsz
      have hst := stz_le es
      have getk : ∀ {k : Str} {d : Addr}, lookS (kn kp kv ka) k = some d → DGet H2 dk (.str k) (some (.ref d)) := fun {k d} h => by
        have := DGet.k (k := .inr k) st.k
        rw [valV_of, h] at this
        exact this
      have zA := szA_len (dA es)
      have inok : InOk (dP es) (dN es) (dA es) := by
        refine ⟨⟨dP_nodup es, fun p hp => (hraw _ (dP_mem hp)).1⟩, ⟨dN_nodup es, fun p hp => (hraw _ (dN_mem hp)).1⟩, ⟨dA_nodup es, fun p hp => (hraw _ (dA_mem hp)).1⟩, fun p hp => ?_, by omega, by omega, by omega⟩
        have hr' := (hraw _ (dA_mem hp)).2
        refine ⟨hr'.1, hr'.2.1, ?_⟩
        have h1 := rowT_len hr'.1
        have h2 : (rowT p.2).length + 1 ≤ (tl x).length + 1 := by
          have hm : showE (.ar p.1 p.2) ∈ piecesOf (tl x) := by rw [hes]; exact List.mem_map.mpr ⟨_, dA_mem hp, rfl⟩
          have := (pieces_len (tl x)).2 _ hm
          unfold showE at this
          rw [List.length_append, List.length_cons, List.length_append, List.length_cons] at this
          have e3 : (En.ar p.1 p.2).shown = rowT p.2 := rfl
          rw [e3] at this
          omega
        omega
      -- state = State(known['place'], known['value'], known['array'])
      refine ⟨_, rfl, dk, _, rfl, getk (kn0 _ _ _), _, rfl, dk, _, rfl, getk (kn1 _ _ _), _, rfl, dk, _, rfl, getk (kn2 _ _ _), fun y dx hy hdx hne => ?_⟩
      refine ⟨y, dx, H2, kp, kv, ka, dP es, dN es, dA es, rfl, hy, hdx, hne, rfl, st.p, st.v, st.a, inok, fun H3 s3 hS => ⟨rfl, ?_⟩⟩
      have hyH : H y = none := st.s.free hy
      have numW : NumW (dP es) (dN es) (rowsOf (dA es)) := by
        refine ⟨fun p hp => ?_, fun p hp => ?_, fun p hp q hq => ?_⟩
        · have := okI_lt (hraw _ (dP_mem hp)).2
          exact Nat.lt_of_lt_of_le this (by decide +kernel)
        · have := okI_lt (hraw _ (dN_mem hp)).2
          exact Nat.lt_of_lt_of_le this (by decide +kernel)
        · obtain ⟨r, hr', e⟩ := rowsOf_mem hp
          have hC := (hraw _ (dA_mem hr')).2.2.2
          rw [e] at hq
          have hs : ∀ p ∈ sortA r, p ∈ r := fun p hp => (sortA_perm r).mem_iff.mp hp
          obtain ⟨⟨p', hp', e1⟩, h2⟩ := leastS_mem hq
          have b1 := okI_lt (hC p' (hs _ hp')).2
          unfold okW
          refine ⟨?_, by rw [e1]; omega⟩
          rcases h2 with h2 | h2 | ⟨p2, hp2, h2⟩
          · have := okI_lt (hC q (hs _ h2)).1; omega
          · rw [h2]; decide +kernel
          · have := okI_lt (hC p2 (hs _ hp2)).1
            rw [h2]
            omega
      have hz2 : stz (dP es) (dN es) (rowsOf (dA es)) ≤ 20000 := by
        unfold stz
        have := szA_rowsOf (dA es)
        omega
      have sH3 := st.s.trans s3
      refine ⟨_, rfl, y, dP es, dN es, rowsOf (dA es), rfl, hS, inOk_stOk inok, numW, hz2, fun z H4 s4 hz => ?_⟩
      have sH4 := sH3.trans s4
      refine ⟨_, rfl, rfl, _, rfl, ite_b (fun c => ?_) (fun c => ?_)⟩
      · have c : ¬ (V.str z = V.str x) := fun q => by
          have c : (!decide (V.str z = V.str x)) = true := c
          rw [decide_eq_true q] at c
          cases c
        refine ⟨_, rfl, (by show 1 ≤ 1000; omega), boom sH4 (kBad ?_)⟩
        rintro ⟨c', hc', hx'⟩
        have : es = c' := showS_inj hshE hc'.sh (by rw [← htext, hx'])
        subst this
        apply c
        rw [str_eq, hz, (canon_self hc').1, htext]
      · have c : V.str z = V.str x := by
          have c : (!decide (V.str z = V.str x)) = false := c
          have c : decide (V.str z = V.str x) = true := by simpa using c
          exact of_decide_eq_true c
        have hwf : WFC es := by
          refine (read_decide hraw).mp ?_
          rw [← hz, str_eq.mp c, htext]
        obtain ⟨d1, d2, d3⟩ := d_of_asc hwf.2
        have hS4 := hS.same s4
        rw [(canon_self hwf).2, d1, d2] at hS4
        exact ⟨_, rfl, kOk es hwf htext y H4 sH4 hyH hS4⟩
end
end A80
end
section
set_option Elab.async false
set_option maxRecDepth 100000
set_option maxHeartbeats 4000000
set_option autoImplicit false
namespace A80
open PySem PySem.Spec L2 PyProof.Rows TL
/-! ### (a, ..).m(e): a method of a tuple that is written -/
def tTupM (r : V → List V → Hp → VK → Prop) (to t : TA) : TE := fun σ H Q => to σ H fun xs H1 => xs.length ≤ sizeLine ∧ ∀ p, H1 p = none → t σ (upd H1 p (.tup xs)) fun ys H2 => r (.ref p) ys H2 Q
theorem pe_tupM {X : Cx} {e : Expr} {es os : List Expr} {to t : TA} {name : Str} {apos cpos tpos : Pos} {id : String} {r : V → List V → Hp → VK → Prop} {k : Nat} (slot : Slot "tuple" name id) (hty : typeOf (.builtin id) = pure (.type "method_descriptor")) (hm : MtR X id r) (ho : PA X os to) (ha : PA X (e :: es) t)
    (hbase : attributeBase (.Tuple os k tpos) name X.env (eval (.Tuple os k tpos) X.env) = eval (.Tuple os k tpos) X.env := by rfl)
    (hfew : ((backTo cpos (starEach (e :: es) X.env)).all (fun x => !x.1) && (backToKw cpos (keywordEach [] X.env)).all (fun x => x.1.isSome)
      && decide ((e :: es).length + ([] : List Keyword).length + (if ([] : List Keyword).isEmpty then 0 else 1) < 30)) = true := by rfl)
    (hline : (apos.endLine == cpos.line) = true := by rfl) (hs : starEach (e :: es) X.env = (false, eval e X.env) :: starEach es X.env := by rfl) (hplain : (backTo cpos (starEach es X.env)).any (·.1) = false := by rfl) :
    PE X (.Call (.Attribute (.Tuple os k tpos) name apos) (e :: es) [] cpos) (tTupM r to t) := by
  refine ⟨fun pins s σ H Q I h => ?_⟩
  refine wpAny_Call_method_late hbase hfew hline rfl (wpAny_Tuple_spliced (thn (ho.run tpos pins s σ H _ I h) fun us s1 ⟨xs, H1, I1, rel, z, q⟩ => ⟨by rw [← rel.length]; exact z, ?_⟩))
  have hf : H1 s1.heap.objs.size = none := I1.hok.fresh (Nat.le_refl _)
  refine ⟨"tuple", id, PySem.F.plainAttrs_tuple, slot, hty, ⟨_, Heap.get?_push_size s1.heap rfl, rfl⟩, fun a e => ?_, ?_⟩
  · cases e
    exact ⟨_, Heap.get?_push_size s1.heap rfl, rfl⟩
  · have hA := ha.run cpos pins _ σ _ _ (I1.laid (t' := s1.toks) (h' := s1.heap.push { cls := .type "tuple", data := .seq us.toArray }) (o := .tup xs) (fun b u e => Heap.get?_push_of_some _ e) (Nat.le_refl _) ⟨z, us, rel, ⟨_, Heap.get?_push_size s1.heap rfl, rfl, _, rfl⟩⟩) (q _ hf)
    rw [hs] at hA ⊢
    refine Calls.callWith_builtin (by show (false || (backTo cpos (starEach es X.env)).any (·.1)) = false; rw [hplain] <;> rfl) (Calls.evalArgs_plain ?_)
    exact thn hA fun us2 s2 ⟨vs, H2, I3, r2, q2⟩ => hm pins s2 σ H2 (.ref s1.heap.objs.size) vs _ us2 Q I3 rfl r2 q2
end A80
end
section
set_option Elab.async false
set_option maxRecDepth 100000
set_option maxHeartbeats 4000000
set_option autoImplicit false
namespace A80
open PySem PySem.Spec L2 PyProof.Rows TL
/-! ### a name whose text has a token that is told -/
section
variable {X : Cx} {pins : List (Addr × Obj)} {σ : L2.St} {H : Hp} {s : Shared}
/-- a local name stored: what follows, by the heap that the store makes -/
theorem inv_put {x : Str} {i : Nat} {v : V} {u : Value} {h' : Heap} {m : Str → Option Value} (I : Inv X pins σ H s) (hN : X.N.Nodup) (hi : X.N[i]? = some x) (hk : X.env.kindOf x = some .local) (r : L2.RelV v u) (hn : s.heap.Ns X.env.locals m)
    (hl : ∀ (i : Nat) (x : Str) (v : V), X.N[i]? = some x → σ[i]? = some (some v) → Vis X.env.scope x → ∃ u, L2.RelV v u ∧ Look X.env s.heap m x u)
    (hn' : h'.Ns X.env.locals (fun y => if y = x then some u else m y)) (hs : Heap.SameBut X.env.locals s.heap h') : Inv X pins (σ.set i (some v)) H { s with heap := h', toks := s.toks + 1 } := by
  have out : ∀ {b o}, b ≠ X.env.locals → s.heap.get? b = some o → h'.get? b = some o := fun n e => (hs.2 _ n).trans e
  have old : ∀ {b o}, X.s_0.heap.get? b = some o → b ≠ X.env.locals := fun e => Nat.ne_of_lt (Nat.lt_of_lt_of_le (Heap.lt_size e) I.ok.above)
  have big : i < σ.length := by
    have := (List.getElem?_eq_some_iff.mp hi).1
    rw [I.len]
    exact this
  exact
    { ok := I.ok
      os := I.os
      bare := I.bare
      base :=
        { keep := fun b o e n nf nx => out (old e) (I.base.keep b o e n nf nx)
          slot := fun b o e n nf nx => let ⟨sl, q⟩ := I.base.slot b o e n nf nx; ⟨sl, out (old e) q⟩
          free := I.base.free
          there := fun b o e nx => let ⟨o', q⟩ := I.base.there b o e nx; ⟨o', out (old e) q⟩
          tups := I.base.tups
          frzs := I.base.frzs
          tbls := I.base.tbls }
      loc := by
        refine ⟨_, hn', fun j y w ej es vis => ?_⟩
        by_cases hj : j = i
        · subst hj
          rw [hi] at ej
          injection ej with ej
          subst ej
          rw [List.getElem?_set_self big] at es
          injection es with es
          injection es with es
          subst es
          exact ⟨u, r, .inl ⟨hk, if_pos rfl⟩⟩
        · rw [List.getElem?_set_ne (fun e => hj e.symm)] at es
          obtain ⟨u2, r2, look⟩ := hl j y w ej es vis
          refine ⟨u2, r2, look.elim (fun q => .inl ⟨q.1, ?_⟩) fun q => .inr ⟨q.1, ?_⟩⟩
          · have : y ≠ x := fun e => hj (nodup_ix hN ej (e ▸ hi))
            exact (if_neg this).trans q.2
          · obtain ⟨c, ec, ic⟩ := q.2
            exact ⟨c, ec, ic.sameBut hs (I.cne y c ec)⟩
      cell := fun y c e => let ⟨w, q⟩ := I.cell y c e; ⟨w, q.sameBut hs (I.cne y c e)⟩
      free := I.free
      freeC := I.freeC
      pin := fun p hp => let ⟨q1, q2, q3, q4, q5⟩ := I.pin p hp; ⟨out q3 q1, q2, q3, q4, q5⟩
      hok := fun b o e => by
        have nb : b ≠ X.env.locals := fun z => by rw [z, I.free] at e; cases e
        refine (I.hok b o e).stay (fun c w hc q => out ?_ q) (fun _ q => q) fun _ _ q => q
        intro z
        rcases hc with hc | hc
        · exact nb (hc ▸ z)
        · rw [z, I.free] at hc; cases hc
      len := by rw [List.length_set]; exact I.len }
end
/-- the local name x holds a text of one sign, its token out and told -/
def Mk1 (X : Cx) (x : Str) (s : Shared) : Prop := ∃ (m : Str → Option Value) (z : Str) (u : Tok), s.heap.Ns X.env.locals m ∧ m x = some (.str z u) ∧ z.length = 1 ∧ u ≠ 0 ∧ u < s.toks
theorem Mk1.more {X : Cx} {x : Str} {s : Shared} {h' : Heap} {k : Nat} (M : Mk1 X x s) (kp : ∀ b o, s.heap.get? b = some o → h'.get? b = some o) (hk : s.toks ≤ k) : Mk1 X x { s with heap := h', toks := k } := by
  obtain ⟨m, z, u, h1, h2, h3, h4, h5⟩ := M
  obtain ⟨o, es, ep, e, r⟩ := h1
  exact ⟨m, z, u, ⟨o, es, ep, kp _ _ e, r⟩, h2, h3, h4, Nat.lt_of_lt_of_le h5 hk⟩
def PSsM (X : Cx) (x : Str) (st : List Stmt) (t : TS) : Prop :=
  ∀ (pins : List (Addr × Obj)) (s : Shared) (σ : L2.St) (H : Hp) (D : Ends), Mk1 X x s → Inv X pins σ H s → t D σ H → wpAny (model X.prog X.w) X.A (execs st X.env) (SP X pins D) X.xe s
theorem PSsM.of {X : Cx} {x : Str} {st : List Stmt} {t : TS} (h : PSs X st t) : PSsM X x st t := fun pins s σ H D _ I q => h.run pins s σ H D I q
/-- if kind == c: body; rest -/
def tIfK (i : Nat) (c : Int) (tb u : TS) : TS := fun D σ H => ∃ k : Int, σ[i]? = some (some (.int k)) ∧ if k = c then tb { D with nx := fun _ _ => False } σ H else u D σ H
theorem psm_if {X : Cx} {x y : Str} {i : Nat} {c : Int} {j : Nat} {p cp p2 p3 : Pos} {body rest : List Stmt} {tb u : TS} (hN : X.N[i]? = some y) (hv : Vis X.env.scope y) (hb : PSsM X x body tb) (hr : PSsM X x rest u)
    (hd : (y == ("__debug__" : Str)) = false := by decide) (hcd : (y == ("__classdict__" : Str)) = false := by decide) :
    PSsM X x (.If (.Compare (.Name y p) [.Eq] [.Constant (.int c) j cp] p2) body [] p3 :: rest) (tIfK i c tb u) := by
  intro pins s σ H D M I h
  obtain ⟨k, hk, h⟩ := h
  refine wpAny_execs_cons (wpAny_If (wpAny_isTrue_Compare1 (raw_name hN hv I hk (fun v r => ?_) hd hcd) rfl))
  obtain ⟨t, rfl⟩ := r
  refine wpAny_Constant_int (PyProof.Rows.eq_int (wpAny_truthy_bool ?_))
  have M2 : Mk1 X x { s with toks := s.toks + 1 } := M.more (h' := s.heap) (fun _ _ e => e) (Nat.le_succ _)
  by_cases e : k = c
  · rw [if_pos e] at h
    rw [show (k == c) = true from beq_iff_eq.mpr e]
    refine wpAny_mono (hb pins _ σ H _ M2 (I.tok _) h) (fun f s1 q => ?_) fun _ _ z => z
    cases f with
    | next => obtain ⟨_, _, _, z⟩ := q; exact z.elim
    | ret v => exact q
    | brk => exact q
    | cont => exact q
  · rw [if_neg e] at h
    rw [show (k == c) = false from beq_eq_false_iff_ne.mpr e]
    exact wpAny_execs_nil (hr pins _ σ H D M2 (I.tok _) h)
/-- x = signs[a % b] -/
def tMarkI (is ix : Nat) (ta tb : TE) (u : TS) : TS := fun D σ H => ∃ z : Str, σ[is]? = some (some (.str z)) ∧ ta σ H fun v H1 => tb σ H1 fun w H2 => ∃ (a b : Int), v = .int a ∧ w = .int b ∧ b = (z.length : Nat) ∧ 0 < z.length ∧ z.length ≤ 10000000 ∧
  ∀ c : Str, c.length = 1 → u D (σ.set ix (some (.str c))) H2
theorem psm_mark {X : Cx} {x y : Str} {is ix : Nat} {e1 e2 : Expr} {p1 p2 p3 p4 p5 : Pos} {rest : List Stmt} {ta tb : TE} {u : TS} (hND : X.N.Nodup) (hNs : X.N[is]? = some y) (hvs : Vis X.env.scope y) (hNx : X.N[ix]? = some x) (hkx : X.env.kindOf x = some .local)
    (ha : PE X e1 ta) (hb : PE X e2 tb) (hr : PSsM X x rest u) (hs : swapsWith (.Subscript (.Name y p1) (.BinOp e1 .Mod e2 p2) p3) (some (.Name x p4)) p5.line X.env = pure false := by rfl)
    (hix : ∀ ov iv, subscripted (.BinOp e1 .Mod e2 p2) false ov iv = operate [ov, iv] (getItem ov iv) := by intro _ _; rfl)
    (hd : (y == ("__debug__" : Str)) = false := by decide) (hcd : (y == ("__classdict__" : Str)) = false := by decide) :
    PSs X (.Assign [.Name x p4] (.Subscript (.Name y p1) (.BinOp e1 .Mod e2 p2) p3) p5 :: rest) (tMarkI is ix ta tb u) := by
  refine ⟨fun pins s σ H D I h => ?_⟩
  obtain ⟨z, hz, h⟩ := h
  refine wpAny_execs_cons (wpAny_Assign_Name (Subscript_ (raw_name hNs hvs I hz (fun v r => ?_) hd hcd)) hs)
  obtain ⟨t, rfl⟩ := r
  refine wpAny_BinOp (wpAny_mono (ha.run pins s σ H _ I h) (fun v1 s1 q1 => ?_) fun _ _ x => x)
  obtain ⟨w1, H1, I1, r1, h⟩ := q1
  refine wpAny_mono (hb.run pins s1 σ H1 _ I1 h) (fun v2 s2 q2 => ?_) fun _ _ x => x
  obtain ⟨w2, H2, I2, r2, a, b, rfl, rfl, eb, hpos, hz7, h⟩ := q2
  obtain ⟨t1, rfl⟩ := r1
  obtain ⟨t2, rfl⟩ := r2
  have hb0 : (0 : Int) < b := by omega
  refine PyProof.Rows.mod_int (by omega) ?_
  rw [Int.fmod_eq_emod_of_nonneg a (by omega)]
  have m0 := Int.emod_nonneg a (show b ≠ 0 by omega)
  have m1 := Int.emod_lt_of_pos a hb0
  have hzl : z.cps.toList.length = z.length := by simp [Str.length]
  obtain ⟨c, hc⟩ : ∃ c, z.cps.toList[(a % b).toNat]? = some c := ⟨_, List.getElem?_eq_getElem (by omega)⟩
  obtain ⟨j, h1, h2, h3, h4, h5⟩ := L2.atI_get (atI_pos m0 hc)
  rw [hzl] at h1 h4 h5
  refine PyProof.Rows.tail_any (typeIs_str _ z t) F.slot_str_getitem.lookup (PySem.P.getItem_str (c := c) (by
    have p63 : (2 : Int) ^ 63 = 9223372036854775808 := by decide
    have e1 : decide (a % b < -(2 ^ 63 : Int)) = false := decide_eq_false (by rw [p63]; omega)
    have e2 : decide (a % b ≥ 2 ^ 63) = false := decide_eq_false (by rw [p63]; omega)
    rw [e1, e2, Bool.or_false]) (by rw [h1]; simpa using h2) ?_) (hix _ _)
  obtain ⟨m, hn, hl⟩ := I2.loc
  refine wpAny_storeName_local hkx hn (fun h' hn' hs' => ?_) (by rw [I2.ok.kind]; rfl)
  have I3 : Inv X pins (σ.set ix (some (.str ⟨#[c]⟩))) H2 { s2 with heap := h', toks := s2.toks + 1 + 1 + 1 } := (inv_put (v := .str ⟨#[c]⟩) (u := .str ⟨#[c]⟩ (s2.toks + 1)) I2 hND hNx hkx ⟨_, rfl⟩ hn hl hn' hs').tok _
  exact hr pins _ _ H2 D ⟨_, ⟨#[c]⟩, s2.toks + 1, hn', if_pos rfl, rfl, Nat.succ_ne_zero _, Nat.lt_succ_of_lt (Nat.lt_succ_self _)⟩ I3 (h ⟨#[c]⟩ rfl)
/-- return text.replace(text[at:at + 1] or 'x', mark) -/
def tRet6 (i0 i7 : Nat) : TS := fun D σ H => ∃ (x : Str) (a : Int), σ[i0]? = some (some (.str x)) ∧ σ[i7]? = some (some (.int a)) ∧ 0 ≤ a ∧ (x.length = 0 ∨ 2 ≤ x.length) ∧ x.length ≤ 16000 ∧ ∀ r : Str, r.length ≤ 2 * x.length + 1 → D.rt (.str r) H
theorem psm_ret6 {X : Cx} {x y a : Str} {c : Str} {i0 i7 : Nat} {j j2 : Nat} {p1 p2 p3 p4 p5 p6 p7 p8 p9 pa pb pc pd : Pos} (nb : ∀ h, X.K.In h → NoneBooked h) (hc : tl c ≠ []) (hN0 : X.N[i0]? = some y) (hv0 : Vis X.env.scope y) (hN7 : X.N[i7]? = some a) (hv7 : Vis X.env.scope a) (hkx : X.env.kindOf x = some .local)
    (hst : starEach [.BoolOp .Or [.Subscript (.Name y p1) (.Slice (some (.Name a p2)) (some (.BinOp (.Name a p3) .Add (.Constant (.int 1) j p4) p5)) none p6) p7, .Constant (.str c) j2 p8] p9, .Name x pa] X.env =
      [(false, eval (.BoolOp .Or [.Subscript (.Name y p1) (.Slice (some (.Name a p2)) (some (.BinOp (.Name a p3) .Add (.Constant (.int 1) j p4) p5)) none p6) p7, .Constant (.str c) j2 p8] p9) X.env), (false, eval (.Name x pa) X.env)] := by rfl)
    (hbase : attributeBase (.Name y pb) "replace" X.env (eval (.Name y pb) X.env) = eval (.Name y pb) X.env := by rfl) (hline : (pc.endLine == pd.line) = true := by rfl)
    (hd0 : (y == ("__debug__" : Str)) = false := by decide) (hcd0 : (y == ("__classdict__" : Str)) = false := by decide) (hd7 : (a == ("__debug__" : Str)) = false := by decide) (hcd7 : (a == ("__classdict__" : Str)) = false := by decide) (hdx : (x == ("__debug__" : Str)) = false := by decide) {pe : Pos} :
    PSsM X x [.Return (some (.Call (.Attribute (.Name y pb) "replace" pc) [.BoolOp .Or [.Subscript (.Name y p1) (.Slice (some (.Name a p2)) (some (.BinOp (.Name a p3) .Add (.Constant (.int 1) j p4) p5)) none p6) p7, .Constant (.str c) j2 p8] p9, .Name x pa] [] pd)) pe] (tRet6 i0 i7) := by
  intro pins s σ H D M I h
  obtain ⟨z, k, hz, hk, h0, h2, hzz, h⟩ := h
  obtain ⟨m, w, u, hm, hw, hwl, hu0, hut⟩ := M
  refine wpAny_execs_cons (wpAny_Return_some (PySem.Call_method2 hbase hst hline (raw_name hN0 hv0 I hz (fun v r => ?_) hd0 hcd0)))
  obtain ⟨tz, rfl⟩ := r
  refine ⟨"str", _, F.plainAttrs_str, F.slot_str_replace, F.type_str_replace, typeIs_str _ _ _, (fun _ e => nomatch e), Calls.callWith_builtin rfl (Calls.evalArgs_plain (Calls.spliced_cons ?_))⟩
  -- behind the first argument
  have fin : ∀ (y1 : Str) (u1 : Tok) (s1 : Shared), Inv X pins σ H s1 → s1.heap.Ns X.env.locals m → u1 ≠ 0 → u < u1 → wpAny (model X.prog X.w) X.A (spliced [(false, eval (.Name x pa) X.env)])
      (fun vs s2 => wpAny (model X.prog X.w) X.A (call (.builtin "str.replace") (.str z tz :: .str y1 u1 :: vs)) (fun v s3 => SP X pins D (.ret v) s3) X.xe s2) X.xe s1 := fun y1 u1 s1 I1 hm1 hu1 hlt => by
    refine Calls.spliced_cons (wpAny_Name (wpAny_loadName_local I1.ok.kind hkx hm1 hw ?_) hdx)
    refine Calls.spliced_nil ?_
    have hb : z.length + (z.length + 1) * w.length ≤ 16777216 := by rw [hwl]; omega
    refine PySem.SC.replaceA hu1 hu0 (Nat.ne_of_gt hlt) hb (fun t' k' => ?_) (nb _ I1.kIn)
    have hl := TK.replace_len z y1 w
    rw [hwl] at hl
    exact ⟨.str (Txt.replace z y1 w), σ, H, I1.tok _, ⟨t', rfl⟩, h _ (by omega)⟩
  refine PyProof.Rows.BoolOp_or (Subscript_ (raw_name hN0 hv0 I hz (fun v r => ?_) hd0 hcd0))
  obtain ⟨tz2, rfl⟩ := r
  refine PySem.wpAny_Slice ?_
  rw [PySem.evalPart_some]
  refine raw_name hN7 hv7 I hk (fun v r => ?_) hd7 hcd7
  obtain ⟨t1, rfl⟩ := r
  rw [PySem.evalPart_some]
  refine wpAny_BinOp (raw_name hN7 hv7 I hk (fun v r => ?_) hd7 hcd7)
  obtain ⟨t2, rfl⟩ := r
  refine wpAny_Constant_int (PyProof.Rows.add_int ?_)
  rw [PySem.evalPart_none]
  refine wpAny_pure ?_
  obtain ⟨s1, es1⟩ : ∃ s1 : Shared, s1 = { s with heap := s.heap.push { cls := .type "slice", data := .fields #[.int k t1, .int (k + 1) (s.toks + 1), .none] }, toks := s.toks + 1 + 1 } := ⟨_, rfl⟩
  have I1 : Inv X pins σ H s1 := by rw [es1]; exact I.kept (t' := s.toks + 1 + 1) fun b ob q => Heap.get?_push_of_some _ q
  have hm1 : s1.heap.Ns X.env.locals m := by
    obtain ⟨o, es, ep, e, r⟩ := hm
    rw [es1]
    exact ⟨o, es, ep, Heap.get?_push_of_some _ e, r⟩
  have ht1 : s1.toks = s.toks + 1 + 1 := by rw [es1]
  have hsl : s1.heap.IsSlice s.heap.objs.size (some (k, t1)) (some (k + 1, s.toks + 1)) none := by rw [es1]; exact ⟨_, Heap.get?_push_size s.heap rfl, rfl, rfl⟩
  show wpAny (model X.prog X.w) X.A (subscriptTail _ _ (.str z tz2) (.ref s.heap.objs.size)) _ _ { s with heap := s.heap.push { cls := .type "slice", data := .fields #[.int k t1, .int (k + 1) (s.toks + 1), .none] }, toks := s.toks + 1 + 1 }
  rw [← es1]
  refine PyProof.Rows.tail_any (ops := [.ref s.heap.objs.size, .str z tz2]) (typeIs_str _ z tz2) F.slot_str_getitem.lookup (wpAny_getItem_str_slice (l := some (k, t1)) (u := some (k + 1, s.toks + 1)) (st := none) hsl rfl ?_) (by with_unfolding_all rfl)
  -- the truth of what the slice gives
  have tru : ∀ (y1 : Str) (u1 : Tok) (s2 : Shared), Inv X pins σ H s2 → s2.heap.Ns X.env.locals m → u < s2.toks → y1.length ≤ 16000 → (y1.length ≠ 0 → u1 ≠ 0 ∧ u < u1) →
      wpAny (model X.prog X.w) X.A (truthy (.str y1 u1)) (fun c1 s3 => if c1 = true then wpAny (model X.prog X.w) X.A (spliced [(false, eval (.Name x pa) X.env)]) (fun vs s2 => wpAny (model X.prog X.w) X.A (call (.builtin "str.replace") (.str z tz :: .str y1 u1 :: vs)) (fun v s3 => SP X pins D (.ret v) s3) X.xe s2) X.xe s3
        else wpAny (model X.prog X.w) X.A (eval (.BoolOp .Or [.Constant (.str c) j2 p8] p9) X.env) (fun v1 s4 => wpAny (model X.prog X.w) X.A (spliced [(false, eval (.Name x pa) X.env)]) (fun vs s2 => wpAny (model X.prog X.w) X.A (call (.builtin "str.replace") (.str z tz :: v1 :: vs)) (fun v s3 => SP X pins D (.ret v) s3) X.xe s2) X.xe s4) X.xe s3) X.xe s2 := fun y1 u1 s2 I2 hm2 hu2 hl1 hne => by
    refine PySem.P.truthy_str (by omega) ?_
    by_cases hz1 : y1.length = 0
    · rw [hz1]
      refine iteF ?_
      refine BoolOp_one ?_
      refine Calls.Constant_str ?_
      exact fin c (s2.toks + 1 + 1) _ (I2.tok _) hm2 (Nat.succ_ne_zero _) (Nat.lt_succ_of_lt (Nat.lt_succ_of_lt hu2))
    · have e : ((y1.length : Int) != 0) = true := by
        rw [bne_iff_ne]
        omega
      rw [e]
      obtain ⟨q1, q2⟩ := hne hz1
      exact iteT (fin y1 u1 _ (I2.tok _) hm2 q1 q2)
  have hcut : PySem.StrLaws.sliceText z (some k) (some (k + 1)) = cutS z (some k) (some (k + 1)) := sliceText_cut z _ _
  have hcl : (cutS z (some k) (some (k + 1))).length ≤ 1 := by
    obtain ⟨n, rfl⟩ : ∃ n : Nat, k = n := ⟨k.toNat, by omega⟩
    rw [str_len, tl_cut, show ((n : Int) + 1) = ((n + 1 : Nat) : Int) by omega, HT.sIx_nat, HT.sIx_nat, List.length_take]
    omega
  have hc2 := cutS_length z (some k) (some (k + 1))
  rw [← hcut] at hcl hc2
  unfold PySem.StrLaws.sliceText at hcl hc2
  show Made.post (if ((1 : Int) == 1 && (Builtin.Str.strSliceIndices (some k) (some (k + 1)) 1 z.length).length == z.length) = true then Made.val (.str z tz2)
    else Made.str ⟨((Builtin.Str.strSliceIndices (some k) (some (k + 1)) 1 z.length).filterMap (z.cps[·]?)).toArray⟩) _ s1
  by_cases cc : ((1 : Int) == 1 && (Builtin.Str.strSliceIndices (some k) (some (k + 1)) 1 z.length).length == z.length) = true
  · rw [if_pos cc] at hcl ⊢
    refine tru z tz2 s1 I1 hm1 (by rw [ht1]; exact Nat.lt_succ_of_lt (Nat.lt_succ_of_lt hut)) hzz fun hne => ?_
    omega
  · rw [if_neg cc] at hcl hc2 ⊢
    refine ⟨by rw [sizeLine_eq]; omega, ?_⟩
    refine tru _ s1.toks { s1 with toks := s1.toks + 1 } (I1.tok _) hm1 (by show u < s1.toks + 1; rw [ht1]; exact Nat.lt_succ_of_lt (Nat.lt_succ_of_lt (Nat.lt_succ_of_lt hut))) (by omega) fun _ => ?_
    rw [ht1]
    exact ⟨Nat.succ_ne_zero _, Nat.lt_succ_of_lt (Nat.lt_succ_of_lt hut)⟩
end A80
end
section
set_option Elab.async false
set_option maxRecDepth 100000
set_option maxHeartbeats 4000000
set_option autoImplicit false
namespace A80
open PySem PySem.Spec L2 PyProof.Rows TL
/-! ### _law_marred -/
abbrev S_law_marred : Stmt := topS 36
theorem sc_law_marred : FnScope ["_law_text", "_law_drawn", "_law_kind", "_law_spot", "_law_sign", "_law_other", "_law_signs", "_law_at", "_law_mark", "_law_pieces", "_law_piece", "_law_inner", "_law_end", "_law_words", "_law_digits"] ["_law_text", "_law_drawn"] (defScope S_law_marred) := ⟨rfl, rfl, rfl, by decide +kernel, rfl, by decide +kernel, by decide +kernel⟩
def lsum (ts : List Str) : Nat := (ts.map Str.length).sum
theorem lsum_cons (t : Str) (ts : List Str) : lsum (t :: ts) = t.length + lsum ts := by unfold lsum; rw [List.map_cons, List.sum_cons]
theorem lsum_app (a b : List Str) : lsum (a ++ b) = lsum a + lsum b := by unfold lsum; rw [List.map_append, List.sum_append]
theorem lsum_one (t : Str) : lsum [t] = t.length := by unfold lsum; simp
theorem lsum_td (n : Nat) (ts : List Str) : lsum (ts.take n) + lsum (ts.drop n) = lsum ts := by rw [← lsum_app, List.take_append_drop]
theorem lsum_mem {t : Str} {ts : List Str} (h : t ∈ ts) : t.length ≤ lsum ts := by
  induction ts with
  | nil => simp at h
  | cons a l ih =>
    rw [lsum_cons]
    rcases List.mem_cons.mp h with z | z
    · rw [z]; omega
    · have := ih z; omega
theorem lsum_set (v : Str) : ∀ (ts : List Str) (i : Nat), lsum (ts.set i v) ≤ lsum ts + v.length
  | [], _ => by simp [lsum]
  | a :: l, 0 => by rw [List.set_cons_zero, lsum_cons, lsum_cons]; omega
  | a :: l, i + 1 => by rw [List.set_cons_succ, lsum_cons, lsum_cons]; have := lsum_set v l i; omega
theorem lsum_erase {t : Str} : ∀ {ts : List Str} {i : Nat}, ts[i]? = some t → lsum (ts.eraseIdx i) + t.length = lsum ts ∧ (ts.eraseIdx i).length + 1 = ts.length
  | [], _, h => by simp at h
  | a :: l, 0, h => by
    simp at h
    subst h
    rw [List.eraseIdx_cons_zero, lsum_cons, List.length_cons]
    omega
  | a :: l, i + 1, h => by
    have hq : l[i]? = some t := by simpa using h
    obtain ⟨h1, h2⟩ := lsum_erase hq
    rw [List.eraseIdx_cons_succ, lsum_cons, lsum_cons, List.length_cons, List.length_cons]
    omega
theorem erase_map {α β : Type} (f : α → β) : ∀ (l : List α) (i : Nat), (l.map f).eraseIdx i = (l.eraseIdx i).map f
  | [], _ => rfl
  | a :: l, 0 => rfl
  | a :: l, i + 1 => by
    have := erase_map f l i
    show f a :: (l.map f).eraseIdx i = f a :: (l.eraseIdx i).map f
    rw [this]
theorem join_len (a : Str) (ts : List Str) : (Txt.join a ts).length ≤ lsum ts + ts.length * a.length := by
  rw [str_len, join_eq, tl_join]
  by_cases h : ts = []
  · subst h; exact Nat.zero_le _
  · have h1 := joinL_len (tl a) (l := ts.map tl) (fun z => h (List.map_eq_nil_iff.mp z))
    have h2 := join_sum (tl a).length ts _ rfl
    rw [← h2] at h1
    have : (ts.map (·.length)).sum = lsum ts := rfl
    rw [this] at h1
    rw [str_len a]
    omega
theorem split_len (x y : Str) (hy : tl y ≠ []) (hk : Builtin.Str.strKind y ≤ Builtin.Str.strKind (Str.ofString ",")) : lsum (Txt.split x y) + (Txt.split x y).length * y.length = x.length + y.length ∧ Txt.split x y ≠ [] := by
  have hs := split_tl x y hy hk
  have hne : Txt.split x y ≠ [] := fun z => by rw [z] at hs; exact spl_ne _ _ _ _ hs.symm
  refine ⟨?_, hne⟩
  have h2 := join_sum y.length (Txt.split x y) _ hs
  have h1 := joinL_len (tl y) (spl_ne (tl y) 0 [] (tl x))
  rw [join_spl0 hy, ← str_len, ← str_len] at h1
  have : ((Txt.split x y).map (·.length)).sum = lsum (Txt.split x y) := rfl
  rw [this] at h2
  omega
theorem tl_x : tl (Str.ofString "x") = [120] := by decide +kernel
theorem ite_p {c : Prop} [Decidable c] {A B : Prop} (h1 : c → A) (h2 : ¬ c → B) : if c then A else B := by
  by_cases h : c
  · rw [if_pos h]; exact h1 h
  · rw [if_neg h]; exact h2 h
abbrev tails : List Str := [Str.ofString " ", Str.ofString ".", Str.ofString "; ", Str.ofString "", Str.ofString "0", Str.ofString "]", Str.ofString "-", Str.ofString ","]
theorem tails_len : ∀ e ∈ tails, e.length ≤ 2 := by decide +kernel
def spMarred : Sp := fun vs H Q _ => ∃ (x : Str) (d : Addr) (k sp sg ot : Int), vs = [.str x, .ref d] ∧ H d = some (.lst [.int k, .int sp, .int sg, .int ot]) ∧ (x.length = 0 ∨ 2 ≤ x.length) ∧ x.length ≤ 16000 ∧ ∀ (r : Str) (H' : Hp), Same H H' → r.length ≤ 2 * x.length + 100 → Q (.str r) H'
section
variable {P : Program} {w : World} {K : PySem.W.Frag} {mg : Str → Option Value} {base : Heap} {CS : Addr}
theorem cl_law_marred (T : Tx K mg CS) (nb : ∀ h, K.In h → NoneBooked h) (D : Df K mg "_law_marred" S_law_marred ["_law_text", "_law_drawn"]) : Cl P w K mg base 1 "_law_marred" spMarred := by
  have sc := sc_law_marred
  refine cl_mk D sc (fun vs H Q E h => ?_) (fun f cdv A outer s H vs Q E hr h => ?_)
  · obtain ⟨x, d, k, sp, sg, ot, rfl, _⟩ := h
    rfl
  · obtain ⟨x, d, k, sp, sg, ot, rfl, hd, hx2, hxl, kk⟩ := h
    refine ⟨_, (pss_cons (ps_asg (pv 1) (pg_unl rfl (pgs_cons (pg_name (i := 2) sc.nd rfl (Or.inl rfl)) (pgs_cons (pg_name (i := 3) sc.nd rfl (Or.inl rfl)) (pgs_cons (pg_name (i := 4) sc.nd rfl (Or.inl rfl)) (pgs_cons (pg_name (i := 5) sc.nd rfl (Or.inl rfl)) pgs_nil))))))
      (pss_cons (ps_set (i := 6) sc.nd rfl (Or.inl rfl) (pe_op op_add_str pe_str (pe_slice sl_str (pv 0) po_none (po_some pe_int))))
      (pss_cons (ps_set (i := 7) sc.nd rfl (Or.inl rfl) (pe_op op_mod (pe_callTy call_int1 (by rfl) T.b_int (by decide +kernel) (pa_cons (pv 3) pa_nil)) (pe_op op_add (pe_callB call_len_str (by rfl) T.b_len (by decide +kernel) (pa_cons (pv 0) pa_nil)) pe_int)))
      (psm_mark (is := 6) (ix := 8) sc.nd rfl (.inl rfl) rfl rfl (pe_callTy call_int1 (by rfl) T.b_int (by decide +kernel) (pa_cons (pv 4) pa_nil)) (pe_callB call_len_str (by rfl) T.b_len (by decide +kernel) (pa_cons (pv 6) pa_nil))
      (psm_if (i := 2) (c := 0) rfl (.inl rfl) (PSsM.of (pss_one (ps_ret (pe_op op_add_str (pe_op op_add_str (pe_slice sl_str (pv 0) po_none (po_some (pv 7))) (pv 8)) (pe_slice sl_str (pv 0) (po_some (pv 7)) po_none)))))
      (psm_if (i := 2) (c := 1) rfl (.inl rfl) (PSsM.of (pss_one (ps_ret (pe_op op_add_str (pe_slice sl_str (pv 0) po_none (po_some (pv 7))) (pe_slice sl_str (pv 0) (po_some (pe_op op_add (pv 7) pe_int)) po_none)))))
      (psm_if (i := 2) (c := 2) rfl (.inl rfl) (PSsM.of (pss_one (ps_ret (pe_op op_add_str (pe_op op_add_str (pe_slice sl_str (pv 0) po_none (po_some (pv 7))) (pv 8)) (pe_slice sl_str (pv 0) (po_some (pe_op op_add (pv 7) pe_int)) po_none)))))
      (psm_if (i := 2) (c := 3) rfl (.inl rfl) (PSsM.of (pss_one (ps_ret (pe_op op_add_str (pe_op op_add_str (pe_slice sl_str (pv 0) po_none (po_some (pv 7))) (pe_op op_repS (pe_slice sl_str (pe_slice sl_str (pv 0) (po_some (pv 7)) po_none) po_none (po_some pe_int)) pe_int)) (pe_slice sl_str (pv 0) (po_some (pe_op op_add (pv 7) pe_int)) po_none)))))
      (psm_if (i := 2) (c := 4) rfl (.inl rfl) (PSsM.of (pss_one (ps_ret (pe_op op_add_str (pv 0) (pe_ix (ixL K) (pe_lst (pa_cons pe_str (pa_cons pe_str (pa_cons pe_str (pa_cons pe_str (pa_cons pe_str (pa_cons pe_str (pa_cons pe_str (pa_cons pe_str pa_nil))))))))) (pe_op op_mod (pe_callTy call_int1 (by rfl) T.b_int (by decide +kernel) (pa_cons (pv 4) pa_nil)) pe_int) (fun _ _ => rfl))))))
      (psm_if (i := 2) (c := 5) rfl (.inl rfl) (PSsM.of (pss_cons (ps_set (i := 9) sc.nd rfl (Or.inl rfl) (pe_split (pv 0) pe_str))
      (pss_cons (ps_set (i := 10) sc.nd rfl (Or.inl rfl) (pe_bm PySem.F.plainAttrs_list PySem.F.slot_list_pop PySem.F.type_list_pop mt_popAt (pv 9) (pa_cons (pe_op op_mod (pe_callTy call_int1 (by rfl) T.b_int (by decide +kernel) (pa_cons (pv 3) pa_nil)) (pe_callB (cLen K) (by rfl) T.b_len (by decide +kernel) (pa_cons (pv 9) pa_nil))) pa_nil)))
      (pss_cons (ps_expr (pe_bm PySem.F.plainAttrs_list PySem.F.slot_list_insert PySem.F.type_list_insert mt_insert (pv 9) (pa_cons (pe_op op_mod (pe_callTy call_int1 (by rfl) T.b_int (by decide +kernel) (pa_cons (pv 5) pa_nil)) (pe_op op_add (pe_callB (cLen K) (by rfl) T.b_len (by decide +kernel) (pa_cons (pv 9) pa_nil)) pe_int)) (pa_cons (pv 10) pa_nil))))
      (pss_one (ps_ret (pe_join pe_str (pv 9))))))))
      (psm_if (i := 2) (c := 6) rfl (.inl rfl) (psm_ret6 (i0 := 0) (i7 := 7) nb (by rw [tl_x]; simp) rfl (.inl rfl) rfl (.inl rfl) rfl)
      (PSsM.of (pss_cons (ps_if (pt_cmpR op_eq (pv 2) pe_int (nomark _))
      (pss_cons (ps_set (i := 11) sc.nd rfl (Or.inl rfl) (pe_m1 PySem.F.slot_str_find PySem.F.type_str_find mt_find (pv 0) pe_str))
      (pss_one (ps_ret (pe_ifExp (pt_cmpR op_ge (pv 11) pe_int (nomark _)) (pe_op op_add_str (pe_op op_add_str (pe_slice sl_str (pv 0) po_none (po_some (pe_op op_add (pv 11) pe_int))) pe_str) (pe_slice sl_str (pv 0) (po_some (pe_m1 PySem.F.slot_str_find PySem.F.type_str_find mt_find (pv 0) pe_str)) po_none)) (pe_op op_add_str (pv 0) pe_str)))))
      pss_nil)
      (pss_cons (ps_if (pt_cmpR op_eq (pv 2) pe_int (nomark _))
      (pss_cons (ps_set (i := 12) sc.nd rfl (Or.inl rfl) (pe_m1 PySem.F.slot_str_find PySem.F.type_str_find mt_find (pv 0) pe_str))
      (pss_one (ps_ret (pe_ifExp (pt_cmpR op_ge (pv 12) pe_int (nomark _)) (pe_op op_add_str (pe_op op_add_str (pe_slice sl_str (pv 0) po_none (po_some (pe_op op_add (pv 12) pe_int))) pe_str) (pe_slice sl_str (pv 0) (po_some (pe_op op_add (pv 12) pe_int)) po_none)) (pe_op op_add_str (pv 0) pe_str)))))
      pss_nil)
      (pss_cons (ps_if (pt_cmpR op_eq (pv 2) pe_int (nomark _))
      (pss_cons (ps_set (i := 13) sc.nd rfl (Or.inl rfl) (pe_split (pv 0) pe_str))
      (pss_cons (ps_set (i := 3) sc.nd rfl (Or.inl rfl) (pe_op op_mod (pe_callTy call_int1 (by rfl) T.b_int (by decide +kernel) (pa_cons (pv 3) pa_nil)) (pe_callB (cLen K) (by rfl) T.b_len (by decide +kernel) (pa_cons (pv 13) pa_nil))))
      (pss_cons (ps_asg (pe_op op_add_str (pe_op op_add_str (pe_slice sl_str (pe_ix (ixL K) (pv 13) (pv 3) (fun _ _ => rfl)) po_none (po_some pe_int)) pe_str) (pe_slice sl_str (pe_ix (ixL K) (pv 13) (pv 3) (fun _ _ => rfl)) (po_some pe_int) po_none)) (pg_sub (pv 13) (pv 3) set_list))
      (pss_one (ps_ret (pe_join pe_str (pv 13)))))))
      pss_nil)
      (pss_cons (ps_set (i := 14) sc.nd rfl (Or.inl rfl) (pe_op op_repS pe_str (pe_op op_add pe_int (pe_op op_mod (pe_callTy call_int1 (by rfl) T.b_int (by decide +kernel) (pa_cons (pv 4) pa_nil)) pe_int))))
      (pss_one (ps_ret (pe_op op_add_str (pe_op op_add_str (pe_slice sl_str (pv 0) po_none (po_some (pv 7))) (pv 14)) (pe_slice sl_str (pv 0) (po_some (pe_op op_add (pv 7) (pe_op op_mod (pe_callTy call_int1 (by rfl) T.b_int (by decide +kernel) (pa_cons (pv 5) pa_nil)) pe_int))) po_none)))))))))))))))))))), ?_⟩
    have cl := fun lo hi => cutS_length x lo hi
    -- kind, spot, sign, other = drawn
    refine ⟨_, rfl, d, _, rfl, SqL.of hd, rfl, _, _, rfl, _, _, rfl, _, _, rfl, _, _, rfl, rfl, ?_⟩
    -- signs = '..' + text[:12]
    have e12 : (cutS x none (some 12)).length ≤ x.length := cl _ _
    refine ⟨_, rfl, 12, rfl, x, rfl, size_le (by omega), _, _, rfl, rfl, size_le (by show 47 + _ ≤ _; omega), ?_⟩
    -- at = int(spot) % (len(text) + 1)
    have hl1 : (0 : Int) < ((x.length : Nat) : Int) + 1 := by omega
    refine ⟨_, rfl, .inl ⟨_, rfl, _, rfl, x, rfl, size_le (by omega), _, _, rfl, rfl, _, _, rfl, rfl, hl1, ?_⟩⟩
    have a0 := Int.emod_nonneg sp (show ((x.length : Nat) : Int) + 1 ≠ 0 by omega)
    have a1 := Int.emod_lt_of_pos sp hl1
    -- mark
    have s47 : (Str.ofString "0123456789-+[]:;,=. abzX_!#$&()*/<>?@^|~{}ABYZ'" : Str).length = 47 := by decide +kernel
    have hsg : (Str.ofString "0123456789-+[]:;,=. abzX_!#$&()*/<>?@^|~{}ABYZ'" ++ cutS x none (some 12) : Str).length = 47 + (cutS x none (some 12)).length := by rw [len_app, s47]
    refine ⟨_, rfl, _, rfl, .inl ⟨_, rfl, _, rfl, _, rfl, size_le (by rw [hsg]; omega), _, _, rfl, rfl, rfl, by rw [hsg]; omega, by rw [hsg]; omega, fun mk hmk => ?_⟩⟩
    have fin : ∀ r : Str, r.length ≤ 2 * x.length + 100 → Q (.str r) H := fun r hr => kk r H (L2.Same.refl _) hr
    -- the kinds
    refine ⟨k, rfl, ite_p (fun _ => ?_) (fun _ => ?_)⟩
    · have c1 := cl none (some (sp % (((x.length : Nat) : Int) + 1)))
      have c2 := cl (some (sp % (((x.length : Nat) : Int) + 1))) none
      have l1 : (cutS x none (some (sp % (((x.length : Nat) : Int) + 1))) ++ mk).length ≤ x.length + 1 := by rw [len_app]; omega
      have l2 : (cutS x none (some (sp % (((x.length : Nat) : Int) + 1))) ++ mk ++ cutS x (some (sp % (((x.length : Nat) : Int) + 1))) none).length ≤ 2 * x.length + 1 := by rw [len_app]; omega
      exact ⟨_, rfl, _, rfl, _, rfl, x, rfl, size_le (by omega), _, rfl, _, _, rfl, rfl, size_le (by omega), _, rfl, _, rfl, _, rfl, x, rfl, size_le (by omega), _, _, rfl, rfl, size_le (by omega), fin _ (by omega)⟩
    refine ⟨k, rfl, ite_p (fun _ => ?_) (fun _ => ?_)⟩
    · have c1 := cl none (some (sp % (((x.length : Nat) : Int) + 1)))
      have c2 := cl (some ((sp % (((x.length : Nat) : Int) + 1)) + 1)) none
      have l2 : (cutS x none (some (sp % (((x.length : Nat) : Int) + 1))) ++ cutS x (some ((sp % (((x.length : Nat) : Int) + 1)) + 1)) none).length ≤ 2 * x.length := by rw [len_app]; omega
      exact ⟨_, rfl, _, rfl, _, rfl, x, rfl, size_le (by omega), _, rfl, _, rfl, _, _, rfl, rfl, _, rfl, x, rfl, size_le (by omega), _, _, rfl, rfl, size_le (by omega), fin _ (by omega)⟩
    refine ⟨k, rfl, ite_p (fun _ => ?_) (fun _ => ?_)⟩
    · have c1 := cl none (some (sp % (((x.length : Nat) : Int) + 1)))
      have c2 := cl (some ((sp % (((x.length : Nat) : Int) + 1)) + 1)) none
      have l1 : (cutS x none (some (sp % (((x.length : Nat) : Int) + 1))) ++ mk).length ≤ x.length + 1 := by rw [len_app]; omega
      have l2 : (cutS x none (some (sp % (((x.length : Nat) : Int) + 1))) ++ mk ++ cutS x (some ((sp % (((x.length : Nat) : Int) + 1)) + 1)) none).length ≤ 2 * x.length + 1 := by rw [len_app]; omega
      exact ⟨_, rfl, _, rfl, _, rfl, x, rfl, size_le (by omega), _, rfl, _, _, rfl, rfl, size_le (by omega), _, rfl, _, rfl, _, _, rfl, rfl, _, rfl, x, rfl, size_le (by omega), _, _, rfl, rfl, size_le (by omega), fin _ (by omega)⟩
    refine ⟨k, rfl, ite_p (fun _ => ?_) (fun _ => ?_)⟩
    · have c1 := cl none (some (sp % (((x.length : Nat) : Int) + 1)))
      have c2 := cl (some ((sp % (((x.length : Nat) : Int) + 1)) + 1)) none
      have c3 := cl (some (sp % (((x.length : Nat) : Int) + 1))) none
      have c4 : (cutS (cutS x (some (sp % (((x.length : Nat) : Int) + 1))) none) none (some ((1 : Nat) : Int))).length ≤ 1 := by rw [str_len, cut_take, List.length_take]; omega
      refine ⟨_, rfl, _, rfl, _, rfl, x, rfl, size_le (by omega), _, rfl, _, rfl, _, rfl, x, rfl, size_le (by omega), 1, rfl, _, rfl, size_le (by omega), _, 2, rfl, rfl, by omega, by omega, Nat.le_trans c4 (by omega), fun r2 hr2 => ?_⟩
      have hr2 : r2.length ≤ 2 := by rw [hr2]; have : Int.toNat 2 = 2 := rfl; rw [this]; exact Nat.le_trans (Nat.mul_le_mul_right 2 c4) (by omega)
      have l1 : (cutS x none (some (sp % (((x.length : Nat) : Int) + 1))) ++ r2).length ≤ x.length + 2 := by rw [len_app]; omega
      have l2 : (cutS x none (some (sp % (((x.length : Nat) : Int) + 1))) ++ r2 ++ cutS x (some ((sp % (((x.length : Nat) : Int) + 1)) + 1)) none).length ≤ 2 * x.length + 2 := by rw [len_app]; omega
      exact ⟨_, _, rfl, rfl, size_le (by omega), _, rfl, _, rfl, _, _, rfl, rfl, _, rfl, x, rfl, size_le (by omega), _, _, rfl, rfl, size_le (by omega), fin _ (by omega)⟩
    refine ⟨k, rfl, ite_p (fun _ => ?_) (fun _ => ?_)⟩
    · -- text + one of eight
      refine ⟨_, rfl, size_le (by show 8 ≤ _; omega), fun l hl => ?_⟩
      have s1 := Same.new (o := .lst (tails.map V.str)) hl
      have m0 := Int.emod_nonneg sg (show (8 : Int) ≠ 0 by decide)
      have m1 := Int.emod_lt_of_pos sg (show (0 : Int) < 8 by decide)
      obtain ⟨e, he⟩ : ∃ e, tails[(sg % 8).toNat]? = some e := ⟨_, List.getElem?_eq_getElem (by show _ < 8; omega)⟩
      have hel : e.length ≤ 2 := tails_len e (List.mem_of_getElem? he)
      have l2 : (x ++ e).length ≤ x.length + 2 := by rw [len_app]; omega
      exact ⟨_, rfl, .inl ⟨_, rfl, _, _, rfl, rfl, (show (0 : Int) < 8 by decide), l, tails.map V.str, _, .str e, rfl, rfl, SqL.of upd_same, atI_pos m0 (by rw [List.getElem?_map, he]; rfl), _, _, rfl, rfl, size_le (by omega), kk _ _ s1 (by omega)⟩⟩
    refine ⟨k, rfl, ite_p (fun _ => ?_) (fun _ => ?_)⟩
    · -- a word put elsewhere
      obtain ⟨hs1, hs2⟩ := split_len x (Str.ofString " ") (by rw [tl_sp]; simp) (by decide +kernel)
      rw [show (Str.ofString " ").length = 1 from rfl] at hs1
      refine ⟨_, rfl, ⟨_, rfl⟩, x, Str.ofString " ", rfl, rfl, by decide +kernel, by rw [sizeLine_eq]; omega, fun l hl => ?_⟩
      obtain ⟨ps, eps⟩ : ∃ ps, ps = Txt.split x (Str.ofString " ") := ⟨_, rfl⟩
      rw [← eps] at hs1 hs2 ⊢
      have s1 := Same.new (o := .lst (ps.map V.str)) hl
      have a1 : upd H l (.lst (ps.map V.str)) l = some (.lst (ps.map V.str)) := upd_same
      have hlen : 0 < ps.length := List.length_pos_iff.mpr hs2
      have m0 := Int.emod_nonneg sp (show ((ps.length : Nat) : Int) ≠ 0 by omega)
      have m1 := Int.emod_lt_of_pos sp (show (0 : Int) < ((ps.length : Nat) : Int) by omega)
      obtain ⟨t, ht⟩ : ∃ t, ps[(sp % (ps.length : Int)).toNat]? = some t := ⟨_, List.getElem?_eq_getElem (by omega)⟩
      obtain ⟨j, j1, j2, j3, _, _⟩ := L2.atI_get (atI_pos (xs := ps.map V.str) m0 (by rw [List.getElem?_map, ht]; rfl))
      obtain ⟨t', ht', et⟩ := get_map_str j2
      cases et
      rw [List.length_map] at j1
      obtain ⟨g1, g2⟩ := lsum_erase ht'
      refine ⟨_, rfl, .inl ⟨rfl, _, SqL.of a1⟩, _, rfl, .inl ⟨_, rfl, _, rfl, l, _, rfl, .inl (SqL.of a1), _, _, rfl, rfl, by rw [List.length_map]; omega, l, _, _, j, .str t, rfl, rfl, a1, by rw [List.length_map]; omega, by rw [List.length_map]; omega, by rw [List.length_map]; exact j1, j2, ?_⟩⟩
      rw [erase_map]
      have s2 := Same.mut (o := .lst ((ps.eraseIdx j).map V.str)) s1 hl
      have a2 : upd (upd H l (.lst (ps.map V.str))) l (.lst ((ps.eraseIdx j).map V.str)) l = some (.lst ((ps.eraseIdx j).map V.str)) := upd_same
      obtain ⟨qs, eqs⟩ : ∃ qs, qs = ps.eraseIdx j := ⟨_, rfl⟩
      rw [← eqs] at g1 g2 s2 a2 ⊢
      have o1 : (0 : Int) < (((qs.map V.str).length : Nat) : Int) + 1 := by omega
      have o2 := Int.emod_nonneg ot (show (((qs.map V.str).length : Nat) : Int) + 1 ≠ 0 by omega)
      have o3 := Int.emod_lt_of_pos ot o1
      refine ⟨_, rfl, .inl ⟨rfl, _, SqL.of a2⟩, _, rfl, .inl ⟨_, rfl, _, rfl, l, _, rfl, .inl (SqL.of a2), _, _, rfl, rfl, _, _, rfl, rfl, o1, _, rfl, l, _, _, .str t, rfl, rfl, a2, by rw [List.length_map]; exact size_lt (by omega), o2, by rw [List.length_map] at o3 ⊢; omega, ?_⟩⟩
      obtain ⟨nn, enn⟩ : ∃ nn, nn = (ot % ((((qs.map V.str).length : Nat) : Int) + 1)).toNat := ⟨_, rfl⟩
      rw [← enn, ← List.map_take, ← List.map_drop]
      have e3 : (qs.take nn).map V.str ++ [V.str t] ++ (qs.drop nn).map V.str = (qs.take nn ++ [t] ++ qs.drop nn).map V.str := by rw [List.map_append, List.map_append]; rfl
      rw [e3]
      have s3 := Same.mut (o := .lst ((qs.take nn ++ [t] ++ qs.drop nn).map V.str)) s2 hl
      have hls : lsum (qs.take nn ++ [t] ++ qs.drop nn) = lsum ps := by rw [lsum_app, lsum_app, lsum_one]; have := lsum_td nn qs; omega
      have hll : (qs.take nn ++ [t] ++ qs.drop nn).length = ps.length := by rw [List.length_append, List.length_append, List.length_singleton, List.length_take, List.length_drop]; omega
      have hj := join_len (Str.ofString " ") (qs.take nn ++ [t] ++ qs.drop nn)
      rw [hls, hll, show (Str.ofString " ").length = 1 from rfl] at hj
      refine ⟨⟨_, rfl⟩, _, rfl, Str.ofString " ", l, _, rfl, rfl, .inl (SqL.of upd_same), ?_, kk _ _ s3 (by omega)⟩
      show lsum (qs.take nn ++ [t] ++ qs.drop nn) + (qs.take nn ++ [t] ++ qs.drop nn).length * 1 ≤ _
      rw [hls, hll]
      omega
    refine ⟨k, rfl, ite_p (fun _ => ?_) (fun _ => ?_)⟩
    · exact ⟨x, (sp % (((x.length : Nat) : Int) + 1)), rfl, rfl, a0, hx2, hxl, fun r hr => fin r (by omega)⟩
    refine ⟨_, rfl, rfl, _, rfl, ite_b (fun _ => ?_) (fun _ => ?_)⟩
    · -- [ and ]
      refine ⟨_, rfl, ⟨_, rfl⟩, x, _, rfl, rfl, _, rfl, _, _, rfl, rfl, _, rfl, ite_b (fun _ => ?_) (fun _ => ?_)⟩
      · have c1 := cl none (some (Txt.find x (Str.ofString "[") + 1))
        have c2 := cl (some (Txt.find x (Str.ofString "]"))) none
        have e4 : (Str.ofString "b[x]" : Str).length = 4 := rfl
        have l1 : (cutS x none (some (Txt.find x (Str.ofString "[") + 1)) ++ Str.ofString "b[x]").length ≤ x.length + 4 := by rw [len_app, e4]; omega
        have l2 : (cutS x none (some (Txt.find x (Str.ofString "[") + 1)) ++ Str.ofString "b[x]" ++ cutS x (some (Txt.find x (Str.ofString "]"))) none).length ≤ 2 * x.length + 4 := by rw [len_app]; omega
        exact ⟨_, rfl, _, rfl, _, _, rfl, rfl, _, rfl, x, rfl, size_le (by omega), _, _, rfl, rfl, size_le (by rw [e4]; omega), _, rfl, _, rfl, ⟨_, rfl⟩, x, _, rfl, rfl, _, rfl, x, rfl, size_le (by omega), _, _, rfl, rfl, size_le (by omega), fin _ (by omega)⟩
      · have e3 : (Str.ofString "[x]" : Str).length = 3 := rfl
        have l2 : (x ++ Str.ofString "[x]").length ≤ x.length + 3 := by rw [len_app, e3]; omega
        exact ⟨_, rfl, _, _, rfl, rfl, size_le (by rw [e3]; omega), fin _ (by omega)⟩
    refine ⟨_, rfl, rfl, _, rfl, ite_b (fun _ => ?_) (fun _ => ?_)⟩
    · refine ⟨_, rfl, ⟨_, rfl⟩, x, _, rfl, rfl, _, rfl, _, _, rfl, rfl, _, rfl, ite_b (fun _ => ?_) (fun _ => ?_)⟩
      · have c1 := cl none (some (Txt.find x (Str.ofString "]") + 1))
        have c2 := cl (some (Txt.find x (Str.ofString "]") + 1)) none
        have e4 : (Str.ofString "[y]" : Str).length = 3 := rfl
        have l1 : (cutS x none (some (Txt.find x (Str.ofString "]") + 1)) ++ Str.ofString "[y]").length ≤ x.length + 3 := by rw [len_app, e4]; omega
        have l2 : (cutS x none (some (Txt.find x (Str.ofString "]") + 1)) ++ Str.ofString "[y]" ++ cutS x (some (Txt.find x (Str.ofString "]") + 1)) none).length ≤ 2 * x.length + 3 := by rw [len_app]; omega
        exact ⟨_, rfl, _, rfl, _, _, rfl, rfl, _, rfl, x, rfl, size_le (by omega), _, _, rfl, rfl, size_le (by rw [e4]; omega), _, rfl, _, rfl, _, _, rfl, rfl, _, rfl, x, rfl, size_le (by omega), _, _, rfl, rfl, size_le (by omega), fin _ (by omega)⟩
      · have e3 : (Str.ofString "[x][y]" : Str).length = 6 := rfl
        have l2 : (x ++ Str.ofString "[x][y]").length ≤ x.length + 6 := by rw [len_app, e3]; omega
        exact ⟨_, rfl, _, _, rfl, rfl, size_le (by rw [e3]; omega), fin _ (by omega)⟩
    refine ⟨_, rfl, rfl, _, rfl, ite_b (fun _ => ?_) (fun _ => ?_)⟩
    · -- a word with +1
      obtain ⟨hs1, hs2⟩ := split_len x (Str.ofString " ") (by rw [tl_sp]; simp) (by decide +kernel)
      rw [show (Str.ofString " ").length = 1 from rfl] at hs1
      refine ⟨_, rfl, ⟨_, rfl⟩, x, Str.ofString " ", rfl, rfl, by decide +kernel, by rw [sizeLine_eq]; omega, fun l hl => ?_⟩
      obtain ⟨ps, eps⟩ : ∃ ps, ps = Txt.split x (Str.ofString " ") := ⟨_, rfl⟩
      rw [← eps] at hs1 hs2 ⊢
      have s1 := Same.new (o := .lst (ps.map V.str)) hl
      have a1 : upd H l (.lst (ps.map V.str)) l = some (.lst (ps.map V.str)) := upd_same
      have hlen : 0 < ps.length := List.length_pos_iff.mpr hs2
      have m0 := Int.emod_nonneg sp (show ((ps.length : Nat) : Int) ≠ 0 by omega)
      have m1 := Int.emod_lt_of_pos sp (show (0 : Int) < ((ps.length : Nat) : Int) by omega)
      obtain ⟨t, ht⟩ : ∃ t, ps[(sp % (ps.length : Int)).toNat]? = some t := ⟨_, List.getElem?_eq_getElem (by omega)⟩
      have htl := lsum_mem (List.mem_of_getElem? ht)
      have hat : atI (ps.map V.str) (sp % (((ps.map V.str).length : Nat) : Int)) = some (.str t) := by rw [List.length_map]; exact atI_pos m0 (by rw [List.getElem?_map, ht]; rfl)
      refine ⟨_, rfl, .inl ⟨_, rfl, _, rfl, l, _, rfl, .inl (SqL.of a1), _, _, rfl, rfl, by rw [List.length_map]; omega, ?_⟩⟩
      have c1 := cutS_length t none (some 1)
      have c2 := cutS_length t (some 1) none
      have e2 : (Str.ofString "+1" : Str).length = 2 := rfl
      have l1 : (cutS t none (some 1) ++ Str.ofString "+1").length ≤ t.length + 2 := by rw [len_app, e2]; omega
      have l2 : (cutS t none (some 1) ++ Str.ofString "+1" ++ cutS t (some 1) none).length ≤ t.length + 2 := by
        have q1 := str_len (cutS t none (some ((1 : Nat) : Int)))
        have q2 := str_len (cutS t (some ((1 : Nat) : Int)) none)
        rw [cut_take, List.length_take] at q1
        rw [cut_drop, List.length_drop] at q2
        have q3 : (cutS t none (some 1)).length = min 1 (tl t).length := q1
        have q4 : (cutS t (some 1) none).length = (tl t).length - 1 := q2
        have q5 := str_len t
        rw [len_app, len_app, e2, q3, q4]
        omega
      refine ⟨_, rfl, _, rfl, l, _, _, .str t, rfl, rfl, SqL.of a1, hat, 1, rfl, t, rfl, size_le (by omega), _, _, rfl, rfl, size_le (by rw [e2]; omega), _, rfl, _, rfl, l, _, _, .str t, rfl, rfl, SqL.of a1, hat, 1, rfl, t, rfl, size_le (by omega), _, _, rfl, rfl, size_le (by omega), _, rfl, _, rfl, l, _, _, (sp % (((ps.map V.str).length : Nat) : Int)).toNat, rfl, rfl, a1, ?_, ?_⟩
      · unfold ixN
        rw [List.length_map, if_pos m0, if_pos (by omega)]
      obtain ⟨v, ev⟩ : ∃ v, v = cutS t none (some 1) ++ Str.ofString "+1" ++ cutS t (some 1) none := ⟨_, rfl⟩
      rw [← ev] at l2 ⊢
      rw [← List.map_set]
      have s2 := Same.mut (o := .lst ((ps.set (sp % (((ps.map V.str).length : Nat) : Int)).toNat v).map V.str)) s1 hl
      obtain ⟨qs, eqs⟩ : ∃ qs, qs = ps.set (sp % (((ps.map V.str).length : Nat) : Int)).toNat v := ⟨_, rfl⟩
      have hls : lsum qs ≤ lsum ps + v.length := by rw [eqs]; exact lsum_set v ps _
      have hll : qs.length = ps.length := by rw [eqs, List.length_set]
      rw [← eqs] at s2 ⊢
      have hj := join_len (Str.ofString " ") qs
      rw [hll, show (Str.ofString " ").length = 1 from rfl] at hj
      refine ⟨⟨_, rfl⟩, _, rfl, Str.ofString " ", l, _, rfl, rfl, .inl (SqL.of upd_same), ?_, kk _ _ s2 (by omega)⟩
      show lsum qs + qs.length * 1 ≤ _
      omega
    -- digits
    have m0 := Int.emod_nonneg sg (show (3 : Int) ≠ 0 by decide)
    have m1 := Int.emod_lt_of_pos sg (show (0 : Int) < 3 by decide)
    have e9 : (Str.ofString "9" : Str).length = 1 := rfl
    refine ⟨_, rfl, .inl ⟨_, rfl, _, _, rfl, rfl, (show (0 : Int) < 3 by decide), _, _, rfl, rfl, _, _, rfl, rfl, by omega, by omega, by rw [e9]; omega, fun dg hdg => ?_⟩⟩
    have hdg : dg.length ≤ 61 := by rw [hdg, e9]; omega
    have c1 := cl none (some (sp % (((x.length : Nat) : Int) + 1)))
    have c2 := cl (some ((sp % (((x.length : Nat) : Int) + 1)) + ot % 3)) none
    have l1 : (cutS x none (some (sp % (((x.length : Nat) : Int) + 1))) ++ dg).length ≤ x.length + 61 := by rw [len_app]; omega
    have l2 : (cutS x none (some (sp % (((x.length : Nat) : Int) + 1))) ++ dg ++ cutS x (some ((sp % (((x.length : Nat) : Int) + 1)) + ot % 3)) none).length ≤ 2 * x.length + 61 := by rw [len_app]; omega
    exact ⟨_, rfl, _, rfl, _, rfl, x, rfl, size_le (by omega), _, rfl, _, _, rfl, rfl, size_le (by omega), _, rfl, _, rfl, _, rfl, .inl ⟨_, rfl, _, _, rfl, rfl, (show (0 : Int) < 3 by decide), _, _, rfl, rfl, _, rfl, x, rfl, size_le (by omega), _, _, rfl, rfl, size_le (by omega), fin _ (by omega)⟩⟩
end
end A80
end
section
set_option Elab.async false
set_option maxRecDepth 100000
set_option maxHeartbeats 4000000
set_option autoImplicit false
namespace A80
open PySem PySem.Spec L2 PyProof.Rows TL
/-! ### _law_changed -/
abbrev S_law_changed : Stmt := topS 38
theorem sc_law_changed : FnScope ["_law_text", "_law_drawn", "_law_pieces", "_law_spot", "_law_cells", "_law_word", "_law_gap", "_law_rest", "_law_name", "_law_changed_here"] ["_law_text", "_law_drawn"] (defScope S_law_changed) := ⟨rfl, rfl, rfl, by decide +kernel, rfl, by decide +kernel, by decide +kernel⟩
theorem bef_aft_len (c : Nat) (t : List Nat) : (bef c t).length + (aft c t).length ≤ t.length := by
  unfold bef aft
  rw [List.length_drop]
  have h := congrArg List.length (List.takeWhile_append_dropWhile (p := fun d => decide (d ≠ c)) (l := t))
  rw [List.length_append] at h
  omega
theorem lsum_parts (n : Nat) (ps : List Str) {t : Str} (h : ps[n]? = some t) : lsum (ps.take n) + t.length + lsum (ps.drop (n + 1)) = lsum ps ∧ (ps.take n).length + (ps.drop (n + 1)).length + 1 = ps.length := by
  obtain ⟨h1, h2⟩ := List.getElem?_eq_some_iff.mp h
  have e : ps.drop n = t :: ps.drop (n + 1) := by rw [List.drop_eq_getElem_cons h1, h2]
  have h3 := lsum_td n ps
  rw [e, lsum_cons] at h3
  refine ⟨by omega, ?_⟩
  rw [List.length_take, List.length_drop]
  omega
theorem part_len (x y : Str) {c : Nat} (hy : tl y = [c]) : (Txt.partition x y).1.length + (Txt.partition x y).2.2.length ≤ x.length := by
  obtain ⟨h1, _, _, h4⟩ := part_tl x y hy
  rw [str_len, str_len, str_len, h1, h4]
  exact bef_aft_len c (tl x)
section
variable {P : Program} {w : World} {K : PySem.W.Frag} {mg : Str → Option Value} {base : Heap} {CS : Addr}
theorem cl_law_changed (T : Tx K mg CS) (D : Df K mg "_law_changed" S_law_changed ["_law_text", "_law_drawn"]) (c_law_marred : Cl P w K mg base 1 "_law_marred" spMarred) : Cl P w K mg base 2 "_law_changed" spMarred := by
  have sc := sc_law_changed
  refine cl_mk D sc (fun vs H Q E h => ?_) (fun f cdv A outer s H vs Q E hr h => ?_)
  · obtain ⟨x, d, k, sp, sg, ot, rfl, _⟩ := h
    rfl
  · obtain ⟨x, d, k, sp, sg, ot, rfl, hd, hx2, hxl, kk⟩ := h
    refine ⟨_, (pss_cons (ps_set (i := 2) sc.nd rfl (Or.inl rfl) (pe_split (pv 0) pe_str))
      (pss_cons (ps_set (i := 3) sc.nd rfl (Or.inl rfl) (pe_op op_mod (pe_callTy call_int1 (by rfl) T.b_int (by decide +kernel) (pa_cons (pe_ix (ixL K) (pv 1) pe_int (fun _ _ => rfl)) pa_nil)) (pe_callB (cLen K) (by rfl) T.b_len (by decide +kernel) (pa_cons (pv 2) pa_nil))))
      (pss_cons (ps_if (pt_cmpR op_eq (pe_ix (ixL K) (pv 1) pe_int (fun _ _ => rfl)) pe_int (nomark _))
      (pss_one (ps_ret (pe_join pe_str (pe_op op_cat (pe_slice (slL K) (pv 2) po_none (po_some (pv 3))) (pe_slice (slL K) (pv 2) (po_some (pe_op op_add (pv 3) pe_int)) po_none)))))
      pss_nil)
      (pss_cons (ps_if (pt_cmpR op_eq (pe_ix (ixL K) (pv 1) pe_int (fun _ _ => rfl)) pe_int (nomark _))
      (pss_one (ps_ret (pe_join pe_str (pe_op op_cat (pe_slice (slL K) (pv 2) (po_some (pv 3)) po_none) (pe_slice (slL K) (pv 2) po_none (po_some (pv 3)))))))
      pss_nil)
      (pss_cons (ps_if (pt_cmpR op_eq (pe_ix (ixL K) (pv 1) pe_int (fun _ _ => rfl)) pe_int (nomark _))
      (pss_one (ps_ret (pe_join pe_str (pe_op op_cat (pv 2) (pe_slice (slL K) (pv 2) (po_some (pv 3)) (po_some (pe_op op_add (pv 3) pe_int)))))))
      pss_nil)
      (pss_cons (ps_if (pt_cmpR op_eq (pe_ix (ixL K) (pv 1) pe_int (fun _ _ => rfl)) pe_int (nomark _))
      (pss_cons (ps_set (i := 4) sc.nd rfl (Or.inl rfl) (pe_split (pe_ix (ixL K) (pv 2) (pv 3) (fun _ _ => rfl)) pe_str))
      (pss_cons (ps_expr (pe_bm PySem.F.plainAttrs_list PySem.F.slot_list_insert PySem.F.type_list_insert mt_insert (pv 4) (pa_cons (pe_op op_mod (pe_callTy call_int1 (by rfl) T.b_int (by decide +kernel) (pa_cons (pe_ix (ixL K) (pv 1) pe_int (fun _ _ => rfl)) pa_nil)) (pe_op op_add (pe_callB (cLen K) (by rfl) T.b_len (by decide +kernel) (pa_cons (pv 4) pa_nil)) pe_int)) (pa_cons (pe_ix (ixL K) (pv 4) (pe_op op_mod (pe_callTy call_int1 (by rfl) T.b_int (by decide +kernel) (pa_cons (pe_ix (ixL K) (pv 1) pe_int (fun _ _ => rfl)) pa_nil)) (pe_callB (cLen K) (by rfl) T.b_len (by decide +kernel) (pa_cons (pv 4) pa_nil))) (fun _ _ => rfl)) pa_nil))))
      (pss_one (ps_ret (pe_join pe_str (pe_op op_cat (pe_op op_cat (pe_slice (slL K) (pv 2) po_none (po_some (pv 3))) (pe_lst (pa_cons (pe_join pe_str (pv 4)) pa_nil))) (pe_slice (slL K) (pv 2) (po_some (pe_op op_add (pv 3) pe_int)) po_none)))))))
      pss_nil)
      (pss_cons (ps_if (pt_cmpR op_eq (pe_ix (ixL K) (pv 1) pe_int (fun _ _ => rfl)) pe_int (nomark _))
      (pss_one (ps_ret (pe_join pe_str (pe_op op_cat (pe_op op_cat (pe_slice (slL K) (pv 2) po_none (po_some (pv 3))) (pe_lst (pa_cons (pe_op op_add_str (pe_ix (ixT K) (pe_partition (pe_ix (ixL K) (pv 2) (pv 3) (fun _ _ => rfl)) pe_str) pe_int (fun _ _ => rfl)) pe_str) pa_nil))) (pe_slice (slL K) (pv 2) (po_some (pe_op op_add (pv 3) pe_int)) po_none)))))
      pss_nil)
      (pss_cons (ps_if (pt_cmpR op_eq (pe_ix (ixL K) (pv 1) pe_int (fun _ _ => rfl)) pe_int (nomark _))
      (pss_cons (ps_asg (pe_partition (pe_ix (ixL K) (pv 2) (pv 3) (fun _ _ => rfl)) pe_str) (pgT K (n := 3) rfl (pgs_cons (pg_name (i := 5) sc.nd rfl (Or.inl rfl)) (pgs_cons (pg_name (i := 6) sc.nd rfl (Or.inl rfl)) (pgs_cons (pg_name (i := 7) sc.nd rfl (Or.inl rfl)) pgs_nil)))))
      (pss_cons (ps_set (i := 8) sc.nd rfl (Or.inl rfl) (pe_ix (ixT K) (pe_partition (pe_ix (ixT K) (pe_partition (pe_ix (ixL K) (pv 2) (pe_op op_mod (pe_callTy call_int1 (by rfl) T.b_int (by decide +kernel) (pa_cons (pe_ix (ixL K) (pv 1) pe_int (fun _ _ => rfl)) pa_nil)) (pe_callB (cLen K) (by rfl) T.b_len (by decide +kernel) (pa_cons (pv 2) pa_nil))) (fun _ _ => rfl)) pe_str) pe_int (fun _ _ => rfl)) pe_str) pe_int (fun _ _ => rfl)))
      (pss_cons (ps_set (i := 9) sc.nd rfl (Or.inl rfl) (pe_op op_add_str (pe_op op_add_str (pe_op op_add_str (pe_op op_add_str (pv 5) pe_str) (pv 8)) pe_str) (pe_ix (ixT K) (pe_partition (pv 7) pe_str) pe_int (fun _ _ => rfl))))
      (pss_one (ps_ret (pe_join pe_str (pe_op op_cat (pe_op op_cat (pe_slice (slL K) (pv 2) po_none (po_some (pv 3))) (pe_lst (pa_cons (pv 9) pa_nil))) (pe_slice (slL K) (pv 2) (po_some (pe_op op_add (pv 3) pe_int)) po_none))))))))
      pss_nil)
      (pss_one (ps_ret (pe_c c_law_marred hr (by decide) rfl (pa_cons (pv 0) (pa_cons (pv 1) pa_nil))))))))))))), ?_⟩
    -- pieces = text.split('; ')
    obtain ⟨hs1, hs2⟩ := split_len x (Str.ofString "; ") (by rw [tl_semi]; simp) (by decide +kernel)
    have e2 : (Str.ofString "; ").length = 2 := rfl
    rw [e2] at hs1
    refine ⟨_, rfl, ⟨_, rfl⟩, x, Str.ofString "; ", rfl, rfl, by decide +kernel, by rw [sizeLine_eq]; omega, fun l hl => ?_⟩
    obtain ⟨ps, eps⟩ : ∃ ps, ps = Txt.split x (Str.ofString "; ") := ⟨_, rfl⟩
    rw [← eps] at hs1 hs2 ⊢
    have s1 := Same.new (o := .lst (ps.map V.str)) hl
    have a1 : upd H l (.lst (ps.map V.str)) l = some (.lst (ps.map V.str)) := upd_same
    have d1 := s1 _ _ hd
    obtain ⟨H1, e1⟩ : ∃ H1, H1 = upd H l (.lst (ps.map V.str)) := ⟨_, rfl⟩
    rw [← e1] at s1 a1 d1 ⊢
    have hlen : 0 < ps.length := List.length_pos_iff.mpr hs2
    -- spot = int(drawn[1]) % len(pieces)
    have m0 := Int.emod_nonneg sp (show ((ps.length : Nat) : Int) ≠ 0 by omega)
    have m1 := Int.emod_lt_of_pos sp (show (0 : Int) < ((ps.length : Nat) : Int) by omega)
    refine ⟨_, rfl, d, _, 1, _, rfl, rfl, SqL.of d1, atI_get (i := 1) rfl, .inl ⟨_, rfl, _, rfl, l, _, rfl, .inl (SqL.of a1), _, _, rfl, rfl, by rw [List.length_map]; omega, ?_⟩⟩
    obtain ⟨n, en⟩ : ∃ n : Nat, sp % (((ps.map V.str).length : Nat) : Int) = n := ⟨(sp % (ps.length : Int)).toNat, by rw [List.length_map]; omega⟩
    have hn : n < ps.length := by rw [List.length_map] at en; omega
    simp only [en]
    obtain ⟨t, ht⟩ : ∃ t, ps[n]? = some t := ⟨_, List.getElem?_eq_getElem hn⟩
    have htl := lsum_mem (List.mem_of_getElem? ht)
    obtain ⟨q1, q2⟩ := lsum_parts n ps ht
    have cN : ((n : Int) + 1) = ((n + 1 : Nat) : Int) := by omega
    have drw : ∀ (i : Nat) (v : Int), ([k, sp, sg, ot] : List Int)[i]? = some v → atI [V.int k, .int sp, .int sg, .int ot] (i : Int) = some (.int v) := fun i v h => atI_int (ns := [k, sp, sg, ot]) rfl h
    -- joined: what the text is made of
    have fin : ∀ (ts : List Str) (H' : Hp) (a : Addr), L2.Same H1 H' → H' a = some (.lst (ts.map V.str)) → lsum ts + ts.length * 2 ≤ 2 * x.length + 100 → (V.str (Str.ofString "; ") = V.str (Str.ofString "; ")) → ∃ (b : Str) (p : Addr), ∃ ys : List Str, V.str (Str.ofString "; ") = .str b ∧ [V.ref a] = [.ref p] ∧ (SqL K H' p (ys.map V.str) ∨ SqT K H' p (ys.map V.str)) ∧ (ys.map (·.length)).sum + ys.length * b.length ≤ 16777216 ∧ Q (.str (Txt.join b ys)) H' :=
      fun ts H' a s' ha hb _ => ⟨Str.ofString "; ", a, ts, rfl, rfl, .inl (SqL.of ha), by show lsum ts + ts.length * 2 ≤ _; omega, kk _ H' (s1.trans s') (by have := join_len (Str.ofString "; ") ts; rw [e2] at this; omega)⟩
    refine ⟨_, rfl, d, _, 0, _, rfl, rfl, SqL.of d1, drw 0 k rfl, rfl, _, rfl, ite_b (fun _ => ?_) (fun _ => ?_)⟩
    · -- 9: one out
      refine ⟨⟨_, rfl⟩, _, rfl, _, rfl, _, rfl, l, _, rfl, SqL.of a1, fun u1 hu1 => ?_⟩
      rw [cutV_take, ← List.map_take]
      have t1 := Same.new (o := .lst ((ps.take n).map V.str)) hu1
      refine ⟨_, rfl, _, rfl, _, _, rfl, rfl, _, rfl, l, _, rfl, SqL.of (t1 _ _ a1), fun u2 hu2 => ?_⟩
      rw [cN, cutV_drop, ← List.map_drop]
      have t2 := Same.new (o := .lst ((ps.drop (n + 1)).map V.str)) hu2
      refine ⟨u1, u2, _, _, rfl, rfl, t2 _ _ upd_same, upd_same, by rw [List.length_map, List.length_map]; exact size_le (by omega), fun u3 hu3 => ?_⟩
      rw [← List.map_append]
      exact fin (ps.take n ++ ps.drop (n + 1)) _ u3 (t1.trans (Same.step t2 hu3)) upd_same (by rw [lsum_app, List.length_append]; omega) rfl
    refine ⟨_, rfl, d, _, 0, _, rfl, rfl, SqL.of d1, drw 0 k rfl, rfl, _, rfl, ite_b (fun _ => ?_) (fun _ => ?_)⟩
    · -- 10: turned
      refine ⟨⟨_, rfl⟩, _, rfl, _, rfl, _, rfl, l, _, rfl, SqL.of a1, fun u1 hu1 => ?_⟩
      rw [cutV_drop, ← List.map_drop]
      have t1 := Same.new (o := .lst ((ps.drop n).map V.str)) hu1
      refine ⟨_, rfl, _, rfl, _, rfl, l, _, rfl, SqL.of (t1 _ _ a1), fun u2 hu2 => ?_⟩
      rw [cutV_take, ← List.map_take]
      have t2 := Same.new (o := .lst ((ps.take n).map V.str)) hu2
      have h3 := lsum_td n ps
      have h4 : (ps.drop n).length + (ps.take n).length = ps.length := by rw [List.length_take, List.length_drop]; omega
      refine ⟨u1, u2, _, _, rfl, rfl, t2 _ _ upd_same, upd_same, by rw [List.length_map, List.length_map]; exact size_le (by omega), fun u3 hu3 => ?_⟩
      rw [← List.map_append]
      exact fin (ps.drop n ++ ps.take n) _ u3 (t1.trans (Same.step t2 hu3)) upd_same (by rw [lsum_app, List.length_append]; omega) rfl
    refine ⟨_, rfl, d, _, 0, _, rfl, rfl, SqL.of d1, drw 0 k rfl, rfl, _, rfl, ite_b (fun _ => ?_) (fun _ => ?_)⟩
    · -- 11: one twice
      refine ⟨⟨_, rfl⟩, _, rfl, _, rfl, _, rfl, _, rfl, _, rfl, _, _, rfl, rfl, _, rfl, l, _, rfl, SqL.of a1, fun u2 hu2 => ?_⟩
      rw [cN, cutV_nat V.str ps n (n + 1) (by omega), show n + 1 - n = 1 by omega]
      have t2 := Same.new (o := .lst (((ps.drop n).take 1).map V.str)) hu2
      have e4 : (ps.drop n).take 1 = [t] := by
        obtain ⟨h1, h2⟩ := List.getElem?_eq_some_iff.mp ht
        rw [List.drop_eq_getElem_cons h1, h2]
        rfl
      rw [e4] at t2 ⊢
      refine ⟨l, u2, _, _, rfl, rfl, t2 _ _ a1, upd_same, by rw [List.length_map, List.length_map]; exact size_le (by show _ + 1 ≤ _; omega), fun u3 hu3 => ?_⟩
      rw [← List.map_append]
      exact fin (ps ++ [t]) _ u3 (Same.step t2 hu3) upd_same (by rw [lsum_app, lsum_one, List.length_append, List.length_singleton]; omega) rfl
    -- a piece for another
    have swap : ∀ (v : Str) (H' : Hp) (G : V → Hp → Prop), v.length ≤ t.length + x.length + 20 → L2.Same H1 H' → (∀ u3 H'', L2.Same H1 H'' → H'' u3 = some (.lst ((ps.take n ++ [v] ++ ps.drop (n + 1)).map V.str)) → G (.ref u3) H'') → lsum (ps.take n ++ [v] ++ ps.drop (n + 1)) + (ps.take n ++ [v] ++ ps.drop (n + 1)).length * 2 ≤ 2 * x.length + 100 := fun v H' G hv _ _ => by
      rw [lsum_app, lsum_app, lsum_one, List.length_append, List.length_append, List.length_singleton]
      omega
    refine ⟨_, rfl, d, _, 0, _, rfl, rfl, SqL.of d1, drw 0 k rfl, rfl, _, rfl, ite_b (fun _ => ?_) (fun _ => ?_)⟩
    · -- 12: a cell twice
      refine ⟨_, rfl, _, rfl, l, _, _, .str t, rfl, rfl, SqL.of a1, atI_str rfl ht, ⟨_, rfl⟩, t, Str.ofString ",", rfl, rfl, by decide +kernel, by rw [sizeLine_eq]; omega, fun c hc => ?_⟩
      obtain ⟨hc1, hc2⟩ := split_len t (Str.ofString ",") (by rw [tl_comma]; simp) (Nat.le_refl _)
      have ec : (Str.ofString ",").length = 1 := rfl
      rw [ec] at hc1
      obtain ⟨cs, ecs⟩ : ∃ cs, cs = Txt.split t (Str.ofString ",") := ⟨_, rfl⟩
      rw [← ecs] at hc1 hc2 ⊢
      have hcl : 0 < cs.length := List.length_pos_iff.mpr hc2
      have t1 := Same.new (o := .lst (cs.map V.str)) hc
      have ac : upd H1 c (.lst (cs.map V.str)) c = some (.lst (cs.map V.str)) := upd_same
      have g0 := Int.emod_nonneg ot (show (((cs.map V.str).length : Nat) : Int) + 1 ≠ 0 by omega)
      have g1 := Int.emod_lt_of_pos ot (show (0 : Int) < (((cs.map V.str).length : Nat) : Int) + 1 by omega)
      have f0 := Int.emod_nonneg sg (show ((cs.length : Nat) : Int) ≠ 0 by omega)
      have f1 := Int.emod_lt_of_pos sg (show (0 : Int) < ((cs.length : Nat) : Int) by omega)
      obtain ⟨y, hy⟩ : ∃ y, cs[(sg % (cs.length : Int)).toNat]? = some y := ⟨_, List.getElem?_eq_getElem (by omega)⟩
      have hyl := lsum_mem (List.mem_of_getElem? hy)
      refine ⟨_, rfl, .inl ⟨rfl, _, SqL.of ac⟩, _, rfl, d, _, 3, _, rfl, rfl, SqL.of (t1 _ _ d1), drw 3 ot rfl, .inl ⟨_, rfl, _, rfl, c, _, rfl, .inl (SqL.of ac), _, _, rfl, rfl, _, _, rfl, rfl, (show (0 : Int) < _ by omega), _, rfl, _, rfl, d, _, 2, _, rfl, rfl, SqL.of (t1 _ _ d1), drw 2 sg rfl, .inl ⟨_, rfl, _, rfl, c, _, rfl, .inl (SqL.of ac), _, _, rfl, rfl, by rw [List.length_map]; omega,
        c, _, _, .str y, rfl, rfl, SqL.of ac, by rw [List.length_map]; exact atI_pos f0 (by rw [List.getElem?_map, hy]; rfl), c, _, _, .str y, rfl, rfl, ac, by rw [List.length_map]; exact size_lt (by omega), g0, by rw [List.length_map] at g1 ⊢; omega, ?_⟩⟩⟩
      obtain ⟨nn, enn⟩ : ∃ nn, nn = (ot % ((((cs.map V.str).length : Nat) : Int) + 1)).toNat := ⟨_, rfl⟩
      rw [← enn, ← List.map_take, ← List.map_drop]
      have e3 : (cs.take nn).map V.str ++ [V.str y] ++ (cs.drop nn).map V.str = (cs.take nn ++ [y] ++ cs.drop nn).map V.str := by rw [List.map_append, List.map_append]; rfl
      rw [e3]
      have hls : lsum (cs.take nn ++ [y] ++ cs.drop nn) = lsum cs + y.length := by rw [lsum_app, lsum_app, lsum_one]; have := lsum_td nn cs; omega
      have hll : (cs.take nn ++ [y] ++ cs.drop nn).length = cs.length + 1 := by rw [List.length_append, List.length_append, List.length_singleton, List.length_take, List.length_drop]; omega
      obtain ⟨ds, eds⟩ : ∃ ds, ds = cs.take nn ++ [y] ++ cs.drop nn := ⟨_, rfl⟩
      rw [← eds] at hls hll ⊢
      have t2 : L2.Same H1 (upd (upd H1 c (.lst (cs.map V.str))) c (.lst (ds.map V.str))) := Same.mut t1 hc
      have ac2 : upd (upd H1 c (.lst (cs.map V.str))) c (.lst (ds.map V.str)) c = some (.lst (ds.map V.str)) := upd_same
      obtain ⟨H2, e5⟩ : ∃ H2, H2 = upd (upd H1 c (.lst (cs.map V.str))) c (.lst (ds.map V.str)) := ⟨_, rfl⟩
      rw [← e5] at t2 ac2 ⊢
      have hj := join_len (Str.ofString ",") ds
      rw [hls, hll, ec] at hj
      refine ⟨⟨_, rfl⟩, _, rfl, _, rfl, _, rfl, l, _, rfl, SqL.of (t2 _ _ a1), fun u1 hu1 => ?_⟩
      rw [cutV_take, ← List.map_take]
      have w1 := Same.new (o := .lst ((ps.take n).map V.str)) hu1
      refine ⟨⟨_, rfl⟩, _, rfl, Str.ofString ",", c, ds, rfl, rfl, .inl (SqL.of (w1 _ _ ac2)), by show lsum ds + ds.length * 1 ≤ _; omega, size_le (by show 1 ≤ _; omega), fun u2 hu2 => ?_⟩
      obtain ⟨v, ev⟩ : ∃ v, v = Txt.join (Str.ofString ",") ds := ⟨_, rfl⟩
      rw [← ev] at hj ⊢
      have w2 := Same.new (o := .lst ([v].map V.str)) hu2
      refine ⟨u1, u2, _, [v].map V.str, rfl, rfl, w2 _ _ upd_same, upd_same, by rw [List.length_map, List.length_map]; exact size_le (by show _ + 1 ≤ _; omega), fun u3 hu3 => ?_⟩
      rw [← List.map_append]
      have w3' := Same.new (o := .lst ((ps.take n ++ [v]).map V.str)) hu3
      have w123 := t2.trans (w1.trans (w2.trans w3'))
      refine ⟨_, rfl, _, rfl, _, _, rfl, rfl, _, rfl, l, _, rfl, SqL.of (w123 _ _ a1), fun u4 hu4 => ?_⟩
      rw [cN, cutV_drop, ← List.map_drop]
      have w4 := Same.new (o := .lst ((ps.drop (n + 1)).map V.str)) hu4
      refine ⟨u3, u4, (ps.take n ++ [v]).map V.str, _, rfl, rfl, w4 _ _ upd_same, upd_same, by rw [List.length_map, List.length_map, List.length_append, List.length_singleton]; exact size_le (by omega), fun u5 hu5 => ?_⟩
      rw [← List.map_append]
      exact fin (ps.take n ++ [v] ++ ps.drop (n + 1)) _ u5 (w123.trans (Same.step w4 hu5)) upd_same (swap v H1 (fun _ _ => True) (by omega) (L2.Same.refl _) (fun _ _ _ _ => trivial)) rfl
    refine ⟨_, rfl, d, _, 0, _, rfl, rfl, SqL.of d1, drw 0 k rfl, rfl, _, rfl, ite_b (fun _ => ?_) (fun _ => ?_)⟩
    · -- 13: nothing behind the sign
      refine ⟨⟨_, rfl⟩, _, rfl, _, rfl, _, rfl, l, _, rfl, SqL.of a1, fun u1 hu1 => ?_⟩
      rw [cutV_take, ← List.map_take]
      have w1 := Same.new (o := .lst ((ps.take n).map V.str)) hu1
      have hp := part_len t (Str.ofString "=") tl_eqs
      refine ⟨_, rfl, _, rfl, l, _, _, .str t, rfl, rfl, SqL.of (w1 _ _ a1), atI_str rfl ht, ⟨_, rfl⟩, t, Str.ofString "=", rfl, rfl, by decide +kernel, size_le (by omega), fun g hg => ?_⟩
      have w2 := Same.new (o := .tup [.str (Txt.partition t (Str.ofString "=")).1, .str (Txt.partition t (Str.ofString "=")).2.1, .str (Txt.partition t (Str.ofString "=")).2.2]) hg
      have e1' : (Str.ofString "=" : Str).length = 1 := rfl
      have hv : ((Txt.partition t (Str.ofString "=")).1 ++ Str.ofString "=").length ≤ t.length + 1 := by rw [len_app, e1']; omega
      refine ⟨g, _, 0, _, rfl, rfl, SqT.of upd_same, atI_get (i := 0) rfl, _, _, rfl, rfl, size_le (by rw [e1']; omega), size_le (by show 1 ≤ _; omega), fun u2 hu2 => ?_⟩
      obtain ⟨v, ev⟩ : ∃ v, v = (Txt.partition t (Str.ofString "=")).1 ++ Str.ofString "=" := ⟨_, rfl⟩
      rw [← ev] at hv ⊢
      have w3' := Same.new (o := .lst ([v].map V.str)) hu2
      have w23 := w2.trans w3'
      refine ⟨u1, u2, _, [v].map V.str, rfl, rfl, w23 _ _ upd_same, upd_same, by rw [List.length_map, List.length_map]; exact size_le (by show _ + 1 ≤ _; omega), fun u3 hu3 => ?_⟩
      rw [← List.map_append]
      have w4' := Same.new (o := .lst ((ps.take n ++ [v]).map V.str)) hu3
      have w123 := w1.trans (w23.trans w4')
      refine ⟨_, rfl, _, rfl, _, _, rfl, rfl, _, rfl, l, _, rfl, SqL.of (w123 _ _ a1), fun u4 hu4 => ?_⟩
      rw [cN, cutV_drop, ← List.map_drop]
      have w4 := Same.new (o := .lst ((ps.drop (n + 1)).map V.str)) hu4
      refine ⟨u3, u4, (ps.take n ++ [v]).map V.str, _, rfl, rfl, w4 _ _ upd_same, upd_same, by rw [List.length_map, List.length_map, List.length_append, List.length_singleton]; exact size_le (by omega), fun u5 hu5 => ?_⟩
      rw [← List.map_append]
      exact fin (ps.take n ++ [v] ++ ps.drop (n + 1)) _ u5 (w123.trans (Same.step w4 hu5)) upd_same (swap v H1 (fun _ _ => True) (by omega) (L2.Same.refl _) (fun _ _ _ _ => trivial)) rfl
    refine ⟨_, rfl, d, _, 0, _, rfl, rfl, SqL.of d1, drw 0 k rfl, rfl, _, rfl, ite_b (fun _ => ?_) (fun _ => ?_)⟩
    · -- 14: the name of another
      have hp := part_len t (Str.ofString " ") tl_sp
      refine ⟨_, rfl, _, rfl, l, _, _, .str t, rfl, rfl, SqL.of a1, atI_str rfl ht, ⟨_, rfl⟩, t, Str.ofString " ", rfl, rfl, by decide +kernel, size_le (by omega), fun g hg => ?_⟩
      obtain ⟨wd, ewd⟩ : ∃ a, a = (Txt.partition t (Str.ofString " ")).1 := ⟨_, rfl⟩
      obtain ⟨gp, egp⟩ : ∃ a, a = (Txt.partition t (Str.ofString " ")).2.1 := ⟨_, rfl⟩
      obtain ⟨rs, ers⟩ : ∃ a, a = (Txt.partition t (Str.ofString " ")).2.2 := ⟨_, rfl⟩
      rw [← ewd, ← egp, ← ers]
      rw [← ewd, ← ers] at hp
      have w1 := Same.new (o := .tup [.str wd, .str gp, .str rs]) hg
      refine ⟨g, _, rfl, SqT.of upd_same, rfl, _, _, rfl, _, _, rfl, _, _, rfl, rfl, ?_⟩
      have f0 := Int.emod_nonneg ot (show ((ps.length : Nat) : Int) ≠ 0 by omega)
      have f1 := Int.emod_lt_of_pos ot (show (0 : Int) < ((ps.length : Nat) : Int) by omega)
      obtain ⟨y, hy⟩ : ∃ y, ps[(ot % (ps.length : Int)).toNat]? = some y := ⟨_, List.getElem?_eq_getElem (by omega)⟩
      have hyl := lsum_mem (List.mem_of_getElem? hy)
      have hp2 := part_len y (Str.ofString "=") tl_eqs
      refine ⟨_, rfl, _, rfl, d, _, 3, _, rfl, rfl, SqL.of (w1 _ _ d1), drw 3 ot rfl, .inl ⟨_, rfl, _, rfl, l, _, rfl, .inl (SqL.of (w1 _ _ a1)), _, _, rfl, rfl, by rw [List.length_map]; omega, l, _, _, .str y, rfl, rfl, SqL.of (w1 _ _ a1), by rw [List.length_map]; exact atI_pos f0 (by rw [List.getElem?_map, hy]; rfl), ⟨_, rfl⟩, y, Str.ofString "=", rfl, rfl, by decide +kernel, size_le (by omega), fun g2 hg2 => ?_⟩⟩
      have w2 := Same.step (o := .tup [.str (Txt.partition y (Str.ofString "=")).1, .str (Txt.partition y (Str.ofString "=")).2.1, .str (Txt.partition y (Str.ofString "=")).2.2]) w1 hg2
      have hp3 := part_len (Txt.partition y (Str.ofString "=")).1 (Str.ofString " ") tl_sp
      refine ⟨g2, _, 0, _, rfl, rfl, SqT.of upd_same, atI_get (i := 0) rfl, ⟨_, rfl⟩, _, Str.ofString " ", rfl, rfl, by decide +kernel, size_le (by omega), fun g3 hg3 => ?_⟩
      obtain ⟨nm, enm⟩ : ∃ a, a = (Txt.partition (Txt.partition y (Str.ofString "=")).1 (Str.ofString " ")).2.2 := ⟨_, rfl⟩
      have w3' := Same.step (o := .tup [.str (Txt.partition (Txt.partition y (Str.ofString "=")).1 (Str.ofString " ")).1, .str (Txt.partition (Txt.partition y (Str.ofString "=")).1 (Str.ofString " ")).2.1, .str (Txt.partition (Txt.partition y (Str.ofString "=")).1 (Str.ofString " ")).2.2]) w2 hg3
      rw [← enm] at hp3 w3' ⊢
      refine ⟨g3, _, 2, _, rfl, rfl, SqT.of upd_same, atI_get (i := 2) rfl, ?_⟩
      have hp4 := part_len rs (Str.ofString "=") tl_eqs
      have i1 : (Str.ofString " " : Str).length = 1 := rfl
      have i2 : (Str.ofString "=" : Str).length = 1 := rfl
      have v1 : (wd ++ Str.ofString " ").length = wd.length + 1 := by rw [len_app, i1]
      have v2 : (wd ++ Str.ofString " " ++ nm).length = wd.length + 1 + nm.length := by rw [len_app, v1]
      have v3 : (wd ++ Str.ofString " " ++ nm ++ Str.ofString "=").length = wd.length + 1 + nm.length + 1 := by rw [len_app, v2, i2]
      refine ⟨_, rfl, _, _, rfl, rfl, size_le (by rw [i1]; omega), _, rfl, _, _, rfl, rfl, size_le (by rw [v1]; omega), _, _, rfl, rfl, size_le (by rw [v2, i2]; omega), _, rfl, ⟨_, rfl⟩, rs, Str.ofString "=", rfl, rfl, by decide +kernel, size_le (by omega), fun g4 hg4 => ?_⟩
      obtain ⟨ls, els⟩ : ∃ a, a = (Txt.partition rs (Str.ofString "=")).2.2 := ⟨_, rfl⟩
      have w4' := Same.step (o := .tup [.str (Txt.partition rs (Str.ofString "=")).1, .str (Txt.partition rs (Str.ofString "=")).2.1, .str (Txt.partition rs (Str.ofString "=")).2.2]) w3' hg4
      rw [← els] at hp4 w4' ⊢
      have v4 : (wd ++ Str.ofString " " ++ nm ++ Str.ofString "=" ++ ls).length = wd.length + 1 + nm.length + 1 + ls.length := by rw [len_app, v3]
      refine ⟨g4, _, 2, _, rfl, rfl, SqT.of upd_same, atI_get (i := 2) rfl, _, _, rfl, rfl, size_le (by rw [v3]; omega), ?_⟩
      obtain ⟨v, ev⟩ : ∃ v, v = wd ++ Str.ofString " " ++ nm ++ Str.ofString "=" ++ ls := ⟨_, rfl⟩
      rw [← ev] at v4 ⊢
      refine ⟨⟨_, rfl⟩, _, rfl, _, rfl, _, rfl, l, _, rfl, SqL.of (w4' _ _ a1), fun u1 hu1 => ?_⟩
      rw [cutV_take, ← List.map_take]
      have z1 := Same.step (o := .lst ((ps.take n).map V.str)) w4' hu1
      refine ⟨_, rfl, size_le (by show 1 ≤ _; omega), fun u2 hu2 => ?_⟩
      have z2 := Same.new (o := .lst ([v].map V.str)) hu2
      refine ⟨u1, u2, _, [v].map V.str, rfl, rfl, z2 _ _ upd_same, upd_same, by rw [List.length_map, List.length_map]; exact size_le (by show _ + 1 ≤ _; omega), fun u3 hu3 => ?_⟩
      rw [← List.map_append]
      have z3 := Same.new (o := .lst ((ps.take n ++ [v]).map V.str)) hu3
      have w123 := z1.trans (z2.trans z3)
      refine ⟨_, rfl, _, rfl, _, _, rfl, rfl, _, rfl, l, _, rfl, SqL.of (w123 _ _ a1), fun u4 hu4 => ?_⟩
      rw [cN, cutV_drop, ← List.map_drop]
      have w4 := Same.new (o := .lst ((ps.drop (n + 1)).map V.str)) hu4
      refine ⟨u3, u4, (ps.take n ++ [v]).map V.str, _, rfl, rfl, w4 _ _ upd_same, upd_same, by rw [List.length_map, List.length_map, List.length_append, List.length_singleton]; exact size_le (by omega), fun u5 hu5 => ?_⟩
      rw [← List.map_append]
      exact fin (ps.take n ++ [v] ++ ps.drop (n + 1)) _ u5 (w123.trans (Same.step w4 hu5)) upd_same (swap v H1 (fun _ _ => True) (by omega) (L2.Same.refl _) (fun _ _ _ _ => trivial)) rfl
    exact ⟨_, rfl, _, rfl, x, d, k, sp, sg, ot, rfl, d1, hx2, hxl, fun r H' s' hr => kk r H' (s1.trans s') hr⟩
end
end A80
end
section
set_option Elab.async false
set_option maxRecDepth 100000
set_option maxHeartbeats 4000000
set_option autoImplicit false
namespace A80
open PySem PySem.Spec L2 PyProof.Rows TL
/-! ### _law_same -/
abbrev S_law_same : Stmt := topS 25
theorem sc_law_same : FnScope ["_law_found", "_law_due", "_law_key", "_law_k"] ["_law_found", "_law_due"] (defScope S_law_same) := ⟨rfl, rfl, rfl, by decide +kernel, rfl, by decide +kernel, by decide +kernel⟩
def Sc (a b : V) : Prop := (a = .non ∧ b = .non) ∨ (∃ c, a = .bl c ∧ b = .bl c) ∨ (∃ n, a = .int n ∧ b = .int n) ∨ ∃ s, a = .str s ∧ b = .str s
abbrev RelH := Hp → V → V → Prop
def SeqR (R : RelH) : RelH := fun H a b => ∃ p q l m, a = .ref p ∧ b = .ref q ∧ ((H p = some (.lst l) ∧ H q = some (.lst m)) ∨ (H p = some (.tup l) ∧ H q = some (.tup m))) ∧ m.length ≤ 1000000 ∧ Paired (R H) l m
def DicR (R : RelH) : RelH := fun H a b => ∃ p q es fs, a = .ref p ∧ b = .ref q ∧ p ≠ q ∧ H p = some (.dK es) ∧ H q = some (.dK fs) ∧ es.length = fs.length ∧ fs.length ≤ 1000000 ∧ ∀ od, ∀ kv ∈ fs, ∃ u v, valV es kv.1 = some u ∧ valV fs kv.1 = some v ∧ R (upd H q (.frz od (.dK fs))) u v
def StepR (R : RelH) : RelH := fun H a b => Sc a b ∨ SeqR R H a b ∨ DicR R H a b
def SamR : Nat → RelH
  | 0 => fun _ _ _ => False
  | k + 1 => StepR (SamR k)
theorem StepR.imp {R R' : RelH} (h : ∀ H a b, R H a b → R' H a b) {H : Hp} {a b : V} (r : StepR R H a b) : StepR R' H a b := by
  rcases r with r | ⟨p, q, l, m, e1, e2, e3, e4, e5⟩ | ⟨p, q, es, fs, e1, e2, e3, e4, e5, e6, e7, e8⟩
  · exact .inl r
  · exact .inr (.inl ⟨p, q, l, m, e1, e2, e3, e4, paired_imp (fun _ _ => h H _ _) e5⟩)
  · refine .inr (.inr ⟨p, q, es, fs, e1, e2, e3, e4, e5, e6, e7, fun od kv hkv => ?_⟩)
    obtain ⟨u, v, h1, h2, h3⟩ := e8 od kv hkv
    exact ⟨u, v, h1, h2, h _ _ _ h3⟩
theorem samR_succ : ∀ (k : Nat) (H : Hp) (a b : V), SamR k H a b → SamR (k + 1) H a b
  | 0, _, _, _, h => h.elim
  | k + 1, _, _, _, h => StepR.imp (samR_succ k) h
theorem samR_mono {j k : Nat} (h : j ≤ k) {H : Hp} {a b : V} (r : SamR j H a b) : SamR k H a b := by
  induction h with
  | refl => exact r
  | step _ ih => exact samR_succ _ _ _ _ ih
def SamC (R : RelH) : Prop := ∀ (H H' : Hp) (a b : V), Same H H' → R H a b → R H' a b
theorem sam_upd {H H' : Hp} {q : Addr} {o : HO} (s : Same H H') : Same (upd H q o) (upd H' q o) := fun b u hb => by
  by_cases e : b = q
  · subst e
    rw [upd_same] at hb ⊢
    exact hb
  · rw [upd_ne e] at hb ⊢
    exact s _ _ hb
theorem StepR.samC {R : RelH} (h : SamC R) : SamC (StepR R) := by
  rintro H H' a b s (r | ⟨p, q, l, m, e1, e2, e3, e4, e5⟩ | ⟨p, q, es, fs, e1, e2, e3, e4, e5, e6, e7, e8⟩)
  · exact .inl r
  · refine .inr (.inl ⟨p, q, l, m, e1, e2, ?_, e4, paired_imp (fun _ _ => h H H' _ _ s) e5⟩)
    rcases e3 with ⟨x, y⟩ | ⟨x, y⟩
    · exact .inl ⟨s _ _ x, s _ _ y⟩
    · exact .inr ⟨s _ _ x, s _ _ y⟩
  · refine .inr (.inr ⟨p, q, es, fs, e1, e2, e3, s _ _ e4, s _ _ e5, e6, e7, fun od kv hkv => ?_⟩)
    obtain ⟨u, v, h1, h2, h3⟩ := e8 od kv hkv
    exact ⟨u, v, h1, h2, h _ _ _ _ (sam_upd s) h3⟩
theorem samR_same : ∀ k, SamC (SamR k)
  | 0 => fun _ _ _ _ _ h => h
  | k + 1 => StepR.samC (samR_same k)
def spSame (R : RelH) : Sp := fun vs H Q _ => ∃ a b, vs = [a, b] ∧ R H a b ∧ ∀ H', Same H H' → Q (.bl true) H'
theorem all_true (n : Nat) : ((List.replicate n true).all id) = true := by
  rw [List.all_eq_true]
  intro x hx
  exact (List.eq_of_mem_replicate hx)
section
variable {P : Program} {w : World} {K : PySem.W.Frag} {mg : Str → Option Value} {base : Heap} {CS : Addr}
theorem cl_same_0 (D : Df K mg "_law_same" S_law_same ["_law_found", "_law_due"]) : Cl P w K mg base 1 "_law_same" (spSame (SamR 0)) := by
  refine cl_mk D sc_law_same (fun vs H Q E h => ?_) (fun f cdv A outer s H vs Q E hr h => ?_)
  · obtain ⟨a, b, rfl, _⟩ := h
    rfl
  · obtain ⟨a, b, rfl, h, _⟩ := h
    exact h.elim
theorem cl_same_s {k : Nat} {R : RelH} (T : Tx K mg CS) (hR : SamC R) (D : Df K mg "_law_same" S_law_same ["_law_found", "_law_due"]) (c_law_same : Cl P w K mg base k "_law_same" (spSame R)) : Cl P w K mg base (k + 1) "_law_same" (spSame (StepR R)) := by
  have sc := sc_law_same
  refine cl_mk D sc (fun vs H Q E h => ?_) (fun f cdv A outer s H vs Q E hr h => ?_)
  · obtain ⟨a, b, rfl, _⟩ := h
    rfl
  · obtain ⟨a, b, rfl, h, kk⟩ := h
    refine ⟨_, (pss_cons (ps_if (pt_cmp (pc_isN (pv 1)))
      (pss_one (ps_ret (pe_cmp (pc_isN (pv 0)))))
      pss_nil)
      (pss_cons (ps_if (PW.pt (pw_or (pt_val (pe_callB (cIsi K) (by rfl) T.b_isinstance (by decide +kernel) (pa_cons (pv 1) (pa_cons (pe_bltn (v := .ty "bool") (by rfl) T.b_bool (by decide +kernel) rfl) pa_nil)))) (pw_or1 (pt_val (pe_callB (cIsi K) (by rfl) T.b_isinstance (by decide +kernel) (pa_cons (pv 0) (pa_cons (pe_bltn (v := .ty "bool") (by rfl) T.b_bool (by decide +kernel) rfl) pa_nil)))))))
      (pss_one (ps_ret (pe_and (pe_callB (cIsi K) (by rfl) T.b_isinstance (by decide +kernel) (pa_cons (pv 1) (pa_cons (pe_bltn (v := .ty "bool") (by rfl) T.b_bool (by decide +kernel) rfl) pa_nil))) (pe_and (pe_callB (cIsi K) (by rfl) T.b_isinstance (by decide +kernel) (pa_cons (pv 0) (pa_cons (pe_bltn (v := .ty "bool") (by rfl) T.b_bool (by decide +kernel) rfl) pa_nil))) (pe_one (pe_cmpR op_eq (pv 0) (pv 1) (nomark _)))))))
      pss_nil)
      (pss_cons (ps_if (pt_val (pe_callB (cIsi K) (by rfl) T.b_isinstance (by decide +kernel) (pa_cons (pv 1) (pa_cons (pe_bltn (v := .ty "int") (by rfl) T.b_int (by decide +kernel) rfl) pa_nil))))
      (pss_one (ps_ret (pe_and (pe_callB (cIsi K) (by rfl) T.b_isinstance (by decide +kernel) (pa_cons (pv 0) (pa_cons (pe_bltn (v := .ty "int") (by rfl) T.b_int (by decide +kernel) rfl) pa_nil))) (pe_one (pe_cmpR op_eq (pv 0) (pv 1) (nomark _))))))
      pss_nil)
      (pss_cons (ps_if (pt_val (pe_callB (cIsi K) (by rfl) T.b_isinstance (by decide +kernel) (pa_cons (pv 1) (pa_cons (pe_bltn (v := .ty "str") (by rfl) T.b_str (by decide +kernel) rfl) pa_nil))))
      (pss_one (ps_ret (pe_and (pe_callB (cIsi K) (by rfl) T.b_isinstance (by decide +kernel) (pa_cons (pv 0) (pa_cons (pe_bltn (v := .ty "str") (by rfl) T.b_str (by decide +kernel) rfl) pa_nil))) (pe_one (pe_cmpR op_eq (pv 0) (pv 1) (nomark _))))))
      pss_nil)
      (pss_cons (ps_if (pt_val (pe_callB (cIsi K) (by rfl) T.b_isinstance (by decide +kernel) (pa_cons (pv 1) (pa_cons (pe_bltn (v := .ty "dict") (by rfl) T.b_dict (by decide +kernel) rfl) pa_nil))))
      (pss_cons (ps_if (PW.pt (pw_or (pt_not (pt_val (pe_callB (cIsi K) (by rfl) T.b_isinstance (by decide +kernel) (pa_cons (pv 0) (pa_cons (pe_bltn (v := .ty "dict") (by rfl) T.b_dict (by decide +kernel) rfl) pa_nil))))) (pw_or1 (pt_cmpR op_ne (pe_callB call_lenD (by rfl) T.b_len (by decide +kernel) (pa_cons (pv 0) pa_nil)) (pe_callB call_lenD (by rfl) T.b_len (by decide +kernel) (pa_cons (pv 1) pa_nil)) (nomark _)))))
      (pss_one (ps_ret pe_bl))
      pss_nil)
      (pss_one (ps_ret (pe_callB (cr_all rfl) (by rfl) T.b_all (by decide +kernel) (pa_cons (pe_lock (pe_lc (own := [("_law_key", 2)]) rfl sc.nd (pi_keys (pv 1)) (blkOk_by (own := [("_law_key", 2)]) (N := ["_law_found", "_law_due", "_law_key", "_law_k"]) (sc := (defScope S_law_same)) (by decide +kernel)) (fun _ _ _ _ _ => (pg_name (i := 2) sc.nd rfl (Or.inl rfl))) (fun _ _ _ _ _ => pts_nil) (fun _ _ _ _ _ => (pe_and (pe_cmp (pc_din (hu_of hr) (pv 2) (pv 0))) (pe_one (pe_c c_law_same hr (Nat.le_refl _) rfl (pa_cons (pe_dget (hu_of hr) (pv 0) (pv 2) (fun _ _ => rfl)) (pa_cons (pe_dget (hu_of hr) (pv 1) (pv 2) (fun _ _ => rfl)) pa_nil)))))))) pa_nil)))))
      pss_nil)
      (pss_cons (ps_if (PW.pt (pw_or (pt_cmpR op_ne (pe_callB (cIsi K) (by rfl) T.b_isinstance (by decide +kernel) (pa_cons (pv 1) (pa_cons (pe_bltn (v := .ty "list") (by rfl) T.b_list (by decide +kernel) rfl) pa_nil))) (pe_callB (cIsi K) (by rfl) T.b_isinstance (by decide +kernel) (pa_cons (pv 0) (pa_cons (pe_bltn (v := .ty "list") (by rfl) T.b_list (by decide +kernel) rfl) pa_nil))) (nomark _)) (pw_or1 (pt_cmpR op_ne (pe_callB (cIsi K) (by rfl) T.b_isinstance (by decide +kernel) (pa_cons (pv 1) (pa_cons (pe_bltn (v := .ty "tuple") (by rfl) T.b_tuple (by decide +kernel) rfl) pa_nil))) (pe_callB (cIsi K) (by rfl) T.b_isinstance (by decide +kernel) (pa_cons (pv 0) (pa_cons (pe_bltn (v := .ty "tuple") (by rfl) T.b_tuple (by decide +kernel) rfl) pa_nil))) (nomark _)))))
      (pss_one (ps_ret pe_bl))
      pss_nil)
      (pss_cons (ps_if (pt_cmpR op_ne (pe_callB (cLen K) (by rfl) T.b_len (by decide +kernel) (pa_cons (pv 0) pa_nil)) (pe_callB (cLen K) (by rfl) T.b_len (by decide +kernel) (pa_cons (pv 1) pa_nil)) (nomark _))
      (pss_one (ps_ret pe_bl))
      pss_nil)
      (pss_one (ps_ret (pe_callB (cr_all rfl) (by rfl) T.b_all (by decide +kernel) (pa_cons (pe_lc (own := [("_law_k", 3)]) rfl sc.nd (pi_range1 rfl T.b_range (pa_cons (pe_callB (cLen K) (by rfl) T.b_len (by decide +kernel) (pa_cons (pv 1) pa_nil)) pa_nil)) (blkOk_by (own := [("_law_k", 3)]) (N := ["_law_found", "_law_due", "_law_key", "_law_k"]) (sc := (defScope S_law_same)) (by decide +kernel)) (fun _ _ _ _ _ => (pg_name (i := 3) sc.nd rfl (Or.inl rfl))) (fun _ _ _ _ _ => pts_nil) (fun _ _ _ _ _ => (pe_c c_law_same hr (Nat.le_refl _) rfl (pa_cons (pe_ix (ixA K) (pv 0) (pv 3) (fun _ _ => rfl)) (pa_cons (pe_ix (ixA K) (pv 1) (pv 3) (fun _ _ => rfl)) pa_nil))))) pa_nil))))))))))), ?_⟩
    rcases h with (⟨rfl, rfl⟩ | ⟨c, rfl, rfl⟩ | ⟨n, rfl, rfl⟩ | ⟨x, rfl, rfl⟩) | ⟨p, q, l, m, rfl, rfl, h3, h4, h5⟩ | ⟨p, q, es, fs, rfl, rfl, hne, h4, h5, h6, h7, h8⟩
    · exact ⟨_, rfl, _, rfl, iteT ⟨_, rfl, kk _ (L2.Same.refl _)⟩⟩
    · refine ⟨_, rfl, _, rfl, iteF ?_⟩
      refine ⟨_, rfl, _, _, _, _, true, rfl, .ty _, .base (.bl _), kit_ty (by decide +kernel), true, rfl, iteT ?_⟩
      refine ⟨_, rfl, _, _, _, _, true, rfl, .ty _, .base (.bl _), kit_ty (by decide +kernel), true, rfl, iteT ?_⟩
      refine ⟨_, rfl, _, _, _, _, true, rfl, .ty _, .base (.bl _), kit_ty (by decide +kernel), true, rfl, iteT ?_⟩
      refine ⟨_, rfl, _, rfl, rfl, ?_⟩
      have := kk _ (L2.Same.refl _)
      simpa using this
    · refine ⟨_, rfl, _, rfl, iteF ?_⟩
      refine ⟨_, rfl, _, _, _, _, false, rfl, .ty _, .base (.int _), kit_ty (by decide +kernel), false, rfl, iteF ?_⟩
      refine ⟨_, rfl, _, _, _, _, false, rfl, .ty _, .base (.int _), kit_ty (by decide +kernel), false, rfl, iteF ?_⟩
      refine ⟨_, rfl, _, _, _, _, true, rfl, .ty _, .base (.int _), kit_ty (by decide +kernel), true, rfl, iteT ?_⟩
      refine ⟨_, rfl, _, _, _, _, true, rfl, .ty _, .base (.int _), kit_ty (by decide +kernel), true, rfl, iteT ?_⟩
      refine ⟨_, rfl, _, rfl, rfl, ?_⟩
      have := kk _ (L2.Same.refl _)
      simpa using this
    · refine ⟨_, rfl, _, rfl, iteF ?_⟩
      refine ⟨_, rfl, _, _, _, _, false, rfl, .ty _, .base (.str _), kit_ty (by decide +kernel), false, rfl, iteF ?_⟩
      refine ⟨_, rfl, _, _, _, _, false, rfl, .ty _, .base (.str _), kit_ty (by decide +kernel), false, rfl, iteF ?_⟩
      refine ⟨_, rfl, _, _, _, _, false, rfl, .ty _, .base (.str _), kit_ty (by decide +kernel), false, rfl, iteF ?_⟩
      refine ⟨_, rfl, _, _, _, _, true, rfl, .ty _, .base (.str _), kit_ty (by decide +kernel), true, rfl, iteT ?_⟩
      refine ⟨_, rfl, _, _, _, _, true, rfl, .ty _, .base (.str _), kit_ty (by decide +kernel), true, rfl, iteT ?_⟩
      refine ⟨_, rfl, _, rfl, rfl, ?_⟩
      have := kk _ (L2.Same.refl _)
      simpa using this
    · -- lists, tuples
      have hlen := paired_len h5
      have hS : (SqL K H p l ∨ SqT K H p l) ∧ (SqL K H q m ∨ SqT K H q m) := by
        rcases h3 with ⟨x, y⟩ | ⟨x, y⟩
        · exact ⟨.inl (SqL.of x), .inl (SqL.of y)⟩
        · exact ⟨.inr (SqT.of x), .inr (SqT.of y)⟩
      have hT : ∃ T0 : String, (T0 = "list" ∨ T0 = "tuple") ∧ TyX K H (.ref p) (.type T0) ∧ TyX K H (.ref q) (.type T0) := by
        rcases h3 with ⟨x, y⟩ | ⟨x, y⟩
        · exact ⟨"list", .inl rfl, .base (.lst x), .base (.lst y)⟩
        · exact ⟨"tuple", .inr rfl, .base (.tup x), .base (.tup y)⟩
      obtain ⟨T0, hT0, tp, tq⟩ := hT
      have kB : PySem.W.kitOne K (.type T0) (.type "bool") = some false := by rcases hT0 with rfl | rfl <;> exact kit_ty (by decide +kernel)
      have kI : PySem.W.kitOne K (.type T0) (.type "int") = some false := by rcases hT0 with rfl | rfl <;> exact kit_ty (by decide +kernel)
      have kS : PySem.W.kitOne K (.type T0) (.type "str") = some false := by rcases hT0 with rfl | rfl <;> exact kit_ty (by decide +kernel)
      have kD : PySem.W.kitOne K (.type T0) (.type "dict") = some false := by rcases hT0 with rfl | rfl <;> exact kit_ty (by decide +kernel)
      obtain ⟨b1, kL⟩ : ∃ b, PySem.W.kitOne K (.type T0) (.type "list") = some b := by
        rcases hT0 with rfl | rfl
        · exact ⟨true, kit_ty (by decide +kernel)⟩
        · exact ⟨false, kit_ty (by decide +kernel)⟩
      obtain ⟨b2, kT⟩ : ∃ b, PySem.W.kitOne K (.type T0) (.type "tuple") = some b := by
        rcases hT0 with rfl | rfl
        · exact ⟨false, kit_ty (by decide +kernel)⟩
        · exact ⟨true, kit_ty (by decide +kernel)⟩
      refine ⟨_, rfl, _, rfl, iteF ?_⟩
      refine ⟨_, rfl, _, _, _, _, false, rfl, .ty _, tq, kB, false, rfl, iteF ?_⟩
      refine ⟨_, rfl, _, _, _, _, false, rfl, .ty _, tp, kB, false, rfl, iteF ?_⟩
      refine ⟨_, rfl, _, _, _, _, false, rfl, .ty _, tq, kI, false, rfl, iteF ?_⟩
      refine ⟨_, rfl, _, _, _, _, false, rfl, .ty _, tq, kS, false, rfl, iteF ?_⟩
      refine ⟨_, rfl, _, _, _, _, false, rfl, .ty _, tq, kD, false, rfl, iteF ?_⟩
      refine ⟨_, rfl, _, _, _, _, b1, rfl, .ty _, tq, kL, _, rfl, _, _, _, _, b1, rfl, .ty _, tp, kL, rfl, _, rfl, ite_f (by simp) ?_⟩
      refine ⟨_, rfl, _, _, _, _, b2, rfl, .ty _, tq, kT, _, rfl, _, _, _, _, b2, rfl, .ty _, tp, kT, rfl, _, rfl, ite_f (by simp) ?_⟩
      refine ⟨_, rfl, p, l, rfl, hS.1, _, rfl, q, m, rfl, hS.2, rfl, _, rfl, ite_f (by simp [hlen]) ?_⟩
      have ixP : ∀ {H' : Hp} {t : Nat} {u : V} {Q1 : VK}, Same H H' → l[t]? = some u → Q1 u H' → rIx K (.ref p) (.int ((t : Nat) : Int)) H' Q1 := by
        intro H' t u Q1 s' hu h
        rcases h3 with ⟨x, _⟩ | ⟨x, _⟩
        · exact .inl ⟨p, l, _, u, rfl, rfl, SqL.of (s' _ _ x), atI_get hu, h⟩
        · exact .inr (.inl ⟨p, l, _, u, rfl, rfl, SqT.of (s' _ _ x), atI_get hu, h⟩)
      have ixQ : ∀ {H' : Hp} {t : Nat} {u : V} {Q1 : VK}, Same H H' → m[t]? = some u → Q1 u H' → rIx K (.ref q) (.int ((t : Nat) : Int)) H' Q1 := by
        intro H' t u Q1 s' hu h
        rcases h3 with ⟨_, x⟩ | ⟨_, x⟩
        · exact .inl ⟨q, m, _, u, rfl, rfl, SqL.of (s' _ _ x), atI_get hu, h⟩
        · exact .inr (.inl ⟨q, m, _, u, rfl, rfl, SqT.of (s' _ _ x), atI_get hu, h⟩)
      refine ⟨_, rfl, q, m, rfl, hS.2, _, rfl, by omega, by omega, fun D hD => ?_⟩
      have hn0 : ((m.length : Nat) : Int).toNat = m.length := by omega
      rw [hn0]
      refine lc_grow walk_r0 hD (by omega) (fun _ _ => trivial) (fun t acc H' => acc = (List.replicate t true).map V.bl) (fun _ _ _ _ _ _ _ h => h) rfl ?_ ?_
      · rintro t v acc H2 H3 N1 N0 ht s2 hDl ha rfl k1 k0 ⟨rfl, rfl⟩
        obtain ⟨v, hv⟩ : ∃ e, m[t]? = some e := ⟨_, List.getElem?_eq_getElem ht⟩
        obtain ⟨u, hu, hr1⟩ := paired_get' h5 hv
        have s2' : Same H H3 := s2
        refine ⟨rfl, ?_⟩
        refine ⟨_, rfl, _, rfl, ixP s2' hu ⟨_, rfl, _, rfl, ixQ s2' hv ⟨u, v, rfl, hR _ _ _ _ s2' hr1, fun H' s' => ?_⟩⟩⟩
        exact k1 _ _ s' (by rw [List.replicate_succ', List.map_append]; rfl)
      · rintro acc H' s' hDl ha rfl
        refine ⟨D, _, rfl, SqL.of hDl, ?_⟩
        rw [all_true]
        exact kk _ s'
    · -- dicts
      have tp : TyX K H (.ref p) (.type "dict") := .base (.dK h4)
      have tq : TyX K H (.ref q) (.type "dict") := .base (.dK h5)
      refine ⟨_, rfl, _, rfl, iteF ?_⟩
      refine ⟨_, rfl, _, _, _, _, false, rfl, .ty _, tq, kit_ty (by decide +kernel), false, rfl, iteF ?_⟩
      refine ⟨_, rfl, _, _, _, _, false, rfl, .ty _, tp, kit_ty (by decide +kernel), false, rfl, iteF ?_⟩
      refine ⟨_, rfl, _, _, _, _, false, rfl, .ty _, tq, kit_ty (by decide +kernel), false, rfl, iteF ?_⟩
      refine ⟨_, rfl, _, _, _, _, false, rfl, .ty _, tq, kit_ty (by decide +kernel), false, rfl, iteF ?_⟩
      refine ⟨_, rfl, _, _, _, _, true, rfl, .ty _, tq, kit_ty (by decide +kernel), true, rfl, iteT ?_⟩
      refine ⟨_, rfl, _, _, _, _, true, rfl, .ty _, tp, kit_ty (by decide +kernel), true, rfl, ite_f rfl ?_⟩
      refine ⟨_, rfl, p, _, rfl, h4, _, rfl, q, _, rfl, h5, rfl, _, rfl, ite_f (by simp [h6]) ?_⟩
      refine ⟨q, _, h5, trivial, fun od => ?_⟩
      obtain ⟨HL, eHL⟩ : ∃ HL, HL = upd H q (.frz od (.dK fs)) := ⟨_, rfl⟩
      have lf : HL q = some (.frz od (.dK fs)) := by rw [eHL, upd_same]
      have lp : HL p = some (.dK es) := by rw [eHL, upd_ne hne]; exact h4
      have h8' := h8 od
      rw [← eHL] at h8' ⊢
      refine ⟨_, rfl, q, od, rfl, .inl ⟨_, lf, fun D hD => ?_⟩⟩
      have nDq : D ≠ q := fun e => by rw [e, lf] at hD; cases hD
      refine lc_grow walk_keys hD (by omega) (fun H' s => s _ _ lf) (fun t acc H' => acc = (List.replicate t true).map V.bl) (fun _ _ _ _ _ _ _ h => h) rfl ?_ ?_
      · rintro t v acc H2 H3 N1 N0 ht s2 hDl ha rfl k1 k0 ⟨rfl, key, vv, hkv, rfl⟩
        obtain ⟨u, v, hu, hv, hr1⟩ := h8' _ (List.mem_of_getElem? hkv)
        have g1 : DGet H3 p (kV key) (some u) := by
          rw [← hu]
          exact DGet.k (s2 _ _ lp)
        have g2 : DGet H3 q (kV key) (some v) := by
          rw [← hv]
          exact DGet.fk (s2 _ _ lf)
        refine ⟨rfl, ?_⟩
        refine ⟨_, rfl, _, rfl, p, some u, rfl, g1, true, rfl, iteT ?_⟩
        refine ⟨_, rfl, _, rfl, p, u, rfl, g1, _, rfl, _, rfl, q, v, rfl, g2, u, v, rfl, hR _ _ _ _ s2 hr1, fun H' s' => ?_⟩
        exact k1 _ _ s' (by rw [List.replicate_succ', List.map_append]; rfl)
      · rintro acc H' s' hDl ha rfl
        have lf1 := s' _ _ lf
        refine ⟨lf1, D, _, rfl, SqL.of (by rw [upd_ne nDq]; exact hDl), ?_⟩
        rw [all_true]
        rw [eHL] at s'
        exact kk _ (Same.unlock h5 s')
theorem cl_same (T : Tx K mg CS) (D : Df K mg "_law_same" S_law_same ["_law_found", "_law_due"]) : ∀ k, Cl P w K mg base (k + 1) "_law_same" (spSame (SamR k))
  | 0 => cl_same_0 D
  | k + 1 => cl_same_s T (samR_same k) D (cl_same T D k)
end
end A80
end
section
set_option Elab.async false
set_option maxRecDepth 100000
set_option maxHeartbeats 4000000
set_option autoImplicit false
namespace A80
open PySem PySem.Spec L2 PyProof.Rows TL
/-! ### (int, text) <= (int, text) -/
def leIS (r q : Int) (a b : Str) : Bool := if r = q then (if tl a = tl b then true else !decide (tl b < tl a)) else decide (r ≤ q)
theorem op_leIS {X : Cx} (hu : X.A.units < cLine) : OpR X (compareOp .LtE) (fun x y H Q => ∃ (a b : Addr) (r q : Int) (s t : Str), x = .ref a ∧ y = .ref b ∧ H a = some (.tup [.int r, .str s]) ∧ H b = some (.tup [.int q, .str t]) ∧ Q (.bl (leIS r q s t)) H) := by
  intro pins s σ H x y v u Q I rx ry h
  obtain ⟨a, b, r, q, x1, x2, rfl, rfl, ha, hb, k⟩ := h
  cases rx
  cases ry
  obtain ⟨its, r1, p1, _⟩ := I.tuple (SqT.of (K := X.K) ha)
  obtain ⟨its2, r2, p2, _⟩ := I.tuple (SqT.of (K := X.K) hb)
  cases r1 with
  | cons h1 h2 =>
  cases h2 with
  | cons h3 h4 =>
  cases h4
  cases r2 with
  | cons g1 g2 =>
  cases g2 with
  | cons g3 g4 =>
  cases g4
  obtain ⟨t1, rfl⟩ := h1
  obtain ⟨t2, rfl⟩ := h3
  obtain ⟨u1, rfl⟩ := g1
  obtain ⟨u2, rfl⟩ := g3
  have R := Ob.RcOp.tuples_le (A := X.A) (s := s) (e := fun j => match j with | 0 => r == q | _ => eqV (.str x1) (.str x2)) (r := fun j => match j with | 0 => decide (r ≤ q) | _ => !decide (x2.cps.toList < x1.cps.toList)) p1 p2 hu (fun j j1 j2 => by
      match j, j1, j2 with
      | 0, _, _ => exact SeqAt.EqAt.int_int _ _ _ _
      | 1, _, _ => exact eqAt_V (y := .str x1) (x := .str x2) ⟨t2, rfl⟩ ⟨u2, rfl⟩ rfl rfl) (fun j j1 j2 _ => by
      match j, j1, j2 with
      | 0, _, _ => exact Ob.RcOp.le_int _ _ _ _
      | 1, _, _ => exact fun _ _ _ _ h => PySem.P.le_str h)
  have e : (Ob.lexAt (fun j => match j with | 0 => r == q | _ => eqV (.str x1) (.str x2)) (fun j => match j with | 0 => decide (r ≤ q) | _ => !decide (x2.cps.toList < x1.cps.toList)) (decide (2 ≤ 2)) 0 (min 2 2)) = leIS r q x1 x2 := by
    show (if (r == q) = true then (if eqV (.str x1) (.str x2) = true then decide (2 ≤ 2) else !decide (x2.cps.toList < x1.cps.toList)) else decide (r ≤ q)) = _
    have e1 : eqV (.str x1) (.str x2) = decide (tl x1 = tl x2) := by
      rw [Bool.eq_iff_iff, decide_eq_true_eq]
      constructor
      · intro h
        have h : (x1 == x2) = true := h
        rw [beq_iff_eq.mp h]
      · intro h
        have : x1 = x2 := ext_tl h
        show (x1 == x2) = true
        rw [this]
        exact beq_self_eq_true _
    unfold leIS
    rw [e1]
    by_cases h1 : r = q
    · rw [if_pos (beq_iff_eq.mpr h1), if_pos h1]
      by_cases h2 : tl x1 = tl x2
      · rw [if_pos (decide_eq_true h2), if_pos h2]; rfl
      · rw [if_neg (by rw [decide_eq_false h2]; exact Bool.false_ne_true), if_neg h2]
    · rw [if_neg (fun z => h1 (beq_iff_eq.mp z)), if_neg h1]
  have R2 : wpAny (model X.prog X.w) X.A (compareOp .LtE (.ref a) (.ref b)) (EP X pins σ Q) X.xe s := R X.prog X.w X.xe (EP X pins σ Q) (by
    show EP X pins σ Q (.bool (Ob.lexAt _ _ (decide (2 ≤ 2)) 0 (min 2 2))) s
    rw [e]
    exact ⟨.bl _, H, I, rfl, k⟩)
  exact R2
theorem leIS_false {r q : Nat} {a b : Str} (h : leIS (r : Int) (q : Int) a b = false) : kLt (q, tl b) (r, tl a) := by
  unfold leIS at h
  by_cases h1 : (r : Int) = q
  · rw [if_pos h1] at h
    by_cases h2 : tl a = tl b
    · rw [if_pos h2] at h; cases h
    · rw [if_neg h2] at h
      refine .inr ⟨by omega, ?_⟩
      simpa using h
  · rw [if_neg h1] at h
    have := of_decide_eq_false h
    exact .inl (by show q < r; omega)
theorem leIS_true {r q : Nat} {a b : Str} (h : leIS (r : Int) (q : Int) a b = true) : ¬ kLt (q, tl b) (r, tl a) := by
  unfold leIS at h
  rintro (z | ⟨z1, z2⟩)
  · have z : q < r := z
    rw [if_neg (by omega)] at h
    have := of_decide_eq_true h
    omega
  · have z1 : q = r := z1
    have z2 : tl b < tl a := z2
    rw [if_pos (by omega), if_neg (fun e => by rw [e] at z2; exact List.lt_irrefl _ z2)] at h
    simp at h
    exact h z2
end A80
end
section
set_option Elab.async false
set_option maxRecDepth 100000
set_option maxHeartbeats 4000000
set_option autoImplicit false
namespace A80
open PySem PySem.Spec L2 PyProof.Rows TL
/-! ### _law_read_row -/
abbrev S_law_read_row : Stmt := topS 34
theorem sc_law_read_row : FnScope ["_law_text", "_law_row_here", "_law_cell", "_law_place", "_law_sign", "_law_value", "_law_found"] ["_law_text"] (defScope S_law_read_row) := ⟨rfl, rfl, rfl, by decide +kernel, rfl, by decide +kernel, by decide +kernel⟩
theorem mapM_app {α β : Type} (f : α → Option β) : ∀ (a b : List α) (r : List β), (a ++ b).mapM f = some r ↔ ∃ r1 r2, a.mapM f = some r1 ∧ b.mapM f = some r2 ∧ r = r1 ++ r2
  | [], b, r => by simp
  | x :: a, b, r => by
    rw [List.cons_append, List.mapM_cons, List.mapM_cons]
    cases hx : f x with
    | none => simp
    | some y =>
      have ih := mapM_app f a b
      constructor
      · intro h
        cases hab : (a ++ b).mapM f with
        | none => rw [hab] at h; cases h
        | some s =>
          rw [hab] at h
          obtain ⟨r1, r2, h1, h2, h3⟩ := (ih s).mp hab
          have h : some (y :: s) = some r := h
          injection h with h
          refine ⟨y :: r1, r2, ?_, h2, by rw [← h, h3]; rfl⟩
          rw [h1]
          rfl
      · rintro ⟨r1, r2, h1, h2, h3⟩
        cases ha : a.mapM f with
        | none => rw [ha] at h1; cases h1
        | some s =>
          rw [ha] at h1
          have h1 : some (y :: s) = some r1 := h1
          injection h1 with h1
          have := (ih (s ++ r2)).mpr ⟨s, r2, ha, h2, rfl⟩
          rw [this]
          show some (y :: (s ++ r2)) = some r
          rw [h3, ← h1]
          rfl
theorem rdL_none {t : List Nat} {A B : List (List Nat)} {c : List Nat} {row : Row} (h : spl [44] 0 [] t = A ++ c :: B) (hA : A.mapM readC = some row) (hbad : readC c = none ∨ ∃ p, readC c = some p ∧ ∃ z ∈ row, p.1 ≤ z.1) : rdL t = none := by
  cases hr : rdL t with
  | none => rfl
  | some r =>
    exfalso
    obtain ⟨h1, h2⟩ := (rdL_iff t r).mp hr
    have hc : readCs t = some r := readCs_iff.mpr ⟨h1, h2.1, h2.2.2.2⟩
    unfold readCs at hc
    rw [h] at hc
    obtain ⟨r1, r2, e1, e2, e3⟩ := (mapM_app readC A (c :: B) r).mp hc
    rw [hA] at e1
    cases e1
    rw [List.mapM_cons] at e2
    rcases hbad with hb | ⟨p, hp, z, hz, hle⟩
    · rw [hb] at e2; cases e2
    · rw [hp] at e2
      cases hB : B.mapM readC with
      | none => rw [hB] at e2; cases e2
      | some s =>
        rw [hB] at e2
        have e2 : some (p :: s) = some r2 := e2
        injection e2 with e2
        have hasc : Asc (row ++ r2) := by rw [← e3]; exact h2.2.1
        have := (List.pairwise_append.mp hasc).2.2 z hz p (by rw [← e2]; exact List.mem_cons_self)
        omega
def spLRow : Sp := fun vs H Q _ => ∃ x : Str, vs = [.str x] ∧ x.length ≤ 16000 ∧ ∀ p H', Same H H' → H p = none → RowAt H' p ((rdL (tl x)).getD []) → Q (.ref p) H'
section
variable {P : Program} {w : World} {K : PySem.W.Frag} {mg : Str → Option Value} {base : Heap} {CS : Addr}
theorem cl_law_read_row (T : Tx K mg CS) (D : Df K mg "_law_read_row" S_law_read_row ["_law_text"]) (c_law_number : Cl P w K mg base 1 "_law_number" spReadInt) (c_law_least : Cl P w K mg base 1 "_law_least" spLeast) : Cl P w K mg base 2 "_law_read_row" spLRow := by
  have sc := sc_law_read_row
  refine cl_mk D sc (fun vs H Q E h => ?_) (fun f cdv A outer s H vs Q E hr h => ?_)
  · obtain ⟨x, rfl, _⟩ := h
    rfl
  · obtain ⟨x, rfl, hl, k⟩ := h
    refine ⟨_, (pss_cons (ps_set (i := 1) sc.nd rfl (Or.inl rfl) (pe_lst pa_nil))
      (pss_cons (ps_for PassesOwn.never rfl (piL K (pe_split (pv 0) pe_str)) (pg_name (i := 2) sc.nd rfl (Or.inl rfl))
      (pss_cons (ps_asg (pe_partition (pv 2) pe_str) (pgT K (n := 3) rfl (pgs_cons (pg_name (i := 3) sc.nd rfl (Or.inl rfl)) (pgs_cons (pg_name (i := 4) sc.nd rfl (Or.inl rfl)) (pgs_cons (pg_name (i := 5) sc.nd rfl (Or.inl rfl)) pgs_nil)))))
      (pss_cons (ps_set (i := 6) sc.nd rfl (Or.inl rfl) (pe_op op_cat (pe_c c_law_number hr (by decide) rfl (pa_cons (pv 3) pa_nil)) (pe_c c_law_number hr (by decide) rfl (pa_cons (pv 5) pa_nil))))
      (pss_cons (ps_if (PW.pt (pw_or (pt_cmpR op_eq (pv 4) pe_str (nomark _)) (pw_or (pt_cmpR op_lt (pe_callB (cLen K) (by rfl) T.b_len (by decide +kernel) (pa_cons (pv 6) pa_nil)) pe_int (nomark _)) (pw_or1 (PW.pt (pw_and (pt_cmpR (op_neD hr.units) (pv 1) (pe_lst pa_nil) (nomark _)) (pw_and1 (pt_cmpR op_le (pe_ix (ixL K) (pv 6) pe_int (fun _ _ => rfl)) (pe_ix (ixT K) (pe_ix (ixL K) (pv 1) (pe_un un_neg pe_int) (fun _ _ => rfl)) pe_int (fun _ _ => rfl)) (nomark _)))))))))
      (pss_one (ps_ret (pe_lst pa_nil)))
      pss_nil)
      (pss_one (ps_expr (pe_bm PySem.F.plainAttrs_list PySem.F.slot_list_append PySem.F.type_list_append mt_append (pv 1) (pa_cons (pe_tup (pa_cons (pe_ix (ixL K) (pv 6) pe_int (fun _ _ => rfl)) (pa_cons (pe_ix (ixL K) (pv 6) pe_int (fun _ _ => rfl)) pa_nil))) pa_nil))))))))
      (pss_one (ps_ret (pe_ifExp (pt_cmpR (op_eqD hr.units) (pe_c c_law_least hr (by decide) rfl (pa_cons (pv 1) pa_nil)) (pv 1) (nomark _)) (pv 1) (pe_lst pa_nil)))))), ?_⟩
    have hsp := split_tl x (Str.ofString ",") (by rw [tl_comma]; simp) (Nat.le_refl _)
    rw [tl_comma] at hsp
    obtain ⟨ps, eps⟩ : ∃ ps, ps = Txt.split x (Str.ofString ",") := ⟨_, rfl⟩
    rw [← eps] at hsp
    have hne : ps ≠ [] := fun z => by rw [z] at hsp; exact spl_ne _ _ _ _ hsp.symm
    have hjoin := joinL_len [44] (l := ps.map tl) (fun z => hne (List.map_eq_nil_iff.mp z))
    rw [hsp, join_spl0 (by simp)] at hjoin
    have hjoin : (tl x).length + 1 = ((spl [44] 0 [] (tl x)).map fun p => p.length + 1).sum := hjoin
    have hpl : ps.length ≤ 16001 := by
      have h1 : ps.length ≤ ((spl [44] 0 [] (tl x)).map fun p => p.length + 1).sum := by
        rw [← hsp]
        clear hjoin hsp hne eps
        induction ps with
        | nil => exact Nat.zero_le _
        | cons a l ih => rw [List.map_cons, List.map_cons, List.sum_cons, List.length_cons]; omega
      rw [str_len] at hl
      omega
    have hpiece : ∀ t ∈ ps, t.length ≤ 16000 := fun t ht => by
      have h1 : t.length + 1 ≤ ((spl [44] 0 [] (tl x)).map fun p => p.length + 1).sum := by
        rw [← hsp]
        clear hjoin hsp hne eps hpl
        induction ps with
        | nil => simp at ht
        | cons a l ih =>
          rw [List.map_cons, List.map_cons, List.sum_cons]
          rcases List.mem_cons.mp ht with z | z
          · rw [z, str_len]; omega
          · have := ih z; omega
      rw [str_len] at hl
      omega
    refine ⟨size_le (by show 0 ≤ _; omega), fun rl hrl => ?_⟩
    have s1 := Same.new (o := .lst []) hrl
    refine ⟨_, rfl, ⟨_, rfl⟩, x, Str.ofString ",", rfl, rfl, by decide +kernel, by rw [sizeLine_eq]; omega, fun l1 hl1n => ?_⟩
    rw [← eps]
    have s2 := Same.new (o := .lst (ps.map V.str)) hl1n
    have a1 : upd (upd H rl (.lst [])) l1 (.lst (ps.map V.str)) l1 = some (.lst (ps.map V.str)) := upd_same
    have ar : upd (upd H rl (.lst [])) l1 (.lst (ps.map V.str)) rl = some (.lst []) := s2 _ _ upd_same
    have nlr : l1 ≠ rl := by intro e; rw [e, upd_same] at hl1n; cases hl1n
    have s12 := s1.trans s2
    obtain ⟨H1, e1⟩ : ∃ H1, H1 = upd (upd H rl (.lst [])) l1 (.lst (ps.map V.str)) := ⟨_, rfl⟩
    rw [← e1] at s12 a1 ar ⊢
    refine ⟨l1, rfl, ⟨_, SqL.of a1⟩, ?_⟩
    refine for_it walk_list (fun i σ H' => L2.Same H H' ∧ H' l1 = some (.lst (ps.map V.str)) ∧ ∃ (v2 v3 v4 v5 v6 : Option V) (ts : List Addr) (row : Row), σ = [some (.str x), some (.ref rl), v2, v3, v4, v5, v6] ∧ H' rl = some (.lst (ts.map V.ref)) ∧ Paired (PrAt H') ts row ∧ Asc row ∧ ((ps.take i).map tl).mapM readC = some row ∧ row.length = i)
      ⟨s12, a1, none, none, none, none, none, [], [], rfl, ar, .nil, List.Pairwise.nil, rfl, rfl⟩ (fun i σ H' _ h => SqL.of h.2.1) ?_ ?_
    · rintro i v σ H2 H3 hi ⟨s3, hl3, v2, v3, v4, v5, v6, ts, row, rfl, hrl3, hts, hasc, hmap, hrow⟩ ⟨rfl, hv⟩
      obtain ⟨t, ht, rfl⟩ := get_map_str hv
      have htz := hpiece t (List.mem_of_getElem? ht)
      have hil : i < ps.length := (List.getElem?_eq_some_iff.mp ht).1
      have hsplit : spl [44] 0 [] (tl x) = (ps.take i).map tl ++ tl t :: (ps.drop (i + 1)).map tl := by
        rw [← hsp]
        have e : ps = ps.take i ++ t :: ps.drop (i + 1) := by
          obtain ⟨h1, h2⟩ := List.getElem?_eq_some_iff.mp ht
          conv => lhs; rw [← List.take_append_drop i ps]
          rw [List.drop_eq_getElem_cons h1, h2]
        conv => lhs; rw [e]
        rw [List.map_append, List.map_cons]
      have gone : rdL (tl x) = none → ∀ H', L2.Same H H' → ∀ p, H' p = none → Q (.ref p) (upd H' p (.lst [])) := fun e H' s' p hp => by
        refine k p _ (Same.step s' hp) (s'.free hp) ⟨[], upd_same, ?_⟩
        rw [e]
        exact .nil
      -- place, sign, value = cell.partition(':')
      obtain ⟨p1, p2, p3, p4⟩ := part_tl t (Str.ofString ":") tl_colon
      refine ⟨_, rfl, ⟨_, rfl⟩, t, Str.ofString ":", rfl, rfl, by decide +kernel, size_le (by omega), fun q1 hq1 => ?_⟩
      obtain ⟨a, ea⟩ : ∃ a, a = (Txt.partition t (Str.ofString ":")).1 := ⟨_, rfl⟩
      obtain ⟨b, eb⟩ : ∃ a, a = (Txt.partition t (Str.ofString ":")).2.1 := ⟨_, rfl⟩
      obtain ⟨c, ec⟩ : ∃ a, a = (Txt.partition t (Str.ofString ":")).2.2 := ⟨_, rfl⟩
      rw [← ea, ← eb, ← ec]
      rw [← ea] at p1
      rw [← eb] at p2 p3
      rw [← ec] at p4
      have s4 := Same.new (o := .tup [.str a, .str b, .str c]) hq1
      refine ⟨q1, _, rfl, SqT.of upd_same, rfl, _, _, rfl, _, _, rfl, _, _, rfl, rfl, ?_⟩
      have hal : a.length ≤ 16000 := by rw [str_len, p1]; have := bef_len 58 (tl t); rw [str_len] at htz; omega
      have hcl : c.length ≤ 16000 := by rw [str_len, p4]; have := aft_len 58 (tl t); rw [str_len] at htz; omega
      -- found = number(place) + number(value)
      refine ⟨_, rfl, a, rfl, by omega, fun n1 H4 s5 hn1 hna => ?_⟩
      refine ⟨_, rfl, c, rfl, by omega, fun n2 H5 s6 hn2 hnc => ?_⟩
      rw [optV_map, p1] at hna
      rw [optV_map, p4] at hnc
      have z1 : ((readI (bef 58 (tl t))).toList).length ≤ 1 := by cases readI (bef 58 (tl t)) <;> simp
      have z2 : ((readI (aft 58 (tl t))).toList).length ≤ 1 := by cases readI (aft 58 (tl t)) <;> simp
      refine ⟨n1, n2, _, _, rfl, rfl, s6 _ _ hna, hnc, by rw [List.length_map, List.length_map]; exact size_le (by omega), fun n3 hn3 => ?_⟩
      rw [← List.map_append]
      obtain ⟨fs, efs⟩ : ∃ fs, fs = (readI (bef 58 (tl t))).toList ++ (readI (aft 58 (tl t))).toList := ⟨_, rfl⟩
      rw [← efs]
      have s7 := Same.new (o := .lst (fs.map V.int)) hn3
      have a7 : upd H5 n3 (.lst (fs.map V.int)) n3 = some (.lst (fs.map V.int)) := upd_same
      have s47 := s4.trans (s5.trans (s6.trans s7))
      obtain ⟨H6, e6⟩ : ∃ H6, H6 = upd H5 n3 (.lst (fs.map V.int)) := ⟨_, rfl⟩
      rw [← e6] at s47 a7 ⊢
      have sH6 := s3.trans s47
      have hrl6 := s47 _ _ hrl3
      have hts6 := prs_same s47 hts
      -- the tests
      refine ⟨_, rfl, rfl, _, rfl, ite_b (fun cc => ?_) (fun cc => ?_)⟩
      · have e : b = Str.empty := ext_tl (str_eq.mp (of_decide_eq_true cc))
        have hn := p3.mp e
        have hc : readC (tl t) = none := by unfold readC; rw [if_neg hn]
        exact iteT ⟨size_le (by show 0 ≤ _; omega), gone (rdL_none hsplit hmap (.inl hc)) H6 sH6⟩
      have hmem : 58 ∈ tl t := Classical.byContradiction fun z => by
        have := p3.mpr z
        rw [this] at cc
        exact of_decide_eq_false cc rfl
      refine ⟨_, rfl, n3, _, rfl, .inl (SqL.of a7), _, _, rfl, rfl, _, rfl, ite_b (fun c2 => ?_) (fun c2 => ?_)⟩
      · have c2 := of_decide_eq_true c2
        rw [List.length_map, efs, List.length_append] at c2
        have hc : readC (tl t) = none := by
          unfold readC
          rw [if_pos hmem]
          cases h1 : readI (bef 58 (tl t)) with
          | none => rfl
          | some n =>
            cases h2 : readI (aft 58 (tl t)) with
            | none => rfl
            | some m =>
              rw [h1, h2] at c2
              simp at c2
        exact iteT ⟨size_le (by show 0 ≤ _; omega), gone (rdL_none hsplit hmap (.inl hc)) H6 sH6⟩
      have c2 := of_decide_eq_false c2
      rw [List.length_map, efs, List.length_append] at c2
      obtain ⟨n, m, h1, h2⟩ : ∃ n m, readI (bef 58 (tl t)) = some n ∧ readI (aft 58 (tl t)) = some m := by
        cases h1 : readI (bef 58 (tl t)) with
        | none => rw [h1] at c2; simp only [Option.toList_none, List.length_nil] at c2; omega
        | some n =>
          cases h2 : readI (aft 58 (tl t)) with
          | none => rw [h2] at c2; simp only [Option.toList_none, List.length_nil] at c2; omega
          | some m => exact ⟨n, m, rfl, rfl⟩
      rw [h1, h2] at efs
      have efs : fs = [n, m] := efs
      subst efs
      have hc : readC (tl t) = some (n, m) := by
        unfold readC
        rw [if_pos hmem, h1, h2]
      have hmap2 : ((ps.take (i + 1)).map tl).mapM readC = some (row ++ [(n, m)]) := by
        rw [take_succ_get ht, List.map_append]
        refine (mapM_app readC _ _ _).mpr ⟨row, [(n, m)], hmap, ?_, rfl⟩
        show ([tl t] : List (List Nat)).mapM readC = _
        rw [List.mapM_cons, hc]
        rfl
      refine ⟨_, rfl, size_le (by show 0 ≤ _; omega), fun q2 hq2 => ?_⟩
      have s8 := Same.new (o := .lst []) hq2
      have sH7 := sH6.trans s8
      have hrow7 : RowAt (upd H6 q2 (.lst [])) rl row := ⟨ts, s8 _ _ hrl6, prs_same s8 hts6⟩
      have hrl7 := s8 _ _ hrl6
      have a78 := s8 _ _ a7
      have hl7 := s8 _ _ (s47 _ _ hl3)
      -- the append
      refine ⟨rowD row, .list [], dp_row hrow7, dp_nil upd_same, shaped_row _, rfl, _, rfl, ite_b (fun c3 => ?_) (fun c3 => ?_)⟩
      · have c3 : row ≠ [] := fun z => by
          have h := eqv_row row []
          rw [rowD_nil] at h
          rw [h, decide_eq_true z] at c3
          cases c3
        obtain ⟨r0, z, rfl⟩ : ∃ r0 z, row = r0 ++ [z] := ⟨row.dropLast, row.getLast c3, (List.dropLast_concat_getLast c3).symm⟩
        obtain ⟨u, hu, huz⟩ := paired_get' hts6 (i := r0.length) (b := z) (by rw [List.getElem?_append_right (Nat.le_refl _), Nat.sub_self]; rfl)
        have htl := paired_len hts6
        have hrz2 : (r0 ++ [z]).length = r0.length + 1 := by rw [List.length_append]; rfl
        rw [List.length_append, List.length_singleton] at htl
        have hat : atI (ts.map V.ref) (-1) = some (.ref u) := by
          unfold atI
          rw [List.length_map, htl, ixN_last]
          show (ts.map V.ref)[r0.length]? = _
          rw [List.getElem?_map, hu]
          rfl
        refine ⟨_, rfl, n3, _, 0, _, rfl, rfl, SqL.of a78, atI_get (i := 0) rfl, _, rfl, _, rfl, rl, _, -1, _, rfl, rfl, SqL.of hrl7, hat, u, _, 0, _, rfl, rfl, SqT.of (huz.same s8), atI_get (i := 0) rfl, _, _, rfl, rfl, _, rfl, ite_b (fun c4 => ?_) (fun c4 => ?_)⟩
        · have c4 := of_decide_eq_true c4
          exact ⟨size_le (by show 0 ≤ _; omega), gone (rdL_none hsplit hmap (.inr ⟨(n, m), hc, z, by simp, c4⟩)) _ sH7⟩
        · have c4 := of_decide_eq_false c4
          refine ⟨_, rfl, .inl ⟨rfl, _, SqL.of hrl7⟩, _, rfl, n3, _, 0, _, rfl, rfl, SqL.of a78, atI_get (i := 0) rfl, _, rfl, n3, _, 1, _, rfl, rfl, SqL.of a78, atI_get (i := 1) rfl, size_le (by show 2 ≤ _; omega), fun e he => ?_⟩
          have s9 := Same.new (o := .tup [.int n, .int m]) he
          refine ⟨rl, _, _, rfl, rfl, s9 _ _ hrl7, by rw [List.length_map]; exact size_lt (by omega), ?_⟩
          refine ⟨Same.mut (sH7.trans s9) hrl, by rw [upd_ne nlr]; exact s9 _ _ hl7, _, _, _, _, _, ts ++ [e], (r0 ++ [z]) ++ [(n, m)], rfl, ?_, ?_, ?_, hmap2, by rw [List.length_append, hrow]; rfl⟩
          · rw [upd_same, List.map_append (l₁ := ts)]
            rfl
          · exact prs_but (s9 _ _ hrl7) (fun a o hne h => by rw [upd_ne hne]; exact h) (paired_snoc (prs_same s9 (prs_same s8 hts6)) upd_same)
          · refine List.pairwise_append.mpr ⟨hasc, List.pairwise_singleton _ _, fun y hy y2 hy2 => ?_⟩
            rw [List.mem_singleton.mp hy2]
            show y.1 < n
            rcases List.mem_append.mp hy with h | h
            · have := (List.pairwise_append.mp hasc).2.2 y h z (List.mem_singleton.mpr rfl)
              omega
            · rw [List.mem_singleton.mp h]
              omega
      · have c3 : row = [] := by
          have h := eqv_row row []
          rw [rowD_nil] at h
          rw [h] at c3
          have c3 : decide (row = []) = true := by simpa using c3
          exact of_decide_eq_true c3
        subst c3
        have hts0 : ts = [] := List.length_eq_zero_iff.mp (paired_len hts6)
        subst hts0
        refine ⟨_, rfl, .inl ⟨rfl, _, SqL.of hrl7⟩, _, rfl, n3, _, 0, _, rfl, rfl, SqL.of a78, atI_get (i := 0) rfl, _, rfl, n3, _, 1, _, rfl, rfl, SqL.of a78, atI_get (i := 1) rfl, size_le (by show 2 ≤ _; omega), fun e he => ?_⟩
        have s9 := Same.new (o := .tup [.int n, .int m]) he
        refine ⟨rl, _, _, rfl, rfl, s9 _ _ hrl7, size_lt (by show 0 ≤ _; omega), ?_⟩
        refine ⟨Same.mut (sH7.trans s9) hrl, by rw [upd_ne nlr]; exact s9 _ _ hl7, _, _, _, _, _, [e], [(n, m)], rfl, ?_, ?_, List.pairwise_singleton _ _, hmap2, by rw [← hrow]; rfl⟩
        · rw [upd_same]
          rfl
        · refine .cons ?_ .nil
          show upd _ rl _ e = _
          rw [upd_ne (ne_of_none hrl7 he).symm, upd_same]
    · rintro σ H2 ⟨s3, hl3, v2, v3, v4, v5, v6, ts, row, rfl, hrl3, hts, hasc, hmap, hrow⟩
      rw [List.take_of_length_le (by rw [List.length_map]; omega), hsp] at hmap
      have hrn : row ≠ [] := fun z => by
        rw [z, List.length_map] at hrow
        exact hne (List.length_eq_zero_iff.mp hrow.symm)
      have hrz : row.length ≤ 16001 := by rw [hrow, List.length_map]; exact hpl
      have hrl : rdL (tl x) = if Asc row ∧ leastS row = row then some row else none := by
        unfold rdL readCs
        rw [hmap]
      have hlo : leastOf row = leastS row := by unfold leastOf; rw [sortA_self hasc]
      have hrowA : RowAt H2 rl row := ⟨ts, hrl3, hts⟩
      -- return row if least(row) == row else []
      refine ⟨_, rfl, rl, row, rfl, hrowA, hrn, asc_nodup hasc, by omega, fun g H3 s4 hg hgr => ?_⟩
      have s5 := s3.trans s4
      refine ⟨_, rfl, rowD (leastOf row), rowD row, dp_row hgr, dp_row (hrowA.same s4), shaped_row _, shaped_row _, _, rfl, ite_b (fun c => ?_) (fun c => ?_)⟩
      · rw [eqv_row] at c
        have c := of_decide_eq_true c
        rw [hlo] at c
        refine ⟨_, rfl, k rl H3 s5 (by assumption) ?_⟩
        rw [hrl, if_pos ⟨hasc, c⟩]
        exact hrowA.same s4
      · rw [eqv_row] at c
        have c := of_decide_eq_false c
        rw [hlo] at c
        refine ⟨size_le (by show 0 ≤ _; omega), fun q hq => ?_⟩
        refine k q _ (Same.step s5 hq) (s5.free hq) ⟨[], upd_same, ?_⟩
        rw [hrl, if_neg (fun z => c z.2)]
        exact .nil
end
end A80
end
section
set_option Elab.async false
set_option maxRecDepth 100000
set_option maxHeartbeats 4000000
set_option autoImplicit false
namespace A80
open PySem PySem.Spec L2 PyProof.Rows TL
/-! ### _law_read_state -/
abbrev S_law_read_state : Stmt := topS 35
theorem sc_law_read_state : FnScope ["_law_text", "_law_known", "_law_last", "_law_piece", "_law_word", "_law_gap", "_law_rest", "_law_name", "_law_sign", "_law_shown", "_law_many", "_law_role", "_law_found", "_law_store"] ["_law_text"] (defScope S_law_read_state) := ⟨rfl, rfl, rfl, by decide +kernel, rfl, by decide +kernel, by decide +kernel⟩
theorem parse_failL {x t : List Nat} (ht : t ∈ piecesOf x) (hp : parseE rdL t = none) : ¬ ∃ c, WFC c ∧ x = showS c := by
  rintro ⟨c, hc, rfl⟩
  rw [pieces_show hc.sh] at ht
  obtain ⟨e, he, rfl⟩ := List.mem_map.mp ht
  have := (parseL (showE e) e).mpr ⟨rfl, hc.1 e he⟩
  rw [this] at hp
  cases hp
theorem prefix_bad {x : List Nat} {A : List En} {e a : En} {B : List (List Nat)} (hp : piecesOf x = A.map showE ++ showE e :: B) (hA : ∀ a ∈ A, shE a) (he : shE e) (ha : a ∈ A) (hbad : ¬ kLt a.key e.key) : ¬ ∃ c, WFC c ∧ x = showS c := by
  rintro ⟨c, hc, rfl⟩
  have hsh := hc.sh
  rw [pieces_show hsh] at hp
  obtain ⟨c1, c2, rfl, h1, h2⟩ := List.map_eq_append_iff.mp hp
  have e1 : c1 = A := map_inj_on (fun x y hx hy q => showE_inj x y hx hy q) (fun a ha => hsh a (List.mem_append_left _ ha)) hA h1
  subst e1
  cases c2 with
  | nil => cases h2
  | cons e' c3 =>
    rw [List.map_cons] at h2
    injection h2 with h3 _
    have e2 : e' = e := showE_inj e' e (hsh e' (List.mem_append_right _ List.mem_cons_self)) he h3
    subst e2
    exact hbad ((List.pairwise_append.mp hc.2).2.2 a ha e' List.mem_cons_self)
structure RlSt (H H' : Hp) (kl kp kv ka : Addr) (es : List En) : Prop where
  s : Same H H'
  k : H' kl = some (.lst [.ref kp, .ref kv, .ref ka])
  p : DiI H' kp (dP es)
  v : DiI H' kv (dN es)
  a : DiR H' ka (dA es)
section
variable {H H' H'' : Hp} {kl kp kv ka : Addr} {es : List En}
theorem RlSt.more (e : Same H' H'') (h : RlSt H H' kl kp kv ka es) : RlSt H H'' kl kp kv ka es := ⟨h.s.trans e, e _ _ h.k, h.p.same e, h.v.same e, h.a.same e⟩
theorem RlSt.putP (r : Rk H kl kp kv ka) (h : RlSt H H' kl kp kv ka es) (nm : Str) (n : Int) : RlSt H (upd H' kp (.dK (putK (kvOf V.int (dP es)) (.inr nm) (.int n)))) kl kp kv ka (es ++ [.pl nm n]) := by
  refine ⟨Same.mut h.s r.fp, by rw [upd_ne r.n1]; exact h.k, ?_, ?_, ?_⟩
  · rw [dP_snoc]; exact DiI.put nm n
  · rw [dN_snoc]; exact DiI.keep Keep.lock r.n4.symm h.v
  · rw [dA_snoc]; exact DiR.keep Keep.lock h.p r.n5.symm h.a
theorem RlSt.putV (r : Rk H kl kp kv ka) (h : RlSt H H' kl kp kv ka es) (nm : Str) (n : Int) : RlSt H (upd H' kv (.dK (putK (kvOf V.int (dN es)) (.inr nm) (.int n)))) kl kp kv ka (es ++ [.va nm n]) := by
  refine ⟨Same.mut h.s r.fv, by rw [upd_ne r.n2]; exact h.k, ?_, ?_, ?_⟩
  · rw [dP_snoc]; exact DiI.keep Keep.lock r.n4 h.p
  · rw [dN_snoc]; exact DiI.put nm n
  · rw [dA_snoc]; exact DiR.keep Keep.lock h.v r.n6.symm h.a
theorem RlSt.putA {rs : Al Addr} {l : Addr} {row : Row} (r : Rk H kl kp kv ka) (h : RlSt H H' kl kp kv ka es) (nm : Str) (h1 : H' ka = some (.dK (kvOf V.ref rs))) (h2 : Paired (fun a b => a.1 = b.1 ∧ RowAt H' a.2 b.2) rs (dA es)) (hl : RowAt H' l row) :
    RlSt H (upd H' ka (.dK (putK (kvOf V.ref rs) (.inr nm) (.ref l)))) kl kp kv ka (es ++ [.ar nm row]) := by
  refine ⟨Same.mut h.s r.fa, by rw [upd_ne r.n3]; exact h.k, ?_, ?_, ?_⟩
  · rw [dP_snoc]; exact DiI.keep Keep.lock r.n5 h.p
  · rw [dN_snoc]; exact DiI.keep Keep.lock r.n6 h.v
  · rw [dA_snoc]; exact DiR.put h1 h2 hl
end
abbrev w3 : List Str := [Str.ofString "place", Str.ofString "value", Str.ofString "array"]
theorem eqV_str (x y : Str) : eqV (.str x) (.str y) = decide (x = y) := by
  rw [Bool.eq_iff_iff, decide_eq_true_eq]
  show (x == y) = true ↔ _
  exact beq_iff_eq
theorem inV_w3 (x : Str) : inV (.str x) (w3.map V.str) = decide (x ∈ w3) := by
  show (eqV (.str (Str.ofString "place")) (.str x) || (eqV (.str (Str.ofString "value")) (.str x) || (eqV (.str (Str.ofString "array")) (.str x) || false))) = _
  rw [eqV_str, eqV_str, eqV_str, Bool.eq_iff_iff]
  simp only [Bool.or_false, Bool.or_eq_true, decide_eq_true_eq, List.mem_cons, List.not_mem_nil, or_false]
  constructor
  · rintro (h | h | h)
    · exact .inl h.symm
    · exact .inr (.inl h.symm)
    · exact .inr (.inr h.symm)
  · rintro (h | h | h)
    · exact .inl h.symm
    · exact .inr (.inl h.symm)
    · exact .inr (.inr h.symm)
/-- what the last key says -/
def LastOk (es : List En) (r : Nat) (ls : Str) : Prop := ((es = [] ∧ r = 0 ∧ tl ls = []) ∨ ∃ a ∈ es, a.key = (r, tl ls)) ∧ ∀ a ∈ es, a.key = (r, tl ls) ∨ kLt a.key (r, tl ls)
theorem LastOk.next {es : List En} {r j : Nat} {ls nm : Str} {e : En} (h : LastOk es r ls) (hk : e.key = (j, tl nm)) (hle : leIS (j : Int) (r : Int) nm ls = false) (hp : es.Pairwise fun a b => kLt a.key b.key) :
    LastOk (es ++ [e]) j nm ∧ (es ++ [e]).Pairwise fun a b => kLt a.key b.key := by
  have hlt := leIS_false hle
  have all : ∀ a ∈ es, kLt a.key e.key := fun a ha => by
    rw [hk]
    rcases h.2 a ha with z | z
    · rw [z]; exact hlt
    · exact kLt_trans z hlt
  refine ⟨⟨.inr ⟨e, List.mem_append_right _ (List.mem_singleton.mpr rfl), hk⟩, fun a ha => ?_⟩, List.pairwise_append.mpr ⟨hp, List.pairwise_singleton _ _, fun a ha b hb => by rw [List.mem_singleton.mp hb]; exact all a ha⟩⟩
  rcases List.mem_append.mp ha with z | z
  · right
    rw [← hk]
    exact all a z
  · left
    rw [List.mem_singleton.mp z, hk]
theorem LastOk.stop {x : List Nat} {es : List En} {r j : Nat} {ls nm : Str} {e : En} {B : List (List Nat)} (h : LastOk es r ls) (hk : e.key = (j, tl nm)) (hn : tl nm ≠ []) (hle : leIS (j : Int) (r : Int) nm ls = true) (hp : piecesOf x = es.map showE ++ showE e :: B) (hsh : ∀ a ∈ es, shE a) (he : shE e) : ¬ ∃ c, WFC c ∧ x = showS c := by
  have hlt := leIS_true hle
  rcases h.1 with ⟨_, h1, h2⟩ | ⟨a, ha, hak⟩
  · exfalso
    apply hlt
    rw [h1, h2]
    by_cases j0 : j = 0
    · refine .inr ⟨j0.symm, ?_⟩
      cases q : tl nm with
      | nil => exact absurd q hn
      | cons c r => exact List.nil_lt_cons c r
    · exact .inl (show 0 < j by omega)
  · exact prefix_bad hp hsh he ha (by rw [hak, hk]; exact hlt)
def spLState : Sp := fun vs H Q _ => ∃ x : Str, vs = [.str x] ∧ x.length ≤ 16000 ∧
  (∀ c, WFC c → tl x = showS c → ∀ (p kl d0 d1 d2 : Addr) (H' : Hp), Same H H' → H p = none → H' p = some (.lst [.ref kl]) → H' kl = some (.lst [.ref d0, .ref d1, .ref d2]) → DiI H' d0 (plsOf c) → DiI H' d1 (vasOf c) → DiR H' d2 (arsOf c) → Q (.ref p) H') ∧
  ((¬ ∃ c, WFC c ∧ tl x = showS c) → ∀ (p : Addr) (H' : Hp), Same H H' → H p = none → H' p = some (.lst []) → Q (.ref p) H')
theorem eqv_one_nil (d : PyData) : PyData.eqv (.list [d]) (.list []) = false := rfl
theorem eqv_one_row (row : Row) : PyData.eqv (.list [rowD row]) (.list [.list []]) = decide (row = []) := by
  have h := eqv_row row []
  rw [rowD_nil] at h
  show (PyData.eqv (rowD row) (.list []) && PyData.eqvAll [] []) = _
  rw [h]
  exact Bool.and_true _
theorem eqv_int_nil2 (n : Int) : PyData.eqv (intsD [n]) (.list [.list []]) = false := rfl
theorem shaped_one (row : Row) : SeqAt.shaped (.list [rowD row]) = true := by
  obtain ⟨a, b⟩ := pairs_shaped row
  have e1 : PyData.canLay0 (.list [rowD row]) = (PyData.canLayAll0 (row.map pairD) && true) := rfl
  have e2 : PyData.depth (.list [rowD row]) = max (PyData.depthAll (row.map pairD) + 1) 0 + 1 := rfl
  unfold SeqAt.shaped
  rw [e1, e2, a, decide_eq_true (by omega)]
  rfl
end A80
end
section
set_option Elab.async false
set_option maxRecDepth 100000
set_option maxHeartbeats 4000000
set_option autoImplicit false
namespace A80
open PySem PySem.Spec L2 PyProof.Rows TL
theorem w3_at {x : Str} (h : x ∈ w3) : ∃ j : Nat, j < 3 ∧ w3[j]? = some x ∧ (∀ m, m < j → w3[m]? ≠ some x) ∧ tl x = wordL j := by
  simp only [List.mem_cons, List.not_mem_nil, or_false] at h
  rcases h with rfl | rfl | rfl
  · exact ⟨0, by omega, rfl, fun m h => by omega, tl_w0⟩
  · refine ⟨1, by omega, rfl, fun m h => ?_, tl_w1⟩
    have : m = 0 := by omega
    subst this
    intro z
    injection z with z
    exact w_ne1 z
  · refine ⟨2, by omega, rfl, fun m h => ?_, tl_w2⟩
    have : m = 0 ∨ m = 1 := by omega
    rcases this with rfl | rfl
    · intro z
      injection z with z
      exact w_ne2 z
    · intro z
      injection z with z
      exact w_ne3 z
theorem w3_not {x : Str} (h : x ∉ w3) : tl x ≠ wordL 0 ∧ tl x ≠ wordL 1 ∧ tl x ≠ wordL 2 := by
  refine ⟨fun z => h ?_, fun z => h ?_, fun z => h ?_⟩
  · rw [← tl_w0] at z; rw [ext_tl z]; simp
  · rw [← tl_w1] at z; rw [ext_tl z]; simp
  · rw [← tl_w2] at z; rw [ext_tl z]; simp
theorem head_nm {t : List Nat} (h1 : headN t ≠ 0) (h2 : headN t ≤ 6) (h3 : ¬ headN t < t.length) : okNm t = true := by
  have hle := headN_le t
  have e : headN t = t.length := by omega
  have ha := (headN_all t).mp e
  unfold okNm
  rw [ha, decide_eq_true (by intro z; exact h1 (by rw [z]; rfl)), decide_eq_true (by omega)]
  rfl
theorem head_no {t : List Nat} (h : headN t = 0 ∨ 6 < headN t ∨ headN t < t.length) : okNm t = false := by
  refine Bool.eq_false_iff.mpr fun z => ?_
  obtain ⟨a, b, c⟩ := okNm_iff.mp z
  have ha : t.all isLet = true := List.all_eq_true.mpr fun x hx => isLet_iff.mpr (c x hx)
  have e := (headN_all t).mpr ha
  have := List.length_pos_iff.mpr a
  omega
section
variable {P : Program} {w : World} {K : PySem.W.Frag} {mg : Str → Option Value} {base : Heap} {CS : Addr}
theorem cl_law_read_state (T : Tx K mg CS) (D : Df K mg "_law_read_state" S_law_read_state ["_law_text"]) (c_law_head : Cl P w K mg base 1 "_law_head" spHead) (c_law_number : Cl P w K mg base 1 "_law_number" spReadInt) (c_law_read_row : Cl P w K mg base 2 "_law_read_row" spLRow) :
    Cl P w K mg base 3 "_law_read_state" spLState := by
  have sc := sc_law_read_state
  refine cl_mk D sc (fun vs H Q E h => ?_) (fun f cdv A outer s H vs Q E hr h => ?_)
  · obtain ⟨x, rfl, _⟩ := h
    rfl
  · obtain ⟨x, rfl, hxl, kOk, kBad⟩ := h
    refine ⟨_, (pss_cons (ps_set (i := 1) sc.nd rfl (Or.inl rfl) (pe_lst (pa_cons pe_dnewK (pa_cons pe_dnewK (pa_cons pe_dnewK pa_nil)))))
      (pss_cons (ps_set (i := 2) sc.nd rfl (Or.inl rfl) (pe_tup (pa_cons pe_int (pa_cons pe_str pa_nil))))
      (pss_cons (ps_for PassesOwn.never rfl (piL K (pe_ifExp (pt_cmpR op_ne (pv 0) pe_str (nomark _)) (pe_split (pv 0) pe_str) (pe_lst pa_nil))) (pg_name (i := 3) sc.nd rfl (Or.inl rfl))
      (pss_cons (ps_asg (pe_partition (pv 3) pe_str) (pgT K (n := 3) rfl (pgs_cons (pg_name (i := 4) sc.nd rfl (Or.inl rfl)) (pgs_cons (pg_name (i := 5) sc.nd rfl (Or.inl rfl)) (pgs_cons (pg_name (i := 6) sc.nd rfl (Or.inl rfl)) pgs_nil)))))
      (pss_cons (ps_asg (pe_partition (pv 6) pe_str) (pgT K (n := 3) rfl (pgs_cons (pg_name (i := 7) sc.nd rfl (Or.inl rfl)) (pgs_cons (pg_name (i := 8) sc.nd rfl (Or.inl rfl)) (pgs_cons (pg_name (i := 9) sc.nd rfl (Or.inl rfl)) pgs_nil)))))
      (pss_cons (ps_set (i := 10) sc.nd rfl (Or.inl rfl) (pe_c c_law_head hr (by decide) rfl (pa_cons (pv 7) pa_nil)))
      (pss_cons (ps_if (PW.pt (pw_or (pt_cmpR (opNI K) (pv 4) (pe_tup (pa_cons pe_str (pa_cons pe_str (pa_cons pe_str pa_nil)))) rfl) (pw_or (pt_cmpR op_eq (pv 10) pe_int (nomark _)) (pw_or (pt_cmpR op_gt (pv 10) pe_int (nomark _)) (pw_or1 (pt_cmpR op_lt (pv 10) (pe_callB call_len_str (by rfl) T.b_len (by decide +kernel) (pa_cons (pv 7) pa_nil)) (nomark _)))))))
      (pss_one (ps_ret (pe_lst pa_nil)))
      pss_nil)
      (pss_cons (ps_set (i := 11) sc.nd rfl (Or.inl rfl) (pe_tupM PySem.F.slot_tuple_index PySem.F.type_tuple_index mt_tup_index (pa_cons pe_str (pa_cons pe_str (pa_cons pe_str pa_nil))) (pa_cons (pv 4) pa_nil)))
      (C8.pss_cut (ps_set (i := 12) sc.nd rfl (Or.inl rfl) (pe_ifExp (pt_cmpR op_eq (pv 11) pe_int (nomark _)) (pe_lst (pa_cons (pe_c c_law_read_row hr (by decide) rfl (pa_cons (pv 9) pa_nil)) pa_nil)) (pe_c c_law_number hr (by decide) rfl (pa_cons (pv 9) pa_nil))))
      (pss_cons (ps_if (PW.pt (pw_or (pt_cmpR (op_eqD hr.units) (pv 12) (pe_lst pa_nil) (nomark _)) (pw_or (pt_cmpR (op_eqD hr.units) (pv 12) (pe_lst (pa_cons (pe_lst pa_nil) pa_nil)) (nomark _)) (pw_or1 (pt_cmpR (op_leIS hr.units0) (pe_tup (pa_cons (pv 11) (pa_cons (pv 7) pa_nil))) (pv 2) (nomark _))))))
      (pss_one (ps_ret (pe_lst pa_nil)))
      pss_nil)
      (pss_cons (ps_set (i := 2) sc.nd rfl (Or.inl rfl) (pe_tup (pa_cons (pv 11) (pa_cons (pv 7) pa_nil))))
      (pss_cons (ps_set (i := 13) sc.nd rfl (Or.inl rfl) (pe_ix (ixL K) (pv 1) (pv 11) (fun _ _ => rfl)))
      (pss_one (ps_dput (hu_of hr) (pv 13) (pv 7) (pe_ix (ixL K) (pv 12) pe_int (fun _ _ => rfl)) rfl))))))))))))
      (pss_one (ps_ret (pe_lst (pa_cons (pv 1) pa_nil))))))), ?_⟩
    have hxt : (tl x).length ≤ 16000 := by rw [← str_len]; exact hxl
    -- known = [{}, {}, {}]
    refine fun kp hkp => ?_
    refine fun kv hkv => ?_
    refine fun ka hka => ?_
    refine ⟨size_le (by show 3 ≤ _; omega), fun kl hkl => ?_⟩
    have n4 : kp ≠ kv := ne_of_none upd_same hkv
    have n5 : kp ≠ ka := ne_of_none (Same.new hkv _ _ upd_same) hka
    have n6 : kv ≠ ka := ne_of_none upd_same hka
    have n1 : kp ≠ kl := ne_of_none (Same.new hka _ _ (Same.new hkv _ _ upd_same)) hkl
    have n2 : kv ≠ kl := ne_of_none (Same.new hka _ _ upd_same) hkl
    have n3 : ka ≠ kl := ne_of_none upd_same hkl
    have s1 : L2.Same H (upd H kp (.dK [])) := Same.new hkp
    have s2 := Same.step (o := .dK []) s1 hkv
    have s3 := Same.step (o := .dK []) s2 hka
    have s4 := Same.step (o := .lst [.ref kp, .ref kv, .ref ka]) s3 hkl
    have rk : Rk H kl kp kv ka := ⟨s3.free hkl, hkp, s1.free hkv, s2.free hka, n1.symm, n2.symm, n3.symm, n4, n5, n6⟩
    have st0 : RlSt H (upd (upd (upd (upd H kp (.dK [])) kv (.dK [])) ka (.dK [])) kl (.lst [.ref kp, .ref kv, .ref ka])) kl kp kv ka [] := by
      refine ⟨s4, upd_same, ?_, ?_, [], ?_, .nil⟩
      · show upd _ _ _ kp = _
        rw [upd_ne n1, upd_ne n5, upd_ne n4, upd_same]
        rfl
      · show upd _ _ _ kv = _
        rw [upd_ne n2, upd_ne n6, upd_same]
        rfl
      · rw [upd_ne n3, upd_same]
        rfl
    obtain ⟨H0, e0⟩ : ∃ H0, H0 = upd (upd (upd (upd H kp (.dK [])) kv (.dK [])) ka (.dK [])) kl (.lst [.ref kp, .ref kv, .ref ka]) := ⟨_, rfl⟩
    rw [← e0] at st0 ⊢
    clear e0 s1 s2 s3 s4
    -- last = (0, '')
    refine ⟨size_le (by show 2 ≤ _; omega), fun t0 ht0 => ?_⟩
    have st0 := st0.more (Same.new (o := .tup [.int 0, .str (Str.ofString "")]) ht0)
    have lt0 : upd H0 t0 (.tup [.int 0, .str (Str.ofString "")]) t0 = some (.tup [.int 0, .str (Str.ofString "")]) := upd_same
    obtain ⟨H1, e1⟩ : ∃ H1, H1 = upd H0 t0 (.tup [.int 0, .str (Str.ofString "")]) := ⟨_, rfl⟩
    rw [← e1] at st0 lt0 ⊢
    clear e1
    refine ⟨_, rfl, rfl, _, rfl, ite_b (fun c => ?_) (fun c => ?_)⟩
    case refine_2 =>
      have c : tl x = [] := by
        have c : (!decide (V.str x = V.str (Str.ofString ""))) = false := c
        have c : decide (V.str x = V.str (Str.ofString "")) = true := by simpa using c
        exact str_eq.mp (of_decide_eq_true c)
      refine ⟨size_le (by show 0 ≤ _; omega), fun l hl => ?_⟩
      have st1 := st0.more (Same.new (o := .lst []) hl)
      have hl1 : upd H1 l (.lst []) l = some (.lst []) := upd_same
      refine ⟨l, rfl, ⟨_, SqL.of hl1⟩, ?_⟩
      refine for_it walk_list (fun i σ H' => H' = upd H1 l (.lst []) ∧ σ = [some (.str x), some (.ref kl), some (.ref t0), none, none, none, none, none, none, none, none, none, none, none]) ⟨rfl, rfl⟩ (fun i σ H' _ h => by rw [h.1]; exact SqL.of hl1) ?_ ?_
      · intro i _ _ _ _ hi
        exact absurd hi (Nat.not_lt_zero i)
      · rintro σ H2 ⟨rfl, rfl⟩
        refine ⟨_, rfl, size_le (by show 1 ≤ _; omega), fun p hp => ?_⟩
        have st2 := st1.more (Same.new (o := .lst [.ref kl]) hp)
        exact kOk [] ⟨fun e he => by simp at he, List.Pairwise.nil⟩ (by rw [c]; rfl) p kl kp kv ka _ st2.s (st1.s.free hp) upd_same st2.k st2.p st2.v st2.a
    have c : tl x ≠ [] := fun z => by
      have c : (!decide (V.str x = V.str (Str.ofString ""))) = true := c
      rw [decide_eq_true (str_eq.mpr z)] at c
      cases c
    refine ⟨_, rfl, ⟨_, rfl⟩, x, Str.ofString "; ", rfl, rfl, by decide +kernel, by rw [sizeLine_eq]; omega, fun l hl => ?_⟩
    obtain ⟨ps, eps⟩ : ∃ ps, ps = Txt.split x (Str.ofString "; ") := ⟨_, rfl⟩
    have hps : ps.map tl = piecesOf (tl x) := by
      rw [eps, split_tl x (Str.ofString "; ") (by rw [tl_semi]; simp) (by decide +kernel), tl_semi]
      unfold piecesOf
      rw [if_neg c]
    rw [← eps]
    have sl := Same.new (o := .lst (ps.map V.str)) hl
    have st1 := st0.more sl
    have hl1 : upd H1 l (.lst (ps.map V.str)) l = some (.lst (ps.map V.str)) := upd_same
    have lt1 := sl _ _ lt0
    obtain ⟨H2, e2⟩ : ∃ H2, H2 = upd H1 l (.lst (ps.map V.str)) := ⟨_, rfl⟩
    rw [← e2] at st1 hl1 lt1 ⊢
    clear e2 sl
    obtain ⟨hpl, hpz⟩ := pieces_len (tl x)
    have hpl' : ps.length ≤ 16002 := by have := congrArg List.length hps; rw [List.length_map] at this; omega
    have nl : ∀ {a kvs}, H2 a = some (.dK kvs) → l ≠ a := fun {a kvs} h => ne_of hl1 h (by intro z; cases z)
    have nlp := nl st1.p
    have nlv := nl st1.v
    have nla : l ≠ ka := by obtain ⟨rs, h, _⟩ := st1.a; exact nl h
    refine ⟨l, rfl, ⟨_, SqL.of hl1⟩, ?_⟩
    refine for_it walk_list (fun i σ H' => ∃ (es : List En) (lt : Addr) (r : Nat) (ls : Str) (v3 v4 v5 v6 v7 v8 v9 v10 v11 v12 v13 : Option V), σ = [some (.str x), some (.ref kl), some (.ref lt), v3, v4, v5, v6, v7, v8, v9, v10, v11, v12, v13] ∧ RlSt H H' kl kp kv ka es ∧ H' l = some (.lst (ps.map V.str)) ∧ H' lt = some (.tup [.int (r : Nat), .str ls]) ∧
        (ps.take i).map tl = es.map showE ∧ (∀ e ∈ es, okEr okR e) ∧ LastOk es r ls ∧ es.Pairwise fun a b => kLt a.key b.key)
      ⟨[], t0, 0, Str.ofString "", none, none, none, none, none, none, none, none, none, none, none, rfl, st1, hl1, lt1, rfl, fun e he => by simp at he, ⟨.inl ⟨rfl, rfl, rfl⟩, fun a ha => by simp at ha⟩, List.Pairwise.nil⟩ (fun i σ H' _ ⟨_, _, _, _, _, _, _, _, _, _, _, _, _, _, _, _, _, h, _⟩ => SqL.of h) ?_ ?_
    · rintro i v σ H3 H4 hi ⟨es, lt, r, ls, v3, v4, v5, v6, v7, v8, v9, v10, v11, v12, v13, rfl, st, hll, hlt, hes, hok, hlast, hpw⟩ ⟨rfl, hv⟩
      obtain ⟨t, ht, rfl⟩ := get_map_str hv
      have htp : tl t ∈ piecesOf (tl x) := by rw [← hps]; exact List.mem_map.mpr ⟨t, List.mem_of_getElem? ht, rfl⟩
      have htz := hpz _ htp
      have htl : t.length ≤ 16000 := by rw [str_len]; omega
      have hes2 : (ps.take (i + 1)).map tl = es.map showE ++ [tl t] := by rw [take_succ_get ht, List.map_append, hes]; rfl
      have hel : es.length ≤ 16002 := by have := congrArg List.length hes; rw [List.length_map, List.length_map, List.length_take] at this; omega
      have hsplit : piecesOf (tl x) = es.map showE ++ tl t :: (ps.drop (i + 1)).map tl := by
        rw [← hps, ← hes]
        have e : ps = ps.take i ++ t :: ps.drop (i + 1) := by
          obtain ⟨h1, h2⟩ := List.getElem?_eq_some_iff.mp ht
          conv => lhs; rw [← List.take_append_drop i ps]
          rw [List.drop_eq_getElem_cons h1, h2]
        conv => lhs; rw [e]
        rw [List.map_append, List.map_cons]
      -- word, gap, rest = piece.partition(' ')
      obtain ⟨p1, p2, p3, p4⟩ := part_tl t (Str.ofString " ") tl_sp
      refine ⟨_, rfl, ⟨_, rfl⟩, t, Str.ofString " ", rfl, rfl, by decide +kernel, size_le (by omega), fun q1 hq1 => ?_⟩
      obtain ⟨word, ew⟩ : ∃ a, a = (Txt.partition t (Str.ofString " ")).1 := ⟨_, rfl⟩
      obtain ⟨gap, eg⟩ : ∃ a, a = (Txt.partition t (Str.ofString " ")).2.1 := ⟨_, rfl⟩
      obtain ⟨rest, er⟩ : ∃ a, a = (Txt.partition t (Str.ofString " ")).2.2 := ⟨_, rfl⟩
      rw [← ew, ← eg, ← er]
      rw [← ew] at p1
      rw [← er] at p4
      have t1 := Same.new (o := .tup [.str word, .str gap, .str rest]) hq1
      refine ⟨q1, _, rfl, SqT.of upd_same, rfl, _, _, rfl, _, _, rfl, _, _, rfl, rfl, ?_⟩
      have hrl : rest.length ≤ 16000 := by rw [str_len, p4]; exact Nat.le_trans (aft_len _ _) (by omega)
      -- name, sign, shown = rest.partition('=')
      obtain ⟨r1, r2, r3, r4⟩ := part_tl rest (Str.ofString "=") tl_eqs
      refine ⟨_, rfl, ⟨_, rfl⟩, rest, Str.ofString "=", rfl, rfl, by decide +kernel, size_le (by omega), fun q2 hq2 => ?_⟩
      obtain ⟨nm, en⟩ : ∃ a, a = (Txt.partition rest (Str.ofString "=")).1 := ⟨_, rfl⟩
      obtain ⟨sign, es'⟩ : ∃ a, a = (Txt.partition rest (Str.ofString "=")).2.1 := ⟨_, rfl⟩
      obtain ⟨sh, esh⟩ : ∃ a, a = (Txt.partition rest (Str.ofString "=")).2.2 := ⟨_, rfl⟩
      rw [← en, ← es', ← esh]
      rw [← en, p4] at r1
      rw [← esh, p4] at r4
      have t2 := Same.step (o := .tup [.str nm, .str sign, .str sh]) t1 hq2
      refine ⟨q2, _, rfl, SqT.of upd_same, rfl, _, _, rfl, _, _, rfl, _, _, rfl, rfl, ?_⟩
      have hnl : nm.length ≤ 16000 := by rw [str_len, r1]; exact Nat.le_trans (bef_len _ _) (Nat.le_trans (aft_len _ _) (by omega))
      have hsl : sh.length ≤ 16000 := by rw [str_len, r4]; exact Nat.le_trans (aft_len _ _) (Nat.le_trans (aft_len _ _) (by omega))
      obtain ⟨H5, e5⟩ : ∃ H5, H5 = upd (upd H4 q1 (.tup [.str word, .str gap, .str rest])) q2 (.tup [.str nm, .str sign, .str sh]) := ⟨_, rfl⟩
      rw [← e5] at t2 ⊢
      -- many = head(name)
      refine ⟨_, rfl, nm, rfl, by omega, ?_⟩
      -- the tests of word and name
      refine ⟨_, rfl, size_le (by show 3 ≤ _; omega), fun q3 hq3 => ?_⟩
      have t3 := Same.step (o := .tup (w3.map V.str)) t2 hq3
      have a3 : upd H5 q3 (.tup (w3.map V.str)) q3 = some (.tup (w3.map V.str)) := upd_same
      obtain ⟨H6, e6⟩ : ∃ H6, H6 = upd H5 q3 (.tup (w3.map V.str)) := ⟨_, rfl⟩
      have st6 : RlSt H H6 kl kp kv ka es := by rw [e6]; exact st.more t3
      have hl6 : H6 l = some (.lst (ps.map V.str)) := by rw [e6]; exact t3 _ _ hll
      have hlt6 : H6 lt = some (.tup [.int (r : Nat), .str ls]) := by rw [e6]; exact t3 _ _ hlt
      have goal6 : ∀ {G : Hp → Prop}, G H6 → G (upd H5 q3 (.tup [.str (Str.ofString "place"), .str (Str.ofString "value"), .str (Str.ofString "array")])) := fun {G} h => by rw [e6] at h; exact h
      have a6 : H6 q3 = some (.tup (w3.map V.str)) := by rw [e6]; exact a3
      refine goal6 ?_
      clear goal6 e6 a3
      have bad : parseE rdL (tl t) = none → ∀ H', L2.Same H H' → ∀ p, H' p = none → Q (.ref p) (upd H' p (.lst [])) := fun hp H' s' p hp' => kBad (parse_failL htp hp) p _ (Same.step s' hp') (s'.free hp') upd_same
      have bad2 : (¬ ∃ c, WFC c ∧ tl x = showS c) → ∀ H', L2.Same H H' → ∀ p, H' p = none → Q (.ref p) (upd H' p (.lst [])) := fun hp H' s' p hp' => kBad hp p _ (Same.step s' hp') (s'.free hp') upd_same
      refine ⟨q3, w3.map V.str, rfl, .inr (SqT.of a6), rfl, rfl, _, rfl, ite_b (fun c1 => ?_) (fun c1 => ?_)⟩
      · have c1 : word ∉ w3 := by
          have c1 : (!inV (.str word) (w3.map V.str)) = true := c1
          rw [inV_w3] at c1
          simpa using c1
        have hw := w3_not c1
        rw [p1] at hw
        exact iteT ⟨size_le (by show 0 ≤ _; omega), bad (parse_bad r1 (.inr hw)) H6 st6.s⟩
      have c1 : word ∈ w3 := by
        have c1 : (!inV (.str word) (w3.map V.str)) = false := c1
        rw [inV_w3] at c1
        exact Classical.byContradiction fun z => by rw [decide_eq_false z] at c1; cases c1
      refine ⟨_, rfl, rfl, _, rfl, ite_b (fun c2 => ?_) (fun c2 => ?_)⟩
      · have c2 : headN (tl nm) = 0 := by have := int_eq.mp (of_decide_eq_true c2); omega
        exact iteT ⟨size_le (by show 0 ≤ _; omega), bad (parse_bad r1 (.inl (head_no (.inl c2)))) H6 st6.s⟩
      refine ⟨_, rfl, _, _, rfl, rfl, _, rfl, ite_b (fun c3 => ?_) (fun c3 => ?_)⟩
      · have c3 : 6 < headN (tl nm) := by have := of_decide_eq_true c3; omega
        exact iteT ⟨size_le (by show 0 ≤ _; omega), bad (parse_bad r1 (.inl (head_no (.inr (.inl c3))))) H6 st6.s⟩
      refine ⟨_, rfl, _, rfl, nm, rfl, size_le (by omega), _, _, rfl, rfl, _, rfl, ite_b (fun c4 => ?_) (fun c4 => ?_)⟩
      · have c4 : headN (tl nm) < (tl nm).length := by have := of_decide_eq_true c4; rw [str_len] at this; omega
        exact ⟨size_le (by show 0 ≤ _; omega), bad (parse_bad r1 (.inl (head_no (.inr (.inr c4))))) H6 st6.s⟩
      have hn : okNm (tl nm) = true := by
        refine head_nm (fun z => ?_) ?_ ?_
        · have c2 := of_decide_eq_false c2
          rw [z] at c2
          exact c2 rfl
        · have := of_decide_eq_false c3; omega
        · have := of_decide_eq_false c4; rw [str_len] at this; omega
      have hnn : tl nm ≠ [] := (okNm_iff.mp hn).1
      obtain ⟨j, hj3, hj1, hj2, hjw⟩ := w3_at c1
      rw [p1] at hjw
      -- role = ('place', 'value', 'array').index(word)
      refine ⟨size_le (by show 3 ≤ _; omega), fun q4 hq4 => ?_⟩
      have t4 := Same.new (o := .tup (w3.map V.str)) hq4
      have st7 : RlSt H (upd H6 q4 (.tup (w3.map V.str))) kl kp kv ka es := st6.more t4
      have hl7 := t4 _ _ hl6
      have hlt7 := t4 _ _ hlt6
      have a7 : upd H6 q4 (.tup (w3.map V.str)) q4 = some (.tup (w3.map V.str)) := upd_same
      obtain ⟨H7, e7⟩ : ∃ H7, H7 = upd H6 q4 (.tup [.str (Str.ofString "place"), .str (Str.ofString "value"), .str (Str.ofString "array")]) := ⟨_, rfl⟩
      have st7 : RlSt H H7 kl kp kv ka es := by rw [e7]; exact st7
      have hl7 : H7 l = some (.lst (ps.map V.str)) := by rw [e7]; exact hl7
      have hlt7 : H7 lt = some (.tup [.int (r : Nat), .str ls]) := by rw [e7]; exact hlt7
      have a7 : H7 q4 = some (.tup (w3.map V.str)) := by rw [e7]; exact a7
      rw [← e7]
      clear e7
      refine ⟨_, rfl, q4, w3, word, j, rfl, rfl, SqT.of a7, hj1, hj2, ?_⟩
      clear a7 a6 t4
      by_cases hj : j = 2
      · -- an array
        subst hj
        have hpar := parse_ar (rd := rdL) r1 hn hjw
        rw [← r4] at hpar
        refine ⟨fun σ H' => L2.Same H7 H' ∧ ∃ (F g : Addr), σ = [some (.str x), some (.ref kl), some (.ref lt), some (.str t), some (.str word), some (.str gap), some (.str rest), some (.str nm), some (.str sign), some (.str sh), some (.int (headN (tl nm))), some (.int (2 : Nat)), some (.ref F), v13] ∧ H' F = some (.lst [.ref g]) ∧ RowAt H' g ((rdL (tl sh)).getD []), ?_, ?_⟩
        · refine ⟨_, rfl, rfl, _, rfl, ite_t rfl ?_⟩
          refine ⟨_, rfl, sh, rfl, hsl, fun g H8 s8 hg hgr => ⟨size_le (by show 1 ≤ _; omega), fun F hF => ?_⟩⟩
          have s9 := Same.new (o := .lst [.ref g]) hF
          exact ⟨s8.trans s9, F, g, rfl, upd_same, hgr.same s9⟩
        rintro σ H8 ⟨s8, F, g, rfl, hF, hg⟩
        have dF : ∀ {H'}, L2.Same H8 H' → Dp K H' (.ref F) (.list [rowD ((rdL (tl sh)).getD [])]) := fun {H'} s => .lst (SqL.of (s _ _ hF)) (.cons (dp_row (hg.same s)) .nil)
        -- found == []
        refine ⟨_, rfl, size_le (by show 0 ≤ _; omega), fun q5 hq5 => ?_⟩
        have s9 := Same.new (o := .lst []) hq5
        refine ⟨_, .list [], dF s9, dp_nil upd_same, shaped_one _, rfl, _, rfl, ?_⟩
        rw [eqv_one_nil]
        refine iteF ?_
        -- found == [[]]
        refine ⟨_, rfl, size_le (by show 0 ≤ _; omega), fun q6 hq6 => ?_⟩
        have s10 := Same.step (o := .lst []) s9 hq6
        refine ⟨size_le (by show 1 ≤ _; omega), fun q7 hq7 => ?_⟩
        have s11 := Same.step (o := .lst [.ref q6]) s10 hq7
        have s67 := Same.new (o := .lst [.ref q6]) hq7
        have sH11 := st7.s.trans (s8.trans s11)
        refine ⟨_, .list [.list []], dF s11, .lst (SqL.of upd_same) (.cons (dp_nil (s67 _ _ upd_same)) .nil), shaped_one _, rfl, _, rfl, ?_⟩
        rw [eqv_one_row]
        refine ite_b (fun c5 => ?_) (fun c5 => ?_)
        · have c5 := of_decide_eq_true c5
          have hp0 : parseE rdL (tl t) = none := by
            cases hr0 : rdL (tl sh) with
            | none => rw [hpar, hr0]; rfl
            | some row =>
              rw [hr0] at c5
              exact absurd c5 ((rdL_iff _ _).mp hr0).2.1
          exact iteT ⟨size_le (by show 0 ≤ _; omega), bad hp0 _ sH11⟩
        have c5 := of_decide_eq_false c5
        cases hr0 : rdL (tl sh) with
        | none => rw [hr0] at c5; exact absurd rfl c5
        | some row =>
          rw [hr0] at hpar hg
          obtain ⟨b1, b2⟩ := (parseL (tl t) (.ar nm row)).mp hpar
          have hshE : ∀ e ∈ es, shE e := fun e he => (hok e he).sh fun _ q => q.1
          -- (role, name) <= last
          obtain ⟨H9, e9⟩ : ∃ H9, H9 = upd (upd (upd H8 q5 (.lst [])) q6 (.lst [])) q7 (.lst [.ref q6]) := ⟨_, rfl⟩
          rw [← e9] at s11 sH11 ⊢
          have s79 := s8.trans s11
          refine ⟨_, rfl, _, rfl, size_le (by show 2 ≤ _; omega), fun q8 hq8 => ?_⟩
          have s12 := Same.new (o := .tup [.int (2 : Nat), .str nm]) hq8
          refine ⟨_, rfl, q8, lt, (2 : Nat), (r : Nat), nm, ls, rfl, rfl, upd_same, s12 _ _ (s79 _ _ hlt7), _, rfl, ite_b (fun c6 => ?_) (fun c6 => ?_)⟩
          · refine ⟨size_le (by show 0 ≤ _; omega), bad2 ?_ _ (sH11.trans s12)⟩
            rw [b1] at hsplit
            exact hlast.stop (e := .ar nm row) rfl hnn c6 hsplit hshE (b2.sh fun _ q => q.1)
          obtain ⟨hl', hpw'⟩ := hlast.next (e := .ar nm row) rfl c6 hpw
          -- last = (role, name); store = known[role]; store[name] = found[0]
          refine ⟨_, rfl, _, rfl, size_le (by show 2 ≤ _; omega), fun q9 hq9 => ?_⟩
          have s13 := Same.step (o := .tup [.int (2 : Nat), .str nm]) s12 hq9
          have st13 := st7.more (s79.trans s13)
          have hl13 := (s79.trans s13) _ _ hl7
          have hg13 := hg.same (s11.trans s13)
          have hF13 := (s11.trans s13) _ _ hF
          have hq9' : upd (upd H9 q8 (.tup [.int (2 : Nat), .str nm])) q9 (.tup [.int (2 : Nat), .str nm]) q9 = some (.tup [.int (2 : Nat), .str nm]) := upd_same
          obtain ⟨rs, ha1, ha2⟩ := st13.a
          refine ⟨_, rfl, _, rfl, kl, _, _, .ref ka, rfl, rfl, SqL.of st13.k, atI_get (i := 2) rfl, _, rfl, F, _, 0, _, rfl, rfl, SqL.of hF13, atI_get (i := 0) rfl, _, rfl, _, rfl, ka, _, rfl, DPut.k (k := .inr nm) ha1 (by rw [kvOf_len, paired_len ha2]; have := dA_len es; exact size_lt (by omega)), ?_⟩
          refine ⟨es ++ [.ar nm row], q9, 2, nm, _, _, _, _, _, _, _, _, _, _, _, rfl, st13.putA rk nm ha1 ha2 hg13, by rw [upd_ne nla]; exact hl13, ?_, ?_, fun e he => ?_, hl', hpw'⟩
          · rw [upd_ne (ne_of hq9' ha1 (by intro z; cases z))]
            exact hq9'
          · rw [hes2, List.map_append, b1]
            rfl
          · rcases List.mem_append.mp he with z | z
            · exact hok e z
            · rw [List.mem_singleton.mp z]; exact b2
      · -- a place or a value
        obtain ⟨mkE, L, d, hL, hkey, hpar, hat, step⟩ : ∃ (mkE : Int → En) (L : Al Int) (d : Addr), L.length ≤ es.length ∧ (∀ n, (mkE n).key = (j, tl nm)) ∧ parseE rdL (tl t) = (readI (tl sh)).map mkE ∧ ([V.ref kp, V.ref kv, V.ref ka] : List V)[j]? = some (.ref d) ∧
            ∀ H', RlSt H H' kl kp kv ka es → DiI H' d L ∧ l ≠ d ∧ ∀ n, RlSt H (upd H' d (.dK (putK (kvOf V.int L) (.inr nm) (.int n)))) kl kp kv ka (es ++ [mkE n]) := by
          have : j = 0 ∨ j = 1 := by omega
          rcases this with rfl | rfl
          · refine ⟨En.pl nm, dP es, kp, dP_len es, fun _ => rfl, ?_, rfl, fun H' st => ⟨st.p, nlp, fun n => st.putP rk nm n⟩⟩
            rw [r4]
            exact parse_pl r1 hn hjw
          · refine ⟨En.va nm, dN es, kv, dN_len es, fun _ => rfl, ?_, rfl, fun H' st => ⟨st.v, nlv, fun n => st.putV rk nm n⟩⟩
            rw [r4]
            exact parse_va r1 hn hjw
        refine ⟨fun σ H' => L2.Same H7 H' ∧ ∃ (F : Addr), σ = [some (.str x), some (.ref kl), some (.ref lt), some (.str t), some (.str word), some (.str gap), some (.str rest), some (.str nm), some (.str sign), some (.str sh), some (.int (headN (tl nm))), some (.int (j : Nat)), some (.ref F), v13] ∧ H' F = some (.lst ((readI (tl sh)).toList.map V.int)), ?_, ?_⟩
        · refine ⟨_, rfl, rfl, _, rfl, ite_f ?_ ?_⟩
          · refine decide_eq_false fun z => hj ?_
            have := int_eq.mp z
            omega
          refine ⟨_, rfl, sh, rfl, by omega, fun g H8 s8 hg hgl => ?_⟩
          rw [optV_map] at hgl
          exact ⟨s8, g, rfl, hgl⟩
        rintro σ H8 ⟨s8, F, rfl, hF⟩
        -- found == []
        refine ⟨_, rfl, size_le (by show 0 ≤ _; omega), fun q5 hq5 => ?_⟩
        have s9 := Same.new (o := .lst []) hq5
        refine ⟨intsD (readI (tl sh)).toList, .list [], dp_ints (s9 _ _ hF), dp_nil upd_same, shaped_ints _, rfl, _, rfl, ?_⟩
        rw [eqv_ints0]
        refine ite_b (fun c5 => ?_) (fun c5 => ?_)
        · have c5 := of_decide_eq_true c5
          cases hr0 : readI (tl sh) with
          | some n => rw [hr0] at c5; cases c5
          | none =>
            rw [hr0] at hpar
            exact iteT ⟨size_le (by show 0 ≤ _; omega), bad hpar _ (st7.s.trans (s8.trans s9))⟩
        have c5 := of_decide_eq_false c5
        cases hr0 : readI (tl sh) with
        | none => rw [hr0] at c5; exact absurd rfl c5
        | some n =>
          rw [hr0] at hpar hF
          -- found == [[]]
          refine ⟨_, rfl, size_le (by show 0 ≤ _; omega), fun q6 hq6 => ?_⟩
          have s10 := Same.step (o := .lst []) s9 hq6
          refine ⟨size_le (by show 1 ≤ _; omega), fun q7 hq7 => ?_⟩
          have s11 := Same.step (o := .lst [.ref q6]) s10 hq7
          have s67 := Same.new (o := .lst [.ref q6]) hq7
          have sH11 := st7.s.trans (s8.trans s11)
          refine ⟨intsD [n], .list [.list []], dp_ints (s11 _ _ hF), .lst (SqL.of upd_same) (.cons (dp_nil (s67 _ _ upd_same)) .nil), shaped_ints _, rfl, _, rfl, ?_⟩
          rw [eqv_int_nil2]
          refine iteF ?_
          obtain ⟨b1, b2⟩ := (parseL (tl t) (mkE n)).mp hpar
          have hshE : ∀ e ∈ es, shE e := fun e he => (hok e he).sh fun _ q => q.1
          obtain ⟨H9, e9⟩ : ∃ H9, H9 = upd (upd (upd H8 q5 (.lst [])) q6 (.lst [])) q7 (.lst [.ref q6]) := ⟨_, rfl⟩
          rw [← e9] at s11 sH11 ⊢
          have s79 := s8.trans s11
          -- (role, name) <= last
          refine ⟨_, rfl, _, rfl, size_le (by show 2 ≤ _; omega), fun q8 hq8 => ?_⟩
          have s12 := Same.new (o := .tup [.int (j : Nat), .str nm]) hq8
          refine ⟨_, rfl, q8, lt, (j : Nat), (r : Nat), nm, ls, rfl, rfl, upd_same, s12 _ _ (s79 _ _ hlt7), _, rfl, ite_b (fun c6 => ?_) (fun c6 => ?_)⟩
          · refine ⟨size_le (by show 0 ≤ _; omega), bad2 ?_ _ (sH11.trans s12)⟩
            rw [b1] at hsplit
            exact hlast.stop (e := mkE n) (hkey n) hnn c6 hsplit hshE (b2.sh fun _ q => q.1)
          obtain ⟨hl', hpw'⟩ := hlast.next (e := mkE n) (hkey n) c6 hpw
          refine ⟨_, rfl, _, rfl, size_le (by show 2 ≤ _; omega), fun q9 hq9 => ?_⟩
          have s13 := Same.step (o := .tup [.int (j : Nat), .str nm]) s12 hq9
          have st13 := st7.more (s79.trans s13)
          have hl13 := (s79.trans s13) _ _ hl7
          have hF13 := (s11.trans s13) _ _ hF
          have hq9' : upd (upd H9 q8 (.tup [.int (j : Nat), .str nm])) q9 (.tup [.int (j : Nat), .str nm]) q9 = some (.tup [.int (j : Nat), .str nm]) := upd_same
          obtain ⟨hdd, hld, hput⟩ := step _ st13
          refine ⟨_, rfl, _, rfl, kl, _, _, .ref d, rfl, rfl, SqL.of st13.k, atI_get hat, _, rfl, F, _, 0, _, rfl, rfl, SqL.of hF13, atI_get (i := 0) rfl, _, rfl, _, rfl, d, _, rfl, DPut.k (k := .inr nm) hdd (by rw [kvOf_len]; exact size_lt (by omega)), ?_⟩
          refine ⟨es ++ [mkE n], q9, j, nm, _, _, _, _, _, _, _, _, _, _, _, rfl, hput n, by rw [upd_ne hld]; exact hl13, ?_, ?_, fun e he => ?_, hl', hpw'⟩
          · rw [upd_ne (ne_of hq9' hdd (by intro z; cases z))]
            exact hq9'
          · rw [hes2, List.map_append, b1]
            rfl
          · rcases List.mem_append.mp he with z | z
            · exact hok e z
            · rw [List.mem_singleton.mp z]; exact b2
    · rintro σ H3 ⟨es, lt, r, ls, v3, v4, v5, v6, v7, v8, v9, v10, v11, v12, v13, rfl, st, hll, hlt, hes, hok, hlast, hpw⟩
      rw [List.take_of_length_le (by rw [List.length_map]; omega), hps] at hes
      have htext := pieces_join hes
      refine ⟨_, rfl, size_le (by show 1 ≤ _; omega), fun p hp => ?_⟩
      have st2 := st.more (Same.new (o := .lst [.ref kl]) hp)
      obtain ⟨d1, d2, d3⟩ := d_of_asc hpw
      exact kOk es ⟨hok, hpw⟩ htext p kl kp kv ka _ st2.s (st.s.free hp) upd_same st2.k (by rw [← d1]; exact st2.p) (by rw [← d2]; exact st2.v) (by rw [← d3]; exact st2.a)
end
end A80
end
section
set_option Elab.async false
set_option maxRecDepth 100000
set_option maxHeartbeats 4000000
set_option autoImplicit false
namespace A80
open PySem PySem.Spec L2 PyProof.Rows TL
/-! ### _law_told -/
abbrev S_law_told : Stmt := topS 37
theorem sc_law_told : FnScope ["_law_text", "_law_told_here", "_law_state", "e"] ["_law_text"] (defScope S_law_told) := ⟨rfl, rfl, rfl, by decide +kernel, rfl, by decide +kernel, by decide +kernel⟩
theorem canon_of {c : List En} (h : WFC c) : canon (plsOf c) (vasOf c) (arsOf c) = c := by
  have h1 := canon_self h
  obtain ⟨d1, d2, d3⟩ := d_of_asc h.2
  rw [h1.2, d1, d2] at h1
  exact h1.1
theorem wfc_st {c : List En} (h : WFC c) : StOk (plsOf c) (vasOf c) (arsOf c) := by
  obtain ⟨a1, a2, a3⟩ := ofs_asc h.2
  exact ⟨⟨a1.nodup, fun p hp => (h.1 _ (pls_mem.mp hp)).1⟩, ⟨a2.nodup, fun p hp => (h.1 _ (vas_mem.mp hp)).1⟩, ⟨a3, fun p hp => (h.1 _ (ars_mem.mp hp)).1⟩, fun p hp => ⟨(h.1 _ (ars_mem.mp hp)).2.1, (h.1 _ (ars_mem.mp hp)).2.2.1⟩⟩
theorem okI_W {n : Int} (h : okI n) : okW n := Nat.lt_of_lt_of_le (okI_lt h) (by decide +kernel)
theorem wfc_num {c : List En} (h : WFC c) : NumW (plsOf c) (vasOf c) (arsOf c) :=
  ⟨fun p hp => okI_W (h.1 _ (pls_mem.mp hp)).2, fun p hp => okI_W (h.1 _ (vas_mem.mp hp)).2, fun p hp q hq => ⟨okI_W ((h.1 _ (ars_mem.mp hp)).2.2.2.2 q hq).1, okI_W ((h.1 _ (ars_mem.mp hp)).2.2.2.2 q hq).2⟩⟩
theorem wfc_stz {c : List En} (h : WFC c) : stz (plsOf c) (vasOf c) (arsOf c) ≤ (showS c).length := by
  rw [← sz_canon, canon_of h]
  exact sz_le_text h.sh
def spTold : Sp := fun vs H Q _ => ∃ x : Str, vs = [.str x] ∧ x.length ≤ 16000 ∧
  (∀ c, WFC c → tl x = showS c → ∀ (p kl d0 d1 d2 : Addr) (H' : Hp), Same H H' → H' p = some (.lst [.ref kl, .str x]) → H' kl = some (.lst [.ref d0, .ref d1, .ref d2]) → DiI H' d0 (plsOf c) → DiI H' d1 (vasOf c) → DiR H' d2 (arsOf c) → H d0 = none → H d1 = none → H d2 = none → Q (.ref p) H') ∧
  ((¬ ∃ c, WFC c ∧ tl x = showS c) → ∀ H', Same H H' → Q (.str x) H')
section
variable {X : Cx} {k j : Nat} {x : Str} {ps : List Str} {sp : Sp} {p pos : Pos} {e : Expr} {es : List Expr} {t : TA}
theorem pe_cxS {W : WX} (c : ClX X.prog X.w X.K X.mg X.base k x ps sp) (hr : Room j X.A) (hk : k ≤ j) (hg : Gl X x) (tk : Takes X W) (ha : PA X (e :: es) t)
    (hdb : (x == ("__debug__" : Str)) = false := by decide) (he : starEach (e :: es) X.env = (false, eval e X.env) :: starEach es X.env := by rfl) (hpl : (backTo pos (starEach es X.env)).any (·.1) = false := by rfl) :
    PE X (.Call (.Name x p) (e :: es) [] pos) (tCallS sp (WE W) t) := by
  obtain ⟨f, fd, F, hm, kp, b, _⟩ := c.ex
  exact pe_callS F (hr.mono hk) hg hm kp b (fun σ => passAt tk σ) ha hdb he hpl
end
section
variable {P : Program} {w : World} {K : PySem.W.Frag} {mg : Str → Option Value} {base : Heap} {CS CU : Addr}
theorem cl_law_told (T : Tx K mg CS) (U : Ux K mg CU) (D : Df K mg "_law_told" S_law_told ["_law_text"]) (c_read_state : ClX P w K mg base 4 "read_state" ["text"] (spReadState CS CU)) (c_show_state : Cl P w K mg base 3 "show_state" (spShow CS))
    (c_p_places : Prp P w K mg base 1 CS "places" (spPlaces CS)) (c_p_numbers : Prp P w K mg base 1 CS "numbers" (spNumbers CS)) (c_p_arrays : Prp P w K mg base 1 CS "arrays" (spArrays CS)) :
    Cl P w K mg base 5 "_law_told" spTold := by
  have sc := sc_law_told
  refine cl_mk D sc (fun vs H Q E h => ?_) (fun f cdv A outer s H vs Q E hr h => ?_)
  · obtain ⟨x, rfl, _⟩ := h
    rfl
  · obtain ⟨x, rfl, hxl, kOk, kBad⟩ := h
    refine ⟨_, (pss_cons (ps_set (i := 1) sc.nd rfl (Or.inl rfl) pe_non)
      (pss_cons (ps_set (i := 2) sc.nd rfl (Or.inl rfl) pe_non)
      (pss_cons (ps_try_as (i := 3) (tb := fun W => tAsg (tCallS (spReadState CS CU) (WE W) (tCons (tVar 0) tNil)) (gName 2)) (ts := fun a cls d => tAsg (tXf a cls d CU "value" (tVar 3)) (gName 1)) (Wout := fun _ _ _ _ => False) rfl rfl sc.nd rfl rfl ⟨rfl, by decide, Or.inl U.g⟩ takes0 (fun W pn xe tk _ => pss_one (ps_set (i := 2) sc.nd rfl (Or.inl rfl) (by exact (pe_cxS c_read_state hr (by decide) rfl tk (pa_cons (pv 0) pa_nil))))) (fun a oe cls d pn hz hf => pss_one (ps_set (i := 1) sc.nd rfl (Or.inl rfl) (by exact (pe_xf U.xf U.nov hz hf (pv 3))))))
      (pss_cons (ps_if (pt_cmp (pc_isN (pv 1)))
      (pss_one (ps_ret (pe_lst (pa_cons (pe_lst (pa_cons (pe_p c_p_places hr (by decide) (pv 2) rfl) (pa_cons (pe_p c_p_numbers hr (by decide) (pv 2) rfl) (pa_cons (pe_p c_p_arrays hr (by decide) (pv 2) rfl) pa_nil)))) (pa_cons (pe_c c_show_state hr (by decide) rfl (pa_cons (pv 2) pa_nil)) pa_nil)))))
      pss_nil)
      (pss_one (ps_ret (pv 1))))))), ?_⟩
    refine ⟨_, rfl, x, rfl, hxl, fun c hc hx q H1 s1 hq hS => ?_, fun hno d H1 s1 hd hd1 => ?_⟩
    · obtain ⟨dx, ds, da, dr, hs⟩ := id hS
      have hok := wfc_st hc
      have hz := wfc_stz hc
      rw [← hx, ← str_len] at hz
      refine ⟨_, rfl, _, rfl, iteT ?_⟩
      refine ⟨_, rfl, q, dx, _, rfl, hs.at_, q, _, _, _, rfl, hS, fun d0 H2 s2 hd0 hP => ?_⟩
      refine ⟨_, rfl, q, dx, _, rfl, s2 _ _ hs.at_, q, _, _, _, rfl, hS.same s2, fun d1 H3 s3 hd1 hN => ?_⟩
      have s23 := s2.trans s3
      have zA := szA_len (arsOf c)
      have hz' := hz
      unfold stz at hz'
      refine ⟨_, rfl, q, dx, _, rfl, s23 _ _ hs.at_, q, _, _, _, rfl, hS.same s23, hok.2.2.1.1.nodup, by omega, fun d2 H4 s4 hd2 hA => ?_⟩
      have s24 := s23.trans s4
      refine ⟨size_le (by show 3 ≤ _; omega), fun kl hkl => ?_⟩
      have s5 := Same.new (o := .lst [.ref d0, .ref d1, .ref d2]) hkl
      have s25 := s24.trans s5
      refine ⟨_, rfl, q, _, _, _, rfl, hS.same s25, hok, wfc_num hc, by omega, fun z H6 s6 hzz => ?_⟩
      have ez : z = x := ext_tl (by rw [hzz, canon_of hc, hx])
      subst ez
      refine ⟨size_le (by show 2 ≤ _; omega), fun p hp => ?_⟩
      have s7 := Same.new (o := .lst [.ref kl, .str z]) hp
      have s57 := s5.trans (s6.trans s7)
      have s17 := s1.trans (s24.trans s57)
      have s67 := s6.trans s7
      exact kOk c hc hx p kl d0 d1 d2 _ s17 upd_same (s67 _ _ upd_same) (hP.same (s3.trans (s4.trans s57))) (hN.same (s4.trans s57)) (hA.r.same s57) (s1.free hd0) ((s1.trans s2).free hd1) ((s1.trans s23).free hd2)
    · exact ⟨true, U.te, fun _ a ha => ⟨_, rfl, rfl, rfl, d, _, _, rfl, hd1, rfl, _, rfl, _, rfl, iteF ⟨_, rfl, kBad hno _ s1⟩⟩, fun q => nomatch q⟩
end
end A80
end
section
set_option Elab.async false
set_option maxRecDepth 100000
set_option maxHeartbeats 4000000
set_option autoImplicit false
namespace A80
open PySem PySem.Spec L2 PyProof.Rows TL
/-! ### ==, len of an instance by the class's own methods; f(x = e) -/
section
variable {X : Cx} {k j : Nat} {C : Addr}
theorem op_eqO {R : Addr → Addr → Hp → Prop} (c : C8.Met X.prog X.w X.K X.mg X.base k C "__eq__" (L2.spEq R) []) (hr : Room j X.A) (hk : k ≤ j) : OpR X (compareOp .Eq) (rEqG (DIns C R)) := by
  obtain ⟨f, fd, ps, ds, hc, hm, F, b, d⟩ := c.ex
  cases d
  exact op_eqG (rcG_ins F hm.at_ hm.fn b pass0) (hr.mono hk)
def rLenO (C : Addr) (sp : Sp) : List V → Hp → VK → Prop := fun xs H Q => ∃ a dx fs, xs = [.ref a] ∧ H a = some (.ins C dx fs) ∧ sp [.ref a] H (fun v H' => ∃ n : Int, v = .int n ∧ 0 ≤ n ∧ n < 2 ^ 63 ∧ Q v H') E0
theorem call_lenO {sp : Sp} (c : C8.Met X.prog X.w X.K X.mg X.base k C "__len__" sp []) (hr : Room j X.A) (hk : k + 1 ≤ j) : CallR X (.builtin "len") (rLenO C sp) := by
  intro pins s σ H xs us Q I r h
  obtain ⟨a, dx, fs, rfl, ha, hsp⟩ := h
  obtain ⟨f, fd, ps, ds, hc, hm, F, b, d⟩ := c.ex
  cases d
  obtain ⟨u, rfl, ru⟩ := vals1 r
  cases ru
  obtain ⟨mA, J, _⟩ := ins_get I.hok ha
  obtain ⟨od, J, _⟩ := J.look
  obtain ⟨m, hF⟩ := I.fr
  have hr1 : Room k X.A.in1 := (hr.mono hk).in1
  refine PySem.W.len_K hF I.ok.mod.kin J hm.at_ hm.fn ?_
  have e0 : Env0 X.prog X.w X.K X.mg X.base X.A.in1 X.stack s H := by
    have e := I.env0
    exact ⟨e.frames, e.mod, e.bs, e.bsz, e.funs, e.frf, e.hok, e.bare⟩
  have hl := F.len _ _ _ _ hsp
  have r2 : Vals [V.ref a] [Value.ref a] := .cons rfl .nil
  refine wpAny_call (codeAny_mono (F.run X.A.in1 X.stack s H ⟨[.ref a], []⟩ [.ref a] [.ref a] _ E0 hr1 e0 (by
    have := b s [.ref a] I.kIn (by simpa using hl)
    simpa using this) r2 hsp) fun r s' hq => ?_)
  cases r with
  | error e => exact pass0 pins σ H s e s' I hq
  | ok fl =>
    cases fl with
    | ret w =>
      obtain ⟨z, H', I', rz, n, ez, h0, h1, q⟩ := I.after hq
      subst ez
      obtain ⟨t, rfl⟩ := rz
      exact ⟨⟨h0, h1⟩, .int n, H', I'.tok _, ⟨_, rfl⟩, q⟩
    | next => exact False.elim hq
    | brk => exact False.elim hq
    | cont => exact False.elim hq
end
section
variable {X : Cx} {k j : Nat} {x : Str} {ps : List Str} {sp : Sp} {p pos : Pos} {kws : List Keyword} {tk : TA}
/-- f(k = e, ..): every parameter by its name, in order -/
def tCallW (m : Nat) (sp : Sp) (E : XK) (tk : TA) : TE := fun σ H Q => tk σ H fun zs H1 => zs.length = m ∧ sp zs H1 Q E
theorem pe_kwx (c : ClX X.prog X.w X.K X.mg X.base k x ps sp) (hr : Room j X.A) (hk : k ≤ j) (hg : Gl X x) (hkw : PK X kws tk)
    (hall : (backToKw pos (keywordEach kws X.env)).all (·.1.isSome) = true := by rfl) (hks : (backToKw pos (keywordEach kws X.env)).filterMap (·.1) = ps := by rfl) (hdb : (x == ("__debug__" : Str)) = false := by decide)
    (hpl : ((backTo pos (starEach [] X.env)).any (·.1) || (backToKw pos (keywordEach kws X.env)).any (·.1.isNone)) = false := by rfl) :
    PE X (.Call (.Name x p) [] kws pos) (tCallW ps.length sp E0 tk) := by
  obtain ⟨f, fd, F, hm, kp, b, kb⟩ := c.ex
  refine ⟨fun pins s σ H Q I h => ?_⟩
  refine wpAny_Call_Name_kw (ld_glob I hg hm ?_ hdb)
  refine PySem.W.callWith_KW0 (h₀ := X.base) I.ok.mod.kin kp hall ?_ hpl
  refine thn (hkw.run pos pins s σ H _ I h) fun ws s2 ⟨zs, H2, I2, rz, l2, q2⟩ => ⟨I2.kIn, ?_⟩
  rw [hks]
  exact run_fnN (us := []) (vs := []) F (hr.mono hk) kb passL I2 .nil rz rfl l2 q2
end
end A80
end
section
set_option Elab.async false
set_option maxRecDepth 100000
set_option maxHeartbeats 4000000
set_option autoImplicit false
namespace A80
open PySem PySem.Spec L2 PyProof.Rows TL
/-! ### the same data -/
theorem paired_of {α β : Type} {R : α → β → Prop} : ∀ {l : List α} {m : List β}, l.length = m.length → (∀ (i : Nat) (a : α) (b : β), l[i]? = some a → m[i]? = some b → R a b) → Paired R l m
  | [], [], _, _ => .nil
  | a :: l, b :: m, e, h => .cons (h 0 a b rfl rfl) (paired_of (by simpa using e) fun i x y hx hy => h (i + 1) x y (by simpa using hx) (by simpa using hy))
  | [], _ :: _, e, _ => by simp at e
  | _ :: _, [], e, _ => by simp at e
theorem samI {k : Nat} {H : Hp} (n : Int) : SamR (k + 1) H (.int n) (.int n) := .inl (.inr (.inr (.inl ⟨n, rfl, rfl⟩)))
theorem samB {k : Nat} {H : Hp} (n : Bool) : SamR (k + 1) H (.bl n) (.bl n) := .inl (.inr (.inl ⟨n, rfl, rfl⟩))
theorem samS {k : Nat} {H : Hp} (n : Str) : SamR (k + 1) H (.str n) (.str n) := .inl (.inr (.inr (.inr ⟨n, rfl, rfl⟩)))
theorem samL {k : Nat} {H : Hp} {p q : Addr} {l m : List V} (hp : H p = some (.lst l)) (hq : H q = some (.lst m)) (hl : m.length ≤ 1000000) (h : Paired (SamR k H) l m) : SamR (k + 1) H (.ref p) (.ref q) :=
  .inr (.inl ⟨p, q, l, m, rfl, rfl, .inl ⟨hp, hq⟩, hl, h⟩)
theorem samT {k : Nat} {H : Hp} {p q : Addr} {l m : List V} (hp : H p = some (.tup l)) (hq : H q = some (.tup m)) (hl : m.length ≤ 1000000) (h : Paired (SamR k H) l m) : SamR (k + 1) H (.ref p) (.ref q) :=
  .inr (.inl ⟨p, q, l, m, rfl, rfl, .inr ⟨hp, hq⟩, hl, h⟩)
theorem samPr {H : Hp} {a b : Addr} {q : Int × Int} (ha : PrAt H a q) (hb : PrAt H b q) : SamR 2 H (.ref a) (.ref b) :=
  samT ha hb (by show 2 ≤ _; omega) (.cons (samI _) (.cons (samI _) .nil))
theorem samRow {H : Hp} {a b : Addr} {row : Row} (ha : RowAt H a row) (hb : RowAt H b row) (hl : row.length ≤ 1000000) : SamR 3 H (.ref a) (.ref b) := by
  obtain ⟨ts, h1, h2⟩ := ha
  obtain ⟨us, h3, h4⟩ := hb
  have l1 := paired_len h2
  have l2 := paired_len h4
  refine samL h1 h3 (by rw [List.length_map, l2]; exact hl) (paired_of (by rw [List.length_map, List.length_map, l1, l2]) fun i x y hx hy => ?_)
  obtain ⟨t, ht, rfl⟩ := get_map_ref hx
  obtain ⟨u, hu, rfl⟩ := get_map_ref hy
  obtain ⟨q, hq, r1⟩ := paired_get h2 ht
  obtain ⟨q', hq', r2⟩ := paired_get h4 hu
  rw [hq] at hq'
  cases hq'
  exact samPr r1 r2
theorem samDiI {H : Hp} {a b : Addr} {P : Al Int} (hne : a ≠ b) (ha : DiI H a P) (hb : DiI H b P) (hl : P.length ≤ 1000000) : SamR 2 H (.ref a) (.ref b) := by
  refine .inr (.inr ⟨a, b, _, _, rfl, rfl, hne, ha, hb, rfl, by rw [kvOf_len]; exact hl, fun od kv hkv => ?_⟩)
  obtain ⟨q, hq, rfl⟩ := List.mem_map.mp hkv
  obtain ⟨v, hv⟩ := lookS_isSome (List.mem_map.mpr ⟨q, hq, rfl⟩)
  refine ⟨.int v, .int v, ?_, ?_, samI _⟩
  · show valV (kvOf V.int P) (.inr q.1) = _
    rw [valV_of, hv]; rfl
  · show valV (kvOf V.int P) (.inr q.1) = _
    rw [valV_of, hv]; rfl
theorem samDiR {H : Hp} {a b : Addr} {A : Al Row} (hne : a ≠ b) (ha : DiR H a A) (hb : DiR H b A) (hl : A.length ≤ 1000000) (hr : ∀ p ∈ A, p.2.length ≤ 1000000) : SamR 4 H (.ref a) (.ref b) := by
  obtain ⟨rs, h1, h2⟩ := ha
  obtain ⟨us, h3, h4⟩ := hb
  refine .inr (.inr ⟨a, b, _, _, rfl, rfl, hne, h1, h3, by rw [kvOf_len, kvOf_len, paired_len h2, paired_len h4], by rw [kvOf_len, paired_len h4]; exact hl, fun od kv hkv => ?_⟩)
  obtain ⟨q, hq, rfl⟩ := List.mem_map.mp hkv
  have hk : q.1 ∈ A.map (·.1) := by
    rw [← rws_keys h4]
    exact List.mem_map.mpr ⟨q, hq, rfl⟩
  obtain ⟨row, hrow⟩ := lookS_isSome hk
  obtain ⟨r, er, r1⟩ := rws_look h2 hrow
  obtain ⟨u, eu, u1⟩ := rws_look h4 hrow
  refine ⟨.ref r, .ref u, ?_, ?_, samRow (r1.keep Keep.lock h3) (u1.keep Keep.lock h3) (hr _ (lookS_mem hrow))⟩
  · show valV (kvOf V.ref rs) (.inr q.1) = _
    rw [valV_of, er]; rfl
  · show valV (kvOf V.ref us) (.inr q.1) = _
    rw [valV_of, eu]; rfl
end A80
end
section
set_option Elab.async false
set_option maxRecDepth 100000
set_option maxHeartbeats 4000000
set_option autoImplicit false
namespace A80
open PySem PySem.Spec L2 PyProof.Rows TL
/-! ### _law_asked_again -/
abbrev S_law_asked_again : Stmt := topS 39
theorem sc_law_asked_again : FnScope ["_law_read", "_law_state", "_law_told_here", "_law_name", "_law_place", "_law_value", "_law_row_here", "_law_known"] ["_law_read", "_law_state"] (defScope S_law_asked_again) := ⟨rfl, rfl, rfl, by decide +kernel, rfl, by decide +kernel, by decide +kernel⟩
theorem RowAt.mut {H : Hp} {l a : Addr} {xs : List V} {o : HO} {row : Row} (hl : H l = some (.lst xs)) (hne : a ≠ l) (h : RowAt H a row) : RowAt (upd H l o) a row := by
  obtain ⟨ts, h1, h2⟩ := h
  refine ⟨ts, by rw [upd_ne hne]; exact h1, paired_imp (fun t q (r : PrAt H t q) => ?_) h2⟩
  show upd H l o t = _
  rw [upd_ne (ne_of r hl (by intro z; cases z))]
  exact r
theorem nodup_ne {α β : Type} {f : α → β} {l : List α} (h : (l.map f).Nodup) {i j : Nat} {a b : α} (hij : i < j) (ha : l[i]? = some a) (hb : l[j]? = some b) : f b ≠ f a := fun e => by
  have hb' : j < l.length := (List.getElem?_eq_some_iff.mp hb).1
  have h1 : (l.map f)[i]? = some (f a) := by rw [List.getElem?_map, ha]; rfl
  have h2 : (l.map f)[j]? = some (f b) := by rw [List.getElem?_map, hb]; rfl
  rw [e, ← h1] at h2
  have := (List.getElem?_inj (by rw [List.length_map]; omega) h).mp h2.symm
  omega
def spAsked (CS : Addr) : Sp := fun vs H Q _ => ∃ (p q : Addr) (P N P' N' : Al Int) (A : Al Row), vs = [.ref p, .ref q] ∧ StAt CS H p P N A ∧ StAt CS H q P' N' A ∧ StOk P N A ∧ SamM P P' ∧ SamM N N' ∧ SamM P' P ∧ SamM N' N ∧ stz P N A ≤ 20000 ∧ ∀ H', Same H H' → Q (.bl true) H'
section
variable {P : Program} {w : World} {K : PySem.W.Frag} {mg : Str → Option Value} {base : Heap} {CS CU : Addr}
theorem cl_law_asked_again (T : Tx K mg CS) (D : Df K mg "_law_asked_again" S_law_asked_again ["_law_read", "_law_state"]) (c_law_same : Cl P w K mg base 7 "_law_same" (spSame (SamR 6)))
    (c_p_places : Prp P w K mg base 1 CS "places" (spPlaces CS)) (c_p_numbers : Prp P w K mg base 1 CS "numbers" (spNumbers CS)) (c_p_arrays : Prp P w K mg base 1 CS "arrays" (spArrays CS))
    (c_place_of : C8.Met P w K mg base 1 CS "place_of" (spPlaceOf CS) []) (c_value_of : C8.Met P w K mg base 2 CS "value_of" (spValueOf CS) []) (c_eq : C8.Met P w K mg base 1 CS "__eq__" (L2.spEq (EqR80 CS)) []) :
    Cl P w K mg base 8 "_law_asked_again" (spAsked CS) := by
  have sc := sc_law_asked_again
  refine cl_mk D sc (fun vs H Q E h => ?_) (fun f cdv A outer s H vs Q E hr h => ?_)
  · obtain ⟨p, q, P, N, P', N', A, rfl, _⟩ := h
    rfl
  · obtain ⟨p, q, P, N, P', N', A, rfl, hS, hS', hok, mP, mN, mP', mN', hz, kk⟩ := h
    refine ⟨_, (pss_cons (ps_set (i := 2) sc.nd rfl (Or.inl rfl) (pe_lst (pa_cons (pe_p c_p_places hr (by decide) (pv 0) rfl) (pa_cons (pe_p c_p_numbers hr (by decide) (pv 0) rfl) (pa_cons (pe_p c_p_arrays hr (by decide) (pv 0) rfl) pa_nil)))))
      (pss_cons (ps_lock (ps_for PassesOwn.never rfl (pi_keys (pe_ix (ixL K) (pv 2) pe_int (fun _ _ => rfl))) (pg_name (i := 3) sc.nd rfl (Or.inl rfl))
      (pss_cons (ps_for PassesOwn.never rfl (piL K (pe_dget (hu_of hr) (pe_ix (ixL K) (pv 2) pe_int (fun _ _ => rfl)) (pv 3) (fun _ _ => rfl))) (pgT K (n := 2) rfl (pgs_cons (pg_name (i := 4) sc.nd rfl (Or.inl rfl)) (pgs_cons (pg_name (i := 5) sc.nd rfl (Or.inl rfl)) pgs_nil)))
      (pss_one (ps_if (pt_not (pt_val (pe_c c_law_same hr (by decide) rfl (pa_cons (C8.pe_mt c_value_of hr (by decide) (pv 0) (pa_cons (pe_tup (pa_cons (pv 3) (pa_cons (pe_tup (pa_cons pe_str (pa_cons (pv 4) pa_nil))) (pa_cons pe_int pa_nil)))) pa_nil)) (pa_cons (pv 5) pa_nil)))))
      (pss_one (ps_ret pe_bl))
      pss_nil)))
      (pss_cons (ps_set (i := 6) sc.nd rfl (Or.inl rfl) (pe_dget (hu_of hr) (pe_ix (ixL K) (pv 2) pe_int (fun _ _ => rfl)) (pv 3) (fun _ _ => rfl)))
      (pss_one (ps_expr (pe_bm PySem.F.plainAttrs_list PySem.F.slot_list_append PySem.F.type_list_append mt_append (pv 6) (pa_cons (pe_tup (pa_cons (pe_op op_pow pe_int pe_int) (pa_cons pe_int pa_nil))) pa_nil))))))))
      (pss_cons (ps_lock (ps_for PassesOwn.never rfl (pi_keys (pe_ix (ixL K) (pv 2) pe_int (fun _ _ => rfl))) (pg_name (i := 3) sc.nd rfl (Or.inl rfl))
      (pss_one (ps_if (pt_not (pt_val (pe_c c_law_same hr (by decide) rfl (pa_cons (C8.pe_mt c_place_of hr (by decide) (pv 0) (pa_cons (pe_tup (pa_cons (pv 3) (pa_cons pe_int pa_nil))) pa_nil)) (pa_cons (pe_dget (hu_of hr) (pe_ix (ixL K) (pv 2) pe_int (fun _ _ => rfl)) (pv 3) (fun _ _ => rfl)) pa_nil)))))
      (pss_one (ps_ret pe_bl))
      pss_nil))))
      (pss_cons (ps_for PassesOwn.never rfl (piL K (pv 2)) (pg_name (i := 7) sc.nd rfl (Or.inl rfl))
      (pss_one (ps_expr (pe_dclear (pv 7)))))
      (pss_one (ps_ret (pe_c c_law_same hr (by decide) rfl (pa_cons (pe_lst (pa_cons (pe_cmpR (op_eqO c_eq hr (by decide)) (pv 0) (pv 1) (nomark _)) (pa_cons (pe_cmpR (op_eqO c_eq hr (by decide)) (pv 1) (pv 0) (nomark _)) (pa_cons (pe_p c_p_arrays hr (by decide) (pv 0) rfl) pa_nil)))) (pa_cons (pe_lst (pa_cons pe_bl (pa_cons pe_bl (pa_cons (pe_p c_p_arrays hr (by decide) (pv 1) rfl) pa_nil)))) pa_nil))))))))), ?_⟩
    obtain ⟨dx, ds, da, dr, hs⟩ := id hS
    obtain ⟨dx', ds', da', dr', hs'⟩ := id hS'
    have zA := szA_len A
    unfold stz at hz
    refine ⟨_, rfl, p, dx, _, rfl, hs.at_, p, _, _, _, rfl, hS, fun d0 H2 s2 hd0 hP => ?_⟩
    refine ⟨_, rfl, p, dx, _, rfl, s2 _ _ hs.at_, p, _, _, _, rfl, hS.same s2, fun d1 H3 s3 hd1 hN => ?_⟩
    have s23 := s2.trans s3
    refine ⟨_, rfl, p, dx, _, rfl, s23 _ _ hs.at_, p, _, _, _, rfl, hS.same s23, hok.2.2.1.1.nodup, by omega, fun d2 H4 s4 hd2 hA => ?_⟩
    have s24 := s23.trans s4
    refine ⟨size_le (by show 3 ≤ _; omega), fun kl hkl => ?_⟩
    have s5 := Same.new (o := .lst [.ref d0, .ref d1, .ref d2]) hkl
    have s25 := s24.trans s5
    have hP5 := hP.same (s3.trans (s4.trans s5))
    have hN5 := hN.same (s4.trans s5)
    obtain ⟨rs, hr1, hr2, hrf, hrn⟩ := hA
    have hk5 : upd H4 kl (.lst [.ref d0, .ref d1, .ref d2]) kl = some (.lst [.ref d0, .ref d1, .ref d2]) := upd_same
    have hr15 := s5 _ _ hr1
    have hr25 := rws_same s5 hr2
    have kn : ∀ b ∈ rs, b.2 ≠ kl := fun b hb e => by
      obtain ⟨i, hi⟩ := List.getElem?_of_mem hb
      obtain ⟨a, _, _, ts, ht, _⟩ := paired_get hr2 hi
      rw [e, hkl] at ht
      cases ht
    have f0 : H d0 = none := hd0
    have f1 : H d1 = none := s2.free hd1
    have f2 : H d2 = none := s23.free hd2
    have fr : ∀ b ∈ rs, H b.2 = none := fun b hb => s23.free (hrf b hb)
    obtain ⟨H5, e5⟩ : ∃ H5, H5 = upd H4 kl (.lst [.ref d0, .ref d1, .ref d2]) := ⟨_, rfl⟩
    rw [← e5] at hk5 hP5 hN5 hr15 hr25 s25 ⊢
    have n02 : d0 ≠ d2 := ne_of_none (s3 _ _ hP) hd2
    have n12 : d1 ≠ d2 := ne_of_none hN hd2
    have n01 : d0 ≠ d1 := ne_of_none hP hd1
    have nk0 : d0 ≠ kl := ne_of_none (s4 _ _ (s3 _ _ hP)) hkl
    have nk1 : d1 ≠ kl := ne_of_none (s4 _ _ hN) hkl
    have nk2 : d2 ≠ kl := ne_of_none hr1 hkl
    have rnod : (rs.map (·.1)).Nodup := by rw [rws_keys hr2]; exact hok.2.2.1.1.nodup
    -- the first loop
    refine ⟨d2, _, hr15, trivial, fun od => ?_⟩
    obtain ⟨HL, eHL⟩ : ∃ HL, HL = upd H5 d2 (.frz od (.dK (kvOf V.ref rs))) := ⟨_, rfl⟩
    have lf : HL d2 = some (.frz od (.dK (kvOf V.ref rs))) := by rw [eHL, upd_same]
    have lk : HL kl = some (.lst [.ref d0, .ref d1, .ref d2]) := by rw [eHL, upd_ne nk2.symm]; exact hk5
    have sL : Same H HL := by rw [eHL]; exact Same.mut s25 f2
    rw [← eHL]
    refine ⟨_, rfl, kl, _, 2, _, rfl, rfl, SqL.of lk, atI_get (i := 2) rfl, d2, od, rfl, .inl ⟨_, lf, for_it walk_keys (fun i σ H' => Same H H' ∧ H' d2 = some (.frz od (.dK (kvOf V.ref rs))) ∧ H' kl = some (.lst [.ref d0, .ref d1, .ref d2]) ∧ DiI H' d0 P ∧ DiI H' d1 N ∧ (∀ (j : Nat) b c, i ≤ j → rs[j]? = some b → A[j]? = some c → RowAt H' b.2 c.2) ∧ ∃ v3 v4 v5 v6 : Option V, σ = [some (.ref p), some (.ref q), some (.ref kl), v3, v4, v5, v6, none])
      ⟨sL, lf, lk, by rw [eHL]; exact (show _ = _ by rw [upd_ne n02]; exact hP5), by rw [eHL]; exact (show _ = _ by rw [upd_ne n12]; exact hN5), fun j b c _ hb hc => ?_, _, _, _, _, rfl⟩ (fun i σ H' _ h => h.2.1) ?_ ?_⟩⟩
    · obtain ⟨b', hb', e1, e2⟩ := paired_get' hr25 hc
      rw [hb] at hb'
      cases hb'
      rw [eHL]
      exact e2.keep Keep.lock hr15
    · rintro i v σ H0' H1 hi ⟨t1, t2, t3, t4, t5, t6, v3, v4, v5, v6, rfl⟩ ⟨rfl, key, vv, hkv, rfl⟩
      obtain ⟨b, hb, rfl, rfl⟩ := kvOf_get hkv
      obtain ⟨c, hc, hbc, _⟩ := paired_get hr2 hb
      obtain ⟨ts, ht1, ht2⟩ := t6 i b c (Nat.le_refl _) hb hc
      have g : DGet H1 d2 (.str b.1) (some (.ref b.2)) := by
        have := DGet.fk (k := .inr b.1) t2
        rw [valV_of, look_at rnod hb] at this
        exact this
      have hlen := paired_len ht2
      have hcA : c ∈ A := List.mem_of_getElem? hc
      have hrow := hok.2.2.2 c hcA
      refine ⟨_, rfl, kl, _, 2, _, rfl, rfl, SqL.of t3, atI_get (i := 2) rfl, _, rfl, d2, _, rfl, g, b.2, rfl, ⟨_, SqL.of ht1⟩, for_it walk_list (fun j σ H' => Same H1 H' ∧ ∃ v4 v5 : Option V, σ = [some (.ref p), some (.ref q), some (.ref kl), some (.str b.1), v4, v5, v6, none]) ⟨L2.Same.refl _, _, _, rfl⟩ (fun j σ H' _ h => SqL.of (h.1 _ _ ht1)) ?_ ?_⟩
      · rintro j y σ H0' H2 hj ⟨u1, w4, w5, rfl⟩ ⟨rfl, hy⟩
        obtain ⟨t, ht, rfl⟩ := get_map_ref hy
        obtain ⟨e, he, hte⟩ := paired_get ht2 ht
        refine ⟨t, _, rfl, SqT.of (u1 _ _ hte), rfl, _, _, rfl, _, _, rfl, rfl, ?_⟩
        have sH2 := t1.trans u1
        refine ⟨_, rfl, p, dx, _, rfl, sH2 _ _ hs.at_, stF_no _ _ _ _, _, rfl, _, rfl, size_le (by show 2 ≤ _; omega), fun u hu => ?_⟩
        have u2 := Same.new (o := .tup [.str Str.empty, .int e.1]) hu
        refine ⟨size_le (by show 3 ≤ _; omega), fun t' ht' => ?_⟩
        have u3 := Same.new (o := .tup [.str b.1, .ref u, .int 0]) ht'
        have u23 := u2.trans u3
        refine ⟨p, t', u, b.1, e.1, 0, P, N, A, c.2, rfl, hS.same (sH2.trans u23), upd_same, u3 _ _ upd_same, ?_, hrow.1, _, rfl, .int (cellAt c.2 e.1 + 0), .int e.2, rfl, ?_, fun H' s' => ⟨true, rfl, ite_f rfl ?_⟩⟩
        · rw [hbc]
          exact look_at hok.2.2.1.1.nodup hc
        · rw [Int.add_zero, cellAt_asc hrow.2 (List.mem_of_getElem? he)]
          exact samI _
        · exact ⟨u1.trans (u23.trans s'), _, _, rfl⟩
      · rintro σ H2 ⟨u1, w4, w5, rfl⟩
        have g2 := g
        have g3 : DGet H2 d2 (.str b.1) (some (.ref b.2)) := by
          have := DGet.fk (k := .inr b.1) (u1 _ _ t2)
          rw [valV_of, look_at rnod hb] at this
          exact this
        have pw : CPow 10 40 := ⟨by decide, by decide, by decide⟩
        refine ⟨_, rfl, kl, _, 2, _, rfl, rfl, SqL.of (u1 _ _ t3), atI_get (i := 2) rfl, _, rfl, d2, _, rfl, g3, _, rfl, .inl ⟨rfl, _, SqL.of (u1 _ _ ht1)⟩, _, _, rfl, rfl, pw, size_le (by show 2 ≤ _; omega), fun t ht => ?_⟩
        have u2 := Same.new (o := .tup [.int (10 ^ (40 : Int).toNat), .int 7]) ht
        have u12 := u1.trans u2
        have hbm : b ∈ rs := List.mem_of_getElem? hb
        have ht1' := u12 _ _ ht1
        refine ⟨b.2, _, _, rfl, rfl, ht1', by rw [List.length_map, hlen]; have := szA_row hcA; exact size_lt (by omega), ?_⟩
        have ne2 : d2 ≠ b.2 := ne_of t2 ht1 (by intro z; cases z)
        have ne0 : d0 ≠ b.2 := ne_of t4 ht1 (by intro z; cases z)
        have ne1 : d1 ≠ b.2 := ne_of t5 ht1 (by intro z; cases z)
        refine ⟨Same.mut (t1.trans u12) (fr b hbm), by rw [upd_ne ne2]; exact u12 _ _ t2, by rw [upd_ne (kn b hbm).symm]; exact u12 _ _ t3, (show _ = _ by rw [upd_ne ne0]; exact u12 _ _ t4), (show _ = _ by rw [upd_ne ne1]; exact u12 _ _ t5), fun j b' c' hj hb' hc' => ?_, _, _, _, _, rfl⟩
        exact ((t6 j b' c' (by omega) hb' hc').same u12).mut ht1' (nodup_ne (f := fun x => x.2) hrn (by omega) hb hb')
    · rintro σ H1 ⟨t1, t2, t3, t4, t5, t6, v3, v4, v5, v6, rfl⟩
      refine ⟨t2, ?_⟩
      obtain ⟨H6, e6⟩ : ∃ H6, H6 = upd H1 d2 (.dK (kvOf V.ref rs)) := ⟨_, rfl⟩
      have s6 : Same H H6 := by rw [e6]; exact Same.mut t1 f2
      have k6 : H6 kl = some (.lst [.ref d0, .ref d1, .ref d2]) := by rw [e6, upd_ne nk2.symm]; exact t3
      have p6 : DiI H6 d0 P := by rw [e6]; exact (show _ = _ by rw [upd_ne n02]; exact t4)
      have q6 : DiI H6 d1 N := by rw [e6]; exact (show _ = _ by rw [upd_ne n12]; exact t5)
      have r6 : H6 d2 = some (.dK (kvOf V.ref rs)) := by rw [e6, upd_same]
      rw [← e6]
      -- the second loop
      refine ⟨d0, _, p6, trivial, fun od2 => ?_⟩
      obtain ⟨HM, eHM⟩ : ∃ HM, HM = upd H6 d0 (.frz od2 (.dK (kvOf V.int P))) := ⟨_, rfl⟩
      have mf : HM d0 = some (.frz od2 (.dK (kvOf V.int P))) := by rw [eHM, upd_same]
      have mk : HM kl = some (.lst [.ref d0, .ref d1, .ref d2]) := by rw [eHM, upd_ne nk0.symm]; exact k6
      have m1 : HM d1 = some (.dK (kvOf V.int N)) := by rw [eHM, upd_ne n01.symm]; exact q6
      have m2 : HM d2 = some (.dK (kvOf V.ref rs)) := by rw [eHM, upd_ne n02.symm]; exact r6
      have sM : Same H HM := by rw [eHM]; exact Same.mut s6 f0
      rw [← eHM]
      refine ⟨_, rfl, kl, _, 0, _, rfl, rfl, SqL.of mk, atI_get (i := 0) rfl, d0, od2, rfl, .inl ⟨_, mf, for_it walk_keys (fun i σ H' => Same HM H' ∧ ∃ v3 v4 v5 v6 : Option V, σ = [some (.ref p), some (.ref q), some (.ref kl), v3, v4, v5, v6, none]) ⟨L2.Same.refl _, _, _, _, _, rfl⟩ (fun i σ H' _ h => h.1 _ _ mf) ?_ ?_⟩⟩
      · rintro i v σ H0' H2 hi ⟨u1, w3, w4, w5, w6, rfl⟩ ⟨rfl, key, vv, hkv, rfl⟩
        obtain ⟨e, he, rfl, rfl⟩ := kvOf_get hkv
        have heP : e ∈ P := List.mem_of_getElem? he
        have hlk := look_at hok.1.1 he
        have sH2 := sM.trans u1
        have g : DGet (upd H2 0 (.dK [])) d0 (.str e.1) (some (.int e.2)) ∨ True := .inr trivial
        refine ⟨_, rfl, p, dx, _, rfl, sH2 _ _ hs.at_, stF_no _ _ _ _, _, rfl, size_le (by show 2 ≤ _; omega), fun u hu => ?_⟩
        have u2 := Same.new (o := .tup [.str e.1, .int 0]) hu
        refine ⟨p, u, e.1, 0, P, N, A, rfl, hS.same (sH2.trans u2), upd_same, .inr ⟨e.2, ?_, hlk, ?_⟩⟩
        · have := hok.1.2 e heP
          exact (okNm_iff.mp this).1
        · have g : DGet (upd H2 u (.tup [.str e.1, .int 0])) d0 (.str e.1) (some (.int e.2)) := by
            have := DGet.fk (k := .inr e.1) (u2 _ _ (u1 _ _ mf))
            rw [valV_of, hlk] at this
            exact this
          refine ⟨_, rfl, kl, _, 0, _, rfl, rfl, SqL.of (u2 _ _ (u1 _ _ mk)), atI_get (i := 0) rfl, _, rfl, d0, _, rfl, g, .int (e.2 + 0), .int e.2, rfl, by rw [Int.add_zero]; exact samI _, fun H' s' => ⟨true, rfl, ite_f rfl ?_⟩⟩
          exact ⟨u1.trans (u2.trans s'), _, _, _, _, rfl⟩
      · rintro σ H2 ⟨u1, w3, w4, w5, w6, rfl⟩
        refine ⟨u1 _ _ mf, ?_⟩
        obtain ⟨H7, e7⟩ : ∃ H7, H7 = upd H2 d0 (.dK (kvOf V.int P)) := ⟨_, rfl⟩
        have s7 : Same H H7 := by rw [e7]; exact Same.mut (sM.trans u1) f0
        have k7 : H7 kl = some (.lst [.ref d0, .ref d1, .ref d2]) := by rw [e7, upd_ne nk0.symm]; exact u1 _ _ mk
        have a0 : H7 d0 = some (.dK (kvOf V.int P)) := by rw [e7, upd_same]
        have a1 : H7 d1 = some (.dK (kvOf V.int N)) := by rw [e7, upd_ne n01.symm]; exact u1 _ _ m1
        have a2 : H7 d2 = some (.dK (kvOf V.ref rs)) := by rw [e7, upd_ne n02.symm]; exact u1 _ _ m2
        rw [← e7]
        -- the third loop
        refine ⟨_, rfl, kl, rfl, ⟨_, SqL.of k7⟩, for_it walk_list (fun i σ H' => Same H H' ∧ H' kl = some (.lst [.ref d0, .ref d1, .ref d2]) ∧ (∃ o, H' d0 = some (.dK o)) ∧ (∃ o, H' d1 = some (.dK o)) ∧ (∃ o, H' d2 = some (.dK o)) ∧ ∃ v3 v4 v5 v6 v7 : Option V, σ = [some (.ref p), some (.ref q), some (.ref kl), v3, v4, v5, v6, v7])
          ⟨s7, k7, ⟨_, a0⟩, ⟨_, a1⟩, ⟨_, a2⟩, _, _, _, _, _, rfl⟩ (fun i σ H' _ h => SqL.of h.2.1) ?_ ?_⟩
        · rintro i v σ H0' H3 hi ⟨r1, r2, r3, r4, r5, w3, w4, w5, w6, w7, rfl⟩ ⟨rfl, hv⟩
          obtain ⟨d, rfl, hd⟩ : ∃ d, v = .ref d ∧ (d = d0 ∨ d = d1 ∨ d = d2) := by
            match i, hi, hv with
            | 0, _, hv => exact ⟨d0, (Option.some.inj hv).symm, .inl rfl⟩
            | 1, _, hv => exact ⟨d1, (Option.some.inj hv).symm, .inr (.inl rfl)⟩
            | 2, _, hv => exact ⟨d2, (Option.some.inj hv).symm, .inr (.inr rfl)⟩
            | n + 3, hi, _ => exact absurd hi (by show ¬ n + 3 < 3; omega)
          obtain ⟨kvs, hkd⟩ : ∃ o, H3 d = some (.dK o) := by
            rcases hd with rfl | rfl | rfl
            · exact r3
            · exact r4
            · exact r5
          have fd : H d = none := by
            rcases hd with rfl | rfl | rfl
            · exact f0
            · exact f1
            · exact f2
          have nkd : kl ≠ d := ne_of r2 hkd (by intro z; cases z)
          have cl : ∀ x, (∃ o, H3 x = some (.dK o)) → ∃ o, upd H3 d (.dK []) x = some (.dK o) := fun x ⟨o, h⟩ => by
            by_cases e : x = d
            · subst e; exact ⟨[], upd_same⟩
            · exact ⟨o, by rw [upd_ne e]; exact h⟩
          exact ⟨_, rfl, .inr (.inr (.inl ⟨rfl, .inl ⟨_, hkd⟩⟩)), d, kvs, rfl, rfl, hkd, Same.mut r1 fd, by rw [upd_ne nkd]; exact r2, cl _ r3, cl _ r4, cl _ r5, _, _, _, _, _, rfl⟩
        · rintro σ H3 ⟨r1, r2, r3, r4, r5, w3, w4, w5, w6, w7, rfl⟩
          have nod := hok.2.2.1.1.nodup
          refine ⟨_, rfl, _, rfl, ⟨p, q, dx, dx', _, _, rfl, rfl, r1 _ _ hs.at_, r1 _ _ hs'.at_, P, N, P', N', A, hS.same r1, hS'.same r1, mP, mN, nod⟩, fun H4 x4 => ?_⟩
          have s4 : Same H H4 := r1.trans x4
          refine ⟨_, rfl, _, rfl, ⟨q, p, dx', dx, _, _, rfl, rfl, s4 _ _ hs'.at_, s4 _ _ hs.at_, P', N', P, N, A, hS'.same s4, hS.same s4, mP', mN', nod⟩, fun H5 x5 => ?_⟩
          have s5 : Same H H5 := s4.trans x5
          refine ⟨_, rfl, p, dx, _, rfl, s5 _ _ hs.at_, p, P, N, A, rfl, hS.same s5, nod, by omega, fun e1 H6 s6 he1 hA1 => ?_⟩
          refine ⟨size_le (by show 3 ≤ _; omega), fun l1 hl1 => ?_⟩
          have s7 := Same.new (o := .lst [.bl true, .bl true, .ref e1]) hl1
          have sA := s5.trans (s6.trans s7)
          refine ⟨_, rfl, q, dx', _, rfl, sA _ _ hs'.at_, q, P', N', A, rfl, hS'.same sA, nod, by omega, fun e2 H8 s8 he2 hA2 => ?_⟩
          refine ⟨size_le (by show 3 ≤ _; omega), fun l2 hl2 => ?_⟩
          have s9 := Same.new (o := .lst [.bl true, .bl true, .ref e2]) hl2
          have hA1' := hA1.r.same (s7.trans (s8.trans s9))
          have hA2' := hA2.r.same s9
          have n12 : e1 ≠ e2 := by
            obtain ⟨us, hu, _⟩ := hA1.r.same s7
            exact ne_of_none hu he2
          refine ⟨.ref l1, .ref l2, rfl, samL ((s8.trans s9) _ _ upd_same) upd_same (by show 3 ≤ _; omega) (.cons (samB _) (.cons (samB _) (.cons (samR_mono (show 4 ≤ 5 by omega) (samDiR n12 hA1' hA2' (by omega) fun c hc => by have := szA_row hc; omega)) .nil))), fun H' s' => ?_⟩
          exact kk _ (sA.trans (s8.trans (s9.trans s')))
end
end A80
end
section
set_option Elab.async false
set_option maxRecDepth 100000
set_option maxHeartbeats 4000000
set_option autoImplicit false
namespace A80
open PySem PySem.Spec L2 PyProof.Rows TL
/-! ### a state, its text, the state read of it -/
def NumD (d : Nat) (P N : Al Int) (A : Al Row) : Prop := (∀ p ∈ P, p.2.natAbs < 10 ^ d) ∧ (∀ p ∈ N, p.2.natAbs < 10 ^ d) ∧ ∀ p ∈ A, ∀ q ∈ p.2, q.1.natAbs < 10 ^ d ∧ q.2.natAbs < 10 ^ d
theorem showI_lenD {d : Nat} {n : Int} (hd : 0 < d) (h : n.natAbs < 10 ^ d) : (showI n).length ≤ d + 1 := by
  have h1 : (numL n.natAbs).length ≤ d := numL_len hd h
  unfold showI
  split
  · rw [List.length_cons]; omega
  · omega
theorem canon_inD {d : Nat} {P N : Al Int} {A : Al Row} (hd : 0 < d) (h : NumD d P N A) : ∀ e ∈ canon P N A, EnI (d + 1) e := by
  obtain ⟨h1, h2, h3⟩ := h
  intro e he
  unfold canon at he
  rcases List.mem_append.mp he with he | he
  · rcases List.mem_append.mp he with he | he
    · obtain ⟨q, hq, rfl⟩ := List.mem_map.mp he
      exact showI_lenD hd (h1 q ((sortK_perm P).mem_iff.mp hq))
    · obtain ⟨q, hq, rfl⟩ := List.mem_map.mp he
      exact showI_lenD hd (h2 q ((sortK_perm N).mem_iff.mp hq))
  · obtain ⟨q, hq, rfl⟩ := List.mem_map.mp he
    exact fun p hp => ⟨showI_lenD hd (h3 q hq p hp).1, showI_lenD hd (h3 q hq p hp).2⟩
theorem NumD.w {d : Nat} {P N : Al Int} {A : Al Row} (hd : d ≤ 61) (h : NumD d P N A) : NumW P N A := by
  have hp : (10 : Nat) ^ d ≤ 10 ^ 61 := Nat.pow_le_pow_right (by omega) hd
  exact ⟨fun p hm => Nat.lt_of_lt_of_le (h.1 p hm) hp, fun p hm => Nat.lt_of_lt_of_le (h.2.1 p hm) hp, fun p hm q hq => ⟨Nat.lt_of_lt_of_le (h.2.2 p hm q hq).1 hp, Nat.lt_of_lt_of_le (h.2.2 p hm q hq).2 hp⟩⟩
theorem canon_wfc {d : Nat} {P N : Al Int} {A : Al Row} (hok : StOk P N A) (hl : ∀ p ∈ A, leastS p.2 = p.2) (hd : d ≤ 60) (h : NumD d P N A) : WFC (canon P N A) := by
  have hp : (10 : Nat) ^ d ≤ 10 ^ 60 := Nat.pow_le_pow_right (by omega) hd
  have hI : ∀ {n : Int}, n.natAbs < 10 ^ d → okI n := fun q => okI_of (Nat.lt_of_lt_of_le q hp)
  refine ⟨fun e he => ?_, canon_asc hok.1.1 hok.2.1.1 hok.2.2.1.1⟩
  unfold canon at he
  rcases List.mem_append.mp he with he | he
  · rcases List.mem_append.mp he with he | he
    · obtain ⟨q, hq, rfl⟩ := List.mem_map.mp he
      have hq := (sortK_perm P).mem_iff.mp hq
      exact ⟨hok.1.2 q hq, hI (h.1 q hq)⟩
    · obtain ⟨q, hq, rfl⟩ := List.mem_map.mp he
      have hq := (sortK_perm N).mem_iff.mp hq
      exact ⟨hok.2.1.2 q hq, hI (h.2.1 q hq)⟩
  · obtain ⟨q, hq, rfl⟩ := List.mem_map.mp he
    exact ⟨hok.2.2.1.2 q hq, (hok.2.2.2 q hq).1, (hok.2.2.2 q hq).2, hl q hq, fun p hp => ⟨hI (h.2.2 q hq p hp).1, hI (h.2.2 q hq p hp).2⟩⟩
theorem text_len {d : Nat} {P N : Al Int} {A : Al Row} {t : Str} (hok : StOk P N A) (hd : 0 < d) (h : NumD d P N A) (ht : tl t = showS (canon P N A)) : t.length ≤ (2 * (d + 1) + 15) * stz P N A := by
  rw [str_len, ht, ← sz_canon]
  exact showS_le (canon_sh hok) (canon_inD hd h)
theorem samM_sort {P : Al Int} (h : (P.map (·.1)).Nodup) : SamM P (sortK P) ∧ SamM (sortK P) P := by
  have hp := sortK_perm P
  have hn : ((sortK P).map (·.1)).Nodup := (hp.map (·.1)).nodup_iff.mpr h
  exact ⟨⟨hp.length_eq.symm, fun p hm => lookS_of hn (hp.mem_iff.mpr hm)⟩, ⟨hp.length_eq, fun p hm => lookS_of h (hp.mem_iff.mp hm)⟩⟩
theorem stOk_sort {P N : Al Int} {A : Al Row} (h : StOk P N A) : StOk (sortK P) (sortK N) A := by
  obtain ⟨⟨a1, a2⟩, ⟨b1, b2⟩, c, d⟩ := h
  exact ⟨⟨((sortK_perm P).map (·.1)).nodup_iff.mpr a1, fun p hp => a2 p ((sortK_perm P).mem_iff.mp hp)⟩, ⟨((sortK_perm N).map (·.1)).nodup_iff.mpr b1, fun p hp => b2 p ((sortK_perm N).mem_iff.mp hp)⟩, c, d⟩
theorem numD_sort {d : Nat} {P N : Al Int} {A : Al Row} (h : NumD d P N A) : NumD d (sortK P) (sortK N) A :=
  ⟨fun p hp => h.1 p ((sortK_perm P).mem_iff.mp hp), fun p hp => h.2.1 p ((sortK_perm N).mem_iff.mp hp), h.2.2⟩
theorem sortK_idem {α : Type} (P : Al α) (h : (P.map (·.1)).Nodup) : sortK (sortK P) = sortK P := sortK_self (sortK_asc h)
theorem canon_sort {P N : Al Int} {A : Al Row} (hP : (P.map (·.1)).Nodup) (hN : (N.map (·.1)).Nodup) : canon (sortK P) (sortK N) A = canon P N A := by
  unfold canon
  rw [sortK_idem P hP, sortK_idem N hN]
theorem stz_sort (P N : Al Int) (A : Al Row) : stz (sortK P) (sortK N) A = stz P N A := by
  unfold stz
  rw [(sortK_perm P).length_eq, (sortK_perm N).length_eq]
/-- two ascending rows of the same entries -/
theorem asc_perm {r r' : Row} (h : Asc r) (h' : Asc r') (hp : r.Perm r') : r = r' := by
  refine List.Perm.eq_of_pairwise (le := fun a b : Int × Int => a.1 < b.1) ?_ h h' hp
  intro a b _ _ h1 h2
  omega
theorem leastOf_rev {row : Row} (h : Asc row) : leastOf row.reverse = leastS row ∧ leastOf row = leastS row := by
  have hn := asc_nodup h
  have hr : (row.reverse.map (·.1)).Nodup := by rw [List.map_reverse]; exact (List.reverse_perm _).nodup_iff.mpr hn
  have e1 : sortA row.reverse = row := asc_perm (sortA_asc hr) h ((sortA_perm _).trans (List.reverse_perm row))
  have e2 : sortA row = row := asc_perm (sortA_asc hn) h (sortA_perm _)
  unfold leastOf
  rw [e1, e2]
  exact ⟨rfl, rfl⟩
end A80
end
section
set_option Elab.async false
set_option maxRecDepth 100000
set_option maxHeartbeats 4000000
set_option autoImplicit false
namespace A80
open PySem PySem.Spec L2 PyProof.Rows TL
/-! ### _law_long_text -/
abbrev S_law_long_text : Stmt := topS 40
theorem sc_law_long_text : FnScope ["_law_script", "_law_at", "_law_drawn", "_law_top", "_law_turn", "_law_place", "_law_row_here", "_law_k", "_law_cells", "_law_state", "_law_again", "_law_value"] ["_law_script", "_law_at"] (defScope S_law_long_text) := ⟨rfl, rfl, rfl, by decide +kernel, rfl, by decide +kernel, by decide +kernel⟩
def nmA : Str := Str.ofString "a"
theorem okN_a : okN nmA := by
  show okNm (tl nmA) = true
  decide +kernel
theorem canon_nil (A : Al Row) : canon [] [] A = A.map fun p => En.ar p.1 p.2 := by
  unfold canon
  rw [sortK_self (show AscK ([] : Al Int) from List.Pairwise.nil)]
  rfl
theorem tl_arr : tl (Str.ofString "array a=") = [97, 114, 114, 97, 121, 32, 97, 61] := by decide +kernel
theorem shown_a (t : Str) (row : Row) (h : tl t = rowT row) : tl (Str.ofString "array a=" ++ t) = showS (canon [] [] [(nmA, row)]) := by
  rw [tl_append, tl_arr, h, canon_nil]
  show _ = showE (.ar nmA row)
  show _ = [97, 114, 114, 97, 121] ++ 32 :: (tl nmA ++ 61 :: rowT row)
  have : tl nmA = [97] := by decide +kernel
  rw [this]
  rfl
theorem inOk_a {row : Row} (h1 : row ≠ []) (h2 : (row.map (·.1)).Nodup) (h3 : row.length ≤ 4000) : InOk [] [] [(nmA, row)] :=
  ⟨⟨List.nodup_nil, fun p hp => by simp at hp⟩, ⟨List.nodup_nil, fun p hp => by simp at hp⟩, ⟨List.pairwise_singleton _ _, fun p hp => by rw [List.mem_singleton.mp hp]; exact okN_a⟩, fun p hp => by rw [List.mem_singleton.mp hp]; exact ⟨h1, h2, h3⟩, Nat.zero_le _, Nat.zero_le _, by show 1 ≤ _; omega⟩
theorem rowsOf_a (row : Row) : rowsOf [(nmA, row)] = [(nmA, leastOf row)] := by
  unfold rowsOf
  rw [sortK_self (show AscK [(nmA, row)] from List.pairwise_singleton _ _)]
  rfl
theorem rd_eq {c : List En} {P N : Al Int} {A : Al Row} {t : Str} (hok : StOk P N A) (hc : WFC c) (h1 : tl t = showS c) (h2 : tl t = showS (canon P N A)) : plsOf c = sortK P ∧ vasOf c = sortK N ∧ arsOf c = A := by
  have : c = canon P N A := showS_inj hc.sh (canon_sh hok) (by rw [← h1, ← h2])
  rw [this]
  exact pls_canon P N A
theorem sortK_nil {α : Type} : sortK ([] : Al α) = [] := sortK_self List.Pairwise.nil
def lims60 : List Int := [10, 5]
def spLText (K : PySem.W.Frag) : Sp := fun vs H Q _ => ∃ (a : Addr) (k : Int) (ns : List Int), vs = [.ref a, .int k] ∧ SqL K H a (ns.map V.int) ∧ 0 ≤ k ∧ ∀ H', Same H H' → Q (.bl true) H'
section
variable {P : Program} {w : World} {K : PySem.W.Frag} {mg : Str → Option Value} {base : Heap} {CS CU : Addr}
theorem cl_law_long_text (T : Tx K mg CS) (D : Df K mg "_law_long_text" S_law_long_text ["_law_script", "_law_at"]) (c_law_draws : Cl P w K mg base 2 "_law_draws" (spDraws K)) (c_law_least : Cl P w K mg base 1 "_law_least" spLeast) (c_State : C8.Mak P w K mg base 2 "State" CS (spInit CS) [])
    (c_show_state : Cl P w K mg base 3 "show_state" (spShow CS)) (c_read_state : ClX P w K mg base 4 "read_state" ["text"] (spReadState CS CU)) (c_eq : C8.Met P w K mg base 1 CS "__eq__" (L2.spEq (EqR80 CS)) []) (c_law_same : Cl P w K mg base 7 "_law_same" (spSame (SamR 6))) :
    Cl P w K mg base 8 "_law_long_text" (spLText K) := by
  have sc := sc_law_long_text
  refine cl_mk D sc (fun vs H Q E h => ?_) (fun f cdv A outer s H vs Q E hr h => ?_)
  · obtain ⟨a, k, ns, rfl, _⟩ := h
    rfl
  · obtain ⟨a, j, ns, rfl, hl, h0, kk⟩ := h
    refine ⟨_, (pss_cons (ps_set (i := 2) sc.nd rfl (Or.inl rfl) (pe_c c_law_draws hr (by decide) rfl (pa_cons (pv 0) (pa_cons (pv 1) (pa_cons (pe_op op_cat (pe_lst (pa_cons pe_int (pa_cons pe_int pa_nil))) (pe_op op_rep (pe_lst (pa_cons pe_int (pa_cons pe_int pa_nil))) pe_int)) pa_nil)))))
      (pss_cons (ps_set (i := 3) sc.nd rfl (Or.inl rfl) pe_int)
      (pss_cons (ps_for PassesOwn.never rfl (pi_range1 rfl T.b_range (pa_cons (pe_callB (call_min2 rfl) (by rfl) T.b_min (by decide +kernel) (pa_cons (pe_ix (ixL K) (pv 2) pe_int (fun _ _ => rfl)) (pa_cons pe_int pa_nil))) pa_nil)) (pg_name (i := 4) sc.nd rfl (Or.inl rfl))
      (pss_one (ps_set (i := 3) sc.nd rfl (Or.inl rfl) (pe_op op_mul (pv 3) pe_int))))
      (pss_cons (ps_set (i := 5) sc.nd rfl (Or.inl rfl) (pe_un un_neg pe_int))
      (pss_cons (ps_set (i := 6) sc.nd rfl (Or.inl rfl) (pe_lst pa_nil))
      (pss_cons (ps_for PassesOwn.never rfl (pi_range1 rfl T.b_range (pa_cons (pe_op op_add pe_int (pe_ix (ixL K) (pv 2) pe_int (fun _ _ => rfl))) pa_nil)) (pg_name (i := 7) sc.nd rfl (Or.inl rfl))
      (pss_cons (ps_set (i := 5) sc.nd rfl (Or.inl rfl) (pe_op op_add (pe_op op_add (pv 5) pe_int) (pe_ix (ixL K) (pv 2) (pe_op op_add pe_int (pe_op op_mul pe_int (pv 7))) (fun _ _ => rfl))))
      (pss_one (ps_expr (pe_bm PySem.F.plainAttrs_list PySem.F.slot_list_append PySem.F.type_list_append mt_append (pv 6) (pa_cons (pe_tup (pa_cons (pe_op op_mul (pv 5) (pv 3)) (pa_cons (pe_op op_mul (pe_op op_sub (pe_ix (ixL K) (pv 2) (pe_op op_add pe_int (pe_op op_mul pe_int (pv 7))) (fun _ _ => rfl)) pe_int) (pv 3)) pa_nil))) pa_nil))))))
      (pss_cons (ps_setLc (i := 8) (own := [("_law_place", 5), ("_law_value", 11)]) rfl sc.nd rfl rfl (sw_true rfl rfl rfl (by decide +kernel)) (piL K (pe_c c_law_least hr (by decide) rfl (pa_cons (pv 6) pa_nil))) (blkOk_by (own := [("_law_place", 5), ("_law_value", 11)]) (N := ["_law_script", "_law_at", "_law_drawn", "_law_top", "_law_turn", "_law_place", "_law_row_here", "_law_k", "_law_cells", "_law_state", "_law_again", "_law_value"]) (sc := (defScope S_law_long_text)) (by decide +kernel)) (fun _ _ _ _ _ => (pgT K (n := 2) rfl (pgs_cons (pg_name (i := 5) sc.nd rfl (Or.inl rfl)) (pgs_cons (pg_name (i := 11) sc.nd rfl (Or.inl rfl)) pgs_nil)))) (fun _ _ _ _ _ => pts_nil) (fun _ _ _ _ _ => (pe_jn (PJ.cons (pe_fmt (pv 5)) (PJ.cons pe_str (PJ.cons (pe_fmt (pv 11)) PJ.nil))))))
      (pss_cons (ps_set (i := 9) sc.nd rfl (Or.inl rfl) (C8.pe_mk c_State hr (by decide) rfl (pa_cons pe_dnewK (pa_cons pe_dnewK (pa_cons (pe_disp (pps_cons pe_str (pe_revL (pv 6)) pps_nil) (by rfl) (by rfl) (fun z => by cases z) (by decide)) pa_nil)))))
      (pss_cons (ps_set (i := 10) sc.nd rfl (Or.inl rfl) (pe_cx c_read_state hr (by decide) rfl (pa_cons (pe_c c_show_state hr (by decide) rfl (pa_cons (pv 9) pa_nil)) pa_nil)))
      (pss_one (ps_ret (pe_c c_law_same hr (by decide) rfl (pa_cons (pe_lst (pa_cons (pe_c c_show_state hr (by decide) rfl (pa_cons (pv 9) pa_nil)) (pa_cons (pe_cmpR (op_eqO c_eq hr (by decide)) (pv 10) (pv 9) (nomark _)) pa_nil))) (pa_cons (pe_lst (pa_cons (pe_op op_add_str pe_str (pe_join pe_str (pv 8))) (pa_cons pe_bl pa_nil))) pa_nil)))))))))))))), ?_⟩
    -- drawn
    refine ⟨_, rfl, _, rfl, size_le (by show 2 ≤ _; omega), fun q hq => ?_⟩
    have s1 := Same.new (o := .lst (([60, 31] : List Int).map V.int)) hq
    refine ⟨size_le (by show 2 ≤ _; omega), fun q2 hq2 => ?_⟩
    have s2 := Same.step (o := .lst (lims60.map V.int)) s1 hq2
    refine ⟨q2, _, lims60.map V.int, rfl, rfl, upd_same, by omega, by omega, by show 2 * 60 ≤ _; exact size_le (by omega), fun q3 hq3 => ?_⟩
    have el : (List.replicate (Int.toNat 60) (lims60.map V.int)).flatten = (List.replicate 60 lims60).flatten.map V.int := rep_map V.int lims60 60
    rw [el]
    have s3 := Same.step (o := .lst ((List.replicate 60 lims60).flatten.map V.int)) s2 hq3
    have hq1 : upd (upd (upd H q (.lst (([60, 31] : List Int).map V.int))) q2 (.lst (lims60.map V.int))) q3 (.lst ((List.replicate 60 lims60).flatten.map V.int)) q = some (.lst (([60, 31] : List Int).map V.int)) :=
      (Same.step (Same.new hq2) hq3) _ _ upd_same
    refine ⟨q, q3, ([60, 31] : List Int).map V.int, _, rfl, rfl, hq1, upd_same, by rw [List.length_map, List.length_map, rep_len]; exact size_le (by show 2 + 60 * 2 ≤ _; omega), fun l hl2 => ?_⟩
    rw [← List.map_append]
    have s4 := Same.step (o := .lst ((([60, 31] : List Int) ++ (List.replicate 60 lims60).flatten).map V.int)) s3 hl2
    refine ⟨a, j, ns, l, [60, 31] ++ (List.replicate 60 lims60).flatten, rfl, hl.sm s4, h0, upd_same, fun x hx => ?_, ?_, fun p H1 ds s5 hp hpl hds => ?_⟩
    · rcases List.mem_append.mp hx with hx | hx
      · revert hx
        revert x
        decide
      · have := rep_mem hx
        revert this
        revert x
        decide
    · rw [List.length_append, rep_len]
      show 2 + 60 * 2 ≤ _
      omega
    have s5 := s4.trans s5
    obtain ⟨d0, e0, b0, c0⟩ := drawn_get hds (i := 0) (q := 60) rfl
    obtain ⟨d1, e1, b1, c1⟩ := drawn_get hds (i := 1) (q := 31) rfl
    have get : ∀ {i t : Nat} {q : Int}, i < 60 → lims60[t]? = some q → ∃ d, ds[2 + (2 * i + t)]? = some d ∧ 0 ≤ d ∧ d < q := fun {i t q} hi e => by
      have g := rep_get (xs := lims60) (j := t) (a := q) e hi
      refine drawn_get hds (i := 2 + (2 * i + t)) ?_
      rw [List.getElem?_append_right (by show 2 ≤ _; omega)]
      rw [← g]
      congr 1
      show 2 + (2 * i + t) - 2 = 2 * i + t
      omega
    -- top
    obtain ⟨n, hn⟩ : ∃ n : Nat, n = (if (27 : Int) < d1 then 27 else d1).toNat := ⟨_, rfl⟩
    have hn27 : n ≤ 27 := by rw [hn]; split <;> omega
    refine ⟨_, rfl, p, _, 1, _, rfl, rfl, SqL.of hpl, atI_int (i := 1) rfl e1, _, _, rfl, _, rfl, by split <;> omega, by split <;> omega, ?_⟩
    rw [← hn]
    refine for_it walk_r0 (fun i σ H' => H' = H1 ∧ ∃ v4 : Option V, σ = [some (.ref a), some (.int j), some (.ref p), some (.int (10 ^ i)), v4, none, none, none, none, none, none, none]) ⟨rfl, _, rfl⟩ (fun _ _ _ _ _ => trivial) ?_ ?_
    · rintro i x σ H2 H3 hi ⟨rfl, v4, rfl⟩ ⟨rfl, rfl⟩
      refine ⟨_, rfl, _, _, rfl, rfl, .inr (by decide), rfl, some (.int (i : Nat)), ?_⟩
      rw [Int.pow_succ]
      rfl
    rintro σ H2 ⟨rfl, v4, rfl⟩
    obtain ⟨top, htp⟩ : ∃ top : Int, top = 10 ^ n := ⟨_, rfl⟩
    rw [← htp]
    have top1 : 0 < top := by rw [htp]; exact Int.pow_pos (by decide)
    have top2 : top ≤ 10 ^ 27 := by
      rw [htp]
      rcases Nat.exists_eq_add_of_le hn27 with ⟨d, hd⟩
      rw [hd, Int.pow_add]
      have h1 : (0 : Int) < 10 ^ d := Int.pow_pos (by decide)
      have h2 : (0 : Int) < 10 ^ n := Int.pow_pos (by decide)
      calc (10 : Int) ^ n = 10 ^ n * 1 := (Int.mul_one _).symm
        _ ≤ 10 ^ n * 10 ^ d := Int.mul_le_mul_of_nonneg_left (by omega) (by omega)
    -- place = -40, row = []
    refine ⟨_, rfl, size_le (by show 0 ≤ _; omega), fun r hr0 => ?_⟩
    have s6 := Same.step (o := .lst []) s5 hr0
    have hrp : r ≠ p := fun e => by rw [e, hpl] at hr0; cases hr0
    have hrH : H r = none := s5.free hr0
    have hpl6 := (Same.new (o := .lst []) hr0) _ _ hpl
    obtain ⟨m, hm⟩ : ∃ m : Nat, m = (1 + d0).toNat := ⟨_, rfl⟩
    refine ⟨_, rfl, p, _, 0, _, rfl, rfl, SqL.of hpl6, atI_int (i := 0) rfl e0, _, _, rfl, rfl, _, rfl, by omega, by omega, ?_⟩
    rw [← hm]
    refine for_it walk_r0 (fun i σ H' => Same H H' ∧ H' p = some (.lst (ds.map V.int)) ∧ ∃ (ts : List Addr) (row : Row) (pl : Int) (v7 : Option V), σ = [some (.ref a), some (.int j), some (.ref p), some (.int top), v4, some (.int pl), some (.ref r), v7, none, none, none, none] ∧
        H' r = some (.lst (ts.map V.ref)) ∧ Paired (PrAt H') ts row ∧ row.length = i ∧ Asc row ∧ -40 ≤ pl ∧ pl ≤ -40 + 10 * (i : Int) ∧ ∀ e ∈ row, -40 * top ≤ e.1 ∧ e.1 ≤ pl * top ∧ -2 * top ≤ e.2 ∧ e.2 ≤ 2 * top)
      ⟨s6, hpl6, [], [], -40, none, rfl, upd_same, .nil, rfl, List.Pairwise.nil, by omega, by omega, fun e he => by simp at he⟩ (fun _ _ _ _ _ => trivial) ?_ ?_
    · rintro i x σ H3 H4 hi ⟨t1, t2, ts, row, pl, v7, rfl, t3, t4, t5, t6, t7, t8, t9⟩ ⟨rfl, rfl⟩
      obtain ⟨da, ea, ba, ca⟩ := get (i := i) (t := 0) (by omega) rfl
      obtain ⟨db, eb, bb, cb⟩ := get (i := i) (t := 1) (by omega) rfl
      refine ⟨_, rfl, _, _, rfl, rfl, _, rfl, _, rfl, _, _, rfl, rfl, .inl (by decide), _, _, rfl, rfl, p, _, _, _, rfl, rfl, SqL.of t2, atI_int (by show 2 + (2 : Int) * (i : Int) = _; simp) ea, _, _, rfl, rfl, ?_⟩
      have pb : -40 ≤ pl + 1 + da ∧ pl + 1 + da ≤ -40 + 10 * ((i + 1 : Nat) : Int) := ⟨by omega, by omega⟩
      have ic : (i : Int) < 60 := by omega
      refine ⟨_, rfl, .inl ⟨rfl, _, SqL.of t3⟩, _, rfl, _, rfl, _, _, rfl, rfl, .inl ⟨by omega, by omega⟩, _, rfl, _, rfl, _, _, rfl, rfl, .inl (by decide), _, _, rfl, rfl, p, _, _, _, rfl, rfl, SqL.of t2, atI_int (by show 3 + (2 : Int) * (i : Int) = ((2 + (2 * i + 1) : Nat) : Int); omega) eb, _, _, rfl, rfl, _, rfl, _, _, rfl, rfl, .inl ⟨by omega, by omega⟩, size_le (by show 2 ≤ _; omega), fun t ht => ?_⟩
      have u1 := Same.new (o := .tup [.int ((pl + 1 + da) * top), .int ((db - 2) * top)]) ht
      have hlr := paired_len t4
      refine ⟨r, _, _, rfl, rfl, u1 _ _ t3, by rw [List.length_map]; exact size_lt (by omega), ?_⟩
      have hpr : p ≠ r := hrp.symm
      have tr : t ≠ r := fun e => by rw [e, t3] at ht; cases ht
      have m1 : -40 * top ≤ (pl + 1 + da) * top := Int.mul_le_mul_of_nonneg_right (by omega) (by omega)
      have m2 : pl * top < (pl + 1 + da) * top := Int.mul_lt_mul_of_pos_right (by omega) top1
      have m3 : -2 * top ≤ (db - 2) * top := Int.mul_le_mul_of_nonneg_right (by omega) (by omega)
      have m4 : (db - 2) * top ≤ 2 * top := Int.mul_le_mul_of_nonneg_right (by omega) (by omega)
      refine ⟨Same.mut (t1.trans u1) hrH, by rw [upd_ne hpr]; exact u1 _ _ t2, ts ++ [t], row ++ [((pl + 1 + da) * top, (db - 2) * top)], pl + 1 + da, _, rfl, by rw [upd_same, List.map_append]; rfl, ?_, by rw [List.length_append, t5]; rfl, ?_, pb.1, pb.2, fun e he => ?_⟩
      · refine paired_imp (fun b c (w : PrAt (upd H4 t (.tup [.int ((pl + 1 + da) * top), .int ((db - 2) * top)])) b c) => ?_) (paired_snoc (prs_same u1 t4) upd_same)
        show upd _ r _ b = _
        rw [upd_ne (ne_of w (u1 _ _ t3) (by intro z; cases z))]
        exact w
      · refine List.pairwise_append.mpr ⟨t6, List.pairwise_singleton _ _, fun x hx y hy => ?_⟩
        rw [List.mem_singleton.mp hy]
        have := (t9 x hx).2.1
        show x.1 < (pl + 1 + da) * top
        omega
      · rcases List.mem_append.mp he with he | he
        · have := t9 e he
          omega
        · rw [List.mem_singleton.mp he]
          exact ⟨m1, Int.le_refl _, m3, m4⟩
    rintro σ H3 ⟨t1, t2, ts, row, pl, v7, rfl, t3, t4, t5, t6, t7, t8, t9⟩
    have hne : row ≠ [] := fun e => by rw [e] at t5; simp at t5; omega
    have hnd := asc_nodup t6
    have hml : row.length ≤ 60 := by omega
    have hrA : RowAt H3 r row := ⟨ts, t3, t4⟩
    have bnd : ∀ e ∈ row, e.1.natAbs < 10 ^ 30 ∧ e.2.natAbs < 10 ^ 30 := fun e he => by
      obtain ⟨x1, x2, x3, x4⟩ := t9 e he
      have m1 : pl * top ≤ 600 * top := Int.mul_le_mul_of_nonneg_right (by omega) (by omega)
      have p30 : (10 : Int) ^ 30 = 1000 * 10 ^ 27 := by decide +kernel
      have p30n : (((10 : Nat) ^ 30 : Nat) : Int) = (10 : Int) ^ 30 := by decide +kernel
      constructor <;> omega
    -- cells
    refine ⟨_, rfl, r, row, rfl, hrA, hne, hnd, by omega, fun g H4 s7 hg hgr => ?_⟩
    obtain ⟨lr, elr⟩ : ∃ lr, lr = leastS row := ⟨_, rfl⟩
    obtain ⟨lo1, lo2⟩ := leastOf_rev t6
    rw [← elr] at lo1 lo2
    rw [lo2] at hgr
    obtain ⟨gs, hg1, hg2⟩ := hgr
    have lrl : lr.length ≤ 60 := by rw [elr]; exact Nat.le_trans (leastS_len row) hml
    have lrne : lr ≠ [] := by rw [elr]; exact leastS_ne hne
    have lra : Asc lr := by rw [elr]; exact leastS_asc t6
    have lri : leastS lr = lr := by rw [elr]; exact leastS_idem row
    have lrb : ∀ q ∈ lr, q.1.natAbs < 10 ^ 31 ∧ q.2.natAbs < 10 ^ 31 := fun q hq => by
      rw [elr] at hq
      obtain ⟨⟨p1, h1, e1⟩, h2⟩ := leastS_mem hq
      have b1 := (bnd p1 h1).2
      have p31 : (10 : Nat) ^ 31 = 10 * 10 ^ 30 := by decide +kernel
      refine ⟨?_, by rw [e1]; omega⟩
      rcases h2 with h2 | h2 | ⟨p2, hp2, h2⟩
      · have := (bnd q h2).1; omega
      · rw [h2]; decide +kernel
      · have := (bnd p2 hp2).1
        rw [h2]
        omega
    have hok : StOk [] [] [(nmA, lr)] := ⟨⟨List.nodup_nil, fun p hp => by simp at hp⟩, ⟨List.nodup_nil, fun p hp => by simp at hp⟩, ⟨List.pairwise_singleton _ _, fun p hp => by rw [List.mem_singleton.mp hp]; exact okN_a⟩, fun p hp => by rw [List.mem_singleton.mp hp]; exact ⟨lrne, lra⟩⟩
    have hnum : NumD 31 [] [] [(nmA, lr)] := ⟨fun p hp => by simp at hp, fun p hp => by simp at hp, fun p hp q hq => by rw [List.mem_singleton.mp hp] at hq; exact lrb q hq⟩
    have hstz : stz [] [] [(nmA, lr)] ≤ 61 := by
      show 0 + 0 + ((1 + lr.length) + 0) ≤ 61
      omega
    have hwfc := canon_wfc hok (fun p hp => by rw [List.mem_singleton.mp hp]; exact lri) (by omega) hnum
    refine ⟨g, rfl, ⟨_, SqL.of hg1⟩, fun D3 hD3 => lc_grow walk_list hD3 (by rw [List.length_map, paired_len hg2]; omega) (fun H' s => SqL.of (s _ _ hg1))
      (fun j acc _ => ∃ cs : List Str, acc = cs.map V.str ∧ cs.map tl = (lr.take j).map showC) (fun _ _ _ _ _ _ _ h => h) ⟨[], rfl, rfl⟩ ?_ ?_⟩
    · rintro j v acc H12 H13 N1 N0 hj s12 hDl ha ⟨cs, rfl, hcs⟩ k1 k0 ⟨rfl, hv⟩
      obtain ⟨u, hu, rfl⟩ := get_map_ref hv
      obtain ⟨c, hc, hcu⟩ := paired_get hg2 hu
      have wpow : (10 : Nat) ^ 31 ≤ 10 ^ 61 := by decide +kernel
      have w1 : okW c.1 := Nat.lt_of_lt_of_le (lrb c (List.mem_of_getElem? hc)).1 wpow
      have w2 : okW c.2 := Nat.lt_of_lt_of_le (lrb c (List.mem_of_getElem? hc)).2 wpow
      have i1 := int_tlen w1
      have i2 := int_tlen w2
      have e0 : (Str.empty : Str).length = 0 := rfl
      have e2 : (Str.ofString ":" : Str).length = 1 := rfl
      have l1 : (Str.empty ++ Str.ofString (toString c.1)).length ≤ 62 := by rw [len_app, e0]; omega
      have l2 : (Str.empty ++ Str.ofString (toString c.1) ++ Str.ofString ":").length ≤ 63 := by rw [len_app, e2]; omega
      have l3 : (Str.empty ++ Str.ofString (toString c.1) ++ Str.ofString ":" ++ Str.ofString (toString c.2)).length ≤ 125 := by rw [len_app]; omega
      refine ⟨u, _, rfl, SqT.of (hcu.same s12), rfl, _, _, rfl, _, _, rfl, rfl, rfl, _, rfl, .inr ⟨c.1, rfl, okW_log w1, _, rfl, size_le (Nat.le_trans l1 (by omega)), _, rfl, size_le (Nat.le_trans l2 (by omega)), _, rfl, .inr ⟨c.2, rfl, okW_log w2, _, rfl, size_le (Nat.le_trans l3 (by omega)),
        k1 _ _ (L2.Same.refl _) ⟨cs ++ [Str.empty ++ Str.ofString (toString c.1) ++ Str.ofString ":" ++ Str.ofString (toString c.2)], by rw [List.map_append]; rfl, ?_⟩⟩⟩⟩
      rw [take_succ_get hc, List.map_append, List.map_append, hcs, List.map_singleton, List.map_singleton, shown_c]
    rintro acc H5 s8 hDl ha ⟨cs, rfl, hcs⟩
    rw [List.take_of_length_le (by rw [List.length_map, paired_len hg2]; omega)] at hcs
    have lcs : cs.length = lr.length := by have := congrArg List.length hcs; rw [List.length_map, List.length_map] at this; omega
    have hsm := join_sum 1 cs _ hcs
    have hrt := rowT_small (row := lr) fun q hq => (hnum.w (by omega)).2.2 (nmA, lr) (List.mem_singleton.mpr rfl) q hq
    have hnl : lr.map showC ≠ [] := fun z => lrne (List.map_eq_nil_iff.mp z)
    have hjl2 : (rowT lr).length + 1 = ((lr.map showC).map fun p => p.length + 1).sum := joinL_len [44] hnl
    have hjoin : tl (Txt.join (Str.ofString ",") cs) = rowT lr := by
      rw [join_eq, tl_join, tl_comma, hcs]
      rfl
    have hjlen : (Txt.join (Str.ofString ",") cs).length = (rowT lr).length := by rw [str_len, hjoin]
    -- state
    have s78 := s7.trans s8
    refine fun f1 hf1 => ?_
    refine fun f2 hf2 => ?_
    refine fun f3 hf3 => ?_
    have w1 := Same.new (o := .dK []) hf1
    have w2 := Same.new (o := .dK []) hf2
    have w3 := Same.new (o := .dK []) hf3
    have w13 := w1.trans (w2.trans w3)
    have hr6 := (s78.trans w13) _ _ t3
    have hrp6 := prs_same (s78.trans w13) t4
    refine ⟨_, rfl, r, _, rfl, SqL.of hr6, fun rv hrv => ?_⟩
    rw [← List.map_reverse]
    have w4 := Same.new (o := .lst (ts.reverse.map V.ref)) hrv
    have n3 : f3 ≠ rv := ne_of_none upd_same hrv
    refine ⟨by rw [upd_ne n3, upd_same], [(.inr nmA, .ref rv)], rfl, by show 1 ≤ 15; omega, ?_⟩
    obtain ⟨H6, e6⟩ : ∃ H6, H6 = upd (upd (upd (upd (upd H5 f1 (.dK [])) f2 (.dK [])) f3 (.dK [])) rv (.lst (ts.reverse.map V.ref))) f3 (.dK (mergeK [] [(.inr nmA, .ref rv)])) := ⟨_, rfl⟩
    rw [← e6]
    have s56 : Same H5 H6 := by rw [e6]; exact Same.mut (w1.trans (w2.trans (w3.trans w4))) ((w1.trans w2).free hf3)
    have n13 : f1 ≠ f3 := ne_of_none (w2 _ _ upd_same) hf3
    have n23 : f2 ≠ f3 := ne_of_none upd_same hf3
    have d1 : DiI H6 f1 [] := by rw [e6]; show upd _ f3 _ f1 = _; rw [upd_ne n13]; exact (w2.trans (w3.trans w4)) _ _ upd_same
    have d2 : DiI H6 f2 [] := by rw [e6]; show upd _ f3 _ f2 = _; rw [upd_ne n23]; exact (w3.trans w4) _ _ upd_same
    have hrv6 : RowAt H6 rv row.reverse := by
      rw [e6]
      refine ⟨ts.reverse, by rw [upd_ne n3.symm, upd_same], paired_imp (fun t q (z : PrAt (upd (upd (upd H5 f1 (.dK [])) f2 (.dK [])) f3 (.dK [])) t q) => ?_) (prs_rev hrp6)⟩
      show upd _ f3 _ t = _
      rw [upd_ne (ne_of z upd_same (by intro z; cases z))]
      exact w4 _ _ z
    have d3 : DiR H6 f3 [(nmA, row.reverse)] := ⟨[(nmA, rv)], by rw [e6, upd_same]; rfl, .cons ⟨rfl, hrv6⟩ .nil⟩
    have s16 := t1.trans (s78.trans s56)
    refine fun x dx hx hdx hxd => ?_
    refine ⟨x, dx, H6, f1, f2, f3, [], [], [(nmA, row.reverse)], rfl, hx, hdx, hxd, rfl, d1, d2, d3, inOk_a (fun z => hne (List.reverse_eq_nil_iff.mp z)) (by rw [List.map_reverse]; exact (List.reverse_perm _).nodup_iff.mpr hnd) (by rw [List.length_reverse]; omega), fun H7 s67 hX => ⟨rfl, ?_⟩⟩
    rw [rowsOf_a, lo1] at hX
    -- again
    refine ⟨_, rfl, x, [], [], [(nmA, lr)], rfl, hX, hok, hnum.w (by omega), by omega, fun tx H8 s9 htx => ?_⟩
    have tlen := text_len hok (by omega) hnum htx
    refine ⟨tx, rfl, by omega, fun c hc hcx y H9 s10 hy hY => ?_, fun no => absurd ⟨_, hwfc, htx⟩ no⟩
    obtain ⟨c1, c2, c3⟩ := rd_eq hok hc hcx htx
    rw [c1, c2, c3, sortK_nil] at hY
    have hX9 := hX.same (s9.trans s10)
    -- the end
    refine ⟨_, rfl, x, [], [], [(nmA, lr)], rfl, hX9, hok, hnum.w (by omega), by omega, fun ty H10 s11 hty => ?_⟩
    have etx : ty = tx := ext_tl (by rw [hty, htx])
    subst etx
    have hX10 := hX9.same s11
    have hY10 := hY.same s11
    obtain ⟨xd, x1, x2, x3, hxs⟩ := id hX10
    obtain ⟨yd, y1, y2, y3, hys⟩ := id hY10
    have sm0 : SamM [] [] := ⟨rfl, fun p hp => by simp at hp⟩
    refine ⟨_, rfl, _, rfl, ⟨y, x, yd, xd, _, _, rfl, rfl, hys.at_, hxs.at_, [], [], [], [], [(nmA, lr)], hY10, hX10, sm0, sm0, List.pairwise_singleton _ _⟩, fun H11 s12 => ?_⟩
    refine ⟨size_le (by show 2 ≤ _; omega), fun l1 hl1 => ?_⟩
    have s13 := Same.new (o := .lst [.str ty, .bl true]) hl1
    have sD : Same H5 (upd H11 l1 (.lst [.str ty, .bl true])) := s56.trans (s67.trans (s9.trans (s10.trans (s11.trans (Same.trans s12 s13)))))
    have e1 : (Str.ofString "array a=" : Str).length = 8 := rfl
    have e3 : (Str.ofString "," : Str).length = 1 := rfl
    refine ⟨⟨_, rfl⟩, _, rfl, Str.ofString ",", D3, cs, rfl, rfl, .inl (SqL.of (sD _ _ hDl)), ?_, _, _, rfl, rfl, size_le (by rw [e1, hjlen]; omega), size_le (by show 2 ≤ _; omega), fun l2 hl2 => ?_⟩
    · rw [e3, hsm]
      omega
    have s14 := Same.new (o := .lst [.str (Str.ofString "array a=" ++ Txt.join (Str.ofString ",") cs), .bl true]) hl2
    have ety : ty = Str.ofString "array a=" ++ Txt.join (Str.ofString ",") cs := ext_tl (by rw [hty, shown_a _ _ hjoin])
    refine ⟨.ref l1, .ref l2, rfl, samL (s14 _ _ upd_same) upd_same (by show 2 ≤ _; omega) (.cons (by rw [← ety]; exact samS _) (.cons (samB _) .nil)), fun H' s' => ?_⟩
    exact kk _ (s16.trans (s67.trans (s9.trans (s10.trans (s11.trans (Same.trans s12 (s13.trans (s14.trans s'))))))))
end
end A80
end
section
set_option Elab.async false
set_option maxRecDepth 100000
set_option maxHeartbeats 4000000
set_option autoImplicit false
namespace A80
open PySem PySem.Spec L2 PyProof.Rows TL
/-! ### _law_wide_text -/
abbrev S_law_wide_text : Stmt := topS 41
theorem sc_law_wide_text : FnScope ["_law_script", "_law_at", "_law_drawn", "_law_row_here", "_law_place", "_law_k", "_law_due", "_law_text", "_law_read", "_law_value"] ["_law_script", "_law_at"] (defScope S_law_wide_text) := ⟨rfl, rfl, rfl, by decide +kernel, rfl, by decide +kernel, by decide +kernel⟩
def lims150 : List Int := [4, 5]
section
variable {P : Program} {w : World} {K : PySem.W.Frag} {mg : Str → Option Value} {base : Heap} {CS CU : Addr}
theorem cl_law_wide_text (T : Tx K mg CS) (D : Df K mg "_law_wide_text" S_law_wide_text ["_law_script", "_law_at"]) (c_law_draws : Cl P w K mg base 2 "_law_draws" (spDraws K)) (c_law_least : Cl P w K mg base 1 "_law_least" spLeast)
    (c_show_state : Cl P w K mg base 3 "show_state" (spShow CS)) (c_read_state : ClX P w K mg base 4 "read_state" ["text"] (spReadState CS CU)) (c_len : C8.Met P w K mg base 1 CS "__len__" (spLen CS) []) (c_law_same : Cl P w K mg base 7 "_law_same" (spSame (SamR 6)))
    (c_p_places : Prp P w K mg base 1 CS "places" (spPlaces CS)) (c_p_arrays : Prp P w K mg base 1 CS "arrays" (spArrays CS)) :
    Cl P w K mg base 8 "_law_wide_text" (spLText K) := by
  have sc := sc_law_wide_text
  refine cl_mk D sc (fun vs H Q E h => ?_) (fun f cdv A outer s H vs Q E hr h => ?_)
  · obtain ⟨a, k, ns, rfl, _⟩ := h
    rfl
  · obtain ⟨a, j, ns, rfl, hl, h0, kk⟩ := h
    refine ⟨_, (pss_cons (ps_set (i := 2) sc.nd rfl (Or.inl rfl) (pe_c c_law_draws hr (by decide) rfl (pa_cons (pv 0) (pa_cons (pv 1) (pa_cons (pe_op op_cat (pe_lst (pa_cons pe_int pa_nil)) (pe_op op_rep (pe_lst (pa_cons pe_int (pa_cons pe_int pa_nil))) pe_int)) pa_nil)))))
      (pss_cons (ps_set (i := 3) sc.nd rfl (Or.inl rfl) (pe_lst pa_nil))
      (pss_cons (ps_set (i := 4) sc.nd rfl (Or.inl rfl) (pe_un un_neg pe_int))
      (pss_cons (ps_for PassesOwn.never rfl (pi_range1 rfl T.b_range (pa_cons (pe_op op_add pe_int (pe_ix (ixL K) (pv 2) pe_int (fun _ _ => rfl))) pa_nil)) (pg_name (i := 5) sc.nd rfl (Or.inl rfl))
      (pss_cons (ps_set (i := 4) sc.nd rfl (Or.inl rfl) (pe_op op_add (pe_op op_add (pv 4) pe_int) (pe_ix (ixL K) (pv 2) (pe_op op_add pe_int (pe_op op_mul pe_int (pv 5))) (fun _ _ => rfl))))
      (pss_one (ps_expr (pe_bm PySem.F.plainAttrs_list PySem.F.slot_list_append PySem.F.type_list_append mt_append (pv 3) (pa_cons (pe_tup (pa_cons (pv 4) (pa_cons (pe_op op_add (pe_op op_mul (pe_ix (ixL K) (pv 2) (pe_op op_add pe_int (pe_op op_mul pe_int (pv 5))) (fun _ _ => rfl)) pe_int) (pe_op op_mod (pe_callTy call_int1 (by rfl) T.b_int (by decide +kernel) (pa_cons (pv 5) pa_nil)) pe_int)) pa_nil))) pa_nil))))))
      (pss_cons (ps_set (i := 6) sc.nd rfl (Or.inl rfl) (pe_c c_law_least hr (by decide) rfl (pa_cons (pv 3) pa_nil)))
      (pss_cons (ps_set (i := 7) sc.nd rfl (Or.inl rfl) (pe_op op_add_str pe_str (pe_join pe_str (pe_lc (own := [("_law_place", 4), ("_law_value", 9)]) rfl sc.nd (piL K (pv 6)) (blkOk_by (own := [("_law_place", 4), ("_law_value", 9)]) (N := ["_law_script", "_law_at", "_law_drawn", "_law_row_here", "_law_place", "_law_k", "_law_due", "_law_text", "_law_read", "_law_value"]) (sc := (defScope S_law_wide_text)) (by decide +kernel)) (fun _ _ _ _ _ => (pgT K (n := 2) rfl (pgs_cons (pg_name (i := 4) sc.nd rfl (Or.inl rfl)) (pgs_cons (pg_name (i := 9) sc.nd rfl (Or.inl rfl)) pgs_nil)))) (fun _ _ _ _ _ => pts_nil) (fun _ _ _ _ _ => (pe_jn (PJ.cons (pe_fmt (pv 4)) (PJ.cons pe_str (PJ.cons (pe_fmt (pv 9)) PJ.nil)))))))))
      (pss_cons (ps_set (i := 8) sc.nd rfl (Or.inl rfl) (pe_cx c_read_state hr (by decide) rfl (pa_cons (pv 7) pa_nil)))
      (pss_one (ps_ret (pe_c c_law_same hr (by decide) rfl (pa_cons (pe_lst (pa_cons (pe_p c_p_arrays hr (by decide) (pv 8) rfl) (pa_cons (pe_p c_p_places hr (by decide) (pv 8) rfl) (pa_cons (pe_callB (call_lenO c_len hr (by decide)) (by rfl) T.b_len (by decide +kernel) (pa_cons (pv 8) pa_nil)) (pa_cons (pe_c c_show_state hr (by decide) rfl (pa_cons (pv 8) pa_nil)) pa_nil))))) (pa_cons (pe_lst (pa_cons (pe_disp (pps_cons pe_str (pv 6) pps_nil) (by rfl) (by rfl) (fun z => by cases z) (by decide)) (pa_cons pe_dnewK (pa_cons pe_int (pa_cons (pv 7) pa_nil))))) pa_nil)))))))))))), ?_⟩
    -- drawn
    refine ⟨_, rfl, _, rfl, size_le (by show 1 ≤ _; omega), fun q hq => ?_⟩
    have s1 := Same.new (o := .lst (([90] : List Int).map V.int)) hq
    refine ⟨size_le (by show 2 ≤ _; omega), fun q2 hq2 => ?_⟩
    have s2 := Same.step (o := .lst (lims150.map V.int)) s1 hq2
    refine ⟨q2, _, lims150.map V.int, rfl, rfl, upd_same, by omega, by omega, by show 2 * 150 ≤ _; exact size_le (by omega), fun q3 hq3 => ?_⟩
    have el : (List.replicate (Int.toNat 150) (lims150.map V.int)).flatten = (List.replicate 150 lims150).flatten.map V.int := rep_map V.int lims150 150
    rw [el]
    have s3 := Same.step (o := .lst ((List.replicate 150 lims150).flatten.map V.int)) s2 hq3
    have hq1 : upd (upd (upd H q (.lst (([90] : List Int).map V.int))) q2 (.lst (lims150.map V.int))) q3 (.lst ((List.replicate 150 lims150).flatten.map V.int)) q = some (.lst (([90] : List Int).map V.int)) :=
      (Same.step (Same.new hq2) hq3) _ _ upd_same
    refine ⟨q, q3, ([90] : List Int).map V.int, _, rfl, rfl, hq1, upd_same, by rw [List.length_map, List.length_map, rep_len]; exact size_le (by show 1 + 150 * 2 ≤ _; omega), fun l hl2 => ?_⟩
    rw [← List.map_append]
    have s4 := Same.step (o := .lst ((([90] : List Int) ++ (List.replicate 150 lims150).flatten).map V.int)) s3 hl2
    refine ⟨a, j, ns, l, [90] ++ (List.replicate 150 lims150).flatten, rfl, hl.sm s4, h0, upd_same, fun x hx => ?_, ?_, fun p H1 ds s5 hp hpl hds => ?_⟩
    · rcases List.mem_append.mp hx with hx | hx
      · revert hx
        revert x
        decide
      · have := rep_mem hx
        revert this
        revert x
        decide
    · rw [List.length_append, rep_len]
      show 1 + 150 * 2 ≤ _
      omega
    have s5 := s4.trans s5
    obtain ⟨d0, e0, b0, c0⟩ := drawn_get hds (i := 0) (q := 90) rfl
    have get : ∀ {i t : Nat} {q : Int}, i < 150 → lims150[t]? = some q → ∃ d, ds[1 + (2 * i + t)]? = some d ∧ 0 ≤ d ∧ d < q := fun {i t q} hi e => by
      have g := rep_get (xs := lims150) (j := t) (a := q) e hi
      refine drawn_get hds (i := 1 + (2 * i + t)) ?_
      rw [List.getElem?_append_right (by show 1 ≤ _; omega)]
      rw [← g]
      congr 1
      show 1 + (2 * i + t) - 1 = 2 * i + t
      omega
    -- row = [], place = -50
    refine ⟨size_le (by show 0 ≤ _; omega), fun r hr0 => ?_⟩
    have s6 := Same.step (o := .lst []) s5 hr0
    have hrp : r ≠ p := fun e => by rw [e, hpl] at hr0; cases hr0
    have hrH : H r = none := s5.free hr0
    have hpl6 := (Same.new (o := .lst []) hr0) _ _ hpl
    obtain ⟨m, hm⟩ : ∃ m : Nat, m = (61 + d0).toNat := ⟨_, rfl⟩
    refine ⟨_, rfl, _, rfl, p, _, 0, _, rfl, rfl, SqL.of hpl6, atI_int (i := 0) rfl e0, _, _, rfl, rfl, _, rfl, by omega, by omega, ?_⟩
    rw [← hm]
    refine for_it walk_r0 (fun i σ H' => Same H H' ∧ H' p = some (.lst (ds.map V.int)) ∧ ∃ (ts : List Addr) (row : Row) (pl : Int) (v5 : Option V), σ = [some (.ref a), some (.int j), some (.ref p), some (.ref r), some (.int pl), v5, none, none, none, none] ∧
        H' r = some (.lst (ts.map V.ref)) ∧ Paired (PrAt H') ts row ∧ row.length = i ∧ Asc row ∧ -50 ≤ pl ∧ pl ≤ -50 + 4 * (i : Int) ∧ ∀ e ∈ row, -50 ≤ e.1 ∧ e.1 ≤ pl ∧ 0 ≤ e.2 ∧ e.2 ≤ 10)
      ⟨s6, hpl6, [], [], -50, none, rfl, upd_same, .nil, rfl, List.Pairwise.nil, by omega, by omega, fun e he => by simp at he⟩ (fun _ _ _ _ _ => trivial) ?_ ?_
    · rintro i x σ H3 H4 hi ⟨t1, t2, ts, row, pl, v7, rfl, t3, t4, t5, t6, t7, t8, t9⟩ ⟨rfl, rfl⟩
      obtain ⟨da, ea, ba, ca⟩ := get (i := i) (t := 0) (by omega) rfl
      obtain ⟨db, eb, bb, cb⟩ := get (i := i) (t := 1) (by omega) rfl
      refine ⟨_, rfl, _, _, rfl, rfl, _, rfl, _, rfl, _, _, rfl, rfl, .inl (by decide), _, _, rfl, rfl, p, _, _, _, rfl, rfl, SqL.of t2, atI_int (by show 1 + (2 : Int) * (i : Int) = _; simp) ea, _, _, rfl, rfl, ?_⟩
      have pb : -50 ≤ pl + 1 + da ∧ pl + 1 + da ≤ -50 + 4 * ((i + 1 : Nat) : Int) := ⟨by omega, by omega⟩
      have ic : (i : Int) < 150 := by omega
      have md0 := Int.emod_nonneg (i : Int) (show (2 : Int) ≠ 0 by decide)
      have md1 := Int.emod_lt_of_pos (i : Int) (show (0 : Int) < 2 by decide)
      refine ⟨_, rfl, .inl ⟨rfl, _, SqL.of t3⟩, _, rfl, _, rfl, _, rfl, _, _, rfl, rfl, .inl (by decide), _, _, rfl, rfl, p, _, _, _, rfl, rfl, SqL.of t2, atI_int (by show 2 + (2 : Int) * (i : Int) = ((1 + (2 * i + 1) : Nat) : Int); omega) eb, _, _, rfl, rfl, .inr (by decide), _, rfl, .inl ⟨_, rfl, _, _, rfl, rfl, (show (0 : Int) < 2 by decide), _, _, rfl, rfl, size_le (by show 2 ≤ _; omega), fun t ht => ?_⟩⟩
      have wb : 0 ≤ db * 2 + (i : Int) % 2 ∧ db * 2 + (i : Int) % 2 ≤ 10 := ⟨by omega, by omega⟩
      have u1 := Same.new (o := .tup [.int (pl + 1 + da), .int (db * 2 + (i : Int) % 2)]) ht
      have hlr := paired_len t4
      refine ⟨r, _, _, rfl, rfl, u1 _ _ t3, by rw [List.length_map]; exact size_lt (by omega), ?_⟩
      have hpr : p ≠ r := hrp.symm
      refine ⟨Same.mut (t1.trans u1) hrH, by rw [upd_ne hpr]; exact u1 _ _ t2, ts ++ [t], row ++ [(pl + 1 + da, db * 2 + (i : Int) % 2)], pl + 1 + da, _, rfl, by rw [upd_same, List.map_append]; rfl, ?_, by rw [List.length_append, t5]; rfl, ?_, pb.1, pb.2, fun e he => ?_⟩
      · refine paired_imp (fun b c (w : PrAt (upd H4 t (.tup [.int (pl + 1 + da), .int (db * 2 + (i : Int) % 2)])) b c) => ?_) (paired_snoc (prs_same u1 t4) upd_same)
        show upd _ r _ b = _
        rw [upd_ne (ne_of w (u1 _ _ t3) (by intro z; cases z))]
        exact w
      · refine List.pairwise_append.mpr ⟨t6, List.pairwise_singleton _ _, fun x hx y hy => ?_⟩
        rw [List.mem_singleton.mp hy]
        have := (t9 x hx).2.1
        show x.1 < pl + 1 + da
        omega
      · rcases List.mem_append.mp he with he | he
        · have := t9 e he
          omega
        · rw [List.mem_singleton.mp he]
          exact ⟨pb.1, Int.le_refl _, wb.1, wb.2⟩
    rintro σ H3 ⟨t1, t2, ts, row, pl, v7, rfl, t3, t4, t5, t6, t7, t8, t9⟩
    have hne : row ≠ [] := fun e => by rw [e] at t5; simp at t5; omega
    have hnd := asc_nodup t6
    have hml : row.length ≤ 150 := by omega
    have hrA : RowAt H3 r row := ⟨ts, t3, t4⟩
    have bnd : ∀ e ∈ row, e.1.natAbs < 1000 ∧ e.2.natAbs < 1000 := fun e he => by
      obtain ⟨x1, x2, x3, x4⟩ := t9 e he
      constructor <;> omega
    -- due
    refine ⟨_, rfl, r, row, rfl, hrA, hne, hnd, by omega, fun g H4 s7 hg hgr => ?_⟩
    obtain ⟨lr, elr⟩ : ∃ lr, lr = leastS row := ⟨_, rfl⟩
    obtain ⟨lo1, lo2⟩ := leastOf_rev t6
    rw [← elr] at lo1 lo2
    rw [lo2] at hgr
    obtain ⟨gs, hg1, hg2⟩ := id hgr
    have lrl : lr.length ≤ 150 := by rw [elr]; exact Nat.le_trans (leastS_len row) hml
    have lrne : lr ≠ [] := by rw [elr]; exact leastS_ne hne
    have lra : Asc lr := by rw [elr]; exact leastS_asc t6
    have lri : leastS lr = lr := by rw [elr]; exact leastS_idem row
    have lrb : ∀ q ∈ lr, q.1.natAbs < 10 ^ 4 ∧ q.2.natAbs < 10 ^ 4 := fun q hq => by
      rw [elr] at hq
      obtain ⟨⟨p1, h1, e1⟩, h2⟩ := leastS_mem hq
      have b1 := (bnd p1 h1).2
      refine ⟨?_, by rw [e1]; omega⟩
      rcases h2 with h2 | h2 | ⟨p2, hp2, h2⟩
      · have := (bnd q h2).1; omega
      · rw [h2]; decide +kernel
      · have := (bnd p2 hp2).1
        rw [h2]
        omega
    have hok : StOk [] [] [(nmA, lr)] := ⟨⟨List.nodup_nil, fun p hp => by simp at hp⟩, ⟨List.nodup_nil, fun p hp => by simp at hp⟩, ⟨List.pairwise_singleton _ _, fun p hp => by rw [List.mem_singleton.mp hp]; exact okN_a⟩, fun p hp => by rw [List.mem_singleton.mp hp]; exact ⟨lrne, lra⟩⟩
    have hnum : NumD 4 [] [] [(nmA, lr)] := ⟨fun p hp => by simp at hp, fun p hp => by simp at hp, fun p hp q hq => by rw [List.mem_singleton.mp hp] at hq; exact lrb q hq⟩
    have hstz : stz [] [] [(nmA, lr)] ≤ 151 := by
      show 0 + 0 + ((1 + lr.length) + 0) ≤ 151
      omega
    have hwfc := canon_wfc hok (fun p hp => by rw [List.mem_singleton.mp hp]; exact lri) (by omega) hnum
    refine ⟨⟨_, rfl⟩, _, rfl, g, rfl, ⟨_, SqL.of hg1⟩, fun D3 hD3 => lc_grow walk_list hD3 (by rw [List.length_map, paired_len hg2]; omega) (fun H' s => SqL.of (s _ _ hg1))
      (fun j acc _ => ∃ cs : List Str, acc = cs.map V.str ∧ cs.map tl = (lr.take j).map showC) (fun _ _ _ _ _ _ _ h => h) ⟨[], rfl, rfl⟩ ?_ ?_⟩
    · rintro j v acc H12 H13 N1 N0 hj s12 hDl ha ⟨cs, rfl, hcs⟩ k1 k0 ⟨rfl, hv⟩
      obtain ⟨u, hu, rfl⟩ := get_map_ref hv
      obtain ⟨c, hc, hcu⟩ := paired_get hg2 hu
      have wpow : (10 : Nat) ^ 4 ≤ 10 ^ 61 := by decide +kernel
      have w1 : okW c.1 := Nat.lt_of_lt_of_le (lrb c (List.mem_of_getElem? hc)).1 wpow
      have w2 : okW c.2 := Nat.lt_of_lt_of_le (lrb c (List.mem_of_getElem? hc)).2 wpow
      have i1 := int_tlen w1
      have i2 := int_tlen w2
      have e0 : (Str.empty : Str).length = 0 := rfl
      have e2 : (Str.ofString ":" : Str).length = 1 := rfl
      have l1 : (Str.empty ++ Str.ofString (toString c.1)).length ≤ 62 := by rw [len_app, e0]; omega
      have l2 : (Str.empty ++ Str.ofString (toString c.1) ++ Str.ofString ":").length ≤ 63 := by rw [len_app, e2]; omega
      have l3 : (Str.empty ++ Str.ofString (toString c.1) ++ Str.ofString ":" ++ Str.ofString (toString c.2)).length ≤ 125 := by rw [len_app]; omega
      refine ⟨u, _, rfl, SqT.of (hcu.same s12), rfl, _, _, rfl, _, _, rfl, rfl, rfl, _, rfl, .inr ⟨c.1, rfl, okW_log w1, _, rfl, size_le (Nat.le_trans l1 (by omega)), _, rfl, size_le (Nat.le_trans l2 (by omega)), _, rfl, .inr ⟨c.2, rfl, okW_log w2, _, rfl, size_le (Nat.le_trans l3 (by omega)),
        k1 _ _ (L2.Same.refl _) ⟨cs ++ [Str.empty ++ Str.ofString (toString c.1) ++ Str.ofString ":" ++ Str.ofString (toString c.2)], by rw [List.map_append]; rfl, ?_⟩⟩⟩⟩
      rw [take_succ_get hc, List.map_append, List.map_append, hcs, List.map_singleton, List.map_singleton, shown_c]
    rintro acc H5 s8 hDl ha ⟨cs, rfl, hcs⟩
    rw [List.take_of_length_le (by rw [List.length_map, paired_len hg2]; omega)] at hcs
    have lcs : cs.length = lr.length := by have := congrArg List.length hcs; rw [List.length_map, List.length_map] at this; omega
    have hsm := join_sum 1 cs _ hcs
    have hrt := rowT_small (row := lr) fun q hq => (hnum.w (by omega)).2.2 (nmA, lr) (List.mem_singleton.mpr rfl) q hq
    have hnl : lr.map showC ≠ [] := fun z => lrne (List.map_eq_nil_iff.mp z)
    have hjl2 : (rowT lr).length + 1 = ((lr.map showC).map fun p => p.length + 1).sum := joinL_len [44] hnl
    have hjoin : tl (Txt.join (Str.ofString ",") cs) = rowT lr := by
      rw [join_eq, tl_join, tl_comma, hcs]
      rfl
    have hjlen : (Txt.join (Str.ofString ",") cs).length = (rowT lr).length := by rw [str_len, hjoin]
    have s78 := s7.trans s8
    have e1 : (Str.ofString "array a=" : Str).length = 8 := rfl
    have e3 : (Str.ofString "," : Str).length = 1 := rfl
    obtain ⟨tx, etx⟩ : ∃ tx, tx = Str.ofString "array a=" ++ Txt.join (Str.ofString ",") cs := ⟨_, rfl⟩
    have htx : tl tx = showS (canon [] [] [(nmA, lr)]) := by rw [etx]; exact shown_a _ _ hjoin
    have tlen := text_len hok (by omega) hnum htx
    refine ⟨Str.ofString ",", D3, cs, rfl, rfl, .inl (SqL.of hDl), by rw [e3, hsm]; omega, _, _, rfl, rfl, size_le (by rw [e1, hjlen]; omega), ?_⟩
    rw [← etx]
    -- read
    refine ⟨_, rfl, tx, rfl, by omega, fun c hc hcx y H9 s10 hy hY => ?_, fun no => absurd ⟨_, hwfc, htx⟩ no⟩
    obtain ⟨c1, c2, c3⟩ := rd_eq hok hc hcx htx
    rw [c1, c2, c3, sortK_nil] at hY
    obtain ⟨yd, y1, y2, y3, hys⟩ := id hY
    have z1 : List.length [(nmA, lr)] = 1 := rfl
    refine ⟨_, rfl, y, yd, _, rfl, hys.at_, y, [], [], [(nmA, lr)], rfl, hY, List.pairwise_singleton _ _, by show 1 ≤ _; omega, fun a1 H10 s11 ha1 hA => ?_⟩
    refine ⟨_, rfl, y, yd, _, rfl, s11 _ _ hys.at_, y, [], [], [(nmA, lr)], rfl, hY.same s11, fun p1 H11 s12 hp1 hP => ?_⟩
    have s112 := s11.trans s12
    refine ⟨_, rfl, y, yd, _, rfl, s112 _ _ hys.at_, y, [], [], [(nmA, lr)], rfl, hY.same s112, by show 0 + 0 + 1 ≤ _; omega, fun H12 s13 => ⟨_, rfl, by omega, by show ((0 + 0 + 1 : Nat) : Int) < 2 ^ 63; decide, ?_⟩⟩
    have s113 := s112.trans s13
    refine ⟨_, rfl, y, [], [], [(nmA, lr)], rfl, hY.same s113, hok, hnum.w (by omega), by omega, fun ty H13 s14 hty => ?_⟩
    have ety : ty = tx := ext_tl (by rw [hty, htx])
    subst ety
    refine ⟨size_le (by show 4 ≤ _; omega), fun l1 hl1 => ?_⟩
    have s15 := Same.new (o := .lst [.ref a1, .ref p1, .int ((([] : Al Int).length + ([] : Al Int).length + [(nmA, lr)].length : Nat) : Int), .str ty]) hl1
    -- what is due
    refine fun f3 hf3 => ?_
    have s16 := Same.new (o := .dK []) hf3
    refine ⟨_, rfl, upd_same, [(.inr nmA, .ref g)], rfl, by show 1 ≤ 15; omega, ?_⟩
    obtain ⟨H15, e15⟩ : ∃ H15, H15 = upd (upd (upd H13 l1 (.lst [.ref a1, .ref p1, .int ((([] : Al Int).length + ([] : Al Int).length + [(nmA, lr)].length : Nat) : Int), .str ty])) f3 (.dK [])) f3 (.dK (mergeK [] [(.inr nmA, .ref g)])) := ⟨_, rfl⟩
    have sE : Same (upd H13 l1 (.lst [.ref a1, .ref p1, .int ((([] : Al Int).length + ([] : Al Int).length + [(nmA, lr)].length : Nat) : Int), .str ty])) H15 := by rw [e15]; exact Same.mut s16 hf3
    have l15 := sE _ _ upd_same
    have s13' : Same H13 H15 := s15.trans sE
    have gF : Same H4 H15 := s8.trans (s10.trans (s113.trans (s14.trans s13')))
    have dF : DiR H15 f3 [(nmA, lr)] := ⟨[(nmA, g)], by rw [e15, upd_same]; rfl, .cons ⟨rfl, hgr.same gF⟩ .nil⟩
    have aF : DiR H15 a1 [(nmA, lr)] := hA.r.same (s12.trans (s13.trans (s14.trans s13')))
    have pF : DiI H15 p1 [] := hP.same (s13.trans (s14.trans s13'))
    have nA3 : a1 ≠ f3 := by
      obtain ⟨rs, h1, _⟩ := hA.r.same (s12.trans (s13.trans (s14.trans s15)))
      exact ne_of_none h1 hf3
    rw [← e15]
    refine fun f4 hf4 => ?_
    have s17 := Same.new (o := .dK []) hf4
    have nP4 : p1 ≠ f4 := ne_of_none pF hf4
    have u4 : upd H15 f4 (.dK []) f4 = some (.dK []) := upd_same
    refine ⟨_, rfl, size_le (by show 4 ≤ _; omega), fun l2 hl2 => ?_⟩
    have s18 := Same.new (o := .lst [.ref f3, .ref f4, .int 1, .str ty]) hl2
    have s1718 := s17.trans s18
    have hrl : ∀ p ∈ [(nmA, lr)], p.2.length ≤ 1000000 := fun p hp => by rw [List.mem_singleton.mp hp]; show lr.length ≤ _; omega
    refine ⟨.ref l1, .ref l2, rfl, samL (s1718 _ _ l15) upd_same (by show 4 ≤ _; omega)
      (.cons (samR_mono (show 4 ≤ 5 by omega) (samDiR nA3 (aF.same s1718) (dF.same s1718) (by show 1 ≤ _; omega) hrl)) (.cons (samR_mono (show 2 ≤ 5 by omega) (samDiI nP4 (pF.same s1718) (show DiI _ f4 [] from s18 _ _ u4) (by show 0 ≤ _; omega))) (.cons (samI _) (.cons (samS _) .nil)))), fun H' s' => ?_⟩
    exact kk _ (t1.trans (s7.trans (gF.trans (s1718.trans s'))))
end
end A80
end
section
set_option Elab.async false
set_option maxRecDepth 100000
set_option maxHeartbeats 4000000
set_option autoImplicit false
namespace A80
open PySem PySem.Spec PySem.SeqAt L2 PyProof.Rows TL
open AutoSeq1 (wpAny_loadPart')
open MeetsSeq MeetsSeq2 MeetsSeq3 SeqRoads2
section
variable {prog : Program} {w : World}
theorem list_eqNe (l b : Addr) (items items2 : Array Value) (n n2 : Nat) (dd dd2 : Option Addr) (sl sl2 : Array (Option Value)) (hsz : items.size ≠ items2.size) :
    MeetsIn prog w (Builtin.«list.__eq__» ⟨[.ref l, .ref b], []⟩)
      (fun A R s => s.heap.get? l = some { cls := .type "list", dict := dd, data := .seq items n, slots := sl } ∧ s.heap.get? b = some { cls := .type "list", dict := dd2, data := .seq items2 n2, slots := sl2 } ∧ R (.ok (.ret (.bool false))) s) := by
  intro A R s h
  obtain ⟨hp, g, d, tk, os⟩ := s; obtain ⟨hl, hb, h⟩ := h
  have f3 := AutoSeq1.sub_list_list
  have hne : (items.size != items2.size) = true := by simp [hsz]
  wp_walk using wpAny_loadPart' hl, wpAny_loadPart' hb
  exact h
theorem rc_listsNe {A : Around} {s : Shared} {l b : Addr} {items items2 : Array Value} (hl : s.heap.IsList l items) (hb : s.heap.IsList b items2) (hsz : items.size ≠ items2.size) (hu : A.units < cLine)
    (E Q : Value → Shared → Prop) (h : Q (.bool false) s) : wpAny (model prog w) A (richCompare .Eq (.ref l) (.ref b)) Q E s := by
  obtain ⟨⟨cls, dd, data, sl⟩, ho, hc, n, hd⟩ := id hl
  obtain ⟨⟨cls2, dd2, data2, sl2⟩, ho2, hc2, n2, hd2⟩ := id hb
  simp only at hc hd hc2 hd2
  subst hc hd hc2 hd2
  have ta : s.TypeIs (.ref l) "list" := ⟨_, ho, rfl⟩
  have tb : s.TypeIs (.ref b) "list" := ⟨_, ho2, rfl⟩
  exact wpAny_richCompare_same_room (op := .Eq) ta tb F.slot_list_eq (call_meetsIn F.slot_list_eq ta F.entry_list_eq (F.args_list_eq_2 _ _) (list_eqNe l b items items2 n n2 dd dd2 sl sl2 hsz)
    ⟨ho, ho2, show Value.bool false ≠ Value.notImplemented ∧ Q (.bool false) s from ⟨(fun x => nomatch x), h⟩⟩) hu
end
/-- == of lists: by their data, or by their lengths -/
def rEqL0 (K : PySem.W.Frag) : R2 := fun x y H Q => rEqD K x y H Q ∨ ∃ a b xs ys, x = .ref a ∧ y = .ref b ∧ SqL K H a xs ∧ SqL K H b ys ∧ xs.length ≠ ys.length ∧ Q (.bl false) H
theorem op_eqL0 {X : Cx} (hu : X.A.units + 64 < cLine) : OpR X (compareOp .Eq) (rEqL0 X.K) := by
  intro pins s σ H x y v u Q I rx ry h
  rcases h with h | ⟨a, b, xs, ys, rfl, rfl, h1, h2, hne, q⟩
  · exact op_eqD hu pins s σ H x y v u Q I rx ry h
  · cases rx
    cases ry
    obtain ⟨as, r1, l1, _⟩ := I.list h1
    obtain ⟨bs, r2, l2, _⟩ := I.list h2
    have e1 := r1.length
    have e2 := r2.length
    exact rc_listsNe l1.isList l2.isList (by rw [List.size_toArray, List.size_toArray]; omega) (by omega) _ _ ⟨.bl false, H, I, rfl, q⟩
end A80
end
section
set_option Elab.async false
set_option maxRecDepth 100000
set_option maxHeartbeats 4000000
set_option autoImplicit false
namespace A80
open PySem PySem.Spec L2 PyProof.Rows TL
/-! ### law -/
abbrev S_law : Stmt := topS 42
theorem sc_law : FnScope ["_law_script", "_law_parts_here", "_law_state", "_law_arrays", "_law_at", "_law_drawn", "_law_array", "_law_row_here", "_law_place", "_law_text", "_law_again", "_law_changed_here", "_law_found"] ["_law_script"] (defScope S_law) := ⟨rfl, rfl, rfl, by decide +kernel, rfl, by decide +kernel, by decide +kernel⟩
theorem dp_strs {K : PySem.W.Frag} {H : Hp} : ∀ xs : List Str, DpAll K H (xs.map V.str) (xs.map PyData.str)
  | [] => .nil
  | x :: r => .cons (.str x) (dp_strs r)
theorem eqv_list0 (ds : List PyData) : PyData.eqv (.list ds) (.list []) = decide (ds = []) := by
  cases ds with
  | nil => rfl
  | cons d r => rfl
theorem szA_le {m k : Nat} : ∀ {A : Al Row}, A.length ≤ m → (∀ p ∈ A, p.2.length ≤ k) → szA A ≤ m * (1 + k)
  | [], _, _ => Nat.zero_le _
  | q :: l, h, hk => by
    have e0 : szA (q :: l) = (1 + q.2.length) + szA l := by unfold szA; rw [List.map_cons, List.sum_cons]
    obtain ⟨m', rfl⟩ : ∃ m', m = m' + 1 := ⟨m - 1, by rw [List.length_cons] at h; omega⟩
    have ih := szA_le (m := m') (k := k) (A := l) (by rw [List.length_cons] at h; omega) fun p hp => hk p (List.mem_cons_of_mem _ hp)
    have := hk q List.mem_cons_self
    rw [e0, Nat.succ_mul]
    omega
theorem okN_str {x : Str} (h : okN x) : PyData.canLay0 (.str x) = true := by
  have h2 := (okNm_iff.mp h).2.2
  show PyData.strOk x = true
  unfold PyData.strOk
  rw [← Array.all_toList]
  refine List.all_eq_true.mpr fun c hc => ?_
  have := h2 c hc
  exact decide_eq_true (by omega)
theorem strs_shaped : ∀ ns : List Str, (∀ x ∈ ns, okN x) → PyData.canLayAll0 (ns.map PyData.str) = true ∧ PyData.depthAll (ns.map PyData.str) = 0
  | [], _ => ⟨rfl, rfl⟩
  | n :: r, h => by
    obtain ⟨a, b⟩ := strs_shaped r fun x hx => h x (List.mem_cons_of_mem _ hx)
    constructor
    · show (PyData.canLay0 (.str n) && PyData.canLayAll0 (r.map PyData.str)) = true
      rw [a, okN_str (h n List.mem_cons_self)]; rfl
    · show max (PyData.depth (PyData.str n)) (PyData.depthAll (r.map PyData.str)) = 0
      have : PyData.depth (PyData.str n) = 0 := rfl
      omega
theorem shaped_strs (ns : List Str) (h : ∀ x ∈ ns, okN x) : SeqAt.shaped (.list (ns.map PyData.str)) = true := by
  obtain ⟨a, b⟩ := strs_shaped ns h
  have e1 : PyData.canLay0 (.list (ns.map PyData.str)) = PyData.canLayAll0 (ns.map PyData.str) := rfl
  have e2 : PyData.depth (.list (ns.map PyData.str)) = PyData.depthAll (ns.map PyData.str) + 1 := rfl
  unfold SeqAt.shaped
  rw [e1, e2, a, b]
  rfl
def lims8 : List Int := [15, 400, 60, 8, 12, 15, 3, 9]
/-- what the turns keep of the state -/
structure LSt (CS : Addr) (H : Hp) (p : Addr) (P N : Al Int) (keys : List Str) (i : Nat) (A : Al Row) : Prop where
  at_ : StAt CS H p P N A
  ok : StOk P N A
  ks : A.map (·.1) = keys
  sz : szA A ≤ 48 + 3 * i
  inn : AIn (Big + 10 + 2 * (i : Int)) A
  least : ∀ p ∈ A, leastS p.2 = p.2
theorem showS_two {es : List En} : (showS es).length = 0 ∨ 2 ≤ (showS es).length := by
  cases es with
  | nil => exact .inl rfl
  | cons e r =>
    refine .inr ?_
    have h1 := joinL_len [59, 32] (l := (e :: r).map showE) (by simp)
    have h2 : 6 ≤ (showE e).length := by
      unfold showE
      rw [List.length_append, List.length_cons]
      have : 5 ≤ (wordL e.role).length := by
        rcases e with ⟨_, _⟩ | ⟨_, _⟩ | ⟨_, _⟩
        · show 5 ≤ (wordL 0).length; decide
        · show 5 ≤ (wordL 1).length; decide
        · show 5 ≤ (wordL 2).length; decide
      omega
    have e2 : (showS (e :: r)).length = (joinL [59, 32] ((e :: r).map showE)).length := rfl
    rw [List.map_map] at h1
    have e5 : (((e :: r).map ((fun p : List Nat => p.length + [59, 32].length) ∘ showE))).sum = ((showE e).length + 2) + (r.map ((fun p : List Nat => p.length + [59, 32].length) ∘ showE)).sum := by
      rw [List.map_cons, List.sum_cons]
      rfl
    rw [e5] at h1
    have e4 : ([59, 32] : List Nat).length = 2 := rfl
    rw [e4] at h1
    omega
def spLaw (K : PySem.W.Frag) : Sp := fun vs H Q _ => ∃ (a : Addr) (ns : List Int), vs = [.ref a] ∧ SqL K H a (ns.map V.int) ∧ ns.length ≤ 1000000 ∧ ∀ H', Q (.bl true) H'
section
variable {P : Program} {w : World} {K : PySem.W.Frag} {mg : Str → Option Value} {base : Heap} {CS CU : Addr}
theorem ok_law {fL : Addr} {fdL : FuncData} (T : Tx K mg CS) (F : Fun K "law" "law" S_law fL fdL) (c_law_parts : Cl P w K mg base 4 "_law_parts" (spParts K)) (c_law_scale : Cl P w K mg base 4 "_law_scale" (spScale K)) (c_law_scaled_parts : Cl P w K mg base 1 "_law_scaled_parts" spScaled) (c_law_draws : Cl P w K mg base 2 "_law_draws" (spDraws K))
    (c_State : C8.Mak P w K mg base 2 "State" CS (spInit CS) []) (c_with_cell : C8.Met P w K mg base 4 CS "with_cell" (spWithCell CS) []) (c_show_state : Cl P w K mg base 3 "show_state" (spShow CS)) (c_read_state : ClX P w K mg base 4 "read_state" ["text"] (spReadState CS CU))
    (c_eq : C8.Met P w K mg base 1 CS "__eq__" (L2.spEq (EqR80 CS)) []) (c_law_same : Cl P w K mg base 7 "_law_same" (spSame (SamR 6))) (c_p_arrays : Prp P w K mg base 1 CS "arrays" (spArrays CS)) (c_law_asked_again : Cl P w K mg base 8 "_law_asked_again" (spAsked CS))
    (c_law_changed : Cl P w K mg base 2 "_law_changed" spMarred) (c_law_read_state : Cl P w K mg base 3 "_law_read_state" spLState) (c_law_told : Cl P w K mg base 5 "_law_told" spTold) (c_law_wide_text : Cl P w K mg base 8 "_law_wide_text" (spLText K)) (c_law_long_text : Cl P w K mg base 8 "_law_long_text" (spLText K)) :
    FnOk P w K mg base CX0 9 fL fdL ["_law_script"] (spLaw K) := by
  have sc := sc_law
  refine F.ok sc (fun vs H Q E h => ?_) (fun cdv A outer s H vs Q E hr h => ?_)
  · obtain ⟨a, ns, rfl, _⟩ := h
    rfl
  · obtain ⟨a, ns, rfl, hl, hnl, kk⟩ := h
    refine ⟨_, (pss_cons (ps_set (i := 1) sc.nd rfl (Or.inl rfl) (pe_c c_law_scaled_parts hr (by decide) rfl (pa_cons (pe_c c_law_parts hr (by decide) rfl (pa_cons (pv 0) (pa_cons pe_int pa_nil))) (pa_cons (pe_c c_law_scale hr (by decide) rfl (pa_cons (pv 0) (pa_cons pe_int pa_nil))) pa_nil))))
      (pss_cons (ps_set (i := 2) sc.nd rfl (Or.inl rfl) (C8.pe_mk c_State hr (by decide) rfl (pa_cons (pe_ix (ixT K) (pv 1) pe_int (fun _ _ => rfl)) (pa_cons (pe_ix (ixT K) (pv 1) pe_int (fun _ _ => rfl)) (pa_cons (pe_ix (ixT K) (pv 1) pe_int (fun _ _ => rfl)) pa_nil)))))
      (pss_cons (ps_set (i := 3) sc.nd rfl (Or.inl rfl) (pe_callB (cr_sortedKeys rfl) (by rfl) T.b_sorted (by decide +kernel) (pa_cons (pe_ix (ixT K) (pv 1) pe_int (fun _ _ => rfl)) pa_nil)))
      (pss_cons (ps_for PassesOwn.never rfl (pi_range2 rfl T.b_range (pa_cons pe_int (pa_cons (pe_callB (call_max2 rfl) (by rfl) T.b_max (by decide +kernel) (pa_cons pe_int (pa_cons (pe_callB (call_min2 rfl) (by rfl) T.b_min (by decide +kernel) (pa_cons (pe_callB (cLen K) (by rfl) T.b_len (by decide +kernel) (pa_cons (pv 0) pa_nil)) (pa_cons pe_int pa_nil))) pa_nil))) pa_nil))) (pg_name (i := 4) sc.nd rfl (Or.inl rfl))
      (pss_cons (ps_set (i := 5) sc.nd rfl (Or.inl rfl) (pe_c c_law_draws hr (by decide) rfl (pa_cons (pv 0) (pa_cons (pv 4) (pa_cons (pe_lst (pa_cons pe_int (pa_cons pe_int (pa_cons pe_int (pa_cons pe_int (pa_cons pe_int (pa_cons pe_int (pa_cons pe_int (pa_cons pe_int pa_nil))))))))) pa_nil)))))
      (C8.pss_cut (ps_if (pt_cmpR (op_neD hr.units) (pv 3) (pe_lst pa_nil) (nomark _))
      (pss_cons (ps_set (i := 6) sc.nd rfl (Or.inl rfl) (pe_ix (ixL K) (pv 3) (pe_op op_mod (pe_callTy call_int1 (by rfl) T.b_int (by decide +kernel) (pa_cons (pe_ix (ixL K) (pv 5) pe_int (fun _ _ => rfl)) pa_nil)) (pe_callB (cLen K) (by rfl) T.b_len (by decide +kernel) (pa_cons (pv 3) pa_nil))) (fun _ _ => rfl)))
      (pss_cons (ps_set (i := 7) sc.nd rfl (Or.inl rfl) (pe_dget (hu_of hr) (pe_ix (ixT K) (pv 1) pe_int (fun _ _ => rfl)) (pv 6) (fun _ _ => rfl)))
      (pss_cons (ps_set (i := 8) sc.nd rfl (Or.inl rfl) (pe_op op_sub (pe_op op_add (pe_ix (ixT K) (pe_ix (ixL K) (pv 7) (pe_op op_mod (pe_callTy call_int1 (by rfl) T.b_int (by decide +kernel) (pa_cons (pe_ix (ixL K) (pv 5) pe_int (fun _ _ => rfl)) pa_nil)) (pe_callB (cLen K) (by rfl) T.b_len (by decide +kernel) (pa_cons (pv 7) pa_nil))) (fun _ _ => rfl)) pe_int (fun _ _ => rfl)) (pe_ix (ixL K) (pv 5) pe_int (fun _ _ => rfl))) pe_int))
      (pss_one (ps_set (i := 2) sc.nd rfl (Or.inl rfl) (C8.pe_mt c_with_cell hr (by decide) (pv 2) (pa_cons (pv 6) (pa_cons (pv 8) (pa_cons (pe_op op_sub (pe_ix (ixL K) (pv 5) pe_int (fun _ _ => rfl)) pe_int) pa_nil)))))))))
      pss_nil)
      (pss_cons (ps_set (i := 9) sc.nd rfl (Or.inl rfl) (pe_c c_show_state hr (by decide) rfl (pa_cons (pv 2) pa_nil)))
      (pss_cons (ps_set (i := 10) sc.nd rfl (Or.inl rfl) (pe_cx c_read_state hr (by decide) rfl (pa_cons (pv 9) pa_nil)))
      (pss_cons (ps_if (pt_not (pt_val (pe_c c_law_same hr (by decide) rfl (pa_cons (pe_lst (pa_cons (pe_cmpR (op_eqO c_eq hr (by decide)) (pv 10) (pv 2) (nomark _)) (pa_cons (pe_c c_show_state hr (by decide) rfl (pa_cons (pv 10) pa_nil)) (pa_cons (pe_c c_show_state hr (by decide) rfl (pa_cons (pv 2) pa_nil)) pa_nil)))) (pa_cons (pe_lst (pa_cons pe_bl (pa_cons (pv 9) (pa_cons (pv 9) pa_nil)))) pa_nil)))))
      (pss_one (ps_ret pe_bl))
      pss_nil)
      (pss_cons (ps_if (PW.pt (pw_or (pt_not (pt_val (pe_c c_law_same hr (by decide) rfl (pa_cons (pe_p c_p_arrays hr (by decide) (pe_kwx c_read_state hr (by decide) rfl (pk_cons (pv 9) pk_nil)) rfl) (pa_cons (pe_p c_p_arrays hr (by decide) (pv 2) rfl) pa_nil))))) (pw_or1 (pt_not (pt_val (pe_c c_law_asked_again hr (by decide) rfl (pa_cons (pv 10) (pa_cons (pv 2) pa_nil))))))))
      (pss_one (ps_ret pe_bl))
      pss_nil)
      (pss_cons (ps_set (i := 11) sc.nd rfl (Or.inl rfl) (pe_c c_law_changed hr (by decide) rfl (pa_cons (pv 9) (pa_cons (pe_slice (slL K) (pv 5) po_none (po_some pe_int)) pa_nil))))
      (pss_cons (ps_set (i := 12) sc.nd rfl (Or.inl rfl) (pe_c c_law_read_state hr (by decide) rfl (pa_cons (pv 11) pa_nil)))
      (pss_one (ps_if (pt_cmpR (op_eqL0 hr.units) (pv 12) (pe_lst pa_nil) (nomark _))
      (pss_one (ps_if (pt_not (pt_val (pe_c c_law_same hr (by decide) rfl (pa_cons (pe_c c_law_told hr (by decide) rfl (pa_cons (pv 11) pa_nil)) (pa_cons (pv 11) pa_nil)))))
      (pss_one (ps_ret pe_bl))
      pss_nil))
      (pss_one (ps_if (pt_not (pt_val (pe_c c_law_same hr (by decide) rfl (pa_cons (pe_c c_law_told hr (by decide) rfl (pa_cons (pv 11) pa_nil)) (pa_cons (pe_lst (pa_cons (pe_ix (ixL K) (pv 12) pe_int (fun _ _ => rfl)) (pa_cons (pv 11) pa_nil))) pa_nil)))))
      (pss_one (ps_ret pe_bl))
      pss_nil)))))))))))))
      (pss_cons (ps_if (pt_not (pt_val (pe_c c_law_wide_text hr (by decide) rfl (pa_cons (pv 0) (pa_cons pe_int pa_nil)))))
      (pss_one (ps_ret pe_bl))
      pss_nil)
      (pss_one (ps_ret (pe_and (pe_c c_law_long_text hr (by decide) rfl (pa_cons (pv 0) (pa_cons pe_int pa_nil))) (pe_one (pe_c c_law_same hr (by decide) rfl (pa_cons (pe_c c_law_told hr (by decide) rfl (pa_cons pe_str pa_nil)) (pa_cons (pe_lst (pa_cons (pe_lst (pa_cons pe_dnewK (pa_cons pe_dnewK (pa_cons pe_dnewK pa_nil)))) (pa_cons pe_str pa_nil))) pa_nil)))))))))))), ?_⟩
    -- parts
    refine ⟨_, rfl, a, 0, ns, rfl, hl, by omega, fun p1 H1 dp0 dn0 da0 P0 N0 A0 s1 hp1 hpt hP0 hN0 hA0 okP0 okN0 okA0 => ?_⟩
    refine ⟨_, rfl, a, 5, ns, rfl, hl.sm s1, by omega, fun p2 H2 x y z t s2 hp2 hsc hsok => ?_⟩
    refine ⟨p1, p2, dp0, dn0, da0, x, y, z, t, P0, N0, A0, rfl, s2 _ _ hpt, hsc, hsok, hP0.same s2, hN0.same s2, hA0.same s2, okP0, okN0, okA0, fun p3 H3 dp dn da PP NN AA s3 hp3 hpp hPP hNN hAA okP okN okA => ?_⟩
    have s13 := s1.trans (s2.trans s3)
    have inok : InOk PP NN AA := ⟨⟨okP.1, okP.2.1⟩, ⟨okN.1, okN.2.1⟩, ⟨okA.1, okA.2.1⟩, fun p hp => by
      obtain ⟨h1, h2, h3, _⟩ := okA.2.2.2 p hp
      exact ⟨h1, h2, by omega⟩, by have := okP.2.2.1; omega, by have := okN.2.2.1; omega, by have := okA.2.2.1; omega⟩
    have hzA : szA AA ≤ 48 := szA_le (m := 3) (k := 15) okA.2.2.1 fun p hp => (okA.2.2.2 p hp).2.2.1
    have big0 : (0 : Int) ≤ Big := by decide +kernel
    have hinA : AIn (Big + 1) (rowsOf AA) := fun q hq => by
      obtain ⟨r', hr', e⟩ := rowsOf_mem hq
      rw [e]
      exact leastOf_in big0 fun c hc => (okA.2.2.2 _ hr').2.2.2 c hc
    -- state
    refine ⟨_, rfl, p3, _, 0, _, rfl, rfl, SqT.of hpp, atI_get (i := 0) rfl, _, rfl, p3, _, 1, _, rfl, rfl, SqT.of hpp, atI_get (i := 1) rfl, _, rfl, p3, _, 2, _, rfl, rfl, SqT.of hpp, atI_get (i := 2) rfl, fun xs dxs hxs hdxs hnx => ?_⟩
    refine ⟨xs, dxs, H3, dp, dn, da, PP, NN, AA, rfl, hxs, hdxs, hnx, rfl, hPP, hNN, hAA, inok, fun H4 s4 hX => ⟨rfl, ?_⟩⟩
    -- arrays
    obtain ⟨rs, hr1, hr2⟩ := hAA.same s4
    have hk1 : (kvOf V.ref rs).map (·.1) = (AA.map (·.1)).map Sum.inr := by rw [kvOf_keys, rws_keys hr2]
    refine ⟨_, rfl, p3, _, 2, _, rfl, rfl, SqT.of (s4 _ _ hpp), atI_get (i := 2) rfl, da, _, AA.map (·.1), rfl, Rd.of hr1, hk1, fun ys q hperm hsrt hq => ?_⟩
    have eys := sorted_keys okA.1 hperm hsrt
    subst eys
    obtain ⟨ka, eka⟩ : ∃ ka, ka = (sortK AA).map (·.1) := ⟨_, rfl⟩
    rw [← eka]
    have s5 := Same.new (o := .lst (ka.map V.str)) hq
    have qa : upd H4 q (.lst (ka.map V.str)) q = some (.lst (ka.map V.str)) := upd_same
    obtain ⟨H5, e5⟩ : ∃ H5, H5 = upd H4 q (.lst (ka.map V.str)) := ⟨_, rfl⟩
    rw [← e5] at s5 qa ⊢
    have s15 := s13.trans (s4.trans s5)
    have hA5 : DiR H5 da AA := (hAA.same s4).same s5
    have hp5 := s5 _ _ (s4 _ _ hpp)
    have hka : (rowsOf AA).map (·.1) = ka := by rw [rowsOf_keys, eka]
    have kamem : ∀ nm, nm ∈ ka ↔ nm ∈ AA.map (·.1) := fun nm => by rw [eka]; exact ((sortK_perm AA).map (·.1)).mem_iff
    have kaok : ∀ x ∈ ka, A80.okN x := fun x hx => by
      obtain ⟨z, hz, rfl⟩ := List.mem_map.mp ((kamem x).mp hx)
      exact okA.2.1 z hz
    have kalen : ka.length ≤ 3 := by rw [eka, List.length_map, (sortK_perm AA).length_eq]; exact okA.2.2.1
    have st0 : LSt CS H5 xs PP NN ka 0 (rowsOf AA) := ⟨hX.same s5, inOk_stOk inok, hka, Nat.le_trans (szA_rowsOf AA) (by omega), fun q hq => (hinA q hq).mono (by omega), rowsOf_least⟩
    -- the turns
    obtain ⟨top, htop⟩ : ∃ top : Int, top = (if (if (19 : Int) < ((ns.map V.int).length : Nat) then (19 : Int) else ((ns.map V.int).length : Nat)) > 10 then (if (19 : Int) < ((ns.map V.int).length : Nat) then (19 : Int) else ((ns.map V.int).length : Nat)) else 10) := ⟨_, rfl⟩
    have top1 : 10 ≤ top ∧ top ≤ 19 := by rw [htop]; constructor <;> (split <;> (split <;> omega))
    refine ⟨_, rfl, a, _, rfl, .inl (hl.sm s15), _, _, rfl, _, _, rfl, 7, top, by rw [htop], ⟨by omega, by omega, by omega, by omega⟩, ?_⟩
    obtain ⟨n, hn⟩ : ∃ n : Nat, n = (top - 7).toNat := ⟨_, rfl⟩
    rw [← hn]
    refine for_it walk_range (fun i σ H' => Same H5 H' ∧ ∃ p A', LSt CS H' p PP NN ka i A' ∧ ∃ v4 v5 v6 v7 v8 v9 v10 v11 v12 : Option V, σ = [some (.ref a), some (.ref p3), some (.ref p), some (.ref q), v4, v5, v6, v7, v8, v9, v10, v11, v12])
      ⟨L2.Same.refl _, xs, _, st0, none, none, none, none, none, none, none, none, none, rfl⟩ (fun _ _ _ _ _ => trivial) ?_ ?_
    · rintro i x σ H6' H6 hi ⟨u1, p, A', L, v4, v5, v6, v7, v8, v9, v10, v11, v12, rfl⟩ ⟨rfl, rfl⟩
      have hi12 : i < 12 := by omega
      -- drawn
      refine ⟨_, rfl, _, rfl, size_le (by show 8 ≤ _; omega), fun l0 hl0 => ?_⟩
      have u2 := Same.new (o := .lst (lims8.map V.int)) hl0
      refine ⟨a, 7 + (i : Int), ns, l0, lims8, rfl, hl.sm (s15.trans (u1.trans u2)), by omega, upd_same, by decide, by decide, fun dr H7 ds s7 hdr hdl hds => ?_⟩
      have u3 := u2.trans s7
      obtain ⟨d0, e0, b0, c0⟩ := drawn_get hds (i := 0) (q := 15) rfl
      obtain ⟨d1, e1, b1, c1⟩ := drawn_get hds (i := 1) (q := 400) rfl
      obtain ⟨d2, e2, b2, c2⟩ := drawn_get hds (i := 2) (q := 60) rfl
      obtain ⟨d3, e3, b3, c3⟩ := drawn_get hds (i := 3) (q := 8) rfl
      obtain ⟨d4, e4, b4, c4⟩ := drawn_get hds (i := 4) (q := 12) rfl
      obtain ⟨d5, e5, b5, c5⟩ := drawn_get hds (i := 5) (q := 15) rfl
      obtain ⟨d6, e6, b6, c6⟩ := drawn_get hds (i := 6) (q := 3) rfl
      obtain ⟨d7, e7, b7, c7⟩ := drawn_get hds (i := 7) (q := 9) rfl
      have L7 : LSt CS H7 p PP NN ka i A' := ⟨L.at_.same u3, L.ok, L.ks, L.sz, L.inn, L.least⟩
      have w7 := u1.trans u3
      -- with_cell
      refine ⟨fun σ H' => Same H7 H' ∧ ∃ p' A'', LSt CS H' p' PP NN ka (i + 1) A'' ∧ ∃ w6 w7 w8 : Option V, σ = [some (.ref a), some (.ref p3), some (.ref p'), some (.ref q), some (.int (7 + (i : Int))), some (.ref dr), w6, w7, w8, v9, v10, v11, v12], ?_, ?_⟩
      · refine ⟨_, rfl, size_le (by show 0 ≤ _; omega), fun l1 hl1 => ?_⟩
        have u4 := Same.new (o := .lst []) hl1
        refine ⟨_, _, .lst (SqL.of ((w7.trans u4) _ _ qa)) (dp_strs ka), .lst (SqL.of (xs := []) upd_same) .nil, shaped_strs ka kaok, rfl, _, rfl, ite_b (fun cc => ?_) (fun cc => ?_)⟩
        · have cc : (!PyData.eqv (.list (ka.map PyData.str)) (.list [])) = true := cc
          rw [eqv_list0] at cc
          have hkn : ka ≠ [] := fun z => by rw [z] at cc; cases cc
          have kpos : 0 < ka.length := List.length_pos_iff.mpr hkn
          have w8 := w7.trans u4
          have f0 := Int.emod_nonneg d4 (show ((ka.length : Nat) : Int) ≠ 0 by omega)
          have f1 := Int.emod_lt_of_pos d4 (show (0 : Int) < ((ka.length : Nat) : Int) by omega)
          obtain ⟨nm, hnm⟩ : ∃ y, ka[(d4 % (ka.length : Int)).toNat]? = some y := ⟨_, List.getElem?_eq_getElem (by omega)⟩
          have hnmk : nm ∈ ka := List.mem_of_getElem? hnm
          obtain ⟨row, hrow⟩ := lookS_isSome ((kamem nm).mp hnmk)
          obtain ⟨rs5, q1, q2⟩ := hA5.same w8
          obtain ⟨b, hb, ts, ht1, ht2⟩ := rws_look q2 hrow
          have hrwS := okA.2.2.2 _ (lookS_mem hrow)
          have hlt := paired_len ht2
          have rpos : 0 < row.length := List.length_pos_iff.mpr hrwS.1
          have g0 := Int.emod_nonneg d5 (show ((row.length : Nat) : Int) ≠ 0 by omega)
          have g1 := Int.emod_lt_of_pos d5 (show (0 : Int) < ((row.length : Nat) : Int) by omega)
          obtain ⟨e, he⟩ : ∃ y, row[(d5 % (row.length : Int)).toNat]? = some y := ⟨_, List.getElem?_eq_getElem (by omega)⟩
          obtain ⟨t, ht, hte⟩ := paired_get' ht2 he
          have hbd := hrwS.2.2.2 e (List.mem_of_getElem? he)
          have gg : DGet (upd H7 l1 (.lst [])) da (.str nm) (some (.ref b)) := by
            have := DGet.k (k := .inr nm) q1
            rw [valV_of, hb] at this
            exact this
          have hdl4 := u4 _ _ hdl
          have L8 : StAt CS (upd H7 l1 (.lst [])) p PP NN A' := L7.at_.same u4
          obtain ⟨dx, ds1, da1, dr1, hs⟩ := id L8
          have hkA : nm ∈ A'.map (·.1) := by rw [L.ks]; exact hnmk
          obtain ⟨row', hrow'⟩ := lookS_isSome hkA
          have eL : ((ka.map V.str).length : Int) = (ka.length : Int) := by rw [List.length_map]
          have eR : ((ts.map V.ref).length : Int) = (row.length : Int) := by rw [List.length_map, hlt]
          refine ⟨_, rfl, _, rfl, dr, _, 4, _, rfl, rfl, SqL.of hdl4, atI_int (i := 4) rfl e4, .inl ⟨_, rfl, _, rfl, q, _, rfl, .inl (SqL.of (w8 _ _ qa)), _, _, rfl, rfl, by show (0 : Int) < _; rw [eL]; omega, q, _, _, .str nm, rfl, rfl, SqL.of (w8 _ _ qa), by rw [eL]; exact atI_pos f0 (by rw [List.getElem?_map, hnm]; rfl), ?_⟩⟩
          refine ⟨_, rfl, p3, _, 2, _, rfl, rfl, SqT.of (w8 _ _ hp5), atI_get (i := 2) rfl, _, rfl, da, _, rfl, gg, ?_⟩
          refine ⟨_, rfl, _, rfl, dr, _, 5, _, rfl, rfl, SqL.of hdl4, atI_int (i := 5) rfl e5, .inl ⟨_, rfl, _, rfl, b, _, rfl, .inl (SqL.of ht1), _, _, rfl, rfl, by show (0 : Int) < _; rw [eR]; omega, b, _, _, .ref t, rfl, rfl, SqL.of ht1, by rw [eR]; exact atI_pos g0 (by rw [List.getElem?_map, ht]; rfl),
            t, _, 0, _, rfl, rfl, SqT.of hte, atI_get (i := 0) rfl, _, rfl, dr, _, 6, _, rfl, rfl, SqL.of hdl4, atI_int (i := 6) rfl e6, _, _, rfl, rfl, _, _, rfl, rfl, ?_⟩⟩
          refine ⟨_, rfl, p, dx, _, rfl, hs.at_, stF_no _ _ _ _, _, rfl, _, rfl, _, rfl, dr, _, 7, _, rfl, rfl, SqL.of hdl4, atI_int (i := 7) rfl e7, _, _, rfl, rfl, p, nm, e.1 + d6 - 1, d7 - 4, PP, NN, A', row', Big + 10 + 2 * (i : Int), rfl, L8, L.ok, by have := okP.2.2.1; omega, by have := okN.2.2.1; omega, by have := L.sz; omega, hrow', L.inn, by omega, by omega, by omega, by omega, fun p' H8 A'' s8 hp' st8 ok8 ks8 sz8 in8 le8 => ?_⟩
          exact ⟨u4.trans s8, p', A'', ⟨st8, ok8, by rw [ks8, L.ks], by have := L.sz; omega, fun z hz => (in8 z hz).mono (by omega), le8⟩, _, _, _, rfl⟩
        · exact ⟨u4, p, A', ⟨L7.at_.same u4, L.ok, L.ks, by have := L.sz; omega, fun z hz => (L.inn z hz).mono (by omega), L.least⟩, _, _, _, rfl⟩
      · rintro σ H8 ⟨y1, p', A'', M, w6, w7', w8, rfl⟩
        have hB : Big = 2000000000000000000000000000000 := by decide +kernel
        have p32 : (10 : Nat) ^ 32 = 100000000000000000000000000000000 := by decide +kernel
        have hnum : NumD 32 PP NN A'' := by
          unfold NumD
          rw [p32]
          refine ⟨fun z hz => ?_, fun z hz => ?_, fun z hz y hy => ?_⟩
          · have := okP.2.2.2 z hz; omega
          · have := okN.2.2.2 z hz; omega
          · have := M.inn z hz y hy
            constructor <;> omega
        have hstz : stz PP NN A'' ≤ 89 := by
          have h1 := okP.2.2.1
          have h2 := okN.2.2.1
          have h3 := M.sz
          unfold stz
          omega
        have hwfc := canon_wfc M.ok M.least (by omega) hnum
        have nod := M.ok.2.2.1.1.nodup
        have zA := szA_len A''
        have szM := M.sz
        have hrl : ∀ c ∈ A'', c.2.length ≤ 1000000 := fun c hc => by have := szA_row hc; omega
        -- text
        refine ⟨_, rfl, p', PP, NN, A'', rfl, M.at_, M.ok, hnum.w (by omega), by omega, fun tx H9 s9 htx => ?_⟩
        have tlen0 := text_len M.ok (by omega) hnum htx
        have tlen : tx.length ≤ 7300 := by omega
        -- again
        refine ⟨_, rfl, tx, rfl, by omega, fun c hc hcx y H10 s10 hy hY => ?_, fun no => absurd ⟨_, hwfc, htx⟩ no⟩
        obtain ⟨c1', c2', c3'⟩ := rd_eq M.ok hc hcx htx
        rw [c1', c2', c3'] at hY
        have hX10 := M.at_.same (s9.trans s10)
        obtain ⟨xd, x1, x2, x3, hxs⟩ := id hX10
        obtain ⟨yd, y1', y2, y3, hys⟩ := id hY
        obtain ⟨mP1, mP2⟩ := samM_sort M.ok.1.1
        obtain ⟨mN1, mN2⟩ := samM_sort M.ok.2.1.1
        have okS := stOk_sort M.ok
        have numS := numD_sort hnum
        have stzS := stz_sort PP NN A''
        -- the first test
        refine ⟨_, rfl, _, rfl, ⟨y, p', yd, xd, _, _, rfl, rfl, hys.at_, hxs.at_, _, _, PP, NN, A'', hY, hX10, mP2, mN2, nod⟩, fun H11 s11 => ?_⟩
        have s11 : Same H10 H11 := s11
        refine ⟨_, rfl, y, _, _, A'', rfl, hY.same s11, okS, numS.w (by omega), by omega, fun t1 H12 s12 ht1 => ?_⟩
        have et1 : t1 = tx := ext_tl (by rw [ht1, htx, canon_sort M.ok.1.1 M.ok.2.1.1])
        subst et1
        have s1012 := s11.trans s12
        refine ⟨_, rfl, p', PP, NN, A'', rfl, hX10.same s1012, M.ok, hnum.w (by omega), by omega, fun t2 H13 s13 ht2 => ?_⟩
        have et2 : t2 = t1 := ext_tl (by rw [ht2, htx])
        subst et2
        refine ⟨size_le (by show 3 ≤ _; omega), fun l1 hl1 => ?_⟩
        have s14 := Same.new (o := .lst [.bl true, .str t2, .str t2]) hl1
        refine ⟨_, rfl, _, rfl, size_le (by show 3 ≤ _; omega), fun l2 hl2 => ?_⟩
        have s15' := Same.new (o := .lst [.bl true, .str t2, .str t2]) hl2
        refine ⟨.ref l1, .ref l2, rfl, samL (s15' _ _ upd_same) upd_same (by show 3 ≤ _; omega) (.cons (samB _) (.cons (samS _) (.cons (samS _) .nil))), fun H16 s16 => ⟨true, rfl, ite_f rfl ?_⟩⟩
        have s1016 := s1012.trans (s13.trans (s14.trans (s15'.trans s16)))
        -- the second test
        refine ⟨_, rfl, rfl, t2, rfl, by omega, fun c hc hcx y9 H17 s17 hy9 hY9 => ?_, fun no => absurd ⟨_, hwfc, htx⟩ no⟩
        obtain ⟨c1', c2', c3'⟩ := rd_eq M.ok hc hcx htx
        rw [c1', c2', c3'] at hY9
        obtain ⟨zd, z1, z2, z3, hzs⟩ := id hY9
        have s1017 := s1016.trans s17
        refine ⟨y9, zd, _, rfl, hzs.at_, y9, _, _, A'', rfl, hY9, nod, by omega, fun a1 H18 s18 ha1 hAA1 => ?_⟩
        have s1018 := s1017.trans s18
        refine ⟨_, rfl, p', xd, _, rfl, s1018 _ _ hxs.at_, p', PP, NN, A'', rfl, hX10.same s1018, nod, by omega, fun a2 H19 s19 ha2 hAA2 => ?_⟩
        have na12 : a1 ≠ a2 := by
          obtain ⟨us, hu, _⟩ := hAA1.r
          exact ne_of_none hu ha2
        have s1019 := s1018.trans s19
        refine ⟨.ref a1, .ref a2, rfl, samR_mono (show 4 ≤ 6 by omega) (samDiR na12 (hAA1.r.same s19) hAA2.r (by omega) hrl), fun H20 s20 => ⟨true, rfl, ite_f rfl ?_⟩⟩
        have s1020 := s1019.trans s20
        refine ⟨_, rfl, _, rfl, y, p', _, _, PP, NN, A'', rfl, hY.same s1020, hX10.same s1020, okS, mP2, mN2, mP1, mN1, by omega, fun H21 s21 => ⟨true, rfl, ite_f rfl ?_⟩⟩
        have s1021 := s1020.trans s21
        -- changed
        have s721 := y1.trans (s9.trans (s10.trans s1021))
        obtain ⟨rest, eds⟩ : ∃ rest, ds = d0 :: d1 :: d2 :: d3 :: rest := by
          match ds, e0, e1, e2, e3 with
          | _ :: _ :: _ :: _ :: r, rfl, rfl, rfl, rfl => exact ⟨r, rfl⟩
        refine ⟨_, rfl, _, rfl, 4, rfl, dr, _, rfl, SqL.of (s721 _ _ hdl), fun cl hcl => ?_⟩
        have ecut : cutV (ds.map V.int) none (some 4) = ([d0, d1, d2, d3] : List Int).map V.int := by
          rw [eds]
          exact cutV_take _ 4
        rw [ecut]
        have s22 := Same.new (o := .lst (([d0, d1, d2, d3] : List Int).map V.int)) hcl
        have htwo : t2.length = 0 ∨ 2 ≤ t2.length := by rw [str_len, htx]; exact showS_two
        refine ⟨t2, cl, d0, d1, d2, d3, rfl, upd_same, htwo, by omega, fun r H23 s23 hrlen => ?_⟩
        have s823 := (s9.trans (s10.trans s1021)).trans (s22.trans s23)
        have rlen : r.length ≤ 16000 := by omega
        have fin : ∀ {H' : Hp} {v11 v12 : Option V}, Same H8 H' → Same H5 H' ∧ ∃ p A', LSt CS H' p PP NN ka (i + 1) A' ∧ ∃ v4 v5 v6 v7 v8 v9 v10 v11' v12' : Option V, [some (.ref a), some (.ref p3), some (.ref p'), some (.ref q), some (.int (7 + (i : Int))), some (.ref dr), w6, w7', w8, some (.str t2), some (.ref y), v11, v12] = [some (.ref a), some (.ref p3), some (.ref p), some (.ref q), v4, v5, v6, v7, v8, v9, v10, v11', v12'] := fun {H' v11 v12} s =>
          ⟨w7.trans (y1.trans s), p', A'', ⟨M.at_.same s, M.ok, M.ks, M.sz, M.inn, M.least⟩, _, _, _, _, _, _, _, _, _, rfl⟩
        -- found
        by_cases hex : ∃ c, WFC c ∧ tl r = showS c
        · obtain ⟨c0, hc0, hr0⟩ := hex
          refine ⟨_, rfl, r, rfl, rlen, fun c hc hcx pf kl f0 f1 f2 H24 s24 hpf hpfl hkl hF0 hF1 hF2 => ?_, fun no => absurd ⟨c0, hc0, hr0⟩ no⟩
          refine ⟨_, rfl, size_le (by show 0 ≤ _; omega), fun l3 hl3 => ?_⟩
          have s25 := Same.new (o := .lst []) hl3
          refine .inr ⟨pf, l3, [.ref kl], [], rfl, rfl, SqL.of (s25 _ _ hpfl), SqL.of upd_same, by show 1 ≠ 0; omega, _, rfl, iteF ?_⟩
          refine ⟨_, rfl, r, rfl, rlen, fun c' hc' hcx' p2 kl2 g0 g1 g2 H26 s26 hp2 hkl2 hG0 hG1 hG2 n0 n1 n2 => ?_, fun no => absurd ⟨c0, hc0, hr0⟩ no⟩
          have ecc : c' = c := showS_inj hc'.sh hc.sh (by rw [← hcx', ← hcx])
          subst ecc
          have s2526 := s25.trans s26
          refine ⟨_, rfl, pf, _, 0, _, rfl, rfl, SqL.of (s2526 _ _ hpfl), atI_get (i := 0) rfl, _, rfl, size_le (by show 2 ≤ _; omega), fun l4 hl4 => ?_⟩
          have s27 := Same.new (o := .lst [.ref kl, .str r]) hl4
          have s257 := s2526.trans s27
          have zc := wfc_stz hc'
          rw [← hcx', ← str_len] at zc
          have zA2 := szA_len (arsOf c')
          unfold stz at zc
          have m0 : g0 ≠ f0 := fun e => by rw [e, s25 _ _ hF0] at n0; cases n0
          have m1 : g1 ≠ f1 := fun e => by rw [e, s25 _ _ hF1] at n1; cases n1
          have m2 : g2 ≠ f2 := fun e => by
            obtain ⟨us, hu, _⟩ := hF2.same s25
            rw [e, hu] at n2; cases n2
          have q0 : SamR 4 (upd H26 l4 (.lst [.ref kl, .str r])) (.ref g0) (.ref f0) := samR_mono (show 2 ≤ 4 by omega) (samDiI m0 (hG0.same s27) (hF0.same s257) (by omega))
          have q1 : SamR 4 (upd H26 l4 (.lst [.ref kl, .str r])) (.ref g1) (.ref f1) := samR_mono (show 2 ≤ 4 by omega) (samDiI m1 (hG1.same s27) (hF1.same s257) (by omega))
          have q2 : SamR 4 (upd H26 l4 (.lst [.ref kl, .str r])) (.ref g2) (.ref f2) := samDiR m2 (hG2.same s27) (hF2.same s257) (by omega) fun c hc => by have := szA_row hc; omega
          refine ⟨.ref p2, .ref l4, rfl, samL (s27 _ _ hp2) upd_same (by show 2 ≤ _; omega) (.cons (samL (s27 _ _ hkl2) (s257 _ _ hkl) (by show 3 ≤ _; omega) (.cons q0 (.cons q1 (.cons q2 .nil)))) (.cons (samS _) .nil)), fun H28 s28 => ⟨true, rfl, ite_f rfl ?_⟩⟩
          exact fin (s823.trans (s24.trans (s257.trans s28)))
        · refine ⟨_, rfl, r, rfl, rlen, fun c hc hcx => absurd ⟨c, hc, hcx⟩ hex, fun _ pf H24 s24 hpf hpfl => ?_⟩
          refine ⟨_, rfl, size_le (by show 0 ≤ _; omega), fun l3 hl3 => ?_⟩
          have s25 := Same.new (o := .lst []) hl3
          refine .inl ⟨.list [], .list [], .lst (SqL.of (xs := []) (s25 _ _ hpfl)) .nil, .lst (SqL.of (xs := []) upd_same) .nil, rfl, rfl, _, rfl, iteT ?_⟩
          refine ⟨_, rfl, r, rfl, rlen, fun c hc hcx => absurd ⟨c, hc, hcx⟩ hex, fun _ H26 s26 => ?_⟩
          refine ⟨_, rfl, .str r, .str r, rfl, samS _, fun H28 s28 => ⟨true, rfl, ite_f rfl ?_⟩⟩
          exact fin (s823.trans (s24.trans (s25.trans (s26.trans s28))))
    · rintro σ H6 ⟨u1, p, A', L, v4, v5, v6, v7, v8, v9, v10, v11, v12, rfl⟩
      refine ⟨_, rfl, a, 61, ns, rfl, hl.sm (s15.trans u1), by omega, fun H7 s7 => ⟨true, rfl, ite_f rfl ?_⟩⟩
      have s17 := u1.trans s7
      refine ⟨_, rfl, a, 62, ns, rfl, hl.sm (s15.trans s17), by omega, fun H8 s8 => ⟨true, rfl, iteT ?_⟩⟩
      have wn : WFC [] := ⟨fun e he => by simp at he, List.Pairwise.nil⟩
      have e0 : tl (Str.ofString "") = showS [] := rfl
      refine ⟨Str.ofString "", rfl, by show 0 ≤ 16000; omega, fun c hc hcx p1 kl g0 g1 g2 H9 s9 hp1 hkl hG0 hG1 hG2 n0 n1 n2 => ?_, fun no => absurd ⟨[], wn, e0⟩ no⟩
      have ec : c = [] := showS_inj hc.sh wn.sh (by rw [← hcx, e0])
      subst ec
      refine fun f0 hf0 => ?_
      refine fun f1 hf1 => ?_
      refine fun f2 hf2 => ?_
      have r0 := Same.new (o := .dK []) hf0
      have r1 := Same.new (o := .dK []) hf1
      have r2 := Same.new (o := .dK []) hf2
      refine ⟨size_le (by show 3 ≤ _; omega), fun l1 hl1 => ?_⟩
      have r3 := Same.new (o := .lst [.ref f0, .ref f1, .ref f2]) hl1
      refine ⟨size_le (by show 2 ≤ _; omega), fun l2 hl2 => ?_⟩
      have r4 := Same.new (o := .lst [.ref l1, .str (Str.ofString "")]) hl2
      have r34 := r3.trans r4
      have r234 := r2.trans r34
      have r14 := r1.trans r234
      have r04 := r0.trans r14
      have b0 : DiI (upd H9 f0 (.dK [])) f0 [] := upd_same
      have b1 : DiI (upd (upd H9 f0 (.dK [])) f1 (.dK [])) f1 [] := upd_same
      have b2 : DiR (upd (upd (upd H9 f0 (.dK [])) f1 (.dK [])) f2 (.dK [])) f2 [] := ⟨[], upd_same, .nil⟩
      have m0 : g0 ≠ f0 := ne_of_none hG0 hf0
      have m1 : g1 ≠ f1 := ne_of_none (hG1.same r0) hf1
      have m2 : g2 ≠ f2 := by
        obtain ⟨us, hu, _⟩ := hG2.same (r0.trans r1)
        exact ne_of_none hu hf2
      have nA : ∀ c ∈ arsOf [], c.2.length ≤ 1000000 := fun c hc => by cases hc
      refine ⟨.ref p1, .ref l2, rfl, samL (r04 _ _ hp1) upd_same (by show 2 ≤ _; omega) (.cons (samL (r04 _ _ hkl) (r4 _ _ upd_same) (by show 3 ≤ _; omega) (.cons (samR_mono (show 2 ≤ 4 by omega) (samDiI m0 (hG0.same r04) (b0.same r14) (by show 0 ≤ _; omega))) (.cons (samR_mono (show 2 ≤ 4 by omega) (samDiI m1 (hG1.same r04) (b1.same r234) (by show 0 ≤ _; omega))) (.cons (samDiR m2 (hG2.same r04) (b2.same r34) (by show 0 ≤ _; omega) nA) .nil)))) (.cons (samS _) .nil)), fun H10 s10 => kk _⟩
end
end A80
end
section
set_option Elab.async false
set_option maxRecDepth 100000
set_option maxHeartbeats 4000000
set_option autoImplicit false
namespace A80
open PySem PySem.Spec L2 PyProof.Rows TL
/-! ### what the written part says -/
section
variable {K : PySem.W.Frag} {h : Heap} {mg : Str → Option Value} {CS CU : Addr}
theorem j_is_name {f : Addr} {oc : Value} {od an : Option Addr} {osl : Array (Option Value)} {kV doc pm cdv ct : Value} (X : K.In h) (G : h.Ns mainGlobals mg) (a : PySem.W.nsIn K mainGlobals "is_name" = some (some (.ref f))) (l : K.lookup f = some ⟨oc, od, .func (PySem.W.fnOf "is_name" "is_name" (defArgs S_is_name) (defBody S_is_name) (defScope S_is_name) .none kV doc pm an cdv ct), osl⟩) (c : PySem.W.codeIn K cdv "is_name" = true) (k : PySem.W.keepIn K (.ref f) = true) : Df K mg "is_name" S_is_name ["thing"] :=
  ⟨f, _, fun_mk (st := S_is_name) l c k, PySem.W.mg_of X G a, (fun_mk (st := S_is_name) l c k).binds fun _ _ _ _ _ _ us hl => match us, hl with | [_], _ => rfl⟩
theorem j_cell_at {f : Addr} {oc : Value} {od an : Option Addr} {osl : Array (Option Value)} {kV doc pm cdv ct : Value} (X : K.In h) (G : h.Ns mainGlobals mg) (a : PySem.W.nsIn K mainGlobals "cell_at" = some (some (.ref f))) (l : K.lookup f = some ⟨oc, od, .func (PySem.W.fnOf "cell_at" "cell_at" (defArgs S_cell_at) (defBody S_cell_at) (defScope S_cell_at) .none kV doc pm an cdv ct), osl⟩) (c : PySem.W.codeIn K cdv "cell_at" = true) (k : PySem.W.keepIn K (.ref f) = true) : Df K mg "cell_at" S_cell_at ["row", "place"] :=
  ⟨f, _, fun_mk (st := S_cell_at) l c k, PySem.W.mg_of X G a, (fun_mk (st := S_cell_at) l c k).binds fun _ _ _ _ _ _ us hl => match us, hl with | [_, _], _ => rfl⟩
theorem j_read_integer {f : Addr} {oc : Value} {od an : Option Addr} {osl : Array (Option Value)} {kV doc pm cdv ct : Value} (X : K.In h) (G : h.Ns mainGlobals mg) (a : PySem.W.nsIn K mainGlobals "read_integer" = some (some (.ref f))) (l : K.lookup f = some ⟨oc, od, .func (PySem.W.fnOf "read_integer" "read_integer" (defArgs S_read_integer) (defBody S_read_integer) (defScope S_read_integer) .none kV doc pm an cdv ct), osl⟩) (c : PySem.W.codeIn K cdv "read_integer" = true) (k : PySem.W.keepIn K (.ref f) = true) : Df K mg "read_integer" S_read_integer ["text"] :=
  ⟨f, _, fun_mk (st := S_read_integer) l c k, PySem.W.mg_of X G a, (fun_mk (st := S_read_integer) l c k).binds fun _ _ _ _ _ _ us hl => match us, hl with | [_], _ => rfl⟩
theorem j_least_row {f : Addr} {oc : Value} {od an : Option Addr} {osl : Array (Option Value)} {kV doc pm cdv ct : Value} (X : K.In h) (G : h.Ns mainGlobals mg) (a : PySem.W.nsIn K mainGlobals "least_row" = some (some (.ref f))) (l : K.lookup f = some ⟨oc, od, .func (PySem.W.fnOf "least_row" "least_row" (defArgs S_least_row) (defBody S_least_row) (defScope S_least_row) .none kV doc pm an cdv ct), osl⟩) (c : PySem.W.codeIn K cdv "least_row" = true) (k : PySem.W.keepIn K (.ref f) = true) : Df K mg "least_row" S_least_row ["row"] :=
  ⟨f, _, fun_mk (st := S_least_row) l c k, PySem.W.mg_of X G a, (fun_mk (st := S_least_row) l c k).binds fun _ _ _ _ _ _ us hl => match us, hl with | [_], _ => rfl⟩
theorem j_read_cell {f : Addr} {oc : Value} {od an : Option Addr} {osl : Array (Option Value)} {kV doc pm cdv ct : Value} (X : K.In h) (G : h.Ns mainGlobals mg) (a : PySem.W.nsIn K mainGlobals "read_cell" = some (some (.ref f))) (l : K.lookup f = some ⟨oc, od, .func (PySem.W.fnOf "read_cell" "read_cell" (defArgs S_read_cell) (defBody S_read_cell) (defScope S_read_cell) .none kV doc pm an cdv ct), osl⟩) (c : PySem.W.codeIn K cdv "read_cell" = true) (k : PySem.W.keepIn K (.ref f) = true) : Df K mg "read_cell" S_read_cell ["text"] :=
  ⟨f, _, fun_mk (st := S_read_cell) l c k, PySem.W.mg_of X G a, (fun_mk (st := S_read_cell) l c k).binds fun _ _ _ _ _ _ us hl => match us, hl with | [_], _ => rfl⟩
theorem j_read_row {f : Addr} {oc : Value} {od an : Option Addr} {osl : Array (Option Value)} {kV doc pm cdv ct : Value} (X : K.In h) (G : h.Ns mainGlobals mg) (a : PySem.W.nsIn K mainGlobals "read_row" = some (some (.ref f))) (l : K.lookup f = some ⟨oc, od, .func (PySem.W.fnOf "read_row" "read_row" (defArgs S_read_row) (defBody S_read_row) (defScope S_read_row) .none kV doc pm an cdv ct), osl⟩) (c : PySem.W.codeIn K cdv "read_row" = true) (k : PySem.W.keepIn K (.ref f) = true) : Df K mg "read_row" S_read_row ["text"] :=
  ⟨f, _, fun_mk (st := S_read_row) l c k, PySem.W.mg_of X G a, (fun_mk (st := S_read_row) l c k).binds fun _ _ _ _ _ _ us hl => match us, hl with | [_], _ => rfl⟩
theorem j_show_state {f : Addr} {oc : Value} {od an : Option Addr} {osl : Array (Option Value)} {kV doc pm cdv ct : Value} (X : K.In h) (G : h.Ns mainGlobals mg) (a : PySem.W.nsIn K mainGlobals "show_state" = some (some (.ref f))) (l : K.lookup f = some ⟨oc, od, .func (PySem.W.fnOf "show_state" "show_state" (defArgs S_show_state) (defBody S_show_state) (defScope S_show_state) .none kV doc pm an cdv ct), osl⟩) (c : PySem.W.codeIn K cdv "show_state" = true) (k : PySem.W.keepIn K (.ref f) = true) : Df K mg "show_state" S_show_state ["state"] :=
  ⟨f, _, fun_mk (st := S_show_state) l c k, PySem.W.mg_of X G a, (fun_mk (st := S_show_state) l c k).binds fun _ _ _ _ _ _ us hl => match us, hl with | [_], _ => rfl⟩
theorem j_law_head {f : Addr} {oc : Value} {od an : Option Addr} {osl : Array (Option Value)} {kV doc pm cdv ct : Value} (X : K.In h) (G : h.Ns mainGlobals mg) (a : PySem.W.nsIn K mainGlobals "_law_head" = some (some (.ref f))) (l : K.lookup f = some ⟨oc, od, .func (PySem.W.fnOf "_law_head" "_law_head" (defArgs S_law_head) (defBody S_law_head) (defScope S_law_head) .none kV doc pm an cdv ct), osl⟩) (c : PySem.W.codeIn K cdv "_law_head" = true) (k : PySem.W.keepIn K (.ref f) = true) : Df K mg "_law_head" S_law_head ["_law_text"] :=
  ⟨f, _, fun_mk (st := S_law_head) l c k, PySem.W.mg_of X G a, (fun_mk (st := S_law_head) l c k).binds fun _ _ _ _ _ _ us hl => match us, hl with | [_], _ => rfl⟩
theorem j_law_figure {f : Addr} {oc : Value} {od an : Option Addr} {osl : Array (Option Value)} {kV doc pm cdv ct : Value} (X : K.In h) (G : h.Ns mainGlobals mg) (a : PySem.W.nsIn K mainGlobals "_law_figure" = some (some (.ref f))) (l : K.lookup f = some ⟨oc, od, .func (PySem.W.fnOf "_law_figure" "_law_figure" (defArgs S_law_figure) (defBody S_law_figure) (defScope S_law_figure) .none kV doc pm an cdv ct), osl⟩) (c : PySem.W.codeIn K cdv "_law_figure" = true) (k : PySem.W.keepIn K (.ref f) = true) : Df K mg "_law_figure" S_law_figure ["_law_script", "_law_at"] :=
  ⟨f, _, fun_mk (st := S_law_figure) l c k, PySem.W.mg_of X G a, (fun_mk (st := S_law_figure) l c k).binds fun _ _ _ _ _ _ us hl => match us, hl with | [_, _], _ => rfl⟩
theorem j_law_draws {f : Addr} {oc : Value} {od an : Option Addr} {osl : Array (Option Value)} {kV doc pm cdv ct : Value} (X : K.In h) (G : h.Ns mainGlobals mg) (a : PySem.W.nsIn K mainGlobals "_law_draws" = some (some (.ref f))) (l : K.lookup f = some ⟨oc, od, .func (PySem.W.fnOf "_law_draws" "_law_draws" (defArgs S_law_draws) (defBody S_law_draws) (defScope S_law_draws) .none kV doc pm an cdv ct), osl⟩) (c : PySem.W.codeIn K cdv "_law_draws" = true) (k : PySem.W.keepIn K (.ref f) = true) : Df K mg "_law_draws" S_law_draws ["_law_script", "_law_at", "_law_limits"] :=
  ⟨f, _, fun_mk (st := S_law_draws) l c k, PySem.W.mg_of X G a, (fun_mk (st := S_law_draws) l c k).binds fun _ _ _ _ _ _ us hl => match us, hl with | [_, _, _], _ => rfl⟩
theorem j_law_long {f : Addr} {oc : Value} {od an : Option Addr} {osl : Array (Option Value)} {kV doc pm cdv ct : Value} (X : K.In h) (G : h.Ns mainGlobals mg) (a : PySem.W.nsIn K mainGlobals "_law_long" = some (some (.ref f))) (l : K.lookup f = some ⟨oc, od, .func (PySem.W.fnOf "_law_long" "_law_long" (defArgs S_law_long) (defBody S_law_long) (defScope S_law_long) .none kV doc pm an cdv ct), osl⟩) (c : PySem.W.codeIn K cdv "_law_long" = true) (k : PySem.W.keepIn K (.ref f) = true) : Df K mg "_law_long" S_law_long ["_law_script", "_law_at", "_law_many"] :=
  ⟨f, _, fun_mk (st := S_law_long) l c k, PySem.W.mg_of X G a, (fun_mk (st := S_law_long) l c k).binds fun _ _ _ _ _ _ us hl => match us, hl with | [_, _, _], _ => rfl⟩
theorem j_law_scale {f : Addr} {oc : Value} {od an : Option Addr} {osl : Array (Option Value)} {kV doc pm cdv ct : Value} (X : K.In h) (G : h.Ns mainGlobals mg) (a : PySem.W.nsIn K mainGlobals "_law_scale" = some (some (.ref f))) (l : K.lookup f = some ⟨oc, od, .func (PySem.W.fnOf "_law_scale" "_law_scale" (defArgs S_law_scale) (defBody S_law_scale) (defScope S_law_scale) .none kV doc pm an cdv ct), osl⟩) (c : PySem.W.codeIn K cdv "_law_scale" = true) (k : PySem.W.keepIn K (.ref f) = true) : Df K mg "_law_scale" S_law_scale ["_law_script", "_law_at"] :=
  ⟨f, _, fun_mk (st := S_law_scale) l c k, PySem.W.mg_of X G a, (fun_mk (st := S_law_scale) l c k).binds fun _ _ _ _ _ _ us hl => match us, hl with | [_, _], _ => rfl⟩
theorem j_law_names {f : Addr} {oc : Value} {od an : Option Addr} {osl : Array (Option Value)} {kV doc pm cdv ct : Value} (X : K.In h) (G : h.Ns mainGlobals mg) (a : PySem.W.nsIn K mainGlobals "_law_names" = some (some (.ref f))) (l : K.lookup f = some ⟨oc, od, .func (PySem.W.fnOf "_law_names" "_law_names" (defArgs S_law_names) (defBody S_law_names) (defScope S_law_names) .none kV doc pm an cdv ct), osl⟩) (c : PySem.W.codeIn K cdv "_law_names" = true) (k : PySem.W.keepIn K (.ref f) = true) : Df K mg "_law_names" S_law_names ["_law_script", "_law_at", "_law_many"] :=
  ⟨f, _, fun_mk (st := S_law_names) l c k, PySem.W.mg_of X G a, (fun_mk (st := S_law_names) l c k).binds fun _ _ _ _ _ _ us hl => match us, hl with | [_, _, _], _ => rfl⟩
theorem j_law_row {f : Addr} {oc : Value} {od an : Option Addr} {osl : Array (Option Value)} {kV doc pm cdv ct : Value} (X : K.In h) (G : h.Ns mainGlobals mg) (a : PySem.W.nsIn K mainGlobals "_law_row" = some (some (.ref f))) (l : K.lookup f = some ⟨oc, od, .func (PySem.W.fnOf "_law_row" "_law_row" (defArgs S_law_row) (defBody S_law_row) (defScope S_law_row) .none kV doc pm an cdv ct), osl⟩) (c : PySem.W.codeIn K cdv "_law_row" = true) (k : PySem.W.keepIn K (.ref f) = true) : Df K mg "_law_row" S_law_row ["_law_script", "_law_at", "_law_first", "_law_size", "_law_high"] :=
  ⟨f, _, fun_mk (st := S_law_row) l c k, PySem.W.mg_of X G a, (fun_mk (st := S_law_row) l c k).binds fun _ _ _ _ _ _ us hl => match us, hl with | [_, _, _, _, _], _ => rfl⟩
theorem j_law_parts {f : Addr} {oc : Value} {od an : Option Addr} {osl : Array (Option Value)} {kV doc pm cdv ct : Value} (X : K.In h) (G : h.Ns mainGlobals mg) (a : PySem.W.nsIn K mainGlobals "_law_parts" = some (some (.ref f))) (l : K.lookup f = some ⟨oc, od, .func (PySem.W.fnOf "_law_parts" "_law_parts" (defArgs S_law_parts) (defBody S_law_parts) (defScope S_law_parts) .none kV doc pm an cdv ct), osl⟩) (c : PySem.W.codeIn K cdv "_law_parts" = true) (k : PySem.W.keepIn K (.ref f) = true) : Df K mg "_law_parts" S_law_parts ["_law_script", "_law_at"] :=
  ⟨f, _, fun_mk (st := S_law_parts) l c k, PySem.W.mg_of X G a, (fun_mk (st := S_law_parts) l c k).binds fun _ _ _ _ _ _ us hl => match us, hl with | [_, _], _ => rfl⟩
theorem j_law_scaled_parts {f : Addr} {oc : Value} {od an : Option Addr} {osl : Array (Option Value)} {kV doc pm cdv ct : Value} (X : K.In h) (G : h.Ns mainGlobals mg) (a : PySem.W.nsIn K mainGlobals "_law_scaled_parts" = some (some (.ref f))) (l : K.lookup f = some ⟨oc, od, .func (PySem.W.fnOf "_law_scaled_parts" "_law_scaled_parts" (defArgs S_law_scaled_parts) (defBody S_law_scaled_parts) (defScope S_law_scaled_parts) .none kV doc pm an cdv ct), osl⟩) (c : PySem.W.codeIn K cdv "_law_scaled_parts" = true) (k : PySem.W.keepIn K (.ref f) = true) : Df K mg "_law_scaled_parts" S_law_scaled_parts ["_law_parts_here", "_law_scale_here"] :=
  ⟨f, _, fun_mk (st := S_law_scaled_parts) l c k, PySem.W.mg_of X G a, (fun_mk (st := S_law_scaled_parts) l c k).binds fun _ _ _ _ _ _ us hl => match us, hl with | [_, _], _ => rfl⟩
theorem j_law_number {f : Addr} {oc : Value} {od an : Option Addr} {osl : Array (Option Value)} {kV doc pm cdv ct : Value} (X : K.In h) (G : h.Ns mainGlobals mg) (a : PySem.W.nsIn K mainGlobals "_law_number" = some (some (.ref f))) (l : K.lookup f = some ⟨oc, od, .func (PySem.W.fnOf "_law_number" "_law_number" (defArgs S_law_number) (defBody S_law_number) (defScope S_law_number) .none kV doc pm an cdv ct), osl⟩) (c : PySem.W.codeIn K cdv "_law_number" = true) (k : PySem.W.keepIn K (.ref f) = true) : Df K mg "_law_number" S_law_number ["_law_text"] :=
  ⟨f, _, fun_mk (st := S_law_number) l c k, PySem.W.mg_of X G a, (fun_mk (st := S_law_number) l c k).binds fun _ _ _ _ _ _ us hl => match us, hl with | [_], _ => rfl⟩
theorem j_law_least {f : Addr} {oc : Value} {od an : Option Addr} {osl : Array (Option Value)} {kV doc pm cdv ct : Value} (X : K.In h) (G : h.Ns mainGlobals mg) (a : PySem.W.nsIn K mainGlobals "_law_least" = some (some (.ref f))) (l : K.lookup f = some ⟨oc, od, .func (PySem.W.fnOf "_law_least" "_law_least" (defArgs S_law_least) (defBody S_law_least) (defScope S_law_least) .none kV doc pm an cdv ct), osl⟩) (c : PySem.W.codeIn K cdv "_law_least" = true) (k : PySem.W.keepIn K (.ref f) = true) : Df K mg "_law_least" S_law_least ["_law_row_here"] :=
  ⟨f, _, fun_mk (st := S_law_least) l c k, PySem.W.mg_of X G a, (fun_mk (st := S_law_least) l c k).binds fun _ _ _ _ _ _ us hl => match us, hl with | [_], _ => rfl⟩
theorem j_law_read_row {f : Addr} {oc : Value} {od an : Option Addr} {osl : Array (Option Value)} {kV doc pm cdv ct : Value} (X : K.In h) (G : h.Ns mainGlobals mg) (a : PySem.W.nsIn K mainGlobals "_law_read_row" = some (some (.ref f))) (l : K.lookup f = some ⟨oc, od, .func (PySem.W.fnOf "_law_read_row" "_law_read_row" (defArgs S_law_read_row) (defBody S_law_read_row) (defScope S_law_read_row) .none kV doc pm an cdv ct), osl⟩) (c : PySem.W.codeIn K cdv "_law_read_row" = true) (k : PySem.W.keepIn K (.ref f) = true) : Df K mg "_law_read_row" S_law_read_row ["_law_text"] :=
  ⟨f, _, fun_mk (st := S_law_read_row) l c k, PySem.W.mg_of X G a, (fun_mk (st := S_law_read_row) l c k).binds fun _ _ _ _ _ _ us hl => match us, hl with | [_], _ => rfl⟩
theorem j_law_read_state {f : Addr} {oc : Value} {od an : Option Addr} {osl : Array (Option Value)} {kV doc pm cdv ct : Value} (X : K.In h) (G : h.Ns mainGlobals mg) (a : PySem.W.nsIn K mainGlobals "_law_read_state" = some (some (.ref f))) (l : K.lookup f = some ⟨oc, od, .func (PySem.W.fnOf "_law_read_state" "_law_read_state" (defArgs S_law_read_state) (defBody S_law_read_state) (defScope S_law_read_state) .none kV doc pm an cdv ct), osl⟩) (c : PySem.W.codeIn K cdv "_law_read_state" = true) (k : PySem.W.keepIn K (.ref f) = true) : Df K mg "_law_read_state" S_law_read_state ["_law_text"] :=
  ⟨f, _, fun_mk (st := S_law_read_state) l c k, PySem.W.mg_of X G a, (fun_mk (st := S_law_read_state) l c k).binds fun _ _ _ _ _ _ us hl => match us, hl with | [_], _ => rfl⟩
theorem j_law_marred {f : Addr} {oc : Value} {od an : Option Addr} {osl : Array (Option Value)} {kV doc pm cdv ct : Value} (X : K.In h) (G : h.Ns mainGlobals mg) (a : PySem.W.nsIn K mainGlobals "_law_marred" = some (some (.ref f))) (l : K.lookup f = some ⟨oc, od, .func (PySem.W.fnOf "_law_marred" "_law_marred" (defArgs S_law_marred) (defBody S_law_marred) (defScope S_law_marred) .none kV doc pm an cdv ct), osl⟩) (c : PySem.W.codeIn K cdv "_law_marred" = true) (k : PySem.W.keepIn K (.ref f) = true) : Df K mg "_law_marred" S_law_marred ["_law_text", "_law_drawn"] :=
  ⟨f, _, fun_mk (st := S_law_marred) l c k, PySem.W.mg_of X G a, (fun_mk (st := S_law_marred) l c k).binds fun _ _ _ _ _ _ us hl => match us, hl with | [_, _], _ => rfl⟩
theorem j_law_changed {f : Addr} {oc : Value} {od an : Option Addr} {osl : Array (Option Value)} {kV doc pm cdv ct : Value} (X : K.In h) (G : h.Ns mainGlobals mg) (a : PySem.W.nsIn K mainGlobals "_law_changed" = some (some (.ref f))) (l : K.lookup f = some ⟨oc, od, .func (PySem.W.fnOf "_law_changed" "_law_changed" (defArgs S_law_changed) (defBody S_law_changed) (defScope S_law_changed) .none kV doc pm an cdv ct), osl⟩) (c : PySem.W.codeIn K cdv "_law_changed" = true) (k : PySem.W.keepIn K (.ref f) = true) : Df K mg "_law_changed" S_law_changed ["_law_text", "_law_drawn"] :=
  ⟨f, _, fun_mk (st := S_law_changed) l c k, PySem.W.mg_of X G a, (fun_mk (st := S_law_changed) l c k).binds fun _ _ _ _ _ _ us hl => match us, hl with | [_, _], _ => rfl⟩
theorem j_law_same {f : Addr} {oc : Value} {od an : Option Addr} {osl : Array (Option Value)} {kV doc pm cdv ct : Value} (X : K.In h) (G : h.Ns mainGlobals mg) (a : PySem.W.nsIn K mainGlobals "_law_same" = some (some (.ref f))) (l : K.lookup f = some ⟨oc, od, .func (PySem.W.fnOf "_law_same" "_law_same" (defArgs S_law_same) (defBody S_law_same) (defScope S_law_same) .none kV doc pm an cdv ct), osl⟩) (c : PySem.W.codeIn K cdv "_law_same" = true) (k : PySem.W.keepIn K (.ref f) = true) : Df K mg "_law_same" S_law_same ["_law_found", "_law_due"] :=
  ⟨f, _, fun_mk (st := S_law_same) l c k, PySem.W.mg_of X G a, (fun_mk (st := S_law_same) l c k).binds fun _ _ _ _ _ _ us hl => match us, hl with | [_, _], _ => rfl⟩
theorem j_law_told {f : Addr} {oc : Value} {od an : Option Addr} {osl : Array (Option Value)} {kV doc pm cdv ct : Value} (X : K.In h) (G : h.Ns mainGlobals mg) (a : PySem.W.nsIn K mainGlobals "_law_told" = some (some (.ref f))) (l : K.lookup f = some ⟨oc, od, .func (PySem.W.fnOf "_law_told" "_law_told" (defArgs S_law_told) (defBody S_law_told) (defScope S_law_told) .none kV doc pm an cdv ct), osl⟩) (c : PySem.W.codeIn K cdv "_law_told" = true) (k : PySem.W.keepIn K (.ref f) = true) : Df K mg "_law_told" S_law_told ["_law_text"] :=
  ⟨f, _, fun_mk (st := S_law_told) l c k, PySem.W.mg_of X G a, (fun_mk (st := S_law_told) l c k).binds fun _ _ _ _ _ _ us hl => match us, hl with | [_], _ => rfl⟩
theorem j_law_asked_again {f : Addr} {oc : Value} {od an : Option Addr} {osl : Array (Option Value)} {kV doc pm cdv ct : Value} (X : K.In h) (G : h.Ns mainGlobals mg) (a : PySem.W.nsIn K mainGlobals "_law_asked_again" = some (some (.ref f))) (l : K.lookup f = some ⟨oc, od, .func (PySem.W.fnOf "_law_asked_again" "_law_asked_again" (defArgs S_law_asked_again) (defBody S_law_asked_again) (defScope S_law_asked_again) .none kV doc pm an cdv ct), osl⟩) (c : PySem.W.codeIn K cdv "_law_asked_again" = true) (k : PySem.W.keepIn K (.ref f) = true) : Df K mg "_law_asked_again" S_law_asked_again ["_law_read", "_law_state"] :=
  ⟨f, _, fun_mk (st := S_law_asked_again) l c k, PySem.W.mg_of X G a, (fun_mk (st := S_law_asked_again) l c k).binds fun _ _ _ _ _ _ us hl => match us, hl with | [_, _], _ => rfl⟩
theorem j_law_long_text {f : Addr} {oc : Value} {od an : Option Addr} {osl : Array (Option Value)} {kV doc pm cdv ct : Value} (X : K.In h) (G : h.Ns mainGlobals mg) (a : PySem.W.nsIn K mainGlobals "_law_long_text" = some (some (.ref f))) (l : K.lookup f = some ⟨oc, od, .func (PySem.W.fnOf "_law_long_text" "_law_long_text" (defArgs S_law_long_text) (defBody S_law_long_text) (defScope S_law_long_text) .none kV doc pm an cdv ct), osl⟩) (c : PySem.W.codeIn K cdv "_law_long_text" = true) (k : PySem.W.keepIn K (.ref f) = true) : Df K mg "_law_long_text" S_law_long_text ["_law_script", "_law_at"] :=
  ⟨f, _, fun_mk (st := S_law_long_text) l c k, PySem.W.mg_of X G a, (fun_mk (st := S_law_long_text) l c k).binds fun _ _ _ _ _ _ us hl => match us, hl with | [_, _], _ => rfl⟩
theorem j_law_wide_text {f : Addr} {oc : Value} {od an : Option Addr} {osl : Array (Option Value)} {kV doc pm cdv ct : Value} (X : K.In h) (G : h.Ns mainGlobals mg) (a : PySem.W.nsIn K mainGlobals "_law_wide_text" = some (some (.ref f))) (l : K.lookup f = some ⟨oc, od, .func (PySem.W.fnOf "_law_wide_text" "_law_wide_text" (defArgs S_law_wide_text) (defBody S_law_wide_text) (defScope S_law_wide_text) .none kV doc pm an cdv ct), osl⟩) (c : PySem.W.codeIn K cdv "_law_wide_text" = true) (k : PySem.W.keepIn K (.ref f) = true) : Df K mg "_law_wide_text" S_law_wide_text ["_law_script", "_law_at"] :=
  ⟨f, _, fun_mk (st := S_law_wide_text) l c k, PySem.W.mg_of X G a, (fun_mk (st := S_law_wide_text) l c k).binds fun _ _ _ _ _ _ us hl => match us, hl with | [_, _], _ => rfl⟩
theorem j_read_state {f : Addr} {oc : Value} {od an : Option Addr} {osl : Array (Option Value)} {kV doc pm cdv ct : Value} (X : K.In h) (G : h.Ns mainGlobals mg) (a : PySem.W.nsIn K mainGlobals "read_state" = some (some (.ref f))) (l : K.lookup f = some ⟨oc, od, .func (PySem.W.fnOf "read_state" "read_state" (defArgs S_read_state) (defBody S_read_state) (defScope S_read_state) .none kV doc pm an cdv ct), osl⟩) (c : PySem.W.codeIn K cdv "read_state" = true) (k : PySem.W.keepIn K (.ref f) = true) : Kb K mg "read_state" S_read_state ["text"] :=
  ⟨f, _, fun_mk (st := S_read_state) l c k, PySem.W.mg_of X G a, (fun_mk (st := S_read_state) l c k).binds fun _ _ _ _ _ _ us hl => match us, hl with | [_], _ => rfl, ⟨fun s us ws _ h1 h2 => match us, ws, h1, h2 with | [], [_], _, _ => .of_eq rfl, fun _ r => r⟩⟩
theorem j_State_init {f : Addr} {oc : Value} {od an : Option Addr} {osl : Array (Option Value)} {kV doc pm cdv ct : Value} (a : PySem.W.findIn K (.ref CS) "__init__" = some (some (.ref f))) (i : PySem.W.isFn K (.ref f) = true) (l : K.lookup f = some ⟨oc, od, .func (PySem.W.fnOf "__init__" "State.__init__" (defArgs S_State_init) (defBody S_State_init) (defScope S_State_init) .none kV doc pm an cdv ct), osl⟩) (c : PySem.W.codeIn K cdv "State.__init__" = true) (k : PySem.W.keepIn K (.ref f) = true) : Ms K CS "__init__" "State.__init__" S_State_init ["self", "places", "numbers", "arrays"] :=
  ⟨f, _, fun_mk (st := S_State_init) l c k, a, i, (fun_mk (st := S_State_init) l c k).binds fun _ _ _ _ _ _ us hl => match us, hl with | [_, _, _, _], _ => rfl⟩
theorem j_State_place_of {f : Addr} {oc : Value} {od an : Option Addr} {osl : Array (Option Value)} {kV doc pm cdv ct : Value} (a : PySem.W.findIn K (.ref CS) "place_of" = some (some (.ref f))) (i : PySem.W.isFn K (.ref f) = true) (l : K.lookup f = some ⟨oc, od, .func (PySem.W.fnOf "place_of" "State.place_of" (defArgs S_State_place_of) (defBody S_State_place_of) (defScope S_State_place_of) .none kV doc pm an cdv ct), osl⟩) (c : PySem.W.codeIn K cdv "State.place_of" = true) (k : PySem.W.keepIn K (.ref f) = true) : Ms K CS "place_of" "State.place_of" S_State_place_of ["self", "term"] :=
  ⟨f, _, fun_mk (st := S_State_place_of) l c k, a, i, (fun_mk (st := S_State_place_of) l c k).binds fun _ _ _ _ _ _ us hl => match us, hl with | [_, _], _ => rfl⟩
theorem j_State_value_of {f : Addr} {oc : Value} {od an : Option Addr} {osl : Array (Option Value)} {kV doc pm cdv ct : Value} (a : PySem.W.findIn K (.ref CS) "value_of" = some (some (.ref f))) (i : PySem.W.isFn K (.ref f) = true) (l : K.lookup f = some ⟨oc, od, .func (PySem.W.fnOf "value_of" "State.value_of" (defArgs S_State_value_of) (defBody S_State_value_of) (defScope S_State_value_of) .none kV doc pm an cdv ct), osl⟩) (c : PySem.W.codeIn K cdv "State.value_of" = true) (k : PySem.W.keepIn K (.ref f) = true) : Ms K CS "value_of" "State.value_of" S_State_value_of ["self", "term"] :=
  ⟨f, _, fun_mk (st := S_State_value_of) l c k, a, i, (fun_mk (st := S_State_value_of) l c k).binds fun _ _ _ _ _ _ us hl => match us, hl with | [_, _], _ => rfl⟩
theorem j_State_len {f : Addr} {oc : Value} {od an : Option Addr} {osl : Array (Option Value)} {kV doc pm cdv ct : Value} (a : PySem.W.findIn K (.ref CS) "__len__" = some (some (.ref f))) (i : PySem.W.isFn K (.ref f) = true) (l : K.lookup f = some ⟨oc, od, .func (PySem.W.fnOf "__len__" "State.__len__" (defArgs S_State_len) (defBody S_State_len) (defScope S_State_len) .none kV doc pm an cdv ct), osl⟩) (c : PySem.W.codeIn K cdv "State.__len__" = true) (k : PySem.W.keepIn K (.ref f) = true) : Ms K CS "__len__" "State.__len__" S_State_len ["self"] :=
  ⟨f, _, fun_mk (st := S_State_len) l c k, a, i, (fun_mk (st := S_State_len) l c k).binds fun _ _ _ _ _ _ us hl => match us, hl with | [_], _ => rfl⟩
theorem j_State_eq {f : Addr} {oc : Value} {od an : Option Addr} {osl : Array (Option Value)} {kV doc pm cdv ct : Value} (a : PySem.W.findIn K (.ref CS) "__eq__" = some (some (.ref f))) (i : PySem.W.isFn K (.ref f) = true) (l : K.lookup f = some ⟨oc, od, .func (PySem.W.fnOf "__eq__" "State.__eq__" (defArgs S_State_eq) (defBody S_State_eq) (defScope S_State_eq) .none kV doc pm an cdv ct), osl⟩) (c : PySem.W.codeIn K cdv "State.__eq__" = true) (k : PySem.W.keepIn K (.ref f) = true) : Ms K CS "__eq__" "State.__eq__" S_State_eq ["self", "other"] :=
  ⟨f, _, fun_mk (st := S_State_eq) l c k, a, i, (fun_mk (st := S_State_eq) l c k).binds fun _ _ _ _ _ _ us hl => match us, hl with | [_, _], _ => rfl⟩
theorem j_State_with_cell {f : Addr} {oc : Value} {od an : Option Addr} {osl : Array (Option Value)} {kV doc pm cdv ct : Value} (a : PySem.W.findIn K (.ref CS) "with_cell" = some (some (.ref f))) (i : PySem.W.isFn K (.ref f) = true) (l : K.lookup f = some ⟨oc, od, .func (PySem.W.fnOf "with_cell" "State.with_cell" (defArgs S_State_with_cell) (defBody S_State_with_cell) (defScope S_State_with_cell) .none kV doc pm an cdv ct), osl⟩) (c : PySem.W.codeIn K cdv "State.with_cell" = true) (k : PySem.W.keepIn K (.ref f) = true) : Ms K CS "with_cell" "State.with_cell" S_State_with_cell ["self", "array", "place", "value"] :=
  ⟨f, _, fun_mk (st := S_State_with_cell) l c k, a, i, (fun_mk (st := S_State_with_cell) l c k).binds fun _ _ _ _ _ _ us hl => match us, hl with | [_, _, _, _], _ => rfl⟩
theorem j_State_places {f : Addr} {oc : Value} {od an : Option Addr} {osl : Array (Option Value)} {kV doc pm cdv ct : Value} {p : Addr} {rest : List Value} (a : PySem.W.findIn K (.ref CS) "places" = some (some (.ref p))) (g : PySem.W.specialIn K (.ref p) "__get__" = some (some (.builtin "property.__get__"))) (t : PySem.W.takesIn K (.ref p) = some true) (r : PySem.W.recIn K p "property" = some (.ref f :: rest)) (l : K.lookup f = some ⟨oc, od, .func (PySem.W.fnOf "places" "State.places" (defArgs S_State_places) (defBody S_State_places) (defScope S_State_places) .none kV doc pm an cdv ct), osl⟩) (c : PySem.W.codeIn K cdv "State.places" = true) (k : PySem.W.keepIn K (.ref f) = true) : Ps K CS "places" "State.places" S_State_places :=
  ⟨p, f, _, fun_mk (st := S_State_places) l c k, ⟨a, g, t, rest, r⟩, (fun_mk (st := S_State_places) l c k).binds fun _ _ _ _ _ _ us hl => match us, hl with | [_], _ => rfl⟩
theorem j_State_numbers {f : Addr} {oc : Value} {od an : Option Addr} {osl : Array (Option Value)} {kV doc pm cdv ct : Value} {p : Addr} {rest : List Value} (a : PySem.W.findIn K (.ref CS) "numbers" = some (some (.ref p))) (g : PySem.W.specialIn K (.ref p) "__get__" = some (some (.builtin "property.__get__"))) (t : PySem.W.takesIn K (.ref p) = some true) (r : PySem.W.recIn K p "property" = some (.ref f :: rest)) (l : K.lookup f = some ⟨oc, od, .func (PySem.W.fnOf "numbers" "State.numbers" (defArgs S_State_numbers) (defBody S_State_numbers) (defScope S_State_numbers) .none kV doc pm an cdv ct), osl⟩) (c : PySem.W.codeIn K cdv "State.numbers" = true) (k : PySem.W.keepIn K (.ref f) = true) : Ps K CS "numbers" "State.numbers" S_State_numbers :=
  ⟨p, f, _, fun_mk (st := S_State_numbers) l c k, ⟨a, g, t, rest, r⟩, (fun_mk (st := S_State_numbers) l c k).binds fun _ _ _ _ _ _ us hl => match us, hl with | [_], _ => rfl⟩
theorem j_State_arrays {f : Addr} {oc : Value} {od an : Option Addr} {osl : Array (Option Value)} {kV doc pm cdv ct : Value} {p : Addr} {rest : List Value} (a : PySem.W.findIn K (.ref CS) "arrays" = some (some (.ref p))) (g : PySem.W.specialIn K (.ref p) "__get__" = some (some (.builtin "property.__get__"))) (t : PySem.W.takesIn K (.ref p) = some true) (r : PySem.W.recIn K p "property" = some (.ref f :: rest)) (l : K.lookup f = some ⟨oc, od, .func (PySem.W.fnOf "arrays" "State.arrays" (defArgs S_State_arrays) (defBody S_State_arrays) (defScope S_State_arrays) .none kV doc pm an cdv ct), osl⟩) (c : PySem.W.codeIn K cdv "State.arrays" = true) (k : PySem.W.keepIn K (.ref f) = true) : Ps K CS "arrays" "State.arrays" S_State_arrays :=
  ⟨p, f, _, fun_mk (st := S_State_arrays) l c k, ⟨a, g, t, rest, r⟩, (fun_mk (st := S_State_arrays) l c k).binds fun _ _ _ _ _ _ us hl => match us, hl with | [_], _ => rfl⟩
theorem j_CellError_init {f : Addr} {oc : Value} {od an : Option Addr} {osl : Array (Option Value)} {kV doc pm cdv ct : Value} (a : PySem.W.findIn K (.ref CU) "__init__" = some (some (.ref f))) (t : PySem.W.typeIn K (.ref f) = some (.type "function")) (l : K.lookup f = some ⟨oc, od, .func (PySem.W.fnOf "__init__" "CellError.__init__" (defArgs S_CellError_init) (defBody S_CellError_init) (defScope S_CellError_init) .none kV doc pm an cdv ct), osl⟩) (c : PySem.W.codeIn K cdv "CellError.__init__" = true) (k : PySem.W.keepIn K (.ref f) = true) : Ui K CU :=
  ⟨f, _, fun_mk (st := S_CellError_init) l c k, a, t, (fun_mk (st := S_CellError_init) l c k).binds fun _ _ _ _ _ _ us hl => match us, hl with | [_, _], _ => rfl⟩
/-- an error of the class at S is what «except S» names -/
theorem exm_self {S : Addr} (h1 : PySem.W.subIn K (.ref S) (.type "BaseException") = some true) (h2 : PySem.W.isClsIn K S = true) (h3 : PySem.W.typeIn K (.ref S) = some (.type "type")) (h4 : PySem.W.subIn K (.ref S) (.ref S) = some true) :
    PySem.W.exmOne K (.ref S) (.ref S) = some true := by
  have e1 : (PySem.W.subIn K (.ref S) (.type "BaseException") == some true) = true := by rw [h1] <;> rfl
  have e2 : ((PySem.W.clsIn K S).isSome && PySem.W.typeIn K (.ref S) == some (.type "type")) = true := by
    have h2' : (PySem.W.clsIn K S).isSome = true := h2
    rw [h2', h3] <;> rfl
  show (if (PySem.W.subIn K (.ref S) (.type "BaseException") == some true) = true then (if ((PySem.W.clsIn K S).isSome && PySem.W.typeIn K (.ref S) == some (.type "type")) = true then PySem.W.subIn K (.ref S) (.ref S) else none) else none) = some true
  rw [if_pos e1, if_pos e2]
  exact h4
/-- small facts, with nothing left to be told by hand: refine' takes a blank of the text as closed, one of a lemma's own as open -/
theorem mk_const {n x : Str} {t : Tok} (X : K.In h) (G : h.Ns mainGlobals mg) (a : PySem.W.nsIn K mainGlobals n = some (some (.str x t))) : ∃ u, mg n = some u ∧ RelV (.str x) u := ⟨_, PySem.W.mg_of X G a, _, rfl⟩
theorem mk_na {f : Str} (a : PySem.W.findIn K (.ref CS) f = some none) : NoAttr K CS f := a
theorem mk_me : PySem.W.kitOne K (.ref CS) (.ref CS) = some true := if_pos (beq_self_eq_true _)
theorem mk_oex {nm q : Str} {N : Addr} {bs bm : List Value} {sn : List Str} {sub : List Value} {ab : Bool} {col : Option Bool} {dd : Option Addr} {k0 k1 k2 k3 k5 : Option Value} (xL : K.lookup CU = some (excClassObj nm q CU N bs bm true sn sub ab col dd k0 k1 k2 k3 k5 "ValueError.__new__")) (rv : PySem.HandSPX.refsVE bm = true)
    (sa : PySem.W.findIn K (.ref CU) "__setattr__" = some (some (.builtin "object.__setattr__"))) (eC : PySem.W.subIn K (.ref CU) (.type "BaseException") = some true) (tC : PySem.W.typeIn K (.ref CU) = some (.type "type")) (kC : PySem.W.keepIn K (.ref CU) = true) : OexC K CU :=
  ⟨⟨_, _, _, _, _, _, _, _, _, _, _, _, _, _, _, xL, rv⟩, sa, eC, tC, kC⟩
/-- no reader has booked a token -/
def strKeyB : Value → Bool
  | .str _ _ => true
  | _ => false
def bookB (es : Array DictEntry) : Bool := es.toList.all (fun e => strKeyB e.key) && (nsFind es sharingNotToldKey).isNone
theorem nb_of {c : Value} {d : Option Addr} {es : Array DictEntry} {n : Nat} {sl : Array (Option Value)} (l : K.lookup cStatics = some ⟨c, d, .dict es n, sl⟩) (b : bookB es = true) : ∀ h, K.In h → NoneBooked h := fun h X => by
  unfold bookB at b
  rw [Bool.and_eq_true] at b
  refine ⟨fun x => nsFind es x, ⟨_, es, n, X _ _ l, rfl, fun e he => ?_, fun _ => rfl⟩, by simpa using b.2⟩
  have h1 := List.all_eq_true.mp b.1 e (by simpa using he)
  cases hk : e.key <;> rw [hk] at h1 <;> first | exact ⟨_, _, rfl⟩ | cases h1
end
section
variable {P : Program} {w : World} {K : PySem.W.Frag} {mg : Str → Option Value} {base : Heap} {CS CU : Addr}
theorem law_all {fL : Addr} {fdL : FuncData} (T : Tx K mg CS) (U : Ux K mg CU) (ui : Ui K CU) (nb : ∀ h, K.In h → NoneBooked h) (iC : C8.InsC K CS) (m1 : PySem.W.makesIn K CS = true) (m2 : PySem.W.keepIn K (.ref CS) = true) (hm : mg "State" = some (.ref CS)) (d_is_name : Df K mg "is_name" S_is_name ["thing"]) (d_cell_at : Df K mg "cell_at" S_cell_at ["row", "place"]) (d_read_integer : Df K mg "read_integer" S_read_integer ["text"]) (d_least_row : Df K mg "least_row" S_least_row ["row"]) (d_read_cell : Df K mg "read_cell" S_read_cell ["text"]) (d_read_row : Df K mg "read_row" S_read_row ["text"]) (d_show_state : Df K mg "show_state" S_show_state ["state"]) (d_law_head : Df K mg "_law_head" S_law_head ["_law_text"]) (d_law_figure : Df K mg "_law_figure" S_law_figure ["_law_script", "_law_at"]) (d_law_draws : Df K mg "_law_draws" S_law_draws ["_law_script", "_law_at", "_law_limits"]) (d_law_long : Df K mg "_law_long" S_law_long ["_law_script", "_law_at", "_law_many"]) (d_law_scale : Df K mg "_law_scale" S_law_scale ["_law_script", "_law_at"]) (d_law_names : Df K mg "_law_names" S_law_names ["_law_script", "_law_at", "_law_many"]) (d_law_row : Df K mg "_law_row" S_law_row ["_law_script", "_law_at", "_law_first", "_law_size", "_law_high"]) (d_law_parts : Df K mg "_law_parts" S_law_parts ["_law_script", "_law_at"]) (d_law_scaled_parts : Df K mg "_law_scaled_parts" S_law_scaled_parts ["_law_parts_here", "_law_scale_here"]) (d_law_number : Df K mg "_law_number" S_law_number ["_law_text"]) (d_law_least : Df K mg "_law_least" S_law_least ["_law_row_here"]) (d_law_read_row : Df K mg "_law_read_row" S_law_read_row ["_law_text"]) (d_law_read_state : Df K mg "_law_read_state" S_law_read_state ["_law_text"]) (d_law_marred : Df K mg "_law_marred" S_law_marred ["_law_text", "_law_drawn"]) (d_law_changed : Df K mg "_law_changed" S_law_changed ["_law_text", "_law_drawn"]) (d_law_same : Df K mg "_law_same" S_law_same ["_law_found", "_law_due"]) (d_law_told : Df K mg "_law_told" S_law_told ["_law_text"]) (d_law_asked_again : Df K mg "_law_asked_again" S_law_asked_again ["_law_read", "_law_state"]) (d_law_long_text : Df K mg "_law_long_text" S_law_long_text ["_law_script", "_law_at"]) (d_law_wide_text : Df K mg "_law_wide_text" S_law_wide_text ["_law_script", "_law_at"]) (d_read_state : Kb K mg "read_state" S_read_state ["text"]) (d_State_init : Ms K CS "__init__" "State.__init__" S_State_init ["self", "places", "numbers", "arrays"]) (d_State_place_of : Ms K CS "place_of" "State.place_of" S_State_place_of ["self", "term"]) (d_State_value_of : Ms K CS "value_of" "State.value_of" S_State_value_of ["self", "term"]) (d_State_len : Ms K CS "__len__" "State.__len__" S_State_len ["self"]) (d_State_eq : Ms K CS "__eq__" "State.__eq__" S_State_eq ["self", "other"]) (d_State_with_cell : Ms K CS "with_cell" "State.with_cell" S_State_with_cell ["self", "array", "place", "value"]) (d_State_places : Ps K CS "places" "State.places" S_State_places) (d_State_numbers : Ps K CS "numbers" "State.numbers" S_State_numbers) (d_State_arrays : Ps K CS "arrays" "State.arrays" S_State_arrays) (F : Fun K "law" "law" S_law fL fdL) : FnOk P w K mg base CX0 9 fL fdL ["_law_script"] (spLaw K) := by
  have c_is_name : Cl P w K mg base 1 "is_name" spIsName := cl_is_name T d_is_name
  have c_cell_at : Cl P w K mg base 1 "cell_at" spCellAt := cl_cell_at d_cell_at
  have c_read_integer : Cl P w K mg base 1 "read_integer" spReadInt := cl_read_integer T d_read_integer
  have c_least_row : Cl P w K mg base 1 "least_row" spLeast := cl_least_row T d_least_row
  have c_read_cell : Cl P w K mg base 2 "read_cell" spReadCell := cl_read_cell T d_read_cell c_read_integer
  have c_read_row : Cl P w K mg base 3 "read_row" spReadRow := cl_read_row T d_read_row c_read_cell
  have c_State : C8.Mak P w K mg base 2 "State" CS (spInit CS) [] := cl_State T m1 m2 hm d_State_init c_is_name c_least_row
  have c_places : Prp P w K mg base 1 CS "places" (spPlaces CS) := cl_places T d_State_places
  have c_numbers : Prp P w K mg base 1 CS "numbers" (spNumbers CS) := cl_numbers T d_State_numbers
  have c_arrays : Prp P w K mg base 1 CS "arrays" (spArrays CS) := cl_arrays T d_State_arrays
  have c_place_of : C8.Met P w K mg base 1 CS "place_of" (spPlaceOf CS) [] := cl_place_of T d_State_place_of
  have c_value_of : C8.Met P w K mg base 2 CS "value_of" (spValueOf CS) [] := cl_value_of T d_State_value_of c_cell_at c_place_of
  have c_len : C8.Met P w K mg base 1 CS "__len__" (spLen CS) [] := cl_len T d_State_len
  have c_eq : C8.Met P w K mg base 1 CS "__eq__" (L2.spEq (EqR80 CS)) [] := cl_eq T iC d_State_eq
  have c_with_cell : C8.Met P w K mg base 4 CS "with_cell" (spWithCell CS) [] := cl_with_cell T d_State_with_cell c_cell_at c_arrays c_State
  have c_show : Cl P w K mg base 3 "show_state" (spShow CS) := cl_show_state T d_show_state c_places c_numbers c_arrays
  have c_read : ClX P w K mg base 4 "read_state" ["text"] (spReadState CS CU) := cl_read_state T U d_read_state (err_ok U ui) c_is_name c_read_row c_read_integer c_State c_show
  have c_head : Cl P w K mg base 1 "_law_head" spHead := cl_law_head T d_law_head
  have c_figure : Cl P w K mg base 1 "_law_figure" (spFigure K) := cl_law_figure T d_law_figure
  have c_draws : Cl P w K mg base 2 "_law_draws" (spDraws K) := cl_law_draws T d_law_draws c_figure
  have c_long : Cl P w K mg base 3 "_law_long" (spLong K) := cl_law_long T d_law_long c_draws
  have c_scale : Cl P w K mg base 4 "_law_scale" (spScale K) := cl_law_scale T d_law_scale c_draws c_long
  have c_names : Cl P w K mg base 3 "_law_names" (spNames K) := cl_law_names T d_law_names c_draws
  have c_row : Cl P w K mg base 3 "_law_row" (spRowL K) := cl_law_row T d_law_row c_draws
  have c_parts : Cl P w K mg base 4 "_law_parts" (spParts K) := cl_law_parts T d_law_parts c_draws c_names c_row
  have c_scaled : Cl P w K mg base 1 "_law_scaled_parts" spScaled := cl_law_scaled_parts T d_law_scaled_parts
  have c_number : Cl P w K mg base 1 "_law_number" spReadInt := cl_law_number T d_law_number
  have c_least : Cl P w K mg base 1 "_law_least" spLeast := cl_law_least T d_law_least
  have c_lrow : Cl P w K mg base 2 "_law_read_row" spLRow := cl_law_read_row T d_law_read_row c_number c_least
  have c_lstate : Cl P w K mg base 3 "_law_read_state" spLState := cl_law_read_state T d_law_read_state c_head c_number c_lrow
  have c_marred : Cl P w K mg base 1 "_law_marred" spMarred := cl_law_marred T nb d_law_marred
  have c_changed : Cl P w K mg base 2 "_law_changed" spMarred := cl_law_changed T d_law_changed c_marred
  have c_same : Cl P w K mg base 7 "_law_same" (spSame (SamR 6)) := cl_same T d_law_same 6
  have c_told : Cl P w K mg base 5 "_law_told" spTold := cl_law_told T U d_law_told c_read c_show c_places c_numbers c_arrays
  have c_asked : Cl P w K mg base 8 "_law_asked_again" (spAsked CS) := cl_law_asked_again T d_law_asked_again c_same c_places c_numbers c_arrays c_place_of c_value_of c_eq
  have c_ltext : Cl P w K mg base 8 "_law_long_text" (spLText K) := cl_law_long_text T d_law_long_text c_draws c_least c_State c_show c_read c_eq c_same
  have c_wtext : Cl P w K mg base 8 "_law_wide_text" (spLText K) := cl_law_wide_text T d_law_wide_text c_draws c_least c_show c_read c_len c_same c_places c_arrays
  exact ok_law T F c_parts c_scale c_scaled c_draws c_State c_with_cell c_show c_read c_eq c_same c_arrays c_asked c_changed c_lstate c_told c_wtext c_ltext
end
theorem fin {l : PySem.W.OpenLaw} {w : World} {K : PySem.W.Frag} {h : Heap} {mg : Str → Option Value} {fa CS CU f : Addr} {oc : Value} {od an : Option Addr} {osl : Array (Option Value)} {kV doc pm cdv ct : Value} (X : K.In h) (G : h.Ns mainGlobals mg) (hfa : mg "law" = some (.ref fa))
    (a : PySem.W.nsIn K mainGlobals "law" = some (some (.ref f))) (lk : K.lookup f = some ⟨oc, od, .func (PySem.W.fnOf "law" "law" (defArgs S_law) (defBody S_law) (defScope S_law) .none kV doc pm an cdv ct), osl⟩) (c : PySem.W.codeIn K cdv "law" = true) (k : PySem.W.keepIn K (.ref f) = true) (T : Tx K mg CS) (U : Ux K mg CU) (ui : Ui K CU) (nb : ∀ h, K.In h → NoneBooked h) (iC : C8.InsC K CS) (m1 : PySem.W.makesIn K CS = true) (m2 : PySem.W.keepIn K (.ref CS) = true) (hm : mg "State" = some (.ref CS)) (d_is_name : Df K mg "is_name" S_is_name ["thing"]) (d_cell_at : Df K mg "cell_at" S_cell_at ["row", "place"]) (d_read_integer : Df K mg "read_integer" S_read_integer ["text"]) (d_least_row : Df K mg "least_row" S_least_row ["row"]) (d_read_cell : Df K mg "read_cell" S_read_cell ["text"]) (d_read_row : Df K mg "read_row" S_read_row ["text"]) (d_show_state : Df K mg "show_state" S_show_state ["state"]) (d_law_head : Df K mg "_law_head" S_law_head ["_law_text"]) (d_law_figure : Df K mg "_law_figure" S_law_figure ["_law_script", "_law_at"]) (d_law_draws : Df K mg "_law_draws" S_law_draws ["_law_script", "_law_at", "_law_limits"]) (d_law_long : Df K mg "_law_long" S_law_long ["_law_script", "_law_at", "_law_many"]) (d_law_scale : Df K mg "_law_scale" S_law_scale ["_law_script", "_law_at"]) (d_law_names : Df K mg "_law_names" S_law_names ["_law_script", "_law_at", "_law_many"]) (d_law_row : Df K mg "_law_row" S_law_row ["_law_script", "_law_at", "_law_first", "_law_size", "_law_high"]) (d_law_parts : Df K mg "_law_parts" S_law_parts ["_law_script", "_law_at"]) (d_law_scaled_parts : Df K mg "_law_scaled_parts" S_law_scaled_parts ["_law_parts_here", "_law_scale_here"]) (d_law_number : Df K mg "_law_number" S_law_number ["_law_text"]) (d_law_least : Df K mg "_law_least" S_law_least ["_law_row_here"]) (d_law_read_row : Df K mg "_law_read_row" S_law_read_row ["_law_text"]) (d_law_read_state : Df K mg "_law_read_state" S_law_read_state ["_law_text"]) (d_law_marred : Df K mg "_law_marred" S_law_marred ["_law_text", "_law_drawn"]) (d_law_changed : Df K mg "_law_changed" S_law_changed ["_law_text", "_law_drawn"]) (d_law_same : Df K mg "_law_same" S_law_same ["_law_found", "_law_due"]) (d_law_told : Df K mg "_law_told" S_law_told ["_law_text"]) (d_law_asked_again : Df K mg "_law_asked_again" S_law_asked_again ["_law_read", "_law_state"]) (d_law_long_text : Df K mg "_law_long_text" S_law_long_text ["_law_script", "_law_at"]) (d_law_wide_text : Df K mg "_law_wide_text" S_law_wide_text ["_law_script", "_law_at"]) (d_read_state : Kb K mg "read_state" S_read_state ["text"]) (d_State_init : Ms K CS "__init__" "State.__init__" S_State_init ["self", "places", "numbers", "arrays"]) (d_State_place_of : Ms K CS "place_of" "State.place_of" S_State_place_of ["self", "term"]) (d_State_value_of : Ms K CS "value_of" "State.value_of" S_State_value_of ["self", "term"]) (d_State_len : Ms K CS "__len__" "State.__len__" S_State_len ["self"]) (d_State_eq : Ms K CS "__eq__" "State.__eq__" S_State_eq ["self", "other"]) (d_State_with_cell : Ms K CS "with_cell" "State.with_cell" S_State_with_cell ["self", "array", "place", "value"]) (d_State_places : Ps K CS "places" "State.places" S_State_places) (d_State_numbers : Ps K CS "numbers" "State.numbers" S_State_numbers) (d_State_arrays : Ps K CS "arrays" "State.arrays" S_State_arrays) :
    ∃ fd : FuncData, (∀ (s : Shared) (u : Value), BindsTo s fd ⟨[u], []⟩ [("_law_script", u)]) ∧ ∀ base : Heap, K.In base → base.Ns mainGlobals mg → FnOk l.prog w K mg base CX0 9 fa fd ["_law_script"] (spLaw K) := by
  have e := hfa.symm.trans (PySem.W.mg_of X G a)
  cases e
  exact ⟨PySem.W.fnOf "law" "law" (defArgs S_law) (defBody S_law) (defScope S_law) .none kV doc pm an cdv ct, fun s u => .of_eq rfl, fun base _ _ => law_all T U ui nb iC m1 m2 hm d_is_name d_cell_at d_read_integer d_least_row d_read_cell d_read_row d_show_state d_law_head d_law_figure d_law_draws d_law_long d_law_scale d_law_names d_law_row d_law_parts d_law_scaled_parts d_law_number d_law_least d_law_read_row d_law_read_state d_law_marred d_law_changed d_law_same d_law_told d_law_asked_again d_law_long_text d_law_wide_text d_read_state d_State_init d_State_place_of d_State_value_of d_State_len d_State_eq d_State_with_cell d_State_places d_State_numbers d_State_arrays (fun_mk (st := S_law) lk c k)⟩
theorem walk {l : PySem.W.OpenLaw} {n : Nat} {q : Program} {loose : List Str} {XP : (Str → Option Value) → Heap → Prop} {YP : World → Heap → Prop} {d : DefRec} {K : Params → PySem.W.Frag} (hn : l.most = some n) (hn2 : n ≤ sizeLine) (hn3 : n ≤ 1000000) (hdf : d.params.defaults = [])
    (hY : ∀ (w : World) (h : Heap), YP w h → (K w.params).In h)
    (F : ∀ (w : World) (mg : Str → Option Value) (fa : Addr) (h : Heap), (K w.params).In h → h.Ns mainGlobals mg → mg d.name = some (.ref fa) →
      ∃ fd : FuncData, (∀ (s : Shared) (u : Value), BindsTo s fd ⟨[u], []⟩ [("_law_script", u)]) ∧ ∀ base : Heap, (K w.params).In base → base.Ns mainGlobals mg → FnOk l.prog w (K w.params) mg base CX0 9 fa fd ["_law_script"] (spLaw (K w.params))) :
    PySem.W.WalkO q loose XP YP l.row.toRowW d [] (fun f vs => PySem.call f vs) :=
  L2.walk_of (n := n) (k := 9) (x := "_law_script") (CX := fun _ => CX0) (sp := fun w => spLaw (K w.params)) hn hn2 hdf ⟨rfl, by decide, by decide⟩ hY F (fun _ _ a ns hl _ hS => ⟨a, ns, rfl, hS, Nat.le_trans hl hn3, fun _ => rfl⟩) fun _ _ _ _ _ z => z
end A80
end
section
set_option Elab.async false
open PySem PySem.W PyProof.Rows in
set_option maxRecDepth 100000 in
set_option maxHeartbeats 0 in
theorem PySem.Challenge.cw_allcells_k80_whole_states_written_and_re_holds : PySem.Challenge.rw_allcells_k80_whole_states_written_and_re.Holds := by
  w_on; o_law; k_head; (case hw => w_witness2)
  k_fill
  refine A80.walk (l := PySem.Challenge.rw_allcells_k80_whole_states_written_and_re) rfl (by decide) (by decide) rfl (fun w h Y => PySem.W.kIn_of Y) ?F
  case F =>
    intro w mg fa h KX G hmg
    replace hmg : mg "law" = some (.ref fa) := hmg
    refine' A80.fin KX G hmg ?aL ?lL ?cL ?kL
      ⟨PySem.W.mg_none_of KX G ?b_len, PySem.W.mg_none_of KX G ?b_isinstance, PySem.W.mg_none_of KX G ?b_str, PySem.W.mg_none_of KX G ?b_int, PySem.W.mg_none_of KX G ?b_bool, PySem.W.mg_none_of KX G ?b_dict, PySem.W.mg_none_of KX G ?b_list, PySem.W.mg_none_of KX G ?b_tuple, PySem.W.mg_none_of KX G ?b_sorted, PySem.W.mg_none_of KX G ?b_min, PySem.W.mg_none_of KX G ?b_max, PySem.W.mg_none_of KX G ?b_all, PySem.W.mg_none_of KX G ?b_range, A80.mk_const KX G ?gLE, A80.mk_const KX G ?gDI, ⟨_, PySem.W.mg_of KX G ?aS, rfl⟩, ⟨?pg, ?hd, ?po, ?sa⟩, A80.mk_na ?nSp, A80.mk_na ?nAm, A80.mk_na ?nRo⟩
      ⟨A80.mk_oex ?xL ?rv ?usa ?eC ?tC ?kC, ?nov, ⟨?ga, ?gg, ?eC, ?hC⟩, PySem.W.mg_of KX G ?aU, A80.exm_self ?eC ?iC ?tC ?sC⟩
      (A80.j_CellError_init ?e0 ?e1 ?e2 ?e3 ?e4)
      (A80.nb_of ?k2 ?k3)
      ⟨⟨?pg, ?hd, ?po, ?sa⟩, ?ica, ?icn, ?ict, ?icm, A80.mk_me⟩
      ?m1
      ?m2
      (PySem.W.mg_of KX G ?aS)
      (A80.j_is_name KX G ?is_name_a ?is_name_l ?is_name_c ?is_name_k)
      (A80.j_cell_at KX G ?cell_at_a ?cell_at_l ?cell_at_c ?cell_at_k)
      (A80.j_read_integer KX G ?read_integer_a ?read_integer_l ?read_integer_c ?read_integer_k)
      (A80.j_least_row KX G ?least_row_a ?least_row_l ?least_row_c ?least_row_k)
      (A80.j_read_cell KX G ?read_cell_a ?read_cell_l ?read_cell_c ?read_cell_k)
      (A80.j_read_row KX G ?read_row_a ?read_row_l ?read_row_c ?read_row_k)
      (A80.j_show_state KX G ?show_state_a ?show_state_l ?show_state_c ?show_state_k)
      (A80.j_law_head KX G ?law_head_a ?law_head_l ?law_head_c ?law_head_k)
      (A80.j_law_figure KX G ?law_figure_a ?law_figure_l ?law_figure_c ?law_figure_k)
      (A80.j_law_draws KX G ?law_draws_a ?law_draws_l ?law_draws_c ?law_draws_k)
      (A80.j_law_long KX G ?law_long_a ?law_long_l ?law_long_c ?law_long_k)
      (A80.j_law_scale KX G ?law_scale_a ?law_scale_l ?law_scale_c ?law_scale_k)
      (A80.j_law_names KX G ?law_names_a ?law_names_l ?law_names_c ?law_names_k)
      (A80.j_law_row KX G ?law_row_a ?law_row_l ?law_row_c ?law_row_k)
      (A80.j_law_parts KX G ?law_parts_a ?law_parts_l ?law_parts_c ?law_parts_k)
      (A80.j_law_scaled_parts KX G ?law_scaled_parts_a ?law_scaled_parts_l ?law_scaled_parts_c ?law_scaled_parts_k)
      (A80.j_law_number KX G ?law_number_a ?law_number_l ?law_number_c ?law_number_k)
      (A80.j_law_least KX G ?law_least_a ?law_least_l ?law_least_c ?law_least_k)
      (A80.j_law_read_row KX G ?law_read_row_a ?law_read_row_l ?law_read_row_c ?law_read_row_k)
      (A80.j_law_read_state KX G ?law_read_state_a ?law_read_state_l ?law_read_state_c ?law_read_state_k)
      (A80.j_law_marred KX G ?law_marred_a ?law_marred_l ?law_marred_c ?law_marred_k)
      (A80.j_law_changed KX G ?law_changed_a ?law_changed_l ?law_changed_c ?law_changed_k)
      (A80.j_law_same KX G ?law_same_a ?law_same_l ?law_same_c ?law_same_k)
      (A80.j_law_told KX G ?law_told_a ?law_told_l ?law_told_c ?law_told_k)
      (A80.j_law_asked_again KX G ?law_asked_again_a ?law_asked_again_l ?law_asked_again_c ?law_asked_again_k)
      (A80.j_law_long_text KX G ?law_long_text_a ?law_long_text_l ?law_long_text_c ?law_long_text_k)
      (A80.j_law_wide_text KX G ?law_wide_text_a ?law_wide_text_l ?law_wide_text_c ?law_wide_text_k)
      (A80.j_read_state KX G ?read_state_a ?read_state_l ?read_state_c ?read_state_k)
      (A80.j_State_init ?State_init_a ?State_init_i ?State_init_l ?State_init_c ?State_init_k)
      (A80.j_State_place_of ?State_place_of_a ?State_place_of_i ?State_place_of_l ?State_place_of_c ?State_place_of_k)
      (A80.j_State_value_of ?State_value_of_a ?State_value_of_i ?State_value_of_l ?State_value_of_c ?State_value_of_k)
      (A80.j_State_len ?State_len_a ?State_len_i ?State_len_l ?State_len_c ?State_len_k)
      (A80.j_State_eq ?State_eq_a ?State_eq_i ?State_eq_l ?State_eq_c ?State_eq_k)
      (A80.j_State_with_cell ?State_with_cell_a ?State_with_cell_i ?State_with_cell_l ?State_with_cell_c ?State_with_cell_k)
      (A80.j_State_places ?State_places_a ?State_places_g ?State_places_t ?State_places_r ?State_places_l ?State_places_c ?State_places_k)
      (A80.j_State_numbers ?State_numbers_a ?State_numbers_g ?State_numbers_t ?State_numbers_r ?State_numbers_l ?State_numbers_c ?State_numbers_k)
      (A80.j_State_arrays ?State_arrays_a ?State_arrays_g ?State_arrays_t ?State_arrays_r ?State_arrays_l ?State_arrays_c ?State_arrays_k)
    (case aS => k_is)
    (case aU => k_is)
    (case aL => k_is)
    (case lL => k_is)
    (case cL => k_is)
    (case kL => k_is)
    (case b_len => k_is)
    (case b_isinstance => k_is)
    (case b_str => k_is)
    (case b_int => k_is)
    (case b_bool => k_is)
    (case b_dict => k_is)
    (case b_list => k_is)
    (case b_tuple => k_is)
    (case b_sorted => k_is)
    (case b_min => k_is)
    (case b_max => k_is)
    (case b_all => k_is)
    (case b_range => k_is)
    (case gLE => k_is)
    (case gDI => k_is)
    (case pg => k_is)
    (case hd => k_is)
    (case po => k_is)
    (case sa => k_is)
    (case nSp => k_is)
    (case nAm => k_is)
    (case nRo => k_is)
    (case xL => k_is)
    (case rv => decide +kernel)
    (case usa => k_is)
    (case eC => k_is)
    (case tC => k_is)
    (case kC => k_is)
    (case nov => k_is)
    (case ga => k_is)
    (case gg => k_is)
    (case hC => k_is)
    (case iC => k_is)
    (case sC => first | rfl | k_is)
    (case e0 => k_is)
    (case e1 => k_is)
    (case e2 => k_is)
    (case e3 => k_is)
    (case e4 => k_is)
    (case k2 => k_is)
    (case k3 => decide +kernel)
    (case ica => k_is)
    (case icn => k_is)
    (case ict => k_is)
    (case icm => k_is)
    (case m1 => k_is)
    (case m2 => k_is)
    (case is_name_a => k_is)
    (case is_name_l => k_is)
    (case is_name_c => k_is)
    (case is_name_k => k_is)
    (case cell_at_a => k_is)
    (case cell_at_l => k_is)
    (case cell_at_c => k_is)
    (case cell_at_k => k_is)
    (case read_integer_a => k_is)
    (case read_integer_l => k_is)
    (case read_integer_c => k_is)
    (case read_integer_k => k_is)
    (case least_row_a => k_is)
    (case least_row_l => k_is)
    (case least_row_c => k_is)
    (case least_row_k => k_is)
    (case read_cell_a => k_is)
    (case read_cell_l => k_is)
    (case read_cell_c => k_is)
    (case read_cell_k => k_is)
    (case read_row_a => k_is)
    (case read_row_l => k_is)
    (case read_row_c => k_is)
    (case read_row_k => k_is)
    (case show_state_a => k_is)
    (case show_state_l => k_is)
    (case show_state_c => k_is)
    (case show_state_k => k_is)
    (case law_head_a => k_is)
    (case law_head_l => k_is)
    (case law_head_c => k_is)
    (case law_head_k => k_is)
    (case law_figure_a => k_is)
    (case law_figure_l => k_is)
    (case law_figure_c => k_is)
    (case law_figure_k => k_is)
    (case law_draws_a => k_is)
    (case law_draws_l => k_is)
    (case law_draws_c => k_is)
    (case law_draws_k => k_is)
    (case law_long_a => k_is)
    (case law_long_l => k_is)
    (case law_long_c => k_is)
    (case law_long_k => k_is)
    (case law_scale_a => k_is)
    (case law_scale_l => k_is)
    (case law_scale_c => k_is)
    (case law_scale_k => k_is)
    (case law_names_a => k_is)
    (case law_names_l => k_is)
    (case law_names_c => k_is)
    (case law_names_k => k_is)
    (case law_row_a => k_is)
    (case law_row_l => k_is)
    (case law_row_c => k_is)
    (case law_row_k => k_is)
    (case law_parts_a => k_is)
    (case law_parts_l => k_is)
    (case law_parts_c => k_is)
    (case law_parts_k => k_is)
    (case law_scaled_parts_a => k_is)
    (case law_scaled_parts_l => k_is)
    (case law_scaled_parts_c => k_is)
    (case law_scaled_parts_k => k_is)
    (case law_number_a => k_is)
    (case law_number_l => k_is)
    (case law_number_c => k_is)
    (case law_number_k => k_is)
    (case law_least_a => k_is)
    (case law_least_l => k_is)
    (case law_least_c => k_is)
    (case law_least_k => k_is)
    (case law_read_row_a => k_is)
    (case law_read_row_l => k_is)
    (case law_read_row_c => k_is)
    (case law_read_row_k => k_is)
    (case law_read_state_a => k_is)
    (case law_read_state_l => k_is)
    (case law_read_state_c => k_is)
    (case law_read_state_k => k_is)
    (case law_marred_a => k_is)
    (case law_marred_l => k_is)
    (case law_marred_c => k_is)
    (case law_marred_k => k_is)
    (case law_changed_a => k_is)
    (case law_changed_l => k_is)
    (case law_changed_c => k_is)
    (case law_changed_k => k_is)
    (case law_same_a => k_is)
    (case law_same_l => k_is)
    (case law_same_c => k_is)
    (case law_same_k => k_is)
    (case law_told_a => k_is)
    (case law_told_l => k_is)
    (case law_told_c => k_is)
    (case law_told_k => k_is)
    (case law_asked_again_a => k_is)
    (case law_asked_again_l => k_is)
    (case law_asked_again_c => k_is)
    (case law_asked_again_k => k_is)
    (case law_long_text_a => k_is)
    (case law_long_text_l => k_is)
    (case law_long_text_c => k_is)
    (case law_long_text_k => k_is)
    (case law_wide_text_a => k_is)
    (case law_wide_text_l => k_is)
    (case law_wide_text_c => k_is)
    (case law_wide_text_k => k_is)
    (case read_state_a => k_is)
    (case read_state_l => k_is)
    (case read_state_c => k_is)
    (case read_state_k => k_is)
    (case State_init_a => k_is)
    (case State_init_i => k_is)
    (case State_init_l => k_is)
    (case State_init_c => k_is)
    (case State_init_k => k_is)
    (case State_place_of_a => k_is)
    (case State_place_of_i => k_is)
    (case State_place_of_l => k_is)
    (case State_place_of_c => k_is)
    (case State_place_of_k => k_is)
    (case State_value_of_a => k_is)
    (case State_value_of_i => k_is)
    (case State_value_of_l => k_is)
    (case State_value_of_c => k_is)
    (case State_value_of_k => k_is)
    (case State_len_a => k_is)
    (case State_len_i => k_is)
    (case State_len_l => k_is)
    (case State_len_c => k_is)
    (case State_len_k => k_is)
    (case State_eq_a => k_is)
    (case State_eq_i => k_is)
    (case State_eq_l => k_is)
    (case State_eq_c => k_is)
    (case State_eq_k => k_is)
    (case State_with_cell_a => k_is)
    (case State_with_cell_i => k_is)
    (case State_with_cell_l => k_is)
    (case State_with_cell_c => k_is)
    (case State_with_cell_k => k_is)
    (case State_places_a => k_is)
    (case State_places_g => k_is)
    (case State_places_t => k_is)
    (case State_places_r => k_is)
    (case State_places_l => k_is)
    (case State_places_c => k_is)
    (case State_places_k => k_is)
    (case State_numbers_a => k_is)
    (case State_numbers_g => k_is)
    (case State_numbers_t => k_is)
    (case State_numbers_r => k_is)
    (case State_numbers_l => k_is)
    (case State_numbers_c => k_is)
    (case State_numbers_k => k_is)
    (case State_arrays_a => k_is)
    (case State_arrays_g => k_is)
    (case State_arrays_t => k_is)
    (case State_arrays_r => k_is)
    (case State_arrays_l => k_is)
    (case State_arrays_c => k_is)
    (case State_arrays_k => k_is)
end
