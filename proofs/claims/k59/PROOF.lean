import PyProof.Rows.All
import Wide.All
import OpenK.AllK
import Wide.FinOn
import HandS.ForMost
import HandS.Defaults
import HandS.MakeKwOnly
import HandS.Property
import HandS.Star
import HandS.DictComp
import HandS.SetBool
import HandS.SetTxt0
import HandS.SetKeys
import HandS.IsInst
import HandS.TupAny
import HandS.Flow
import HandS.Walk
import HandS.Style
import HandS.NoneIn
import HandS.TryOnly
import HandS.SortKw
import HandS.More
import HandS.Set
import HandS.Conv
import HandS.WordsDict
import HandS.Evl
import KE.SortData
import KE.GoesMore
import KE.KDictDisplayH
import KE.KDictZip
import KE.KStateDown
import HandS.Head2
import HandS.HeadEnd
import HandS.HeadHook2
import HandS.Base
import HandS.Call
import HandS.Ends
import HandS.Words
import HandS.WordsExc
import HandS.Head0
import HandS.Head1
import HandS.HeadHook1
import PySem.Challenge.RW_askfurther_k59_whole_stands_led_on_every
set_option Elab.async false
set_option linter.all false
set_option maxRecDepth 100000
set_option maxHeartbeats 2000000

namespace Ask
open PySem PySem.Spec PyProof.Rows L2

/-! ### min(xs, default=None) of an empty list -/
section
variable {prog : Program} {w : World} {A : Around} {E : Value → Shared → Prop} {s : Shared}
theorem args_min_dflt (a : Value) : argsOk "min" ⟨[a], [(Str.ofString "default", Value.none)]⟩ := by
  unfold argsOk
  kernel_rfl
theorem min_dflt_none {l : Addr} {Q : Value → Shared → Prop} (hh : A.handled = none) (hl : s.heap.IsList l #[])
    (h : ∀ h' tk, (∀ b o, s.heap.get? b = some o → h'.get? b = some o) → Q .none { s with heap := h', toks := tk }) :
    wpAny (model prog w) A (call (.builtin "min") [.ref l] [(Str.ofString "default", Value.none)]) Q E s := by
  have nm : (toString "min" ++ toString ".loop" : String) = "min.loop" := by decide
  have body : wpAny (model prog w) A.in1 (Builtin.«min» ⟨[.ref l], [(Str.ofString "default", Value.none)]⟩) (fun fin s' => match fin with
      | .done f => (match (Except.ok f : Result) with | .ok (.ret v) => Q v s' | .ok _ => False | .error e => E e s')
      | .again c' => c'.quiet = true ∧ codeAny (model prog w) A c' (fun r s' => match r with | .ok (.ret v) => Q v s' | .ok _ => False | .error e => E e s') s') E s := by
    show wpAny _ A.in1 (Builtin.Builtins.bindParams "min" ["key", "default"] 0 ⟨[], [(Str.ofString "default", Value.none)]⟩ >>= _) _ _ s
    refine wpAny_bind (wpAny_of_eq (show Builtin.Builtins.bindParams "min" ["key", "default"] 0 ⟨[], [(Str.ofString "default", Value.none)]⟩ = pure [none, some Value.none] from rfl) ?_)
    refine wpAny_bind (wpAny_pure ?_)
    refine wpAny_bind (wpAny_pyIter_list hl ?_)
    have it0 : (s.heap.push { cls := .type "list_iterator", data := .fields #[.ref l, .int 0 0] }).IsListIter s.heap.objs.size l 0 := ⟨_, Heap.get?_push_size _ rfl, rfl, rfl⟩
    have k0 : ∀ b o, s.heap.get? b = some o → (s.heap.push { cls := .type "list_iterator", data := .fields #[.ref l, .int 0 0] }).get? b = some o := fun b o e => Heap.get?_push_of_some _ e
    obtain ⟨ol, el, rest⟩ := hl
    generalize s.heap.push { cls := .type "list_iterator", data := .fields #[.ref l, .int 0 0] } = h1 at it0 k0 ⊢
    refine wpAny_bind (wpAny_newObj_type ?_)
    rw [nm]
    have it1 : (h1.push { cls := .type "list", data := .seq ([] : List Value).toArray }).IsListIter s.heap.objs.size l 0 := it0.at fun o e => Heap.get?_push_of_some _ e
    have hS : (h1.push { cls := .type "list", data := .seq ([] : List Value).toArray }).get? h1.objs.size = some { cls := .type "list", data := .seq ([] : List Value).toArray } := Heap.get?_push_size _ rfl
    have k1 : ∀ b o, s.heap.get? b = some o → (h1.push { cls := .type "list", data := .seq ([] : List Value).toArray }).get? b = some o := fun b o e => Heap.get?_push_of_some _ (k0 b o e)
    have ne : s.heap.objs.size ≠ h1.objs.size := fun q => by
      obtain ⟨o, e, _⟩ := it0
      exact absurd (Heap.lt_size e) (by rw [q]; exact Nat.lt_irrefl _)
    generalize h1.push { cls := .type "list", data := .seq ([] : List Value).toArray } = h2 at it1 hS k1 ⊢
    refine wpAny_pure ⟨plainId_quiet F.plain_min_loop _, codeAny_builtin F.entry_min_loop ?_⟩
    rw [Around.under_plainId F.plain_min_loop _]
    show wpAny _ A.in1 (seqItems? (.ref h1.objs.size) >>= _) _ _ _
    refine wpAny_bind (wpAny_seqItems hS rfl ?_)
    show wpAny _ A.in1 (tryCatch (pyNext (.ref s.heap.objs.size)) _ >>= _) _ _ _
    refine wpAny_bind (wpAny_tryCatch (wpAny_pyNext_list_end (s := { s with heap := h2 }) hh it1 ⟨ol, k1 l ol el, rest⟩ (by rfl) fun h' eb => ?_))
    show wpAny _ A.in1 (rule _ >>= _) _ _ _
    refine wpAny_bind (wpAny_rule ?_)
    refine wpAny_pure ?_
    exact h h' s.toks fun b o e => eb b o (fun q => by
      rw [q] at e
      exact absurd (Heap.lt_size e) (Nat.lt_irrefl _)) (k1 b o e)
  refine wpAny_call (codeAny_call_builtin F.plain_min F.entry_min ?_)
  have ha := args_min_dflt (.ref l)
  simp only [checkBuiltinCall, F.kind_min]
  cases hsig : Manifest.signature? "min" with
  | none => exact wpAny_pure body
  | some sig =>
    have h2 : Bind.checkArgs "min" sig ⟨[.ref l], [(Str.ofString "default", Value.none)]⟩ = pure () := by simpa only [argsOk, hsig] using ha
    show wpAny _ A.in1 (Bind.checkArgs "min" sig ⟨[.ref l], [(Str.ofString "default", Value.none)]⟩) _ _ s
    rw [h2]
    exact wpAny_pure body
end
section
variable {X : Cx}
def rMinDflt (K : PySem.W.Frag) : List V → List V → Hp → VK → Prop := fun vs zs H Q => ∃ a, vs = [V.ref a] ∧ zs = [V.non] ∧ SqL K H a [] ∧ Q .non H
theorem cr_minDflt (hc : X.calm = true) : CallRK X (.builtin "min") [Str.ofString "default"] (rMinDflt X.K) := by
  intro pins s σ H vs zs us ws Q I r rz h
  obtain ⟨a, rfl, rfl, hs, q⟩ := h
  obtain rfl := Vals.ref1 r
  obtain ⟨w1, rfl, e1⟩ := vals1 rz
  obtain rfl : w1 = Value.none := e1
  obtain ⟨its, rv, hl, _⟩ := I.list hs
  cases rv
  exact min_dflt_none (I.ok.hd hc) hl.isList fun h' tk k => ⟨.non, H, I.kept k, rfl, q⟩
end
end Ask

namespace Ask
open PySem PySem.Spec PyProof.Rows L2

/-! ### xs != [] of lists of whatever -/
section
variable {X : Cx}
def rNeNil (K : PySem.W.Frag) : R2 := fun x y H Q => ∃ a b xs, x = .ref a ∧ y = .ref b ∧ SqL K H a xs ∧ SqL K H b [] ∧ Q (.bl (!xs.isEmpty)) H
theorem op_neNil (hu : X.A.units + 64 < cLine) : OpR X (compareOp .NotEq) (rNeNil X.K) := by
  intro pins s σ H x y v u Q I rx ry h
  obtain ⟨a, b, xs, rfl, rfl, ha, hb, q⟩ := h
  obtain rfl : v = Value.ref a := rx
  obtain rfl : u = Value.ref b := ry
  obtain ⟨its, rv, hl, hz⟩ := I.list ha
  obtain ⟨jts, rw', hl', _⟩ := I.list hb
  cases rw'
  cases xs with
  | nil =>
    cases rv
    exact op_neD hu pins s σ H (V.ref a) (V.ref b) _ _ Q I rfl rfl ⟨.list [], .list [], .lst ha .nil, .lst hb .nil, by decide +kernel, by decide +kernel, q⟩
  | cons y ys =>
    cases rv with
    | @cons _ _ z zs r t =>
      exact SeqAt.RcNeAt.lists_lengths hl.isList hl'.isList (by simp) (by omega) X.prog X.w X.xe _ ⟨.bl true, H, I, rfl, q⟩
end

/-! ### {k: v} whose key is a tuple -/
section
variable {X : Cx} {kE vE : Expr} {tk tv : TE} {pos : Pos}
def tDisp1 (tk tv : TE) : TE := fun σ H Q => ∀ p, H p = none → tk σ (upd H p (.dT [])) fun x H1 => tv σ H1 fun y H2 => ∃ b k, x = .ref b ∧ H2 b = some (.tup (k.map kV)) ∧ H2 p = some (.dT []) ∧ Q (.ref p) (upd H2 p (.dT [(k, y)]))
theorem pe_disp1 (hu : X.A.units + 1 < cLine) (hk : PE X kE tk) (hv : PE X vE tv) : PE X (.Dict [some kE] [vE] pos) (tDisp1 tk tv) := by
  refine ⟨fun pins s σ H Q I q => ?_⟩
  have hn := I.hok.fresh (Nat.le_refl s.heap.objs.size)
  have I1 := I.laid (a := s.heap.objs.size) (o := .dT []) (h' := s.heap.push { cls := .type "dict", data := .dict #[] }) (t' := s.toks) (fun _ _ q => Heap.get?_push_of_some _ q) (Nat.le_refl _) (dt_empty s.heap I.big)
  have hall : ([some kE] : List (Option Expr)).all (·.isSome) = true := rfl
  have hl : ([some kE] : List (Option Expr)).length = [vE].length := rfl
  rw [arm_eval_Dict, zip_pairTrees [some kE] [vE] X.env pos hall hl, dictDisplay_pairs (pairTrees [some kE] [vE] X.env pos) (fun e => nomatch e) (show 1 < 17 by decide)]
  refine wpAny_bind (wpAny_standAt (wpAny_bind (wpAny_subDictH (knd := tupleKind (mixKind X.prog X.w)) (Q := fun d s' => wpAny (model X.prog X.w) X.A (pure (Value.ref d)) (EP X pins σ Q) X.xe s') (show X.A.units < cLine by omega) (show 1 ≤ 15 by decide)
    (pairTrees_cons_walk (thn (hk.run pins _ σ _ _ I1 (q _ hn)) fun u s1 ⟨x, H1, I2, rx, q1⟩ => thn (hv.run pins s1 σ H1 _ I2 q1) fun w2 s2 ⟨y, H2, I3, ry, b, k, ex, eb, ep, q2⟩ => ?_)))))
  subst ex
  cases (show u = Value.ref b from rx)
  refine pairTrees_nil_walk ?_
  obtain ⟨_, hd, xs0, r0, dd⟩ := dt_of I3.hok ep
  cases r0
  refine ⟨[(k, b, w2)], ⟨rfl, rfl, key_of I3.hok eb, trivial⟩, dd, fun h' tk' dd' hs => wpAny_pure ⟨.ref s.heap.objs.size, _, ?_, rfl, q2⟩⟩
  obtain ⟨qo, es, ep', hq, h2, h3, h4, _, h5⟩ := dd'
  have hsz : ([(k, y)] : List (List Key × V)).length ≤ sizeLine := by rw [sizeLine_eq]; show 1 ≤ _; decide
  have rel : KT (upd H2 s.heap.objs.size (.dT [(k, y)])) [(k, y)] [(k, b, w2)] := .cons ⟨rfl, by rw [upd_ne (ne_of eb ep (fun z => nomatch z))]; exact eb, ry⟩ .nil
  exact d_write I3 (by rw [ep]; exact True.intro) hs ⟨qo, hq⟩ ⟨hsz, hd, _, rel, qo, es, ep', hq, h2, h3, h4, h5⟩
end

/-! ### len(x), x an instance of a class with a __len__ of its own -/
section
variable {X : Cx} {CX : CXT} {k : Nat} {C g : Addr} {fd : FuncData} {ps : List Str} {sp : Sp}
theorem call_lenOwn (hl : PySem.W.findIn X.K (.ref C) "__len__" = some (some (.ref g))) (hf : PySem.W.isFn X.K (.ref g) = true) (F : FnR X.prog X.w X.K X.mg X.base CX k g sp) (hr : Room (k + 1) X.A) (hx : ∀ E : XK, Passes CX X.nox E) :
    CallR X (.builtin "len") (fun xs H Q => ∃ a dx fs, xs = [.ref a] ∧ H a = some (.ins C dx fs) ∧ sp [.ref a] H (fun v H2 => ∃ n : Nat, v = .int n ∧ n < 2 ^ 62 ∧ Q v H2) (fun _ _ _ => False)) := by
  intro pins s σ H xs us Q I r h
  obtain ⟨a, dx, fs, rfl, ha, q⟩ := h
  obtain rfl := Vals.ref1 r
  obtain ⟨mA, O, _, _, _, _⟩ := ins_get I.hok ha
  obtain ⟨od, J, _⟩ := O.look
  refine Calls.call_function_entry kind_len plain_len entry_len (args_len1 _) ?_
  unfold Builtin.«len»
  refine wpAny_bind (m := oneArg "len" _) (wpAny_pure ?_)
  refine wpAny_bind (m := callSpecial? (.ref a) (Str.ofString "__len__")) (PySem.W.special_fn I.kIn J hl (beq_iff_eq.mp hf) ?_)
  refine wpAny_call (codeAny_mono (F X.A.in1 X.stack s H [.ref a] [.ref a] _ _ hr.in1 I.env0.in1 r q) fun r s' hq => ?_)
  cases r with
  | error er => exact False.elim (hx _ pins σ H s er s' (I.wish _) hq)
  | ok fl =>
    cases fl with
    | ret u =>
      obtain ⟨v, H', I3, rv, n, rfl, hn, q3⟩ := I.after hq
      obtain ⟨t, rfl⟩ : ∃ t, u = Value.int n t := rv
      refine wpAny_bind (wpAny_holding (wpAny_pure ?_))
      refine wpAny_bind (wpAny_letGo ?_)
      show wpAny _ _ (if ((n : Nat) : Int) < 0 then _ else _) _ _ _
      rw [if_neg (by omega)]
      show wpAny _ _ (if ((n : Nat) : Int) ≥ 2 ^ 63 then _ else _) _ _ _
      rw [if_neg (by omega)]
      exact wpAny_bind (wpAny_mkInt (wpAny_pure ⟨_, rfl, ⟨.int n, H', I3.tok _, ⟨_, rfl⟩, q3⟩⟩))
    | next => exact False.elim hq
    | brk => exact False.elim hq
    | cont => exact False.elim hq
end

/-! ### sorted(xs) of a list of alike tuples -/
section
variable {X : Cx} {α : Type}
theorem each_rel : ∀ {vs : List V} {us : List Value} {ds : List α}, Vals vs us → vs.length = ds.length → PySem.W.EachIs (fun u (b : V × α) => RelV b.1 u) us (vs.zip ds)
  | [], _, [], r, _ => by cases r; exact .nil
  | _ :: _, _, _ :: _, r, h => by
    cases r with
    | cons r1 r2 => exact .cons r1 (each_rel r2 (by simpa using h))
theorem each_dp {pins : List (Addr × Obj)} {σ : L2.St} {H : Hp} {s : Shared} (enc : α → PyData) (I : Inv X pins σ H s) : ∀ {vs : List V} {us : List Value} {ws : List α}, Vals vs us → DpAll X.K H vs (ws.map enc) → PySem.W.EachIs (fun u (b : V × α) => ∃ as, Reads s.heap u (enc b.2) as) us (vs.zip ws)
  | [], _, [], r, _ => by cases r; exact .nil
  | _ :: _, _, _ :: _, r, h => by
    cases h with
    | cons h1 h2 =>
      cases r with
      | cons r1 r2 => exact .cons (Dp.reads I _ _ _ h1 r1) (each_dp enc I r2 h2)
  | [], _, _ :: _, _, h => by cases h
  | _ :: _, _, [], _, h => by cases h
theorem vals_each : ∀ {us : List Value} {bs : List (V × α)}, PySem.W.EachIs (fun u (b : V × α) => RelV b.1 u) us bs → Vals (bs.map Prod.fst) us
  | _, _, .nil => .nil
  | _, _, .cons h t => .cons h (vals_each t)
theorem dpAll_len {K : PySem.W.Frag} {H : Hp} : ∀ {vs : List V} {ds : List PyData}, DpAll K H vs ds → vs.length = ds.length
  | _, _, .nil => rfl
  | _, _, .cons _ t => by simp [dpAll_len t]
theorem map_snd_zip' : ∀ {vs : List V} {ds : List α}, vs.length = ds.length → (vs.zip ds).map Prod.snd = ds
  | [], [], _ => rfl
  | _ :: _, _ :: _, h => by simp [map_snd_zip' (show _ = _ by simpa using h)]
theorem zip_dp {K : PySem.W.Frag} {H : Hp} (enc : α → PyData) : ∀ {vs : List V} {ws : List α}, DpAll K H vs (ws.map enc) → ∀ p ∈ vs.zip ws, Dp K H p.1 (enc p.2)
  | [], [], _, p, hp => by cases hp
  | v :: vs, x :: ws, h, p, hp => by
    cases h with
    | cons h1 h2 =>
      rcases List.mem_cons.mp hp with q | q
      · rw [q]; exact h1
      · exact zip_dp enc h2 p q
  | [], _ :: _, h, _, _ => by cases h
  | _ :: _, [], h, _, _ => by cases h
theorem dp_zip {K : PySem.W.Frag} {H : Hp} (enc : α → PyData) : ∀ {zs : List (V × α)}, (∀ p ∈ zs, Dp K H p.1 (enc p.2)) → DpAll K H (zs.map Prod.fst) ((zs.map Prod.snd).map enc)
  | [], _ => .nil
  | z :: zs, h => .cons (h z (List.mem_cons_self ..)) (dp_zip enc fun p hp => h p (List.mem_cons_of_mem _ hp))
/-- sorted(xs): the values with their data, sorted by the data -/
def rSortG (K : PySem.W.Frag) (enc : α → PyData) : List V → Hp → VK → Prop := fun xs H Q => ∃ (a : Addr) (vs : List V) (ws : List α), xs = [.ref a] ∧ SqL K H a vs ∧ DpAll K H vs (ws.map enc) ∧ PySem.W.AllAlike (ws.map enc) ∧ PySem.W.Sortable (ws.map enc) ∧ (∀ x ∈ ws, (enc x).depth ≤ 20) ∧
  ∀ (p : Addr) (ys : List V), H p = none → DpAll K H ys ((ws.mergeSort (PySem.W.dataLe false enc)).map enc) → Q (.ref p) (upd H p (.lst ys))
theorem call_sortG (enc : α → PyData) (hu : X.A.units + 64 < cLine) : CallR X (.builtin "sorted") (rSortG X.K enc) := by
  intro pins s σ H xs us Q I r h
  obtain ⟨a, vs, ws, rfl, hs, hd, ha, hso, hdep, q⟩ := h
  obtain rfl := Vals.ref1 r
  obtain ⟨its, rv, hl, hz⟩ := I.list hs
  have hlen : vs.length = ws.length := by
    have := dpAll_len hd
    rwa [List.length_map] at this
  have hmap := map_snd_zip' hlen
  have hmap2 : (vs.zip ws).map (fun b : V × α => enc b.2) = ws.map enc := by
    have e : (vs.zip ws).map (fun b : V × α => enc b.2) = ((vs.zip ws).map Prod.snd).map enc := by rw [List.map_map]; rfl
    rw [e, hmap]
  have hzl : (vs.zip ws).length = vs.length := by rw [List.length_zip, ← hlen, Nat.min_self]
  refine PySem.W.sorted_data (R := fun u (b : V × α) => RelV b.1 u) (enc := fun b : V × α => enc b.2) (bs := vs.zip ws) hl.isList (each_rel rv hlen) (each_dp enc I rv hd) (by rw [hmap2]; exact ha) (by rw [hmap2]; exact hso) (by rw [hzl]; exact hz) (fun b hb => ?_) fun out ho he => ?_
  · have hm : b.2 ∈ ws := by rw [← hmap]; exact List.mem_map.mpr ⟨b, hb, rfl⟩
    have := hdep _ hm
    omega
  obtain ⟨e, hat⟩ := PyProof.Rows.sortedAll_at s.heap its out.toArray
  have rr := vals_each he
  have esnd : ((vs.zip ws).mergeSort (PySem.W.dataLe false fun b : V × α => enc b.2)).map Prod.snd = ws.mergeSort (PySem.W.dataLe false enc) := by
    have q := List.map_mergeSort (r := PySem.W.dataLe false fun b : V × α => enc b.2) (s := PySem.W.dataLe false enc) (f := Prod.snd) (l := vs.zip ws) (fun a _ b _ => rfl)
    rw [q, hmap]
  have dd := dp_zip enc (zs := (vs.zip ws).mergeSort (PySem.W.dataLe false fun b : V × α => enc b.2)) fun p hp => zip_dp enc hd p ((List.mergeSort_perm _ _).mem_iff.mp hp)
  rw [esnd] at dd
  refine ⟨.ref (s.heap.objs.size + 1), upd H (s.heap.objs.size + 1) (.lst _), I.laid (t' := s.toks) (fun _ _ e => PyProof.Rows.sortedAll_old e) (Nat.le_succ _) ⟨?_, out, e, rr, hat⟩, rfl, q _ _ (I.hok.fresh (Nat.le_succ _)) dd⟩
  rw [List.length_map, List.length_mergeSort, hzl]
  exact hz
end
end Ask

namespace Ask
open PySem PySem.Spec PyProof.Rows L2
open AutoSeq1 (wpAny_loadPart')

/-! ### enumerate over a zip -/
theorem meets_enum_zip (z TI TO : Addr) :
    Meets (Builtin.«enumerate.__new__» ⟨[.type "enumerate", .ref z], []⟩) (fun _ R s => IsZip s.heap z TI TO .none ∧
      R (.ok (.ret (.ref s.heap.objs.size))) { s with heap := s.heap.push { cls := .type "enumerate", data := .fields #[.none, .bool false, .ref z, rawInt 0, .none, .none] } }) :=
  .of_wp fun prog w A R s h => by
    obtain ⟨hp, g, d, tk, os⟩ := s; obtain ⟨hl, h⟩ := h
    have hsub := sub_enumerate
    have hL : IsZip (Shared.heap ⟨hp, g, d, tk, os⟩) z TI TO .none := hl
    wp_walk using wpAny_loadPart' hl
    refine wpAny_stack_any fun st => wpAny_pure ?_
    split
    · rename_i c _ _ _ _ _
      cases (c == Value.type "enumerate")
      · wp_walk using wpAny_loadPart' hl, wpAny_pyIter_zip hL
        exact ⟨_, rfl, h⟩
      · wp_walk using wpAny_loadPart' hl, wpAny_pyIter_zip hL
        exact ⟨_, rfl, h⟩
    · wp_walk using wpAny_loadPart' hl, wpAny_pyIter_zip hL
      exact ⟨_, rfl, h⟩

section
variable {prog : Program} {w : World} {A : Around} {E : Value → Shared → Prop} {s : Shared}
theorem call_enum_zip {z TI TO : Addr} {Q : Value → Shared → Prop} (hz : IsZip s.heap z TI TO .none)
    (h : ∀ h', IsEnum h' s.heap.objs.size z 0 .none → h'.objs.size = s.heap.objs.size + 1 → (∀ b o, s.heap.get? b = some o → h'.get? b = some o) → Q (.ref s.heap.objs.size) { s with heap := h' }) :
    wpAny (model prog w) A (call (.type "enumerate") [.ref z]) Q E s := by
  refine callType_new F.called_enumerate (by decide) (F.typeCall_enumerate_1 _) (F.newCall_enumerate_1 _) (fun obj => F.args_object_init_2 obj _) F.entry_enumerate_new
    (meets_enum_zip z TI TO) ⟨hz, ?_⟩
  show _ ∧ _
  have he : IsEnum (s.heap.push { cls := .type "enumerate", data := .fields #[.none, .bool false, .ref z, rawInt 0, .none, .none] }) s.heap.objs.size z 0 .none := Heap.get?_push_size _ rfl
  exact ⟨⟨_, he, rfl⟩, h _ he (Heap.size_push ..) fun b o x => Heap.get?_push_of_some _ x⟩

/-- one draw of an enumerate whose source is anything -/
theorem enum_next_of {e z : Addr} {c : Int} {old : Value} {Q : Option Value → Shared → Prop} {Qn : Value → Heap → Prop} (he : IsEnum s.heap e z c old)
    (hn : wpAny (model prog w) A.in1 (Builtin.SmallTypes.nextOf (.ref z)) (fun x s1 => ∃ h1, s1 = { s with heap := h1 } ∧ IsEnum h1 e z c old ∧ Qn x h1) (fun _ _ => False) s)
    (hQ : ∀ x h1 h', Qn x h1 → IsEnumOut h' e z (c + 1) x h1.objs.size → h'.get? h1.objs.size = some { cls := .type "tuple", data := .seq #[.int c s.toks, x] } → h'.objs.size = h1.objs.size + 1 →
      (∀ b o, b ≠ e → h1.get? b = some o → h'.get? b = some o) → Q (some (.ref h1.objs.size)) { s with heap := h', toks := s.toks + 1 }) :
    wpAny (model prog w) A (pyNext (.ref e)) Q E s := by
  have hTy : s.TypeIs (.ref e) "enumerate" := ⟨_, he, rfl⟩
  unfold pyNext
  refine wpAny_bind (wpAny_attempt (wpAny_callSpecial?_slot (name := Str.ofString "__next__") hTy F.slot_enumerate_next
    (wpAny_call_entry F.slot_enumerate_next hTy F.entry_enumerate_next ?_ (F.args_enumerate_next_1 _))))
  obtain ⟨hp, g, d, tk, os⟩ := s
  show wpAny _ _ (field (.ref e) 2 >>= _) _ _ _
  refine wpAny_bind (wpAny_field he rfl (x := .ref z) rfl ?_)
  refine wpAny_bind (wpAny_mono hn (fun x s1 hx => ?_) fun _ _ q => q.elim)
  obtain ⟨h₁, rfl, he₁, qn⟩ := hx
  show wpAny _ _ (field (.ref e) 3 >>= _) _ _ ⟨h₁, g, d, tk, os⟩
  refine wpAny_bind (wpAny_field he₁ rfl (x := rawInt c) rfl ?_)
  show wpAny _ _ (field (.ref e) 4 >>= _) _ _ ⟨h₁, g, d, tk, os⟩
  refine wpAny_bind (wpAny_field he₁ rfl (x := .none) rfl ?_)
  show wpAny _ _ (mkInt c >>= _) _ _ ⟨h₁, g, d, tk, os⟩
  refine wpAny_bind (wpAny_mkInt ?_)
  show wpAny _ _ (setField (.ref e) 3 (rawInt (c + 1)) >>= _) _ _ ⟨h₁, g, d, tk + 1, os⟩
  refine wpAny_bind (wpAny_setField_rec he₁ (by simp) fun h₂ he₂ hs₂ => ?_)
  replace hs₂ : Heap.SameBut e h₁ h₂ := hs₂
  replace he₂ : IsEnum h₂ e z (c + 1) old := he₂
  show wpAny _ _ (setField (.ref e) 4 .none >>= _) _ _ ⟨h₂, g, d, tk + 1, os⟩
  refine wpAny_bind (wpAny_setField_rec he₂ (by simp) fun h₃ he₃ hs₃ => ?_)
  replace hs₃ : Heap.SameBut e h₂ h₃ := hs₃
  replace he₃ : IsEnum h₃ e z (c + 1) old := he₃
  show wpAny _ _ (newTuple [.int c tk, x] >>= _) _ _ ⟨h₃, g, d, tk + 1, os⟩
  refine wpAny_bind (wpAny_newTuple ?_)
  have he₄ : IsEnum (h₃.push { cls := .type "tuple", data := .seq #[.int c tk, x] }) e z (c + 1) old := Heap.get?_push_of_some _ he₃
  generalize hh₄ : h₃.push { cls := .type "tuple", data := .seq #[.int c tk, x] } = h₄ at he₄
  have hsz : h₃.objs.size = h₁.objs.size := by rw [hs₃.1, hs₂.1]
  have hel : e < h₁.objs.size := Heap.lt_size he₁
  have ht₄ : h₄.get? h₁.objs.size = some { cls := .type "tuple", data := .seq #[.int c tk, x] } := by rw [← hh₄, ← hsz]; exact Heap.get?_push_size _ rfl
  have hz₄ : h₄.objs.size = h₁.objs.size + 1 := by rw [← hh₄, Heap.size_push, hsz]
  have hk₄ : ∀ b o, b ≠ e → h₁.get? b = some o → h₄.get? b = some o := fun b o hbe hb => by
    rw [← hh₄]; exact Heap.get?_push_of_some _ (hs₃.extBut b o hbe (hs₂.extBut b o hbe hb))
  show wpAny _ _ (Builtin.SmallTypes.ownedTupleIsFree (.ref e) >>= _) _ _ ⟨h₄, g, d, tk + 1, os⟩
  rw [hsz]
  clear hh₄ he₃ hs₃ he₂ hs₂ hsz h₃ h₂
  refine wpAny_bind ?_
  unfold Builtin.SmallTypes.ownedTupleIsFree
  refine wpAny_bind (wpAny_field he₄ rfl (x := .none) rfl (wpAny_pure ?_))
  simp only [if_true]
  refine wpAny_bind (wpAny_rule ?_)
  refine wpAny_bind (wpAny_field he₄ rfl (x := old) rfl ?_)
  refine wpAny_bind (wpAny_setField_rec he₄ (by simp) fun h₅ he₅ hs₅ => ?_)
  replace hs₅ : Heap.SameBut e h₄ h₅ := hs₅
  replace he₅ : IsEnum h₅ e z (c + 1) x := he₅
  show wpAny _ _ (Builtin.SmallTypes.ownedTupleHandOut (.ref e) (.ref h₁.objs.size) >>= _) _ _ ⟨h₅, g, d, tk + 1, os⟩
  refine wpAny_bind ?_
  unfold Builtin.SmallTypes.ownedTupleHandOut
  refine wpAny_bind (wpAny_setField_rec he₅ (by simp) fun h₆ he₆ hs₆ => ?_)
  replace hs₆ : Heap.SameBut e h₅ h₆ := hs₆
  replace he₆ : IsEnumOut h₆ e z (c + 1) x h₁.objs.size := he₆
  refine wpAny_setField_rec he₆ (by simp) fun h₇ he₇ hs₇ => ?_
  replace hs₇ : Heap.SameBut e h₆ h₇ := hs₇
  replace he₇ : IsEnumOut h₇ e z (c + 1) x h₁.objs.size := he₇
  refine wpAny_bind (wpAny_letGo (wpAny_pure ⟨_, rfl, wpAny_pure (hQ x h₁ h₇ qn he₇ ?_ ?_ ?_)⟩))
  · exact hs₇.extBut _ _ (Nat.ne_of_gt hel) (hs₆.extBut _ _ (Nat.ne_of_gt hel) (hs₅.extBut _ _ (Nat.ne_of_gt hel) ht₄))
  · rw [hs₇.1, hs₆.1, hs₅.1, hz₄]
  · exact fun b o hbe hb => hs₇.extBut b o hbe (hs₆.extBut b o hbe (hs₅.extBut b o hbe (hk₄ b o hbe hb)))
theorem enum_end_of {e z : Addr} {c : Int} {old : Value} {Q : Option Value → Shared → Prop} (he : IsEnum s.heap e z c old)
    (hn : wpAny (model prog w) A.in1 (Builtin.SmallTypes.nextOf (.ref z)) (fun _ _ => False) (fun v s1 => ∃ x o, v = .ref x ∧ s1.heap.get? x = some o ∧ o.cls = .type "StopIteration" ∧ Q none s1) s) :
    wpAny (model prog w) A (pyNext (.ref e)) Q E s := by
  have hTy : s.TypeIs (.ref e) "enumerate" := ⟨_, he, rfl⟩
  unfold pyNext
  refine wpAny_bind (wpAny_attempt (wpAny_callSpecial?_slot (name := Str.ofString "__next__") hTy F.slot_enumerate_next
    (wpAny_call_entry F.slot_enumerate_next hTy F.entry_enumerate_next ?_ (F.args_enumerate_next_1 _))))
  show wpAny _ _ (field (.ref e) 2 >>= _) _ _ _
  refine wpAny_bind (wpAny_field he rfl (x := .ref z) rfl ?_)
  refine wpAny_bind (wpAny_mono hn (fun _ _ q => q.elim) fun v s1 q => ?_)
  obtain ⟨x, o, rfl, ho, hc, q⟩ := q
  refine wpAny_bind (wpAny_isInstance (T := "StopIteration") (b := true) ⟨o, ho, hc⟩ isSubtype_stop ?_)
  exact wpAny_pure q

theorem nextOf_zip {z TI TO : Addr} {v0 : Value} {b0 : Bool} {Q : Value → Shared → Prop} (hz : s.heap.get? z = some { cls := .type "zip", dict := none, data := .fields #[v0, .bool b0, .bool false, .ref TI, .ref TO], slots := #[] })
    (h : wpAny (model prog w) A.in1 (Builtin.«zip.__next__» ⟨[.ref z], []⟩) (fun fin s' => ∃ v, fin = .done (.ret v) ∧ Q v s') E s) : wpAny (model prog w) A (Builtin.SmallTypes.nextOf (.ref z)) Q E s := by
  have hTy : s.TypeIs (.ref z) "zip" := ⟨_, hz, rfl⟩
  unfold Builtin.SmallTypes.nextOf
  exact wpAny_bind (wpAny_callSpecial?_slot (name := Str.ofString "__next__") hTy F.slot_zip_next (wpAny_call_entry F.slot_zip_next hTy F.entry_zip_next (wpAny_mono h (fun fin s' ⟨v, e, q⟩ => ⟨v, e, wpAny_pure q⟩) fun _ _ q => q) (F.args_zip_next_1 _)))
end
end Ask

namespace Ask
open PySem PySem.Spec PyProof.Rows L2

/-- the zip: fresh, or with a tuple of its own out -/
def ZS (h : Heap) (z TI TO : Addr) : Option Addr → Prop
  | none => IsZip h z TI TO .none
  | some T => ∃ f, IsZipHeld h z TI TO T f
theorem ZS.keep {h h' : Heap} {z TI TO : Addr} {o : Option Addr} (k : ∀ ob, h.get? z = some ob → h'.get? z = some ob) (q : ZS h z TI TO o) : ZS h' z TI TO o := by
  cases o with
  | none => exact k _ q
  | some T => exact ⟨q.choose, k _ q.choose_spec⟩
structure EZ (h : Heap) (e z TI TO i1 i2 a b : Addr) (i : Nat) (o : Option Addr) : Prop where
  he : ∃ old, IsEnum h e z (i : Int) old
  hz : ZS h z TI TO o
  hTI : IsPair h TI (.ref i1) (.ref i2)
  hTO : ∃ x y, IsPair h TO x y
  h1 : h.IsListIter i1 a i
  h2 : h.IsListIter i2 b i
theorem EZ.keep {h h' : Heap} {e z TI TO i1 i2 a b : Addr} {i : Nat} {o : Option Addr} (q : EZ h e z TI TO i1 i2 a b i o) (k : ∀ c ∈ [e, z, TI, TO, i1, i2], ∀ ob, h.get? c = some ob → h'.get? c = some ob) : EZ h' e z TI TO i1 i2 a b i o :=
  ⟨⟨_, k e (by simp) _ q.he.choose_spec⟩, q.hz.keep (k z (by simp)), k TI (by simp) _ q.hTI, let ⟨x, y, t⟩ := q.hTO; ⟨x, y, k TO (by simp) _ t⟩, q.h1.at fun ob w => k i1 (by simp) ob w, q.h2.at fun ob w => k i2 (by simp) ob w⟩
theorem EZ.obj {h : Heap} {e z TI TO i1 i2 a b : Addr} {i : Nat} {o : Option Addr} (q : EZ h e z TI TO i1 i2 a b i o) : ∀ c ∈ [e, z, TI, TO, i1, i2], ∃ ob, h.get? c = some ob ∧ ∀ v, ob.data ≠ .cell v := by
  intro c hc
  obtain ⟨⟨old, he⟩, hz, hTI, ⟨x, y, hTO⟩, ⟨o1, e1, _, d1⟩, ⟨o2, e2, _, d2⟩⟩ := q
  have e' : c = e ∨ c = z ∨ c = TI ∨ c = TO ∨ c = i1 ∨ c = i2 := by simpa using hc
  rcases e' with q | q | q | q | q | q
  · rw [q]; exact ⟨_, he, fun v q => nomatch q⟩
  · rw [q]
    cases o with
    | none => exact ⟨_, hz, fun v q => nomatch q⟩
    | some T => obtain ⟨f, hz⟩ := hz; exact ⟨_, hz, fun v q => nomatch q⟩
  · rw [q]; exact ⟨_, hTI, fun v q => nomatch q⟩
  · rw [q]; exact ⟨_, hTO, fun v q => nomatch q⟩
  · rw [q]; exact ⟨o1, e1, fun v q => by rw [d1] at q; cases q⟩
  · rw [q]; exact ⟨o2, e2, fun v q => by rw [d2] at q; cases q⟩
/-- six addresses apart -/
structure EZApart (e z TI TO i1 i2 a b : Addr) : Prop where
  za : ZipApart z TI TO i1 i2 a b
  ez : e ≠ z
  eTI : e ≠ TI
  eTO : e ≠ TO
  e1 : e ≠ i1
  e2 : e ≠ i2
  ea : e ≠ a
  eb : e ≠ b

/-- the pairs that stand, stand still -/
def TKeep (H H' : Hp) : Prop := ∀ c p q, H c = some (.tup [p, q]) → H' c = some (.tup [p, q])
/-- for i, t in enumerate(zip(xs, ys)) -/
def tForEZ (K : PySem.W.Frag) (ta : TA) (g : TG) (tb : TS) : TS := fun D σ H => ta σ H fun vs H1 => ∃ (a b : Addr) (xs ys : List V) (Pv : Nat → L2.St → Hp → Prop), vs = [.ref a, .ref b] ∧ Pv 0 σ H1 ∧ (∀ i σ H, i ≤ min xs.length ys.length → Pv i σ H → SqL K H a xs ∧ SqL K H b ys) ∧
  (∀ i x y σ H T1 T2, xs[i]? = some x → ys[i]? = some y → Pv i σ H → H T1 = none → H T2 = none → T1 ≠ T2 →
    g (.ref T1) σ (upd (upd H T2 (.tup [x, y])) T1 (.tup [.int (i : Nat), .ref T2])) fun σ2 H2 => tb { D with nx := fun σ3 H3 => Pv (i + 1) σ3 H3 ∧ TKeep (upd H T2 (.tup [x, y])) H3, ct := fun σ3 H3 => Pv (i + 1) σ3 H3 ∧ TKeep (upd H T2 (.tup [x, y])) H3, bk := D.nx } σ2 H2) ∧
  (∀ σ H, Pv (min xs.length ys.length) σ H → D.nx σ H)

section
variable {X : Cx} {e1 e2 : Expr} {elts : List Expr} {kk : Nat} {tpos p1 p2 c1 c2 pos : Pos} {ta : TA} {g : TG} {tb : TS} {body : List Stmt}
theorem ps_forEZ (hp : PassesOwn (model X.prog X.w) X.A X.env X.xe) (hc : X.calm = true) (hgE : Gl X "enumerate") (hmE : X.mg "enumerate" = none) (hgZ : Gl X "zip") (hmZ : X.mg "zip" = none) (ha : PA X [e1, e2] ta)
    (hg : PG X (.Tuple elts kk tpos) g) (hb : PSs X body tb)
    (hsE : starEach [.Call (.Name "zip" p2) [e1, e2] [] c2] X.env = [(false, eval (.Call (.Name "zip" p2) [e1, e2] [] c2) X.env)] := by rfl)
    (hsZ : starEach [e1, e2] X.env = (false, eval e1 X.env) :: starEach [e2] X.env := by rfl) (hplZ : (backTo c2 (starEach [e2] X.env)).any (·.1) = false := by rfl)
    (hf : ∀ x, foldedSetIterable (.Call (.Name "enumerate" p1) [.Call (.Name "zip" p2) [e1, e2] [] c2] [] c1) X.env x = pure x := by intro _; rfl) :
    PS X (.For (.Tuple elts kk tpos) (.Call (.Name "enumerate" p1) [.Call (.Name "zip" p2) [e1, e2] [] c2] [] c1) body [] pos) (tForEZ X.K ta g tb) := by
  refine ⟨fun pins s σ H D I h => ?_⟩
  refine wpAny_For ?_ hf
  refine Call_ (ld_blt I hgE hmE boot_enumerate (PyProof.Rows.callWith_type1 ?_ hsE rfl))
  -- the argument: zip(..)
  have zipped : wpAny (model X.prog X.w) X.A (eval (.Call (.Name "zip" p2) [e1, e2] [] c2) X.env) (fun v s1 => ∃ (H1 : Hp) (a b z TI TO i1 i2 : Addr) (xs ys : List V) (Pv : Nat → L2.St → Hp → Prop), v = .ref z ∧ Inv X pins σ H1 s1 ∧ ZipApart z TI TO i1 i2 a b ∧
      IsZip s1.heap z TI TO .none ∧ IsPair s1.heap TI (.ref i1) (.ref i2) ∧ (∃ x y, IsPair s1.heap TO x y) ∧ s1.heap.IsListIter i1 a 0 ∧ s1.heap.IsListIter i2 b 0 ∧ (∀ c ∈ [z, TI, TO, i1, i2], FpOk X pins H1 c) ∧
      Pv 0 σ H1 ∧ (∀ i σ H, i ≤ min xs.length ys.length → Pv i σ H → SqL X.K H a xs ∧ SqL X.K H b ys) ∧
      (∀ i x y σ H T1 T2, xs[i]? = some x → ys[i]? = some y → Pv i σ H → H T1 = none → H T2 = none → T1 ≠ T2 →
        g (.ref T1) σ (upd (upd H T2 (.tup [x, y])) T1 (.tup [.int (i : Nat), .ref T2])) fun σ2 H2 => tb { D with nx := fun σ3 H3 => Pv (i + 1) σ3 H3 ∧ TKeep (upd H T2 (.tup [x, y])) H3, ct := fun σ3 H3 => Pv (i + 1) σ3 H3 ∧ TKeep (upd H T2 (.tup [x, y])) H3, bk := D.nx } σ2 H2) ∧
      (∀ σ H, Pv (min xs.length ys.length) σ H → D.nx σ H)) X.xe s := by
    refine Call_ (ld_blt I hgZ hmZ PyProof.Rows.boot_zip (PyProof.Rows.callWith_type1 (thn (ha.run c2 pins s σ H _ I h) fun us s1 ⟨vs, H1, I1, r1, q1⟩ => ?_) hsZ hplZ))
    obtain ⟨a, b, xs, ys, Pv, rfl, p0, pl, ps, pd⟩ := q1
    obtain ⟨hqx, hqy⟩ := pl 0 σ H1 (Nat.zero_le _) p0
    cases r1 with
    | cons r rr =>
      cases rr with
      | cons r' rr =>
        cases rr
        cases r
        cases r'
        obtain ⟨its, rv, q1, _⟩ := I1.list hqx
        obtain ⟨its2, rv2, q2, _⟩ := I1.list hqy
        have la : a < s1.heap.objs.size := q1.lt
        have lb : b < s1.heap.objs.size := q2.lt
        refine call_zip_2 q1.isList q2.isList fun h' hz hTI hTO h1 h2 hsz hk => ?_
        have I2 : Inv X pins σ H1 { s1 with heap := h' } := I1.kept (t' := s1.toks) hk
        refine ⟨H1, a, b, s1.heap.objs.size + 4, s1.heap.objs.size + 2, s1.heap.objs.size + 3, s1.heap.objs.size, s1.heap.objs.size + 1, xs, ys, Pv, rfl, I2, PySem.W.ktu_apart s1.heap.objs.size a b la lb, hz, hTI, ⟨_, _, hTO⟩, h1, h2, fun c hcm => ?_, p0, pl, ps, pd⟩
        have e' : c = s1.heap.objs.size + 4 ∨ c = s1.heap.objs.size + 2 ∨ c = s1.heap.objs.size + 3 ∨ c = s1.heap.objs.size ∨ c = s1.heap.objs.size + 1 := by simpa using hcm
        have hle : s1.heap.objs.size ≤ c := by
          rcases e' with z | z | z | z | z <;> (rw [z]; first | exact Nat.le_add_right _ _ | exact Nat.le_refl _)
        exact I1.fpOk hle (I1.hok.fresh hle)
  refine PyProof.Rows.spliced_more (thn zipped fun v s1 hz1 => PyProof.Rows.spliced_none ?_) hsE
  obtain ⟨H1, a, b, z, TI, TO, i1, i2, xs, ys, Pv, rfl, I1, za, hz, hTI, ⟨x0, y0, hTO⟩, h1, h2, hfp, p0, pl, pst, pd⟩ := hz1
  have hzl := Heap.lt_size hz
  have hTIl := Heap.lt_size hTI
  have hTOl := Heap.lt_size hTO
  have h1l : i1 < s1.heap.objs.size := by obtain ⟨_, q, _⟩ := h1; exact Heap.lt_size q
  have h2l : i2 < s1.heap.objs.size := by obtain ⟨_, q, _⟩ := h2; exact Heap.lt_size q
  obtain ⟨qa, qb⟩ := pl 0 σ H1 (Nat.zero_le _) p0
  obtain ⟨_, _, ta1, _⟩ := I1.list qa
  obtain ⟨_, _, tb1, _⟩ := I1.list qb
  have hal : a < s1.heap.objs.size := ta1.lt
  have hbl : b < s1.heap.objs.size := tb1.lt
  refine call_enum_zip hz fun h' he hsz hk => ?_
  refine wpAny_pyIter_enum he ?_
  have I2 : Inv X pins σ H1 { s1 with heap := h' } := I1.kept (t' := s1.toks) hk
  have ap : EZApart s1.heap.objs.size z TI TO i1 i2 a b := ⟨za, Nat.ne_of_gt hzl, Nat.ne_of_gt hTIl, Nat.ne_of_gt hTOl, Nat.ne_of_gt h1l, Nat.ne_of_gt h2l, Nat.ne_of_gt hal, Nat.ne_of_gt hbl⟩
  have f2 : ∀ c ∈ [s1.heap.objs.size, z, TI, TO, i1, i2], FpOk X pins H1 c := fun c hc => by
    rcases List.mem_cons.mp hc with q | q
    · rw [q]; exact I1.fpOk (Nat.le_refl _) (I1.hok.fresh (Nat.le_refl _))
    · exact hfp c q
  have st0 : EZ h' s1.heap.objs.size z TI TO i1 i2 a b 0 none := ⟨⟨_, he⟩, hk _ _ hz, hk _ _ hTI, ⟨_, _, hk _ _ hTO⟩, h1.at fun o q => hk _ o q, h2.at fun o q => hk _ o q⟩
  generalize s1.heap.objs.size = e at *
  have stat : ∀ {H' : Hp}, (∀ c ∈ [e, z, TI, TO, i1, i2], H' c = none) → ∀ c ∈ [e, z, TI, TO, i1, i2], FpOk X pins H' c := fun hn c hc => ⟨hn c hc, (f2 c hc).2⟩
  refine codeAny_forLoop_any (fun n s' => ∃ i o σ' H', Inv X pins σ' H' s' ∧ EZ s'.heap e z TI TO i1 i2 a b i o ∧ (∀ c ∈ [e, z, TI, TO, i1, i2], H' c = none) ∧ (∀ T, o = some T → ∃ p q, H' T = some (.tup [p, q])) ∧ n = min xs.length ys.length - i ∧ i ≤ min xs.length ys.length ∧ Pv i σ' H') ?_ (min xs.length ys.length) ⟨0, none, σ, H1, I2, st0, fun c hc => (f2 c hc).1, (fun T q => by cases q), by omega, Nat.zero_le _, p0⟩
  rintro n s3 ⟨i, o, σ3, H3, I3, st3, fr3, ht3, hn, hi, p3⟩
  obtain ⟨hqx, hqy⟩ := pl i σ3 H3 hi p3
  obtain ⟨its, rv, px, _⟩ := I3.list hqx
  obtain ⟨its2, rv2, py, _⟩ := I3.list hqy
  have l1 := rv.length
  have l2 := rv2.length
  obtain ⟨⟨old, he3⟩, hz3, hTI3, ⟨x3, y3, hTO3⟩, h13, h23⟩ := id st3
  have hh : X.A.in1.handled = none := I3.ok.hd hc
  have hh2 : X.A.in1.in1.handled = none := I3.ok.hd hc
  have heap_T : ∀ T, o = some T → ∃ oT, s3.heap.get? T = some oT := fun T q => by
    obtain ⟨p, q, hT⟩ := ht3 T q
    obtain ⟨its', _, ⟨oT, hoT, _⟩, _⟩ := I3.tuple (show SqT X.K H3 T [p, q] from Or.inl (Or.inl hT))
    exact ⟨oT, hoT⟩
  have sf3 := stat fr3
  by_cases hlt : i < min xs.length ys.length
  · have hx1 : i < xs.length := by omega
    have hy1 : i < ys.length := by omega
    have hx : xs[i]? = some xs[i] := by simp [hx1]
    have hy : ys[i]? = some ys[i] := by simp [hy1]
    obtain ⟨u, hu, ru⟩ := rv.get hx
    obtain ⟨u2, hu2, ru2⟩ := rv2.get hy
    have hel := Heap.lt_size he3
    have draw : wpAny (model X.prog X.w) X.A.in1 (Builtin.SmallTypes.nextOf (.ref z)) (fun x s1 => ∃ h1, s1 = { s3 with heap := h1 } ∧ IsEnum h1 e z (i : Int) old ∧ (x = .ref s3.heap.objs.size ∧ IsPair h1 s3.heap.objs.size u u2 ∧ h1.objs.size = s3.heap.objs.size + 1 ∧
        (∃ o', ZS h1 z TI TO o' ∧ (∀ T, o' = some T → T = s3.heap.objs.size ∨ o = some T)) ∧ IsPair h1 TI (.ref i1) (.ref i2) ∧ (∃ x y, IsPair h1 TO x y) ∧ h1.IsListIter i1 a (i + 1) ∧ h1.IsListIter i2 b (i + 1) ∧
        (∀ c o, c ∉ [z, TI, TO, i1, i2] → s3.heap.get? c = some o → h1.get? c = some o))) (fun _ _ => False) s3 := by
      cases o with
      | none =>
        refine nextOf_zip hz3 (zip_next_item ap.za hz3 hTI3 hTO3 h13 h23 px.isList py.isList (x := u) (y := u2) (by simpa using hu) (by simpa using hu2) fun h1 a1 a2 a3 a4 a5 a6 a7 => ⟨h1, rfl, a7 e _ ap.ez ap.eTO ap.e1 ap.e2 he3, rfl, a5, a6, ⟨some s3.heap.objs.size, ⟨false, a1⟩, fun T q => .inl (Option.some.inj q).symm⟩, a7 _ _ ap.za.TIz ap.za.TITO ap.za.TIi1 ap.za.TIi2 hTI3, ⟨u, u2, a2⟩, a3, a4, fun c ob hcn q => a7 c ob (fun z => hcn (by simp [z])) (fun z => hcn (by simp [z])) (fun z => hcn (by simp [z])) (fun z => hcn (by simp [z])) q⟩)
      | some T =>
        obtain ⟨f, hz3⟩ := hz3
        obtain ⟨oT, hoT⟩ := heap_T T rfl
        refine nextOf_zip hz3 (zip_next_item_held ap.za hz3 hoT hTI3 h13 h23 px.isList py.isList (x := u) (y := u2) (by simpa using hu) (by simpa using hu2) fun h1 a1 a3 a4 a5 a6 a7 => ⟨h1, rfl, a7 e _ ap.ez ap.e1 ap.e2 he3, rfl, a5, a6, ⟨some T, ⟨true, a1⟩, fun T' q => .inr q⟩, a7 _ _ ap.za.TIz ap.za.TIi1 ap.za.TIi2 hTI3, ⟨x3, y3, a7 _ _ ap.za.TOz ap.za.TOi1 ap.za.TOi2 hTO3⟩, a3, a4, fun c ob hcn q => a7 c ob (fun z => hcn (by simp [z])) (fun z => hcn (by simp [z])) (fun z => hcn (by simp [z])) q⟩)
    refine wpAny_passesOwn hp (enum_next_of he3 draw fun x h1 h2 qn heo hT1 hsz2 hk2 => ?_)
    obtain ⟨rfl, hp1, hsz1, ⟨o', hzs, ho'⟩, hTI1, ⟨x4, y4, hTO1⟩, h11, h21, hk1⟩ := qn
    have hT1' : h1.objs.size = s3.heap.objs.size + 1 := hsz1
    refine wpAny_passesOwn hp (wpAny_letOwnedTupleGo_enum (s := { s3 with heap := h2, toks := s3.toks + 1 }) heo fun h3 he4 sb => ?_)
    have hlow : ∀ c ∈ [e, z, TI, TO, i1, i2], c < s3.heap.objs.size := fun c hc => by
      obtain ⟨ob, q, _⟩ := st3.obj c hc
      exact Heap.lt_size q
    have hk3 : ∀ c ob, c ≠ e → h1.get? c = some ob → h3.get? c = some ob := fun c ob hce q => (sb.2 c hce).trans (hk2 c ob hce q)
    have new1 : ObjOk X.prog X.w (upd H3 s3.heap.objs.size (.tup [xs[i], ys[i]])) h1 s3.heap.objs.size (.tup [xs[i], ys[i]]) :=
      ⟨by show 2 ≤ sizeLine; decide, [u, u2], .cons ru (.cons ru2 .nil), ⟨_, hp1, rfl, _, rfl⟩⟩
    have J1 : Inv X pins σ3 (upd H3 s3.heap.objs.size (.tup [xs[i], ys[i]])) { s3 with heap := h1 } :=
      I3.turnedNew (t' := s3.toks) (ch := [z, TI, TO, i1, i2]) (fun c ob hb q => hk1 c ob hb q) (fun c hc => sf3 c (List.mem_cons_of_mem _ hc)) (Nat.le_refl _) new1
    have hTT2 : h3.get? h1.objs.size = some { cls := .type "tuple", data := .seq #[.int (i : Int) s3.toks, .ref s3.heap.objs.size] } := (sb.2 _ (Nat.ne_of_gt (by rw [hsz1]; exact Nat.lt_succ_of_lt hel))).trans hT1
    have new2 : ObjOk X.prog X.w (upd (upd H3 s3.heap.objs.size (.tup [xs[i], ys[i]])) h1.objs.size (.tup [.int (i : Nat), .ref s3.heap.objs.size])) h3 h1.objs.size (.tup [.int (i : Nat), .ref s3.heap.objs.size]) :=
      ⟨by show 2 ≤ sizeLine; decide, [.int i s3.toks, .ref s3.heap.objs.size], .cons ⟨_, rfl⟩ (.cons rfl .nil), ⟨_, hTT2, rfl, _, rfl⟩⟩
    have fe : FpOk X pins (upd H3 s3.heap.objs.size (.tup [xs[i], ys[i]])) e := ⟨by rw [upd_ne (Nat.ne_of_lt hel)]; exact fr3 e (by simp), (sf3 e (by simp)).2⟩
    have J2 : Inv X pins σ3 (upd (upd H3 s3.heap.objs.size (.tup [xs[i], ys[i]])) h1.objs.size (.tup [.int (i : Nat), .ref s3.heap.objs.size])) { s3 with heap := h3, toks := s3.toks + 1 } :=
      J1.turnedNew (t' := s3.toks + 1) (ch := [e]) (fun c ob hb q => hk3 c ob (fun z => hb (by simp [z])) q) (fun c hc => by rw [List.mem_singleton.mp hc]; exact fe) (Nat.le_refl _) new2
    have heI : IsEnum h3 e z ((i + 1 : Nat) : Int) (.ref s3.heap.objs.size) := by
      have e1 : ((i + 1 : Nat) : Int) = (i : Int) + 1 := by omega
      rw [e1]
      exact he4
    have st5 : EZ h3 e z TI TO i1 i2 a b (i + 1) o' := ⟨⟨_, heI⟩, hzs.keep fun ob q => hk3 z ob ap.ez.symm q, hk3 _ _ ap.eTI.symm hTI1, ⟨_, _, hk3 _ _ ap.eTO.symm hTO1⟩, h11.at fun ob q => hk3 _ ob ap.e1.symm q, h21.at fun ob q => hk3 _ ob ap.e2.symm q⟩
    have fr5 : ∀ c ∈ [e, z, TI, TO, i1, i2], (upd (upd H3 s3.heap.objs.size (.tup [xs[i], ys[i]])) h1.objs.size (.tup [.int (i : Nat), .ref s3.heap.objs.size])) c = none := fun c hc => by
      have := hlow c hc
      rw [upd_ne (Nat.ne_of_lt (by rw [hsz1]; exact Nat.lt_succ_of_lt this)), upd_ne (Nat.ne_of_lt this)]
      exact fr3 c hc
    have step := pst i xs[i] ys[i] σ3 H3 h1.objs.size s3.heap.objs.size hx hy p3 (I3.hok.fresh (by rw [hsz1]; exact Nat.le_succ _)) (I3.hok.fresh (Nat.le_refl _)) (by rw [hsz1]; exact Nat.succ_ne_self _)
    have I5' := J2.pinned (stat fr5) st5.obj
    refine wpAny_passesOwn hp (thn (hg.run _ _ σ3 _ (V.ref h1.objs.size) _ _ I5' rfl step) fun _ s6 ⟨σ6, H6, I6, q6⟩ => ?_)
    refine wpAny_passesOwn hp (thn (hb.run _ s6 σ6 H6 _ I6 q6) fun f s7 q7 => ?_)
    have again : ∀ {σ7 : L2.St} {H7 : Hp}, Inv X (pins ++ pinsAt [e, z, TI, TO, i1, i2] h3) σ7 H7 s7 → (Pv (i + 1) σ7 H7 ∧ TKeep (upd H3 s3.heap.objs.size (.tup [xs[i], ys[i]])) H7) → ∃ m, m < n ∧ ∃ i o σ' H', Inv X pins σ' H' s7 ∧ EZ s7.heap e z TI TO i1 i2 a b i o ∧ (∀ c ∈ [e, z, TI, TO, i1, i2], H' c = none) ∧ (∀ T, o = some T → ∃ p q, H' T = some (.tup [p, q])) ∧ m = min xs.length ys.length - i ∧ i ≤ min xs.length ys.length ∧ Pv i σ' H' := fun {σ7 H7} I7 n7 => by
      refine ⟨min xs.length ys.length - (i + 1), by omega, i + 1, o', σ7, H7, I7.unpinned, st5.keep fun c hc ob q => (I7.pin (c, ob) (List.mem_append_right _ (List.mem_append_right _ (mem_pinsAt hc q)))).1, fun c hc => ?_, fun T q => ?_, rfl, hlt, n7.1⟩
      · obtain ⟨ob, q, d⟩ := st5.obj c hc
        exact (I7.pin (c, ob) (List.mem_append_right _ (List.mem_append_right _ (mem_pinsAt hc q)))).2.1
      · rcases ho' T q with q | q
        · subst q
          exact ⟨_, _, n7.2 _ _ _ upd_same⟩
        · obtain ⟨p, q', hT⟩ := ht3 T q
          refine ⟨p, q', n7.2 _ _ _ ?_⟩
          rw [upd_ne (ne_of_none hT (I3.hok.fresh (Nat.le_refl _)))]
          exact hT
    cases f with
    | next => obtain ⟨σ7, H7, I7, n7⟩ := q7; exact again I7 n7
    | cont => obtain ⟨σ7, H7, I7, n7⟩ := q7; exact again I7 n7
    | brk => obtain ⟨σ7, H7, I7, q7⟩ := q7; exact ⟨σ7, H7, I7.unpinned, q7⟩
    | ret v => obtain ⟨x7, σ7, H7, I7, r7, q7⟩ := q7; exact ⟨x7, σ7, H7, I7.unpinned, r7, q7⟩
  · have ei : i = min xs.length ys.length := by omega
    subst ei
    have hend : its.toArray[min xs.length ys.length]? = none ∨ its2.toArray[min xs.length ys.length]? = none := by
      by_cases hm : xs.length ≤ ys.length
      · exact .inl (by simp; omega)
      · exact .inr (by simp; omega)
    have fin : ∀ h', (∀ c o, c ∉ [z, TI, TO, i1, i2] → s3.heap.get? c = some o → h'.get? c = some o) → Inv X pins σ3 H3 { s3 with heap := h' } := fun h' k =>
      I3.turnedL (t' := s3.toks) (ch := [z, TI, TO, i1, i2]) k fun c hc => sf3 c (List.mem_cons_of_mem _ hc)
    refine wpAny_passesOwn hp (enum_end_of he3 ?_)
    cases o with
    | none =>
      refine wpAny_mono (nextOf_zip (Q := fun _ _ => False) hz3 (zip_next_end hh2 ap.za hz3 hTI3 hTO3 h13 h23 px.isList py.isList hend fun h' x k hx => ?_)) (fun _ _ q => q) fun _ _ q => q
      obtain ⟨ox, h1, h2⟩ := hx
      exact ⟨x, ox, rfl, h1, h2, wpAny_execs_nil ⟨σ3, H3, fin h' fun c ob hcn q => k c ob (fun z => hcn (by simp [z])) (fun z => hcn (by simp [z])) (fun z => hcn (by simp [z])) (fun z => hcn (by simp [z])) q, pd σ3 H3 p3⟩⟩
    | some T =>
      obtain ⟨f, hz3⟩ := hz3
      obtain ⟨oT, hoT⟩ := heap_T T rfl
      refine wpAny_mono (nextOf_zip (Q := fun _ _ => False) hz3 (zip_next_end_held hh2 ap.za hz3 hoT hTI3 h13 h23 px.isList py.isList hend fun h' x k hx => ?_)) (fun _ _ q => q) fun _ _ q => q
      obtain ⟨ox, h1, h2⟩ := hx
      exact ⟨x, ox, rfl, h1, h2, wpAny_execs_nil ⟨σ3, H3, fin h' fun c ob hcn q => k c ob (fun z => hcn (by simp [z])) (fun z => hcn (by simp [z])) (fun z => hcn (by simp [z])) q, pd σ3 H3 p3⟩⟩
end
end Ask

namespace Ask
open PySem PySem.Spec PyProof.Rows L2

/-! ### sets of texts: no more than that they are, and how many at most -/
def GoodS (w : World) (e : Int × Value) : Prop := ∃ k tk, e.2 = Value.str k tk ∧ e.1 = hashStr w k
/-- a set of texts at a, at most n of them -/
def SetS (w : World) (h : Heap) (a : Addr) (n : Nat) : Prop :=
  ∃ o es ep t, h.get? a = some o ∧ o.ExactSet ∧ o.data = .set es ep t ∧ (∀ e ∈ es.toList, GoodS w e) ∧ es.size < scanBound ∧ t.fits es.size = true ∧ es.size ≤ n ∧ Ris t.place.toList ∧ (w.params.followText "set-order" = true ∨ t.led = true)
section
variable {P : Program} {w : World} {h h' : Heap} {a : Addr} {n : Nat}
theorem SetS.at (R : SetS w h a n) (k : ∀ o, h.get? a = some o → h'.get? a = some o) : SetS w h' a n := by
  obtain ⟨o, es, ep, t, ho, r⟩ := R
  exact ⟨o, es, ep, t, k o ho, r⟩
theorem goodS_elems {l : List (Int × Value)} (g : ∀ e ∈ l, GoodS w e) : ElemsOf (strKind P w) l := fun e he => by
  obtain ⟨k, tk, h1, h2⟩ := g e he
  exact ⟨⟨k, by rw [h1]; exact PySem.Froz.is_str k tk, h2⟩, by rw [h1] <;> rfl⟩
end
section
variable {P : Program} {w : World} {A : Around} {E : Value → Shared → Prop} {s : Shared} {a : Addr} {n : Nat}
theorem storeS_at {h : Heap} {a : Addr} {o : Obj} {es es' : Array (Int × Value)} {ep : Nat} {t t' : SetTable} (ho : h.get? a = some o) (hd : o.data = .set es ep t) :
    (h.update a (Obj.putSet es' t')).get? a = some { o with data := .set es' (ep + 1) t' } := by
  have q := Heap.get?_update_self (Obj.putSet es' t') ho (by rw [putSet_of es' t' hd]; rfl)
  rw [putSet_of es' t' hd] at q
  exact q
theorem setS_tail {g : Bool → Sem Unit} (hg : ∀ (b : Bool) (s₁ : Shared) (Q' : Unit → Shared → Prop), Q' () s₁ → wpAny (model P w) A (g b) Q' E s₁)
    {o : Obj} {es : Array (Int × Value)} {ep : Nat} {t : SetTable} (ho : s.heap.get? a = some o) (hex : o.ExactSet) (hd : o.data = .set es ep t)
    {es1 : Array (Int × Value)} {t2 : SetTable} (g1 : ∀ e ∈ es1.toList, GoodS w e) (hn1 : es1.size ≤ n)
    (hb1 : es1.size < scanBound) (hf2 : t2.fits es1.size = true) (hr : Ris t2.place.toList) (hl : w.params.followText "set-order" = true ∨ t2.led = true) {wasDummy : Bool} {R : Option Bool → Shared → Prop}
    (hR : ∀ h', Heap.SameBut a s.heap h' → SetS w h' a n → R (some true) { s with heap := h' }) :
    wpAny (model P w) A (do
        storeSet a es1 t2
        if (!wasDummy && t2.tooFull) = true then do
            g (relayAll t2 es1 (SetTable.grown es1.size)).2.2
            storeSet a (relayAll t2 es1 (SetTable.grown es1.size)).1 (relayAll t2 es1 (SetTable.grown es1.size)).2.1
            pure (some true)
          else pure (some true)) R E s := by
  refine wpAny_bind (wpAny_storeSet_of ho hd ?_ (fits_of_scanBound hb1))
  have ho1 := storeS_at (es' := es1) (t' := t2) ho hd
  have sb1 := Heap.SameBut.update s.heap a (Obj.putSet es1 t2)
  split
  · have pm := relayAll_perm t2 es1 (SetTable.grown es1.size)
    have hf3 := relayAll_fits t2 es1 (SetTable.grown es1.size)
    have hr3 := relayAll_ris t2 es1 (SetTable.grown es1.size)
    have hl3 := relayAll_led t2 es1 (SetTable.grown es1.size)
    generalize relayAll t2 es1 (SetTable.grown es1.size) = Z at pm hf3 hr3 hl3 ⊢
    obtain ⟨es2, t3, gave⟩ := Z
    dsimp only at pm hf3 hr3 hl3 ⊢
    have hsz : es2.size = es1.size := by rw [← Array.length_toList, pm.length_eq, Array.length_toList]
    have hb2 : es2.size < scanBound := by rw [hsz]; exact hb1
    refine wpAny_bind (hg _ _ _ ?_)
    refine wpAny_bind (wpAny_storeSet_of ho1 rfl ?_ (fits_of_scanBound hb2))
    have ho2 := storeS_at (es' := es2) (t' := t3) ho1 rfl
    refine wpAny_pure (hR _ (sb1.trans (Heap.SameBut.update _ a _)) ?_)
    exact ⟨_, es2, _, t3, ho2, hex, rfl, fun e he => g1 e (pm.mem_iff.mp he), hb2, hf3, by rw [hsz]; exact hn1, hr3, hl.imp id fun z => by rw [hl3]; exact z⟩
  · exact wpAny_pure (hR _ sb1 ⟨_, es1, _, t2, ho1, hex, rfl, g1, hb1, hf2, hn1, hr, hl⟩)
theorem setS_add_hashed {k : Str} {u : Tok} {Q : Bool → Shared → Prop} (R : SetS w s.heap a n) (room : n + 1 < scanBound)
    (hQ : ∀ h' b, Heap.SameBut a s.heap h' → SetS w h' a (n + 1) → Q b { s with heap := h' }) :
    wpAny (model P w) A (setAddHashed a (.str k u) (hashStr w k)) Q E s := by
  obtain ⟨o, es, ep, t, ho, hex, hd, g, hb, hf, hn, hr, hl⟩ := R
  have hkey : (strKind P w).is k (.str k u) = true := PySem.Froz.is_str k u
  have hsc : (Value.str k u).scannable = true := rfl
  have hel : ElemsOf (strKind P w) es.toList := goodS_elems g
  unfold setAddHashed setAddHashedIn
  refine wpAny_holding (wpAny_bind (wpAny_setState_of ho hd hf ?_))
  dsimp only
  rw [byScan_of hsc hb hel]
  simp only [↓reduceIte]
  unfold setAddByScan
  refine wpAny_bind ?_
  refine wpAny_bind (wpAny_rule ?_)
  refine wpAny_bind (wpAny_setScan_of (knd := strKind P w) (k := k) hkey ho hd hf hel ?_)
  cases hfi : List.findIdx? (fun e => (strKind P w).is k e.2) es.toList with
  | some j =>
    dsimp only
    exact wpAny_pure (wpAny_pure (hQ s.heap false (Heap.SameBut.refl a s.heap) ⟨o, es, ep, t, ho, hex, hd, g, hb, hf, by omega, hr, hl⟩))
  | none =>
    dsimp only
    have hgw : ∀ (b : Bool) {s₁ : Shared} {Q' : Unit → Shared → Prop}, Q' () s₁ → wpAny (model P w) A (match b with | true => rule "set.scan.the-table-gave-way" | false => pure ()) Q' E s₁ :=
      fun b s₁ Q' q => by cases b <;> first | exact wpAny_pure q | exact wpAny_rule q
    have pm := layNew_perm t es (hashStr w k) (.str k u)
    have hf1 := layNew_fits t es (hashStr w k) (.str k u)
    have hr1 := layNew_ris t es (hashStr w k) (.str k u) hr
    have hl1 := layNew_led t es (hashStr w k) (.str k u)
    generalize layNew t es (hashStr w k) (.str k u) = Z at pm hf1 hr1 hl1 ⊢
    obtain ⟨es1, t1, wasDummy, gave⟩ := Z
    dsimp only at pm hf1 hr1 hl1 ⊢
    rw [Array.toList_push] at pm
    have pc : es1.toList.Perm ((hashStr w k, Value.str k u) :: es.toList) := pm.trans (List.perm_append_singleton _ _)
    have g1 : ∀ e ∈ es1.toList, GoodS w e := fun e he => by
      rcases List.mem_cons.mp (pc.mem_iff.mp he) with z | z
      · rw [z]; exact ⟨k, u, rfl, rfl⟩
      · exact g e z
    have hsz : es1.size = es.size + 1 := by rw [← Array.length_toList, pc.length_eq, List.length_cons, Array.length_toList]
    have hb1 : es1.size < scanBound := by omega
    have hn1 : es1.size ≤ n + 1 := by omega
    have hled : w.params.followText "set-order" = true ∨ t1.led = true := hl.imp id fun z => by rw [hl1]; exact z
    refine wpAny_bind (hgw _ ?_)
    split
    · refine wpAny_bind ?_
      rw [hashByValue_scannable 8 hsc]
      refine wpAny_pure ?_
      refine setS_tail ?_ ho hex hd g1 hn1 hb1 ?_ ?_ ?_ ?_
      · intro b s₁ Q' q; cases b <;> first | exact wpAny_pure q | exact wpAny_rule q
      · first | (split <;> first | exact hf1 | exact SetTable.fits_plain_off hf1) | exact hf1
      · first | (split <;> exact hr1) | exact hr1
      · first | (split <;> exact hled) | exact hled
      · intro h' sb r; dsimp only; exact wpAny_pure (hQ h' true sb r)
    · refine wpAny_bind (wpAny_pure ?_)
      simp only [↓reduceIte]
      refine setS_tail ?_ ho hex hd g1 hn1 hb1 hf1 hr1 hled ?_
      · intro b s₁ Q' q; cases b <;> first | exact wpAny_pure q | exact wpAny_rule q
      · intro h' sb r; dsimp only; exact wpAny_pure (hQ h' true sb r)
/-- found.add(k) -/
theorem setS_add {k : Str} {u : Tok} {Q : Value → Shared → Prop} (R : SetS w s.heap a n) (room : n + 1 < scanBound)
    (hQ : ∀ h', Heap.SameBut a s.heap h' → SetS w h' a (n + 1) → Q .none { s with heap := h', toks := s.toks + 1 }) :
    wpAny (model P w) A (call (.builtin "set.add") [.ref a, .str k u]) Q E s := by
  have hT : s.TypeIs (.ref a) "set" := by
    obtain ⟨o, es, ep, t, ho, hex, _⟩ := R
    exact ⟨o, ho, hex.1⟩
  refine wpAny_call_entry F.slot_set_add hT F.entry_set_add ?_ (F.args_set_add_2 _ _)
  unfold Builtin.«set.add» Builtin.Frozenset.oneOther
  simp only [List.isEmpty_nil, bind_assoc]
  unfold Builtin.Frozenset.addrOf setAdd
  refine wpAny_bind (wpAny_pure ?_)
  try dsimp only
  refine wpAny_bind (wpAny_pure ?_)
  try dsimp only
  refine wpAny_bind ?_
  refine wpAny_holding ?_
  refine wpAny_bind ((strKind P w).pyHash (k := k) (PySem.Froz.is_str k u) ?_)
  refine setS_add_hashed (s := { s with toks := s.toks + 1 }) R room fun h' b sb r => ?_
  show wpAny _ _ (ret Value.none) _ _ _
  exact wpAny_pure ⟨_, rfl, hQ h' sb r⟩
theorem setS_fresh {h : Heap} (w : World) : SetS w (h.push { cls := .type "set", dict := none, data := .set #[] 0 (.fresh 0 0 (!w.params.followText "set-order")) }) h.objs.size 0 :=
  ⟨_, #[], 0, _, Heap.get?_push_size _ rfl, ⟨rfl, rfl, rfl⟩, rfl, (fun e he => by simp at he), (by decide), (by rfl), Nat.le_refl _, List.Pairwise.nil, by
    show _ ∨ (!w.params.followText "set-order") = true
    cases w.params.followText "set-order"
    · exact .inr rfl
    · exact .inl rfl⟩
end

/-! ### as tracked things -/
def SetSO (w : World) (a : Addr) (n : Nat) : HO := .ext fun h => SetS w h a n
theorem setSO_new {w : World} {P : Program} {H : Hp} {h : Heap} {a : Addr} {n : Nat} (R : SetS w h a n) : ObjOk P w H h a (SetSO w a n) := by
  have ⟨o, _, _, _, ho, _⟩ := R
  exact ⟨R, ⟨o, ho⟩, fun h1 h2 p k => SetS.at p k⟩
section
variable {X : Cx}
theorem setSO_get {pins : List (Addr × Obj)} {σ : L2.St} {H : Hp} {s : Shared} {a : Addr} {n : Nat} (I : Inv X pins σ H s) (ha : H a = some (SetSO X.w a n)) : SetS X.w s.heap a n := (I.hok a _ ha).1
theorem addS_ok {pins : List (Addr × Obj)} {σ : L2.St} {H : Hp} {s : Shared} {E : Value → Shared → Prop} {D : Addr} {n : Nat} {k : Str} {u : Tok} {Q : Value → Shared → Prop} (I : Inv X pins σ H s) (hD : H D = some (SetSO X.w D n)) (room : n + 1 < scanBound)
    (h : ∀ s', Inv X pins σ (upd H D (SetSO X.w D (n + 1))) s' → Q .none s') : wpAny (model X.prog X.w) X.A (call (.builtin "set.add") [.ref D, .str k u]) Q E s := by
  have R := setSO_get I hD
  refine setS_add R room fun h' sb new => ?_
  have he : ∃ u, h'.get? D = some u := by
    have ⟨o, _, _, _, ho, _⟩ := new
    exact ⟨o, ho⟩
  exact h _ (I.write (e := D) (t' := s.toks + 1) (by rw [hD]; trivial) (.inl rfl) (fun b u hb hu => (sb.2 b hb).trans hu) he (setSO_new new))
/-- {elt for target in iter if ..}, elt a text: D the new set -/
def tScS (w : World) (wi : TI) (g : TG) (tt : TT) (te : TE) (vs : List Nat) : TE := fun σ H Q => wi σ H fun J H1 => ∀ D, H1 D = none → ∃ W : Nat → Nat → Hp → Prop, (∃ m, W 0 m (upd H1 D (SetSO w D 0))) ∧ ∀ i m H, W i m H →
  (J.stop i H ∧ Q (.ref D) H) ∨ (J.go i H ∧ ∃ Nx : Hp → Prop, (∀ H', Nx H' → ∃ m', m' < m ∧ W (i + 1) m' H') ∧ ∀ x H', J.yld i H x H' → g x (wipe σ vs) H' fun σ2 H2 => wipe σ2 vs = wipe σ vs ∧ tt σ2 H2 fun b H3 =>
    if b = true then te σ2 H3 fun y H4 => ∃ (c : Str) (n : Nat), y = .str c ∧ H4 D = some (SetSO w D n) ∧ n + 1 < scanBound ∧ Nx (upd H4 D (SetSO w D (n + 1))) else Nx H3)
theorem pe_scS {elt tg iter : Expr} {ifs : List Expr} {scope : Scope} {own : List (PySem.Str × Nat)} {pos : Pos} {wi : TI} {g : TG} {tt : TT} {te : TE} (hc : X.calm = true) (hN : X.N.Nodup) (hi : PI X tg iter wi) (ok : BlkOk X.N X.env.scope scope own)
    (hg : ∀ (s : Shared) (H : Hp) (C : Addr) (cl : List (PySem.Str × Addr)) (fp : List Addr), PG (X.blk s H scope (compEnvC scope cl C X.env) fp) tg g) (ht : ∀ (s : Shared) (H : Hp) (C : Addr) (cl : List (PySem.Str × Addr)) (fp : List Addr), PTs (X.blk s H scope (compEnvC scope cl C X.env) fp) ifs tt)
    (he : ∀ (s : Shared) (H : Hp) (C : Addr) (cl : List (PySem.Str × Addr)) (fp : List Addr), PE (X.blk s H scope (compEnvC scope cl C X.env) fp) elt te) (hs : ∀ x, foldedSetIterable iter X.env x = pure x := by intro _; rfl) :
    PE X (.SetComp elt [⟨tg, iter, ifs, 0⟩] scope pos) (tScS X.w wi g tt te (own.map (·.2))) := by
  refine ⟨fun pins s σ H Q I h => ?_⟩
  rw [PpSet.eval_SetComp]
  have hfree : ∀ y ∈ scope.names, y.2 = .free → ∃ c, X.env.cells.lookup y.1 = some c := fun y hy e => by
    rcases ok.free y hy e with k | k
    · exact I.ok.has _ (.inl k)
    · exact I.ok.has _ (.inr k)
  refine wpAny_comprehension_free (use := none) rfl hs (closure_ok hfree) ok.kind (fun y hy e => by rw [ok.uniq y hy, e])
    (thn (hi.run pins s σ H _ I h) fun xv s1 hx => thn hx fun itv s2 h2 => ?_)
  obtain ⟨it, fp, tn, J, H2, e, I2, T, st2, f2, q⟩ := h2
  subst e
  refine PpSet.newSet_ok (newEnv_comp ?_)
  generalize hD : s2.heap.objs.size = D
  have hDn : H2 D = none := I2.hok.fresh (Nat.le_of_eq hD)
  obtain ⟨W, ⟨m0, w0⟩, turn⟩ := q D hDn
  generalize hs3 : ({ s2 with heap := s2.heap.push { cls := .type "set", dict := none, data := .set #[] 0 (.fresh 0 0 (!X.w.params.followText "set-order")) } } : Shared) = s3
  have I3 : Inv X pins σ (upd H2 D (SetSO X.w D 0)) s3 := by
    rw [← hs3]
    refine I2.laid (t' := s2.toks) (fun b o e => Heap.get?_push_of_some _ e) (Nat.le_of_eq hD) ?_
    rw [← hD]
    exact setSO_new (setS_fresh X.w)
  have h3 : s3.heap = s2.heap.push { cls := .type "set", dict := none, data := .set #[] 0 (.fresh 0 0 (!X.w.params.followText "set-order")) } := by rw [← hs3]
  have sz : ∀ b ∈ fp, b < s2.heap.objs.size := fun b hb => by
    obtain ⟨o, e, _⟩ := T.obj _ _ st2 b hb
    exact Heap.lt_size e
  have f3 : ∀ b ∈ fp, FpOk X pins (upd H2 D (SetSO X.w D 0)) b ∧ b < s3.heap.objs.size := fun b hb => by
    have hlt := sz b hb
    refine ⟨⟨?_, (f2 b hb).2⟩, by rw [h3, Heap.size_push]; exact Nat.lt_succ_of_lt hlt⟩
    rw [upd_ne (by rw [← hD]; exact Nat.ne_of_lt hlt)]
    exact (f2 b hb).1
  have st3 : tn 0 s3.heap := T.keep _ _ _ st2 fun b _ o e => by rw [h3]; exact Heap.get?_push_of_some _ e
  have I4 := block_start I3 ok hN f3
  have pg := hg s3 (upd H2 D (SetSO X.w D 0)) s3.heap.objs.size (cellsFrom (s3.heap.objs.size + 1) scope.names (cloFrom X.env.cells scope.names [])) fp
  have pt := ht s3 (upd H2 D (SetSO X.w D 0)) s3.heap.objs.size (cellsFrom (s3.heap.objs.size + 1) scope.names (cloFrom X.env.cells scope.names [])) fp
  have pe := he s3 (upd H2 D (SetSO X.w D 0)) s3.heap.objs.size (cellsFrom (s3.heap.objs.size + 1) scope.names (cloFrom X.env.cells scope.names [])) fp
  show codeAny _ _ (.compStart (.SetComp elt [⟨tg, iter, ifs, 0⟩] scope pos) 0 (.ref it) (.ref D) (compEnvC scope (cellsFrom (s3.heap.objs.size + 1) scope.names (cloFrom X.env.cells scope.names [])) s3.heap.objs.size X.env)) (compPost (model X.prog X.w) X.A X.xe none (EP X pins σ Q) (.ref D) s3.heap.objs.size) { s3 with heap := pushCells (s3.heap.push { cls := .type "dict", data := .dict #[] }) scope.names }
  have nfp : ∀ b ∈ fp, (upd H2 D (SetSO X.w D 0)) b = none := fun b hb => (f3 b hb).1.1
  generalize hce : compEnvC scope (cellsFrom (s3.heap.objs.size + 1) scope.names (cloFrom X.env.cells scope.names [])) s3.heap.objs.size X.env = ce at I4 pg pt pe ⊢
  have cL : ce.locals = s3.heap.objs.size := by subst hce; rfl
  generalize hH3 : upd H2 D (SetSO X.w D 0) = H3 at I3 I4 pg pt pe w0 nfp f3
  generalize hs4 : ({ s3 with heap := pushCells (s3.heap.push { cls := .type "dict", data := .dict #[] }) scope.names } : Shared) = s4 at I4 ⊢
  have st4 : tn 0 s4.heap := T.keep _ _ _ st3 fun b _ o e => by rw [← hs4]; exact pushCells_keeps _ _ _ _ (Heap.get?_push_of_some _ e)
  have stat : ∀ {σ' : L2.St} {H' : Hp} {s' : Shared}, Inv (X.blk s3 H3 scope ce fp) [] σ' H' s' → (∀ b ∈ fp, H' b = none) → ∀ b ∈ fp, FpOk (X.blk s3 H3 scope ce fp) [] H' b := fun {σ' H' s'} I' hn b hb =>
    ⟨hn b hb, (I'.ok.exf b hb).1, I'.ok.exfs b hb, .inl hb, fun x c e => (I'.ok.exf b hb).2 x c e, fun p hp => absurd (show p ∈ ([] : List (Addr × Obj)) ++ [] from hp) (by simp)⟩
  have loop : codeAny (model X.prog X.w) X.A (.compLoop (.SetComp elt [⟨tg, iter, ifs, 0⟩] scope pos) 0 (.ref it) (.ref D) ce) (compPost (model X.prog X.w) X.A X.xe none (EP X pins σ Q) (.ref D) s3.heap.objs.size) s4 := by
    refine PpSet.compLoopS_any (fun n s' => ∃ i H', Inv (X.blk s3 H3 scope ce fp) [] (wipe σ (own.map (·.2))) H' s' ∧ tn i s'.heap ∧ (∀ b ∈ fp, H' b = none) ∧ W i n H') ?_ m0 ⟨0, H3, I4, st4, nfp, w0⟩
    rintro n s5 ⟨i, H5, I5, st5, n5, w5⟩
    rcases turn i n H5 w5 with ⟨stop, qq⟩ | ⟨go, Nx, hNx, step⟩
    · have td := T.done (X.blk s3 H3 scope ce fp) rfl rfl rfl hc i [] s5 _ H5 (fun _ _ => False) I5 (stat I5 n5) st5 stop
      refine thnF td fun r s6 ⟨hr, I6⟩ => ?_
      subst hr
      have I7 : Inv X pins σ H5 s6 := I3.call' (ch := fp) I6.os I6.base I6.hok I6.bare fun b hb => ⟨(f3 b hb).1.2.2.2.1, (f3 b hb).1.2.1, (f3 b hb).1.2.2.2.2.1, (f3 b hb).1.2.2.2.2.2⟩
      have nC : H5 s3.heap.objs.size = none := by
        have z : H5 ce.locals = none := I6.free
        rw [cL] at z
        exact z
      obtain ⟨m, hn, _⟩ := I6.loc
      have hn : s6.heap.Ns ce.locals m := hn
      rw [cL] at hn
      obtain ⟨f0, f1, f2', f3', f4', f5'⟩ := I3.fpOk (H' := H5) (Nat.le_refl _) nC
      exact ⟨m, hn, fun h'' sb => ⟨.ref D, H5, I7.turned (t' := s6.toks) (fun b o hb e => (sb.2 b hb).trans e) f0 f1 f3' f4' f5', rfl, qq⟩⟩
    · have ti := T.item (X.blk s3 H3 scope ce fp) rfl rfl rfl hc i [] s5 _ H5 (fun _ _ => False) I5 (stat I5 n5) st5 go
      refine thnF ti fun r s6 ⟨u, hr, h6⟩ => ?_
      subst hr
      refine thnF h6 fun _ s7 ⟨x, H7, I7, r7, y7, st7, n7⟩ => ?_
      have I7' := I7.pinned (stat I7 n7) (T.obj _ _ st7)
      refine thnF (pg.run _ s7 _ H7 x u _ I7' r7 (step x H7 y7)) fun _ s8 ⟨σ8, H8, I8, hw8, q8⟩ => ?_
      refine thnF (pt.run _ s8 σ8 H8 _ I8 q8) fun b s9 ⟨H9, I9, q9⟩ => ?_
      have fin : ∀ {s' : Shared} {H' : Hp}, Inv (X.blk s3 H3 scope ce fp) ([] ++ pinsAt fp s7.heap) σ8 H' s' → Nx H' → ∃ m, m < n ∧ ∃ i H', Inv (X.blk s3 H3 scope ce fp) [] (wipe σ (own.map (·.2))) H' s' ∧ tn i s'.heap ∧ (∀ b ∈ fp, H' b = none) ∧ W i m H' := fun {s' H'} I' nx => by
        obtain ⟨m', hm, w'⟩ := hNx H' nx
        have pin' : ∀ b ∈ fp, ∀ o, s7.heap.get? b = some o → s'.heap.get? b = some o ∧ H' b = none := fun b hb o e =>
          let z := I'.pin (b, o) (List.mem_append_right _ (List.mem_append_right _ (mem_pinsAt hb e)))
          ⟨z.1, z.2.1⟩
        have hl : (wipe σ (own.map (·.2))).length = σ8.length := by rw [← hw8, wipe_length]
        refine ⟨m', hm, i + 1, H', (I'.unpinned (pins := [])).weak hl (fun j v e => ?_), T.keep _ _ _ st7 fun b hb o e => (pin' b hb o e).1, fun b hb => ?_, w'⟩
        · rw [← hw8] at e
          exact (wipe_some e).1
        · obtain ⟨o, e, _⟩ := T.obj _ _ st7 b hb
          exact (pin' b hb o e).2
      cases b with
      | false =>
        simp only [Bool.false_eq_true, if_false] at q9 ⊢
        exact fin I9 q9
      | true =>
        simp only [if_true] at q9 ⊢
        refine thnF (pe.run _ s9 σ8 H9 _ I9 q9) fun z s10 ⟨yv, H10, I10, r10, cb, n0, ey, hD10, hz10, nx⟩ => ?_
        subst ey
        obtain ⟨tk, rfl⟩ : ∃ tk, z = Value.str cb tk := r10
        exact addS_ok (X := X.blk s3 H3 scope ce fp) I10 hD10 hz10 fun s11 I11 => fin I11 nx
  exact PpSet.codeAny_compStart_set loop (T.self X.A 0 _ _ _ st4 loop)
end

/-! ### sorted(set of texts): a new list of texts -/
section
variable {X : Cx}
theorem goodS_out {w : World} {es : Array (Int × Value)} {vs : List Value} (g : ∀ e ∈ es.toList, GoodS w e) (pm : vs.Perm (es.toList.map (·.2))) : ∀ v ∈ vs, ∃ k tk, v = Value.str k tk := fun v hv => by
  obtain ⟨e, he, q⟩ := List.mem_map.mp (pm.mem_iff.mp hv)
  obtain ⟨k, tk, h1, _⟩ := g e he
  exact ⟨k, tk, by rw [← q]; exact h1⟩
theorem texts_of : ∀ (vs : List Value), (∀ v ∈ vs, ∃ k tk, v = Value.str k tk) → ∃ ks : List Str, PySem.W.EachIs (fun v k => RelV (.str k) v) vs ks
  | [], _ => ⟨[], .nil⟩
  | v :: vs, h => by
    obtain ⟨k, tk, e⟩ := h v List.mem_cons_self
    obtain ⟨ks, q⟩ := texts_of vs fun u hu => h u (List.mem_cons_of_mem _ hu)
    exact ⟨k :: ks, .cons ⟨tk, e⟩ q⟩
theorem vals_texts : ∀ {vs : List Value} {ks : List Str}, PySem.W.EachIs (fun v k => RelV (.str k) v) vs ks → Vals (ks.map V.str) vs
  | _, _, .nil => .nil
  | _, _, .cons h t => .cons h (vals_texts t)
theorem reads_texts {h : Heap} {a : Addr} : ∀ {vs : List Value} {ks : List Str}, PySem.W.EachIs (fun v k => RelV (.str k) v) vs ks → PySem.W.EachIs (fun v (k : Str) => ∃ as, Reads h v (.str k) as ∧ a ∉ as) vs ks
  | _, _, .nil => .nil
  | _, _, .cons ⟨tk, e⟩ t => .cons ⟨[], by rw [e]; exact .str _ _, by simp⟩ (reads_texts t)
def rSortS (w : World) : List V → Hp → VK → Prop := fun xs H Q => ∃ a n, xs = [.ref a] ∧ H a = some (SetSO w a n) ∧ ∀ p (ks : List Str), ks.length ≤ n → H p = none → Q (.ref p) (upd H p (.lst (ks.map V.str)))
theorem call_sortS (hc : X.calm = true) (hu : X.A.units + 64 < cLine) : CallR X (.builtin "sorted") (rSortS X.w) := by
  intro pins s σ H xs us Q I r h
  obtain ⟨a, n, rfl, ha, q⟩ := h
  obtain rfl := Vals.ref1 r
  obtain ⟨o, es, ep, t, ho, hex, hd, g, hb, hf, hn, hr, hl⟩ := setSO_get I ha
  refine Calls.call_function_entry PyProof.Rows.kind_sorted PyProof.Rows.plain_sorted PyProof.Rows.entry_sorted (PyProof.Rows.args_sorted1 _) ?_
  unfold Builtin.«sorted»
  refine wpAny_bind (m := checkCount "sorted" 1 1 _) (wpAny_pure ?_)
  refine wpAny_bind (collect_set (A := X.A.in1) (I.ok.hd hc) ⟨o, ho, hex.1, hd⟩ hf hb hr hl fun s1 vs k1 hz g1 o1 pm => ?_)
  have hvl : vs.length = es.size := by rw [pm.length_eq, List.length_map, Array.length_toList]
  have hvs : vs.length ≤ sizeLine := by rw [hvl]; exact fits_of_scanBound hb
  obtain ⟨ks, hks⟩ := texts_of vs (goodS_out g pm)
  have I1 : Inv X pins σ H s1 := I.call' (ch := []) o1 (Un.kept k1) (I.hok.kept k1) (by rw [g1]; exact I.bare) (fun _ z => nomatch z)
  refine wpAny_bind (wpAny_newList ?_ hvs)
  have hoL : (s1.heap.push (seqObj "list" vs.toArray 0)).get? s1.heap.objs.size = some (seqObj "list" vs.toArray 0) := Heap.get?_push_size _ rfl
  refine wpAny_bind (wpAny_holding ?_)
  refine PySem.W.list_sort_data (R := fun v k => RelV (.str k) v) (enc := fun k : Str => PyData.str k) (bs := ks) (s := { s1 with heap := s1.heap.push (seqObj "list" vs.toArray 0) }) hoL hks (reads_texts hks) (PySem.W.AllAlike.of fun b b' => by simp [PySem.W.alike]) (PySem.W.Sortable.others fun b => ⟨(fun z => nomatch z), fun xs z => nomatch z⟩) (by rw [← hks.length]; exact hvs) (fun b _ => by
    show X.A.in1.units + 1 + 0 < cLine
    have : X.A.in1.units = X.A.units + 1 := rfl
    omega) fun out hol he => ?_
  obtain ⟨c, hcx⟩ := PyProof.Rows.sortedHeap_at (vs := vs) (out := out.toArray) hoL
  have rr := vals_texts he
  refine wpAny_pure ⟨_, rfl, .ref s1.heap.objs.size, upd H s1.heap.objs.size (.lst _), I1.laid (t' := s1.toks) (fun b u e => ?_) (Nat.le_refl _) ⟨?_, out, c, rr, hcx⟩, rfl, q _ _ ?_ (I1.hok.fresh (Nat.le_refl _))⟩
  · have hb : b < s1.heap.objs.size := Heap.lt_size e
    rw [PyProof.Rows.sortedHeap_old (Nat.ne_of_lt hb) (by rw [size_push']; exact Nat.lt_succ_of_lt hb)]
    exact Heap.get?_push_of_some _ e
  · rw [List.length_map, List.length_mergeSort, ← hks.length]; exact hvs
  · rw [List.length_mergeSort, ← hks.length, hvl]; exact hn
end
end Ask

namespace Ask
open PySem PySem.Spec PyProof.Rows L2
open AutoSeq1 (wpAny_loadPart')

/-! ### enumerate over a tuple -/
theorem meets_enum_tup (l : Addr) (items : Array Value) (n : Nat) (dct : Option Addr) (sl : Array (Option Value)) :
    Meets (Builtin.«enumerate.__new__» ⟨[.type "enumerate", .ref l], []⟩) (fun _ R s => s.heap.get? l = some { cls := .type "tuple", dict := dct, data := .seq items n, slots := sl } ∧
      R (.ok (.ret (.ref (s.heap.push { cls := .type "tuple_iterator", data := .fields #[.ref l, .int 0 0] }).objs.size)))
        { s with heap := (s.heap.push { cls := .type "tuple_iterator", data := .fields #[.ref l, .int 0 0] }).push { cls := .type "enumerate", data := .fields #[.none, .bool false, .ref s.heap.objs.size, rawInt 0, .none, .none] } }) :=
  .of_wp fun prog w A R s h => by
    obtain ⟨hp, g, d, tk, os⟩ := s; obtain ⟨hl, h⟩ := h
    have hsub := sub_enumerate
    have hL : Heap.IsTuple (Shared.heap ⟨hp, g, d, tk, os⟩) l items := ⟨_, hl, rfl, n, rfl⟩
    wp_walk using wpAny_loadPart' hl
    refine wpAny_stack_any fun st => wpAny_pure ?_
    split
    · rename_i c _ _ _ _ _
      cases (c == Value.type "enumerate")
      · wp_walk using wpAny_loadPart' hl, wpAny_pyIter_tuple hL
        exact ⟨_, rfl, h⟩
      · wp_walk using wpAny_loadPart' hl, wpAny_pyIter_tuple hL
        exact ⟨_, rfl, h⟩
    · wp_walk using wpAny_loadPart' hl, wpAny_pyIter_tuple hL
      exact ⟨_, rfl, h⟩
section
variable {prog : Program} {w : World} {A : Around} {E : Value → Shared → Prop} {s : Shared}
theorem call_enum_tup {l : Addr} {items : Array Value} {Q : Value → Shared → Prop} (hL : s.heap.IsTuple l items)
    (h : ∀ h', IsEnum h' (s.heap.objs.size + 1) s.heap.objs.size 0 .none → h'.IsTupleIter s.heap.objs.size l 0 → h'.objs.size = s.heap.objs.size + 2 →
      (∀ b o, s.heap.get? b = some o → h'.get? b = some o) → Q (.ref (s.heap.objs.size + 1)) { s with heap := h' }) :
    wpAny (model prog w) A (call (.type "enumerate") [.ref l]) Q E s := by
  obtain ⟨⟨c, dct, dt, sl⟩, hl, hc, n, hd⟩ := hL
  replace hc : c = .type "tuple" := hc
  replace hd : dt = .seq items n := hd
  subst hc hd
  refine callType_new F.called_enumerate (by decide) (F.typeCall_enumerate_1 _) (F.newCall_enumerate_1 _) (fun obj => F.args_object_init_2 obj _) F.entry_enumerate_new
    (meets_enum_tup l items n dct sl) ⟨hl, ?_⟩
  have hz : (s.heap.push { cls := .type "tuple_iterator", data := .fields #[.ref l, .int 0 0] }).objs.size = s.heap.objs.size + 1 := Heap.size_push ..
  show _ ∧ _
  rw [hz]
  have he : IsEnum ((s.heap.push { cls := .type "tuple_iterator", data := .fields #[.ref l, .int 0 0] }).push
      { cls := .type "enumerate", data := .fields #[.none, .bool false, .ref s.heap.objs.size, rawInt 0, .none, .none] }) (s.heap.objs.size + 1) s.heap.objs.size 0 .none := by
    have := Heap.get?_push_size (s.heap.push { cls := .type "tuple_iterator", data := .fields #[.ref l, .int 0 0] })
      (o := { cls := .type "enumerate", data := .fields #[.none, .bool false, .ref s.heap.objs.size, rawInt 0, .none, .none] }) rfl
    rw [hz] at this; exact this
  refine ⟨⟨_, he, rfl⟩, h _ he ⟨_, Heap.get?_push_of_some _ (Heap.get?_push_size _ rfl), rfl, rfl⟩ (by rw [Heap.size_push, hz]) fun b o x => Heap.get?_push_of_some _ (Heap.get?_push_of_some _ x)⟩
end
theorem IsTupleIter.at' {h h' : Heap} {a t : Addr} {i : Nat} (x : h.IsTupleIter a t i) (k : ∀ o, h.get? a = some o → h'.get? a = some o) : h'.IsTupleIter a t i :=
  let ⟨o, ho, r⟩ := x; ⟨o, k o ho, r⟩
/-- the tuple at a, each item in a new pair with its place -/
def IteT (K : PySem.W.Frag) (a : Addr) : It :=
  ⟨fun i H => ∃ (xs : List V) (x : V), SqT K H a xs ∧ xs[i]? = some x, fun i H v H' => ∃ T x, v = .ref T ∧ H T = none ∧ H' = upd H T (.tup [.int (i : Nat), x]) ∧ ∀ xs, SqT K H a xs → xs[i]? = some x, fun i H => ∃ xs : List V, SqT K H a xs ∧ xs.length ≤ i⟩
theorem turn_enumT {P : Program} {w : World} {K : PySem.W.Frag} {elts : List Expr} {kk : Nat} {tpos : Pos} (a e it : Addr) :
    Turn P w K (.Tuple elts kk tpos) (IteT K a) [e, it] e (fun i h => (∃ old, IsEnum h e it ((i : Nat) : Int) old) ∧ h.IsTupleIter it a i ∧ e ≠ it ∧ a ≠ it) where
  mem := by simp
  obj := fun i h st b hb => by
    obtain ⟨⟨old, he⟩, ⟨o, ho, hc, hd⟩, _⟩ := st
    have e' : b = e ∨ b = it := by simpa using hb
    rcases e' with z | z
    · rw [z]; exact ⟨_, he, fun v q => nomatch q⟩
    · rw [z]; exact ⟨o, ho, fun v q => by rw [hd] at q; cases q⟩
  keep := fun i h h' st k => let ⟨⟨old, he⟩, hi, hne⟩ := st; ⟨⟨old, k e (by simp) _ he⟩, IsTupleIter.at' hi fun o q => k it (by simp) o q, hne⟩
  item := by
    intro X hP hw hK hc i pins s σ H E I hf st hg
    subst hP hw hK
    obtain ⟨⟨old, he⟩, hit, hne, hai⟩ := st
    obtain ⟨xs, x, hq, hx⟩ := hg
    obtain ⟨its, rv, p, hz⟩ := I.tuple hq
    obtain ⟨u, hu, ru⟩ := rv.get hx
    have hel : e < s.heap.objs.size := Heap.lt_size he
    have hil : it < s.heap.objs.size := by obtain ⟨_, q, _⟩ := hit; exact Heap.lt_size q
    have ht : s.heap.IsTuple a its.toArray := by
      obtain ⟨o, h1, h2, n, h3⟩ := p
      exact ⟨o, h1, h2, n, h3⟩
    refine enum_next_of (Qn := fun x' h1 => x' = u ∧ h1.IsTupleIter it a (i + 1) ∧ Heap.SameBut it s.heap h1) he (wpAny_nextOf_tuple_item hit ht (x := u) (by simpa using hu) fun h1 a1 a2 => ⟨h1, rfl, (a2.2 e hne).trans he, rfl, a1, a2⟩) fun x' h1 h' qn ho hT hsz hk => ?_
    obtain ⟨rfl, hit', sb1⟩ := qn
    refine ⟨_, rfl, wpAny_letOwnedTupleGo_enum (s := { s with heap := h', toks := s.toks + 1 }) ho fun h'' he' sb => ?_⟩
    have hs1 : h1.objs.size = s.heap.objs.size := sb1.1
    rw [hs1] at hT ho ⊢
    have hT2 : h''.get? s.heap.objs.size = some { cls := .type "tuple", data := .seq #[.int i s.toks, x'] } := (sb.2 _ (Nat.ne_of_gt hel)).trans hT
    have new : ObjOk X.prog X.w (upd H s.heap.objs.size (.tup [.int (i : Nat), x])) h'' s.heap.objs.size (.tup [.int (i : Nat), x]) :=
      ⟨by show 2 ≤ sizeLine; decide, [.int i s.toks, x'], .cons ⟨_, rfl⟩ (.cons ru .nil), ⟨_, hT2, rfl, _, rfl⟩⟩
    have I1 : Inv X pins σ (upd H s.heap.objs.size (.tup [.int (i : Nat), x])) { s with heap := h'', toks := s.toks + 1 } :=
      I.turnedNew (ch := [e, it]) (fun b ob hb q => (sb.2 b (fun z => hb (by simp [z]))).trans (hk b ob (fun z => hb (by simp [z])) ((sb1.2 b (fun z => hb (by simp [z]))).trans q))) hf (Nat.le_refl _) new
    refine ⟨.ref s.heap.objs.size, _, I1, rfl, ⟨_, x, rfl, I.hok.fresh (Nat.le_refl _), rfl, fun ys hy => by
      obtain ⟨its', rv', p', _⟩ := I.tuple hy
      obtain ⟨o1, g1, g2, n1, g3⟩ := p
      obtain ⟨o2, k1, k2, n2, k3⟩ := p'
      rw [g1] at k1
      cases k1
      rw [g3] at k3
      injection k3 with d1 _
      have e3 : its = its' := by simpa using congrArg Array.toList d1
      subst e3
      rw [rv'.inj rv]
      exact hx⟩, ⟨⟨x', ?_⟩, IsTupleIter.at' hit' fun o q => (sb.2 it (Ne.symm hne)).trans (hk it o (Ne.symm hne) q), hne, hai⟩, fun b hb => ?_⟩
    · have e1 : ((i + 1 : Nat) : Int) = (i : Int) + 1 := by omega
      rw [e1]; exact he'
    · have hb' : b < s.heap.objs.size := by
        have e' : b = e ∨ b = it := by simpa using hb
        rcases e' with z | z
        · rw [z]; exact hel
        · rw [z]; exact hil
      rw [upd_ne (Nat.ne_of_lt hb')]
      exact (hf b hb).1
  done := by
    intro X hP hw hK hc i pins s σ H E I hf st hg
    subst hP hw hK
    obtain ⟨⟨old, he⟩, hit, hne, hai⟩ := st
    obtain ⟨xs, hq, hx⟩ := hg
    obtain ⟨its, rv, p, hz⟩ := I.tuple hq
    obtain ⟨f0, f1, f2, f3, f4, f5⟩ := hf it (by simp)
    have hl := rv.length
    have ht : s.heap.IsTuple a its.toArray := by
      obtain ⟨o, h1, h2, n, h3⟩ := p
      exact ⟨o, h1, h2, n, h3⟩
    have hh : X.A.in1.handled = none := I.ok.hd hc
    refine enum_end_of he (wpAny_nextOf_tuple_end hh hit ht (by simp; omega) fun h' v eb hv => ?_)
    obtain ⟨o, h1, h2⟩ := hv
    exact ⟨v, o, rfl, h1, h2, rfl, I.turned (t' := s.toks) (fun b o hb q => eb b o hb q) f0 f1 f3 f4 f5⟩
  self := fun A i s Q E st h => let ⟨⟨_, he⟩, _⟩ := st; wpAny_pyIter_enum he h
def iEnumT (K : PySem.W.Frag) (ta : TA) : TI := fun σ H R => ta σ H fun vs H1 => ∃ a xs, vs = [.ref a] ∧ SqT K H1 a xs ∧ R (IteT K a) H1
theorem pi_enumT {X : Cx} {e : Expr} {ta : TA} {p pos tpos : Pos} {elts : List Expr} {kk : Nat} (hg : Gl X "enumerate") (hm : X.mg "enumerate" = none) (ha : PA X [e] ta) (hs : starEach [e] X.env = [(false, eval e X.env)] := by rfl) :
    PI X (.Tuple elts kk tpos) (.Call (.Name "enumerate" p) [e] [] pos) (iEnumT X.K ta) := by
  refine ⟨fun pins s σ H R I h => ?_⟩
  refine Call_ (ld_blt I hg hm boot_enumerate (PyProof.Rows.callWith_type1 (thn (ha.run pos pins s σ H _ I h) fun us s1 ⟨vs, H1, I1, r1, q1⟩ => ?_) hs rfl))
  obtain ⟨a, xs, ex, hq, q⟩ := q1
  subst ex
  cases r1 with
  | cons r rr =>
    cases rr
    cases r
    obtain ⟨its, rv, p', hz⟩ := I1.tuple hq
    have ht : s1.heap.IsTuple a its.toArray := by
      obtain ⟨o, h1, h2, n, h3⟩ := p'
      exact ⟨o, h1, h2, n, h3⟩
    have hal : a < s1.heap.objs.size := by
      obtain ⟨o, h1, _⟩ := ht
      exact Heap.lt_size h1
    refine call_enum_tup ht fun h' he hit hsz hk => wpAny_pyIter_enum he ?_
    have I2 : Inv X pins σ H1 { s1 with heap := h' } := I1.kept (t' := s1.toks) hk
    refine ⟨s1.heap.objs.size + 1, [s1.heap.objs.size + 1, s1.heap.objs.size], _, _, H1, rfl, I2, turn_enumT a (s1.heap.objs.size + 1) s1.heap.objs.size, ⟨⟨.none, he⟩, hit, Nat.succ_ne_self _, Nat.ne_of_lt hal⟩, fun b hb => ?_, q⟩
    have e' : b = s1.heap.objs.size + 1 ∨ b = s1.heap.objs.size := by simpa using hb
    have hle : s1.heap.objs.size ≤ b := by
      rcases e' with z | z
      · rw [z]; exact Nat.le_add_right _ _
      · rw [z]; exact Nat.le_refl _
    exact I1.fpOk hle (I1.hok.fresh hle)
theorem walk_enumT {K : PySem.W.Frag} {a : Addr} {xs : List V} : Walk (IteT K a) xs.length (fun H => SqT K H a xs) (YPair (fun i => some (.int (i : Nat))) (fun i => xs[i]?)) := by
  refine ⟨fun i _ hi q => ⟨xs, xs[i], q, by simp [hi]⟩, fun _ q => ⟨xs, q, Nat.le_refl _⟩, fun i H v H' _ q y => ?_⟩
  obtain ⟨T, x, h1, h2, h3, h4⟩ := y
  exact ⟨T, .int (i : Nat), x, h1, h2, h3, rfl, h4 xs q⟩
end Ask

namespace Ask
open PySem L2

/-! ### plain: a body's rows, where a row stands -/
inductive Row where
  | ask (nm : Str) (nx : List Nat)
  | go (n : Nat)
  | fin (w : Str)
abbrev Rows := List Row
def isGo : Option Row → Bool
  | some (.go _) => true
  | _ => false
def hop (R : Rows) (i : Nat) : Nat := match R[i]? with
  | some (.go n) => n
  | _ => i
def hops (R : Rows) : Nat → Nat → Nat
  | 0, i => i
  | k + 1, i => hops R k (hop R i)
theorem hops_add (R : Rows) : ∀ a b i, hops R (a + b) i = hops R a (hops R b i)
  | a, 0, i => rfl
  | a, b + 1, i => hops_add R a b (hop R i)
theorem hops_next (R : Rows) (k i : Nat) : hops R (k + 1) i = hop R (hops R k i) := by
  rw [Nat.add_comm, hops_add]
  rfl
def Settles (R : Rows) (i v : Nat) : Prop := (∃ k, hops R k i = v) ∧ (∃ m, 0 < m ∧ hops R m v = v) ∧ ∀ k m, 0 < m → hops R m (hops R k i) = hops R k i → v ≤ hops R k i
theorem Settles.uniq {R : Rows} {i v w : Nat} (a : Settles R i v) (b : Settles R i w) : v = w := by
  obtain ⟨⟨k, hk⟩, ⟨m, hm, hv⟩, h⟩ := a
  obtain ⟨⟨k', hk'⟩, ⟨m', hm', hv'⟩, h'⟩ := b
  have h1 := h k' m' hm' (by rw [hk']; exact hv')
  have h2 := h' k m hm (by rw [hk]; exact hv)
  omega
theorem hops_mul (R : Rows) {m w : Nat} (h : hops R m w = w) : ∀ q, hops R (m * q) w = w
  | 0 => rfl
  | q + 1 => by rw [Nat.mul_succ, hops_add, h]; exact hops_mul R h q
theorem settles_of {R : Rows} {i v j n : Nat} (hj : j < n) (e : hops R n i = hops R j i) (hv : ∃ t, j ≤ t ∧ t < n ∧ hops R t i = v) (hmin : ∀ t, j ≤ t → t < n → v ≤ hops R t i) : Settles R i v := by
  have cyc : ∀ k, j ≤ k → ∃ t, j ≤ t ∧ t < n ∧ hops R k i = hops R t i := by
    intro k
    induction k using Nat.strongRecOn with
    | ind k ih =>
      intro hk
      by_cases c : k < n
      · exact ⟨k, hk, c, rfl⟩
      · have e1 : hops R k i = hops R (k - n + j) i := by
          have : k = (k - n) + n := by omega
          rw [this, hops_add, e, ← hops_add]
          have e2 : k - n + n - n = k - n := by omega
          rw [e2]
        obtain ⟨t, h1, h2, h3⟩ := ih (k - n + j) (by omega) (by omega)
        exact ⟨t, h1, h2, e1.trans h3⟩
  obtain ⟨t, h1, h2, h3⟩ := hv
  refine ⟨⟨t, h3⟩, ⟨n - j, by omega, ?_⟩, fun k m hm hw => ?_⟩
  · rw [← h3, ← hops_add]
    have e1 : n - j + t = (t - j) + n := by omega
    rw [e1, hops_add, e, ← hops_add]
    have e2 : t - j + j = t := by omega
    rw [e2]
  · have e1 : hops R (m * j + k) i = hops R k i := by rw [hops_add]; exact hops_mul R hw j
    have hge : j ≤ m * j + k := Nat.le_trans (Nat.le_mul_of_pos_left j hm) (Nat.le_add_right _ _)
    obtain ⟨t', g1, g2, g3⟩ := cyc _ hge
    rw [← e1, g3]
    exact hmin t' g1 g2
theorem Settles.step {R : Rows} {i v : Nat} : Settles R i v ↔ Settles R (hop R i) v := by
  constructor
  · rintro ⟨⟨k, hk⟩, ⟨m, hm, hv⟩, h⟩
    refine ⟨?_, ⟨m, hm, hv⟩, fun k m hm hw => h (k + 1) m hm hw⟩
    cases k with
    | succ k => exact ⟨k, hk⟩
    | zero =>
      have hi : i = v := hk
      subst hi
      cases m with
      | zero => exact absurd hm (Nat.lt_irrefl _)
      | succ m => exact ⟨m, hv⟩
  · rintro ⟨⟨k, hk⟩, ⟨m, hm, hv⟩, h⟩
    refine ⟨⟨k + 1, hk⟩, ⟨m, hm, hv⟩, fun k m hm hw => ?_⟩
    cases k with
    | succ k => exact h k m hm hw
    | zero =>
      cases m with
      | zero => exact absurd hm (Nat.lt_irrefl _)
      | succ m =>
        have hi : hops R m (hop R i) = i := hw
        show v ≤ i
        have := h m (m + 1) (Nat.succ_pos _) (by rw [hi]; exact hw)
        rw [hi] at this
        exact this
theorem Settles.hops {R : Rows} {v : Nat} : ∀ k i, Settles R i v ↔ Settles R (hops R k i) v
  | 0, _ => Iff.rfl
  | k + 1, i => Settles.step.trans (Settles.hops k (hop R i))
open Classical in
noncomputable def settle (R : Rows) (i : Nat) : Nat := if h : ∃ v, Settles R i v then h.choose else 0
theorem settle_eq {R : Rows} {i v : Nat} (h : Settles R i v) : settle R i = v := by
  unfold settle
  rw [dif_pos ⟨v, h⟩]
  exact Settles.uniq (Exists.choose_spec (⟨v, h⟩ : ∃ v, Settles R i v)) h
theorem Settles.self {R : Rows} {i v : Nat} (h : Settles R i v) : Settles R v v := by
  obtain ⟨k, hk⟩ := h.1
  have := (Settles.hops k i).mp h
  rw [hk] at this
  exact this
theorem settle_idem {R : Rows} {i v : Nat} (h : Settles R i v) : settle R (settle R i) = settle R i := by
  rw [settle_eq h]
  exact settle_eq h.self

/-! ### lists without repetition below a bound -/
theorem nodup_le : ∀ (n : Nat) (l : List Nat), l.Nodup → (∀ x ∈ l, x < n) → l.length ≤ n
  | 0, [], _, _ => Nat.le_refl _
  | 0, x :: _, _, h => absurd (h x (List.mem_cons_self ..)) (Nat.not_lt_zero _)
  | n + 1, l, hd, h => by
    have h1 := nodup_le n (l.erase n) (hd.erase n) (fun x hx => by
      have hne : x ≠ n := fun q => by
        rw [q] at hx
        exact absurd hx (List.Nodup.not_mem_erase hd)
      have := h x (List.mem_of_mem_erase hx)
      omega)
    have h2 : l.length ≤ (l.erase n).length + 1 := by
      rw [List.length_erase]
      split <;> omega
    omega
theorem nodup_pairs (N : Nat) (l : List (Nat × Nat)) (hd : l.Nodup) (h : ∀ p ∈ l, p.1 < N ∧ p.2 < N) : l.length ≤ N * N := by
  have h1 := nodup_le (N * N) (l.map fun p => p.1 * N + p.2) ?_ ?_
  · rwa [List.length_map] at h1
  · unfold List.Nodup
    rw [List.pairwise_map]
    refine List.Pairwise.imp_of_mem ?_ hd
    intro p q hp hq hne e
    obtain ⟨h1, h2⟩ := h p hp
    obtain ⟨h3, h4⟩ := h q hq
    have e1 : p.1 = q.1 := by
      rcases Nat.lt_trichotomy p.1 q.1 with c | c | c
      · have : (p.1 + 1) * N ≤ q.1 * N := Nat.mul_le_mul_right N c
        rw [Nat.succ_mul] at this
        omega
      · exact c
      · have : (q.1 + 1) * N ≤ p.1 * N := Nat.mul_le_mul_right N c
        rw [Nat.succ_mul] at this
        omega
    rw [e1] at e
    exact hne (Prod.ext e1 (by omega))
  · intro x hx
    obtain ⟨p, hp, rfl⟩ := List.mem_map.mp hx
    obtain ⟨h1, h2⟩ := h p hp
    calc p.1 * N + p.2 < p.1 * N + N := by omega
      _ = (p.1 + 1) * N := by rw [Nat.succ_mul]
      _ ≤ N * N := Nat.mul_le_mul_right N h1

/-! ### ways: what was answered, and where it led -/
abbrev Hist := List (Str × Nat)
abbrev Way := Hist × Nat
noncomputable def kids (R : Rows) (x : Way) : List Way := match R[x.2]? with
  | some (.ask nm nx) => nx.zipIdx.map fun p => (x.1 ++ [(nm, p.2)], settle R p.1)
  | _ => []
noncomputable def lev (R : Rows) : Nat → List Way → List Way
  | 0, l => l
  | m + 1, l => (lev R m l).flatMap (kids R)
noncomputable def tree (R : Rows) : Nat → Way → List Way
  | 0, x => [x]
  | d + 1, x => x :: (kids R x).flatMap (tree R d)
theorem lev_next (R : Rows) : ∀ m l, lev R m (l.flatMap (kids R)) = lev R (m + 1) l
  | 0, _ => rfl
  | m + 1, l => by
    show (lev R m (l.flatMap (kids R))).flatMap (kids R) = (lev R (m + 1) l).flatMap (kids R)
    rw [lev_next R m l]
theorem lev_append (R : Rows) : ∀ m l l', lev R m (l ++ l') = lev R m l ++ lev R m l'
  | 0, _, _ => rfl
  | m + 1, l, l' => by
    show (lev R m (l ++ l')).flatMap (kids R) = (lev R m l).flatMap (kids R) ++ (lev R m l').flatMap (kids R)
    rw [lev_append R m l l', List.flatMap_append]
theorem lev_nil (R : Rows) : ∀ m, lev R m [] = []
  | 0 => rfl
  | m + 1 => by
    show (lev R m []).flatMap (kids R) = []
    rw [lev_nil R m]
    rfl
noncomputable def upto (R : Rows) (d : Nat) (l : List Way) : List Way := (List.range d).flatMap fun m => lev R m l
theorem flatMap_app {α β : Type} (f g : α → List β) : ∀ l : List α, (l.flatMap fun x => f x ++ g x).Perm (l.flatMap f ++ l.flatMap g)
  | [] => .refl _
  | x :: l => by
    simp only [List.flatMap_cons]
    have h := flatMap_app f g l
    refine (List.Perm.append_left _ h).trans ?_
    rw [List.append_assoc, List.append_assoc]
    refine List.Perm.append_left _ ?_
    rw [← List.append_assoc, ← List.append_assoc]
    exact List.Perm.append_right _ List.perm_append_comm
theorem flatMap_perm {α β : Type} {f g : α → List β} : ∀ {l : List α}, (∀ x ∈ l, (f x).Perm (g x)) → (l.flatMap f).Perm (l.flatMap g)
  | [], _ => .refl _
  | x :: l, h => by
    simp only [List.flatMap_cons]
    exact (h x (List.mem_cons_self ..)).append (flatMap_perm fun y hy => h y (List.mem_cons_of_mem _ hy))
theorem upto_cons (R : Rows) (d : Nat) (y : Way) (l : List Way) : (upto R d (y :: l)).Perm (upto R d [y] ++ upto R d l) := by
  unfold upto
  have e : (fun m => lev R m (y :: l)) = fun m => lev R m [y] ++ lev R m l := by
    funext m
    rw [← lev_append]
    rfl
  rw [e]
  exact flatMap_app _ _ _
theorem upto_each (R : Rows) (d : Nat) : ∀ l : List Way, (upto R d l).Perm (l.flatMap fun y => upto R d [y])
  | [] => by
    unfold upto
    have e : (List.range d).flatMap (fun m => lev R m []) = [] := by
      rw [List.flatMap_eq_nil_iff]
      intro m _
      exact lev_nil R m
    rw [e]
    exact .refl _
  | y :: l => by
    rw [List.flatMap_cons]
    exact (upto_cons R d y l).trans (List.Perm.append_left _ (upto_each R d l))
theorem upto_succ (R : Rows) (d : Nat) (l : List Way) : upto R (d + 1) l = l ++ upto R d (l.flatMap (kids R)) := by
  unfold upto
  rw [List.range_succ_eq_map, List.flatMap_cons, List.flatMap_map]
  have e : (fun m => lev R m.succ l) = fun m => lev R m (l.flatMap (kids R)) := by
    funext m
    exact (lev_next R m l).symm
  show l ++ (List.range d).flatMap (fun m => lev R m.succ l) = _
  rw [e]
theorem tree_upto (R : Rows) : ∀ d x, (tree R d x).Perm (upto R (d + 1) [x])
  | 0, x => by
    rw [upto_succ]
    exact .refl _
  | d + 1, x => by
    rw [upto_succ]
    show (x :: (kids R x).flatMap (tree R d)).Perm _
    refine List.Perm.cons x ?_
    have e : [x].flatMap (kids R) = kids R x := by simp
    rw [e]
    refine List.Perm.trans (flatMap_perm fun y _ => tree_upto R d y) ?_
    exact (upto_each R (d + 1) (kids R x)).symm
/-- no row asks with more than b answers -/
def Narrow (R : Rows) (b : Nat) : Prop := ∀ (i : Nat) (nm : Str) (nx : List Nat), R[i]? = some (Row.ask nm nx) → nx.length ≤ b
theorem kids_len {R : Rows} {b : Nat} (h : Narrow R b) (x : Way) : (kids R x).length ≤ b := by
  unfold kids
  split
  · rename_i nm nx e
    rw [List.length_map, List.length_zipIdx]
    exact h _ _ _ e
  · exact Nat.zero_le _
theorem flatMap_len {α β : Type} (f : α → List β) (c : Nat) : ∀ l : List α, (∀ x ∈ l, (f x).length ≤ c) → (l.flatMap f).length ≤ l.length * c
  | [], _ => by simp
  | x :: l, h => by
    rw [List.flatMap_cons, List.length_append, List.length_cons, Nat.succ_mul]
    have h1 := h x (List.mem_cons_self ..)
    have h2 := flatMap_len f c l fun y hy => h y (List.mem_cons_of_mem _ hy)
    omega
theorem tree_len {R : Rows} {b : Nat} (h : Narrow R b) : ∀ d x, (tree R d x).length ≤ (b + 1) ^ d
  | 0, x => by show 1 ≤ 1; exact Nat.le_refl _
  | d + 1, x => by
    show ((kids R x).flatMap (tree R d)).length + 1 ≤ _
    have h1 := flatMap_len (tree R d) ((b + 1) ^ d) (kids R x) fun y _ => tree_len h d y
    have h2 := Nat.mul_le_mul_right ((b + 1) ^ d) (kids_len h x)
    have h3 : 1 ≤ (b + 1) ^ d := Nat.one_le_pow _ _ (Nat.succ_pos _)
    have h4 : (b + 1) ^ (d + 1) = b * (b + 1) ^ d + (b + 1) ^ d := by rw [Nat.pow_succ, Nat.mul_comm, Nat.succ_mul]
    omega
theorem lev_len {R : Rows} {b : Nat} (h : Narrow R b) : ∀ m l, (lev R m l).length ≤ l.length * b ^ m
  | 0, l => by show l.length ≤ l.length * 1; omega
  | m + 1, l => by
    show ((lev R m l).flatMap (kids R)).length ≤ _
    have h1 := flatMap_len (kids R) b (lev R m l) fun y _ => kids_len h y
    have h2 := Nat.mul_le_mul_right b (lev_len h m l)
    have h3 : l.length * b ^ m * b = l.length * b ^ (m + 1) := by rw [Nat.pow_succ, Nat.mul_assoc]
    omega

/-! ### the walk along what was answered -/
noncomputable def along (R : Rows) : Nat → Hist → Option Nat
  | s, [] => some s
  | s, (nm, k) :: h => match R[s]? with
    | some (.ask nm' nx) => if nm' = nm then (match nx[k]? with | some one => along R (settle R one) h | none => none) else none
    | _ => none
theorem along_app {R : Rows} {nm : Str} {nx : List Nat} {k one t : Nat} (hr : R[t]? = some (.ask nm nx)) (hk : nx[k]? = some one) : ∀ (h : Hist) (s : Nat), along R s h = some t → along R s (h ++ [(nm, k)]) = some (settle R one)
  | [], s, e => by
    obtain rfl : s = t := Option.some.inj e
    show (match R[s]? with | some (.ask nm' nx) => if nm' = nm then (match nx[k]? with | some one => along R (settle R one) [] | none => none) else none | _ => none) = _
    rw [hr]
    simp only [if_true, hk]
    rfl
  | (nm', k') :: h, s, e => by
    unfold along at e
    rw [List.cons_append]
    unfold along
    cases q : R[s]? with
    | none => rw [q] at e; cases e
    | some r =>
      rw [q] at e
      cases r with
      | ask a b =>
        simp only at e ⊢
        by_cases c : a = nm'
        · rw [if_pos c] at e ⊢
          cases q2 : b[k']? with
          | none => rw [q2] at e; cases e
          | some one' =>
            rw [q2] at e
            exact along_app hr hk h _ e
        · rw [if_neg c] at e
          cases e
      | go _ => cases e
      | fin _ => cases e
/-- x is a way through R from b -/
structure OnWay (R : Rows) (b : Nat) (x : Way) : Prop where
  al : along R (settle R b) x.1 = some x.2
  st : settle R x.2 = x.2
  lt : x.2 < R.length
end Ask

namespace Ask
open PySem PySem.Spec PyProof.Rows L2

/-! ### data of tuples, texts and ints alone -/
mutual
def td : PyData → Bool
  | .int _ => true
  | .str x => PyData.canLay0 (.str x)
  | .tuple xs => decide (xs.length ≤ 1000) && tdAll xs
  | _ => false
def tdAll : List PyData → Bool
  | [] => true
  | x :: xs => td x && tdAll xs
end
theorem td_tup {xs : List PyData} (h : td (.tuple xs) = true) : xs.length ≤ 1000 ∧ tdAll xs = true := by
  simpa [td] using h
mutual
theorem td_lay : ∀ d : PyData, td d = true → d.canLay0 = true
  | .int i, _ => rfl
  | .str z, h => by simpa [td] using h
  | .tuple xs, h => by
    have := td_layAll xs (td_tup h).2
    simpa [PyData.canLay0] using this
  | .none, h => by simp [td] at h
  | .bool _, h => by simp [td] at h
  | .list _, h => by simp [td] at h
  | .dict _, h => by simp [td] at h
theorem td_layAll : ∀ ds : List PyData, tdAll ds = true → PyData.canLayAll0 ds = true
  | [], _ => rfl
  | d :: ds, h => by
    simp [tdAll] at h
    simp [PyData.canLayAll0, td_lay d h.1, td_layAll ds h.2]
end
mutual
theorem td_eqv : ∀ d e : PyData, td d = true → td e = true → PyData.eqv d e = true → d = e
  | .int i, e, _, he, h => by
    cases e <;> simp_all [PyData.eqv, td]
  | .str z, e, _, he, h => by
    cases e <;> simp_all [PyData.eqv, td]
  | .tuple xs, e, hd, he, h => by
    cases e <;> simp [PyData.eqv] at h
    rename_i ys
    rw [td_eqvAll xs ys (td_tup hd).2 (td_tup he).2 h]
  | .none, _, h, _, _ => by simp [td] at h
  | .bool _, _, h, _, _ => by simp [td] at h
  | .list _, _, h, _, _ => by simp [td] at h
  | .dict _, _, h, _, _ => by simp [td] at h
theorem td_eqvAll : ∀ ds es : List PyData, tdAll ds = true → tdAll es = true → PyData.eqvAll ds es = true → ds = es
  | [], [], _, _, _ => rfl
  | [], _ :: _, _, _, h => by simp [PyData.eqvAll] at h
  | _ :: _, [], _, _, h => by simp [PyData.eqvAll] at h
  | d :: ds, e :: es, hd, he, h => by
    simp [PyData.eqvAll] at h
    simp [tdAll] at hd he
    rw [td_eqv d e hd.1 he.1 h.1, td_eqvAll ds es hd.2 he.2 h.2]
end
theorem td_refl {d : PyData} (hd : td d = true) : PyData.eqv d d = true := PySem.SeqAt.eqv_refl d (td_lay d hd)
theorem tdAll_map {α : Type} {f : α → PyData} : ∀ {l : List α}, (∀ x ∈ l, td (f x) = true) → tdAll (l.map f) = true
  | [], _ => rfl
  | x :: l, h => by
    simp only [List.map_cons, tdAll, h x (List.mem_cons_self ..), tdAll_map fun y hy => h y (List.mem_cons_of_mem _ hy), Bool.and_self]
theorem tdAll_mem : ∀ {ds : List PyData}, tdAll ds = true → ∀ d ∈ ds, td d = true
  | d :: ds, h, e, he => by
    simp [tdAll] at h
    rcases List.mem_cons.mp he with q | q
    · rw [q]; exact h.1
    · exact tdAll_mem h.2 e q

/-! ### what the heap holds of them -/
/-- the tuples stand -/
def Tk (K : PySem.W.Frag) (H H' : Hp) : Prop := ∀ a xs, SqT K H a xs → SqT K H' a xs
theorem Tk.refl (K : PySem.W.Frag) (H : Hp) : Tk K H H := fun _ _ h => h
theorem Tk.trans {K : PySem.W.Frag} {H H1 H2 : Hp} (a : Tk K H H1) (b : Tk K H1 H2) : Tk K H H2 := fun x xs h => b x xs (a x xs h)
theorem Tk.ex {K : PySem.W.Frag} {H H' : Hp} (e : Evl.Ex H H') : Tk K H H' := fun _ _ h => Evl.ex_t e h
/-- a change of what is no tuple -/
theorem Tk.upd {K : PySem.W.Frag} {H : Hp} {a : Addr} {o o' : HO} (ha : H a = some o) (hn : ∀ xs, o ≠ .tup xs) (hf : ∀ u xs, o ≠ .frz u (.tup xs)) : Tk K H (upd H a o') := fun b xs h => by
  rcases h with (h | ⟨u, h⟩) | h
  · refine .inl (.inl ?_)
    rw [upd_ne (fun q => by rw [q, ha] at h; exact hn _ (Option.some.inj h))]
    exact h
  · refine .inl (.inr ⟨u, ?_⟩)
    rw [upd_ne (fun q => by rw [q, ha] at h; exact hf _ _ (Option.some.inj h))]
    exact h
  · exact .inr h
theorem Tk.lst {K : PySem.W.Frag} {H : Hp} {a : Addr} {ys : List V} {o' : HO} (ha : H a = some (.lst ys)) : Tk K H (L2.upd H a o') := Tk.upd ha (fun _ q => nomatch q) fun _ _ q => nomatch q
theorem Tk.new {K : PySem.W.Frag} {H : Hp} {a : Addr} {o' : HO} (ha : H a = none) : Tk K H (L2.upd H a o') := Tk.ex (Evl.Ex.new ha)
mutual
theorem dp_tk {K : PySem.W.Frag} {H H' : Hp} (k : Tk K H H') : ∀ (d : PyData) (v : V), td d = true → Dp K H v d → Dp K H' v d
  | .int i, v, _, h => by cases h; exact .int i
  | .str z, v, _, h => by cases h; exact .str z
  | .tuple xs, v, hd, h => by
    cases h with
    | tup h1 h2 => exact .tup (k _ _ h1) (dpAll_tk k xs _ (td_tup hd).2 h2)
  | .none, _, h, _ => by simp [td] at h
  | .bool _, _, h, _ => by simp [td] at h
  | .list _, _, h, _ => by simp [td] at h
  | .dict _, _, h, _ => by simp [td] at h
theorem dpAll_tk {K : PySem.W.Frag} {H H' : Hp} (k : Tk K H H') : ∀ (ds : List PyData) (vs : List V), tdAll ds = true → DpAll K H vs ds → DpAll K H' vs ds
  | [], _, _, h => by cases h; exact .nil
  | d :: ds, _, hd, h => by
    simp [tdAll] at hd
    cases h with
    | cons h1 h2 => exact .cons (dp_tk k d _ hd.1 h1) (dpAll_tk k ds _ hd.2 h2)
end
theorem dpAll_app {K : PySem.W.Frag} {H : Hp} : ∀ {vs ws : List V} {ds es : List PyData}, DpAll K H vs ds → DpAll K H ws es → DpAll K H (vs ++ ws) (ds ++ es)
  | _, _, _, _, .nil, h => h
  | _, _, _, _, .cons a b, h => .cons a (dpAll_app b h)
theorem dpAll_get {K : PySem.W.Frag} {H : Hp} : ∀ {vs : List V} {ds : List PyData} {i : Nat} {v : V}, DpAll K H vs ds → vs[i]? = some v → ∃ d, ds[i]? = some d ∧ Dp K H v d
  | _, _, 0, _, .cons a _, e => ⟨_, rfl, by
    have := Option.some.inj e
    subst this
    exact a⟩
  | _, _, i + 1, _, .cons _ b, e => dpAll_get (i := i) b e
theorem dpAll_get' {K : PySem.W.Frag} {H : Hp} : ∀ {vs : List V} {ds : List PyData} {i : Nat} {d : PyData}, DpAll K H vs ds → ds[i]? = some d → ∃ v, vs[i]? = some v ∧ Dp K H v d
  | _, _, 0, _, .cons a _, e => ⟨_, rfl, by
    have := Option.some.inj e
    subst this
    exact a⟩
  | _, _, i + 1, _, .cons _ b, e => dpAll_get' (i := i) b e
theorem dpAll_len' {K : PySem.W.Frag} {H : Hp} : ∀ {vs : List V} {ds : List PyData}, DpAll K H vs ds → vs.length = ds.length
  | _, _, .nil => rfl
  | _, _, .cons _ t => by simp [dpAll_len' t]
theorem dpAll_ints {K : PySem.W.Frag} {H : Hp} : ∀ {vs : List V} {ns : List Nat}, DpAll K H vs (ns.map fun (n : Nat) => PyData.int n) → vs = ns.map fun (n : Nat) => V.int n
  | _, [], h => by cases h; rfl
  | _, n :: ns, h => by
    cases h with
    | cons a b =>
      cases a
      rw [dpAll_ints b]
      rfl
theorem dpAll_of_ints {K : PySem.W.Frag} {H : Hp} : ∀ (ns : List Nat), DpAll K H (ns.map fun (n : Nat) => V.int n) (ns.map fun (n : Nat) => PyData.int n)
  | [] => .nil
  | n :: ns => .cons (.int _) (dpAll_of_ints ns)

/-! ### the words that the law draws from -/
def names6 : List Str := ["coin", "dice", "read", "fail", "tell", "flip"]
def words2 : List Str := ["good", "bad"]
def Word (z : Str) : Prop := z ∈ names6 ++ words2
theorem word_lay {z : Str} (h : Word z) : PyData.canLay0 (.str z) = true := by
  have all : (names6 ++ words2).all (fun z => PyData.canLay0 (.str z)) = true := by decide +kernel
  exact List.all_eq_true.mp all z h

/-! ### rows, shows, histories as data -/
def encRow : Row → PyData
  | .ask nm nx => .tuple [.str "ask", .str nm, .tuple (nx.map fun (n : Nat) => .int n)]
  | .go n => .tuple [.str "go", .int n]
  | .fin w => .tuple [.str "end", .str w]
def RowOk (N : Nat) : Row → Prop
  | .ask nm nx => nm ∈ names6 ∧ nx.length ≤ 3 ∧ ∀ x ∈ nx, x < N
  | .go n => n < N
  | .fin w => w ∈ words2
/-- rows that the law may draw -/
structure ROk (R : Rows) : Prop where
  row : ∀ r ∈ R, RowOk R.length r
  pos : 0 < R.length
  few : R.length ≤ 7
theorem ROk.at {R : Rows} (h : ROk R) {i : Nat} {r : Row} (e : R[i]? = some r) : RowOk R.length r := h.row r (List.mem_of_getElem? e)
theorem lay_ask : PyData.canLay0 (.str "ask") = true := by decide +kernel
theorem lay_go : PyData.canLay0 (.str "go") = true := by decide +kernel
theorem lay_end : PyData.canLay0 (.str "end") = true := by decide +kernel
theorem lay_hang : PyData.canLay0 (.str "hang") = true := by decide +kernel
theorem word_n {z : Str} (h : z ∈ names6) : Word z := List.mem_append_left _ h
theorem word_w {z : Str} (h : z ∈ words2) : Word z := List.mem_append_right _ h
theorem td_row {N : Nat} {r : Row} (h : RowOk N r) : td (encRow r) = true := by
  cases r with
  | ask nm nx =>
    have h1 : tdAll (nx.map fun (n : Nat) => PyData.int n) = true := tdAll_map fun _ _ => rfl
    have h2 : nx.length ≤ 1000 := Nat.le_trans h.2.1 (by decide)
    simp [encRow, td, tdAll, lay_ask, word_lay (word_n h.1), h1, h2]
  | go n => simp [encRow, td, tdAll, lay_go]
  | fin w => simp [encRow, td, tdAll, lay_end, word_lay (word_w h)]
theorem td_rows {R : Rows} (h : ROk R) : tdAll (R.map encRow) = true := tdAll_map fun r hr => td_row (h.row r hr)
def showD (R : Rows) (i : Nat) : PyData := match R[i]? with
  | some (.ask nm _) => .tuple [.str "ask", .str nm]
  | some (.fin w) => .tuple [.str "end", .str w]
  | _ => .tuple [.str "hang"]
theorem td_show {R : Rows} (h : ROk R) (i : Nat) : td (showD R i) = true := by
  unfold showD
  cases e : R[i]? with
  | none => simp [td, tdAll, lay_hang]
  | some r =>
    have := h.at e
    cases r with
    | ask nm nx => simp [td, tdAll, lay_ask, word_lay (word_n this.1)]
    | go n => simp [td, tdAll, lay_hang]
    | fin w => simp [td, tdAll, lay_end, word_lay (word_w this)]
def encP (p : Str × Nat) : PyData := .tuple [.str p.1, .int (p.2 : Nat)]
def encH (h : Hist) : PyData := .tuple (h.map encP)
def HOk (h : Hist) : Prop := (∀ p ∈ h, p.1 ∈ names6) ∧ h.length ≤ 100
theorem td_P {p : Str × Nat} (h : p.1 ∈ names6) : td (encP p) = true := by simp [encP, td, tdAll, word_lay (word_n h)]
theorem td_hist {h : Hist} (ok : HOk h) : td (encH h) = true := by
  have h1 : tdAll (h.map encP) = true := tdAll_map fun p hp => td_P (ok.1 p hp)
  have h2 : h.length ≤ 1000 := Nat.le_trans ok.2 (by decide)
  simp [encH, td, h1, h2]
/-- (history, place), (history, show) -/
def encW (x : Way) : PyData := .tuple [encH x.1, .int (x.2 : Nat)]
def encE (R : Rows) (x : Way) : PyData := .tuple [encH x.1, showD R x.2]
theorem td_W {x : Way} (ok : HOk x.1) : td (encW x) = true := by simp [encW, td, tdAll, td_hist ok]
theorem td_E {R : Rows} (h : ROk R) {x : Way} (ok : HOk x.1) : td (encE R x) = true := by simp [encE, td, tdAll, td_hist ok, td_show h]

/-! ### all alike, to be sorted -/
theorem alike_P (p q : Str × Nat) : PySem.W.alike (encP p) (encP q) = true := by simp [encP, PySem.W.alike, PySem.W.alikeAll]
theorem alike_Ps : ∀ h h' : Hist, PySem.W.alikeAll (h.map encP) (h'.map encP) = true
  | [], _ => by simp [PySem.W.alikeAll]
  | _ :: _, [] => by simp [PySem.W.alikeAll]
  | p :: h, q :: h' => by
    simp only [List.map_cons, PySem.W.alikeAll, alike_P, alike_Ps h h', Bool.and_self]
theorem alike_H (h h' : Hist) : PySem.W.alike (encH h) (encH h') = true := by
  simp [encH, PySem.W.alike, alike_Ps]
theorem alike_show (R : Rows) (i j : Nat) : PySem.W.alike (showD R i) (showD R j) = true := by
  have one : ∀ i, (∃ a, showD R i = .tuple [.str a]) ∨ ∃ a b, showD R i = .tuple [.str a, .str b] := fun i => by
    unfold showD
    split
    · exact .inr ⟨_, _, rfl⟩
    · exact .inr ⟨_, _, rfl⟩
    · exact .inl ⟨_, rfl⟩
  rcases one i with ⟨a, e⟩ | ⟨a, b, e⟩ <;> rcases one j with ⟨c, e'⟩ | ⟨c, d, e'⟩ <;> rw [e, e'] <;> simp [PySem.W.alike, PySem.W.alikeAll]
theorem alike_W (x y : Way) : PySem.W.alike (encW x) (encW y) = true := by simp [encW, PySem.W.alike, PySem.W.alikeAll, alike_H]
theorem alike_E (R : Rows) (x y : Way) : PySem.W.alike (encE R x) (encE R y) = true := by simp [encE, PySem.W.alike, PySem.W.alikeAll, alike_H, alike_show]
theorem depth_P : ∀ h : Hist, PyData.depthAll (h.map encP) ≤ 1
  | [] => by simp [PyData.depthAll]
  | p :: h => by
    have := depth_P h
    simp only [List.map_cons, PyData.depthAll, encP, PyData.depth]
    omega
theorem depth_H (h : Hist) : (encH h).depth ≤ 2 := by
  have := depth_P h
  simp only [encH, PyData.depth]
  omega
theorem depth_show (R : Rows) (i : Nat) : (showD R i).depth ≤ 1 := by
  unfold showD
  split <;> simp [PyData.depth, PyData.depthAll]
theorem depth_W (x : Way) : (encW x).depth ≤ 3 := by
  have := depth_H x.1
  simp only [encW, PyData.depth, PyData.depthAll]
  omega
theorem depth_E (R : Rows) (x : Way) : (encE R x).depth ≤ 3 := by
  have := depth_H x.1
  have := depth_show R x.2
  simp only [encE, PyData.depth, PyData.depthAll]
  omega
/-- one order for the same data, whatever order they came in -/
theorem sort_same {α : Type} (enc : α → PyData) (al : ∀ x y, PySem.W.alike (enc x) (enc y) = true) {ws ws' : List α} (ok : ∀ x ∈ ws, td (enc x) = true) (hp : ws.Perm ws') :
    (ws.mergeSort (PySem.W.dataLe false enc)).map enc = (ws'.mergeSort (PySem.W.dataLe false enc)).map enc := by
  have T := PySem.W.sortLe_total (listOrd itemOrd) false fun b => PySem.W.keyToks (enc b)
  have p1 := List.pairwise_mergeSort (le := PySem.W.dataLe false enc) (fun a b c => T.trans a b c) (fun a b => by have := T.total a b; simpa [PySem.W.dataLe] using this) ws
  have p2 := List.pairwise_mergeSort (le := PySem.W.dataLe false enc) (fun a b c => T.trans a b c) (fun a b => by have := T.total a b; simpa [PySem.W.dataLe] using this) ws'
  have q : (ws.mergeSort (PySem.W.dataLe false enc)).Perm (ws'.mergeSort (PySem.W.dataLe false enc)) := (List.mergeSort_perm _ _).trans (hp.trans (List.mergeSort_perm _ _).symm)
  have key : ∀ a b : α, PySem.W.dataLe false enc a b = true → PySem.W.dataLe false enc b a = true → PySem.W.keyToks (enc a) = PySem.W.keyToks (enc b) := fun a b h1 h2 => by
    have h1' : (!PySem.W.dataLt (enc b) (enc a)) = true := h1
    have h2' : (!PySem.W.dataLt (enc a) (enc b)) = true := h2
    rw [Bool.not_eq_true'] at h1' h2'
    exact lex_total (O := itemOrd) _ _ h2' h1'
  have inj : ∀ a b : α, td (enc a) = true → td (enc b) = true → PySem.W.keyToks (enc a) = PySem.W.keyToks (enc b) → enc a = enc b := fun a b ha hb e => by
    refine td_eqv _ _ ha hb ?_
    cases h : PyData.eqv (enc a) (enc b) with
    | true => rfl
    | false =>
      have z := (PySem.W.toks_eqv _ _ (al a b)).2 h [] [.inl 0]
      rw [e, List.append_nil, lex_irrefl] at z
      have z2 := PySem.W.lex_pre (PySem.W.keyToks (enc b)) [] [.inl 0]
      rw [List.append_nil, z] at z2
      exact absurd z2 (by decide +kernel)
  refine List.Perm.eq_of_pairwise (le := fun d e => ∃ a b, d = enc a ∧ e = enc b ∧ td (enc a) = true ∧ td (enc b) = true ∧ PySem.W.dataLe false enc a b = true) ?_ ?_ ?_ (q.map enc)
  · rintro d e _ _ ⟨a, b, rfl, rfl, ha, hb, h1⟩ ⟨b', a', e1, e2, hb', ha', h2⟩
    refine inj a b ha hb (key a b h1 ?_)
    show (!PySem.W.dataLt (enc a) (enc b)) = true
    rw [e1, e2]
    exact h2
  · rw [List.pairwise_map]
    refine List.Pairwise.imp_of_mem ?_ p1
    intro a b ha hb h
    exact ⟨a, b, rfl, rfl, ok a ((List.mergeSort_perm _ _).mem_iff.mp ha), ok b ((List.mergeSort_perm _ _).mem_iff.mp hb), h⟩
  · rw [List.pairwise_map]
    refine List.Pairwise.imp_of_mem ?_ p2
    intro a b ha hb h
    exact ⟨a, b, rfl, rfl, ok a (hp.mem_iff.mpr ((List.mergeSort_perm _ _).mem_iff.mp ha)), ok b (hp.mem_iff.mpr ((List.mergeSort_perm _ _).mem_iff.mp hb)), h⟩

/-! ### the meeting of two places -/
noncomputable def nexts (R : Rows) (i : Nat) : List Nat := match R[settle R i]? with
  | some (.ask _ nx) => nx.map (settle R)
  | _ => []
def addNew (o : List (Nat × Nat)) (p : Nat × Nat) : List (Nat × Nat) := if p ∈ o then o else o ++ [p]
noncomputable def meet (R : Rows) : Nat → Nat → List (Nat × Nat) → Bool
  | 0, _, _ => true
  | f + 1, at_, o => match o[at_]? with
    | none => true
    | some p => if PyData.eqv (showD R (settle R p.1)) (showD R (settle R p.2)) = true then meet R f (at_ + 1) (((nexts R p.1).zip (nexts R p.2)).foldl addNew o) else false
theorem addNew_nodup {o : List (Nat × Nat)} {p : Nat × Nat} (h : o.Nodup) : (addNew o p).Nodup := by
  unfold addNew
  by_cases c : p ∈ o
  · rw [if_pos c]; exact h
  · rw [if_neg c, List.nodup_append]
    refine ⟨h, by simp, fun a ha b hb => ?_⟩
    rw [List.mem_singleton.mp hb]
    exact fun q => c (q ▸ ha)
end Ask

namespace Ask
open PySem PySem.Spec PyProof.Rows L2 Evl

/-! ### the text -/
def topS (i : Nat) : Stmt := PySem.Challenge.pw_askfurther_k59_whole_stands_led_on_every.main.body.getD i (.Pass ⟨0, 0, 0, 0⟩)
abbrev FnP (K : PySem.W.Frag) (x qual : Str) (st : Stmt) (f : Addr) (fd : FuncData) : Prop := FunD K x qual (defArgs st) (defBody st) (defScope st) [] [] f fd
/-- a def of the module under its name -/
def Dh (K : PySem.W.Frag) (mg : Str → Option Value) (x : Str) (st : Stmt) : Prop := ∃ f fd, FnP K x x st f fd ∧ mg x = some (.ref f)
/-- .. that keeps a promise -/
def Cal (P : Program) (w : World) (K : PySem.W.Frag) (mg : Str → Option Value) (base : Heap) (k : Nat) (x : Str) (sp : Sp) : Prop :=
  ∃ (f : Addr) (fd : FuncData) (ps : List Str), FnOk P w K mg base CX0 k f fd ps sp ∧ mg x = some (.ref f) ∧ PySem.W.keepIn K (.ref f) = true ∧ Binds K fd ps []
abbrev E0 : XK := fun _ _ _ => False
section
variable {P : Program} {w : World} {K : PySem.W.Frag} {mg : Str → Option Value} {base : Heap}
theorem Dh.cal {x : Str} {st : Stmt} {N ps : List Str} {k : Nat} {sp : Sp} (D : Dh K mg x st) (S : FnScope N ps (defScope st))
    (hb : ∀ (kV doc pm : Value) (an : Option Addr) (cdv ct : Value) (us : List Value), us.length = ps.length → bindArgs (PySem.W.fnOf x x (defArgs st) (defBody st) (defScope st) .none kV doc pm an cdv ct) ⟨us, []⟩ = pure (ps.zip us))
    (len : ∀ vs H Q E, sp vs H Q E → vs.length = ps.length)
    (body : ∀ (f : Addr) (cdv : Value) (A : Around) (outer : List Env) (s : Shared) (H : Hp) (vs : List V) (Q : VK) (E : XK), Room k (A.deeper (envOfC x (defScope st) s.heap.objs.size f cdv)) → sp vs H Q E →
      ∃ t, PSs (cxOf CX0 P w K mg base N x (defScope st) f cdv A outer s H E).nox (defBody st) t ∧ t { nx := fun _ H' => Q .non H', rt := Q } (start N vs) H) : Cal P w K mg base (k + 1) x sp := by
  obtain ⟨f, fd, F, g⟩ := D
  exact ⟨f, fd, ps, F.ok S len (fun cdv A outer s H vs Q E hr h => let ⟨t, h1, h2⟩ := body f cdv A outer s H vs Q E hr h; ⟨t, h1.nox, h2⟩), g, F.kp, F.bindsN hb⟩
end
section
variable {X : Cx} {k j : Nat} {x : Str} {sp : Sp} {p pos : Pos} {e : Expr} {es : List Expr} {t : TA}
theorem pe_f (c : Cal X.prog X.w X.K X.mg X.base k x sp) (hr : Room j X.A) (hk : k ≤ j) (hg : Gl X x) (ha : PA X (e :: es) t)
    (hdb : (x == ("__debug__" : Str)) = false := by decide) (he : starEach (e :: es) X.env = (false, eval e X.env) :: starEach es X.env := by rfl) (hpl : (backTo pos (starEach es X.env)).any (·.1) = false := by rfl) :
    PE X (.Call (.Name x p) (e :: es) [] pos) (tCall sp [] E0 t) := by
  obtain ⟨f, fd, ps, F, hm, kp, b⟩ := c
  exact pe_call F (hr.mono hk) hg hm kp b .nil pass0 ha hdb he hpl
end
/-- the built-in names that the text uses are no names of the module -/
structure Bn (mg : Str → Option Value) : Prop where
  isinstance : mg "isinstance" = none
  int : mg "int" = none
  bool : mg "bool" = none
  str : mg "str" = none
  len : mg "len" = none
  all : mg "all" = none
  list : mg "list" = none
  tuple : mg "tuple" = none
  dict : mg "dict" = none
  min : mg "min" = none
  enumerate : mg "enumerate" = none
  range : mg "range" = none
  zip : mg "zip" = none
  sorted : mg "sorted" = none
theorem boot_isi : bootBuiltins "isinstance" = some (.builtin "isinstance") := by decide +kernel
theorem boot_all : bootBuiltins "all" = some (.builtin "all") := by decide +kernel
theorem boot_min : bootBuiltins "min" = some (.builtin "min") := by decide +kernel
theorem boot_sorted : bootBuiltins "sorted" = some (.builtin "sorted") := by decide +kernel
theorem boot_int : bootBuiltins "int" = some (.type "int") := by decide +kernel
theorem boot_bool : bootBuiltins "bool" = some (.type "bool") := by decide +kernel
theorem boot_str : bootBuiltins "str" = some (.type "str") := by decide +kernel
theorem boot_list : bootBuiltins "list" = some (.type "list") := by decide +kernel
theorem boot_tuple : bootBuiltins "tuple" = some (.type "tuple") := by decide +kernel
theorem boot_dict : bootBuiltins "dict" = some (.type "dict") := by decide +kernel

/-! ### evaluating to something of which P is true -/
def EvP (te : TE) (σ : L2.St) (H : Hp) (P : V → Hp → Prop) : Prop := ∀ H1, Ex H H1 → ∀ Q : VK, (∀ v H2, Ex H1 H2 → P v H2 → Q v H2) → te σ H1 Q
def RetP (P : V → Hp → Prop) (H : Hp) (Q : VK) : Prop := ∀ v H2, Ex H H2 → P v H2 → Q v H2
/-- what a caller asks of a promise -/
def SpP (sp : Sp) (vs : List V) (H : Hp) (P : V → Hp → Prop) : Prop := ∀ H1, Ex H H1 → ∀ Q : VK, (∀ v H2, Ex H1 H2 → P v H2 → Q v H2) → ∀ E : XK, sp vs H1 Q E
section
variable {K : PySem.W.Frag} {σ : L2.St} {H H' : Hp} {ta tb te : TE} {v : V} {P P' : V → Hp → Prop}
theorem EvP.mono (e : Ex H H') (h : EvP te σ H P) : EvP te σ H' P := fun H1 a Q q => h H1 (e.trans a) Q q
theorem EvP.imp (h : EvP te σ H P) (k : ∀ v H1, Ex H H1 → P v H1 → P' v H1) : EvP te σ H P' := fun H1 a Q q => h H1 a Q fun v H2 e2 p => q v H2 e2 (k v H2 (a.trans e2) p)
theorem ep_of (h : Ev te σ H v) (k : ∀ H1, Ex H H1 → P v H1) : EvP te σ H P := fun H1 e Q q => h H1 e _ fun H2 e2 => q v H2 e2 (k H2 (e.trans e2))
theorem ep_call {sp : Sp} {vs : List V} {E : XK} {t : TA} (h : EvA t σ H vs) (hs : SpP sp vs H P) : EvP (tCall sp [] E t) σ H P := fun H1 e Q q =>
  h H1 e _ fun H2 e2 => by
    show sp (vs ++ []) H2 Q E
    rw [List.append_nil]
    exact hs H2 (e.trans e2) Q (fun v H3 e3 p => q v H3 (e2.trans e3) p) E
theorem ev_f {sp : Sp} {vs : List V} {E : XK} {t : TA} (h : EvA t σ H vs) (hs : SpV sp vs H v) : Ev (tCall sp [] E t) σ H v := ev_call h (by rw [List.append_nil]; exact hs)
theorem rp_ret (h : EvP te σ H P) {D : Ends} (k : ∀ v H1, Ex H H1 → P v H1 → D.rt v H1) : tRet te D σ H := h H (Ex.refl H) _ k
end

/-! ### validators: everything handed in is what it should be -/
abbrev sIsInt : Stmt := topS 14
abbrev sIsName : Stmt := topS 15
abbrev sIsRow : Stmt := topS 16
abbrev sIsIndex : Stmt := topS 17
def spIsInt : Sp := fun vs H Q _ => ∃ i, vs = [.int i] ∧ RetV (.bl true) H Q
def spIsName : Sp := fun vs H Q _ => ∃ z, vs = [.str z] ∧ Word z ∧ RetV (.bl true) H Q
/-- a list or a tuple; a text or an int -/
def RowLike (K : PySem.W.Frag) (H : Hp) (v : V) (b : Bool) : Prop := (∃ a xs, v = .ref a ∧ (SqL K H a xs ∨ SqT K H a xs) ∧ b = true) ∨ ((∃ z, v = .str z) ∧ b = false) ∨ ((∃ i, v = .int i) ∧ b = false)
def spIsRow (K : PySem.W.Frag) : Sp := fun vs H Q _ => ∃ v b, vs = [v] ∧ RowLike K H v b ∧ RetV (.bl b) H Q
def spIsIndex : Sp := fun vs H Q _ => ∃ i n : Int, vs = [.int i, .int n] ∧ 0 ≤ i ∧ i < n ∧ RetV (.bl true) H Q
section
variable {P : Program} {w : World} {K : PySem.W.Frag} {mg : Str → Option Value} {base : Heap}
theorem scIsInt : FnScope ["thing"] ["thing"] (defScope sIsInt) := ⟨rfl, rfl, rfl, by decide +kernel, rfl, by decide +kernel, by decide +kernel⟩
theorem cal_isInt (B : Bn mg) (D : Dh K mg "is_integer" sIsInt) : Cal P w K mg base 1 "is_integer" spIsInt := by
  refine D.cal (k := 0) scIsInt (fun _ _ _ _ _ _ us hl => match us, hl with | [_], _ => rfl) (fun vs H Q E h => by obtain ⟨_, rfl, _⟩ := h; rfl) fun f cdv A outer s H vs Q E hr h => ?_
  obtain ⟨i, rfl, k⟩ := h
  refine ⟨_, pss_one (ps_ret (pe_and (pe_callB call_isi (by rfl) B.isinstance boot_isi (pa_cons (pv 0) (pa_cons (pe_bltn (v := .ty "int") (by rfl) B.int boot_int rfl) pa_nil)))
    (pe_one (pe_not (pe_callB call_isi (by rfl) B.isinstance boot_isi (pa_cons (pv 0) (pa_cons (pe_bltn (v := .ty "bool") (by rfl) B.bool boot_bool rfl) pa_nil))))))), ?_⟩
  refine ⟨_, rfl, _, _, _, _, true, rfl, .ty "int", .base (.int i), kit_ty (by decide +kernel), true, rfl, ?_⟩
  refine ⟨_, rfl, _, _, _, _, false, rfl, .ty "bool", .base (.int i), kit_ty (by decide +kernel), false, rfl, ?_⟩
  exact k H (Ex.refl H)
end
end Ask

namespace Ask
open PySem PySem.Spec PyProof.Rows L2 Evl

/-! ### a heap with one object out of sight -/
def hid (D : Addr) (H : Hp) : Hp := fun a => if a = D then none else H a
theorem hid_same {D : Addr} {H : Hp} : hid D H D = none := by simp [hid]
theorem hid_ne {D a : Addr} {H : Hp} (h : a ≠ D) : hid D H a = H a := by simp [hid, h]
theorem ex_hid {D : Addr} {H : Hp} : Ex (hid D H) H := fun a o h => by
  unfold hid at h
  split at h
  · cases h
  · exact h
theorem hid_ex {D : Addr} {H H' : Hp} (e : Ex H H') : Ex (hid D H) (hid D H') := fun a o h => by
  unfold hid at h ⊢
  split at h
  · cases h
  · rename_i n
    rw [if_neg n]
    exact e a o h
theorem hid_upd {D : Addr} {H : Hp} {o : HO} : hid D (upd H D o) = hid D H := by
  funext a
  unfold hid
  by_cases c : a = D
  · rw [if_pos c, if_pos c]
  · rw [if_neg c, if_neg c, upd_ne c]
theorem hid_none {D : Addr} {H : Hp} (h : H D = none) : Ex H (hid D H) := fun a o e => by
  rw [hid_ne (fun q => by rw [q, h] at e; cases e)]
  exact e
theorem tk_hid {K : PySem.W.Frag} {D : Addr} {H : Hp} {xs : List V} (h : H D = some (.lst xs)) : Tk K H (hid D H) := fun a ys q => by
  rcases q with (q | ⟨u, q⟩) | q
  · refine .inl (.inl ?_)
    rw [hid_ne (fun z => by rw [z, h] at q; cases q)]
    exact q
  · refine .inl (.inr ⟨u, ?_⟩)
    rw [hid_ne (fun z => by rw [z, h] at q; cases q)]
    exact q
  · exact .inr q
/-- each of the new list's items is what it should be -/
def AllP (P : Nat → V → Hp → Prop) (acc : List V) (H : Hp) : Prop := ∀ j v, acc[j]? = some v → P j v H
theorem AllP.app {P : Nat → V → Hp → Prop} {acc : List V} {H : Hp} {y : V} (h : AllP P acc H) (hy : P acc.length y H) : AllP P (acc ++ [y]) H := fun j v e => by
  by_cases c : j < acc.length
  · rw [List.getElem?_append_left c] at e
    exact h j v e
  · rw [List.getElem?_append_right (by omega)] at e
    have hj : j - acc.length = 0 := by
      cases q : j - acc.length with
      | zero => rfl
      | succ n => rw [q] at e; simp at e
    rw [hj] at e
    have : y = v := by simpa using e
    have hj2 : j = acc.length := by omega
    rw [← this, hj2]
    exact hy
/-- [elt for target in iter] -/
theorem lc_P {J : It} {n : Nat} {G : Hp → Prop} {Y : Nat → Hp → V → Hp → Prop} (P : Nat → V → Hp → Prop) (mono : ∀ j v H H', Ex H H' → P j v H → P j v H') (w : Walk J n G Y) {g : TG} {te : TE} {vs : List Nat} {σ : L2.St} {H1 : Hp} {D : Addr} {Qd : Hp → Prop} (hD : H1 D = none) (hn : n ≤ 100000) (hG : ∀ H, Ex H1 H → G H)
    (hs : ∀ i x H H', i < n → Ex H1 H → (∃ acc, H D = some (.lst acc)) → Y i H x H' → ∀ R : V → Hp → Prop, (∀ y H4, Ex H H4 → P i y (hid D H4) → R y H4) → g x (wipe σ vs) H' fun σ2 H2 => wipe σ2 vs = wipe σ vs ∧ te σ2 H2 R)
    (hd : ∀ H acc, Ex H1 H → H D = some (.lst acc) → acc.length = n → AllP P acc (hid D H) → Qd H) :
    ∃ W : Nat → Nat → Hp → Prop, (∃ m, W 0 m (upd H1 D (.lst []))) ∧ ∀ i m H, W i m H →
      (J.stop i H ∧ Qd H) ∨ (J.go i H ∧ ∃ Nx : Hp → Prop, (∀ H', Nx H' → ∃ m', m' < m ∧ W (i + 1) m' H') ∧ ∀ x H', J.yld i H x H' → g x (wipe σ vs) H' fun σ2 H2 => wipe σ2 vs = wipe σ vs ∧ tYes σ2 H2 fun b H3 =>
        if b = true then te σ2 H3 fun y H4 => ∃ acc, H4 D = some (.lst acc) ∧ acc.length < sizeLine ∧ Nx (upd H4 D (.lst (acc ++ [y]))) else Nx H3) := by
  refine lc_it w (tt := tYes) (fun i H => Ex H1 H ∧ ∃ acc, H D = some (.lst acc) ∧ acc.length = i ∧ AllP P acc (hid D H)) ⟨Ex.new hD, [], upd_same, rfl, fun j v e => by simp at e⟩ (fun i H _ p => hG H p.1) ?_ (fun H p => ?_)
  · rintro i x H H' hi ⟨e1, acc, h1, h2, h3⟩ y
    refine hs i x H H' hi e1 ⟨acc, h1⟩ y _ fun y H4 e4 p4 => ?_
    refine ⟨acc, e4 D _ h1, sz_lt (by omega), Ex.mut (e1.trans e4) hD, acc ++ [y], upd_same, by rw [List.length_append, h2]; rfl, ?_⟩
    rw [hid_upd]
    refine AllP.app (fun j v e => mono j v _ _ (hid_ex e4) (h3 j v e)) ?_
    rw [h2]
    exact p4
  · obtain ⟨e1, acc, h1, h2, h3⟩ := p
    exact hd H acc e1 h1 h2 h3
theorem all_true {acc : List V} {n : Nat} {H : Hp} (hl : acc.length = n) (h : AllP (fun _ v _ => v = .bl true) acc H) : acc = (List.replicate n true).map V.bl := by
  apply List.ext_getElem?
  intro i
  rw [List.getElem?_map, List.getElem?_replicate]
  by_cases c : i < n
  · rw [if_pos c]
    have : acc[i]? = some (acc[i]'(by omega)) := by simp [hl, c]
    rw [this, h i _ this]
    rfl
  · rw [if_neg c, List.getElem?_eq_none (by omega)]
    rfl
theorem all_rep (n : Nat) : (List.replicate n true).all id = true := by simp

section
variable {P : Program} {w : World} {K : PySem.W.Frag} {mg : Str → Option Value} {base : Heap}
theorem bl_true {p : Prop} [Decidable p] (h : p) : V.bl (decide p) = V.bl true := by rw [decide_eq_true h]
theorem bl_false {p : Prop} [Decidable p] (h : ¬ p) : V.bl (decide p) = V.bl false := by rw [decide_eq_false h]
theorem bl_false' {p : Prop} [Decidable p] (h : p) : V.bl (!decide p) = V.bl false := by rw [decide_eq_true h]; rfl
theorem bl_true' {p : Prop} [Decidable p] (h : ¬ p) : V.bl (!decide p) = V.bl true := by rw [decide_eq_false h]; rfl
theorem q_true {Q : VK} {H : Hp} {p : Prop} [Decidable p] (h : p) (q : Q (.bl true) H) : Q (.bl (decide p)) H := by
  rw [decide_eq_true h]
  exact q
theorem q_false {Q : VK} {H : Hp} {p : Prop} [Decidable p] (h : ¬ p) (q : Q (.bl false) H) : Q (.bl (decide p)) H := by
  rw [decide_eq_false h]
  exact q
/-! ### is_name, is_row, is_index -/
def letters : Str := "abcdefghijklmnopqrstuvwxyz"
theorem word_all {z : Str} (h : Word z) : 1 ≤ z.length ∧ z.length ≤ 8 ∧ ∀ c ∈ z.cps.toList, c ∈ letters.cps.toList := by
  have all : (names6 ++ words2).all (fun z => decide (1 ≤ z.length ∧ z.length ≤ 8) && z.cps.toList.all fun c => letters.cps.toList.contains c) = true := by decide +kernel
  have := List.all_eq_true.mp all z h
  rw [Bool.and_eq_true, decide_eq_true_eq, List.all_eq_true] at this
  exact ⟨this.1.1, this.1.2, fun c hc => by simpa using this.2 c hc⟩
theorem scIsName : FnScope ["thing", "sign"] ["thing"] (defScope sIsName) := ⟨rfl, rfl, rfl, by decide +kernel, rfl, by decide +kernel, by decide +kernel⟩
theorem cal_isName (B : Bn mg) (gL : ∃ t, mg "LETTERS" = some (.str letters t)) (D : Dh K mg "is_name" sIsName) : Cal P w K mg base 1 "is_name" spIsName := by
  obtain ⟨tL, gL⟩ := gL
  refine D.cal (k := 0) scIsName (fun _ _ _ _ _ _ us hl => match us, hl with | [_], _ => rfl) (fun vs H Q E h => by obtain ⟨_, rfl, _⟩ := h; rfl) fun f cdv A outer s H vs Q E hr h => ?_
  obtain ⟨z, rfl, hz, k⟩ := h
  obtain ⟨h1, h8, hl⟩ := word_all hz
  refine ⟨_, pss_one (ps_ret (pe_and (pe_callB call_isi (by rfl) B.isinstance boot_isi (pa_cons (pv 0) (pa_cons (pe_bltn (v := .ty "str") (by rfl) B.str boot_str rfl) pa_nil)))
    (pe_and (pe_chain op_le op_le pe_int (pe_callB call_len_str (by rfl) B.len PySem.boot_len (pa_cons (pv 0) pa_nil)) pe_int)
      (pe_one (pe_callB (cr_all rfl) (by rfl) B.all boot_all (pa_cons (pe_lc (own := [("sign", 1)]) (g := gName 1) (tt := tYes) rfl scIsName.nd (pi_str (pv 0)) (blkOk_by (N := ["thing", "sign"]) (sc := defScope sIsName) (by decide +kernel)) (fun _ _ _ _ _ => pg_name (i := 1) scIsName.nd rfl (Or.inl rfl)) (fun _ _ _ _ _ => pts_nil)
        (fun _ _ _ _ _ => pe_cmpR op_in_sign (pv 1) (pe_glob (v := .str letters) (by rfl) gL ⟨_, rfl⟩) (by rfl))) pa_nil)))))), ?_⟩
  refine ⟨_, rfl, _, _, _, _, true, rfl, .ty "str", .base (.str z), kit_ty (by decide +kernel), true, rfl, ?_⟩
  refine ⟨_, rfl, z, rfl, sz_of (by omega), 1, (z.length : Int), rfl, rfl, true, bl_true (by omega : (1 : Int) ≤ (z.length : Int)), ?_⟩
  refine ⟨(z.length : Int), 8, rfl, rfl, true, bl_true (by omega : (z.length : Int) ≤ 8), ?_⟩
  refine ⟨_, rfl, z, rfl, fun D hD => ?_⟩
  refine lc_P (fun _ v _ => v = .bl true) (fun _ _ _ _ _ h => h) (walk_str (z := z)) hD (by show z.length ≤ _; omega) (fun _ _ => trivial) ?_ ?_
  · rintro i x H2 H3 hi e2 _ ⟨rfl, c, hc, rfl⟩ R hR
    refine ⟨rfl, _, rfl, c, letters, rfl, rfl, hR _ _ (Ex.refl _) ?_⟩
    exact bl_true (hl c (by
      rw [← Array.getElem?_toList] at hc
      exact List.mem_of_getElem? hc))
  · intro H2 acc e2 h2 hlen hall
    have ea := all_true hlen hall
    subst ea
    refine ⟨D, _, rfl, sq_of h2, ?_⟩
    rw [all_rep]
    exact k H2 e2
theorem scIsRow : FnScope ["thing"] ["thing"] (defScope sIsRow) := ⟨rfl, rfl, rfl, by decide +kernel, rfl, by decide +kernel, by decide +kernel⟩
theorem tyx_l {H : Hp} {a : Addr} {xs : List V} (h : SqL K H a xs) : TyX K H (.ref a) (.type "list") := by
  rcases h with (h | ⟨u, h⟩) | ⟨o, its, n, hk, hc, _⟩
  · exact .base (.lst h)
  · exact .base (.frz h)
  · exact .kList hk hc
theorem tyx_t {H : Hp} {a : Addr} {xs : List V} (h : SqT K H a xs) : TyX K H (.ref a) (.type "tuple") := by
  rcases h with (h | ⟨u, h⟩) | ⟨o, its, n, hk, hc, _⟩
  · exact .base (.tup h)
  · exact .fTuple h
  · exact .kTuple hk hc
theorem cal_isRow (B : Bn mg) (D : Dh K mg "is_row" sIsRow) : Cal P w K mg base 1 "is_row" (spIsRow K) := by
  refine D.cal (k := 0) scIsRow (fun _ _ _ _ _ _ us hl => match us, hl with | [_], _ => rfl) (fun vs H Q E h => by obtain ⟨_, _, rfl, _⟩ := h; rfl) fun f cdv A outer s H vs Q E hr h => ?_
  obtain ⟨v, b, rfl, hv, k⟩ := h
  refine ⟨_, pss_one (ps_ret (pe_callB call_isiT (by rfl) B.isinstance boot_isi (pa_cons (pv 0) (pa_cons (pe_tup (pa_cons (pe_bltn (v := .ty "list") (by rfl) B.list boot_list rfl) (pa_cons (pe_bltn (v := .ty "tuple") (by rfl) B.tuple boot_tuple rfl) pa_nil))) pa_nil)))), ?_⟩
  refine ⟨v, rfl, by show 2 ≤ sizeLine; decide, fun p hp => ?_⟩
  have e : Ex H (upd H p (.tup [.ty "list", .ty "tuple"])) := Ex.new hp
  have tl : PySem.W.kitAny K (.type "list") [.type "list", .type "tuple"] = some true := kitAny_cons (b := true) (kit_ty (by decide +kernel)) (fun h => nomatch h) (fun _ => rfl)
  have tt : PySem.W.kitAny K (.type "tuple") [.type "list", .type "tuple"] = some true := kitAny_cons (b := false) (kit_ty (by decide +kernel)) (fun _ => kitAny_cons (b := true) (kit_ty (by decide +kernel)) (fun h => nomatch h) (fun _ => rfl)) (fun h => nomatch h)
  have ts : PySem.W.kitAny K (.type "str") [.type "list", .type "tuple"] = some false := kitAny_cons (b := false) (kit_ty (by decide +kernel)) (fun _ => kitAny_cons (b := false) (kit_ty (by decide +kernel)) (fun _ => kitAny_nil) (fun h => nomatch h)) (fun h => nomatch h)
  have ti : PySem.W.kitAny K (.type "int") [.type "list", .type "tuple"] = some false := kitAny_cons (b := false) (kit_ty (by decide +kernel)) (fun _ => kitAny_cons (b := false) (kit_ty (by decide +kernel)) (fun _ => kitAny_nil) (fun h => nomatch h)) (fun h => nomatch h)
  have cs : Paired ClsV [.ty "list", .ty "tuple"] [.type "list", .type "tuple"] := .cons (.ty "list") (.cons (.ty "tuple") .nil)
  rcases hv with ⟨a, xs, rfl, hs | hs, rfl⟩ | ⟨⟨z, rfl⟩, rfl⟩ | ⟨⟨i, rfl⟩, rfl⟩
  · exact ⟨_, p, _, _, _, true, rfl, upd_same, cs, tyx_l (ex_l e hs), tl, k _ e⟩
  · exact ⟨_, p, _, _, _, true, rfl, upd_same, cs, tyx_t (ex_t e hs), tt, k _ e⟩
  · exact ⟨_, p, _, _, _, false, rfl, upd_same, cs, .base (.str z), ts, k _ e⟩
  · exact ⟨_, p, _, _, _, false, rfl, upd_same, cs, .base (.int i), ti, k _ e⟩
theorem scIsIndex : FnScope ["thing", "many"] ["thing", "many"] (defScope sIsIndex) := ⟨rfl, rfl, rfl, by decide +kernel, rfl, by decide +kernel, by decide +kernel⟩
theorem cal_isIndex (D : Dh K mg "is_index" sIsIndex) (c1 : Cal P w K mg base 1 "is_integer" spIsInt) : Cal P w K mg base 2 "is_index" spIsIndex := by
  refine D.cal (k := 1) scIsIndex (fun _ _ _ _ _ _ us hl => match us, hl with | [_, _], _ => rfl) (fun vs H Q E h => by obtain ⟨_, _, rfl, _⟩ := h; rfl) fun f cdv A outer s H vs Q E hr h => ?_
  obtain ⟨i, n, rfl, h0, hn, k⟩ := h
  refine ⟨_, pss_one (ps_ret (pe_and (pe_f c1 hr (Nat.le_refl _) (by rfl) (pa_cons (pv 0) pa_nil)) (pe_one (pe_chain op_le op_lt pe_int (pv 0) (pv 1))))), ?_⟩
  refine ⟨_, rfl, i, rfl, fun H1 e1 => ⟨true, rfl, ?_⟩⟩
  refine ⟨_, rfl, 0, i, rfl, rfl, true, bl_true h0, _, rfl, i, n, rfl, rfl, ?_⟩
  exact q_true (Q := Q) hn (k H1 e1)
end
end Ask

namespace Ask
open PySem PySem.Spec PyProof.Rows L2 Evl

theorem pe_nope {X : Cx} {e : Expr} : PE X e (fun _ _ _ => False) := ⟨fun _ _ _ _ _ _ h => h.elim⟩
section
variable {K : PySem.W.Frag} {H : Hp} {Q : VK}
theorem ixT {p : Addr} {xs : List V} {i : Nat} {v : V} (h : SqT K H p xs) (e : xs[i]? = some v) (q : Q v H) : rIxT K (.ref p) (.int (i : Nat)) H Q := ⟨p, xs, i, v, rfl, rfl, h, atI_nat e, q⟩
theorem ixL {p : Addr} {xs : List V} {i : Nat} {v : V} (h : SqL K H p xs) (e : xs[i]? = some v) (q : Q v H) : rIxL K (.ref p) (.int (i : Nat)) H Q := ⟨p, xs, i, v, rfl, rfl, h, atI_nat e, q⟩
end
/-! ### rows as objects -/
def RowXs (K : PySem.W.Frag) (H : Hp) (xs : List V) : Row → Prop
  | .ask nm nx => ∃ q, xs = [.str "ask", .str nm, .ref q] ∧ SqT K H q (nx.map fun (n : Nat) => V.int n)
  | .go n => xs = [.str "go", .int (n : Nat)]
  | .fin w => xs = [.str "end", .str w]
theorem row_shape {K : PySem.W.Frag} {H : Hp} {v : V} {r : Row} (h : Dp K H v (encRow r)) : ∃ p xs, v = .ref p ∧ SqT K H p xs ∧ RowXs K H xs r := by
  cases r with
  | ask nm nx =>
    cases h with
    | tup h1 h2 =>
      cases h2 with
      | cons a b =>
        cases a
        cases b with
        | cons a b =>
          cases a
          cases b with
          | cons a b =>
            cases b
            cases a with
            | tup g1 g2 =>
              refine ⟨_, _, rfl, h1, _, rfl, ?_⟩
              rw [← dpAll_ints g2]
              exact g1
  | go n =>
    cases h with
    | tup h1 h2 =>
      cases h2 with
      | cons a b =>
        cases a
        cases b with
        | cons a b =>
          cases a
          cases b
          exact ⟨_, _, rfl, h1, rfl⟩
  | fin w =>
    cases h with
    | tup h1 h2 =>
      cases h2 with
      | cons a b =>
        cases a
        cases b with
        | cons a b =>
          cases a
          cases b
          exact ⟨_, _, rfl, h1, rfl⟩
def RowsT (K : PySem.W.Frag) (H : Hp) (a : Addr) (R : Rows) : Prop := ∃ vs, SqT K H a vs ∧ DpAll K H vs (R.map encRow)
def RowsL (K : PySem.W.Frag) (H : Hp) (a : Addr) (R : Rows) : Prop := ∃ vs, SqL K H a vs ∧ DpAll K H vs (R.map encRow)
theorem rows_get {K : PySem.W.Frag} {H : Hp} {vs : List V} {R : Rows} (h : DpAll K H vs (R.map encRow)) {i : Nat} {r : Row} (e : R[i]? = some r) : ∃ p xs, vs[i]? = some (.ref p) ∧ SqT K H p xs ∧ RowXs K H xs r := by
  have e' : (R.map encRow)[i]? = some (encRow r) := by rw [List.getElem?_map, e]; rfl
  obtain ⟨v, hv, d⟩ := dpAll_get' h e'
  obtain ⟨p, xs, rfl, a, b⟩ := row_shape d
  exact ⟨p, xs, hv, a, b⟩
theorem rows_len {K : PySem.W.Frag} {H : Hp} {vs : List V} {R : Rows} (h : DpAll K H vs (R.map encRow)) : vs.length = R.length := by
  have := dpAll_len' h
  rwa [List.length_map] at this
theorem RowsT.ex {K : PySem.W.Frag} {H H' : Hp} {a : Addr} {R : Rows} (k : ROk R) (h : RowsT K H a R) (e : Ex H H') : RowsT K H' a R := by
  obtain ⟨vs, h1, h2⟩ := h
  exact ⟨vs, ex_t e h1, dpAll_tk (Tk.ex e) _ _ (td_rows k) h2⟩
theorem RowsL.ex {K : PySem.W.Frag} {H H' : Hp} {a : Addr} {R : Rows} (k : ROk R) (h : RowsL K H a R) (e : Ex H H') : RowsL K H' a R := by
  obtain ⟨vs, h1, h2⟩ := h
  exact ⟨vs, ex_l e h1, dpAll_tk (Tk.ex e) _ _ (td_rows k) h2⟩
/-- from the items one by one -/
theorem dpAll_of {K : PySem.W.Frag} {H : Hp} : ∀ {vs : List V} {ds : List PyData}, vs.length = ds.length → (∀ (j : Nat) (v : V), vs[j]? = some v → ∃ d, ds[j]? = some d ∧ Dp K H v d) → DpAll K H vs ds
  | [], [], _, _ => .nil
  | v :: vs, d :: ds, hl, h => by
    obtain ⟨d', e, q⟩ := h 0 v rfl
    have : d = d' := Option.some.inj e
    rw [← this] at q
    exact .cons q (dpAll_of (by simpa using hl) fun (j : Nat) v e => h (j + 1) v e)

/-! ### the operations -/
abbrev Nums := List (Str × Nat)
def numKV (ns : Nums) : List (Key × V) := ns.map fun p => (.inr p.1, .int (p.2 : Nat))
structure NOk (ns : Nums) : Prop where
  few : ns.length ≤ 4
  ok : ∀ p ∈ ns, p.1 ∈ names6 ∧ p.2 ≤ 3
  nd : (ns.map Prod.fst).Nodup
theorem valV_num : ∀ {ns : Nums} {nm : Str} {n : Nat}, ns.lookup nm = some n → valV (numKV ns) (.inr nm) = some (.int (n : Nat))
  | (a, b) :: ns, nm, n, h => by
    unfold valV numKV
    rw [List.map_cons, List.find?_cons]
    by_cases c : a = nm
    · subst c
      have e : b = n := by
        have h2 : (match a == a with | true => some b | false => ns.lookup a) = some n := h
        rw [beq_self_eq_true] at h2
        exact Option.some.inj h2
      subst e
      simp
    · have h2 : (match nm == a with | true => some b | false => ns.lookup nm) = some n := h
      rw [beq_eq_false_iff_ne.mpr (fun q => c q.symm)] at h2
      have ih := valV_num h2
      unfold valV numKV at ih
      have e : decide ((Sum.inr a : Key) = Sum.inr nm) = false := decide_eq_false (fun q => c (Sum.inr.inj q))
      simp only [e]
      exact ih
/-- the rows ask by these numbers -/
def RNs (ns : Nums) (R : Rows) : Prop := ∀ nm nx, Row.ask nm nx ∈ R → ns.lookup nm = some nx.length

section
variable {P : Program} {w : World} {K : PySem.W.Frag} {mg : Str → Option Value} {base : Heap}
/-! ### frozen -/
abbrev sFrozen : Stmt := topS 18
def spFrz (K : PySem.W.Frag) (n : Nat) : Sp := fun vs H Q _ => ∃ v d, vs = [v] ∧ td d = true ∧ d.depth ≤ n ∧ Dp K H v d ∧ RetP (fun v' H' => Dp K H' v' d) H Q
theorem scFrozen : FnScope ["thing", "one"] ["thing"] (defScope sFrozen) := ⟨rfl, rfl, rfl, by decide +kernel, rfl, by decide +kernel, by decide +kernel⟩
theorem dpAll_depth : ∀ {ds : List PyData} {n : Nat}, PyData.depthAll ds ≤ n → ∀ d ∈ ds, d.depth ≤ n
  | d :: ds, n, h, e, he => by
    simp only [PyData.depthAll] at h
    rcases List.mem_cons.mp he with q | q
    · rw [q]; omega
    · exact dpAll_depth (by omega) e q
/-- the comprehension of frozen, by what frozen gives one depth below -/
theorem cal_frozen (B : Bn mg) (D : Dh K mg "frozen" sFrozen) (c1 : Cal P w K mg base 1 "is_row" (spIsRow K)) : ∀ n, Cal P w K mg base (n + 2) "frozen" (spFrz K n) := by
  intro n
  induction n with
  | zero =>
    refine D.cal (k := 1) scFrozen (fun _ _ _ _ _ _ us hl => match us, hl with | [_], _ => rfl) (fun vs H Q E h => by obtain ⟨_, _, rfl, _⟩ := h; rfl) fun f cdv A outer s H vs Q E hr h => ?_
    obtain ⟨v, d, rfl, ht, hd, hv, k⟩ := h
    refine ⟨_, pss_one (ps_ret (pe_ifExp (pt_val (pe_f c1 hr (Nat.le_refl _) (by rfl) (pa_cons (pv 0) pa_nil))) pe_nope (pv 0))), ?_⟩
    refine ⟨_, rfl, v, false, rfl, ?_, fun H1 e1 => ⟨false, rfl, v, rfl, k v H1 e1 (dp_tk (Tk.ex e1) d v ht hv)⟩⟩
    cases d with
    | int i => cases hv; exact .inr (.inr ⟨⟨i, rfl⟩, rfl⟩)
    | str z => cases hv; exact .inr (.inl ⟨⟨z, rfl⟩, rfl⟩)
    | tuple ds => simp [PyData.depth] at hd
    | _ => simp [td] at ht
  | succ n ih =>
    refine D.cal (k := n + 2) scFrozen (fun _ _ _ _ _ _ us hl => match us, hl with | [_], _ => rfl) (fun vs H Q E h => by obtain ⟨_, _, rfl, _⟩ := h; rfl) fun f cdv A outer s H vs Q E hr h => ?_
    obtain ⟨v, d, rfl, ht, hd, hv, k⟩ := h
    refine ⟨_, pss_one (ps_ret (pe_ifExp (pt_val (pe_f c1 hr (by omega) (by rfl) (pa_cons (pv 0) pa_nil)))
      (pe_tupleOf (by rfl) B.tuple (pe_lc (own := [("one", 1)]) (g := gName 1) (tt := tYes) rfl scFrozen.nd (pi_tup (pv 0)) (blkOk_by (N := ["thing", "one"]) (sc := defScope sFrozen) (by decide +kernel)) (fun _ _ _ _ _ => pg_name (i := 1) scFrozen.nd rfl (Or.inl rfl)) (fun _ _ _ _ _ => pts_nil)
        (fun _ _ _ _ _ => pe_f ih hr (Nat.le_refl _) (by rfl) (pa_cons (pv 1) pa_nil)))) (pv 0))), ?_⟩
    refine ⟨_, rfl, v, ?_⟩
    cases d with
    | int i => cases hv; exact ⟨false, rfl, .inr (.inr ⟨⟨i, rfl⟩, rfl⟩), fun H1 e1 => ⟨false, rfl, _, rfl, k _ H1 e1 (.int i)⟩⟩
    | str z => cases hv; exact ⟨false, rfl, .inr (.inl ⟨⟨z, rfl⟩, rfl⟩), fun H1 e1 => ⟨false, rfl, _, rfl, k _ H1 e1 (.str z)⟩⟩
    | tuple ds =>
      cases hv with
      | @tup a xs _ h1 h2 =>
        obtain ⟨hl1000, htd⟩ := td_tup ht
        have hdep : PyData.depthAll ds ≤ n := by simpa [PyData.depth] using hd
        refine ⟨true, rfl, .inl ⟨a, xs, rfl, .inr h1, rfl⟩, fun H1 e1 => ⟨true, rfl, ?_⟩⟩
        refine ⟨_, rfl, a, rfl, ⟨xs, ex_t e1 h1⟩, fun Dl hD => ?_⟩
        refine lc_P (fun j v H => ∃ d, ds[j]? = some d ∧ td d = true ∧ Dp K H v d) (fun j v H H' e ⟨d, q1, q2, q3⟩ => ⟨d, q1, q2, dp_tk (Tk.ex e) d v q2 q3⟩) (walk_tup (xs := xs)) hD ?_ (fun H2 e2 => ex_t (e1.trans e2) h1) ?_ ?_
        · rw [dpAll_len' h2]; omega
        · rintro i x H2 H3 hi e2 ⟨acc, hacc⟩ ⟨rfl, hx⟩ R hR
          obtain ⟨d, hd1, hd2⟩ := dpAll_get h2 hx
          have td1 := tdAll_mem htd d (List.mem_of_getElem? hd1)
          refine ⟨rfl, _, rfl, x, d, rfl, td1, dpAll_depth hdep d (List.mem_of_getElem? hd1), dp_tk (Tk.ex (e1.trans e2)) d x td1 hd2, fun v' H4 e4 p4 => hR v' H4 e4 ⟨d, hd1, td1, ?_⟩⟩
          exact dp_tk (tk_hid (e4 Dl _ hacc)) d v' td1 p4
        · intro H2 acc e2 hacc hlen hall
          refine .inl ⟨Dl, acc, rfl, sq_of hacc, fun q hq => ?_⟩
          refine k _ _ ((e1.trans e2).trans (Ex.new hq)) (.tup (st_of upd_same) ?_)
          refine dpAll_of (by rw [hlen, dpAll_len' h2]) fun j v e => ?_
          obtain ⟨d, q1, q2, q3⟩ := hall j v e
          exact ⟨d, q1, dp_tk (Tk.ex (ex_hid.trans (Ex.new hq))) d v q2 q3⟩
    | _ => simp [td] at ht
end
end Ask

namespace Ask
open PySem PySem.Spec PyProof.Rows L2 Evl

abbrev sIsOps : Stmt := topS 19
abbrev sIsAsk : Stmt := topS 24
abbrev sIsBody : Stmt := topS 25
abbrev sLook : Stmt := topS 26
def spIsOps : Sp := fun vs H Q _ => ∃ a ns, vs = [.ref a] ∧ H a = some (.dK (numKV ns)) ∧ NOk ns ∧ RetV (.bl true) H Q
section
variable {P : Program} {w : World} {K : PySem.W.Frag} {mg : Str → Option Value} {base : Heap}
theorem numKV_get {ns : Nums} {i : Nat} {k : Key} {v : V} (h : (numKV ns)[i]? = some (k, v)) : ∃ p, ns[i]? = some p ∧ k = .inr p.1 ∧ v = .int (p.2 : Nat) := by
  unfold numKV at h
  rw [List.getElem?_map] at h
  cases e : ns[i]? with
  | none => rw [e] at h; cases h
  | some p =>
    rw [e] at h
    have := Option.some.inj h
    exact ⟨p, rfl, (congrArg Prod.fst this).symm, (congrArg Prod.snd this).symm⟩
theorem scIsOps : FnScope ["thing", "name", "many"] ["thing"] (defScope sIsOps) := ⟨rfl, rfl, rfl, by decide +kernel, rfl, by decide +kernel, by decide +kernel⟩
/-- locked, then as it was -/
theorem ex_unlock {H H' : Hp} {d : Addr} {u : HO} {od : Obj} (hd : H d = some u) (e : Ex (upd H d (.frz od u)) H') : Ex H (upd H' d u) := fun a o h => by
  by_cases c : a = d
  · subst c
    rw [hd] at h
    rw [upd_same]
    exact h
  · rw [upd_ne c]
    exact e a o (by rw [upd_ne c]; exact h)
theorem cal_isOps (B : Bn mg) (gO : ∃ t, mg "MOST_OPERATIONS" = some (.int 8 t)) (gA : ∃ t, mg "MOST_ANSWERS" = some (.int 6 t)) (D : Dh K mg "is_operations" sIsOps) (c1 : Cal P w K mg base 1 "is_name" spIsName) (c2 : Cal P w K mg base 2 "is_index" spIsIndex) : Cal P w K mg base 3 "is_operations" spIsOps := by
  obtain ⟨tO, gO⟩ := gO
  obtain ⟨tA, gA⟩ := gA
  refine D.cal (k := 2) scIsOps (fun _ _ _ _ _ _ us hl => match us, hl with | [_], _ => rfl) (fun vs H Q E h => by obtain ⟨_, _, rfl, _⟩ := h; rfl) fun f cdv A outer s H vs Q E hr h => ?_
  obtain ⟨a, ns, rfl, ha, hn, k⟩ := h
  refine ⟨_, pss_cons (ps_if (pw_or (pt_not (pt_val (pe_callB call_isi (by rfl) B.isinstance boot_isi (pa_cons (pv 0) (pa_cons (pe_bltn (v := .ty "dict") (by rfl) B.dict boot_dict rfl) pa_nil)))))
      (pw_or1 (pt_cmpR op_gt (pe_callB call_lenD (by rfl) B.len PySem.boot_len (pa_cons (pv 0) pa_nil)) (pe_glob (v := .int 8) (by rfl) gO ⟨_, rfl⟩) (by rfl)))).pt pss_never pss_nil)
    (pss_one (ps_lock (ps_ret (pe_callB (cr_all rfl) (by rfl) B.all boot_all (pa_cons (pe_lc (own := [("name", 1), ("many", 2)]) (g := gTup K 2 (gCons (gName 1) (gCons (gName 2) gNil))) (tt := tYes) rfl scIsOps.nd (pi_items (pv 0)) (blkOk_by (N := ["thing", "name", "many"]) (sc := defScope sIsOps) (by decide +kernel))
      (fun _ _ _ _ _ => pg_tup rfl (pgs_cons (pg_name (i := 1) scIsOps.nd rfl (Or.inl rfl)) (pgs_cons (pg_name (i := 2) scIsOps.nd rfl (Or.inl rfl)) pgs_nil))) (fun _ _ _ _ _ => pts_nil)
      (fun _ _ _ _ _ => pe_and (pe_f c1 hr (by decide) (by rfl) (pa_cons (pv 1) pa_nil)) (pe_one (pe_f c2 hr (by decide) (by rfl) (pa_cons (pv 2) (pa_cons (pe_op op_add (pe_glob (v := .int 6) (by rfl) gA ⟨_, rfl⟩) pe_int) pa_nil)))))) pa_nil))))), ?_⟩
  refine ⟨_, rfl, _, _, _, _, true, rfl, .ty "dict", .base (.dK ha), kit_ty (by decide +kernel), true, rfl, ?_⟩
  refine ⟨_, rfl, a, _, rfl, ha, _, 8, rfl, rfl, false, ?_, ?_⟩
  · exact bl_false (by
      have := hn.few
      unfold numKV
      rw [List.length_map]
      omega)
  refine ⟨a, _, ha, trivial, fun od => ?_⟩
  refine ⟨_, rfl, a, od, _, rfl, upd_same, fun Dl hD => ?_⟩
  refine lc_P (fun _ v _ => v = .bl true) (fun _ _ _ _ _ h => h) (walk_items (kvs := numKV ns)) hD (by
      have := hn.few
      unfold numKV
      rw [List.length_map]
      omega) (fun H2 e2 => e2 _ _ upd_same) ?_ ?_
  · rintro i x H2 H3 hi e2 _ ⟨T, k1, v1, rfl, hT, rfl, hk1, hv1⟩ R hR
    have hk1 : ((numKV ns)[i]?).map (fun kv => kV kv.1) = some k1 := hk1
    have hv1 : ((numKV ns)[i]?).map Prod.snd = some v1 := hv1
    cases e : (numKV ns)[i]? with
    | none => rw [e] at hk1; cases hk1
    | some q =>
      obtain ⟨kk, vv⟩ := q
      rw [e] at hk1 hv1
      obtain ⟨p, hp, rfl, rfl⟩ := numKV_get e
      obtain rfl : V.str p.1 = k1 := Option.some.inj hk1
      obtain rfl : V.int (p.2 : Nat) = v1 := Option.some.inj hv1
      obtain ⟨hw, h3⟩ := hn.ok p (List.mem_of_getElem? hp)
      refine ⟨T, _, rfl, st_of upd_same, rfl, _, _, rfl, _, _, rfl, rfl, rfl, ?_⟩
      refine ⟨_, rfl, p.1, rfl, word_n hw, fun H4 e4 => ⟨true, rfl, ?_⟩⟩
      refine ⟨_, rfl, 6, 1, rfl, rfl, (p.2 : Int), 6 + 1, rfl, by omega, by omega, fun H5 e5 => ?_⟩
      exact hR _ _ ((Ex.new hT).trans (e4.trans e5)) rfl
  · intro H2 acc e2 h2 hlen hall
    have ea := all_true hlen hall
    subst ea
    refine ⟨Dl, _, rfl, sq_of h2, e2 _ _ upd_same, ?_⟩
    rw [all_rep]
    exact k _ (ex_unlock ha e2)

/-! ### a row -/
def spIsAsk (K : PySem.W.Frag) : Sp := fun vs H Q _ => ∃ od ns p q nm nx N, vs = [.ref od, .ref p, .int (N : Nat)] ∧ H od = some (.dK (numKV ns)) ∧ NOk ns ∧ SqT K H p [.str "ask", .str nm, .ref q] ∧ SqT K H q (nx.map fun (n : Nat) => V.int n) ∧ RowOk N (.ask nm nx) ∧ ns.lookup nm = some nx.length ∧ RetV (.bl true) H Q
theorem scIsAsk : FnScope ["operations", "row", "many", "one"] ["operations", "row", "many"] (defScope sIsAsk) := ⟨rfl, rfl, rfl, by decide +kernel, rfl, by decide +kernel, by decide +kernel⟩
theorem cal_isAsk (B : Bn mg) (D : Dh K mg "is_ask" sIsAsk) (cN : Cal P w K mg base 1 "is_name" spIsName) (cR : Cal P w K mg base 1 "is_row" (spIsRow K)) (cI : Cal P w K mg base 2 "is_index" spIsIndex) : Cal P w K mg base 3 "is_ask" (spIsAsk K) := by
  refine D.cal (k := 2) scIsAsk (fun _ _ _ _ _ _ us hl => match us, hl with | [_, _, _], _ => rfl) (fun vs H Q E h => by obtain ⟨_, _, _, _, _, _, _, rfl, _⟩ := h; rfl) fun f cdv A outer s H vs Q E hr h => ?_
  obtain ⟨od, ns, p, q, nm, nx, N, rfl, hod, hn, hp, hq, ⟨hnm, hl3, hnx⟩, hlk, k⟩ := h
  refine ⟨_, pss_cons (ps_if (pw_or (pt_cmpR op_ne (pe_callB call_len_seq (by rfl) B.len PySem.boot_len (pa_cons (pv 1) pa_nil)) pe_int (by rfl))
      (pw_or (pt_not (pt_val (pe_f cN hr (by decide) (by rfl) (pa_cons (pe_ix ix_tup (pv 1) pe_int fun _ _ => rfl) pa_nil))))
      (pw_or (pt_cmp (pc_dnotin (hu_of hr) (pe_ix ix_tup (pv 1) pe_int fun _ _ => rfl) (pv 0)))
      (pw_or1 (pt_not (pt_val (pe_f cR hr (by decide) (by rfl) (pa_cons (pe_ix ix_tup (pv 1) pe_int fun _ _ => rfl) pa_nil)))))))).pt pss_never pss_nil)
    (pss_one (ps_ret (pe_and (pe_cmpR op_eq (pe_callB call_len_seq (by rfl) B.len PySem.boot_len (pa_cons (pe_ix ix_tup (pv 1) pe_int fun _ _ => rfl) pa_nil)) (pe_dget (hu_of hr) (pv 0) (pe_ix ix_tup (pv 1) pe_int fun _ _ => rfl) (fun _ _ => rfl)) (by rfl))
      (pe_one (pe_callB (cr_all rfl) (by rfl) B.all boot_all (pa_cons (pe_lc (own := [("one", 3)]) (g := gName 3) (tt := tYes) rfl scIsAsk.nd (pi_tup (pe_ix ix_tup (pv 1) pe_int fun _ _ => rfl)) (blkOk_by (N := ["operations", "row", "many", "one"]) (sc := defScope sIsAsk) (by decide +kernel))
        (fun _ _ _ _ _ => pg_name (i := 3) scIsAsk.nd rfl (Or.inl rfl)) (fun _ _ _ _ _ => pts_nil) (fun _ _ _ _ _ => pe_f cI hr (Nat.le_refl _) (by rfl) (pa_cons (pv 3) (pa_cons (pv 2) pa_nil)))) pa_nil)))))), ?_⟩
  refine ⟨_, rfl, p, _, rfl, .inr hp, rfl, false, ?_, ?_⟩
  · rfl
  refine ⟨_, rfl, ixT (i := 1) hp rfl ⟨nm, rfl, word_n hnm, fun H1 e1 => ⟨true, rfl, ?_⟩⟩⟩
  refine ⟨_, rfl, ?_⟩
  refine ⟨p, _, 1, _, rfl, rfl, ex_t e1 hp, rfl, ?_⟩
  refine ⟨_, rfl, od, _, rfl, DGet.k (k := .inr nm) (e1 _ _ hod), ?_⟩
  rw [valV_num hlk]
  refine ⟨false, rfl, ?_⟩
  refine ⟨_, rfl, ixT (i := 2) (ex_t e1 hp) rfl ⟨_, true, rfl, .inl ⟨q, _, rfl, .inr (ex_t e1 hq), rfl⟩, fun H2 e2 => ⟨true, rfl, ?_⟩⟩⟩
  have e12 := e1.trans e2
  refine ⟨_, rfl, ixT (i := 2) (ex_t e12 hp) rfl ⟨q, _, rfl, .inr (ex_t e12 hq), ?_⟩⟩
  have dg : DGet H2 od (V.str nm) (some (.int (nx.length : Nat))) := by
    have := DGet.k (k := .inr nm) (e12 _ _ hod)
    rw [valV_num hlk] at this
    exact this
  refine ⟨_, rfl, _, rfl, p, _, 1, _, rfl, rfl, ex_t e12 hp, rfl, od, _, rfl, dg, rfl, true, ?_, ?_⟩
  · exact bl_true (by rw [List.length_map])
  refine ⟨_, rfl, p, _, 2, _, rfl, rfl, ex_t e12 hp, rfl, q, rfl, ⟨_, ex_t e12 hq⟩, fun Dl hD => ?_⟩
  refine lc_P (fun _ v _ => v = .bl true) (fun _ _ _ _ _ h => h) (walk_tup (xs := nx.map fun (n : Nat) => V.int n)) hD (by rw [List.length_map]; omega) (fun H3 e3 => ex_t (e12.trans e3) hq) ?_ ?_
  · rintro i x H3 H4 hi e3 _ ⟨rfl, hx⟩ R hR
    rw [List.getElem?_map] at hx
    cases e : nx[i]? with
    | none => rw [e] at hx; cases hx
    | some n =>
      rw [e] at hx
      obtain rfl : V.int (n : Nat) = x := Option.some.inj hx
      refine ⟨rfl, _, rfl, _, rfl, (n : Int), (N : Int), rfl, by omega, by have := hnx n (List.mem_of_getElem? e); omega, fun H5 e5 => hR _ _ e5 rfl⟩
  · intro H3 acc e3 h3 hlen hall
    have ea := all_true hlen hall
    subst ea
    refine ⟨Dl, _, rfl, sq_of h3, ?_⟩
    rw [all_rep]
    exact k H3 (e12.trans e3)
end
end Ask

namespace Ask
open PySem PySem.Spec PyProof.Rows L2 Evl

def spIsBody (K : PySem.W.Frag) : Sp := fun vs H Q _ => ∃ od ns v r N, vs = [.ref od, v, .int (N : Nat)] ∧ H od = some (.dK (numKV ns)) ∧ NOk ns ∧ Dp K H v (encRow r) ∧ RowOk N r ∧ (∀ nm nx, r = .ask nm nx → ns.lookup nm = some nx.length) ∧ RetV (.bl true) H Q
def spLook (K : PySem.W.Frag) : Sp := fun vs H Q _ => ∃ od ns ra R st, vs = [.ref od, .ref ra, .int (st : Nat)] ∧ H od = some (.dK (numKV ns)) ∧ NOk ns ∧ RowsL K H ra R ∧ ROk R ∧ RNs ns R ∧ st < R.length ∧ RetV .non H Q
theorem str_ne {a b : Str} (h : a ≠ b) : ¬ V.str a = V.str b := fun e => h (V.str.inj e)
section
variable {P : Program} {w : World} {K : PySem.W.Frag} {mg : Str → Option Value} {base : Heap}
theorem scIsBody : FnScope ["operations", "row", "many"] ["operations", "row", "many"] (defScope sIsBody) := ⟨rfl, rfl, rfl, by decide +kernel, rfl, by decide +kernel, by decide +kernel⟩
theorem cal_isBody (B : Bn mg) (D : Dh K mg "is_body_row" sIsBody) (cN : Cal P w K mg base 1 "is_name" spIsName) (cR : Cal P w K mg base 1 "is_row" (spIsRow K)) (cI : Cal P w K mg base 2 "is_index" spIsIndex) (cA : Cal P w K mg base 3 "is_ask" (spIsAsk K)) : Cal P w K mg base 4 "is_body_row" (spIsBody K) := by
  refine D.cal (k := 3) scIsBody (fun _ _ _ _ _ _ us hl => match us, hl with | [_, _, _], _ => rfl) (fun vs H Q E h => by obtain ⟨_, _, _, _, _, rfl, _⟩ := h; rfl) fun f cdv A outer s H vs Q E hr h => ?_
  obtain ⟨od, ns, v, r, N, rfl, hod, hn, hv, hok, hlk, k⟩ := h
  obtain ⟨p, xs, rfl, hp, hxs⟩ := row_shape hv
  refine ⟨_, pss_cons (ps_if (pw_or (pt_not (pt_val (pe_f cR hr (by decide) (by rfl) (pa_cons (pv 1) pa_nil)))) (pw_or (pt_cmpR op_eq (pe_callB call_len_seq (by rfl) B.len PySem.boot_len (pa_cons (pv 1) pa_nil)) pe_int (by rfl))
      (pw_or1 (pt_not (pt_val (pe_callB call_isi (by rfl) B.isinstance boot_isi (pa_cons (pe_ix ix_tup (pv 1) pe_int fun _ _ => rfl) (pa_cons (pe_bltn (v := .ty "str") (by rfl) B.str boot_str rfl) pa_nil)))))))).pt pss_never pss_nil)
    (pss_cons (ps_if (pt_cmpR op_eq (pe_ix ix_tup (pv 1) pe_int fun _ _ => rfl) pe_str (by rfl)) (pss_one (ps_ret (pe_f cA hr (by decide) (by rfl) (pa_cons (pv 0) (pa_cons (pv 1) (pa_cons (pv 2) pa_nil)))))) pss_nil)
    (pss_cons (ps_if (pt_cmpR op_eq (pe_ix ix_tup (pv 1) pe_int fun _ _ => rfl) pe_str (by rfl)) (pss_one (ps_ret (pe_and (pe_cmpR op_eq (pe_callB call_len_seq (by rfl) B.len PySem.boot_len (pa_cons (pv 1) pa_nil)) pe_int (by rfl))
      (pe_one (pe_f cN hr (by decide) (by rfl) (pa_cons (pe_ix ix_tup (pv 1) pe_int fun _ _ => rfl) pa_nil)))))) pss_nil)
    (pss_one (ps_ret (pe_and (pe_cmpR op_eq (pe_ix ix_tup (pv 1) pe_int fun _ _ => rfl) pe_str (by rfl)) (pe_and (pe_cmpR op_eq (pe_callB call_len_seq (by rfl) B.len PySem.boot_len (pa_cons (pv 1) pa_nil)) pe_int (by rfl))
      (pe_one (pe_f cI hr (by decide) (by rfl) (pa_cons (pe_ix ix_tup (pv 1) pe_int fun _ _ => rfl) (pa_cons (pv 2) pa_nil)))))))))), ?_⟩
  refine ⟨_, rfl, _, true, rfl, .inl ⟨p, xs, rfl, .inr hp, rfl⟩, fun H1 e1 => ⟨true, rfl, ?_⟩⟩
  have hp1 := ex_t e1 hp
  have neA : ¬ V.str "go" = V.str "ask" := str_ne (by decide +kernel)
  have neB : ¬ V.str "end" = V.str "ask" := str_ne (by decide +kernel)
  have neC : ¬ V.str "go" = V.str "end" := str_ne (by decide +kernel)
  cases r with
  | ask nm nx =>
    obtain ⟨q, rfl, hq⟩ := hxs
    refine ⟨_, rfl, p, _, rfl, .inr hp1, rfl, false, bl_false (fun e => by cases e), ?_⟩
    refine ⟨_, rfl, p, _, 0, _, rfl, rfl, hp1, rfl, _, _, _, _, true, rfl, .ty "str", .base (.str _), kit_ty (by decide +kernel), true, rfl, ?_⟩
    refine ⟨_, rfl, p, _, 0, _, rfl, rfl, hp1, rfl, rfl, true, bl_true rfl, ?_⟩
    refine ⟨_, rfl, _, rfl, _, rfl, od, ns, p, q, nm, nx, N, rfl, e1 _ _ hod, hn, hp1, ex_t e1 hq, hok, hlk nm nx rfl, fun H2 e2 => k H2 (e1.trans e2)⟩
  | fin z =>
    cases hxs
    refine ⟨_, rfl, p, _, rfl, .inr hp1, rfl, false, bl_false (fun e => by cases e), ?_⟩
    refine ⟨_, rfl, p, _, 0, _, rfl, rfl, hp1, rfl, _, _, _, _, true, rfl, .ty "str", .base (.str _), kit_ty (by decide +kernel), true, rfl, ?_⟩
    refine ⟨_, rfl, p, _, 0, _, rfl, rfl, hp1, rfl, rfl, false, bl_false neB, ?_⟩
    refine ⟨_, rfl, p, _, 0, _, rfl, rfl, hp1, rfl, rfl, true, bl_true rfl, ?_⟩
    refine ⟨_, rfl, p, _, rfl, .inr hp1, rfl, true, bl_true rfl, ?_⟩
    refine ⟨_, rfl, p, _, 1, _, rfl, rfl, hp1, rfl, _, rfl, word_w hok, fun H2 e2 => k H2 (e1.trans e2)⟩
  | go n =>
    cases hxs
    refine ⟨_, rfl, p, _, rfl, .inr hp1, rfl, false, bl_false (fun e => by cases e), ?_⟩
    refine ⟨_, rfl, p, _, 0, _, rfl, rfl, hp1, rfl, _, _, _, _, true, rfl, .ty "str", .base (.str _), kit_ty (by decide +kernel), true, rfl, ?_⟩
    refine ⟨_, rfl, p, _, 0, _, rfl, rfl, hp1, rfl, rfl, false, bl_false neA, ?_⟩
    refine ⟨_, rfl, p, _, 0, _, rfl, rfl, hp1, rfl, rfl, false, bl_false neC, ?_⟩
    refine ⟨_, rfl, p, _, 0, _, rfl, rfl, hp1, rfl, rfl, true, bl_true rfl, ?_⟩
    refine ⟨_, rfl, p, _, rfl, .inr hp1, rfl, true, bl_true rfl, ?_⟩
    refine ⟨_, rfl, p, _, 1, _, rfl, rfl, hp1, rfl, _, rfl, (n : Int), (N : Int), rfl, by omega, by have : n < N := hok; omega, fun H2 e2 => k H2 (e1.trans e2)⟩

theorem scLook : FnScope ["operations", "rows", "start", "index", "row"] ["operations", "rows", "start"] (defScope sLook) := ⟨rfl, rfl, rfl, by decide +kernel, rfl, by decide +kernel, by decide +kernel⟩
theorem cal_look (B : Bn mg) (gM : ∃ t, mg "MOST_ROWS" = some (.int 400 t)) (D : Dh K mg "look_body" sLook) (cO : Cal P w K mg base 3 "is_operations" spIsOps) (cR : Cal P w K mg base 1 "is_row" (spIsRow K)) (cI : Cal P w K mg base 2 "is_index" spIsIndex) (cB : Cal P w K mg base 4 "is_body_row" (spIsBody K)) : Cal P w K mg base 5 "look_body" (spLook K) := by
  obtain ⟨tM, gM⟩ := gM
  refine D.cal (k := 4) scLook (fun _ _ _ _ _ _ us hl => match us, hl with | [_, _, _], _ => rfl) (fun vs H Q E h => by obtain ⟨_, _, _, _, _, rfl, _⟩ := h; rfl) fun f cdv A outer s H vs Q E hr h => ?_
  obtain ⟨od, ns, ra, R, st, rfl, hod, hn, hR, hok, hns, hst, k⟩ := h
  refine ⟨_, pss_cons (ps_if (pt_not (pt_val (pe_f cO hr (by decide) (by rfl) (pa_cons (pv 0) pa_nil)))) pss_never pss_nil)
    (pss_cons (ps_if (pw_or (pt_not (pt_val (pe_f cR hr (by decide) (by rfl) (pa_cons (pv 1) pa_nil)))) (pw_or1 (pt_not (pt_chain op_le op_le pe_int (pe_callB call_len_seq (by rfl) B.len PySem.boot_len (pa_cons (pv 1) pa_nil)) (pe_glob (v := .int 400) (by rfl) gM ⟨_, rfl⟩))))).pt pss_never pss_nil)
    (pss_cons (ps_for PassesOwn.never rfl (pi_enum (by rfl) B.enumerate (pa_cons (pv 1) pa_nil)) (pg_tup rfl (pgs_cons (pg_name (i := 3) scLook.nd rfl (Or.inl rfl)) (pgs_cons (pg_name (i := 4) scLook.nd rfl (Or.inl rfl)) pgs_nil)))
      (pss_one (ps_if (pt_not (pt_val (pe_f cB hr (by decide) (by rfl) (pa_cons (pv 0) (pa_cons (pv 4) (pa_cons (pe_callB call_len_seq (by rfl) B.len PySem.boot_len (pa_cons (pv 1) pa_nil)) pa_nil)))))) pss_never pss_nil)))
    (pss_one (ps_if (pt_not (pt_val (pe_f cI hr (by decide) (by rfl) (pa_cons (pv 2) (pa_cons (pe_callB call_len_seq (by rfl) B.len PySem.boot_len (pa_cons (pv 1) pa_nil)) pa_nil))))) pss_never pss_nil)))), ?_⟩
  refine ⟨_, rfl, od, ns, rfl, hod, hn, fun H1 e1 => ⟨true, rfl, ?_⟩⟩
  obtain ⟨vs, hvs, hd⟩ := id hR
  have hlen := rows_len hd
  have hpos := hok.pos
  have hfew := hok.few
  refine ⟨_, rfl, _, true, rfl, .inl ⟨ra, vs, rfl, .inl (ex_l e1 hvs), rfl⟩, fun H2 e2 => ⟨true, rfl, ?_⟩⟩
  have e12 := e1.trans e2
  refine ⟨_, rfl, ra, vs, rfl, .inl (ex_l e12 hvs), 1, _, rfl, rfl, true, bl_true (by omega), ?_⟩
  refine ⟨_, 400, rfl, rfl, true, bl_true (by omega), ?_⟩
  refine ⟨_, rfl, ra, vs, rfl, ex_l e12 hvs, ?_⟩
  refine for_it (walk_enum (xs := vs)) (fun i σ H' => ∃ x y, σ = [some (.ref od), some (.ref ra), some (.int (st : Nat)), x, y] ∧ Ex H H') ⟨_, _, rfl, e12⟩ (fun i σ H' _ p => by
    obtain ⟨_, _, _, e⟩ := p
    exact ex_l e hvs) ?_ ?_
  · rintro i x σ H3 H4 hi ⟨x0, y0, rfl, e3⟩ ⟨T, k1, v1, rfl, hT, rfl, hk1, hv1⟩
    obtain rfl : V.int (i : Nat) = k1 := Option.some.inj hk1
    have hv1 : vs[i]? = some v1 := hv1
    refine ⟨T, _, rfl, st_of upd_same, rfl, _, _, rfl, _, _, rfl, rfl, ?_⟩
    have e4 : Ex H3 (upd H3 T (.tup [.int (i : Nat), v1])) := Ex.new hT
    have e34 := e3.trans e4
    obtain ⟨d, hd1, hd2⟩ := dpAll_get hd hv1
    rw [List.getElem?_map] at hd1
    cases er : R[i]? with
    | none => rw [er] at hd1; cases hd1
    | some r =>
      rw [er] at hd1
      obtain rfl : encRow r = d := Option.some.inj hd1
      have rok := hok.at er
      refine ⟨_, rfl, _, rfl, _, rfl, ra, vs, rfl, .inl (ex_l e34 hvs), od, ns, v1, r, R.length, ?_, e34 _ _ hod, hn, dp_tk (Tk.ex e34) _ _ (td_row rok) hd2, rok, fun nm nx e => hns nm nx (by rw [← e]; exact List.mem_of_getElem? er), fun H5 e5 => ⟨true, rfl, _, _, rfl, e34.trans e5⟩⟩
      rw [hlen]
      rfl
  · rintro σ H3 ⟨x0, y0, rfl, e3⟩
    refine ⟨_, rfl, _, rfl, ra, vs, rfl, .inl (ex_l e3 hvs), (st : Int), (vs.length : Int), rfl, by omega, by omega, fun H4 e4 => ⟨true, rfl, k H4 (e3.trans e4)⟩⟩
end
end Ask

namespace Ask
open PySem PySem.Spec PyProof.Rows L2 Evl

/-! ### the trail of a walk along go rows -/
def trail (R : Rows) (i n : Nat) : List Nat := (List.range n).map fun k => hops R k i
theorem trail_succ (R : Rows) (i n : Nat) : trail R i (n + 1) = trail R i n ++ [hops R n i] := by
  unfold trail
  rw [List.range_succ, List.map_append]
  rfl
theorem trail_len (R : Rows) (i n : Nat) : (trail R i n).length = n := by simp [trail]
theorem trail_get {R : Rows} {i n k : Nat} (h : k < n) : (trail R i n)[k]? = some (hops R k i) := by simp [trail, h]
theorem mem_trail {R : Rows} {i n x : Nat} : x ∈ trail R i n ↔ ∃ k, k < n ∧ hops R k i = x := by simp [trail]
theorem hop_lt {R : Rows} (ok : ROk R) {i : Nat} (h : i < R.length) : hop R i < R.length := by
  unfold hop
  split
  · rename_i n e
    exact ok.at e
  · exact h
theorem hops_lt {R : Rows} (ok : ROk R) : ∀ k {i : Nat}, i < R.length → hops R k i < R.length
  | 0, _, h => h
  | k + 1, _, h => hops_lt ok k (hop_lt ok h)
structure Trail (R : Rows) (i n : Nat) : Prop where
  nd : (trail R i n).Nodup
theorem Trail.zero {R : Rows} {i : Nat} : Trail R i 0 := ⟨List.nodup_nil⟩
theorem Trail.next {R : Rows} {i n : Nat} (T : Trail R i n) (h : hops R n i ∉ trail R i n) : Trail R i (n + 1) := ⟨by
  rw [trail_succ, List.nodup_append]
  refine ⟨T.nd, by simp, fun a ha b hb => ?_⟩
  rw [List.mem_singleton.mp hb]
  exact fun q => h (q ▸ ha)⟩
theorem Trail.le {R : Rows} (ok : ROk R) {i n : Nat} (hi : i < R.length) (T : Trail R i n) : n ≤ R.length := by
  have := nodup_le R.length (trail R i n) T.nd fun x hx => by
    obtain ⟨k, _, rfl⟩ := mem_trail.mp hx
    exact hops_lt ok k hi
  rwa [trail_len] at this
theorem hop_stay {R : Rows} {i : Nat} (h : isGo R[i]? = false) : hop R i = i := by
  unfold hop
  split
  · rename_i n e
    rw [e] at h
    cases h
  · rfl
theorem settles_end {R : Rows} {i n : Nat} (h : isGo R[hops R n i]? = false) : Settles R i (hops R n i) := by
  refine settles_of (j := n) (n := n + 1) (Nat.lt_succ_self n) ?_ ⟨n, Nat.le_refl _, Nat.lt_succ_self n, rfl⟩ fun t h1 h2 => ?_
  · rw [hops_next, hop_stay h]
  · have : t = n := by omega
    rw [this]
    exact Nat.le_refl _
theorem settles_cyc {R : Rows} {i n j : Nat} (hj : j < n) (e : hops R n i = hops R j i) {v : Nat} (hm : v ∈ (trail R i n).drop j) (hmin : ∀ y ∈ (trail R i n).drop j, v ≤ y) : Settles R i v := by
  have mem : ∀ x, x ∈ (trail R i n).drop j ↔ ∃ t, j ≤ t ∧ t < n ∧ hops R t i = x := fun x => by
    rw [List.mem_iff_getElem?]
    constructor
    · rintro ⟨k, hk⟩
      rw [List.getElem?_drop] at hk
      have hl : j + k < n := by
        have := (List.getElem?_eq_some_iff.mp hk).1
        rwa [trail_len] at this
      rw [trail_get hl] at hk
      exact ⟨j + k, Nat.le_add_right _ _, hl, Option.some.inj hk⟩
    · rintro ⟨t, h1, h2, h3⟩
      refine ⟨t - j, ?_⟩
      rw [List.getElem?_drop, show j + (t - j) = t by omega, trail_get h2, h3]
  exact settles_of hj e ((mem v).mp hm) fun t h1 h2 => hmin _ ((mem _).mpr ⟨t, h1, h2, rfl⟩)
/-- .. with the places -/
def tkv (R : Rows) (i n : Nat) : List (Key × V) := (List.range n).map fun k => (.inl (hops R k i : Nat), .int (k : Nat))
theorem tkv_succ (R : Rows) (i n : Nat) : tkv R i (n + 1) = tkv R i n ++ [(.inl (hops R n i : Nat), .int (n : Nat))] := by
  unfold tkv
  rw [List.range_succ, List.map_append]
  rfl
theorem valV_app {α : Type} [DecidableEq α] (a : List (α × V)) (k0 : α) (v0 : V) (k : α) : valV (a ++ [(k0, v0)]) k = (valV a k).or (if k0 = k then some v0 else none) := by
  unfold valV
  rw [List.find?_append]
  cases h : a.find? fun kv => decide (kv.1 = k) with
  | some x => rfl
  | none =>
    by_cases c : k0 = k
    · simp [c]
    · simp [c]
theorem tkv_none {R : Rows} {i x : Nat} : ∀ {n : Nat}, valV (tkv R i n) (.inl (x : Nat)) = none ↔ x ∉ trail R i n
  | 0 => by simp [tkv, trail, valV]
  | n + 1 => by
    rw [tkv_succ, valV_app, trail_succ, List.mem_append, not_or]
    have ih := tkv_none (R := R) (i := i) (x := x) (n := n)
    cases h : valV (tkv R i n) (.inl (x : Nat)) with
    | some v =>
      rw [h] at ih
      constructor
      · intro e; cases e
      · intro e
        exact absurd (ih.mpr e.1) (fun z => by cases z)
    | none =>
      rw [h] at ih
      have h1 := ih.mp rfl
      by_cases c : hops R n i = x
      · simp [c]
      · have : ¬ ((Sum.inl (hops R n i : Nat) : Key) = .inl (x : Nat)) := fun q => c (by have := Sum.inl.inj q; omega)
        rw [if_neg this]
        exact ⟨fun _ => ⟨h1, by simpa using fun q => c q.symm⟩, fun _ => rfl⟩
theorem tkv_some {R : Rows} {i x : Nat} {v : V} : ∀ {n : Nat}, valV (tkv R i n) (.inl (x : Nat)) = some v → ∃ j, j < n ∧ hops R j i = x ∧ v = .int (j : Nat)
  | 0, h => by simp [tkv, valV] at h
  | n + 1, h => by
    rw [tkv_succ, valV_app] at h
    cases h2 : valV (tkv R i n) (.inl (x : Nat)) with
    | some u =>
      rw [h2] at h
      obtain rfl : u = v := Option.some.inj h
      obtain ⟨j, h3, h4, h5⟩ := tkv_some h2
      exact ⟨j, by omega, h4, h5⟩
    | none =>
      rw [h2] at h
      by_cases c : (Sum.inl (hops R n i : Nat) : Key) = .inl (x : Nat)
      · have h : (if (Sum.inl (hops R n i : Nat) : Key) = .inl (x : Nat) then some (V.int (n : Nat)) else none) = some v := h
        rw [if_pos c] at h
        exact ⟨n, Nat.lt_succ_self n, by have := Sum.inl.inj c; omega, (Option.some.inj h).symm⟩
      · have h : (if (Sum.inl (hops R n i : Nat) : Key) = .inl (x : Nat) then some (V.int (n : Nat)) else none) = some v := h
        rw [if_neg c] at h
        cases h
theorem cut_from {xs : List V} {j : Nat} (h : j ≤ xs.length) : cutV xs (some (j : Int)) none = xs.drop j := by
  unfold cutV
  rw [HT.sIx_nat, HT.sIx_none, Nat.min_eq_left h]
  exact List.take_of_length_le (by rw [List.length_drop]; exact Nat.le_refl _)
def nV (l : List Nat) : List V := l.map fun (n : Nat) => V.int n
theorem nV_cast (l : List Nat) : nV l = (l.map fun (n : Nat) => (n : Int)).map V.int := by
  unfold nV
  rw [List.map_map]
  rfl

abbrev sSettled : Stmt := topS 27
abbrev sShowOf : Stmt := topS 28
abbrev sLandings : Stmt := topS 29
/-- where it settles -/
def spSettled (K : PySem.W.Frag) : Sp := fun vs H Q _ => ∃ ra R i, vs = [.ref ra, .int (i : Nat)] ∧ RowsT K H ra R ∧ ROk R ∧ i < R.length ∧ ∀ H', Ex H H' → (∃ v, Settles R i v) → settle R i < R.length → Q (.int (settle R i : Nat)) H'
/-- row[0] == 'go' -/
theorem row_go {K : PySem.W.Frag} {H : Hp} {xs : List V} {r : Row} (h : RowXs K H xs r) : ∃ t, xs[0]? = some (.str t) ∧ decide (V.str t = V.str "go") = isGo (some r) ∧ (isGo (some r) = true → ∃ n, r = .go n ∧ xs[1]? = some (.int (n : Nat))) := by
  cases r with
  | ask nm nx =>
    obtain ⟨q, rfl, _⟩ := h
    exact ⟨_, rfl, decide_eq_false (str_ne (by decide +kernel)), fun q => by cases q⟩
  | go n =>
    cases h
    exact ⟨_, rfl, decide_eq_true rfl, fun _ => ⟨n, rfl, rfl⟩⟩
  | fin w =>
    cases h
    exact ⟨_, rfl, decide_eq_false (str_ne (by decide +kernel)), fun q => by cases q⟩
theorem at0 {xs : List V} {v : V} (h : xs[0]? = some v) : atI xs 0 = some v := atI_nat (j := 0) h
theorem at1 {xs : List V} {v : V} (h : xs[1]? = some v) : atI xs 1 = some v := atI_nat (j := 1) h
theorem row_at {R : Rows} {i : Nat} (h : i < R.length) : ∃ r, R[i]? = some r := ⟨R[i], by simp [h]⟩
section
variable {P : Program} {w : World} {K : PySem.W.Frag} {mg : Str → Option Value} {base : Heap}
theorem scSettled : FnScope ["rows", "index", "path", "places"] ["rows", "index"] (defScope sSettled) := ⟨rfl, rfl, rfl, by decide +kernel, rfl, by decide +kernel, by decide +kernel⟩
theorem cal_settled (B : Bn mg) (D : Dh K mg "settled" sSettled) : Cal P w K mg base 1 "settled" (spSettled K) := by
  refine D.cal (k := 0) scSettled (fun _ _ _ _ _ _ us hl => match us, hl with | [_, _], _ => rfl) (fun vs H Q E h => by obtain ⟨_, _, _, rfl, _⟩ := h; rfl) fun f cdv A outer s H vs Q E hr h => ?_
  obtain ⟨ra, R, i, rfl, hR, ok, hi, k⟩ := h
  refine ⟨_, pss_cons (ps_par (i := 2) (j := 3) rfl scSettled.nd rfl rfl (by decide) rfl rfl (pa_cons (pe_lst pa_nil) (pa_cons pe_dnewK pa_nil)) (by rfl))
    (pss_cons (ps_while PassesOwn.never (pw_and (pt_cmpR op_eq (pe_ix ix_tup (pe_ix ix_tup (pv 0) (pv 1) fun _ _ => rfl) pe_int fun _ _ => rfl) pe_str (by rfl)) (pw_and1 (pt_cmp (pc_dnotin (hu_of hr) (pv 1) (pv 3))))).pt
      (pss_cons (ps_dput (hu_of hr) (pv 3) (pv 1) (pe_callB call_len_seq (by rfl) B.len PySem.boot_len (pa_cons (pv 2) pa_nil)) rfl)
      (pss_cons (ps_expr (pe_bm PySem.F.plainAttrs_list PySem.F.slot_list_append PySem.F.type_list_append mt_append (pv 2) (pa_cons (pv 1) pa_nil)))
      (pss_one (ps_set (i := 1) scSettled.nd rfl (Or.inl rfl) (pe_ix ix_tup (pe_ix ix_tup (pv 0) (pv 1) fun _ _ => rfl) pe_int fun _ _ => rfl))))))
    (pss_one (ps_ret (pe_ifExp (pt_cmpR op_ne (pe_ix ix_tup (pe_ix ix_tup (pv 0) (pv 1) fun _ _ => rfl) pe_int fun _ _ => rfl) pe_str (by rfl)) (pv 1)
      (pe_callB (cr_min rfl) (by rfl) B.min boot_min (pa_cons (pe_slice sl_list (pv 2) (po_some (pe_dget (hu_of hr) (pv 3) (pv 1) (fun _ _ => rfl))) po_none) pa_nil)))))), ?_⟩
  refine ⟨Nat.zero_le _, fun pl hpl => ?_⟩
  intro pd hpd
  have nlp : pl ≠ pd := fun q => by rw [q, upd_same] at hpd; cases hpd
  have hpd0 : H pd = none := by rw [upd_ne nlp.symm] at hpd; exact hpd
  refine ⟨_, _, rfl, ?_⟩
  refine ⟨fun m σ H' => ∃ n, σ = [some (.ref ra), some (.int (hops R n i : Nat)), some (.ref pl), some (.ref pd)] ∧ H' pl = some (.lst (nV (trail R i n))) ∧ H' pd = some (.dK (tkv R i n)) ∧ Ex H H' ∧ Trail R i n ∧ m = R.length - n, ⟨R.length, 0, rfl, ?_, upd_same, ?_, .zero, rfl⟩, ?_⟩
  · rw [upd_ne nlp]; exact upd_same
  · exact Ex.mut (Ex.new hpl) hpd0
  rintro m σ H1 ⟨n, rfl, h1, h2, e1, T, rfl⟩
  have hn := T.le ok hi
  have hlt := hops_lt ok n hi
  obtain ⟨vs, hvs, hd⟩ := id hR
  obtain ⟨r, er⟩ := row_at hlt
  obtain ⟨p, xs, hvp, hp, hxs⟩ := rows_get hd er
  obtain ⟨tg, h0, hgo, hnx⟩ := row_go hxs
  have hp1 := ex_t e1 hp
  have hlen := rows_len hd
  have hty : (trail R i n).length = n := trail_len R i n
  refine ⟨_, rfl, _, rfl, ra, vs, _, _, rfl, rfl, ex_t e1 hvs, atI_nat hvp, p, xs, 0, _, rfl, rfl, hp1, at0 h0, rfl, isGo (some r), congrArg V.bl hgo, ?_⟩
  have hlast : (isGo (some r) = false ∨ hops R n i ∈ trail R i n) → tRet (tIf (tTest (tOp rNe (tOp (rIxT K) (tOp (rIxT K) (tVar 0) (tVar 1)) (tC (.int 0))) (tC (.str "go")))) (tVar 1) (tCB (rMin K) (tCons (tSl (rSlL K) (tVar 2) (tPart (tDGet (tVar 3) (tVar 1))) tNoPart) tNil)))
      { nx := fun _ H' => Q .non H', rt := Q } [some (.ref ra), some (.int (hops R n i : Nat)), some (.ref pl), some (.ref pd)] H1 := by
    intro hc
    refine ⟨_, rfl, _, rfl, ra, vs, _, _, rfl, rfl, ex_t e1 hvs, atI_nat hvp, p, xs, 0, _, rfl, rfl, hp1, at0 h0, rfl, !isGo (some r), congrArg (fun b => V.bl (!b)) hgo, ?_⟩
    cases hg : isGo (some r) with
    | false =>
      have S : Settles R i (hops R n i) := settles_end (by rw [er]; exact hg)
      have := settle_eq S
      refine ⟨_, rfl, ?_⟩
      rw [← this]
      exact k _ e1 ⟨_, S⟩ (by rw [this]; exact hlt)
    | true =>
      have hmem : hops R n i ∈ trail R i n := hc.resolve_left (by rw [hg]; exact fun q => by cases q)
      have hsome : ∃ v, valV (tkv R i n) (.inl (hops R n i : Nat)) = some v := by
        cases q : valV (tkv R i n) (.inl (hops R n i : Nat)) with
        | none => exact absurd hmem (tkv_none.mp q)
        | some v => exact ⟨v, rfl⟩
      obtain ⟨v, hv⟩ := hsome
      obtain ⟨j, hj, hje, rfl⟩ := tkv_some hv
      have dg : DGet H1 pd (V.int (hops R n i : Nat)) (some (.int (j : Nat))) := by
        have := DGet.k (k := .inl (hops R n i : Nat)) h2
        rw [hv] at this
        exact this
      refine ⟨_, rfl, _, rfl, _, rfl, pd, _, rfl, dg, (j : Int), rfl, ?_⟩
      refine ⟨pl, _, rfl, sq_of h1, fun q hq => ?_⟩
      have ecut : cutV (nV (trail R i n)) (some (j : Int)) none = nV ((trail R i n).drop j) := by
        rw [cut_from (by unfold nV; rw [List.length_map, hty]; omega)]
        unfold nV
        rw [List.map_drop]
      rw [ecut]
      refine ⟨q, ((trail R i n).drop j).map fun (n : Nat) => (n : Int), rfl, ?_, ?_, fun m hm hmin => ?_⟩
      · rw [← nV_cast]
        exact sq_of upd_same
      · rw [List.length_map, List.length_drop, hty]; omega
      · obtain ⟨v, hv1, rfl⟩ := List.mem_map.mp hm
        have S : Settles R i v := settles_cyc hj hje.symm hv1 fun y hy => by
          have := hmin (y : Int) (List.mem_map.mpr ⟨y, hy, rfl⟩)
          omega
        have := settle_eq S
        rw [← this]
        refine k _ (e1.trans (Ex.new hq)) ⟨_, S⟩ ?_
        rw [this]
        obtain ⟨t, _, rfl⟩ := mem_trail.mp (List.mem_of_mem_drop hv1)
        exact hops_lt ok t hi
  cases hg : isGo (some r) with
  | false =>
    exact hlast (.inl hg)
  | true =>
    refine ⟨_, rfl, _, rfl, pd, _, rfl, DGet.k (k := .inl (hops R n i : Nat)) h2, ?_⟩
    cases hv : valV (tkv R i n) (.inl (hops R n i : Nat)) with
    | some v =>
      refine ⟨false, rfl, ?_⟩
      refine hlast (.inr ?_)
      cases q : decide (hops R n i ∈ trail R i n) with
      | true => exact of_decide_eq_true q
      | false =>
        have := tkv_none.mpr (of_decide_eq_false q)
        rw [hv] at this
        cases this
    | none =>
      refine ⟨true, rfl, ?_⟩
      have hnot := tkv_none.mp hv
      have T' := T.next hnot
      have hn' := T'.le ok hi
      obtain ⟨nx, rfl, hx1⟩ := hnx hg
      refine ⟨fun σ H' => ∃ m', m' < R.length - n ∧ ∃ n, σ = [some (.ref ra), some (.int (hops R n i : Nat)), some (.ref pl), some (.ref pd)] ∧ H' pl = some (.lst (nV (trail R i n))) ∧ H' pd = some (.dK (tkv R i n)) ∧ Ex H H' ∧ Trail R i n ∧ m' = R.length - n, fun σ H' h => h, ?_⟩
      refine ⟨_, rfl, pl, _, rfl, .inl (sq_of h1), _, rfl, _, rfl, pd, _, rfl, DPut.k (k := .inl (hops R n i : Nat)) h2 (sz_lt (by unfold tkv; rw [List.length_map, List.length_range]; have := ok.few; omega)), ?_⟩
      rw [putK_new _ hv]
      have h1' : (upd H1 pd (.dK (tkv R i n ++ [(.inl (hops R n i : Nat), .int ((nV (trail R i n)).length : Nat))]))) pl = some (.lst (nV (trail R i n))) := by rw [upd_ne nlp]; exact h1
      refine ⟨_, rfl, .inl ⟨rfl, _, sq_of h1'⟩, _, rfl, pl, _, _, rfl, rfl, h1', sz_lt (by unfold nV; rw [List.length_map, hty]; have := ok.few; omega), ?_⟩
      have e2 : Ex H (upd (upd H1 pd (.dK (tkv R i n ++ [(.inl (hops R n i : Nat), .int ((nV (trail R i n)).length : Nat))]))) pl (.lst (nV (trail R i n) ++ [.int (hops R n i : Nat)]))) := Ex.mut (Ex.mut e1 hpd0) hpl
      refine ⟨_, rfl, _, rfl, ra, vs, _, _, rfl, rfl, ex_t e2 hvs, atI_nat hvp, p, xs, 1, _, rfl, rfl, ex_t e2 hp, at1 hx1, ?_⟩
      refine ⟨R.length - (n + 1), by omega, n + 1, ?_, ?_, ?_, e2, T', rfl⟩
      · have : hops R (n + 1) i = nx := by
          rw [hops_next]
          unfold hop
          rw [er]
        rw [this]
        rfl
      · rw [upd_same, trail_succ]
        unfold nV
        rw [List.map_append]
        rfl
      · rw [upd_ne nlp.symm, upd_same, tkv_succ]
        have : (nV (trail R i n)).length = n := by unfold nV; rw [List.length_map, hty]
        rw [this]
end
end Ask

namespace Ask
open PySem PySem.Spec PyProof.Rows L2 Evl

/-- what is shown -/
def spShowOf (K : PySem.W.Frag) : Sp := fun vs H Q _ => ∃ ra R i, vs = [.ref ra, .int (i : Nat)] ∧ RowsT K H ra R ∧ ROk R ∧ i < R.length ∧ RetP (fun v H' => Dp K H' v (showD R i)) H Q
theorem show_go {R : Rows} {i : Nat} {r : Row} (e : R[i]? = some r) (h : isGo (some r) = true) : showD R i = .tuple [.str "hang"] := by
  cases r with
  | go n => unfold showD; rw [e]
  | ask _ _ => cases h
  | fin _ => cases h
/-- row[:2] of a row that shows something -/
theorem row_two {K : PySem.W.Frag} {H : Hp} {R : Rows} {i : Nat} {r : Row} {p : Addr} {xs : List V} {Q : VK} (e : R[i]? = some r) (hg : isGo (some r) = false) (hp : SqT K H p xs) (hxs : RowXs K H xs r) (k : ∀ v H', Ex H H' → Dp K H' v (showD R i) → Q v H') :
    rSlA K (.ref p) none (some 2) H Q := by
  refine ⟨p, xs, rfl, hp, ?_⟩
  cases r with
  | go n => cases hg
  | ask nm nx =>
    obtain ⟨q, rfl, _⟩ := hxs
    refine ⟨fun h => absurd (show HT.sIx 3 3 (some 2) = 3 from h.2) (by decide), fun _ a ha => k _ _ (Ex.new ha) ?_⟩
    unfold showD
    rw [e]
    exact .tup (st_of upd_same) (.cons (.str _) (.cons (.str _) .nil))
  | fin z =>
    cases hxs
    refine ⟨fun _ => k _ _ (Ex.refl H) ?_, fun h => absurd (show HT.sIx 2 0 none = 0 ∧ HT.sIx 2 2 (some 2) = 2 from ⟨by decide, by decide⟩) h⟩
    unfold showD
    rw [e]
    exact .tup hp (.cons (.str _) (.cons (.str _) .nil))
section
variable {P : Program} {w : World} {K : PySem.W.Frag} {mg : Str → Option Value} {base : Heap}
theorem scShowOf : FnScope ["rows", "index"] ["rows", "index"] (defScope sShowOf) := ⟨rfl, rfl, rfl, by decide +kernel, rfl, by decide +kernel, by decide +kernel⟩
theorem cal_showOf (D : Dh K mg "show_of" sShowOf) : Cal P w K mg base 1 "show_of" (spShowOf K) := by
  refine D.cal (k := 0) scShowOf (fun _ _ _ _ _ _ us hl => match us, hl with | [_, _], _ => rfl) (fun vs H Q E h => by obtain ⟨_, _, _, rfl, _⟩ := h; rfl) fun f cdv A outer s H vs Q E hr h => ?_
  obtain ⟨ra, R, i, rfl, hR, ok, hi, k⟩ := h
  refine ⟨_, pss_one (ps_ret (pe_ifExp (pt_cmpR op_eq (pe_ix ix_tup (pe_ix ix_tup (pv 0) (pv 1) fun _ _ => rfl) pe_int fun _ _ => rfl) pe_str (by rfl)) (pe_tup (pa_cons pe_str pa_nil))
    (pe_slice sl_tupA (pe_ix ix_tup (pv 0) (pv 1) fun _ _ => rfl) po_none (po_some pe_int)))), ?_⟩
  obtain ⟨vs, hvs, hd⟩ := id hR
  obtain ⟨r, er⟩ := row_at hi
  obtain ⟨p, xs, hvp, hp, hxs⟩ := rows_get hd er
  obtain ⟨tg, h0, hgo, _⟩ := row_go hxs
  refine ⟨_, rfl, _, rfl, ra, vs, _, _, rfl, rfl, hvs, atI_nat hvp, p, xs, 0, _, rfl, rfl, hp, at0 h0, rfl, isGo (some r), congrArg V.bl hgo, ?_⟩
  cases hg : isGo (some r) with
  | true =>
    refine ⟨by show 1 ≤ sizeLine; decide, fun q hq => k _ _ (Ex.new hq) ?_⟩
    rw [show_go er hg]
    exact .tup (st_of upd_same) (.cons (.str _) .nil)
  | false =>
    exact ⟨_, rfl, _, rfl, ra, vs, _, _, rfl, rfl, hvs, atI_nat hvp, 2, rfl, row_two er hg hp hxs k⟩

/-! ### landings -/
def Good (R : Rows) (x : Nat) : Prop := (∃ v, Settles R x v) ∧ settle R x < R.length
theorem Good.hops {R : Rows} {x : Nat} (k : Nat) (h : Good R (hops R k x)) : Good R x ∧ settle R x = settle R (hops R k x) := by
  obtain ⟨⟨v, hv⟩, hl⟩ := h
  have S := (Settles.hops k x).mpr hv
  have e := settle_eq S
  have e' := settle_eq hv
  exact ⟨⟨⟨v, S⟩, by rw [e, ← e']; exact hl⟩, by rw [e, e']⟩
theorem Good.along {R : Rows} {x : Nat} (k : Nat) (h : Good R x) : Good R (Ask.hops R k x) ∧ settle R (Ask.hops R k x) = settle R x := by
  obtain ⟨⟨v, hv⟩, hl⟩ := h
  have S := (Settles.hops k x).mp hv
  have e := settle_eq S
  have e' := settle_eq hv
  exact ⟨⟨⟨v, S⟩, by rw [e, ← e']; exact hl⟩, by rw [e, e']⟩
/-- what is found so far is right -/
def FGood (R : Rows) (fs : List V) : Prop := fs.length = R.length ∧ ∀ (x : Nat) v, fs[x]? = some v → v = .non ∨ (v = .int (settle R x : Nat) ∧ Good R x)
def Done (R : Rows) (fs : List V) (x : Nat) : Prop := fs[x]? = some (.int (settle R x : Nat)) ∧ Good R x
theorem FGood.set {R : Rows} {fs : List V} {x : Nat} (h : FGood R fs) (hx : Good R x) : FGood R (fs.set x (.int (settle R x : Nat))) := by
  refine ⟨by rw [List.length_set]; exact h.1, fun y v e => ?_⟩
  rw [List.getElem?_set] at e
  by_cases c : x = y
  · subst c
    rw [if_pos rfl] at e
    split at e
    · exact .inr ⟨(Option.some.inj e).symm, hx⟩
    · cases e
  · rw [if_neg c] at e
    exact h.2 y v e
theorem Done.set {R : Rows} {fs : List V} {x y : Nat} (h : Done R fs y) (hl : x < fs.length) : Done R (fs.set x (.int (settle R x : Nat))) y := by
  refine ⟨?_, h.2⟩
  rw [List.getElem?_set]
  by_cases c : x = y
  · subst c
    rw [if_pos rfl, if_pos hl]
  · rw [if_neg c]
    exact h.1
theorem Done.self {R : Rows} {fs : List V} {x : Nat} (h : Good R x) (hl : x < fs.length) : Done R (fs.set x (.int (settle R x : Nat))) x := by
  refine ⟨?_, h⟩
  rw [List.getElem?_set, if_pos rfl, if_pos hl]
noncomputable def landV (R : Rows) : List V := nV ((List.range R.length).map (settle R))
/-- all settle, and the new list says where -/
noncomputable def spLandings (K : PySem.W.Frag) : Sp := fun vs H Q _ => ∃ ra R, vs = [.ref ra] ∧ RowsT K H ra R ∧ ROk R ∧ ∀ p H', H p = none → Ex H H' → H' p = some (.lst (landV R)) → (∀ x, x < R.length → Good R x) → Q (.ref p) H'
theorem scLandings : FnScope ["rows", "found", "at", "path", "places", "here", "one"] ["rows"] (defScope sLandings) := ⟨rfl, rfl, rfl, by decide +kernel, rfl, by decide +kernel, by decide +kernel⟩
theorem rep_flat (n : Nat) : (List.replicate n [V.non]).flatten = List.replicate n V.non := by
  induction n with
  | zero => rfl
  | succ n ih => rw [List.replicate_succ, List.flatten_cons, ih]; rfl
theorem cal_landings (B : Bn mg) (D : Dh K mg "landings" sLandings) : Cal P w K mg base 1 "landings" (spLandings K) := by
  refine D.cal (k := 0) scLandings (fun _ _ _ _ _ _ us hl => match us, hl with | [_], _ => rfl) (fun vs H Q E h => by obtain ⟨_, _, rfl, _⟩ := h; rfl) fun f cdv A outer s H vs Q E hr h => ?_
  obtain ⟨ra, R, rfl, hR, ok, k⟩ := h
  refine ⟨_, pss_cons (ps_set (i := 1) scLandings.nd rfl (Or.inl rfl) (pe_op op_rep (pe_lst (pa_cons pe_non pa_nil)) (pe_callB call_len_seq (by rfl) B.len PySem.boot_len (pa_cons (pv 0) pa_nil))))
    (pss_cons (ps_for PassesOwn.never rfl (pi_range1 (by rfl) B.range (pa_cons (pe_callB call_len_seq (by rfl) B.len PySem.boot_len (pa_cons (pv 0) pa_nil)) pa_nil)) (pg_name (i := 2) scLandings.nd rfl (Or.inl rfl))
      (pss_cons (ps_par3 (i := 3) (j := 4) (l := 5) rfl scLandings.nd rfl rfl rfl (by decide) (by decide) (by decide) rfl rfl rfl (pa_cons (pe_lst pa_nil) (pa_cons pe_dnewK (pa_cons (pv 2) pa_nil))) (by rfl))
      (Evl.pss_cut (ps_while PassesOwn.never (pw_and (pt_cmpR op_isN (pe_ix ix_list (pv 1) (pv 5) fun _ _ => rfl) pe_non (by rfl)) (pw_and (pt_cmpR op_eq (pe_ix ix_tup (pe_ix ix_tup (pv 0) (pv 5) fun _ _ => rfl) pe_int fun _ _ => rfl) pe_str (by rfl)) (pw_and1 (pt_cmp (pc_dnotin (hu_of hr) (pv 5) (pv 4)))))).pt
        (pss_cons (ps_dput (hu_of hr) (pv 4) (pv 5) (pe_callB call_len_seq (by rfl) B.len PySem.boot_len (pa_cons (pv 3) pa_nil)) rfl)
        (pss_cons (ps_expr (pe_bm PySem.F.plainAttrs_list PySem.F.slot_list_append PySem.F.type_list_append mt_append (pv 3) (pa_cons (pv 5) pa_nil)))
        (pss_one (ps_set (i := 5) scLandings.nd rfl (Or.inl rfl) (pe_ix ix_tup (pe_ix ix_tup (pv 0) (pv 5) fun _ _ => rfl) pe_int fun _ _ => rfl))))))
      (Evl.pss_cut (ps_if (pt_cmpR op_isN (pe_ix ix_list (pv 1) (pv 5) fun _ _ => rfl) pe_non (by rfl))
        (pss_one (ps_asg (pe_ifExp (pt_cmpR op_ne (pe_ix ix_tup (pe_ix ix_tup (pv 0) (pv 5) fun _ _ => rfl) pe_int fun _ _ => rfl) pe_str (by rfl)) (pv 5)
          (pe_callB (cr_min rfl) (by rfl) B.min boot_min (pa_cons (pe_slice sl_list (pv 3) (po_some (pe_dget (hu_of hr) (pv 4) (pv 5) (fun _ _ => rfl))) po_none) pa_nil))) (pg_sub (pv 1) (pv 5) set_list))) pss_nil)
      (pss_one (ps_for PassesOwn.never rfl (pi_list (pv 3)) (pg_name (i := 6) scLandings.nd rfl (Or.inl rfl)) (pss_one (ps_asg (pe_ix ix_list (pv 1) (pv 5) fun _ _ => rfl) (pg_sub (pv 1) (pv 6) set_list)))))))))
    (pss_one (ps_ret (pv 1)))), ?_⟩
  obtain ⟨vs, hvs, hd⟩ := id hR
  have hlen := rows_len hd
  have hfew := ok.few
  refine ⟨by show 1 ≤ sizeLine; decide, fun p0 hp0 => ?_⟩
  have ex0 : Ex H (upd H p0 (.lst [.non])) := Ex.new hp0
  refine ⟨_, rfl, ra, vs, rfl, .inr (ex_t ex0 hvs), p0, _, _, rfl, rfl, upd_same, by omega, by omega, ?_, fun fl hfl => ?_⟩
  · have : sizeLine = 16777216 := sizeLine_eq
    show 1 * _ ≤ _
    omega
  have hfl0 : H fl = none := fresh_back ex0 hfl
  rw [Int.toNat_natCast, rep_flat, hlen]
  have ex1 : Ex H (upd (upd H p0 (.lst [.non])) fl (.lst (List.replicate R.length .non))) := ex0.trans (Ex.new hfl)
  refine ⟨_, rfl, ra, vs, rfl, .inr (ex_t ex1 hvs), (vs.length : Int), rfl, by omega, by omega, ?_⟩
  rw [Int.toNat_natCast, hlen]
  refine for_range (lo := 0) (n := R.length) (fun t σ H' => ∃ fs x2 x3 x4 x5 x6, σ = [some (.ref ra), some (.ref fl), x2, x3, x4, x5, x6] ∧ H' fl = some (.lst fs) ∧ Ex H H' ∧ FGood R fs ∧ ∀ x, x < t → Done R fs x) ⟨_, _, _, _, _, _, rfl, upd_same, ex1, ⟨by rw [List.length_replicate], fun x v e => .inl ?_⟩, fun x hx => absurd hx (Nat.not_lt_zero _)⟩ ?_ ?_
  · rw [List.getElem?_replicate] at e
    split at e
    · exact (Option.some.inj e).symm
    · cases e
  · rintro t σ H1 ht ⟨fs, x2, x3, x4, x5, x6, rfl, hf1, e1, fg, dn⟩
    have e0 : (0 : Int) + (t : Int) = (t : Int) := Int.zero_add _
    rw [e0]
    refine ⟨Nat.zero_le _, fun pl hpl => ?_⟩
    intro pd hpd
    refine ⟨_, rfl, _, _, _, rfl, ?_⟩
    have npf : pl ≠ fl := fun q => by rw [q, hf1] at hpl; cases hpl
    have nlp : pl ≠ pd := fun q => by rw [q, upd_same] at hpd; cases hpd
    have hpd1 : H1 pd = none := by rw [upd_ne nlp.symm] at hpd; exact hpd
    have ndf : pd ≠ fl := fun q => by rw [q, hf1] at hpd1; cases hpd1
    have hpl0 := fresh_back e1 hpl
    have hpd0 := fresh_back e1 hpd1
    -- the walk
    refine ⟨fun σ H' => ∃ n, σ = [some (.ref ra), some (.ref fl), some (.int (t : Nat)), some (.ref pl), some (.ref pd), some (.int (hops R n t : Nat)), x6] ∧ H' fl = some (.lst fs) ∧ H' pl = some (.lst (nV (trail R t n))) ∧ H' pd = some (.dK (tkv R t n)) ∧ Ex H H' ∧ n ≤ R.length ∧
      ((∃ v, fs[hops R n t]? = some v ∧ v ≠ .non) ∨ (fs[hops R n t]? = some .non ∧ (isGo R[hops R n t]? = false ∨ hops R n t ∈ trail R t n))), ?_, ?_⟩
    · refine ⟨fun m σ H' => ∃ n, σ = [some (.ref ra), some (.ref fl), some (.int (t : Nat)), some (.ref pl), some (.ref pd), some (.int (hops R n t : Nat)), x6] ∧ H' fl = some (.lst fs) ∧ H' pl = some (.lst (nV (trail R t n))) ∧ H' pd = some (.dK (tkv R t n)) ∧ Ex H H' ∧ Trail R t n ∧ m = R.length - n, ⟨R.length, 0, rfl, ?_, ?_, upd_same, ?_, .zero, rfl⟩, ?_⟩
      · rw [upd_ne ndf.symm, upd_ne npf.symm]; exact hf1
      · rw [upd_ne nlp]; exact upd_same
      · exact Ex.mut (Ex.mut e1 hpl0) hpd0
      rintro m σ H2 ⟨n, rfl, hf2, hl2, hd2, e2, T, rfl⟩
      have hn := T.le ok ht
      have hlt := hops_lt ok n ht
      obtain ⟨r, er⟩ := row_at hlt
      obtain ⟨p, xs, hvp, hp, hxs⟩ := rows_get hd er
      obtain ⟨tg, h0, hgo, hnx⟩ := row_go hxs
      have hlt' : hops R n t < fs.length := by rw [fg.1]; exact hlt
      have hfs : fs[hops R n t]? = some fs[hops R n t] := by simp [hlt']
      refine ⟨_, rfl, _, rfl, fl, fs, _, _, rfl, rfl, sq_of hf2, atI_nat hfs, rfl, decide (fs[hops R n t] = .non), rfl, ?_⟩
      by_cases hnon : fs[hops R n t] = .non
      · rw [decide_eq_true hnon]
        rw [hnon] at hfs
        refine ⟨_, rfl, _, rfl, ra, vs, _, _, rfl, rfl, ex_t e2 hvs, atI_nat hvp, p, xs, 0, _, rfl, rfl, ex_t e2 hp, at0 h0, rfl, isGo (some r), congrArg V.bl hgo, ?_⟩
        cases hg : isGo (some r) with
        | false => exact ⟨n, rfl, hf2, hl2, hd2, e2, hn, .inr ⟨hfs, .inl (by rw [er]; exact hg)⟩⟩
        | true =>
          refine ⟨_, rfl, _, rfl, pd, _, rfl, DGet.k (k := .inl (hops R n t : Nat)) hd2, ?_⟩
          cases hv : valV (tkv R t n) (.inl (hops R n t : Nat)) with
          | some v =>
            refine ⟨false, rfl, ?_⟩
            refine ⟨n, rfl, hf2, hl2, hd2, e2, hn, .inr ⟨hfs, .inr ?_⟩⟩
            cases q : decide (hops R n t ∈ trail R t n) with
            | true => exact of_decide_eq_true q
            | false =>
              have := tkv_none.mpr (of_decide_eq_false q)
              rw [hv] at this
              cases this
          | none =>
            refine ⟨true, rfl, ?_⟩
            have T' := T.next (tkv_none.mp hv)
            have hn' := T'.le ok ht
            obtain ⟨nx, rfl, hx1⟩ := hnx hg
            refine ⟨fun σ H' => ∃ m', m' < R.length - n ∧ ∃ n, σ = [some (.ref ra), some (.ref fl), some (.int (t : Nat)), some (.ref pl), some (.ref pd), some (.int (hops R n t : Nat)), x6] ∧ H' fl = some (.lst fs) ∧ H' pl = some (.lst (nV (trail R t n))) ∧ H' pd = some (.dK (tkv R t n)) ∧ Ex H H' ∧ Trail R t n ∧ m' = R.length - n, fun σ H' h => h, ?_⟩
            have lenV : (nV (trail R t n)).length = n := by unfold nV; rw [List.length_map, trail_len]
            refine ⟨_, rfl, pl, _, rfl, .inl (sq_of hl2), _, rfl, _, rfl, pd, _, rfl, DPut.k (k := .inl (hops R n t : Nat)) hd2 (sz_lt (by unfold tkv; rw [List.length_map, List.length_range]; omega)), ?_⟩
            rw [putK_new _ hv, lenV]
            have hl2' : (upd H2 pd (.dK (tkv R t n ++ [(.inl (hops R n t : Nat), .int (n : Nat))]))) pl = some (.lst (nV (trail R t n))) := by rw [upd_ne nlp]; exact hl2
            refine ⟨_, rfl, .inl ⟨rfl, _, sq_of hl2'⟩, _, rfl, pl, _, _, rfl, rfl, hl2', sz_lt (by rw [lenV]; omega), ?_⟩
            have e3 : Ex H (upd (upd H2 pd (.dK (tkv R t n ++ [(.inl (hops R n t : Nat), .int (n : Nat))]))) pl (.lst (nV (trail R t n) ++ [.int (hops R n t : Nat)]))) := Ex.mut (Ex.mut e2 hpd0) hpl0
            refine ⟨_, rfl, _, rfl, ra, vs, _, _, rfl, rfl, ex_t e3 hvs, atI_nat hvp, p, xs, 1, _, rfl, rfl, ex_t e3 hp, at1 hx1, ?_⟩
            refine ⟨R.length - (n + 1), by omega, n + 1, ?_, ?_, ?_, ?_, e3, T', rfl⟩
            · have : hops R (n + 1) t = nx := by
                rw [hops_next]
                unfold hop
                rw [er]
              rw [this]
              rfl
            · rw [upd_ne npf.symm, upd_ne ndf.symm]; exact hf2
            · rw [upd_same, trail_succ]
              unfold nV
              rw [List.map_append]
              rfl
            · rw [upd_ne nlp.symm, upd_same, tkv_succ]
      · rw [decide_eq_false hnon]
        exact ⟨n, rfl, hf2, hl2, hd2, e2, hn, .inl ⟨_, hfs, hnon⟩⟩
    -- what it found
    rintro σ H2 ⟨n, rfl, hf2, hl2, hd2, e2, hn, hc⟩
    have hlt := hops_lt ok n ht
    have hlt' : hops R n t < fs.length := by rw [fg.1]; exact hlt
    have lenV : (nV (trail R t n)).length = n := by unfold nV; rw [List.length_map, trail_len]
    refine ⟨fun σ H' => ∃ fs', σ = [some (.ref ra), some (.ref fl), some (.int (t : Nat)), some (.ref pl), some (.ref pd), some (.int (hops R n t : Nat)), x6] ∧ H' fl = some (.lst fs') ∧ H' pl = some (.lst (nV (trail R t n))) ∧ Ex H H' ∧ FGood R fs' ∧ Done R fs' (hops R n t) ∧ ∀ x, x < t → Done R fs' x, ?_, ?_⟩
    · rcases hc with ⟨v, hv, hne⟩ | ⟨hv, hc⟩
      · refine ⟨_, rfl, _, rfl, fl, fs, _, _, rfl, rfl, sq_of hf2, atI_nat hv, rfl, false, bl_false hne, ?_⟩
        rcases fg.2 _ _ hv with q | ⟨rfl, hg⟩
        · exact absurd q hne
        · exact ⟨fs, rfl, hf2, hl2, e2, fg, ⟨hv, hg⟩, dn⟩
      · refine ⟨_, rfl, _, rfl, fl, fs, _, _, rfl, rfl, sq_of hf2, atI_nat hv, rfl, true, bl_true rfl, ?_⟩
        obtain ⟨r, er⟩ := row_at hlt
        obtain ⟨p, xs, hvp, hp, hxs⟩ := rows_get hd er
        obtain ⟨tg, h0, hgo, hnx⟩ := row_go hxs
        refine ⟨_, rfl, _, rfl, ra, vs, _, _, rfl, rfl, ex_t e2 hvs, atI_nat hvp, p, xs, 0, _, rfl, rfl, ex_t e2 hp, at0 h0, rfl, !isGo (some r), congrArg (fun b => V.bl (!b)) hgo, ?_⟩
        have fin : ∀ H3 v, Ex H2 H3 → v = V.int (settle R (hops R n t) : Nat) → Good R (hops R n t) → gSub (tVar 1) (tVar 5) rSetL v [some (.ref ra), some (.ref fl), some (.int (t : Nat)), some (.ref pl), some (.ref pd), some (.int (hops R n t : Nat)), x6] H3 (fun σ H' => ∃ fs', σ = [some (.ref ra), some (.ref fl), some (.int (t : Nat)), some (.ref pl), some (.ref pd), some (.int (hops R n t : Nat)), x6] ∧ H' fl = some (.lst fs') ∧ H' pl = some (.lst (nV (trail R t n))) ∧ Ex H H' ∧ FGood R fs' ∧ Done R fs' (hops R n t) ∧ ∀ x, x < t → Done R fs' x) := by
          rintro H3 v e3 rfl hg
          refine ⟨_, rfl, _, rfl, fl, fs, _, _, rfl, rfl, e3 _ _ hf2, ixN_nat hlt', ?_⟩
          exact ⟨_, rfl, upd_same, by rw [upd_ne npf]; exact e3 _ _ hl2, Ex.mut (e2.trans e3) hfl0, fg.set hg, Done.self hg hlt', fun x hx => (dn x hx).set hlt'⟩
        cases hg : isGo (some r) with
        | false =>
          have S : Settles R (hops R n t) (hops R n t) := settles_end (n := 0) (by rw [show hops R 0 (hops R n t) = hops R n t from rfl, er]; exact hg)
          have es := settle_eq S
          exact ⟨_, rfl, fin H2 _ (Ex.refl H2) (by rw [es]) ⟨⟨_, S⟩, by rw [es]; exact hlt⟩⟩
        | true =>
          have hmem : hops R n t ∈ trail R t n := hc.resolve_left (by rw [er, hg]; exact fun q => by cases q)
          have hsome : ∃ v, valV (tkv R t n) (.inl (hops R n t : Nat)) = some v := by
            cases q : valV (tkv R t n) (.inl (hops R n t : Nat)) with
            | none => exact absurd hmem (tkv_none.mp q)
            | some v => exact ⟨v, rfl⟩
          obtain ⟨v, hv⟩ := hsome
          obtain ⟨j, hj, hje, rfl⟩ := tkv_some hv
          have dg : DGet H2 pd (V.int (hops R n t : Nat)) (some (.int (j : Nat))) := by
            have := DGet.k (k := .inl (hops R n t : Nat)) hd2
            rw [hv] at this
            exact this
          refine ⟨_, rfl, _, rfl, _, rfl, pd, _, rfl, dg, (j : Int), rfl, ?_⟩
          refine ⟨pl, _, rfl, sq_of hl2, fun q hq => ?_⟩
          have ecut : cutV (nV (trail R t n)) (some (j : Int)) none = nV ((trail R t n).drop j) := by
            rw [cut_from (by rw [lenV]; omega)]
            unfold nV
            rw [List.map_drop]
          rw [ecut]
          refine ⟨q, ((trail R t n).drop j).map fun (n : Nat) => (n : Int), rfl, ?_, ?_, fun m hm hmin => ?_⟩
          · rw [← nV_cast]
            exact sq_of upd_same
          · rw [List.length_map, List.length_drop, trail_len]; omega
          · obtain ⟨v, hv1, rfl⟩ := List.mem_map.mp hm
            have S : Settles R t v := settles_cyc hj hje.symm hv1 fun y hy => by
              have := hmin (y : Int) (List.mem_map.mpr ⟨y, hy, rfl⟩)
              omega
            have S' := (Settles.hops n t).mp S
            have es := settle_eq S'
            refine fin _ _ (Ex.new hq) (by rw [es]) ⟨⟨_, S'⟩, ?_⟩
            rw [es]
            obtain ⟨t', _, rfl⟩ := mem_trail.mp (List.mem_of_mem_drop hv1)
            exact hops_lt ok t' ht
    -- along the path
    rintro σ H3 ⟨fs3, rfl, hf3, hl3, e3, fg3, dn3, dnt⟩
    refine ⟨_, rfl, pl, rfl, ⟨_, sq_of hl3⟩, for_list (K := K) (a := pl) (xs := nV (trail R t n)) (fun i σ H' => ∃ fs' x6, σ = [some (.ref ra), some (.ref fl), some (.int (t : Nat)), some (.ref pl), some (.ref pd), some (.int (hops R n t : Nat)), x6] ∧ H' fl = some (.lst fs') ∧ H' pl = some (.lst (nV (trail R t n))) ∧ Ex H H' ∧ FGood R fs' ∧ Done R fs' (hops R n t) ∧ (∀ x, x < t → Done R fs' x) ∧ ∀ q, q < i → q < n → Done R fs' (hops R q t))
      ⟨fs3, _, rfl, hf3, hl3, e3, fg3, dn3, dnt, fun q h => absurd h (Nat.not_lt_zero _)⟩ (fun i σ H' _ ⟨_, _, _, _, h, _⟩ => sq_of h) ?_ ?_⟩
    · rintro i x σ H4 hix ⟨fs4, y6, rfl, hf4, hl4, e4, fg4, dn4, dnt4, dq⟩
      have hin : i < n := by
        have := (List.getElem?_eq_some_iff.mp hix).1
        rwa [lenV] at this
      obtain rfl : V.int (hops R i t : Nat) = x := by
        unfold nV at hix
        rw [List.getElem?_map, trail_get hin] at hix
        exact Option.some.inj hix
      have hlo := hops_lt ok i ht
      have hlo' : hops R i t < fs4.length := by rw [fg4.1]; exact hlo
      have g1 := Good.hops n dn4.2
      have g2 := Good.along i g1.1
      refine ⟨_, rfl, _, rfl, fl, fs4, _, _, rfl, rfl, sq_of hf4, atI_nat dn4.1, ?_⟩
      refine ⟨_, rfl, _, rfl, fl, fs4, _, _, rfl, rfl, hf4, ixN_nat hlo', ?_⟩
      rw [show settle R (hops R n t) = settle R (hops R i t) by rw [g2.2, g1.2]]
      refine ⟨_, _, rfl, upd_same, by rw [upd_ne npf]; exact hl4, Ex.mut e4 hfl0, fg4.set g2.1, dn4.set hlo', fun x hx => (dnt4 x hx).set hlo', fun q h1 h2 => ?_⟩
      by_cases c : q = i
      · rw [c]; exact Done.self g2.1 hlo'
      · exact (dq q (by omega) h2).set hlo'
    · rintro σ H4 ⟨fs4, y6, rfl, hf4, hl4, e4, fg4, dn4, dnt4, dq⟩
      refine ⟨fs4, _, _, _, _, _, rfl, hf4, e4, fg4, fun x hx => ?_⟩
      by_cases c : x = t
      · subst c
        cases n with
        | zero => exact dn4
        | succ n => exact dq 0 (by rw [lenV]; omega) (Nat.succ_pos _)
      · exact dnt4 x (by omega)
  · rintro σ H1 ⟨fs, x2, x3, x4, x5, x6, rfl, hf1, e1, fg, dn⟩
    have efs : fs = landV R := by
      apply List.ext_getElem?
      intro i
      unfold landV nV
      rw [List.map_map, List.getElem?_map]
      by_cases c : i < R.length
      · rw [(dn i c).1, List.getElem?_range c]
        rfl
      · rw [List.getElem?_eq_none (by rw [fg.1]; omega), List.getElem?_eq_none (by rw [List.length_range]; omega)]
        rfl
    subst efs
    exact ⟨_, rfl, k fl H1 hfl0 e1 hf1 fun x hx => (dn x hx).2⟩
end
end Ask

namespace Ask
open PySem PySem.Spec PyProof.Rows L2 Evl

abbrev sNext : Stmt := topS 50
abbrev sShowL : Stmt := topS 51
abbrev sBehindL : Stmt := topS 52
abbrev sAllL : Stmt := topS 53
def spNext (K : PySem.W.Frag) : Sp := fun vs H Q _ => ∃ ra R i, vs = [.ref ra, .int (i : Nat)] ∧ RowsL K H ra R ∧ ROk R ∧ i < R.length ∧ ∀ H', Ex H H' → Good R i → Q (.int (settle R i : Nat)) H'
def spShowL (K : PySem.W.Frag) : Sp := fun vs H Q _ => ∃ ra R i, vs = [.ref ra, .int (i : Nat)] ∧ RowsL K H ra R ∧ ROk R ∧ i < R.length ∧ RetP (fun v H' => Dp K H' v (showD R i)) H Q
theorem nV_flat (l : List Nat) : (nV l).all flatV = true := by
  rw [List.all_eq_true]
  intro x hx
  obtain ⟨n, _, rfl⟩ := List.mem_map.mp hx
  rfl
theorem nV_in {l : List Nat} {x : Nat} : inV (.int (x : Nat)) (nV l) = decide (x ∈ l) := by
  unfold inV nV
  rw [List.any_map]
  by_cases c : x ∈ l
  · rw [decide_eq_true c, List.any_eq_true]
    exact ⟨x, c, by show ((x : Int) == (x : Int)) = true; exact beq_self_eq_true _⟩
  · rw [decide_eq_false c, List.any_eq_false]
    intro y hy
    show ¬ ((y : Int) == (x : Int)) = true
    rw [beq_iff_eq]
    intro q
    exact c (by have : y = x := by omega
                rw [← this]; exact hy)
section
variable {P : Program} {w : World} {K : PySem.W.Frag} {mg : Str → Option Value} {base : Heap}
theorem scNext : FnScope ["_law_rows_here", "_law_at", "_law_seen_so"] ["_law_rows_here", "_law_at"] (defScope sNext) := ⟨rfl, rfl, rfl, by decide +kernel, rfl, by decide +kernel, by decide +kernel⟩
theorem cal_next (B : Bn mg) (D : Dh K mg "_law_next" sNext) : Cal P w K mg base 1 "_law_next" (spNext K) := by
  refine D.cal (k := 0) scNext (fun _ _ _ _ _ _ us hl => match us, hl with | [_, _], _ => rfl) (fun vs H Q E h => by obtain ⟨_, _, _, rfl, _⟩ := h; rfl) fun f cdv A outer s H vs Q E hr h => ?_
  obtain ⟨ra, R, i, rfl, hR, ok, hi, k⟩ := h
  refine ⟨_, pss_cons (ps_set (i := 2) scNext.nd rfl (Or.inl rfl) (pe_lst pa_nil))
    (pss_cons (ps_while PassesOwn.never (pw_and (pt_cmpR op_eq (pe_ix ix_tup (pe_ix ix_list (pv 0) (pv 1) fun _ _ => rfl) pe_int fun _ _ => rfl) pe_str (by rfl)) (pw_and1 (pt_cmpR op_notIn_seq (pv 1) (pv 2) (by rfl)))).pt
      (pss_cons (ps_expr (pe_bm PySem.F.plainAttrs_list PySem.F.slot_list_append PySem.F.type_list_append mt_append (pv 2) (pa_cons (pv 1) pa_nil)))
      (pss_one (ps_set (i := 1) scNext.nd rfl (Or.inl rfl) (pe_ix ix_tup (pe_ix ix_list (pv 0) (pv 1) fun _ _ => rfl) pe_int fun _ _ => rfl)))))
    (pss_one (ps_ret (pe_ifExp (pt_cmpR op_ne (pe_ix ix_tup (pe_ix ix_list (pv 0) (pv 1) fun _ _ => rfl) pe_int fun _ _ => rfl) pe_str (by rfl)) (pv 1)
      (pe_callB (cr_min rfl) (by rfl) B.min boot_min (pa_cons (pe_slice sl_list (pv 2) (po_some (pe_bm PySem.F.plainAttrs_list PySem.F.slot_list_index PySem.F.type_list_index mt_index (pv 2) (pa_cons (pv 1) pa_nil))) po_none) pa_nil)))))), ?_⟩
  refine ⟨Nat.zero_le _, fun pl hpl => ?_⟩
  refine ⟨fun m σ H' => ∃ n, σ = [some (.ref ra), some (.int (hops R n i : Nat)), some (.ref pl)] ∧ H' pl = some (.lst (nV (trail R i n))) ∧ Ex H H' ∧ Trail R i n ∧ m = R.length - n, ⟨R.length, 0, rfl, upd_same, Ex.new hpl, .zero, rfl⟩, ?_⟩
  rintro m σ H1 ⟨n, rfl, h1, e1, T, rfl⟩
  have hn := T.le ok hi
  have hlt := hops_lt ok n hi
  obtain ⟨vs, hvs, hd⟩ := id hR
  obtain ⟨r, er⟩ := row_at hlt
  obtain ⟨p, xs, hvp, hp, hxs⟩ := rows_get hd er
  obtain ⟨tg, h0, hgo, hnx⟩ := row_go hxs
  have hp1 := ex_t e1 hp
  have hty : (trail R i n).length = n := trail_len R i n
  have lenV : (nV (trail R i n)).length = n := by unfold nV; rw [List.length_map, hty]
  refine ⟨_, rfl, _, rfl, ra, vs, _, _, rfl, rfl, ex_l e1 hvs, atI_nat hvp, p, xs, 0, _, rfl, rfl, hp1, at0 h0, rfl, isGo (some r), congrArg V.bl hgo, ?_⟩
  have hlast : (isGo (some r) = false ∨ hops R n i ∈ trail R i n) → tRet (tIf (tTest (tOp rNe (tOp (rIxT K) (tOp (rIxL K) (tVar 0) (tVar 1)) (tC (.int 0))) (tC (.str "go")))) (tVar 1) (tCB (rMin K) (tCons (tSl (rSlL K) (tVar 2) (tPart (tBM K "list" (rIndex K) (tVar 2) (tCons (tVar 1) tNil))) tNoPart) tNil)))
      { nx := fun _ H' => Q .non H', rt := Q } [some (.ref ra), some (.int (hops R n i : Nat)), some (.ref pl)] H1 := by
    intro hc
    refine ⟨_, rfl, _, rfl, ra, vs, _, _, rfl, rfl, ex_l e1 hvs, atI_nat hvp, p, xs, 0, _, rfl, rfl, hp1, at0 h0, rfl, !isGo (some r), congrArg (fun b => V.bl (!b)) hgo, ?_⟩
    cases hg : isGo (some r) with
    | false =>
      have S : Settles R i (hops R n i) := settles_end (by rw [er]; exact hg)
      have := settle_eq S
      refine ⟨_, rfl, ?_⟩
      rw [← this]
      exact k _ e1 ⟨⟨_, S⟩, by rw [this]; exact hlt⟩
    | true =>
      have hmem : hops R n i ∈ trail R i n := hc.resolve_left (by rw [hg]; exact fun q => by cases q)
      obtain ⟨j, hj, hje⟩ := mem_trail.mp hmem
      have hfirst : ∀ (m : Nat) (z' : V), m < j → (nV (trail R i n))[m]? = some z' → eqV z' (.int (hops R n i : Nat)) = false := fun m z' hm hz => by
        unfold nV at hz
        rw [List.getElem?_map, trail_get (by omega)] at hz
        obtain rfl := Option.some.inj hz
        show ((hops R m i : Int) == (hops R n i : Int)) = false
        rw [beq_eq_false_iff_ne]
        intro q
        have q2 : hops R m i = hops R j i := by omega
        have nd := T.nd
        have i1 : m < (trail R i n).length := by rw [hty]; omega
        have i2 : j < (trail R i n).length := by rw [hty]; omega
        have g1 : (trail R i n)[m] = (trail R i n)[j] := by
          have a := trail_get (R := R) (i := i) (n := n) (k := m) (by omega)
          have b := trail_get (R := R) (i := i) (n := n) hj
          rw [List.getElem?_eq_getElem i1] at a
          rw [List.getElem?_eq_getElem i2] at b
          rw [Option.some.inj a, Option.some.inj b, q2]
        exact List.pairwise_iff_getElem.mp nd m j i1 i2 hm g1
      refine ⟨_, rfl, _, rfl, .inl ⟨rfl, _, sq_of h1⟩, _, rfl, pl, nV (trail R i n), .int (hops R n i : Nat), j, .int (hops R j i : Nat), rfl, rfl, sq_of h1, rfl, nV_flat _, ?_, ?_, hfirst, (j : Int), rfl, ?_⟩
      · unfold nV
        rw [List.getElem?_map, trail_get hj]
        rfl
      · show ((hops R j i : Int) == (hops R n i : Int)) = true
        rw [hje]
        exact beq_self_eq_true _
      refine ⟨pl, _, rfl, sq_of h1, fun q hq => ?_⟩
      have ecut : cutV (nV (trail R i n)) (some (j : Int)) none = nV ((trail R i n).drop j) := by
        rw [cut_from (by rw [lenV]; omega)]
        unfold nV
        rw [List.map_drop]
      rw [ecut]
      refine ⟨q, ((trail R i n).drop j).map fun (n : Nat) => (n : Int), rfl, ?_, ?_, fun m hm hmin => ?_⟩
      · rw [← nV_cast]
        exact sq_of upd_same
      · rw [List.length_map, List.length_drop, hty]; omega
      · obtain ⟨v, hv1, rfl⟩ := List.mem_map.mp hm
        have S : Settles R i v := settles_cyc hj hje.symm hv1 fun y hy => by
          have := hmin (y : Int) (List.mem_map.mpr ⟨y, hy, rfl⟩)
          omega
        have := settle_eq S
        rw [← this]
        refine k _ (e1.trans (Ex.new hq)) ⟨⟨_, S⟩, ?_⟩
        rw [this]
        obtain ⟨t, _, rfl⟩ := mem_trail.mp (List.mem_of_mem_drop hv1)
        exact hops_lt ok t hi
  cases hg : isGo (some r) with
  | false =>
    exact hlast (.inl hg)
  | true =>
    refine ⟨_, rfl, _, rfl, pl, _, rfl, .inl (sq_of h1), rfl, nV_flat _, _, rfl, ?_⟩
    simp only [if_true]
    rw [nV_in]
    by_cases c : hops R n i ∈ trail R i n
    · rw [decide_eq_true c]
      exact hlast (.inr c)
    · rw [decide_eq_false c]
      have T' := T.next c
      have hn' := T'.le ok hi
      obtain ⟨nx, rfl, hx1⟩ := hnx hg
      refine ⟨fun σ H' => ∃ m', m' < R.length - n ∧ ∃ n, σ = [some (.ref ra), some (.int (hops R n i : Nat)), some (.ref pl)] ∧ H' pl = some (.lst (nV (trail R i n))) ∧ Ex H H' ∧ Trail R i n ∧ m' = R.length - n, fun σ H' h => h, ?_⟩
      refine ⟨_, rfl, .inl ⟨rfl, _, sq_of h1⟩, _, rfl, pl, _, _, rfl, rfl, h1, sz_lt (by rw [lenV]; have := ok.few; omega), ?_⟩
      have e2 : Ex H (upd H1 pl (.lst (nV (trail R i n) ++ [.int (hops R n i : Nat)]))) := Ex.mut e1 hpl
      refine ⟨_, rfl, _, rfl, ra, vs, _, _, rfl, rfl, ex_l e2 hvs, atI_nat hvp, p, xs, 1, _, rfl, rfl, ex_t e2 hp, at1 hx1, ?_⟩
      refine ⟨R.length - (n + 1), by omega, n + 1, ?_, ?_, e2, T', rfl⟩
      · have : hops R (n + 1) i = nx := by
          rw [hops_next]
          unfold hop
          rw [er]
        rw [this]
        rfl
      · rw [upd_same, trail_succ]
        unfold nV
        rw [List.map_append]
        rfl
theorem scShowL : FnScope ["_law_rows_here", "_law_at"] ["_law_rows_here", "_law_at"] (defScope sShowL) := ⟨rfl, rfl, rfl, by decide +kernel, rfl, by decide +kernel, by decide +kernel⟩
theorem cal_showL (B : Bn mg) (D : Dh K mg "_law_show" sShowL) : Cal P w K mg base 1 "_law_show" (spShowL K) := by
  refine D.cal (k := 0) scShowL (fun _ _ _ _ _ _ us hl => match us, hl with | [_, _], _ => rfl) (fun vs H Q E h => by obtain ⟨_, _, _, rfl, _⟩ := h; rfl) fun f cdv A outer s H vs Q E hr h => ?_
  obtain ⟨ra, R, i, rfl, hR, ok, hi, k⟩ := h
  refine ⟨_, pss_one (ps_ret (pe_ifExp (pt_cmpR op_eq (pe_ix ix_tup (pe_ix ix_list (pv 0) (pv 1) fun _ _ => rfl) pe_int fun _ _ => rfl) pe_str (by rfl)) (pe_tup (pa_cons pe_str pa_nil))
    (pe_tupleOf (by rfl) B.tuple (pe_slice sl_tupA (pe_ix ix_list (pv 0) (pv 1) fun _ _ => rfl) po_none (po_some pe_int))))), ?_⟩
  obtain ⟨vs, hvs, hd⟩ := id hR
  obtain ⟨r, er⟩ := row_at hi
  obtain ⟨p, xs, hvp, hp, hxs⟩ := rows_get hd er
  obtain ⟨tg, h0, hgo, _⟩ := row_go hxs
  refine ⟨_, rfl, _, rfl, ra, vs, _, _, rfl, rfl, hvs, atI_nat hvp, p, xs, 0, _, rfl, rfl, hp, at0 h0, rfl, isGo (some r), congrArg V.bl hgo, ?_⟩
  cases hg : isGo (some r) with
  | true =>
    refine ⟨by show 1 ≤ sizeLine; decide, fun q hq => k _ _ (Ex.new hq) ?_⟩
    rw [show_go er hg]
    exact .tup (st_of upd_same) (.cons (.str _) .nil)
  | false =>
    refine ⟨_, rfl, _, rfl, ra, vs, _, _, rfl, rfl, hvs, atI_nat hvp, 2, rfl, row_two er hg hp hxs fun v H' e dv => ?_⟩
    obtain ⟨ds, q⟩ : ∃ ds, showD R i = .tuple ds := by
      unfold showD
      split <;> exact ⟨_, rfl⟩
    have dv' := dv
    rw [q] at dv'
    cases dv' with
    | @tup a xs2 _ g1 g2 => exact .inr ⟨a, xs2, rfl, g1, k _ _ e dv⟩
end
end Ask

namespace Ask
open PySem PySem.Spec PyProof.Rows L2 Evl

theorem pair_shape {K : PySem.W.Frag} {H : Hp} {v : V} {p : Str × Nat} (h : Dp K H v (encP p)) : ∃ a, v = .ref a ∧ SqT K H a [.str p.1, .int (p.2 : Nat)] := by
  cases h with
  | tup h1 h2 =>
    cases h2 with
    | cons a b =>
      cases a
      cases b with
      | cons a b =>
        cases a
        cases b
        exact ⟨_, rfl, h1⟩
theorem hist_shape {K : PySem.W.Frag} {H : Hp} {v : V} {h : Hist} (q : Dp K H v (encH h)) : ∃ a xs, v = .ref a ∧ SqT K H a xs ∧ DpAll K H xs (h.map encP) := by
  cases q with
  | tup h1 h2 => exact ⟨_, _, rfl, h1, h2⟩
theorem way_shape {K : PySem.W.Frag} {H : Hp} {v : V} {x : Way} (q : Dp K H v (encW x)) : ∃ a hv, v = .ref a ∧ SqT K H a [hv, .int (x.2 : Nat)] ∧ Dp K H hv (encH x.1) := by
  cases q with
  | tup h1 h2 =>
    cases h2 with
    | cons a b =>
      cases b with
      | cons c d =>
        cases c
        cases d
        exact ⟨_, _, rfl, h1, a⟩
theorem along_cons {R : Rows} {t s : Nat} {p : Str × Nat} {h : Hist} (e : along R t (p :: h) = some s) : ∃ nx one, R[t]? = some (.ask p.1 nx) ∧ nx[p.2]? = some one ∧ along R (settle R one) h = some s := by
  obtain ⟨nm, k⟩ := p
  unfold along at e
  cases q : R[t]? with
  | none => rw [q] at e; cases e
  | some r =>
    rw [q] at e
    cases r with
    | ask a b =>
      simp only at e
      by_cases c : a = nm
      · rw [if_pos c] at e
        cases q2 : b[k]? with
        | none => rw [q2] at e; cases e
        | some one =>
          rw [q2] at e
          exact ⟨b, one, by rw [← c], q2, e⟩
      · rw [if_neg c] at e; cases e
    | go _ => cases e
    | fin _ => cases e
/-- a way as the program may meet it -/
structure WOk (R : Rows) (b m : Nat) (x : Way) : Prop where
  al : along R (settle R b) x.1 = some x.2
  st : settle R x.2 = x.2
  lt : x.2 < R.length
  nm : ∀ p ∈ x.1, p.1 ∈ names6
  len : x.1.length = m
theorem WOk.h {R : Rows} {b m : Nat} {x : Way} (w : WOk R b m x) (hm : m ≤ 100) : HOk x.1 := ⟨w.nm, by rw [w.len]; exact hm⟩
theorem WOk.root {R : Rows} {b : Nat} (g : Good R b) : WOk R b 0 ([], settle R b) := ⟨rfl, settle_idem g.1.choose_spec, g.2, (fun _ h => by cases h), rfl⟩
theorem kids_ok {R : Rows} (ok : ROk R) (hG : ∀ x, x < R.length → Good R x) {b m : Nat} {x : Way} (w : WOk R b m x) : ∀ y ∈ kids R x, WOk R b (m + 1) y := by
  intro y hy
  unfold kids at hy
  cases e : R[x.2]? with
  | none => rw [e] at hy; cases hy
  | some r =>
    rw [e] at hy
    cases r with
    | go _ => cases hy
    | fin _ => cases hy
    | ask nm nx =>
      obtain ⟨⟨one, k⟩, hp, rfl⟩ := List.mem_map.mp hy
      have hk : nx[k]? = some one := by
        have := List.mk_mem_zipIdx_iff_getElem?.mp hp
        exact this
      obtain ⟨h1, h2, h3⟩ := ok.at e
      have g := hG one (h3 one (List.mem_of_getElem? hk))
      refine ⟨along_app e hk _ _ w.al, settle_idem g.1.choose_spec, g.2, fun p hp => ?_, by show (x.1 ++ _).length = _; rw [List.length_append, w.len]; rfl⟩
      rcases List.mem_append.mp hp with q | q
      · exact w.nm p q
      · rw [List.mem_singleton.mp q]
        exact h1
theorem lev_ok {R : Rows} (ok : ROk R) (hG : ∀ x, x < R.length → Good R x) {b : Nat} (hb : b < R.length) : ∀ m, ∀ x ∈ lev R m [([], settle R b)], WOk R b m x
  | 0, x, hx => by
    rw [List.mem_singleton.mp hx]
    exact .root (hG b hb)
  | m + 1, x, hx => by
    obtain ⟨y, hy, hx⟩ := List.mem_flatMap.mp hx
    exact kids_ok ok hG (lev_ok ok hG hb m y hy) x hx
theorem kids_get {R : Rows} {x : Way} {nm : Str} {nx : List Nat} (e : R[x.2]? = some (.ask nm nx)) {k one : Nat} (hk : nx[k]? = some one) : (kids R x)[k]? = some (x.1 ++ [(nm, k)], settle R one) := by
  unfold kids
  rw [e]
  simp only
  rw [List.getElem?_map, List.getElem?_zipIdx, hk]
  simp
theorem kids_none {R : Rows} {x : Way} (h : ∀ nm nx, R[x.2]? ≠ some (.ask nm nx)) : kids R x = [] := by
  unfold kids
  split
  · rename_i nm nx e
    exact absurd e (h nm nx)
  · rfl
theorem kids_count {R : Rows} {x : Way} {nm : Str} {nx : List Nat} (e : R[x.2]? = some (.ask nm nx)) : (kids R x).length = nx.length := by
  unfold kids
  rw [e]
  simp
/-- history + ((name, answer),) -/
theorem cat_hist {K : PySem.W.Frag} {H : Hp} {hv : V} {h : Hist} {nm : Str} {k : Nat} {b c : Addr} {Q : VK} (hh : Dp K H hv (encH h)) (ok : HOk h) (hn : nm ∈ names6) (hb : SqT K H b [.ref c]) (hc : SqT K H c [.str nm, .int (k : Nat)])
    (q : ∀ v H', Ex H H' → Dp K H' v (encH (h ++ [(nm, k)])) → Q v H') : rCatA K hv (.ref b) H Q := by
  obtain ⟨a, xs, rfl, ha, hxs⟩ := hist_shape hh
  have hl := dpAll_len' hxs
  rw [List.length_map] at hl
  have hpair : ∀ H', Ex H H' → Dp K H' (.ref c) (encP (nm, k)) := fun H' e => .tup (ex_t e hc) (.cons (.str _) (.cons (.int _) .nil))
  refine ⟨a, b, xs, [.ref c], rfl, rfl, ha, hb, sz_of (by rw [hl]; have := ok.2; show _ + 1 ≤ _; omega), fun e => ?_, (fun _ e => by cases e), fun e1 _ p hp => ?_⟩
  · subst e
    cases h with
    | cons _ _ => cases hl
    | nil => exact q _ _ (Ex.refl H) (.tup hb (.cons (hpair H (Ex.refl H)) .nil))
  · refine q _ _ (Ex.new hp) (.tup (st_of upd_same) ?_)
    rw [List.map_append]
    refine dpAll_app (dpAll_tk (Tk.new hp) _ _ (tdAll_map fun p hp => td_P (ok.1 p hp)) hxs) (.cons (hpair _ (Ex.new hp)) .nil)

def spBehindL (K : PySem.W.Frag) : Sp := fun vs H Q _ => ∃ ra R b hv h s, vs = [.ref ra, .int (b : Nat), hv] ∧ RowsL K H ra R ∧ ROk R ∧ (∀ x, x < R.length → Good R x) ∧ b < R.length ∧ HOk h ∧ Dp K H hv (encH h) ∧ along R (settle R b) h = some s ∧ RetV (.int (s : Nat)) H Q
noncomputable def spAllL (K : PySem.W.Frag) : Sp := fun vs H Q _ => ∃ ra R b m, vs = [.ref ra, .int (b : Nat), .int (m : Nat)] ∧ RowsL K H ra R ∧ ROk R ∧ (∀ x, x < R.length → Good R x) ∧ b < R.length ∧ m ≤ 5 ∧
  ∀ (p : Addr) (ys : List V) (us : List Way) (H' : Hp), H p = none → Ex H H' → H' p = some (.lst ys) → us.Perm (lev R m [([], settle R b)]) → DpAll K H' ys (us.map encW) → Q (.ref p) H'
section
variable {P : Program} {w : World} {K : PySem.W.Frag} {mg : Str → Option Value} {base : Heap}
theorem scBehindL : FnScope ["_law_rows_here", "_law_begun", "_law_history", "_law_at", "_law_name", "_law_answer"] ["_law_rows_here", "_law_begun", "_law_history"] (defScope sBehindL) := ⟨rfl, rfl, rfl, by decide +kernel, rfl, by decide +kernel, by decide +kernel⟩
theorem cal_behindL (B : Bn mg) (D : Dh K mg "_law_behind" sBehindL) (cN : Cal P w K mg base 1 "_law_next" (spNext K)) : Cal P w K mg base 2 "_law_behind" (spBehindL K) := by
  refine D.cal (k := 1) scBehindL (fun _ _ _ _ _ _ us hl => match us, hl with | [_, _, _], _ => rfl) (fun vs H Q E h => by obtain ⟨_, _, _, _, _, _, rfl, _⟩ := h; rfl) fun f cdv A outer s H vs Q E hr h => ?_
  obtain ⟨ra, R, b, hv, h, t, rfl, hR, ok, hG, hb, hok, hh, hal, k⟩ := h
  refine ⟨_, pss_cons (ps_set (i := 3) scBehindL.nd rfl (Or.inl rfl) (pe_f cN hr (Nat.le_refl _) (by rfl) (pa_cons (pv 0) (pa_cons (pv 1) pa_nil))))
    (pss_cons (ps_for PassesOwn.never rfl (pi_tup (pv 2)) (pg_tup rfl (pgs_cons (pg_name (i := 4) scBehindL.nd rfl (Or.inl rfl)) (pgs_cons (pg_name (i := 5) scBehindL.nd rfl (Or.inl rfl)) pgs_nil)))
      (pss_cons (ps_if (pw_or (pt_cmpR op_ne (pe_ix ix_tup (pe_ix ix_list (pv 0) (pv 3) fun _ _ => rfl) pe_int fun _ _ => rfl) pe_str (by rfl)) (pw_or (pt_cmpR op_ne (pe_ix ix_tup (pe_ix ix_list (pv 0) (pv 3) fun _ _ => rfl) pe_int fun _ _ => rfl) (pv 4) (by rfl))
          (pw_or1 (pt_not (pt_chain op_le op_lt pe_int (pv 5) (pe_callB call_len_seq (by rfl) B.len PySem.boot_len (pa_cons (pe_ix ix_tup (pe_ix ix_list (pv 0) (pv 3) fun _ _ => rfl) pe_int fun _ _ => rfl) pa_nil))))))).pt pss_never pss_nil)
      (pss_one (ps_set (i := 3) scBehindL.nd rfl (Or.inl rfl) (pe_f cN hr (Nat.le_refl _) (by rfl) (pa_cons (pv 0) (pa_cons (pe_ix ix_tup (pe_ix ix_tup (pe_ix ix_list (pv 0) (pv 3) fun _ _ => rfl) pe_int fun _ _ => rfl) (pv 5) fun _ _ => rfl) pa_nil)))))))
    (pss_one (ps_ret (pv 3)))), ?_⟩
  obtain ⟨ha, hs, rfl, hha, hhs⟩ := hist_shape hh
  have hlen := dpAll_len' hhs
  rw [List.length_map] at hlen
  refine ⟨_, rfl, _, rfl, ra, R, b, rfl, hR, ok, hb, fun H1 e1 g0 => ?_⟩
  refine ⟨_, rfl, ha, rfl, ⟨hs, ex_t e1 hha⟩, ?_⟩
  refine for_it (walk_tup (xs := hs)) (fun i σ H' => ∃ t' x y, σ = [some (.ref ra), some (.int (b : Nat)), some (.ref ha), some (.int (t' : Nat)), x, y] ∧ Ex H H' ∧ t' < R.length ∧ along R t' (h.drop i) = some t) ⟨_, _, _, rfl, e1, g0.2, hal⟩ (fun i σ H' _ ⟨_, _, _, _, e, _⟩ => ex_t e hha) ?_ ?_
  · rintro i x σ H2 H3 hi ⟨t', x0, y0, rfl, e2, hlt, ha2⟩ ⟨rfl, hx⟩
    have hi' : i < h.length := by rw [← hlen]; exact hi
    rw [List.drop_eq_getElem_cons hi'] at ha2
    obtain ⟨nx, one, hr1, hk1, ha3⟩ := along_cons ha2
    obtain ⟨d, hd1, hd2⟩ := dpAll_get hhs hx
    rw [List.getElem?_map, List.getElem?_eq_getElem hi'] at hd1
    obtain rfl := Option.some.inj hd1
    obtain ⟨pa, rfl, hpa⟩ := pair_shape hd2
    obtain ⟨vs, hvs, hd⟩ := id hR
    obtain ⟨p, xs, hvp, hp, q, rfl, hq⟩ := rows_get hd hr1
    have hp2 := ex_t e2 hp
    have hv2 := ex_l e2 hvs
    have hnx := (ok.at hr1).2.2 one (List.mem_of_getElem? hk1)
    have hkl := (List.getElem?_eq_some_iff.mp hk1).1
    refine ⟨pa, _, rfl, ex_t e2 hpa, rfl, _, _, rfl, _, _, rfl, rfl, ?_⟩
    refine ⟨_, rfl, _, rfl, ra, vs, _, _, rfl, rfl, hv2, atI_nat hvp, p, _, 0, _, rfl, rfl, hp2, rfl, rfl, false, bl_false' rfl, ?_⟩
    refine ⟨_, rfl, _, rfl, ra, vs, _, _, rfl, rfl, hv2, atI_nat hvp, p, _, 1, _, rfl, rfl, hp2, rfl, _, rfl, rfl, false, bl_false' rfl, ?_⟩
    refine ⟨_, rfl, 0, _, rfl, rfl, true, bl_true (by omega), ?_⟩
    refine ⟨_, rfl, _, rfl, ra, vs, _, _, rfl, rfl, hv2, atI_nat hvp, p, _, 2, _, rfl, rfl, hp2, rfl, q, _, rfl, .inr (ex_t e2 hq), _, _, rfl, rfl, true, bl_true (by rw [List.length_map]; omega), ?_⟩
    refine ⟨_, rfl, _, rfl, _, rfl, ra, vs, _, _, rfl, rfl, hv2, atI_nat hvp, p, _, 2, _, rfl, rfl, hp2, rfl, _, rfl, q, _, _, _, rfl, rfl, ex_t e2 hq, atI_nat (by rw [List.getElem?_map, hk1]; rfl), ra, R, one, rfl, hR.ex ok e2, ok, hnx, fun H4 e4 g4 => ?_⟩
    exact ⟨_, _, _, rfl, e2.trans e4, g4.2, ha3⟩
  · rintro σ H2 ⟨t', x0, y0, rfl, e2, hlt, ha2⟩
    rw [hlen, List.drop_length] at ha2
    obtain rfl : t' = t := Option.some.inj ha2
    exact ⟨_, rfl, k _ e2⟩

theorem scAllL : FnScope ["_law_rows_here", "_law_begun", "_law_many", "_law_found", "_law_turn", "_law_later", "_law_history", "_law_at", "_law_some", "_law_k", "_law_one"] ["_law_rows_here", "_law_begun", "_law_many"] (defScope sAllL) := ⟨rfl, rfl, rfl, by decide +kernel, rfl, by decide +kernel, by decide +kernel⟩
theorem tdW_all {R : Rows} {b m : Nat} (hm : m ≤ 100) {l : List Way} (h : ∀ x ∈ l, WOk R b m x) : tdAll (l.map encW) = true := tdAll_map fun x hx => td_W ((h x hx).h hm)
theorem take_next {α : Type} {l : List α} {i : Nat} {x : α} (h : l[i]? = some x) : l.take (i + 1) = l.take i ++ [x] := by
  rw [List.take_succ, h]
  rfl
theorem cal_allL (B : Bn mg) (D : Dh K mg "_law_all" sAllL) (cN : Cal P w K mg base 1 "_law_next" (spNext K)) : Cal P w K mg base 2 "_law_all" (spAllL K) := by
  refine D.cal (k := 1) scAllL (fun _ _ _ _ _ _ us hl => match us, hl with | [_, _, _], _ => rfl) (fun vs H Q E h => by obtain ⟨_, _, _, _, rfl, _⟩ := h; rfl) fun f cdv A outer s H vs Q E hr h => ?_
  obtain ⟨ra, R, b, m, rfl, hR, ok, hG, hb, hm5, k⟩ := h
  refine ⟨_, pss_cons (ps_set (i := 3) scAllL.nd rfl (Or.inl rfl) (pe_lst (pa_cons (pe_tup (pa_cons (pe_tup pa_nil) (pa_cons (pe_f cN hr (Nat.le_refl _) (by rfl) (pa_cons (pv 0) (pa_cons (pv 1) pa_nil))) pa_nil))) pa_nil)))
    (pss_cons (ps_for PassesOwn.never rfl (pi_range1 (by rfl) B.range (pa_cons (pv 2) pa_nil)) (pg_name (i := 4) scAllL.nd rfl (Or.inl rfl))
      (pss_cons (ps_set (i := 5) scAllL.nd rfl (Or.inl rfl) (pe_lst pa_nil))
      (pss_cons (ps_for PassesOwn.never rfl (pi_list (pv 3)) (pg_tup rfl (pgs_cons (pg_name (i := 6) scAllL.nd rfl (Or.inl rfl)) (pgs_cons (pg_name (i := 7) scAllL.nd rfl (Or.inl rfl)) pgs_nil)))
        (Evl.pss_cut (ps_set (i := 8) scAllL.nd rfl (Or.inl rfl) (pe_ifExp (pt_cmpR op_eq (pe_ix ix_tup (pe_ix ix_list (pv 0) (pv 7) fun _ _ => rfl) pe_int fun _ _ => rfl) pe_str (by rfl)) (pe_ix ix_tup (pe_ix ix_list (pv 0) (pv 7) fun _ _ => rfl) pe_int fun _ _ => rfl) (pe_tup pa_nil)))
        (pss_one (ps_for PassesOwn.never rfl (pi_enumT (by rfl) B.enumerate (pa_cons (pv 8) pa_nil)) (pg_tup rfl (pgs_cons (pg_name (i := 9) scAllL.nd rfl (Or.inl rfl)) (pgs_cons (pg_name (i := 10) scAllL.nd rfl (Or.inl rfl)) pgs_nil)))
          (pss_one (ps_expr (pe_bm PySem.F.plainAttrs_list PySem.F.slot_list_append PySem.F.type_list_append mt_append (pv 5) (pa_cons (pe_tup (pa_cons (pe_op op_catA (pv 6) (pe_tup (pa_cons (pe_tup (pa_cons (pe_ix ix_tup (pe_ix ix_list (pv 0) (pv 7) fun _ _ => rfl) pe_int fun _ _ => rfl) (pa_cons (pv 9) pa_nil))) pa_nil)))
            (pa_cons (pe_f cN hr (Nat.le_refl _) (by rfl) (pa_cons (pv 0) (pa_cons (pv 10) pa_nil))) pa_nil))) pa_nil))))))))
      (pss_one (ps_set (i := 3) scAllL.nd rfl (Or.inl rfl) (pv 5))))))
    (pss_one (ps_ret (pe_callB (call_sortG encW hr.units) (by rfl) B.sorted boot_sorted (pa_cons (pv 3) pa_nil))))), ?_⟩
  have hfew := ok.few
  obtain ⟨vs, hvs, hd⟩ := id hR
  have nar : Narrow R 3 := fun i nm nx e => (ok.at e).2.1
  have lok := lev_ok ok hG hb
  refine ⟨Nat.zero_le _, fun p0 hp0 => ?_⟩
  refine ⟨_, rfl, _, rfl, ra, R, b, rfl, hR.ex ok (Ex.new hp0), ok, hb, fun H1 e1 g0 => ?_⟩
  refine ⟨by show 2 ≤ sizeLine; decide, fun p1 hp1 => ?_⟩
  refine ⟨by show 1 ≤ sizeLine; decide, fun f0 hf0 => ?_⟩
  have e01 : Ex H H1 := (Ex.new hp0).trans e1
  have e11 : Ex H1 (upd H1 p1 (.tup [.ref p0, .int (settle R b : Nat)])) := Ex.new hp1
  have e12 := Ex.new (o := .lst [V.ref p1]) hf0
  have s0 : (upd (upd H1 p1 (.tup [.ref p0, .int (settle R b : Nat)])) f0 (.lst [.ref p1])) p0 = some (.tup []) := e12 _ _ (e11 _ _ (e1 _ _ upd_same))
  have s1 : (upd (upd H1 p1 (.tup [.ref p0, .int (settle R b : Nat)])) f0 (.lst [.ref p1])) p1 = some (.tup [.ref p0, .int (settle R b : Nat)]) := e12 _ _ upd_same
  refine ⟨_, rfl, (m : Int), rfl, by omega, by omega, ?_⟩
  rw [Int.toNat_natCast]
  refine for_range (lo := 0) (n := m) (fun t σ H' => ∃ fl fs x4 x5 x6 x7 x8 x9 x10, σ = [some (.ref ra), some (.int (b : Nat)), some (.int (m : Nat)), some (.ref fl), x4, x5, x6, x7, x8, x9, x10] ∧ H' fl = some (.lst fs) ∧ H fl = none ∧ Ex H H' ∧ DpAll K H' fs ((lev R t [([], settle R b)]).map encW))
    ⟨f0, _, _, _, _, _, _, _, _, rfl, upd_same, fresh_back (e01.trans e11) hf0, (e01.trans e11).trans e12, .cons (.tup (st_of s1) (.cons (.tup (st_of s0) .nil) (.cons (.int _) .nil))) .nil⟩ ?_ ?_
  · rintro t σ H2 ht ⟨fl, fs, x4, x5, x6, x7, x8, x9, x10, rfl, hfl, hfl0, e2, dfs⟩
    generalize hL : lev R t [([], settle R b)] = L at dfs
    have hLok : ∀ x ∈ L, WOk R b t x := by rw [← hL]; exact lok t
    have hLlen : L.length ≤ 243 := by
      have h1 := lev_len nar t [([], settle R b)]
      rw [hL] at h1
      have h2 : (3 : Nat) ^ t ≤ 3 ^ 5 := Nat.pow_le_pow_right (by decide) (by omega)
      have h3 : [(([], settle R b) : Way)].length = 1 := rfl
      rw [h3] at h1
      have h4 : (3 : Nat) ^ 5 = 243 := by decide
      omega
    have tdL := tdW_all (by omega : t ≤ 100) hLok
    have hfsl := dpAll_len' dfs
    rw [List.length_map] at hfsl
    refine ⟨Nat.zero_le _, fun ll hll => ?_⟩
    have nfl : ll ≠ fl := fun q => by rw [q, hfl] at hll; cases hll
    have hll0 := fresh_back e2 hll
    refine ⟨_, rfl, fl, rfl, ⟨fs, sq_of (by rw [upd_ne nfl.symm]; exact hfl)⟩, for_list (K := K) (a := fl) (xs := fs) (fun j σ H' => ∃ ls x4 x6 x7 x8 x9 x10, σ = [some (.ref ra), some (.int (b : Nat)), some (.int (m : Nat)), some (.ref fl), x4, some (.ref ll), x6, x7, x8, x9, x10] ∧ H' fl = some (.lst fs) ∧ H' ll = some (.lst ls) ∧ Ex H H' ∧ DpAll K H' fs (L.map encW) ∧ DpAll K H' ls (((L.take j).flatMap (kids R)).map encW))
      ⟨[], _, _, _, _, _, _, rfl, by rw [upd_ne nfl.symm]; exact hfl, upd_same, Ex.mut e2 hll0, dpAll_tk (Tk.new hll) _ _ tdL dfs, .nil⟩ (fun j σ H' _ ⟨_, _, _, _, _, _, _, _, h, _⟩ => sq_of h) ?_ ?_⟩
    · rintro j x σ H3 hjx ⟨ls, y4, y6, y7, y8, y9, y10, rfl, hfl3, hll3, e3, dfs3, dls3⟩
      obtain ⟨d, hd1, hd2⟩ := dpAll_get dfs3 hjx
      rw [List.getElem?_map] at hd1
      cases hy : L[j]? with
      | none => rw [hy] at hd1; cases hd1
      | some y =>
        rw [hy] at hd1
        obtain rfl : encW y = d := Option.some.inj hd1
        have wy := hLok y (List.mem_of_getElem? hy)
        have hoky := wy.h (by omega)
        obtain ⟨a, hv, rfl, ha, hhv⟩ := way_shape hd2
        obtain ⟨r, er⟩ := row_at wy.lt
        obtain ⟨p, xs, hvp, hp, hxs⟩ := rows_get hd er
        have tdPre : ∀ i, tdAll (((L.take j).flatMap (kids R) ++ (kids R y).take i).map encW) = true := fun i => by
          refine tdAll_map fun x hx => td_W ?_
          rcases List.mem_append.mp hx with q | q
          · obtain ⟨z, hz, q⟩ := List.mem_flatMap.mp q
            exact (kids_ok ok hG (hLok z (List.mem_of_mem_take hz)) x q).h (by omega)
          · exact (kids_ok ok hG wy x (List.mem_of_mem_take q)).h (by omega)
        have lenPre : ∀ i, ((L.take j).flatMap (kids R) ++ (kids R y).take i).length ≤ 1000 := fun i => by
          have h1 := flatMap_len (kids R) 3 (L.take j) fun z _ => kids_len nar z
          have h2 := kids_len nar y
          rw [List.length_append, List.length_take]
          have h3 : (L.take j).length ≤ L.length := by rw [List.length_take]; exact Nat.min_le_right _ _
          omega
        refine ⟨a, _, rfl, ha, rfl, _, _, rfl, _, _, rfl, rfl, ?_⟩
        have hR3 := hR.ex ok e3
        refine ⟨fun σ H4 => ∃ (q : Addr) (nxs : List Nat), σ = [some (.ref ra), some (.int (b : Nat)), some (.int (m : Nat)), some (.ref fl), y4, some (.ref ll), some hv, some (.int (y.2 : Nat)), some (.ref q), y9, y10] ∧ Ex H3 H4 ∧ SqT K H4 q (nV nxs) ∧ nxs.length = (kids R y).length ∧ (∀ (i one : Nat), nxs[i]? = some one → ∃ nm nx, r = .ask nm nx ∧ nx[i]? = some one), ?_, ?_⟩
        · obtain ⟨tg, h0, hask⟩ : ∃ tg, xs[0]? = some (.str tg) ∧ decide (V.str tg = V.str "ask") = (match r with | .ask _ _ => true | _ => false) := by
            cases r with
            | ask nm nx => obtain ⟨q, rfl, _⟩ := hxs; exact ⟨_, rfl, decide_eq_true rfl⟩
            | go n => cases hxs; exact ⟨_, rfl, decide_eq_false (str_ne (by decide +kernel))⟩
            | fin z => cases hxs; exact ⟨_, rfl, decide_eq_false (str_ne (by decide +kernel))⟩
          refine ⟨_, rfl, _, rfl, ra, vs, _, _, rfl, rfl, ex_l e3 hvs, atI_nat hvp, p, xs, 0, _, rfl, rfl, ex_t e3 hp, at0 h0, rfl, _, congrArg V.bl hask, ?_⟩
          have other : (∀ nm nx, r ≠ .ask nm nx) → ∀ p, H3 p = none → ∃ (q : Addr) (nxs : List Nat), [some (V.ref ra), some (.int (b : Nat)), some (.int (m : Nat)), some (.ref fl), y4, some (.ref ll), some hv, some (.int (y.2 : Nat)), some (.ref p), y9, y10] = [some (V.ref ra), some (.int (b : Nat)), some (.int (m : Nat)), some (.ref fl), y4, some (.ref ll), some hv, some (.int (y.2 : Nat)), some (.ref q), y9, y10] ∧ Ex H3 (upd H3 p (.tup [])) ∧ SqT K (upd H3 p (.tup [])) q (nV nxs) ∧ nxs.length = (kids R y).length ∧ (∀ (i one : Nat), nxs[i]? = some one → ∃ nm nx, r = .ask nm nx ∧ nx[i]? = some one) := fun hno p hp => by
            refine ⟨p, [], rfl, Ex.new hp, st_of upd_same, ?_, fun i one h => by simp at h⟩
            rw [kids_none (x := y) fun nm nx q => by rw [er] at q; exact hno nm nx (Option.some.inj q)]
            rfl
          cases r with
          | ask nm nx =>
            obtain ⟨q, rfl, hq⟩ := hxs
            exact ⟨_, rfl, _, rfl, ra, vs, _, _, rfl, rfl, ex_l e3 hvs, atI_nat hvp, p, _, 2, _, rfl, rfl, ex_t e3 hp, rfl, q, nx, rfl, Ex.refl H3, ex_t e3 hq, (kids_count er).symm, fun i one h => ⟨nm, nx, rfl, h⟩⟩
          | go n => exact ⟨Nat.zero_le _, fun p hp => other (fun _ _ q => nomatch q) p hp⟩
          | fin z => exact ⟨Nat.zero_le _, fun p hp => other (fun _ _ q => nomatch q) p hp⟩
        · rintro _ H4 ⟨q, nxs, rfl, e34, hq, hnl, hnx⟩
          refine ⟨_, rfl, q, _, rfl, hq, ?_⟩
          have e4 := e3.trans e34
          have nnV : (nV nxs).length = (kids R y).length := by unfold nV; rw [List.length_map, hnl]
          refine for_it (walk_enumT (xs := nV nxs)) (fun i σ H' => ∃ ls x9 x10, σ = [some (.ref ra), some (.int (b : Nat)), some (.int (m : Nat)), some (.ref fl), y4, some (.ref ll), some hv, some (.int (y.2 : Nat)), some (.ref q), x9, x10] ∧ H' fl = some (.lst fs) ∧ H' ll = some (.lst ls) ∧ Ex H H' ∧ Tk K H4 H' ∧ DpAll K H' ls (((L.take j).flatMap (kids R) ++ (kids R y).take i).map encW))
            ⟨ls, _, _, rfl, e34 _ _ hfl3, e34 _ _ hll3, e4, Tk.refl K H4, ?_⟩ (fun i σ H' _ ⟨_, _, _, _, _, _, _, tk, _⟩ => tk _ _ hq) ?_ ?_
          · rw [List.take_zero, List.append_nil]
            have := tdPre 0
            rw [List.take_zero, List.append_nil] at this
            exact dpAll_tk (Tk.ex e34) _ _ this dls3
          · rintro i x σ H5 H6 hi ⟨ls5, x9, x10, rfl, hfl5, hll5, e5, tk5, dls5⟩ ⟨T, k1, v1, rfl, hT, rfl, hk1, hv1⟩
            obtain rfl : V.int (i : Nat) = k1 := Option.some.inj hk1
            have hv1 : (nV nxs)[i]? = some v1 := hv1
            unfold nV at hv1
            rw [List.getElem?_map] at hv1
            cases ho : nxs[i]? with
            | none => rw [ho] at hv1; cases hv1
            | some one =>
              rw [ho] at hv1
              obtain rfl : V.int (one : Nat) = v1 := Option.some.inj hv1
              obtain ⟨nm, nx, rfl, hk⟩ := hnx i one ho
              obtain ⟨hnm, hl3, hlt⟩ := ok.at er
              have hone := hlt one (List.mem_of_getElem? hk)
              obtain ⟨qq, rfl, hqq⟩ := hxs
              have hkid := kids_get er hk
              refine ⟨T, _, rfl, st_of upd_same, rfl, _, _, rfl, _, _, rfl, rfl, ?_⟩
              have e6 : Ex H5 (upd H5 T (.tup [.int (i : Nat), .int (one : Nat)])) := Ex.new hT
              generalize upd H5 T (.tup [.int (i : Nat), .int (one : Nat)]) = H6 at e6
              have eH6 := e5.trans e6
              refine ⟨_, rfl, .inl ⟨rfl, _, sq_of (e6 _ _ hll5)⟩, ?_⟩
              refine ⟨_, rfl, _, rfl, _, rfl, ra, vs, _, _, rfl, rfl, ex_l eH6 hvs, atI_nat hvp, p, _, 1, _, rfl, rfl, ex_t eH6 hp, rfl, _, rfl, by show 2 ≤ sizeLine; decide, fun c hc => ?_⟩
              refine ⟨by show 1 ≤ sizeLine; decide, fun bb hbb => ?_⟩
              have e7 : Ex H6 (upd H6 c (.tup [.str nm, .int (i : Nat)])) := Ex.new hc
              have e8 := e7.trans (Ex.new (o := .tup [V.ref c]) hbb)
              have hhv8 := dp_tk (((Tk.ex e34).trans tk5).trans (Tk.ex (e6.trans e8))) _ _ (td_hist hoky) hhv
              refine cat_hist (h := y.1) (nm := nm) (k := i) hhv8 hoky hnm (st_of upd_same) (ex_t (Ex.new hbb) (st_of upd_same)) fun v H9 e9 dv => ?_
              have e69 := e8.trans e9
              refine ⟨_, rfl, _, rfl, ra, R, one, rfl, hR.ex ok (eH6.trans e69), ok, hone, fun H10 e10 g10 => ?_⟩
              refine ⟨by show 2 ≤ sizeLine; decide, fun np hnp => ?_⟩
              have e11' : Ex H10 (upd H10 np (.tup [v, .int (settle R one : Nat)])) := Ex.new hnp
              have e6b := (e69.trans e10).trans e11'
              have hllb := e6b _ _ (e6 _ _ hll5)
              have lenls : ls5.length ≤ 1000 := by
                have := dpAll_len' dls5
                rw [List.length_map] at this
                rw [this]
                exact lenPre i
              refine ⟨ll, ls5, _, rfl, rfl, hllb, sz_lt (by omega), ?_⟩
              have tkf : Tk K H5 (upd (upd H10 np (.tup [v, .int (settle R one : Nat)])) ll (.lst (ls5 ++ [.ref np]))) := (Tk.ex (e6.trans e6b)).trans (Tk.lst hllb)
              refine ⟨_, _, _, rfl, ?_, upd_same, Ex.mut (eH6.trans e6b) hll0, tk5.trans tkf, ?_⟩
              · rw [upd_ne nfl.symm]
                exact e6b _ _ (e6 _ _ hfl5)
              · rw [take_next hkid, ← List.append_assoc, List.map_append]
                refine dpAll_app (dpAll_tk tkf _ _ (tdPre i) dls5) (.cons ?_ .nil)
                refine dp_tk (Tk.lst hllb) _ _ (td_W ((kids_ok ok hG wy _ (List.mem_of_getElem? hkid)).h (by omega))) ?_
                exact .tup (st_of upd_same) (.cons (dp_tk (Tk.ex (e10.trans e11')) _ _ (td_hist ((kids_ok ok hG wy _ (List.mem_of_getElem? hkid)).h (by omega))) dv) (.cons (.int _) .nil))
          · rintro σ H5 ⟨ls5, x9, x10, rfl, hfl5, hll5, e5, tk5, dls5⟩
            refine ⟨ls5, _, _, _, _, _, _, rfl, hfl5, hll5, e5, dpAll_tk ((Tk.ex e34).trans tk5) _ _ tdL dfs3, ?_⟩
            rw [nnV, List.take_length] at dls5
            rw [take_next hy, List.flatMap_append]
            have : [y].flatMap (kids R) = kids R y := by simp
            rw [this]
            exact dls5
    · rintro σ H3 ⟨ls, y4, y6, y7, y8, y9, y10, rfl, hfl3, hll3, e3, dfs3, dls3⟩
      rw [hfsl, List.take_length] at dls3
      refine ⟨_, rfl, ll, ls, _, _, _, _, _, _, _, rfl, hll3, hll0, e3, ?_⟩
      show DpAll K H3 ls (((lev R t [([], settle R b)]).flatMap (kids R)).map encW)
      rw [hL]
      exact dls3
  · rintro σ H2 ⟨fl, fs, x4, x5, x6, x7, x8, x9, x10, rfl, hfl, hfl0, e2, dfs⟩
    refine ⟨_, rfl, fl, fs, lev R m [([], settle R b)], rfl, sq_of hfl, dfs, PySem.W.AllAlike.of alike_W, PySem.W.Sortable.tuples fun x => ⟨_, _, rfl⟩, fun x _ => Nat.le_trans (depth_W x) (by decide), fun p ys hp dd => ?_⟩
    refine k p ys _ _ (fresh_back e2 hp) (e2.trans (Ex.new hp)) upd_same (List.mergeSort_perm _ _) (dpAll_tk (Tk.new hp) _ _ (tdAll_map fun x hx => td_W ?_) dd)
    exact (lok m x ((List.mergeSort_perm _ _).mem_iff.mp hx)).h (by omega)
end
end Ask

namespace Ask
open PySem PySem.Spec PyProof.Rows L2 Evl

abbrev sUnlike : Stmt := topS 20
abbrev sMatch : Stmt := topS 21
def spUnlike (K : PySem.W.Frag) : Sp := fun vs H Q _ => ∃ l d1 d2 ns, vs = [.ref l] ∧ SqL K H l [.ref d1, .ref d2] ∧ H d1 = some (.dK (numKV ns)) ∧ H d2 = some (.dK (numKV ns)) ∧ NOk ns ∧ RetV .non H Q
theorem lookup_nodup : ∀ {ns : Nums} {i : Nat} {p : Str × Nat}, (ns.map Prod.fst).Nodup → ns[i]? = some p → ns.lookup p.1 = some p.2
  | (a, b) :: ns, 0, p, _, h => by
    obtain rfl := Option.some.inj h
    show (match a == a with | true => some b | false => ns.lookup a) = some b
    rw [beq_self_eq_true]
  | (a, b) :: ns, i + 1, p, hd, h => by
    rw [List.map_cons, List.nodup_cons] at hd
    have h2 : ns[i]? = some p := h
    have hne : p.1 ≠ a := fun q => hd.1 (by rw [← q]; exact List.mem_map.mpr ⟨p, List.mem_of_getElem? h2, rfl⟩)
    show (match p.1 == a with | true => some b | false => ns.lookup p.1) = some p.2
    rw [beq_eq_false_iff_ne.mpr hne]
    exact lookup_nodup hd.2 h2
section
variable {P : Program} {w : World} {K : PySem.W.Frag} {mg : Str → Option Value} {base : Heap}
theorem scUnlike : FnScope ["some", "known", "found", "one", "name", "many"] ["some"] (defScope sUnlike) := ⟨rfl, rfl, rfl, by decide +kernel, rfl, by decide +kernel, by decide +kernel⟩
theorem cal_unlike (B : Bn mg) (D : Dh K mg "unlike_in" sUnlike) : Cal P w K mg base 1 "unlike_in" (spUnlike K) := by
  refine D.cal (k := 0) scUnlike (fun _ _ _ _ _ _ us hl => match us, hl with | [_], _ => rfl) (fun vs H Q E h => by obtain ⟨_, _, _, _, rfl, _⟩ := h; rfl) fun f cdv A outer s H vs Q E hr h => ?_
  obtain ⟨l, d1, d2, ns, rfl, hl, h1, h2, hn, k⟩ := h
  refine ⟨_, pss_cons (ps_par (i := 1) (j := 2) rfl scUnlike.nd rfl rfl (by decide) rfl rfl (pa_cons pe_dnewK (pa_cons (pe_lst pa_nil) pa_nil)) (by rfl))
    (pss_cons (ps_for PassesOwn.never rfl (pi_list (pv 0)) (pg_name (i := 3) scUnlike.nd rfl (Or.inl rfl))
      (pss_one (ps_lock (ps_for PassesOwn.never rfl (pi_items (pv 3)) (pg_tup rfl (pgs_cons (pg_name (i := 4) scUnlike.nd rfl (Or.inl rfl)) (pgs_cons (pg_name (i := 5) scUnlike.nd rfl (Or.inl rfl)) pgs_nil)))
        (pss_one (ps_if (pt_cmpR op_ne (pe_dsetd (pv 1) (pv 4) (pv 5) ⟨rfl, rfl, rfl, rfl⟩) (pv 5) (by rfl)) (pss_one (ps_expr (pe_bm PySem.F.plainAttrs_list PySem.F.slot_list_append PySem.F.type_list_append mt_append (pv 2) (pa_cons (pv 4) pa_nil)))) pss_nil))))))
    (pss_one (ps_ret (pe_callBK (cr_minDflt rfl) (by rfl) B.min boot_min (pa_cons (pv 2) pa_nil) (pk_cons pe_non pk_nil))))), ?_⟩
  intro kd hkd
  refine ⟨Nat.zero_le _, fun fl hfl => ?_⟩
  refine ⟨_, _, rfl, ?_⟩
  have nkf : fl ≠ kd := fun q => by rw [q, upd_same] at hfl; cases hfl
  have hfl0 : H fl = none := by rw [upd_ne nkf] at hfl; exact hfl
  have nkvl : (numKV ns).length ≤ 4 := by unfold numKV; rw [List.length_map]; exact hn.few
  refine ⟨_, rfl, l, rfl, ⟨_, ex_l ((Ex.new hkd).trans (Ex.new hfl)) hl⟩, for_list (K := K) (a := l) (xs := [V.ref d1, V.ref d2]) (fun i σ H' => ∃ kvs x3 x4 x5, σ = [some (.ref l), some (.ref kd), some (.ref fl), x3, x4, x5] ∧ H' kd = some (.dK kvs) ∧ H' fl = some (.lst []) ∧ Ex H H' ∧ kvs.length ≤ 4 * i ∧ ∀ q v, valV kvs q = some v → valV (numKV ns) q = some v)
    ⟨[], _, _, _, rfl, by rw [upd_ne nkf.symm]; exact upd_same, upd_same, (Ex.new hkd).trans (Ex.new hfl), Nat.le_refl _, fun q v h => by cases h⟩ (fun i σ H' _ ⟨_, _, _, _, _, _, _, e, _⟩ => ex_l e hl) ?_ ?_⟩
  · rintro i x σ H1 hix ⟨kvs, x3, x4, x5, rfl, hk1, hf1, e1, hlen, hsub⟩
    have hi2 : i < 2 := (List.getElem?_eq_some_iff.mp hix).1
    obtain ⟨d, rfl, hd⟩ : ∃ d, x = V.ref d ∧ H d = some (.dK (numKV ns)) := by
      rcases i with _ | _ | i
      · exact ⟨d1, (Option.some.inj hix).symm, h1⟩
      · exact ⟨d2, (Option.some.inj hix).symm, h2⟩
      · omega
    have hd1 := e1 _ _ hd
    have ndk : kd ≠ d := fun q => by rw [q, hd] at hkd; cases hkd
    have ndf : fl ≠ d := fun q => by rw [q, hd] at hfl0; cases hfl0
    refine ⟨d, _, hd1, trivial, fun od => ?_⟩
    refine ⟨_, rfl, d, od, _, rfl, upd_same, ?_⟩
    refine for_it (walk_items (kvs := numKV ns)) (fun j σ H' => ∃ kvs x4 x5, σ = [some (.ref l), some (.ref kd), some (.ref fl), some (.ref d), x4, x5] ∧ H' kd = some (.dK kvs) ∧ H' fl = some (.lst []) ∧ H' d = some (.frz od (.dK (numKV ns))) ∧ Ex H (upd H' d (.dK (numKV ns))) ∧ kvs.length ≤ 4 * i + j ∧ ∀ q v, valV kvs q = some v → valV (numKV ns) q = some v)
      ⟨kvs, _, _, rfl, by rw [upd_ne ndk]; exact hk1, by rw [upd_ne ndf]; exact hf1, upd_same, fun a o h => ?_, by omega, hsub⟩ (fun j σ H' _ ⟨_, _, _, _, _, _, h, _⟩ => h) ?_ ?_
    · by_cases c : a = d
      · subst c; rw [hd] at h; rw [upd_same]; exact h
      · rw [upd_ne c, upd_ne c]; exact e1 a o h
    · rintro j x σ H2 H3 hj ⟨kvs, y4, y5, rfl, hk2, hf2, hd2, e2, hlen2, hsub2⟩ ⟨T, k1, v1, rfl, hT, rfl, hq1, hq2⟩
      have hq1 : ((numKV ns)[j]?).map (fun kv => kV kv.1) = some k1 := hq1
      have hq2 : ((numKV ns)[j]?).map Prod.snd = some v1 := hq2
      cases e : (numKV ns)[j]? with
      | none => rw [e] at hq1; cases hq1
      | some q =>
        obtain ⟨kk, vv⟩ := q
        rw [e] at hq1 hq2
        obtain ⟨p, hp, rfl, rfl⟩ := numKV_get e
        obtain rfl : V.str p.1 = k1 := Option.some.inj hq1
        obtain rfl : V.int (p.2 : Nat) = v1 := Option.some.inj hq2
        have hval := valV_num (lookup_nodup hn.nd hp)
        refine ⟨T, _, rfl, st_of upd_same, rfl, _, _, rfl, _, _, rfl, rfl, ?_⟩
        have hTk : T ≠ kd := fun q => by rw [q, hk2] at hT; cases hT
        have hTf : T ≠ fl := fun q => by rw [q, hf2] at hT; cases hT
        have hTd : T ≠ d := fun q => by rw [q, hd2] at hT; cases hT
        have hk3 : (upd H2 T (.tup [.str p.1, .int (p.2 : Nat)])) kd = some (.dK kvs) := by rw [upd_ne hTk.symm]; exact hk2
        have hf3 : (upd H2 T (.tup [.str p.1, .int (p.2 : Nat)])) fl = some (.lst []) := by rw [upd_ne hTf.symm]; exact hf2
        have hd3 : (upd H2 T (.tup [.str p.1, .int (p.2 : Nat)])) d = some (.frz od (.dK (numKV ns))) := by rw [upd_ne hTd.symm]; exact hd2
        have e3 : Ex H (upd (upd H2 T (.tup [.str p.1, .int (p.2 : Nat)])) d (.dK (numKV ns))) := fun a o h => by
          have := e2 a o h
          by_cases c : a = d
          · subst c; rw [upd_same] at this ⊢; exact this
          · rw [upd_ne c] at this ⊢
            exact (Ex.new hT) a o this
        refine ⟨_, rfl, kd, rfl, .inl ⟨kvs, .inl hk3⟩, _, rfl, _, rfl, kvs, .inr p.1, hk3, rfl, sz_lt (by omega), fun v hv => ?_, fun hv => ?_⟩
        · have : v = .int (p.2 : Nat) := by
            have := hsub2 _ _ hv
            rw [hval] at this
            exact (Option.some.inj this).symm
          subst this
          refine ⟨_, rfl, rfl, false, bl_false' rfl, ?_⟩
          exact ⟨kvs, _, _, rfl, hk3, hf3, hd3, e3, by omega, hsub2⟩
        · refine ⟨_, rfl, rfl, false, bl_false' rfl, ?_⟩
          refine ⟨_, _, _, rfl, upd_same, by rw [upd_ne nkf]; exact hf3, by rw [upd_ne ndk.symm]; exact hd3, ?_, ?_, ?_⟩
          · intro a o h
            have := e3 a o h
            by_cases c : a = d
            · subst c; rw [upd_same] at this ⊢; exact this
            · rw [upd_ne c] at this ⊢
              rw [upd_ne (fun q => by rw [q, hkd] at h; cases h)]
              exact this
          · rw [putK_new _ hv, List.length_append]
            show _ + 1 ≤ _
            omega
          · intro q v h
            rw [putK_new _ hv, valV_app] at h
            cases h2 : valV kvs q with
            | some u =>
              rw [h2] at h
              obtain rfl : u = v := Option.some.inj h
              exact hsub2 _ _ h2
            | none =>
              rw [h2] at h
              have h : (if (Sum.inr p.1 : Key) = q then some (V.int (p.2 : Nat)) else none) = some v := h
              by_cases c : (Sum.inr p.1 : Key) = q
              · rw [if_pos c] at h
                rw [← c, hval]
                exact h
              · rw [if_neg c] at h
                cases h
    · rintro σ H2 ⟨kvs, y4, y5, rfl, hk2, hf2, hd2, e2, hlen2, hsub2⟩
      refine ⟨hd2, kvs, _, _, _, rfl, by rw [upd_ne ndk]; exact hk2, by rw [upd_ne ndf]; exact hf2, e2, by omega, hsub2⟩
  · rintro σ H1 ⟨kvs, x3, x4, x5, rfl, hk1, hf1, e1, hlen, hsub⟩
    refine ⟨_, rfl, ?_⟩
    exact ⟨fl, rfl, rfl, sq_of hf1, k _ e1⟩
theorem scMatch : FnScope ["some", "operation"] ["some"] (defScope sMatch) := ⟨rfl, rfl, rfl, by decide +kernel, rfl, by decide +kernel, by decide +kernel⟩
theorem cal_match (D : Dh K mg "look_match" sMatch) (c : Cal P w K mg base 1 "unlike_in" (spUnlike K)) : Cal P w K mg base 2 "look_match" (spUnlike K) := by
  refine D.cal (k := 1) scMatch (fun _ _ _ _ _ _ us hl => match us, hl with | [_], _ => rfl) (fun vs H Q E h => by obtain ⟨_, _, _, _, rfl, _⟩ := h; rfl) fun f cdv A outer s H vs Q E hr h => ?_
  obtain ⟨l, d1, d2, ns, rfl, hl, h1, h2, hn, k⟩ := h
  refine ⟨_, pss_cons (ps_set (i := 1) scMatch.nd rfl (Or.inl rfl) (pe_f c hr (Nat.le_refl _) (by rfl) (pa_cons (pv 0) pa_nil))) (pss_one (ps_if (pt_cmpR op_notN (pv 1) pe_non (by rfl)) pss_never pss_nil)), ?_⟩
  refine ⟨_, rfl, l, d1, d2, ns, rfl, hl, h1, h2, hn, fun H1 e1 => ?_⟩
  exact ⟨_, rfl, rfl, false, bl_false' rfl, k H1 e1⟩
end
end Ask

namespace Ask
open PySem PySem.Spec PyProof.Rows L2 Evl

abbrev sSource : Stmt := topS 43
abbrev sDraw : Stmt := topS 44
abbrev sPick : Stmt := topS 45
abbrev sNumbers : Stmt := topS 46
abbrev sRowsL : Stmt := topS 49
/-- the well, whatever is in it -/
def WellAt (w : Addr) (H : Hp) : Prop := ∃ a b c : Int, H w = some (.lst [.int a, .int b, .int c])
/-- all but the well stands -/
def Exw (w : Addr) (H H' : Hp) : Prop := Ex (hid w H) H' ∧ WellAt w H'
theorem Exw.trans {w : Addr} {H H1 H2 : Hp} (a : Exw w H H1) (b : Exw w H1 H2) : Exw w H H2 := ⟨fun c o h => by
  have hc : c ≠ w := fun q => by rw [q, hid_same] at h; cases h
  exact b.1 c o (by rw [hid_ne hc]; exact a.1 c o h), b.2⟩
theorem Exw.ex {w : Addr} {H H' : Hp} (h : WellAt w H) (e : Ex H H') : Exw w H H' := ⟨ex_hid.trans e, by
  obtain ⟨a, b, c, q⟩ := h
  exact ⟨a, b, c, e _ _ q⟩⟩
theorem Exw.get {w : Addr} {H H' : Hp} (e : Exw w H H') {a : Addr} {o : HO} (h : H a = some o) (n : a ≠ w) : H' a = some o := e.1 a o (by rw [hid_ne n]; exact h)
theorem Exw.tk {K : PySem.W.Frag} {w : Addr} {H H' : Hp} (e : Exw w H H') (h : WellAt w H) : Tk K H H' := by
  obtain ⟨a, b, c, q⟩ := h
  exact (tk_hid q).trans (Tk.ex e.1)
theorem Exw.draw {w : Addr} {H : Hp} (a b c : Int) : Exw w H (upd H w (.lst [.int a, .int b, .int c])) := ⟨fun d o h => by
  have hc : d ≠ w := fun q => by rw [q, hid_same] at h; cases h
  rw [hid_ne hc] at h
  rw [upd_ne hc]
  exact h, a, b, c, upd_same⟩
theorem Exw.back {w : Addr} {H H' : Hp} (e : Exw w H H') (hw : WellAt w H) {p : Addr} (h : H' p = none) : H p = none := by
  cases q : H p with
  | none => rfl
  | some o =>
    by_cases c : p = w
    · obtain ⟨a, b, d, z⟩ := e.2
      rw [c, z] at h
      cases h
    · rw [e.get q c] at h
      cases h
/-- another object that the old heap did not know may change -/
theorem Exw.mut {w : Addr} {H H' : Hp} {p : Addr} {o : HO} (e : Exw w H H') (h : H p = none) (n : p ≠ w) : Exw w H (upd H' p o) := ⟨Ex.mut e.1 (by rw [hid_ne n]; exact h), by
  obtain ⟨a, b, c, q⟩ := e.2
  exact ⟨a, b, c, by rw [upd_ne n.symm]; exact q⟩⟩
def spSource : Sp := fun vs H Q _ => ∃ c : Int, vs = [.int c] ∧ ∀ p H' a b, H p = none → Ex H H' → H' p = some (.lst [.int a, .int b, .int 0]) → Q (.ref p) H'
def spDraw : Sp := fun vs H Q _ => ∃ w n, vs = [.ref w, .int (n : Nat)] ∧ WellAt w H ∧ 0 < n ∧ n < 1000000 ∧ ∀ (r : Nat) H', r < n → Exw w H H' → (∃ a b c : Int, H' = upd H w (.lst [.int a, .int b, .int c])) → Q (.int (r : Nat)) H'
def spPick (K : PySem.W.Frag) : Sp := fun vs H Q _ => ∃ w sl xs, vs = [.ref w, .ref sl] ∧ WellAt w H ∧ sl ≠ w ∧ SqL K H sl xs ∧ 0 < xs.length ∧ xs.length < 1000000 ∧ ∀ (i : Nat) x H', xs[i]? = some x → Exw w H H' → Q x H'
theorem ex_lh {K : PySem.W.Frag} {w a : Addr} {H H' : Hp} {xs : List V} (e : Exw w H H') (n : a ≠ w) (h : SqL K H a xs) : SqL K H' a xs := by
  rcases h with (h | ⟨u, h⟩) | h
  · exact .inl (.inl (e.get h n))
  · exact .inl (.inr ⟨u, e.get h n⟩)
  · exact .inr h
section
variable {P : Program} {w : World} {K : PySem.W.Frag} {mg : Str → Option Value} {base : Heap}
theorem scSource : FnScope ["_law_cell", "_law_number"] ["_law_cell"] (defScope sSource) := ⟨rfl, rfl, rfl, by decide +kernel, rfl, by decide +kernel, by decide +kernel⟩
theorem cal_source (B : Bn mg) (D : Dh K mg "_law_source" sSource) : Cal P w K mg base 1 "_law_source" spSource := by
  refine D.cal (k := 0) scSource (fun _ _ _ _ _ _ us hl => match us, hl with | [_], _ => rfl) (fun vs H Q E h => by obtain ⟨_, rfl, _⟩ := h; rfl) fun f cdv A outer s H vs Q E hr h => ?_
  obtain ⟨c, rfl, k⟩ := h
  refine ⟨_, Evl.pss_cut (ps_set (i := 1) scSource.nd rfl (Or.inl rfl) (pe_ifExp (pt_cmpR op_ge (pv 0) pe_int (by rfl)) (pv 0) (pe_op op_sub (pe_op op_sub pe_int (pe_op op_mul pe_int (pv 0))) pe_int)))
    (pss_one (ps_ret (pe_lst (pa_cons (pe_op op_mul (pv 1) (pe_callTy call_int1 (by rfl) B.int boot_int (pa_cons (pe_cmpR op_ge (pv 1) (pe_op op_pow pe_int pe_int) (by rfl)) pa_nil)))
      (pa_cons (pe_op op_mod (pe_callTy call_int1 (by rfl) B.int boot_int (pa_cons (pv 1) pa_nil)) pe_int) (pa_cons pe_int pa_nil)))))), ?_⟩
  refine ⟨fun σ H' => H' = H ∧ ∃ n : Int, σ = [some (.int c), some (.int n)], ?_, ?_⟩
  · refine ⟨_, rfl, c, 0, rfl, rfl, decide ((0 : Int) ≤ c), rfl, ?_⟩
    by_cases h : (0 : Int) ≤ c
    · rw [decide_eq_true h]
      exact ⟨_, rfl, rfl, _, rfl⟩
    · rw [decide_eq_false h]
      exact ⟨_, rfl, 3, c, rfl, rfl, .inl ⟨by decide, by decide⟩, _, _, rfl, rfl, _, _, rfl, rfl, rfl, _, rfl⟩
  · rintro σ _ ⟨rfl, n, rfl⟩
    refine ⟨_, rfl, _, rfl, 10, 18, rfl, rfl, ⟨by decide, by decide, by decide⟩, n, _, rfl, rfl, .inr ⟨_, rfl, n, _, rfl, rfl, .inr ?_, ?_⟩⟩
    · split <;> exact ⟨by decide, by decide⟩
    refine ⟨_, rfl, .inl ⟨n, rfl, n, _, rfl, rfl, by show (0 : Int) < 2147483629; decide, ?_⟩⟩
    exact ⟨by show 3 ≤ sizeLine; decide, fun p hp => k p _ _ _ hp (Ex.new hp) upd_same⟩
theorem scDraw : FnScope ["_law_well", "_law_many", "_law_found", "_law_number"] ["_law_well", "_law_many"] (defScope sDraw) := ⟨rfl, rfl, rfl, by decide +kernel, rfl, by decide +kernel, by decide +kernel⟩
theorem cal_draw (B : Bn mg) (D : Dh K mg "_law_draw" sDraw) : Cal P w K mg base 1 "_law_draw" spDraw := by
  refine D.cal (k := 0) scDraw (fun _ _ _ _ _ _ us hl => match us, hl with | [_, _], _ => rfl) (fun vs H Q E h => by obtain ⟨_, _, rfl, _⟩ := h; rfl) fun f cdv A outer s H vs Q E hr h => ?_
  obtain ⟨wl, n, rfl, ⟨a, b, c, hw⟩, hn, hn30, k⟩ := h
  have int1 : ∀ {X : Cx} {e : Expr} {te : TE} {p pos : Pos}, Gl X "int" → X.mg "int" = none → PE X e te → starEach [e] X.env = (false, eval e X.env) :: starEach [] X.env → True := fun _ _ _ _ => trivial
  refine ⟨_, pss_cons (ps_if (pt_cmpR op_gt (pe_ix ix_list (pv 0) pe_int fun _ _ => rfl) pe_int (by rfl))
      (pss_cons (ps_set (i := 2) scDraw.nd rfl (Or.inl rfl) (pe_op op_mod (pe_callTy call_int1 (by rfl) B.int boot_int (pa_cons (pe_ix ix_list (pv 0) pe_int fun _ _ => rfl) pa_nil)) (pv 1)))
      (pss_cons (ps_asg (pe_op op_fdiv (pe_ix ix_list (pv 0) pe_int fun _ _ => rfl) (pv 1)) (pg_sub (pv 0) pe_int set_list))
      (pss_one (ps_ret (pv 2))))) pss_nil)
    (pss_cons (ps_asg (pe_op op_add (pe_ix ix_list (pv 0) pe_int fun _ _ => rfl) pe_int) (pg_sub (pv 0) pe_int set_list))
    (pss_cons (ps_set (i := 3) scDraw.nd rfl (Or.inl rfl) (pe_op op_mod (pe_callTy call_int1 (by rfl) B.int boot_int (pa_cons (pe_op op_mul (pe_op op_add (pe_op op_add (pe_ix ix_list (pv 0) pe_int fun _ _ => rfl) (pe_op op_mul pe_int (pe_ix ix_list (pv 0) pe_int fun _ _ => rfl))) pe_int) pe_int) pa_nil)) pe_int))
    (pss_cons (ps_set (i := 3) scDraw.nd rfl (Or.inl rfl) (pe_op op_mod (pe_callTy call_int1 (by rfl) B.int boot_int (pa_cons (pe_op op_mul (pv 3) (pe_op op_add (pe_op op_add (pe_op op_fdiv (pv 3) pe_int) pe_int) (pe_ix ix_list (pv 0) pe_int fun _ _ => rfl))) pa_nil)) pe_int))
    (pss_one (ps_ret (pe_op op_mod (pe_callTy call_int1 (by rfl) B.int boot_int (pa_cons (pe_op op_fdiv (pe_op op_mod (pe_callTy call_int1 (by rfl) B.int boot_int (pa_cons (pe_op op_mul (pv 3) (pe_op op_add (pe_op op_fdiv (pv 3) pe_int) pe_int)) pa_nil)) pe_int) pe_int) pa_nil)) (pv 1))))))), ?_⟩
  refine ⟨_, rfl, wl, _, 0, _, rfl, rfl, sq_of hw, rfl, a, 0, rfl, rfl, decide ((0 : Int) < a), rfl, ?_⟩
  have fin : ∀ x : Int, ∀ a' b' c' : Int, Q (.int (x % (n : Nat))) (upd H wl (.lst [.int a', .int b', .int c'])) := fun x a' b' c' => by
    have h0 : 0 ≤ x % (n : Int) := Int.emod_nonneg _ (by omega)
    have h1 : x % (n : Int) < (n : Int) := Int.emod_lt_of_pos _ (by omega)
    have := k (x % (n : Int)).toNat _ (by omega) (Exw.draw a' b' c') ⟨_, _, _, rfl⟩
    rw [Int.toNat_of_nonneg h0] at this
    exact this
  by_cases h : (0 : Int) < a
  · rw [decide_eq_true h]
    refine ⟨_, rfl, wl, _, 0, _, rfl, rfl, sq_of hw, rfl, .inl ⟨a, rfl, _, rfl, a, _, rfl, rfl, by omega, ?_⟩⟩
    refine ⟨_, rfl, wl, _, 0, _, rfl, rfl, sq_of hw, rfl, _, rfl, a, _, rfl, rfl, ⟨by omega, by omega⟩, ?_⟩
    refine ⟨_, rfl, wl, _, 0, 0, rfl, rfl, hw, rfl, ?_⟩
    exact ⟨_, rfl, fin a _ _ _⟩
  · rw [decide_eq_false h]
    refine ⟨_, rfl, wl, _, 2, _, rfl, rfl, sq_of hw, rfl, c, 1, rfl, rfl, ?_⟩
    refine ⟨_, rfl, wl, _, 2, 2, rfl, rfl, hw, rfl, ?_⟩
    have hw2 : (upd H wl (.lst [.int a, .int b, .int (c + 1)])) wl = some (.lst [.int a, .int b, .int (c + 1)]) := upd_same
    refine ⟨_, rfl, wl, _, 1, _, rfl, rfl, sq_of hw2, rfl, _, rfl, wl, _, 2, _, rfl, rfl, sq_of hw2, rfl, _, _, rfl, rfl, .inl ⟨by decide, by decide⟩, _, _, rfl, rfl, _, _, rfl, rfl, _, _, rfl, rfl, .inr ⟨by decide, by decide⟩, .inl ⟨_, rfl, _, _, rfl, rfl, by show (0 : Int) < 2147483647; decide, ?_⟩⟩
    generalize hx : (b + 104729 * (c + 1) + 11) * 48271 % 2147483647 = x
    have x0 : 0 ≤ x := by rw [← hx]; exact Int.emod_nonneg _ (by decide)
    have x1 : x < 2147483647 := by rw [← hx]; exact Int.emod_lt_of_pos _ (by decide)
    refine ⟨_, rfl, _, rfl, x, _, congrArg V.int hx, rfl, ⟨by decide, by decide⟩, _, _, rfl, rfl, _, rfl, wl, _, 2, _, rfl, rfl, sq_of hw2, rfl, _, _, rfl, rfl, x, _, congrArg V.int hx, rfl, .inl ⟨by omega, by omega⟩, .inl ⟨_, rfl, _, _, rfl, rfl, by show (0 : Int) < 2147483587; decide, ?_⟩⟩
    generalize hy : x * (x / 1009 + 69621 + (c + 1)) % 2147483587 = y
    have y0 : 0 ≤ y := by rw [← hy]; exact Int.emod_nonneg _ (by decide)
    have y1 : y < 2147483587 := by rw [← hy]; exact Int.emod_lt_of_pos _ (by decide)
    refine ⟨_, rfl, _, rfl, y, _, congrArg V.int hy, rfl, ⟨by decide, by decide⟩, _, _, rfl, rfl, y, _, congrArg V.int hy, rfl, .inl ⟨by omega, by omega⟩, .inl ⟨_, rfl, _, _, rfl, rfl, by show (0 : Int) < 2147483563; decide, _, _, rfl, rfl, ⟨by decide, by decide⟩, .inl ⟨_, rfl, _, rfl, _, _, rfl, rfl, by omega, ?_⟩⟩⟩
    exact fin _ _ _ _
theorem scPick : FnScope ["_law_well", "_law_some"] ["_law_well", "_law_some"] (defScope sPick) := ⟨rfl, rfl, rfl, by decide +kernel, rfl, by decide +kernel, by decide +kernel⟩
theorem cal_pick (B : Bn mg) (D : Dh K mg "_law_pick" sPick) (cD : Cal P w K mg base 1 "_law_draw" spDraw) : Cal P w K mg base 2 "_law_pick" (spPick K) := by
  refine D.cal (k := 1) scPick (fun _ _ _ _ _ _ us hl => match us, hl with | [_, _], _ => rfl) (fun vs H Q E h => by obtain ⟨_, _, _, rfl, _⟩ := h; rfl) fun f cdv A outer s H vs Q E hr h => ?_
  obtain ⟨wl, sl, xs, rfl, hw, hne, hs, h0, h30, k⟩ := h
  refine ⟨_, pss_one (ps_ret (pe_ix ix_list (pv 1) (pe_f cD hr (Nat.le_refl _) (by rfl) (pa_cons (pv 0) (pa_cons (pe_callB call_len_seq (by rfl) B.len PySem.boot_len (pa_cons (pv 1) pa_nil)) pa_nil))) fun _ _ => rfl)), ?_⟩
  refine ⟨_, rfl, _, rfl, _, rfl, sl, xs, rfl, .inl hs, wl, xs.length, rfl, hw, h0, h30, fun r H' hr' e _ => ?_⟩
  refine ⟨sl, xs, (r : Int), xs[r], rfl, rfl, ex_lh e hne hs, atI_nat (by simp [hr']), ?_⟩
  exact k r _ _ (by simp [hr']) e
end
end Ask

namespace Ask
open PySem PySem.Spec PyProof.Rows L2 Evl

def tab : Nums := [("coin", 2), ("dice", 3), ("read", 1), ("fail", 0), ("tell", 1), ("flip", 2)]
def tabAt (j : Nat) : Str × Nat := tab.getD j ("", 0)
def nsAt (t : Nat) : Nums := (List.range 4).map fun k => tabAt ((t + k) % 6)
def nchk (ns : Nums) : Bool := decide (ns.length ≤ 4) && (ns.all (fun p => names6.contains p.1 && decide (p.2 ≤ 3)) && decide (ns.map Prod.fst).Nodup)
theorem nchk_ok {ns : Nums} (h : nchk ns = true) : NOk ns := by
  unfold nchk at h
  simp only [Bool.and_eq_true, decide_eq_true_eq, List.all_eq_true] at h
  exact ⟨h.1, fun p hp => ⟨by simpa using (h.2.1 p hp).1, (h.2.1 p hp).2⟩, h.2.2⟩
theorem nsAt_ok {t : Nat} (h : t < 6) : NOk (nsAt t) := by
  have all : (List.range 6).all (fun t => nchk (nsAt t)) = true := by decide +kernel
  exact nchk_ok (List.all_eq_true.mp all t (List.mem_range.mpr h))
theorem tab_nd : (tab.map Prod.fst).Nodup := by decide +kernel
theorem tab_get {j : Nat} (h : j < 6) : tab[j]? = some (tabAt j) := by
  have hl : j < tab.length := h
  unfold tabAt
  rw [List.getD_eq_getElem?_getD, List.getElem?_eq_getElem hl]
  rfl
theorem valV_out {α : Type} [DecidableEq α] {kvs : List (α × V)} {k : α} (h : k ∉ kvs.map Prod.fst) : valV kvs k = none := by
  unfold valV
  rw [List.find?_eq_none.mpr]
  · rfl
  · intro x hx q
    exact h (List.mem_map.mpr ⟨x, hx, of_decide_eq_true q⟩)
theorem mergeK_nd : ∀ (more acc : List (Key × V)), ((acc ++ more).map Prod.fst).Nodup → mergeK acc more = acc ++ more
  | [], acc, _ => by show acc = acc ++ []; rw [List.append_nil]
  | p :: more, acc, h => by
    have h2 : ((acc ++ [p] ++ more).map Prod.fst).Nodup := by rw [List.append_assoc]; exact h
    have hout : p.1 ∉ acc.map Prod.fst := by
      rw [List.map_append, List.nodup_append] at h
      intro hm
      exact h.2.2 _ hm _ (List.mem_map.mpr ⟨p, List.mem_cons_self .., rfl⟩) rfl
    show mergeK (putK acc p.1 p.2) more = _
    rw [putK_new _ (valV_out hout), mergeK_nd more _ h2, List.append_assoc]
    rfl
theorem numKV_nd {ns : Nums} (h : (ns.map Prod.fst).Nodup) : ((numKV ns).map Prod.fst).Nodup := by
  unfold numKV
  rw [List.map_map]
  have e : ns.map (Prod.fst ∘ fun p : Str × Nat => ((.inr p.1, .int (p.2 : Nat)) : Key × V)) = (ns.map Prod.fst).map (Sum.inr : Str → Key) := by
    rw [List.map_map]
    rfl
  rw [e]
  unfold List.Nodup at h ⊢
  rw [List.pairwise_map]
  exact h.imp fun n q => n (Sum.inr.inj q)
theorem merge_num {ns : Nums} (h : (ns.map Prod.fst).Nodup) : mergeK [] (numKV ns) = numKV ns := mergeK_nd (numKV ns) [] (by rw [List.nil_append]; exact numKV_nd h)
theorem pairs_of {K : PySem.W.Frag} {H : Hp} : ∀ {acc : List V} {L : Nums}, acc.length = L.length → (∀ (j : Nat) (v : V), acc[j]? = some v → ∃ nm n p, L[j]? = some (nm, n) ∧ v = .ref p ∧ SqT K H p [.str nm, .int (n : Nat)]) → ∃ ps : List Addr, acc = ps.map V.ref ∧ Paired (fun p (kv : Key × V) => SqT K H p [kV kv.1, kv.2]) ps (numKV L)
  | [], [], _, _ => ⟨[], rfl, .nil⟩
  | v :: acc, (a, b) :: L, hl, h => by
    obtain ⟨nm, n, p, e, rfl, hp⟩ := h 0 v rfl
    have e2 : (a, b) = (nm, n) := Option.some.inj e
    obtain ⟨rfl, rfl⟩ := Prod.mk.inj e2
    obtain ⟨ps, rfl, q⟩ := pairs_of (acc := acc) (L := L) (by simpa using hl) fun (j : Nat) v e => h (j + 1) v e
    exact ⟨p :: ps, rfl, .cons hp q⟩
def spNumbers : Sp := fun vs H Q _ => ∃ w, vs = [.ref w] ∧ WellAt w H ∧ ∀ p ns H', H p = none → NOk ns → 0 < ns.length → Exw w H H' → H' p = some (.dK (numKV ns)) → Q (.ref p) H'
section
variable {P : Program} {w : World} {K : PySem.W.Frag} {mg : Str → Option Value} {base : Heap}
theorem scNumbers : FnScope ["_law_well", "_law_some", "_law_names", "_law_turn", "_law_k"] ["_law_well"] (defScope sNumbers) := ⟨rfl, rfl, rfl, by decide +kernel, rfl, by decide +kernel, by decide +kernel⟩
theorem cal_numbers (B : Bn mg) (D : Dh K mg "_law_numbers" sNumbers) (cD : Cal P w K mg base 1 "_law_draw" spDraw) : Cal P w K mg base 2 "_law_numbers" spNumbers := by
  refine D.cal (k := 1) scNumbers (fun _ _ _ _ _ _ us hl => match us, hl with | [_], _ => rfl) (fun vs H Q E h => by obtain ⟨_, rfl, _⟩ := h; rfl) fun f cdv A outer s H vs Q E hr h => ?_
  obtain ⟨wl, rfl, hw, k⟩ := h
  refine ⟨_, pss_cons (ps_set (i := 1) scNumbers.nd rfl (Or.inr rfl) (pe_disp (pps_cons pe_str pe_int (pps_cons pe_str pe_int (pps_cons pe_str pe_int (pps_cons pe_str pe_int (pps_cons pe_str pe_int (pps_cons pe_str pe_int pps_nil)))))) rfl rfl (by simp) (by decide)))
    (pss_cons (ps_set (i := 2) scNumbers.nd rfl (Or.inr rfl) (pe_lst (pa_cons pe_str (pa_cons pe_str (pa_cons pe_str (pa_cons pe_str (pa_cons pe_str (pa_cons pe_str pa_nil))))))))
    (pss_cons (ps_set (i := 3) scNumbers.nd rfl (Or.inr rfl) (pe_f cD hr (Nat.le_refl _) (by rfl) (pa_cons (pv 0) (pa_cons pe_int pa_nil))))
    (pss_one (ps_ret (pe_callTy (call_dictP rfl) (by rfl) B.dict boot_dict (pa_cons (pe_lc (own := [("_law_k", 4)]) (g := gName 4) (tt := tYes) rfl scNumbers.nd (pi_range1 (by rfl) B.range (pa_cons pe_int pa_nil)) (blkOk_by (N := ["_law_well", "_law_some", "_law_names", "_law_turn", "_law_k"]) (sc := defScope sNumbers) (by decide +kernel))
      (fun _ _ _ _ _ => pg_name (i := 4) scNumbers.nd rfl (Or.inl rfl)) (fun _ _ _ _ _ => pts_nil) (fun _ _ _ _ _ => pe_tup (pa_cons (pe_ix (r := rIxL K) ix_list (pv 2) (pe_op op_mod (pe_callTy call_int1 (by rfl) B.int boot_int (pa_cons (pe_op op_add (pv 3) (pv 4)) pa_nil)) pe_int) fun _ _ => rfl)
        (pa_cons (pe_dget (hu_of hr) (pv 1) (pe_ix (r := rIxL K) ix_list (pv 2) (pe_op op_mod (pe_callTy call_int1 (by rfl) B.int boot_int (pa_cons (pe_op op_add (pv 3) (pv 4)) pa_nil)) pe_int) fun _ _ => rfl) (fun _ _ => rfl)) pa_nil)))) pa_nil)))))), ?_⟩
  intro sd hsd
  refine ⟨upd_same, numKV tab, rfl, by decide, ?_⟩
  rw [merge_num tab_nd]
  refine ⟨by show 6 ≤ sizeLine; decide, fun nl hnl => ?_⟩
  have ex1 : Ex H (upd (upd H sd (.dK [])) sd (.dK (numKV tab))) := Ex.mut (Ex.new hsd) hsd
  have ex2 := ex1.trans (Ex.new (o := .lst (tab.map fun p => V.str p.1)) hnl)
  have hsd2 : (upd (upd (upd H sd (.dK [])) sd (.dK (numKV tab))) nl (.lst (tab.map fun p => V.str p.1))) sd = some (.dK (numKV tab)) := by
    rw [upd_ne (fun q => by rw [← q, upd_same] at hnl; cases hnl)]
    exact upd_same
  have hnl2 : (upd (upd (upd H sd (.dK [])) sd (.dK (numKV tab))) nl (.lst (tab.map fun p => V.str p.1))) nl = some (.lst (tab.map fun p => V.str p.1)) := upd_same
  have hnl0 := fresh_back ex1 hnl
  show (tSeq _ _ : TS) _ _ (upd (upd (upd H sd (.dK [])) sd (.dK (numKV tab))) nl (.lst (tab.map fun p => V.str p.1)))
  generalize upd (upd (upd H sd (.dK [])) sd (.dK (numKV tab))) nl (.lst (tab.map fun p => V.str p.1)) = H2 at ex2 hsd2 hnl2
  have hwX := Exw.ex hw ex2
  obtain ⟨wa, wb, wc, hwl⟩ := id hw
  have nsw : sd ≠ wl := fun q => by rw [q, hwl] at hsd; cases hsd
  have nnw : nl ≠ wl := fun q => by rw [q, hwl] at hnl0; cases hnl0
  refine ⟨_, rfl, wl, 6, rfl, hwX.2, by decide, by decide, fun t H3 ht e3 _ => ?_⟩
  have hsd3 := e3.get hsd2 nsw
  have hnl3 := e3.get hnl2 nnw
  have e03 := hwX.trans e3
  refine ⟨_, rfl, by decide, by decide, fun Dl hD => ?_⟩
  refine lc_P (fun j v H => ∃ p, v = .ref p ∧ SqT K H p [.str (tabAt ((t + j) % 6)).1, .int ((tabAt ((t + j) % 6)).2 : Nat)]) (fun j v H H' e ⟨p, q1, q2⟩ => ⟨p, q1, ex_t e q2⟩) (walk_range (lo := 0) (n := 4)) hD (by decide) (fun _ _ => trivial) ?_ ?_
  · rintro i x H4 H5 hi e4 ⟨acc, hacc⟩ ⟨rfl, rfl⟩ R hR
    have hj : (t + i) % 6 < 6 := Nat.mod_lt _ (by decide)
    have ej : ((t : Int) + (0 + (i : Int))) % 6 = (((t + i) % 6 : Nat) : Int) := by omega
    have hget : (tab.map fun p => V.str p.1)[(t + i) % 6]? = some (.str (tabAt ((t + i) % 6)).1) := by rw [List.getElem?_map, tab_get hj]; rfl
    have hat : atI (tab.map fun p => V.str p.1) (((t : Int) + (0 + (i : Int))) % 6) = some (.str (tabAt ((t + i) % 6)).1) := by rw [ej]; exact atI_nat hget
    have hval := valV_num (lookup_nodup tab_nd (tab_get hj))
    have dg : DGet H5 sd (V.str (tabAt ((t + i) % 6)).1) (some (.int ((tabAt ((t + i) % 6)).2 : Nat))) := by
      have := DGet.k (k := .inr (tabAt ((t + i) % 6)).1) (e4 _ _ hsd3)
      rw [hval] at this
      exact this
    refine ⟨rfl, ?_⟩
    refine ⟨_, rfl, _, rfl, _, rfl, _, _, rfl, rfl, .inl ⟨_, rfl, _, _, rfl, rfl, by show (0 : Int) < 6; decide, nl, _, _, _, rfl, rfl, sq_of (e4 _ _ hnl3), hat, ?_⟩⟩
    refine ⟨_, rfl, _, rfl, _, rfl, _, rfl, _, _, rfl, rfl, .inl ⟨_, rfl, _, _, rfl, rfl, by show (0 : Int) < 6; decide, nl, _, _, _, rfl, rfl, sq_of (e4 _ _ hnl3), hat, sd, _, rfl, dg, ?_⟩⟩
    refine ⟨by show 2 ≤ sizeLine; decide, fun p hp => hR _ _ (Ex.new hp) ⟨p, rfl, st_of ?_⟩⟩
    rw [hid_ne (fun q => by rw [q, hacc] at hp; cases hp)]
    exact upd_same
  · intro H4 acc e4 hacc hlen hall
    have hl2 : acc.length = (nsAt t).length := by rw [hlen]; rfl
    obtain ⟨ps, eps, hps⟩ := pairs_of (K := K) (H := H4) hl2 fun j v e => by
      obtain ⟨p, q1, q2⟩ := hall j v e
      have hj : j < 4 := by
        have := (List.getElem?_eq_some_iff.mp e).1
        omega
      refine ⟨(tabAt ((t + j) % 6)).1, (tabAt ((t + j) % 6)).2, p, ?_, q1, ex_t ex_hid q2⟩
      unfold nsAt
      rw [List.getElem?_map, List.getElem?_range hj]
      rfl
    refine ⟨Dl, ps, numKV (nsAt t), rfl, by rw [← eps]; exact sq_of hacc, hps, fun p hp => ?_⟩
    rw [merge_num (nsAt_ok ht).nd]
    have e04 := e03.trans (Exw.ex e03.2 (e4.trans (Ex.new (o := .dK (numKV (nsAt t))) hp)))
    exact k p (nsAt t) _ (e03.back hw (fresh_back e4 hp)) (nsAt_ok ht) (by show 0 < 4; decide) e04 upd_same
end
end Ask

namespace Ask
open PySem PySem.Spec PyProof.Rows L2 Evl

theorem dpAll_nV {K : PySem.W.Frag} {H : Hp} : ∀ l : List Nat, DpAll K H (nV l) (l.map fun (n : Nat) => PyData.int n)
  | [] => .nil
  | n :: l => .cons (.int _) (dpAll_nV l)
theorem nV_app (l : List Nat) (n : Nat) : nV l ++ [V.int (n : Nat)] = nV (l ++ [n]) := by
  unfold nV
  rw [List.map_append]
  rfl
def spRowsG (K : PySem.W.Frag) : Sp := fun vs H Q _ => ∃ w nd wl ns n, vs = [.ref w, .ref nd, .ref wl, .int (n : Nat)] ∧ WellAt w H ∧ nd ≠ w ∧ wl ≠ w ∧ H nd = some (.dK (numKV ns)) ∧ NOk ns ∧ 0 < ns.length ∧ H wl = some (.lst (words2.map V.str)) ∧ 0 < n ∧ n ≤ 7 ∧
  ∀ p R ys H', H p = none → Exw w H H' → H' p = some (.lst ys) → DpAll K H' ys (R.map encRow) → ROk R → RNs ns R → R.length = n → Q (.ref p) H'
/-- what stands at turn i -/
def RI (K : PySem.W.Frag) (w nd wl : Addr) (n : Nat) (ns : Nums) (H : Hp) (rl nl : Addr) (nms : List Str) (i : Nat) (σ : L2.St) (H' : Hp) : Prop :=
  ∃ ys R x6 x7 x8 x9, σ = [some (.ref w), some (.ref nd), some (.ref wl), some (.int (n : Nat)), some (.ref rl), some (.ref nl), x6, x7, x8, x9] ∧ H' rl = some (.lst ys) ∧ H' nl = some (.lst (nms.map V.str)) ∧ Exw w H H' ∧ DpAll K H' ys (R.map encRow) ∧ (∀ r ∈ R, RowOk n r) ∧ RNs ns R ∧ R.length = i
theorem RI.next {K : PySem.W.Frag} {w nd wl : Addr} {n : Nat} {ns : Nums} {H H3 H5 : Hp} {rl nl : Addr} {nms : List Str} {i : Nat} {ys : List V} {R : Rows} {r : Row} {v : V} {x6 x7 x8 x9 : Option V} (hn : n ≤ 7) (hrl0 : H rl = none) (rw' : rl ≠ w) (nw : nl ≠ w) (rnl : rl ≠ nl)
    (h1 : H3 rl = some (.lst ys)) (h2 : H3 nl = some (.lst (nms.map V.str))) (e : Exw w H H3) (hd : DpAll K H3 ys (R.map encRow)) (hok : ∀ r ∈ R, RowOk n r) (hns : RNs ns R) (hl : R.length = i) (hi : i < n)
    (e5 : Exw w H3 H5) (ro : RowOk n r) (rn : ∀ nm nx, r = .ask nm nx → ns.lookup nm = some nx.length) (dv : Dp K H5 v (encRow r)) :
    H5 rl = some (.lst ys) ∧ ys.length < sizeLine ∧ RI K w nd wl n ns H rl nl nms (i + 1) [some (.ref w), some (.ref nd), some (.ref wl), some (.int (n : Nat)), some (.ref rl), some (.ref nl), x6, x7, x8, x9] (upd H5 rl (.lst (ys ++ [v]))) := by
  have h5 := e5.get h1 rw'
  have tk := (e5.tk (K := K) e.2).trans (Tk.lst (o' := .lst (ys ++ [v])) h5)
  have hysl := rows_len hd
  refine ⟨h5, sz_lt (by omega), ys ++ [v], R ++ [r], _, _, _, _, rfl, upd_same, ?_, Exw.mut (e.trans e5) hrl0 rw', ?_, ?_, ?_, ?_⟩
  · rw [upd_ne rnl.symm]
    exact e5.get h2 nw
  · rw [List.map_append]
    exact dpAll_app (dpAll_tk tk _ _ (tdAll_map fun r hr => td_row (hok r hr)) hd) (.cons (dp_tk (Tk.lst h5) _ _ (td_row ro) dv) .nil)
  · intro q hq
    rcases List.mem_append.mp hq with q1 | q1
    · exact hok q q1
    · rw [List.mem_singleton.mp q1]
      exact ro
  · intro nm nx hq
    rcases List.mem_append.mp hq with q1 | q1
    · exact hns nm nx q1
    · exact rn nm nx (List.mem_singleton.mp q1).symm
  · rw [List.length_append, hl]
    rfl
section
variable {P : Program} {w : World} {K : PySem.W.Frag} {mg : Str → Option Value} {base : Heap}
theorem scRowsL : FnScope ["_law_well", "_law_numbers_here", "_law_words", "_law_size", "_law_rows_here", "_law_names", "_law_k", "_law_way", "_law_name", "_law_j"] ["_law_well", "_law_numbers_here", "_law_words", "_law_size"] (defScope sRowsL) := ⟨rfl, rfl, rfl, by decide +kernel, rfl, by decide +kernel, by decide +kernel⟩
theorem cal_rowsG (B : Bn mg) (D : Dh K mg "_law_rows" sRowsL) (cD : Cal P w K mg base 1 "_law_draw" spDraw) (cP : Cal P w K mg base 2 "_law_pick" (spPick K)) : Cal P w K mg base 3 "_law_rows" (spRowsG K) := by
  refine D.cal (k := 2) scRowsL (fun _ _ _ _ _ _ us hl => match us, hl with | [_, _, _, _], _ => rfl) (fun vs H Q E h => by obtain ⟨_, _, _, _, _, rfl, _⟩ := h; rfl) fun f cdv A outer s H vs Q E hr h => ?_
  obtain ⟨wl, nd, wd, ns, n, rfl, hw, nnd, nwd, hnd, hns, hns0, hwd, hn0, hn7, k⟩ := h
  refine ⟨_, pss_cons (ps_par (i := 4) (j := 5) rfl scRowsL.nd rfl rfl (by decide) rfl rfl (pa_cons (pe_lst pa_nil) (pa_cons (pe_callB (call_sortedD rfl) (by rfl) B.sorted boot_sorted (pa_cons (pv 1) pa_nil)) pa_nil)) (by rfl))
    (pss_cons (ps_for PassesOwn.never rfl (pi_range1 (by rfl) B.range (pa_cons (pv 3) pa_nil)) (pg_name (i := 6) scRowsL.nd rfl (Or.inl rfl))
      (pss_cons (ps_set (i := 7) scRowsL.nd rfl (Or.inl rfl) (pe_f cD hr (by decide) (by rfl) (pa_cons (pv 0) (pa_cons pe_int pa_nil))))
      (pss_cons (ps_set (i := 8) scRowsL.nd rfl (Or.inl rfl) (pe_f cP hr (Nat.le_refl _) (by rfl) (pa_cons (pv 0) (pa_cons (pv 5) pa_nil))))
      (pss_one (ps_if (pt_cmpR op_lt (pv 7) pe_int (by rfl))
        (pss_one (ps_expr (pe_bm PySem.F.plainAttrs_list PySem.F.slot_list_append PySem.F.type_list_append mt_append (pv 4) (pa_cons (pe_tup (pa_cons pe_str (pa_cons (pv 8) (pa_cons
          (pe_tupleOf (by rfl) B.tuple (pe_lc (own := [("_law_j", 9)]) (g := gName 9) (tt := tYes) rfl scRowsL.nd (pi_range1 (by rfl) B.range (pa_cons (pe_dget (hu_of hr) (pv 1) (pv 8) (fun _ _ => rfl)) pa_nil)) (blkOk_by (N := ["_law_well", "_law_numbers_here", "_law_words", "_law_size", "_law_rows_here", "_law_names", "_law_k", "_law_way", "_law_name", "_law_j"]) (sc := defScope sRowsL) (by decide +kernel))
            (fun _ _ _ _ _ => pg_name (i := 9) scRowsL.nd rfl (Or.inl rfl)) (fun _ _ _ _ _ => pts_nil) (fun _ _ _ _ _ => pe_f cD hr (by decide) (by rfl) (pa_cons (pv 0) (pa_cons (pv 3) pa_nil))))) pa_nil)))) pa_nil))))
        (pss_one (ps_if (pt_cmpR op_eq (pv 7) pe_int (by rfl))
          (pss_one (ps_expr (pe_bm PySem.F.plainAttrs_list PySem.F.slot_list_append PySem.F.type_list_append mt_append (pv 4) (pa_cons (pe_tup (pa_cons pe_str (pa_cons (pe_f cD hr (by decide) (by rfl) (pa_cons (pv 0) (pa_cons (pv 3) pa_nil))) pa_nil))) pa_nil))))
          (pss_one (ps_expr (pe_bm PySem.F.plainAttrs_list PySem.F.slot_list_append PySem.F.type_list_append mt_append (pv 4) (pa_cons (pe_tup (pa_cons pe_str (pa_cons (pe_f cP hr (Nat.le_refl _) (by rfl) (pa_cons (pv 0) (pa_cons (pv 2) pa_nil))) pa_nil))) pa_nil)))))))))))
    (pss_one (ps_ret (pv 4)))), ?_⟩
  refine ⟨Nat.zero_le _, fun rl hrl => ?_⟩
  have e1 : Ex H (upd H rl (.lst [])) := Ex.new hrl
  refine ⟨_, rfl, nd, numKV ns, ns.map Prod.fst, rfl, .inl (e1 _ _ hnd), by unfold numKV; rw [List.map_map, List.map_map]; rfl, by have := hns.few; rw [List.length_map]; omega, fun nms nl hpm _ hnl => ?_⟩
  have e2 := e1.trans (Ex.new (o := .lst (nms.map V.str)) hnl)
  obtain ⟨wa, wb, wc, hwl⟩ := id hw
  have rw' : rl ≠ wl := fun q => by rw [q, hwl] at hrl; cases hrl
  have hnl0 := fresh_back e1 hnl
  have nw : nl ≠ wl := fun q => by rw [q, hwl] at hnl0; cases hnl0
  have rnl : rl ≠ nl := fun q => by rw [← q, upd_same] at hnl; cases hnl
  have nmsl : nms.length = ns.length := by rw [hpm.length_eq, List.length_map]
  refine ⟨_, _, rfl, ?_⟩
  refine ⟨_, rfl, (n : Int), rfl, by omega, by omega, ?_⟩
  rw [Int.toNat_natCast]
  refine for_range (lo := 0) (n := n) (RI K wl nd wd n ns H rl nl nms) ⟨[], [], _, _, _, _, rfl, by rw [upd_ne rnl]; exact upd_same, upd_same, Exw.ex hw e2, .nil, (fun _ h => by cases h), (fun _ _ h => by cases h), rfl⟩ ?_ ?_
  · rintro i σ H3 hi ⟨ys, R, x6, x7, x8, x9, rfl, hy3, hn3, e3, d3, ok3, rn3, hl3⟩
    refine ⟨_, rfl, wl, 8, rfl, e3.2, by decide, by decide, fun way H4 hway e4 _ => ?_⟩
    have hn4 := e4.get hn3 nw
    refine ⟨_, rfl, _, rfl, wl, nl, nms.map V.str, rfl, e4.2, nw, sq_of hn4, by rw [List.length_map]; omega, by have := hns.few; rw [List.length_map]; omega, fun j x H5 hx e5 => ?_⟩
    rw [List.getElem?_map] at hx
    cases hj : nms[j]? with
    | none => rw [hj] at hx; cases hx
    | some nm =>
    rw [hj] at hx
    obtain rfl : V.str nm = x := Option.some.inj hx
    have e35 := e4.trans e5
    obtain ⟨p, hp, ep⟩ := List.mem_map.mp (hpm.mem_iff.mp (List.mem_of_getElem? hj))
    obtain ⟨i0, hi0⟩ := List.getElem?_of_mem hp
    have hlk : ns.lookup nm = some p.2 := by
      rw [← ep]
      exact lookup_nodup hns.nd hi0
    obtain ⟨hp6, hp3⟩ := hns.ok p hp
    have done : ∀ (r : Row) (v : V) (y6 y7 y8 y9 : Option V) (H6 : Hp), Exw wl H3 H6 → RowOk n r → (∀ nm nx, r = .ask nm nx → ns.lookup nm = some nx.length) → Dp K H6 v (encRow r) → H6 rl = some (.lst ys) ∧ ys.length < sizeLine ∧ RI K wl nd wd n ns H rl nl nms (i + 1) [some (.ref wl), some (.ref nd), some (.ref wd), some (.int (n : Nat)), some (.ref rl), some (.ref nl), y6, y7, y8, y9] (upd H6 rl (.lst (ys ++ [v]))) := fun r v y6 y7 y8 y9 H6 e6 ro rn dv =>
      RI.next hn7 hrl rw' nw rnl hy3 hn3 e3 d3 ok3 rn3 hl3 hi e6 ro rn dv
    refine ⟨_, rfl, (way : Int), 5, rfl, rfl, decide ((way : Int) < 5), rfl, ?_⟩
    by_cases c1 : (way : Int) < 5
    · rw [decide_eq_true c1]
      refine ⟨_, rfl, .inl ⟨rfl, _, sq_of (e35.get hy3 rw')⟩, ?_⟩
      have hnd5 : H5 nd = some (.dK (numKV ns)) := (e3.trans e35).get hnd nnd
      have dg : DGet H5 nd (V.str nm) (some (.int (p.2 : Nat))) := by
        have := DGet.k (k := .inr nm) hnd5
        rw [valV_num hlk] at this
        exact this
      refine ⟨_, rfl, ⟨_, rfl, _, rfl, nd, _, rfl, dg, (p.2 : Int), rfl, by omega, by omega, fun Dl hD => ?_⟩⟩
      rw [Int.toNat_natCast]
      have hD3 := e35.back e3.2 hD
      obtain ⟨w5a, w5b, w5c, hw5⟩ := id e35.2
      have nDw : Dl ≠ wl := fun q => by rw [q, hw5] at hD; cases hD
      refine lc_it (walk_range (lo := 0) (n := p.2)) (fun j H' => Exw wl H5 H' ∧ ∃ acc : List Nat, H' Dl = some (.lst (nV acc)) ∧ acc.length = j ∧ ∀ x ∈ acc, x < n) ⟨Exw.ex e35.2 (Ex.new hD), [], upd_same, rfl, fun _ h => by cases h⟩ (fun _ _ _ _ => trivial) ?_ ?_
      · rintro j x H6 H7 hj ⟨e6, acc, hacc, hal, hlt⟩ ⟨rfl, rfl⟩
        refine ⟨rfl, _, rfl, _, rfl, wl, n, rfl, e6.2, hn0, by omega, fun r H8 hr' e8 _ => ?_⟩
        refine ⟨nV acc, e8.get hacc nDw, sz_lt (by unfold nV; rw [List.length_map]; omega), ?_, acc ++ [r], ?_, by rw [List.length_append, hal]; rfl, ?_⟩
        · exact Exw.mut (e6.trans e8) hD nDw
        · rw [upd_same, nV_app]
        · intro x hx
          rcases List.mem_append.mp hx with q | q
          · exact hlt x q
          · rw [List.mem_singleton.mp q]; exact hr'
      · rintro H6 ⟨e6, acc, hacc, hal, hlt⟩
        refine .inl ⟨Dl, nV acc, rfl, sq_of hacc, fun q hq => ?_⟩
        refine ⟨by show 3 ≤ sizeLine; decide, fun t ht => ?_⟩
        have eA : Ex H6 (upd H6 q (.tup (nV acc))) := Ex.new hq
        have eB := eA.trans (Ex.new (o := .tup [.str "ask", .str nm, .ref q]) ht)
        have hq2 : (upd (upd H6 q (.tup (nV acc))) t (.tup [.str "ask", .str nm, .ref q])) q = some (.tup (nV acc)) := Ex.new ht _ _ upd_same
        have e7 := e35.trans (e6.trans (Exw.ex e6.2 eB))
        obtain ⟨g1, g2, g3⟩ := done (.ask nm acc) (.ref t) (some (.int (0 + (i : Int)))) (some (.int (way : Nat))) (some (.str nm)) x9 _ e7 ⟨by rw [← ep]; exact hp6, by omega, hlt⟩ (fun nm' nx' q => by cases q; rw [hlk, hal]) (.tup (st_of upd_same) (.cons (.str _) (.cons (.str _) (.cons (.tup (st_of hq2) (dpAll_nV acc)) .nil))))
        exact ⟨rl, ys, _, rfl, rfl, g1, g2, g3⟩
    · rw [decide_eq_false c1]
      refine ⟨_, rfl, rfl, ?_⟩
      by_cases c2 : V.int (way : Int) = V.int 5
      · refine ⟨_, bl_true c2, ?_⟩
        refine ⟨_, rfl, .inl ⟨rfl, _, sq_of (e35.get hy3 rw')⟩, ?_⟩
        refine ⟨_, rfl, _, rfl, wl, n, rfl, e35.2, hn0, by omega, fun r H6 hr' e6 _ => ?_⟩
        refine ⟨by show 2 ≤ sizeLine; decide, fun t ht => ?_⟩
        obtain ⟨g1, g2, g3⟩ := done (.go r) (.ref t) (some (.int (0 + (i : Int)))) (some (.int (way : Nat))) (some (.str nm)) x9 _ (e35.trans (e6.trans (Exw.ex e6.2 (Ex.new (o := .tup [.str "go", .int (r : Nat)]) ht)))) hr' (fun nm' nx' q => by cases q) (.tup (st_of upd_same) (.cons (.str _) (.cons (.int _) .nil)))
        exact ⟨rl, ys, _, rfl, rfl, g1, g2, g3⟩
      · refine ⟨_, bl_false c2, ?_⟩
        refine ⟨_, rfl, .inl ⟨rfl, _, sq_of (e35.get hy3 rw')⟩, ?_⟩
        have hwd5 : H5 wd = some (.lst (words2.map V.str)) := (e3.trans e35).get hwd nwd
        refine ⟨_, rfl, _, rfl, wl, wd, words2.map V.str, rfl, e35.2, nwd, sq_of hwd5, by decide, by decide, fun j2 x H6 hx2 e6 => ?_⟩
        rw [List.getElem?_map] at hx2
        cases hj2 : words2[j2]? with
        | none => rw [hj2] at hx2; cases hx2
        | some z =>
          rw [hj2] at hx2
          obtain rfl : V.str z = x := Option.some.inj hx2
          refine ⟨by show 2 ≤ sizeLine; decide, fun t ht => ?_⟩
          obtain ⟨g1, g2, g3⟩ := done (.fin z) (.ref t) (some (.int (0 + (i : Int)))) (some (.int (way : Nat))) (some (.str nm)) x9 _ (e35.trans (e6.trans (Exw.ex e6.2 (Ex.new (o := .tup [.str "end", .str z]) ht)))) (List.mem_of_getElem? hj2) (fun nm' nx' q => by cases q) (.tup (st_of upd_same) (.cons (.str _) (.cons (.str _) .nil)))
          exact ⟨rl, ys, _, rfl, rfl, g1, g2, g3⟩
  · rintro σ H3 ⟨ys, R, x6, x7, x8, x9, rfl, hy3, hn3, e3, d3, ok3, rn3, hl3⟩
    exact ⟨_, rfl, k rl R ys H3 hrl e3 hy3 d3 ⟨by rw [hl3]; exact ok3, by omega, by omega⟩ rn3 hl3⟩
end
end Ask

namespace Ask
open PySem PySem.Spec PyProof.Rows L2 Evl

/-! ### methods -/
def Dm (K : PySem.W.Frag) (C : Addr) (m qual : Str) (st : Stmt) : Prop := ∃ f fd, FnP K m qual st f fd ∧ Meth K C m f
def MCal (P : Program) (w : World) (K : PySem.W.Frag) (mg : Str → Option Value) (base : Heap) (C : Addr) (k : Nat) (m : Str) (sp : Sp) : Prop :=
  ∃ (f : Addr) (fd : FuncData) (ps : List Str), FnOk P w K mg base CX0 k f fd ps sp ∧ Meth K C m f ∧ Binds K fd ps []
section
variable {P : Program} {w : World} {K : PySem.W.Frag} {mg : Str → Option Value} {base : Heap} {C : Addr}
theorem Dm.cal {m qual : Str} {st : Stmt} {N ps : List Str} {k : Nat} {sp : Sp} (D : Dm K C m qual st) (S : FnScope N ps (defScope st))
    (hb : ∀ (kV doc pm : Value) (an : Option Addr) (cdv ct : Value) (us : List Value), us.length = ps.length → bindArgs (PySem.W.fnOf m qual (defArgs st) (defBody st) (defScope st) .none kV doc pm an cdv ct) ⟨us, []⟩ = pure (ps.zip us))
    (len : ∀ vs H Q E, sp vs H Q E → vs.length = ps.length)
    (body : ∀ (f : Addr) (cdv : Value) (A : Around) (outer : List Env) (s : Shared) (H : Hp) (vs : List V) (Q : VK) (E : XK), Room k (A.deeper (envOfC qual (defScope st) s.heap.objs.size f cdv)) → sp vs H Q E →
      ∃ t, PSs (cxOf CX0 P w K mg base N qual (defScope st) f cdv A outer s H E).nox (defBody st) t ∧ t { nx := fun _ H' => Q .non H', rt := Q } (start N vs) H) : MCal P w K mg base C (k + 1) m sp := by
  obtain ⟨f, fd, F, g⟩ := D
  exact ⟨f, fd, ps, F.ok S len (fun cdv A outer s H vs Q E hr h => let ⟨t, h1, h2⟩ := body f cdv A outer s H vs Q E hr h; ⟨t, h1.nox, h2⟩), g, F.bindsN hb⟩
end
section
variable {X : Cx} {k j : Nat} {C : Addr} {m : Str} {sp : Sp} {apos pos : Pos} {o e : Expr} {es : List Expr} {ta : TE} {t : TA}
theorem pe_m0 {pl : Sem Bool} (he : PE X o ta) (c : Cls X.K C) (M : MCal X.prog X.w X.K X.mg X.base C k m sp) (hr : Room j X.A) (hk : k ≤ j)
    (ht : eval (.Call (.Attribute o m apos) [] [] pos) X.env = (do
      let ov ← eval o X.env
      standAt apos.atName
      let (f, first) ← holding [ov] (getMethod ov m pl)
      callWith pos f first (backTo pos (starEach [] X.env)) (backToKw pos (keywordEach [] X.env))) := by rfl) : PE X (.Call (.Attribute o m apos) [] [] pos) (tMeth C m sp [] E0 ta tNil) := by
  obtain ⟨f, fd, ps, F, hm, b⟩ := M
  exact pe_meth0 he c hm F (hr.mono hk) b .nil pass0 ht
theorem pe_m {pl : Sem Bool} (he : PE X o ta) (c : Cls X.K C) (M : MCal X.prog X.w X.K X.mg X.base C k m sp) (hr : Room j X.A) (hk : k ≤ j) (ha : PA X (e :: es) t)
    (hst : starEach (e :: es) X.env = (false, eval e X.env) :: starEach es X.env := by rfl) (hpl : (backTo pos (starEach es X.env)).any (·.1) = false := by rfl)
    (ht : eval (.Call (.Attribute o m apos) (e :: es) [] pos) X.env = (do
      let ov ← eval o X.env
      standAt apos.atName
      let (f, first) ← holding [ov] (getMethod ov m pl)
      callWith pos f first (backTo pos (starEach (e :: es) X.env)) (backToKw pos (keywordEach [] X.env))) := by rfl) : PE X (.Call (.Attribute o m apos) (e :: es) [] pos) (tMeth C m sp [] E0 ta t) := by
  obtain ⟨f, fd, ps, F, hm, b⟩ := M
  exact pe_meth he c hm F (hr.mono hk) b .nil pass0 ha hst hpl ht
end

/-! ### the body's class -/
abbrev sCB : Stmt := topS 30
structure BodyC (K : PySem.W.Frag) (C : Addr) : Prop where
  cl : Cls K C
  o : NoAttr K C "own_operations"
  r : NoAttr K C "own_rows"
  s : NoAttr K C "own_start"
  l : NoAttr K C "land"
  a : NoAttr K C "own_asked"
def bodyM : List Str := ["fill", "begin", "show_at", "nexts", "reached", "told", "asked"]
structure BF (fs : List (Str × V)) (od ra la : Addr) (st : Nat) : Prop where
  o : fs.lookup ("own_operations" : Str) = some (V.ref od)
  r : fs.lookup ("own_rows" : Str) = some (V.ref ra)
  s : fs.lookup ("own_start" : Str) = some (V.int (st : Nat))
  l : fs.lookup ("land" : Str) = some (V.ref la)
  m : ∀ m ∈ bodyM, fs.lookup m = none
structure BOk (R : Rows) (ns : Nums) (st : Nat) : Prop where
  r : ROk R
  n : NOk ns
  a : RNs ns R
  g : ∀ x, x < R.length → Good R x
  s : st < R.length
def BodyAt (K : PySem.W.Frag) (C : Addr) (H : Hp) (b la : Addr) (R : Rows) (ns : Nums) (st : Nat) : Prop :=
  ∃ dx fs od ra, H b = some (.ins C dx fs) ∧ BF fs od ra la st ∧ H od = some (.dK (numKV ns)) ∧ RowsT K H ra R ∧ H la = some (.lst (landV R))
theorem BodyAt.ex {K : PySem.W.Frag} {C b la : Addr} {H H' : Hp} {R : Rows} {ns : Nums} {st : Nat} (k : BOk R ns st) (h : BodyAt K C H b la R ns st) (e : Ex H H') : BodyAt K C H' b la R ns st := by
  obtain ⟨dx, fs, od, ra, h1, h2, h3, h4, h5⟩ := h
  exact ⟨dx, fs, od, ra, e _ _ h1, h2, e _ _ h3, h4.ex k.r e, e _ _ h5⟩
theorem BodyAt.hid {K : PySem.W.Frag} {C b la w : Addr} {H : Hp} {R : Rows} {ns : Nums} {st : Nat} (k : BOk R ns st) (h : BodyAt K C H b la R ns st) (hw : WellAt w H) (n : la ≠ w) : BodyAt K C (hid w H) b la R ns st := by
  obtain ⟨dx, fs, od, ra, h1, h2, h3, ⟨vs, h4, h6⟩, h5⟩ := h
  obtain ⟨x, y, z, hw⟩ := hw
  refine ⟨dx, fs, od, ra, ?_, h2, ?_, ⟨vs, tk_hid hw _ _ h4, dpAll_tk (tk_hid hw) _ _ (td_rows k.r) h6⟩, ?_⟩
  · rw [hid_ne (fun q => by rw [q, hw] at h1; cases h1)]; exact h1
  · rw [hid_ne (fun q => by rw [q, hw] at h3; cases h3)]; exact h3
  · rw [hid_ne n]; exact h5
theorem land_get {R : Rows} {x : Nat} (h : x < R.length) : (landV R)[x]? = some (.int (settle R x : Nat)) := by
  unfold landV nV
  rw [List.map_map, List.getElem?_map, List.getElem?_range h]
  rfl
abbrev sBegin : Stmt := inClass sCB 10
abbrev sShowAt : Stmt := inClass sCB 11
abbrev sNexts : Stmt := inClass sCB 12
abbrev sReached : Stmt := inClass sCB 13
abbrev sTold : Stmt := inClass sCB 14
abbrev sAsked : Stmt := inClass sCB 15
abbrev sFill : Stmt := inClass sCB 1
abbrev sBInit : Stmt := inClass sCB 0
noncomputable def spBegin (K : PySem.W.Frag) (C : Addr) : Sp := fun vs H Q _ => ∃ b la R ns st, vs = [.ref b] ∧ BodyAt K C H b la R ns st ∧ BOk R ns st ∧ RetV (.int (settle R st : Nat)) H Q
noncomputable def spShowAt (K : PySem.W.Frag) (C : Addr) : Sp := fun vs H Q _ => ∃ b la R ns st x, vs = [.ref b, .int (x : Nat)] ∧ BodyAt K C H b la R ns st ∧ BOk R ns st ∧ x < R.length ∧ RetP (fun v H' => Dp K H' v (showD R (settle R x))) H Q
noncomputable def spNexts (K : PySem.W.Frag) (C : Addr) : Sp := fun vs H Q _ => ∃ b la R ns st x, vs = [.ref b, .int (x : Nat)] ∧ BodyAt K C H b la R ns st ∧ BOk R ns st ∧ x < R.length ∧ ∀ p H', H p = none → Ex H H' → H' p = some (.lst (nV (nexts R x))) → Q (.ref p) H'
def spReached (K : PySem.W.Frag) (C : Addr) : Sp := fun vs H Q _ => ∃ b la R ns st, vs = [.ref b] ∧ BodyAt K C H b la R ns st ∧ BOk R ns st ∧ ∀ p o H', H p = none → Ex H H' → H' p = some (.lst (nV o)) → o.length ≤ R.length → (∀ x ∈ o, x < R.length) → Q (.ref p) H'
def spTold (K : PySem.W.Frag) (C : Addr) : Sp := fun vs H Q _ => ∃ b la R ns st, vs = [.ref b, .str "ask"] ∧ BodyAt K C H b la R ns st ∧ BOk R ns st ∧ ∀ p (ks : List Str) H', H p = none → Ex H H' → H' p = some (.lst (ks.map V.str)) → ks.length ≤ R.length → Q (.ref p) H'
def spAsked (K : PySem.W.Frag) (C : Addr) : Sp := fun vs H Q _ => ∃ b la R ns st, vs = [.ref b] ∧ BodyAt K C H b la R ns st ∧ BOk R ns st ∧ ∀ p (ks : List Str) H', H p = none → Ex H H' → H' p = some (.lst (ks.map V.str)) → ks.length ≤ R.length → Q (.ref p) H'
section
variable {P : Program} {w : World} {K : PySem.W.Frag} {mg : Str → Option Value} {base : Heap} {C : Addr}
theorem scBegin : FnScope ["self"] ["self"] (defScope sBegin) := ⟨rfl, rfl, rfl, by decide +kernel, rfl, by decide +kernel, by decide +kernel⟩
theorem cal_begin (T : BodyC K C) (D : Dm K C "begin" "Body.begin" sBegin) : MCal P w K mg base C 1 "begin" (spBegin K C) := by
  refine D.cal (k := 0) scBegin (fun _ _ _ _ _ _ us hl => match us, hl with | [_], _ => rfl) (fun vs H Q E h => by obtain ⟨_, _, _, _, _, rfl, _⟩ := h; rfl) fun f cdv A outer s H vs Q E hr h => ?_
  obtain ⟨b, la, R, ns, st, rfl, ⟨dx, fs, od, ra, hb, bf, hod, hR, hla⟩, ok, k⟩ := h
  refine ⟨_, pss_one (ps_ret (pe_ix ix_list (pe_fld (pv 0) rfl) (pe_fld (pv 0) rfl) fun _ _ => rfl)), ?_⟩
  exact ⟨_, rfl, b, C, dx, fs, _, rfl, hb, T.cl, T.l, bf.l, _, rfl, b, C, dx, fs, _, rfl, hb, T.cl, T.s, bf.s, la, landV R, _, _, rfl, rfl, sq_of hla, atI_nat (land_get ok.s), k H (Ex.refl H)⟩
theorem scShowAt : FnScope ["self", "at"] ["self", "at"] (defScope sShowAt) := ⟨rfl, rfl, rfl, by decide +kernel, rfl, by decide +kernel, by decide +kernel⟩
theorem cal_showAt (T : BodyC K C) (D : Dm K C "show_at" "Body.show_at" sShowAt) (cS : Cal P w K mg base 1 "show_of" (spShowOf K)) : MCal P w K mg base C 2 "show_at" (spShowAt K C) := by
  refine D.cal (k := 1) scShowAt (fun _ _ _ _ _ _ us hl => match us, hl with | [_, _], _ => rfl) (fun vs H Q E h => by obtain ⟨_, _, _, _, _, _, rfl, _⟩ := h; rfl) fun f cdv A outer s H vs Q E hr h => ?_
  obtain ⟨b, la, R, ns, st, x, rfl, ⟨dx, fs, od, ra, hb, bf, hod, hR, hla⟩, ok, hx, k⟩ := h
  refine ⟨_, pss_one (ps_ret (pe_f cS hr (Nat.le_refl _) (by rfl) (pa_cons (pe_fld (pv 0) rfl) (pa_cons (pe_ix ix_list (pe_fld (pv 0) rfl) (pv 1) fun _ _ => rfl) pa_nil)))), ?_⟩
  exact ⟨_, rfl, b, C, dx, fs, _, rfl, hb, T.cl, T.r, bf.r, _, rfl, b, C, dx, fs, _, rfl, hb, T.cl, T.l, bf.l, _, rfl, la, landV R, _, _, rfl, rfl, sq_of hla, atI_nat (land_get hx), ra, R, settle R x, rfl, hR, ok.r, (ok.g x hx).2, k⟩
theorem nexts_ask {R : Rows} {x : Nat} {nm : Str} {nx : List Nat} (e : R[settle R x]? = some (.ask nm nx)) : nexts R x = nx.map (settle R) := by
  unfold nexts
  rw [e]
theorem nexts_no {R : Rows} {x : Nat} (h : ∀ nm nx, R[settle R x]? ≠ some (.ask nm nx)) : nexts R x = [] := by
  unfold nexts
  split
  · rename_i nm nx e
    exact absurd e (h _ _)
  · rfl
theorem row_ask {K : PySem.W.Frag} {H : Hp} {xs : List V} {r : Row} (h : RowXs K H xs r) : ∃ tg, xs[0]? = some (.str tg) ∧ decide (V.str tg = V.str "ask") = (match r with | .ask _ _ => true | _ => false) := by
  cases r with
  | ask nm nx => obtain ⟨q, rfl, _⟩ := h; exact ⟨_, rfl, decide_eq_true rfl⟩
  | go n => cases h; exact ⟨_, rfl, decide_eq_false (str_ne (by decide +kernel))⟩
  | fin z => cases h; exact ⟨_, rfl, decide_eq_false (str_ne (by decide +kernel))⟩
theorem nexts_lt {R : Rows} {ns : Nums} {st x : Nat} (ok : BOk R ns st) : ∀ y ∈ nexts R x, y < R.length := by
  intro y hy
  unfold nexts at hy
  split at hy
  · rename_i nm nx e
    obtain ⟨z, hz, rfl⟩ := List.mem_map.mp hy
    exact (ok.g z ((ok.r.at e).2.2 z hz)).2
  · cases hy
theorem nexts_len {R : Rows} {ns : Nums} {st x : Nat} (ok : BOk R ns st) : (nexts R x).length ≤ 3 := by
  unfold nexts
  split
  · rename_i nm nx e
    rw [List.length_map]
    exact (ok.r.at e).2.1
  · exact Nat.zero_le _
theorem scNexts : FnScope ["self", "at", "row", "one"] ["self", "at"] (defScope sNexts) := ⟨rfl, rfl, rfl, by decide +kernel, rfl, by decide +kernel, by decide +kernel⟩
theorem cal_nexts (T : BodyC K C) (D : Dm K C "nexts" "Body.nexts" sNexts) : MCal P w K mg base C 1 "nexts" (spNexts K C) := by
  refine D.cal (k := 0) scNexts (fun _ _ _ _ _ _ us hl => match us, hl with | [_, _], _ => rfl) (fun vs H Q E h => by obtain ⟨_, _, _, _, _, _, rfl, _⟩ := h; rfl) fun f cdv A outer s H vs Q E hr h => ?_
  obtain ⟨b, la, R, ns, st, x, rfl, ⟨dx, fs, od, ra, hb, bf, hod, ⟨vs, hvs, hd⟩, hla⟩, ok, hx, k⟩ := h
  refine ⟨_, pss_cons (ps_set (i := 2) scNexts.nd rfl (Or.inl rfl) (pe_ix ix_tup (pe_fld (pv 0) rfl) (pe_ix ix_list (pe_fld (pv 0) rfl) (pv 1) fun _ _ => rfl) fun _ _ => rfl))
    (pss_one (ps_ret (pe_ifExp (pt_cmpR op_eq (pe_ix ix_tup (pv 2) pe_int fun _ _ => rfl) pe_str (by rfl))
      (pe_lc (own := [("one", 3)]) (g := gName 3) (tt := tYes) (te := tOp (rIxL K) (tFld K (tVar 0) "land") (tVar 3)) rfl scNexts.nd (pi_tup (pe_ix ix_tup (pv 2) pe_int fun _ _ => rfl)) (blkOk_by (N := ["self", "at", "row", "one"]) (sc := defScope sNexts) (by decide +kernel))
        (fun _ _ _ _ _ => pg_name (i := 3) scNexts.nd rfl (Or.inl rfl)) (fun _ _ _ _ _ => pts_nil) (fun _ _ _ _ _ => pe_ix ix_list (pe_fld (pv 0) rfl) (pv 3) fun _ _ => rfl)) (pe_lst pa_nil)))), ?_⟩
  have hs := (ok.g x hx).2
  obtain ⟨r, er⟩ := row_at hs
  obtain ⟨p, xs, hvp, hp, hxs⟩ := rows_get hd er
  refine ⟨_, rfl, b, C, dx, fs, _, rfl, hb, T.cl, T.r, bf.r, _, rfl, b, C, dx, fs, _, rfl, hb, T.cl, T.l, bf.l, _, rfl, la, landV R, _, _, rfl, rfl, sq_of hla, atI_nat (land_get hx), ra, vs, _, _, rfl, rfl, hvs, atI_nat hvp, ?_⟩
  obtain ⟨tg, h0, hask⟩ := row_ask hxs
  refine ⟨_, rfl, p, xs, 0, _, rfl, rfl, hp, at0 h0, rfl, _, congrArg V.bl hask, ?_⟩
  cases r with
  | ask nm nx =>
    obtain ⟨q, rfl, hq⟩ := hxs
    obtain ⟨_, hl3, hlt⟩ := ok.r.at er
    refine ⟨_, rfl, p, _, 2, _, rfl, rfl, hp, rfl, q, rfl, ⟨_, hq⟩, fun Dl hD => ?_⟩
    refine lc_P (fun j v _ => ∃ y, nx[j]? = some y ∧ v = .int (settle R y : Nat)) (fun _ _ _ _ _ h => h) (walk_tup (xs := nV nx)) hD (by unfold nV; rw [List.length_map]; omega) (fun H2 e2 => ex_t e2 hq) ?_ ?_
    · rintro i y H2 H3 hi e2 ⟨acc, hacc⟩ ⟨rfl, hy⟩ Q' hQ'
      unfold nV at hy
      rw [List.getElem?_map] at hy
      cases hz : nx[i]? with
      | none => rw [hz] at hy; cases hy
      | some z =>
        rw [hz] at hy
        obtain rfl : V.int (z : Nat) = y := Option.some.inj hy
        have hzl := hlt z (List.mem_of_getElem? hz)
        exact ⟨rfl, _, rfl, b, C, dx, fs, _, rfl, e2 _ _ hb, T.cl, T.l, bf.l, _, rfl, la, landV R, _, _, rfl, rfl, sq_of (e2 _ _ hla), atI_nat (land_get hzl), hQ' _ _ (Ex.refl _) ⟨z, hz, rfl⟩⟩
    · intro H2 acc e2 hacc hlen hall
      have ea : acc = nV (nexts R x) := by
        rw [nexts_ask er]
        apply List.ext_getElem?
        intro i
        unfold nV
        rw [List.map_map, List.getElem?_map]
        cases hz : nx[i]? with
        | none =>
          have := List.getElem?_eq_none_iff.mp hz
          rw [List.getElem?_eq_none (by rw [hlen]; unfold nV; rw [List.length_map]; exact this)]
          rfl
        | some z =>
          have hil : i < acc.length := by
            rw [hlen]
            unfold nV
            rw [List.length_map]
            exact (List.getElem?_eq_some_iff.mp hz).1
          obtain ⟨y, q1, q2⟩ := hall i _ (List.getElem?_eq_getElem hil)
          rw [hz] at q1
          cases q1
          rw [List.getElem?_eq_getElem hil, q2]
          rfl
      rw [ea] at hacc
      exact k Dl H2 hD e2 hacc
  | go n =>
    refine ⟨Nat.zero_le _, fun q hq => k q _ hq (Ex.new hq) ?_⟩
    rw [nexts_no (fun nm nx => by rw [er]; exact fun z => nomatch z)]
    exact upd_same
  | fin z =>
    refine ⟨Nat.zero_le _, fun q hq => k q _ hq (Ex.new hq) ?_⟩
    rw [nexts_no (fun nm nx => by rw [er]; exact fun z => nomatch z)]
    exact upd_same
end
end Ask

namespace Ask
open PySem PySem.Spec PyProof.Rows L2 Evl

theorem show_shape {K : PySem.W.Frag} {H : Hp} {R : Rows} {i : Nat} {v : V} (h : Dp K H v (showD R i)) : ∃ p z t, v = .ref p ∧ SqT K H p (.str z :: t) ∧ ((z = "ask" ∧ ∃ nm, t = [.str nm] ∧ showD R i = .tuple [.str "ask", .str nm]) ∨ (z ≠ "ask" ∧ ∀ nm, showD R i ≠ .tuple [.str "ask", .str nm])) := by
  have two : ∀ a b : Str, Dp K H v (.tuple [.str a, .str b]) → ∃ p, v = .ref p ∧ SqT K H p [.str a, .str b] := fun a b h => by
    cases h with
    | tup h1 h2 =>
      cases h2 with
      | cons x y =>
        cases x
        cases y with
        | cons x y => cases x; cases y; exact ⟨_, rfl, h1⟩
  unfold showD at h ⊢
  split at h
  · rename_i nm nx e
    obtain ⟨p, rfl, hp⟩ := two _ _ h
    exact ⟨p, _, _, rfl, hp, .inl ⟨rfl, nm, rfl, rfl⟩⟩
  · rename_i z e
    obtain ⟨p, rfl, hp⟩ := two _ _ h
    refine ⟨p, _, _, rfl, hp, .inr ⟨by decide +kernel, fun nm q => ?_⟩⟩
    injection q with q
    injection q with q1 q2
    injection q1 with q1
    exact absurd q1 (by decide +kernel)
  · cases h with
    | tup h1 h2 =>
      cases h2 with
      | cons x y =>
        cases x
        cases y
        refine ⟨_, _, _, rfl, h1, .inr ⟨by decide +kernel, fun nm q => ?_⟩⟩
        injection q with q
        injection q with q1 q2
        injection q1 with q1
        exact absurd q1 (by decide +kernel)
theorem sc_it {J : It} {n : Nat} {G : Hp → Prop} {Y : Nat → Hp → V → Hp → Prop} {ww : World} (w : Walk J n G Y) {g : TG} {tt : TT} {te : TE} {vs : List Nat} {σ : L2.St} {H1 : Hp} {D : Addr} {Qd : Hp → Prop} (Pv : Nat → Hp → Prop) (h0 : Pv 0 (upd H1 D (SetSO ww D 0))) (hG : ∀ i H, i ≤ n → Pv i H → G H)
    (hs : ∀ i x H H', i < n → Pv i H → Y i H x H' → g x (wipe σ vs) H' fun σ2 H2 => wipe σ2 vs = wipe σ vs ∧ tt σ2 H2 fun b H3 =>
      if b = true then te σ2 H3 fun y H4 => ∃ (c : Str) (n : Nat), y = .str c ∧ H4 D = some (SetSO ww D n) ∧ n + 1 < scanBound ∧ Pv (i + 1) (upd H4 D (SetSO ww D (n + 1))) else Pv (i + 1) H3) (hd : ∀ H, Pv n H → Qd H) :
    ∃ W : Nat → Nat → Hp → Prop, (∃ m, W 0 m (upd H1 D (SetSO ww D 0))) ∧ ∀ i m H, W i m H →
      (J.stop i H ∧ Qd H) ∨ (J.go i H ∧ ∃ Nx : Hp → Prop, (∀ H', Nx H' → ∃ m', m' < m ∧ W (i + 1) m' H') ∧ ∀ x H', J.yld i H x H' → g x (wipe σ vs) H' fun σ2 H2 => wipe σ2 vs = wipe σ vs ∧ tt σ2 H2 fun b H3 =>
        if b = true then te σ2 H3 fun y H4 => ∃ (c : Str) (n : Nat), y = .str c ∧ H4 D = some (SetSO ww D n) ∧ n + 1 < scanBound ∧ Nx (upd H4 D (SetSO ww D (n + 1))) else Nx H3) := by
  refine ⟨fun i m H => m = n - i ∧ i ≤ n ∧ Pv i H, ⟨n, by simp, Nat.zero_le _, h0⟩, ?_⟩
  rintro i m H ⟨rfl, hi, p⟩
  have q := hG i H hi p
  by_cases hlt : i < n
  · refine .inr ⟨w.goes i H hlt q, Pv (i + 1), fun H' p' => ⟨n - (i + 1), by omega, rfl, hlt, p'⟩, fun x H' y => hs i x H H' hlt p (w.yields i H x H' hlt q y)⟩
  · have e : i = n := by omega
    subst e
    exact .inl ⟨w.stops H q, hd H p⟩
theorem dc_it {J : It} {n : Nat} {G : Hp → Prop} {Y : Nat → Hp → V → Hp → Prop} (w : Walk J n G Y) {g : TG} {tt : TT} {tk tv : TE} {vs : List Nat} {σ : L2.St} {H1 : Hp} {D : Addr} {Qd : Hp → Prop} (Pv : Nat → Hp → Prop) (h0 : Pv 0 (upd H1 D (.dK []))) (hG : ∀ i H, i ≤ n → Pv i H → G H)
    (hs : ∀ i x H H', i < n → Pv i H → Y i H x H' → g x (wipe σ vs) H' fun σ2 H2 => wipe σ2 vs = wipe σ vs ∧ tt σ2 H2 fun b H3 =>
      if b = true then tk σ2 H3 fun y H4 => tv σ2 H4 fun z H5 => ∃ kvs k, y = kV k ∧ H5 D = some (.dK kvs) ∧ kvs.length < sizeLine ∧ Pv (i + 1) (upd H5 D (.dK (putK kvs k z))) else Pv (i + 1) H3) (hd : ∀ H, Pv n H → Qd H) :
    ∃ W : Nat → Nat → Hp → Prop, (∃ m, W 0 m (upd H1 D (.dK []))) ∧ ∀ i m H, W i m H →
      (J.stop i H ∧ Qd H) ∨ (J.go i H ∧ ∃ Nx : Hp → Prop, (∀ H', Nx H' → ∃ m', m' < m ∧ W (i + 1) m' H') ∧ ∀ x H', J.yld i H x H' → g x (wipe σ vs) H' fun σ2 H2 => wipe σ2 vs = wipe σ vs ∧ tt σ2 H2 fun b H3 =>
        if b = true then tk σ2 H3 fun y H4 => tv σ2 H4 fun z H5 => ∃ kvs k, y = kV k ∧ H5 D = some (.dK kvs) ∧ kvs.length < sizeLine ∧ Nx (upd H5 D (.dK (putK kvs k z))) else Nx H3) := by
  refine ⟨fun i m H => m = n - i ∧ i ≤ n ∧ Pv i H, ⟨n, by simp, Nat.zero_le _, h0⟩, ?_⟩
  rintro i m H ⟨rfl, hi, p⟩
  have q := hG i H hi p
  by_cases hlt : i < n
  · refine .inr ⟨w.goes i H hlt q, Pv (i + 1), fun H' p' => ⟨n - (i + 1), by omega, rfl, hlt, p'⟩, fun x H' y => hs i x H H' hlt p (w.yields i H x H' hlt q y)⟩
  · have e : i = n := by omega
    subst e
    exact .inl ⟨w.stops H q, hd H p⟩
/-- what reached knows -/
structure RInv (R : Rows) (H : Hp) (fd ol : Addr) (H' : Hp) (o : List Nat) (kvs : List (Key × V)) : Prop where
  f : H' fd = some (.dK kvs)
  l : H' ol = some (.lst (nV o))
  nd : o.Nodup
  lt : ∀ x ∈ o, x < R.length
  kn : ∀ x ∈ o, valV kvs (.inl (x : Nat)) ≠ none
  sz : kvs.length ≤ o.length
  e : Ex H H'
theorem RInv.le {R : Rows} {H H' : Hp} {fd ol : Addr} {o : List Nat} {kvs : List (Key × V)} (h : RInv R H fd ol H' o kvs) : o.length ≤ R.length := nodup_le R.length o h.nd h.lt
theorem valV_put {kvs : List (Key × V)} {k q : Key} {v : V} (h : valV kvs k = none) (hq : valV kvs q ≠ none ∨ q = k) : valV (putK kvs k v) q ≠ none := by
  rw [putK_new _ h, valV_app]
  rcases hq with c | c
  · cases h2 : valV kvs q with
    | none => exact absurd h2 c
    | some u => exact fun z => by cases z
  · rw [c, h, if_pos rfl]
    exact fun z => by cases z
section
variable {P : Program} {w : World} {K : PySem.W.Frag} {mg : Str → Option Value} {base : Heap} {C : Addr}
theorem mB {m : Str} {fs : List (Str × V)} {od ra la : Addr} {st : Nat} (bf : BF fs od ra la st) (h : bodyM.contains m = true := by decide +kernel) : fs.lookup m = none := bf.m m (by simpa using h)
theorem scReached : FnScope ["self", "found", "at", "order", "one"] ["self"] (defScope sReached) := ⟨rfl, rfl, rfl, by decide +kernel, rfl, by decide +kernel, by decide +kernel⟩
theorem cal_reached (B : Bn mg) (T : BodyC K C) (D : Dm K C "reached" "Body.reached" sReached) (cB : MCal P w K mg base C 1 "begin" (spBegin K C)) (cN : MCal P w K mg base C 1 "nexts" (spNexts K C)) : MCal P w K mg base C 2 "reached" (spReached K C) := by
  refine D.cal (k := 1) scReached (fun _ _ _ _ _ _ us hl => match us, hl with | [_], _ => rfl) (fun vs H Q E h => by obtain ⟨_, _, _, _, _, rfl, _⟩ := h; rfl) fun f cdv A outer s H vs Q E hr h => ?_
  obtain ⟨b, la, R, ns, st, rfl, hB, ok, k⟩ := h
  refine ⟨_, pss_cons (ps_par (i := 1) (j := 2) rfl scReached.nd rfl rfl (by decide) rfl rfl (pa_cons (pe_disp (pps_cons (pe_m0 (pv 0) T.cl cB hr (Nat.le_refl _)) pe_bl pps_nil) rfl rfl (by simp) (by decide)) (pa_cons pe_int pa_nil)) (by rfl))
    (pss_cons (ps_set (i := 3) scReached.nd rfl (Or.inl rfl) (pe_lst (pa_cons (pe_m0 (pv 0) T.cl cB hr (Nat.le_refl _)) pa_nil)))
    (pss_cons (ps_while PassesOwn.never (pt_cmpR op_lt (pv 2) (pe_callB call_len_seq (by rfl) B.len PySem.boot_len (pa_cons (pv 3) pa_nil)) (by rfl))
      (pss_cons (ps_for PassesOwn.never rfl (pi_list (pe_m (pv 0) T.cl cN hr (Nat.le_refl _) (pa_cons (pe_ix ix_list (pv 3) (pv 2) fun _ _ => rfl) pa_nil))) (pg_name (i := 4) scReached.nd rfl (Or.inl rfl))
        (pss_one (ps_if (pt_cmp (pc_dnotin (hu_of hr) (pv 4) (pv 1))) (pss_cons (ps_dput (hu_of hr) (pv 1) (pv 4) pe_bl rfl) (pss_one (ps_expr (pe_bm PySem.F.plainAttrs_list PySem.F.slot_list_append PySem.F.type_list_append mt_append (pv 3) (pa_cons (pv 4) pa_nil))))) pss_nil)))
      (pss_one (ps_set (i := 2) scReached.nd rfl (Or.inl rfl) (pe_op op_add (pv 2) pe_int)))))
    (pss_one (ps_ret (pv 3))))), ?_⟩
  obtain ⟨dx, fs, od, ra, hb, bf, _⟩ := id hB
  intro fd hfd
  have e1 : Ex H (upd H fd (.dK [])) := Ex.new hfd
  refine ⟨_, rfl, b, dx, fs, rfl, e1 _ _ hb, mB bf, b, la, R, ns, st, rfl, hB.ex ok e1, ok, fun H1 e2 => ?_⟩
  have e12 := e1.trans e2
  have hs1 := (ok.g st ok.s).2
  refine ⟨e2 _ _ upd_same, [(.inl (settle R st : Nat), .bl true)], rfl, by show 1 ≤ 15; decide, ?_⟩
  have e3 : Ex H (upd H1 fd (.dK (mergeK [] [(.inl (settle R st : Nat), .bl true)]))) := Ex.mut e12 hfd
  refine ⟨_, _, rfl, ?_⟩
  refine ⟨_, rfl, b, dx, fs, rfl, e3 _ _ hb, mB bf, b, la, R, ns, st, rfl, hB.ex ok e3, ok, fun H2 e4 => ?_⟩
  refine ⟨by show 1 ≤ sizeLine; decide, fun ol hol => ?_⟩
  have e34 := e3.trans e4
  have nlf : ol ≠ fd := fun q => by rw [q, e4 _ _ upd_same] at hol; cases hol
  have hol0 := fresh_back e34 hol
  refine ⟨fun m σ H' => ∃ (at_ : Nat) (o : List Nat) (kvs : List (Key × V)) (x4 : Option V), σ = [some (.ref b), some (.ref fd), some (.int (at_ : Nat)), some (.ref ol), x4] ∧ RInv R H fd ol H' o kvs ∧ at_ ≤ o.length ∧ m = 8 - at_,
    ⟨8, 0, [settle R st], _, _, rfl, ⟨by rw [upd_ne nlf.symm]; exact e4 _ _ upd_same, upd_same, by simp, fun x h => by rw [List.mem_singleton.mp h]; exact hs1, fun x h => ?_, Nat.le_refl _, e34.trans (Ex.new hol)⟩, Nat.zero_le _, rfl⟩, ?_⟩
  · rw [List.mem_singleton.mp h]
    unfold valV
    simp [mergeK, putK]
  rintro m σ H3 ⟨at_, o, kvs, x4, rfl, I, hle, rfl⟩
  have hfew := ok.r.few
  have hole := I.le
  refine ⟨_, rfl, _, rfl, ol, _, rfl, .inl (sq_of I.l), _, _, rfl, rfl, _, rfl, ?_⟩
  have hlen : (nV o).length = o.length := by unfold nV; rw [List.length_map]
  rw [hlen]
  by_cases c : (at_ : Int) < (o.length : Nat)
  · rw [decide_eq_true c]
    have hat : at_ < o.length := by omega
    have hget : (nV o)[at_]? = some (.int (o[at_] : Nat)) := by
      unfold nV
      rw [List.getElem?_map, List.getElem?_eq_getElem hat]
      rfl
    have hxl := I.lt _ (List.getElem_mem hat)
    refine ⟨fun σ H' => ∃ m', m' < 8 - at_ ∧ ∃ (at2 : Nat) (o : List Nat) (kvs : List (Key × V)) (x4 : Option V), σ = [some (.ref b), some (.ref fd), some (.int (at2 : Nat)), some (.ref ol), x4] ∧ RInv R H fd ol H' o kvs ∧ at2 ≤ o.length ∧ m' = 8 - at2, fun σ H' h => h, ?_⟩
    refine ⟨_, rfl, b, dx, fs, rfl, I.e _ _ hb, mB bf, _, rfl, _, rfl, ol, nV o, _, _, rfl, rfl, sq_of I.l, atI_nat hget, b, la, R, ns, st, o[at_], rfl, hB.ex ok I.e, ok, hxl, fun nl H4 hnl e5 hnl4 => ?_⟩
    have hnl0 := fresh_back I.e hnl
    have nnf : nl ≠ fd := fun q => by rw [q, I.f] at hnl; cases hnl
    have nno : nl ≠ ol := fun q => by rw [q, I.l] at hnl; cases hnl
    refine ⟨nl, rfl, ⟨_, sq_of hnl4⟩, for_list (K := K) (a := nl) (xs := nV (nexts R o[at_])) (fun j σ H' => ∃ (o2 : List Nat) (kvs : List (Key × V)) (x4 : Option V), σ = [some (.ref b), some (.ref fd), some (.int (at_ : Nat)), some (.ref ol), x4] ∧ RInv R H fd ol H' o2 kvs ∧ at_ < o2.length ∧ H' nl = some (.lst (nV (nexts R o[at_]))))
      ⟨o, kvs, _, rfl, ⟨e5 _ _ I.f, e5 _ _ I.l, I.nd, I.lt, I.kn, I.sz, I.e.trans e5⟩, hat, hnl4⟩ (fun j σ H' _ ⟨_, _, _, _, _, _, h⟩ => sq_of h) ?_ ?_⟩
    · rintro j x σ H5 hjx ⟨o5, kvs5, x5, rfl, I5, hat5, hnl5⟩
      unfold nV at hjx
      rw [List.getElem?_map] at hjx
      cases hy : (nexts R o[at_])[j]? with
      | none => rw [hy] at hjx; cases hjx
      | some y =>
        rw [hy] at hjx
        obtain rfl : V.int (y : Nat) = x := Option.some.inj hjx
        have hyl := nexts_lt ok y (List.mem_of_getElem? hy)
        have h5le := I5.le
        refine ⟨_, rfl, _, rfl, fd, _, rfl, DGet.k (k := .inl (y : Nat)) I5.f, ?_⟩
        cases hv : valV kvs5 (.inl (y : Nat)) with
        | some v =>
          refine ⟨false, rfl, ?_⟩
          exact ⟨o5, kvs5, _, rfl, I5, hat5, hnl5⟩
        | none =>
          refine ⟨true, rfl, ?_⟩
          refine ⟨_, rfl, _, rfl, fd, _, rfl, DPut.k (k := .inl (y : Nat)) I5.f (sz_lt (by have := I5.sz; omega)), ?_⟩
          have hol6 : (upd H5 fd (.dK (putK kvs5 (.inl (y : Nat)) (.bl true)))) ol = some (.lst (nV o5)) := by rw [upd_ne nlf]; exact I5.l
          refine ⟨_, rfl, .inl ⟨rfl, _, sq_of hol6⟩, _, rfl, ol, _, _, rfl, rfl, hol6, sz_lt (by unfold nV; rw [List.length_map]; omega), ?_⟩
          have hny : y ∉ o5 := fun q => I5.kn y q hv
          refine ⟨o5 ++ [y], putK kvs5 (.inl (y : Nat)) (.bl true), _, rfl, ⟨?_, ?_, ?_, ?_, ?_, ?_, ?_⟩, ?_, ?_⟩
          · rw [upd_ne nlf.symm]; exact upd_same
          · rw [upd_same, nV_app]
          · rw [List.nodup_append]
            exact ⟨I5.nd, by simp, fun a ha b hb => by rw [List.mem_singleton.mp hb]; exact fun q => hny (q ▸ ha)⟩
          · intro z hz
            rcases List.mem_append.mp hz with q | q
            · exact I5.lt z q
            · rw [List.mem_singleton.mp q]; exact hyl
          · intro z hz
            refine valV_put hv ?_
            rcases List.mem_append.mp hz with q | q
            · exact .inl (I5.kn z q)
            · rw [List.mem_singleton.mp q]; exact .inr rfl
          · rw [putK_new _ hv, List.length_append, List.length_append]
            have := I5.sz
            show _ + 1 ≤ _ + 1
            omega
          · exact Ex.mut (Ex.mut I5.e hfd) hol0
          · rw [List.length_append]; omega
          · rw [upd_ne nno, upd_ne nnf]; exact hnl5
    · rintro σ H5 ⟨o5, kvs5, x5, rfl, I5, hat5, hnl5⟩
      refine ⟨_, rfl, _, _, rfl, rfl, ?_⟩
      have := I5.le
      exact ⟨8 - (at_ + 1), by omega, at_ + 1, o5, kvs5, _, rfl, I5, by omega, rfl⟩
  · rw [decide_eq_false c]
    exact ⟨_, rfl, k ol o H3 hol0 I.e I.l hole I.lt⟩
theorem scTold : FnScope ["self", "word", "at"] ["self", "word"] (defScope sTold) := ⟨rfl, rfl, rfl, by decide +kernel, rfl, by decide +kernel, by decide +kernel⟩
theorem cal_told (B : Bn mg) (T : BodyC K C) (D : Dm K C "told" "Body.told" sTold) (cR : MCal P w K mg base C 2 "reached" (spReached K C)) (cS : MCal P w K mg base C 2 "show_at" (spShowAt K C)) : MCal P w K mg base C 3 "told" (spTold K C) := by
  refine D.cal (k := 2) scTold (fun _ _ _ _ _ _ us hl => match us, hl with | [_, _], _ => rfl) (fun vs H Q E h => by obtain ⟨_, _, _, _, _, rfl, _⟩ := h; rfl) fun f cdv A outer s H vs Q E hr h => ?_
  obtain ⟨b, la, R, ns, st, rfl, hB, ok, k⟩ := h
  refine ⟨_, pss_one (ps_ret (pe_callB (call_sortS rfl hr.units) (by rfl) B.sorted boot_sorted (pa_cons
    (pe_scS (own := [("at", 2)]) (g := gName 2) (tt := tTest (tOp rEq (tOp (rIxT K) (tMeth C "show_at" (spShowAt K C) [] E0 (tVar 0) (tCons (tVar 2) tNil)) (tC (.int 0))) (tVar 1))) (te := tOp (rIxT K) (tMeth C "show_at" (spShowAt K C) [] E0 (tVar 0) (tCons (tVar 2) tNil)) (tC (.int 1)))
      rfl scTold.nd (pi_list (pe_m0 (pv 0) T.cl cR hr (Nat.le_refl _))) (blkOk_by (N := ["self", "word", "at"]) (sc := defScope sTold) (by decide +kernel)) (fun _ _ _ _ _ => pg_name (i := 2) scTold.nd rfl (Or.inl rfl))
      (fun _ _ _ _ _ => pts_one (pt_cmpR op_eq (pe_ix ix_tup (pe_m (pv 0) T.cl cS hr (Nat.le_refl _) (pa_cons (pv 2) pa_nil)) pe_int fun _ _ => rfl) (pv 1) (by rfl)))
      (fun _ _ _ _ _ => pe_ix ix_tup (pe_m (pv 0) T.cl cS hr (Nat.le_refl _) (pa_cons (pv 2) pa_nil)) pe_int fun _ _ => rfl)) pa_nil))), ?_⟩
  obtain ⟨dx, fs, od, ra, hb, bf, _⟩ := id hB
  have hfew := ok.r.few
  refine ⟨_, rfl, b, dx, fs, rfl, hb, mB bf, b, la, R, ns, st, rfl, hB, ok, fun ol o H1 hol e1 hol1 hole hlt => ?_⟩
  refine ⟨ol, rfl, ⟨_, sq_of hol1⟩, fun Dl hD => ?_⟩
  have hD0 := fresh_back e1 hD
  have nDo : Dl ≠ ol := fun q => by rw [q, hol1] at hD; cases hD
  have hlen : (nV o).length = o.length := by unfold nV; rw [List.length_map]
  refine sc_it (walk_list (xs := nV o)) (fun i H' => Ex H H' ∧ H' ol = some (.lst (nV o)) ∧ ∃ n, n ≤ i ∧ H' Dl = some (SetSO w Dl n)) ⟨e1.trans (Ex.new hD), by rw [upd_ne nDo.symm]; exact hol1, 0, Nat.le_refl _, upd_same⟩ (fun i H' _ p => sq_of p.2.1) ?_ ?_
  · rintro i x H2 H3 hi ⟨e2, hol2, n, hn, hD2⟩ ⟨rfl, hx⟩
    unfold nV at hx
    rw [List.getElem?_map] at hx
    cases hy : o[i]? with
    | none => rw [hy] at hx; cases hx
    | some y =>
      rw [hy] at hx
      obtain rfl : V.int (y : Nat) = x := Option.some.inj hx
      have hyl := hlt y (List.mem_of_getElem? hy)
      refine ⟨rfl, _, rfl, b, dx, fs, rfl, e2 _ _ hb, mB bf, _, rfl, b, la, R, ns, st, y, rfl, hB.ex ok e2, ok, hyl, fun v H3 e3 dv => ?_⟩
      obtain ⟨p, z, t, rfl, hp, hz⟩ := show_shape dv
      refine ⟨p, _, 0, V.str z, rfl, rfl, hp, at0 rfl, V.str "ask", rfl, rfl, ?_⟩
      rcases hz with ⟨rfl, nm, rfl, es⟩ | ⟨hz, _⟩
      · refine ⟨true, bl_true rfl, ?_⟩
        have e23 := e2.trans e3
        refine ⟨_, rfl, b, dx, fs, rfl, e23 _ _ hb, mB bf, _, rfl, b, la, R, ns, st, y, rfl, hB.ex ok e23, ok, hyl, fun v4 H4 e4 dv4 => ?_⟩
        obtain ⟨p4, z4, t4, rfl, hp4, hz4⟩ := show_shape dv4
        rcases hz4 with ⟨rfl, nm4, rfl, es4⟩ | ⟨hz4, hno⟩
        · refine ⟨p4, _, 1, V.str nm4, rfl, rfl, hp4, at1 rfl, nm4, n, rfl, e4 _ _ (e3 _ _ hD2), Nat.lt_of_le_of_lt (show n + 1 ≤ 100 by omega) (by decide), Ex.mut (e23.trans e4) hD0, ?_, n + 1, by omega, upd_same⟩
          rw [upd_ne nDo.symm]
          exact e4 _ _ (e3 _ _ hol2)
        · exact absurd es (hno nm)
      · refine ⟨false, bl_false (str_ne hz), ?_⟩
        exact ⟨e2.trans e3, e3 _ _ hol2, n, by omega, e3 _ _ hD2⟩
  · rintro H2 ⟨e2, hol2, n, hn, hD2⟩
    refine ⟨Dl, n, rfl, hD2, fun p ks hks hp => ?_⟩
    exact k p ks _ (fresh_back e2 hp) (e2.trans (Ex.new hp)) upd_same (by omega)
theorem scAsked : FnScope ["self"] ["self"] (defScope sAsked) := ⟨rfl, rfl, rfl, by decide +kernel, rfl, by decide +kernel, by decide +kernel⟩
theorem cal_asked (T : BodyC K C) (D : Dm K C "asked" "Body.asked" sAsked) (cT : MCal P w K mg base C 3 "told" (spTold K C)) : MCal P w K mg base C 4 "asked" (spAsked K C) := by
  refine D.cal (k := 3) scAsked (fun _ _ _ _ _ _ us hl => match us, hl with | [_], _ => rfl) (fun vs H Q E h => by obtain ⟨_, _, _, _, _, rfl, _⟩ := h; rfl) fun f cdv A outer s H vs Q E hr h => ?_
  obtain ⟨b, la, R, ns, st, rfl, hB, ok, k⟩ := h
  refine ⟨_, pss_one (ps_ret (pe_m (pv 0) T.cl cT hr (Nat.le_refl _) (pa_cons pe_str pa_nil))), ?_⟩
  obtain ⟨dx, fs, od, ra, hb, bf, _⟩ := id hB
  exact ⟨_, rfl, b, dx, fs, rfl, hb, mB bf, b, la, R, ns, st, rfl, hB, ok, k⟩
end
end Ask

namespace Ask
open PySem PySem.Spec PyProof.Rows L2 Evl

theorem RowsT.tk {K : PySem.W.Frag} {H H' : Hp} {a : Addr} {R : Rows} (k : ROk R) (h : RowsT K H a R) (e : Tk K H H') : RowsT K H' a R := by
  obtain ⟨vs, h1, h2⟩ := h
  exact ⟨vs, e _ _ h1, dpAll_tk e _ _ (td_rows k) h2⟩
theorem Tk.ins {K : PySem.W.Frag} {H : Hp} {a C dx : Addr} {fs : List (Str × V)} {o' : HO} (ha : H a = some (.ins C dx fs)) : Tk K H (L2.upd H a o') := Tk.upd ha (fun _ q => nomatch q) fun _ _ q => nomatch q
theorem no_put {f : Str} {v : V} {fs : List (Str × V)} {ms : List Str} (hn : ∀ m ∈ ms, fs.lookup m = none) (h : ms.contains f = false) : ∀ m ∈ ms, (putF f v fs).lookup m = none := fun m hm => by
  rw [lookup_putF, if_neg (fun q => by rw [q] at hm; rw [List.contains_eq_mem, decide_eq_true hm] at h; cases h)]
  exact hn m hm
theorem put_out {f g : Str} {v : V} {fs : List (Str × V)} (h : (g == f) = false) : (putF f v fs).lookup g = fs.lookup g := by
  rw [lookup_putF, if_neg (fun q => by rw [q, beq_self_eq_true] at h; cases h)]
theorem put_in {f : Str} {v : V} {fs : List (Str × V)} : (putF f v fs).lookup f = some v := by
  rw [lookup_putF, if_pos rfl]
def bF1 (od : Addr) : List (Str × V) := putF "own_operations" (.ref od) []
def bF2 (od ra : Addr) : List (Str × V) := putF "own_rows" (.ref ra) (bF1 od)
def bF3 (od ra : Addr) (st : Nat) : List (Str × V) := putF "own_start" (.int (st : Nat)) (bF2 od ra)
def bF4 (od ra la : Addr) (st : Nat) : List (Str × V) := putF "land" (.ref la) (bF3 od ra st)
def bF5 (od ra la aa : Addr) (st : Nat) : List (Str × V) := putF "own_asked" (.ref aa) (bF4 od ra la st)
theorem bF4_ok (od ra la : Addr) (st : Nat) : BF (bF4 od ra la st) od ra la st := by
  refine ⟨?_, ?_, ?_, put_in, ?_⟩
  · exact (put_out (by decide +kernel)).trans ((put_out (by decide +kernel)).trans ((put_out (by decide +kernel)).trans put_in))
  · exact (put_out (by decide +kernel)).trans ((put_out (by decide +kernel)).trans put_in)
  · exact (put_out (by decide +kernel)).trans put_in
  · exact no_put (no_put (no_put (no_put (fun _ _ => rfl) (by decide +kernel)) (by decide +kernel)) (by decide +kernel)) (by decide +kernel)
theorem bF5_ok (od ra la aa : Addr) (st : Nat) : BF (bF5 od ra la aa st) od ra la st := by
  have h := bF4_ok od ra la st
  exact ⟨(put_out (by decide +kernel)).trans h.o, (put_out (by decide +kernel)).trans h.r, (put_out (by decide +kernel)).trans h.s, (put_out (by decide +kernel)).trans h.l, no_put h.m (by decide +kernel)⟩
theorem putF_len (f : Str) (v : V) (fs : List (Str × V)) : (putF f v fs).length ≤ fs.length + 1 := length_putF f v fs
theorem ints_depth : ∀ nx : List Nat, PyData.depthAll (nx.map fun (n : Nat) => PyData.int n) = 0
  | [] => rfl
  | n :: nx => by
    have := ints_depth nx
    simp only [List.map_cons, PyData.depthAll, PyData.depth, this]
    rfl
theorem row_depth (r : Row) : (encRow r).depth ≤ 2 := by
  cases r with
  | ask nm nx =>
    have := ints_depth nx
    simp [encRow, PyData.depth, PyData.depthAll, this]
  | go n => simp [encRow, PyData.depth, PyData.depthAll]
  | fin z => simp [encRow, PyData.depth, PyData.depthAll]
/-- all but b stands, and b's body is there -/
def spFill (K : PySem.W.Frag) (C : Addr) : Sp := fun vs H Q _ => ∃ b od0 ra0 R ns st dx, vs = [.ref b, .ref od0, .ref ra0, .int (st : Nat)] ∧ H b = some (.ins C dx []) ∧ H od0 = some (.dK (numKV ns)) ∧ RowsL K H ra0 R ∧ ROk R ∧ NOk ns ∧ RNs ns R ∧ st < R.length ∧
  ∀ H' la, H la = none → Ex (hid b H) H' → BodyAt K C H' b la R ns st → BOk R ns st → Q .non H'
section
variable {P : Program} {w : World} {K : PySem.W.Frag} {mg : Str → Option Value} {base : Heap} {C : Addr}
theorem scFill : FnScope ["self", "operations", "rows", "start", "row", "name"] ["self", "operations", "rows", "start"] (defScope sFill) := ⟨rfl, rfl, rfl, by decide +kernel, rfl, by decide +kernel, by decide +kernel⟩
theorem cal_fill (B : Bn mg) (T : BodyC K C) (D : Dm K C "fill" "Body.fill" sFill) (cF : Cal P w K mg base 4 "frozen" (spFrz K 2)) (cL : Cal P w K mg base 1 "landings" (spLandings K)) (cA : MCal P w K mg base C 4 "asked" (spAsked K C)) : MCal P w K mg base C 5 "fill" (spFill K C) := by
  refine D.cal (k := 4) scFill (fun _ _ _ _ _ _ us hl => match us, hl with | [_, _, _, _], _ => rfl) (fun vs H Q E h => by obtain ⟨_, _, _, _, _, _, _, rfl, _⟩ := h; rfl) fun f cdv A outer s H vs Q E hr h => ?_
  obtain ⟨b, od0, ra0, R, ns, st, dx, rfl, hb, hod0, ⟨vs0, hvs0, hd0⟩, rok, nok, rns, hst, k⟩ := h
  refine ⟨_, pss_cons (ps_fld (pv 0) (pe_callTy call_dictD (by rfl) B.dict boot_dict (pa_cons (pv 1) pa_nil)) rfl)
    (pss_cons (ps_fld (pv 0) (pe_tupleOf (by rfl) B.tuple (pe_lc (own := [("row", 4)]) (g := gName 4) (tt := tYes) rfl scFill.nd (pi_list (pv 2)) (blkOk_by (N := ["self", "operations", "rows", "start", "row", "name"]) (sc := defScope sFill) (by decide +kernel)) (fun _ _ _ _ _ => pg_name (i := 4) scFill.nd rfl (Or.inl rfl)) (fun _ _ _ _ _ => pts_nil)
        (fun _ _ _ _ _ => pe_f cF hr (Nat.le_refl _) (by rfl) (pa_cons (pv 4) pa_nil)))) rfl)
    (pss_cons (ps_fld (pv 0) (pv 3) rfl)
    (pss_cons (ps_fld (pv 0) (pe_f cL hr (by decide) (by rfl) (pa_cons (pe_fld (pv 0) rfl) pa_nil)) rfl)
    (pss_one (ps_fld (pv 0) (pe_dc (own := [("name", 5)]) (g := gName 5) (tt := tYes) (tk := tVar 5) (tv := tC (.bl true)) rfl scFill.nd (pi_list (pe_m0 (pv 0) T.cl cA hr (Nat.le_refl _))) (blkOk_by (N := ["self", "operations", "rows", "start", "row", "name"]) (sc := defScope sFill) (by decide +kernel)) (fun _ _ _ _ _ => pg_name (i := 5) scFill.nd rfl (Or.inl rfl)) (fun _ _ _ _ _ => pts_nil)
        (fun _ _ _ _ _ => pv 5) (fun _ _ _ _ _ => pe_bl)) rfl))))), ?_⟩
  have hfew := rok.few
  have e0 : Ex (hid b H) H := ex_hid
  have put : ∀ {Hc : Hp} {o : HO}, Ex (hid b H) Hc → Ex (hid b H) (upd Hc b o) := fun e => Ex.mut e hid_same
  have fre : ∀ {Hc : Hp} {p : Addr}, Ex (hid b H) Hc → Hc p = none → p ≠ b → H p = none := fun {Hc p} e h n => by
    have := fresh_back e h
    rw [hid_ne n] at this
    exact this
  refine ⟨_, rfl, od0, numKV ns, rfl, .inl hod0, fun p1 hp1 => ?_⟩
  have n1 : p1 ≠ b := fun q => by rw [q, hb] at hp1; cases hp1
  refine ⟨_, rfl, b, C, dx, [], rfl, by rw [upd_ne n1.symm]; exact hb, T.cl, T.o, by decide, ?_⟩
  have e1 := put (o := .ins C dx (bF1 p1)) (e0.trans (Ex.new (o := .dK (numKV ns)) hp1))
  have hb1 : (upd (upd H p1 (.dK (numKV ns))) b (.ins C dx (bF1 p1))) b = some (.ins C dx (bF1 p1)) := upd_same
  have hp1' : (upd (upd H p1 (.dK (numKV ns))) b (.ins C dx (bF1 p1))) p1 = some (.dK (numKV ns)) := by rw [upd_ne n1]; exact upd_same
  have tk1 : Tk K H (upd (upd H p1 (.dK (numKV ns))) b (.ins C dx (bF1 p1))) := (Tk.new hp1).trans (Tk.ins (a := b) (C := C) (dx := dx) (fs := []) (by rw [upd_ne n1.symm]; exact hb))
  show (tSeq _ _ : TS) _ _ (upd (upd H p1 (.dK (numKV ns))) b (.ins C dx (bF1 p1)))
  have hvs0' : SqL K (hid b H) ra0 vs0 := by
    rcases hvs0 with (h | ⟨u, h⟩) | h
    · exact .inl (.inl (by rw [hid_ne (fun q => by rw [q, hb] at h; cases h)]; exact h))
    · exact .inl (.inr ⟨u, by rw [hid_ne (fun q => by rw [q, hb] at h; cases h)]; exact h⟩)
    · exact .inr h
  have hvs1 := ex_l e1 hvs0'
  have hd1 := dpAll_tk tk1 _ _ (td_rows rok) hd0
  generalize upd (upd H p1 (.dK (numKV ns))) b (.ins C dx (bF1 p1)) = H1 at e1 hb1 hp1' hvs1 hd1
  have hlen := rows_len hd1
  refine ⟨_, rfl, ra0, rfl, ⟨_, hvs1⟩, fun Dl hD => ?_⟩
  refine lc_P (fun j v H => ∃ r, R[j]? = some r ∧ Dp K H v (encRow r)) (fun j v H H' e ⟨r, q1, q2⟩ => ⟨r, q1, dp_tk (Tk.ex e) _ _ (td_row (rok.at q1)) q2⟩) (walk_list (xs := vs0)) hD (by omega) (fun H2 e2 => ex_l e2 hvs1) ?_ ?_
  · rintro i x H2 H3 hi e2 ⟨acc, hacc⟩ ⟨rfl, hx⟩ R' hR'
    obtain ⟨d, hg, hdd⟩ := dpAll_get hd1 hx
    rw [List.getElem?_map] at hg
    cases hr' : R[i]? with
    | none => rw [hr'] at hg; cases hg
    | some r =>
      rw [hr'] at hg
      obtain rfl : encRow r = d := Option.some.inj hg
      have tdr := td_row (rok.at hr')
      exact ⟨rfl, _, rfl, x, encRow r, rfl, tdr, row_depth r, dp_tk (Tk.ex e2) _ _ tdr hdd, fun v' H4 e4 p4 => hR' v' H4 e4 ⟨r, hr', dp_tk (tk_hid (e4 Dl _ hacc)) _ _ tdr p4⟩⟩
  intro H2 acc e2 hacc hlenA hall
  refine .inl ⟨Dl, acc, rfl, sq_of hacc, fun q hq => ?_⟩
  have nq : q ≠ b := fun z => by rw [z, e2 _ _ hb1] at hq; cases hq
  have e13 : Ex H1 (upd H2 q (.tup acc)) := e2.trans (Ex.new hq)
  have hR3 : RowsT K (upd H2 q (.tup acc)) q R := by
    refine ⟨acc, st_of upd_same, dpAll_of (by rw [hlenA, List.length_map]; omega) fun j v e => ?_⟩
    obtain ⟨r, q1, q2⟩ := hall j v e
    exact ⟨encRow r, by rw [List.getElem?_map, q1]; rfl, dp_tk (Tk.ex (ex_hid.trans (Ex.new hq))) _ _ (td_row (rok.at q1)) q2⟩
  refine ⟨_, rfl, b, C, dx, bF1 p1, rfl, e13 _ _ hb1, T.cl, T.r, by have := putF_len "own_operations" (.ref p1) []; unfold bF1; simp at this; omega, ?_⟩
  have e3 := put (o := .ins C dx (bF2 p1 q)) (e1.trans e13)
  have hb3 : (upd (upd H2 q (.tup acc)) b (.ins C dx (bF2 p1 q))) b = some (.ins C dx (bF2 p1 q)) := upd_same
  have hp3 : (upd (upd H2 q (.tup acc)) b (.ins C dx (bF2 p1 q))) p1 = some (.dK (numKV ns)) := by rw [upd_ne n1]; exact e13 _ _ hp1'
  have hR3' := hR3.tk rok (Tk.ins (o' := .ins C dx (bF2 p1 q)) (e13 _ _ hb1))
  have l2 : (bF2 p1 q).length ≤ 2 := by
    have h1 := putF_len "own_operations" (.ref p1) []
    have h2 := putF_len "own_rows" (.ref q) (bF1 p1)
    unfold bF1 at h2
    unfold bF2 bF1
    simp only [List.length_nil] at h1
    omega
  show (tSeq _ _ : TS) _ _ (upd (upd H2 q (.tup acc)) b (.ins C dx (bF2 p1 q)))
  generalize upd (upd H2 q (.tup acc)) b (.ins C dx (bF2 p1 q)) = H3 at e3 hb3 hp3 hR3'
  refine ⟨_, rfl, _, rfl, b, C, dx, bF2 p1 q, rfl, hb3, T.cl, T.s, by omega, ?_⟩
  have e4 := put (o := .ins C dx (bF3 p1 q st)) e3
  have hb4 : (upd H3 b (.ins C dx (bF3 p1 q st))) b = some (.ins C dx (bF3 p1 q st)) := upd_same
  have hp4 : (upd H3 b (.ins C dx (bF3 p1 q st))) p1 = some (.dK (numKV ns)) := by rw [upd_ne n1]; exact hp3
  have hR4 := hR3'.tk rok (Tk.ins (o' := .ins C dx (bF3 p1 q st)) hb3)
  have l3 : (bF3 p1 q st).length ≤ 3 := by
    have h2 := putF_len "own_start" (.int (st : Nat)) (bF2 p1 q)
    unfold bF3
    omega
  show (tSeq _ _ : TS) _ _ (upd H3 b (.ins C dx (bF3 p1 q st)))
  generalize upd H3 b (.ins C dx (bF3 p1 q st)) = H4 at e4 hb4 hp4 hR4
  have lr : (bF3 p1 q st).lookup ("own_rows" : Str) = some (.ref q) := (put_out (by decide +kernel)).trans put_in
  refine ⟨_, rfl, b, C, dx, bF3 p1 q st, _, rfl, hb4, T.cl, T.r, lr, q, R, rfl, hR4, rok, fun la H5 hla e5 hla5 hG => ?_⟩
  have nla : la ≠ b := fun z => by rw [z, hb4] at hla; cases hla
  have hla0 := fre e4 hla nla
  refine ⟨_, rfl, b, C, dx, bF3 p1 q st, rfl, e5 _ _ hb4, T.cl, T.l, by omega, ?_⟩
  have e6 := put (o := .ins C dx (bF4 p1 q la st)) (e4.trans e5)
  have ok : BOk R ns st := ⟨rok, nok, rns, hG, hst⟩
  have hB6 : BodyAt K C (upd H5 b (.ins C dx (bF4 p1 q la st))) b la R ns st := ⟨dx, _, p1, q, upd_same, bF4_ok _ _ _ _, by rw [upd_ne n1]; exact e5 _ _ hp4, (hR4.ex rok e5).tk rok (Tk.ins (e5 _ _ hb4)), by rw [upd_ne nla]; exact hla5⟩
  have hb6 : (upd H5 b (.ins C dx (bF4 p1 q la st))) b = some (.ins C dx (bF4 p1 q la st)) := upd_same
  have hp6 : (upd H5 b (.ins C dx (bF4 p1 q la st))) p1 = some (.dK (numKV ns)) := by rw [upd_ne n1]; exact e5 _ _ hp4
  have hR6 := (hR4.ex rok e5).tk rok (Tk.ins (o' := .ins C dx (bF4 p1 q la st)) (e5 _ _ hb4))
  have hl6 : (upd H5 b (.ins C dx (bF4 p1 q la st))) la = some (.lst (landV R)) := by rw [upd_ne nla]; exact hla5
  have l4 : (bF4 p1 q la st).length ≤ 4 := by
    have h2 := putF_len "land" (.ref la) (bF3 p1 q st)
    unfold bF4
    omega
  refine ⟨_, rfl, b, dx, bF4 p1 q la st, rfl, hb6, mB (bF4_ok _ _ _ _), b, la, R, ns, st, rfl, hB6, ok, fun kl ks H7 hkl e7 hkl7 hks => ?_⟩
  refine ⟨kl, rfl, ⟨_, sq_of hkl7⟩, fun Dd hDd => ?_⟩
  have nDk : Dd ≠ kl := fun z => by rw [z, hkl7] at hDd; cases hDd
  refine dc_it (walk_list (xs := ks.map V.str)) (fun i H' => Ex H7 H' ∧ ∃ kvs, H' Dd = some (.dK kvs) ∧ kvs.length ≤ i) ⟨Ex.new hDd, [], upd_same, Nat.le_refl _⟩ (fun i H' _ p => sq_of (p.1 _ _ hkl7)) ?_ ?_
  · rintro i x H8 H9 hi ⟨e8, kvs, hk8, hl8⟩ ⟨rfl, hx⟩
    rw [List.getElem?_map] at hx
    rw [List.length_map] at hi
    cases hz : ks[i]? with
    | none => rw [hz] at hx; cases hx
    | some z =>
      rw [hz] at hx
      obtain rfl : V.str z = x := Option.some.inj hx
      refine ⟨rfl, _, rfl, kvs, .inr z, rfl, hk8, sz_lt (by omega), Ex.mut e8 hDd, _, upd_same, ?_⟩
      have := length_putK kvs (.inr z) (.bl true)
      omega
  · rintro H8 ⟨e8, kvs, hk8, hl8⟩
    have e68 := e7.trans e8
    refine ⟨_, rfl, b, C, dx, bF4 p1 q la st, rfl, e68 _ _ hb6, T.cl, T.a, by omega, ?_⟩
    refine k _ la hla0 (put (e6.trans e68)) ⟨dx, bF5 p1 q la Dd st, p1, q, upd_same, bF5_ok _ _ _ _ _, ?_, (hR6.ex rok e68).tk rok (Tk.ins (e68 _ _ hb6)), ?_⟩ ok
    · rw [upd_ne n1]; exact e68 _ _ hp6
    · rw [upd_ne nla]; exact e68 _ _ hl6
end
end Ask

namespace Ask
open PySem PySem.Spec PyProof.Rows L2 Evl

/-- how a body is made -/
def BMake (P : Program) (w : World) (K : PySem.W.Frag) (mg : Str → Option Value) (base : Heap) (C : Addr) (k : Nat) : Prop :=
  ∃ (fI : Addr) (fdI : FuncData) (ps : List Str) (ds : List Value) (g : List Value → List Value → List Value), FnOk P w K mg base CX0 k fI fdI ps (spFill K C) ∧ Mk K C fI ∧ mg "Body" = some (.ref C) ∧ Vals [V.int 0] ds ∧ Binds K fdI ps ds ∧ KBn K fdI ps 3 ["start"] g (fun vs zs => vs ++ zs)
def DBInit (K : PySem.W.Frag) (C : Addr) : Prop := ∃ fI fdI, FunD K "__init__" "Body.__init__" (defArgs sBInit) (defBody sBInit) (defScope sBInit) [] [("start", .int 0)] fI fdI ∧ Mk K C fI
section
variable {P : Program} {w : World} {K : PySem.W.Frag} {mg : Str → Option Value} {base : Heap} {C : Addr}
theorem scBInit : FnScope ["self", "operations", "rows", "start"] ["self", "operations", "rows", "start"] (defScope sBInit) := ⟨rfl, rfl, rfl, by decide +kernel, rfl, by decide +kernel, by decide +kernel⟩
theorem bmake (T : BodyC K C) (D : DBInit K C) (gB : mg "Body" = some (.ref C)) (cL : Cal P w K mg base 5 "look_body" (spLook K)) (cF : MCal P w K mg base C 5 "fill" (spFill K C)) : BMake P w K mg base C 6 := by
  obtain ⟨fI, fdI, F, M⟩ := D
  have b0 := FunD.binds0 (ps := ["self", "operations", "rows", "start"]) F 3 (by simp) rfl (fun D doc pm an cdv ct us ks h1 h2 => match us, ks, h1, h2 with
    | [_, _, _], [_], _, _ => ⟨_, _, _, _, _, _, rfl, rfl, rfl⟩)
  obtain ⟨ds, hds, b0⟩ := b0
  have b1 := FunD.kbinds0 (ps := ["self", "operations", "rows", "start"]) F 3 ["start"] [] (fun us mv ws => us ++ ws) (by simp) (fun _ h => by cases h) (fun r1 _ r3 => r1.append r3) (fun D doc pm an cdv ct us mv ws h1 h2 h3 => match us, mv, ws, h1, h2, h3 with
    | [_, _, _], [], [_], _, _, _ => rfl)
  obtain ⟨mv, b1⟩ := b1
  refine ⟨fI, fdI, _, ds, _, F.ok scBInit (fun vs H Q E h => by obtain ⟨_, _, _, _, _, _, _, rfl, _⟩ := h; rfl) (fun cdv A outer s H vs Q E hr h => ?_), M, gB, hds, b0, b1⟩
  suffices hx : ∃ t, PSs (cxOf CX0 P w K mg base ["self", "operations", "rows", "start"] "Body.__init__" (defScope sBInit) fI cdv A outer s H E).nox (defBody sBInit) t ∧ t { nx := fun _ H' => Q .non H', rt := Q } (start ["self", "operations", "rows", "start"] vs) H by
    obtain ⟨t, h1, h2⟩ := hx
    exact ⟨t, h1.nox, h2⟩
  obtain ⟨b, od0, ra0, R, ns, st, dx, rfl, hb, hod0, hR0, rok, nok, rns, hst, k⟩ := h
  refine ⟨_, pss_cons (ps_expr (pe_f cL hr (Nat.le_refl _) (by rfl) (pa_cons (pv 1) (pa_cons (pv 2) (pa_cons (pv 3) pa_nil))))) (pss_one (ps_expr (pe_m (pv 0) T.cl cF hr (Nat.le_refl _) (pa_cons (pv 1) (pa_cons (pv 2) (pa_cons (pv 3) pa_nil)))))), ?_⟩
  refine ⟨_, rfl, _, rfl, _, rfl, od0, ns, ra0, R, st, rfl, hod0, nok, hR0, rok, rns, hst, fun H1 e1 => ?_⟩
  refine ⟨_, rfl, b, dx, [], rfl, e1 _ _ hb, rfl, _, rfl, _, rfl, _, rfl, b, od0, ra0, R, ns, st, dx, rfl, e1 _ _ hb, e1 _ _ hod0, hR0.ex rok e1, rok, nok, rns, hst, fun H' la hla e hB ok => ?_⟩
  exact k H' la (fresh_back e1 hla) ((hid_ex e1).trans e) hB ok
theorem body_made {H1 : Hp} {x dx od0 ra0 : Addr} {R : Rows} {ns : Nums} {st : Nat} {RR : Hp → Prop} {E : XK} (hx : H1 x = none) (hdx : H1 dx = none) (hn : dx ≠ x) (hod0 : H1 od0 = some (.dK (numKV ns))) (hR0 : RowsL K H1 ra0 R) (rok : ROk R) (nok : NOk ns) (rns : RNs ns R) (hst : st < R.length)
    (k : ∀ H' la, H1 la = none → Ex H1 H' → BodyAt K C H' x la R ns st → BOk R ns st → RR H') :
    spFill K C [.ref x, .ref od0, .ref ra0, .int (st : Nat)] (upd (upd H1 dx (.own x)) x (.ins C dx [])) (fun v H2 => v = .non ∧ RR H2) E := by
  have e1 : Ex H1 (upd H1 dx (.own x)) := Ex.new hdx
  have hx1 : (upd H1 dx (.own x)) x = none := by rw [upd_ne hn.symm]; exact hx
  have e2 := e1.trans (Ex.new (o := .ins C dx []) hx1)
  refine ⟨x, od0, ra0, R, ns, st, dx, rfl, upd_same, e2 _ _ hod0, hR0.ex rok e2, rok, nok, rns, hst, fun H' la hla e hB ok => ⟨rfl, ?_⟩⟩
  rw [hid_upd] at e
  exact k H' la (fresh_back e2 hla) (e1.trans ((hid_none hx1).trans e)) hB ok
end
section
variable {X : Cx} {C : Addr} {k j : Nat} {p pos : Pos} {e e2 : Expr} {es : List Expr} {kws : List Keyword} {t tk : TA}
theorem pe_body (M : BMake X.prog X.w X.K X.mg X.base C k) (hr : Room (j + 1) X.A) (hk : k ≤ j) (hg : Gl X "Body") (ha : PA X (e :: es) t)
    (he : starEach (e :: es) X.env = (false, eval e X.env) :: starEach es X.env := by rfl) (hpl : (backTo pos (starEach es X.env)).any (·.1) = false := by rfl) :
    PE X (.Call (.Name "Body" p) (e :: es) [] pos) (tMake C (spFill X.K C) [.int 0] E0 t) := by
  obtain ⟨fI, fdI, ps, ds, g, F, M, hm, hd, b0, b1⟩ := M
  exact pe_make M F (hr.mono (Nat.succ_le_succ hk)) hg hm b0 hd pass0 ha (by decide) he hpl
theorem pe_bodyK (M : BMake X.prog X.w X.K X.mg X.base C k) (hr : Room (j + 1) X.A) (hk : k ≤ j) (hg : Gl X "Body") (ha : PA X (e :: es) t) (hkw : PK X kws tk)
    (hall : (backToKw pos (keywordEach kws X.env)).all (·.1.isSome) = true := by rfl) (hks : (backToKw pos (keywordEach kws X.env)).filterMap (·.1) = [("start" : Str)] := by rfl)
    (he : starEach (e :: es) X.env = (false, eval e X.env) :: starEach es X.env := by rfl) (hpl : ((backTo pos (starEach (e :: es) X.env)).any (·.1) || (backToKw pos (keywordEach kws X.env)).any (·.1.isNone)) = false := by rfl) :
    PE X (.Call (.Name "Body" p) (e :: es) kws pos) (tMakeK C 2 1 (spFill X.K C) (fun vs zs => vs ++ zs) E0 t tk) := by
  obtain ⟨fI, fdI, ps, ds, g, F, M, hm, hd, b0, b1⟩ := M
  exact pe_makeK M F (hr.mono (Nat.succ_le_succ hk)) hg hm b1 pass0 ha hkw hall hks (by decide) he hpl
end

/-! ### look_history, shown -/
abbrev sLookH : Stmt := topS 31
abbrev sShown : Stmt := topS 32
def spLookH (K : PySem.W.Frag) (C : Addr) : Sp := fun vs H Q _ => ∃ b la R ns st hv h s, vs = [.ref b, hv] ∧ BodyAt K C H b la R ns st ∧ BOk R ns st ∧ HOk h ∧ Dp K H hv (encH h) ∧ along R (settle R st) h = some s ∧ settle R s = s ∧ s < R.length ∧ RetV (.int (s : Nat)) H Q
def spShown (K : PySem.W.Frag) (C : Addr) : Sp := fun vs H Q _ => ∃ b la R ns st hv h s, vs = [.ref b, hv] ∧ BodyAt K C H b la R ns st ∧ BOk R ns st ∧ HOk h ∧ Dp K H hv (encH h) ∧ along R (settle R st) h = some s ∧ settle R s = s ∧ s < R.length ∧ RetP (fun v H' => Dp K H' v (showD R s)) H Q
theorem show_ask {R : Rows} {s : Nat} {nm : Str} {nx : List Nat} (e : R[s]? = some (.ask nm nx)) : showD R s = .tuple [.str "ask", .str nm] := by
  unfold showD
  rw [e]
theorem dp_two {K : PySem.W.Frag} {H : Hp} {v : V} {a b : Str} (h : Dp K H v (.tuple [.str a, .str b])) : ∃ p, v = .ref p ∧ SqT K H p [.str a, .str b] := by
  cases h with
  | tup h1 h2 =>
    cases h2 with
    | cons x y =>
      cases x
      cases y with
      | cons x y => cases x; cases y; exact ⟨_, rfl, h1⟩
section
variable {P : Program} {w : World} {K : PySem.W.Frag} {mg : Str → Option Value} {base : Heap} {C : Addr}
theorem scLookH : FnScope ["body", "history", "at", "index", "one", "row", "nexts"] ["body", "history"] (defScope sLookH) := ⟨rfl, rfl, rfl, by decide +kernel, rfl, by decide +kernel, by decide +kernel⟩
theorem cal_lookH (B : Bn mg) (T : BodyC K C) (D : Dh K mg "look_history" sLookH) (cR : Cal P w K mg base 1 "is_row" (spIsRow K)) (cNm : Cal P w K mg base 1 "is_name" spIsName) (cI : Cal P w K mg base 2 "is_index" spIsIndex)
    (cB : MCal P w K mg base C 1 "begin" (spBegin K C)) (cS : MCal P w K mg base C 2 "show_at" (spShowAt K C)) (cN : MCal P w K mg base C 1 "nexts" (spNexts K C)) : Cal P w K mg base 3 "look_history" (spLookH K C) := by
  refine D.cal (k := 2) scLookH (fun _ _ _ _ _ _ us hl => match us, hl with | [_, _], _ => rfl) (fun vs H Q E h => by obtain ⟨_, _, _, _, _, _, _, _, rfl, _⟩ := h; rfl) fun f cdv A outer s H vs Q E hr h => ?_
  obtain ⟨b, la, R, ns, st, hv, h, t, rfl, hB, ok, hok, hh, hal, hst, htl, k⟩ := h
  refine ⟨_, pss_cons (ps_if (pt_not (pt_val (pe_f cR hr (by decide) (by rfl) (pa_cons (pv 1) pa_nil)))) pss_never pss_nil)
    (pss_cons (ps_set (i := 2) scLookH.nd rfl (Or.inl rfl) (pe_m0 (pv 0) T.cl cB hr (by decide)))
    (pss_cons (ps_for PassesOwn.never rfl (pi_enumT (by rfl) B.enumerate (pa_cons (pv 1) pa_nil)) (pg_tup rfl (pgs_cons (pg_name (i := 3) scLookH.nd rfl (Or.inl rfl)) (pgs_cons (pg_name (i := 4) scLookH.nd rfl (Or.inl rfl)) pgs_nil)))
      (pss_cons (ps_par (i := 5) (j := 6) rfl scLookH.nd rfl rfl (by decide) rfl rfl (pa_cons (pe_m (pv 0) T.cl cS hr (by decide) (pa_cons (pv 2) pa_nil)) (pa_cons (pe_m (pv 0) T.cl cN hr (by decide) (pa_cons (pv 2) pa_nil)) pa_nil)) (by rfl))
      (pss_cons (ps_if (pw_or (pt_not (pt_val (pe_f cR hr (by decide) (by rfl) (pa_cons (pv 4) pa_nil)))) (pw_or (pt_cmpR op_ne (pe_callB call_len_seq (by rfl) B.len PySem.boot_len (pa_cons (pv 4) pa_nil)) pe_int (by rfl))
          (pw_or (pt_cmpR op_ne (pe_ix ix_tup (pv 5) pe_int fun _ _ => rfl) pe_str (by rfl)) (pw_or (pt_not (pt_val (pe_f cNm hr (by decide) (by rfl) (pa_cons (pe_ix ix_tup (pv 4) pe_int fun _ _ => rfl) pa_nil))))
          (pw_or1 (pt_cmpR op_ne (pe_ix ix_tup (pv 4) pe_int fun _ _ => rfl) (pe_ix ix_tup (pv 5) pe_int fun _ _ => rfl) (by rfl))))))).pt pss_never pss_nil)
      (pss_cons (ps_if (pt_not (pt_val (pe_f cI hr (Nat.le_refl _) (by rfl) (pa_cons (pe_ix ix_tup (pv 4) pe_int fun _ _ => rfl) (pa_cons (pe_callB call_len_seq (by rfl) B.len PySem.boot_len (pa_cons (pv 6) pa_nil)) pa_nil))))) pss_never pss_nil)
      (pss_one (ps_set (i := 2) scLookH.nd rfl (Or.inl rfl) (pe_ix ix_list (pv 6) (pe_ix ix_tup (pv 4) pe_int fun _ _ => rfl) fun _ _ => rfl)))))))
    (pss_one (ps_ret (pv 2))))), ?_⟩
  obtain ⟨ha, hs, rfl, hha, hhs⟩ := hist_shape hh
  have hlen := dpAll_len' hhs
  rw [List.length_map] at hlen
  obtain ⟨dx, fs, od, ra, hb, bf, _⟩ := id hB
  refine ⟨_, rfl, _, true, rfl, .inl ⟨ha, hs, rfl, .inr hha, rfl⟩, fun H1 e1 => ⟨true, rfl, ?_⟩⟩
  refine ⟨_, rfl, b, dx, fs, rfl, e1 _ _ hb, mB bf, b, la, R, ns, st, rfl, hB.ex ok e1, ok, fun H2 e2 => ?_⟩
  have e02 := e1.trans e2
  have gst := ok.g st ok.s
  refine ⟨_, rfl, ha, hs, rfl, ex_t e02 hha, ?_⟩
  refine for_it (walk_enumT (xs := hs)) (fun i σ H' => ∃ (t' : Nat) (x3 x4 x5 x6 : Option V), σ = [some (.ref b), some (.ref ha), some (.int (t' : Nat)), x3, x4, x5, x6] ∧ Ex H H' ∧ t' < R.length ∧ settle R t' = t' ∧ along R t' (h.drop i) = some t) ⟨_, _, _, _, _, rfl, e02, gst.2, settle_idem gst.1.choose_spec, hal⟩ (fun i σ H' _ ⟨_, _, _, _, _, _, e, _⟩ => ex_t e hha) ?_ ?_
  · rintro i x σ H3 H4 hi ⟨t', x3, x4, x5, x6, rfl, e3, hlt, hse, ha2⟩ ⟨T4, k1, v1, rfl, hT, rfl, hk1, hv1⟩
    obtain rfl : V.int (i : Nat) = k1 := Option.some.inj hk1
    have hx : hs[i]? = some v1 := hv1
    have hi' : i < h.length := by rw [← hlen]; exact hi
    rw [List.drop_eq_getElem_cons hi'] at ha2
    obtain ⟨nx, one, hr1, hk1, ha3⟩ := along_cons ha2
    obtain ⟨d, hd1, hd2⟩ := dpAll_get hhs hx
    rw [List.getElem?_map, List.getElem?_eq_getElem hi'] at hd1
    obtain rfl := Option.some.inj hd1
    obtain ⟨pa, rfl, hpa⟩ := pair_shape hd2
    refine ⟨T4, _, rfl, st_of upd_same, rfl, _, _, rfl, _, _, rfl, rfl, ?_⟩
    have e4 := e3.trans (Ex.new (o := .tup [V.int (i : Nat), V.ref pa]) hT)
    generalize upd H3 T4 (.tup [V.int (i : Nat), V.ref pa]) = H4 at e4
    refine ⟨_, rfl, b, dx, fs, rfl, e4 _ _ hb, mB bf, _, rfl, b, la, R, ns, st, t', rfl, hB.ex ok e4, ok, hlt, fun v H5 e5 dv => ?_⟩
    rw [hse, show_ask hr1] at dv
    obtain ⟨pr, rfl, hpr⟩ := dp_two dv
    have e05 := e4.trans e5
    refine ⟨_, rfl, b, dx, fs, rfl, e05 _ _ hb, mB bf, _, rfl, b, la, R, ns, st, t', rfl, hB.ex ok e05, ok, hlt, fun nl H6 hnl e6 hnl6 => ?_⟩
    have e06 := e05.trans e6
    have hpr6 := ex_t e6 hpr
    have hpa6 := ex_t e06 hpa
    have hkl := (List.getElem?_eq_some_iff.mp hk1).1
    have enx : nexts R t' = nx.map (settle R) := nexts_ask (by rw [hse]; exact hr1)
    rw [enx] at hnl6
    have hw := (ok.r.at hr1).1
    have gone := ok.g one ((ok.r.at hr1).2.2 one (List.mem_of_getElem? hk1))
    refine ⟨_, _, rfl, ?_⟩
    refine ⟨_, rfl, _, true, rfl, .inl ⟨pa, _, rfl, .inr hpa6, rfl⟩, fun H7 e7 => ⟨true, rfl, ?_⟩⟩
    have hpa7 := ex_t e7 hpa6
    have hpr7 := ex_t e7 hpr6
    refine ⟨_, rfl, pa, _, rfl, .inr hpa7, rfl, false, bl_false' rfl, ?_⟩
    refine ⟨_, rfl, pr, _, 0, _, rfl, rfl, hpr7, rfl, rfl, false, bl_false' rfl, ?_⟩
    refine ⟨_, rfl, pa, _, 0, _, rfl, rfl, hpa7, rfl, _, rfl, word_n hw, fun H8 e8 => ⟨true, rfl, ?_⟩⟩
    have e08 := (e06.trans e7).trans e8
    refine ⟨_, rfl, pa, _, 0, _, rfl, rfl, ex_t e8 hpa7, rfl, _, rfl, pr, _, 1, _, rfl, rfl, ex_t e8 hpr7, rfl, rfl, false, bl_false' rfl, ?_⟩
    have hnl8 := e8 _ _ (e7 _ _ hnl6)
    have hnlen : (nV (nx.map (settle R))).length = nx.length := by unfold nV; rw [List.length_map, List.length_map]
    refine ⟨_, rfl, pa, _, 1, _, rfl, rfl, ex_t e8 hpa7, rfl, _, rfl, nl, _, rfl, .inl (sq_of hnl8), _, _, rfl, Int.natCast_nonneg _, by rw [hnlen]; omega, fun H9 e9 => ⟨true, rfl, ?_⟩⟩
    refine ⟨_, rfl, _, rfl, pa, _, 1, _, rfl, rfl, ex_t (e8.trans e9) hpa7, rfl, nl, _, _, .int (settle R one : Nat), rfl, rfl, sq_of (e9 _ _ hnl8), atI_nat (by unfold nV; rw [List.map_map, List.getElem?_map, hk1]; rfl), ?_⟩
    exact ⟨settle R one, _, _, _, _, rfl, e08.trans e9, gone.2, settle_idem gone.1.choose_spec, ha3⟩
  · rintro σ H3 ⟨t', x3, x4, x5, x6, rfl, e3, hlt, hse, ha2⟩
    rw [hlen, List.drop_length] at ha2
    obtain rfl : t' = t := Option.some.inj ha2
    exact ⟨_, rfl, k _ e3⟩
theorem scShown : FnScope ["body", "history"] ["body", "history"] (defScope sShown) := ⟨rfl, rfl, rfl, by decide +kernel, rfl, by decide +kernel, by decide +kernel⟩
theorem cal_shown (T : BodyC K C) (D : Dh K mg "shown" sShown) (cL : Cal P w K mg base 3 "look_history" (spLookH K C)) (cS : MCal P w K mg base C 2 "show_at" (spShowAt K C)) : Cal P w K mg base 4 "shown" (spShown K C) := by
  refine D.cal (k := 3) scShown (fun _ _ _ _ _ _ us hl => match us, hl with | [_, _], _ => rfl) (fun vs H Q E h => by obtain ⟨_, _, _, _, _, _, _, _, rfl, _⟩ := h; rfl) fun f cdv A outer s H vs Q E hr h => ?_
  obtain ⟨b, la, R, ns, st, hv, h, t, rfl, hB, ok, hok, hh, hal, hst, htl, k⟩ := h
  refine ⟨_, pss_one (ps_ret (pe_m (pv 0) T.cl cS hr (by decide) (pa_cons (pe_f cL hr (Nat.le_refl _) (by rfl) (pa_cons (pv 0) (pa_cons (pv 1) pa_nil))) pa_nil))), ?_⟩
  obtain ⟨dx, fs, od, ra, hb, bf, _⟩ := id hB
  refine ⟨_, rfl, b, dx, fs, rfl, hb, mB bf, _, rfl, _, rfl, b, la, R, ns, st, hv, h, t, rfl, hB, ok, hok, hh, hal, hst, htl, fun H1 e1 => ?_⟩
  refine ⟨b, la, R, ns, st, t, rfl, hB.ex ok e1, ok, htl, fun v H2 e2 dv => ?_⟩
  rw [hst] at dv
  exact k v H2 (e1.trans e2) dv
end
end Ask

namespace Ask
open PySem PySem.Spec PyProof.Rows L2 Evl

/-! ### the meeting's class -/
abbrev sCM : Stmt := topS 34
abbrev sMInit : Stmt := inClass sCM 0
abbrev sMLook : Stmt := inClass sCM 1
structure MeetC (K : PySem.W.Frag) (C : Addr) : Prop where
  cl : Cls K C
  one : NoAttr K C "one"
  other : NoAttr K C "other"
  free : NoAttr K C "is_free"
  hist : NoAttr K C "histories"
  order : NoAttr K C "order"
  found : NoAttr K C "found"
structure MF (fs : List (Str × V)) (b1 b2 hd ol : Addr) (fv : V) : Prop where
  one : fs.lookup ("one" : Str) = some (.ref b1)
  other : fs.lookup ("other" : Str) = some (.ref b2)
  free : fs.lookup ("is_free" : Str) = some (.bl false)
  hist : fs.lookup ("histories" : Str) = some (.ref hd)
  order : fs.lookup ("order" : Str) = some (.ref ol)
  found : fs.lookup ("found" : Str) = some fv
  look : fs.lookup ("look" : Str) = none
  len : fs.length ≤ 6
def pk (p : Nat × Nat) : List V := [.int (p.1 : Nat), .int (p.2 : Nat)]
def kk (p : Nat × Nat) : List Key := [.inl (p.1 : Nat), .inl (p.2 : Nat)]
theorem kk_V (p : Nat × Nat) : (kk p).map kV = pk p := rfl
theorem kk_inj {p q : Nat × Nat} (h : kk p = kk q) : p = q := by
  unfold kk at h
  injection h with h1 h2
  injection h2 with h2 _
  injection h1 with h1
  injection h2 with h2
  exact Prod.ext (by omega) (by omega)
/-- the tuples that stand, stand still -/
def TT (H H' : Hp) : Prop := ∀ c xs, H c = some (.tup xs) → H' c = some (.tup xs)
theorem TT.ex {H H' : Hp} (e : Ex H H') : TT H H' := fun c _ h => e c _ h
theorem TT.trans {H H1 H2 : Hp} (a : TT H H1) (b : TT H1 H2) : TT H H2 := fun c xs h => b c xs (a c xs h)
theorem TT.put {H : Hp} {a : Addr} {o o' : HO} (ha : H a = some o) (hn : ∀ xs, o ≠ .tup xs) : TT H (L2.upd H a o') := fun c xs h => by
  rw [upd_ne (fun q => by rw [q, ha] at h; exact hn xs (Option.some.inj h))]
  exact h
structure PInv (K : PySem.W.Frag) (N : Nat) (hd ol : Addr) (H : Hp) (o : List (Nat × Nat)) (kvs : List (List Key × V)) (as : List Addr) : Prop where
  d : H hd = some (.dT kvs)
  l : H ol = some (.lst (as.map V.ref))
  ln : as.length = o.length
  tp : ∀ (j : Nat) (a : Addr) (p : Nat × Nat), as[j]? = some a → o[j]? = some p → H a = some (.tup (pk p))
  nd : o.Nodup
  lt : ∀ p ∈ o, p.1 < N ∧ p.2 < N
  sz : kvs.length ≤ o.length
  no : ∀ p, p ∉ o → valV kvs (kk p) = none
  hi : ∀ (j : Nat) (p : Nat × Nat), o[j]? = some p → ∃ a xs, valV kvs (kk p) = some (.ref a) ∧ SqT K H a xs ∧ xs.length ≤ j
theorem PInv.le {K : PySem.W.Frag} {N : Nat} {hd ol : Addr} {H : Hp} {o : List (Nat × Nat)} {kvs : List (List Key × V)} {as : List Addr} (h : PInv K N hd ol H o kvs as) : o.length ≤ N * N := nodup_pairs N o h.nd h.lt
theorem PInv.move {K : PySem.W.Frag} {N : Nat} {hd ol : Addr} {H H' : Hp} {o : List (Nat × Nat)} {kvs : List (List Key × V)} {as : List Addr} (h : PInv K N hd ol H o kvs as) (t : TT H H') (k : Tk K H H') (e1 : H' hd = some (.dT kvs)) (e2 : H' ol = some (.lst (as.map V.ref))) : PInv K N hd ol H' o kvs as :=
  ⟨e1, e2, h.ln, fun j a p h1 h2 => t _ _ (h.tp j a p h1 h2), h.nd, h.lt, h.sz, h.no, fun j p e => by
    obtain ⟨a, xs, q1, q2, q3⟩ := h.hi j p e
    exact ⟨a, xs, q1, k _ _ q2, q3⟩⟩
theorem PInv.ex {K : PySem.W.Frag} {N : Nat} {hd ol : Addr} {H H' : Hp} {o : List (Nat × Nat)} {kvs : List (List Key × V)} {as : List Addr} (h : PInv K N hd ol H o kvs as) (e : Ex H H') : PInv K N hd ol H' o kvs as := h.move (TT.ex e) (Tk.ex e) (e _ _ h.d) (e _ _ h.l)
theorem PInv.ne {K : PySem.W.Frag} {N : Nat} {hd ol : Addr} {H : Hp} {o : List (Nat × Nat)} {kvs : List (List Key × V)} {as : List Addr} (h : PInv K N hd ol H o kvs as) : hd ≠ ol := fun q => by
  have h1 := h.d
  rw [q, h.l] at h1
  cases h1
theorem PInv.add {K : PySem.W.Frag} {N : Nat} {hd ol : Addr} {H : Hp} {o : List (Nat × Nat)} {kvs : List (List Key × V)} {as : List Addr} (h : PInv K N hd ol H o kvs as) {p : Nat × Nat} {T c : Addr} {xs : List V} (hp : p ∉ o) (hlt : p.1 < N ∧ p.2 < N) (hT : H T = some (.tup (pk p))) (hc : SqT K H c xs) (hx : xs.length ≤ o.length) :
    PInv K N hd ol (upd (upd H hd (.dT (putK kvs (kk p) (.ref c)))) ol (.lst (as.map V.ref ++ [.ref T]))) (o ++ [p]) (putK kvs (kk p) (.ref c)) (as ++ [T]) := by
  have n := h.ne
  have hv := h.no p hp
  have hl1 : (upd H hd (.dT (putK kvs (kk p) (.ref c)))) ol = some (.lst (as.map V.ref)) := by rw [upd_ne n.symm]; exact h.l
  have tt : TT H (upd (upd H hd (.dT (putK kvs (kk p) (.ref c)))) ol (.lst (as.map V.ref ++ [.ref T]))) := (TT.put h.d fun _ q => nomatch q).trans (TT.put hl1 fun _ q => nomatch q)
  have tk : Tk K H (upd (upd H hd (.dT (putK kvs (kk p) (.ref c)))) ol (.lst (as.map V.ref ++ [.ref T]))) := (Tk.upd h.d (fun _ q => nomatch q) fun _ _ q => nomatch q).trans (Tk.lst hl1)
  refine ⟨by rw [upd_ne n]; exact upd_same, by rw [List.map_append]; exact upd_same, by rw [List.length_append, List.length_append, h.ln]; rfl, ?_, ?_, ?_, ?_, ?_, ?_⟩
  · intro j a q h1 h2
    by_cases cj : j < o.length
    · rw [List.getElem?_append_left (by rw [h.ln]; exact cj)] at h1
      rw [List.getElem?_append_left cj] at h2
      exact tt _ _ (h.tp j a q h1 h2)
    · have hj := (List.getElem?_eq_some_iff.mp h2).1
      rw [List.length_append, List.length_singleton] at hj
      have ej : j = o.length := by omega
      subst ej
      rw [List.getElem?_append_right (by rw [h.ln]; exact Nat.le_refl _), h.ln, Nat.sub_self] at h1
      rw [List.getElem?_append_right (Nat.le_refl _), Nat.sub_self] at h2
      obtain rfl : T = a := Option.some.inj h1
      obtain rfl : p = q := Option.some.inj h2
      exact tt _ _ hT
  · rw [List.nodup_append]
    exact ⟨h.nd, by simp, fun a ha b hb => by rw [List.mem_singleton.mp hb]; exact fun q => hp (q ▸ ha)⟩
  · intro q hq
    rcases List.mem_append.mp hq with z | z
    · exact h.lt q z
    · rw [List.mem_singleton.mp z]; exact hlt
  · rw [putK_new _ hv, List.length_append, List.length_append]
    have := h.sz
    show _ + 1 ≤ _ + 1
    omega
  · intro q hq
    rw [List.mem_append, List.mem_singleton] at hq
    rw [putK_new _ hv, valV_app, h.no q (fun z => hq (.inl z)), if_neg (fun z => hq (.inr (kk_inj z).symm))]
    rfl
  · intro j q e
    by_cases cj : j < o.length
    · rw [List.getElem?_append_left cj] at e
      obtain ⟨a, ys, q1, q2, q3⟩ := h.hi j q e
      refine ⟨a, ys, ?_, tk _ _ q2, q3⟩
      rw [putK_new _ hv, valV_app, q1]
      rfl
    · have hj := (List.getElem?_eq_some_iff.mp e).1
      rw [List.length_append, List.length_singleton] at hj
      have ej : j = o.length := by omega
      subst ej
      rw [List.getElem?_append_right (Nat.le_refl _), Nat.sub_self] at e
      obtain rfl : p = q := Option.some.inj e
      refine ⟨c, xs, ?_, tk _ _ hc, hx⟩
      rw [putK_new _ hv, valV_app, hv, if_pos rfl]
      rfl
noncomputable def alikeAt (R : Rows) (p : Nat × Nat) : Bool := PyData.eqv (showD R (settle R p.1)) (showD R (settle R p.2))
noncomputable def nextO (R : Rows) (p : Nat × Nat) (o : List (Nat × Nat)) : List (Nat × Nat) := ((nexts R p.1).zip (nexts R p.2)).foldl addNew o
theorem meet_end {R : Rows} {o : List (Nat × Nat)} {i : Nat} (h : o[i]? = none) : ∀ f, meet R f i o = true
  | 0 => rfl
  | f + 1 => by
    unfold meet
    rw [h]
theorem meet_go {R : Rows} {o : List (Nat × Nat)} {i : Nat} {p : Nat × Nat} (h : o[i]? = some p) (f : Nat) : meet R (f + 1) i o = if alikeAt R p = true then meet R f (i + 1) (nextO R p o) else false := by
  show (match o[i]? with | none => true | some p => if PyData.eqv (showD R (settle R p.1)) (showD R (settle R p.2)) = true then meet R f (i + 1) (((nexts R p.1).zip (nexts R p.2)).foldl addNew o) else false) = _
  rw [h]
  rfl
theorem shaped_show {R : Rows} (ok : ROk R) (i : Nat) : SeqAt.shaped (showD R i) = true := by
  unfold SeqAt.shaped
  rw [Bool.and_eq_true, decide_eq_true_eq]
  have := depth_show R i
  exact ⟨td_lay _ (td_show ok i), by omega⟩
theorem zip_get {a b : List Nat} {i x y : Nat} (h1 : a[i]? = some x) (h2 : b[i]? = some y) : (a.zip b)[i]? = some (x, y) := by
  rw [List.getElem?_zip_eq_some]
  exact ⟨h1, h2⟩
theorem addNew_in {o : List (Nat × Nat)} {p : Nat × Nat} (h : p ∈ o) : addNew o p = o := if_pos h
theorem addNew_out {o : List (Nat × Nat)} {p : Nat × Nat} (h : p ∉ o) : addNew o p = o ++ [p] := if_neg h
theorem fold_next {o : List (Nat × Nat)} {l : List (Nat × Nat)} {i : Nat} {p : Nat × Nat} (h : l[i]? = some p) : (l.take (i + 1)).foldl addNew o = addNew ((l.take i).foldl addNew o) p := by
  rw [take_next h, List.foldl_append]
  rfl
/-- look at the pair at place i: either both show alike and what follows is queued, or the difference is found -/
noncomputable def spMLook (K : PySem.W.Frag) (C CB : Addr) : Sp := fun vs H Q _ => ∃ (H0 : Hp) (m pr dx : Addr) (fs : List (Str × V)) (b1 b2 hd ol l1 l2 : Addr) (R : Rows) (ns : Nums) (st1 st2 : Nat) (o : List (Nat × Nat)) (kvs : List (List Key × V)) (as : List Addr) (i : Nat) (p : Nat × Nat),
  vs = [.ref m, .ref pr] ∧ Ex H0 H ∧ H0 m = none ∧ H0 hd = none ∧ H0 ol = none ∧ H m = some (.ins C dx fs) ∧ MF fs b1 b2 hd ol .non ∧ BodyAt K CB H0 b1 l1 R ns st1 ∧ BodyAt K CB H0 b2 l2 R ns st2 ∧ BOk R ns st1 ∧ BOk R ns st2 ∧ PInv K R.length hd ol H o kvs as ∧ o[i]? = some p ∧ H pr = some (.tup (pk p)) ∧
  (alikeAt R p = true → ∀ H' kvs' as', Ex H0 H' → H' m = some (.ins C dx fs) → PInv K R.length hd ol H' (nextO R p o) kvs' as' → o.length ≤ (nextO R p o).length → Q .non H') ∧
  (alikeAt R p = false → ∀ H' t, Ex H0 H' → H' m = some (.ins C dx (putF "found" (.ref t) fs)) → (∃ kvs' as', PInv K R.length hd ol H' o kvs' as') → Q .non H')
section
variable {P : Program} {w : World} {K : PySem.W.Frag} {mg : Str → Option Value} {base : Heap} {C CB : Addr}
theorem scMLook : FnScope ["self", "pair", "history", "first", "second", "answer", "later"] ["self", "pair"] (defScope sMLook) := ⟨rfl, rfl, rfl, by decide +kernel, rfl, by decide +kernel, by decide +kernel⟩
theorem cal_mlook (B : Bn mg) (T : MeetC K C) (TB : BodyC K CB) (D : Dm K C "look" "Meeting.look" sMLook) (cS : MCal P w K mg base CB 2 "show_at" (spShowAt K CB)) (cN : MCal P w K mg base CB 1 "nexts" (spNexts K CB)) : MCal P w K mg base C 3 "look" (spMLook K C CB) := by
  refine D.cal (k := 2) scMLook (fun _ _ _ _ _ _ us hl => match us, hl with | [_, _], _ => rfl) (fun vs H Q E h => by obtain ⟨_, _, _, _, _, _, _, _, _, _, _, _, _, _, _, _, _, _, _, _, rfl, _⟩ := h; rfl) fun f cdv A outer s H vs Q E hr h => ?_
  obtain ⟨H0, m, pr, dx, fs, b1, b2, hd, ol, l1, l2, R, ns, st1, st2, o, kvs, as, i, p, rfl, e0, hm0, hd0, hol0, hm, mf, hB1, hB2, ok1, ok2, I, hip, hpr, k1, k2⟩ := h
  refine ⟨_, pss_cons (ps_set (i := 2) scMLook.nd rfl (Or.inl rfl) (pe_dget (hu_of hr) (pe_fld (pv 0) rfl) (pv 1) (fun _ _ => rfl)))
    (pss_cons (ps_par (i := 3) (j := 4) rfl scMLook.nd rfl rfl (by decide) rfl rfl (pa_cons (pe_m (pe_fld (pv 0) rfl) TB.cl cS hr (Nat.le_refl _) (pa_cons (pe_ix ix_tup (pv 1) pe_int fun _ _ => rfl) pa_nil)) (pa_cons (pe_m (pe_fld (pv 0) rfl) TB.cl cS hr (Nat.le_refl _) (pa_cons (pe_ix ix_tup (pv 1) pe_int fun _ _ => rfl) pa_nil)) pa_nil)) (by rfl))
    (pss_cons (ps_if (pw_and (pt_val (pe_fld (pv 0) rfl)) (pw_and1 (pt_cmpR (op_eqD hr.units) (pv 3) (pe_tup (pa_cons pe_str pa_nil)) (by rfl)))).pt (pss_one ps_retN) pss_nil)
    (pss_cons (ps_if (pt_cmpR (op_neD hr.units) (pv 3) (pv 4) (by rfl)) (pss_cons (ps_fld (pv 0) (pe_tup (pa_cons (pv 2) (pa_cons (pv 3) (pa_cons (pv 4) pa_nil)))) rfl) (pss_one ps_retN)) pss_nil)
    (pss_one (ps_forEZ PassesOwn.never rfl (by rfl) B.enumerate (by rfl) B.zip (pa_cons (pe_m (pe_fld (pv 0) rfl) TB.cl cN hr (by decide) (pa_cons (pe_ix ix_tup (pv 1) pe_int fun _ _ => rfl) pa_nil)) (pa_cons (pe_m (pe_fld (pv 0) rfl) TB.cl cN hr (by decide) (pa_cons (pe_ix ix_tup (pv 1) pe_int fun _ _ => rfl) pa_nil)) pa_nil))
        (pg_tup rfl (pgs_cons (pg_name (i := 5) scMLook.nd rfl (Or.inl rfl)) (pgs_cons (pg_name (i := 6) scMLook.nd rfl (Or.inl rfl)) pgs_nil)))
        (pss_one (ps_if (pt_cmp (pc_dnotin (hu_of hr) (pv 6) (pe_fld (pv 0) rfl)))
          (pss_cons (ps_dput (hu_of hr) (pe_fld (pv 0) rfl) (pv 6) (pe_op op_catA (pv 2) (pe_tup (pa_cons (pe_tup (pa_cons (pe_ix ix_tup (pv 3) pe_int fun _ _ => rfl) (pa_cons (pv 5) pa_nil))) pa_nil))) rfl)
          (pss_one (ps_expr (pe_bm PySem.F.plainAttrs_list PySem.F.slot_list_append PySem.F.type_list_append mt_append (pe_fld (pv 0) rfl) (pa_cons (pv 6) pa_nil))))) pss_nil))))))), ?_⟩
  have hfew := ok1.r.few
  obtain ⟨q1, q2⟩ := I.lt p (List.mem_of_getElem? hip)
  obtain ⟨ha, hxs, hval, hhist, hhl⟩ := I.hi i p hip
  have hiL := (List.getElem?_eq_some_iff.mp hip).1
  have dg : DGet H hd (.ref pr) (some (.ref ha)) := by
    have := DGet.t (k := kk p) I.d (by rw [kk_V]; exact hpr)
    rw [hval] at this
    exact this
  refine ⟨_, rfl, m, C, dx, fs, _, rfl, hm, T.cl, T.hist, mf.hist, _, rfl, hd, _, rfl, dg, ?_⟩
  obtain ⟨dx1, fs1, od1, ra1, hb1, bf1, _⟩ := id hB1
  obtain ⟨dx2, fs2, od2, ra2, hb2, bf2, _⟩ := id hB2
  refine ⟨_, rfl, m, C, dx, fs, _, rfl, hm, T.cl, T.one, mf.one, b1, dx1, fs1, rfl, e0 _ _ hb1, mB bf1, _, rfl, pr, _, 0, _, rfl, rfl, st_of hpr, at0 rfl, b1, l1, R, ns, st1, p.1, rfl, hB1.ex ok1 e0, ok1, q1, fun v1 H1 e1 dv1 => ?_⟩
  have hm1 := e1 _ _ hm
  have e01 := e0.trans e1
  refine ⟨_, rfl, m, C, dx, fs, _, rfl, hm1, T.cl, T.other, mf.other, b2, dx2, fs2, rfl, e01 _ _ hb2, mB bf2, _, rfl, pr, _, 1, _, rfl, rfl, st_of (e1 _ _ hpr), at1 rfl, b2, l2, R, ns, st2, p.2, rfl, hB2.ex ok2 e01, ok2, q2, fun v2 H2 e2 dv2 => ?_⟩
  have e02 := e01.trans e2
  have e12 := e1.trans e2
  have hm2 := e12 _ _ hm
  have dv1' := dp_tk (Tk.ex e2) _ _ (td_show ok1.r _) dv1
  have I2 := I.ex e12
  refine ⟨_, _, rfl, ?_⟩
  refine ⟨_, rfl, m, C, dx, fs, _, rfl, hm2, T.cl, T.free, mf.free, false, rfl, ?_⟩
  refine ⟨_, rfl, _, rfl, showD R (settle R p.1), showD R (settle R p.2), dv1', dv2, shaped_show ok1.r _, shaped_show ok1.r _, _, rfl, ?_⟩
  cases hal : PyData.eqv (showD R (settle R p.1)) (showD R (settle R p.2)) with
  | false =>
    refine ⟨_, rfl, _, rfl, _, rfl, by show 3 ≤ sizeLine; decide, fun t ht => ?_⟩
    have e3 : Ex H2 (upd H2 t (.tup [.ref ha, v1, v2])) := Ex.new ht
    refine ⟨_, rfl, m, C, dx, fs, rfl, e3 _ _ hm2, T.cl, T.found, by have := mf.len; omega, ?_⟩
    have nm1 : m ≠ hd := fun q => by rw [q, I.d] at hm; cases hm
    have nm2 : m ≠ ol := fun q => by rw [q, I.l] at hm; cases hm
    refine k2 hal _ t (Ex.mut (e02.trans e3) hm0) upd_same ⟨kvs, as, (I2.ex e3).move (TT.put (e3 _ _ hm2) fun _ q => nomatch q) (Tk.ins (e3 _ _ hm2)) ?_ ?_⟩
    · rw [upd_ne nm1.symm]; exact (I2.ex e3).d
    · rw [upd_ne nm2.symm]; exact (I2.ex e3).l
  | true =>
    refine ⟨_, rfl, m, C, dx, fs, _, rfl, hm2, T.cl, T.one, mf.one, b1, dx1, fs1, rfl, e02 _ _ hb1, mB bf1, _, rfl, pr, _, 0, _, rfl, rfl, st_of (e12 _ _ hpr), at0 rfl, b1, l1, R, ns, st1, p.1, rfl, hB1.ex ok1 e02, ok1, q1, fun n1 H3 hn1 e3 hn13 => ?_⟩
    have e03 := e02.trans e3
    refine ⟨_, rfl, m, C, dx, fs, _, rfl, e3 _ _ hm2, T.cl, T.other, mf.other, b2, dx2, fs2, rfl, e03 _ _ hb2, mB bf2, _, rfl, pr, _, 1, _, rfl, rfl, st_of ((e12.trans e3) _ _ hpr), at1 rfl, b2, l2, R, ns, st2, p.2, rfl, hB2.ex ok2 e03, ok2, q2, fun n2 H4 hn2 e4 hn24 => ?_⟩
    have e04 := e03.trans e4
    have I4 := (I2.ex e3).ex e4
    have e24 := e3.trans e4
    have nn1 : n1 ≠ hd ∧ n1 ≠ ol := ⟨(fun q => by rw [q, I2.d] at hn1; cases hn1), fun q => by rw [q, I2.l] at hn1; cases hn1⟩
    have nn2 : n2 ≠ hd ∧ n2 ≠ ol := ⟨(fun q => by rw [q, (I2.ex e3).d] at hn2; cases hn2), fun q => by rw [q, (I2.ex e3).l] at hn2; cases hn2⟩
    have nmm : m ≠ hd ∧ m ≠ ol := ⟨(fun q => by rw [q, I.d] at hm; cases hm), fun q => by rw [q, I.l] at hm; cases hm⟩
    have len1 : (nV (nexts R p.1)).length = (nexts R p.1).length := by unfold nV; rw [List.length_map]
    have len2 : (nV (nexts R p.2)).length = (nexts R p.2).length := by unfold nV; rw [List.length_map]
    refine ⟨n1, n2, nV (nexts R p.1), nV (nexts R p.2), fun j σ H' => ∃ (kv' : List (List Key × V)) (as' : List Addr) (x5 x6 : Option V), σ = [some (.ref m), some (.ref pr), some (.ref ha), some v1, some v2, x5, x6] ∧ Ex H0 H' ∧ H' m = some (.ins C dx fs) ∧ PInv K R.length hd ol H' ((((nexts R p.1).zip (nexts R p.2)).take j).foldl addNew o) kv' as' ∧ o.length ≤ ((((nexts R p.1).zip (nexts R p.2)).take j).foldl addNew o).length ∧
        H' n1 = some (.lst (nV (nexts R p.1))) ∧ H' n2 = some (.lst (nV (nexts R p.2))) ∧ SqT K H' ha hxs ∧ Dp K H' v1 (showD R (settle R p.1)), rfl, ?_, ?_, ?_, ?_⟩
    · exact ⟨kvs, as, _, _, rfl, e04, e24 _ _ hm2, I4, Nat.le_refl _, e4 _ _ hn13, hn24, ex_t (e12.trans e24) hhist, dp_tk (Tk.ex e24) _ _ (td_show ok1.r _) dv1'⟩
    · rintro j σ H' _ ⟨_, _, _, _, _, _, _, _, _, h1, h2, _⟩
      exact ⟨sq_of h1, sq_of h2⟩
    · rintro j x y σ H5 T1 T2 hx hy ⟨kv5, as5, x5, x6, rfl, e5, hm5, I5, hl5, hn15, hn25, hh5, dv5⟩ hT1 hT2 nT
      unfold nV at hx hy
      rw [List.getElem?_map] at hx hy
      cases hx' : (nexts R p.1)[j]? with
      | none => rw [hx'] at hx; cases hx
      | some x' =>
      cases hy' : (nexts R p.2)[j]? with
      | none => rw [hy'] at hy; cases hy
      | some y' =>
      rw [hx'] at hx
      rw [hy'] at hy
      obtain rfl : V.int (x' : Nat) = x := Option.some.inj hx
      obtain rfl : V.int (y' : Nat) = y := Option.some.inj hy
      have hz := zip_get hx' hy'
      have hxl := nexts_lt ok1 x' (List.mem_of_getElem? hx')
      have hyl := nexts_lt ok2 y' (List.mem_of_getElem? hy')
      have eT2 : Ex H5 (upd H5 T2 (.tup [V.int (x' : Nat), .int (y' : Nat)])) := Ex.new hT2
      have hT1' : (upd H5 T2 (.tup [V.int (x' : Nat), .int (y' : Nat)])) T1 = none := by rw [upd_ne nT]; exact hT1
      have eT1 : Ex (upd H5 T2 (.tup [V.int (x' : Nat), .int (y' : Nat)])) (upd (upd H5 T2 (.tup [V.int (x' : Nat), .int (y' : Nat)])) T1 (.tup [.int (j : Nat), .ref T2])) := Ex.new hT1'
      refine ⟨T1, _, rfl, st_of upd_same, rfl, _, _, rfl, _, _, rfl, rfl, ?_⟩
      have hT26 := eT1 _ _ (upd_same : (upd H5 T2 (.tup [V.int (x' : Nat), .int (y' : Nat)])) T2 = _)
      have e56 := eT2.trans eT1
      generalize upd (upd H5 T2 (.tup [V.int (x' : Nat), .int (y' : Nat)])) T1 (.tup [.int (j : Nat), .ref T2]) = H6 at eT1 hT26 e56
      generalize upd H5 T2 (.tup [V.int (x' : Nat), .int (y' : Nat)]) = H5b at eT1 eT2
      have I6 := I5.ex e56
      have hm6 := e56 _ _ hm5
      refine ⟨_, rfl, _, rfl, m, C, dx, fs, _, rfl, hm6, T.cl, T.hist, mf.hist, hd, _, rfl, DGet.t (k := kk (x', y')) I6.d hT26, ?_⟩
      by_cases hin : (x', y') ∈ ((((nexts R p.1).zip (nexts R p.2)).take j).foldl addNew o)
      · obtain ⟨jj, hjj⟩ := List.getElem?_of_mem hin
        obtain ⟨a7, ys7, w1, _, _⟩ := I6.hi jj _ hjj
        rw [w1]
        refine ⟨false, rfl, ?_⟩
        have ef : (((nexts R p.1).zip (nexts R p.2)).take (j + 1)).foldl addNew o = ((((nexts R p.1).zip (nexts R p.2)).take j).foldl addNew o) := by
          rw [fold_next hz, addNew_in hin]
        refine ⟨⟨kv5, as5, _, _, rfl, e5.trans e56, hm6, by rw [ef]; exact I6, by rw [ef]; exact hl5, e56 _ _ hn15, e56 _ _ hn25, ex_t e56 hh5, dp_tk (Tk.ex e56) _ _ (td_show ok1.r _) dv5⟩, fun c u v q => eT1 _ _ q⟩
      · have hno := I6.no _ hin
        rw [hno]
        refine ⟨true, rfl, ?_⟩
        have ef : (((nexts R p.1).zip (nexts R p.2)).take (j + 1)).foldl addNew o = ((((nexts R p.1).zip (nexts R p.2)).take j).foldl addNew o) ++ [(x', y')] := by
          rw [fold_next hz, addNew_out hin]
        have hask : ∃ nm nx, R[settle R p.1]? = some (.ask nm nx) := by
          have hm := List.mem_of_getElem? hx'
          unfold nexts at hm
          split at hm
          · rename_i nm nx e
            exact ⟨nm, nx, e⟩
          · cases hm
        obtain ⟨nm, nx, hask⟩ := hask
        have dv6 := dp_tk (Tk.ex e56) _ _ (td_show ok1.r _) dv5
        rw [show_ask hask] at dv6
        obtain ⟨pv1, rfl, hpv1⟩ := dp_two dv6
        have hI5l := I5.le
        have hNN : R.length * R.length ≤ 49 := Nat.mul_le_mul hfew hfew
        refine ⟨_, rfl, _, rfl, pv1, _, 1, _, rfl, rfl, hpv1, at1 rfl, _, rfl, by show 2 ≤ sizeLine; decide, fun c hc => ?_⟩
        refine ⟨by show 1 ≤ sizeLine; decide, fun bb hbb => ?_⟩
        have e7 : Ex H6 (upd H6 c (.tup [.str nm, .int (j : Nat)])) := Ex.new hc
        have e8 := e7.trans (Ex.new (o := .tup [V.ref c]) hbb)
        have hh8 := ex_t (e56.trans e8) hh5
        have fin : ∀ (H9 : Hp) (cc : Addr) (zs : List V), Ex H6 H9 → SqT K H9 cc zs → zs.length ≤ ((((nexts R p.1).zip (nexts R p.2)).take j).foldl addNew o).length → DPut H9 hd (.ref T2) (.ref cc) (upd H9 hd (.dT (putK kv5 (kk (x', y')) (.ref cc)))) ∧ (upd H9 hd (.dT (putK kv5 (kk (x', y')) (.ref cc)))) m = some (.ins C dx fs) ∧ (upd H9 hd (.dT (putK kv5 (kk (x', y')) (.ref cc)))) ol = some (.lst (as5.map V.ref)) ∧ as5.length < sizeLine ∧
            (∃ (kv' : List (List Key × V)) (as' : List Addr) (x5 x6 : Option V), [some (V.ref m), some (.ref pr), some (.ref ha), some (.ref pv1), some v2, some (.int (j : Nat)), some (.ref T2)] = [some (V.ref m), some (.ref pr), some (.ref ha), some (.ref pv1), some v2, x5, x6] ∧ Ex H0 (upd (upd H9 hd (.dT (putK kv5 (kk (x', y')) (.ref cc)))) ol (.lst (as5.map V.ref ++ [.ref T2]))) ∧ (upd (upd H9 hd (.dT (putK kv5 (kk (x', y')) (.ref cc)))) ol (.lst (as5.map V.ref ++ [.ref T2]))) m = some (.ins C dx fs) ∧ PInv K R.length hd ol (upd (upd H9 hd (.dT (putK kv5 (kk (x', y')) (.ref cc)))) ol (.lst (as5.map V.ref ++ [.ref T2]))) ((((nexts R p.1).zip (nexts R p.2)).take (j + 1)).foldl addNew o) kv' as' ∧ o.length ≤ ((((nexts R p.1).zip (nexts R p.2)).take (j + 1)).foldl addNew o).length ∧
              (upd (upd H9 hd (.dT (putK kv5 (kk (x', y')) (.ref cc)))) ol (.lst (as5.map V.ref ++ [.ref T2]))) n1 = some (.lst (nV (nexts R p.1))) ∧ (upd (upd H9 hd (.dT (putK kv5 (kk (x', y')) (.ref cc)))) ol (.lst (as5.map V.ref ++ [.ref T2]))) n2 = some (.lst (nV (nexts R p.2))) ∧ SqT K (upd (upd H9 hd (.dT (putK kv5 (kk (x', y')) (.ref cc)))) ol (.lst (as5.map V.ref ++ [.ref T2]))) ha hxs ∧ Dp K (upd (upd H9 hd (.dT (putK kv5 (kk (x', y')) (.ref cc)))) ol (.lst (as5.map V.ref ++ [.ref T2]))) (.ref pv1) (showD R (settle R p.1))) ∧
            TKeep H5b (upd (upd H9 hd (.dT (putK kv5 (kk (x', y')) (.ref cc)))) ol (.lst (as5.map V.ref ++ [.ref T2]))) := fun H9 cc zs e9 hcc hz9 => by
          have I9 := I6.ex e9
          have nho := I9.ne
          have hl9 : (upd H9 hd (.dT (putK kv5 (kk (x', y')) (.ref cc)))) ol = some (.lst (as5.map V.ref)) := by rw [upd_ne nho.symm]; exact I9.l
          have tk9 : Tk K H9 (upd (upd H9 hd (.dT (putK kv5 (kk (x', y')) (.ref cc)))) ol (.lst (as5.map V.ref ++ [.ref T2]))) := (Tk.upd I9.d (fun _ q => nomatch q) fun _ _ q => nomatch q).trans (Tk.lst hl9)
          have tt9 : TT H9 (upd (upd H9 hd (.dT (putK kv5 (kk (x', y')) (.ref cc)))) ol (.lst (as5.map V.ref ++ [.ref T2]))) := (TT.put I9.d fun _ q => nomatch q).trans (TT.put hl9 fun _ q => nomatch q)
          have hsz := I9.sz
          have hln := I9.ln
          refine ⟨DPut.t (k := kk (x', y')) I9.d (e9 _ _ hT26) (sz_lt (by omega)), by rw [upd_ne nmm.1]; exact e9 _ _ hm6, hl9, sz_lt (by omega), ⟨_, _, _, _, rfl, Ex.mut (Ex.mut ((e5.trans e56).trans e9) hd0) hol0, by rw [upd_ne nmm.2, upd_ne nmm.1]; exact e9 _ _ hm6, by rw [ef]; exact I9.add hin ⟨hxl, hyl⟩ (e9 _ _ hT26) hcc hz9, by rw [ef, List.length_append]; omega, ?_, ?_, tk9 _ _ (ex_t (e56.trans e9) hh5), ?_⟩, fun c' u v q => tt9 _ _ (e9 _ _ (eT1 _ _ q))⟩
          · rw [upd_ne nn1.2, upd_ne nn1.1]; exact e9 _ _ (e56 _ _ hn15)
          · rw [upd_ne nn2.2, upd_ne nn2.1]; exact e9 _ _ (e56 _ _ hn25)
          · exact dp_tk tk9 _ _ (td_show ok1.r _) (dp_tk (Tk.ex (e56.trans e9)) _ _ (td_show ok1.r _) dv5)
        refine ⟨ha, bb, hxs, [.ref c], rfl, rfl, hh8, st_of upd_same, sz_of (by show hxs.length + 1 ≤ _; omega), fun e => ?_, (fun _ e => by cases e), fun _ _ pp hpp => ?_⟩
        · subst e
          obtain ⟨g1, g2, g3, g4, g5, g6⟩ := fin _ bb [.ref c] e8 (st_of upd_same) (by show 1 ≤ _; omega)
          exact ⟨_, rfl, m, C, dx, fs, _, rfl, e8 _ _ hm6, T.cl, T.hist, mf.hist, _, rfl, hd, _, rfl, g1, _, rfl, m, C, dx, fs, _, rfl, g2, T.cl, T.order, mf.order, .inl ⟨rfl, _, sq_of g3⟩, _, rfl, ol, _, _, rfl, rfl, g3, by rw [List.length_map]; exact g4, g5, g6⟩
        · obtain ⟨g1, g2, g3, g4, g5, g6⟩ := fin _ pp (hxs ++ [.ref c]) (e8.trans (Ex.new hpp)) (st_of upd_same) (by rw [List.length_append]; show _ + 1 ≤ _; omega)
          exact ⟨_, rfl, m, C, dx, fs, _, rfl, (e8.trans (Ex.new hpp)) _ _ hm6, T.cl, T.hist, mf.hist, _, rfl, hd, _, rfl, g1, _, rfl, m, C, dx, fs, _, rfl, g2, T.cl, T.order, mf.order, .inl ⟨rfl, _, sq_of g3⟩, _, rfl, ol, _, _, rfl, rfl, g3, by rw [List.length_map]; exact g4, g5, g6⟩
    · rintro σ H5 ⟨kv5, as5, x5, x6, rfl, e5, hm5, I5, hl5, _⟩
      have hz : ((nexts R p.1).zip (nexts R p.2)).take (min (nV (nexts R p.1)).length (nV (nexts R p.2)).length) = (nexts R p.1).zip (nexts R p.2) := by
        rw [len1, len2, ← List.length_zip, List.take_length]
      rw [hz] at I5 hl5
      exact k1 hal H5 kv5 as5 e5 hm5 I5 hl5
end
end Ask

namespace Ask
open PySem PySem.Spec PyProof.Rows L2 Evl

noncomputable def mres (R : Rows) (p : Nat × Nat) : Bool := meet R (R.length * R.length + 1) 0 [p]
/-- what is found: nothing, or a difference -/
def Fnd (R : Rows) (p : Nat × Nat) (v : V) : Prop := (mres R p = true ∧ v = .non) ∨ (mres R p = false ∧ ∃ t, v = .ref t)
def mF1 (b1 : Addr) : List (Str × V) := putF "one" (.ref b1) []
def mF2 (b1 b2 : Addr) : List (Str × V) := putF "other" (.ref b2) (mF1 b1)
def mF3 (b1 b2 : Addr) : List (Str × V) := putF "is_free" (.bl false) (mF2 b1 b2)
def mF4 (b1 b2 hd : Addr) : List (Str × V) := putF "histories" (.ref hd) (mF3 b1 b2)
def mF5 (b1 b2 hd ol : Addr) : List (Str × V) := putF "order" (.ref ol) (mF4 b1 b2 hd)
def mF6 (b1 b2 hd ol : Addr) : List (Str × V) := putF "found" .non (mF5 b1 b2 hd ol)
theorem mF_len (b1 b2 hd ol : Addr) : (mF1 b1).length ≤ 1 ∧ (mF2 b1 b2).length ≤ 2 ∧ (mF3 b1 b2).length ≤ 3 ∧ (mF4 b1 b2 hd).length ≤ 4 ∧ (mF5 b1 b2 hd ol).length ≤ 5 ∧ (mF6 b1 b2 hd ol).length ≤ 6 := by
  have h1 : (mF1 b1).length ≤ 0 + 1 := putF_len _ _ _
  have h2 : (mF2 b1 b2).length ≤ (mF1 b1).length + 1 := putF_len _ _ _
  have h3 : (mF3 b1 b2).length ≤ (mF2 b1 b2).length + 1 := putF_len _ _ _
  have h4 : (mF4 b1 b2 hd).length ≤ (mF3 b1 b2).length + 1 := putF_len _ _ _
  have h5 : (mF5 b1 b2 hd ol).length ≤ (mF4 b1 b2 hd).length + 1 := putF_len _ _ _
  have h6 : (mF6 b1 b2 hd ol).length ≤ (mF5 b1 b2 hd ol).length + 1 := putF_len _ _ _
  omega
theorem mF6_ok (b1 b2 hd ol : Addr) : MF (mF6 b1 b2 hd ol) b1 b2 hd ol .non := by
  refine ⟨?_, ?_, ?_, ?_, ?_, put_in, ?_, (mF_len b1 b2 hd ol).2.2.2.2.2⟩
  · exact (put_out (by decide +kernel)).trans ((put_out (by decide +kernel)).trans ((put_out (by decide +kernel)).trans ((put_out (by decide +kernel)).trans ((put_out (by decide +kernel)).trans put_in))))
  · exact (put_out (by decide +kernel)).trans ((put_out (by decide +kernel)).trans ((put_out (by decide +kernel)).trans ((put_out (by decide +kernel)).trans put_in)))
  · exact (put_out (by decide +kernel)).trans ((put_out (by decide +kernel)).trans ((put_out (by decide +kernel)).trans put_in))
  · exact (put_out (by decide +kernel)).trans ((put_out (by decide +kernel)).trans put_in)
  · exact (put_out (by decide +kernel)).trans put_in
  · exact (put_out (by decide +kernel)).trans ((put_out (by decide +kernel)).trans ((put_out (by decide +kernel)).trans ((put_out (by decide +kernel)).trans ((put_out (by decide +kernel)).trans (put_out (by decide +kernel))))))
noncomputable def spMInit (K : PySem.W.Frag) (C CB : Addr) : Sp := fun vs H Q _ => ∃ (H0 : Hp) (m pr dx b1 b2 l1 l2 : Addr) (R : Rows) (ns : Nums) (st1 st2 : Nat) (p : Nat × Nat),
  vs = [.ref m, .ref b1, .ref b2, .ref pr, .bl false] ∧ Ex H0 H ∧ H0 m = none ∧ H m = some (.ins C dx []) ∧ BodyAt K CB H0 b1 l1 R ns st1 ∧ BodyAt K CB H0 b2 l2 R ns st2 ∧ BOk R ns st1 ∧ BOk R ns st2 ∧ H0 pr = some (.tup (pk p)) ∧ p.1 < R.length ∧ p.2 < R.length ∧
  ∀ H' fs fv, Ex H0 H' → H' m = some (.ins C dx fs) → fs.lookup ("found" : Str) = some fv → Fnd R p fv → Q .non H'
def DMInit (K : PySem.W.Frag) (C : Addr) : Prop := ∃ fI fdI, FunD K "__init__" "Meeting.__init__" (defArgs sMInit) (defBody sMInit) (defScope sMInit) [] [] fI fdI ∧ Mk K C fI
def MMake (P : Program) (w : World) (K : PySem.W.Frag) (mg : Str → Option Value) (base : Heap) (C CB : Addr) (k : Nat) : Prop :=
  ∃ (fI : Addr) (fdI : FuncData) (ps : List Str), FnOk P w K mg base CX0 k fI fdI ps (spMInit K C CB) ∧ Mk K C fI ∧ mg "Meeting" = some (.ref C) ∧ Binds K fdI ps []
section
variable {P : Program} {w : World} {K : PySem.W.Frag} {mg : Str → Option Value} {base : Heap} {C CB : Addr}
theorem scMInit : FnScope ["self", "one", "other", "first", "is_free", "at"] ["self", "one", "other", "first", "is_free"] (defScope sMInit) := ⟨rfl, rfl, rfl, by decide +kernel, rfl, by decide +kernel, by decide +kernel⟩
theorem mmake (B : Bn mg) (T : MeetC K C) (TB : BodyC K CB) (D : DMInit K C) (gM : mg "Meeting" = some (.ref C)) (cL : MCal P w K mg base C 3 "look" (spMLook K C CB)) : MMake P w K mg base C CB 4 := by
  obtain ⟨fI, fdI, F, M⟩ := D
  refine ⟨fI, fdI, ["self", "one", "other", "first", "is_free"], F.ok scMInit (fun vs H Q E h => by obtain ⟨_, _, _, _, _, _, _, _, _, _, _, _, _, rfl, _⟩ := h; rfl) (fun cdv A outer s H vs Q E hr h => ?_), M, gM, FunD.bindsN F (fun _ _ _ _ _ _ us hl => match us, hl with | [_, _, _, _, _], _ => rfl)⟩
  suffices hx : ∃ t, PSs (cxOf CX0 P w K mg base ["self", "one", "other", "first", "is_free", "at"] "Meeting.__init__" (defScope sMInit) fI cdv A outer s H E).nox (defBody sMInit) t ∧ t { nx := fun _ H' => Q .non H', rt := Q } (start ["self", "one", "other", "first", "is_free", "at"] vs) H by
    obtain ⟨t, h1, h2⟩ := hx
    exact ⟨t, h1.nox, h2⟩
  obtain ⟨H0, m, pr, dx, b1, b2, l1, l2, R, ns, st1, st2, p, rfl, e0, hm0, hm, hB1, hB2, ok1, ok2, hpr, hp1, hp2, k⟩ := h
  refine ⟨_, pss_cons (ps_fld (pv 0) (pv 1) rfl) (pss_cons (ps_fld (pv 0) (pv 2) rfl) (pss_cons (ps_fld (pv 0) (pv 4) rfl) (pss_cons (ps_fld (pv 0) (pe_disp1 (hu_of hr) (pv 3) (pe_tup pa_nil)) rfl)
    (pss_cons (ps_fld (pv 0) (pe_lst (pa_cons (pv 3) pa_nil)) rfl) (pss_cons (ps_fld (pv 0) pe_non rfl) (pss_cons (ps_set (i := 5) scMInit.nd rfl (Or.inl rfl) pe_int)
    (pss_one (ps_while PassesOwn.never (pw_and (pt_cmpR op_lt (pv 5) (pe_callB call_len_seq (by rfl) B.len PySem.boot_len (pa_cons (pe_fld (pv 0) rfl) pa_nil)) (by rfl)) (pw_and1 (pt_cmpR op_isN (pe_fld (pv 0) rfl) pe_non (by rfl)))).pt
      (pss_cons (ps_expr (pe_m (pv 0) T.cl cL hr (Nat.le_refl _) (pa_cons (pe_ix ix_list (pe_fld (pv 0) rfl) (pv 5) fun _ _ => rfl) pa_nil)))
      (pss_one (ps_set (i := 5) scMInit.nd rfl (Or.inl rfl) (pe_op op_add (pv 5) pe_int)))))))))))), ?_⟩
  have put : ∀ {Hc : Hp} {o : HO}, Ex H0 Hc → Ex H0 (upd Hc m o) := fun e => Ex.mut e hm0
  refine ⟨_, rfl, _, rfl, m, C, dx, [], rfl, hm, T.cl, T.one, by decide, ?_⟩
  refine ⟨_, rfl, _, rfl, m, C, dx, mF1 b1, rfl, upd_same, T.cl, T.other, by have := mF_len b1 b2 b1 b1; omega, ?_⟩
  refine ⟨_, rfl, _, rfl, m, C, dx, mF2 b1 b2, rfl, upd_same, T.cl, T.free, by have := mF_len b1 b2 b1 b1; omega, ?_⟩
  have e3 : Ex H0 (upd (upd (upd H m (.ins C dx (mF1 b1))) m (.ins C dx (mF2 b1 b2))) m (.ins C dx (mF3 b1 b2))) := put (put (put e0))
  have hm3 : (upd (upd (upd H m (.ins C dx (mF1 b1))) m (.ins C dx (mF2 b1 b2))) m (.ins C dx (mF3 b1 b2))) m = some (.ins C dx (mF3 b1 b2)) := upd_same
  show (tSeq _ _ : TS) _ _ (upd (upd (upd H m (.ins C dx (mF1 b1))) m (.ins C dx (mF2 b1 b2))) m (.ins C dx (mF3 b1 b2)))
  generalize upd (upd (upd H m (.ins C dx (mF1 b1))) m (.ins C dx (mF2 b1 b2))) m (.ins C dx (mF3 b1 b2)) = H3 at e3 hm3
  intro hd hhd
  have nhm : hd ≠ m := fun q => by rw [q, hm3] at hhd; cases hhd
  have hhd0 := fresh_back e3 hhd
  refine ⟨_, rfl, Nat.zero_le _, fun q hq => ?_⟩
  have nqd : q ≠ hd := fun z => by rw [z, upd_same] at hq; cases hq
  have ea : Ex H3 (upd H3 hd (.dT [])) := Ex.new hhd
  have eb : Ex (upd H3 hd (.dT [])) (upd (upd H3 hd (.dT [])) q (.tup [])) := Ex.new hq
  refine ⟨pr, kk p, rfl, eb _ _ (ea _ _ (e3 _ _ hpr)), eb _ _ upd_same, ?_⟩
  have nqm : q ≠ m := fun z => by rw [z, ea _ _ hm3] at hq; cases hq
  have hm4 : (upd (upd (upd H3 hd (.dT [])) q (.tup [])) hd (.dT [(kk p, .ref q)])) m = some (.ins C dx (mF3 b1 b2)) := by rw [upd_ne nhm.symm]; exact eb _ _ (ea _ _ hm3)
  refine ⟨_, rfl, m, C, dx, mF3 b1 b2, rfl, hm4, T.cl, T.hist, by have := mF_len b1 b2 b1 b1; omega, ?_⟩
  have e4 : Ex H0 (upd (upd (upd (upd H3 hd (.dT [])) q (.tup [])) hd (.dT [(kk p, .ref q)])) m (.ins C dx (mF4 b1 b2 hd))) := put (Ex.mut ((e3.trans ea).trans eb) hhd0)
  have hm4' : (upd (upd (upd (upd H3 hd (.dT [])) q (.tup [])) hd (.dT [(kk p, .ref q)])) m (.ins C dx (mF4 b1 b2 hd))) m = some (.ins C dx (mF4 b1 b2 hd)) := upd_same
  have hd4 : (upd (upd (upd (upd H3 hd (.dT [])) q (.tup [])) hd (.dT [(kk p, .ref q)])) m (.ins C dx (mF4 b1 b2 hd))) hd = some (.dT [(kk p, .ref q)]) := by rw [upd_ne nhm]; exact upd_same
  have hq4 : (upd (upd (upd (upd H3 hd (.dT [])) q (.tup [])) hd (.dT [(kk p, .ref q)])) m (.ins C dx (mF4 b1 b2 hd))) q = some (.tup []) := by rw [upd_ne nqm, upd_ne nqd]; exact upd_same
  show (tSeq _ _ : TS) _ _ (upd (upd (upd (upd H3 hd (.dT [])) q (.tup [])) hd (.dT [(kk p, .ref q)])) m (.ins C dx (mF4 b1 b2 hd)))
  generalize upd (upd (upd (upd H3 hd (.dT [])) q (.tup [])) hd (.dT [(kk p, .ref q)])) m (.ins C dx (mF4 b1 b2 hd)) = H4 at e4 hm4' hd4 hq4
  refine ⟨_, rfl, by show 1 ≤ sizeLine; decide, fun ol hol => ?_⟩
  have nom : ol ≠ m := fun z => by rw [z, hm4'] at hol; cases hol
  have nod : ol ≠ hd := fun z => by rw [z, hd4] at hol; cases hol
  have hol0 := fresh_back e4 hol
  have ec : Ex H4 (upd H4 ol (.lst [V.ref pr])) := Ex.new hol
  refine ⟨_, rfl, m, C, dx, mF4 b1 b2 hd, rfl, ec _ _ hm4', T.cl, T.order, by have := mF_len b1 b2 hd b1; omega, ?_⟩
  refine ⟨_, rfl, m, C, dx, mF5 b1 b2 hd ol, rfl, upd_same, T.cl, T.found, by have := mF_len b1 b2 hd ol; omega, ?_⟩
  have e5 : Ex H0 (upd (upd (upd H4 ol (.lst [V.ref pr])) m (.ins C dx (mF5 b1 b2 hd ol))) m (.ins C dx (mF6 b1 b2 hd ol))) := put (put (e4.trans ec))
  have hm5 : (upd (upd (upd H4 ol (.lst [V.ref pr])) m (.ins C dx (mF5 b1 b2 hd ol))) m (.ins C dx (mF6 b1 b2 hd ol))) m = some (.ins C dx (mF6 b1 b2 hd ol)) := upd_same
  have hd5 : (upd (upd (upd H4 ol (.lst [V.ref pr])) m (.ins C dx (mF5 b1 b2 hd ol))) m (.ins C dx (mF6 b1 b2 hd ol))) hd = some (.dT [(kk p, .ref q)]) := by rw [upd_ne nhm, upd_ne nhm]; exact ec _ _ hd4
  have ho5 : (upd (upd (upd H4 ol (.lst [V.ref pr])) m (.ins C dx (mF5 b1 b2 hd ol))) m (.ins C dx (mF6 b1 b2 hd ol))) ol = some (.lst [V.ref pr]) := by rw [upd_ne nom, upd_ne nom]; exact upd_same
  have hq5 : (upd (upd (upd H4 ol (.lst [V.ref pr])) m (.ins C dx (mF5 b1 b2 hd ol))) m (.ins C dx (mF6 b1 b2 hd ol))) q = some (.tup []) := by rw [upd_ne nqm, upd_ne nqm]; exact ec _ _ hq4
  show (tSeq _ _ : TS) _ _ (upd (upd (upd H4 ol (.lst [V.ref pr])) m (.ins C dx (mF5 b1 b2 hd ol))) m (.ins C dx (mF6 b1 b2 hd ol)))
  generalize upd (upd (upd H4 ol (.lst [V.ref pr])) m (.ins C dx (mF5 b1 b2 hd ol))) m (.ins C dx (mF6 b1 b2 hd ol)) = H5 at e5 hm5 hd5 ho5 hq5
  have I5 : PInv K R.length hd ol H5 [p] [(kk p, .ref q)] [pr] := by
    refine ⟨hd5, ho5, rfl, ?_, by simp, ?_, Nat.le_refl _, ?_, ?_⟩
    · intro j a z h1 h2
      have hj := (List.getElem?_eq_some_iff.mp h2).1
      obtain rfl : j = 0 := by simpa using hj
      obtain rfl : pr = a := Option.some.inj h1
      obtain rfl : p = z := Option.some.inj h2
      exact e5 _ _ hpr
    · intro z hz
      rw [List.mem_singleton.mp hz]
      exact ⟨hp1, hp2⟩
    · intro z hz
      rw [List.mem_singleton] at hz
      unfold valV
      rw [List.find?_cons, decide_eq_false (fun y => hz (kk_inj y).symm)]
      rfl
    · intro j z h2
      have hj := (List.getElem?_eq_some_iff.mp h2).1
      obtain rfl : j = 0 := by simpa using hj
      obtain rfl : p = z := Option.some.inj h2
      refine ⟨q, [], ?_, st_of hq5, Nat.le_refl _⟩
      unfold valV
      rw [List.find?_cons, decide_eq_true rfl]
      rfl
  refine ⟨fun mm σ H' => ∃ (at_ : Nat) (fs : List (Str × V)), σ = [some (.ref m), some (.ref b1), some (.ref b2), some (.ref pr), some (.bl false), some (.int (at_ : Nat))] ∧ Ex H0 H' ∧ H' m = some (.ins C dx fs) ∧
      ((∃ o kvs as f, MF fs b1 b2 hd ol .non ∧ PInv K R.length hd ol H' o kvs as ∧ at_ ≤ o.length ∧ f + at_ = R.length * R.length + 1 ∧ mres R p = meet R f at_ o ∧ mm = R.length * R.length + 2 - at_) ∨
       (∃ t xs, fs.lookup ("found" : Str) = some (.ref t) ∧ fs.lookup ("order" : Str) = some (.ref ol) ∧ H' ol = some (.lst xs) ∧ mres R p = false ∧ mm = 0)),
    ⟨R.length * R.length + 2, 0, _, rfl, e5, hm5, .inl ⟨[p], _, _, R.length * R.length + 1, mF6_ok _ _ _ _, I5, Nat.zero_le _, rfl, rfl, rfl⟩⟩, ?_⟩
  rintro mm σ H6 ⟨at_, fs, rfl, e6, hm6, h⟩
  rcases h with ⟨o, kvs, as, f, mf, I, hle, hf, hres, rfl⟩ | ⟨t, xs, hfo, hor, hxs, hres, rfl⟩
  · have hole := I.le
    refine ⟨_, rfl, _, rfl, m, C, dx, fs, _, rfl, hm6, T.cl, T.order, mf.order, ol, _, rfl, .inl (sq_of I.l), _, _, rfl, rfl, _, rfl, ?_⟩
    rw [List.length_map, I.ln]
    by_cases c : (at_ : Int) < (o.length : Nat)
    · rw [decide_eq_true c]
      have hat : at_ < o.length := by omega
      refine ⟨_, rfl, m, C, dx, fs, _, rfl, hm6, T.cl, T.found, mf.found, rfl, true, bl_true rfl, ?_⟩
      refine ⟨fun σ H' => ∃ m', m' < R.length * R.length + 2 - at_ ∧ ∃ (at_ : Nat) (fs : List (Str × V)), σ = [some (.ref m), some (.ref b1), some (.ref b2), some (.ref pr), some (.bl false), some (.int (at_ : Nat))] ∧ Ex H0 H' ∧ H' m = some (.ins C dx fs) ∧
        ((∃ o kvs as f, MF fs b1 b2 hd ol .non ∧ PInv K R.length hd ol H' o kvs as ∧ at_ ≤ o.length ∧ f + at_ = R.length * R.length + 1 ∧ mres R p = meet R f at_ o ∧ m' = R.length * R.length + 2 - at_) ∨
         (∃ t xs, fs.lookup ("found" : Str) = some (.ref t) ∧ fs.lookup ("order" : Str) = some (.ref ol) ∧ H' ol = some (.lst xs) ∧ mres R p = false ∧ m' = 0)), fun σ H' h => h, ?_⟩
      have hatA : at_ < as.length := by rw [I.ln]; exact hat
      have ga := List.getElem?_eq_getElem hatA
      have go := List.getElem?_eq_getElem hat
      have hpa := I.tp at_ _ _ ga go
      obtain ⟨f, rfl⟩ : ∃ g, f = g + 1 := ⟨f - 1, by omega⟩
      rw [meet_go go] at hres
      refine ⟨_, rfl, m, dx, fs, rfl, hm6, mf.look, _, rfl, m, C, dx, fs, _, rfl, hm6, T.cl, T.order, mf.order, _, rfl, ol, _, _, _, rfl, rfl, sq_of I.l, atI_nat (by rw [List.getElem?_map, ga]; rfl), ?_⟩
      refine ⟨H0, m, as[at_], dx, fs, b1, b2, hd, ol, l1, l2, R, ns, st1, st2, o, kvs, as, at_, o[at_], rfl, e6, hm0, hhd0, hol0, hm6, mf, hB1, hB2, ok1, ok2, I, go, hpa, fun hal H7 kvs' as' e7 hm7 I7 hl7 => ?_, fun hal H7 t e7 hm7 hI7 => ?_⟩
      · rw [hal, if_pos rfl] at hres
        refine ⟨_, rfl, _, _, rfl, rfl, ?_⟩
        exact ⟨R.length * R.length + 2 - (at_ + 1), by omega, at_ + 1, fs, rfl, e7, hm7, .inl ⟨_, kvs', as', f, mf, I7, by omega, by omega, hres, rfl⟩⟩
      · rw [hal, if_neg Bool.false_ne_true] at hres
        refine ⟨_, rfl, _, _, rfl, rfl, ?_⟩
        obtain ⟨kvs', as', I7⟩ := hI7
        exact ⟨0, by omega, at_ + 1, _, rfl, e7, hm7, .inr ⟨t, _, put_in, (put_out (by decide +kernel)).trans mf.order, I7.l, hres, rfl⟩⟩
    · rw [decide_eq_false c]
      have hnone : o[at_]? = none := List.getElem?_eq_none (by omega)
      rw [meet_end hnone] at hres
      exact k H6 fs .non e6 hm6 mf.found (.inl ⟨hres, rfl⟩)
  · refine ⟨_, rfl, _, rfl, m, C, dx, fs, _, rfl, hm6, T.cl, T.order, hor, ol, _, rfl, .inl (sq_of hxs), _, _, rfl, rfl, _, rfl, ?_⟩
    by_cases c : (at_ : Int) < (xs.length : Nat)
    · rw [decide_eq_true c]
      refine ⟨_, rfl, m, C, dx, fs, _, rfl, hm6, T.cl, T.found, hfo, rfl, false, bl_false (fun z => nomatch z), ?_⟩
      exact k H6 fs _ e6 hm6 hfo (.inr ⟨hres, t, rfl⟩)
    · rw [decide_eq_false c]
      exact k H6 fs _ e6 hm6 hfo (.inr ⟨hres, t, rfl⟩)
end
section
variable {X : Cx} {C CB : Addr} {k j : Nat} {p pos : Pos} {e : Expr} {es : List Expr} {t : TA}
theorem pe_meetC (M : MMake X.prog X.w X.K X.mg X.base C CB k) (hr : Room (j + 1) X.A) (hk : k ≤ j) (hg : Gl X "Meeting") (ha : PA X (e :: es) t)
    (he : starEach (e :: es) X.env = (false, eval e X.env) :: starEach es X.env := by rfl) (hpl : (backTo pos (starEach es X.env)).any (·.1) = false := by rfl) :
    PE X (.Call (.Name "Meeting" p) (e :: es) [] pos) (tMake C (spMInit X.K C CB) [] E0 t) := by
  obtain ⟨fI, fdI, ps, F, M, hm, b0⟩ := M
  exact pe_make M F (hr.mono (Nat.succ_le_succ hk)) hg hm b0 .nil pass0 ha (by decide) he hpl
end
end Ask

namespace Ask
open PySem PySem.Spec PyProof.Rows L2 Evl

abbrev sMet : Stmt := topS 35
abbrev sPartedF : Stmt := topS 36
abbrev sParted : Stmt := topS 37
abbrev sBehind : Stmt := topS 39
noncomputable def spPartedF (K : PySem.W.Frag) (CB : Addr) : Sp := fun vs H Q _ => ∃ (b1 b2 l1 l2 : Addr) (R : Rows) (ns : Nums) (st1 st2 x y : Nat), vs = [.ref b1, .int (x : Nat), .ref b2, .int (y : Nat)] ∧ BodyAt K CB H b1 l1 R ns st1 ∧ BodyAt K CB H b2 l2 R ns st2 ∧ BOk R ns st1 ∧ BOk R ns st2 ∧ x < R.length ∧ y < R.length ∧
  ∀ v H', Ex H H' → Fnd R (x, y) v → Q v H'
noncomputable def spMet (K : PySem.W.Frag) (C CB : Addr) : Sp := fun vs H Q _ => ∃ (b1 b2 l1 l2 : Addr) (R : Rows) (ns : Nums) (st1 st2 : Nat), vs = [.ref b1, .ref b2, .bl false] ∧ BodyAt K CB H b1 l1 R ns st1 ∧ BodyAt K CB H b2 l2 R ns st2 ∧ BOk R ns st1 ∧ BOk R ns st2 ∧
  ∀ m dx fs fv H', Ex H H' → H' m = some (.ins C dx fs) → fs.lookup ("found" : Str) = some fv → Fnd R (settle R st1, settle R st2) fv → Q (.ref m) H'
noncomputable def spParted (K : PySem.W.Frag) (CB : Addr) : Sp := fun vs H Q _ => ∃ (b1 b2 l1 l2 : Addr) (R : Rows) (ns : Nums) (st1 st2 : Nat), vs = [.ref b1, .ref b2] ∧ BodyAt K CB H b1 l1 R ns st1 ∧ BodyAt K CB H b2 l2 R ns st2 ∧ BOk R ns st1 ∧ BOk R ns st2 ∧
  ∀ v H', Ex H H' → Fnd R (settle R st1, settle R st2) v → Q v H'
noncomputable def spBehind (K : PySem.W.Frag) (CB : Addr) : Sp := fun vs H Q _ => ∃ (b la : Addr) (R : Rows) (ns : Nums) (st x k one : Nat) (nm : Str) (nx : List Nat), vs = [.ref b, .int (x : Nat), .int (k : Nat)] ∧ BodyAt K CB H b la R ns st ∧ BOk R ns st ∧ R[x]? = some (.ask nm nx) ∧ nx[k]? = some one ∧ RetV (.int (settle R one : Nat)) H Q
/-- a meeting is made in the heap H1 -/
theorem meet_made {K : PySem.W.Frag} {C CB x dx b1 b2 l1 l2 pr : Addr} {H1 : Hp} {R : Rows} {ns : Nums} {st1 st2 : Nat} {p : Nat × Nat} {RR : Hp → Prop} {E : XK} (hx : H1 x = none) (hdx : H1 dx = none) (hn : dx ≠ x) (hB1 : BodyAt K CB H1 b1 l1 R ns st1) (hB2 : BodyAt K CB H1 b2 l2 R ns st2) (ok1 : BOk R ns st1) (ok2 : BOk R ns st2)
    (hpr : H1 pr = some (.tup (pk p))) (h1 : p.1 < R.length) (h2 : p.2 < R.length) (k : ∀ H' dx fs fv, Ex H1 H' → H' x = some (.ins C dx fs) → fs.lookup ("found" : Str) = some fv → Fnd R p fv → RR H') :
    spMInit K C CB [.ref x, .ref b1, .ref b2, .ref pr, .bl false] (upd (upd H1 dx (.own x)) x (.ins C dx [])) (fun v H2 => v = .non ∧ RR H2) E := by
  have e1 : Ex H1 (upd H1 dx (.own x)) := Ex.new hdx
  have hx1 : (upd H1 dx (.own x)) x = none := by rw [upd_ne hn.symm]; exact hx
  exact ⟨H1, x, pr, dx, b1, b2, l1, l2, R, ns, st1, st2, p, rfl, e1.trans (Ex.new hx1), hx, upd_same, hB1, hB2, ok1, ok2, hpr, h1, h2, fun H' fs fv e hm hf hF => ⟨rfl, k H' dx fs fv e hm hf hF⟩⟩
section
variable {P : Program} {w : World} {K : PySem.W.Frag} {mg : Str → Option Value} {base : Heap} {C CB : Addr}
theorem scPartedF : FnScope ["one", "first", "other", "second"] ["one", "first", "other", "second"] (defScope sPartedF) := ⟨rfl, rfl, rfl, by decide +kernel, rfl, by decide +kernel, by decide +kernel⟩
theorem cal_partedF (T : MeetC K C) (D : Dh K mg "parted_from" sPartedF) (M : MMake P w K mg base C CB 4) : Cal P w K mg base 6 "parted_from" (spPartedF K CB) := by
  refine D.cal (k := 5) scPartedF (fun _ _ _ _ _ _ us hl => match us, hl with | [_, _, _, _], _ => rfl) (fun vs H Q E h => by obtain ⟨_, _, _, _, _, _, _, _, _, _, rfl, _⟩ := h; rfl) fun f cdv A outer s H vs Q E hr h => ?_
  obtain ⟨b1, b2, l1, l2, R, ns, st1, st2, x, y, rfl, hB1, hB2, ok1, ok2, hx, hy, k⟩ := h
  refine ⟨_, pss_one (ps_ret (pe_fld (pe_meetC M hr (Nat.le_refl _) (by rfl) (pa_cons (pv 0) (pa_cons (pv 2) (pa_cons (pe_tup (pa_cons (pv 1) (pa_cons (pv 3) pa_nil))) (pa_cons pe_bl pa_nil))))) rfl)), ?_⟩
  refine ⟨_, rfl, _, rfl, _, rfl, _, rfl, by show 2 ≤ sizeLine; decide, fun pr hpr => ?_⟩
  have e1 : Ex H (upd H pr (.tup [.int (x : Nat), .int (y : Nat)])) := Ex.new hpr
  intro m dx hm hdx hn
  refine meet_made (p := (x, y)) hm hdx hn (hB1.ex ok1 e1) (hB2.ex ok2 e1) ok1 ok2 upd_same hx hy fun H' dx fs fv e hm' hf hF => ?_
  exact ⟨m, C, dx, fs, fv, rfl, hm', T.cl, T.found, hf, k fv H' (e1.trans e) hF⟩
theorem scMet : FnScope ["one", "other", "is_free"] ["one", "other", "is_free"] (defScope sMet) := ⟨rfl, rfl, rfl, by decide +kernel, rfl, by decide +kernel, by decide +kernel⟩
theorem cal_met (TB : BodyC K CB) (D : Dh K mg "met_from_starts" sMet) (M : MMake P w K mg base C CB 4) (cM : Cal P w K mg base 2 "look_match" (spUnlike K)) (cB : MCal P w K mg base CB 1 "begin" (spBegin K CB)) : Cal P w K mg base 6 "met_from_starts" (spMet K C CB) := by
  refine D.cal (k := 5) scMet (fun _ _ _ _ _ _ us hl => match us, hl with | [_, _, _], _ => rfl) (fun vs H Q E h => by obtain ⟨_, _, _, _, _, _, _, _, rfl, _⟩ := h; rfl) fun f cdv A outer s H vs Q E hr h => ?_
  obtain ⟨b1, b2, l1, l2, R, ns, st1, st2, rfl, hB1, hB2, ok1, ok2, k⟩ := h
  refine ⟨_, pss_cons (ps_expr (pe_f cM hr (by decide) (by rfl) (pa_cons (pe_lst (pa_cons (pe_fld (pv 0) rfl) (pa_cons (pe_fld (pv 1) rfl) pa_nil))) pa_nil)))
    (pss_one (ps_ret (pe_meetC M hr (Nat.le_refl _) (by rfl) (pa_cons (pv 0) (pa_cons (pv 1) (pa_cons (pe_tup (pa_cons (pe_m0 (pv 0) TB.cl cB hr (by decide)) (pa_cons (pe_m0 (pv 1) TB.cl cB hr (by decide)) pa_nil))) (pa_cons (pv 2) pa_nil))))))), ?_⟩
  obtain ⟨dx1, fs1, od1, ra1, hb1, bf1, hod1, _⟩ := id hB1
  obtain ⟨dx2, fs2, od2, ra2, hb2, bf2, hod2, _⟩ := id hB2
  refine ⟨_, rfl, b1, CB, dx1, fs1, _, rfl, hb1, TB.cl, TB.o, bf1.o, _, rfl, b2, CB, dx2, fs2, _, rfl, hb2, TB.cl, TB.o, bf2.o, by show 2 ≤ sizeLine; decide, fun l hl => ?_⟩
  have el : Ex H (upd H l (.lst [.ref od1, .ref od2])) := Ex.new hl
  refine ⟨l, od1, od2, ns, rfl, sq_of upd_same, el _ _ hod1, el _ _ hod2, ok1.n, fun H1 e1 => ?_⟩
  have e01 := el.trans e1
  refine ⟨_, rfl, _, rfl, _, rfl, b1, dx1, fs1, rfl, e01 _ _ hb1, mB bf1, b1, l1, R, ns, st1, rfl, hB1.ex ok1 e01, ok1, fun H2 e2 => ?_⟩
  have e02 := e01.trans e2
  refine ⟨_, rfl, b2, dx2, fs2, rfl, e02 _ _ hb2, mB bf2, b2, l2, R, ns, st2, rfl, hB2.ex ok2 e02, ok2, fun H3 e3 => ?_⟩
  have e03 := e02.trans e3
  refine ⟨by show 2 ≤ sizeLine; decide, fun pr hpr => ?_⟩
  have e4 : Ex H3 (upd H3 pr (.tup [.int (settle R st1 : Nat), .int (settle R st2 : Nat)])) := Ex.new hpr
  have e04 := e03.trans e4
  refine ⟨_, rfl, ?_⟩
  intro m dx hm hdx hn
  exact meet_made (p := (settle R st1, settle R st2)) hm hdx hn (hB1.ex ok1 e04) (hB2.ex ok2 e04) ok1 ok2 upd_same (ok1.g _ ok1.s).2 (ok2.g _ ok2.s).2 fun H' dx fs fv e hm' hf hF => k m dx fs fv H' (e04.trans e) hm' hf hF
theorem scParted : FnScope ["one", "other"] ["one", "other"] (defScope sParted) := ⟨rfl, rfl, rfl, by decide +kernel, rfl, by decide +kernel, by decide +kernel⟩
theorem cal_parted (T : MeetC K C) (D : Dh K mg "parted" sParted) (cM : Cal P w K mg base 6 "met_from_starts" (spMet K C CB)) : Cal P w K mg base 7 "parted" (spParted K CB) := by
  refine D.cal (k := 6) scParted (fun _ _ _ _ _ _ us hl => match us, hl with | [_, _], _ => rfl) (fun vs H Q E h => by obtain ⟨_, _, _, _, _, _, _, _, rfl, _⟩ := h; rfl) fun f cdv A outer s H vs Q E hr h => ?_
  obtain ⟨b1, b2, l1, l2, R, ns, st1, st2, rfl, hB1, hB2, ok1, ok2, k⟩ := h
  refine ⟨_, pss_one (ps_ret (pe_fld (pe_f cM hr (Nat.le_refl _) (by rfl) (pa_cons (pv 0) (pa_cons (pv 1) (pa_cons pe_bl pa_nil)))) rfl)), ?_⟩
  exact ⟨_, rfl, _, rfl, b1, b2, l1, l2, R, ns, st1, st2, rfl, hB1, hB2, ok1, ok2, fun m dx fs fv H' e hm hf hF => ⟨m, C, dx, fs, fv, rfl, hm, T.cl, T.found, hf, k fv H' e hF⟩⟩
theorem scBehind : FnScope ["body", "at", "answer", "row"] ["body", "at", "answer"] (defScope sBehind) := ⟨rfl, rfl, rfl, by decide +kernel, rfl, by decide +kernel, by decide +kernel⟩
theorem cal_behind (B : Bn mg) (TB : BodyC K CB) (D : Dh K mg "behind" sBehind) (cI : Cal P w K mg base 1 "is_integer" spIsInt) (cS : Cal P w K mg base 1 "settled" (spSettled K)) : Cal P w K mg base 2 "behind" (spBehind K CB) := by
  refine D.cal (k := 1) scBehind (fun _ _ _ _ _ _ us hl => match us, hl with | [_, _, _], _ => rfl) (fun vs H Q E h => by obtain ⟨_, _, _, _, _, _, _, _, _, _, rfl, _⟩ := h; rfl) fun f cdv A outer s H vs Q E hr h => ?_
  obtain ⟨b, la, R, ns, st, x, k, one, nm, nx, rfl, hB, ok, er, hk, kk⟩ := h
  refine ⟨_, pss_cons (ps_set (i := 3) scBehind.nd rfl (Or.inl rfl) (pe_ix ix_tup (pe_fld (pv 0) rfl) (pv 1) fun _ _ => rfl))
    (pss_cons (ps_if (pw_or (pt_cmpR op_ne (pe_ix ix_tup (pv 3) pe_int fun _ _ => rfl) pe_str (by rfl)) (pw_or (pt_not (pt_val (pe_f cI hr (Nat.le_refl _) (by rfl) (pa_cons (pv 2) pa_nil))))
        (pw_or1 (pt_not (pt_chain op_le op_lt pe_int (pv 2) (pe_callB call_len_seq (by rfl) B.len PySem.boot_len (pa_cons (pe_ix ix_tup (pv 3) pe_int fun _ _ => rfl) pa_nil))))))).pt pss_never pss_nil)
    (pss_one (ps_ret (pe_f cS hr (Nat.le_refl _) (by rfl) (pa_cons (pe_fld (pv 0) rfl) (pa_cons (pe_ix ix_tup (pe_ix ix_tup (pv 3) pe_int fun _ _ => rfl) (pv 2) fun _ _ => rfl) pa_nil)))))), ?_⟩
  obtain ⟨dx, fs, od, ra, hb, bf, hod, ⟨vs, hvs, hd⟩, hla⟩ := id hB
  obtain ⟨p, xs, hvp, hp, q, rfl, hq⟩ := rows_get hd er
  have hkl := (List.getElem?_eq_some_iff.mp hk).1
  have hone := (ok.r.at er).2.2 one (List.mem_of_getElem? hk)
  refine ⟨_, rfl, b, CB, dx, fs, _, rfl, hb, TB.cl, TB.r, bf.r, _, rfl, ra, vs, _, _, rfl, rfl, hvs, atI_nat hvp, ?_⟩
  refine ⟨_, rfl, p, _, 0, _, rfl, rfl, hp, at0 rfl, rfl, false, bl_false' rfl, ?_⟩
  refine ⟨_, rfl, (k : Int), rfl, fun H1 e1 => ⟨true, rfl, ?_⟩⟩
  refine ⟨_, rfl, 0, _, rfl, rfl, true, bl_true (by omega), ?_⟩
  refine ⟨_, rfl, p, _, 2, _, rfl, rfl, ex_t e1 hp, rfl, q, _, rfl, .inr (ex_t e1 hq), _, _, rfl, rfl, true, bl_true (by rw [List.length_map]; omega), ?_⟩
  refine ⟨_, rfl, b, CB, dx, fs, _, rfl, e1 _ _ hb, TB.cl, TB.r, bf.r, _, rfl, p, _, 2, _, rfl, rfl, ex_t e1 hp, rfl, _, rfl, q, _, _, .int (one : Nat), rfl, rfl, ex_t e1 hq, atI_nat (by rw [List.getElem?_map, hk]; rfl), ra, R, one, rfl, ⟨vs, ex_t e1 hvs, dpAll_tk (Tk.ex e1) _ _ (td_rows ok.r) hd⟩, ok.r, hone, fun H2 e2 _ _ => ?_⟩
  exact kk H2 (e1.trans e2)
end
end Ask

namespace Ask
open PySem PySem.Spec PyProof.Rows L2 Evl

/-! ### the stand's class -/
abbrev sCS : Stmt := topS 40
abbrev sSInit : Stmt := inClass sCS 0
abbrev sShows : Stmt := inClass sCS 1
abbrev sPast : Stmt := inClass sCS 2
abbrev sSLen : Stmt := inClass sCS 3
abbrev sSCall : Stmt := inClass sCS 4
abbrev sAlike : Stmt := topS 41
structure StandC (K : PySem.W.Frag) (C : Addr) : Prop where
  cl : Cls K C
  b : NoAttr K C "own_body"
  p : NoAttr K C "own_past"
  s : NoAttr K C "spot"
structure SF (fs : List (Str × V)) (b : Addr) (hv : V) (x : Nat) : Prop where
  b : fs.lookup ("own_body" : Str) = some (.ref b)
  p : fs.lookup ("own_past" : Str) = some hv
  s : fs.lookup ("spot" : Str) = some (.int (x : Nat))
def StandAt (K : PySem.W.Frag) (C : Addr) (H : Hp) (s b : Addr) (y : Way) : Prop := ∃ dx fs hv, H s = some (.ins C dx fs) ∧ SF fs b hv y.2 ∧ Dp K H hv (encH y.1) ∧ HOk y.1
theorem StandAt.ex {K : PySem.W.Frag} {C s b : Addr} {H H' : Hp} {y : Way} (h : StandAt K C H s b y) (e : Ex H H') : StandAt K C H' s b y := by
  obtain ⟨dx, fs, hv, h1, h2, h3, h4⟩ := h
  exact ⟨dx, fs, hv, e _ _ h1, h2, dp_tk (Tk.ex e) _ _ (td_hist h4) h3, h4⟩
theorem StandAt.hid {K : PySem.W.Frag} {C s b w : Addr} {H : Hp} {y : Way} (h : StandAt K C H s b y) (hw : WellAt w H) : StandAt K C (hid w H) s b y := by
  obtain ⟨dx, fs, hv, h1, h2, h3, h4⟩ := h
  obtain ⟨p, q, r, hw⟩ := hw
  exact ⟨dx, fs, hv, by rw [hid_ne (fun q => by rw [q, hw] at h1; cases h1)]; exact h1, h2, dp_tk (tk_hid hw) _ _ (td_hist h4) h3, h4⟩
def sF1 (b : Addr) : List (Str × V) := putF "own_body" (.ref b) []
def sF2 (b : Addr) (hv : V) : List (Str × V) := putF "own_past" hv (sF1 b)
def sF3 (b : Addr) (hv : V) (x : Nat) : List (Str × V) := putF "spot" (.int (x : Nat)) (sF2 b hv)
theorem sF3_ok (b : Addr) (hv : V) (x : Nat) : SF (sF3 b hv x) b hv x :=
  ⟨(put_out (by decide +kernel)).trans ((put_out (by decide +kernel)).trans put_in), (put_out (by decide +kernel)).trans put_in, put_in⟩
theorem sF_len (b : Addr) (hv : V) : (sF1 b).length ≤ 1 ∧ (sF2 b hv).length ≤ 2 := by
  have h1 : (sF1 b).length ≤ 0 + 1 := putF_len _ _ _
  have h2 : (sF2 b hv).length ≤ (sF1 b).length + 1 := putF_len _ _ _
  omega
noncomputable def spSInit (K : PySem.W.Frag) (C CB : Addr) : Sp := fun vs H Q _ => ∃ (s dx b la : Addr) (R : Rows) (ns : Nums) (st x : Nat) (pv atv : V) (h : Hist), vs = [.ref s, .ref b, pv, atv] ∧ H s = some (.ins C dx []) ∧ BodyAt K CB H b la R ns st ∧ BOk R ns st ∧ HOk h ∧ Dp K H pv (encH h) ∧
  ((atv = .non ∧ x = settle R st) ∨ atv = .int (x : Nat)) ∧ ∀ H', Ex (hid s H) H' → StandAt K C H' s b (h, x) → Q .non H'
def DSInit (K : PySem.W.Frag) (C : Addr) : Prop := ∃ fI fdI a0, FunD K "__init__" "Stand.__init__" (defArgs sSInit) (defBody sSInit) (defScope sSInit) [.ref a0, .non] [] fI fdI ∧ (∀ H, SqT K H a0 []) ∧ Mk K C fI
def SMake (P : Program) (w : World) (K : PySem.W.Frag) (mg : Str → Option Value) (base : Heap) (C CB : Addr) (k : Nat) : Prop :=
  ∃ (fI : Addr) (fdI : FuncData) (ps : List Str) (a0 : Addr) (ds : List Value), FnOk P w K mg base CX0 k fI fdI ps (spSInit K C CB) ∧ Mk K C fI ∧ mg "Stand" = some (.ref C) ∧ (∀ H, SqT K H a0 []) ∧ Vals [V.ref a0, V.non] ds ∧ Binds K fdI ps ds ∧ Binds K fdI ps []
/-- a property -/
def DPr (K : PySem.W.Frag) (C : Addr) (m qual : Str) (st : Stmt) : Prop := ∃ p g fd, PropOf K C m p g ∧ FnP K m qual st g fd
def PCal (P : Program) (w : World) (K : PySem.W.Frag) (mg : Str → Option Value) (base : Heap) (C : Addr) (k : Nat) (m : Str) (sp : Sp) : Prop :=
  ∃ (p g : Addr) (fd : FuncData) (ps : List Str), PropOf K C m p g ∧ FnOk P w K mg base CX0 k g fd ps sp ∧ Binds K fd ps []
/-- a special method -/
def RCal (P : Program) (w : World) (K : PySem.W.Frag) (mg : Str → Option Value) (base : Heap) (k : Nat) (g : Addr) (sp : Sp) : Prop := FnR P w K mg base CX0 k g sp
noncomputable def spShows (K : PySem.W.Frag) (C CB : Addr) : Sp := fun vs H Q _ => ∃ (s b la : Addr) (R : Rows) (ns : Nums) (st : Nat) (y : Way), vs = [.ref s] ∧ StandAt K C H s b y ∧ BodyAt K CB H b la R ns st ∧ BOk R ns st ∧ y.2 < R.length ∧ RetP (fun v H' => Dp K H' v (showD R y.2)) H Q
def spPast (K : PySem.W.Frag) (C : Addr) : Sp := fun vs H Q _ => ∃ (s b : Addr) (y : Way), vs = [.ref s] ∧ StandAt K C H s b y ∧ RetP (fun v H' => Dp K H' v (encH y.1)) H Q
def spSLen (K : PySem.W.Frag) (C : Addr) : Sp := fun vs H Q _ => ∃ (s b : Addr) (y : Way), vs = [.ref s] ∧ StandAt K C H s b y ∧ RetV (.int (y.1.length : Nat)) H Q
noncomputable def spSCall (K : PySem.W.Frag) (C CB : Addr) : Sp := fun vs H Q _ => ∃ (s b la : Addr) (R : Rows) (ns : Nums) (st k one : Nat) (y : Way) (nm : Str) (nx : List Nat), vs = [.ref s, .int (k : Nat)] ∧ StandAt K C H s b y ∧ BodyAt K CB H b la R ns st ∧ BOk R ns st ∧ R[y.2]? = some (.ask nm nx) ∧ nx[k]? = some one ∧ y.1.length < 100 ∧
  ∀ s' H', H s' = none → Ex H H' → StandAt K C H' s' b (y.1 ++ [(nm, k)], settle R one) → Q (.ref s') H'
noncomputable def spAlike (K : PySem.W.Frag) (C CB : Addr) : Sp := fun vs H Q _ => ∃ (s1 s2 b la : Addr) (R : Rows) (ns : Nums) (st : Nat) (y1 y2 : Way), vs = [.ref s1, .ref s2] ∧ StandAt K C H s1 b y1 ∧ StandAt K C H s2 b y2 ∧ BodyAt K CB H b la R ns st ∧ BOk R ns st ∧ y1.2 < R.length ∧ y2.2 < R.length ∧ RetV (.bl (mres R (y1.2, y2.2))) H Q
theorem fnd_none {R : Rows} {p : Nat × Nat} {v : V} (h : Fnd R p v) : V.bl (decide (v = .non)) = V.bl (mres R p) := by
  rcases h with ⟨h, rfl⟩ | ⟨h, t, rfl⟩
  · rw [h]; rfl
  · rw [h]
    exact bl_false (fun z => nomatch z)
section
variable {P : Program} {w : World} {K : PySem.W.Frag} {mg : Str → Option Value} {base : Heap} {C CB : Addr}
theorem scSInit : FnScope ["self", "body", "past", "at"] ["self", "body", "past", "at"] (defScope sSInit) := ⟨rfl, rfl, rfl, by decide +kernel, rfl, by decide +kernel, by decide +kernel⟩
theorem smake (T : StandC K C) (TB : BodyC K CB) (D : DSInit K C) (gS : mg "Stand" = some (.ref C)) (cS : Cal P w K mg base 1 "settled" (spSettled K)) : SMake P w K mg base C CB 2 := by
  obtain ⟨fI, fdI, a0, F, h0, M⟩ := D
  have b1 := FunD.binds1 (ps := ["self", "body", "past", "at"]) F 2 0 (by simp) rfl (fun T kV doc pm an cdv ct us its h1 h2 => match us, its, h1, h2 with
    | [_, _], [_, _], _, _ => ⟨_, rfl, rfl⟩)
  obtain ⟨ds, hds, b1⟩ := b1
  have b2 := FunD.binds1 (ps := ["self", "body", "past", "at"]) F 4 2 (by simp) rfl (fun T kV doc pm an cdv ct us its h1 h2 => match us, its, h1, h2 with
    | [_, _, _, _], [_, _], _, _ => ⟨_, rfl, rfl⟩)
  obtain ⟨ds2, hds2, b2⟩ := b2
  cases hds2
  refine ⟨fI, fdI, ["self", "body", "past", "at"], a0, ds, F.ok scSInit (fun vs H Q E h => by obtain ⟨_, _, _, _, _, _, _, _, _, _, _, rfl, _⟩ := h; rfl) (fun cdv A outer s H vs Q E hr h => ?_), M, gS, h0, hds, b1, b2⟩
  suffices hx : ∃ t, PSs (cxOf CX0 P w K mg base ["self", "body", "past", "at"] "Stand.__init__" (defScope sSInit) fI cdv A outer s H E).nox (defBody sSInit) t ∧ t { nx := fun _ H' => Q .non H', rt := Q } (start ["self", "body", "past", "at"] vs) H by
    obtain ⟨t, h1, h2⟩ := hx
    exact ⟨t, h1.nox, h2⟩
  obtain ⟨s, dx, b, la, R, ns, st, x, pv', atv, h, rfl, hs, hB, ok, hh, hpv, hat, k⟩ := h
  refine ⟨_, pss_cons (ps_fld (pv 0) (pv 1) rfl) (pss_cons (ps_fld (pv 0) (pv 2) rfl) (pss_one (ps_fld (pv 0) (pe_ifExp (pt_cmpR op_isN (pv 3) pe_non (by rfl)) (pe_f cS hr (Nat.le_refl _) (by rfl) (pa_cons (pe_fld (pv 1) rfl) (pa_cons (pe_fld (pv 1) rfl) pa_nil))) (pv 3)) rfl))), ?_⟩
  have put : ∀ {Hc : Hp} {o : HO}, Ex (hid s H) Hc → Ex (hid s H) (upd Hc s o) := fun e => Ex.mut e hid_same
  have hl := sF_len b pv'
  refine ⟨_, rfl, _, rfl, s, C, dx, [], rfl, hs, T.cl, T.b, by decide, ?_⟩
  refine ⟨_, rfl, _, rfl, s, C, dx, sF1 b, rfl, upd_same, T.cl, T.p, by omega, ?_⟩
  have e2 : Ex (hid s H) (upd (upd H s (.ins C dx (sF1 b))) s (.ins C dx (sF2 b pv'))) := put (put ex_hid)
  have hs2 : (upd (upd H s (.ins C dx (sF1 b))) s (.ins C dx (sF2 b pv'))) s = some (.ins C dx (sF2 b pv')) := upd_same
  have tk2 : Tk K H (upd (upd H s (.ins C dx (sF1 b))) s (.ins C dx (sF2 b pv'))) := (Tk.ins hs).trans (Tk.ins (a := s) (C := C) (dx := dx) (fs := sF1 b) upd_same)
  obtain ⟨H2, eH2⟩ : ∃ X, X = upd (upd H s (.ins C dx (sF1 b))) s (.ins C dx (sF2 b pv')) := ⟨_, rfl⟩
  rw [← eH2] at e2 hs2 tk2
  obtain ⟨dxb, fs, od, ra, hb, bf, hod, hR, hla⟩ := id hB
  have fin : ∀ H3, Ex H2 H3 → ∃ a C1 dx1 fs1, V.ref s = .ref a ∧ H3 a = some (.ins C1 dx1 fs1) ∧ Cls K C1 ∧ NoAttr K C1 "spot" ∧ fs1.length < 1000 ∧ Q .non (upd H3 a (.ins C1 dx1 (putF "spot" (.int (x : Nat)) fs1))) := fun H3 e3 => by
    have hs3 := e3 _ _ hs2
    refine ⟨s, C, dx, sF2 b pv', rfl, hs3, T.cl, T.s, by omega, ?_⟩
    refine k _ (put (e2.trans e3)) ⟨dx, sF3 b pv' x, pv', upd_same, sF3_ok _ _ _, ?_, hh⟩
    exact dp_tk (Tk.ins hs3) _ _ (td_hist hh) (dp_tk (Tk.ex e3) _ _ (td_hist hh) (dp_tk tk2 _ _ (td_hist hh) hpv))
  have nbs : b ≠ s := fun q => by
    rw [q, hs] at hb
    have := Option.some.inj hb
    injection this with _ _ q3
    have h1 := bf.o
    rw [← q3] at h1
    cases h1
  have hb2 : H2 b = some (.ins CB dxb fs) := e2 _ _ (by rw [hid_ne nbs]; exact hb)
  subst eH2
  rcases hat with ⟨rfl, rfl⟩ | rfl
  · refine ⟨_, rfl, rfl, true, bl_true rfl, ?_⟩
    refine ⟨_, rfl, b, CB, dxb, fs, _, rfl, hb2, TB.cl, TB.r, bf.r, _, rfl, b, CB, dxb, fs, _, rfl, hb2, TB.cl, TB.s, bf.s, ra, R, st, rfl, hR.tk ok.r tk2, ok.r, ok.s, fun H3 e3 _ _ => ?_⟩
    exact ⟨_, rfl, fin H3 e3⟩
  · refine ⟨_, rfl, rfl, false, bl_false (fun z => nomatch z), ?_⟩
    exact ⟨_, rfl, _, rfl, fin _ (Ex.refl _)⟩
theorem stand_made {H1 : Hp} {x dx b la : Addr} {R : Rows} {ns : Nums} {st z : Nat} {pv atv : V} {h : Hist} {RR : Hp → Prop} {E : XK} (hx : H1 x = none) (hdx : H1 dx = none) (hn : dx ≠ x) (hB : BodyAt K CB H1 b la R ns st) (ok : BOk R ns st) (hh : HOk h) (hpv : Dp K H1 pv (encH h)) (hat : (atv = .non ∧ z = settle R st) ∨ atv = .int (z : Nat))
    (k : ∀ H', Ex H1 H' → StandAt K C H' x b (h, z) → RR H') :
    spSInit K C CB [.ref x, .ref b, pv, atv] (upd (upd H1 dx (.own x)) x (.ins C dx [])) (fun v H2 => v = .non ∧ RR H2) E := by
  have e1 : Ex H1 (upd H1 dx (.own x)) := Ex.new hdx
  have hx1 : (upd H1 dx (.own x)) x = none := by rw [upd_ne hn.symm]; exact hx
  have e2 := e1.trans (Ex.new (o := .ins C dx []) hx1)
  refine ⟨x, dx, b, la, R, ns, st, z, pv, atv, h, rfl, upd_same, hB.ex ok e2, ok, hh, dp_tk (Tk.ex e2) _ _ (td_hist hh) hpv, hat, fun H' e hS => ⟨rfl, ?_⟩⟩
  rw [hid_upd] at e
  exact k H' (e1.trans ((hid_none hx1).trans e)) hS
end
section
variable {X : Cx} {C CB : Addr} {k j : Nat} {p pos : Pos} {f : Str} {e e1 e2 e3 : Expr} {es : List Expr} {ta : TE} {t : TA} {sp : Sp}
/-- Stand(b) -/
theorem pe_stand1 (M : SMake X.prog X.w X.K X.mg X.base C CB k) (hr : Room (j + 1) X.A) (hk : k ≤ j) (hg : Gl X "Stand") (ha : PA X [e] t)
    (he : starEach [e] X.env = (false, eval e X.env) :: starEach [] X.env := by rfl) : ∃ a0, (∀ H, SqT X.K H a0 []) ∧ PE X (.Call (.Name "Stand" p) [e] [] pos) (tMake C (spSInit X.K C CB) [.ref a0, .non] E0 t) := by
  obtain ⟨fI, fdI, ps, a0, ds, F, M, hm, h0, hd, b1, b2⟩ := M
  exact ⟨a0, h0, pe_make M F (hr.mono (Nat.succ_le_succ hk)) hg hm b1 hd pass0 ha (by decide) he rfl⟩
/-- Stand(b, past, at) -/
theorem pe_stand3 (M : SMake X.prog X.w X.K X.mg X.base C CB k) (hr : Room (j + 1) X.A) (hk : k ≤ j) (hg : Gl X "Stand") (ha : PA X (e :: es) t)
    (he : starEach (e :: es) X.env = (false, eval e X.env) :: starEach es X.env := by rfl) (hpl : (backTo pos (starEach es X.env)).any (·.1) = false := by rfl) : PE X (.Call (.Name "Stand" p) (e :: es) [] pos) (tMake C (spSInit X.K C CB) [] E0 t) := by
  obtain ⟨fI, fdI, ps, a0, ds, F, M, hm, h0, hd, b1, b2⟩ := M
  exact pe_make M F (hr.mono (Nat.succ_le_succ hk)) hg hm b2 .nil pass0 ha (by decide) he hpl
theorem pe_pr (he : PE X e ta) (c : Cls X.K C) (M : PCal X.prog X.w X.K X.mg X.base C k f sp) (hr : Room (j + 1) X.A) (hk : k ≤ j)
    (hab : attributeBase e f X.env (eval e X.env) = eval e X.env) : PE X (.Attribute e f pos) (tProp C sp [] E0 ta) := by
  obtain ⟨p, g, fd, ps, hp, F, b⟩ := M
  exact pe_prop he c hp F (hr.mono (Nat.succ_le_succ hk)) b .nil pass0 hab
end
section
variable {P : Program} {w : World} {K : PySem.W.Frag} {mg : Str → Option Value} {base : Heap} {C CB : Addr}
theorem DPr.cal {m qual : Str} {st : Stmt} {N ps : List Str} {k : Nat} {sp : Sp} (D : DPr K C m qual st) (S : FnScope N ps (defScope st))
    (hb : ∀ (kV doc pm : Value) (an : Option Addr) (cdv ct : Value) (us : List Value), us.length = ps.length → bindArgs (PySem.W.fnOf m qual (defArgs st) (defBody st) (defScope st) .none kV doc pm an cdv ct) ⟨us, []⟩ = pure (ps.zip us))
    (len : ∀ vs H Q E, sp vs H Q E → vs.length = ps.length)
    (body : ∀ (f : Addr) (cdv : Value) (A : Around) (outer : List Env) (s : Shared) (H : Hp) (vs : List V) (Q : VK) (E : XK), Room k (A.deeper (envOfC qual (defScope st) s.heap.objs.size f cdv)) → sp vs H Q E →
      ∃ t, PSs (cxOf CX0 P w K mg base N qual (defScope st) f cdv A outer s H E).nox (defBody st) t ∧ t { nx := fun _ H' => Q .non H', rt := Q } (start N vs) H) : PCal P w K mg base C (k + 1) m sp := by
  obtain ⟨p, f, fd, hp, F⟩ := D
  exact ⟨p, f, fd, ps, hp, F.ok S len (fun cdv A outer s H vs Q E hr h => let ⟨t, h1, h2⟩ := body f cdv A outer s H vs Q E hr h; ⟨t, h1.nox, h2⟩), F.bindsN hb⟩
theorem fnr_cal {m qual : Str} {st : Stmt} {f : Addr} {fd : FuncData} {N ps : List Str} {k : Nat} {sp : Sp} (F : FnP K m qual st f fd) (S : FnScope N ps (defScope st))
    (hb : ∀ (kV doc pm : Value) (an : Option Addr) (cdv ct : Value) (us : List Value), us.length = ps.length → bindArgs (PySem.W.fnOf m qual (defArgs st) (defBody st) (defScope st) .none kV doc pm an cdv ct) ⟨us, []⟩ = pure (ps.zip us))
    (len : ∀ vs H Q E, sp vs H Q E → vs.length = ps.length)
    (body : ∀ (cdv : Value) (A : Around) (outer : List Env) (s : Shared) (H : Hp) (vs : List V) (Q : VK) (E : XK), Room k (A.deeper (envOfC qual (defScope st) s.heap.objs.size f cdv)) → sp vs H Q E →
      ∃ t, PSs (cxOf CX0 P w K mg base N qual (defScope st) f cdv A outer s H E).nox (defBody st) t ∧ t { nx := fun _ H' => Q .non H', rt := Q } (start N vs) H) : FnR P w K mg base CX0 (k + 1) f sp := by
  have G : FnOk P w K mg base CX0 (k + 1) f fd ps sp := F.ok S len (fun cdv A outer s H vs Q E hr h => let ⟨t, h1, h2⟩ := body cdv A outer s H vs Q E hr h; ⟨t, h1.nox, h2⟩)
  exact (FnOk.raw G (F.bindsN hb) .nil).imp fun vs H Q E h => by rw [List.append_nil]; exact h
theorem scShows : FnScope ["self"] ["self"] (defScope sShows) := ⟨rfl, rfl, rfl, by decide +kernel, rfl, by decide +kernel, by decide +kernel⟩
theorem cal_shows (T : StandC K C) (TB : BodyC K CB) (D : DPr K C "shows" "Stand.shows" sShows) (cS : Cal P w K mg base 1 "show_of" (spShowOf K)) : PCal P w K mg base C 2 "shows" (spShows K C CB) := by
  refine D.cal (k := 1) scShows (fun _ _ _ _ _ _ us hl => match us, hl with | [_], _ => rfl) (fun vs H Q E h => by obtain ⟨_, _, _, _, _, _, _, rfl, _⟩ := h; rfl) fun f cdv A outer s H vs Q E hr h => ?_
  obtain ⟨s, b, la, R, ns, st, y, rfl, ⟨dx, fs, hv, hs, sf, dh, hh⟩, ⟨dxb, fsb, od, ra, hb, bf, hod, hR, hla⟩, ok, hy, k⟩ := h
  refine ⟨_, pss_one (ps_ret (pe_f cS hr (Nat.le_refl _) (by rfl) (pa_cons (pe_fld (pe_fld (pv 0) rfl) rfl) (pa_cons (pe_fld (pv 0) rfl) pa_nil)))), ?_⟩
  exact ⟨_, rfl, s, C, dx, fs, _, rfl, hs, T.cl, T.b, sf.b, b, CB, dxb, fsb, _, rfl, hb, TB.cl, TB.r, bf.r, _, rfl, s, C, dx, fs, _, rfl, hs, T.cl, T.s, sf.s, ra, R, y.2, rfl, hR, ok.r, hy, k⟩
theorem scPast : FnScope ["self"] ["self"] (defScope sPast) := ⟨rfl, rfl, rfl, by decide +kernel, rfl, by decide +kernel, by decide +kernel⟩
theorem cal_past (T : StandC K C) (D : DPr K C "past" "Stand.past" sPast) : PCal P w K mg base C 1 "past" (spPast K C) := by
  refine D.cal (k := 0) scPast (fun _ _ _ _ _ _ us hl => match us, hl with | [_], _ => rfl) (fun vs H Q E h => by obtain ⟨_, _, _, rfl, _⟩ := h; rfl) fun f cdv A outer s H vs Q E hr h => ?_
  obtain ⟨s, b, y, rfl, ⟨dx, fs, hv, hs, sf, dh, hh⟩, k⟩ := h
  refine ⟨_, pss_one (ps_ret (pe_fld (pv 0) rfl)), ?_⟩
  exact ⟨_, rfl, s, C, dx, fs, _, rfl, hs, T.cl, T.p, sf.p, k hv H (Ex.refl H) dh⟩
theorem scSLen : FnScope ["self"] ["self"] (defScope sSLen) := ⟨rfl, rfl, rfl, by decide +kernel, rfl, by decide +kernel, by decide +kernel⟩
theorem cal_slen (B : Bn mg) (T : StandC K C) {g : Addr} {fd : FuncData} (F : FnP K "__len__" "Stand.__len__" sSLen g fd) : FnR P w K mg base CX0 1 g (spSLen K C) := by
  refine fnr_cal (k := 0) F scSLen (fun _ _ _ _ _ _ us hl => match us, hl with | [_], _ => rfl) (fun vs H Q E h => by obtain ⟨_, _, _, rfl, _⟩ := h; rfl) fun cdv A outer s H vs Q E hr h => ?_
  obtain ⟨s, b, y, rfl, ⟨dx, fs, hv, hs, sf, dh, hh⟩, k⟩ := h
  obtain ⟨a, xs, rfl, ha, hxs⟩ := hist_shape dh
  have hl := dpAll_len' hxs
  rw [List.length_map] at hl
  refine ⟨_, pss_one (ps_ret (pe_callB call_len_seq (by rfl) B.len PySem.boot_len (pa_cons (pe_fld (pv 0) rfl) pa_nil))), ?_⟩
  refine ⟨_, rfl, s, C, dx, fs, _, rfl, hs, T.cl, T.p, sf.p, a, xs, rfl, .inr ha, ?_⟩
  rw [hl]
  exact k H (Ex.refl H)
theorem scSCall : FnScope ["self", "answer", "later"] ["self", "answer"] (defScope sSCall) := ⟨rfl, rfl, rfl, by decide +kernel, rfl, by decide +kernel, by decide +kernel⟩
theorem cal_scall (T : StandC K C) (TB : BodyC K CB) {g : Addr} {fd : FuncData} (F : FnP K "__call__" "Stand.__call__" sSCall g fd) (cB : Cal P w K mg base 2 "behind" (spBehind K CB)) (M : SMake P w K mg base C CB 2) : FnR P w K mg base CX0 4 g (spSCall K C CB) := by
  refine fnr_cal (k := 3) F scSCall (fun _ _ _ _ _ _ us hl => match us, hl with | [_, _], _ => rfl) (fun vs H Q E h => by obtain ⟨_, _, _, _, _, _, _, _, _, _, _, rfl, _⟩ := h; rfl) fun cdv A outer s H vs Q E hr h => ?_
  obtain ⟨s, b, la, R, ns, st, k, one, y, nm, nx, rfl, ⟨dx, fs, hv, hs, sf, dh, hh⟩, hB, ok, er, hk, hlen, kk⟩ := h
  refine ⟨_, pss_cons (ps_set (i := 2) scSCall.nd rfl (Or.inl rfl) (pe_f cB hr (by decide) (by rfl) (pa_cons (pe_fld (pv 0) rfl) (pa_cons (pe_fld (pv 0) rfl) (pa_cons (pv 1) pa_nil)))))
    (pss_one (ps_ret (pe_stand3 M hr (Nat.le_refl _) (by rfl) (pa_cons (pe_fld (pv 0) rfl) (pa_cons (pe_op op_catA (pe_fld (pv 0) rfl) (pe_tup (pa_cons (pe_tup (pa_cons (pe_ix ix_tup (pe_ix ix_tup (pe_fld (pe_fld (pv 0) rfl) rfl) (pe_fld (pv 0) rfl) fun _ _ => rfl) pe_int fun _ _ => rfl) (pa_cons (pv 1) pa_nil))) pa_nil))) (pa_cons (pv 2) pa_nil)))))), ?_⟩
  obtain ⟨dxb, fsb, od, ra, hb, bf, hod, ⟨vs, hvs, hd⟩, hla⟩ := id hB
  obtain ⟨p, xs, hvp, hp, q, rfl, hq⟩ := rows_get hd er
  have hnm := (ok.r.at er).1
  refine ⟨_, rfl, s, C, dx, fs, _, rfl, hs, T.cl, T.b, sf.b, _, rfl, s, C, dx, fs, _, rfl, hs, T.cl, T.s, sf.s, _, rfl, b, la, R, ns, st, y.2, k, one, nm, nx, rfl, hB, ok, er, hk, fun H1 e1 => ?_⟩
  have hs1 := e1 _ _ hs
  refine ⟨_, rfl, s, C, dx, fs, _, rfl, hs1, T.cl, T.b, sf.b, ?_⟩
  refine ⟨_, rfl, s, C, dx, fs, _, rfl, hs1, T.cl, T.p, sf.p, ?_⟩
  refine ⟨_, rfl, s, C, dx, fs, _, rfl, hs1, T.cl, T.b, sf.b, b, CB, dxb, fsb, _, rfl, e1 _ _ hb, TB.cl, TB.r, bf.r, _, rfl, s, C, dx, fs, _, rfl, hs1, T.cl, T.s, sf.s, ra, vs, _, _, rfl, rfl, ex_t e1 hvs, atI_nat hvp, p, _, 1, _, rfl, rfl, ex_t e1 hp, at1 rfl, _, rfl, by show 2 ≤ sizeLine; decide, fun c hc => ?_⟩
  refine ⟨by show 1 ≤ sizeLine; decide, fun bb hbb => ?_⟩
  have e2 : Ex H1 (upd H1 c (.tup [.str nm, .int (k : Nat)])) := Ex.new hc
  have e3 := e2.trans (Ex.new (o := .tup [V.ref c]) hbb)
  have e03 := e1.trans e3
  refine cat_hist (h := y.1) (nm := nm) (k := k) (dp_tk (Tk.ex e03) _ _ (td_hist hh) dh) hh hnm (st_of upd_same) (ex_t (Ex.new hbb) (st_of upd_same)) fun v H4 e4 dv => ?_
  refine ⟨_, rfl, ?_⟩
  have e04 := e03.trans e4
  intro x dx' hx hdx' hn
  refine stand_made (h := y.1 ++ [(nm, k)]) (z := settle R one) hx hdx' hn (hB.ex ok e04) ok ⟨fun p hp => ?_, by rw [List.length_append]; show _ + 1 ≤ _; omega⟩ dv (.inr rfl) fun H5 e5 hS => kk x H5 (fresh_back e04 hx) (e04.trans e5) hS
  rcases List.mem_append.mp hp with z | z
  · exact hh.1 p z
  · rw [List.mem_singleton.mp z]; exact hnm
theorem scAlike : FnScope ["one", "other"] ["one", "other"] (defScope sAlike) := ⟨rfl, rfl, rfl, by decide +kernel, rfl, by decide +kernel, by decide +kernel⟩
theorem cal_alike (T : StandC K C) (TB : BodyC K CB) (D : Dh K mg "alike_from" sAlike) (cM : Cal P w K mg base 2 "look_match" (spUnlike K)) (cP : Cal P w K mg base 6 "parted_from" (spPartedF K CB)) : Cal P w K mg base 7 "alike_from" (spAlike K C CB) := by
  refine D.cal (k := 6) scAlike (fun _ _ _ _ _ _ us hl => match us, hl with | [_, _], _ => rfl) (fun vs H Q E h => by obtain ⟨_, _, _, _, _, _, _, _, _, rfl, _⟩ := h; rfl) fun f cdv A outer s H vs Q E hr h => ?_
  obtain ⟨s1, s2, b, la, R, ns, st, y1, y2, rfl, ⟨dx1, fs1, hv1, hs1, sf1, dh1, hh1⟩, ⟨dx2, fs2, hv2, hs2, sf2, dh2, hh2⟩, hB, ok, h1, h2, k⟩ := h
  refine ⟨_, pss_cons (ps_expr (pe_f cM hr (by decide) (by rfl) (pa_cons (pe_lst (pa_cons (pe_fld (pe_fld (pv 0) rfl) rfl) (pa_cons (pe_fld (pe_fld (pv 1) rfl) rfl) pa_nil))) pa_nil)))
    (pss_one (ps_ret (pe_cmpR op_isN (pe_f cP hr (Nat.le_refl _) (by rfl) (pa_cons (pe_fld (pv 0) rfl) (pa_cons (pe_fld (pv 0) rfl) (pa_cons (pe_fld (pv 1) rfl) (pa_cons (pe_fld (pv 1) rfl) pa_nil))))) pe_non (by rfl)))), ?_⟩
  obtain ⟨dxb, fsb, od, ra, hb, bf, hod, _⟩ := id hB
  refine ⟨_, rfl, s1, C, dx1, fs1, _, rfl, hs1, T.cl, T.b, sf1.b, b, CB, dxb, fsb, _, rfl, hb, TB.cl, TB.o, bf.o, _, rfl, s2, C, dx2, fs2, _, rfl, hs2, T.cl, T.b, sf2.b, b, CB, dxb, fsb, _, rfl, hb, TB.cl, TB.o, bf.o, by show 2 ≤ sizeLine; decide, fun l hl => ?_⟩
  have el : Ex H (upd H l (.lst [.ref od, .ref od])) := Ex.new hl
  refine ⟨l, od, od, ns, rfl, sq_of upd_same, el _ _ hod, el _ _ hod, ok.n, fun H1 e1 => ?_⟩
  have e01 := el.trans e1
  refine ⟨_, rfl, s1, C, dx1, fs1, _, rfl, e01 _ _ hs1, T.cl, T.b, sf1.b, _, rfl, s1, C, dx1, fs1, _, rfl, e01 _ _ hs1, T.cl, T.s, sf1.s, _, rfl, s2, C, dx2, fs2, _, rfl, e01 _ _ hs2, T.cl, T.b, sf2.b, _, rfl, s2, C, dx2, fs2, _, rfl, e01 _ _ hs2, T.cl, T.s, sf2.s, b, b, la, la, R, ns, st, st, y1.2, y2.2, rfl, hB.ex ok e01, hB.ex ok e01, ok, ok, h1, h2, fun v H2 e2 hF => ⟨rfl, ?_⟩⟩
  show Q (V.bl (decide (v = .non))) H2
  rw [fnd_none hF]
  exact k H2 (e01.trans e2)
end
end Ask

namespace Ask
open PySem PySem.Spec PyProof.Rows L2 Evl

/-! ### what the law leans on -/
def rSortE (K : PySem.W.Frag) : List V → Hp → VK → Prop := fun xs H Q => ∃ R : Rows, rSortG K (encE R) xs H Q
theorem call_sortE {X : Cx} (hu : X.A.units + 64 < cLine) : CallR X (.builtin "sorted") (rSortE X.K) := by
  intro pins s σ H xs us Q I r h
  obtain ⟨R, h⟩ := h
  exact call_sortG (encE R) hu pins s σ H xs us Q I r h
def tStand1 (K : PySem.W.Frag) (C CB : Addr) (t : TA) : TE := fun σ H Q => ∀ a0, (∀ H, SqT K H a0 []) → tMake C (spSInit K C CB) [.ref a0, .non] E0 t σ H Q
theorem pe_standN {X : Cx} {C CB : Addr} {k j : Nat} {p pos : Pos} {e : Expr} {t : TA} (M : SMake X.prog X.w X.K X.mg X.base C CB k) (hr : Room (j + 1) X.A) (hk : k ≤ j) (hg : Gl X "Stand") (ha : PA X [e] t)
    (he : starEach [e] X.env = (false, eval e X.env) :: starEach [] X.env := by rfl) : PE X (.Call (.Name "Stand" p) [e] [] pos) (tStand1 X.K C CB t) := by
  obtain ⟨a0, h0, h⟩ := pe_stand1 (p := p) (pos := pos) M hr hk hg ha he
  exact ⟨fun pins s σ H Q I q => h.run pins s σ H Q I (q a0 h0)⟩
theorem exw_hid {w : Addr} {H H' : Hp} (e : Exw w H H') : Ex (hid w H) (hid w H') := fun a o h => by
  have hn : a ≠ w := fun q => by rw [q, hid_same] at h; cases h
  rw [hid_ne hn]
  exact e.1 a o h
theorem exw_out {w : Addr} {H0 H H' : Hp} (e0 : Ex H0 H) (h0 : H0 w = none) (e : Exw w H H') : Ex H0 H' := fun a o h => by
  have hn : a ≠ w := fun q => by rw [q, h0] at h; cases h
  exact e.get (e0 a o h) hn
/-- what stands through the law's turn, the well out of sight -/
structure LF (K : PySem.W.Frag) (CB w nd ra b la : Addr) (R : Rows) (ns : Nums) (H : Hp) : Prop where
  wl : WellAt w H
  n : hid w H nd = some (.dK (numKV ns))
  r : RowsL K (hid w H) ra R
  b : BodyAt K CB (hid w H) b la R ns 0
  ok : BOk R ns 0
  a : RNs ns R
theorem LF.move {K : PySem.W.Frag} {CB w nd ra b la : Addr} {R : Rows} {ns : Nums} {H H' : Hp} (h : LF K CB w nd ra b la R ns H) (e : Exw w H H') : LF K CB w nd ra b la R ns H' :=
  ⟨e.2, exw_hid e _ _ h.n, h.r.ex h.ok.r (exw_hid e), h.b.ex h.ok (exw_hid e), h.ok, h.a⟩
theorem LF.nd {K : PySem.W.Frag} {CB w nd ra b la : Addr} {R : Rows} {ns : Nums} {H : Hp} (h : LF K CB w nd ra b la R ns H) : H nd = some (.dK (numKV ns)) := ex_hid _ _ h.n
theorem LF.rows {K : PySem.W.Frag} {CB w nd ra b la : Addr} {R : Rows} {ns : Nums} {H : Hp} (h : LF K CB w nd ra b la R ns H) : RowsL K H ra R := h.r.ex h.ok.r ex_hid
theorem LF.body {K : PySem.W.Frag} {CB w nd ra b la : Addr} {R : Rows} {ns : Nums} {H : Hp} (h : LF K CB w nd ra b la R ns H) : BodyAt K CB H b la R ns 0 := h.b.ex h.ok ex_hid
theorem RowsL.hid {K : PySem.W.Frag} {w ra : Addr} {H : Hp} {R : Rows} (k : ROk R) (h : RowsL K H ra R) (hw : WellAt w H) (n : ra ≠ w) : RowsL K (hid w H) ra R := by
  obtain ⟨vs, h1, h2⟩ := h
  obtain ⟨x, y, z, hw⟩ := hw
  refine ⟨vs, ?_, dpAll_tk (tk_hid hw) _ _ (td_rows k) h2⟩
  rcases h1 with (h1 | ⟨u, h1⟩) | h1
  · exact .inl (.inl (by rw [hid_ne n]; exact h1))
  · exact .inl (.inr ⟨u, by rw [hid_ne n]; exact h1⟩)
  · exact .inr h1
theorem StandAt.move {K : PySem.W.Frag} {C s b w : Addr} {H H' : Hp} {y : Way} (h : StandAt K C H s b y) (hw : WellAt w H) (e : Exw w H H') : StandAt K C H' s b y := (h.hid hw).ex e.1
theorem StandAt.put {K : PySem.W.Frag} {C s b l : Addr} {H : Hp} {y : Way} {xs : List V} {o : HO} (h : StandAt K C H s b y) (hl : H l = some (.lst xs)) : StandAt K C (upd H l o) s b y := by
  obtain ⟨dx, fs, hv, h1, h2, h3, h4⟩ := h
  exact ⟨dx, fs, hv, by rw [upd_ne (fun q => by rw [q, hl] at h1; cases h1)]; exact h1, h2, dp_tk (Tk.lst hl) _ _ (td_hist h4) h3, h4⟩
/-- the stands of a list -/
def Stands (K : PySem.W.Frag) (C : Addr) (H : Hp) (b : Addr) (ss : List Addr) (sw : List Way) : Prop := ss.length = sw.length ∧ ∀ (j : Nat) (s : Addr) (y : Way), ss[j]? = some s → sw[j]? = some y → StandAt K C H s b y
theorem Stands.imp {K : PySem.W.Frag} {C b : Addr} {H H' : Hp} {ss : List Addr} {sw : List Way} (h : Stands K C H b ss sw) (k : ∀ s y, StandAt K C H s b y → StandAt K C H' s b y) : Stands K C H' b ss sw := ⟨h.1, fun j s y h1 h2 => k s y (h.2 j s y h1 h2)⟩
theorem Stands.get {K : PySem.W.Frag} {C b : Addr} {H : Hp} {ss : List Addr} {sw : List Way} (h : Stands K C H b ss sw) {j : Nat} {y : Way} (e : sw[j]? = some y) : ∃ s, ss[j]? = some s ∧ StandAt K C H s b y := by
  have hj := (List.getElem?_eq_some_iff.mp e).1
  have hj2 : j < ss.length := by rw [h.1]; exact hj
  exact ⟨_, List.getElem?_eq_getElem hj2, h.2 j _ y (List.getElem?_eq_getElem hj2) e⟩
theorem Stands.app {K : PySem.W.Frag} {C b : Addr} {H : Hp} {ss ss' : List Addr} {sw sw' : List Way} (h : Stands K C H b ss sw) (h' : Stands K C H b ss' sw') : Stands K C H b (ss ++ ss') (sw ++ sw') := by
  refine ⟨by rw [List.length_append, List.length_append, h.1, h'.1], fun j s y h1 h2 => ?_⟩
  by_cases c : j < sw.length
  · rw [List.getElem?_append_left c] at h2
    rw [List.getElem?_append_left (by rw [h.1]; exact c)] at h1
    exact h.2 j s y h1 h2
  · rw [List.getElem?_append_right (by omega)] at h2
    rw [List.getElem?_append_right (by rw [h.1]; omega), h.1] at h1
    exact h'.2 _ s y h1 h2
theorem Stands.erase {K : PySem.W.Frag} {C b : Addr} {H : Hp} {ss : List Addr} {sw : List Way} (h : Stands K C H b ss sw) (r : Nat) : Stands K C H b (ss.eraseIdx r) (sw.eraseIdx r) := by
  refine ⟨by rw [List.length_eraseIdx, List.length_eraseIdx, h.1], fun j s y h1 h2 => ?_⟩
  rw [List.getElem?_eraseIdx] at h1 h2
  by_cases c : j < r
  · rw [if_pos c] at h1 h2
    exact h.2 _ s y h1 h2
  · rw [if_neg c] at h1 h2
    exact h.2 _ s y h1 h2
theorem map_erase {α β : Type} (f : α → β) : ∀ (l : List α) (r : Nat), (l.map f).eraseIdx r = (l.eraseIdx r).map f
  | [], _ => rfl
  | a :: l, 0 => rfl
  | a :: l, r + 1 => by
    show f a :: (l.map f).eraseIdx r = f a :: (l.eraseIdx r).map f
    rw [map_erase f l r]
theorem perm_erase {α : Type} : ∀ {l : List α} {r : Nat} {y : α}, l[r]? = some y → l.Perm (y :: l.eraseIdx r)
  | a :: l, 0, y, h => by
    obtain rfl : a = y := Option.some.inj h
    exact .refl _
  | a :: l, r + 1, y, h => by
    have ih := perm_erase (l := l) (r := r) h
    show (a :: l).Perm (y :: a :: l.eraseIdx r)
    exact (ih.cons a).trans (.swap ..)
  | [], _, _, h => by simp at h
theorem seq_at {r n : Nat} (h : r < n) : seqIndex? (r : Int) n = some r := by
  unfold seqIndex?
  have h1 : ¬ ((r : Int) < 0) := by omega
  simp only [if_neg h1]
  have h2 : decide ((0 : Int) ≤ r) = true := decide_eq_true (by omega)
  have h3 : decide ((r : Int) < n) = true := decide_eq_true (by omega)
  rw [h2, h3]
  simp
/-- all that still hangs below the stands that are left -/
noncomputable def below (R : Rows) (l : List Way) : List Way := l.flatMap fun y => tree R (4 - y.1.length) y
theorem below_perm {R : Rows} {l l' : List Way} (h : l.Perm l') : (below R l).Perm (below R l') := List.Perm.flatMap_right _ h
theorem tree_pos (R : Rows) (d : Nat) (y : Way) : 1 ≤ (tree R d y).length := by
  cases d with
  | zero => exact Nat.le_refl 1
  | succ d => show 1 ≤ ((kids R y).flatMap (tree R d)).length + 1; omega
theorem below_len (R : Rows) : ∀ l : List Way, l.length ≤ (below R l).length
  | [] => Nat.le_refl _
  | y :: l => by
    have h1 := below_len R l
    have h2 := tree_pos R (4 - y.1.length) y
    show l.length + 1 ≤ (tree R (4 - y.1.length) y ++ below R l).length
    rw [List.length_append]
    omega
theorem kids_below {R : Rows} {y : Way} (h : y.1.length < 4) : tree R (4 - y.1.length) y = y :: below R (kids R y) := by
  obtain ⟨d, hd⟩ : ∃ d, 4 - y.1.length = d + 1 := ⟨3 - y.1.length, by omega⟩
  rw [hd]
  show y :: (kids R y).flatMap (tree R d) = _
  congr 1
  unfold below
  have : ∀ z ∈ kids R y, tree R d z = tree R (4 - z.1.length) z := fun z hz => by
    have hl : z.1.length = y.1.length + 1 := by
      unfold kids at hz
      split at hz
      · obtain ⟨p, _, rfl⟩ := List.mem_map.mp hz
        rw [List.length_append]
        rfl
      · cases hz
    rw [hl]
    have : 4 - (y.1.length + 1) = d := by omega
    rw [this]
  rw [List.flatMap_def, List.flatMap_def, List.map_congr_left this]
theorem tree_leaf {R : Rows} {y : Way} (h : 4 ≤ y.1.length ∨ kids R y = []) : tree R (4 - y.1.length) y = [y] := by
  rcases h with h | h
  · have : 4 - y.1.length = 0 := by omega
    rw [this]
    rfl
  · cases 4 - y.1.length with
    | zero => rfl
    | succ d =>
      show y :: (kids R y).flatMap (tree R d) = _
      rw [h]
      rfl
theorem upto_more (R : Rows) (m : Nat) (l : List Way) : upto R (m + 1) l = upto R m l ++ lev R m l := by
  unfold upto
  rw [List.range_succ, List.flatMap_append]
  simp
theorem cut_mem {xs : List V} {lo hi : Option Int} {x : V} (h : x ∈ cutV xs lo hi) : x ∈ xs := by
  unfold cutV at h
  exact List.mem_of_mem_drop (List.mem_of_mem_take h)
theorem StandAt.hidL {K : PySem.W.Frag} {C s b l : Addr} {H : Hp} {y : Way} {xs : List V} (h : StandAt K C H s b y) (hl : H l = some (.lst xs)) : StandAt K C (Ask.hid l H) s b y := by
  obtain ⟨dx, fs, hv, h1, h2, h3, h4⟩ := h
  exact ⟨dx, fs, hv, by rw [hid_ne (fun q => by rw [q, hl] at h1; cases h1)]; exact h1, h2, dp_tk (tk_hid hl) _ _ (td_hist h4) h3, h4⟩
theorem BodyAt.hidL {K : PySem.W.Frag} {C b la l : Addr} {H : Hp} {R : Rows} {ns : Nums} {st : Nat} {xs : List V} (k : BOk R ns st) (h : BodyAt K C H b la R ns st) (hl : H l = some (.lst xs)) (n : la ≠ l) : BodyAt K C (Ask.hid l H) b la R ns st := by
  obtain ⟨dx, fs, od, ra, h1, h2, h3, ⟨vs, h4, h6⟩, h5⟩ := h
  refine ⟨dx, fs, od, ra, ?_, h2, ?_, ⟨vs, tk_hid hl _ _ h4, dpAll_tk (tk_hid hl) _ _ (td_rows k.r) h6⟩, ?_⟩
  · rw [hid_ne (fun q => by rw [q, hl] at h1; cases h1)]; exact h1
  · rw [hid_ne (fun q => by rw [q, hl] at h3; cases h3)]; exact h3
  · rw [hid_ne n]; exact h5
theorem stands_of {K : PySem.W.Frag} {C b : Addr} {H : Hp} : ∀ {acc : List V} {l : List Way}, acc.length = l.length → (∀ (j : Nat) (v : V), acc[j]? = some v → ∃ s z, v = .ref s ∧ l[j]? = some z ∧ StandAt K C H s b z) → ∃ ks : List Addr, acc = ks.map V.ref ∧ Stands K C H b ks l
  | [], [], _, _ => ⟨[], rfl, rfl, fun j s y h1 _ => by simp at h1⟩
  | v :: acc, z :: l, hl, h => by
    obtain ⟨s, z', rfl, e, q⟩ := h 0 v rfl
    obtain rfl : z = z' := Option.some.inj e
    obtain ⟨ks, rfl, q2⟩ := stands_of (acc := acc) (l := l) (by simpa using hl) fun (j : Nat) v e => h (j + 1) v e
    refine ⟨s :: ks, rfl, by rw [List.length_cons, List.length_cons, q2.1], fun j t y h1 h2 => ?_⟩
    cases j with
    | zero =>
      obtain rfl : s = t := Option.some.inj h1
      obtain rfl : z = y := Option.some.inj h2
      exact q
    | succ j => exact q2.2 j t y h1 h2
theorem below_app (R : Rows) (l l' : List Way) : below R (l ++ l') = below R l ++ below R l' := by
  unfold below
  rw [List.flatMap_append]
theorem step_perm {R : Rows} {lw sw kk T : List Way} {r : Nat} {y : Way} (h : lw[r]? = some y) (hk : tree R (4 - y.1.length) y = y :: below R kk) (hp : (sw ++ below R lw).Perm T) :
    ((sw ++ [y]) ++ below R (lw.eraseIdx r ++ kk)).Perm T ∧ (below R (lw.eraseIdx r ++ kk)).length < (below R lw).length := by
  have h1 : (below R lw).Perm (y :: (below R kk ++ below R (lw.eraseIdx r))) := by
    have := below_perm (R := R) (perm_erase h)
    have e : below R (y :: lw.eraseIdx r) = tree R (4 - y.1.length) y ++ below R (lw.eraseIdx r) := rfl
    rw [e, hk] at this
    exact this
  rw [below_app]
  constructor
  · refine List.Perm.trans ?_ hp
    rw [List.append_assoc]
    refine List.Perm.append_left _ ?_
    exact (List.Perm.cons y (List.perm_append_comm : (below R (lw.eraseIdx r) ++ below R kk).Perm (below R kk ++ below R (lw.eraseIdx r)))).trans h1.symm
  · have := h1.length_eq
    rw [List.length_cons, List.length_append] at this
    rw [List.length_append]
    omega
mutual
theorem td_refl' : ∀ d : PyData, td d = true → PyData.eqv d d = true
  | .int i, _ => by simp [PyData.eqv]
  | .str z, _ => by simp [PyData.eqv]
  | .tuple xs, h => by
    have := td_reflAll xs (td_tup h).2
    simpa [PyData.eqv] using this
  | .none, h => by simp [td] at h
  | .bool _, h => by simp [td] at h
  | .list _, h => by simp [td] at h
  | .dict _, h => by simp [td] at h
theorem td_reflAll : ∀ ds : List PyData, tdAll ds = true → PyData.eqvAll ds ds = true
  | [], _ => by simp [PyData.eqvAll]
  | d :: ds, h => by
    simp [tdAll] at h
    simp [PyData.eqvAll, td_refl' d h.1, td_reflAll ds h.2]
end
theorem list_eqv {ds : List PyData} (h : tdAll ds = true) : PyData.eqv (.list ds) (.list ds) = true := by
  have := td_reflAll ds h
  simpa [PyData.eqv] using this
theorem depthAll_le {ds : List PyData} {n : Nat} (h : ∀ d ∈ ds, d.depth ≤ n) : PyData.depthAll ds ≤ n := by
  induction ds with
  | nil => simp [PyData.depthAll]
  | cons d ds ih =>
    have h1 := h d (List.mem_cons_self ..)
    have h2 := ih fun e he => h e (List.mem_cons_of_mem _ he)
    simp only [PyData.depthAll]
    omega
theorem shaped_list {ds : List PyData} {n : Nat} (h : tdAll ds = true) (hd : ∀ d ∈ ds, d.depth ≤ n) (hn : n ≤ 60) : SeqAt.shaped (.list ds) = true := by
  unfold SeqAt.shaped
  rw [Bool.and_eq_true, decide_eq_true_eq]
  have h1 := td_layAll ds h
  have h2 := depthAll_le hd
  refine ⟨by simpa [PyData.canLay0] using h1, ?_⟩
  simp only [PyData.depth]
  omega
end Ask

namespace Ask
open PySem PySem.Spec PyProof.Rows L2 Evl

abbrev sLaw : Stmt := topS 54
abbrev nLaw : List Str := ["_law_script", "_law_cell", "_law_well", "_law_numbers_here", "_law_words", "_law_rows_here", "_law_body", "_law_due", "_law_many", "_law_left", "_law_stands", "_law_stand", "_law_turn", "_law_one", "_law_two", "_law_spots", "_law_first", "_law_second", "_law_history", "_law_at", "_law_k", "_law_spot"]
theorem scLaw : FnScope nLaw ["_law_script"] (defScope sLaw) := ⟨rfl, rfl, rfl, by decide +kernel, rfl, by decide +kernel, by decide +kernel⟩
def spLaw (K : PySem.W.Frag) : Sp := fun vs H Q _ => ∃ (a : Addr) (ns : List Int), vs = [.ref a] ∧ SqL K H a (ns.map V.int) ∧ ∀ H', Q (.bl true) H'
structure LE (P : Program) (w : World) (K : PySem.W.Frag) (mg : Str → Option Value) (base : Heap) (CB CS gC gL : Addr) : Prop where
  src : Cal P w K mg base 1 "_law_source" spSource
  drw : Cal P w K mg base 1 "_law_draw" spDraw
  pck : Cal P w K mg base 2 "_law_pick" (spPick K)
  num : Cal P w K mg base 2 "_law_numbers" spNumbers
  rws : Cal P w K mg base 3 "_law_rows" (spRowsG K)
  shw : Cal P w K mg base 1 "_law_show" (spShowL K)
  beh : Cal P w K mg base 2 "_law_behind" (spBehindL K)
  all : Cal P w K mg base 2 "_law_all" (spAllL K)
  shn : Cal P w K mg base 4 "shown" (spShown K CB)
  alk : Cal P w K mg base 7 "alike_from" (spAlike K CS CB)
  par : Cal P w K mg base 7 "parted" (spParted K CB)
  bmk : BMake P w K mg base CB 6
  smk : SMake P w K mg base CS CB 2
  shs : PCal P w K mg base CS 2 "shows" (spShows K CS CB)
  pst : PCal P w K mg base CS 1 "past" (spPast K CS)
  co : StX.CallO K CS gC
  cf : FnR P w K mg base CX0 4 gC (spSCall K CS CB)
  lo : PySem.W.findIn K (.ref CS) "__len__" = some (some (.ref gL))
  lf : PySem.W.isFn K (.ref gL) = true
  lr : FnR P w K mg base CX0 1 gL (spSLen K CS)
  tb : BodyC K CB
  ts : StandC K CS
def tCallV (C : Addr) (sp : Sp) (i j : Nat) : TE := fun σ H Q => tVar i σ H fun y H1 => ∃ a, y = V.ref a ∧ tVar j σ H1 fun v H2 => (∃ dx fs, H2 a = some (.ins C dx fs)) ∧ sp [V.ref a, v] H2 Q E0
theorem pe_callV {X : Cx} {C g : Addr} {k j' i j : Nat} {sp : Sp} {fe e : Expr} {pos : Pos} (hf : PE X fe (tVar i)) (c : StX.CallO X.K C g) (F : FnR X.prog X.w X.K X.mg X.base CX0 k g sp) (hr : Room j' X.A) (hk : k ≤ j') (ha : PE X e (tVar j))
    (ht : eval (.Call fe [e] [] pos) X.env = (do callWith pos (← eval fe X.env) [] (backTo pos (starEach [e] X.env)) (backToKw pos (keywordEach [] X.env))) := by rfl)
    (he : starEach [e] X.env = (false, eval e X.env) :: starEach [] X.env := by rfl) : PE X (.Call fe [e] [] pos) (tCallV C sp i j) := by
  have h := StX.pe_callO (E := E0) (pos := pos) hf c F (hr.mono hk) pass0 (pa_cons ha pa_nil he) ht he rfl
  refine ⟨fun pins s σ H Q I q => h.run pins s σ H Q I ?_⟩
  obtain ⟨y, hy, a, rfl, v, hv, hi, q⟩ := q
  exact ⟨_, hy, a, rfl, v, hv, .inr hi, q⟩
theorem pass0' {X : Cx} (E : XK) : Passes CX0 X E := fun _ _ _ _ _ _ _ h => h.elim
section
variable {P : Program} {w : World} {K : PySem.W.Frag} {mg : Str → Option Value} {base : Heap} {CB CS gC gL : Addr}
/-- the law's turn, from where its body is made: readings by name -/
def tShows (K : PySem.W.Frag) (CS CB : Addr) : TE := tProp CS (spShows K CS CB) [] E0 (tVar 11)
def tPastS (K : PySem.W.Frag) (CS : Addr) : TE := tProp CS (spPast K CS) [] E0 (tVar 11)
def S22 (a : Addr) (σ : L2.St) : Prop := ∃ x1 x2 x3 x4 x5 x6 x7 x8 x9 x10 x11 x12 x13 x14 x15 x16 x17 x18 x19 x20 x21 : Option V, σ = [some (.ref a), x1, x2, x3, x4, x5, x6, x7, x8, x9, x10, x11, x12, x13, x14, x15, x16, x17, x18, x19, x20, x21]
theorem sIx_four (n : Nat) : HT.sIx n n (some 4) ≤ 4 := by
  show (if (4 : Int) < 0 then ((4 : Int) + (n : Int)).toNat else min (4 : Int).toNat n) ≤ 4
  rw [if_neg (by decide)]
  exact Nat.min_le_left _ _
theorem show_inv {R : Rows} {i : Nat} {nm : Str} (h : showD R i = .tuple [.str "ask", .str nm]) : ∃ nx, R[i]? = some (.ask nm nx) := by
  unfold showD at h
  split at h
  · rename_i nm' nx e
    injection h with h
    injection h with _ h
    injection h with h _
    injection h with h
    exact ⟨nx, by rw [e, h]⟩
  · injection h with h
    injection h with h _
    injection h with h
    exact absurd h (by decide +kernel)
  · injection h with h
    injection h with h h2
    cases h2
theorem ok_law (B : Bn mg) {f : Addr} {fd : FuncData} (F : FnP K "law" "law" sLaw f fd) (L : LE P w K mg base CB CS gC gL) : FnOk P w K mg base CX0 9 f fd ["_law_script"] (spLaw K) := by
  refine F.ok scLaw (fun vs H Q E h => by obtain ⟨_, _, rfl, _⟩ := h; rfl) fun cdv A outer s H vs Q E hr h => ?_
  suffices hx : ∃ t, PSs (cxOf CX0 P w K mg base nLaw "law" (defScope sLaw) f cdv A outer s H E).nox (defBody sLaw) t ∧ t { nx := fun _ H' => Q .non H', rt := Q } (start nLaw vs) H by
    obtain ⟨t, h1, h2⟩ := hx
    exact ⟨t, h1.nox, h2⟩
  obtain ⟨a, zs, rfl, hS, k⟩ := h
  refine ⟨_, pss_cons (ps_for PassesOwn.never rfl (pi_list (pe_op op_cat (pe_slice sl_list (pv 0) po_none (po_some pe_int)) (pe_lst (pa_cons pe_int pa_nil)))) (pg_name (i := 1) scLaw.nd rfl (Or.inl rfl))
      (pss_cons (ps_set (i := 2) scLaw.nd rfl (Or.inl rfl) (pe_f L.src hr (by decide) (by rfl) (pa_cons (pv 1) pa_nil)))
      (pss_cons (ps_asg (pe_tup (pa_cons (pe_f L.num hr (by decide) (by rfl) (pa_cons (pv 2) pa_nil)) (pa_cons (pe_lst (pa_cons pe_str (pa_cons pe_str pa_nil))) pa_nil))) (pg_tup rfl (pgs_cons (pg_name (i := 3) scLaw.nd rfl (Or.inr rfl)) (pgs_cons (pg_name (i := 4) scLaw.nd rfl (Or.inl rfl)) pgs_nil))))
      (pss_cons (ps_set (i := 5) scLaw.nd rfl (Or.inr rfl) (pe_f L.rws hr (by decide) (by rfl) (pa_cons (pv 2) (pa_cons (pv 3) (pa_cons (pv 4) (pa_cons (pe_op op_add pe_int (pe_f L.drw hr (by decide) (by rfl) (pa_cons (pv 2) (pa_cons pe_int pa_nil)))) pa_nil))))))
      (Evl.pss_cut (ps_asg (pe_tup (pa_cons (pe_body L.bmk hr (by decide) (by rfl) (pa_cons (pv 3) (pa_cons (pv 5) pa_nil))) (pa_cons (pe_lst pa_nil) pa_nil))) (pg_tup rfl (pgs_cons (pg_name (i := 6) scLaw.nd rfl (Or.inr rfl)) (pgs_cons (pg_name (i := 7) scLaw.nd rfl (Or.inl rfl)) pgs_nil))))
      (Evl.pss_cut (ps_for PassesOwn.never rfl (pi_range1 (by rfl) B.range (pa_cons pe_int pa_nil)) (pg_name (i := 8) scLaw.nd rfl (Or.inl rfl))
        (pss_one (ps_set (i := 7) scLaw.nd rfl (Or.inl rfl) (pe_op op_cat (pv 7) (pe_lc (own := [("_law_history", 18), ("_law_at", 19)]) (g := gTup K 2 (gCons (gName 18) (gCons (gName 19) gNil))) (tt := tYes) rfl scLaw.nd (pi_list (pe_f L.all hr (by decide) (by rfl) (pa_cons (pv 5) (pa_cons pe_int (pa_cons (pv 8) pa_nil))))) (blkOk_by (N := nLaw) (sc := defScope sLaw) (by decide +kernel))
          (fun _ _ _ _ _ => pg_tup rfl (pgs_cons (pg_name (i := 18) scLaw.nd rfl (Or.inl rfl)) (pgs_cons (pg_name (i := 19) scLaw.nd rfl (Or.inl rfl)) pgs_nil))) (fun _ _ _ _ _ => pts_nil) (fun _ _ _ _ _ => pe_tup (pa_cons (pv 18) (pa_cons (pe_f L.shw hr (by decide) (by rfl) (pa_cons (pv 5) (pa_cons (pv 19) pa_nil))) pa_nil))))))))
      (Evl.pss_cut (ps_par (i := 9) (j := 10) rfl scLaw.nd rfl rfl (by decide) rfl rfl (pa_cons (pe_lst (pa_cons (pe_standN L.smk hr (by decide) (by rfl) (pa_cons (pv 6) pa_nil)) pa_nil)) (pa_cons (pe_lst pa_nil) pa_nil)) (by rfl))
      (Evl.pss_cut (ps_while PassesOwn.never (pt_cmpR (op_neNil hr.units) (pv 9) (pe_lst pa_nil) (by rfl))
        (pss_cons (ps_set (i := 11) scLaw.nd rfl (Or.inr rfl) (pe_bm PySem.F.plainAttrs_list PySem.F.slot_list_pop PySem.F.type_list_pop mt_popAt (pv 9) (pa_cons (pe_f L.drw hr (by decide) (by rfl) (pa_cons (pv 2) (pa_cons (pe_callB call_len_seq (by rfl) B.len PySem.boot_len (pa_cons (pv 9) pa_nil)) pa_nil))) pa_nil)))
        (pss_cons (ps_expr (pe_bm PySem.F.plainAttrs_list PySem.F.slot_list_append PySem.F.type_list_append mt_append (pv 10) (pa_cons (pv 11) pa_nil)))
        (pss_one (ps_if (pw_and (pt_cmpR op_eq (pe_ix ix_tup (pe_pr (pv 11) L.ts.cl L.shs hr (by decide) rfl) pe_int fun _ _ => rfl) pe_str (by rfl)) (pw_and1 (pt_cmpR op_lt (pe_callB (call_lenOwn L.lo L.lf L.lr (hr.mono (by decide)) pass0') (by rfl) B.len PySem.boot_len (pa_cons (pv 11) pa_nil)) pe_int (by rfl)))).pt
          (pss_one (ps_expr (pe_bm PySem.F.plainAttrs_list PySem.F.slot_list_extend PySem.F.type_list_extend mt_extend (pv 9) (pa_cons
            (pe_lc (own := [("_law_k", 20)]) (g := gName 20) (tt := tYes) (te := tCallV CS (spSCall K CS CB) 11 20) rfl scLaw.nd
              (pi_range1 (by rfl) B.range (pa_cons (pe_dget (hu_of hr) (pv 3) (pe_ix ix_tup (pe_pr (pv 11) L.ts.cl L.shs hr (by decide) rfl) pe_int fun _ _ => rfl) (fun _ _ => rfl)) pa_nil)) (blkOk_by (N := nLaw) (sc := defScope sLaw) (by decide +kernel))
              (fun _ _ _ _ _ => pg_name (i := 20) scLaw.nd rfl (Or.inl rfl)) (fun _ _ _ _ _ => pts_nil) (fun _ _ _ _ _ => pe_callV (pv 11) L.co L.cf hr (by decide) (pv 20))) pa_nil)))) pss_nil)))))
      (Evl.pss_cut (ps_if (pt_cmpR (op_neD hr.units) (pe_callB (call_sortE hr.units) (by rfl) B.sorted boot_sorted (pa_cons
          (pe_lc (own := [("_law_stand", 11)]) (g := gName 11) (tt := tYes) (te := tTup (tCons (tPastS K CS) (tCons (tShows K CS CB) tNil))) rfl scLaw.nd (pi_list (pv 10)) (blkOk_by (N := nLaw) (sc := defScope sLaw) (by decide +kernel))
            (fun _ _ _ _ _ => pg_name (i := 11) scLaw.nd rfl (Or.inl rfl)) (fun _ _ _ _ _ => pts_nil) (fun _ _ _ _ _ => pe_tup (pa_cons (pe_pr (pv 11) L.ts.cl L.pst hr (by decide) rfl) (pa_cons (pe_pr (pv 11) L.ts.cl L.shs hr (by decide) rfl) pa_nil)))) pa_nil))
          (pe_callB (call_sortE hr.units) (by rfl) B.sorted boot_sorted (pa_cons (pv 7) pa_nil)) (by rfl)) pss_never pss_nil)
      (Evl.pss_cut (ps_if (pt_cmpR (op_neNil hr.units) (pe_lc (own := [("_law_stand", 11)]) (g := gName 11) (tt := tTest (tOp (rNeD K) (tCall (spShown K CB) [] E0 (tCons (tVar 6) (tCons (tPastS K CS) tNil))) (tShows K CS CB))) (te := tC (.int 1)) rfl scLaw.nd (pi_list (pv 10)) (blkOk_by (N := nLaw) (sc := defScope sLaw) (by decide +kernel))
            (fun _ _ _ _ _ => pg_name (i := 11) scLaw.nd rfl (Or.inl rfl)) (fun _ _ _ _ _ => pts_one (pt_cmpR (op_neD hr.units) (pe_f L.shn hr (by decide) (by rfl) (pa_cons (pv 6) (pa_cons (pe_pr (pv 11) L.ts.cl L.pst hr (by decide) rfl) pa_nil))) (pe_pr (pv 11) L.ts.cl L.shs hr (by decide) rfl) (by rfl))) (fun _ _ _ _ _ => pe_int)) (pe_lst pa_nil) (by rfl)) pss_never pss_nil)
      (pss_one (ps_for PassesOwn.never rfl (pi_range1 (by rfl) B.range (pa_cons pe_int pa_nil)) (pg_name (i := 12) scLaw.nd rfl (Or.inl rfl))
        (pss_cons (ps_par (i := 13) (j := 14) rfl scLaw.nd rfl rfl (by decide) rfl rfl (pa_cons (pe_f L.pck hr (by decide) (by rfl) (pa_cons (pv 2) (pa_cons (pv 10) pa_nil))) (pa_cons (pe_f L.pck hr (by decide) (by rfl) (pa_cons (pv 2) (pa_cons (pv 10) pa_nil))) pa_nil)) (by rfl))
        (pss_cons (ps_setLc (i := 15) (own := [("_law_stand", 11)]) (g := gName 11) (tt := tYes) (te := tCall (spBehindL K) [] E0 (tCons (tVar 5) (tCons (tC (.int 0)) (tCons (tPastS K CS) tNil)))) rfl scLaw.nd rfl rfl (sw_true rfl rfl rfl (by decide +kernel)) (pi_tup (pe_tup (pa_cons (pv 13) (pa_cons (pv 14) pa_nil)))) (blkOk_by (N := nLaw) (sc := defScope sLaw) (by decide +kernel))
            (fun _ _ _ _ _ => pg_name (i := 11) scLaw.nd rfl (Or.inl rfl)) (fun _ _ _ _ _ => pts_nil) (fun _ _ _ _ _ => pe_f L.beh hr (by decide) (by rfl) (pa_cons (pv 5) (pa_cons pe_int (pa_cons (pe_pr (pv 11) L.ts.cl L.pst hr (by decide) rfl) pa_nil)))))
        (pss_cons (ps_asg (pe_lc (own := [("_law_spot", 21)]) (g := gName 21) (tt := tYes) (te := tMakeK CB 2 1 (spFill K CB) (fun vs zs => vs ++ zs) E0 (tCons (tVar 3) (tCons (tVar 5) tNil)) (tCons (tVar 21) tNil)) rfl scLaw.nd (pi_list (pv 15)) (blkOk_by (N := nLaw) (sc := defScope sLaw) (by decide +kernel))
            (fun _ _ _ _ _ => pg_name (i := 21) scLaw.nd rfl (Or.inl rfl)) (fun _ _ _ _ _ => pts_nil) (fun _ _ _ _ _ => pe_bodyK L.bmk hr (by decide) (by rfl) (pa_cons (pv 3) (pa_cons (pv 5) pa_nil)) (pk_cons (pv 21) pk_nil))) (pg_lst rfl (pgs_cons (pg_name (i := 16) scLaw.nd rfl (Or.inl rfl)) (pgs_cons (pg_name (i := 17) scLaw.nd rfl (Or.inl rfl)) pgs_nil))))
        (pss_one (ps_if (pt_cmpR op_ne (pe_f L.alk hr (by decide) (by rfl) (pa_cons (pv 13) (pa_cons (pv 14) pa_nil))) (pe_cmpR op_isN (pe_f L.par hr (by decide) (by rfl) (pa_cons (pv 16) (pa_cons (pv 17) pa_nil))) pe_non (by rfl)) (by rfl)) pss_never pss_nil)))))))))))))))))
    (pss_one (ps_ret pe_bl)), ?_⟩
  refine ⟨_, rfl, 4, rfl, a, _, rfl, hS, fun sl hsl => ?_⟩
  refine ⟨by show 1 ≤ sizeLine; decide, fun z hz => ?_⟩
  have e1 : Ex H (upd H sl (.lst (cutV (zs.map V.int) none (some 4)))) := Ex.new hsl
  have e2 := e1.trans (Ex.new (o := .lst [V.int 0]) hz)
  have hsl2 := (Ex.new (o := .lst [V.int 0]) hz) _ _ (upd_same : (upd H sl (.lst (cutV (zs.map V.int) none (some 4)))) sl = _)
  have hcl := cutV_length (zs.map V.int) none (some 4)
  have hc4 : (cutV (zs.map V.int) none (some 4)).length ≤ 4 := by
    unfold cutV
    rw [List.length_take]
    have h1 : HT.sIx (zs.map V.int).length (zs.map V.int).length (some 4) ≤ 4 := sIx_four _
    omega
  refine ⟨sl, z, _, _, rfl, rfl, hsl2, upd_same, sz_of (by show _ + 1 ≤ _; omega), fun ll hll => ?_⟩
  have e3 := e2.trans (Ex.new (o := .lst (cutV (zs.map V.int) none (some 4) ++ [V.int 0])) hll)
  have hll3 : (upd (upd (upd H sl (.lst (cutV (zs.map V.int) none (some 4)))) z (.lst [V.int 0])) ll (.lst (cutV (zs.map V.int) none (some 4) ++ [V.int 0]))) ll = some (.lst (cutV (zs.map V.int) none (some 4) ++ [V.int 0])) := upd_same
  have hint : ∀ x ∈ cutV (zs.map V.int) none (some 4) ++ [V.int 0], ∃ c : Int, x = .int c := fun x hx => by
    rcases List.mem_append.mp hx with q | q
    · obtain ⟨c, _, rfl⟩ := List.mem_map.mp (cut_mem q)
      exact ⟨c, rfl⟩
    · exact ⟨0, List.mem_singleton.mp q⟩
  refine ⟨ll, rfl, ⟨_, sq_of hll3⟩, ?_⟩
  generalize upd (upd (upd H sl (.lst (cutV (zs.map V.int) none (some 4)))) z (.lst [V.int 0])) ll (.lst (cutV (zs.map V.int) none (some 4) ++ [V.int 0])) = H1 at e3 hll3
  generalize cutV (zs.map V.int) none (some 4) ++ [V.int 0] = cs at hll3 hint
  refine for_list (K := K) (a := ll) (xs := cs) (fun i σ H' => S22 a σ ∧ Ex H1 H') ⟨⟨_, _, _, _, _, _, _, _, _, _, _, _, _, _, _, _, _, _, _, _, _, rfl⟩, Ex.refl H1⟩ (fun i σ H' _ p => sq_of (p.2 _ _ hll3)) ?_ (fun σ H' p => k H')
  rintro i x σ H2 hix ⟨⟨x1, x2, x3, x4, x5, x6, x7, x8, x9, x10, x11, x12, x13, x14, x15, x16, x17, x18, x19, x20, x21, rfl⟩, e12⟩
  obtain ⟨c, rfl⟩ := hint x (List.mem_of_getElem? hix)
  refine ⟨_, rfl, c, rfl, fun wl H3 wa wb hwl e23 hwl3 => ?_⟩
  have hwl1 := fresh_back e12 hwl
  refine ⟨_, rfl, wl, rfl, ⟨_, _, _, hwl3⟩, fun nd ns H4 hnd nok ns0 e4 hnd4 => ?_⟩
  have nnd : nd ≠ wl := fun q => by rw [q, hwl3] at hnd; cases hnd
  refine ⟨by show 2 ≤ sizeLine; decide, fun wd hwd => ?_⟩
  have hw4 := e4.2
  have nwd : wd ≠ wl := fun q => by obtain ⟨_, _, _, q2⟩ := hw4; rw [q, q2] at hwd; cases hwd
  refine ⟨by show 2 ≤ sizeLine; decide, fun tp htp => ?_⟩
  refine ⟨tp, _, rfl, st_of upd_same, rfl, _, _, rfl, _, _, rfl, rfl, ?_⟩
  have e45 : Ex H4 (upd (upd H4 wd (.lst [V.str "good", V.str "bad"])) tp (.tup [.ref nd, .ref wd])) := (Ex.new hwd).trans (Ex.new htp)
  have hwd5 : (upd (upd H4 wd (.lst [V.str "good", V.str "bad"])) tp (.tup [.ref nd, .ref wd])) wd = some (.lst [V.str "good", V.str "bad"]) := Ex.new htp _ _ upd_same
  generalize upd (upd H4 wd (.lst [V.str "good", V.str "bad"])) tp (.tup [.ref nd, .ref wd]) = H5 at e45 hwd5
  have x35 : Exw wl H3 H5 := e4.trans (Exw.ex hw4 e45)
  refine ⟨_, rfl, _, rfl, _, rfl, _, rfl, wl, 7, rfl, x35.2, by decide, by decide, fun r H6 hr7 e6 _ => ?_⟩
  have hnd6 := e6.get (e45 _ _ hnd4) nnd
  refine ⟨1, (r : Int), rfl, rfl, wl, nd, wd, ns, 1 + r, rfl, e6.2, nnd, nwd, hnd6, nok, ns0, e6.get hwd5 nwd, by omega, by omega, fun ra R ys H7 hra e7 hra7 dR rok rns hRl => ?_⟩
  have nra : ra ≠ wl := fun q => by obtain ⟨_, _, _, q2⟩ := e6.2; rw [q, q2] at hra; cases hra
  have x37 := (x35.trans e6).trans e7
  have hnd7 := e7.get hnd6 nnd
  have hR7 : RowsL K H7 ra R := ⟨ys, sq_of hra7, dR⟩
  have hst : 0 < R.length := rok.pos
  -- the body
  refine ⟨fun σ H' => ∃ (b la dl : Addr) (y8 y9 y10 y11 y12 y13 y14 y15 y16 y17 y18 y19 y20 y21 : Option V), σ = [some (.ref a), some (.int c), some (.ref wl), some (.ref nd), some (.ref wd), some (.ref ra), some (.ref b), some (.ref dl), y8, y9, y10, y11, y12, y13, y14, y15, y16, y17, y18, y19, y20, y21] ∧ LF K CB wl nd ra b la R ns H' ∧ Ex H1 H' ∧ H' dl = some (.lst []) ∧ dl ≠ wl, ?_, ?_⟩
  · refine ⟨_, rfl, _, rfl, ?_⟩
    intro b dx hb hdx hn
    refine body_made (st := 0) hb hdx hn hnd7 hR7 rok nok rns hst fun H8 la hla e8 hB ok => ?_
    refine ⟨Nat.zero_le _, fun dl hdl => ?_⟩
    refine ⟨by show 2 ≤ sizeLine; decide, fun tp2 htp2 => ?_⟩
    refine ⟨tp2, _, rfl, st_of upd_same, rfl, _, _, rfl, _, _, rfl, rfl, ?_⟩
    have e89 : Ex H8 (upd (upd H8 dl (.lst [])) tp2 (.tup [.ref b, .ref dl])) := (Ex.new hdl).trans (Ex.new htp2)
    have e79 := e8.trans e89
    have hw9 := (Exw.ex x37.2 e79).2
    have nla : la ≠ wl := fun q => by obtain ⟨_, _, _, q2⟩ := x37.2; rw [q, q2] at hla; cases hla
    have ndl : dl ≠ wl := fun q => by obtain ⟨_, _, _, q2⟩ := x37.2; rw [q, e8 _ _ q2] at hdl; cases hdl
    refine ⟨b, la, dl, _, _, _, _, _, _, _, _, _, _, _, _, _, _, rfl, ⟨hw9, ?_, (hR7.ex rok e79).hid rok hw9 nra, (hB.ex ok e89).hid ok hw9 nla, ok, rns⟩, ?_, Ex.new htp2 _ _ upd_same, ndl⟩
    · rw [hid_ne nnd]; exact e79 _ _ hnd7
    · exact exw_out (e12.trans e23) hwl1 (x37.trans (Exw.ex x37.2 e79))
  rintro σ H8 ⟨b, la, dl, y8, y9, y10, y11, y12, y13, y14, y15, y16, y17, y18, y19, y20, y21, rfl, F, e18, hdl8, ndl⟩
  have ok := F.ok
  have hfew := ok.r.few
  have nar : Narrow R 3 := fun i nm nx e => (ok.r.at e).2.1
  have lok := lev_ok ok.r ok.g ok.s
  -- what is due
  refine ⟨fun σ H' => ∃ (dl : Addr) (ds : List V) (us : List Way) (y8 y9 y10 y11 y12 y13 y14 y15 y16 y17 y18 y19 y20 y21 : Option V), σ = [some (.ref a), some (.int c), some (.ref wl), some (.ref nd), some (.ref wd), some (.ref ra), some (.ref b), some (.ref dl), y8, y9, y10, y11, y12, y13, y14, y15, y16, y17, y18, y19, y20, y21] ∧ Ex H8 H' ∧ H' dl = some (.lst ds) ∧ dl ≠ wl ∧ DpAll K H' ds (us.map (encE R)) ∧ us.Perm (upto R 5 [([], settle R 0)]), ?_, ?_⟩
  · refine ⟨5, rfl, by decide, by decide, ?_⟩
    refine for_range (lo := 0) (n := 5) (fun m σ H' => ∃ (dl : Addr) (ds : List V) (us : List Way) (y8 y9 y10 y11 y12 y13 y14 y15 y16 y17 y18 y19 y20 y21 : Option V), σ = [some (.ref a), some (.int c), some (.ref wl), some (.ref nd), some (.ref wd), some (.ref ra), some (.ref b), some (.ref dl), y8, y9, y10, y11, y12, y13, y14, y15, y16, y17, y18, y19, y20, y21] ∧ Ex H8 H' ∧ H' dl = some (.lst ds) ∧ dl ≠ wl ∧ DpAll K H' ds (us.map (encE R)) ∧ us.Perm (upto R m [([], settle R 0)]) ∧ us.length ≤ 100 * m ∧ (∀ y ∈ us, HOk y.1))
      ⟨dl, [], [], _, _, _, _, _, _, _, _, _, _, _, _, _, _, rfl, Ex.refl H8, hdl8, ndl, .nil, .refl _, Nat.zero_le _, fun _ h => by cases h⟩ ?_ ?_
    · rintro m σ H9 hm ⟨dl, ds, us, y8, y9, y10, y11, y12, y13, y14, y15, y16, y17, y18, y19, y20, y21, rfl, e9, hdl9, ndl, dd9, hp9, hl9, hk9⟩
      have F9 := F.move (Exw.ex F.wl e9)
      refine ⟨_, rfl, _, rfl, _, rfl, ra, R, 0, 0 + m, rfl, F9.rows, ok.r, ok.g, ok.s, by omega, fun al ys us2 H10 hal e10 hal10 hperm dal => ?_⟩
      rw [Nat.zero_add] at hperm
      refine ⟨al, rfl, ⟨_, sq_of hal10⟩, fun Dl hD => ?_⟩
      have wok : ∀ y ∈ us2, WOk R 0 m y := fun y hy => lok m y (hperm.mem_iff.mp hy)
      have ylen := dpAll_len' dal
      rw [List.length_map] at ylen
      have ul : us2.length ≤ 81 := by
        rw [hperm.length_eq]
        have h1 := lev_len nar m [([], settle R 0)]
        have h2 : (3 : Nat) ^ m ≤ 3 ^ 4 := Nat.pow_le_pow_right (by decide) (by omega)
        have h3 : [(([], settle R 0) : Way)].length = 1 := rfl
        have h4 : (3 : Nat) ^ 4 = 81 := by decide
        rw [h3] at h1
        omega
      have F10 := F9.move (Exw.ex F9.wl e10)
      refine lc_P (fun j v H => ∃ x, us2[j]? = some x ∧ Dp K H v (encE R x)) (fun j v H H' e ⟨x, q1, q2⟩ => ⟨x, q1, dp_tk (Tk.ex e) _ _ (td_E ok.r ((wok x (List.mem_of_getElem? q1)).h (by omega))) q2⟩) (walk_list (xs := ys)) hD (by omega) (fun H11 e11 => sq_of (e11 _ _ hal10)) ?_ ?_
      · rintro j x H11 H12 hj e11 ⟨acc, hacc⟩ ⟨rfl, hx⟩ R' hR'
        obtain ⟨d, hg, hdd⟩ := dpAll_get dal hx
        rw [List.getElem?_map] at hg
        cases hy : us2[j]? with
        | none => rw [hy] at hg; cases hg
        | some y =>
          rw [hy] at hg
          obtain rfl : encW y = d := Option.some.inj hg
          have wy := wok y (List.mem_of_getElem? hy)
          have hoky := wy.h (by omega)
          obtain ⟨pa, hv, rfl, hpa, dhv⟩ := way_shape hdd
          have F11 := F10.move (Exw.ex F10.wl e11)
          refine ⟨pa, _, rfl, ex_t e11 hpa, rfl, _, _, rfl, _, _, rfl, rfl, rfl, ?_⟩
          refine ⟨_, rfl, _, rfl, _, rfl, ra, R, y.2, rfl, F11.rows, ok.r, wy.lt, fun v H13 e13 dv => ?_⟩
          refine ⟨by show 2 ≤ sizeLine; decide, fun pp hpp => ?_⟩
          have e113 : Ex H12 (upd H13 pp (.tup [hv, v])) := e13.trans (Ex.new hpp)
          refine hR' _ _ e113 ⟨y, hy, ?_⟩
          have hpD : pp ≠ Dl := fun q => by rw [q, e13 _ _ hacc] at hpp; cases hpp
          have tkh : Tk K (upd H13 pp (.tup [hv, v])) (hid Dl (upd H13 pp (.tup [hv, v]))) := tk_hid (e113 _ _ hacc)
          refine dp_tk tkh _ _ (td_E ok.r hoky) (.tup (st_of upd_same) (.cons ?_ (.cons ?_ .nil)))
          · exact dp_tk (Tk.ex (e11.trans e113)) _ _ (td_hist hoky) dhv
          · exact dp_tk (Tk.new hpp) _ _ (td_show ok.r _) dv
      · intro H11 acc e11 hacc hlenA hall
        have e911 := e10.trans e11
        refine ⟨dl, Dl, ds, acc, rfl, rfl, e911 _ _ hdl9, hacc, ?_, fun p hp => ?_⟩
        · have := dpAll_len' dd9
          rw [List.length_map] at this
          exact sz_of (by rw [hlenA]; omega)
        · have e912 : Ex H9 (upd H11 p (.lst (ds ++ acc))) := e911.trans (Ex.new hp)
          have e812 := e9.trans e912
          have hpw : p ≠ wl := fun q => by obtain ⟨_, _, _, q2⟩ := F.wl; rw [q, e11 _ _ (e10 _ _ (e9 _ _ q2))] at hp; cases hp
          refine ⟨p, ds ++ acc, us ++ us2, _, _, _, _, _, _, _, _, _, _, _, _, _, _, rfl, e812, upd_same, hpw, ?_, ?_, ?_, ?_⟩
          · rw [List.map_append]
            refine dpAll_app (dpAll_tk (Tk.ex e912) _ _ (tdAll_map fun y hy => td_E ok.r (hk9 y hy)) dd9) (dpAll_of (by rw [hlenA, List.length_map]; omega) fun j v e => ?_)
            obtain ⟨x, q1, q2⟩ := hall j v e
            exact ⟨encE R x, by rw [List.getElem?_map, q1]; rfl, dp_tk (Tk.ex (ex_hid.trans (Ex.new hp))) _ _ (td_E ok.r ((wok x (List.mem_of_getElem? q1)).h (by omega))) q2⟩
          · rw [upto_more]
            exact hp9.append hperm
          · rw [List.length_append]; omega
          · intro y hy
            rcases List.mem_append.mp hy with q | q
            · exact hk9 y q
            · exact (wok y q).h (by omega)
    · rintro σ H9 ⟨dl, ds, us, y8, y9, y10, y11, y12, y13, y14, y15, y16, y17, y18, y19, y20, y21, rfl, e9, hdl9, ndl, dd9, hp9, hl9, hk9⟩
      exact ⟨dl, ds, us, _, _, _, _, _, _, _, _, _, _, _, _, _, _, rfl, e9, hdl9, ndl, dd9, hp9⟩
  rintro σ H9 ⟨dl, ds, us, y8, y9, y10, y11, y12, y13, y14, y15, y16, y17, y18, y19, y20, y21, rfl, e9, hdl9, ndl, dd9, hp9⟩
  have F9 := F.move (Exw.ex F.wl e9)
  have e19 : Ex H1 H9 := e18.trans e9
  have hTlen : (tree R 4 ([], settle R 0)).length ≤ 256 := tree_len (b := 3) nar 4 _
  have hpT : us.Perm (tree R 4 ([], settle R 0)) := hp9.trans (tree_upto R 4 _).symm
  have hroot : WOk R 0 0 ([], settle R 0) := WOk.root (ok.g 0 ok.s)
  -- the stands, to be led on
  refine ⟨fun σ H' => ∃ (ll sl s0 : Addr) (y8 y11 y12 y13 y14 y15 y16 y17 y18 y19 y20 y21 : Option V), σ = [some (.ref a), some (.int c), some (.ref wl), some (.ref nd), some (.ref wd), some (.ref ra), some (.ref b), some (.ref dl), y8, some (.ref ll), some (.ref sl), y11, y12, y13, y14, y15, y16, y17, y18, y19, y20, y21] ∧ Ex H9 H' ∧ H9 ll = none ∧ H9 sl = none ∧ ll ≠ sl ∧ H' ll = some (.lst [.ref s0]) ∧ H' sl = some (.lst []) ∧ StandAt K CS H' s0 b ([], settle R 0), ?_, ?_⟩
  · intro a0 h0
    refine ⟨_, rfl, ?_⟩
    intro x dx hx hdx hn
    refine stand_made (h := []) (z := settle R 0) hx hdx hn F9.body ok ⟨(fun _ h => by cases h), Nat.zero_le _⟩ (.tup (h0 _) .nil) (.inl ⟨rfl, rfl⟩) fun H10 e10 hS => ?_
    refine ⟨by show 1 ≤ sizeLine; decide, fun ll hll => ⟨Nat.zero_le _, fun sl hsl => ⟨_, _, rfl, ?_⟩⟩⟩
    have ea : Ex H10 (upd H10 ll (.lst [.ref x])) := Ex.new hll
    have eb : Ex (upd H10 ll (.lst [.ref x])) (upd (upd H10 ll (.lst [.ref x])) sl (.lst [])) := Ex.new hsl
    have nls : ll ≠ sl := fun q => by rw [← q, upd_same] at hsl; cases hsl
    exact ⟨ll, sl, x, _, _, _, _, _, _, _, _, _, _, _, _, rfl, (e10.trans ea).trans eb, fresh_back e10 hll, fresh_back (e10.trans ea) hsl, nls, eb _ _ upd_same, upd_same, (hS.ex ea).ex eb⟩
  rintro σ H10 ⟨ll, sl, s0, y8, y11, y12, y13, y14, y15, y16, y17, y18, y19, y20, y21, rfl, e10, hll9, hsl9, nls, hll10, hsl10, hS0⟩
  obtain ⟨w9a, w9b, w9c, hw9⟩ := id F9.wl
  have nlw : ll ≠ wl := fun q => by rw [q, hw9] at hll9; cases hll9
  have nsw : sl ≠ wl := fun q => by rw [q, hw9] at hsl9; cases hsl9
  -- led on until none is left
  refine ⟨fun σ H' => ∃ (ss : List Addr) (sw : List Way) (y8 y11 y12 y13 y14 y15 y16 y17 y18 y19 y20 y21 : Option V), σ = [some (.ref a), some (.int c), some (.ref wl), some (.ref nd), some (.ref wd), some (.ref ra), some (.ref b), some (.ref dl), y8, some (.ref ll), some (.ref sl), y11, y12, y13, y14, y15, y16, y17, y18, y19, y20, y21] ∧ Exw wl H9 H' ∧ H' sl = some (.lst (ss.map V.ref)) ∧ Stands K CS H' b ss sw ∧ (∀ y ∈ sw, WOk R 0 y.1.length y ∧ y.1.length ≤ 4) ∧ sw.Perm (tree R 4 ([], settle R 0)), ?_, ?_⟩
  · refine ⟨fun mm σ H' => ∃ (ls ss : List Addr) (lw sw : List Way) (y8 y11 y12 y13 y14 y15 y16 y17 y18 y19 y20 y21 : Option V), σ = [some (.ref a), some (.int c), some (.ref wl), some (.ref nd), some (.ref wd), some (.ref ra), some (.ref b), some (.ref dl), y8, some (.ref ll), some (.ref sl), y11, y12, y13, y14, y15, y16, y17, y18, y19, y20, y21] ∧ Exw wl H9 H' ∧ H' ll = some (.lst (ls.map V.ref)) ∧ H' sl = some (.lst (ss.map V.ref)) ∧ Stands K CS H' b ls lw ∧ Stands K CS H' b ss sw ∧ (∀ y ∈ lw, WOk R 0 y.1.length y ∧ y.1.length ≤ 4) ∧ (∀ y ∈ sw, WOk R 0 y.1.length y ∧ y.1.length ≤ 4) ∧ (sw ++ below R lw).Perm (tree R 4 ([], settle R 0)) ∧ mm = (below R lw).length,
      ⟨_, [s0], [], [([], settle R 0)], [], _, _, _, _, _, _, _, _, _, _, _, _, rfl, Exw.ex F9.wl e10, hll10, hsl10, ⟨rfl, ?_⟩, ⟨rfl, fun j s y h1 _ => by simp at h1⟩, ?_, (fun _ h => by cases h), ?_, rfl⟩, ?_⟩
    · intro j s y h1 h2
      have hj := (List.getElem?_eq_some_iff.mp h2).1
      obtain rfl : j = 0 := by simpa using hj
      obtain rfl : s0 = s := Option.some.inj h1
      obtain rfl : (([], settle R 0) : Way) = y := Option.some.inj h2
      exact hS0
    · intro y hy
      rw [List.mem_singleton.mp hy]
      exact ⟨hroot, Nat.zero_le _⟩
    · have : below R [([], settle R 0)] = tree R 4 ([], settle R 0) := by
        unfold below
        simp
      rw [this]
      exact .refl _
    rintro mm σ H11 ⟨ls, ss, lw, sw, y8, y11, y12, y13, y14, y15, y16, y17, y18, y19, y20, y21, rfl, x11, hll11, hsl11, SL, SS, okl, oks, hperm, rfl⟩
    have F11 := F9.move x11
    have hTot := hperm.length_eq
    rw [List.length_append] at hTot
    have hbl := below_len R lw
    have hlsl : ls.length = lw.length := SL.1
    have hssl : ss.length = sw.length := SS.1
    refine ⟨_, rfl, Nat.zero_le _, fun q hq => ?_⟩
    have eq1 : Ex H11 (upd H11 q (.lst [])) := Ex.new hq
    have nql : ll ≠ q := fun z => by rw [z, hq] at hll11; cases hll11
    by_cases hne : ls = []
    · subst hne
      refine ⟨ll, q, _, rfl, rfl, sq_of (eq1 _ _ hll11), sq_of upd_same, false, rfl, ?_⟩
      have hlw0 : lw = [] := List.length_eq_zero_iff.mp hlsl.symm
      subst hlw0
      have : sw ++ below R [] = sw := by
        show sw ++ [] = sw
        rw [List.append_nil]
      rw [this] at hperm
      exact ⟨ss, sw, _, _, _, _, _, _, _, _, _, _, _, _, rfl, x11.trans (Exw.ex x11.2 eq1), eq1 _ _ hsl11, SS.imp fun s y h => h.ex eq1, oks, hperm⟩
    · refine ⟨ll, q, _, rfl, rfl, sq_of (eq1 _ _ hll11), sq_of upd_same, true, (by cases ls with | nil => exact absurd rfl hne | cons _ _ => rfl), ?_⟩
      have x12 := x11.trans (Exw.ex x11.2 eq1)
      have hll12 := eq1 _ _ hll11
      have hsl12 := eq1 _ _ hsl11
      have SL12 : Stands K CS (upd H11 q (.lst [])) b ls lw := SL.imp fun s y h => h.ex eq1
      have SS12 : Stands K CS (upd H11 q (.lst [])) b ss sw := SS.imp fun s y h => h.ex eq1
      generalize upd H11 q (.lst []) = H12 at x12 hll12 hsl12 SL12 SS12
      have hpos : 0 < lw.length := by
        rw [← hlsl]
        exact List.length_pos_iff.mpr hne
      refine ⟨fun σ H' => ∃ m', m' < (below R lw).length ∧ ∃ (ls ss : List Addr) (lw sw : List Way) (y8 y11 y12 y13 y14 y15 y16 y17 y18 y19 y20 y21 : Option V), σ = [some (.ref a), some (.int c), some (.ref wl), some (.ref nd), some (.ref wd), some (.ref ra), some (.ref b), some (.ref dl), y8, some (.ref ll), some (.ref sl), y11, y12, y13, y14, y15, y16, y17, y18, y19, y20, y21] ∧ Exw wl H9 H' ∧ H' ll = some (.lst (ls.map V.ref)) ∧ H' sl = some (.lst (ss.map V.ref)) ∧ Stands K CS H' b ls lw ∧ Stands K CS H' b ss sw ∧ (∀ y ∈ lw, WOk R 0 y.1.length y ∧ y.1.length ≤ 4) ∧ (∀ y ∈ sw, WOk R 0 y.1.length y ∧ y.1.length ≤ 4) ∧ (sw ++ below R lw).Perm (tree R 4 ([], settle R 0)) ∧ m' = (below R lw).length, fun σ H' h => h, ?_⟩
      refine ⟨_, rfl, .inl ⟨rfl, _, sq_of hll12⟩, _, rfl, _, rfl, ll, _, rfl, .inl (sq_of hll12), wl, _, rfl, x12.2, by rw [List.length_map]; omega, by rw [List.length_map]; omega, fun r H13 hr13 e13 _ => ?_⟩
      rw [List.length_map] at hr13
      have hrl : r < lw.length := by omega
      have hy := List.getElem?_eq_getElem hrl
      generalize lw[r] = y at hy
      obtain ⟨s, hsr, hSt⟩ := SL12.get hy
      have hll13 := e13.get hll12 nlw
      have hsl13 := e13.get hsl12 nsw
      refine ⟨ll, _, (r : Int), r, .ref s, rfl, rfl, hll13, by omega, by omega, seq_at (by rw [List.length_map]; omega), by rw [List.getElem?_map, hsr]; rfl, ?_⟩
      rw [map_erase]
      have x13 := x12.trans e13
      have x14 : Exw wl H9 (upd H13 ll (.lst ((ls.eraseIdx r).map V.ref))) := Exw.mut x13 hll9 nlw
      have mv14 : ∀ s y, StandAt K CS H12 s b y → StandAt K CS (upd H13 ll (.lst ((ls.eraseIdx r).map V.ref))) s b y := fun s y h => (h.move x12.2 e13).put hll13
      have hll14 : (upd H13 ll (.lst ((ls.eraseIdx r).map V.ref))) ll = some (.lst ((ls.eraseIdx r).map V.ref)) := upd_same
      have hsl14 : (upd H13 ll (.lst ((ls.eraseIdx r).map V.ref))) sl = some (.lst (ss.map V.ref)) := by rw [upd_ne nls.symm]; exact hsl13
      have SL14 := (SL12.erase r).imp mv14
      have SS14 := SS12.imp mv14
      have hSt14 := mv14 _ _ hSt
      show (tSeq _ _ : TS) _ _ (upd H13 ll (.lst ((ls.eraseIdx r).map V.ref)))
      generalize upd H13 ll (.lst ((ls.eraseIdx r).map V.ref)) = H14 at x14 hll14 hsl14 SL14 SS14 hSt14
      refine ⟨_, rfl, .inl ⟨rfl, _, sq_of hsl14⟩, _, rfl, sl, _, _, rfl, rfl, hsl14, sz_lt (by rw [List.length_map]; omega), ?_⟩
      have x15 : Exw wl H9 (upd H14 sl (.lst (ss.map V.ref ++ [.ref s]))) := Exw.mut x14 hsl9 nsw
      have mv15 : ∀ s' y, StandAt K CS H14 s' b y → StandAt K CS (upd H14 sl (.lst (ss.map V.ref ++ [.ref s]))) s' b y := fun s' y h => h.put hsl14
      have hll15 : (upd H14 sl (.lst (ss.map V.ref ++ [.ref s]))) ll = some (.lst ((ls.eraseIdx r).map V.ref)) := by rw [upd_ne nls]; exact hll14
      have hsl15 : (upd H14 sl (.lst (ss.map V.ref ++ [.ref s]))) sl = some (.lst ((ss ++ [s]).map V.ref)) := by rw [List.map_append]; exact upd_same
      have SL15 := SL14.imp mv15
      have hSt15 := mv15 _ _ hSt14
      have SS15 : Stands K CS (upd H14 sl (.lst (ss.map V.ref ++ [.ref s]))) b (ss ++ [s]) (sw ++ [y]) := (SS14.imp mv15).app ⟨rfl, fun j s' y' h1 h2 => by
        have hj := (List.getElem?_eq_some_iff.mp h2).1
        obtain rfl : j = 0 := by simpa using hj
        obtain rfl : s = s' := Option.some.inj h1
        obtain rfl : y = y' := Option.some.inj h2
        exact hSt15⟩
      have F15 := F9.move x15
      obtain ⟨wy, hy4⟩ := okl y (List.mem_of_getElem? hy)
      have oks' : ∀ z ∈ sw ++ [y], WOk R 0 z.1.length z ∧ z.1.length ≤ 4 := fun z hz => by
        rcases List.mem_append.mp hz with q | q
        · exact oks z q
        · rw [List.mem_singleton.mp q]; exact ⟨wy, hy4⟩
      have okl' : ∀ z ∈ lw.eraseIdx r, WOk R 0 z.1.length z ∧ z.1.length ≤ 4 := fun z hz => okl z (List.mem_of_mem_eraseIdx hz)
      have leaf : (4 ≤ y.1.length ∨ kids R y = []) → ∀ (H' : Hp) (y8 y11 y12 y13 y14 y15 y16 y17 y18 y19 y20 y21 : Option V), Ex (upd H14 sl (.lst (ss.map V.ref ++ [.ref s]))) H' → ∃ m', m' < (below R lw).length ∧ ∃ (ls ss : List Addr) (lw sw : List Way) (z8 z11 z12 z13 z14 z15 z16 z17 z18 z19 z20 z21 : Option V), [some (.ref a), some (.int c), some (.ref wl), some (.ref nd), some (.ref wd), some (.ref ra), some (.ref b), some (.ref dl), y8, some (.ref ll), some (.ref sl), y11, y12, y13, y14, y15, y16, y17, y18, y19, y20, y21] = [some (.ref a), some (.int c), some (.ref wl), some (.ref nd), some (.ref wd), some (.ref ra), some (.ref b), some (.ref dl), z8, some (.ref ll), some (.ref sl), z11, z12, z13, z14, z15, z16, z17, z18, z19, z20, z21] ∧ Exw wl H9 H' ∧ H' ll = some (.lst (ls.map V.ref)) ∧ H' sl = some (.lst (ss.map V.ref)) ∧ Stands K CS H' b ls lw ∧ Stands K CS H' b ss sw ∧ (∀ y ∈ lw, WOk R 0 y.1.length y ∧ y.1.length ≤ 4) ∧ (∀ y ∈ sw, WOk R 0 y.1.length y ∧ y.1.length ≤ 4) ∧ (sw ++ below R lw).Perm (tree R 4 ([], settle R 0)) ∧ m' = (below R lw).length := fun hc H' y8 y11 y12 y13 y14 y15 y16 y17 y18 y19 y20 y21 e => by
        have hk : tree R (4 - y.1.length) y = y :: below R [] := tree_leaf hc
        obtain ⟨g1, g2⟩ := step_perm hy hk hperm
        rw [List.append_nil] at g1 g2
        exact ⟨_, g2, ls.eraseIdx r, ss ++ [s], lw.eraseIdx r, sw ++ [y], _, _, _, _, _, _, _, _, _, _, _, _, rfl, x15.trans (Exw.ex x15.2 e), e _ _ hll15, e _ _ hsl15, SL15.imp fun s y h => h.ex e, SS15.imp fun s y h => h.ex e, okl', oks', g1, rfl⟩
      clear mv15
      generalize upd H14 sl (.lst (ss.map V.ref ++ [.ref s])) = H15 at x15 hll15 hsl15 SL15 hSt15 SS15 leaf F15
      obtain ⟨dxs, fss, hvs, hs15, _⟩ := id hSt15
      refine ⟨_, rfl, s, dxs, fss, rfl, hs15, s, b, la, R, ns, 0, y, rfl, hSt15, F15.body, ok, wy.lt, fun v H16 e16 dv => ?_⟩
      obtain ⟨p, z, t, rfl, hp, hz⟩ := show_shape dv
      rcases hz with ⟨rfl, nm, rfl, es⟩ | ⟨hz, hno⟩
      · refine ⟨p, _, 0, V.str "ask", rfl, rfl, hp, at0 rfl, rfl, true, bl_true rfl, ?_⟩
        refine ⟨_, rfl, s, dxs, fss, rfl, e16 _ _ hs15, s, b, y, rfl, hSt15.ex e16, fun H17 e17 => ⟨y.1.length, rfl, by omega, _, _, rfl, rfl, _, rfl, ?_⟩⟩
        have e157 := e16.trans e17
        by_cases c4 : (y.1.length : Int) < 4
        · rw [decide_eq_true c4]
          obtain ⟨nx, er⟩ := show_inv es
          have F17 := F15.move (Exw.ex F15.wl e157)
          have hlk := F.a nm nx (List.mem_of_getElem? er)
          have hl3 := (ok.r.at er).2.1
          refine ⟨_, rfl, .inl ⟨rfl, _, sq_of (e157 _ _ hll15)⟩, _, rfl, _, rfl, s, dxs, fss, rfl, e157 _ _ hs15, s, b, la, R, ns, 0, y, rfl, hSt15.ex e157, F17.body, ok, wy.lt, fun v2 H18 e18 dv2 => ?_⟩
          rw [es] at dv2
          obtain ⟨p2, rfl, hp2⟩ := dp_two dv2
          have e158 := e157.trans e18
          have F18 := F17.move (Exw.ex F17.wl e18)
          have dg : DGet H18 nd (V.str nm) (some (.int (nx.length : Nat))) := by
            have := DGet.k (k := .inr nm) F18.nd
            rw [valV_num hlk] at this
            exact this
          refine ⟨p2, _, 1, V.str nm, rfl, rfl, hp2, at1 rfl, nd, _, rfl, dg, (nx.length : Int), rfl, by omega, by omega, fun Dl hD => ?_⟩
          rw [Int.toNat_natCast]
          refine lc_P (fun j v H => ∃ s' z, v = .ref s' ∧ (kids R y)[j]? = some z ∧ StandAt K CS H s' b z) (fun j v H H' e ⟨s', z, q1, q2, q3⟩ => ⟨s', z, q1, q2, q3.ex e⟩) (walk_range (lo := 0) (n := nx.length)) hD (by omega) (fun _ _ => trivial) ?_ ?_
          · rintro j x H19 H20 hj e19 ⟨acc, hacc⟩ ⟨rfl, rfl⟩ R' hR'
            have hk : nx[j]? = some nx[j] := List.getElem?_eq_getElem hj
            have F19 := F18.move (Exw.ex F18.wl e19)
            have e159 := e158.trans e19
            refine ⟨rfl, _, rfl, s, rfl, _, rfl, ⟨dxs, fss, e159 _ _ hs15⟩, s, b, la, R, ns, 0, 0 + j, nx[j], y, nm, nx, rfl, hSt15.ex e159, F19.body, ok, er, by rw [Nat.zero_add]; exact hk, by omega, fun s' H21 hs' e21 hS' => ?_⟩
            rw [Nat.zero_add] at hS'
            exact hR' _ _ e21 ⟨s', _, rfl, kids_get er hk, hS'.hidL (e21 _ _ hacc)⟩
          · intro H19 acc e19 hacc hlenA hall
            have hkl : (kids R y).length = nx.length := kids_count er
            obtain ⟨ks, rfl, SK⟩ := stands_of (K := K) (C := CS) (b := b) (H := H19) (acc := acc) (l := kids R y) (by omega) fun j v e => by
              obtain ⟨s', z, q1, q2, q3⟩ := hall j v e
              exact ⟨s', z, q1, q2, q3.ex ex_hid⟩
            have e159 := e158.trans e19
            have hll19 := e159 _ _ hll15
            have hDn : Dl ≠ ll := fun q => by rw [q, e158 _ _ hll15] at hD; cases hD
            refine ⟨ll, Dl, _, _, rfl, rfl, hll19, hacc, ?_, ?_⟩
            · have h1 : (ls.eraseIdx r).length ≤ ls.length := List.length_eraseIdx_le ls r
              exact sz_of (by rw [List.length_map, List.length_map, SK.1]; omega)
            · obtain ⟨g1, g2⟩ := step_perm hy (kids_below (by omega)) hperm
              refine ⟨_, g2, ls.eraseIdx r ++ ks, ss ++ [s], lw.eraseIdx r ++ kids R y, sw ++ [y], _, _, _, _, _, _, _, _, _, _, _, _, rfl, Exw.mut (x15.trans (Exw.ex x15.2 e159)) hll9 nlw, by rw [List.map_append]; exact upd_same, by rw [upd_ne nls.symm]; exact e159 _ _ hsl15, (SL15.imp fun s y h => (h.ex e159).put hll19).app (SK.imp fun s y h => h.put hll19), SS15.imp fun s y h => (h.ex e159).put hll19, fun z hz => ?_, oks', g1, rfl⟩
              rcases List.mem_append.mp hz with q | q
              · exact okl' z q
              · have hw := kids_ok ok.r ok.g wy z q
                have hzl := hw.len
                exact ⟨by rw [hzl]; exact hw, by omega⟩
        · rw [decide_eq_false c4]
          exact leaf (.inl (by omega)) H17 _ _ _ _ _ _ _ _ _ _ _ _ e157
      · refine ⟨p, _, 0, V.str z, rfl, rfl, hp, at0 rfl, rfl, false, bl_false (str_ne hz), ?_⟩
        exact leaf (.inr (kids_none fun nm nx e => hno nm (show_ask e))) H16 _ _ _ _ _ _ _ _ _ _ _ _ e16
  rintro σ H11 ⟨ss, sw, y8, y11, y12, y13, y14, y15, y16, y17, y18, y19, y20, y21, rfl, x11, hsl11, SS, oks, hpermT⟩
  have F11 := F9.move x11
  have hswl : sw.length ≤ 256 := by rw [hpermT.length_eq]; exact hTlen
  have hssl : ss.length = sw.length := SS.1
  have hokE : ∀ y ∈ sw, HOk y.1 := fun y hy => (oks y hy).1.h (by have := (oks y hy).2; omega)
  have tdE : tdAll (sw.map (encE R)) = true := tdAll_map fun y hy => td_E ok.r (hokE y hy)
  have husP : us.Perm sw := hpT.trans hpermT.symm
  have hdl11 := x11.get hdl9 ndl
  have tdU : tdAll (us.map (encE R)) = true := tdAll_map fun y hy => td_E ok.r (hokE y (husP.mem_iff.mp hy))
  have dd11 := dpAll_tk (x11.tk (K := K) F9.wl) _ _ tdU dd9
  have step : ∀ (j : Nat) (v : V), (ss.map V.ref)[j]? = some v → ∃ s y, v = .ref s ∧ sw[j]? = some y ∧ StandAt K CS H11 s b y := fun j v e => by
    rw [List.getElem?_map] at e
    cases hs : ss[j]? with
    | none => rw [hs] at e; cases e
    | some s =>
      rw [hs] at e
      have hj := (List.getElem?_eq_some_iff.mp hs).1
      have hj2 : j < sw.length := by omega
      exact ⟨s, sw[j], (Option.some.inj e).symm, List.getElem?_eq_getElem hj2, SS.2 j s _ hs (List.getElem?_eq_getElem hj2)⟩
  -- all are due
  refine ⟨fun σ H' => ∃ (y8 y11 y12 y13 y14 y15 y16 y17 y18 y19 y20 y21 : Option V), σ = [some (.ref a), some (.int c), some (.ref wl), some (.ref nd), some (.ref wd), some (.ref ra), some (.ref b), some (.ref dl), y8, some (.ref ll), some (.ref sl), y11, y12, y13, y14, y15, y16, y17, y18, y19, y20, y21] ∧ Ex H11 H', ?_, ?_⟩
  · refine ⟨_, rfl, sl, rfl, ⟨_, sq_of hsl11⟩, fun Dl hD => ?_⟩
    refine lc_P (fun j v H => ∃ y, sw[j]? = some y ∧ Dp K H v (encE R y)) (fun j v H H' e ⟨y, q1, q2⟩ => ⟨y, q1, dp_tk (Tk.ex e) _ _ (td_E ok.r (hokE y (List.mem_of_getElem? q1))) q2⟩) (walk_list (xs := ss.map V.ref)) hD (by rw [List.length_map]; omega) (fun H2 e2 => sq_of (e2 _ _ hsl11)) ?_ ?_
    · rintro j x H12 H13 hj e12 ⟨acc, hacc⟩ ⟨rfl, hx⟩ R' hR'
      obtain ⟨s, y, rfl, hy, hSt⟩ := step j x hx
      obtain ⟨dxs, fss, hvs, hs11, _⟩ := id hSt
      have hyo := (oks y (List.mem_of_getElem? hy)).1
      have hSt12 := hSt.ex e12
      refine ⟨rfl, _, rfl, s, dxs, fss, rfl, e12 _ _ hs11, s, b, y, rfl, hSt12, fun hv H13 e13 dh => ?_⟩
      refine ⟨_, rfl, s, dxs, fss, rfl, (e12.trans e13) _ _ hs11, s, b, la, R, ns, 0, y, rfl, hSt12.ex e13, (F11.move (Exw.ex F11.wl (e12.trans e13))).body, ok, hyo.lt, fun v H14 e14 dv => ?_⟩
      refine ⟨by show 2 ≤ sizeLine; decide, fun pp hpp => ?_⟩
      have e124 := (e13.trans e14).trans (Ex.new (o := .tup [hv, v]) hpp)
      refine hR' _ _ e124 ⟨y, hy, ?_⟩
      have hok := hokE y (List.mem_of_getElem? hy)
      refine dp_tk (tk_hid (e124 _ _ hacc)) _ _ (td_E ok.r hok) (.tup (st_of upd_same) (.cons ?_ (.cons ?_ .nil)))
      · exact dp_tk (Tk.ex (e14.trans (Ex.new hpp))) _ _ (td_hist hok) dh
      · exact dp_tk (Tk.new hpp) _ _ (td_show ok.r _) dv
    · intro H12 acc e12 hacc hlenA hall
      have dacc : DpAll K H12 acc (sw.map (encE R)) := dpAll_of (by rw [hlenA, List.length_map, List.length_map]; exact hssl) fun j v e => by
        obtain ⟨y, q1, q2⟩ := hall j v e
        exact ⟨encE R y, by rw [List.getElem?_map, q1]; rfl, dp_tk (Tk.ex ex_hid) _ _ (td_E ok.r (hokE y (List.mem_of_getElem? q1))) q2⟩
      refine ⟨R, Dl, acc, sw, rfl, sq_of hacc, dacc, PySem.W.AllAlike.of (alike_E R), PySem.W.Sortable.tuples fun x => ⟨_, _, rfl⟩, fun x _ => Nat.le_trans (depth_E R x) (by decide), fun p1 ys1 hp1 d1 => ?_⟩
      have e13 : Ex H12 (upd H12 p1 (.lst ys1)) := Ex.new hp1
      refine ⟨_, rfl, R, dl, ds, us, rfl, sq_of ((e12.trans e13) _ _ hdl11), dpAll_tk (Tk.ex (e12.trans e13)) _ _ tdU dd11, PySem.W.AllAlike.of (alike_E R), PySem.W.Sortable.tuples fun x => ⟨_, _, rfl⟩, fun x _ => Nat.le_trans (depth_E R x) (by decide), fun p2 ys2 hp2 d2 => ?_⟩
      have e14 : Ex (upd H12 p1 (.lst ys1)) (upd (upd H12 p1 (.lst ys1)) p2 (.lst ys2)) := Ex.new hp2
      have hso := sort_same (encE R) (alike_E R) (ws := sw) (ws' := us) (fun y hy => td_E ok.r (hokE y hy)) husP.symm
      have tdS : tdAll ((sw.mergeSort (PySem.W.dataLe false (encE R))).map (encE R)) = true := tdAll_map fun y hy => td_E ok.r (hokE y ((List.mergeSort_perm _ _).mem_iff.mp hy))
      have hsh : SeqAt.shaped (.list ((sw.mergeSort (PySem.W.dataLe false (encE R))).map (encE R))) = true := shaped_list tdS (fun d hd => by
        obtain ⟨y, _, rfl⟩ := List.mem_map.mp hd
        exact depth_E R y) (by decide)
      rw [← hso] at d2
      refine ⟨_, _, .lst (sq_of (e14 _ _ upd_same)) (dpAll_tk (Tk.ex (e13.trans e14)) _ _ tdS d1), .lst (sq_of upd_same) (dpAll_tk (Tk.new hp2) _ _ tdS d2), hsh, hsh, false, by rw [list_eqv tdS]; rfl, ?_⟩
      exact ⟨_, _, _, _, _, _, _, _, _, _, _, _, rfl, (e12.trans e13).trans e14⟩
  rintro σ H12 ⟨y8, y11, y12, y13, y14, y15, y16, y17, y18, y19, y20, y21, rfl, e12'⟩
  -- each is shown so
  refine ⟨fun σ H' => ∃ (y8 y11 y12 y13 y14 y15 y16 y17 y18 y19 y20 y21 : Option V), σ = [some (.ref a), some (.int c), some (.ref wl), some (.ref nd), some (.ref wd), some (.ref ra), some (.ref b), some (.ref dl), y8, some (.ref ll), some (.ref sl), y11, y12, y13, y14, y15, y16, y17, y18, y19, y20, y21] ∧ Ex H11 H', ?_, ?_⟩
  · have hsl12 := e12' _ _ hsl11
    refine ⟨_, rfl, sl, rfl, ⟨_, sq_of hsl12⟩, fun Dl hD => ?_⟩
    refine lc_it (walk_list (xs := ss.map V.ref)) (fun _ H' => Ex H12 H' ∧ H' Dl = some (.lst [])) ⟨Ex.new hD, upd_same⟩ (fun i H' _ p => sq_of (p.1 _ _ hsl12)) ?_ ?_
    · rintro j x H13 H14 hj ⟨e13, hD13⟩ ⟨rfl, hx⟩
      obtain ⟨s, y, rfl, hy, hSt⟩ := step j x hx
      obtain ⟨dxs, fss, hvs, hs11, _⟩ := id hSt
      have hyo := (oks y (List.mem_of_getElem? hy)).1
      have hok := hokE y (List.mem_of_getElem? hy)
      have e113 := e12'.trans e13
      refine ⟨rfl, _, rfl, _, rfl, s, dxs, fss, rfl, e113 _ _ hs11, s, b, y, rfl, hSt.ex e113, fun hv H14 e14 dh => ?_⟩
      have e114 := e113.trans e14
      refine ⟨b, la, R, ns, 0, hv, y.1, y.2, rfl, (F11.move (Exw.ex F11.wl e114)).body, ok, hok, dh, hyo.al, hyo.st, hyo.lt, fun v1 H15 e15 dv1 => ?_⟩
      have e115 := e114.trans e15
      refine ⟨_, rfl, s, dxs, fss, rfl, e115 _ _ hs11, s, b, la, R, ns, 0, y, rfl, hSt.ex e115, (F11.move (Exw.ex F11.wl e115)).body, ok, hyo.lt, fun v2 H16 e16 dv2 => ?_⟩
      refine ⟨showD R y.2, showD R y.2, dp_tk (Tk.ex e16) _ _ (td_show ok.r _) dv1, dv2, shaped_show ok.r _, shaped_show ok.r _, false, by rw [td_refl' _ (td_show ok.r _)]; rfl, ?_⟩
      exact ⟨e13.trans ((e14.trans e15).trans e16), e16 _ _ (e15 _ _ (e14 _ _ hD13))⟩
    · rintro H13 ⟨e13, hD13⟩
      refine ⟨Nat.zero_le _, fun q hq => ?_⟩
      refine ⟨Dl, q, [], rfl, rfl, sq_of ((Ex.new hq : Ex H13 (upd H13 q (.lst []))) _ _ hD13), sq_of upd_same, false, rfl, ?_⟩
      exact ⟨_, _, _, _, _, _, _, _, _, _, _, _, rfl, (e12'.trans e13).trans (Ex.new hq)⟩
  rintro σ H13 ⟨y8, y11, y12, y13, y14, y15, y16, y17, y18, y19, y20, y21, rfl, e13'⟩
  -- and any two
  have hpos : 0 < sw.length := by rw [hpermT.length_eq]; exact tree_pos R 4 _
  have x13 : Exw wl H11 H13 := Exw.ex F11.wl e13'
  refine ⟨4, rfl, by decide, by decide, ?_⟩
  refine for_range (lo := 0) (n := 4) (fun _ σ H' => ∃ (y8 y11 y12 y13 y14 y15 y16 y17 y18 y19 y20 y21 : Option V), σ = [some (.ref a), some (.int c), some (.ref wl), some (.ref nd), some (.ref wd), some (.ref ra), some (.ref b), some (.ref dl), y8, some (.ref ll), some (.ref sl), y11, y12, y13, y14, y15, y16, y17, y18, y19, y20, y21] ∧ Exw wl H11 H') ⟨_, _, _, _, _, _, _, _, _, _, _, _, rfl, x13⟩ ?_ ?_
  · rintro m σ H14 hm ⟨y8, y11, y12, y13, y14, y15, y16, y17, y18, y19, y20, y21, rfl, x14⟩
    have hsl14 := x14.get hsl11 nsw
    refine ⟨_, rfl, _, rfl, wl, sl, _, rfl, x14.2, nsw, sq_of hsl14, by rw [List.length_map]; omega, by rw [List.length_map]; omega, fun j1 v1 H15 h1 x15 => ?_⟩
    have hsl15 := x15.get hsl14 nsw
    refine ⟨_, rfl, _, rfl, wl, sl, _, rfl, x15.2, nsw, sq_of hsl15, by rw [List.length_map]; omega, by rw [List.length_map]; omega, fun j2 v2 H16 h2 x16 => ?_⟩
    refine ⟨_, _, rfl, ?_⟩
    obtain ⟨s1, y1, rfl, hy1, hS1⟩ := step j1 v1 h1
    obtain ⟨s2, y2, rfl, hy2, hS2⟩ := step j2 v2 h2
    have x116 := (x14.trans x15).trans x16
    have hS1' := hS1.move F11.wl x116
    have hS2' := hS2.move F11.wl x116
    have F16 := F11.move x116
    have o1 := (oks y1 (List.mem_of_getElem? hy1)).1
    have o2 := (oks y2 (List.mem_of_getElem? hy2)).1
    have k1 := hokE y1 (List.mem_of_getElem? hy1)
    have k2 := hokE y2 (List.mem_of_getElem? hy2)
    have pick : ∀ (j : Nat) (x : V), [V.ref s1, V.ref s2][j]? = some x → ∃ s y, x = .ref s ∧ [y1, y2][j]? = some y ∧ StandAt K CS H16 s b y ∧ WOk R 0 y.1.length y ∧ HOk y.1 := fun j x hx => by
      rcases j with _ | _ | j
      · exact ⟨s1, y1, (Option.some.inj hx).symm, rfl, hS1', o1, k1⟩
      · exact ⟨s2, y2, (Option.some.inj hx).symm, rfl, hS2', o2, k2⟩
      · simp at hx
    -- where they stand
    refine ⟨_, rfl, _, rfl, by show 2 ≤ sizeLine; decide, fun tp htp => ?_⟩
    have etp : Ex H16 (upd H16 tp (.tup [.ref s1, .ref s2])) := Ex.new htp
    refine ⟨tp, rfl, ⟨_, st_of upd_same⟩, fun Dl hD => ?_⟩
    refine lc_P (fun j v _ => ∃ y, [y1, y2][j]? = some y ∧ v = .int (y.2 : Nat)) (fun _ _ _ _ _ h => h) (walk_tup (xs := [V.ref s1, V.ref s2])) hD (by show 2 ≤ _; decide) (fun H2 e2 => ex_t e2 (st_of upd_same)) ?_ ?_
    · rintro j x H17 H18 hj e17 ⟨acc, hacc⟩ ⟨rfl, hx⟩ R' hR'
      obtain ⟨s, y, rfl, hy, hSt, wy, hk⟩ := pick j x hx
      obtain ⟨dxs, fss, hvs, hs16, _⟩ := id hSt
      have e167 := etp.trans e17
      refine ⟨rfl, _, rfl, _, rfl, s, dxs, fss, rfl, e167 _ _ hs16, s, b, y, rfl, hSt.ex e167, fun hv H18 e18 dh => ?_⟩
      exact ⟨ra, R, 0, hv, y.1, y.2, rfl, (F16.move (Exw.ex F16.wl (e167.trans e18))).rows, ok.r, ok.g, ok.s, hk, dh, wy.al, fun H19 e19 => hR' _ _ (e18.trans e19) ⟨y, hy, rfl⟩⟩
    intro H17 acc e17 hacc hlenA hall
    have eacc : acc = [.int (y1.2 : Nat), .int (y2.2 : Nat)] := by
      match acc, hlenA, hall with
      | [u, v], _, hall =>
        obtain ⟨y, q1, q2⟩ := hall 0 u rfl
        obtain ⟨z, q3, q4⟩ := hall 1 v rfl
        cases q1
        cases q3
        rw [q2, q4]
    subst eacc
    have e167 := etp.trans e17
    have F17 := F16.move (Exw.ex F16.wl e167)
    have okk : ∀ y : Way, WOk R 0 y.1.length y → BOk R ns y.2 := fun y wy => ⟨ok.r, ok.n, ok.a, ok.g, wy.lt⟩
    -- bodies that start there
    refine ⟨_, rfl, Dl, rfl, ⟨_, sq_of hacc⟩, fun D2 hD2 => ?_⟩
    refine lc_P (fun j v H => ∃ y b' la', [y1, y2][j]? = some y ∧ v = .ref b' ∧ BodyAt K CB H b' la' R ns y.2) (fun j v H H' e ⟨y, b', la', q1, q2, q3⟩ => ⟨y, b', la', q1, q2, q3.ex (by
      rcases j with _ | _ | j
      · cases q1; exact okk y1 o1
      · cases q1; exact okk y2 o2
      · simp at q1) e⟩) (walk_list (xs := [V.int (y1.2 : Nat), V.int (y2.2 : Nat)])) hD2 (by show 2 ≤ _; decide) (fun H2 e2 => sq_of (e2 _ _ hacc)) ?_ ?_
    · rintro j x H18 H19 hj e18 ⟨acc, hacc2⟩ ⟨rfl, hx⟩ R' hR'
      obtain ⟨y, hy, wy, rfl⟩ : ∃ y, [y1, y2][j]? = some y ∧ WOk R 0 y.1.length y ∧ x = .int (y.2 : Nat) := by
        rcases j with _ | _ | j
        · exact ⟨y1, rfl, o1, (Option.some.inj hx).symm⟩
        · exact ⟨y2, rfl, o2, (Option.some.inj hx).symm⟩
        · simp at hx
      have F18 := F17.move (Exw.ex F17.wl e18)
      refine ⟨rfl, _, rfl, _, rfl, _, rfl, rfl, rfl, ?_⟩
      intro b' dx hb' hdx hn
      refine body_made (st := y.2) hb' hdx hn F18.nd F18.rows ok.r ok.n ok.a wy.lt fun H20 la' hla' e20 hB' ok' => ?_
      have nla : la' ≠ D2 := fun q => by rw [q, hacc2] at hla'; cases hla'
      exact hR' _ _ e20 ⟨y, b', la', hy, rfl, hB'.hidL ok' (e20 _ _ hacc2) nla⟩
    intro H18 acc2 e18 hacc2 hlenB hallB
    obtain ⟨b1, l1, b2, l2, eacc2, hB1, hB2⟩ : ∃ b1 l1 b2 l2, acc2 = [.ref b1, .ref b2] ∧ BodyAt K CB H18 b1 l1 R ns y1.2 ∧ BodyAt K CB H18 b2 l2 R ns y2.2 := by
      match acc2, hlenB, hallB with
      | [u, v], _, hallB =>
        obtain ⟨y, b1, l1, q1, q2, q3⟩ := hallB 0 u rfl
        obtain ⟨z, b2, l2, r1, r2, r3⟩ := hallB 1 v rfl
        cases q1
        cases r1
        exact ⟨b1, l1, b2, l2, by rw [q2, r2], q3.ex (okk y1 o1) ex_hid, r3.ex (okk y2 o2) ex_hid⟩
    subst eacc2
    refine ⟨D2, _, rfl, sq_of hacc2, rfl, _, _, rfl, _, _, rfl, rfl, ?_⟩
    have e168 := e167.trans e18
    have F18 := F17.move (Exw.ex F17.wl e18)
    refine ⟨_, rfl, _, rfl, s1, s2, b, la, R, ns, 0, y1, y2, rfl, hS1'.ex e168, hS2'.ex e168, F18.body, ok, o1.lt, o2.lt, fun H19 e19 => ?_⟩
    refine ⟨_, rfl, _, rfl, b1, b2, l1, l2, R, ns, y1.2, y2.2, rfl, hB1.ex (okk y1 o1) e19, hB2.ex (okk y2 o2) e19, okk y1 o1, okk y2 o2, fun v H20 e20 hF => ?_⟩
    rw [o1.st, o2.st] at hF
    refine ⟨rfl, rfl, false, ?_, ?_⟩
    · show V.bl (!decide (V.bl (mres R (y1.2, y2.2)) = V.bl (decide (v = .non)))) = V.bl false
      rw [fnd_none hF]
      exact bl_false' rfl
    · exact ⟨_, _, _, _, _, _, _, _, _, _, _, _, rfl, x116.trans (Exw.ex x116.2 ((e168.trans e19).trans e20))⟩
  · rintro σ H14 ⟨y8, y11, y12, y13, y14, y15, y16, y17, y18, y19, y20, y21, rfl, x14⟩
    exact ⟨⟨_, _, _, _, _, _, _, _, _, _, _, _, _, _, _, _, _, _, _, _, _, rfl⟩, exw_out e19 hwl1 (x11.trans x14)⟩
end
end Ask

namespace Ask
open PySem PySem.Spec PyProof.Rows L2
def d0 : He.DefD := ⟨("is_integer", none), "is_integer", "is_integer", defArgs (topS 14), defBody (topS 14), defScope (topS 14), [], []⟩
def d1 : He.DefD := ⟨("is_name", none), "is_name", "is_name", defArgs (topS 15), defBody (topS 15), defScope (topS 15), [], []⟩
def d2 : He.DefD := ⟨("is_row", none), "is_row", "is_row", defArgs (topS 16), defBody (topS 16), defScope (topS 16), [], []⟩
def d3 : He.DefD := ⟨("is_index", none), "is_index", "is_index", defArgs (topS 17), defBody (topS 17), defScope (topS 17), [], []⟩
def d4 : He.DefD := ⟨("frozen", none), "frozen", "frozen", defArgs (topS 18), defBody (topS 18), defScope (topS 18), [], []⟩
def d5 : He.DefD := ⟨("is_operations", none), "is_operations", "is_operations", defArgs (topS 19), defBody (topS 19), defScope (topS 19), [], []⟩
def d6 : He.DefD := ⟨("unlike_in", none), "unlike_in", "unlike_in", defArgs (topS 20), defBody (topS 20), defScope (topS 20), [], []⟩
def d7 : He.DefD := ⟨("look_match", none), "look_match", "look_match", defArgs (topS 21), defBody (topS 21), defScope (topS 21), [], []⟩
def d8 : He.DefD := ⟨("is_ask", none), "is_ask", "is_ask", defArgs (topS 24), defBody (topS 24), defScope (topS 24), [], []⟩
def d9 : He.DefD := ⟨("is_body_row", none), "is_body_row", "is_body_row", defArgs (topS 25), defBody (topS 25), defScope (topS 25), [], []⟩
def d10 : He.DefD := ⟨("look_body", none), "look_body", "look_body", defArgs (topS 26), defBody (topS 26), defScope (topS 26), [], []⟩
def d11 : He.DefD := ⟨("settled", none), "settled", "settled", defArgs (topS 27), defBody (topS 27), defScope (topS 27), [], []⟩
def d12 : He.DefD := ⟨("show_of", none), "show_of", "show_of", defArgs (topS 28), defBody (topS 28), defScope (topS 28), [], []⟩
def d13 : He.DefD := ⟨("landings", none), "landings", "landings", defArgs (topS 29), defBody (topS 29), defScope (topS 29), [], []⟩
def d14 : He.DefD := ⟨("look_history", none), "look_history", "look_history", defArgs (topS 31), defBody (topS 31), defScope (topS 31), [], []⟩
def d15 : He.DefD := ⟨("shown", none), "shown", "shown", defArgs (topS 32), defBody (topS 32), defScope (topS 32), [], []⟩
def d16 : He.DefD := ⟨("met_from_starts", none), "met_from_starts", "met_from_starts", defArgs (topS 35), defBody (topS 35), defScope (topS 35), [], []⟩
def d17 : He.DefD := ⟨("parted_from", none), "parted_from", "parted_from", defArgs (topS 36), defBody (topS 36), defScope (topS 36), [], []⟩
def d18 : He.DefD := ⟨("parted", none), "parted", "parted", defArgs (topS 37), defBody (topS 37), defScope (topS 37), [], []⟩
def d19 : He.DefD := ⟨("behind", none), "behind", "behind", defArgs (topS 39), defBody (topS 39), defScope (topS 39), [], []⟩
def d20 : He.DefD := ⟨("alike_from", none), "alike_from", "alike_from", defArgs (topS 41), defBody (topS 41), defScope (topS 41), [], []⟩
def d21 : He.DefD := ⟨("_law_source", none), "_law_source", "_law_source", defArgs (topS 43), defBody (topS 43), defScope (topS 43), [], []⟩
def d22 : He.DefD := ⟨("_law_draw", none), "_law_draw", "_law_draw", defArgs (topS 44), defBody (topS 44), defScope (topS 44), [], []⟩
def d23 : He.DefD := ⟨("_law_pick", none), "_law_pick", "_law_pick", defArgs (topS 45), defBody (topS 45), defScope (topS 45), [], []⟩
def d24 : He.DefD := ⟨("_law_numbers", none), "_law_numbers", "_law_numbers", defArgs (topS 46), defBody (topS 46), defScope (topS 46), [], []⟩
def d25 : He.DefD := ⟨("_law_rows", none), "_law_rows", "_law_rows", defArgs (topS 49), defBody (topS 49), defScope (topS 49), [], []⟩
def d26 : He.DefD := ⟨("_law_next", none), "_law_next", "_law_next", defArgs (topS 50), defBody (topS 50), defScope (topS 50), [], []⟩
def d27 : He.DefD := ⟨("_law_show", none), "_law_show", "_law_show", defArgs (topS 51), defBody (topS 51), defScope (topS 51), [], []⟩
def d28 : He.DefD := ⟨("_law_behind", none), "_law_behind", "_law_behind", defArgs (topS 52), defBody (topS 52), defScope (topS 52), [], []⟩
def d29 : He.DefD := ⟨("_law_all", none), "_law_all", "_law_all", defArgs (topS 53), defBody (topS 53), defScope (topS 53), [], []⟩
def d30 : He.DefD := ⟨("law", none), "law", "law", defArgs (topS 54), defBody (topS 54), defScope (topS 54), [], []⟩
def d31 : He.DefD := ⟨("Body", some "__init__"), "__init__", "Body.__init__", defArgs (inClass (topS 30) 0), defBody (inClass (topS 30) 0), defScope (inClass (topS 30) 0), [], [("start", .int 0)]⟩
def d32 : He.DefD := ⟨("Body", some "fill"), "fill", "Body.fill", defArgs (inClass (topS 30) 1), defBody (inClass (topS 30) 1), defScope (inClass (topS 30) 1), [], []⟩
def d33 : He.DefD := ⟨("Body", some "begin"), "begin", "Body.begin", defArgs (inClass (topS 30) 10), defBody (inClass (topS 30) 10), defScope (inClass (topS 30) 10), [], []⟩
def d34 : He.DefD := ⟨("Body", some "show_at"), "show_at", "Body.show_at", defArgs (inClass (topS 30) 11), defBody (inClass (topS 30) 11), defScope (inClass (topS 30) 11), [], []⟩
def d35 : He.DefD := ⟨("Body", some "nexts"), "nexts", "Body.nexts", defArgs (inClass (topS 30) 12), defBody (inClass (topS 30) 12), defScope (inClass (topS 30) 12), [], []⟩
def d36 : He.DefD := ⟨("Body", some "reached"), "reached", "Body.reached", defArgs (inClass (topS 30) 13), defBody (inClass (topS 30) 13), defScope (inClass (topS 30) 13), [], []⟩
def d37 : He.DefD := ⟨("Body", some "told"), "told", "Body.told", defArgs (inClass (topS 30) 14), defBody (inClass (topS 30) 14), defScope (inClass (topS 30) 14), [], []⟩
def d38 : He.DefD := ⟨("Body", some "asked"), "asked", "Body.asked", defArgs (inClass (topS 30) 15), defBody (inClass (topS 30) 15), defScope (inClass (topS 30) 15), [], []⟩
def d39 : He.DefD := ⟨("Meeting", some "__init__"), "__init__", "Meeting.__init__", defArgs (inClass (topS 34) 0), defBody (inClass (topS 34) 0), defScope (inClass (topS 34) 0), [], []⟩
def d40 : He.DefD := ⟨("Meeting", some "look"), "look", "Meeting.look", defArgs (inClass (topS 34) 1), defBody (inClass (topS 34) 1), defScope (inClass (topS 34) 1), [], []⟩
def d41 : He.DefD := ⟨("Stand", some "__init__"), "__init__", "Stand.__init__", defArgs (inClass (topS 40) 0), defBody (inClass (topS 40) 0), defScope (inClass (topS 40) 0), [.adr (He.dflAt ("Stand", some "__init__") 0), .non], []⟩
def d42 : He.DefD := ⟨("Stand", some "__len__"), "__len__", "Stand.__len__", defArgs (inClass (topS 40) 3), defBody (inClass (topS 40) 3), defScope (inClass (topS 40) 3), [], []⟩
def d43 : He.DefD := ⟨("Stand", some "__call__"), "__call__", "Stand.__call__", defArgs (inClass (topS 40) 4), defBody (inClass (topS 40) 4), defScope (inClass (topS 40) 4), [], []⟩
def fnl : List He.DefD := [d0, d1, d2, d3, d4, d5, d6, d7, d8, d9, d10, d11, d12, d13, d14, d15, d16, d17, d18, d19, d20, d21, d22, d23, d24, d25, d26, d27, d28, d29, d30, d31, d32, d33, d34, d35, d36, d37, d38, d39, d40, d41, d42, d43]
def fal : List He.Fa := [.glo "is_integer", .glo "is_name", .glo "is_row", .glo "is_index", .glo "frozen", .glo "is_operations", .glo "unlike_in", .glo "look_match", .glo "is_ask", .glo "is_body_row", .glo "look_body", .glo "settled", .glo "show_of", .glo "landings", .glo "look_history", .glo "shown", .glo "met_from_starts", .glo "parted_from", .glo "parted", .glo "behind", .glo "alike_from", .glo "_law_source", .glo "_law_draw", .glo "_law_pick", .glo "_law_numbers", .glo "_law_rows", .glo "_law_next", .glo "_law_show", .glo "_law_behind", .glo "_law_all", .glo "law", .glo "Body", .glo "Meeting", .glo "Stand", .free "isinstance", .free "int", .free "bool", .free "str", .free "len", .free "all", .free "list", .free "tuple", .free "dict", .free "min", .free "enumerate", .free "range", .free "zip", .free "sorted", .int "MOST_OPERATIONS" 8, .int "MOST_ANSWERS" 6, .int "MOST_ROWS" 400, .str "LETTERS" letters, .cls "Body", .cls "Meeting", .cls "Stand", .noat "Body" "own_operations", .noat "Body" "own_rows", .noat "Body" "own_start", .noat "Body" "land", .noat "Body" "own_asked", .noat "Meeting" "one", .noat "Meeting" "other", .noat "Meeting" "is_free", .noat "Meeting" "histories", .noat "Meeting" "order", .noat "Meeting" "found", .noat "Stand" "own_body", .noat "Stand" "own_past", .noat "Stand" "spot", .meth "Body" "fill", .meth "Body" "begin", .meth "Body" "show_at", .meth "Body" "nexts", .meth "Body" "reached", .meth "Body" "told", .meth "Body" "asked", .meth "Meeting" "look", .meth "Stand" "__call__", .meth "Stand" "__len__", .mkr "Body", .mkr "Meeting", .mkr "Stand"]
/-! ### the hook: the names, the defs, the properties -/
structure Pd where
  ad : PySem.W.Frag → Addr
  name : Str
  qual : Str
  params : Arguments
  body : List Stmt
  scope : Scope
def fnA (K : PySem.W.Frag) (a : Addr) : He.FnW := match K.lookup a with
  | some ⟨_, _, .func fd, _⟩ => some (fd.name, fd.qualname, fd.params, fd.body, fd.scope, fd.globals, fd.closure, fd.builtins)
  | _ => none
def Pd.val (d : Pd) : He.FnW := some (d.name, d.qual, d.params, .stmts d.body, d.scope, mainGlobals, [], builtinsNs)
def Pd.ok (K : PySem.W.Frag) (d : Pd) : Bool := PySem.W.keepIn K (.ref (d.ad K)) && (match K.lookup (d.ad K) with
  | some ⟨_, _, .func fd, _⟩ => PySem.W.codeIn K fd.code d.qual && He.dflB K fd.defaults []
  | _ => false)
theorem Pd.funD {K : PySem.W.Frag} {d : Pd} (e : fnA K (d.ad K) = d.val) (c : d.ok K = true) : ∃ fd, FunD K d.name d.qual d.params d.body d.scope [] [] (d.ad K) fd := by
  obtain ⟨kp, c2⟩ := He.ba c
  unfold fnA at e
  cases q : K.lookup (d.ad K) with
  | none =>
    rw [q] at c2
    cases c2
  | some o =>
    obtain ⟨oc, od, dt, osl⟩ := o
    rw [q] at c2 e
    cases dt with
    | func fd =>
      obtain ⟨n1, n2, n3, n4, n5, n6, n7, n8, n9, n10, n11, n12, n13, n14, n15⟩ := fd
      have e2 : (some (n1, n2, n3, n4, n5, n6, n7, n15) : He.FnW) = some (d.name, d.qual, d.params, .stmts d.body, d.scope, mainGlobals, [], builtinsNs) := e
      simp only [Option.some.injEq, Prod.mk.injEq] at e2
      obtain ⟨h1, h2, h3, h4, h5, h6, h7, h8⟩ := e2
      subst h1 h2 h3 h4 h5 h6 h7 h8
      have c3 : (PySem.W.codeIn K n13 d.qual && He.dflB K n8 []) = true := c2
      obtain ⟨k1, k3⟩ := He.ba c3
      exact ⟨_, ⟨oc, od, n8, n9, n10, n11, n12, n13, n14, osl, rfl, q, k1, He.dflB_ok k3, .inl rfl⟩, kp⟩
    | _ => cases c2
/-- the getter of the property f of the class x -/
def gAd (x f : Str) (K : PySem.W.Frag) : Addr := match PySem.W.recIn K (He.ma K (He.ga K x) f) "property" with
  | some (.ref g :: _) => g
  | _ => 0
def propB (K : PySem.W.Frag) (x f : Str) : Bool := He.eqO (PySem.W.findIn K (.ref (He.ga K x)) f) (some (some (.ref (He.ma K (He.ga K x) f)))) && (He.eqO (PySem.W.specialIn K (.ref (He.ma K (He.ga K x) f)) "__get__") (some (some (.builtin "property.__get__"))) &&
  (decide (PySem.W.takesIn K (.ref (He.ma K (He.ga K x) f)) = some true) && (match PySem.W.recIn K (He.ma K (He.ga K x) f) "property" with
    | some (.ref _ :: _) => true
    | _ => false)))
theorem propB_ok {K : PySem.W.Frag} {x f : Str} (h : propB K x f = true) : PropOf K (He.ga K x) f (He.ma K (He.ga K x) f) (gAd x f K) := by
  obtain ⟨h1, h⟩ := He.ba h
  obtain ⟨h2, h⟩ := He.ba h
  obtain ⟨h3, h4⟩ := He.ba h
  refine ⟨He.eqO_ok h1, He.eqO_ok h2, of_decide_eq_true h3, ?_⟩
  unfold gAd
  cases q : PySem.W.recIn K (He.ma K (He.ga K x) f) "property" with
  | none => rw [q] at h4; cases h4
  | some l =>
    rw [q] at h4
    cases l with
    | nil => cases h4
    | cons v r =>
      cases v with
      | ref g => exact ⟨r, rfl⟩
      | _ => cases h4
/-- an empty tuple -/
def tup0B (K : PySem.W.Frag) (a : Addr) : Bool := match K.lookup a with
  | some ⟨.type c, _, .seq its _, _⟩ => decide (c = "tuple") && decide (its = #[])
  | _ => false
theorem tup0B_ok {K : PySem.W.Frag} {a : Addr} (h : tup0B K a = true) (H : Hp) : SqT K H a [] := by
  unfold tup0B at h
  cases q : K.lookup a with
  | none => rw [q] at h; cases h
  | some o =>
    obtain ⟨oc, od, dt, osl⟩ := o
    rw [q] at h
    cases oc with
    | type c =>
      cases dt with
      | seq its n =>
        obtain ⟨h1, h2⟩ := He.ba h
        have e2 : its = #[] := of_decide_eq_true h2
        subst e2
        exact .inr ⟨_, #[], n, q, congrArg Value.type (of_decide_eq_true h1), rfl, Nat.zero_le _, .nil⟩
      | _ => cases h
    | _ => cases dt <;> cases h
def pds : List Pd := [⟨gAd "Stand" "shows", "shows", "Stand.shows", defArgs (inClass (topS 40) 1), defBody (inClass (topS 40) 1), defScope (inClass (topS 40) 1)⟩, ⟨gAd "Stand" "past", "past", "Stand.past", defArgs (inClass (topS 40) 2), defBody (inClass (topS 40) 2), defScope (inClass (topS 40) 2)⟩]
def exB (K : PySem.W.Frag) : Bool := propB K "Stand" "shows" && (propB K "Stand" "past" && (PySem.W.fnIn K (He.ma K (He.ga K "Stand") "__call__") && (tup0B K (He.dflAt ("Stand", some "__init__") 0 K) && pds.all fun d => d.ok K)))
abbrev AlQ : Type := He.AlD × Bool × List He.FnW
def obsQ (K : PySem.W.Frag) : AlQ := (He.obsD fal fnl K, exB K, pds.map fun d => fnA K (d.ad K))
def valQ : AlQ := (He.valD fnl, true, pds.map Pd.val)
def obG (g : Addr → Option Obj) : AlQ := obsQ (He.frG g (He.asD g 5))
def hkQ : PySem.W.Hook where
  α := AlQ
  obs := fun s => obG s.heap.get?
  val := fun _ => valQ
  says := fun _ h => ∃ K : PySem.W.Frag, K.In h ∧ obsQ K = valQ
  of := fun _ _ e => ⟨_, He.frG_in, e⟩
  keeps := fun _ _ _ ⟨K, hK, c⟩ k => ⟨K, PySem.W.Frag.In.keeps hK k, c⟩
theorem obG_eq {g : Addr → Option Obj} {s : Shared} (h : ∀ a, g a = s.heap.get? a) : obG g = hkQ.obs s := by
  have e : g = s.heap.get? := funext h
  rw [e] <;> rfl
abbrev RR : PySem.W.OpenRow := PySem.W.OpenLaw.row PySem.Challenge.rw_askfurther_k59_whole_stands_led_on_every
def ob (s : PySem.W.SharedT) : AlQ := obG (HandSHeadRun.getT s)
theorem ob_eq (s : PySem.W.SharedT) : ob s = hkQ.obs s.abs := obG_eq (HandSHeadRun.getT_eq s)
def loose1 : List PySem.Str := ["_wall", "AskError", "BadOperations", "BadBody", "BadStart", "NoRow", "BadHistory", "Mismatch", "BadAnswer", "MOST_OPERATIONS", "MOST_ANSWERS", "LETTERS", "is_integer", "is_name", "is_row", "is_index", "frozen", "is_operations", "unlike_in", "look_match", "MOST_ROWS", "is_ask", "is_body_row", "look_body", "settled", "show_of", "landings", "Body"]
def loose2 : List PySem.Str := ["look_history", "shown", "Meeting", "met_from_starts", "parted_from", "parted", "behind", "Stand", "alike_from", "_law_source", "_law_draw", "_law_pick", "_law_numbers", "_law_clause", "_law_handler", "_law_rows", "_law_next", "_law_show", "_law_behind", "_law_all", "__name__"]
def loose : List PySem.Str := loose1 ++ loose2
set_option maxHeartbeats 0 in
theorem run (w : World) : HandSHeadRun.RunEq RR (PySem.W.view RR.prog [54]) hkQ ob 6000 loose w := by
  intro os
  kernel_rfl
end Ask

namespace Ask
open PySem PySem.Spec PyProof.Rows L2 Evl
/-! ### what the head's facts give -/
section
variable {P : Program} {w : World} {K : PySem.W.Frag} {mg : Str → Option Value} {h : Heap}
theorem dhq (X : K.In h) (G : h.Ns mainGlobals mg) (c : He.SaysD fal fnl K) {x : Str} {st : Stmt} (i j : Nat) (hi : fnl[i]? = some ⟨(x, none), x, x, defArgs st, defBody st, defScope st, [], []⟩) (hj : fal[j]? = some (.glo x)) : Dh K mg x st := by
  obtain ⟨fd, F⟩ := c.def_ i hi
  exact ⟨_, fd, F, He.glo_ok X G (c.fact j hj)⟩
theorem dmq (c : He.SaysD fal fnl K) {cn m qual : Str} {st : Stmt} (i j : Nat) (hi : fnl[i]? = some ⟨(cn, some m), m, qual, defArgs st, defBody st, defScope st, [], []⟩) (hj : fal[j]? = some (.meth cn m)) : Dm K (He.ga K cn) m qual st := by
  obtain ⟨fd, F⟩ := c.def_ i hi
  exact ⟨_, fd, F, He.meth_ok (c.fact j hj)⟩
theorem frq (X : K.In h) (G : h.Ns mainGlobals mg) (c : He.SaysD fal fnl K) {x : Str} (j : Nat) (hj : fal[j]? = some (.free x)) : mg x = none := He.free_ok X G (c.fact j hj)
theorem naq (c : He.SaysD fal fnl K) {cn f : Str} (j : Nat) (hj : fal[j]? = some (.noat cn f)) : NoAttr K (He.ga K cn) f := He.noat_ok (c.fact j hj)
theorem all_facts (X : K.In h) (G : h.Ns mainGlobals mg) (e : obsQ K = valQ) (base : Heap) : Bn mg ∧ ∃ CB CS gC gL : Addr, LE P w K mg base CB CS gC gL := by
  have c : He.SaysD fal fnl K := congrArg (fun z : AlQ => z.1) e
  have ex : exB K = true := congrArg (fun z : AlQ => z.2.1) e
  have pe : (pds.map fun d => fnA K (d.ad K)) = pds.map Pd.val := congrArg (fun z : AlQ => z.2.2) e
  obtain ⟨x1, ex⟩ := He.ba ex
  obtain ⟨x2, ex⟩ := He.ba ex
  obtain ⟨x3, ex⟩ := He.ba ex
  obtain ⟨x4, x5⟩ := He.ba ex
  have B : Bn mg := ⟨frq X G c 34 rfl, frq X G c 35 rfl, frq X G c 36 rfl, frq X G c 37 rfl, frq X G c 38 rfl, frq X G c 39 rfl, frq X G c 40 rfl, frq X G c 41 rfl, frq X G c 42 rfl, frq X G c 43 rfl, frq X G c 44 rfl, frq X G c 45 rfl, frq X G c 46 rfl, frq X G c 47 rfl⟩
  have gL := He.str_ok X G (c.fact 51 (f := .str "LETTERS" letters) rfl)
  have gO := He.int_ok X G (c.fact 48 (f := .int "MOST_OPERATIONS" 8) rfl)
  have gA := He.int_ok X G (c.fact 49 (f := .int "MOST_ANSWERS" 6) rfl)
  have gM := He.int_ok X G (c.fact 50 (f := .int "MOST_ROWS" 400) rfl)
  have D_is_integer : Dh K mg "is_integer" (topS 14) := dhq X G c 0 0 rfl rfl
  have D_is_name : Dh K mg "is_name" (topS 15) := dhq X G c 1 1 rfl rfl
  have D_is_row : Dh K mg "is_row" (topS 16) := dhq X G c 2 2 rfl rfl
  have D_is_index : Dh K mg "is_index" (topS 17) := dhq X G c 3 3 rfl rfl
  have D_frozen : Dh K mg "frozen" (topS 18) := dhq X G c 4 4 rfl rfl
  have D_is_operations : Dh K mg "is_operations" (topS 19) := dhq X G c 5 5 rfl rfl
  have D_unlike_in : Dh K mg "unlike_in" (topS 20) := dhq X G c 6 6 rfl rfl
  have D_look_match : Dh K mg "look_match" (topS 21) := dhq X G c 7 7 rfl rfl
  have D_is_ask : Dh K mg "is_ask" (topS 24) := dhq X G c 8 8 rfl rfl
  have D_is_body_row : Dh K mg "is_body_row" (topS 25) := dhq X G c 9 9 rfl rfl
  have D_look_body : Dh K mg "look_body" (topS 26) := dhq X G c 10 10 rfl rfl
  have D_settled : Dh K mg "settled" (topS 27) := dhq X G c 11 11 rfl rfl
  have D_show_of : Dh K mg "show_of" (topS 28) := dhq X G c 12 12 rfl rfl
  have D_landings : Dh K mg "landings" (topS 29) := dhq X G c 13 13 rfl rfl
  have D_look_history : Dh K mg "look_history" (topS 31) := dhq X G c 14 14 rfl rfl
  have D_shown : Dh K mg "shown" (topS 32) := dhq X G c 15 15 rfl rfl
  have D_met_from_starts : Dh K mg "met_from_starts" (topS 35) := dhq X G c 16 16 rfl rfl
  have D_parted_from : Dh K mg "parted_from" (topS 36) := dhq X G c 17 17 rfl rfl
  have D_parted : Dh K mg "parted" (topS 37) := dhq X G c 18 18 rfl rfl
  have D_behind : Dh K mg "behind" (topS 39) := dhq X G c 19 19 rfl rfl
  have D_alike_from : Dh K mg "alike_from" (topS 41) := dhq X G c 20 20 rfl rfl
  have D__law_source : Dh K mg "_law_source" (topS 43) := dhq X G c 21 21 rfl rfl
  have D__law_draw : Dh K mg "_law_draw" (topS 44) := dhq X G c 22 22 rfl rfl
  have D__law_pick : Dh K mg "_law_pick" (topS 45) := dhq X G c 23 23 rfl rfl
  have D__law_numbers : Dh K mg "_law_numbers" (topS 46) := dhq X G c 24 24 rfl rfl
  have D__law_rows : Dh K mg "_law_rows" (topS 49) := dhq X G c 25 25 rfl rfl
  have D__law_next : Dh K mg "_law_next" (topS 50) := dhq X G c 26 26 rfl rfl
  have D__law_show : Dh K mg "_law_show" (topS 51) := dhq X G c 27 27 rfl rfl
  have D__law_behind : Dh K mg "_law_behind" (topS 52) := dhq X G c 28 28 rfl rfl
  have D__law_all : Dh K mg "_law_all" (topS 53) := dhq X G c 29 29 rfl rfl
  have M_fill : Dm K (He.ga K "Body") "fill" "Body.fill" (inClass (topS 30) 1) := dmq c 32 69 rfl rfl
  have M_begin : Dm K (He.ga K "Body") "begin" "Body.begin" (inClass (topS 30) 10) := dmq c 33 70 rfl rfl
  have M_show_at : Dm K (He.ga K "Body") "show_at" "Body.show_at" (inClass (topS 30) 11) := dmq c 34 71 rfl rfl
  have M_nexts : Dm K (He.ga K "Body") "nexts" "Body.nexts" (inClass (topS 30) 12) := dmq c 35 72 rfl rfl
  have M_reached : Dm K (He.ga K "Body") "reached" "Body.reached" (inClass (topS 30) 13) := dmq c 36 73 rfl rfl
  have M_told : Dm K (He.ga K "Body") "told" "Body.told" (inClass (topS 30) 14) := dmq c 37 74 rfl rfl
  have M_asked : Dm K (He.ga K "Body") "asked" "Body.asked" (inClass (topS 30) 15) := dmq c 38 75 rfl rfl
  have M_look : Dm K (He.ga K "Meeting") "look" "Meeting.look" (inClass (topS 34) 1) := dmq c 40 76 rfl rfl
  have TB : BodyC K (He.ga K "Body") := ⟨He.cls_ok (c.fact 52 (f := .cls "Body") rfl), naq c 55 rfl, naq c 56 rfl, naq c 57 rfl, naq c 58 rfl, naq c 59 rfl⟩
  have TM : MeetC K (He.ga K "Meeting") := ⟨He.cls_ok (c.fact 53 (f := .cls "Meeting") rfl), naq c 60 rfl, naq c 61 rfl, naq c 62 rfl, naq c 63 rfl, naq c 64 rfl, naq c 65 rfl⟩
  have TS : StandC K (He.ga K "Stand") := ⟨He.cls_ok (c.fact 54 (f := .cls "Stand") rfl), naq c 66 rfl, naq c 67 rfl, naq c 68 rfl⟩
  have gBody : mg "Body" = some (.ref (He.ga K "Body")) := He.glo_ok X G (c.fact 31 (f := .glo "Body") rfl)
  have kBody : Mk K (He.ga K "Body") (He.ma K (He.ga K "Body") "__init__") := He.mkr_ok (c.fact 79 (f := .mkr "Body") rfl)
  have gMeeting : mg "Meeting" = some (.ref (He.ga K "Meeting")) := He.glo_ok X G (c.fact 32 (f := .glo "Meeting") rfl)
  have kMeeting : Mk K (He.ga K "Meeting") (He.ma K (He.ga K "Meeting") "__init__") := He.mkr_ok (c.fact 80 (f := .mkr "Meeting") rfl)
  have gStand : mg "Stand" = some (.ref (He.ga K "Stand")) := He.glo_ok X G (c.fact 33 (f := .glo "Stand") rfl)
  have kStand : Mk K (He.ga K "Stand") (He.ma K (He.ga K "Stand") "__init__") := He.mkr_ok (c.fact 81 (f := .mkr "Stand") rfl)
  have DB : DBInit K (He.ga K "Body") := by
    obtain ⟨fd, F⟩ := c.def_ 31 rfl
    exact ⟨_, fd, F, kBody⟩
  have DM : DMInit K (He.ga K "Meeting") := by
    obtain ⟨fd, F⟩ := c.def_ 39 rfl
    exact ⟨_, fd, F, kMeeting⟩
  have DS : DSInit K (He.ga K "Stand") := by
    obtain ⟨fd, F⟩ := c.def_ 41 rfl
    exact ⟨_, fd, _, F, tup0B_ok x4, kStand⟩
  obtain ⟨fdL, FL⟩ := c.def_ 42 rfl
  obtain ⟨fdC, FC⟩ := c.def_ 43 rfl
  have mL := He.meth_ok (c.fact 78 (f := .meth "Stand" "__len__") rfl)
  have mC := He.meth_ok (c.fact 77 (f := .meth "Stand" "__call__") rfl)
  have pq : ∀ (i : Nat) (d : Pd), pds[i]? = some d → ∃ fd, FunD K d.name d.qual d.params d.body d.scope [] [] (d.ad K) fd := fun i d hd => by
    have e2 : (pds.map fun d => fnA K (d.ad K))[i]? = (pds.map Pd.val)[i]? := by rw [pe]
    rw [List.getElem?_map, List.getElem?_map, hd] at e2
    exact Pd.funD (Option.some.inj e2) (List.all_eq_true.mp x5 d (List.mem_of_getElem? hd))
  obtain ⟨fd1, F1⟩ := pq 0 _ rfl
  obtain ⟨fd2, F2⟩ := pq 1 _ rfl
  have P1 : DPr K (He.ga K "Stand") "shows" "Stand.shows" sShows := ⟨_, _, fd1, propB_ok x1, F1⟩
  have P2 : DPr K (He.ga K "Stand") "past" "Stand.past" sPast := ⟨_, _, fd2, propB_ok x2, F2⟩
  have c_int := cal_isInt (P := P) (w := w) (base := base) B D_is_integer
  have c_name := cal_isName (P := P) (w := w) (base := base) B gL D_is_name
  have c_row := cal_isRow (P := P) (w := w) (base := base) B D_is_row
  have c_index := cal_isIndex D_is_index c_int
  have c_frozen := cal_frozen B D_frozen c_row 2
  have c_ops := cal_isOps B gO gA D_is_operations c_name c_index
  have c_ask := cal_isAsk B D_is_ask c_name c_row c_index
  have c_body := cal_isBody B D_is_body_row c_name c_row c_index c_ask
  have c_look := cal_look B gM D_look_body c_ops c_row c_index c_body
  have c_settled := cal_settled (P := P) (w := w) (base := base) B D_settled
  have c_show := cal_showOf (P := P) (w := w) (base := base) D_show_of
  have c_land := cal_landings (P := P) (w := w) (base := base) B D_landings
  have c_next := cal_next (P := P) (w := w) (base := base) B D__law_next
  have c_showL := cal_showL (P := P) (w := w) (base := base) B D__law_show
  have c_behL := cal_behindL B D__law_behind c_next
  have c_all := cal_allL B D__law_all c_next
  have c_unl := cal_unlike (P := P) (w := w) (base := base) B D_unlike_in
  have c_match := cal_match D_look_match c_unl
  have c_src := cal_source (P := P) (w := w) (base := base) (K := K) B D__law_source
  have c_drw := cal_draw (P := P) (w := w) (base := base) (K := K) B D__law_draw
  have c_pck := cal_pick B D__law_pick c_drw
  have c_num := cal_numbers B D__law_numbers c_drw
  have c_rws := cal_rowsG B D__law_rows c_drw c_pck
  have m_begin := cal_begin (P := P) (w := w) (mg := mg) (base := base) TB M_begin
  have m_show := cal_showAt TB M_show_at c_show
  have m_nexts := cal_nexts (P := P) (w := w) (mg := mg) (base := base) TB M_nexts
  have m_reached := cal_reached B TB M_reached m_begin m_nexts
  have m_told := cal_told B TB M_told m_reached m_show
  have m_asked := cal_asked TB M_asked m_told
  have m_fill := cal_fill B TB M_fill c_frozen c_land m_asked
  have bmk := bmake TB DB gBody c_look m_fill
  have c_lookH := cal_lookH B TB D_look_history c_row c_name c_index m_begin m_show m_nexts
  have c_shown := cal_shown TB D_shown c_lookH m_show
  have m_look := cal_mlook B TM TB M_look m_show m_nexts
  have mmk := mmake B TM TB DM gMeeting m_look
  have c_pf := cal_partedF TM D_parted_from mmk
  have c_met := cal_met TB D_met_from_starts mmk c_match m_begin
  have c_par := cal_parted TM D_parted c_met
  have c_beh := cal_behind B TB D_behind c_int c_settled
  have smk := smake TS TB DS gStand c_settled
  have p_shows := cal_shows TS TB P1 c_show
  have p_past := cal_past (P := P) (w := w) (mg := mg) (base := base) TS P2
  have f_len := cal_slen (P := P) (w := w) (base := base) B TS FL
  have f_call := cal_scall TS TB FC c_beh smk
  have c_alk := cal_alike TS TB D_alike_from c_match c_pf
  exact ⟨B, _, _, _, _, ⟨c_src, c_drw, c_pck, c_num, c_rws, c_showL, c_behL, c_all, c_shown, c_alk, c_par, bmk, smk, p_shows, p_past, ⟨mC.at_, mC.fn, x3⟩, f_call, mL.at_, mL.fn, f_len, TB, TS⟩⟩
theorem law_fact (X : K.In h) (G : h.Ns mainGlobals mg) {fa : Addr} (hfa : mg ("law" : Str) = some (.ref fa)) (e : obsQ K = valQ) :
    ∃ fd : FuncData, (∀ (s : Shared) (v : Value), BindsTo s fd ⟨[v], []⟩ [("_law_script", v)]) ∧ ∀ base : Heap, K.In base → base.Ns mainGlobals mg → FnOk P w K mg base CX0 9 fa fd ["_law_script"] (spLaw K) := by
  have c : He.SaysD fal fnl K := congrArg (fun z : AlQ => z.1) e
  obtain ⟨fd, F⟩ := c.def_ 30 rfl
  have e2 := hfa.symm.trans (He.glo_ok X G (c.fact 30 (f := .glo "law") rfl))
  cases e2
  have b := FunD.bindsA (ps := ["_law_script"]) F fun _ _ _ _ _ _ us hl => match us, hl with | [_], _ => rfl
  refine ⟨fd, fun s v => b s [v] rfl, fun base _ _ => ?_⟩
  obtain ⟨B, CB, CS, gC, gL, L⟩ := all_facts (P := P) (w := w) X G e base
  exact ok_law B F L
end
end Ask

open PySem PySem.W PySem.Calls PyProof.Rows in
set_option maxHeartbeats 0 in
theorem PySem.Challenge.cw_askfurther_k59_whole_stands_led_on_every_holds : PySem.Challenge.rw_askfurther_k59_whole_stands_led_on_every.Holds := by
  w_on; o_law
  refine HandSHeadRun.head_any (r := OpenLaw.row PySem.Challenge.rw_askfurther_k59_whole_stands_led_on_every) (q := view (OpenLaw.row PySem.Challenge.rw_askfurther_k59_whole_stands_led_on_every).prog [54]) (H := Ask.hkQ) (ob := Ask.ob) (M := 6000) (loose := Ask.loose) (d := HandSHeadRun.topDef (OpenLaw.row PySem.Challenge.rw_askfurther_k59_whole_stands_led_on_every).prog 54) (kwd := []) Ask.ob_eq
    (by kernel_rfl) (fun s => by kernel_rfl) Ask.run (by kernel_rfl) (by kernel_rfl) (by kernel_rfl) (by rfl) (by first | assumption | decide +kernel) (by decide +kernel) ⟨rfl, rfl, rfl, rfl, rfl, by decide +kernel⟩ ?hw ?hc
  case hw => w_witness2
  case hc =>
    refine L2.walk_ofE (l := PySem.Challenge.rw_askfurther_k59_whole_stands_led_on_every) (n := 63) (k := 9) (x := "_law_script") (CX := L2.CX0) rfl (by decide) (by kernel_rfl) ⟨rfl, by decide, by decide⟩ ?F (fun _ _ _ _ z => z)
    intro w mg fa h Y G hmg0
    obtain ⟨K, KX, c⟩ := Y
    have hmg : mg ("law" : PySem.Str) = some (.ref fa) := by
      have e : (HandSHeadRun.topDef (OpenLaw.row PySem.Challenge.rw_askfurther_k59_whole_stands_led_on_every).prog 54).name = ("law" : PySem.Str) := by kernel_rfl
      rw [← e]
      exact hmg0
    obtain ⟨fd, hb, hF⟩ := Ask.law_fact (P := (PySem.Challenge.rw_askfurther_k59_whole_stands_led_on_every).prog) (w := w) KX G hmg c
    exact ⟨K, fd, Ask.spLaw K, KX, hb, fun H a ns hl _ hS => ⟨a, ns, rfl, hS, fun _ => rfl⟩, hF⟩
