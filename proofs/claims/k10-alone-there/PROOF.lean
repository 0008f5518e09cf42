import PyProof.Rows.All
import Wide.All
import OpenK.AllK
import Wide.FinOn
import HandS.ForMost
import KE.SortData
import KE.DataCmp
import KE.GoesEnum
import KE.DataMinMax
import HandS.TupMul
import HandS.Style
import HandS.Conv
import HandS.Zip
import HandS.ExcInit
import HandS.ExcInitHot
import HandS.ExcIs
import HandS.ExcField
import HandS.ExcCtx
import HandS.HotCalls
import HandS.IsInst
import HandS.ClsMeth
import HandS.Defaults
import HandS.ForExc
import HandS.HeadEnd
import HandS.HeadHook2
import HandS.TupAny
import HandS.Deep
import HandS.Wide
import PyProof.Rows.IntBool
import HandS.Walk
import HandS.RaiseMore
import HandS.ExcOwn
import HandS.WordsDict
import HandS.DictComp
import HandS.Comp
import HandS.Hot
import HandS.HeadHook4
import HandS.Head0
import HandS.Head1
import HandS.Head2
import PySem.Challenge.RW_spanloom_k10_what_is_alone_and_where_it
import HandS.Codes
set_option Elab.async false
set_option linter.all false
set_option maxRecDepth 100000
set_option Elab.async false
set_option maxHeartbeats 4000000
namespace Fx
open PySem L2
open PyProof.Rows hiding St

/-! ### sorted of anything whose items are data -/
mutual
theorem reads_mem {h : Heap} : ∀ (d : PyData) (v : Value) (as : List Addr), PySem.W.alike d d = true → Reads h v d as → ∀ a ∈ as, ∃ o, h.get? a = some o
  | .none, _, _, _, r, a, m => by cases r; cases m
  | .bool _, _, _, _, r, a, m => by cases r; cases m
  | .int _, _, _, _, r, a, m => by cases r; cases m
  | .str _, _, _, _, r, a, m => by cases r; cases m
  | .list xs, _, _, q, r, a, m => by
    cases r with
    | list h1 h2 h3 h4 =>
      rcases List.mem_cons.mp m with rfl | m
      · exact ⟨_, h1⟩
      · exact readsAll_mem xs _ _ (by simpa [PySem.W.alike] using q) h4 a m
  | .tuple xs, _, _, q, r, a, m => by
    cases r with
    | tuple h1 h2 h3 h4 => exact readsAll_mem xs _ _ (by simpa [PySem.W.alike] using q) h4 a m
  | .dict xs, _, _, q, r, a, m => by simp [PySem.W.alike] at q
theorem readsAll_mem {h : Heap} : ∀ (ds : List PyData) (vs : List Value) (as : List Addr), PySem.W.alikeAll ds ds = true → ReadsAll h vs ds as → ∀ a ∈ as, ∃ o, h.get? a = some o
  | [], _, _, _, r, a, m => by cases r; cases m
  | d :: ds, _, _, q, r, a, m => by
    cases r with
    | cons h1 h2 =>
      have q' := PySem.W.alike_all_cons q
      rcases List.mem_append.mp m with m | m
      · exact reads_mem d _ _ q'.1 h1 a m
      · exact readsAll_mem ds _ _ q'.2 h2 a m
end
section
open PySem.W
variable {prog : Program} {w : World} {A : Around} {E : Value → Shared → Prop} {s : Shared} {β : Type} {vs : List Value} {bs : List β} {enc : β → PyData} {R : Value → β → Prop}
/-- the items of a list or tuple, one by one -/
theorem coll_seq {it : Addr} {T : String} {o : Obj} {its : Array Value} {n : Nat} {Q : List Value → Shared → Prop} (hT : T = "list" ∨ T = "tuple") (ho : s.heap.get? it = some o) (hc : o.cls = .type T) (hd : o.data = .seq its n) (hz : its.size ≤ sizeLine)
    (fin : ∀ h1, (∀ b u, s.heap.get? b = some u → h1.get? b = some u) → s.heap.objs.size ≤ h1.objs.size → Q its.toList { s with heap := h1 }) : wpAny (model prog w) A (collect (.ref it)) Q E s := by
  unfold collect
  refine wpAny_bind (wpAny_runValue (codeAny_builtin F.entry_proto_collect ?_))
  rw [Around.under_plainId F.plain_proto_collect _]
  show wpAny (model prog w) A.in1 (newList [] >>= fun x => again (.builtin "list.__iadd__" ⟨[x, .ref it], []⟩)) _ _ s
  refine wpAny_bind (wpAny_newObj_type (wpAny_pure ⟨plainId_quiet F.plain_list_iadd _, codeAny_builtin F.entry_list_iadd ?_⟩))
  rw [Around.under_plainId F.plain_list_iadd _]
  generalize hS : ({ cls := .type "list", data := .seq ([] : List Value).toArray } : Obj) = nw
  have g1 : (s.heap.push nw).get? s.heap.objs.size = some { cls := .type "list", data := .seq #[] 0 } := by subst hS; exact Heap.get?_push_size _ rfl
  have g2 := Heap.get?_update_self (Obj.mapSeq (· ++ its)) g1 rfl
  have k1 : ∀ b u, s.heap.get? b = some u → ((s.heap.push nw).update s.heap.objs.size (Obj.mapSeq (· ++ its))).get? b = some u := fun b u q =>
    (Heap.get?_update_other _ _ (Nat.ne_of_gt (Heap.lt_size q))).trans (Heap.get?_push_of_some _ q)
  have k2 : s.heap.objs.size ≤ ((s.heap.push nw).update s.heap.objs.size (Obj.mapSeq (· ++ its))).objs.size := by
    rw [Heap.size_update, Heap.size_push]; exact Nat.le_succ _
  have fin' : wpAny (model prog w) A (match Value.ref s.heap.objs.size with
      | Value.ref a => do
        match (← load a).data with
          | Data.seq xs _ => pure xs.toList
          | _ => unsupported "internal:collect"
      | _ => unsupported "internal:collect") Q E { s with heap := (s.heap.push nw).update s.heap.objs.size (Obj.mapSeq (· ++ its)) } := by
    refine wpAny_bind (m := load s.heap.objs.size) (wpAny_load g2 (wpAny_pure ?_))
    have e1 : ((#[] : Array Value) ++ its).toList = its.toList := by simp
    show Q ((#[] : Array Value) ++ its).toList _
    rw [e1]
    exact fin _ k1 k2
  refine wpAny_mono (wpAny_extend_seq (hsz := hz) (A := A) (R := fun r s' => r = .ok (.ret (.ref s.heap.objs.size)) ∧ s' = { s with heap := (s.heap.push nw).update s.heap.objs.size (Obj.mapSeq (· ++ its)) })
    (s := { s with heap := s.heap.push nw }) _ it _ 0 hT g1 (Heap.get?_push_of_some _ ho) hc hd ⟨rfl, rfl⟩) (fun f s' z => ?_) (fun e s' z => absurd z.1 (by simp))
  cases f with
  | done f =>
    obtain ⟨z1, rfl⟩ := z
    cases z1
    exact fin'
  | again c => exact ⟨z.1, codeAny_mono z.2 fun r s2 y => by obtain ⟨rfl, rfl⟩ := y; exact fin'⟩
/-- sorted(x), whatever is walked: its items vs -/
theorem sorted_coll {arg : Value} {Q : Value → Shared → Prop}
    (hc : ∀ (A' : Around) (E' : Value → Shared → Prop) (Q' : List Value → Shared → Prop), A'.handled = A.handled → (∀ h' tk, (∀ b o, s.heap.get? b = some o → h'.get? b = some o) → s.heap.objs.size ≤ h'.objs.size → Q' vs { s with heap := h', toks := tk }) → wpAny (model prog w) A' (collect arg) Q' E' s)
    (e : EachIs R vs bs) (er : EachIs (fun v b => ∃ as, Reads s.heap v (enc b) as) vs bs) (hal : AllAlike (bs.map enc)) (hk : Sortable (bs.map enc)) (hL : bs.length ≤ sizeLine)
    (hu : ∀ b, b ∈ bs → A.units + 3 + (enc b).depth < cLine)
    (h : ∀ out a c h' tk, (∀ b o, s.heap.get? b = some o → h'.get? b = some o) → s.heap.objs.size ≤ a → h'.get? a = some (seqObj "list" (List.toArray out) c) → out.length = bs.length → EachIs R out (bs.mergeSort (dataLe false enc)) → Q (.ref a) { s with heap := h', toks := tk }) :
    wpAny (model prog w) A (call (.builtin "sorted") [arg]) Q E s := by
  have hL' : vs.length ≤ sizeLine := by rw [e.length]; exact hL
  refine call_function_entry_kw kind_sorted plain_sorted entry_sorted (args_sorted1 _) ?_
  unfold Builtin.«sorted»
  refine wpAny_bind (m := checkCount "sorted" 1 1 _) (wpAny_pure ?_)
  refine wpAny_bind (hc _ _ _ rfl fun h1 tk k1 k2 => ?_)
  refine wpAny_bind (wpAny_newList ?_ hL')
  have g1 : (h1.push (seqObj "list" vs.toArray 0)).get? h1.objs.size = some (seqObj "list" vs.toArray 0) := Heap.get?_push_size _ rfl
  have er' : EachIs (fun v b => ∃ as, Reads (h1.push (seqObj "list" vs.toArray 0)) v (enc b) as ∧ h1.objs.size ∉ as) vs bs := (each_mem er).mono fun v b ⟨⟨as, r⟩, hb⟩ => by
    have ha := hal (enc b) (List.mem_map.mpr ⟨b, hb, rfl⟩) (enc b) (List.mem_map.mpr ⟨b, hb, rfl⟩)
    refine ⟨as, PyProof.Rows.Reads.keeps (fun c u q => Heap.get?_push_of_some _ (k1 c u q)) r, fun m => ?_⟩
    obtain ⟨o, q⟩ := reads_mem _ _ _ ha r _ m
    exact absurd (Heap.lt_size (k1 _ _ q)) (Nat.lt_irrefl _)
  refine wpAny_bind (wpAny_holding (list_sort_data (s := ⟨h1.push (seqObj "list" vs.toArray 0), s.gens, s.drawn, tk, s.os⟩) g1 e er' hal hk hL (fun b hb => by have := hu b hb; first | omega | (show A.in1.units + _ + _ < _; simp only [Around.in1]; omega)) fun out ho eo => ?_))
  obtain ⟨c, hc2⟩ := sortedHeap_at (out := out.toArray) g1
  refine wpAny_pure ?_
  refine ⟨_, rfl, ?_⟩
  refine h out h1.objs.size c _ tk (fun b o q => ?_) k2 hc2 ho eo
  rw [sortedHeap_old (fun z => absurd (Heap.lt_size (k1 b o q)) (by rw [z]; exact Nat.lt_irrefl _)) (by rw [size_push']; exact Nat.lt_succ_of_lt (Heap.lt_size (k1 b o q)))]
  exact Heap.get?_push_of_some _ (k1 b o q)
end
end Fx

set_option maxHeartbeats 4000000
namespace Fx
open PySem L2
open PyProof.Rows hiding St

/-! ### enumerate of a tuple, of a text -/
theorem meets_enum1 {v : Value} {o : Obj} {Hh : Heap → Prop} (B : Begins v o Hh) :
    Meets (Builtin.«enumerate.__new__» ⟨[.type "enumerate", v], []⟩) (fun _ R s => Hh s.heap ∧
      R (.ok (.ret (.ref (s.heap.push o).objs.size))) { s with heap := (s.heap.push o).push { cls := .type "enumerate", data := .fields #[.none, .bool false, .ref s.heap.objs.size, rawInt 0, .none, .none] } }) :=
  .of_wp fun prog w A R s hyp => by
    obtain ⟨hp, g, d, tk, os⟩ := s
    obtain ⟨hb, fin⟩ := hyp
    have sub1 := sub_enumerate
    have go : ∀ {A1 : Around} {E1 : Value → Shared → Prop} {Q1 : Value → Shared → Prop}, Q1 (.ref hp.objs.size) ⟨hp.push o, g, d, tk, os⟩ → wpAny (model prog w) A1 (pyIter v) Q1 E1 ⟨hp, g, d, tk, os⟩ := fun z => B.iter prog w _ _ ⟨hp, g, d, tk, os⟩ _ hb z
    wp_walk using go
    refine wpAny_stack_any fun st => wpAny_pure ?_
    split
    · rename_i c _ _ _ _ _
      cases (c == Value.type "enumerate") <;> (wp_walk using go; exact ⟨_, rfl, fin⟩)
    · wp_walk using go
      exact ⟨_, rfl, fin⟩
section
variable {prog : Program} {w : World} {A : Around} {E : Value → Shared → Prop} {s : Shared}
theorem call_enum1 {v : Value} {o : Obj} {Hh : Heap → Prop} (B : Begins v o Hh) {Q : Value → Shared → Prop} (hb : Hh s.heap)
    (fin : ∀ h1, IsEnum h1 (s.heap.objs.size + 1) s.heap.objs.size 0 .none → h1.get? s.heap.objs.size = some o → (∀ b u, s.heap.get? b = some u → h1.get? b = some u) → Q (.ref (s.heap.objs.size + 1)) { s with heap := h1 }) :
    wpAny (model prog w) A (call (.type "enumerate") [v]) Q E s := by
  refine callType_new F.called_enumerate (by decide) (F.typeCall_enumerate_1 _) (F.newCall_enumerate_1 _) (fun x => F.args_object_init_2 x _) F.entry_enumerate_new (meets_enum1 B) ⟨hb, ?_⟩
  have hz : (s.heap.push o).objs.size = s.heap.objs.size + 1 := Heap.size_push ..
  show _ ∧ _
  rw [hz]
  have he : IsEnum ((s.heap.push o).push { cls := .type "enumerate", data := .fields #[.none, .bool false, .ref s.heap.objs.size, rawInt 0, .none, .none] }) (s.heap.objs.size + 1) s.heap.objs.size 0 .none := by
    have z := Heap.get?_push_size (s.heap.push o) (o := { cls := .type "enumerate", data := .fields #[.none, .bool false, .ref s.heap.objs.size, rawInt 0, .none, .none] }) rfl
    rw [hz] at z; exact z
  exact ⟨⟨_, he, rfl⟩, fin _ he (Heap.get?_push_of_some _ (Heap.get?_push_size _ B.free)) fun b u x => Heap.get?_push_of_some _ (Heap.get?_push_of_some _ x)⟩
end
/-- the tuple at a as it stands at each turn, the items in new pairs -/
def IteT (K : PySem.W.Frag) (a : Addr) : L2.It :=
  ⟨fun i H => ∃ (xs : List V) (x : V), SqT K H a xs ∧ xs[i]? = some x, fun i H v H' => ∃ T x, v = .ref T ∧ H T = none ∧ H' = upd H T (.tup [.int (i : Nat), x]) ∧ ∀ xs, SqT K H a xs → xs[i]? = some x, fun i H => ∃ xs : List V, SqT K H a xs ∧ xs.length = i⟩
theorem turn_enumT {P : Program} {w : World} {K : PySem.W.Frag} {elts : List Expr} {kk : Nat} {tpos : Pos} (a e it : Addr) :
    Turn P w K (.Tuple elts kk tpos) (IteT K a) [e, it] e (fun i h => (∃ old, IsEnum h e it ((i : Nat) : Int) old) ∧ h.IsTupleIter it a i ∧ e ≠ it ∧ a ≠ it ∧ e ≠ a) where
  mem := by simp
  obj := fun i h st b hb => by
    obtain ⟨⟨old, he⟩, ⟨o, ho, hc, hd⟩, _⟩ := st
    have e' : b = e ∨ b = it := by simpa using hb
    rcases e' with z | z
    · rw [z]; exact ⟨_, he, fun v q => nomatch q⟩
    · rw [z]; exact ⟨o, ho, fun v q => by rw [hd] at q; cases q⟩
  keep := fun i h h' st k => let ⟨⟨old, he⟩, hi, ne⟩ := st; ⟨⟨old, k e (by simp) _ he⟩, hi.at fun o q => k it (by simp) o q, ne⟩
  item := by
    intro X hP hw hK hc i pins s σ H E I hf st hg
    subst hP hw hK
    obtain ⟨⟨old, he⟩, hit, ne, na, nea⟩ := st
    obtain ⟨xs, x, hq, hx⟩ := hg
    obtain ⟨its, rv, p, hz⟩ := I.tuple hq
    obtain ⟨u, hu, ru⟩ := rv.get hx
    have hel : e < s.heap.objs.size := Heap.lt_size he
    have hil : it < s.heap.objs.size := by obtain ⟨_, q, _⟩ := hit; exact Heap.lt_size q
    have hlt : i < its.toArray.size := by
      have := (List.getElem?_eq_some_iff.mp hu).1
      simpa using this
    have D := Draws.tuple (prog := X.prog) (w := X.w) (A := X.A.in1) (I.ok.hd hc) it a na its.toArray
    refine wpAny_pyNext_enum_itemD D he ⟨hit, p⟩ hlt ne (by simp [ne, nea]) fun u' h1 tk hu' ho st1 hT hsz hk => ?_
    have eu : u' = u := by
      have z : its.toArray[i]? = some u := by simpa using hu
      rw [z] at hu'
      exact (Option.some.inj hu').symm
    subst eu
    refine ⟨_, rfl, wpAny_letOwnedTupleGo_enum (s := { s with heap := h1, toks := tk + 1 }) ho fun h2 he2 sb => ?_⟩
    have hT2 : h2.get? s.heap.objs.size = some { cls := .type "tuple", data := .seq #[.int i tk, u'] } := (sb.2 _ (Nat.ne_of_gt hel)).trans hT
    have new : ObjOk X.prog X.w (upd H s.heap.objs.size (.tup [.int (i : Nat), x])) h2 s.heap.objs.size (.tup [.int (i : Nat), x]) :=
      ⟨by show 2 ≤ sizeLine; decide, [.int i tk, u'], .cons ⟨_, rfl⟩ (.cons ru .nil), ⟨_, hT2, rfl, _, rfl⟩⟩
    have I1 : Inv X pins σ (upd H s.heap.objs.size (.tup [.int (i : Nat), x])) { s with heap := h2, toks := tk + 1 } :=
      I.turnedNew (ch := [e, it]) (fun b ob hb q => (sb.2 b (fun z => hb (by simp [z]))).trans (hk b ob (fun z => hb (by simp [z])) (fun z => hb (by simp [z])) q)) hf (Nat.le_refl _) new
    refine ⟨.ref s.heap.objs.size, _, I1, rfl, ⟨_, x, rfl, I.hok.fresh (Nat.le_refl _), rfl, fun ys hy => by rw [I.tuple_inj hy hq]; exact hx⟩, ⟨⟨u', ?_⟩, st1.1.at fun o q => (sb.2 it (Ne.symm ne)).trans q, ne, na, nea⟩, fun b hb => ?_⟩
    · have e1 : ((i + 1 : Nat) : Int) = (i : Int) + 1 := by omega
      rw [e1]; exact he2
    · have hb' : b < s.heap.objs.size := by
        have e' : b = e ∨ b = it := by simpa using hb
        rcases e' with z | z
        · rw [z]; exact hel
        · rw [z]; exact hil
      rw [upd_ne (Nat.ne_of_lt hb')]
      exact (hf b hb).1
  done := by
    intro X hP hw hK hc i pins s σ H E I hf st hg
    subst hP hw hK
    obtain ⟨⟨old, he⟩, hit, ne, na, nea⟩ := st
    obtain ⟨xs, hq, hx⟩ := hg
    obtain ⟨its, rv, p, hz⟩ := I.tuple hq
    obtain ⟨f0, f1, f2, f3, f4, f5⟩ := hf it (by simp)
    have hl := rv.length
    have D := Draws.tuple (prog := X.prog) (w := X.w) (A := X.A.in1) (I.ok.hd hc) it a na its.toArray
    have hend : i = its.toArray.size := by simp; omega
    subst hend
    exact wpAny_pyNext_enum_endD D he ⟨hit, p⟩ fun h1 eb => ⟨rfl, I.turned (t' := s.toks) (fun b o hb q => eb b o hb q) f0 f1 f3 f4 f5⟩
  self := fun A i s Q E st h => let ⟨⟨_, he⟩, _⟩ := st; wpAny_pyIter_enum he h
def iEnumT (K : PySem.W.Frag) (ta : TA) : TI := fun σ H R => ta σ H fun vs H1 => ∃ a xs, vs = [.ref a] ∧ SqT K H1 a xs ∧ R (IteT K a) H1
theorem pi_enumT {X : Cx} {e : Expr} {ta : TA} {p pos tpos : Pos} {elts : List Expr} {kk : Nat} (hg : Gl X "enumerate") (hm : X.mg "enumerate" = none) (ha : PA X [e] ta) (hs : starEach [e] X.env = [(false, eval e X.env)]) :
    PI X (.Tuple elts kk tpos) (.Call (.Name "enumerate" p) [e] [] pos) (iEnumT X.K ta) := by
  refine ⟨fun pins s σ H R I h => ?_⟩
  refine Call_ (ld_blt I hg hm boot_enumerate (PyProof.Rows.callWith_type1 (thn (ha.run pos pins s σ H _ I h) fun us s1 ⟨vs, H1, I1, r1, q1⟩ => ?_) hs rfl))
  obtain ⟨a, xs, ex, hq, q⟩ := q1
  subst ex
  cases r1 with
  | cons r rr =>
    cases rr
    cases r
    obtain ⟨its, rv, p', hz⟩ := I1.tuple hq
    refine call_enum1 (begins_tuple a its.toArray) p' fun h1 he hit hk => wpAny_pyIter_enum he ?_
    have I2 : Inv X pins σ H1 { s1 with heap := h1 } := I1.kept (t' := s1.toks) hk
    have hlt : a < s1.heap.objs.size := by obtain ⟨_, z, _⟩ := p'; exact Heap.lt_size z
    refine ⟨s1.heap.objs.size + 1, [s1.heap.objs.size + 1, s1.heap.objs.size], _, _, H1, rfl, I2, turn_enumT a (s1.heap.objs.size + 1) s1.heap.objs.size, ⟨⟨.none, he⟩, ⟨_, hit, rfl, rfl⟩, Nat.succ_ne_self _, Nat.ne_of_lt hlt, Ne.symm (Nat.ne_of_lt (Nat.lt_succ_of_lt hlt))⟩, fun b hb => ?_, q⟩
    have e' : b = s1.heap.objs.size + 1 ∨ b = s1.heap.objs.size := by simpa using hb
    have hle : s1.heap.objs.size ≤ b := by
      rcases e' with q' | q'
      · rw [q']; exact Nat.le_succ _
      · rw [q']; exact Nat.le_refl _
    exact I1.fpOk hle (I1.hok.fresh hle)
/-- the signs of a text, in new pairs -/
def IteS (z : Str) : L2.It :=
  ⟨fun i _ => i < z.cps.size, fun i H v H' => ∃ T c, v = .ref T ∧ H T = none ∧ z.cps[i]? = some c ∧ H' = upd H T (.tup [.int (i : Nat), .str ⟨#[c]⟩]), fun i _ => z.cps.size = i⟩
theorem turn_enumS {P : Program} {w : World} {K : PySem.W.Frag} {elts : List Expr} {kk : Nat} {tpos : Pos} (z : Str) (t : Tok) (e it : Addr) :
    Turn P w K (.Tuple elts kk tpos) (IteS z) [e, it] e (fun i h => (∃ old, IsEnum h e it ((i : Nat) : Int) old) ∧ h.IsStrIter it (strIterType z) z t i ∧ e ≠ it) where
  mem := by simp
  obj := fun i h st b hb => by
    obtain ⟨⟨old, he⟩, ⟨o, ho, hc, hd⟩, _⟩ := st
    have e' : b = e ∨ b = it := by simpa using hb
    rcases e' with q | q
    · rw [q]; exact ⟨_, he, fun v q => nomatch q⟩
    · rw [q]; exact ⟨o, ho, fun v q => by rw [hd] at q; cases q⟩
  keep := fun i h h' st k => by
    obtain ⟨⟨old, he⟩, ⟨o, ho, r⟩, ne⟩ := st
    exact ⟨⟨old, k e (by simp) _ he⟩, ⟨o, k it (by simp) o ho, r⟩, ne⟩
  item := by
    intro X hP hw hK hc i pins s σ H E I hf st hg
    subst hP hw hK
    obtain ⟨⟨old, he⟩, hit, ne⟩ := st
    have hel : e < s.heap.objs.size := Heap.lt_size he
    have hil : it < s.heap.objs.size := by obtain ⟨_, q, _⟩ := hit; exact Heap.lt_size q
    have D := Draws.text (prog := X.prog) (w := X.w) (A := X.A.in1) (I.ok.hd hc) it z t
    refine wpAny_pyNext_enum_itemD D he hit hg ne (by simp [ne]) fun u h1 tk hu ho st1 hT hsz hk => ?_
    obtain ⟨c, ut, hcx, rfl⟩ := hu
    refine ⟨_, rfl, wpAny_letOwnedTupleGo_enum (s := { s with heap := h1, toks := tk + 1 }) ho fun h2 he2 sb => ?_⟩
    have hT2 : h2.get? s.heap.objs.size = some { cls := .type "tuple", data := .seq #[.int i tk, .str ⟨#[c]⟩ ut] } := (sb.2 _ (Nat.ne_of_gt hel)).trans hT
    have new : ObjOk X.prog X.w (upd H s.heap.objs.size (.tup [.int (i : Nat), .str ⟨#[c]⟩])) h2 s.heap.objs.size (.tup [.int (i : Nat), .str ⟨#[c]⟩]) :=
      ⟨by show 2 ≤ sizeLine; decide, [.int i tk, .str ⟨#[c]⟩ ut], .cons ⟨tk, rfl⟩ (.cons ⟨ut, rfl⟩ .nil), ⟨_, hT2, rfl, _, rfl⟩⟩
    have I1 : Inv X pins σ (upd H s.heap.objs.size (.tup [.int (i : Nat), .str ⟨#[c]⟩])) { s with heap := h2, toks := tk + 1 } :=
      I.turnedNew (ch := [e, it]) (fun b ob hb q => (sb.2 b (fun q' => hb (by simp [q']))).trans (hk b ob (fun q' => hb (by simp [q'])) (fun q' => hb (by simp [q'])) q)) hf (Nat.le_refl _) new
    refine ⟨.ref s.heap.objs.size, _, I1, rfl, ⟨_, c, rfl, I.hok.fresh (Nat.le_refl _), hcx, rfl⟩, ⟨⟨.str ⟨#[c]⟩ ut, ?_⟩, ?_, ne⟩, fun b hb => ?_⟩
    · have e1 : ((i + 1 : Nat) : Int) = (i : Int) + 1 := by omega
      rw [e1]; exact he2
    · obtain ⟨o2, ho2, r2⟩ := st1
      exact ⟨o2, (sb.2 it (Ne.symm ne)).trans ho2, r2⟩
    · have hb' : b < s.heap.objs.size := by
        have e' : b = e ∨ b = it := by simpa using hb
        rcases e' with q | q
        · rw [q]; exact hel
        · rw [q]; exact hil
      rw [upd_ne (Nat.ne_of_lt hb')]
      exact (hf b hb).1
  done := by
    intro X hP hw hK hc i pins s σ H E I hf st hg
    subst hP hw hK
    obtain ⟨⟨old, he⟩, hit, ne⟩ := st
    obtain ⟨f0, f1, f2, f3, f4, f5⟩ := hf it (by simp)
    have D := Draws.text (prog := X.prog) (w := X.w) (A := X.A.in1) (I.ok.hd hc) it z t
    have hg' : z.cps.size = i := hg
    subst hg'
    exact wpAny_pyNext_enum_endD D he hit fun h1 eb => ⟨rfl, I.turned (t' := s.toks) (fun b o hb q => eb b o hb q) f0 f1 f3 f4 f5⟩
  self := fun A i s Q E st h => let ⟨⟨_, he⟩, _⟩ := st; wpAny_pyIter_enum he h
def iEnumS (ta : TA) : TI := fun σ H R => ta σ H fun vs H1 => ∃ z, vs = [.str z] ∧ R (IteS z) H1
theorem pi_enumS {X : Cx} {e : Expr} {ta : TA} {p pos tpos : Pos} {elts : List Expr} {kk : Nat} (hg : Gl X "enumerate") (hm : X.mg "enumerate" = none) (ha : PA X [e] ta) (hs : starEach [e] X.env = [(false, eval e X.env)]) :
    PI X (.Tuple elts kk tpos) (.Call (.Name "enumerate" p) [e] [] pos) (iEnumS ta) := by
  refine ⟨fun pins s σ H R I h => ?_⟩
  refine Call_ (ld_blt I hg hm boot_enumerate (PyProof.Rows.callWith_type1 (thn (ha.run pos pins s σ H _ I h) fun us s1 ⟨vs, H1, I1, r1, q1⟩ => ?_) hs rfl))
  obtain ⟨z, ex, q⟩ := q1
  subst ex
  cases r1 with
  | cons r rr =>
    cases rr
    obtain ⟨t, rfl⟩ := r
    refine call_enum1 (begins_text z t) trivial fun h1 he hit hk => wpAny_pyIter_enum he ?_
    have I2 : Inv X pins σ H1 { s1 with heap := h1 } := I1.kept (t' := s1.toks) hk
    refine ⟨s1.heap.objs.size + 1, [s1.heap.objs.size + 1, s1.heap.objs.size], _, _, H1, rfl, I2, turn_enumS z t (s1.heap.objs.size + 1) s1.heap.objs.size, ⟨⟨.none, he⟩, ⟨_, hit, rfl, rfl⟩, Nat.succ_ne_self _⟩, fun b hb => ?_, q⟩
    have e' : b = s1.heap.objs.size + 1 ∨ b = s1.heap.objs.size := by simpa using hb
    have hle : s1.heap.objs.size ≤ b := by
      rcases e' with q' | q'
      · rw [q']; exact Nat.le_succ _
      · rw [q']; exact Nat.le_refl _
    exact I1.fpOk hle (I1.hok.fresh hle)
end Fx

set_option maxHeartbeats 4000000
namespace Fx
open PySem L2
open PyProof.Rows hiding St

/-! ### exceptions of the text's own classes: made, raised -/
section
variable {X : Cx} {e : Expr} {es : List Expr} {ta : TA} {p1 p2 pos : Pos}
/-- B.__init__(self, ..), B a class of the text without an own __init__ -/
theorem pe_binit {x : Str} {CB : Addr} {mc : Value} {pl : Sem Bool} (hg : Gl X x) (hm : X.mg x = some (.ref CB)) (hdb : (x == ("__debug__" : Str)) = false) (rd : PySem.W.readsIn X.K CB mc = true) (ga : PySem.W.specialIn X.K (.ref CB) "__getattribute__" = some (some (.builtin "type.__getattribute__")))
    (vV : PySem.W.findCls X.K (.ref CB) mc "__init__" = some (.val (.builtin "ValueError.__init__"))) (ha : PA X (e :: es) ta)
    (hc : eval (.Call (.Attribute (.Name x p1) "__init__" p2) (e :: es) [] pos) X.env = (do
      let ov ← eval (.Name x p1) X.env
      standAt p2.atName
      let (f, first) ← holding [ov] (getMethod ov "__init__" pl)
      callWith pos f first (backTo pos (starEach (e :: es) X.env)) (backToKw pos (keywordEach [] X.env))))
    (he : starEach (e :: es) X.env = (false, eval e X.env) :: starEach es X.env) (hpl : (backTo pos (starEach es X.env)).any (·.1) = false) :
    PE X (.Call (.Attribute (.Name x p1) "__init__" p2) (e :: es) [] pos) (tVeI X.K ta) := by
  refine ⟨fun pins s σ H Q I h => ?_⟩
  refine PySem.W.methodCall_KW (ld_glob I hg hm ?_ hdb) hc
  refine PySem.W.method_cls I.kIn ga (PySem.W.cls_value I.kIn rd vV rfl ?_)
  show wpAny _ _ (callWith pos (Value.builtin "ValueError.__init__") [] (backTo pos (starEach (e :: es) X.env)) []) _ _ _
  refine PyProof.Rows.callWith_method1 (thn (ha.run pos pins _ σ H _ (I.tok _) h) fun us s1 ⟨vs, H1, I1, r1, a, C, ws, ev, hl, T, ea, q⟩ => ?_) he hpl
  subst ev
  cases r1 with
  | @cons _ u0 _ ur ra rw' =>
    obtain rfl : u0 = Value.ref a := ra
    have hlen : ur.length ≤ sizeLine := by
      rw [← Paired.length rw', sizeLine_eq]; omega
    exact oinit_ok T I1 ea hlen fun s' J => ⟨.non, H1, J, rfl, q⟩
end
/-- what the class C, whose __init__ keeps one thing as f, promises of it -/
def spInit (C : Addr) (f : Str) : Sp := fun vs H Q _ => ∃ (a : Addr) (v : V), vs = [.ref a, v] ∧ H a = some (exo a C none) ∧ ∀ dx, H dx = none → dx ≠ a → Q .non (upd (upd H dx (exd dx [(f, v)])) a (exo a C (some dx)))
theorem spInit_len {C : Addr} {f : Str} {n : Nat} (hn : n = 2) : ∀ vs H Q E, spInit C f vs H Q E → vs.length = n := fun vs H Q E h => by
  obtain ⟨a, v, rfl, _⟩ := h
  exact hn.symm
/-- the body of such an __init__ -/
def initBody (B self y f m : Str) : List Stmt → Bool
  | [.Expr (.Call (.Attribute (.Name b _) n p2) [.Name s1 _, .Constant (.str z) _ _] [] p5) _, .Assign [.Attribute (.Name s2 _) g _] (.Name u _) _] =>
    decide (b = B) && decide (n = "__init__") && decide (s1 = self) && decide (z = m) && decide (s2 = self) && decide (g = f) && decide (u = y) && (p2.endLine == p5.line)
  | _ => false
theorem call_attr_eq {env : Env} {x name : Str} {p1 apos pos : Pos} {args : List Expr}
    (hfew : ((backTo pos (starEach args env)).all (fun x => !x.1) && (backToKw pos (keywordEach [] env)).all (fun x => x.1.isSome)
      && decide (args.length + ([] : List Keyword).length + (if ([] : List Keyword).isEmpty then 0 else 1) < 30)) = true)
    (hline : (apos.endLine == pos.line) = true) : eval (.Call (.Attribute (.Name x p1) name apos) args [] pos) env = (do
      let ov ← eval (.Name x p1) env
      standAt apos.atName
      let (f, first) ← holding [ov] (getMethod ov name (do return (← importBound (.Name x p1) env).getD true))
      callWith pos f first (backTo pos (starEach args env)) (backToKw pos (keywordEach [] env))) := by
  have hform : methodCallForm (args.length + ([] : List Keyword).length) (backTo pos (starEach args env)) (backToKw pos (keywordEach [] env)) = true := hfew
  have hpos : methodCallPos true (.Name x p1) env apos pos = pure pos := by unfold methodCallPos; simp [hline]
  rw [arm_eval_Call, show attributeBase (.Name x p1) name env (eval (.Name x p1) env) = eval (.Name x p1) env from rfl]
  unfold methodCall
  rw [hform, hpos]
  rfl
theorem del_upd {H : Hp} {a d : Addr} {x y z : HO} {w : HO} (ha : H a = none) (hd : d ≠ a) : upd (L2.del (upd (upd (upd H a x) d y) a z) a) d w = upd H d w := by
  funext b
  by_cases e1 : b = d
  · subst e1; rw [upd_same, upd_same]
  · rw [upd_ne e1, upd_ne e1]
    by_cases e2 : b = a
    · subst e2; rw [L2.del_same, ha]
    · rw [L2.del_ne e2, upd_ne e2, upd_ne e1, upd_ne e2]
/-- C(e): an exception that keeps e's value as f -/
def tMk1 (C : Addr) (f : Str) (ta : TA) : L2.St → Hp → XK → Prop := fun σ H Q => ta σ H fun vs H1 => ∃ v, vs = [v] ∧ ∀ d, H1 d = none → Q (.ref C) (some d) (upd H1 d (.xd [(f, v)]))
theorem pmk_init {X : Cx} {CX : CXT} {x : Str} {e : Expr} {ta : TA} {p pos : Pos} {C fI : Addr} {k : Nat} {fd : FuncData} {ps : List Str} {f : Str} (T0 : OexC X.K C) (iC : PySem.W.findIn X.K (.ref C) "__init__" = some (some (.ref fI))) (tI : PySem.W.typeIn X.K (.ref fI) = some (.type "function"))
    (F1 : FnOk X.prog X.w X.K X.mg X.base CX k fI fd ps (spInit C f)) (hr : Room (k + 1) X.A) (hb : Binds X.K fd ps []) (hx : Passes CX X (fun _ _ _ => False)) (hg : Gl X x) (hm : X.mg x = some (.ref C)) (ha : PA X [e] ta)
    (hdb : (x == ("__debug__" : Str)) = false) (hs : starEach [e] X.env = [(false, eval e X.env)]) : L2N.PMk X (.Call (.Name x p) [e] [] pos) (tMk1 C f ta) := by
  intro pins s σ H Q I h
  obtain ⟨nm, q0, N, bs, bm, sn, sub, ab, col, dd, k0, k1, k2, k3, k5, hC, hbm⟩ := T0.cls
  refine wpAny_Call_Name_kw (ld_glob I hg hm ?_ hdb)
  refine PySem.W.callWith_K (h₀ := X.base) I.ok.mod.kin T0.kC (thn (ha.run pos pins s σ H _ I h) fun us s1 ⟨vs, H1, I1, r1, v, ev, q1⟩ => ⟨I1.kIn, ?_⟩) hs rfl
  subst ev
  cases r1 with
  | @cons _ u _ ur ru rr =>
  cases rr
  show wpAny _ _ (call (.ref C) [u]) _ _ _
  obtain ⟨hp, g, dr, tk, os⟩ := s1
  have hsz : hp.objs.size ≤ hp.objs.size + 1 := Nat.le_succ _
  have hn : H1 (hp.objs.size + 1) = none := I1.hok.fresh hsz
  generalize hh : (hp.push (PySem.W.kdv_tup [u])).push (PySem.HandSPX.excO C hp.objs.size) = hq
  have kk : ∀ b o, hp.get? b = some o → hq.get? b = some o := fun b o z => by rw [← hh]; exact Heap.get?_push_of_some _ (Heap.get?_push_of_some _ z)
  have hget : hq.get? (hp.objs.size + 1) = some (PySem.HandSPX.excO C hp.objs.size) := by rw [← hh]; heap_get
  have I2 : Inv X pins σ (upd H1 (hp.objs.size + 1) (exo (hp.objs.size + 1) C none)) ⟨hq, g, dr, tk, os⟩ := I1.laid (t' := tk) (a := hp.objs.size + 1) kk hsz (exo_ok hget)
  have hlen := F1.len [.ref (hp.objs.size + 1), v] (upd H1 (hp.objs.size + 1) (exo (hp.objs.size + 1) C none)) (fun _ _ => True) (fun _ _ _ => True) ⟨_, v, rfl, upd_same, fun _ _ _ => trivial⟩
  have hbnd := hb _ [Value.ref (hp.objs.size + 1), u] I2.kIn (by rw [List.append_nil]; exact hlen)
  rw [List.append_nil] at hbnd
  refine wpAny_call (PySem.HandSPX.call_own F.excBase_ValueError (fun Y => PySem.HandSPX.refsVE_contains Y bm hbm) (I1.kIn _ _ hC) (PySem.W.looks_findIn I1.kIn iC) (fun self => PySem.W.bind_fn I1.kIn self tI) (by show 1 ≤ sizeLine; decide) ?_)
  rw [hh]
  refine codeAny_mono (F1.run _ X.stack ⟨hq, g, dr, tk, os⟩ _ ⟨[Value.ref (hp.objs.size + 1), u], []⟩ [Value.ref (hp.objs.size + 1), u] [.ref (hp.objs.size + 1), v]
    (fun z H2 => z = .non ∧ ∃ d, H2 = upd (upd (upd H1 (hp.objs.size + 1) (exo (hp.objs.size + 1) C none)) d (exd d [(f, v)])) (hp.objs.size + 1) (exo (hp.objs.size + 1) C (some d)) ∧ H1 d = none ∧ d ≠ hp.objs.size + 1) (fun _ _ _ => False)
    (hr.make C [u] []) (I2.env0.make C [u] []) hbnd (.cons rfl (.cons ru .nil)) ⟨_, v, rfl, upd_same, fun dx n ne => ⟨rfl, dx, rfl, by rw [upd_ne ne] at n; exact n, ne⟩⟩) fun r s' hq' => ?_
  cases r with
  | error er => exact hx pins σ _ _ er s' I2 hq'
  | ok fl =>
    cases fl with
    | ret u2 =>
      obtain ⟨z, H2, os2, bare2, un2, hok2, rv, ez, d, eH, hd1, hda⟩ := hq'
      subst ez
      obtain ⟨h2, g2, d2, t2, os'⟩ := s'
      have ea : H2 (hp.objs.size + 1) = some (exo (hp.objs.size + 1) C (some d)) := by rw [eH, upd_same]
      have ed : H2 d = some (exd d [(f, v)]) := by rw [eH, upd_ne hda, upd_same]
      obtain ⟨t0, GG, J, kG, ge, hoe, na⟩ := mk_end0 (d2 := d2) (t2 := t2) I1 hsz kk un2 hok2 os2 bare2 ea ed hd1
      have eF : upd (L2.del H2 (hp.objs.size + 1)) d (.xd [(f, v)]) = upd H1 d (.xd [(f, v)]) := by rw [eH]; exact del_upd hn hda
      refine ⟨rv, hp.objs.size + 1, _, _, ⟨GG, g2, d2, t2, os'⟩, _, .ref C, some d, rfl, J, kG, ge, hoe, ⟨rfl, rfl, fun vs z => by cases z; rfl⟩, rfl, rfl, na, rfl, bare2, raises_own T0.exC T0.tyC, ?_⟩
      rw [eF]
      exact q1 d hd1
    | next => exact False.elim hq'
    | brk => exact False.elim hq'
    | cont => exact False.elim hq'
/-- its __init__ keeps the promise -/
theorem init_ok {P : Program} {w : World} {K : PySem.W.Frag} {mg : Str → Option Value} {base : Heap} {nm qual B y f m : Str} {as : Arguments} {body : List Stmt} {sc : Scope} {C CB fI : Addr} {fd : FuncData} {mc : Value}
    (F0 : FunD K nm qual as body sc [] [] fI fd) (S : FnScope ["self", y] ["self", y] sc) (hb : initBody B "self" y f m body = true) (ls : sc.names.lookup ("self" : Str) = some .local) (ly : sc.names.lookup y = some .local) (lB : sc.names.lookup B = some .globalImplicit) (hd : (B == ("__debug__" : Str)) = false) (hy : (y == ("__debug__" : Str)) = false ∧ (y == ("__classdict__" : Str)) = false)
    (hm : mg B = some (.ref CB)) (rd : PySem.W.readsIn K CB mc = true) (ga : PySem.W.specialIn K (.ref CB) "__getattribute__" = some (some (.builtin "type.__getattribute__")))
    (vV : PySem.W.findCls K (.ref CB) mc "__init__" = some (.val (.builtin "ValueError.__init__"))) (T0 : OexC K C) (hno : PySem.W.findIn K (.ref C) f = some none) : FnOk P w K mg base (L2N.CX P w) 1 fI fd ["self", y] (spInit C f) := by
  refine F0.ok S (spInit_len rfl) fun cdv A outer s H vs Q E hr h => ?_
  obtain ⟨a, v, rfl, ha, q⟩ := h
  unfold initBody at hb
  split at hb
  · rename_i b p1 n p2 s1 p3 z j p4 p5 p6 s2 p7 g p8 u p9 p10
    rw [Bool.and_eq_true] at hb
    obtain ⟨hb, hline⟩ := hb
    simp only [Bool.and_eq_true, decide_eq_true_eq] at hb
    obtain ⟨⟨⟨⟨⟨⟨rfl, rfl⟩, rfl⟩, rfl⟩, rfl⟩, rfl⟩, rfl⟩ := hb
    generalize hX : cxOf (L2N.CX P w) P w K mg base [("self" : Str), u] qual sc fI cdv A outer s H E = X
    have eN : X.N = [("self" : Str), u] := by rw [← hX]; rfl
    have eS : X.env.scope = sc := by rw [← hX]; rfl
    have eK : X.K = K := by rw [← hX]; rfl
    have eM : X.mg = mg := by rw [← hX]; rfl
    have hG : Gl X b := by show X.env.scope.names.lookup b = _; rw [eS]; exact lB
    have pSelf : ∀ p, PE X (.Name "self" p) (tVar 0) := fun p => pe_var (i := 0) (by rw [eN]; rfl) (.inl (by rw [eS]; exact ls)) rfl rfl
    have pArg : ∀ p, PE X (.Name u p) (tVar 1) := fun p => pe_var (i := 1) (by rw [eN]; rfl) (.inl (by rw [eS]; exact ly)) hy.1 hy.2
    have P1 := pe_binit (X := X) (p1 := p1) (p2 := p2) (pos := p5) hG (by rw [eM]; exact hm) hd (by rw [eK]; exact rd) (by rw [eK]; exact ga) (by rw [eK]; exact vV) (pa_cons (pSelf p3) (pa_cons (pe_str (x := z) (j := j) (pos := p4)) pa_nil)) (call_attr_eq rfl hline) rfl rfl
    refine ⟨_, pss_cons (ps_expr P1) (pss_one (ps_ost (pSelf p7) (pArg p9))), ?_⟩
    simp only [tSeq, tDrop, tVeI, tCons, tVar, tC, tNil, tOst]
    refine ⟨.ref a, rfl, a, C, [.str z], rfl, (by show 1 ≤ 1000; decide), by rw [eK]; exact T0, ha, ?_⟩
    exact ⟨v, rfl, .ref a, rfl, a, C, rfl, by rw [eK]; exact T0, by rw [eK]; exact hno, .inl ⟨ha, fun dx n ne => q dx n ne⟩⟩
  · cases hb
end Fx

set_option maxHeartbeats 4000000
namespace Fx
open PySem L2

/-! ### tree values -/
inductive T where
  | non | bl (b : Bool) | int (i : Int) | str (s : Str)
  | tup (l : List T) | lst (l : List T)
  | dk (ks : List Key) (vs : List T) | dt (ks : List (List Key)) (vs : List T) | set (l : List T)
  | exc (c : Str) (fs : List T)
  | scr (l : List T)
  | ref (n : Nat)
  deriving Inhabited

/-- the contents of a mutable thing -/
inductive Cell where
  | lst (l : List T)
  | dk (ks : List Key) (vs : List T)
  | dt (ks : List (List Key)) (vs : List T)
  deriving Inhabited

def Cell.t : Cell → T
  | .lst l => .lst l
  | .dk ks vs => .dk ks vs
  | .dt ks vs => .dt ks vs

/-- a def's local name -/
inductive Slot where
  | no
  | val (t : T)
  | own (c : Cell)
  deriving Inhabited

/-- an expression's value: a tree, or a thing just made that nothing else holds -/
inductive R where
  | val (t : T)
  | new (c : Cell)
  deriving Inhabited
def R.t : R → T
  | .val t => t
  | .new c => c.t

abbrev Hs := List Cell
abbrev En := List Slot

/-! ### how trees lie in the abstract heap: G holds what never changes -/
def Le (G G' : Hp) : Prop := ∀ a o, G a = some o → G' a = some o
theorem Le.refl (G : Hp) : Le G G := fun _ _ h => h
theorem Le.trans {A B C : Hp} (x : Le A B) (y : Le B C) : Le A C := fun a o h => y a o (x a o h)

mutual
inductive Rep (K : PySem.W.Frag) (G : Hp) (ι : List Addr) : T → V → Prop where
  | non : Rep K G ι .non .non
  | bl {b} : Rep K G ι (.bl b) (.bl b)
  | int {i} : Rep K G ι (.int i) (.int i)
  | str {s} : Rep K G ι (.str s) (.str s)
  | tup {l a vs} : G a = some (.tup vs) → RepL K G ι l vs → Rep K G ι (.tup l) (.ref a)
  | dk {ks l a vs} : G a = some (.dK (ks.zip vs)) → ks.length = l.length → RepL K G ι l vs → Rep K G ι (.dk ks l) (.ref a)
  | dt {ks l a vs} : G a = some (.dT (ks.zip vs)) → ks.length = l.length → RepL K G ι l vs → Rep K G ι (.dt ks l) (.ref a)
  | lst {l a vs} : G a = some (.lst vs) → RepL K G ι l vs → Rep K G ι (.lst l) (.ref a)
  | scr {l a vs} : SqL K G a vs → RepL K G ι l vs → Rep K G ι (.scr l) (.ref a)
  | ref {n a} : ι[n]? = some a → Rep K G ι (.ref n) (.ref a)
inductive RepL (K : PySem.W.Frag) (G : Hp) (ι : List Addr) : List T → List V → Prop where
  | nil : RepL K G ι [] []
  | cons {t v ts vs} : Rep K G ι t v → RepL K G ι ts vs → RepL K G ι (t :: ts) (v :: vs)
end

section
variable {K : PySem.W.Frag} {G G' : Hp} {ι ι' : List Addr}
theorem rd_le {a : Addr} {u : HO} (l : Le G G') (h : Rd G a u) : Rd G' a u := by
  rcases h with h | ⟨o, h⟩
  · exact .inl (l _ _ h)
  · exact .inr ⟨o, l _ _ h⟩
theorem sqL_le {a : Addr} {xs : List V} (l : Le G G') (h : SqL K G a xs) : SqL K G' a xs := by
  rcases h with h | h
  · exact .inl (rd_le l h)
  · exact .inr h
theorem sqT_le {a : Addr} {xs : List V} (l : Le G G') (h : SqT K G a xs) : SqT K G' a xs := by
  rcases h with h | h
  · exact .inl (rd_le l h)
  · exact .inr h
theorem pre_get {n : Nat} {a : Addr} (p : ι <+: ι') (h : ι[n]? = some a) : ι'[n]? = some a := by
  obtain ⟨r, rfl⟩ := p
  have : n < ι.length := (List.getElem?_eq_some_iff.mp h).1
  rw [List.getElem?_append_left this]
  exact h
mutual
theorem Rep.mono (l : Le G G') (p : ι <+: ι') : ∀ {t v}, Rep K G ι t v → Rep K G' ι' t v
  | _, _, .non => .non
  | _, _, .bl => .bl
  | _, _, .int => .int
  | _, _, .str => .str
  | _, _, .tup h r => .tup (l _ _ h) (RepL.mono l p r)
  | _, _, .dk h e r => .dk (l _ _ h) e (RepL.mono l p r)
  | _, _, .dt h e r => .dt (l _ _ h) e (RepL.mono l p r)
  | _, _, .lst h r => .lst (l _ _ h) (RepL.mono l p r)
  | _, _, .scr h r => .scr (sqL_le l h) (RepL.mono l p r)
  | _, _, .ref h => .ref (pre_get p h)
theorem RepL.mono (l : Le G G') (p : ι <+: ι') : ∀ {t v}, RepL K G ι t v → RepL K G' ι' t v
  | _, _, .nil => .nil
  | _, _, .cons h r => .cons (Rep.mono l p h) (RepL.mono l p r)
end
theorem RepL.length : ∀ {t v}, RepL K G ι t v → t.length = v.length
  | _, _, .nil => rfl
  | _, _, .cons _ r => by simp [RepL.length r]
theorem RepL.get : ∀ {ts vs} {i : Nat} {t : T}, RepL K G ι ts vs → ts[i]? = some t → ∃ v, vs[i]? = some v ∧ Rep K G ι t v
  | _, _, _, _, .nil, e => by simp at e
  | _, _, 0, _, .cons h _, e => by simp at e; subst e; exact ⟨_, rfl, h⟩
  | _, _, i + 1, _, .cons _ r, e => by
    obtain ⟨v, h1, h2⟩ := RepL.get (i := i) r (by simpa using e)
    exact ⟨v, by simpa using h1, h2⟩
theorem RepL.get' : ∀ {ts vs} {i : Nat} {v : V}, RepL K G ι ts vs → vs[i]? = some v → ∃ t, ts[i]? = some t ∧ Rep K G ι t v
  | _, _, _, _, .nil, e => by simp at e
  | _, _, 0, _, .cons h _, e => by simp at e; subst e; exact ⟨_, rfl, h⟩
  | _, _, i + 1, _, .cons _ r, e => by
    obtain ⟨v, h1, h2⟩ := RepL.get' (i := i) r (by simpa using e)
    exact ⟨v, by simpa using h1, h2⟩
theorem RepL.append : ∀ {ts us vs ws}, RepL K G ι ts vs → RepL K G ι us ws → RepL K G ι (ts ++ us) (vs ++ ws)
  | _, _, _, _, .nil, s => s
  | _, _, _, _, .cons h r, s => .cons h (RepL.append r s)
theorem RepL.set {t v} (h : Rep K G ι t v) : ∀ {ts vs} (i : Nat), RepL K G ι ts vs → RepL K G ι (ts.set i t) (vs.set i v)
  | _, _, _, .nil => .nil
  | _, _, 0, .cons _ r => .cons h r
  | _, _, i + 1, .cons q r => .cons q (RepL.set h i r)
theorem RepL.drop : ∀ {ts vs} (n : Nat), RepL K G ι ts vs → RepL K G ι (ts.drop n) (vs.drop n)
  | _, _, 0, r => r
  | _, _, _ + 1, .nil => .nil
  | _, _, n + 1, .cons _ r => RepL.drop n r
theorem RepL.take : ∀ {ts vs} (n : Nat), RepL K G ι ts vs → RepL K G ι (ts.take n) (vs.take n)
  | _, _, 0, _ => .nil
  | _, _, _ + 1, .nil => .nil
  | _, _, n + 1, .cons h r => .cons h (RepL.take n r)
theorem RepL.one {t v} (h : Rep K G ι t v) : RepL K G ι [t] [v] := .cons h .nil
end

/-- what a mutable thing at a holds, in the heap H -/
def OwnAt (K : PySem.W.Frag) (G : Hp) (ι : List Addr) (H : Hp) (a : Addr) : Cell → Prop
  | .lst l => ∃ vs, H a = some (.lst vs) ∧ RepL K G ι l vs
  | .dk ks l => ∃ vs, H a = some (.dK (ks.zip vs)) ∧ ks.length = l.length ∧ RepL K G ι l vs
  | .dt ks l => ∃ vs, H a = some (.dT (ks.zip vs)) ∧ ks.length = l.length ∧ RepL K G ι l vs
theorem OwnAt.mono {K : PySem.W.Frag} {G G' : Hp} {ι ι' : List Addr} {H H' : Hp} {a : Addr} {c : Cell} (l : Le G G') (p : ι <+: ι') (e : ∀ o, H a = some o → H' a = some o) (h : OwnAt K G ι H a c) : OwnAt K G' ι' H' a c := by
  cases c with
  | lst xs => obtain ⟨vs, h1, h2⟩ := h; exact ⟨vs, e _ h1, h2.mono l p⟩
  | dk _ _ => obtain ⟨vs, h1, h0, h2⟩ := h; exact ⟨vs, e _ h1, h0, h2.mono l p⟩
  | dt _ _ => obtain ⟨vs, h1, h0, h2⟩ := h; exact ⟨vs, e _ h1, h0, h2.mono l p⟩
theorem OwnAt.some {K : PySem.W.Frag} {G : Hp} {ι : List Addr} {H : Hp} {a : Addr} {c : Cell} (h : OwnAt K G ι H a c) : ∃ o, H a = some o := by
  cases c with
  | lst xs => obtain ⟨vs, h1, h2⟩ := h; exact ⟨_, h1⟩
  | dk _ _ => obtain ⟨vs, h1, h2⟩ := h; exact ⟨_, h1⟩
  | dt _ _ => obtain ⟨vs, h1, h2⟩ := h; exact ⟨_, h1⟩

/-- the heap's side: O is what others own (callers), G what never changes, ι where the cells lie -/
structure HRel (K : PySem.W.Frag) (O G : Hp) (ι : List Addr) (hp : Hs) (H : Hp) : Prop where
  gs : Le G H
  os : Le O H
  dj : ∀ a o, O a = some o → G a = none
  len : ι.length = hp.length
  cell : ∀ (n : Nat) (c : Cell) (a : Addr), hp[n]? = some c → ι[n]? = some a → OwnAt K G ι H a c
  nd : ι.Nodup
  fr : ∀ a ∈ ι, G a = none ∧ O a = none

/-- one local name -/
def SlotOk (K : PySem.W.Frag) (O G : Hp) (ι : List Addr) (H : Hp) (x : Option V) : Slot → Prop
  | .no => True
  | .val t => ∃ v, x = some v ∧ Rep K G ι t v
  | .own c => ∃ a, x = some (.ref a) ∧ OwnAt K G ι H a c ∧ G a = none ∧ O a = none ∧ a ∉ ι

structure SRel (K : PySem.W.Frag) (O G : Hp) (ι : List Addr) (env : En) (hp : Hs) (σ : St) (H : Hp) : Prop where
  h : HRel K O G ι hp H
  len : env.length = σ.length
  slot : ∀ (i : Nat) (s : Slot) (x : Option V), env[i]? = some s → σ[i]? = some x → SlotOk K O G ι H x s
  nd : ∀ (i j : Nat) (a : Addr) (c d : Cell), i ≠ j → env[i]? = some (Slot.own c) → env[j]? = some (Slot.own d) → σ[i]? = some (some (.ref a)) → σ[j]? = some (some (.ref a)) → False

/-- a fresh thing at a: nobody's -/
def Fresh (O G : Hp) (ι : List Addr) (env : En) (σ : St) (a : Addr) : Prop :=
  G a = none ∧ O a = none ∧ a ∉ ι ∧ ∀ (i : Nat) (c : Cell), env[i]? = some (Slot.own c) → σ[i]? ≠ some (some (.ref a))
def RepR (K : PySem.W.Frag) (O G : Hp) (ι : List Addr) (env : En) (σ : St) (H : Hp) : R → V → Prop
  | .val t, v => Rep K G ι t v
  | .new c, v => ∃ a, v = .ref a ∧ OwnAt K G ι H a c ∧ Fresh O G ι env σ a

section
variable {K : PySem.W.Frag} {O G G' : Hp} {ι ι' : List Addr} {env : En} {hp : Hs} {σ : St} {H H' : Hp} {a : Addr}
/-- G gets what stands at a -/
def frz (G H : Hp) (a : Addr) : Hp := fun b => if b = a then H a else G b
theorem frz_le (hn : G a = none) : Le G (frz G H a) := fun b o h => by
  unfold frz
  by_cases e : b = a
  · subst e; rw [hn] at h; cases h
  · rw [if_neg e]; exact h
theorem frz_same : frz G H a a = H a := by unfold frz; rw [if_pos rfl]
theorem frz_ne {b : Addr} (e : b ≠ a) : frz G H a b = G b := by unfold frz; rw [if_neg e]
theorem rep_own (c : Cell) (hn : G a = none) (h : OwnAt K G ι H a c) : Rep K (frz G H a) ι c.t (.ref a) := by
  cases c with
  | lst l =>
    obtain ⟨vs, h1, h2⟩ := h
    exact .lst (by rw [frz_same]; exact h1) (h2.mono (frz_le hn) (List.prefix_refl _))
  | dk _ _ => obtain ⟨vs, h1, h0, h2⟩ := h; exact .dk (by rw [frz_same]; exact h1) h0 (h2.mono (frz_le hn) (List.prefix_refl _))
  | dt _ _ => obtain ⟨vs, h1, h0, h2⟩ := h; exact .dt (by rw [frz_same]; exact h1) h0 (h2.mono (frz_le hn) (List.prefix_refl _))
/-- a fresh thing is kept for good -/
theorem SRel.freeze {c : Cell} (S : SRel K O G ι env hp σ H) (ho : OwnAt K G ι H a c) (f : Fresh O G ι env σ a) : SRel K O (frz G H a) ι env hp σ H ∧ Le G (frz G H a) ∧ Rep K (frz G H a) ι c.t (.ref a) := by
  obtain ⟨f1, f2, f3, f4⟩ := f
  have le := frz_le (H := H) f1
  refine ⟨⟨⟨fun b o h => ?_, S.h.os, fun b o h => ?_, S.h.len, fun n d b h1 h2 => ?_, S.h.nd, fun b hb => ?_⟩, S.len, fun i s x h1 h2 => ?_, S.nd⟩, le, rep_own c f1 ho⟩
  · by_cases e : b = a
    · subst e; rw [frz_same] at h; exact h
    · rw [frz_ne e] at h; exact S.h.gs b o h
  · have e : b ≠ a := fun e => by subst e; rw [f2] at h; cases h
    rw [frz_ne e]; exact S.h.dj b o h
  · exact (S.h.cell n d b h1 h2).mono le (List.prefix_refl _) fun _ h => h
  · have e : b ≠ a := fun e => by subst e; exact f3 hb
    rw [frz_ne e]; exact S.h.fr b hb
  · have q := S.slot i s x h1 h2
    cases s with
    | no => trivial
    | val t => obtain ⟨v, e, r⟩ := q; exact ⟨v, e, r.mono le (List.prefix_refl _)⟩
    | own d =>
      obtain ⟨b, e, r, g, o, n⟩ := q
      have eb : b ≠ a := fun z => by subst z; subst e; exact f4 i d h1 h2
      exact ⟨b, e, r.mono le (List.prefix_refl _) fun _ h => h, by rw [frz_ne eb]; exact g, o, n⟩
/-- any value, kept for good -/
theorem SRel.fz {r : R} {v : V} (S : SRel K O G ι env hp σ H) (h : RepR K O G ι env σ H r v) : ∃ G', SRel K O G' ι env hp σ H ∧ Le G G' ∧ Rep K G' ι r.t v := by
  cases r with
  | val t => exact ⟨G, S, Le.refl G, h⟩
  | new c =>
    obtain ⟨a, rfl, h1, h2⟩ := h
    obtain ⟨x, y, z⟩ := S.freeze h1 h2
    exact ⟨_, x, y, z⟩

/-- a new object that never changes -/
theorem SRel.laid {o : HO} (S : SRel K O G ι env hp σ H) (hn : H a = none) : SRel K O (upd G a o) ι env hp σ (upd H a o) ∧ Le G (upd G a o) := by
  have gn : G a = none := by
    cases e : G a with
    | none => rfl
    | some u => rw [S.h.gs a u e] at hn; cases hn
  have le : Le G (upd G a o) := fun b u h => by rw [upd_ne (fun e => by subst e; rw [gn] at h; cases h)]; exact h
  have keep : ∀ b u, H b = some u → upd H a o b = some u := fun b u h => by rw [upd_ne (ne_of_none h hn)]; exact h
  refine ⟨⟨⟨fun b u h => ?_, fun b u h => keep b u (S.h.os b u h), fun b u h => ?_, S.h.len, fun n d b h1 h2 => ?_, S.h.nd, fun b hb => ?_⟩, S.len, fun i s x h1 h2 => ?_, S.nd⟩, le⟩
  · by_cases e : b = a
    · subst e; rw [upd_same] at h ⊢; exact h
    · rw [upd_ne e] at h; exact keep b u (S.h.gs b u h)
  · rw [upd_ne (ne_of_none (S.h.os b u h) hn)]; exact S.h.dj b u h
  · exact (S.h.cell n d b h1 h2).mono le (List.prefix_refl _) (keep b)
  · obtain ⟨n, hn2⟩ := List.getElem?_of_mem hb
    have hl : n < hp.length := by rw [← S.h.len]; exact (List.getElem?_eq_some_iff.mp hn2).1
    obtain ⟨u, hu⟩ := (S.h.cell n hp[n] b (List.getElem?_eq_getElem hl) hn2).some
    rw [upd_ne (ne_of_none hu hn)]; exact S.h.fr b hb
  · have q := S.slot i s x h1 h2
    cases s with
    | no => trivial
    | val t => obtain ⟨v, e, r⟩ := q; exact ⟨v, e, r.mono le (List.prefix_refl _)⟩
    | own d =>
      obtain ⟨b, e, r, g, q1, q2⟩ := q
      obtain ⟨u, hu⟩ := r.some
      exact ⟨b, e, r.mono le (List.prefix_refl _) (keep b), by rw [upd_ne (ne_of_none hu hn)]; exact g, q1, q2⟩
/-- a new object, nobody's yet -/
theorem SRel.made {o : HO} (S : SRel K O G ι env hp σ H) (hn : H a = none) : SRel K O G ι env hp σ (upd H a o) ∧ Fresh O G ι env σ a := by
  have gn : G a = none := by
    cases e : G a with
    | none => rfl
    | some u => rw [S.h.gs a u e] at hn; cases hn
  have on : O a = none := by
    cases e : O a with
    | none => rfl
    | some u => rw [S.h.os a u e] at hn; cases hn
  have keep : ∀ b u, H b = some u → upd H a o b = some u := fun b u h => by rw [upd_ne (ne_of_none h hn)]; exact h
  have ni : a ∉ ι := fun hb => by
    obtain ⟨n, hn2⟩ := List.getElem?_of_mem hb
    have hl : n < hp.length := by rw [← S.h.len]; exact (List.getElem?_eq_some_iff.mp hn2).1
    obtain ⟨u, hu⟩ := (S.h.cell n hp[n] a (List.getElem?_eq_getElem hl) hn2).some
    rw [hu] at hn; cases hn
  refine ⟨⟨⟨fun b u h => keep b u (S.h.gs b u h), fun b u h => keep b u (S.h.os b u h), S.h.dj, S.h.len, fun n d b h1 h2 => ?_, S.h.nd, S.h.fr⟩, S.len, fun i s x h1 h2 => ?_, S.nd⟩, gn, on, ni, fun i c h1 h2 => ?_⟩
  · exact (S.h.cell n d b h1 h2).mono (Le.refl _) (List.prefix_refl _) (keep b)
  · have q := S.slot i s x h1 h2
    cases s with
    | no => trivial
    | val t => exact q
    | own d =>
      obtain ⟨b, e, r, g, q1, q2⟩ := q
      exact ⟨b, e, r.mono (Le.refl _) (List.prefix_refl _) (keep b), g, q1, q2⟩
  · obtain ⟨b, e, r, _⟩ := S.slot i _ _ h1 h2
    cases e
    obtain ⟨u, hu⟩ := r.some
    rw [hu] at hn; cases hn
end
end Fx

set_option maxHeartbeats 4000000
namespace Fx
open PySem L2

/-! ### the terms of the small language -/
/-- the classes that isinstance is asked of -/
inductive Cn where
  | bool | int | str | tuple | list
  deriving DecidableEq
/-- the class of a value -/
inductive Ty where
  | non | bool | int | str | tuple | list | dict
  deriving DecidableEq
/-- the built-ins -/
inductive Bi where
  | len | abs | min | max | sum | all | any | int | str | list | tuple | sorted | ord
  deriving DecidableEq
def Bi.nm : Bi → Str
  | .len => "len" | .abs => "abs" | .min => "min" | .max => "max" | .sum => "sum" | .all => "all" | .any => "any" | .int => "int" | .str => "str" | .list => "list" | .tuple => "tuple" | .sorted => "sorted" | .ord => "ord"
inductive Mt where
  | join | upper
  deriving DecidableEq
mutual
inductive E where
  | var (i : Nat)
  | con (t : T)
  | glo (x : Str)
  | bin (op : PySem.Operator) (a b : E)
  | neg (a : E)
  | not (a : E)
  | and (l : Es)
  | or (l : Es)
  | cmp (op : CmpOp) (a b : E)
  | chn (a : E) (c : Ch)
  | isN (pos : Bool) (a : E)
  | isB (pos b : Bool) (a : E)
  | rev (a : E)
  | lrng1 (a : E)
  | lrng2 (a b : E)
  | ite (c a b : E)
  | tup (l : Es)
  | lst (l : Es)
  | idx (a i : E)
  | slc (a : E) (lo hi : OE)
  | call (f : Str) (l : Es)
  | bi (f : Bi) (l : Es)
  | isi (a : E) (cs : List Cn)
  | mth (m : Mt) (a : E) (l : Es)
  | lc (own : List Nat) (tg : Tg) (it : It) (c : OE) (e : E)
  | lc2 (own : List Nat) (tg : Tg) (it : It) (tg1 : Tg) (it1 : It) (c : OE) (e : E)
  | dnew (b : Bool)
  | dget2 (a k d : E)
  | dc (b : Bool) (own : List Nat) (tg : Tg) (it : It) (k v : E)
inductive Es where
  | nil
  | cons (a : E) (r : Es)
inductive OE where
  | no
  | so (a : E)
inductive Ch where
  | one (op : CmpOp) (a : E)
  | more (op : CmpOp) (a : E) (r : Ch)
inductive It where
  | val (a : E)
  | rng1 (a : E)
  | rng2 (a b : E)
  | zip (a b : E)
  | enu (a : E)
inductive Tg where
  | nm (i : Nat)
  | tp (l : List Nat)
end

/-! ### the code of a handled exception: terms -/
mutual
inductive HE where
  | con (t : T)
  | var (i : Nat)
  | isx (cs : List Str) (tup : Bool)
  | fld (f : Str)
  | call (f : Str)
  | lst (l : HEs)
  | tup (l : HEs)
  | cat (a b : HE)
  | ite (c a b : HE)
  | jn (n : Int) (w s k : Nat)
inductive HEs where
  | nil
  | cons (a : HE) (r : HEs)
end
inductive HSt where
  | asg (i : Nat) (e : HE)
  | retIf (c e : HE)
  | ret (e : HE)
structure HFn where
  ns : Nat
  body : List HSt
/-- what is done with the exception -/
inductive HSx where
  | asg (i : Nat) (e : HE)
  | par (i j : Nat) (a b : HE)
mutual
inductive S where
  | pass
  | expr (e : E)
  | asg (i : Nat) (e : E)
  | asgO (i : Nat) (e : E)
  | asgB (i : Nat) (e : E)
  | asgT (l : List Nat) (e : E)
  | par (i j : Nat) (a b : E)
  | seti (i : Nat) (ix e : E)
  | setd (i : Nat) (ix e : E)
  | swap (i : Nat) (x1 x2 e1 e2 : E)
  | app (i : Nat) (e : E)
  | aug (i : Nat) (op : PySem.Operator) (e : E)
  | ret (e : E)
  | retN
  | ite (c : E) (a b : Ss)
  | forr (tg : Tg) (it : It) (b : Ss)
  | whl (c : E) (b : Ss)
  | bad
  | raise0 (c : Str)
  | raise1 (c : Str) (e : E)
  | tryx (b : Ss) (c : Str) (ie : Nat) (s : HSx)
inductive Ss where
  | nil
  | cons (a : S) (r : Ss)
  | frz (i : Nat) (r : Ss)
end

structure Fn where
  np : Nat
  ns : Nat
  body : Ss

/-- a choice that may be unknown -/
def sel {α : Type} : Option Bool → α → α → α → α
  | some true, a, _, _ => a
  | some false, _, b, _ => b
  | none, _, _, c => c
theorem sel_some {α : Type} (k : Bool) (a b c : α) : sel (some k) a b c = if k = true then a else b := by cases k <;> rfl
theorem sel_none {α : Type} (a b c : α) : sel none a b c = c := rfl
/-! ### outcomes -/
inductive Out (α : Type) where
  | ok (a : α) (h : Hs)
  | exc (e : T) (h : Hs)
  | stuck
  deriving Inhabited
namespace Out
def bind {α β : Type} : Out α → (α → Hs → Out β) → Out β
  | ok a h, f => f a h
  | exc e h, _ => exc e h
  | stuck, _ => stuck
@[simp] theorem bind_ok {α β : Type} (a : α) (h : Hs) (f : α → Hs → Out β) : (ok a h).bind f = f a h := rfl
@[simp] theorem bind_exc {α β : Type} (e : T) (h : Hs) (f : α → Hs → Out β) : (exc e h).bind f = exc e h := rfl
@[simp] theorem bind_stuck {α β : Type} (f : α → Hs → Out β) : stuck.bind f = stuck := rfl
def of {α : Type} : Option α → Hs → Out α
  | some a, h => ok a h
  | none, _ => stuck
@[simp] theorem of_some {α : Type} (a : α) (h : Hs) : of (some a) h = ok a h := rfl
@[simp] theorem of_none {α : Type} (h : Hs) : of (none : Option α) h = stuck := rfl
end Out

/-- an operand: a tree, or a local list that is its name's own -/
inductive P where
  | val (t : T)
  | new (c : Cell)
  | pk (i : Nat) (c : Cell)
  deriving Inhabited
def P.t : P → T
  | .val t => t
  | .new c => c.t
  | .pk _ c => c.t
/-- kept: a name's own list is not kept unseen -/
def P.k : P → Option T
  | .val t => some t
  | .new c => some c.t
  | .pk _ _ => none
/-- kp: it must be kept -/
def P.u (kp : Bool) (p : P) : Option T := if kp then p.k else some p.t
def P.ret : P → R
  | .val t => .val t
  | .new c => .new c
  | .pk _ c => .new c
def R.p : R → P
  | .val t => .val t
  | .new c => .new c

/-- the classes: their names, the names asked of -/
structure ClT where
  cls : List (Str × List Str)
  asked : List Str
  fld : List Str
  init : List (Str × Str)
def ClT.sub (t : ClT) (c d : Str) : Option Bool := if t.asked.contains d then (t.cls.lookup c).map fun l => l.contains d else none
def anySub (f : Str → Option Bool) : List Str → Option Bool
  | [] => some false
  | c :: r => match f c with
    | some true => some true
    | some false => anySub f r
    | none => none
structure Cl where
  call : Str → List T → Hs → Out R
  glob : Str → Option T
  hot : Str → Str → List T → Hs → Option (T × Hs)
  tb : ClT
  lev : Nat

inductive Fl where
  | nx (env : En) (h : Hs)
  | rt (r : R) (h : Hs)
  | bk (env : En) (h : Hs)
  | ct (env : En) (h : Hs)
  | exc (e : T) (env : En) (h : Hs)
  | stuck
  deriving Inhabited

/-! ### values -/
mutual
def T.pd : T → PyData
  | .non => .none
  | .bl b => .bool b
  | .int i => .int i
  | .str s => .str s
  | .tup l => .tuple (pds l)
  | .lst l => .list (pds l)
  | .dk _ _ => .none
  | .dt _ _ => .none
  | .set _ => .none
  | .exc _ _ => .none
  | .scr _ => .none
  | .ref _ => .none
def pds : List T → List PyData
  | [] => []
  | t :: r => t.pd :: pds r
end
mutual
/-- plain data: numbers, texts, lists, tuples -/
def T.isD : T → Bool
  | .non => true
  | .bl _ => true
  | .int _ => true
  | .str s => PySem.PyData.strOk s
  | .tup l => allD l
  | .lst l => allD l
  | .dk _ _ => false
  | .dt _ _ => false
  | .set _ => false
  | .exc _ _ => false
  | .scr _ => false
  | .ref _ => false
def allD : List T → Bool
  | [] => true
  | t :: r => t.isD && allD r
end
mutual
def T.dep : T → Nat
  | .tup l => depL l + 1
  | .lst l => depL l + 1
  | .non => 0
  | .bl _ => 0
  | .int _ => 0
  | .str _ => 0
  | .dk _ _ => 0
  | .dt _ _ => 0
  | .set _ => 0
  | .exc _ _ => 0
  | .scr _ => 0
  | .ref _ => 0
def depL : List T → Nat
  | [] => 0
  | t :: r => max t.dep (depL r)
end
mutual
def eqT : T → T → Bool
  | .non, b => match b with | .non => true | _ => false
  | .bl x, b => match b with | .bl y => x == y | .int j => (if x then 1 else 0) == j | _ => false
  | .int i, b => match b with | .int j => i == j | .bl y => i == (if y then 1 else 0) | _ => false
  | .str x, b => match b with | .str y => x == y | _ => false
  | .tup l, b => match b with | .tup m => eqL l m | _ => false
  | .lst l, b => match b with | .lst m => eqL l m | _ => false
  | .dk _ _, _ => false
  | .dt _ _, _ => false
  | .set _, _ => false
  | .exc _ _, _ => false
  | .scr _, _ => false
  | .ref _, _ => false
def eqL : List T → List T → Bool
  | [], b => match b with | [] => true | _ :: _ => false
  | x :: l, b => match b with | y :: m => eqT x y && eqL l m | [] => false
end
def okEq (a b : T) : Bool := a.isD && b.isD && decide (min a.dep b.dep ≤ 64)

def opB : PySem.Operator → T → T → Option P
  | .Add, .int i, .int j => some (.val (.int (i + j)))
  | .Add, .str a, .str b => if a.length + b.length ≤ sizeLine then some (.val (.str (a ++ b))) else none
  | .Add, .lst a, .lst b => if a.length + b.length ≤ sizeLine then some (.new (.lst (a ++ b))) else none
  | .Add, .tup a, .tup b => if a.length + b.length ≤ sizeLine then some (.val (.tup (a ++ b))) else none
  | .Sub, .int i, .int j => some (.val (.int (i - j)))
  | .Mult, .int i, .int j => if i.natAbs.log2 + j.natAbs.log2 < 1000000 then some (.val (.int (i * j))) else none
  | .Mult, .tup a, .int k => if a.isEmpty = false ∧ 2 ≤ k ∧ k ≤ 1000 ∧ a.length ≤ 1000 then some (.val (.tup (List.replicate k.toNat a).flatten)) else none
  | .Mult, .lst a, .int k => if -(2 ^ 63) ≤ k ∧ k < 2 ^ 63 ∧ a.length * k.toNat ≤ sizeLine then some (.new (.lst (List.replicate k.toNat a).flatten)) else none
  | .FloorDiv, .int i, .int j => if 0 < j ∧ j.natAbs.log2 < 9000 then some (.val (.int (i / j))) else none
  | .Mod, .int i, .int j => if 0 < j then some (.val (.int (i % j))) else none
  | .Pow, .int i, .int j => if 0 ≤ j ∧ j ≤ 1000000 ∧ i.natAbs < 2 ^ 64 then some (.val (.int (i ^ j.toNat))) else none
  | .Add, .bl k, .int j => some (.val (.int ((if k = true then (1 : Int) else 0) + j)))
  | .Sub, .bl k, .int j => some (.val (.int ((if k = true then (1 : Int) else 0) - j)))
  | _, _, _ => none

/-! ### dicts: keys numbers or texts, or tuples of such -/
def dG {κ α : Type} [DecidableEq κ] (l : List (κ × α)) (k : κ) : Option α := (l.find? fun kv => decide (kv.1 = k)).map (·.2)
def dP {κ α : Type} [DecidableEq κ] (l : List (κ × α)) (k : κ) (v : α) : List (κ × α) :=
  if (l.any fun kv => decide (kv.1 = k)) = true then l.map (fun kv => if kv.1 = k then (kv.1, v) else kv) else l ++ [(k, v)]
def kOf : T → Option Key
  | .int i => some (.inl i)
  | .str x => some (.inr x)
  | _ => none
def kOfs : List T → Option (List Key)
  | [] => some []
  | t :: r => (kOf t).bind fun k => (kOfs r).map (k :: ·)
def ksOf : T → Option (List Key)
  | .tup l => kOfs l
  | _ => none
/-- what a dict holds at a key -/
def dFind : T → T → Option (Option T)
  | .dk ks vs, k => (kOf k).map fun q => dG (ks.zip vs) q
  | .dt ks vs, k => (ksOf k).map fun q => dG (ks.zip vs) q
  | _, _ => none
def dPut : Cell → T → T → Option Cell
  | .dk ks vs, k, v => (kOf k).bind fun q => if ks.length < sizeLine then some (.dk ((dP (ks.zip vs) q v).map (·.1)) ((dP (ks.zip vs) q v).map (·.2))) else none
  | .dt ks vs, k, v => (ksOf k).bind fun q => if ks.length < sizeLine then some (.dt ((dP (ks.zip vs) q v).map (·.1)) ((dP (ks.zip vs) q v).map (·.2))) else none
  | _, _, _ => none
def isDct : T → Bool
  | .dk _ _ => true
  | .dt _ _ => true
  | _ => false
def dEmp (b : Bool) : Cell := if b then .dt [] [] else .dk [] []

/-- the order of data that are alike -/
def ltT (a b : T) : Bool := PySem.W.dataLt a.pd b.pd
def okLt (a b : T) : Bool := a.isD && b.isD && PySem.W.alike a.pd b.pd && (match a with | .non => false | _ => true) && decide (min a.dep b.dep ≤ 60)
def opC : CmpOp → T → T → Option Bool
  | .Eq, a, b => if okEq a b then some (eqT a b) else none
  | .NotEq, a, b => if okEq a b then some (!eqT a b) else none
  | .Lt, .int i, .int j => some (decide (i < j))
  | .LtE, .int i, .int j => some (decide (i ≤ j))
  | .Gt, .int i, .int j => some (decide (j < i))
  | .GtE, .int i, .int j => some (decide (j ≤ i))
  | .Lt, .str i, .str j => some (decide (i.cps.toList < j.cps.toList))
  | .Gt, .str i, .str j => some (decide (j.cps.toList < i.cps.toList))
  | .LtE, .str i, .str j => some (!decide (j.cps.toList < i.cps.toList))
  | .GtE, .str i, .str j => some (!decide (i.cps.toList < j.cps.toList))
  | .Lt, a, b => if okLt a b then some (ltT a b) else none
  | .Gt, a, b => if okLt a b then some (ltT b a) else none
  | .LtE, a, b => if okLt a b then some (!ltT b a) else none
  | .GtE, a, b => if okLt a b then some (!ltT a b) else none
  | .In, .str ⟨⟨[c]⟩⟩, .str j => some (decide (c ∈ j.cps.toList))
  | .NotIn, .str ⟨⟨[c]⟩⟩, .str j => some (!decide (c ∈ j.cps.toList))
  | .In, .str i, .str j => some (!(Builtin.Str.occurrences j i 0 j.length 1).isEmpty)
  | .NotIn, .str i, .str j => some (!!(Builtin.Str.occurrences j i 0 j.length 1).isEmpty)
  | .In, a, .lst l => if okEq a a && okEq (.lst l) (.lst l) then some (l.any fun z => eqT z a) else none
  | .NotIn, a, .lst l => if okEq a a && okEq (.lst l) (.lst l) then some (!l.any fun z => eqT z a) else none
  | .In, a, .dk ks vs => (dFind (.dk ks vs) a).map fun o => o.isSome
  | .NotIn, a, .dk ks vs => (dFind (.dk ks vs) a).map fun o => !o.isSome
  | .In, a, .dt ks vs => (dFind (.dt ks vs) a).map fun o => o.isSome
  | .NotIn, a, .dt ks vs => (dFind (.dt ks vs) a).map fun o => !o.isSome
  | _, _, _ => none

def opI : T → T → Option T
  | .lst l, .int i => atI l i
  | .scr l, .int i => atI l i
  | .tup l, .int i => atI l i
  | .str s, .int i => if s.length ≤ sizeLine then (atI s.cps.toList i).map fun c => .str ⟨#[c]⟩ else none
  | .dk ks vs, k => (dFind (.dk ks vs) k).bind id
  | .dt ks vs, k => (dFind (.dt ks vs) k).bind id
  | _, _ => none
def cutT (xs : List T) (lo hi : Option Int) : List T := (xs.drop (HT.sIx xs.length 0 lo)).take (HT.sIx xs.length xs.length hi - HT.sIx xs.length 0 lo)
def opS : T → Option Int → Option Int → Option P
  | .lst l, lo, hi => some (.new (.lst (cutT l lo hi)))
  | .tup l, lo, hi => some (.val (.tup (cutT l lo hi)))
  | .str s, lo, hi => if s.length ≤ sizeLine then some (.val (.str (cutS s lo hi))) else none
  | _, _, _ => none

def ints? : List T → Option (List Int)
  | [] => some []
  | .int i :: r => (ints? r).map (i :: ·)
  | _ :: _ => none
def bls? : List T → Option (List Bool)
  | [] => some []
  | .bl i :: r => (bls? r).map (i :: ·)
  | _ :: _ => none
def strs? : List T → Option (List Str)
  | [] => some []
  | .str i :: r => (strs? r).map (i :: ·)
  | _ :: _ => none

def fLen : List T → Option P
  | [.lst l] => some (.val (.int l.length))
  | [.tup l] => some (.val (.int l.length))
  | [.scr l] => some (.val (.int l.length))
  | [.str s] => if s.length ≤ sizeLine then some (.val (.int s.length)) else none
  | [.dk ks _] => some (.val (.int ks.length))
  | _ => none
def fAbs : List T → Option P
  | [.int i] => some (.val (.int (if i < 0 then -i else i)))
  | _ => none
def fMin : List T → Option P
  | [.int i, .int j] => some (.val (.int (if j < i then j else i)))
  | _ => none
def fMax : List T → Option P
  | [.int i, .int j] => some (.val (.int (if j > i then j else i)))
  | _ => none
def fSum : List T → Option P
  | [.lst l] => (ints? l).map fun ns => .val (.int ns.sum)
  | _ => none
def fAll : List T → Option P
  | [.lst l] => (bls? l).map fun ns => .val (.bl (ns.all id))
  | _ => none
def fAny : List T → Option P
  | [.lst l] => (bls? l).map fun ns => .val (.bl (ns.any id))
  | _ => none
def fInt : List T → Option P
  | [.int i] => some (.val (.int i))
  | [.bl b] => some (.val (.int (if b then 1 else 0)))
  | _ => none
def fStr : List T → Option P
  | [.int i] => if i.natAbs.log2 < 1920 then some (.val (.str (toString i))) else none
  | [.str s] => some (.val (.str s))
  | [.bl k] => some (.val (.str (if k then "True" else "False")))
  | _ => none
def fList : List T → Option P
  | [.lst l] => some (.new (.lst l))
  | [.tup l] => some (.new (.lst l))
  | _ => none
def fTuple : List T → Option P
  | [.lst l] => some (.val (.tup l))
  | [.tup l] => some (.val (.tup l))
  | _ => none
def isTup1 : T → Bool
  | .tup (_ :: _) => true
  | _ => false
def noTup : T → Bool
  | .tup _ => false
  | .non => false
  | _ => true
/-- what can be sorted -/
def okSort (l : List T) : Bool := allD l && (l.all fun a => l.all fun b => PySem.W.alike a.pd b.pd) && (l.all isTup1 || l.all noTup) && decide (depL l ≤ 60) && decide (l.length ≤ sizeLine)
def sortT (l : List T) : List T := l.mergeSort (PySem.W.dataLe false T.pd)
def fSorted : List T → Option P
  | [.lst l] => if okSort l then some (.new (.lst (sortT l))) else none
  | [.tup l] => if okSort l then some (.new (.lst (sortT l))) else none
  | _ => none
def fOrd : List T → Option P
  | [.str ⟨⟨[c]⟩⟩] => some (.val (.int (c : Nat)))
  | _ => none
def opF : Bi → List T → Option P
  | .len => fLen | .abs => fAbs | .min => fMin | .max => fMax | .sum => fSum | .all => fAll | .any => fAny | .int => fInt | .str => fStr | .list => fList | .tuple => fTuple | .sorted => fSorted | .ord => fOrd

def mJoin : T → List T → Option P
  | .str s, [.lst l] => (strs? l).bind fun ys => if (ys.map (·.length)).sum + ys.length * s.length ≤ 16777216 then some (.val (.str (Txt.join s ys))) else none
  | _, _ => none
def mUpper : T → List T → Option P
  | .str s, [] => if s.length ≤ 5592405 then some (.val (.str (Txt.upper s))) else none
  | _, _ => none
def opM : Mt → T → List T → Option P
  | .join => mJoin | .upper => mUpper

def T.isNon : T → Bool
  | .non => true
  | _ => false
def T.ty : T → Option Ty
  | .non => some .non
  | .bl _ => some .bool
  | .int _ => some .int
  | .str _ => some .str
  | .tup _ => some .tuple
  | .lst _ => some .list
  | .dk _ _ => none
  | .dt _ _ => none
  | .set _ => none
  | .exc _ _ => none
  | .scr _ => none
  | .ref _ => none
def isTy : Ty → Cn → Bool
  | .bool, .bool => true
  | .bool, .int => true
  | .int, .int => true
  | .str, .str => true
  | .tuple, .tuple => true
  | .list, .list => true
  | _, _ => false
def opIs (t : T) (cs : List Cn) : Option Bool := t.ty.map fun y => cs.any (isTy y)

def signsT (s : Str) : List T := s.cps.toList.map fun c => .str ⟨#[c]⟩
/-- the things a walked value gives -/
def itemsT : T → Option (List T)
  | .lst l => some l
  | .tup l => some l
  | .str s => some (signsT s)
  | _ => none
def seqT : T → Option (List T)
  | .lst l => some l
  | .tup l => some l
  | _ => none
def rangeT (lo hi : Int) : List T := (List.range (hi - lo).toNat).map fun k => .int (lo + (k : Nat))
def smallR (i j : Int) : Bool := decide (-(2 ^ 62) ≤ i ∧ i < 2 ^ 62 ∧ -(2 ^ 62) ≤ j ∧ j < 2 ^ 62 ∧ (j - i).toNat ≤ 2 ^ 24)
def enuT (l : List T) : List T := l.zipIdx.map fun p => .tup [.int (p.2 : Nat), p.1]
def smallI (i : Int) : Bool := decide (-(2 ^ 62) ≤ i ∧ i < 2 ^ 62)

def putE (env : En) (i : Nat) (s : Slot) : En := env.set i s
def wipeE (env : En) : List Nat → En
  | [] => env
  | v :: vs => (wipeE env vs).set v .no
def putEs (env : En) : List Nat → List T → Option En
  | [], [] => some env
  | i :: is, t :: ts => putEs (env.set i (.val t)) is ts
  | _, _ => none
def putTg (tg : Tg) (env : En) (t : T) : Option En := match tg with
  | .nm i => some (env.set i (.val t))
  | .tp l => match t with
    | .tup ts => putEs env l ts
    | _ => none

def truthB : P → Option Bool
  | .val (.bl b) => some b
  | _ => none

/-- whose method it is -/
def Mt.ty : Mt → Ty
  | .join => .str
  | .upper => .str
/-! ### what a term yields -/
/-- a comprehension's loop: f puts the item, tests; g is the element -/
def lcL (f : T → Hs → Out (Option T)) : List T → Hs → Out (List T)
  | [], h => .ok [] h
  | x :: xs, h => (f x h).bind fun o h1 => (lcL f xs h1).bind fun ys h2 => .ok (match o with | some y => y :: ys | none => ys) h2
def lcL2 (f : T → Hs → Out (List T)) : List T → Hs → Out (List T)
  | [], h => .ok [] h
  | x :: xs, h => (f x h).bind fun o h1 => (lcL2 f xs h1).bind fun ys h2 => .ok (o ++ ys) h2
def freeE (env : En) (own : List Nat) : Bool := own.all fun i => match env[i]? with
  | some (.own _) => false
  | _ => true
/-- a dict comprehension's loop -/
def dcL (f : T → Hs → Out (T × T)) : List T → Cell → Hs → Out Cell
  | [], c, h => .ok c h
  | x :: xs, c, h => (f x h).bind fun kv h1 => match dPut c kv.1 kv.2 with
    | some c1 => dcL f xs c1 h1
    | none => .stuck
/-- nothing may be raised within a comprehension -/
def noX {α : Type} : Out α → Out α
  | .exc _ _ => .stuck
  | o => o

def tgSlots : Tg → List Nat
  | .nm i => [i]
  | .tp l => l
mutual
def ev (Γ : Cl) : E → En → Hs → Out P
  | .var i, env, h => match env[i]? with
    | some (.val t) => .ok (.val t) h
    | some (.own c) => .ok (.pk i c) h
    | _ => .stuck
  | .con t, _, h => .ok (.val t) h
  | .glo x, _, h => .of ((Γ.glob x).map P.val) h
  | .bin op a b, env, h => (ev Γ a env h).bind fun x h1 => (ev Γ b env h1).bind fun y h2 => .of (opB op x.t y.t) h2
  | .neg a, env, h => (ev Γ a env h).bind fun x h1 => match x.t with
    | .int i => .ok (.val (.int (-i))) h1
    | .bl k => .ok (.val (.int (-(if k = true then (1 : Int) else 0)))) h1
    | _ => .stuck
  | .not a, env, h => (ev Γ a env h).bind fun x h1 => .of ((truthB x).map fun b => P.val (.bl (!b))) h1
  | .and l, env, h => evAnd Γ l env h
  | .or l, env, h => evOr Γ l env h
  | .cmp op a b, env, h => (ev Γ a env h).bind fun x h1 => (ev Γ b env h1).bind fun y h2 => .of ((opC op x.t y.t).map fun b => P.val (.bl b)) h2
  | .chn a c, env, h => (ev Γ a env h).bind fun x h1 => evCh Γ c x.t env h1
  | .isN p a, env, h => (ev Γ a env h).bind fun x h1 => .ok (.val (.bl (x.t.isNon == p))) h1
  | .isB p b a, env, h => (ev Γ a env h).bind fun x h1 => .of ((truthB x).map fun c => P.val (.bl (decide (c = b) == p))) h1
  | .rev a, env, h => (ev Γ a env h).bind fun x h1 => match x.t with
    | .lst l => .ok (.new (.lst l.reverse)) h1
    | _ => .stuck
  | .lrng1 a, env, h => (ev Γ a env h).bind fun x h1 => match x.t with
    | .int j => if smallR 0 j then .ok (.new (.lst (rangeT 0 j))) h1 else .stuck
    | _ => .stuck
  | .lrng2 a b, env, h => (ev Γ a env h).bind fun x h1 => (ev Γ b env h1).bind fun y h2 => match x.t, y.t with
    | .int i, .int j => if smallR i j then .ok (.new (.lst (rangeT i j))) h2 else .stuck
    | _, _ => .stuck
  | .ite c a b, env, h => (ev Γ c env h).bind fun x h1 => sel (truthB x) (ev Γ a env h1) (ev Γ b env h1) .stuck
  | .tup l, env, h => (evs Γ l env h).bind fun ts h1 => .of (if ts.length ≤ sizeLine then some (P.val (.tup ts)) else none) h1
  | .lst l, env, h => (evs Γ l env h).bind fun ts h1 => .of (if ts.length ≤ sizeLine then some (P.new (.lst ts)) else none) h1
  | .idx a i, env, h => (ev Γ a env h).bind fun x h1 => (ev Γ i env h1).bind fun y h2 => match x.t with
    | .ref n => match h2[n]? with
      | some (.lst l) => .of ((opI (.lst l) y.t).map P.val) h2
      | _ => .stuck
    | t => .of ((opI t y.t).map P.val) h2
  | .slc a lo hi, env, h => (ev Γ a env h).bind fun x h1 => (evO Γ lo env h1).bind fun l h2 => (evO Γ hi env h2).bind fun u h3 => .of (opS x.t l u) h3
  | .call f l, env, h => (evs Γ l env h).bind fun ts h1 => (Γ.call f ts h1).bind fun r h2 => .ok r.p h2
  | .bi f l, env, h => (evp Γ l env h).bind fun ts h1 => .of (opF f ts) h1
  | .isi a cs, env, h => (ev Γ a env h).bind fun x h1 => .of ((opIs x.t cs).map fun b => P.val (.bl b)) h1
  | .mth m a l, env, h => (ev Γ a env h).bind fun x h1 => if x.t.ty = some m.ty then (evp Γ l env h1).bind fun ts h2 => .of (opM m x.t ts) h2 else .stuck
  | .lc own tg it c e, env, h => (evI Γ false it env h).bind fun xs h1 =>
      if xs.length ≤ sizeLine ∧ freeE env own = true then
        (noX (lcL (fun x h2 => match putTg tg (wipeE env own) x with
          | none => .stuck
          | some env2 => (evC Γ c env2 h2).bind fun b h3 => if b then (ev Γ e env2 h3).bind fun r h4 => .of (r.k.map some) h4 else .ok none h3) xs h1)).bind fun ys h5 => .ok (.new (.lst ys)) h5
      else .stuck
  | .lc2 own tg it tg1 it1 c e, env, h => (evI Γ false it env h).bind fun xs h1 =>
      if freeE env own = true then (noX (lcL2 (fun x h2 => match putTg tg (wipeE env own) x with
          | none => .stuck
          | some env2 => (evI Γ false it1 env2 h2).bind fun zs h3 => if freeE env2 (tgSlots tg1) = true then lcL (fun z h4 => match putTg tg1 (wipeE env2 (tgSlots tg1)) z with
            | none => .stuck
            | some env3 => (evC Γ c env3 h4).bind fun b h5 => if b then (ev Γ e env3 h5).bind fun r h6 => .of (r.k.map some) h6 else .ok none h5) zs h3 else .stuck) xs h1)).bind fun ys h5 =>
        if ys.length ≤ sizeLine then .ok (.new (.lst ys)) h5 else .stuck
      else .stuck
  | .dnew b, _, h => .ok (.new (dEmp b)) h
  | .dget2 a k d, env, h => (ev Γ a env h).bind fun x h1 => if isDct x.t then (ev Γ k env h1).bind fun y h2 => (ev Γ d env h2).bind fun z h3 => .of ((dFind x.t y.t).map fun o => match o with | some t => P.val t | none => z) h3 else .stuck
  | .dc b own tg it k v, env, h => (evI Γ false it env h).bind fun xs h1 =>
      if xs.length ≤ sizeLine ∧ freeE env own = true then
        (noX (dcL (fun x h2 => match putTg tg (wipeE env own) x with
          | none => .stuck
          | some env2 => (ev Γ k env2 h2).bind fun y h3 => match y.k with
            | none => .stuck
            | some tk => (ev Γ v env2 h3).bind fun z h4 => .of (z.k.map fun tv => (tk, tv)) h4) xs (dEmp b) h1)).bind fun c h5 => .ok (.new c) h5
      else .stuck
def evs (Γ : Cl) : Es → En → Hs → Out (List T)
  | .nil, _, h => .ok [] h
  | .cons a r, env, h => (ev Γ a env h).bind fun x h1 => match x.k with
    | none => .stuck
    | some t => (evs Γ r env h1).bind fun ts h2 => .ok (t :: ts) h2
def evp (Γ : Cl) : Es → En → Hs → Out (List T)
  | .nil, _, h => .ok [] h
  | .cons a r, env, h => (ev Γ a env h).bind fun x h1 => (evp Γ r env h1).bind fun ts h2 => .ok (x.t :: ts) h2
def evO (Γ : Cl) : OE → En → Hs → Out (Option Int)
  | .no, _, h => .ok none h
  | .so a, env, h => (ev Γ a env h).bind fun x h1 => match x.t with
    | .int i => .ok (some i) h1
    | _ => .stuck
def evC (Γ : Cl) : OE → En → Hs → Out Bool
  | .no, _, h => .ok true h
  | .so a, env, h => (ev Γ a env h).bind fun x h1 => .of (truthB x) h1
def evAnd (Γ : Cl) : Es → En → Hs → Out P
  | .nil, _, _ => .stuck
  | .cons a .nil, env, h => ev Γ a env h
  | .cons a r, env, h => (ev Γ a env h).bind fun x h1 => sel (truthB x) (evAnd Γ r env h1) (.ok (.val (.bl false)) h1) .stuck
def evOr (Γ : Cl) : Es → En → Hs → Out P
  | .nil, _, _ => .stuck
  | .cons a .nil, env, h => ev Γ a env h
  | .cons a r, env, h => (ev Γ a env h).bind fun x h1 => sel (truthB x) (.ok (.val (.bl true)) h1) (evOr Γ r env h1) .stuck
def evCh (Γ : Cl) : Ch → T → En → Hs → Out P
  | .one op a, x, env, h => (ev Γ a env h).bind fun y h1 => .of ((opC op x y.t).map fun b => P.val (.bl b)) h1
  | .more op a r, x, env, h => (ev Γ a env h).bind fun y h1 => sel (opC op x y.t) (evCh Γ r y.t env h1) (.ok (.val (.bl false)) h1) .stuck
def evI (Γ : Cl) (kp : Bool) : It → En → Hs → Out (List T)
  | .val a, env, h => (ev Γ a env h).bind fun x h1 => .of ((x.u kp).bind itemsT) h1
  | .rng1 a, env, h => (ev Γ a env h).bind fun x h1 => match x.t with
    | .int j => if smallI j then .ok (rangeT 0 j) h1 else .stuck
    | _ => .stuck
  | .rng2 a b, env, h => (ev Γ a env h).bind fun x h1 => (ev Γ b env h1).bind fun y h2 => match x.t, y.t with
    | .int i, .int j => if smallI i && smallI j then .ok (rangeT i j) h2 else .stuck
    | _, _ => .stuck
  | .zip a b, env, h => (ev Γ a env h).bind fun x h1 => match x.u kp with
    | none => .stuck
    | some tx => (ev Γ b env h1).bind fun y h2 => match tx, y.u kp with
      | .lst xs, some (.lst ys) => .ok (xs.zipWith (fun x y => .tup [x, y]) ys) h2
      | .tup xs, some (.tup ys) => .ok (xs.zipWith (fun x y => .tup [x, y]) ys) h2
      | _, _ => .stuck
  | .enu a, env, h => (ev Γ a env h).bind fun x h1 => .of (((x.u kp).bind itemsT).map enuT) h1
end

/-- t op= u -/
def augT : PySem.Operator → T → T → Option T
  | .Add, .int a, .int b => some (.int (a + b))
  | .Sub, .int a, .int b => some (.int (a - b))
  | _, _, _ => none
/-- what may be asked of the exception -/
structure Hx where
  sub : Str → Option Bool
  fs : List T
  call : Str → Hs → Option (T × Hs)
/-- the closure of terms that call nothing -/
def noCl : Cl := ⟨fun _ _ _ => .stuck, fun _ => none, fun _ _ _ _ => none, ⟨[], [], [], []⟩, 0⟩
/-- ''.join([w[k] for k in range(n) if s[k]]) -/
def jnE (n : Int) (w s k : Nat) : E := .mth .join (.con (.str Str.empty)) (.cons (.lc [k] (.nm k) (.rng1 (.con (.int n))) (.so (.idx (.var s) (.var k))) (.idx (.var w) (.var k))) .nil)
def okVal : Out P → Option (T × Hs)
  | .ok (.val t) h => some (t, h)
  | _ => none
mutual
def hv (η : Hx) : HE → En → Hs → Option (T × Hs)
  | .con t, _, h => some (t, h)
  | .var i, env, h => match env[i]? with
    | some (.val t) => some (t, h)
    | _ => none
  | .isx cs _, _, h => (anySub η.sub cs).map fun b => (.bl b, h)
  | .fld f, _, h => match η.fs with
    | [.str g, t] => if f = g then some (t, h) else none
    | _ => none
  | .call f, _, h => η.call f h
  | .lst l, env, h => (hvs η l env h).bind fun q => if q.1.length ≤ sizeLine then some (.lst q.1, q.2) else none
  | .tup l, env, h => (hvs η l env h).bind fun q => if q.1.length ≤ sizeLine then some (.tup q.1, q.2) else none
  | .cat a b, env, h => (hv η a env h).bind fun x => (hv η b env x.2).bind fun y => match x.1, y.1 with
    | .lst l, .lst m => if l.length + m.length ≤ sizeLine then some (.lst (l ++ m), y.2) else none
    | _, _ => none
  | .ite c a b, env, h => (hv η c env h).bind fun x => match x.1 with
    | .bl true => hv η a env x.2
    | .bl false => hv η b env x.2
    | _ => none
  | .jn n w s k, env, h => okVal (ev noCl (jnE n w s k) env h)
def hvs (η : Hx) : HEs → En → Hs → Option (List T × Hs)
  | .nil, _, h => some ([], h)
  | .cons a r, env, h => (hv η a env h).bind fun x => (hvs η r env x.2).bind fun y => some (x.1 :: y.1, y.2)
end
def hrun (η : Hx) : List HSt → En → Hs → Option (T × Hs)
  | [], _, _ => none
  | .asg i e :: r, env, h => (hv η e env h).bind fun x => hrun η r (env.set i (.val x.1)) x.2
  | .retIf c e :: r, env, h => (hv η c env h).bind fun x => match x.1 with
    | .bl true => hv η e env x.2
    | .bl false => hrun η r env x.2
    | _ => none
  | .ret e :: _, env, h => hv η e env h

/-- what such a def yields -/
def hxOf (tb : ClT) (c : Str) (fs : List T) (cl : Str → Hs → Option (T × Hs)) : Hx := ⟨tb.sub c, fs, cl⟩
def hotFn (tb : ClT) (f : HFn) (c : Str) (fs : List T) (h : Hs) : Option (T × Hs) := if (tb.cls.lookup c).isSome = true then hrun (hxOf tb c fs fun _ _ => none) f.body (List.replicate f.ns .no) h else none
def hsx (η : Hx) : HSx → En → Hs → Option (En × Hs)
  | .asg i e, env, h => (hv η e env h).bind fun x => some (env.set i (.val x.1), x.2)
  | .par i j a b, env, h => (hvs η (.cons a (.cons b .nil)) env h).bind fun x => match x.1 with
    | [t, u] => some ((env.set i (.val t)).set j (.val u), x.2)
    | _ => none
/-! ### what a statement does -/
def Fl.bind : Fl → (En → Hs → Fl) → Fl
  | .nx env h, f => f env h
  | x, _ => x
@[simp] theorem Fl.bind_nx (env : En) (h : Hs) (f : En → Hs → Fl) : (Fl.nx env h).bind f = f env h := rfl
@[simp] theorem Fl.bind_rt (r : R) (h : Hs) (f : En → Hs → Fl) : (Fl.rt r h).bind f = .rt r h := rfl
@[simp] theorem Fl.bind_bk (env : En) (h : Hs) (f : En → Hs → Fl) : (Fl.bk env h).bind f = .bk env h := rfl
@[simp] theorem Fl.bind_ct (env : En) (h : Hs) (f : En → Hs → Fl) : (Fl.ct env h).bind f = .ct env h := rfl
@[simp] theorem Fl.bind_exc (e : T) (env : En) (h : Hs) (f : En → Hs → Fl) : (Fl.exc e env h).bind f = .exc e env h := rfl
@[simp] theorem Fl.bind_stuck (f : En → Hs → Fl) : Fl.stuck.bind f = .stuck := rfl
def Out.fl {α : Type} : Out α → En → (α → Hs → Fl) → Fl
  | .ok a h, _, f => f a h
  | .exc e h, env, _ => .exc e env h
  | .stuck, _, _ => .stuck
@[simp] theorem Out.fl_ok {α : Type} (a : α) (h : Hs) (env : En) (f : α → Hs → Fl) : (Out.ok a h).fl env f = f a h := rfl
@[simp] theorem Out.fl_exc {α : Type} (e : T) (h : Hs) (env : En) (f : α → Hs → Fl) : (Out.exc e h : Out α).fl env f = .exc e env h := rfl
@[simp] theorem Out.fl_stuck {α : Type} (env : En) (f : α → Hs → Fl) : (Out.stuck : Out α).fl env f = .stuck := rfl

/-- a for's turns -/
def forL (tg : Tg) (b : En → Hs → Fl) : List T → En → Hs → Fl
  | [], env, h => .nx env h
  | x :: xs, env, h => match putTg tg env x with
    | none => .stuck
    | some env1 => match b env1 h with
      | .nx env2 h2 => forL tg b xs env2 h2
      | .ct env2 h2 => forL tg b xs env2 h2
      | .bk env2 h2 => .nx env2 h2
      | r => r
/-- a while's turns, at most n -/
def whlL (c : En → Hs → Out P) (b : En → Hs → Fl) : Nat → En → Hs → Fl
  | 0, _, _ => .stuck
  | n + 1, env, h => (c env h).fl env fun x h1 => sel (truthB x) (match b env h1 with
      | .nx env2 h2 => whlL c b n env2 h2
      | .ct env2 h2 => whlL c b n env2 h2
      | .bk env2 h2 => .nx env2 h2
      | r => r) (.nx env h1) .stuck
/-- the most turns of a while that are told -/
def turns : Nat := 1000000

/-- x[k] = t, x a name -/
def setAt (env : En) (h : Hs) (i : Nat) (k t : T) : Fl := match env[i]? with
  | some (.own (.lst l)) => match k with
    | .int z => match ixN l.length z with
      | some j => .nx (env.set i (.own (.lst (l.set j t)))) h
      | none => .stuck
    | _ => .stuck
  | some (.val (.ref n)) => match h[n]? with
    | some (.lst l) => match k with
      | .int z => match ixN l.length z with
        | some j => .nx env (h.set n (.lst (l.set j t)))
        | none => .stuck
      | _ => .stuck
    | _ => .stuck
  | _ => .stuck

def hasSlot (env : En) (i : Nat) : Bool := match env[i]? with
  | some (.val _) => true
  | some (.own _) => true
  | _ => false
/-- a name that holds a list that may be changed -/
def isLst (env : En) (h : Hs) (i : Nat) : Bool := match env[i]? with
  | some (.own (.lst _)) => true
  | some (.val (.ref n)) => match h[n]? with
    | some (.lst _) => true
    | _ => false
  | _ => false
mutual
def ex (Γ : Cl) : S → En → Hs → Fl
  | .pass, env, h => .nx env h
  | .expr e, env, h => (ev Γ e env h).fl env fun _ h1 => .nx env h1
  | .asg i e, env, h => (ev Γ e env h).fl env fun x h1 => match x.k with
    | some t => .nx (env.set i (.val t)) h1
    | none => .stuck
  | .asgO i e, env, h => (ev Γ e env h).fl env fun x h1 => match x with
    | .new c => .nx (env.set i (.own c)) h1
    | _ => .stuck
  | .asgB i e, env, h => (ev Γ e env h).fl env fun x h1 => match x with
    | .new c => .nx (env.set i (.val (.ref h1.length))) (h1 ++ [c])
    | _ => .stuck
  | .asgT l e, env, h => (ev Γ e env h).fl env fun x h1 => match x.k with
    | some (.tup ts) => match putEs env l ts with
      | some env1 => .nx env1 h1
      | none => .stuck
    | _ => .stuck
  | .par i j a b, env, h => (evs Γ (.cons a (.cons b .nil)) env h).fl env fun ts h2 => match ts with
    | [t, u] => .nx ((env.set i (.val t)).set j (.val u)) h2
    | _ => .stuck
  | .seti i ix e, env, h => (ev Γ e env h).fl env fun x h1 => match x.k with
    | some t => if hasSlot env i then (ev Γ ix env h1).fl env fun k h2 => setAt env h2 i k.t t else .stuck
    | none => .stuck
  | .setd i ix e, env, h => (ev Γ e env h).fl env fun x h1 => match x.k with
    | some t => if hasSlot env i then (ev Γ ix env h1).fl env fun k h2 => match k.k with
      | some kt => match env[i]? with
        | some (.own c) => match dPut c kt t with
          | some c' => .nx (env.set i (.own c')) h2
          | none => .stuck
        | _ => .stuck
      | none => .stuck
      else .stuck
    | none => .stuck
  | .swap i x1 x2 e1 e2, env, h => (evs Γ (.cons e1 (.cons e2 .nil)) env h).fl env fun ts h2 => match ts with
    | [t, u] => if hasSlot env i then (ev Γ x1 env h2).fl env fun k1 h3 => (setAt env h3 i k1.t t).bind fun env1 h4 => if hasSlot env1 i then (ev Γ x2 env1 h4).fl env1 fun k2 h5 => setAt env1 h5 i k2.t u else .stuck else .stuck
    | _ => .stuck
  | .app i e, env, h => if isLst env h i then (ev Γ e env h).fl env fun x h1 => match x.k with
    | some t => match env[i]? with
      | some (.own (.lst l)) => if l.length < sizeLine then .nx (env.set i (.own (.lst (l ++ [t])))) h1 else .stuck
      | some (.val (.ref n)) => match h1[n]? with
        | some (.lst l) => if l.length < sizeLine then .nx env (h1.set n (.lst (l ++ [t]))) else .stuck
        | _ => .stuck
      | _ => .stuck
    | none => .stuck
    else .stuck
  | .aug i op e, env, h => match env[i]? with
    | some (.val t) => (ev Γ e env h).fl env fun y h1 => match augT op t y.t with
      | some u => .nx (env.set i (.val u)) h1
      | none => .stuck
    | _ => .stuck
  | .ret e, env, h => (ev Γ e env h).fl env fun x h1 => .rt x.ret h1
  | .retN, _, h => .rt (.val .non) h
  | .ite c a b, env, h => (ev Γ c env h).fl env fun x h1 => sel (truthB x) (exs Γ a env h1) (exs Γ b env h1) .stuck
  | .forr tg it b, env, h => (evI Γ true it env h).fl env fun xs h1 => forL tg (exs Γ b) xs env h1
  | .whl c b, env, h => whlL (ev Γ c) (exs Γ b) turns env h
  | .bad, _, _ => .stuck
  | .raise0 c, env, h => if (Γ.tb.cls.lookup c).isSome = true ∧ Γ.tb.init.lookup c = none then .exc (.exc c []) env h else .stuck
  | .raise1 c e, env, h => match Γ.tb.init.lookup c with
    | some f => if 2 ≤ Γ.lev then (evs Γ (.cons e .nil) env h).fl env fun ts h1 => match ts with
      | [t] => .exc (.exc c [.str f, t]) env h1
      | _ => .stuck
      else .stuck
    | none => .stuck
  | .tryx b c ie s, env, h => match exs Γ b env h with
    | .exc e env1 h1 => match e with
      | .exc d fs => match Γ.tb.sub d c with
        | some true => if 1 ≤ Γ.lev ∧ ie < env1.length then (match hsx (hxOf Γ.tb d fs fun f h => Γ.hot f d fs h) s (env1.set ie .no) h1 with
          | some q => .nx (q.1.set ie .no) q.2
          | none => .stuck) else .stuck
        | some false => .exc e env1 h1
        | none => .stuck
      | _ => .stuck
    | r => r
def exs (Γ : Cl) : Ss → En → Hs → Fl
  | .nil, env, h => .nx env h
  | .cons a r, env, h => (ex Γ a env h).bind fun env1 h1 => exs Γ r env1 h1
  | .frz i r, env, h => match env[i]? with
    | some (.own c) => exs Γ r (env.set i (.val c.t)) h
    | _ => exs Γ r env h
end

/-! ### defs -/
def startE (n : Nat) (ts : List T) : En := ts.map Slot.val ++ List.replicate (n - ts.length) .no
def Fl.fin : Fl → Out R
  | .nx _ h => .ok (.val .non) h
  | .rt r h => .ok r h
  | .exc e _ h => .exc e h
  | _ => .stuck
def runF (Γ : Cl) (f : Fn) (ts : List T) (h : Hs) : Out R := if ts.length = f.np then (exs Γ f.body (startE f.ns ts) h).fin else .stuck
structure Prg where
  fns : List (Str × Fn)
  glob : List (Str × T)
  hots : List (Str × HFn)
  tb : ClT
def Prg.hot (p : Prg) (f c : Str) (fs : List T) (h : Hs) : Option (T × Hs) := match p.hots.lookup f with
  | some fn => hotFn p.tb fn c fs h
  | none => none
def callK (p : Prg) : Nat → Str → List T → Hs → Out R
  | 0, _, _, _ => .stuck
  | k + 1, f, ts, h => match p.fns.lookup f with
    | none => .stuck
    | some fn => runF ⟨callK p k, fun x => p.glob.lookup x, p.hot, p.tb, k⟩ fn ts h
def Prg.cl (p : Prg) (k : Nat) : Cl := ⟨callK p k, fun x => p.glob.lookup x, p.hot, p.tb, k⟩
end Fx

set_option maxHeartbeats 4000000
namespace Fx
open PySem L2
open PyProof.Rows hiding St

/-! ### operands -/
/-- an operand's tree: kept for good, or a name's own list -/
def Opd (K : PySem.W.Frag) (G : Hp) (ι : List Addr) (env : En) (σ : St) (t : T) (v : V) : Prop :=
  Rep K G ι t v ∨ ∃ (i : Nat) (c : Cell), t = c.t ∧ env[i]? = some (Slot.own c) ∧ σ[i]? = some (some v)
def RepP (K : PySem.W.Frag) (O G : Hp) (ι : List Addr) (env : En) (σ : St) (H : Hp) : P → V → Prop
  | .val t, v => Rep K G ι t v
  | .new c, v => ∃ a, v = .ref a ∧ OwnAt K G ι H a c ∧ Fresh O G ι env σ a
  | .pk i c, v => env[i]? = some (Slot.own c) ∧ σ[i]? = some (some v)
/-- what may be read at once: its own place in the heap H, its parts in G -/
inductive PRep (K : PySem.W.Frag) (G : Hp) (ι : List Addr) (H : Hp) : T → V → Prop where
  | rep {t v} : Rep K G ι t v → PRep K G ι H t v
  | own {c a} : OwnAt K G ι H a c → PRep K G ι H c.t (.ref a)
inductive OpdL (K : PySem.W.Frag) (G : Hp) (ι : List Addr) (env : En) (σ : St) : List T → List V → Prop where
  | nil : OpdL K G ι env σ [] []
  | cons {t v ts vs} : Opd K G ι env σ t v → OpdL K G ι env σ ts vs → OpdL K G ι env σ (t :: ts) (v :: vs)
inductive PRepL (K : PySem.W.Frag) (G : Hp) (ι : List Addr) (H : Hp) : List T → List V → Prop where
  | nil : PRepL K G ι H [] []
  | cons {t v ts vs} : PRep K G ι H t v → PRepL K G ι H ts vs → PRepL K G ι H (t :: ts) (v :: vs)

section
variable {K : PySem.W.Frag} {O G G' : Hp} {ι ι' : List Addr} {env : En} {hp : Hs} {σ : St} {H : Hp}
theorem Opd.mono (l : Le G G') (p : ι <+: ι') {t : T} {v : V} (h : Opd K G ι env σ t v) : Opd K G' ι' env σ t v := by
  rcases h with h | h
  · exact .inl (h.mono l p)
  · exact .inr h
theorem OpdL.mono (l : Le G G') (p : ι <+: ι') : ∀ {t v}, OpdL K G ι env σ t v → OpdL K G' ι' env σ t v
  | _, _, .nil => .nil
  | _, _, .cons h r => .cons (h.mono l p) (OpdL.mono l p r)
theorem Opd.at (S : SRel K O G ι env hp σ H) {t : T} {v : V} (h : Opd K G ι env σ t v) : PRep K G ι H t v := by
  rcases h with h | ⟨i, c, rfl, h1, h2⟩
  · exact .rep h
  · obtain ⟨a, e, q, _⟩ := S.slot i _ _ h1 h2
    cases e
    exact .own q
theorem OpdL.at (S : SRel K O G ι env hp σ H) : ∀ {t v}, OpdL K G ι env σ t v → PRepL K G ι H t v
  | _, _, .nil => .nil
  | _, _, .cons h r => .cons (h.at S) (OpdL.at S r)
/-- an operand that is to stay while others are asked -/
theorem RepP.opd {p : P} {v : V} (S : SRel K O G ι env hp σ H) (h : RepP K O G ι env σ H p v) : ∃ G', SRel K O G' ι env hp σ H ∧ Le G G' ∧ Opd K G' ι env σ p.t v := by
  cases p with
  | val t => exact ⟨G, S, Le.refl G, .inl h⟩
  | new c =>
    obtain ⟨a, rfl, h1, h2⟩ := h
    obtain ⟨x, y, z⟩ := S.freeze h1 h2
    exact ⟨_, x, y, .inl z⟩
  | pk i c => exact ⟨G, S, Le.refl G, .inr ⟨i, c, rfl, h.1, h.2⟩⟩
theorem RepP.kept {p : P} {t : T} {v : V} (S : SRel K O G ι env hp σ H) (h : RepP K O G ι env σ H p v) (e : p.k = some t) : ∃ G', SRel K O G' ι env hp σ H ∧ Le G G' ∧ Rep K G' ι t v := by
  cases p with
  | val t => cases e; exact ⟨G, S, Le.refl G, h⟩
  | new c =>
    cases e
    obtain ⟨a, rfl, h1, h2⟩ := h
    obtain ⟨x, y, z⟩ := S.freeze h1 h2
    exact ⟨_, x, y, z⟩
  | pk i c => cases e
theorem PRep.lst {l : List T} {v : V} (gs : Le G H) (h : PRep K G ι H (.lst l) v) : ∃ a vs, v = .ref a ∧ H a = some (.lst vs) ∧ RepL K G ι l vs := by
  generalize e : T.lst l = t at h
  cases h with
  | rep h =>
    subst e
    cases h with
    | lst h1 h2 => exact ⟨_, _, rfl, gs _ _ h1, h2⟩
  | @own c a h =>
    cases c with
    | lst l' =>
      cases e
      obtain ⟨vs, h1, h2⟩ := h
      exact ⟨a, vs, rfl, h1, h2⟩
    | dk _ _ => cases e
    | dt _ _ => cases e
theorem PRep.tup {l : List T} {v : V} (gs : Le G H) (h : PRep K G ι H (.tup l) v) : ∃ a vs, v = .ref a ∧ SqT K H a vs ∧ RepL K G ι l vs := by
  generalize e : T.tup l = t at h
  cases h with
  | rep h =>
    subst e
    cases h with
    | tup h1 h2 => exact ⟨_, _, rfl, .inl (.inl (gs _ _ h1)), h2⟩
  | @own c a h => cases c <;> cases e
theorem PRep.tupR {l : List T} {v : V} (h : PRep K G ι H (.tup l) v) : Rep K G ι (.tup l) v := by
  generalize e : T.tup l = t at h
  cases h with
  | rep h => exact h
  | @own c a h => cases c <;> cases e
theorem PRep.scr {l : List T} {v : V} (gs : Le G H) (h : PRep K G ι H (.scr l) v) : ∃ a vs, v = .ref a ∧ SqL K H a vs ∧ RepL K G ι l vs := by
  generalize e : T.scr l = t at h
  cases h with
  | rep h =>
    subst e
    cases h with
    | scr h1 h2 => exact ⟨_, _, rfl, sqL_le gs h1, h2⟩
  | @own c a h => cases c <;> cases e
theorem PRep.int {i : Int} {v : V} (h : PRep K G ι H (.int i) v) : v = .int i := by
  generalize e : T.int i = t at h
  cases h with
  | rep h => subst e; cases h; rfl
  | @own c a h => cases c <;> cases e
theorem PRep.bl {i : Bool} {v : V} (h : PRep K G ι H (.bl i) v) : v = .bl i := by
  generalize e : T.bl i = t at h
  cases h with
  | rep h => subst e; cases h; rfl
  | @own c a h => cases c <;> cases e
theorem PRep.str {i : Str} {v : V} (h : PRep K G ι H (.str i) v) : v = .str i := by
  generalize e : T.str i = t at h
  cases h with
  | rep h => subst e; cases h; rfl
  | @own c a h => cases c <;> cases e
theorem PRep.non {v : V} (h : PRep K G ι H .non v) : v = .non := by
  generalize e : T.non = t at h
  cases h with
  | rep h => subst e; cases h; rfl
  | @own c a h => cases c <;> cases e
/-- a tuple's own place -/
theorem PRep.tupG {l : List T} {v : V} (h : PRep K G ι H (.tup l) v) : ∃ a vs, v = .ref a ∧ G a = some (.tup vs) ∧ RepL K G ι l vs := by
  generalize e : T.tup l = t at h
  cases h with
  | rep h =>
    subst e
    cases h with
    | tup h1 h2 => exact ⟨_, _, rfl, h1, h2⟩
  | @own c a h => cases c <;> cases e
theorem PRep.dk {ks : List Key} {l : List T} {v : V} (gs : Le G H) (h : PRep K G ι H (.dk ks l) v) : ∃ a vs, v = .ref a ∧ H a = some (.dK (ks.zip vs)) ∧ ks.length = l.length ∧ RepL K G ι l vs := by
  generalize e : T.dk ks l = t at h
  cases h with
  | rep h =>
    subst e
    cases h with
    | dk h1 h0 h2 => exact ⟨_, _, rfl, gs _ _ h1, h0, h2⟩
  | @own c a h =>
    cases c with
    | dk ks' l' =>
      cases e
      obtain ⟨vs, h1, h0, h2⟩ := h
      exact ⟨a, vs, rfl, h1, h0, h2⟩
    | lst _ => cases e
    | dt _ _ => cases e
theorem PRep.dt {ks : List (List Key)} {l : List T} {v : V} (gs : Le G H) (h : PRep K G ι H (.dt ks l) v) : ∃ a vs, v = .ref a ∧ H a = some (.dT (ks.zip vs)) ∧ ks.length = l.length ∧ RepL K G ι l vs := by
  generalize e : T.dt ks l = t at h
  cases h with
  | rep h =>
    subst e
    cases h with
    | dt h1 h0 h2 => exact ⟨_, _, rfl, gs _ _ h1, h0, h2⟩
  | @own c a h =>
    cases c with
    | dt ks' l' =>
      cases e
      obtain ⟨vs, h1, h0, h2⟩ := h
      exact ⟨a, vs, rfl, h1, h0, h2⟩
    | lst _ => cases e
    | dk _ _ => cases e
theorem PRep.ref {n : Nat} {v : V} (h : PRep K G ι H (.ref n) v) : ∃ a, v = .ref a ∧ ι[n]? = some a := by
  generalize e : T.ref n = t at h
  cases h with
  | rep h =>
    subst e
    cases h with
    | ref h => exact ⟨_, rfl, h⟩
  | @own c a h => cases c <;> cases e
end

/-! ### what is wanted of an outcome -/
/-- an exception's tree -/
def RepX (mg : Str → Option Value) (K : PySem.W.Frag) (G : Hp) (ι : List Addr) : T → Value → Option Addr → Prop
  | .exc c [], cls, d => ∃ C, mg c = some (.ref C) ∧ cls = .ref C ∧ d = none
  | .exc c [.str f, t], cls, d => ∃ C da v, mg c = some (.ref C) ∧ cls = .ref C ∧ d = some da ∧ G da = some (.xd [(f, v)]) ∧ Rep K G ι t v
  | _, _, _ => False
theorem RepX.mono {mg : Str → Option Value} {K : PySem.W.Frag} {G G' : Hp} {ι ι' : List Addr} (l : Le G G') (p : ι <+: ι') {x : T} {cls : Value} {d : Option Addr} (h : RepX mg K G ι x cls d) : RepX mg K G' ι' x cls d := by
  unfold RepX at h ⊢
  split at h
  · exact h
  · obtain ⟨C, da, v, h1, h2, h3, h4, h5⟩ := h
    exact ⟨C, da, v, h1, h2, h3, l _ _ h4, h5.mono l p⟩
  · exact h.elim

section
variable (X : Cx) (W : L2.WX)
def OutG {α β : Type} (O G : Hp) (ι : List Addr) (env : En) (σ : St) (R : Hp → List Addr → Hp → α → β → Prop) (Q : β → Hp → Prop) : Out α → Prop
  | .ok a h => ∀ G' ι' v H', Le G G' → ι <+: ι' → SRel X.K O G' ι' env h σ H' → R G' ι' H' a v → Q v H'
  | .exc e h => ∀ G' ι' cls d H', Le G G' → ι <+: ι' → SRel X.K O G' ι' env h σ H' → RepX X.mg X.K G' ι' e cls d → W cls d σ H'
  | .stuck => False
def RdG {α β : Type} (f : En → Hs → Out α) (R : Hp → En → St → Hp → List Addr → Hp → α → β → Prop) (σ : St) (H : Hp) (Q : β → Hp → Prop) : Prop :=
  ∃ O G ι env h, SRel X.K O G ι env h σ H ∧ OutG X W O G ι env σ (R O env σ) Q (f env h)
abbrev rP (K : PySem.W.Frag) : Hp → En → St → Hp → List Addr → Hp → P → V → Prop := fun O env σ G ι H p v => RepP K O G ι env σ H p v
abbrev rTs (K : PySem.W.Frag) : Hp → En → St → Hp → List Addr → Hp → List T → List V → Prop := fun _ _ _ G ι _ p v => RepL K G ι p v
abbrev rPs (K : PySem.W.Frag) : Hp → En → St → Hp → List Addr → Hp → List T → List V → Prop := fun _ env σ G ι _ p v => OpdL K G ι env σ p v
abbrev rO : Hp → En → St → Hp → List Addr → Hp → Option Int → Option Int → Prop := fun _ _ _ _ _ _ p v => p = v
abbrev rB : Hp → En → St → Hp → List Addr → Hp → Bool → Bool → Prop := fun _ _ _ _ _ _ p v => p = v
def RdE (f : En → Hs → Out P) : TE := fun σ H Q => RdG X W f (rP X.K) σ H Q
def RdB (f : En → Hs → Out Bool) : TT := fun σ H Q => RdG X W f rB σ H Q
def RdA (f : En → Hs → Out (List T)) : TA := fun σ H Q => RdG X W f (rTs X.K) σ H Q
def RdP (f : En → Hs → Out (List T)) : TA := fun σ H Q => RdG X W f (rPs X.K) σ H Q
end

section
variable {X : Cx} {W : L2.WX} {α β γ δ : Type} {O G G1 : Hp} {ι ι1 : List Addr} {env : En} {h : Hs} {σ : St} {H : Hp}
theorem OutG.mono {R : Hp → List Addr → Hp → α → β → Prop} {Q : β → Hp → Prop} {o : Out α} (l : Le G G1) (p : ι <+: ι1) (q : OutG X W O G ι env σ R Q o) : OutG X W O G1 ι1 env σ R Q o := by
  cases o with
  | ok a h => exact fun G' ι' v H' l' p' => q G' ι' v H' (l.trans l') (p.trans p')
  | exc e h => exact fun G' ι' cls d H' l' p' => q G' ι' cls d H' (l.trans l') (p.trans p')
  | stuck => exact q
theorem rd_bind {f : En → Hs → Out α} {R1 : Hp → En → St → Hp → List Addr → Hp → α → γ → Prop} {R2 : Hp → List Addr → Hp → β → δ → Prop} {Q : δ → Hp → Prop} {k : α → Hs → Out β} {Φ : γ → Hp → Prop}
    (S : SRel X.K O G ι env h σ H) (q : OutG X W O G ι env σ R2 Q ((f env h).bind k))
    (hk : ∀ a h1 G1 ι1 v H1, Le G G1 → ι <+: ι1 → SRel X.K O G1 ι1 env h1 σ H1 → R1 O env σ G1 ι1 H1 a v → OutG X W O G1 ι1 env σ R2 Q (k a h1) → Φ v H1) : RdG X W f R1 σ H Φ := by
  refine ⟨O, G, ι, env, h, S, ?_⟩
  cases e : f env h with
  | ok a h1 =>
    rw [e] at q
    exact fun G' ι' v H' l p S' r => hk a h1 G' ι' v H' l p S' r (q.mono l p)
  | exc e h1 => rw [e] at q; exact q
  | stuck => rw [e] at q; exact q
/-- the last thing asked: its outcome's own end -/
theorem rd_end {f : En → Hs → Out α} {R : Hp → En → St → Hp → List Addr → Hp → α → β → Prop} {Q : β → Hp → Prop} (S : SRel X.K O G ι env h σ H) (q : OutG X W O G ι env σ (R O env σ) Q (f env h)) : RdG X W f R σ H Q :=
  ⟨O, G, ι, env, h, S, q⟩
theorem OutG.of_some {R : Hp → List Addr → Hp → α → β → Prop} {Q : β → Hp → Prop} {o : Option α} (q : OutG X W O G ι env σ R Q (.of o h)) : ∃ a, o = some a ∧ OutG X W O G ι env σ R Q (.ok a h) := by
  cases o with
  | none => exact q.elim
  | some a => exact ⟨a, rfl, q⟩
end

theorem PE.imp {X : Cx} {e : Expr} {t t' : TE} (h : PE X e t) (i : ∀ σ H Q, t' σ H Q → t σ H Q) : PE X e t' := ⟨fun pins s σ H Q I q => h.run pins s σ H Q I (i σ H Q q)⟩
theorem PT.imp {X : Cx} {e : Expr} {t t' : TT} (h : PT X e t) (i : ∀ σ H Q, t' σ H Q → t σ H Q) : PT X e t' := ⟨fun pins s σ H Q I q => h.run pins s σ H Q I (i σ H Q q)⟩
theorem PW.imp {X : Cx} {e : Expr} {t t' : TT} (h : PW X e t) (i : ∀ σ H Q, t' σ H Q → t σ H Q) : PW X e t' := ⟨fun wh pins s σ H Q I q => h.run wh pins s σ H Q I (i σ H Q q)⟩
theorem PA.imp {X : Cx} {e : List Expr} {t t' : TA} (h : PA X e t) (i : ∀ σ H Q, t' σ H Q → t σ H Q) : PA X e t' := ⟨fun pos pins s σ H Q I q => h.run pos pins s σ H Q I (i σ H Q q)⟩
theorem PS.imp {X : Cx} {e : Stmt} {t t' : TS} (h : PS X e t) (i : ∀ D σ H, t' D σ H → t D σ H) : PS X e t' := ⟨fun pins s σ H D I q => h.run pins s σ H D I (i D σ H q)⟩
theorem PSs.imp {X : Cx} {e : List Stmt} {t t' : TS} (h : PSs X e t) (i : ∀ D σ H, t' D σ H → t D σ H) : PSs X e t' := ⟨fun pins s σ H D I q => h.run pins s σ H D I (i D σ H q)⟩
theorem PI.imp {X : Cx} {tg e : Expr} {t t' : TI} (h : PI X tg e t) (i : ∀ σ H R, t' σ H R → t σ H R) : PI X tg e t' := ⟨fun pins s σ H R I q => h.run pins s σ H R I (i σ H R q)⟩
theorem PI.or {X : Cx} {tg e : Expr} {t t' : TI} (h : PI X tg e t) (h' : PI X tg e t') : PI X tg e (fun σ H R => t σ H R ∨ t' σ H R) :=
  ⟨fun pins s σ H R I q => q.elim (h.run pins s σ H R I) (h'.run pins s σ H R I)⟩

/-! ### data -/
mutual
theorem eqT_pd : ∀ a b : T, a.isD = true → b.isD = true → PyData.eqv a.pd b.pd = eqT a b
  | .non, b, _, hb => by cases b <;> simp_all [T.pd, eqT, PyData.eqv, T.isD]
  | .bl x, b, _, hb => by cases b <;> simp_all [T.pd, eqT, PyData.eqv, T.isD]
  | .int i, b, _, hb => by cases b <;> simp_all [T.pd, eqT, PyData.eqv, T.isD]
  | .str x, b, _, hb => by cases b <;> simp_all [T.pd, eqT, PyData.eqv, T.isD]
  | .tup l, b, ha, hb => by
    cases b with
    | tup m =>
      simp only [T.pd, eqT, PyData.eqv]
      exact eqL_pd l m (by simpa [T.isD] using ha) (by simpa [T.isD] using hb)
    | _ => simp_all [T.pd, eqT, PyData.eqv, T.isD]
  | .lst l, b, ha, hb => by
    cases b with
    | lst m =>
      simp only [T.pd, eqT, PyData.eqv]
      exact eqL_pd l m (by simpa [T.isD] using ha) (by simpa [T.isD] using hb)
    | _ => simp_all [T.pd, eqT, PyData.eqv, T.isD]
  | .dk _ _, _, ha, _ => by simp [T.isD] at ha
  | .dt _ _, _, ha, _ => by simp [T.isD] at ha
  | .set _, _, ha, _ => by simp [T.isD] at ha
  | .exc _ _, _, ha, _ => by simp [T.isD] at ha
  | .scr _, _, ha, _ => by simp [T.isD] at ha
  | .ref _, _, ha, _ => by simp [T.isD] at ha
theorem eqL_pd : ∀ a b : List T, allD a = true → allD b = true → PyData.eqvAll (pds a) (pds b) = eqL a b
  | [], b, _, _ => by cases b <;> simp [pds, eqL, PyData.eqvAll]
  | x :: l, b, ha, hb => by
    cases b with
    | nil => simp [pds, eqL, PyData.eqvAll]
    | cons y m =>
      simp only [allD, Bool.and_eq_true] at ha hb
      simp only [pds, eqL, PyData.eqvAll]
      rw [eqT_pd x y ha.1 hb.1, eqL_pd l m ha.2 hb.2]
end
mutual
theorem isD_can : ∀ t : T, t.isD = true → t.pd.canLay0 = true
  | .non, _ => by simp [T.pd, PyData.canLay0]
  | .bl _, _ => by simp [T.pd, PyData.canLay0]
  | .int _, _ => by simp [T.pd, PyData.canLay0]
  | .str s, h => by simpa [T.pd, PyData.canLay0, T.isD] using h
  | .tup l, h => by simp only [T.pd, PyData.canLay0]; exact allD_can l (by simpa [T.isD] using h)
  | .lst l, h => by simp only [T.pd, PyData.canLay0]; exact allD_can l (by simpa [T.isD] using h)
  | .dk _ _, h => by simp [T.isD] at h
  | .dt _ _, h => by simp [T.isD] at h
  | .set _, h => by simp [T.isD] at h
  | .exc _ _, h => by simp [T.isD] at h
  | .scr _, h => by simp [T.isD] at h
  | .ref _, h => by simp [T.isD] at h
theorem allD_can : ∀ t : List T, allD t = true → PyData.canLayAll0 (pds t) = true
  | [], _ => by simp [pds, PyData.canLayAll0]
  | x :: l, h => by
    simp only [allD, Bool.and_eq_true] at h
    simp only [pds, PyData.canLayAll0, isD_can x h.1, allD_can l h.2, Bool.and_self]
end
mutual
theorem dep_pd : ∀ t : T, t.pd.depth = t.dep
  | .non => by simp [T.pd, PyData.depth, T.dep]
  | .bl _ => by simp [T.pd, PyData.depth, T.dep]
  | .int _ => by simp [T.pd, PyData.depth, T.dep]
  | .str s => by simp [T.pd, PyData.depth, T.dep]
  | .tup l => by simp only [T.pd, PyData.depth, T.dep, depL_pd l]
  | .lst l => by simp only [T.pd, PyData.depth, T.dep, depL_pd l]
  | .dk _ _ => by simp [T.pd, PyData.depth, T.dep]
  | .dt _ _ => by simp [T.pd, PyData.depth, T.dep]
  | .set _ => by simp [T.pd, PyData.depth, T.dep]
  | .exc _ _ => by simp [T.pd, PyData.depth, T.dep]
  | .scr _ => by simp [T.pd, PyData.depth, T.dep]
  | .ref _ => by simp [T.pd, PyData.depth, T.dep]
theorem depL_pd : ∀ t : List T, PyData.depthAll (pds t) = depL t
  | [] => by simp [pds, PyData.depthAll, depL]
  | x :: l => by simp only [pds, PyData.depthAll, depL, dep_pd x, depL_pd l]
end
mutual
theorem Rep.dp {K : PySem.W.Frag} {G H : Hp} {ι : List Addr} (gs : Le G H) : ∀ {t v}, Rep K G ι t v → t.isD = true → Dp K H v t.pd
  | _, _, .non, _ => .non
  | _, _, .bl, _ => .bl _
  | _, _, .int, _ => .int _
  | _, _, .str, _ => .str _
  | _, _, .tup h r, d => .tup (.inl (.inl (gs _ _ h))) (RepL.dp gs r (by simpa [T.isD] using d))
  | _, _, .dk _ _ _, d => by simp [T.isD] at d
  | _, _, .dt _ _ _, d => by simp [T.isD] at d
  | _, _, .lst h r, d => .lst (SqL.of (gs _ _ h)) (RepL.dp gs r (by simpa [T.isD] using d))
  | _, _, .scr h r, d => by simp [T.isD] at d
  | _, _, .ref h, d => by simp [T.isD] at d
theorem RepL.dp {K : PySem.W.Frag} {G H : Hp} {ι : List Addr} (gs : Le G H) : ∀ {t v}, RepL K G ι t v → allD t = true → DpAll K H v (pds t)
  | _, _, .nil, _ => .nil
  | _, _, .cons h r, d => by
    simp only [allD, Bool.and_eq_true] at d
    exact .cons (Rep.dp gs h d.1) (RepL.dp gs r d.2)
end
theorem PRep.dp {K : PySem.W.Frag} {G H : Hp} {ι : List Addr} {t : T} {v : V} (gs : Le G H) (h : PRep K G ι H t v) (d : t.isD = true) : Dp K H v t.pd := by
  cases h with
  | rep h => exact h.dp gs d
  | @own c a h =>
    cases c with
    | lst l =>
      obtain ⟨vs, h1, h2⟩ := h
      exact .lst (SqL.of h1) (h2.dp gs (by simpa [T.isD, Cell.t] using d))
    | dk _ _ => simp [T.isD, Cell.t] at d
    | dt _ _ => simp [T.isD, Cell.t] at d
end Fx

set_option maxHeartbeats 4000000
namespace Fx
open PySem L2
open PyProof.Rows hiding St

def After (K : PySem.W.Frag) (O G : Hp) (ι : List Addr) (env : En) (h : Hs) (σ : St) (p : P) (Q : VK) : Prop :=
  ∀ G' v H', Le G G' → SRel K O G' ι env h σ H' → RepP K O G' ι env σ H' p v → Q v H'
section
variable {K : PySem.W.Frag} {O G : Hp} {ι : List Addr} {env : En} {h : Hs} {σ : St} {H : Hp} {Q : VK}
theorem After.int {i : Int} (S : SRel K O G ι env h σ H) (q : After K O G ι env h σ (.val (.int i)) Q) : Q (.int i) H := q G _ H (Le.refl G) S .int
theorem After.str {i : Str} (S : SRel K O G ι env h σ H) (q : After K O G ι env h σ (.val (.str i)) Q) : Q (.str i) H := q G _ H (Le.refl G) S .str
theorem After.bl {i : Bool} (S : SRel K O G ι env h σ H) (q : After K O G ι env h σ (.val (.bl i)) Q) : Q (.bl i) H := q G _ H (Le.refl G) S .bl
theorem After.rep {t : T} {v : V} (S : SRel K O G ι env h σ H) (q : After K O G ι env h σ (.val t) Q) (r : Rep K G ι t v) : Q v H := q G _ H (Le.refl G) S r
theorem After.lst {l : List T} {vs : List V} (S : SRel K O G ι env h σ H) (q : After K O G ι env h σ (.new (.lst l)) Q) (r : RepL K G ι l vs) : ∀ p, H p = none → Q (.ref p) (upd H p (.lst vs)) := fun p hp => by
  obtain ⟨S1, f⟩ := S.made (o := .lst vs) hp
  exact q G _ _ (Le.refl G) S1 ⟨p, rfl, ⟨vs, upd_same, r⟩, f⟩
theorem After.tup {l : List T} {vs : List V} (S : SRel K O G ι env h σ H) (q : After K O G ι env h σ (.val (.tup l)) Q) (r : RepL K G ι l vs) : ∀ p, H p = none → Q (.ref p) (upd H p (.tup vs)) := fun p hp => by
  obtain ⟨S1, le⟩ := S.laid (o := .tup vs) hp
  exact q _ _ _ le S1 (.tup upd_same (r.mono le (List.prefix_refl _)))
end

section
variable {X : Cx}
def rBin (X : Cx) (op : PySem.Operator) : R2 := fun x y H Q => ∃ O G ι env h σ a b p, SRel X.K O G ι env h σ H ∧ PRep X.K G ι H a x ∧ PRep X.K G ι H b y ∧ opB op a b = some p ∧ After X.K O G ι env h σ p Q
theorem ite_some {α : Type} {c : Prop} [Decidable c] {a b : α} (h : (if c then some a else none) = some b) : c ∧ a = b := by
  by_cases e : c
  · rw [if_pos e] at h; cases h; exact ⟨e, rfl⟩
  · rw [if_neg e] at h; cases h
theorem repl_ok {K : PySem.W.Frag} {G : Hp} {ι : List Addr} {l : List T} {vs : List V} (r : RepL K G ι l vs) : ∀ n : Nat, RepL K G ι (List.replicate n l).flatten (List.replicate n vs).flatten
  | 0 => .nil
  | n + 1 => by simpa [List.replicate_succ] using r.append (repl_ok r n)
theorem bin_ok {op : PySem.Operator} : OpR X (binaryOp op) (rBin X op) := by
  intro pins s σ0 H x y v u Q I rx ry ⟨O, G, ι, env, h, σ, a, b, p, S, ra, rb, e, q⟩
  have gs := S.h.gs
  unfold opB at e
  split at e
  · cases e; cases ra.int; cases rb.int
    exact op_add pins s σ0 H _ _ v u Q I rx ry ⟨_, _, rfl, rfl, q.int S⟩
  · obtain ⟨hl, rfl⟩ := ite_some e
    cases ra.str; cases rb.str
    exact op_add_str pins s σ0 H _ _ v u Q I rx ry ⟨_, _, rfl, rfl, hl, q.str S⟩
  · obtain ⟨hl, rfl⟩ := ite_some e
    obtain ⟨a1, vs, rfl, h1, r1⟩ := ra.lst gs
    obtain ⟨a2, ws, rfl, h2, r2⟩ := rb.lst gs
    exact op_cat pins s σ0 H _ _ v u Q I rx ry ⟨_, _, _, _, rfl, rfl, h1, h2, by rw [← r1.length, ← r2.length]; exact hl, q.lst S (r1.append r2)⟩
  · obtain ⟨hl, rfl⟩ := ite_some e
    obtain ⟨a1, vs, rfl, h1, r1⟩ := ra.tup gs
    obtain ⟨a2, ws, rfl, h2, r2⟩ := rb.tup gs
    refine op_catA pins s σ0 H _ _ v u Q I rx ry ⟨_, _, _, _, rfl, rfl, h1, h2, by rw [← r1.length, ← r2.length]; exact hl, fun z => ?_, fun z1 z => ?_, fun _ _ => q.tup S (r1.append r2)⟩
    · subst z
      cases r1
      rename_i l2
      exact q.rep S rb.tupR
    · subst z
      cases r2
      rename_i l1
      rw [List.append_nil] at q
      exact q.rep S ra.tupR
  · cases e; cases ra.int; cases rb.int
    exact op_sub pins s σ0 H _ _ v u Q I rx ry ⟨_, _, rfl, rfl, q.int S⟩
  · obtain ⟨hl, rfl⟩ := ite_some e
    cases ra.int; cases rb.int
    exact op_mulW pins s σ0 H _ _ v u Q I rx ry ⟨_, _, rfl, rfl, hl, q.int S⟩
  · obtain ⟨hl, rfl⟩ := ite_some e
    obtain ⟨a1, vs, rfl, h1, r1⟩ := ra.tup gs
    cases rb.int
    refine op_repT pins s σ0 H _ _ v u Q I rx ry ⟨_, _, _, rfl, rfl, h1, fun z => ?_, hl.2.1, hl.2.2.1, by rw [← r1.length]; exact hl.2.2.2, q.tup S (repl_ok r1 _)⟩
    subst z
    cases r1
    exact absurd hl.1 (by simp)
  · obtain ⟨hl, rfl⟩ := ite_some e
    obtain ⟨a1, vs, rfl, h1, r1⟩ := ra.lst gs
    cases rb.int
    exact op_rep pins s σ0 H _ _ v u Q I rx ry ⟨_, _, _, rfl, rfl, h1, hl.1, hl.2.1, by rw [← r1.length]; exact hl.2.2, q.lst S (repl_ok r1 _)⟩
  · obtain ⟨hl, rfl⟩ := ite_some e
    cases ra.int; cases rb.int
    exact op_fdivW pins s σ0 H _ _ v u Q I rx ry ⟨_, _, rfl, rfl, hl, q.int S⟩
  · obtain ⟨hl, rfl⟩ := ite_some e
    cases ra.int; cases rb.int
    exact op_mod pins s σ0 H _ _ v u Q I rx ry ⟨_, _, rfl, rfl, hl, q.int S⟩
  · obtain ⟨hl, rfl⟩ := ite_some e
    cases ra.int; cases rb.int
    exact op_pow pins s σ0 H _ _ v u Q I rx ry ⟨_, _, rfl, rfl, hl, q.int S⟩
  · cases e; cases ra.bl; cases rb.int
    obtain rfl := rx
    obtain ⟨t', rfl⟩ := ry
    exact PySem.IntBool.add_bool_int ⟨.int _, H, I.tok _, ⟨_, rfl⟩, q.int S⟩
  · cases e; cases ra.bl; cases rb.int
    obtain rfl := rx
    obtain ⟨t', rfl⟩ := ry
    exact PySem.IntBool.sub_bool_int ⟨.int _, H, I.tok _, ⟨_, rfl⟩, q.int S⟩
  · cases e

/-! comparisons -/
/-! ### dicts, against the heap -/
theorem kOf_rep {K : PySem.W.Frag} {G H : Hp} {ι : List Addr} {t : T} {v : V} {q : Key} (e : kOf t = some q) (r : PRep K G ι H t v) : v = kV q := by
  cases t <;> simp only [kOf, reduceCtorEq, Option.some.injEq] at e
  · subst e; rw [r.int]; rfl
  · subst e; rw [r.str]; rfl
theorem kOfs_rep {K : PySem.W.Frag} {G : Hp} {ι : List Addr} : ∀ {l : List T} {vs : List V} {q : List Key}, kOfs l = some q → RepL K G ι l vs → vs = q.map kV
  | [], _, _, e, r => by simp only [kOfs, Option.some.injEq] at e; subst e; cases r; rfl
  | t :: l, _, _, e, r => by
    cases r with
    | @cons _ v _ vs hv hr =>
    simp only [kOfs] at e
    cases ek : kOf t with
    | none => rw [ek] at e; cases e
    | some k =>
      rw [ek] at e
      cases el : kOfs l with
      | none => rw [el] at e; cases e
      | some ks =>
        rw [el] at e
        cases e
        rw [List.map_cons, ← kOf_rep (H := G) ek (.rep hv), ← kOfs_rep el hr]
theorem ksOf_rep {K : PySem.W.Frag} {G H : Hp} {ι : List Addr} {t : T} {v : V} {q : List Key} (e : ksOf t = some q) (r : PRep K G ι H t v) : ∃ b, v = .ref b ∧ G b = some (.tup (q.map kV)) := by
  cases t <;> simp only [ksOf, reduceCtorEq] at e
  obtain ⟨a, vs, rfl, h1, h2⟩ := r.tupG
  rw [kOfs_rep e h2] at h1
  exact ⟨a, rfl, h1⟩
section
variable {κ : Type} [DecidableEq κ] {K : PySem.W.Frag} {G : Hp} {ι : List Addr}
theorem dG_rep (q : κ) : ∀ {ks : List κ} {l : List T} {vs : List V}, RepL K G ι l vs → ((dG (ks.zip l) q).isSome = (valV (ks.zip vs) q).isSome) ∧ ∀ t, dG (ks.zip l) q = some t → ∃ v, valV (ks.zip vs) q = some v ∧ Rep K G ι t v
  | [], _, _, _ => ⟨by simp [dG, valV], fun t e => by simp [dG] at e⟩
  | _ :: _, _, _, .nil => ⟨by simp [dG, valV], fun t e => by simp [dG] at e⟩
  | k :: ks, _, _, .cons (t := t0) (v := v0) h r => by
    have ih := dG_rep q (ks := ks) r
    by_cases e : k = q
    · simp only [List.zip_cons_cons, dG, valV, List.find?_cons, e, decide_true, Option.map_some]
      exact ⟨rfl, fun t et => by cases et; exact ⟨v0, rfl, h⟩⟩
    · simp only [List.zip_cons_cons, dG, valV, List.find?_cons, e, decide_false]
      exact ih
end
def rCmp (X : Cx) (op : CmpOp) : R2 := fun x y H Q => ∃ O G ι env h σ a b c, SRel X.K O G ι env h σ H ∧ PRep X.K G ι H a x ∧ PRep X.K G ι H b y ∧ opC op a b = some c ∧ Q (.bl c) H
theorem okEq_ok {a b : T} (h : okEq a b = true) : a.isD = true ∧ b.isD = true ∧ min a.dep b.dep ≤ 64 := by
  simp only [okEq, Bool.and_eq_true, decide_eq_true_eq] at h
  exact ⟨h.1.1, h.1.2, h.2⟩
theorem okLt_ok {a b : T} (h : okLt a b = true) : a.isD = true ∧ b.isD = true ∧ PySem.W.alike a.pd b.pd = true ∧ a.pd ≠ .none ∧ min a.dep b.dep ≤ 60 := by
  unfold okLt at h
  simp only [Bool.and_eq_true, decide_eq_true_eq] at h
  obtain ⟨⟨⟨⟨h1, h2⟩, h3⟩, h4⟩, h5⟩ := h
  refine ⟨h1, h2, h3, ?_, h5⟩
  cases a <;> simp_all [T.pd, T.isD]
theorem shaped_of {t : T} (h : okEq t t = true) : SeqAt.shaped t.pd = true := by
  obtain ⟨h1, _, h3⟩ := okEq_ok h
  simp only [SeqAt.shaped, Bool.and_eq_true, decide_eq_true_eq]
  exact ⟨isD_can t h1, by rw [dep_pd]; omega⟩
theorem any_eq {t : T} (ht : t.isD = true) : ∀ l : List T, allD l = true → ((pds l).any fun z => PyData.eqv z t.pd) = l.any fun z => eqT z t
  | [], _ => rfl
  | x :: l, h => by
    simp only [allD, Bool.and_eq_true] at h
    simp only [pds, List.any_cons, eqT_pd x t h.1 ht, any_eq ht l h.2]
theorem cmp_ok {op : CmpOp} (hu : X.A.units + 66 < cLine) : OpR X (compareOp op) (rCmp X op) := by
  intro pins s σ0 H x y v u Q I rx ry ⟨O, G, ι, env, h, σ, a, b, c, S, ra, rb, e, q⟩
  have gs := S.h.gs
  unfold opC at e
  split at e
  · obtain ⟨hl, rfl⟩ := ite_some e
    obtain ⟨d1, d2, d3⟩ := okEq_ok hl
    obtain ⟨as, r1⟩ := Dp.reads I _ x v (ra.dp gs d1) rx
    obtain ⟨bs, r2⟩ := Dp.reads I _ y u (rb.dp gs d2) ry
    exact SeqAt.compareEq_reads r1 r2 (isD_can _ d1) (isD_can _ d2) (by rw [dep_pd, dep_pd]; omega) ⟨.bl _, H, I, rfl, by rw [eqT_pd _ _ d1 d2]; exact q⟩
  · obtain ⟨hl, rfl⟩ := ite_some e
    obtain ⟨d1, d2, d3⟩ := okEq_ok hl
    obtain ⟨as, r1⟩ := Dp.reads I _ x v (ra.dp gs d1) rx
    obtain ⟨bs, r2⟩ := Dp.reads I _ y u (rb.dp gs d2) ry
    exact SeqAt.compareNe_reads r1 r2 (isD_can _ d1) (isD_can _ d2) (by rw [dep_pd, dep_pd]; omega) ⟨.bl _, H, I, rfl, by rw [eqT_pd _ _ d1 d2]; exact q⟩
  · cases e; cases ra.int; cases rb.int
    exact op_lt pins s σ0 H _ _ v u Q I rx ry ⟨_, _, rfl, rfl, q⟩
  · cases e; cases ra.int; cases rb.int
    exact op_le pins s σ0 H _ _ v u Q I rx ry ⟨_, _, rfl, rfl, q⟩
  · cases e; cases ra.int; cases rb.int
    exact op_gt pins s σ0 H _ _ v u Q I rx ry ⟨_, _, rfl, rfl, q⟩
  · cases e; cases ra.int; cases rb.int
    exact op_ge pins s σ0 H _ _ v u Q I rx ry ⟨_, _, rfl, rfl, q⟩
  · cases e; cases ra.str; cases rb.str
    exact op_lt_str pins s σ0 H _ _ v u Q I rx ry ⟨_, _, rfl, rfl, q⟩
  · cases e; cases ra.str; cases rb.str
    exact op_gt_str pins s σ0 H _ _ v u Q I rx ry ⟨_, _, rfl, rfl, q⟩
  · cases e; cases ra.str; cases rb.str
    exact op_le_str pins s σ0 H _ _ v u Q I rx ry ⟨_, _, rfl, rfl, q⟩
  · cases e; cases ra.str; cases rb.str
    exact op_ge_str pins s σ0 H _ _ v u Q I rx ry ⟨_, _, rfl, rfl, q⟩
  · obtain ⟨hl, rfl⟩ := ite_some e
    obtain ⟨d1, d2, d3, d4, d5⟩ := okLt_ok hl
    obtain ⟨as, r1⟩ := Dp.reads I _ x v (ra.dp gs d1) rx
    obtain ⟨bs, r2⟩ := Dp.reads I _ y u (rb.dp gs d2) ry
    exact PySem.W.lt_data r1 r2 d3 d4 (by rw [dep_pd, dep_pd]; omega) ⟨.bl _, H, I, rfl, q⟩
  · obtain ⟨hl, rfl⟩ := ite_some e
    obtain ⟨d1, d2, d3, d4, d5⟩ := okLt_ok hl
    obtain ⟨as, r1⟩ := Dp.reads I _ x v (ra.dp gs d1) rx
    obtain ⟨bs, r2⟩ := Dp.reads I _ y u (rb.dp gs d2) ry
    exact PySem.W.gt_data r1 r2 d3 d4 (by rw [dep_pd, dep_pd]; omega) ⟨.bl _, H, I, rfl, q⟩
  · obtain ⟨hl, rfl⟩ := ite_some e
    obtain ⟨d1, d2, d3, d4, d5⟩ := okLt_ok hl
    obtain ⟨as, r1⟩ := Dp.reads I _ x v (ra.dp gs d1) rx
    obtain ⟨bs, r2⟩ := Dp.reads I _ y u (rb.dp gs d2) ry
    exact PySem.W.le_data r1 r2 d3 d4 (by rw [dep_pd, dep_pd]; omega) ⟨.bl _, H, I, rfl, q⟩
  · obtain ⟨hl, rfl⟩ := ite_some e
    obtain ⟨d1, d2, d3, d4, d5⟩ := okLt_ok hl
    obtain ⟨as, r1⟩ := Dp.reads I _ x v (ra.dp gs d1) rx
    obtain ⟨bs, r2⟩ := Dp.reads I _ y u (rb.dp gs d2) ry
    exact PySem.W.ge_data r1 r2 d3 d4 (by rw [dep_pd, dep_pd]; omega) ⟨.bl _, H, I, rfl, q⟩
  · cases e; cases ra.str; cases rb.str
    exact op_in_sign pins s σ0 H _ _ v u Q I rx ry ⟨_, _, rfl, rfl, q⟩
  · cases e; cases ra.str; cases rb.str
    exact op_notIn_sign pins s σ0 H _ _ v u Q I rx ry ⟨_, _, rfl, rfl, q⟩
  · cases e; cases ra.str; cases rb.str
    exact op_in_str pins s σ0 H _ _ v u Q I rx ry ⟨_, _, rfl, rfl, q⟩
  · cases e; cases ra.str; cases rb.str
    exact op_notIn_str pins s σ0 H _ _ v u Q I rx ry ⟨_, _, rfl, rfl, by first | exact q | (simp only [Bool.not_not] at q ⊢; exact q)⟩
  · obtain ⟨hl, rfl⟩ := ite_some e
    simp only [Bool.and_eq_true] at hl
    have d2 := (okEq_ok hl.2).1
    have d1 := (okEq_ok hl.1).1
    refine op_inD (by omega) pins s σ0 H _ _ v u Q I rx ry ⟨_, _, ra.dp gs d1, by simpa only [T.pd] using rb.dp gs d2, shaped_of hl.1, by simpa only [T.pd] using shaped_of hl.2, ?_⟩
    rw [any_eq d1 _ (by simpa [T.isD] using d2)]
    exact q
  · obtain ⟨hl, rfl⟩ := ite_some e
    simp only [Bool.and_eq_true] at hl
    have d2 := (okEq_ok hl.2).1
    have d1 := (okEq_ok hl.1).1
    refine op_notInD (by omega) pins s σ0 H _ _ v u Q I rx ry ⟨_, _, ra.dp gs d1, by simpa only [T.pd] using rb.dp gs d2, shaped_of hl.1, by simpa only [T.pd] using shaped_of hl.2, ?_⟩
    rw [any_eq d1 _ (by simpa [T.isD] using d2)]
    exact q
  all_goals first | (cases e; done) | skip
  · rename_i ks l
    obtain ⟨p, vs, rfl, h1, h0, h2⟩ := rb.dk gs
    simp only [dFind] at e
    cases ek : kOf a with
    | none => rw [ek] at e; cases e
    | some k =>
      rw [ek] at e; cases e
      have := kOf_rep ek ra
      subst this
      have g : DGet H p (kV k) (valV (ks.zip vs) k) := .k h1
      cases ry
      refine d_in (by omega) I g rx fun s' I' => ⟨.bl _, H, I', rfl, ?_⟩
      rw [← (dG_rep k h2).1]
      exact q
  · rename_i ks l
    obtain ⟨p, vs, rfl, h1, h0, h2⟩ := rb.dk gs
    simp only [dFind] at e
    cases ek : kOf a with
    | none => rw [ek] at e; cases e
    | some k =>
      rw [ek] at e; cases e
      have := kOf_rep ek ra
      subst this
      have g : DGet H p (kV k) (valV (ks.zip vs) k) := .k h1
      cases ry
      refine d_notIn (by omega) I g rx fun s' I' => ⟨.bl _, H, I', rfl, ?_⟩
      rw [← (dG_rep k h2).1]
      exact q
  · rename_i ks l
    obtain ⟨p, vs, rfl, h1, h0, h2⟩ := rb.dt gs
    simp only [dFind] at e
    cases ek : ksOf a with
    | none => rw [ek] at e; cases e
    | some k =>
      rw [ek] at e; cases e
      obtain ⟨b, rfl, hb⟩ := ksOf_rep ek ra
      have g : DGet H p (.ref b) (valV (ks.zip vs) k) := .t h1 (gs _ _ hb)
      cases ry
      refine d_in (by omega) I g rx fun s' I' => ⟨.bl _, H, I', rfl, ?_⟩
      rw [← (dG_rep k h2).1]
      exact q
  · rename_i ks l
    obtain ⟨p, vs, rfl, h1, h0, h2⟩ := rb.dt gs
    simp only [dFind] at e
    cases ek : ksOf a with
    | none => rw [ek] at e; cases e
    | some k =>
      rw [ek] at e; cases e
      obtain ⟨b, rfl, hb⟩ := ksOf_rep ek ra
      have g : DGet H p (.ref b) (valV (ks.zip vs) k) := .t h1 (gs _ _ hb)
      cases ry
      refine d_notIn (by omega) I g rx fun s' I' => ⟨.bl _, H, I', rfl, ?_⟩
      rw [← (dG_rep k h2).1]
      exact q

/-! items, slices -/
theorem atI_rep {K : PySem.W.Frag} {G : Hp} {ι : List Addr} {l : List T} {vs : List V} {i : Int} {t : T} (r : RepL K G ι l vs) (e : atI l i = some t) : ∃ v, atI vs i = some v ∧ Rep K G ι t v := by
  unfold atI at e ⊢
  rw [← r.length]
  cases q : ixN l.length i with
  | none => rw [q] at e; cases e
  | some j =>
    rw [q] at e
    exact r.get e
/-- a[i]: of a cell too -/
def opIx (h : Hs) (a i : T) : Option T := match a with
  | .ref n => match h[n]? with
    | some (.lst l) => opI (.lst l) i
    | _ => none
  | t => opI t i
def rIdx (X : Cx) : R2 := fun x y H Q => ∃ O G ι env h σ a b t, SRel X.K O G ι env h σ H ∧ PRep X.K G ι H a x ∧ PRep X.K G ι H b y ∧ opIx h a b = some t ∧ After X.K O G ι env h σ (.val t) Q
/-- d[k], there -/
theorem ix_dg (hu : X.A.units + 1 < cLine) : IxR X (fun x y H Q => ∃ a v, x = .ref a ∧ DGet H a y (some v) ∧ Q v H) := by
  intro value slice pins s σ H x y w u Q I rx ry ⟨a, v, ex, g, q⟩ hs
  subst ex
  cases rx
  exact tail_any (dict_typeIs I g) PySem.F.slot_dict_getitem.lookup (d_getItem hu I g ry fun w' s3 I3 rw' => ⟨v, H, I3, rw', q⟩) hs
theorem idx_ok (hu : X.A.units + 66 < cLine) : IxR X (rIdx X) := by
  intro value slice pins s σ0 H x y v u Q I rx ry ⟨O, G, ι, env, h, σ, a, b, t, S, ra, rb, e, q⟩ hp
  have gs := S.h.gs
  have lstC : ∀ (l : List T) (p : Addr) (vs : List V), SqL X.K H p vs → RepL X.K G ι l vs → x = .ref p → opI (.lst l) b = some t → wpAny (model X.prog X.w) X.A (subscriptTail value slice v u) (EP X pins σ0 Q) X.xe s := by
    intro l p vs h1 r1 ex e
    subst ex
    unfold opI at e
    split at e
    · rename_i l2 i e2 e3
      cases e2
      cases rb.int
      obtain ⟨w, h2, r2⟩ := atI_rep r1 e
      exact ix_list value slice pins s σ0 H _ _ v u Q I rx ry ⟨_, _, _, _, rfl, rfl, h1, h2, q.rep S r2⟩ hp
    · rename_i e2 e3; cases e2
    · rename_i e2 e3; cases e2
    · rename_i e2 e3; cases e2
    · rename_i e2 e3; cases e2
    · rename_i e2 e3; cases e2
    · cases e
  unfold opIx at e
  split at e
  · rename_i n
    obtain ⟨p, rfl, hi⟩ := ra.ref
    split at e
    · rename_i l hn
      obtain ⟨vs, h1, r1⟩ := S.h.cell n _ p hn hi
      exact lstC l p vs (SqL.of h1) r1 rfl e
    · cases e
  · cases a with
    | lst l =>
      obtain ⟨p, vs, rfl, h1, r1⟩ := ra.lst gs
      exact lstC l p vs (SqL.of h1) r1 rfl e
    | scr l =>
      obtain ⟨p, vs, rfl, h1, r1⟩ := ra.scr gs
      cases b with
      | int i => exact lstC l p vs h1 r1 rfl e
      | _ => simp [opI] at e
    | tup l =>
      obtain ⟨p, vs, rfl, h1, r1⟩ := ra.tup gs
      cases b with
      | int i =>
        cases rb.int
        obtain ⟨w, h2, r2⟩ := atI_rep r1 e
        exact ix_tup value slice pins s σ0 H _ _ v u Q I rx ry ⟨_, _, _, _, rfl, rfl, h1, h2, q.rep S r2⟩ hp
      | _ => simp [opI] at e
    | str z =>
      cases ra.str
      cases b with
      | int i =>
        cases rb.int
        simp only [opI] at e
        by_cases hz : z.length ≤ sizeLine
        · rw [if_pos hz] at e
          cases ea : atI z.cps.toList i with
          | none => rw [ea] at e; cases e
          | some c =>
            rw [ea] at e
            cases e
            exact ix_str value slice pins s σ0 H _ _ v u Q I rx ry ⟨_, _, _, rfl, rfl, hz, ea, q.str S⟩ hp
        · rw [if_neg hz] at e; cases e
      | _ => simp [opI] at e
    | dk ks l =>
      obtain ⟨p, vs, rfl, h1, h0, h2⟩ := ra.dk gs
      simp only [opI, dFind] at e
      cases ek : kOf b with
      | none => rw [ek] at e; cases e
      | some k =>
        rw [ek] at e
        simp only [Option.map_some, Option.bind_some, id] at e
        have := kOf_rep ek rb
        subst this
        obtain ⟨w, hw, rt⟩ := (dG_rep k h2).2 t e
        exact ix_dg (by omega) value slice pins s σ0 H _ _ v u Q I rx ry ⟨p, w, rfl, by rw [← hw]; exact .k h1, q.rep S rt⟩ hp
    | dt ks l =>
      obtain ⟨p, vs, rfl, h1, h0, h2⟩ := ra.dt gs
      simp only [opI, dFind] at e
      cases ek : ksOf b with
      | none => rw [ek] at e; cases e
      | some k =>
        rw [ek] at e
        simp only [Option.map_some, Option.bind_some, id] at e
        obtain ⟨b', rfl, hb⟩ := ksOf_rep ek rb
        obtain ⟨w, hw, rt⟩ := (dG_rep k h2).2 t e
        exact ix_dg (by omega) value slice pins s σ0 H _ _ v u Q I rx ry ⟨p, w, rfl, by rw [← hw]; exact .t h1 (gs _ _ hb), q.rep S rt⟩ hp
    | _ => simp [opI] at e

theorem cut_rep {K : PySem.W.Frag} {G : Hp} {ι : List Addr} {l : List T} {vs : List V} (r : RepL K G ι l vs) (lo hi : Option Int) : RepL K G ι (cutT l lo hi) (cutV vs lo hi) := by
  unfold cutT cutV
  rw [r.length]
  exact (r.drop _).take _
def rSlc (X : Cx) : V → Option Int → Option Int → Hp → VK → Prop := fun x lo hi H Q => ∃ O G ι env h σ a p, SRel X.K O G ι env h σ H ∧ PRep X.K G ι H a x ∧ opS a lo hi = some p ∧ After X.K O G ι env h σ p Q
theorem slc_ok : SlR X (rSlc X) := by
  intro pins s σ0 H x v vl vu lo hi sl Q I rx hs pl pu ⟨O, G, ι, env, h, σ, a, p, S, ra, e, q⟩
  have gs := S.h.gs
  cases a with
  | lst l =>
    cases e
    obtain ⟨a1, vs, rfl, h1, r1⟩ := ra.lst gs
    exact sl_list pins s σ0 H _ v vl vu lo hi sl Q I rx hs pl pu ⟨_, _, rfl, SqL.of h1, q.lst S (cut_rep r1 lo hi)⟩
  | tup l =>
    cases e
    obtain ⟨a1, vs, rfl, h1, r1⟩ := ra.tup gs
    refine sl_tupA pins s σ0 H _ v vl vu lo hi sl Q I rx hs pl pu ⟨_, _, rfl, h1, fun z => ?_, fun _ => q.tup S (cut_rep r1 lo hi)⟩
    have ew : cutT l lo hi = l := by
      unfold cutT
      rw [r1.length, z.1, z.2]
      simp [r1.length ▸ List.take_length]
    rw [ew] at q
    exact q.rep S ra.tupR
  | str z =>
    cases ra.str
    obtain ⟨hz, rfl⟩ := ite_some (show (if z.length ≤ sizeLine then some (P.val (.str (cutS z lo hi))) else none) = some p from e)
    exact sl_str pins s σ0 H _ v vl vu lo hi sl Q I rx hs pl pu ⟨_, rfl, hz, q.str S⟩
  | _ => cases e
end
end Fx

set_option maxHeartbeats 4000000
namespace Fx
open PySem L2
open PyProof.Rows hiding St

/-! ### what is known of the text's classes -/
/-- what a class's name stands for -/
def NmOk (mg : Str → Option Value) (d : Str) (v : V) (cv : Value) : Prop := (mg d = some cv ∧ (∃ D, cv = .ref D ∧ v = V.ref D)) ∨ (d = "ValueError" ∧ mg d = none ∧ cv = .type "ValueError" ∧ v = V.ty "ValueError")
/-- what the written part says of one class -/
structure ClsOk (K : PySem.W.Frag) (mg : Str → Option Value) (t : ClT) (c : Str) (l : List Str) (C : Addr) : Prop where
  at_ : mg c = some (.ref C)
  ex : ExcC K C
  xf : XfC K C
  no : ∀ f ∈ t.fld, PySem.W.findIn K (.ref C) f = some none
  ask : ∀ d ∈ t.asked, ∃ v cv, NmOk mg d v cv ∧ PySem.W.kitOne K (.ref C) cv = some (l.contains d) ∧ PySem.W.exmOne K (.ref C) cv = some (l.contains d)
structure TblOk (K : PySem.W.Frag) (mg : Str → Option Value) (t : ClT) : Prop where
  nm : ∀ d ∈ t.asked, ∃ v cv, NmOk mg d v cv
  cl : ∀ c l, t.cls.lookup c = some l → ∃ C, ClsOk K mg t c l C
/-! ### a def that takes the handled exception -/
/-- its promise, by the object p that is handled -/
def spP (K : PySem.W.Frag) (mg : Str → Option Value) (hf : Str → List T → Hs → Option (T × Hs)) (p : Addr × Obj) : Sp := fun vs H Q _ => vs = [.ref p.1] ∧ ∃ O G ι h D d c fs t h', HRel K O G ι h H ∧ L2N.Zn (.ref D) d p.2 ∧ RepX mg K G ι (.exc c fs) (.ref D) d ∧ hf c fs h = some (t, h') ∧
  ∀ G' ι' v H', Le G G' → ι <+: ι' → HRel K O G' ι' h' H' → Rep K G' ι' t v → Q v H'
structure HotF (P : Program) (w : World) (K : PySem.W.Frag) (mg : Str → Option Value) (base : Heap) (CX : CXT) (fa : Addr) (fd : FuncData) (n : Str) (hf : Str → List T → Hs → Option (T × Hs)) : Prop where
  go : ∀ (A : Around) (outer : List Env) (s : Shared) (H : Hp) (args : Args) (u : Value) (vs : List V) (Q : VK) (E : XK) (p : Addr × Obj), L2H.RoomH 1 A → L2H.Hot1 A p → L2H.PinOk outer H s p → Env0 P w K mg base A outer s H → BindsTo s fd args [(n, u)] → Vals vs [u] → spP K mg hf p vs H Q E →
    codeAny (model P w) A (.call (.ref fa) args) (CR CX outer P w H s Q E) s
/-- one that may be called here -/
structure HotOk (X : Cx) (hf : Str → List T → Hs → Option (T × Hs)) (f : Str) : Prop where
  ok : ∃ fa fd n, X.mg f = some (.ref fa) ∧ PySem.W.keepIn X.K (.ref fa) = true ∧ Binds X.K fd [n] [] ∧ HotF X.prog X.w X.K X.mg X.base (L2N.CX X.prog X.w) fa fd n hf
/-- a class that is raised by a text alone -/
def RaiseOk (K : PySem.W.Frag) (mg : Str → Option Value) (c : Str) : Prop := ∃ C, mg c = some (.ref C) ∧ PySem.W.excIn K C He.veBase "ValueError.__new__" = true ∧ PySem.W.keepIn K (.ref C) = true ∧ PySem.W.subIn K (.ref C) (.type "BaseException") = some true ∧ PySem.W.typeIn K (.ref C) = some (.type "type")
/-- one that keeps what it was made of -/
structure InitOk (X : Cx) (c f : Str) : Prop where
  ok : ∃ C fI fd ps, X.mg c = some (.ref C) ∧ OexC X.K C ∧ PySem.W.findIn X.K (.ref C) "__init__" = some (some (.ref fI)) ∧ PySem.W.typeIn X.K (.ref fI) = some (.type "function") ∧ FnOk X.prog X.w X.K X.mg X.base (L2N.CX X.prog X.w) 1 fI fd ps (spInit C f) ∧ Binds X.K fd ps []
end Fx

set_option maxHeartbeats 4000000
namespace Fx
open PySem L2
open PyProof.Rows hiding St

/-! ### what a def of the text promises: what the small language tells -/
def RepC (K : PySem.W.Frag) (O G : Hp) (ι : List Addr) (H : Hp) : R → V → Prop
  | .val t, v => Rep K G ι t v
  | .new c, v => ∃ a, v = .ref a ∧ OwnAt K G ι H a c ∧ G a = none ∧ O a = none ∧ a ∉ ι
def OutC (K : PySem.W.Frag) (mg : Str → Option Value) (O G : Hp) (ι : List Addr) (Q : VK) (E : XK) : Out R → Prop
  | .ok r h => ∀ G' ι' v H', Le G G' → ι <+: ι' → HRel K O G' ι' h H' → RepC K O G' ι' H' r v → Q v H'
  | .exc e h => ∀ G' ι' cls d H', Le G G' → ι <+: ι' → HRel K O G' ι' h H' → RepX mg K G' ι' e cls d → E cls d H'
  | .stuck => False
def spC (K : PySem.W.Frag) (mg : Str → Option Value) (n : Nat) (g : List T → Hs → Out R) : Sp := fun vs H Q E => vs.length = n ∧ ∃ O G ι h ts, HRel K O G ι h H ∧ RepL K G ι ts vs ∧ OutC K mg O G ι Q E (g ts h)

/-- a constant of the module -/
def RepG : T → Value → Prop
  | .int i, u => ∃ t, u = .int i t
  | .str s, u => ∃ t, u = .str s t
  | _, _ => False
structure CallOk (X : Cx) (Γ : Cl) (f : Str) : Prop where
  ok : ∃ fa fd k ps, X.mg f = some (.ref fa) ∧ PySem.W.keepIn X.K (.ref fa) = true ∧ Room k X.A ∧ Binds X.K fd ps [] ∧ (∀ ts h, Γ.call f ts h ≠ .stuck → ts.length = ps.length) ∧
    FnOk X.prog X.w X.K X.mg X.base (L2N.CX X.prog X.w) k fa fd ps (spC X.K X.mg ps.length (Γ.call f))
/-- the built-in names that are used -/
def biNames : List Str := ["len", "abs", "min", "max", "sum", "all", "any", "int", "str", "list", "tuple", "range", "zip", "enumerate", "isinstance", "bool", "dict", "sorted", "ord", "set"]
structure Gx where
  N : List Str
  sc : Scope
  fn : Str → Bool
  fns : List Str
  hots : List Str
  tb : ClT
  top : Bool
structure XOk (X : Cx) (W : L2.WX) (Γ : Cl) (g : Gx) : Prop where
  hN : X.N = g.N
  nd : g.N.Nodup
  sc : X.env.scope = g.sc
  calm : X.calm = true
  un : X.A.units + 66 < cLine
  own : PassesOwn (model X.prog X.w) X.A X.env X.xe
  tk : L2N.Takes X W
  bi : ∀ x ∈ biNames, X.mg x = none
  glo : ∀ x t, Γ.glob x = some t → ∃ u, X.mg x = some u ∧ RepG t u
  call : ∀ f ∈ g.fns, CallOk X Γ f
  fn : X.fn = g.fn
  tbe : Γ.tb = g.tb
  tb : TblOk X.K X.mg g.tb
  rs : ∀ c, (g.tb.cls.lookup c).isSome = true → g.tb.init.lookup c = none → RaiseOk X.K X.mg c
  ini : ∀ c f, g.tb.init.lookup c = some f → InitOk X c f
  hots : ∀ f ∈ g.hots, HotOk X (Γ.hot f) f
  rm : Room Γ.lev X.A
  top : g.top = true → X.stack = X.env :: X.outer ∧ X.env.frame = some X.env.locals

/-! ### names and constants -/
section
variable {X : Cx} {W : L2.WX} {Γ : Cl} {g : Gx}
def visB (sc : Scope) (x : Str) : Bool := match sc.names.lookup x with
  | some .local => true
  | some .cell => true
  | some .free => true
  | _ => false
def glB (sc : Scope) (x : Str) : Bool := match sc.names.lookup x with
  | some .globalImplicit => true
  | _ => false
theorem vis_of {x : Str} (h : visB sc x = true) : Vis sc x := by
  unfold visB at h
  split at h <;> first | exact .inl (by assumption) | exact .inr (.inl (by assumption)) | exact .inr (.inr (by assumption)) | cases h
theorem gl_of (ok : XOk X W Γ g) {x : Str} (h : glB g.sc x = true) : Gl X x := by
  unfold glB at h
  show X.env.scope.names.lookup x = _
  rw [ok.sc]
  split at h
  · assumption
  · cases h
theorem s_var (ok : XOk X W Γ g) {i : Nat} {x : Str} {pos : Pos} (h1 : g.N[i]? = some x) (h2 : visB g.sc x = true) (h3 : (x == ("__debug__" : Str)) = false) (h4 : (x == ("__classdict__" : Str)) = false) :
    PE X (.Name x pos) (RdE X W (ev Γ (.var i))) := by
  refine PE.imp (pe_var (i := i) (by rw [ok.hN]; exact h1) (by rw [ok.sc]; exact vis_of h2) h3 h4) ?_
  rintro σ H Q ⟨O, G, ι, env, h, S, q⟩
  unfold ev at q
  cases e : env[i]? with
  | none => rw [e] at q; exact q.elim
  | some s =>
    rw [e] at q
    have hi : i < σ.length := by rw [← S.len]; exact (List.getElem?_eq_some_iff.mp e).1
    have sl := S.slot i s σ[i] e (List.getElem?_eq_getElem hi)
    cases s with
    | no => exact q.elim
    | val t =>
      obtain ⟨v, ev, r⟩ := sl
      exact ⟨v, by rw [List.getElem?_eq_getElem hi, ev], q G ι v H (Le.refl G) (List.prefix_refl _) S r⟩
    | own c =>
      obtain ⟨a, ev, r⟩ := sl
      exact ⟨.ref a, by rw [List.getElem?_eq_getElem hi, ev], q G ι _ H (Le.refl G) (List.prefix_refl _) S ⟨e, by rw [List.getElem?_eq_getElem hi, ev]⟩⟩
theorem s_con {t : T} {v : V} {e : Expr} (h : PE X e (tC v)) (r : ∀ G ι, Rep X.K G ι t v) : PE X e (RdE X W (ev Γ (.con t))) := by
  refine PE.imp h ?_
  rintro σ H Q ⟨O, G, ι, env, h, S, q⟩
  unfold ev at q
  exact q G ι v H (Le.refl G) (List.prefix_refl _) S (r G ι)
theorem s_glo (ok : XOk X W Γ g) {x : Str} {pos : Pos} (h2 : glB g.sc x = true) (h3 : (x == ("__debug__" : Str)) = false) : PE X (.Name x pos) (RdE X W (ev Γ (.glo x))) := by
  cases e : Γ.glob x with
  | none =>
    refine ⟨fun pins s σ H Q I ⟨O, G, ι, env, h, S, q⟩ => ?_⟩
    unfold ev at q
    rw [e] at q
    exact q.elim
  | some t =>
    obtain ⟨u, hu, ru⟩ := ok.glo x t e
    have fin : ∀ v, RelV v u → (∀ G ι, Rep X.K G ι t v) → PE X (.Name x pos) (RdE X W (ev Γ (.glo x))) := fun v r1 r2 => by
      refine PE.imp (pe_glob (gl_of ok h2) hu r1 h3) ?_
      rintro σ H Q ⟨O, G, ι, env, h, S, q⟩
      unfold ev at q
      rw [e] at q
      exact q G ι v H (Le.refl G) (List.prefix_refl _) S (r2 G ι)
    cases t with
    | int i => obtain ⟨tk, rfl⟩ := ru; exact fin (.int i) ⟨tk, rfl⟩ fun _ _ => .int
    | str i => obtain ⟨tk, rfl⟩ := ru; exact fin (.str i) ⟨tk, rfl⟩ fun _ _ => .str
    | _ => exact ru.elim

/-! ### operators -/
theorem OutG.after {O G : Hp} {ι : List Addr} {env : En} {σ : St} {h : Hs} {p : P} {Q : VK} (q : OutG X W O G ι env σ (fun G ι H p v => RepP X.K O G ι env σ H p v) Q (.ok p h)) : After X.K O G ι env h σ p Q :=
  fun G' v H' l S r => q G' ι v H' l (List.prefix_refl _) S r
variable {a b c : E} {ea eb ec : Expr} {pos : Pos}
theorem s_bin {op : PySem.Operator} (ha : PE X ea (RdE X W (ev Γ a))) (hb : PE X eb (RdE X W (ev Γ b))) : PE X (.BinOp ea op eb pos) (RdE X W (ev Γ (.bin op a b))) := by
  refine PE.imp (pe_op bin_ok ha hb) ?_
  rintro σ H Q ⟨O, G, ι, env, h, S, q⟩
  unfold ev at q
  refine rd_bind (R1 := rP X.K) S q fun x h1 G1 ι1 v H1 l1 p1 S1 r1 q1 => ?_
  obtain ⟨G1', S1', l1', o1⟩ := RepP.opd S1 r1
  refine rd_bind (R1 := rP X.K) S1' (q1.mono l1' (List.prefix_refl _)) fun y h2 G2 ι2 w H2 l2 p2 S2 r2 q2 => ?_
  obtain ⟨G2', S2', l2', o2⟩ := RepP.opd S2 r2
  obtain ⟨p, e, q3⟩ := (q2.mono l2' (List.prefix_refl _)).of_some
  exact ⟨O, G2', ι2, env, h2, σ, _, _, p, S2', ((o1.mono l2 p2).mono l2' (List.prefix_refl _)).at S2', o2.at S2', e, q3.after⟩
theorem s_cmp {op : CmpOp} (ok : XOk X W Γ g) (ha : PE X ea (RdE X W (ev Γ a))) (hb : PE X eb (RdE X W (ev Γ b))) (hm : behindInMarks op eb = false) : PE X (.Compare ea [op] [eb] pos) (RdE X W (ev Γ (.cmp op a b))) := by
  refine PE.imp (pe_cmpR (cmp_ok ok.un) ha hb hm) ?_
  rintro σ H Q ⟨O, G, ι, env, h, S, q⟩
  unfold ev at q
  refine rd_bind (R1 := rP X.K) S q fun x h1 G1 ι1 v H1 l1 p1 S1 r1 q1 => ?_
  obtain ⟨G1', S1', l1', o1⟩ := RepP.opd S1 r1
  refine rd_bind (R1 := rP X.K) S1' (q1.mono l1' (List.prefix_refl _)) fun y h2 G2 ι2 w H2 l2 p2 S2 r2 q2 => ?_
  obtain ⟨G2', S2', l2', o2⟩ := RepP.opd S2 r2
  obtain ⟨p, e, q3⟩ := (q2.mono l2' (List.prefix_refl _)).of_some
  cases ec : opC op x.t y.t with
  | none => rw [ec] at e; cases e
  | some c =>
    rw [ec] at e
    cases e
    exact ⟨O, G2', ι2, env, h2, σ, _, _, c, S2', ((o1.mono l2 p2).mono l2' (List.prefix_refl _)).at S2', o2.at S2', ec, q3.after.bl S2'⟩
end
end Fx

set_option maxHeartbeats 4000000
namespace Fx
open PySem L2
open PyProof.Rows hiding St

def evB (Γ : Cl) (e : E) (env : En) (h : Hs) : Out Bool := (ev Γ e env h).bind fun x h1 => .of (truthB x) h1
def evAndB (Γ : Cl) (l : Es) (env : En) (h : Hs) : Out Bool := (evAnd Γ l env h).bind fun x h1 => .of (truthB x) h1
def evOrB (Γ : Cl) (l : Es) (env : En) (h : Hs) : Out Bool := (evOr Γ l env h).bind fun x h1 => .of (truthB x) h1
def notStar : Expr → Bool
  | .Starred .. => false
  | _ => true
theorem star_ok {e : Expr} {es : List Expr} {env : Env} (h : notStar e = true) : starEach (e :: es) env = (false, eval e env) :: starEach es env := by
  cases e <;> first | rfl | cases h
theorem plain_ok {pos : Pos} {env : Env} : ∀ {es : List Expr}, es.all notStar = true → (backTo pos (starEach es env)).any (·.1) = false
  | [], _ => rfl
  | e :: es, h => by
    simp only [List.all_cons, Bool.and_eq_true] at h
    rw [star_ok h.1]
    have := plain_ok (pos := pos) (env := env) h.2
    simpa [backTo] using this
theorem truth_bl {p : P} {b : Bool} (h : truthB p = some b) : p = .val (.bl b) := by
  unfold truthB at h
  split at h
  · cases h; rfl
  · cases h

section
variable {X : Cx} {W : L2.WX} {Γ : Cl} {g : Gx} {a b c : E} {ea eb ec : Expr} {pos : Pos}
/-- a truth, from its value -/
theorem rd_truth {f : En → Hs → Out P} {σ : St} {H : Hp} {Q : Bool → Hp → Prop} (q : RdB X W (fun env h => (f env h).bind fun x h1 => .of (truthB x) h1) σ H Q) : RdE X W f σ H fun x H' => ∃ k, x = .bl k ∧ Q k H' := by
  obtain ⟨O, G, ι, env, h, S, q⟩ := q
  refine rd_bind (R1 := rP X.K) S q fun x h1 G1 ι1 v H1 l1 p1 S1 r1 q1 => ?_
  obtain ⟨k, e, q2⟩ := q1.of_some
  have ex := truth_bl e
  subst ex
  cases r1
  exact ⟨k, rfl, q2 G1 ι1 k H1 (Le.refl _) (List.prefix_refl _) S1 rfl⟩
theorem s_test (h : PE X ea (RdE X W (ev Γ a))) (he : ∀ whole, isTrue ea X.env whole = (do let v ← whole; standAt ea.pos; holding [v] (truthy v))) : PT X ea (RdB X W (evB Γ a)) :=
  PT.imp (pt_val h he) fun _ _ _ q => rd_truth q
theorem i_cmp {op : CmpOp} {σ : St} {H : Hp} {Q : VK} (q : RdE X W (ev Γ (.cmp op a b)) σ H Q) : tOp (rCmp X op) (RdE X W (ev Γ a)) (RdE X W (ev Γ b)) σ H Q := by
  obtain ⟨O, G, ι, env, h, S, q⟩ := q
  unfold ev at q
  refine rd_bind (R1 := rP X.K) S q fun x h1 G1 ι1 v H1 l1 p1 S1 r1 q1 => ?_
  obtain ⟨G1', S1', l1', o1⟩ := RepP.opd S1 r1
  refine rd_bind (R1 := rP X.K) S1' (q1.mono l1' (List.prefix_refl _)) fun y h2 G2 ι2 w H2 l2 p2 S2 r2 q2 => ?_
  obtain ⟨G2', S2', l2', o2⟩ := RepP.opd S2 r2
  obtain ⟨p, e, q3⟩ := (q2.mono l2' (List.prefix_refl _)).of_some
  cases ec : opC op x.t y.t with
  | none => rw [ec] at e; cases e
  | some c =>
    rw [ec] at e
    cases e
    exact ⟨O, G2', ι2, env, h2, σ, _, _, c, S2', ((o1.mono l2 p2).mono l2' (List.prefix_refl _)).at S2', o2.at S2', ec, q3.after.bl S2'⟩
theorem t_cmp {op : CmpOp} (ok : XOk X W Γ g) (ha : PE X ea (RdE X W (ev Γ a))) (hb : PE X eb (RdE X W (ev Γ b))) (hm : behindInMarks op eb = false) : PT X (.Compare ea [op] [eb] pos) (RdB X W (evB Γ (.cmp op a b))) :=
  PT.imp (pt_cmpR (cmp_ok ok.un) ha hb hm) fun _ _ _ q => i_cmp (rd_truth q)

/-! ### chains -/
theorem i_chain {σ : St} {H : Hp} {x : T} {v : V} {O G : Hp} {ι : List Addr} {env : En} {h : Hs} {Q : VK} (ok : XOk X W Γ g) : True := trivial

/-! ### minus, not, and, or -/
theorem gives_neg_bool (a : Bool) : Gives (Builtin.«int.__neg__» ⟨[.bool a], []⟩) (.int (-(if a = true then (1 : Int) else 0))) :=
  .of_wp fun M A E s Q h => by obtain ⟨hp, g, d, tk, os⟩ := s; wp_walk; exact ⟨_, rfl, h⟩
theorem neg_bool {M : Program} {w : World} {A : Around} {E : Value → Shared → Prop} {s : Shared} {a : Bool} {Q : Value → Shared → Prop} (h : Q (.int (-(if a = true then (1 : Int) else 0)) s.toks) { s with toks := s.toks + 1 }) : wpAny (model M w) A (unaryOp .USub (.bool a)) Q E s :=
  unaryOp_gives (op := .USub) (T := "bool") rfl rfl F.slot_bool_neg F.entry_int_neg (F.args_int_neg_1 _) (gives_neg_bool a) h
theorem un_negB : UnR X (unaryOp .USub) (fun x H Q => (∃ i, x = .int i ∧ Q (.int (-i)) H) ∨ (∃ k, x = .bl k ∧ Q (.int (-(if k = true then (1 : Int) else 0))) H)) := by
  intro pins s σ H x v Q I rx h
  rcases h with ⟨i, rfl, q⟩ | ⟨k, rfl, q⟩
  · exact un_neg pins s σ H _ v Q I rx ⟨i, rfl, q⟩
  · obtain rfl := rx
    exact neg_bool ⟨.int _, H, I.tok _, ⟨_, rfl⟩, q⟩
theorem s_neg (ha : PE X ea (RdE X W (ev Γ a))) : PE X (.UnaryOp .USub ea pos) (RdE X W (ev Γ (.neg a))) := by
  refine PE.imp (pe_un un_negB ha) ?_
  rintro σ H Q ⟨O, G, ι, env, h, S, q⟩
  unfold ev at q
  refine rd_bind (R1 := rP X.K) S q fun x h1 G1 ι1 v H1 l1 p1 S1 r1 q1 => ?_
  obtain ⟨G1', S1', l1', o1⟩ := RepP.opd S1 r1
  cases e : x.t with
  | int i =>
    simp only [e] at q1
    rw [e] at o1
    cases (o1.at S1').int
    exact .inl ⟨i, rfl, q1 _ _ _ _ (Le.refl _) (List.prefix_refl _) S1 .int⟩
  | bl k =>
    simp only [e] at q1
    rw [e] at o1
    cases (o1.at S1').bl
    exact .inr ⟨k, rfl, q1 _ _ _ _ (Le.refl _) (List.prefix_refl _) S1 .int⟩
  | _ => simp only [e] at q1; exact q1.elim
theorem s_not (ha : PE X ea (RdE X W (ev Γ a))) : PE X (.UnaryOp .Not ea pos) (RdE X W (ev Γ (.not a))) := by
  refine PE.imp (pe_not ha) ?_
  rintro σ H Q ⟨O, G, ι, env, h, S, q⟩
  unfold ev at q
  refine rd_bind (R1 := rP X.K) S q fun x h1 G1 ι1 v H1 l1 p1 S1 r1 q1 => ?_
  obtain ⟨k, e, q2⟩ := q1.of_some
  cases ex : truthB x with
  | none => rw [ex] at e; cases e
  | some b =>
    rw [ex] at e
    cases e
    have := truth_bl ex
    subst this
    cases r1
    exact ⟨b, rfl, q2 _ _ _ _ (Le.refl _) (List.prefix_refl _) S1 .bl⟩
theorem t_not (ha : PT X ea (RdB X W (evB Γ a))) : PT X (.UnaryOp .Not ea pos) (RdB X W (evB Γ (.not a))) := by
  refine PT.imp (pt_not ha) ?_
  rintro σ H Q ⟨O, G, ι, env, h, S, q⟩
  refine ⟨O, G, ι, env, h, S, ?_⟩
  unfold evB at q ⊢
  rw [ev] at q
  cases e : ev Γ a env h with
  | ok x h1 =>
    rw [e] at q
    simp only [Out.bind_ok] at q ⊢
    cases ex : truthB x with
    | none => rw [ex] at q; exact q
    | some b =>
      rw [ex] at q
      exact fun G' ι' v H' l p S' r => by cases r; exact q G' ι' _ H' l p S' rfl
  | exc _ _ => rw [e] at q; exact q
  | stuck => rw [e] at q; exact q
variable {l : Es} {es : List Expr}
theorem t_and (ha : PT X ea (RdB X W (evB Γ a))) (hb : PW X (.BoolOp .And (eb :: es) pos) (RdB X W (evAndB Γ (.cons b l)))) : PW X (.BoolOp .And (ea :: eb :: es) pos) (RdB X W (evAndB Γ (.cons a (.cons b l)))) := by
  refine PW.imp (pw_and ha hb) ?_
  rintro σ H Q ⟨O, G, ι, env, h, S, q⟩
  refine ⟨O, G, ι, env, h, S, ?_⟩
  unfold evAndB at q
  rw [evAnd] at q
  unfold evB
  cases e : ev Γ a env h with
  | ok x h1 =>
    rw [e] at q
    simp only [Out.bind_ok] at q ⊢
    cases ex : truthB x with
    | none => rw [ex] at q; exact q
    | some k =>
      rw [ex] at q
      cases k with
      | true =>
        exact fun G' ι' v H' l p S' r => by
          cases r
          rw [if_pos rfl]
          exact ⟨O, G', ι', env, h1, S', q.mono l p⟩
      | false =>
        exact fun G' ι' v H' l p S' r => by
          cases r
          rw [if_neg Bool.false_ne_true]
          exact q G' ι' _ H' l p S' rfl
  | exc _ _ => rw [e] at q; exact q
  | stuck => rw [e] at q; exact q
  · intro z; cases z
theorem t_or (ha : PT X ea (RdB X W (evB Γ a))) (hb : PW X (.BoolOp .Or (eb :: es) pos) (RdB X W (evOrB Γ (.cons b l)))) : PW X (.BoolOp .Or (ea :: eb :: es) pos) (RdB X W (evOrB Γ (.cons a (.cons b l)))) := by
  refine PW.imp (pw_or ha hb) ?_
  rintro σ H Q ⟨O, G, ι, env, h, S, q⟩
  refine ⟨O, G, ι, env, h, S, ?_⟩
  unfold evOrB at q
  rw [evOr] at q
  unfold evB
  cases e : ev Γ a env h with
  | ok x h1 =>
    rw [e] at q
    simp only [Out.bind_ok] at q ⊢
    cases ex : truthB x with
    | none => rw [ex] at q; exact q
    | some k =>
      rw [ex] at q
      cases k with
      | true =>
        exact fun G' ι' v H' l p S' r => by
          cases r
          rw [if_pos rfl]
          exact q G' ι' _ H' l p S' rfl
      | false =>
        exact fun G' ι' v H' l p S' r => by
          cases r
          rw [if_neg Bool.false_ne_true]
          exact ⟨O, G', ι', env, h1, S', q.mono l p⟩
  | exc _ _ => rw [e] at q; exact q
  | stuck => rw [e] at q; exact q
  · intro z; cases z
theorem s_and (ha : PE X ea (RdE X W (ev Γ a))) (hb : PE X (.BoolOp .And (eb :: es) pos) (RdE X W (evAnd Γ (.cons b l)))) : PE X (.BoolOp .And (ea :: eb :: es) pos) (RdE X W (evAnd Γ (.cons a (.cons b l)))) := by
  refine PE.imp (pe_and ha hb) ?_
  rintro σ H Q ⟨O, G, ι, env, h, S, q⟩
  rw [evAnd] at q
  refine rd_bind (R1 := rP X.K) S q fun x h1 G1 ι1 v H1 l1 p1 S1 r1 q1 => ?_
  cases ex : truthB x with
  | none => rw [ex] at q1; exact q1.elim
  | some k =>
    rw [ex] at q1
    have := truth_bl ex
    subst this
    cases r1
    refine ⟨k, rfl, ?_⟩
    cases k with
    | true => rw [if_pos rfl]; exact ⟨O, G1, ι1, env, h1, S1, q1⟩
    | false => rw [if_neg Bool.false_ne_true]; exact q1 _ _ _ _ (Le.refl _) (List.prefix_refl _) S1 .bl
  · intro z; cases z
theorem s_or (ha : PE X ea (RdE X W (ev Γ a))) (hb : PE X (.BoolOp .Or (eb :: es) pos) (RdE X W (evOr Γ (.cons b l)))) : PE X (.BoolOp .Or (ea :: eb :: es) pos) (RdE X W (evOr Γ (.cons a (.cons b l)))) := by
  refine PE.imp (pe_or ha hb) ?_
  rintro σ H Q ⟨O, G, ι, env, h, S, q⟩
  rw [evOr] at q
  refine rd_bind (R1 := rP X.K) S q fun x h1 G1 ι1 v H1 l1 p1 S1 r1 q1 => ?_
  cases ex : truthB x with
  | none => rw [ex] at q1; exact q1.elim
  | some k =>
    rw [ex] at q1
    have := truth_bl ex
    subst this
    cases r1
    refine ⟨k, rfl, ?_⟩
    cases k with
    | true => rw [if_pos rfl]; exact q1 _ _ _ _ (Le.refl _) (List.prefix_refl _) S1 .bl
    | false => rw [if_neg Bool.false_ne_true]; exact ⟨O, G1, ι1, env, h1, S1, q1⟩
  · intro z; cases z

/-! ### is None, if .. else -/
theorem i_isN {p : Bool} {σ : St} {H : Hp} {Q : VK} (q : RdE X W (ev Γ (.isN p a)) σ H Q) : RdE X W (ev Γ a) σ H fun x H1 => Q (.bl (decide (x = .non) == p)) H1 := by
  obtain ⟨O, G, ι, env, h, S, q⟩ := q
  rw [ev] at q
  refine rd_bind (R1 := rP X.K) S q fun x h1 G1 ι1 v H1 l1 p1 S1 r1 q1 => ?_
  obtain ⟨G1', S1', l1', o1⟩ := RepP.opd S1 r1
  have r := o1.at S1'
  have e : x.t.isNon = decide (v = .non) := by
    cases ex : x.t with
    | non => rw [ex] at r; cases r.non; rfl
    | bl i => rw [ex] at r; cases r.bl; rfl
    | int i => rw [ex] at r; cases r.int; rfl
    | str i => rw [ex] at r; cases r.str; rfl
    | tup l => rw [ex] at r; obtain ⟨_, _, rfl, _⟩ := r.tup S1'.h.gs; rfl
    | lst l => rw [ex] at r; obtain ⟨_, _, rfl, _⟩ := r.lst S1'.h.gs; rfl
    | scr l => rw [ex] at r; obtain ⟨_, _, rfl, _⟩ := r.scr S1'.h.gs; rfl
    | ref n => rw [ex] at r; obtain ⟨_, rfl, _⟩ := r.ref; rfl
    | dk ks l => rw [ex] at r; obtain ⟨_, _, rfl, _⟩ := r.dk S1'.h.gs; rfl
    | dt ks l => rw [ex] at r; obtain ⟨_, _, rfl, _⟩ := r.dt S1'.h.gs; rfl
    | set k =>
      exfalso
      cases x with
      | val t => cases ex; cases r1
      | new c => cases c <;> simp [P.t, Cell.t] at ex
      | pk i c => cases c <;> simp [P.t, Cell.t] at ex
    | exc k v =>
      exfalso
      cases x with
      | val t => cases ex; cases r1
      | new c => cases c <;> simp [P.t, Cell.t] at ex
      | pk i c => cases c <;> simp [P.t, Cell.t] at ex
  rw [e] at q1
  exact q1 _ _ _ _ (Le.refl _) (List.prefix_refl _) S1 .bl
theorem i_isN1 {σ : St} {H : Hp} {Q : VK} (q : RdE X W (ev Γ (.isN true a)) σ H Q) : tIsN (RdE X W (ev Γ a)) σ H Q := by
  have := i_isN q
  simp only [beq_true] at this
  exact this
theorem i_isN0 {σ : St} {H : Hp} {Q : VK} (q : RdE X W (ev Γ (.isN false a)) σ H Q) : tNotN (RdE X W (ev Γ a)) σ H Q := by
  have := i_isN q
  simp only [beq_false] at this
  exact this
variable {j : Nat} {pos' : Pos}
theorem s_isN (ha : PE X ea (RdE X W (ev Γ a))) : PE X (.Compare ea [.Is] [.Constant .none j pos'] pos) (RdE X W (ev Γ (.isN true a))) := PE.imp (pe_cmp (pc_isN ha)) fun _ _ _ q => i_isN1 q
theorem t_isN (ha : PE X ea (RdE X W (ev Γ a))) : PT X (.Compare ea [.Is] [.Constant .none j pos'] pos) (RdB X W (evB Γ (.isN true a))) := PT.imp (pt_cmp (pc_isN ha)) fun _ _ _ q => i_isN1 (rd_truth q)
theorem s_notN (ha : PE X ea (RdE X W (ev Γ a))) : PE X (.Compare ea [.IsNot] [.Constant .none j pos'] pos) (RdE X W (ev Γ (.isN false a))) := PE.imp (pe_cmp (pc_notN ha)) fun _ _ _ q => i_isN0 q
theorem t_notN (ha : PE X ea (RdE X W (ev Γ a))) : PT X (.Compare ea [.IsNot] [.Constant .none j pos'] pos) (RdB X W (evB Γ (.isN false a))) := PT.imp (pt_cmp (pc_notN ha)) fun _ _ _ q => i_isN0 (rd_truth q)
theorem s_ite (hc : PT X ec (RdB X W (evB Γ c))) (ha : PE X ea (RdE X W (ev Γ a))) (hb : PE X eb (RdE X W (ev Γ b))) : PE X (.IfExp ec ea eb pos) (RdE X W (ev Γ (.ite c a b))) := by
  refine PE.imp (pe_ifExp hc ha hb) ?_
  rintro σ H Q ⟨O, G, ι, env, h, S, q⟩
  rw [ev] at q
  refine ⟨O, G, ι, env, h, S, ?_⟩
  unfold evB
  cases e : ev Γ c env h with
  | ok x h1 =>
    rw [e] at q
    simp only [Out.bind_ok] at q ⊢
    cases ex : truthB x with
    | none => rw [ex] at q; exact q
    | some k =>
      rw [ex] at q
      exact fun G' ι' v H' l p S' r => by
        cases r
        cases k with
        | true => rw [if_pos rfl]; exact ⟨O, G', ι', env, h1, S', OutG.mono l p q⟩
        | false => rw [if_neg Bool.false_ne_true]; exact ⟨O, G', ι', env, h1, S', OutG.mono l p q⟩
  | exc _ _ => rw [e] at q; exact q
  | stuck => rw [e] at q; exact q
theorem t_ite (hc : PT X ec (RdB X W (evB Γ c))) (ha : PT X ea (RdB X W (evB Γ a))) (hb : PT X eb (RdB X W (evB Γ b))) : PT X (.IfExp ec ea eb pos) (RdB X W (evB Γ (.ite c a b))) := by
  refine ⟨fun pins s σ H Q I ⟨O, G, ι, env, h, S, q⟩ => ?_⟩
  have z : RdB X W (evB Γ c) σ H fun k H1 => if k = true then RdB X W (evB Γ a) σ H1 Q else RdB X W (evB Γ b) σ H1 Q := by
    refine ⟨O, G, ι, env, h, S, ?_⟩
    unfold evB at q ⊢
    rw [ev] at q
    cases e : ev Γ c env h with
    | ok x h1 =>
      rw [e] at q
      simp only [Out.bind_ok] at q ⊢
      cases ex : truthB x with
      | none => rw [ex] at q; exact q
      | some k =>
        rw [ex] at q
        exact fun G' ι' v H' l p S' r => by
          cases r
          cases k with
          | true => rw [if_pos rfl]; exact ⟨O, G', ι', env, h1, S', OutG.mono l p q⟩
          | false => rw [if_neg Bool.false_ne_true]; exact ⟨O, G', ι', env, h1, S', OutG.mono l p q⟩
    | exc _ _ => rw [e] at q; exact q
    | stuck => rw [e] at q; exact q
  have t := hc.run pins s σ H _ I z
  rw [PySem.isTrue]
  refine wpAny_bind (thn t fun k s1 ⟨H1, I1, q1⟩ => ?_)
  cases k with
  | true => exact ha.run pins s1 σ H1 Q I1 q1
  | false => exact hb.run pins s1 σ H1 Q I1 q1
end
end Fx

set_option maxHeartbeats 4000000
namespace Fx
open PySem L2
open PyProof.Rows hiding St
section
variable {X : Cx} {W : L2.WX} {Γ : Cl} {g : Gx} {a b c : E} {ea eb ec : Expr} {pos : Pos} {l : Es} {es : List Expr}
/-! ### argument lists -/
theorem a_nil : PA X [] (RdA X W (evs Γ .nil)) := by
  refine PA.imp pa_nil ?_
  rintro σ H Q ⟨O, G, ι, env, h, S, q⟩
  rw [evs] at q
  exact q G ι [] H (Le.refl _) (List.prefix_refl _) S .nil
theorem p_nil : PA X [] (RdP X W (evp Γ .nil)) := by
  refine PA.imp pa_nil ?_
  rintro σ H Q ⟨O, G, ι, env, h, S, q⟩
  rw [evp] at q
  exact q G ι [] H (Le.refl _) (List.prefix_refl _) S .nil
theorem a_cons (hs : notStar ea = true) (ha : PE X ea (RdE X W (ev Γ a))) (hr : PA X es (RdA X W (evs Γ l))) : PA X (ea :: es) (RdA X W (evs Γ (.cons a l))) := by
  refine PA.imp (pa_cons ha hr (star_ok hs)) ?_
  rintro σ H Q ⟨O, G, ι, env, h, S, q⟩
  rw [evs] at q
  refine rd_bind (R1 := rP X.K) S q fun x h1 G1 ι1 v H1 l1 p1 S1 r1 q1 => ?_
  cases e : x.k with
  | none => rw [e] at q1; exact q1.elim
  | some t =>
    rw [e] at q1
    obtain ⟨G1', S1', l1', o1⟩ := RepP.kept S1 r1 e
    refine rd_bind (R1 := rTs X.K) S1' (q1.mono l1' (List.prefix_refl _)) fun ts h2 G2 ι2 vs H2 l2 p2 S2 r2 q2 => ?_
    exact q2 _ _ _ _ (Le.refl _) (List.prefix_refl _) S2 (.cons (o1.mono l2 p2) r2)
theorem p_cons (hs : notStar ea = true) (ha : PE X ea (RdE X W (ev Γ a))) (hr : PA X es (RdP X W (evp Γ l))) : PA X (ea :: es) (RdP X W (evp Γ (.cons a l))) := by
  refine PA.imp (pa_cons ha hr (star_ok hs)) ?_
  rintro σ H Q ⟨O, G, ι, env, h, S, q⟩
  rw [evp] at q
  refine rd_bind (R1 := rP X.K) S q fun x h1 G1 ι1 v H1 l1 p1 S1 r1 q1 => ?_
  obtain ⟨G1', S1', l1', o1⟩ := RepP.opd S1 r1
  refine rd_bind (R1 := rPs X.K) S1' (q1.mono l1' (List.prefix_refl _)) fun ts h2 G2 ι2 vs H2 l2 p2 S2 r2 q2 => ?_
  exact q2 _ _ _ _ (Le.refl _) (List.prefix_refl _) S2 (.cons (o1.mono l2 p2) r2)

/-! ### displays -/
theorem s_tup {k : Nat} (h : PA X es (RdA X W (evs Γ l))) : PE X (.Tuple es k pos) (RdE X W (ev Γ (.tup l))) := by
  refine PE.imp (pe_tup h) ?_
  rintro σ H Q ⟨O, G, ι, env, h, S, q⟩
  rw [ev] at q
  refine rd_bind (R1 := rTs X.K) S q fun ts h1 G1 ι1 vs H1 l1 p1 S1 r1 q1 => ?_
  obtain ⟨p, e, q2⟩ := q1.of_some
  obtain ⟨hl, rfl⟩ := ite_some e
  exact ⟨by rw [← r1.length]; exact hl, q2.after.tup S1 r1⟩
theorem s_lst (h : PA X es (RdA X W (evs Γ l))) : PE X (.List es pos) (RdE X W (ev Γ (.lst l))) := by
  refine PE.imp (pe_lst h) ?_
  rintro σ H Q ⟨O, G, ι, env, h, S, q⟩
  rw [ev] at q
  refine rd_bind (R1 := rTs X.K) S q fun ts h1 G1 ι1 vs H1 l1 p1 S1 r1 q1 => ?_
  obtain ⟨p, e, q2⟩ := q1.of_some
  obtain ⟨hl, rfl⟩ := ite_some e
  exact ⟨by rw [← r1.length]; exact hl, q2.after.lst S1 r1⟩

/-! ### items, slices -/
def notSlice : Expr → Bool
  | .Slice .. => false
  | _ => true
theorem plainIx_ok (h : notSlice eb = true) : PlainIx eb := fun o i => by
  cases eb <;> first | rfl | cases h
theorem s_idx (hu : X.A.units + 66 < cLine) (ha : PE X ea (RdE X W (ev Γ a))) (hb : PE X eb (RdE X W (ev Γ b))) (hs : notSlice eb = true) : PE X (.Subscript ea eb pos) (RdE X W (ev Γ (.idx a b))) := by
  refine PE.imp (pe_ix (idx_ok hu) ha hb (plainIx_ok hs)) ?_
  rintro σ H Q ⟨O, G, ι, env, h, S, q⟩
  rw [ev] at q
  refine rd_bind (R1 := rP X.K) S q fun x h1 G1 ι1 v H1 l1 p1 S1 r1 q1 => ?_
  obtain ⟨G1', S1', l1', o1⟩ := RepP.opd S1 r1
  refine rd_bind (R1 := rP X.K) S1' (q1.mono l1' (List.prefix_refl _)) fun y h2 G2 ι2 w H2 l2 p2 S2 r2 q2 => ?_
  obtain ⟨G2', S2', l2', o2⟩ := RepP.opd S2 r2
  have o1' := ((o1.mono l2 p2).mono l2' (List.prefix_refl _)).at S2'
  have q3 := q2.mono l2' (List.prefix_refl _)
  have fin : ∀ t, opIx h2 x.t y.t = some t → OutG X W O G2' ι2 env σ (rP X.K O env σ) Q (.ok (.val t) h2) → rIdx X v w H2 Q := fun t e q4 =>
    ⟨O, G2', ι2, env, h2, σ, _, _, t, S2', o1', o2.at S2', e, q4.after⟩
  unfold opIx at fin
  split at q3
  · rename_i n e
    rw [e] at fin
    simp only at fin
    split at q3
    · rename_i l e2
      rw [e2] at fin
      obtain ⟨p, e3, q4⟩ := q3.of_some
      cases e4 : opI (.lst l) y.t with
      | none => rw [e4] at e3; cases e3
      | some t => rw [e4] at e3; cases e3; exact fin t e4 q4
    · exact q3.elim
  · rename_i e
    obtain ⟨p, e3, q4⟩ := q3.of_some
    cases e4 : opI x.t y.t with
    | none => rw [e4] at e3; cases e3
    | some t =>
      rw [e4] at e3
      cases e3
      refine fin t ?_ q4
      split
      · rename_i n e5; exact absurd e5 (e n)
      · exact e4
theorem o_no : PO X none (fun σ H Q => RdG X W (evO Γ .no) rO σ H Q) := by
  refine ⟨fun pins s σ H Q I ⟨O, G, ι, env, h, S, q⟩ => ?_⟩
  rw [evO] at q
  exact po_none.run pins s σ H Q I (q G ι _ H (Le.refl _) (List.prefix_refl _) S rfl)
theorem o_so (ha : PE X ea (RdE X W (ev Γ a))) : PO X (some ea) (fun σ H Q => RdG X W (evO Γ (.so a)) rO σ H Q) := by
  refine ⟨fun pins s σ H Q I ⟨O, G, ι, env, h, S, q⟩ => ?_⟩
  rw [evO] at q
  refine (po_some ha).run pins s σ H Q I ?_
  refine rd_bind (R1 := rP X.K) S q fun x h1 G1 ι1 v H1 l1 p1 S1 r1 q1 => ?_
  obtain ⟨G1', S1', l1', o1⟩ := RepP.opd S1 r1
  have r := o1.at S1'
  split at q1
  · rename_i i e
    rw [e] at r
    cases r.int
    exact ⟨i, rfl, q1 _ _ _ _ (Le.refl _) (List.prefix_refl _) S1 rfl⟩
  · exact q1.elim
theorem s_slc {lo hi : OE} {elo ehi : Option Expr} {p2 : Pos} (ha : PE X ea (RdE X W (ev Γ a))) (hl : PO X elo (fun σ H Q => RdG X W (evO Γ lo) rO σ H Q)) (hh : PO X ehi (fun σ H Q => RdG X W (evO Γ hi) rO σ H Q)) :
    PE X (.Subscript ea (.Slice elo ehi none p2) pos) (RdE X W (ev Γ (.slc a lo hi))) := by
  refine PE.imp (pe_slice slc_ok ha hl hh) ?_
  rintro σ H Q ⟨O, G, ι, env, h, S, q⟩
  rw [ev] at q
  refine rd_bind (R1 := rP X.K) S q fun x h1 G1 ι1 v H1 l1 p1 S1 r1 q1 => ?_
  obtain ⟨G1', S1', l1', o1⟩ := RepP.opd S1 r1
  refine rd_bind (R1 := rO) S1' (q1.mono l1' (List.prefix_refl _)) fun lo h2 G2 ι2 w H2 l2 p2 S2 r2 q2 => ?_
  refine rd_bind (R1 := rO) S2 q2 fun hi h3 G3 ι3 w3 H3 l3 p3 S3 r3 q3 => ?_
  cases r2
  cases r3
  obtain ⟨p, e, q4⟩ := q3.of_some
  exact ⟨O, G3, ι3, env, h3, σ, _, p, S3, ((o1.mono l2 p2).mono l3 p3).at S3, e, q4.after⟩

/-! ### chains of comparisons -/
theorem i_one {op : CmpOp} {x : T} {O G : Hp} {ι : List Addr} {env : En} {h : Hs} {σ : St} {H : Hp} {v : V} {Q : VK} (S : SRel X.K O G ι env h σ H) (o : Opd X.K G ι env σ x v) (q : OutG X W O G ι env σ (rP X.K O env σ) Q (evCh Γ (.one op a) x env h)) :
    RdE X W (ev Γ a) σ H fun y H2 => rCmp X op v y H2 Q := by
  rw [evCh] at q
  refine rd_bind (R1 := rP X.K) S q fun y h1 G1 ι1 w H1 l1 p1 S1 r1 q1 => ?_
  obtain ⟨G1', S1', l1', o1⟩ := RepP.opd S1 r1
  obtain ⟨p, e, q3⟩ := (q1.mono l1' (List.prefix_refl _)).of_some
  cases ec : opC op x y.t with
  | none => rw [ec] at e; cases e
  | some c =>
    rw [ec] at e
    cases e
    exact ⟨O, G1', ι1, env, h1, σ, _, _, c, S1', ((o.mono l1 p1).mono l1' (List.prefix_refl _)).at S1', o1.at S1', ec, q3.after.bl S1'⟩
theorem i_more {op : CmpOp} {r : Ch} {x : T} {O G : Hp} {ι : List Addr} {env : En} {h : Hs} {σ : St} {H : Hp} {v : V} {Q : VK} (S : SRel X.K O G ι env h σ H) (o : Opd X.K G ι env σ x v) (q : OutG X W O G ι env σ (rP X.K O env σ) Q (evCh Γ (.more op a r) x env h)) :
    RdE X W (ev Γ a) σ H fun y H2 => rCmp X op v y H2 fun z H3 => ∃ k, z = .bl k ∧ if k = true then (∃ O G ι env h t, SRel X.K O G ι env h σ H3 ∧ Opd X.K G ι env σ t y ∧ OutG X W O G ι env σ (rP X.K O env σ) Q (evCh Γ r t env h)) else Q (.bl false) H3 := by
  rw [evCh] at q
  refine rd_bind (R1 := rP X.K) S q fun y h1 G1 ι1 w H1 l1 p1 S1 r1 q1 => ?_
  obtain ⟨G1', S1', l1', o1⟩ := RepP.opd S1 r1
  have q2 := q1.mono l1' (List.prefix_refl _)
  cases ec : opC op x y.t with
  | none => rw [ec] at q2; exact q2.elim
  | some c =>
    rw [ec] at q2
    refine ⟨O, G1', ι1, env, h1, σ, _, _, c, S1', ((o.mono l1 p1).mono l1' (List.prefix_refl _)).at S1', o1.at S1', ec, c, rfl, ?_⟩
    cases c with
    | true => rw [if_pos rfl]; exact ⟨O, G1', ι1, env, h1, _, S1', o1, q2⟩
    | false => rw [if_neg Bool.false_ne_true]; exact q2.after.bl S1'
end

/-- the rest of a chain, behind its first value -/
structure PCh (X : Cx) (W : L2.WX) (Γ : Cl) (c : Ch) (ops : List CmpOp) (es : List Expr) : Prop where
  run : ∀ (pos : Pos) (pins : List (Addr × Obj)) (s : Shared) (σ : St) (H : Hp) (O G : Hp) (ι : List Addr) (env : En) (h : Hs) (x : T) (v : V) (u : Value) (Q : VK), L2.Inv X pins σ H s → RelV v u → SRel X.K O G ι env h σ H → Opd X.K G ι env σ x v →
    OutG X W O G ι env σ (rP X.K O env σ) Q (evCh Γ c x env h) → wpAny (model X.prog X.w) X.A (compareChain pos u ops (evalEach es X.env)) (EP X pins σ Q) X.xe s
  tst : ∀ (pos : Pos) (pins : List (Addr × Obj)) (s : Shared) (σ : St) (H : Hp) (O G : Hp) (ι : List Addr) (env : En) (h : Hs) (x : T) (v : V) (u : Value) (Q : Bool → Hp → Prop), L2.Inv X pins σ H s → RelV v u → SRel X.K O G ι env h σ H → Opd X.K G ι env σ x v →
    OutG X W O G ι env σ (rP X.K O env σ) (fun z H' => ∃ k, z = .bl k ∧ Q k H') (evCh Γ c x env h) → wpAny (model X.prog X.w) X.A (testChain pos u ops (evalEach es X.env)) (TP X pins σ Q) X.xe s

section
variable {X : Cx} {W : L2.WX} {Γ : Cl} {g : Gx} {a b c : E} {ea eb ec : Expr} {pos : Pos} {es : List Expr} {op : CmpOp} {ops : List CmpOp} {r : Ch}
theorem ch_one (ok : XOk X W Γ g) (ha : PE X ea (RdE X W (ev Γ a))) : PCh X W Γ (.one op a) [op] [ea] where
  run := by
    intro pos pins s σ H O G ι env h x v u Q I rv S o q
    show wpAny _ _ (compareChain pos u [op] [eval ea X.env]) _ _ s
    refine chain_last (thn (ha.run pins s σ H _ I (i_one S o q)) fun w s1 ⟨y, H1, I1, r1, q1⟩ => ?_)
    exact cmp_ok ok.un pins s1 σ H1 v y u w Q I1 rv r1 q1
  tst := by
    intro pos pins s σ H O G ι env h x v u Q I rv S o q
    show wpAny _ _ (testChain pos u [op] [eval ea X.env]) _ _ s
    refine test_last (thn (ha.run pins s σ H _ I (i_one S o q)) fun w s1 ⟨y, H1, I1, r1, q1⟩ => ?_)
    refine thn (cmp_ok ok.un pins s1 σ H1 v y u w _ I1 rv r1 q1) fun d s2 ⟨z, H2, I2, r2, k, e, q2⟩ => ?_
    subst e
    cases r2
    exact wpAny_truthy_bool ⟨H2, I2, q2⟩
theorem ch_more {op' : CmpOp} (ok : XOk X W Γ g) (ha : PE X ea (RdE X W (ev Γ a))) (hr : PCh X W Γ r (op' :: ops) (eb :: es)) : PCh X W Γ (.more op a r) (op :: op' :: ops) (ea :: eb :: es) where
  run := by
    intro pos pins s σ H O G ι env h x v u Q I rv S o q
    show wpAny _ _ (compareChain pos u (op :: op' :: ops) (eval ea X.env :: eval eb X.env :: evalEach es X.env)) _ _ s
    refine chain_link (thn (ha.run pins s σ H _ I (i_more S o q)) fun w s1 ⟨y, H1, I1, r1, q1⟩ => ?_)
    refine thn (cmp_ok ok.un pins s1 σ H1 v y u w _ I1 rv r1 q1) fun d s2 ⟨z, H2, I2, r2, k, e, q2⟩ => ?_
    subst e
    cases r2
    refine wpAny_truthy_bool ?_
    cases k with
    | false => exact ite_ff ⟨.bl false, H2, I2, rfl, q2⟩
    | true =>
      obtain ⟨O, G, ι, env, h, t, S2, o2, q3⟩ := q2
      exact ite_tt (hr.run pos pins s2 σ H2 O G ι env h t y w Q I2 r1 S2 o2 q3)
  tst := by
    intro pos pins s σ H O G ι env h x v u Q I rv S o q
    show wpAny _ _ (testChain pos u (op :: op' :: ops) (eval ea X.env :: eval eb X.env :: evalEach es X.env)) _ _ s
    refine test_link (thn (ha.run pins s σ H _ I (i_more S o q)) fun w s1 ⟨y, H1, I1, r1, q1⟩ => ?_)
    refine thn (cmp_ok ok.un pins s1 σ H1 v y u w _ I1 rv r1 q1) fun d s2 ⟨z, H2, I2, r2, k, e, q2⟩ => ?_
    subst e
    cases r2
    refine wpAny_truthy_bool ?_
    cases k with
    | false =>
      obtain ⟨k', e', q'⟩ := q2
      cases e'
      exact ite_ff ⟨H2, I2, q'⟩
    | true =>
      obtain ⟨O, G, ι, env, h, t, S2, o2, q3⟩ := q2
      exact ite_tt (hr.tst pos pins s2 σ H2 O G ι env h t y w Q I2 r1 S2 o2 q3)
theorem s_chn {op' : CmpOp} (ha : PE X ea (RdE X W (ev Γ a))) (hr : PCh X W Γ r (op :: op' :: ops) (eb :: ec :: es)) (hm : lastMarks (op :: op' :: ops) (eb :: ec :: es) = false) : PE X (.Compare ea (op :: op' :: ops) (eb :: ec :: es) pos) (RdE X W (ev Γ (.chn a r))) := by
  refine ⟨fun pins s σ H Q I ⟨O, G, ι, env, h, S, q⟩ => ?_⟩
  rw [ev] at q
  have z : RdE X W (ev Γ a) σ H fun v H1 => ∃ O G ι env h t, SRel X.K O G ι env h σ H1 ∧ Opd X.K G ι env σ t v ∧ OutG X W O G ι env σ (rP X.K O env σ) Q (evCh Γ r t env h) := by
    refine rd_bind (R1 := rP X.K) S q fun x h1 G1 ι1 v H1 l1 p1 S1 r1 q1 => ?_
    obtain ⟨G1', S1', l1', o1⟩ := RepP.opd S1 r1
    exact ⟨O, G1', ι1, env, h1, _, S1', o1, q1.mono l1' (List.prefix_refl _)⟩
  refine Compare_chain (thn (ha.run pins s σ H _ I z) fun u s1 ⟨v, H1, I1, r1, O, G, ι, env, h, t, S1, o1, q1⟩ => ?_) hm
  exact hr.run pos pins s1 σ H1 O G ι env h t v u Q I1 r1 S1 o1 q1
theorem t_chn {op' : CmpOp} (ha : PE X ea (RdE X W (ev Γ a))) (hr : PCh X W Γ r (op :: op' :: ops) (eb :: ec :: es)) (hm : lastMarks (op :: op' :: ops) (eb :: ec :: es) = false) : PT X (.Compare ea (op :: op' :: ops) (eb :: ec :: es) pos) (RdB X W (evB Γ (.chn a r))) := by
  refine ⟨fun pins s σ H Q I q0 => ?_⟩
  obtain ⟨O, G, ι, env, h, S, q⟩ := rd_truth q0
  rw [ev] at q
  have z : RdE X W (ev Γ a) σ H fun v H1 => ∃ O G ι env h t, SRel X.K O G ι env h σ H1 ∧ Opd X.K G ι env σ t v ∧ OutG X W O G ι env σ (rP X.K O env σ) (fun z H' => ∃ k, z = .bl k ∧ Q k H') (evCh Γ r t env h) := by
    refine rd_bind (R1 := rP X.K) S q fun x h1 G1 ι1 v H1 l1 p1 S1 r1 q1 => ?_
    obtain ⟨G1', S1', l1', o1⟩ := RepP.opd S1 r1
    exact ⟨O, G1', ι1, env, h1, _, S1', o1, q1.mono l1' (List.prefix_refl _)⟩
  refine isTrue_chain (thn (ha.run pins s σ H _ I z) fun u s1 ⟨v, H1, I1, r1, O, G, ι, env, h, t, S1, o1, q1⟩ => ?_) hm
  exact hr.tst pos pins s1 σ H1 O G ι env h t v u Q I1 r1 S1 o1 q1
end
end Fx

set_option maxHeartbeats 4000000
namespace Fx
open PySem L2
open PyProof.Rows hiding St

/-! ### calls of defs -/
open Classical in
/-- what a callee must leave: what others own, and the names' own lists -/
noncomputable def outer (O : Hp) (env : En) (σ : St) (H : Hp) : Hp := fun b =>
  if ∃ (i : Nat) (c : Cell), env[i]? = some (Slot.own c) ∧ σ[i]? = some (some (V.ref b)) then H b else O b
section
variable {K : PySem.W.Frag} {O G G' : Hp} {ι ι' : List Addr} {env : En} {h h' : Hs} {σ : St} {H H' : Hp}
theorem outer_in {b : Addr} {i : Nat} {c : Cell} (h1 : env[i]? = some (Slot.own c)) (h2 : σ[i]? = some (some (V.ref b))) : outer O env σ H b = H b := if_pos ⟨i, c, h1, h2⟩
theorem outer_O {b : Addr} {o : HO} (S : SRel K O G ι env h σ H) (e : O b = some o) : outer O env σ H b = some o := by
  unfold outer
  rw [if_neg]
  · exact e
  · rintro ⟨i, c, h1, h2⟩
    obtain ⟨a, e1, _, _, q, _⟩ := S.slot i _ _ h1 h2
    cases e1
    rw [q] at e; cases e
theorem outer_H {b : Addr} {o : HO} (S : SRel K O G ι env h σ H) (e : outer O env σ H b = some o) : H b = some o := by
  unfold outer at e
  split at e
  · exact e
  · exact S.h.os b o e
theorem SRel.down (S : SRel K O G ι env h σ H) : HRel K (outer O env σ H) G ι h H where
  gs := S.h.gs
  os := fun b o e => outer_H S e
  dj := fun b o e => by
    unfold outer at e
    split at e
    · rename_i z
      obtain ⟨i, c, h1, h2⟩ := z
      obtain ⟨a, e1, _, q, _⟩ := S.slot i _ _ h1 h2
      cases e1
      exact q
    · exact S.h.dj b o e
  len := S.h.len
  cell := S.h.cell
  nd := S.h.nd
  fr := fun b hb => by
    refine ⟨(S.h.fr b hb).1, ?_⟩
    unfold outer
    rw [if_neg]
    · exact (S.h.fr b hb).2
    · rintro ⟨i, c, h1, h2⟩
      obtain ⟨a, e1, _, _, _, q⟩ := S.slot i _ _ h1 h2
      cases e1
      exact q hb
theorem SRel.up (S : SRel K O G ι env h σ H) (l : Le G G') (p : ι <+: ι') (D : HRel K (outer O env σ H) G' ι' h' H') : SRel K O G' ι' env h' σ H' where
  h := ⟨D.gs, fun b o e => D.os b o (outer_O S e), fun b o e => D.dj b o (outer_O S e), D.len, D.cell, D.nd, fun b hb => ⟨(D.fr b hb).1, by
    cases e : O b with
    | none => rfl
    | some o =>
      have := outer_O S e
      rw [(D.fr b hb).2] at this
      cases this⟩⟩
  len := S.len
  slot := fun i s x h1 h2 => by
    have q := S.slot i s x h1 h2
    cases s with
    | no => trivial
    | val t => obtain ⟨v, e, r⟩ := q; exact ⟨v, e, r.mono l p⟩
    | own c =>
      obtain ⟨a, e, r, g, o, n⟩ := q
      subst e
      obtain ⟨u, hu⟩ := r.some
      have ha : outer O env σ H a = some u := by rw [outer_in h1 h2]; exact hu
      refine ⟨a, rfl, r.mono l p fun o' ho' => ?_, D.dj a u ha, o, fun hb => ?_⟩
      · rw [hu] at ho'; cases ho'
        exact D.os a u ha
      · rw [(D.fr a hb).2] at ha; cases ha
  nd := S.nd
theorem RepC.up {r : R} {v : V} (S : SRel K O G ι env h σ H) (q : RepC K (outer O env σ H) G' ι' H' r v) : RepP K O G' ι' env σ H' r.p v := by
  cases r with
  | val t => exact q
  | new c =>
    obtain ⟨a, rfl, h1, h2, h3, h4⟩ := q
    refine ⟨a, rfl, h1, h2, ?_, h4, fun i c e1 e2 => ?_⟩
    · cases e : O a with
      | none => rfl
      | some o => rw [outer_O S e] at h3; cases h3
    · rw [outer_in e1 e2] at h3
      obtain ⟨a', e3, r, _⟩ := S.slot i _ _ e1 e2
      cases e3
      obtain ⟨u, hu⟩ := r.some
      rw [hu] at h3; cases h3
end
section
variable {X : Cx} {W : L2.WX} {Γ : Cl} {g : Gx} {a b c : E} {ea eb ec : Expr} {pos : Pos} {l : Es} {es : List Expr}
theorem s_call (ok : XOk X W Γ g) {f : Str} {p : Pos} (hf : f ∈ g.fns) (hg : glB g.sc f = true) (hd : (f == ("__debug__" : Str)) = false) (hs : (ea :: es).all notStar = true) (h : PA X (ea :: es) (RdA X W (evs Γ l))) :
    PE X (.Call (.Name f p) (ea :: es) [] pos) (RdE X W (ev Γ (.call f l))) := by
  obtain ⟨fa, fd, k, ps, hm, hk, hr, hb, hlen, F⟩ := (ok.call f hf).ok
  have h1 : notStar ea = true := by simp only [List.all_cons, Bool.and_eq_true] at hs; exact hs.1
  have h2 : es.all notStar = true := by simp only [List.all_cons, Bool.and_eq_true] at hs; exact hs.2
  refine PE.imp (pe_callS F hr (gl_of ok hg) hm hk hb (fun σ => L2N.passAt ok.tk σ) h hd (star_ok h1) (plain_ok h2)) ?_
  rintro σ H Q ⟨O, G, ι, env, h0, S, q⟩
  rw [ev] at q
  refine rd_bind (R1 := rTs X.K) S q fun ts h1 G1 ι1 vs H1 l1 p1 S1 r1 q1 => ?_
  refine ⟨?_, outer O env σ H1, G1, ι1, h1, ts, S1.down, r1, ?_⟩
  · rw [← r1.length]
    refine hlen ts h1 fun e => ?_
    rw [e] at q1
    exact q1
  · cases e : Γ.call f ts h1 with
    | ok r h2 =>
      rw [e] at q1
      exact fun G' ι' v H' l p D rr => q1 G' ι' v H' l p (S1.up l p D) (RepC.up S1 rr)
    | exc x h2 =>
      rw [e] at q1
      exact fun G' ι' cls d H' l p D rr => q1 G' ι' cls d H' l p (S1.up l p D) rr
    | stuck => rw [e] at q1; exact q1
end
end Fx

set_option maxHeartbeats 4000000
namespace Fx
open PySem L2
open PyProof.Rows hiding St

/-! ### built-ins -/
def rFun (X : Cx) (f : List T → Option P) : List V → Hp → VK → Prop := fun vs H Q => ∃ O G ι env h σ ts p, SRel X.K O G ι env h σ H ∧ PRepL X.K G ι H ts vs ∧ f ts = some p ∧ After X.K O G ι env h σ p Q
theorem ints_ok {K : PySem.W.Frag} {G : Hp} {ι : List Addr} : ∀ {l : List T} {ns : List Int} {vs : List V}, ints? l = some ns → RepL K G ι l vs → vs = ns.map V.int
  | [], _, _, e, r => by simp only [ints?] at e; cases e; cases r; rfl
  | t :: l, ns, _, e, r => by
    cases t with
    | int i =>
      simp only [ints?] at e
      cases e1 : ints? l with
      | none => rw [e1] at e; cases e
      | some m =>
        rw [e1] at e; cases e
        cases r with
        | cons h r => cases h; rw [ints_ok e1 r]; rfl
    | _ => simp [ints?] at e
theorem bls_ok {K : PySem.W.Frag} {G : Hp} {ι : List Addr} : ∀ {l : List T} {ns : List Bool} {vs : List V}, bls? l = some ns → RepL K G ι l vs → vs = ns.map V.bl
  | [], _, _, e, r => by simp only [bls?] at e; cases e; cases r; rfl
  | t :: l, ns, _, e, r => by
    cases t with
    | bl i =>
      simp only [bls?] at e
      cases e1 : bls? l with
      | none => rw [e1] at e; cases e
      | some m =>
        rw [e1] at e; cases e
        cases r with
        | cons h r => cases h; rw [bls_ok e1 r]; rfl
    | _ => simp [bls?] at e
theorem strs_ok {K : PySem.W.Frag} {G : Hp} {ι : List Addr} : ∀ {l : List T} {ns : List Str} {vs : List V}, strs? l = some ns → RepL K G ι l vs → vs = ns.map V.str
  | [], _, _, e, r => by simp only [strs?] at e; cases e; cases r; rfl
  | t :: l, ns, _, e, r => by
    cases t with
    | str i =>
      simp only [strs?] at e
      cases e1 : strs? l with
      | none => rw [e1] at e; cases e
      | some m =>
        rw [e1] at e; cases e
        cases r with
        | cons h r => cases h; rw [strs_ok e1 r]; rfl
    | _ => simp [strs?] at e
theorem PRepL.one {K : PySem.W.Frag} {G : Hp} {ι : List Addr} {H : Hp} {t : T} {vs : List V} (h : PRepL K G ι H [t] vs) : ∃ v, vs = [v] ∧ PRep K G ι H t v := by
  cases h with
  | cons h r => cases r; exact ⟨_, rfl, h⟩
theorem PRepL.two {K : PySem.W.Frag} {G : Hp} {ι : List Addr} {H : Hp} {t u : T} {vs : List V} (h : PRepL K G ι H [t, u] vs) : ∃ v w, vs = [v, w] ∧ PRep K G ι H t v ∧ PRep K G ι H u w := by
  cases h with
  | cons h r =>
    obtain ⟨w, rfl, h2⟩ := r.one
    exact ⟨_, _, rfl, h, h2⟩
section
variable {X : Cx}
theorem f_len : CallR X (.builtin "len") (rFun X fLen) := by
  intro pins s σ0 H vs us Q I rv ⟨O, G, ι, env, h, σ, ts, p, S, r, e, q⟩
  unfold fLen at e
  split at e
  · cases e
    obtain ⟨v, rfl, k⟩ := r.one
    obtain ⟨a, ws, rfl, h1, r1⟩ := k.lst S.h.gs
    exact call_len_seq pins s σ0 H _ us Q I rv ⟨a, ws, rfl, .inl (SqL.of h1), by rw [← r1.length]; exact q.int S⟩
  · cases e
    obtain ⟨v, rfl, k⟩ := r.one
    obtain ⟨a, ws, rfl, h1, r1⟩ := k.tup S.h.gs
    exact call_len_seq pins s σ0 H _ us Q I rv ⟨a, ws, rfl, .inr h1, by rw [← r1.length]; exact q.int S⟩
  · cases e
    obtain ⟨v, rfl, k⟩ := r.one
    obtain ⟨a, ws, rfl, h1, r1⟩ := k.scr S.h.gs
    exact call_len_seq pins s σ0 H _ us Q I rv ⟨a, ws, rfl, .inl h1, by rw [← r1.length]; exact q.int S⟩
  · obtain ⟨hl, rfl⟩ := ite_some e
    obtain ⟨v, rfl, k⟩ := r.one
    cases k.str
    exact call_len_str pins s σ0 H _ us Q I rv ⟨_, rfl, hl, q.int S⟩
  · rename_i ks l
    cases e
    obtain ⟨v, rfl, k⟩ := r.one
    obtain ⟨a, ws, rfl, h1, h0, r1⟩ := k.dk S.h.gs
    refine call_lenD pins s σ0 H _ us Q I rv ⟨a, _, rfl, h1, ?_⟩
    rw [List.length_zip, ← r1.length, ← h0, Nat.min_self]
    exact q.int S
  · cases e
theorem f_abs : CallR X (.builtin "abs") (rFun X fAbs) := by
  intro pins s σ0 H vs us Q I rv ⟨O, G, ι, env, h, σ, ts, p, S, r, e, q⟩
  unfold fAbs at e
  split at e
  · cases e
    obtain ⟨v, rfl, k⟩ := r.one
    cases k.int
    exact call_abs pins s σ0 H _ us Q I rv ⟨_, rfl, q.int S⟩
  · cases e
theorem f_min (hc : X.calm = true) : CallR X (.builtin "min") (rFun X fMin) := by
  intro pins s σ0 H vs us Q I rv ⟨O, G, ι, env, h, σ, ts, p, S, r, e, q⟩
  unfold fMin at e
  split at e
  · cases e
    obtain ⟨v, w, rfl, r1, r2⟩ := r.two
    cases r1.int; cases r2.int
    exact call_min2 hc pins s σ0 H _ us Q I rv ⟨_, _, rfl, q.int S⟩
  · cases e
theorem f_max (hc : X.calm = true) : CallR X (.builtin "max") (rFun X fMax) := by
  intro pins s σ0 H vs us Q I rv ⟨O, G, ι, env, h, σ, ts, p, S, r, e, q⟩
  unfold fMax at e
  split at e
  · cases e
    obtain ⟨v, w, rfl, r1, r2⟩ := r.two
    cases r1.int; cases r2.int
    exact call_max2 hc pins s σ0 H _ us Q I rv ⟨_, _, rfl, q.int S⟩
  · cases e
theorem f_sum (hc : X.calm = true) : CallR X (.builtin "sum") (rFun X fSum) := by
  intro pins s σ0 H vs us Q I rv ⟨O, G, ι, env, h, σ, ts, p, S, r, e, q⟩
  unfold fSum at e
  split at e
  · rename_i l
    cases e1 : ints? l with
    | none => rw [e1] at e; cases e
    | some ns =>
      rw [e1] at e; cases e
      obtain ⟨v, rfl, k⟩ := r.one
      obtain ⟨a, ws, rfl, h1, r1⟩ := k.lst S.h.gs
      cases ints_ok e1 r1
      exact cr_sum hc pins s σ0 H _ us Q I rv ⟨_, _, rfl, SqL.of h1, q.int S⟩
  · cases e
theorem f_all (hc : X.calm = true) : CallR X (.builtin "all") (rFun X fAll) := by
  intro pins s σ0 H vs us Q I rv ⟨O, G, ι, env, h, σ, ts, p, S, r, e, q⟩
  unfold fAll at e
  split at e
  · rename_i l
    cases e1 : bls? l with
    | none => rw [e1] at e; cases e
    | some ns =>
      rw [e1] at e; cases e
      obtain ⟨v, rfl, k⟩ := r.one
      obtain ⟨a, ws, rfl, h1, r1⟩ := k.lst S.h.gs
      cases bls_ok e1 r1
      exact cr_all hc pins s σ0 H _ us Q I rv ⟨_, _, rfl, SqL.of h1, q.bl S⟩
  · cases e
theorem f_any (hc : X.calm = true) : CallR X (.builtin "any") (rFun X fAny) := by
  intro pins s σ0 H vs us Q I rv ⟨O, G, ι, env, h, σ, ts, p, S, r, e, q⟩
  unfold fAny at e
  split at e
  · rename_i l
    cases e1 : bls? l with
    | none => rw [e1] at e; cases e
    | some ns =>
      rw [e1] at e; cases e
      obtain ⟨v, rfl, k⟩ := r.one
      obtain ⟨a, ws, rfl, h1, r1⟩ := k.lst S.h.gs
      cases bls_ok e1 r1
      exact cr_any hc pins s σ0 H _ us Q I rv ⟨_, _, rfl, SqL.of h1, q.bl S⟩
  · cases e
theorem f_int : CallR X (.type "int") (rFun X fInt) := by
  intro pins s σ0 H vs us Q I rv ⟨O, G, ι, env, h, σ, ts, p, S, r, e, q⟩
  unfold fInt at e
  split at e
  · cases e
    obtain ⟨v, rfl, k⟩ := r.one
    cases k.int
    exact call_int1 pins s σ0 H _ us Q I rv (.inl ⟨_, rfl, q.int S⟩)
  · cases e
    obtain ⟨v, rfl, k⟩ := r.one
    cases k.bl
    exact call_int1 pins s σ0 H _ us Q I rv (.inr ⟨_, rfl, q.int S⟩)
  · cases e
theorem f_str : CallR X (.type "str") (rFun X fStr) := by
  intro pins s σ0 H vs us Q I rv ⟨O, G, ι, env, h, σ, ts, p, S, r, e, q⟩
  unfold fStr at e
  split at e
  · obtain ⟨hl, rfl⟩ := ite_some e
    obtain ⟨v, rfl, k⟩ := r.one
    cases k.int
    exact call_str_int pins s σ0 H _ us Q I rv ⟨_, rfl, hl, q.str S⟩
  · cases e
    obtain ⟨v, rfl, k⟩ := r.one
    cases k.str
    exact SkE.call_str_str pins s σ0 H _ us Q I rv ⟨_, rfl, q.str S⟩
  · cases e
    obtain ⟨v, rfl, k⟩ := r.one
    cases k.bl
    obtain ⟨u, rfl, rfl⟩ := vals1 rv
    exact PySem.P.str_of_bool ⟨.str _, H, I.tok _, ⟨_, rfl⟩, q.str S⟩
  · cases e
theorem f_list : CallR X (.type "list") (rFun X fList) := by
  intro pins s σ0 H vs us Q I rv ⟨O, G, ι, env, h, σ, ts, p, S, r, e, q⟩
  unfold fList at e
  split at e
  · cases e
    obtain ⟨v, rfl, k⟩ := r.one
    obtain ⟨a, ws, rfl, h1, r1⟩ := k.lst S.h.gs
    exact call_list_of pins s σ0 H _ us Q I rv ⟨_, _, rfl, .inl (SqL.of h1), q.lst S r1⟩
  · cases e
    obtain ⟨v, rfl, k⟩ := r.one
    obtain ⟨a, ws, rfl, h1, r1⟩ := k.tup S.h.gs
    exact call_list_of pins s σ0 H _ us Q I rv ⟨_, _, rfl, .inr h1, q.lst S r1⟩
  · cases e
theorem f_tuple : CallR X (.type "tuple") (rFun X fTuple) := by
  intro pins s σ0 H vs us Q I rv ⟨O, G, ι, env, h, σ, ts, p, S, r, e, q⟩
  unfold fTuple at e
  split at e
  · cases e
    obtain ⟨v, rfl, k⟩ := r.one
    obtain ⟨a, ws, rfl, h1, r1⟩ := k.lst S.h.gs
    exact call_tuple_of pins s σ0 H _ us Q I rv ⟨_, _, rfl, .inl ⟨SqL.of h1, q.tup S r1⟩⟩
  · cases e
    obtain ⟨v, rfl, k⟩ := r.one
    have r0 := k.tupR
    obtain ⟨a, ws, rfl, h1, r1⟩ := k.tup S.h.gs
    exact call_tuple_of pins s σ0 H _ us Q I rv ⟨_, _, rfl, .inr ⟨h1, q.rep S r0⟩⟩
  · cases e
theorem okSort_ok {l : List T} (h : okSort l = true) : allD l = true ∧ PySem.W.AllAlike (l.map T.pd) ∧ PySem.W.Sortable (l.map T.pd) ∧ depL l ≤ 60 ∧ l.length ≤ sizeLine := by
  unfold okSort at h
  simp only [Bool.and_eq_true, decide_eq_true_eq, Bool.or_eq_true, List.all_eq_true] at h
  obtain ⟨⟨⟨⟨h1, h2⟩, h3⟩, h4⟩, h5⟩ := h
  refine ⟨h1, fun d hd d' hd' => ?_, ?_, h4, h5⟩
  · obtain ⟨b, hb, rfl⟩ := List.mem_map.mp hd
    obtain ⟨b', hb', rfl⟩ := List.mem_map.mp hd'
    exact h2 b hb b' hb'
  · rcases h3 with h3 | h3
    · refine .inl fun d hd => ?_
      obtain ⟨b, hb, rfl⟩ := List.mem_map.mp hd
      have := h3 b hb
      unfold isTup1 at this
      split at this
      · exact ⟨_, _, rfl⟩
      · cases this
    · refine .inr fun d hd => ?_
      obtain ⟨b, hb, rfl⟩ := List.mem_map.mp hd
      have := h3 b hb
      have hd1 : b.isD = true := by
        have key : ∀ (l : List T), allD l = true → ∀ b ∈ l, b.isD = true := by
          intro l
          induction l with
          | nil => intro _ b hb; cases hb
          | cons a r ih =>
            intro ha b hb
            simp only [allD, Bool.and_eq_true] at ha
            rcases List.mem_cons.mp hb with rfl | hb
            · exact ha.1
            · exact ih ha.2 b hb
        exact key l h1 b hb
      cases b <;> simp_all [T.pd, noTup, T.isD]
theorem dep_mem : ∀ {l : List T} {t : T}, t ∈ l → t.dep ≤ depL l
  | x :: l, t, h => by
    simp only [depL]
    rcases List.mem_cons.mp h with rfl | h
    · omega
    · have := dep_mem h; omega
theorem allD_mem : ∀ {l : List T} {t : T}, allD l = true → t ∈ l → t.isD = true
  | x :: l, t, h, m => by
    simp only [allD, Bool.and_eq_true] at h
    rcases List.mem_cons.mp m with rfl | m
    · exact h.1
    · exact allD_mem h.2 m
/-- the items of a list, each by its tree -/
theorem each_of {K : PySem.W.Frag} {G : Hp} {ι : List Addr} : ∀ {ts : List T} {vs : List V} {us : List Value}, RepL K G ι ts vs → Vals vs us → PySem.W.EachIs (fun u t => ∃ v, RelV v u ∧ Rep K G ι t v) us ts
  | [], _, _, .nil, .nil => .nil
  | _ :: _, _, _, .cons h r, .cons h' r' => .cons ⟨_, h', h⟩ (each_of r r')
theorem of_each {K : PySem.W.Frag} {G : Hp} {ι : List Addr} : ∀ {ts : List T} {us : List Value}, PySem.W.EachIs (fun u t => ∃ v, RelV v u ∧ Rep K G ι t v) us ts → ∃ vs, RepL K G ι ts vs ∧ Vals vs us
  | [], _, .nil => ⟨[], .nil, .nil⟩
  | _ :: _, _, .cons ⟨v, h1, h2⟩ r => by
    obtain ⟨vs, q1, q2⟩ := of_each r
    exact ⟨v :: vs, .cons h2 q1, .cons h1 q2⟩
theorem each_reads {pins : List (Addr × Obj)} {σ : St} {H G : Hp} {ι : List Addr} {s : Shared} (I : L2.Inv X pins σ H s) (gs : Le G H) : ∀ {ts : List T} {vs : List V} {us : List Value}, allD ts = true → RepL X.K G ι ts vs → Vals vs us → PySem.W.EachIs (fun u t => ∃ as, Reads s.heap u t.pd as) us ts
  | [], _, _, _, .nil, .nil => .nil
  | _ :: _, _, _, d, .cons h r, .cons h' r' => by
    simp only [allD, Bool.and_eq_true] at d
    exact .cons (Dp.reads I _ _ _ (h.dp gs d.1) h') (each_reads I gs d.2 r r')
theorem sort_end {pins : List (Addr × Obj)} {σ0 : St} {H : Hp} {s : Shared} {O G : Hp} {ι : List Addr} {env : En} {h : Hs} {σ : St} {l : List T} {vs : List V} {us : List Value} {arg : Value} {Q : VK} (hu : X.A.units + 66 < cLine) (I : L2.Inv X pins σ0 H s) (S : SRel X.K O G ι env h σ H) (r : RepL X.K G ι l vs) (rv : Vals vs us) (hs : okSort l = true)
    (hc : ∀ (A' : Around) (E' : Value → Shared → Prop) (Q' : List Value → Shared → Prop), A'.handled = X.A.handled → (∀ h' tk, (∀ b o, s.heap.get? b = some o → h'.get? b = some o) → s.heap.objs.size ≤ h'.objs.size → Q' us { s with heap := h', toks := tk }) → wpAny (model X.prog X.w) A' (collect arg) Q' E' s)
    (q : After X.K O G ι env h σ (.new (.lst (sortT l))) Q) : wpAny (model X.prog X.w) X.A (call (.builtin "sorted") [arg]) (EP X pins σ0 Q) X.xe s := by
  obtain ⟨d1, d2, d3, d4, d5⟩ := okSort_ok hs
  refine sorted_coll (R := fun u t => ∃ v, RelV v u ∧ Rep X.K G ι t v) (enc := T.pd) (bs := l) hc (each_of r rv) (each_reads I S.h.gs d1 r rv) d2 d3 d5 (fun b hb => ?_) fun out a c h1 tk k1 k2 g1 hl ho => ?_
  · rw [dep_pd]
    have := dep_mem hb
    omega
  · obtain ⟨ws, r2, rv2⟩ := of_each ho
    have hn : H a = none := I.hok.fresh k2
    have hlen : ws.length ≤ sizeLine := by
      rw [← r2.length, List.length_mergeSort]; exact d5
    have J := I.laid (t' := tk) (a := a) (o := .lst ws) k1 k2 ⟨hlen, out, c, rv2, g1⟩
    exact ⟨.ref a, _, J, rfl, q.lst S r2 a hn⟩
theorem f_sorted (hu : X.A.units + 66 < cLine) : CallR X (.builtin "sorted") (rFun X fSorted) := by
  intro pins s σ0 H vs us Q I rv ⟨O, G, ι, env, h, σ, ts, p, S, r, e, q⟩
  unfold fSorted at e
  split at e
  · obtain ⟨hl, rfl⟩ := ite_some e
    obtain ⟨v, rfl, k⟩ := r.one
    obtain ⟨a, ws, rfl, h1, r1⟩ := k.lst S.h.gs
    obtain ⟨its, rv1, pl, hz⟩ := I.list (SqL.of h1)
    rw [Vals.ref1 rv]
    obtain ⟨o, g1, g2, n, g3⟩ := pl.isList
    exact sort_end hu I S r1 rv1 hl (fun A' E' Q' _ fin => coll_seq (.inl rfl) g1 g2 g3 (by have := rv1.length; simp; omega) fun h2 z1 z2 => by simpa using fin h2 s.toks z1 z2) q
  · obtain ⟨hl, rfl⟩ := ite_some e
    obtain ⟨v, rfl, k⟩ := r.one
    obtain ⟨a, ws, rfl, h1, r1⟩ := k.tup S.h.gs
    obtain ⟨its, rv1, pl, hz⟩ := I.tuple h1
    rw [Vals.ref1 rv]
    obtain ⟨o, g1, g2, n, g3⟩ := pl
    exact sort_end hu I S r1 rv1 hl (fun A' E' Q' _ fin => coll_seq (.inr rfl) g1 g2 g3 (by have := rv1.length; simp; omega) fun h2 z1 z2 => by simpa using fin h2 s.toks z1 z2) q
  · cases e
theorem f_ord : CallR X (.builtin "ord") (rFun X fOrd) := by
  intro pins s σ0 H vs us Q I rv ⟨O, G, ι, env, h, σ, ts, p, S, r, e, q⟩
  unfold fOrd at e
  split at e
  · cases e
    obtain ⟨v, rfl, k⟩ := r.one
    cases k.str
    exact call_ord pins s σ0 H _ us Q I rv ⟨_, rfl, rfl, q.int S⟩
  · cases e
end
/-- what a built-in's name stands for -/
def Bi.val : Bi → Value
  | .len => .builtin "len" | .abs => .builtin "abs" | .min => .builtin "min" | .max => .builtin "max" | .sum => .builtin "sum" | .all => .builtin "all" | .any => .builtin "any" | .sorted => .builtin "sorted" | .ord => .builtin "ord"
  | .int => .type "int" | .str => .type "str" | .list => .type "list" | .tuple => .type "tuple"
theorem bi_boot : ∀ f : Bi, bootBuiltins f.nm = some f.val := by
  intro f
  cases f <;> decide +kernel
theorem bi_in : ∀ f : Bi, f.nm ∈ biNames := by
  intro f
  cases f <;> decide +kernel
theorem bi_dbg : ∀ f : Bi, (f.nm == ("__debug__" : Str)) = false := by
  intro f
  cases f <;> decide +kernel
theorem bi_name : ∀ f : Bi, f.nm ≠ "__name__" := by
  intro f
  cases f <;> decide +kernel
theorem f_ok {X : Cx} (hc : X.calm = true) (hu : X.A.units + 66 < cLine) : ∀ f : Bi, CallR X f.val (rFun X (opF f))
  | .len => f_len
  | .abs => f_abs
  | .min => f_min hc
  | .max => f_max hc
  | .sum => f_sum hc
  | .all => f_all hc
  | .any => f_any hc
  | .int => f_int
  | .str => f_str
  | .list => f_list
  | .tuple => f_tuple
  | .sorted => f_sorted hu
  | .ord => f_ord
section
variable {X : Cx} {W : L2.WX} {Γ : Cl} {g : Gx} {a b c : E} {ea eb ec : Expr} {pos : Pos} {l : Es} {es : List Expr}
theorem s_bi (ok : XOk X W Γ g) {f : Bi} {p : Pos} (hg : glB g.sc f.nm = true) (hs : (ea :: es).all notStar = true) (h : PA X (ea :: es) (RdP X W (evp Γ l))) :
    PE X (.Call (.Name f.nm p) (ea :: es) [] pos) (RdE X W (ev Γ (.bi f l))) := by
  have h1 : notStar ea = true := by simp only [List.all_cons, Bool.and_eq_true] at hs; exact hs.1
  have h2 : es.all notStar = true := by simp only [List.all_cons, Bool.and_eq_true] at hs; exact hs.2
  have hm := ok.bi f.nm (bi_in f)
  have G0 : PE X (.Call (.Name f.nm p) (ea :: es) [] pos) (tCB (rFun X (opF f)) (RdP X W (evp Γ l))) := by
    have hv := bi_boot f
    have hk := f_ok (X := X) ok.calm ok.un f
    cases e : f.val with
    | builtin id =>
      rw [e] at hv hk
      exact pe_callB hk (gl_of ok hg) hm hv h (bi_name f) (bi_dbg f) (star_ok h1) (plain_ok h2)
    | type id =>
      rw [e] at hv hk
      exact pe_callTy hk (gl_of ok hg) hm hv h (bi_name f) (bi_dbg f) (star_ok h1) (plain_ok h2)
    | _ => exfalso; cases f <;> cases e
  refine PE.imp G0 ?_
  rintro σ H Q ⟨O, G, ι, env, h0, S, q⟩
  rw [ev] at q
  refine rd_bind (R1 := rPs X.K) S q fun ts h1 G1 ι1 vs H1 l1 p1 S1 r1 q1 => ?_
  obtain ⟨p, e, q2⟩ := q1.of_some
  exact ⟨O, G1, ι1, env, h1, σ, ts, p, S1, r1.at S1, e, q2.after⟩

/-! ### isinstance -/
def Ty.nm : Ty → String
  | .non => "NoneType" | .bool => "bool" | .int => "int" | .str => "str" | .tuple => "tuple" | .list => "list" | .dict => "dict"
def Cn.nm : Cn → String
  | .bool => "bool" | .int => "int" | .str => "str" | .tuple => "tuple" | .list => "list"
theorem kit_all : ∀ (t : Ty) (c : Cn), kitB t.nm c.nm = some (isTy t c) := by
  intro t c
  cases t <;> cases c <;> decide +kernel
theorem boot_cl : ∀ c : Cn, bootBuiltins (Str.ofString c.nm) = some (.type c.nm) := by
  intro c
  cases c <;> decide +kernel
theorem bi_cl : ∀ c : Cn, Str.ofString c.nm ∈ biNames := by
  intro c
  cases c <;> decide +kernel
theorem dbg_cl : ∀ c : Cn, (Str.ofString c.nm == ("__debug__" : Str)) = false := by
  intro c
  cases c <;> decide +kernel
theorem nm_cl : ∀ c : Cn, Str.ofString c.nm ≠ "__name__" := by
  intro c
  cases c <;> decide +kernel
theorem kitAny_ok {K : PySem.W.Frag} {t : Ty} : ∀ cs : List Cn, PySem.W.kitAny K (.type t.nm) (cs.map fun c => Value.type c.nm) = some (cs.any (isTy t))
  | [] => rfl
  | c :: cs => by
    have e := kit_ty (K := K) (kit_all t c)
    have ih := kitAny_ok (K := K) (t := t) cs
    simp only [List.map_cons, List.any_cons]
    unfold PySem.W.kitAny
    rw [e]
    cases isTy t c with
    | true => rfl
    | false => simpa using ih
theorem ty_ok {K : PySem.W.Frag} {O G : Hp} {ι : List Addr} {H : Hp} {t : T} {v : V} {y : Ty} (gs : Le G H) (r : PRep K G ι H t v) (e : t.ty = some y) : TyX K H v (.type y.nm) := by
  cases t with
  | non => cases e; cases r.non; exact .base .non
  | bl b => cases e; cases r.bl; exact .base (.bl _)
  | int b => cases e; cases r.int; exact .base (.int _)
  | str b => cases e; cases r.str; exact .base (.str _)
  | lst l => cases e; obtain ⟨a, vs, rfl, h1, _⟩ := r.lst gs; exact .base (.lst h1)
  | tup l =>
    cases e
    obtain ⟨a, vs, rfl, h1, _⟩ := r.tup gs
    rcases h1 with (h1 | ⟨o, h1⟩) | ⟨o, its, n, h1, h2, _⟩
    · exact .base (.tup h1)
    · exact .fTuple h1
    · exact .kTuple h1 h2
  | _ => cases e
end
end Fx

set_option maxHeartbeats 4000000
namespace Fx
open PySem L2
open PyProof.Rows hiding St
section
variable {X : Cx} {W : L2.WX} {Γ : Cl} {g : Gx} {a b c : E} {ea eb ec : Expr} {pos : Pos} {l : Es} {es : List Expr}
theorem boot_isi : bootBuiltins "isinstance" = some (.builtin "isinstance") := by decide +kernel
def clB (sc : Scope) (c : Cn) : Bool := glB sc (Str.ofString c.nm)
theorem pe_cl (ok : XOk X W Γ g) {c : Cn} {p : Pos} (h : clB g.sc c = true) : PE X (.Name (Str.ofString c.nm) p) (tC (.ty c.nm)) :=
  pe_bltn (gl_of ok h) (ok.bi _ (bi_cl c)) (boot_cl c) rfl (nm_cl c) (dbg_cl c)
theorem isi_end {O G : Hp} {ι : List Addr} {env : En} {h : Hs} {σ : St} {H : Hp} {x : P} {cs : List Cn} {v : V} {Q : VK} (S : SRel X.K O G ι env h σ H) (r : RepP X.K O G ι env σ H x v)
    (q : OutG X W O G ι env σ (rP X.K O env σ) Q (.of ((opIs x.t cs).map fun b => P.val (.bl b)) h)) :
    ∃ G' y, SRel X.K O G' ι env h σ H ∧ TyX X.K H v (.type y.nm) ∧ ∀ G2 H2, Le G' G2 → SRel X.K O G2 ι env h σ H2 → Q (.bl (cs.any (isTy y))) H2 := by
  obtain ⟨G1', S1', l1', o1⟩ := RepP.opd S r
  obtain ⟨p, e, q2⟩ := (q.mono l1' (List.prefix_refl _)).of_some
  unfold opIs at e
  cases e1 : x.t.ty with
  | none => rw [e1] at e; cases e
  | some y =>
    rw [e1] at e
    cases e
    exact ⟨G1', y, S1', ty_ok (O := O) S1'.h.gs (o1.at S1') e1, fun G2 H2 l S2 => q2 G2 ι _ H2 l (List.prefix_refl _) S2 .bl⟩
theorem s_isi1 (ok : XOk X W Γ g) {c : Cn} {p p2 : Pos} (hg : glB g.sc "isinstance" = true) (hc : clB g.sc c = true) (hs : notStar ea = true) (h : PE X ea (RdE X W (ev Γ a))) :
    PE X (.Call (.Name "isinstance" p) [ea, .Name (Str.ofString c.nm) p2] [] pos) (RdE X W (ev Γ (.isi a [c]))) := by
  refine PE.imp (pe_callB call_isi (gl_of ok hg) (ok.bi _ (by decide +kernel)) boot_isi (pa_cons h (pa_cons (pe_cl ok hc) pa_nil) (star_ok hs)) (by decide +kernel) (by decide +kernel) (star_ok hs) (plain_ok rfl)) ?_
  rintro σ H Q ⟨O, G, ι, env, h0, S, q⟩
  rw [ev] at q
  refine rd_bind (R1 := rP X.K) S q fun x h1 G1 ι1 v H1 l1 p1 S1 r1 q1 => ?_
  obtain ⟨G', y, S2, ty, q2⟩ := isi_end S1 r1 q1
  refine ⟨v, .ty c.nm, .type y.nm, .type c.nm, isTy y c, rfl, .ty c.nm, ty, kit_ty (kit_all y c), ?_⟩
  have := q2 G' H1 (Le.refl _) S2
  simpa using this
theorem cls_pa (ok : XOk X W Γ g) : ∀ (cs : List Cn) (ps : List Pos), cs.length = ps.length → cs.all (clB g.sc) = true →
    PA X ((cs.zip ps).map fun q => Expr.Name (Str.ofString q.1.nm) q.2) (fun _ H Q => Q (cs.map fun c => V.ty c.nm) H)
  | [], [], _, _ => pa_nil
  | [], _ :: _, e, _ => by cases e
  | _ :: _, [], e, _ => by cases e
  | c :: cs, p :: ps, e, h => by
    simp only [List.all_cons, Bool.and_eq_true] at h
    have ih := cls_pa ok cs ps (by simpa using e) h.2
    exact PA.imp (pa_cons (pe_cl ok h.1) ih) fun σ H Q q => q
theorem cls_pair : ∀ cs : List Cn, Paired ClsV (cs.map fun c => V.ty c.nm) (cs.map fun c => Value.type c.nm)
  | [] => .nil
  | c :: cs => .cons (.ty c.nm) (cls_pair cs)
theorem s_isiT (ok : XOk X W Γ g) {cs : List Cn} {ps : List Pos} {k : Nat} {p p2 : Pos} (hg : glB g.sc "isinstance" = true) (hl : cs.length = ps.length) (hz : cs.length ≤ 20) (hc : cs.all (clB g.sc) = true) (hs : notStar ea = true) (h : PE X ea (RdE X W (ev Γ a))) :
    PE X (.Call (.Name "isinstance" p) [ea, .Tuple ((cs.zip ps).map fun q => Expr.Name (Str.ofString q.1.nm) q.2) k p2] [] pos) (RdE X W (ev Γ (.isi a cs))) := by
  refine PE.imp (pe_callB call_isiT (gl_of ok hg) (ok.bi _ (by decide +kernel)) boot_isi (pa_cons h (pa_cons (pe_tup (cls_pa ok cs ps hl hc)) pa_nil) (star_ok hs)) (by decide +kernel) (by decide +kernel) (star_ok hs) (plain_ok rfl)) ?_
  rintro σ H Q ⟨O, G, ι, env, h0, S, q⟩
  rw [ev] at q
  refine rd_bind (R1 := rP X.K) S q fun x h1 G1 ι1 v H1 l1 p1 S1 r1 q1 => ?_
  obtain ⟨G', y, S2, ty, q2⟩ := isi_end S1 r1 q1
  refine ⟨by have := sizeLine_eq; rw [List.length_map]; omega, fun tp htp => ?_⟩
  obtain ⟨S3, _⟩ := S2.made (o := .tup (cs.map fun c => V.ty c.nm)) htp
  refine ⟨v, tp, cs.map fun c => V.ty c.nm, .type y.nm, cs.map fun c => Value.type c.nm, cs.any (isTy y), rfl, upd_same, cls_pair cs, ?_, kitAny_ok cs, q2 G' _ (Le.refl _) S3⟩
  · have keep : ∀ b u, H1 b = some u → upd H1 tp (.tup (cs.map fun c => V.ty c.nm)) b = some u := fun b u e => by rw [upd_ne (ne_of_none e htp)]; exact e
    generalize Value.type y.nm = yy at ty ⊢
    cases ty with
    | base h =>
      refine .base ?_
      cases h with
      | non => exact .non
      | bl x => exact .bl x
      | int x => exact .int x
      | str x => exact .str x
      | flt x => exact .flt x
      | lst e => exact .lst (keep _ _ e)
      | frz e => exact .frz (keep _ _ e)
      | tup e => exact .tup (keep _ _ e)
      | dK e => exact .dK (keep _ _ e)
      | dT e => exact .dT (keep _ _ e)
      | ins e cl ha hn htk hm => exact .ins (keep _ _ e) cl ha hn htk hm
    | byt b => exact .byt b
    | set e => exact .set (keep _ _ e)
    | kList e c => exact .kList e c
    | kTuple e c => exact .kTuple e c
    | kDict e c => exact .kDict e c
    | fTuple e => exact .fTuple (keep _ _ e)
    | fDict e => exact .fDict (keep _ _ e)

/-! ### methods of texts -/
def notCall0 : Expr → Bool
  | .Call (.Name ..) [] [] _ => false
  | _ => true
theorem base_ok {o : Expr} {m : Str} {env : Env} {w : Sem Value} (h : notCall0 o = true) : attributeBase o m env w = w := by
  unfold attributeBase
  split
  · rename_i e
    exact absurd h (by simp [notCall0])
  · rfl
theorem str_of_ty {t : T} (h : t.ty = some .str) : ∃ z, t = .str z := by
  cases t with
  | str z => exact ⟨z, rfl⟩
  | non => simp [T.ty] at h
  | bl _ => simp [T.ty] at h
  | int _ => simp [T.ty] at h
  | tup _ => simp [T.ty] at h
  | lst _ => simp [T.ty] at h
  | _ => cases h
theorem s_join {apos : Pos} (ho : PE X ea (RdE X W (ev Γ a))) (he : PE X eb (RdE X W (ev Γ b))) (hs : notStar eb = true) (hb : notCall0 ea = true) (hl : (apos.endLine == pos.line) = true) :
    PE X (.Call (.Attribute ea "join" apos) [eb] [] pos) (RdE X W (ev Γ (.mth .join a (.cons b .nil)))) := by
  refine PE.imp (pe_join ho he (star_ok hs) (base_ok hb) hl) ?_
  rintro σ H Q ⟨O, G, ι, env, h0, S, q⟩
  rw [ev] at q
  refine rd_bind (R1 := rP X.K) S q fun x h1 G1 ι1 v H1 l1 p1 S1 r1 q1 => ?_
  obtain ⟨G1', S1', l1', o1⟩ := RepP.opd S1 r1
  have q1' := q1.mono l1' (List.prefix_refl _)
  by_cases hx : x.t.ty = some (Mt.ty .join)
  · rw [if_pos hx] at q1'
    obtain ⟨z, ez⟩ := str_of_ty hx
    rw [ez] at q1' o1
    cases (o1.at S1').str
    refine ⟨⟨z, rfl⟩, ?_⟩
    rw [evp] at q1'
    have q1'' : OutG X W O G1' ι1 env σ (rP X.K O env σ) Q ((ev Γ b env h1).bind fun y h2 => .of (opM .join (.str z) [y.t]) h2) := by
      cases e : ev Γ b env h1 with
      | ok y h2 => rw [e] at q1'; simpa only [Out.bind_ok, evp] using q1'
      | exc y h2 => rw [e] at q1'; exact q1'
      | stuck => rw [e] at q1'; exact q1'
    refine rd_bind (R1 := rP X.K) S1' q1'' fun y h2 G2 ι2 w H2 l2 p2 S2 r2 q2 => ?_
    obtain ⟨G2', S2', l2', o2⟩ := RepP.opd S2 r2
    obtain ⟨p, e, q3⟩ := (q2.mono l2' (List.prefix_refl _)).of_some
    have e' : mJoin (.str z) [y.t] = some p := e
    unfold mJoin at e'
    split at e'
    · rename_i z' l' e1 e2
      cases e1
      have e3 : y.t = .lst l' := by injection e2
      rw [e3] at o2
      cases es : strs? l' with
      | none => rw [es] at e'; cases e'
      | some ys =>
        rw [es] at e'
        obtain ⟨hl2, rfl⟩ := ite_some (show (if (ys.map (·.length)).sum + ys.length * z.length ≤ 16777216 then some (P.val (.str (Txt.join z ys))) else none) = some p from e')
        obtain ⟨a2, ws, rfl, h3, r3⟩ := (o2.at S2').lst S2'.h.gs
        cases strs_ok es r3
        exact ⟨_, _, ys, rfl, rfl, .inl (SqL.of h3), hl2, q3.after.str S2'⟩
    · cases e'
  · rw [if_neg hx] at q1'; exact q1'.elim
theorem s_upper {apos : Pos} (ho : PE X ea (RdE X W (ev Γ a))) (hb : notCall0 ea = true) (hl : (apos.endLine == pos.line) = true) :
    PE X (.Call (.Attribute ea "upper" apos) [] [] pos) (RdE X W (ev Γ (.mth .upper a .nil))) := by
  refine PE.imp (pe_upper ho (base_ok hb) hl) ?_
  rintro σ H Q ⟨O, G, ι, env, h0, S, q⟩
  rw [ev] at q
  refine rd_bind (R1 := rP X.K) S q fun x h1 G1 ι1 v H1 l1 p1 S1 r1 q1 => ?_
  obtain ⟨G1', S1', l1', o1⟩ := RepP.opd S1 r1
  have q1' := q1.mono l1' (List.prefix_refl _)
  by_cases hx : x.t.ty = some (Mt.ty .upper)
  · rw [if_pos hx] at q1'
    obtain ⟨z, ez⟩ := str_of_ty hx
    rw [ez] at q1' o1
    cases (o1.at S1').str
    rw [evp] at q1'
    simp only [Out.bind_ok] at q1'
    obtain ⟨p, e, q3⟩ := q1'.of_some
    obtain ⟨hl2, rfl⟩ := ite_some (show (if z.length ≤ 5592405 then some (P.val (.str (Txt.upper z))) else none) = some p from e)
    exact ⟨⟨z, rfl⟩, z, rfl, rfl, hl2, q3.after.str S1'⟩
  · rw [if_neg hx] at q1'; exact q1'.elim
/-! ### is True, turned round, list(range(..)) -/
theorem i_isB {p b : Bool} {σ : St} {H : Hp} {Q : VK} (q : RdE X W (ev Γ (.isB p b a)) σ H Q) : RdE X W (ev Γ a) σ H fun x H1 => ∃ c, x = .bl c ∧ Q (.bl (decide (c = b) == p)) H1 := by
  obtain ⟨O, G, ι, env, h, S, q⟩ := q
  rw [ev] at q
  refine rd_bind (R1 := rP X.K) S q fun x h1 G1 ι1 v H1 l1 p1 S1 r1 q1 => ?_
  obtain ⟨r, e, q2⟩ := q1.of_some
  cases ex : truthB x with
  | none => rw [ex] at e; cases e
  | some c =>
    rw [ex] at e
    cases e
    have := truth_bl ex
    subst this
    cases r1
    exact ⟨c, rfl, q2 G1 ι1 _ H1 (Le.refl _) (List.prefix_refl _) S1 .bl⟩
theorem i_isB1 {b : Bool} {σ : St} {H : Hp} {Q : VK} (q : RdE X W (ev Γ (.isB true b a)) σ H Q) : tOp rIsB (RdE X W (ev Γ a)) (tC (.bl b)) σ H Q := by
  obtain ⟨O, G, ι, env, h, S, q'⟩ := i_isB q
  refine ⟨O, G, ι, env, h, S, ?_⟩
  cases e : ev Γ a env h with
  | ok x h1 =>
    rw [e] at q'
    intro G' ι' v H' l p S' r
    obtain ⟨c, rfl, q2⟩ := q' G' ι' v H' l p S' r
    exact ⟨c, b, rfl, rfl, by simpa using q2⟩
  | exc _ _ => rw [e] at q'; exact q'
  | stuck => rw [e] at q'; exact q'
theorem i_isB0 {b : Bool} {σ : St} {H : Hp} {Q : VK} (q : RdE X W (ev Γ (.isB false b a)) σ H Q) : tOp rNotB (RdE X W (ev Γ a)) (tC (.bl b)) σ H Q := by
  obtain ⟨O, G, ι, env, h, S, q'⟩ := i_isB q
  refine ⟨O, G, ι, env, h, S, ?_⟩
  cases e : ev Γ a env h with
  | ok x h1 =>
    rw [e] at q'
    intro G' ι' v H' l p S' r
    obtain ⟨c, rfl, q2⟩ := q' G' ι' v H' l p S' r
    refine ⟨c, b, rfl, rfl, ?_⟩
    have e1 : (decide (c = b) == false) = !decide (c = b) := by cases c <;> cases b <;> rfl
    rw [e1] at q2
    exact q2
  | exc _ _ => rw [e] at q'; exact q'
  | stuck => rw [e] at q'; exact q'
theorem s_isB {b : Bool} {j : Nat} {p2 : Pos} (ha : PE X ea (RdE X W (ev Γ a))) : PE X (.Compare ea [.Is] [.Constant (.bool b) j p2] pos) (RdE X W (ev Γ (.isB true b a))) := PE.imp (pe_cmpR op_isBl ha pe_bl rfl) fun _ _ _ q => i_isB1 q
theorem t_isB {b : Bool} {j : Nat} {p2 : Pos} (ha : PE X ea (RdE X W (ev Γ a))) : PT X (.Compare ea [.Is] [.Constant (.bool b) j p2] pos) (RdB X W (evB Γ (.isB true b a))) := PT.imp (pt_cmpR op_isBl ha pe_bl rfl) fun _ _ _ q => i_isB1 (rd_truth q)
theorem s_notB {b : Bool} {j : Nat} {p2 : Pos} (ha : PE X ea (RdE X W (ev Γ a))) : PE X (.Compare ea [.IsNot] [.Constant (.bool b) j p2] pos) (RdE X W (ev Γ (.isB false b a))) := PE.imp (pe_cmpR op_notBl ha pe_bl rfl) fun _ _ _ q => i_isB0 q
theorem t_notB {b : Bool} {j : Nat} {p2 : Pos} (ha : PE X ea (RdE X W (ev Γ a))) : PT X (.Compare ea [.IsNot] [.Constant (.bool b) j p2] pos) (RdB X W (evB Γ (.isB false b a))) := PT.imp (pt_cmpR op_notBl ha pe_bl rfl) fun _ _ _ q => i_isB0 (rd_truth q)
theorem RepL.reverse {K : PySem.W.Frag} {G : Hp} {ι : List Addr} {ts : List T} {vs : List V} (r : RepL K G ι ts vs) : RepL K G ι ts.reverse vs.reverse := by
  induction ts generalizing vs with
  | nil => cases r; exact .nil
  | cons t ts ih =>
    cases r with
    | cons h r => rw [List.reverse_cons, List.reverse_cons]; exact (ih r).append (.one h)
theorem s_rev {k : Nat} {p1 p2 p3 : Pos} (ha : PE X ea (RdE X W (ev Γ a))) : PE X (.Subscript ea (.Slice none none (some (.UnaryOp .USub (.Constant (.int 1) k p1) p2)) p3) pos) (RdE X W (ev Γ (.rev a))) := by
  refine PE.imp (pe_revL ha) ?_
  rintro σ H Q ⟨O, G, ι, env, h, S, q⟩
  rw [ev] at q
  refine rd_bind (R1 := rP X.K) S q fun x h1 G1 ι1 v H1 l1 p1 S1 r1 q1 => ?_
  obtain ⟨G1', S1', l1', o1⟩ := RepP.opd S1 r1
  have q2 := q1.mono l1' (List.prefix_refl _)
  split at q2
  · rename_i l e
    rw [e] at o1
    obtain ⟨p, vs, rfl, h2, r2⟩ := (o1.at S1').lst S1'.h.gs
    exact ⟨p, vs, rfl, SqL.of h2, q2.after.lst S1' r2.reverse⟩
  · exact q2.elim
theorem rng_rep {K : PySem.W.Frag} {G : Hp} {ι : List Addr} {i j : Int} : RepL K G ι (rangeT i j) (rgV i j) := by
  unfold rangeT rgV
  generalize (List.range (j - i).toNat) = l
  induction l with
  | nil => exact .nil
  | cons a r ih => exact .cons .int ih
theorem rg_ok {i j : Int} (h : smallR i j = true) : RgOk i j := by
  unfold smallR at h
  simpa [RgOk] using h
theorem s_lrng1 (ok : XOk X W Γ g) {p p1 p2 : Pos} (hg : glB g.sc "range" = true) (hl : glB g.sc "list" = true) (hs : notStar ea = true) (ha : PE X ea (RdE X W (ev Γ a))) :
    PE X (.Call (.Name "list" p) [.Call (.Name "range" p1) [ea] [] p2] [] pos) (RdE X W (ev Γ (.lrng1 a))) := by
  refine PE.imp (pe_listRg ok.calm (gl_of ok hl) (ok.bi _ (by decide +kernel)) (prg_1 (gl_of ok hg) (ok.bi _ (by decide +kernel)) ha (star_ok hs)) (star_ok rfl)) ?_
  rintro σ H Q ⟨O, G, ι, env, h, S, q⟩
  rw [ev] at q
  refine rd_bind (R1 := rP X.K) S q fun x h1 G1 ι1 v H1 l1 p1 S1 r1 q1 => ?_
  obtain ⟨G1', S1', l1', o1⟩ := RepP.opd S1 r1
  have q2 := q1.mono l1' (List.prefix_refl _)
  split at q2
  · rename_i j e
    rw [e] at o1
    cases (o1.at S1').int
    split at q2
    · rename_i hj
      exact ⟨j, rfl, rg_ok hj, q2.after.lst S1' rng_rep⟩
    · exact q2.elim
  · exact q2.elim
theorem s_lrng2 (ok : XOk X W Γ g) {p p1 p2 : Pos} (hg : glB g.sc "range" = true) (hl : glB g.sc "list" = true) (hs : notStar ea = true) (hs2 : notStar eb = true) (ha : PE X ea (RdE X W (ev Γ a))) (hb : PE X eb (RdE X W (ev Γ b))) :
    PE X (.Call (.Name "list" p) [.Call (.Name "range" p1) [ea, eb] [] p2] [] pos) (RdE X W (ev Γ (.lrng2 a b))) := by
  refine PE.imp (pe_listRg ok.calm (gl_of ok hl) (ok.bi _ (by decide +kernel)) (prg_2 (gl_of ok hg) (ok.bi _ (by decide +kernel)) ha hb (star_ok hs) (star_ok hs2) (plain_ok (by simp [hs2]))) (star_ok rfl)) ?_
  rintro σ H Q ⟨O, G, ι, env, h, S, q⟩
  rw [ev] at q
  refine rd_bind (R1 := rP X.K) S q fun x h1 G1 ι1 v H1 l1 p1 S1 r1 q1 => ?_
  obtain ⟨G1', S1', l1', o1⟩ := RepP.opd S1 r1
  refine rd_bind (R1 := rP X.K) S1' (q1.mono l1' (List.prefix_refl _)) fun y h2 G2 ι2 w H2 l2 p2 S2 r2 q2 => ?_
  obtain ⟨G2', S2', l2', o2⟩ := RepP.opd S2 r2
  have q3 := q2.mono l2' (List.prefix_refl _)
  have rx := ((o1.mono l2 p2).mono l2' (List.prefix_refl _)).at S2'
  have ry := o2.at S2'
  split at q3
  · rename_i i j e1 e2
    rw [e1] at rx
    rw [e2] at ry
    cases rx.int
    cases ry.int
    split at q3
    · rename_i hj
      exact ⟨i, j, rfl, rfl, rg_ok hj, q3.after.lst S2' rng_rep⟩
    · exact q3.elim
  · exact q3.elim
end
end Fx

set_option maxHeartbeats 4000000
namespace Fx
open PySem L2
open PyProof.Rows hiding St

/-! ### what is walked -/
def SameIf (kp : Bool) (env env' : En) (σ σ' : St) : Prop := kp = true ∨ (env' = env ∧ σ' = σ)
structure IterOk (K : PySem.W.Frag) (kp : Bool) (O G : Hp) (ι : List Addr) (env : En) (σ : St) (xs : List T) (J : L2.It) : Prop where
  go : ∀ (i : Nat) (t : T) O' G' ι' env' h σ' H, SameIf kp env env' σ σ' → Le G G' → ι <+: ι' → SRel K O' G' ι' env' h σ' H → xs[i]? = some t → J.go i H
  stop : ∀ O' G' ι' env' h σ' H, SameIf kp env env' σ σ' → Le G G' → ι <+: ι' → SRel K O' G' ι' env' h σ' H → J.stop xs.length H
  yld : ∀ (i : Nat) (t : T) O' G' ι' env' h σ' H v H', SameIf kp env env' σ σ' → Le G G' → ι <+: ι' → SRel K O' G' ι' env' h σ' H → xs[i]? = some t → J.yld i H v H' →
    ∃ G'', Le G' G'' ∧ SRel K O' G'' ι' env' h σ' H' ∧ Rep K G'' ι' t v ∧ (∀ a o, H a = some o → H' a = some o)
abbrev rI (K : PySem.W.Frag) (kp : Bool) : Hp → En → St → Hp → List Addr → Hp → List T → L2.It → Prop := fun O env σ G ι _ xs J => IterOk K kp O G ι env σ xs J
def RdI (X : Cx) (W : L2.WX) (kp : Bool) (f : En → Hs → Out (List T)) : TI := fun σ H R => RdG X W f (rI X.K kp) σ H R

/-- what may be walked: a list or tuple or text at hand, as long as it stays -/
def Stay (K : PySem.W.Frag) (kp : Bool) (G : Hp) (ι : List Addr) (env : En) (σ : St) (t : T) (v : V) : Prop :=
  if kp then Rep K G ι t v else Opd K G ι env σ t v
section
variable {K : PySem.W.Frag} {kp : Bool} {O G G' : Hp} {ι ι' : List Addr} {env env' : En} {h : Hs} {σ σ' : St} {H : Hp}
theorem Stay.at {t : T} {v : V} (s : Stay K kp G ι env σ t v) (e : SameIf kp env env' σ σ') (l : Le G G') (p : ι <+: ι') (S : SRel K O G' ι' env' h σ' H) : PRep K G' ι' H t v := by
  cases kp with
  | true => exact .rep (Rep.mono l p s)
  | false =>
    rcases e with e | ⟨rfl, rfl⟩
    · cases e
    · exact (Opd.mono l p s).at S
theorem RepP.stay {x : P} {t : T} {v : V} (S : SRel K O G ι env h σ H) (r : RepP K O G ι env σ H x v) (e : x.u kp = some t) : ∃ G', SRel K O G' ι env h σ H ∧ Le G G' ∧ Stay K kp G' ι env σ t v := by
  cases kp with
  | true => exact RepP.kept S r e
  | false =>
    cases e
    exact RepP.opd S r
theorem iter_lst {l : List T} {a : Addr} (s : Stay K kp G ι env σ (.lst l) (.ref a)) : IterOk K kp O G ι env σ l (Itl K a) where
  go := fun i t O' G' ι' env' h σ' H e le p S ht => by
    obtain ⟨b, vs, eb, h1, r1⟩ := (s.at e le p S).lst S.h.gs
    cases eb
    obtain ⟨v, hv, _⟩ := r1.get ht
    exact ⟨vs, v, SqL.of h1, hv⟩
  stop := fun O' G' ι' env' h σ' H e le p S => by
    obtain ⟨b, vs, eb, h1, r1⟩ := (s.at e le p S).lst S.h.gs
    cases eb
    exact ⟨vs, SqL.of h1, by rw [r1.length]; exact Nat.le_refl _⟩
  yld := fun i t O' G' ι' env' h σ' H v H' e le p S ht y => by
    obtain ⟨b, vs, eb, h1, r1⟩ := (s.at e le p S).lst S.h.gs
    cases eb
    obtain ⟨w, hw, rw'⟩ := r1.get ht
    obtain ⟨rfl, y2⟩ := y
    have := y2 vs (SqL.of h1)
    rw [hw] at this
    cases this
    exact ⟨G', Le.refl _, S, rw', fun _ _ z => z⟩
theorem iter_tup {l : List T} {a : Addr} (s : Stay K kp G ι env σ (.tup l) (.ref a)) : IterOk K kp O G ι env σ l (Itt K a) where
  go := fun i t O' G' ι' env' h σ' H e le p S ht => by
    obtain ⟨b, vs, eb, h1, r1⟩ := (s.at e le p S).tup S.h.gs
    cases eb
    obtain ⟨v, hv, _⟩ := r1.get ht
    exact ⟨vs, v, h1, hv⟩
  stop := fun O' G' ι' env' h σ' H e le p S => by
    obtain ⟨b, vs, eb, h1, r1⟩ := (s.at e le p S).tup S.h.gs
    cases eb
    exact ⟨vs, h1, by rw [r1.length]; exact Nat.le_refl _⟩
  yld := fun i t O' G' ι' env' h σ' H v H' e le p S ht y => by
    obtain ⟨b, vs, eb, h1, r1⟩ := (s.at e le p S).tup S.h.gs
    cases eb
    obtain ⟨w, hw, rw'⟩ := r1.get ht
    obtain ⟨rfl, y2⟩ := y
    have := y2 vs h1
    rw [hw] at this
    cases this
    exact ⟨G', Le.refl _, S, rw', fun _ _ z => z⟩
theorem signs_get {z : Str} {i : Nat} {t : T} (h : (signsT z)[i]? = some t) : ∃ c, z.cps[i]? = some c ∧ t = .str ⟨#[c]⟩ := by
  unfold signsT at h
  rw [List.getElem?_map] at h
  cases e : z.cps.toList[i]? with
  | none => rw [e] at h; cases h
  | some c => rw [e] at h; cases h; exact ⟨c, by simpa using e, rfl⟩
theorem iter_str {z : Str} : IterOk K kp O G ι env σ (signsT z) (Its z) where
  go := fun i t O' G' ι' env' h σ' H e le p S ht => by
    obtain ⟨c, hc, _⟩ := signs_get ht
    exact (Array.getElem?_eq_some_iff.mp hc).1
  stop := fun O' G' ι' env' h σ' H e le p S => by
    show z.cps.size ≤ (signsT z).length
    unfold signsT
    simp
  yld := fun i t O' G' ι' env' h σ' H v H' e le p S ht y => by
    obtain ⟨c, hc, rfl⟩ := signs_get ht
    obtain ⟨rfl, c', hc', rfl⟩ := y
    rw [hc] at hc'; cases hc'
    exact ⟨G', Le.refl _, S, .str, fun _ _ z => z⟩
theorem iter_rng {lo hi : Int} : IterOk K kp O G ι env σ (rangeT lo hi) (Itr lo (hi - lo).toNat) where
  go := fun i t O' G' ι' env' h σ' H e le p S ht => by
    have := (List.getElem?_eq_some_iff.mp ht).1
    show i < (hi - lo).toNat
    simpa [rangeT] using this
  stop := fun O' G' ι' env' h σ' H e le p S => by
    show (hi - lo).toNat ≤ (rangeT lo hi).length
    simp [rangeT]
  yld := fun i t O' G' ι' env' h σ' H v H' e le p S ht y => by
    obtain ⟨rfl, rfl⟩ := y
    unfold rangeT at ht
    rw [List.getElem?_map] at ht
    cases e1 : (List.range (hi - lo).toNat)[i]? with
    | none => rw [e1] at ht; cases ht
    | some k =>
      rw [e1] at ht; cases ht
      have hk : k = i := by
        obtain ⟨hl, e2⟩ := List.getElem?_eq_some_iff.mp e1
        simpa using e2.symm
      subst hk
      exact ⟨G', Le.refl _, S, .int, fun _ _ z => z⟩
/-- a new pair -/
theorem pair_laid {O' : Hp} {t u : T} {x y : V} {p : Addr} (S : SRel K O' G ι env h σ H) (r1 : Rep K G ι t x) (r2 : Rep K G ι u y) (hp : H p = none) :
    ∃ G'', Le G G'' ∧ SRel K O' G'' ι env h σ (upd H p (.tup [x, y])) ∧ Rep K G'' ι (.tup [t, u]) (.ref p) ∧ (∀ a o, H a = some o → upd H p (.tup [x, y]) a = some o) := by
  obtain ⟨S1, le⟩ := S.laid (o := .tup [x, y]) hp
  exact ⟨_, le, S1, .tup upd_same (.cons (r1.mono le (List.prefix_refl _)) (.cons (r2.mono le (List.prefix_refl _)) .nil)), fun a o z => by rw [upd_ne (ne_of_none z hp)]; exact z⟩
theorem zip_get {xs ys : List T} {i : Nat} {t : T} (h : (xs.zipWith (fun x y => T.tup [x, y]) ys)[i]? = some t) : ∃ x y, xs[i]? = some x ∧ ys[i]? = some y ∧ t = .tup [x, y] := by
  rw [List.getElem?_zipWith] at h
  cases e1 : xs[i]? with
  | none => simp [e1] at h
  | some x =>
    cases e2 : ys[i]? with
    | none => simp [e1, e2] at h
    | some y => simp [e1, e2] at h; exact ⟨x, y, rfl, rfl, h.symm⟩
theorem iter_zipL {xs ys : List T} {a b : Addr} (s1 : Stay K kp G ι env σ (.lst xs) (.ref a)) (s2 : Stay K kp G ι env σ (.lst ys) (.ref b)) : IterOk K kp O G ι env σ (xs.zipWith (fun x y => T.tup [x, y]) ys) (Itz K a b) where
  go := fun i t O' G' ι' env' h σ' H e le p S ht => by
    obtain ⟨a1, vs, ea, h1, r1⟩ := (s1.at e le p S).lst S.h.gs
    obtain ⟨b1, ws, eb, h2, r2⟩ := (s2.at e le p S).lst S.h.gs
    cases ea; cases eb
    obtain ⟨x, y, hx, hy, _⟩ := zip_get ht
    obtain ⟨v, hv, _⟩ := r1.get hx
    obtain ⟨w, hw, _⟩ := r2.get hy
    exact ⟨vs, ws, v, w, SqL.of h1, SqL.of h2, hv, hw⟩
  stop := fun O' G' ι' env' h σ' H e le p S => by
    obtain ⟨a1, vs, ea, h1, r1⟩ := (s1.at e le p S).lst S.h.gs
    obtain ⟨b1, ws, eb, h2, r2⟩ := (s2.at e le p S).lst S.h.gs
    cases ea; cases eb
    refine ⟨vs, ws, SqL.of h1, SqL.of h2, ?_⟩
    rw [List.length_zipWith, r1.length, r2.length]
    omega
  yld := fun i t O' G' ι' env' h σ' H v H' e le p S ht y => by
    obtain ⟨a1, vs, ea, h1, r1⟩ := (s1.at e le p S).lst S.h.gs
    obtain ⟨b1, ws, eb, h2, r2⟩ := (s2.at e le p S).lst S.h.gs
    cases ea; cases eb
    obtain ⟨tx, ty, hx, hy, rfl⟩ := zip_get ht
    obtain ⟨v1, hv, rv⟩ := r1.get hx
    obtain ⟨w1, hw, rw'⟩ := r2.get hy
    obtain ⟨q, x, z, rfl, hq, rfl, y1, y2⟩ := y
    have e1 := y1 vs (SqL.of h1)
    have e2 := y2 ws (SqL.of h2)
    rw [hv] at e1; cases e1
    rw [hw] at e2; cases e2
    exact pair_laid S rv rw' hq
theorem iter_zipT {xs ys : List T} {a b : Addr} (s1 : Stay K kp G ι env σ (.tup xs) (.ref a)) (s2 : Stay K kp G ι env σ (.tup ys) (.ref b)) : IterOk K kp O G ι env σ (xs.zipWith (fun x y => T.tup [x, y]) ys) (RZ.ItzT K a b) where
  go := fun i t O' G' ι' env' h σ' H e le p S ht => by
    obtain ⟨a1, vs, ea, h1, r1⟩ := (s1.at e le p S).tup S.h.gs
    obtain ⟨b1, ws, eb, h2, r2⟩ := (s2.at e le p S).tup S.h.gs
    cases ea; cases eb
    obtain ⟨x, y, hx, hy, _⟩ := zip_get ht
    obtain ⟨v, hv, _⟩ := r1.get hx
    obtain ⟨w, hw, _⟩ := r2.get hy
    exact ⟨vs, ws, v, w, h1, h2, hv, hw⟩
  stop := fun O' G' ι' env' h σ' H e le p S => by
    obtain ⟨a1, vs, ea, h1, r1⟩ := (s1.at e le p S).tup S.h.gs
    obtain ⟨b1, ws, eb, h2, r2⟩ := (s2.at e le p S).tup S.h.gs
    cases ea; cases eb
    refine ⟨vs, ws, h1, h2, ?_⟩
    rw [List.length_zipWith, r1.length, r2.length]
    omega
  yld := fun i t O' G' ι' env' h σ' H v H' e le p S ht y => by
    obtain ⟨a1, vs, ea, h1, r1⟩ := (s1.at e le p S).tup S.h.gs
    obtain ⟨b1, ws, eb, h2, r2⟩ := (s2.at e le p S).tup S.h.gs
    cases ea; cases eb
    obtain ⟨tx, ty, hx, hy, rfl⟩ := zip_get ht
    obtain ⟨v1, hv, rv⟩ := r1.get hx
    obtain ⟨w1, hw, rw'⟩ := r2.get hy
    obtain ⟨q, x, z, rfl, hq, rfl, y1, y2⟩ := y
    have e1 := y1 vs h1
    have e2 := y2 ws h2
    rw [hv] at e1; cases e1
    rw [hw] at e2; cases e2
    exact pair_laid S rv rw' hq
theorem enu_get {xs : List T} {i : Nat} {t : T} (h : (xs.zipIdx.map fun p => T.tup [.int (p.2 : Nat), p.1])[i]? = some t) : ∃ x, xs[i]? = some x ∧ t = .tup [.int (i : Nat), x] := by
  rw [List.getElem?_map, List.getElem?_zipIdx] at h
  cases e1 : xs[i]? with
  | none => simp [e1] at h
  | some x => simp [e1] at h; exact ⟨x, rfl, h.symm⟩
theorem iter_enuT {xs : List T} {a : Addr} (s1 : Stay K kp G ι env σ (.tup xs) (.ref a)) : IterOk K kp O G ι env σ (enuT xs) (IteT K a) where
  go := fun i t O' G' ι' env' h σ' H e le p S ht => by
    obtain ⟨a1, vs, ea, h1, r1⟩ := (s1.at e le p S).tup S.h.gs
    cases ea
    obtain ⟨x, hx, _⟩ := enu_get ht
    obtain ⟨v, hv, _⟩ := r1.get hx
    exact ⟨vs, v, h1, hv⟩
  stop := fun O' G' ι' env' h σ' H e le p S => by
    obtain ⟨a1, vs, ea, h1, r1⟩ := (s1.at e le p S).tup S.h.gs
    cases ea
    refine ⟨vs, h1, ?_⟩
    unfold enuT
    rw [List.length_map, List.length_zipIdx, r1.length]
  yld := fun i t O' G' ι' env' h σ' H v H' e le p S ht y => by
    obtain ⟨a1, vs, ea, h1, r1⟩ := (s1.at e le p S).tup S.h.gs
    cases ea
    obtain ⟨tx, hx, rfl⟩ := enu_get ht
    obtain ⟨v1, hv, rv⟩ := r1.get hx
    obtain ⟨q, x, rfl, hq, rfl, y1⟩ := y
    have e1 := y1 vs h1
    rw [hv] at e1; cases e1
    exact pair_laid S .int rv hq
theorem iter_enuS {z : Str} : IterOk K kp O G ι env σ (enuT (signsT z)) (IteS z) where
  go := fun i t O' G' ι' env' h σ' H e le p S ht => by
    obtain ⟨x, hx, _⟩ := enu_get ht
    obtain ⟨c, hc, _⟩ := signs_get hx
    exact (Array.getElem?_eq_some_iff.mp hc).1
  stop := fun O' G' ι' env' h σ' H e le p S => by
    show z.cps.size = (enuT (signsT z)).length
    unfold enuT signsT
    simp
  yld := fun i t O' G' ι' env' h σ' H v H' e le p S ht y => by
    obtain ⟨tx, hx, rfl⟩ := enu_get ht
    obtain ⟨c, hc, rfl⟩ := signs_get hx
    obtain ⟨q, c', rfl, hq, hc', rfl⟩ := y
    rw [hc] at hc'; cases hc'
    exact pair_laid S .int .str hq
theorem iter_enu {xs : List T} {a : Addr} (s1 : Stay K kp G ι env σ (.lst xs) (.ref a)) : IterOk K kp O G ι env σ (xs.zipIdx.map fun p => T.tup [.int (p.2 : Nat), p.1]) (Ite K a) where
  go := fun i t O' G' ι' env' h σ' H e le p S ht => by
    obtain ⟨a1, vs, ea, h1, r1⟩ := (s1.at e le p S).lst S.h.gs
    cases ea
    obtain ⟨x, hx, _⟩ := enu_get ht
    obtain ⟨v, hv, _⟩ := r1.get hx
    exact ⟨vs, v, SqL.of h1, hv⟩
  stop := fun O' G' ι' env' h σ' H e le p S => by
    obtain ⟨a1, vs, ea, h1, r1⟩ := (s1.at e le p S).lst S.h.gs
    cases ea
    refine ⟨vs, SqL.of h1, ?_⟩
    rw [List.length_map, List.length_zipIdx, r1.length]
    exact Nat.le_refl _
  yld := fun i t O' G' ι' env' h σ' H v H' e le p S ht y => by
    obtain ⟨a1, vs, ea, h1, r1⟩ := (s1.at e le p S).lst S.h.gs
    cases ea
    obtain ⟨tx, hx, rfl⟩ := enu_get ht
    obtain ⟨v1, hv, rv⟩ := r1.get hx
    obtain ⟨q, x, rfl, hq, rfl, y1⟩ := y
    have e1 := y1 vs (SqL.of h1)
    rw [hv] at e1; cases e1
    exact pair_laid S .int rv hq
end

section
variable {X : Cx} {W : L2.WX} {Γ : Cl} {g : Gx} {a b c : E} {ea eb ec tg : Expr} {pos : Pos} {kp : Bool}
theorem i_val (ha : PE X ea (RdE X W (ev Γ a))) : PI X tg ea (RdI X W kp (evI Γ kp (.val a))) := by
  refine Fx.PI.imp (Fx.PI.or (pi_list ha) (Fx.PI.or (pi_tup ha) (pi_str ha))) ?_
  rintro σ H R ⟨O, G, ι, env, h, S, q⟩
  rw [evI] at q
  cases e : ev Γ a env h with
  | stuck => rw [e] at q; exact q.elim
  | exc x h1 => rw [e] at q; exact .inl ⟨O, G, ι, env, h, S, by rw [e]; exact q⟩
  | ok x h1 =>
    rw [e] at q
    have q0 := q
    simp only [Out.bind_ok] at q
    obtain ⟨xs, e1, q2⟩ := q.of_some
    cases e2 : x.u kp with
    | none => rw [e2] at e1; cases e1
    | some t =>
      rw [e2] at e1
      have fin : ∀ (Φ : VK), (∀ G1 ι1 v H1, SRel X.K O G1 ι1 env h1 σ H1 → Stay X.K kp G1 ι1 env σ t v → OutG X W O G1 ι1 env σ (rI X.K kp O env σ) R (.ok xs h1) → Φ v H1) → RdE X W (ev Γ a) σ H Φ := fun Φ hΦ => by
        refine ⟨O, G, ι, env, h, S, ?_⟩
        rw [e]
        intro G1 ι1 v H1 l1 p1 S1 r1
        obtain ⟨G2, S2, l2, s2⟩ := RepP.stay S1 r1 e2
        have q3 : OutG X W O G1 ι1 env σ (rI X.K kp O env σ) R (.ok xs h1) := OutG.mono l1 p1 q2
        exact hΦ G2 ι1 v H1 S2 s2 (q3.mono l2 (List.prefix_refl _))
      cases t with
      | lst l =>
        cases e1
        refine .inl (fin _ fun G1 ι1 v H1 S1 s1 q3 => ?_)
        obtain ⟨p, vs, rfl, h1', r1⟩ := (s1.at (.inr ⟨rfl, rfl⟩) (Le.refl _) (List.prefix_refl _) S1).lst S1.h.gs
        exact ⟨p, rfl, ⟨vs, SqL.of h1'⟩, q3 G1 ι1 _ H1 (Le.refl _) (List.prefix_refl _) S1 (iter_lst s1)⟩
      | tup l =>
        cases e1
        refine .inr (.inl (fin _ fun G1 ι1 v H1 S1 s1 q3 => ?_))
        obtain ⟨p, vs, rfl, h1', r1⟩ := (s1.at (.inr ⟨rfl, rfl⟩) (Le.refl _) (List.prefix_refl _) S1).tup S1.h.gs
        exact ⟨p, rfl, ⟨vs, h1'⟩, q3 G1 ι1 _ H1 (Le.refl _) (List.prefix_refl _) S1 (iter_tup s1)⟩
      | str z =>
        cases e1
        refine .inr (.inr (fin _ fun G1 ι1 v H1 S1 s1 q3 => ?_))
        cases (s1.at (.inr ⟨rfl, rfl⟩) (Le.refl _) (List.prefix_refl _) S1).str
        exact ⟨z, rfl, q3 G1 ι1 _ H1 (Le.refl _) (List.prefix_refl _) S1 iter_str⟩
      | _ => cases e1
theorem small_ok {i : Int} (h : smallI i = true) : -(2 ^ 62) ≤ i ∧ i < 2 ^ 62 := of_decide_eq_true h
theorem i_rng1 (ok : XOk X W Γ g) {p : Pos} (hg : glB g.sc "range" = true) (hs : notStar ea = true) (ha : PE X ea (RdE X W (ev Γ a))) : PI X tg (.Call (.Name "range" p) [ea] [] pos) (RdI X W kp (evI Γ kp (.rng1 a))) := by
  refine Fx.PI.imp (pi_range1 (gl_of ok hg) (ok.bi _ (by decide +kernel)) (pa_cons ha pa_nil (star_ok hs)) (star_ok hs)) ?_
  rintro σ H R ⟨O, G, ι, env, h, S, q⟩
  rw [evI] at q
  refine rd_bind (R1 := rP X.K) S q fun x h1 G1 ι1 v H1 l1 p1 S1 r1 q1 => ?_
  obtain ⟨G1', S1', l1', o1⟩ := RepP.opd S1 r1
  have r := o1.at S1'
  split at q1
  · rename_i j e
    rw [e] at r
    cases r.int
    split at q1
    · rename_i hj
      obtain ⟨s1, s2⟩ := small_ok hj
      have := q1 G1 ι1 (Itr 0 (j - 0).toNat) H1 (Le.refl _) (List.prefix_refl _) S1 iter_rng
      rw [Int.sub_zero] at this
      exact ⟨j, rfl, s1, s2, this⟩
    · exact q1.elim
  · exact q1.elim
theorem i_rng2 (ok : XOk X W Γ g) {p : Pos} (hg : glB g.sc "range" = true) (hs : notStar ea = true) (hs2 : notStar eb = true) (ha : PE X ea (RdE X W (ev Γ a))) (hb : PE X eb (RdE X W (ev Γ b))) : PI X tg (.Call (.Name "range" p) [ea, eb] [] pos) (RdI X W kp (evI Γ kp (.rng2 a b))) := by
  refine Fx.PI.imp (pi_range2 (gl_of ok hg) (ok.bi _ (by decide +kernel)) (pa_cons ha (pa_cons hb pa_nil (star_ok hs2)) (star_ok hs)) (by rw [star_ok hs, star_ok hs2]; rfl) (star_ok hs2)) ?_
  rintro σ H R ⟨O, G, ι, env, h, S, q⟩
  rw [evI] at q
  refine rd_bind (R1 := rP X.K) S q fun x h1 G1 ι1 v H1 l1 p1 S1 r1 q1 => ?_
  obtain ⟨G1', S1', l1', o1⟩ := RepP.opd S1 r1
  refine rd_bind (R1 := rP X.K) S1' (q1.mono l1' (List.prefix_refl _)) fun y h2 G2 ι2 w H2 l2 p2 S2 r2 q2 => ?_
  obtain ⟨G2', S2', l2', o2⟩ := RepP.opd S2 r2
  have rx := ((o1.mono l2 p2).mono l2' (List.prefix_refl _)).at S2'
  have ry := o2.at S2'
  split at q2
  · rename_i i j e1 e2
    rw [e1] at rx
    rw [e2] at ry
    cases rx.int
    cases ry.int
    split at q2
    · rename_i hj
      simp only [Bool.and_eq_true] at hj
      obtain ⟨s1, s2⟩ := small_ok hj.1
      obtain ⟨s3, s4⟩ := small_ok hj.2
      exact ⟨i, j, rfl, ⟨s1, s2, s3, s4⟩, q2 G2 ι2 (Itr i (j - i).toNat) H2 (Le.refl _) (List.prefix_refl _) S2 iter_rng⟩
    · exact q2.elim
  · exact q2.elim
theorem Stay.mono {G G' : Hp} {ι ι' : List Addr} {env : En} {σ : St} {t : T} {v : V} {K : PySem.W.Frag} (l : Le G G') (p : ι <+: ι') (s : Stay K kp G ι env σ t v) : Stay K kp G' ι' env σ t v := by
  cases kp with
  | true => exact Rep.mono l p s
  | false => exact Opd.mono l p s
theorem i_zip (ok : XOk X W Γ g) {p tpos : Pos} {elts : List Expr} {kk : Nat} (hg : glB g.sc "zip" = true) (hs : notStar ea = true) (hs2 : notStar eb = true) (ha : PE X ea (RdE X W (ev Γ a))) (hb : PE X eb (RdE X W (ev Γ b))) :
    PI X (.Tuple elts kk tpos) (.Call (.Name "zip" p) [ea, eb] [] pos) (RdI X W kp (evI Γ kp (.zip a b))) := by
  refine Fx.PI.imp (RZ.pi_zipA (gl_of ok hg) (ok.bi _ (by decide +kernel)) (pa_cons ha (pa_cons hb pa_nil (star_ok hs2)) (star_ok hs)) (star_ok hs) (plain_ok (by simp [hs2]))) ?_
  rintro σ H R ⟨O, G, ι, env, h, S, q⟩
  rw [evI] at q
  refine rd_bind (R1 := rP X.K) S q fun x h1 G1 ι1 v H1 l1 p1 S1 r1 q1 => ?_
  cases ex : x.u kp with
  | none => rw [ex] at q1; exact q1.elim
  | some tx =>
  obtain ⟨G1', S1', l1', o1⟩ := RepP.stay S1 r1 ex
  rw [ex] at q1
  refine rd_bind (R1 := rP X.K) S1' (q1.mono l1' (List.prefix_refl _)) fun y h2 G2 ι2 w H2 l2 p2 S2 r2 q2 => ?_
  cases ey : y.u kp with
  | none => rw [ey] at q2; cases tx <;> exact q2.elim
  | some ty =>
  obtain ⟨G2', S2', l2', o2⟩ := RepP.stay S2 r2 ey
  have o1' := (o1.mono l2 p2).mono l2' (List.prefix_refl _)
  rw [ey] at q2
  have q3 := q2.mono l2' (List.prefix_refl _)
  cases tx with
  | lst xs =>
    cases ty with
    | lst ys =>
      obtain ⟨p1, vs, rfl, h1', r1⟩ := (o1'.at (.inr ⟨rfl, rfl⟩) (Le.refl _) (List.prefix_refl _) S2').lst S2'.h.gs
      obtain ⟨p2, ws, rfl, h2', r2⟩ := (o2.at (.inr ⟨rfl, rfl⟩) (Le.refl _) (List.prefix_refl _) S2').lst S2'.h.gs
      exact ⟨p1, p2, vs, ws, rfl, .inl ⟨SqL.of h1', SqL.of h2', q3 G2' ι2 _ H2 (Le.refl _) (List.prefix_refl _) S2' (iter_zipL o1' o2)⟩⟩
    | _ => exact q3.elim
  | tup xs =>
    cases ty with
    | tup ys =>
      obtain ⟨p1, vs, rfl, h1', r1⟩ := (o1'.at (.inr ⟨rfl, rfl⟩) (Le.refl _) (List.prefix_refl _) S2').tup S2'.h.gs
      obtain ⟨p2, ws, rfl, h2', r2⟩ := (o2.at (.inr ⟨rfl, rfl⟩) (Le.refl _) (List.prefix_refl _) S2').tup S2'.h.gs
      exact ⟨p1, p2, vs, ws, rfl, .inr ⟨h1', h2', q3 G2' ι2 _ H2 (Le.refl _) (List.prefix_refl _) S2' (iter_zipT o1' o2)⟩⟩
    | _ => exact q3.elim
  | _ => exact q3.elim
theorem i_enu (ok : XOk X W Γ g) {p tpos : Pos} {elts : List Expr} {kk : Nat} (hg : glB g.sc "enumerate" = true) (hs : notStar ea = true) (ha : PE X ea (RdE X W (ev Γ a))) :
    PI X (.Tuple elts kk tpos) (.Call (.Name "enumerate" p) [ea] [] pos) (RdI X W kp (evI Γ kp (.enu a))) := by
  refine Fx.PI.imp (Fx.PI.or (pi_enum (gl_of ok hg) (ok.bi _ (by decide +kernel)) (pa_cons ha pa_nil (star_ok hs)) (star_ok hs)) (Fx.PI.or (pi_enumT (gl_of ok hg) (ok.bi _ (by decide +kernel)) (pa_cons ha pa_nil (star_ok hs)) (star_ok hs)) (pi_enumS (gl_of ok hg) (ok.bi _ (by decide +kernel)) (pa_cons ha pa_nil (star_ok hs)) (star_ok hs)))) ?_
  rintro σ H R ⟨O, G, ι, env, h, S, q⟩
  rw [evI] at q
  cases e : ev Γ a env h with
  | stuck => rw [e] at q; exact q.elim
  | exc x h1 => rw [e] at q; exact .inl ⟨O, G, ι, env, h, S, by rw [e]; exact q⟩
  | ok x h1 =>
    rw [e] at q
    simp only [Out.bind_ok] at q
    obtain ⟨xs, e1, q2⟩ := q.of_some
    cases e2 : x.u kp with
    | none => rw [e2] at e1; cases e1
    | some t =>
      rw [e2] at e1
      have fin : ∀ (Φ : VK), (∀ G1 ι1 v H1, SRel X.K O G1 ι1 env h1 σ H1 → Stay X.K kp G1 ι1 env σ t v → OutG X W O G1 ι1 env σ (rI X.K kp O env σ) R (.ok xs h1) → Φ v H1) → RdE X W (ev Γ a) σ H Φ := fun Φ hΦ => by
        refine ⟨O, G, ι, env, h, S, ?_⟩
        rw [e]
        intro G1 ι1 v H1 l1 p1 S1 r1
        obtain ⟨G2, S2, l2, s2⟩ := RepP.stay S1 r1 e2
        have q3 : OutG X W O G1 ι1 env σ (rI X.K kp O env σ) R (.ok xs h1) := OutG.mono l1 p1 q2
        exact hΦ G2 ι1 v H1 S2 s2 (q3.mono l2 (List.prefix_refl _))
      cases t with
      | lst l =>
        cases e1
        refine .inl (fin _ fun G1 ι1 v H1 S1 s1 q3 => ?_)
        obtain ⟨p, vs, rfl, h1', r1⟩ := (s1.at (.inr ⟨rfl, rfl⟩) (Le.refl _) (List.prefix_refl _) S1).lst S1.h.gs
        exact ⟨p, vs, rfl, SqL.of h1', q3 G1 ι1 _ H1 (Le.refl _) (List.prefix_refl _) S1 (iter_enu s1)⟩
      | tup l =>
        cases e1
        refine .inr (.inl (fin _ fun G1 ι1 v H1 S1 s1 q3 => ?_))
        obtain ⟨p, vs, rfl, h1', r1⟩ := (s1.at (.inr ⟨rfl, rfl⟩) (Le.refl _) (List.prefix_refl _) S1).tup S1.h.gs
        exact ⟨p, vs, rfl, h1', q3 G1 ι1 _ H1 (Le.refl _) (List.prefix_refl _) S1 (iter_enuT s1)⟩
      | str z =>
        cases e1
        refine .inr (.inr (fin _ fun G1 ι1 v H1 S1 s1 q3 => ?_))
        cases (s1.at (.inr ⟨rfl, rfl⟩) (Le.refl _) (List.prefix_refl _) S1).str
        exact ⟨z, rfl, q3 G1 ι1 _ H1 (Le.refl _) (List.prefix_refl _) S1 iter_enuS⟩
      | _ => cases e1
end
end Fx

set_option maxHeartbeats 4000000
namespace Fx
open PySem L2
open PyProof.Rows hiding St

/-! ### slots -/
section
variable {K : PySem.W.Frag} {O O2 G G' : Hp} {ι ι' : List Addr} {env env' : En} {h : Hs} {σ σ' : St} {H : Hp}
/-- a name gets a tree -/
theorem SRel.set {i : Nat} {t : T} {v : V} (S : SRel K O G ι env h σ H) (r : Rep K G ι t v) : SRel K O G ι (env.set i (.val t)) h (σ.set i (some v)) H where
  h := S.h
  len := by rw [List.length_set, List.length_set]; exact S.len
  slot := fun j s x h1 h2 => by
    by_cases e : i = j
    · subst e
      have hl : i < env.length := by
        have := (List.getElem?_eq_some_iff.mp h1).1
        simpa using this
      have hl2 : i < σ.length := by rw [← S.len]; exact hl
      rw [List.getElem?_set_self hl] at h1
      rw [List.getElem?_set_self hl2] at h2
      cases h1; cases h2
      exact ⟨v, rfl, r⟩
    · rw [List.getElem?_set_ne e] at h1 h2
      exact S.slot j s x h1 h2
  nd := fun j k a c d ne h1 h2 h3 h4 => by
    have hj : i ≠ j := fun e => by
      subst e
      have hl : i < env.length := by
        have := (List.getElem?_eq_some_iff.mp h1).1
        simpa using this
      rw [List.getElem?_set_self hl] at h1; cases h1
    have hk : i ≠ k := fun e => by
      subst e
      have hl : i < env.length := by
        have := (List.getElem?_eq_some_iff.mp h2).1
        simpa using this
      rw [List.getElem?_set_self hl] at h2; cases h2
    rw [List.getElem?_set_ne hj] at h1 h3
    rw [List.getElem?_set_ne hk] at h2 h4
    exact S.nd j k a c d ne h1 h2 h3 h4
/-- a name is forgotten -/
theorem SRel.drop {i : Nat} {x : Option V} (S : SRel K O G ι env h σ H) : SRel K O G ι (env.set i .no) h (σ.set i x) H where
  h := S.h
  len := by rw [List.length_set, List.length_set]; exact S.len
  slot := fun j s y h1 h2 => by
    by_cases e : i = j
    · subst e
      have hl : i < env.length := by
        have := (List.getElem?_eq_some_iff.mp h1).1
        simpa using this
      rw [List.getElem?_set_self hl] at h1
      cases h1
      trivial
    · rw [List.getElem?_set_ne e] at h1 h2
      exact S.slot j s y h1 h2
  nd := fun j k a c d ne h1 h2 h3 h4 => by
    have hj : i ≠ j := fun e => by
      subst e
      have hl : i < env.length := by
        have := (List.getElem?_eq_some_iff.mp h1).1
        simpa using this
      rw [List.getElem?_set_self hl] at h1; cases h1
    have hk : i ≠ k := fun e => by
      subst e
      have hl : i < env.length := by
        have := (List.getElem?_eq_some_iff.mp h2).1
        simpa using this
      rw [List.getElem?_set_self hl] at h2; cases h2
    rw [List.getElem?_set_ne hj] at h1 h3
    rw [List.getElem?_set_ne hk] at h2 h4
    exact S.nd j k a c d ne h1 h2 h3 h4
theorem SRel.wipe (S : SRel K O G ι env h σ H) : ∀ vs : List Nat, SRel K O G ι (wipeE env vs) h (L2.wipe σ vs) H
  | [] => S
  | v :: vs => by
    unfold wipeE L2.wipe
    exact (SRel.wipe S vs).drop
theorem wipeE_out {i : Nat} : ∀ {vs : List Nat}, i ∉ vs → (wipeE env vs)[i]? = env[i]?
  | [], _ => rfl
  | v :: vs, h => by
    simp only [List.mem_cons, not_or] at h
    unfold wipeE
    rw [List.getElem?_set_ne (fun e => h.1 e.symm)]
    exact wipeE_out h.2
/-- others' things are fewer -/
theorem SRel.less (l : Le O O2) (S : SRel K O2 G ι env h σ H) : SRel K O G ι env h σ H where
  h := ⟨S.h.gs, fun b o e => S.h.os b o (l b o e), fun b o e => S.h.dj b o (l b o e), S.h.len, S.h.cell, S.h.nd, fun b hb => ⟨(S.h.fr b hb).1, by
    cases e : O b with
    | none => rfl
    | some o => have := l b o e; rw [(S.h.fr b hb).2] at this; cases this⟩⟩
  len := S.len
  slot := fun i s x h1 h2 => by
    have q := S.slot i s x h1 h2
    cases s with
    | no => trivial
    | val t => exact q
    | own c =>
      obtain ⟨a, e, r, g, o, n⟩ := q
      refine ⟨a, e, r, g, ?_, n⟩
      cases e : O a with
      | none => rfl
      | some u => have := l a u e; rw [o] at this; cases this
  nd := S.nd
/-- a fresh thing is held by others -/
theorem SRel.more {D : Addr} {o : HO} (S : SRel K O G ι env h σ H) (f : Fresh O G ι env σ D) (e : H D = some o) : SRel K (upd O D o) G ι env h σ H where
  h := ⟨S.h.gs, fun b u z => by
      by_cases q : b = D
      · subst q; rw [upd_same] at z; cases z; exact e
      · rw [upd_ne q] at z; exact S.h.os b u z, fun b u z => by
      by_cases q : b = D
      · subst q; exact f.1
      · rw [upd_ne q] at z; exact S.h.dj b u z, S.h.len, S.h.cell, S.h.nd, fun b hb => ⟨(S.h.fr b hb).1, by
      rw [upd_ne (fun q => by subst q; exact f.2.2.1 hb)]; exact (S.h.fr b hb).2⟩⟩
  len := S.len
  slot := fun i s x h1 h2 => by
    have q := S.slot i s x h1 h2
    cases s with
    | no => trivial
    | val t => exact q
    | own c =>
      obtain ⟨a, e', r, g, o, n⟩ := q
      refine ⟨a, e', r, g, ?_, n⟩
      rw [upd_ne (fun q => by subst q; subst e'; exact f.2.2.2 i c h1 h2)]; exact o
  nd := S.nd
theorem fresh_of_more {D : Addr} {o : HO} (hO : O D = none) (S : SRel K (upd O D o) G ι env h σ H) : Fresh O G ι env σ D := by
  refine ⟨S.h.dj D o upd_same, hO, fun hb => ?_, fun i c h1 h2 => ?_⟩
  · have := (S.h.fr D hb).2
    rw [upd_same] at this; cases this
  · obtain ⟨a, e, _, _, q, _⟩ := S.slot i _ _ h1 h2
    cases e
    rw [upd_same] at q; cases q
theorem le_upd {D : Addr} {o : HO} (hO : O D = none) : Le O (upd O D o) := fun b u z => by rw [upd_ne (fun q => by subst q; rw [hO] at z; cases z)]; exact z
/-- a write elsewhere -/
theorem SRel.other {D : Addr} {o : HO} (S : SRel K O G ι env h σ H) (f : Fresh O G ι env σ D) : SRel K O G ι env h σ (upd H D o) where
  h := ⟨fun b u z => by rw [upd_ne (fun q => by subst q; rw [f.1] at z; cases z)]; exact S.h.gs b u z,
    fun b u z => by rw [upd_ne (fun q => by subst q; rw [f.2.1] at z; cases z)]; exact S.h.os b u z, S.h.dj, S.h.len,
    fun n c a h1 h2 => (S.h.cell n c a h1 h2).mono (Le.refl _) (List.prefix_refl _) fun u z => by rw [upd_ne (fun q => by subst q; exact f.2.2.1 (List.mem_of_getElem? h2))]; exact z, S.h.nd, S.h.fr⟩
  len := S.len
  slot := fun i s x h1 h2 => by
    have q := S.slot i s x h1 h2
    cases s with
    | no => trivial
    | val t => exact q
    | own c =>
      obtain ⟨a, e, r, g, o, n⟩ := q
      exact ⟨a, e, r.mono (Le.refl _) (List.prefix_refl _) fun u z => by rw [upd_ne (fun q => by subst q; subst e; exact f.2.2.2 i c h1 h2)]; exact z, g, o, n⟩
  nd := S.nd
/-- behind a block: the names as ahead -/
theorem SRel.back {O0 G0 : Hp} {ι0 : List Addr} {h0 : Hs} {H0 : Hp} {own : List Nat} (S0 : SRel K O0 G0 ι0 env h0 σ H0) (S2 : SRel K O G ι env' h σ' H) (l : Le G0 G) (p : ι0 <+: ι) (he : ∀ i, i ∉ own → env'[i]? = env[i]? ∧ σ'[i]? = σ[i]?) (hf : freeE env own = true) :
    SRel K O G ι env h σ H where
  h := S2.h
  len := S0.len
  slot := fun i s x h1 h2 => by
    by_cases hi : i ∈ own
    · have q := S0.slot i s x h1 h2
      cases s with
      | no => trivial
      | val t => obtain ⟨v, e, r⟩ := q; exact ⟨v, e, r.mono l p⟩
      | own c =>
        exfalso
        have := List.all_eq_true.mp hf i hi
        rw [h1] at this
        cases this
    · obtain ⟨e1, e2⟩ := he i hi
      exact S2.slot i s x (by rw [e1]; exact h1) (by rw [e2]; exact h2)
  nd := fun i j a c d ne h1 h2 h3 h4 => by
    have nin : ∀ (k : Nat) (c : Cell), env[k]? = some (.own c) → k ∉ own := fun k c hk hm => by
      have := List.all_eq_true.mp hf k hm
      rw [hk] at this
      cases this
    obtain ⟨e1, e2⟩ := he i (nin i c h1)
    obtain ⟨e3, e4⟩ := he j (nin j d h2)
    exact S2.nd i j a c d ne (by rw [e1]; exact h1) (by rw [e3]; exact h2) (by rw [e2]; exact h3) (by rw [e4]; exact h4)
end

/-! ### targets -/
def gLst : List Nat → TGs
  | [] => gNil
  | i :: r => gCons (gName i) (gLst r)
def gTg (K : PySem.W.Frag) : Tg → TG
  | .nm i => gName i
  | .tp l => gTup K l.length (gLst l)
/-- the slots of l are set -/
inductive Sets : List Nat → St → St → Prop where
  | nil {l σ} : Sets l σ σ
  | cons {l i v σ σ'} : i ∈ l → Sets l (σ.set i v) σ' → Sets l σ σ'
theorem Sets.mono {l m : List Nat} {σ σ' : St} (h : ∀ i ∈ l, i ∈ m) (s : Sets l σ σ') : Sets m σ σ' := by
  induction s with
  | nil => exact .nil
  | cons hi _ ih => exact .cons (h _ hi) ih
theorem wipe_set {i : Nat} {x : Option V} {σ : St} : ∀ {vs : List Nat}, i ∈ vs → L2.wipe (σ.set i x) vs = L2.wipe σ vs := by
  have key : ∀ (vs : List Nat) (σ : St), L2.wipe (σ.set i x) vs = if i ∈ vs then L2.wipe σ vs else (L2.wipe σ vs).set i x := by
    intro vs
    induction vs with
    | nil => intro σ; simp [L2.wipe]
    | cons v vs ih =>
      intro σ
      unfold L2.wipe
      rw [ih σ]
      by_cases e : i ∈ vs
      · rw [if_pos e, if_pos (List.mem_cons_of_mem _ e)]
      · rw [if_neg e]
        by_cases ev : i = v
        · subst ev
          rw [if_pos List.mem_cons_self, List.set_set]
        · rw [if_neg (by simp [ev, e]), List.set_comm _ _ ev]
  intro vs hi
  rw [key vs σ, if_pos hi]
theorem Sets.wipe {l : List Nat} {σ σ' : St} (s : Sets l σ σ') : L2.wipe σ' l = L2.wipe σ l := by
  induction s with
  | nil => rfl
  | cons hi _ ih => rw [ih, wipe_set hi]
theorem putEs_slots {ts : List T} : ∀ {l : List Nat} {env env' : En}, putEs env l ts = some env' → ∀ i, i ∉ l → env'[i]? = env[i]? := by
  induction ts with
  | nil =>
    intro l env env' h i _
    cases l with
    | nil => simp only [putEs] at h; cases h; rfl
    | cons a l => simp [putEs] at h
  | cons t ts ih =>
    intro l env env' h i hi
    cases l with
    | nil => simp [putEs] at h
    | cons a l =>
      simp only [putEs] at h
      simp only [List.mem_cons, not_or] at hi
      rw [ih h i hi.2, List.getElem?_set_ne (fun e => hi.1 e.symm)]
theorem putTg_slots {tg : Tg} {env env' : En} {t : T} (h : putTg tg env t = some env') (i : Nat) (hi : i ∉ tgSlots tg) : env'[i]? = env[i]? := by
  cases tg with
  | nm j =>
    simp only [putTg, Option.some.injEq] at h
    subst h
    simp only [tgSlots, List.mem_singleton] at hi
    rw [List.getElem?_set_ne (fun e => hi e.symm)]
  | tp l =>
    cases t <;> simp only [putTg] at h <;> first | exact putEs_slots h i hi | cases h
section
variable {K : PySem.W.Frag} {O G : Hp} {ι : List Addr} {h : Hs} {H : Hp}
theorem gLst_ok {ts : List T} {vs : List V} (r : RepL K G ι ts vs) : ∀ {l : List Nat} {env env' : En} {σ : St} {Φ : St → Hp → Prop}, SRel K O G ι env h σ H → putEs env l ts = some env' →
    (∀ σ2, SRel K O G ι env' h σ2 H → Sets l σ σ2 → Φ σ2 H) → gLst l vs σ H Φ := by
  induction vs generalizing ts with
  | nil =>
    intro l env env' σ Φ S e f
    cases r
    cases l with
    | nil => simp only [putEs] at e; cases e; exact ⟨rfl, f σ S .nil⟩
    | cons a l => simp [putEs] at e
  | cons v vs ih =>
    intro l env env' σ Φ S e f
    cases r with
    | cons r1 r2 =>
      cases l with
      | nil => simp [putEs] at e
      | cons i l =>
        simp only [putEs] at e
        exact ⟨v, vs, rfl, ih r2 (S.set r1) e fun σ2 S2 s2 => f σ2 S2 (.cons List.mem_cons_self (s2.mono fun j hj => List.mem_cons_of_mem _ hj))⟩
theorem gTg_ok {tg : Tg} {env env' : En} {σ : St} {t : T} {v : V} {Φ : St → Hp → Prop} (S : SRel K O G ι env h σ H) (r : Rep K G ι t v) (e : putTg tg env t = some env') (f : ∀ σ2, SRel K O G ι env' h σ2 H → Sets (tgSlots tg) σ σ2 → Φ σ2 H) :
    gTg K tg v σ H Φ := by
  cases tg with
  | nm i =>
    simp only [putTg, Option.some.injEq] at e
    subst e
    exact f _ (S.set r) (.cons List.mem_cons_self .nil)
  | tp l =>
    cases t with
    | tup ts =>
      cases r with
      | tup h1 r1 =>
        have hl : ts.length = l.length := by
          have key : ∀ (ts : List T) (l : List Nat) (env env' : En), putEs env l ts = some env' → ts.length = l.length := by
            intro ts
            induction ts with
            | nil => intro l env env' z; cases l <;> simp [putEs] at z ⊢
            | cons a ts ih => intro l env env' z; cases l with
              | nil => simp [putEs] at z
              | cons b l => simp only [putEs] at z; simp [ih l _ _ z]
          exact key ts l _ _ e
        exact ⟨_, _, rfl, .inl (.inl (S.h.gs _ _ h1)), by rw [← r1.length]; exact hl, gLst_ok r1 S e f⟩
    | _ => simp [putTg] at e
end
def locB (g : Gx) (x : Str) : Bool := match g.sc.names.lookup x with
  | some .local => true
  | some .cell => g.fn x
  | _ => false
/-- a target of the text -/
def ckN (g : Gx) (i : Nat) : Expr → Bool
  | .Name x _ => decide (g.N[i]? = some x) && locB g x
  | _ => false
def ckNs (g : Gx) : List Nat → List Expr → Bool
  | [], [] => true
  | i :: l, e :: es => ckN g i e && ckNs g l es
  | _, _ => false
def ckTg (g : Gx) : Tg → Expr → Bool
  | .nm i, e => ckN g i e
  | .tp l, .Tuple es _ _ => ckNs g l es
  | _, _ => false
section
variable {X : Cx} {W : L2.WX} {Γ : Cl} {g : Gx}
theorem g_name (ok : XOk X W Γ g) {i : Nat} {e : Expr} (h : ckN g i e = true) : PG X e (gName i) := by
  cases e with
  | Name x p =>
    simp only [ckN, Bool.and_eq_true, decide_eq_true_eq] at h
    obtain ⟨h1, h2⟩ := h
    unfold locB at h2
    split at h2
    · rename_i e
      exact pg_name (by rw [ok.hN]; exact ok.nd) (by rw [ok.hN]; exact h1) (.inl (by rw [ok.sc]; exact e)) (.inr (by rw [ok.sc]; exact e))
    · rename_i e
      exact pg_name (by rw [ok.hN]; exact ok.nd) (by rw [ok.hN]; exact h1) (.inr (by rw [ok.sc]; exact e)) (.inl (by rw [ok.fn]; exact h2))
    · cases h2
  | _ => cases h
theorem each_cons (ok : XOk X W Γ g) {i : Nat} {e : Expr} {es : List Expr} (h : ckN g i e = true) : assignEach (e :: es) X.env = (false, assign e X.env) :: assignEach es X.env := by
  cases e <;> first | rfl | cases h
theorem g_names (ok : XOk X W Γ g) : ∀ {l : List Nat} {es : List Expr}, ckNs g l es = true → PGs X es (gLst l) ∧ (assignEach es X.env).length = l.length ∧ (assignEach es X.env).findIdx? (·.1) = none
  | [], [], _ => ⟨pgs_nil, rfl, rfl⟩
  | [], _ :: _, h => by simp [ckNs] at h
  | _ :: _, [], h => by simp [ckNs] at h
  | i :: l, e :: es, h => by
    simp only [ckNs, Bool.and_eq_true] at h
    obtain ⟨a, b, c⟩ := g_names ok h.2
    have ec := each_cons (X := X) (es := es) ok h.1
    refine ⟨pgs_cons (g_name ok h.1) a (by rw [ec]; rfl), by rw [ec]; simp [b], ?_⟩
    rw [ec, List.findIdx?_cons]
    simp [c]
theorem g_tg (ok : XOk X W Γ g) {tg : Tg} {e : Expr} (h : ckTg g tg e = true) : PG X e (gTg X.K tg) := by
  cases tg with
  | nm i => exact g_name ok (by cases e <;> simpa [ckTg] using h)
  | tp l =>
    cases e with
    | Tuple es k p =>
      have h' : ckNs g l es = true := by simpa [ckTg] using h
      obtain ⟨a, b, c⟩ := g_names ok h'
      exact pg_tup ok.calm a b c
    | _ => simp [ckTg] at h
end
end Fx

set_option maxHeartbeats 4000000
namespace Fx
open PySem L2
open PyProof.Rows hiding St

/-! ### comprehensions -/
def noW : L2.WX := fun _ _ _ _ => False
def blkG (g : Gx) (scope : Scope) : Gx := { g with sc := relS scope g.sc, fn := fun x => scope.names.lookup x == some .cell, top := false }
theorem takes_no {X : Cx} (h : X.xe = fun _ _ => False) : L2N.Takes X noW := fun u s' x => by
  obtain ⟨_, _, _, _, _, _, _, _, _, _, _, _, _, _, _, _, z⟩ := x
  exact z.elim
theorem XOk.blk {X : Cx} {W : L2.WX} {Γ : Cl} {g : Gx} (ok : XOk X W Γ g) {scope : Scope} (s : Shared) (H : Hp) (C : Addr) (cl : List (Str × Addr)) (fp : List Addr) : XOk (X.blk s H scope (compEnvC scope cl C X.env) fp) noW Γ (blkG g scope) where
  hN := ok.hN
  nd := ok.nd
  sc := by
    show _ = relS scope g.sc
    rw [← ok.sc]
    rfl
  calm := ok.calm
  un := ok.un
  own := PassesOwn.never
  tk := takes_no rfl
  bi := ok.bi
  glo := ok.glo
  call := fun f hf => by
    obtain ⟨fa, fd, k, ps, h1, h2, h3, h4, h5, h6⟩ := (ok.call f hf).ok
    exact ⟨fa, fd, k, ps, h1, h2, h3, h4, h5, h6⟩
  fn := rfl
  tbe := ok.tbe
  tb := ok.tb
  rs := ok.rs
  ini := fun c f h => by
    obtain ⟨C, fI, fd, ps, h1, h2, h3, h4, h5, h6⟩ := (ok.ini c f h).ok
    exact ⟨C, fI, fd, ps, h1, h2, h3, h4, h5, h6⟩
  hots := fun f hf => by
    obtain ⟨fa, fd, n, h1, h2, h3, h4⟩ := (ok.hots f hf).ok
    exact ⟨fa, fd, n, h1, h2, h3, h4⟩
  rm := ok.rm
  top := fun z => by cases z
theorem noX_ok {α : Type} {o : Out α} {β : Type} {k : α → Hs → Out β} {r : Out β} (h : (noX o).bind k = r) (hr : r ≠ .stuck) : ∃ a h1, o = .ok a h1 ∧ k a h1 = r := by
  cases o with
  | ok a h1 => exact ⟨a, h1, rfl, h⟩
  | exc e h1 => exact absurd h.symm hr
  | stuck => exact absurd h.symm hr
/-- one turn of a comprehension -/
def turnF (Γ : Cl) (own : List Nat) (tg : Tg) (c : OE) (e : E) (env : En) (x : T) (h2 : Hs) : Out (Option T) := match putTg tg (wipeE env own) x with
  | none => .stuck
  | some env2 => (evC Γ c env2 h2).bind fun b h3 => if b then (ev Γ e env2 h3).bind fun r h4 => .of (r.k.map some) h4 else .ok none h3
theorem ev_lc {Γ : Cl} {own : List Nat} {tg : Tg} {it : It} {c : OE} {e : E} {env : En} {h : Hs} : ev Γ (.lc own tg it c e) env h = (evI Γ false it env h).bind fun xs h1 =>
    if xs.length ≤ sizeLine ∧ freeE env own = true then (noX (lcL (turnF Γ own tg c e env) xs h1)).bind fun ys h5 => .ok (.new (.lst ys)) h5 else .stuck := by
  rw [ev]; rfl

section
variable {X : Cx} {W : L2.WX} {Γ : Cl} {g : Gx} {c : OE} {e : E} {ee tg it : Expr} {pos : Pos} {ifs : List Expr} {scope : Scope}
def RdC (X : Cx) (W : L2.WX) (Γ : Cl) (c : OE) : TT := RdB X W (evC Γ c)
theorem c_no : PTs X [] (RdC X W Γ .no) := by
  refine ⟨fun pins s σ H Q I ⟨O, G, ι, env, h, S, q⟩ => ?_⟩
  rw [evC] at q
  exact pts_nil.run pins s σ H Q I (q G ι _ H (Le.refl _) (List.prefix_refl _) S rfl)
theorem c_so {a : E} {ea : Expr} (h : PT X ea (RdB X W (evB Γ a))) : PTs X [ea] (RdC X W Γ (.so a)) := by
  have e : evC Γ (.so a) = evB Γ a := by
    funext env h
    rw [evC]; rfl
  unfold RdC
  rw [e]
  exact pts_one h

/-- what holds between two turns: D the new list's place -/
structure LcInv (K : PySem.W.Frag) (O G : Hp) (ι : List Addr) (env : En) (σ : St) (D : Addr) (f : T → Hs → Out (Option T)) (xs ys : List T) (h5 : Hs) (i : Nat) (H : Hp) : Prop where
  ex : ∃ G' ι' h accT accV rest, Le G G' ∧ ι <+: ι' ∧ SRel K (upd O D (.lst accV)) G' ι' env h σ H ∧ RepL K G' ι' accT accV ∧ lcL f (xs.drop i) h = .ok rest h5 ∧ accT ++ rest = ys ∧ accT.length ≤ i

theorem i_lc {own : List Nat} {N : List Str} {tgT : Tg} {itT : It} (ht : ∀ i ∈ tgSlots tgT, i ∈ own) : ∀ σ H Q, RdE X W (ev Γ (.lc own tgT itT c e)) σ H Q →
    tLc (RdI X W false (evI Γ false itT)) (gTg X.K tgT) (RdC X noW Γ c) (RdE X noW (ev Γ e)) ((own.map fun i => (N.getD i Str.empty, i)).map (·.2)) σ H Q := by
  rintro σ H Q ⟨O, G, ι, env, h, S, q⟩
  rw [ev_lc] at q
  have eo : (own.map fun i => (N.getD i Str.empty, i)).map (·.2) = own := by rw [List.map_map]; simp [Function.comp_def]
  rw [eo]
  refine rd_bind (R1 := rI X.K false) S q fun xs h1 G1 ι1 J H1 l1 p1 S1 io q1 => ?_
  intro D hD
  by_cases hz : xs.length ≤ sizeLine ∧ freeE env own = true
  case neg => rw [if_neg hz] at q1; exact q1.elim
  rw [if_pos hz] at q1
  obtain ⟨hz, hfree⟩ := hz
  obtain ⟨ys, h5, el, q2⟩ : ∃ ys h5, lcL (turnF Γ own tgT c e env) xs h1 = .ok ys h5 ∧ OutG X W O G1 ι1 env σ (rP X.K O env σ) Q (.ok (.new (.lst ys)) h5) := by
    cases el : lcL (turnF Γ own tgT c e env) xs h1 with
    | ok ys h5 => rw [el] at q1; exact ⟨ys, h5, rfl, q1⟩
    | exc _ _ => rw [el] at q1; exact q1.elim
    | stuck => rw [el] at q1; exact q1.elim
  obtain ⟨SD, fD⟩ := S1.made (o := .lst []) hD
  have hO : O D = none := fD.2.1
  have w : Walk J xs.length (fun H => ∃ O' G' ι' h', Le G1 G' ∧ ι1 <+: ι' ∧ SRel X.K O' G' ι' env h' σ H) J.yld :=
    ⟨fun i H hi ⟨O', G', ι', h', l, p, S'⟩ => io.go i xs[i] O' G' ι' env h' σ H (.inr ⟨rfl, rfl⟩) l p S' (by simp [hi]), fun H ⟨O', G', ι', h', l, p, S'⟩ => io.stop O' G' ι' env h' σ H (.inr ⟨rfl, rfl⟩) l p S', fun _ _ _ _ _ _ y => y⟩
  refine lc_it w (LcInv X.K O G1 ι1 env σ D (turnF Γ own tgT c e env) xs ys h5) ?_ ?_ ?_ ?_
  · exact ⟨G1, ι1, h1, [], [], ys, Le.refl _, List.prefix_refl _, SD.more fD upd_same, .nil, el, rfl, Nat.le_refl _⟩
  · rintro i H2 _ ⟨G', ι', h', accT, accV, rest, l, p, S', _⟩
    exact ⟨_, G', ι', h', l, p, S'⟩
  · rintro i x H2 H3 hi ⟨G', ι', h', accT, accV, rest, l, p, S', ra, er, ey, hl⟩ y
    obtain ⟨G2, l2, S2, rx, keep⟩ := io.yld i xs[i] _ G' ι' env h' σ H2 x H3 (.inr ⟨rfl, rfl⟩) l p S' (by simp [hi]) y
    have ed : xs.drop i = xs[i] :: xs.drop (i + 1) := by simp
    rw [ed, lcL] at er
    -- the turn's outcome
    cases et : turnF Γ own tgT c e env xs[i] h' with
    | exc _ _ => rw [et] at er; cases er
    | stuck => rw [et] at er; cases er
    | ok o h2 =>
    rw [et] at er
    simp only [Out.bind_ok] at er
    cases er2 : lcL (turnF Γ own tgT c e env) (xs.drop (i + 1)) h2 with
    | exc _ _ => rw [er2] at er; cases er
    | stuck => rw [er2] at er; cases er
    | ok rest2 h5' =>
    rw [er2] at er
    simp only [Out.bind_ok] at er
    injection er with er er5
    subst er5
    unfold turnF at et
    cases ep : putTg tgT (wipeE env own) xs[i] with
    | none => rw [ep] at et; cases et
    | some env2 =>
    rw [ep] at et
    simp only at et
    refine gTg_ok (S2.wipe own) rx ep fun σ2 S3 sets => ⟨?_, ?_⟩
    · have := (sets.mono ht).wipe
      rw [this]
      -- twice wiped is wiped
      have key : ∀ (vs : List Nat) (σ : St), L2.wipe (L2.wipe σ vs) vs = L2.wipe σ vs := by
        intro vs σ
        have : ∀ (ws : List Nat) (σ : St), (∀ i ∈ ws, i ∈ vs) → L2.wipe (L2.wipe σ ws) vs = L2.wipe σ vs := by
          intro ws
          induction ws with
          | nil => intro σ _; rfl
          | cons v ws ih =>
            intro σ hw
            show L2.wipe ((L2.wipe σ ws).set v none) vs = _
            rw [wipe_set (hw v List.mem_cons_self)]
            exact ih σ fun j hj => hw j (List.mem_cons_of_mem _ hj)
        exact this vs σ fun _ h => h
      exact key own σ
    -- the test
    have agree : ∀ i, i ∉ own → env2[i]? = env[i]? ∧ σ2[i]? = σ[i]? := fun j hj => by
      refine ⟨by rw [putTg_slots ep j (fun z => hj (ht j z)), wipeE_out hj], ?_⟩
      have e1 := (sets.mono ht).wipe
      have e2 : (L2.wipe σ2 own)[j]? = (L2.wipe (L2.wipe σ own) own)[j]? := by rw [e1]
      rw [wipe_out hj, wipe_out hj, wipe_out hj] at e2
      exact e2
    -- back to the names as ahead
    have close : ∀ {G4 : Hp} {ι4 : List Addr} {h4 : Hs} {H4 : Hp}, Le G2 G4 → ι' <+: ι4 → SRel X.K (upd O D (.lst accV)) G4 ι4 env2 h4 σ2 H4 → SRel X.K (upd O D (.lst accV)) G4 ι4 env h4 σ H4 :=
      fun l4 p4 S4 => S2.back S4 l4 p4 agree hfree
    refine ⟨_, G2, ι', env2, h', S3, ?_⟩
    cases ec : evC Γ c env2 h' with
    | exc _ _ => rw [ec] at et; cases et
    | stuck => rw [ec] at et; cases et
    | ok b h3 =>
    rw [ec] at et
    simp only [Out.bind_ok] at et
    intro G4 ι4 b' H4 l4 p4 S4 eb
    cases eb
    cases b with
    | false =>
      rw [if_neg Bool.false_ne_true] at et ⊢
      injection et with et1 et2
      subst et1 et2
      exact ⟨G4, ι4, h3, accT, accV, rest2, (l.trans l2).trans l4, p.trans p4, close l4 p4 S4, ra.mono (l2.trans l4) p4, er2, by simp only at er; rw [er]; exact ey, Nat.le_succ_of_le hl⟩
    | true =>
      rw [if_pos rfl] at et ⊢
      refine ⟨_, G4, ι4, env2, h3, S4, ?_⟩
      cases ee2 : ev Γ e env2 h3 with
      | exc _ _ => rw [ee2] at et; cases et
      | stuck => rw [ee2] at et; cases et
      | ok r h4 =>
      rw [ee2] at et
      simp only [Out.bind_ok] at et
      intro G5 ι5 v H5 l5 p5 S5 rv
      cases ek : r.k with
      | none => rw [ek] at et; cases et
      | some t =>
      rw [ek] at et
      injection et with et1 et2
      subst et1 et2
      obtain ⟨G6, S6, l6, rt⟩ := RepP.kept S5 rv ek
      have Sb := close (l4.trans (l5.trans l6)) (p4.trans p5) S6
      have hDv : H5 D = some (.lst accV) := Sb.h.os D _ upd_same
      have fr := fresh_of_more hO Sb
      have S7 := (Sb.less (le_upd hO)).other (o := .lst (accV ++ [v])) fr
      have rl : RepL X.K G6 ι5 accT accV := ra.mono (l2.trans (l4.trans (l5.trans l6))) (p4.trans p5)
      refine ⟨accV, hDv, ?_, G6, ι5, h4, accT ++ [t], accV ++ [v], rest2, (l.trans l2).trans (l4.trans (l5.trans l6)), p.trans (p4.trans p5), S7.more fr upd_same, rl.append (.one rt), er2, ?_, ?_⟩
      · rw [← rl.length]
        omega
      · simp only at er
        rw [List.append_assoc, List.singleton_append, er]; exact ey
      · rw [List.length_append, List.length_singleton]
        omega
  · rintro H2 ⟨G', ι', h', accT, accV, rest, l, p, S', ra, er, ey, hl⟩
    rw [List.drop_length, lcL] at er
    injection er with e1 e2
    subst e1 e2
    rw [List.append_nil] at ey
    subst ey
    have fr := fresh_of_more hO S'
    exact q2 G' ι' _ H2 l p (S'.less (le_upd hO)) ⟨D, rfl, ⟨accV, S'.h.os D _ upd_same, ra⟩, fr⟩
theorem s_lc (ok : XOk X W Γ g) {own : List Nat} {tgT : Tg} {itT : It} (ho : blkC g.N g.sc scope (own.map fun i => (g.N.getD i Str.empty, i)) = true) (ht : ∀ i ∈ tgSlots tgT, i ∈ own) (hc : ckTg (blkG g scope) tgT tg = true)
    (hi : PI X tg it (RdI X W false (evI Γ false itT))) (hf : ∀ x, foldedSetIterable it X.env x = pure x)
    (hcs : ∀ (X' : Cx), XOk X' noW Γ (blkG g scope) → PTs X' ifs (RdC X' noW Γ c)) (he : ∀ (X' : Cx), XOk X' noW Γ (blkG g scope) → PE X' ee (RdE X' noW (ev Γ e))) :
    PE X (.ListComp ee [⟨tg, it, ifs, 0⟩] scope pos) (RdE X W (ev Γ (.lc own tgT itT c e))) := by
  have bo : BlkOk X.N X.env.scope scope (own.map fun i => (g.N.getD i Str.empty, i)) := by
    rw [ok.hN, ok.sc]; exact blkOk_by ho
  exact PE.imp (pe_lc (X := X) (pos := pos) (g := gTg X.K tgT) (tt := RdC X noW Γ c) (te := RdE X noW (ev Γ e)) ok.calm (by rw [ok.hN]; exact ok.nd) hi bo
    (fun s H C cl fp => g_tg (ok.blk s H C cl fp) hc) (fun s H C cl fp => hcs _ (ok.blk s H C cl fp)) (fun s H C cl fp => he _ (ok.blk s H C cl fp)) hf) (i_lc ht)

/-! ### two fors -/
def turn2 (Γ : Cl) (own : List Nat) (tg tg1 : Tg) (it1 : It) (c : OE) (e : E) (env : En) (x : T) (h2 : Hs) : Out (List T) := match putTg tg (wipeE env own) x with
  | none => .stuck
  | some env2 => (evI Γ false it1 env2 h2).bind fun zs h3 => if freeE env2 (tgSlots tg1) = true then lcL (turnF Γ (tgSlots tg1) tg1 c e env2) zs h3 else .stuck
theorem ev_lc2 {own : List Nat} {tg tg1 : Tg} {it it1 : It} {env : En} {h : Hs} : ev Γ (.lc2 own tg it tg1 it1 c e) env h = (evI Γ false it env h).bind fun xs h1 =>
    if freeE env own = true then (noX (lcL2 (turn2 Γ own tg tg1 it1 c e env) xs h1)).bind fun ys h5 => if ys.length ≤ sizeLine then .ok (.new (.lst ys)) h5 else .stuck else .stuck := by
  rw [ev]; rfl
theorem wipe_twice (vs : List Nat) (σ : St) : L2.wipe (L2.wipe σ vs) vs = L2.wipe σ vs := by
  have : ∀ (ws : List Nat) (σ : St), (∀ i ∈ ws, i ∈ vs) → L2.wipe (L2.wipe σ ws) vs = L2.wipe σ vs := by
    intro ws
    induction ws with
    | nil => intro σ _; rfl
    | cons v ws ih =>
      intro σ hw
      show L2.wipe ((L2.wipe σ ws).set v none) vs = _
      rw [wipe_set (hw v List.mem_cons_self)]
      exact ih σ fun j hj => hw j (List.mem_cons_of_mem _ hj)
  exact this vs σ fun _ h => h
/-- names put are names wiped -/
theorem sets_agree {own : List Nat} {tgT : Tg} {env env2 : En} {σ σ2 : St} {x : T} (ht : ∀ i ∈ tgSlots tgT, i ∈ own) (ep : putTg tgT (wipeE env own) x = some env2) (sets : Sets (tgSlots tgT) (L2.wipe σ own) σ2) :
    L2.wipe σ2 own = L2.wipe σ own ∧ ∀ i, i ∉ own → env2[i]? = env[i]? ∧ σ2[i]? = σ[i]? := by
  have e0 : L2.wipe σ2 own = L2.wipe σ own := by rw [(sets.mono ht).wipe, wipe_twice]
  refine ⟨e0, fun j hj => ⟨by rw [putTg_slots ep j (fun z => hj (ht j z)), wipeE_out hj], ?_⟩⟩
  have e2 : (L2.wipe σ2 own)[j]? = (L2.wipe σ own)[j]? := by rw [e0]
  rw [wipe_out hj, wipe_out hj] at e2
  exact e2
/-- between two turns of the outer for -/
structure L2Out (K : PySem.W.Frag) (O G : Hp) (ι : List Addr) (env : En) (σ : St) (D : Addr) (f : T → Hs → Out (List T)) (xs ys : List T) (h5 : Hs) (i : Nat) (H : Hp) : Prop where
  ex : ∃ G' ι' h accT accV rest, Le G G' ∧ ι <+: ι' ∧ SRel K (upd O D (.lst accV)) G' ι' env h σ H ∧ RepL K G' ι' accT accV ∧ lcL2 f (xs.drop i) h = .ok rest h5 ∧ accT ++ rest = ys
/-- .. and of the inner one -/
structure L2In (K : PySem.W.Frag) (O G : Hp) (ι : List Addr) (env : En) (σ : St) (D : Addr) (f : T → Hs → Out (Option T)) (zs : List T) (g : Hs → List T → Prop) (ys : List T) (j : Nat) (H : Hp) : Prop where
  ex : ∃ G' ι' h accT accV rest hq rest2, Le G G' ∧ ι <+: ι' ∧ SRel K (upd O D (.lst accV)) G' ι' env h σ H ∧ RepL K G' ι' accT accV ∧ lcL f (zs.drop j) h = .ok rest hq ∧ g hq rest2 ∧ accT ++ (rest ++ rest2) = ys
theorem i_lc2 {own : List Nat} {N : List Str} {tgT tgT1 : Tg} {itT itT1 : It} (ht : ∀ i ∈ tgSlots tgT, i ∈ own) : ∀ σ H Q, RdE X W (ev Γ (.lc2 own tgT itT tgT1 itT1 c e)) σ H Q →
    tLc2 (RdI X W false (evI Γ false itT)) (gTg X.K tgT) (RdC X noW Γ .no) (RdI X noW false (evI Γ false itT1)) (gTg X.K tgT1) (RdC X noW Γ c) (RdE X noW (ev Γ e)) ((own.map fun i => (N.getD i Str.empty, i)).map (·.2)) (tgSlots tgT1) σ H Q := by
  rintro σ H Q ⟨O, G, ι, env, h, S, q⟩
  rw [ev_lc2] at q
  have eo : (own.map fun i => (N.getD i Str.empty, i)).map (·.2) = own := by rw [List.map_map]; simp [Function.comp_def]
  rw [eo]
  refine rd_bind (R1 := rI X.K false) S q fun xs h1 G1 ι1 J H1 l1 p1 S1 io q1 => ?_
  intro D hD
  by_cases hfree : freeE env own = true
  case neg => rw [if_neg hfree] at q1; exact q1.elim
  rw [if_pos hfree] at q1
  obtain ⟨ys, h5, el, hz, q2⟩ : ∃ ys h5, lcL2 (turn2 Γ own tgT tgT1 itT1 c e env) xs h1 = .ok ys h5 ∧ ys.length ≤ sizeLine ∧ OutG X W O G1 ι1 env σ (rP X.K O env σ) Q (.ok (.new (.lst ys)) h5) := by
    cases el : lcL2 (turn2 Γ own tgT tgT1 itT1 c e env) xs h1 with
    | ok ys h5 =>
      rw [el] at q1
      by_cases hz : ys.length ≤ sizeLine
      · simp only [noX, Out.bind_ok, if_pos hz] at q1; exact ⟨ys, h5, rfl, hz, q1⟩
      · simp only [noX, Out.bind_ok, if_neg hz] at q1; exact q1.elim
    | exc _ _ => rw [el] at q1; exact q1.elim
    | stuck => rw [el] at q1; exact q1.elim
  obtain ⟨SD, fD⟩ := S1.made (o := .lst []) hD
  have hO : O D = none := fD.2.1
  refine ⟨fun i m H => m = xs.length - i ∧ i ≤ xs.length ∧ L2Out X.K O G1 ι1 env σ D (turn2 Γ own tgT tgT1 itT1 c e env) xs ys h5 i H, ⟨xs.length, by simp, Nat.zero_le _, ⟨G1, ι1, h1, [], [], ys, Le.refl _, List.prefix_refl _, SD.more fD upd_same, .nil, el, rfl⟩⟩, ?_⟩
  rintro i m H2 ⟨rfl, hi, ⟨G', ι', h', accT, accV, rest, l, p, S', ra, er, ey⟩⟩
  by_cases hlt : i < xs.length
  case neg =>
    have ei : i = xs.length := by omega
    subst ei
    rw [List.drop_length, lcL2] at er
    injection er with e1 e2
    subst e1 e2
    rw [List.append_nil] at ey
    subst ey
    have fr := fresh_of_more hO S'
    exact .inl ⟨io.stop _ G' ι' env h' σ H2 (.inr ⟨rfl, rfl⟩) l p S', q2 G' ι' _ H2 l p (S'.less (le_upd hO)) ⟨D, rfl, ⟨accV, S'.h.os D _ upd_same, ra⟩, fr⟩⟩
  refine .inr ⟨io.go i xs[i] _ G' ι' env h' σ H2 (.inr ⟨rfl, rfl⟩) l p S' (by simp [hlt]), fun H' => L2Out X.K O G1 ι1 env σ D (turn2 Γ own tgT tgT1 itT1 c e env) xs ys h5 (i + 1) H', fun H' p' => ⟨xs.length - (i + 1), by omega, rfl, hlt, p'⟩, fun x H3 y => ?_⟩
  obtain ⟨G2, l2, S2, rx, keep⟩ := io.yld i xs[i] _ G' ι' env h' σ H2 x H3 (.inr ⟨rfl, rfl⟩) l p S' (by simp [hlt]) y
  have ed : xs.drop i = xs[i] :: xs.drop (i + 1) := by simp
  rw [ed, lcL2] at er
  cases et : turn2 Γ own tgT tgT1 itT1 c e env xs[i] h' with
  | exc _ _ => rw [et] at er; cases er
  | stuck => rw [et] at er; cases er
  | ok o h2 =>
  rw [et] at er
  simp only [Out.bind_ok] at er
  cases er2 : lcL2 (turn2 Γ own tgT tgT1 itT1 c e env) (xs.drop (i + 1)) h2 with
  | exc _ _ => rw [er2] at er; cases er
  | stuck => rw [er2] at er; cases er
  | ok rest2 h5' =>
  rw [er2] at er
  simp only [Out.bind_ok] at er
  injection er with er er5
  subst er5 er
  unfold turn2 at et
  cases ep : putTg tgT (wipeE env own) xs[i] with
  | none => rw [ep] at et; cases et
  | some env2 =>
  rw [ep] at et
  simp only at et
  refine gTg_ok (S2.wipe own) rx ep fun σ2 S3 sets => ?_
  obtain ⟨ew, agree⟩ := sets_agree ht ep sets
  refine ⟨ew, ?_⟩
  refine ⟨_, G2, ι', env2, h', S3, ?_⟩
  rw [evC]
  intro G4 ι4 b' H4 l4 p4 S4 eb
  cases eb
  rw [if_pos rfl]
  refine ⟨_, G4, ι4, env2, h', S4, ?_⟩
  cases ez : evI Γ false itT1 env2 h' with
  | exc _ _ => rw [ez] at et; cases et
  | stuck => rw [ez] at et; cases et
  | ok zs h3 =>
  rw [ez] at et
  simp only [Out.bind_ok] at et
  by_cases hf1 : freeE env2 (tgSlots tgT1) = true
  case neg => rw [if_neg hf1] at et; cases et
  rw [if_pos hf1] at et
  intro G5 ι5 J1 H5 l5 p5 S5 io1
  refine ⟨fun j k H => k = zs.length - j ∧ j ≤ zs.length ∧ L2In X.K O G5 ι5 env2 σ2 D (turnF Γ (tgSlots tgT1) tgT1 c e env2) zs (fun hq r2 => lcL2 (turn2 Γ own tgT tgT1 itT1 c e env) (xs.drop (i + 1)) hq = .ok r2 h5') ys j H, ⟨zs.length, by simp, Nat.zero_le _, ⟨G5, ι5, h3, accT, accV, o, h2, rest2, Le.refl _, List.prefix_refl _, S5, ra.mono (l2.trans (l4.trans l5)) (p4.trans p5), et, er2, ey⟩⟩, ?_⟩
  rintro j k H6 ⟨rfl, hj, ⟨G6, ι6, h6, acc2T, acc2V, r1, hq, r2, l6, p6, S6, ra6, e6, eg6, ey6⟩⟩
  by_cases hjt : j < zs.length
  case neg =>
    have ej : j = zs.length := by omega
    subst ej
    rw [List.drop_length, lcL] at e6
    injection e6 with e1 e2
    subst e1 e2
    rw [List.nil_append] at ey6
    refine .inl ⟨io1.stop _ G6 ι6 env2 h6 σ2 H6 (.inr ⟨rfl, rfl⟩) l6 p6 S6, ⟨G6, ι6, h6, acc2T, acc2V, r2, (l.trans l2).trans (l4.trans (l5.trans l6)), p.trans (p4.trans (p5.trans p6)), ?_, ra6, eg6, ey6⟩⟩
    exact S2.back S6 (l4.trans (l5.trans l6)) (p4.trans (p5.trans p6)) agree hfree
  refine .inr ⟨io1.go j zs[j] _ G6 ι6 env2 h6 σ2 H6 (.inr ⟨rfl, rfl⟩) l6 p6 S6 (by simp [hjt]), fun H' => L2In X.K O G5 ι5 env2 σ2 D (turnF Γ (tgSlots tgT1) tgT1 c e env2) zs (fun hq r2 => lcL2 (turn2 Γ own tgT tgT1 itT1 c e env) (xs.drop (i + 1)) hq = .ok r2 h5') ys (j + 1) H', fun H' p' => ⟨zs.length - (j + 1), by omega, rfl, hjt, p'⟩, fun x1 H7 y1 => ?_⟩
  obtain ⟨G7, l7, S7, rx7, keep7⟩ := io1.yld j zs[j] _ G6 ι6 env2 h6 σ2 H6 x1 H7 (.inr ⟨rfl, rfl⟩) l6 p6 S6 (by simp [hjt]) y1
  have ed7 : zs.drop j = zs[j] :: zs.drop (j + 1) := by simp
  rw [ed7, lcL] at e6
  cases et7 : turnF Γ (tgSlots tgT1) tgT1 c e env2 zs[j] h6 with
  | exc _ _ => rw [et7] at e6; cases e6
  | stuck => rw [et7] at e6; cases e6
  | ok o7 h7 =>
  rw [et7] at e6
  simp only [Out.bind_ok] at e6
  cases e72 : lcL (turnF Γ (tgSlots tgT1) tgT1 c e env2) (zs.drop (j + 1)) h7 with
  | exc _ _ => rw [e72] at e6; cases e6
  | stuck => rw [e72] at e6; cases e6
  | ok r3 hq' =>
  rw [e72] at e6
  simp only [Out.bind_ok] at e6
  injection e6 with e6 eh6
  subst eh6
  unfold turnF at et7
  cases ep7 : putTg tgT1 (wipeE env2 (tgSlots tgT1)) zs[j] with
  | none => rw [ep7] at et7; cases et7
  | some env3 =>
  rw [ep7] at et7
  simp only at et7
  refine gTg_ok (S7.wipe (tgSlots tgT1)) rx7 ep7 fun σ3 S8 sets7 => ?_
  obtain ⟨ew7, agree7⟩ := sets_agree (fun _ z => z) ep7 sets7
  refine ⟨ew7, ?_⟩
  refine ⟨_, G7, ι6, env3, h6, S8, ?_⟩
  have close : ∀ {G9 : Hp} {ι9 : List Addr} {h9 : Hs} {H9 : Hp}, Le G7 G9 → ι6 <+: ι9 → SRel X.K (upd O D (.lst acc2V)) G9 ι9 env3 h9 σ3 H9 → SRel X.K (upd O D (.lst acc2V)) G9 ι9 env2 h9 σ2 H9 :=
    fun l9 p9 S9 => S7.back S9 l9 p9 agree7 hf1
  cases ec : evC Γ c env3 h6 with
  | exc _ _ => rw [ec] at et7; cases et7
  | stuck => rw [ec] at et7; cases et7
  | ok b h8 =>
  rw [ec] at et7
  simp only [Out.bind_ok] at et7
  intro G9 ι9 b9 H9 l9 p9 S9 eb
  cases eb
  cases b with
  | false =>
    rw [if_neg Bool.false_ne_true] at et7 ⊢
    injection et7 with et1 et2
    subst et1 et2
    exact ⟨G9, ι9, h8, acc2T, acc2V, r3, hq', r2, (l6.trans l7).trans l9, p6.trans p9, close l9 p9 S9, ra6.mono (l7.trans l9) p9, e72, eg6, by simp only at e6; rw [e6]; exact ey6⟩
  | true =>
    rw [if_pos rfl] at et7 ⊢
    refine ⟨_, G9, ι9, env3, h8, S9, ?_⟩
    cases ee2 : ev Γ e env3 h8 with
    | exc _ _ => rw [ee2] at et7; cases et7
    | stuck => rw [ee2] at et7; cases et7
    | ok r h10 =>
    rw [ee2] at et7
    simp only [Out.bind_ok] at et7
    intro Ga ιa v Ha la pa Sa rv
    cases ek : r.k with
    | none => rw [ek] at et7; cases et7
    | some t =>
    rw [ek] at et7
    injection et7 with et1 et2
    subst et1 et2
    obtain ⟨Gb, Sb0, lb, rt⟩ := RepP.kept Sa rv ek
    have Sb := close (l9.trans (la.trans lb)) (p9.trans pa) Sb0
    have hDv : Ha D = some (.lst acc2V) := Sb.h.os D _ upd_same
    have fr := fresh_of_more hO Sb
    have Sc := (Sb.less (le_upd hO)).other (o := .lst (acc2V ++ [v])) fr
    have rl : RepL X.K Gb ιa acc2T acc2V := ra6.mono (l7.trans (l9.trans (la.trans lb))) (p9.trans pa)
    simp only at e6
    refine ⟨acc2V, hDv, ?_, Gb, ιa, h10, acc2T ++ [t], acc2V ++ [v], r3, hq', r2, (l6.trans l7).trans (l9.trans (la.trans lb)), p6.trans (p9.trans pa), Sc.more fr upd_same, rl.append (.one rt), e72, eg6, ?_⟩
    · rw [← rl.length]
      have := congrArg List.length ey6
      rw [← e6] at this
      simp at this
      omega
    · rw [List.append_assoc, List.singleton_append, ← List.cons_append, e6]; exact ey6
theorem s_lc2 (ok : XOk X W Γ g) {own : List Nat} {tgT tgT1 : Tg} {itT itT1 : It} {tg1 it1 : Expr} (ho : blkC g.N g.sc scope (own.map fun i => (g.N.getD i Str.empty, i)) = true) (ht : ∀ i ∈ tgSlots tgT, i ∈ own) (ht1 : ∀ i ∈ tgSlots tgT1, i ∈ own) (hc : ckTg (blkG g scope) tgT tg = true) (hc1 : ckTg (blkG g scope) tgT1 tg1 = true)
    (hi : PI X tg it (RdI X W false (evI Γ false itT))) (hf : ∀ x, foldedSetIterable it X.env x = pure x) (hf1 : ∀ env x, foldedSetIterable it1 env x = pure x)
    (hi1 : ∀ (X' : Cx), XOk X' noW Γ (blkG g scope) → PI X' tg1 it1 (RdI X' noW false (evI Γ false itT1)))
    (hcs : ∀ (X' : Cx), XOk X' noW Γ (blkG g scope) → PTs X' ifs (RdC X' noW Γ c)) (he : ∀ (X' : Cx), XOk X' noW Γ (blkG g scope) → PE X' ee (RdE X' noW (ev Γ e))) :
    PE X (.ListComp ee [⟨tg, it, [], 0⟩, ⟨tg1, it1, ifs, 0⟩] scope pos) (RdE X W (ev Γ (.lc2 own tgT itT tgT1 itT1 c e))) := by
  have bo : BlkOk X.N X.env.scope scope (own.map fun i => (g.N.getD i Str.empty, i)) := by
    rw [ok.hN, ok.sc]; exact blkOk_by ho
  have eo : (own.map fun i => (g.N.getD i Str.empty, i)).map (·.2) = own := by rw [List.map_map]; simp [Function.comp_def]
  exact PE.imp (pe_lc2 (X := X) (pos := pos) (g := gTg X.K tgT) (g1 := gTg X.K tgT1) (tt := RdC X noW Γ .no) (wi1 := RdI X noW false (evI Γ false itT1)) (tt1 := RdC X noW Γ c) (te := RdE X noW (ev Γ e)) (vs1 := tgSlots tgT1) ok.calm (by rw [ok.hN]; exact ok.nd) hi bo (by rw [eo]; exact ht1)
    (fun s H C cl fp => g_tg (ok.blk s H C cl fp) hc) (fun s H C cl fp => c_no (W := noW) (Γ := Γ)) (fun s H C cl fp => hi1 _ (ok.blk s H C cl fp)) (fun s H C cl fp => g_tg (ok.blk s H C cl fp) hc1) (fun s H C cl fp => hcs _ (ok.blk s H C cl fp)) (fun s H C cl fp => he _ (ok.blk s H C cl fp)) hf hf1) (i_lc2 ht)
end
end Fx

set_option maxHeartbeats 4000000
namespace Fx
open PySem L2 PySem.Spec
open PyProof.Rows hiding St

/-! ### dict comprehensions, whatever the keys' kind; E0 the new dict -/
theorem put_any {X : Cx} {pins : List (Addr × Obj)} {σ : St} {H H' : Hp} {s : Shared} {E : Value → Shared → Prop} {D : Addr} {y z : V} {ku vu : Value} {Q : Unit → Shared → Prop} (hu : X.A.units + 1 < cLine) (inv : Inv X pins σ H s) (dp : DPut H D y z H')
    (rk : RelV y ku) (rv : RelV z vu) (goal : ∀ s', Inv X pins σ H' s' → Q () s') : wpAny (model X.prog X.w) X.A (dictSet D ku vu) Q E s := by
  rcases dp with ⟨kvs, k, e1, e2, e3, e4⟩ | ⟨kvs, k, b, e1, e2, e3, e4, e5⟩
  · subst e2 e4
    exact d_dictSet inv e1 e3 rk rv goal
  · subst e2 e5
    cases (show ku = Value.ref b from rk)
    obtain ⟨big, nsys, xs, pairs, dd⟩ := dt_of inv.hok e1
    have small : xs.length ≤ sizeLine := by rw [← Paired.length pairs]; exact big
    have small2 : (putK kvs k z).length ≤ sizeLine := by have := length_putK kvs k z; omega
    refine wpAny_dictSet_heap (hsz := small) (Nat.lt_of_succ_lt hu) (key_of inv.hok e3) dd fun h2 dd2 same => goal _ ?_
    obtain ⟨ob, es, ep, w1, w2, w3, w4, _, w5⟩ := dd2
    refine d_write inv (by rw [e1]; exact True.intro) same ⟨ob, w1⟩ ⟨small2, nsys, _, (pairs.put k e3 rv).keeps fun c ys ec => ?_, ob, es, ep, w1, w2, w3, w4, w5⟩
    rw [upd_ne (ne_of ec e1 fun no => nomatch no)]
    exact ec
/-- what a dict comprehension without a test asks -/
def tDc2 (E0 : HO) (wi : TI) (g : TG) (tk tv : TE) (own : List Nat) : TE := fun σ H Q => wi σ H fun J H1 => ∀ d, H1 d = none → ∃ W : Nat → Nat → Hp → Prop, (∃ m, W 0 m (upd H1 d E0)) ∧ ∀ i m Hx, W i m Hx →
  (J.stop i Hx ∧ Q (.ref d) Hx) ∨ (J.go i Hx ∧ ∃ More : Hp → Prop, (∀ Hy, More Hy → ∃ m2, m2 < m ∧ W (i + 1) m2 Hy) ∧ ∀ x Hy, J.yld i Hx x Hy → g x (L2.wipe σ own) Hy fun τ Hz => L2.wipe τ own = L2.wipe σ own ∧
    tk τ Hz fun y H4 => tv τ H4 fun z H5 => ∃ H6, DPut H5 d y z H6 ∧ More H6)
theorem dc2_block {X : Cx} {pins : List (Addr × Obj)} {s : Shared} {σ : St} {H : Hp} {Q : VK} {ek ev' tg iter : Expr} {scope : Scope} {own : List (Str × Nat)} {pos pos' : Pos} {wi : TI} {g : TG} {tk tv : TE} {E0 : HO} {use : Option (Value → Sem Unit)} {Qf : Value → Shared → Prop}
    (calm : X.calm = true) (hu : X.A.units + 1 < cLine) (nd : X.N.Nodup) (inv : Inv X pins σ H s) (pi : PI X tg iter wi) (blk : BlkOk X.N X.env.scope scope own)
    (hE0 : ∀ (Hq : Hp) (hp : Heap), sysModules < hp.objs.size → ObjOk X.prog X.w Hq (hp.push { cls := .type "dict", data := .dict #[] }) hp.objs.size E0)
    (pg : ∀ (s1 : Shared) (Hq : Hp) (C : Addr) (cl : List (Str × Addr)) (fp : List Addr), PG (X.blk s1 Hq scope (compEnvC scope cl C X.env) fp) tg g)
    (pk : ∀ (s1 : Shared) (Hq : Hp) (C : Addr) (cl : List (Str × Addr)) (fp : List Addr), PE (X.blk s1 Hq scope (compEnvC scope cl C X.env) fp) ek tk)
    (pv : ∀ (s1 : Shared) (Hq : Hp) (C : Addr) (cl : List (Str × Addr)) (fp : List Addr), PE (X.blk s1 Hq scope (compEnvC scope cl C X.env) fp) ev' tv)
    (fold : ∀ x, foldedSetIterable iter X.env x = pure x) (want : tDc2 E0 wi g tk tv (own.map (·.2)) σ H Q)
    (after : ∀ d C s' m Hq, Inv X pins σ Hq s' → Q (.ref d) Hq → s'.heap.Ns C m → FpOk X pins Hq C → compPost (model X.prog X.w) X.A X.xe use Qf (.ref d) C (.ok .next) s') :
    wpAny (model X.prog X.w) X.A (comprehension (.DictComp ek ev' [⟨tg, iter, [], 0⟩] scope pos) scope X.env pos' newDict false (eval iter X.env) use) Qf X.xe s := by
  have closed : ∀ y ∈ scope.names, y.2 = .free → ∃ c, X.env.cells.lookup y.1 = some c := fun y hy e =>
    (blk.free y hy e).elim (fun k => inv.ok.has _ (.inl k)) fun k => inv.ok.has _ (.inr k)
  refine wpAny_comprehension_free (use := use) rfl fold (closure_ok closed) blk.kind (fun y hy e => by rw [blk.uniq y hy, e]) (thn (pi.run pins s σ H _ inv want) fun _ s1 k1 => thn k1 fun _ s2 k2 => ?_)
  obtain ⟨it, fp, tn, J, H2, rfl, inv2, T, start, foot, ask⟩ := k2
  refine wpAny_newObj_type (newEnv_comp ?_)
  obtain ⟨d, hd⟩ : ∃ d, s2.heap.objs.size = d := ⟨_, rfl⟩
  have free2 : H2 d = none := inv2.hok.fresh (Nat.le_of_eq hd)
  obtain ⟨W, ⟨m0, w0⟩, turn⟩ := ask d free2
  obtain ⟨s3, hs3⟩ : ∃ s3 : Shared, s3 = { s2 with heap := s2.heap.push { cls := .type "dict", data := .dict #[] } } := ⟨_, rfl⟩
  have heap3 : s3.heap = s2.heap.push { cls := .type "dict", data := .dict #[] } := by rw [hs3]
  have inv3 : Inv X pins σ (upd H2 d E0) s3 := by
    rw [hs3]
    refine inv2.laid (t' := s2.toks) (fun _ _ old => Heap.get?_push_of_some _ old) (Nat.le_of_eq hd) ?_
    rw [← hd]
    exact hE0 _ s2.heap inv2.big
  have foot3 : ∀ b ∈ fp, FpOk X pins (upd H2 d E0) b ∧ b < s3.heap.objs.size := fun b hb => by
    obtain ⟨_, there, _⟩ := T.obj _ _ start b hb
    have low : b < s2.heap.objs.size := Heap.lt_size there
    have f := foot b hb
    refine ⟨⟨?_, f.2⟩, by rw [heap3, Heap.size_push]; exact Nat.le_succ_of_le low⟩
    rw [upd_ne (fun same => by rw [same, ← hd] at low; exact Nat.lt_irrefl _ low)]
    exact f.1
  have start3 : tn 0 s3.heap := T.keep _ _ _ start fun _ _ _ old => by rw [heap3]; exact Heap.get?_push_of_some _ old
  have invB := block_start inv3 blk nd foot3
  have clear : ∀ b ∈ fp, (upd H2 d E0) b = none := fun b hb => (foot3 b hb).1.1
  obtain ⟨ce, hce⟩ : ∃ ce, ce = compEnvC scope (cellsFrom (s3.heap.objs.size + 1) scope.names (cloFrom X.env.cells scope.names [])) s3.heap.objs.size X.env := ⟨_, rfl⟩
  have gB := pg s3 (upd H2 d E0) s3.heap.objs.size (cellsFrom (s3.heap.objs.size + 1) scope.names (cloFrom X.env.cells scope.names [])) fp
  have kB := pk s3 (upd H2 d E0) s3.heap.objs.size (cellsFrom (s3.heap.objs.size + 1) scope.names (cloFrom X.env.cells scope.names [])) fp
  have vB := pv s3 (upd H2 d E0) s3.heap.objs.size (cellsFrom (s3.heap.objs.size + 1) scope.names (cloFrom X.env.cells scope.names [])) fp
  have goal3 : codeAny (model X.prog X.w) X.A (.compStart (.DictComp ek ev' [⟨tg, iter, [], 0⟩] scope pos) 0 (.ref it) (.ref d) ce) (compPost (model X.prog X.w) X.A X.xe use Qf (.ref d) s3.heap.objs.size) { s3 with heap := pushCells (s3.heap.push { cls := .type "dict", data := .dict #[] }) scope.names } := by
    rw [← hce] at invB gB kB vB
    have locals : ce.locals = s3.heap.objs.size := by rw [hce]; rfl
    obtain ⟨H3, hH3⟩ : ∃ H3, H3 = upd H2 d E0 := ⟨_, rfl⟩
    rw [← hH3] at inv3 invB gB kB vB w0 clear foot3
    obtain ⟨s4, hs4⟩ : ∃ s4 : Shared, s4 = { s3 with heap := pushCells (s3.heap.push { cls := .type "dict", data := .dict #[] }) scope.names } := ⟨_, rfl⟩
    rw [← hs4] at invB ⊢
    have start4 : tn 0 s4.heap := T.keep _ _ _ start3 fun _ _ _ old => by rw [hs4]; exact pushCells_keeps _ _ _ _ (Heap.get?_push_of_some _ old)
    have fpB : ∀ {τ : St} {Hq : Hp} {sq : Shared}, Inv (X.blk s3 H3 scope ce fp) [] τ Hq sq → (∀ b ∈ fp, Hq b = none) → ∀ b ∈ fp, FpOk (X.blk s3 H3 scope ce fp) [] Hq b := fun {τ Hq sq} iq nq b hb =>
      ⟨nq b hb, (iq.ok.exf b hb).1, iq.ok.exfs b hb, .inl hb, fun x c e => (iq.ok.exf b hb).2 x c e, fun p hp => absurd (show p ∈ ([] : List (Addr × Obj)) ++ [] from hp) (by simp)⟩
    have run : codeAny (model X.prog X.w) X.A (.compLoop (.DictComp ek ev' [⟨tg, iter, [], 0⟩] scope pos) 0 (.ref it) (.ref d) ce) (compPost (model X.prog X.w) X.A X.xe use Qf (.ref d) s3.heap.objs.size) s4 := by
      refine compLoop_anyD (fun n sq => ∃ i Hq, Inv (X.blk s3 H3 scope ce fp) [] (L2.wipe σ (own.map (·.2))) Hq sq ∧ tn i sq.heap ∧ (∀ b ∈ fp, Hq b = none) ∧ W i n Hq) (fun n s5 => ?_) m0 ⟨0, H3, invB, start4, clear, w0⟩
      rintro ⟨i, H5, inv5, st5, none5, w5⟩
      rcases turn i n H5 w5 with ⟨stop, won⟩ | ⟨go, More, less, step⟩
      · -- no more items
        refine thnF (T.done (X.blk s3 H3 scope ce fp) rfl rfl rfl calm i [] s5 _ H5 (fun _ _ => False) inv5 (fpB inv5 none5) st5 stop) fun r s6 ⟨er, inv6⟩ => ?_
        subst er
        have home : Inv X pins σ H5 s6 := inv3.call' (ch := fp) inv6.os inv6.base inv6.hok inv6.bare fun b hb => by
          have f := (foot3 b hb).1.2
          exact ⟨f.2.2.1, f.1, f.2.2.2.1, f.2.2.2.2⟩
        have gone : H5 s3.heap.objs.size = none := by rw [← locals]; exact inv6.free
        obtain ⟨mm, ns, _⟩ := inv6.loc
        refine after d s3.heap.objs.size s6 mm H5 home won ?_ (inv3.fpOk (Nat.le_refl _) gone)
        rw [← locals]
        exact ns
      · -- one more
        refine thnF (T.item (X.blk s3 H3 scope ce fp) rfl rfl rfl calm i [] s5 _ H5 (fun _ _ => False) inv5 (fpB inv5 none5) st5 go) fun r s6 ⟨u, er, h6⟩ => ?_
        subst er
        refine thnF h6 fun _ s7 ⟨x, H7, inv7, rx, yl, st7, none7⟩ => ?_
        refine thnF (gB.run _ s7 _ H7 x u _ (inv7.pinned (fpB inv7 none7) (T.obj _ _ st7)) rx (step x H7 yl)) fun _ s8 ⟨τ, H8, inv8, same, q8⟩ => ?_
        have turned : ∀ {sq : Shared} {Hq : Hp}, Inv (X.blk s3 H3 scope ce fp) ([] ++ pinsAt fp s7.heap) τ Hq sq → More Hq → ∃ m, m < n ∧ ∃ i Hq, Inv (X.blk s3 H3 scope ce fp) [] (L2.wipe σ (own.map (·.2))) Hq sq ∧ tn i sq.heap ∧ (∀ b ∈ fp, Hq b = none) ∧ W i m Hq := fun {sq Hq} iq mo => by
          obtain ⟨m2, lt, w2⟩ := less Hq mo
          have held : ∀ b ∈ fp, ∀ o, s7.heap.get? b = some o → sq.heap.get? b = some o ∧ Hq b = none := fun b hb o e => by
            have z := iq.pin (b, o) (List.mem_append_right _ (List.mem_append_right _ (mem_pinsAt hb e)))
            exact ⟨z.1, z.2.1⟩
          have len : (L2.wipe σ (own.map (·.2))).length = τ.length := by rw [← same, wipe_length]
          refine ⟨m2, lt, i + 1, Hq, (iq.unpinned (pins := [])).weak len (fun j v e => ?_), T.keep _ _ _ st7 fun b hb o e => (held b hb o e).1, fun b hb => ?_, w2⟩
          · rw [← same] at e
            exact (wipe_some e).1
          · obtain ⟨o, e, _⟩ := T.obj _ _ st7 b hb
            exact (held b hb o e).2
        refine wpAny_pure ?_
        simp only [if_true]
        refine thnF (kB.run _ s8 τ H8 _ inv8 q8) fun uk s10 ⟨yk, H10, inv10, rk, q10⟩ => ?_
        refine thnF (vB.run _ s10 τ H10 _ inv10 q10) fun uv s11 ⟨yv, H11, inv11, rv, H12, dp, mo⟩ => ?_
        exact put_any (X := X.blk s3 H3 scope ce fp) hu inv11 dp rk rv fun s12 inv12 => turned inv12 mo
    exact codeAny_compStart_dict run (T.self X.A 0 _ _ _ start4 run)
  subst hd
  subst hs3
  subst hce
  exact goal3
theorem pe_dc2 {X : Cx} {ek ev' tg iter : Expr} {scope : Scope} {own : List (Str × Nat)} {pos : Pos} {wi : TI} {g : TG} {tk tv : TE} {E0 : HO} (calm : X.calm = true) (hu : X.A.units + 1 < cLine) (nd : X.N.Nodup) (pi : PI X tg iter wi) (blk : BlkOk X.N X.env.scope scope own)
    (hE0 : ∀ (Hq : Hp) (hp : Heap), sysModules < hp.objs.size → ObjOk X.prog X.w Hq (hp.push { cls := .type "dict", data := .dict #[] }) hp.objs.size E0)
    (pg : ∀ (s1 : Shared) (Hq : Hp) (C : Addr) (cl : List (Str × Addr)) (fp : List Addr), PG (X.blk s1 Hq scope (compEnvC scope cl C X.env) fp) tg g)
    (pk : ∀ (s1 : Shared) (Hq : Hp) (C : Addr) (cl : List (Str × Addr)) (fp : List Addr), PE (X.blk s1 Hq scope (compEnvC scope cl C X.env) fp) ek tk)
    (pv : ∀ (s1 : Shared) (Hq : Hp) (C : Addr) (cl : List (Str × Addr)) (fp : List Addr), PE (X.blk s1 Hq scope (compEnvC scope cl C X.env) fp) ev' tv)
    (fold : ∀ x, foldedSetIterable iter X.env x = pure x) : PE X (.DictComp ek ev' [⟨tg, iter, [], 0⟩] scope pos) (tDc2 E0 wi g tk tv (own.map (·.2))) := by
  refine ⟨fun pins s σ H Q inv want => ?_⟩
  rw [arm_eval_DictComp]
  refine dc2_block calm hu nd inv pi blk hE0 pg pk pv fold want fun d C s' m Hq inv2 won ns f => ⟨m, ns, fun _ sb => ?_⟩
  exact ⟨.ref d, Hq, inv2.turned (t' := s'.toks) (fun b o hb e => (sb.2 b hb).trans e) f.1 f.2.1 f.2.2.2.1 f.2.2.2.2.1 f.2.2.2.2.2, rfl, won⟩
/-- the same, given to a local name -/
theorem ps_setDc {X : Cx} {i : Nat} {y : Str} {py : Pos} {ek ev' tg iter : Expr} {scope : Scope} {own : List (Str × Nat)} {pos spos : Pos} {wi : TI} {g : TG} {tk tv : TE} {E0 : HO} (calm : X.calm = true) (hu : X.A.units + 1 < cLine) (nd : X.N.Nodup) (iy : X.N[i]? = some y) (ly : X.env.scope.names.lookup y = some .local)
    (swaps : swapsWith (.DictComp ek ev' [⟨tg, iter, [], 0⟩] scope pos) (some (.Name y py)) spos.line X.env = pure true) (pi : PI X tg iter wi) (blk : BlkOk X.N X.env.scope scope own)
    (hE0 : ∀ (Hq : Hp) (hp : Heap), sysModules < hp.objs.size → ObjOk X.prog X.w Hq (hp.push { cls := .type "dict", data := .dict #[] }) hp.objs.size E0)
    (pg : ∀ (s1 : Shared) (Hq : Hp) (C : Addr) (cl : List (Str × Addr)) (fp : List Addr), PG (X.blk s1 Hq scope (compEnvC scope cl C X.env) fp) tg g)
    (pk : ∀ (s1 : Shared) (Hq : Hp) (C : Addr) (cl : List (Str × Addr)) (fp : List Addr), PE (X.blk s1 Hq scope (compEnvC scope cl C X.env) fp) ek tk)
    (pv : ∀ (s1 : Shared) (Hq : Hp) (C : Addr) (cl : List (Str × Addr)) (fp : List Addr), PE (X.blk s1 Hq scope (compEnvC scope cl C X.env) fp) ev' tv)
    (fold : ∀ x, foldedSetIterable iter X.env x = pure x) : PS X (.Assign [.Name y py] (.DictComp ek ev' [⟨tg, iter, [], 0⟩] scope pos) spos) (tAsg (tDc2 E0 wi g tk tv (own.map (·.2))) (gName i)) := by
  refine ⟨fun pins s σ H D inv want => ?_⟩
  rw [exec_Assign_Name_used _ _ _ _ swaps]
  refine wpAny_bind (wpAny_standAt (wpAny_bind ?_))
  show wpAny _ X.A (do let _ ← comprehension (.DictComp ek ev' [⟨tg, iter, [], 0⟩] scope pos) scope X.env (firstIterPos [⟨tg, iter, [], 0⟩] pos) newDict false (eval iter X.env) (some (assign (.Name y py) X.env))) _ _ s
  have want2 : tDc2 E0 wi g tk tv (own.map (·.2)) σ H (fun x H1 => gName i x σ H1 D.nx) := want
  refine wpAny_bind (thn (dc2_block (Qf := fun _ s' => SP X pins D .next s') calm hu nd inv pi blk hE0 pg pk pv fold want2 fun d C s' m Hq inv2 won ns f => ?_) fun _ s' hq => wpAny_pure (wpAny_pure hq))
  show wpAny _ _ (assign (.Name y py) X.env (.ref d)) _ _ _
  refine wpAny_assign_Name (store_ok2 (v := V.ref d) inv2 nd iy (.inl ly) rfl (fun s2 inv3 ⟨a, sb, ha⟩ => ?_) (.inr ly))
  have apart : C ≠ a := by
    rcases ha with z | z
    · rw [z]; exact f.2.1
    · exact fun e => f.2.2.2.2.1 y a z e.symm
  refine ⟨m, ns.sameBut sb apart, fun _ sb3 => ?_⟩
  exact ⟨_, Hq, inv3.turned (t' := s2.toks) (fun b o hb e => (sb3.2 b hb).trans e) f.1 f.2.1 f.2.2.2.1 f.2.2.2.2.1 f.2.2.2.2.2, won⟩
theorem swd_true {ek ev' : Expr} {gs : List Comprehension} {scope : Scope} {pos py : Pos} {y : Str} {l : Nat} {env : Env} (fn : env.scope.kind = .function) (ly : env.scope.names.lookup y = some .local) (ln : (py.line == pos.line) = true)
    (out : (scope.names.any fun (n, k) => n == y && (k == .local || k == .cell)) = false) : swapsWith (.DictComp ek ev' gs scope pos) (some (.Name y py)) l env = pure true := by
  have kind : env.kindOf y = some .local := ly
  have block : env.blockKind = .function := by unfold Env.blockKind; rw [fn]; rfl
  unfold swapsWith
  simp only [block, kind, out, Expr.pos, ln]
  rfl
end Fx

set_option maxHeartbeats 4000000
namespace Fx
open PySem L2
open PyProof.Rows hiding St

/-! ### dicts that are changed -/
def DO : Cell → List V → HO → Prop
  | .dk ks l, vs, o => o = .dK (ks.zip vs) ∧ ks.length = l.length
  | .dt ks l, vs, o => o = .dT (ks.zip vs) ∧ ks.length = l.length
  | _, _, _ => False
def Cell.vals : Cell → List T
  | .dk _ l => l
  | .dt _ l => l
  | .lst l => l
section
variable {K : PySem.W.Frag} {G H : Hp} {ι : List Addr} {a : Addr}
theorem own_do {c : Cell} {vs : List V} {o : HO} (d : DO c vs o) (r : RepL K G ι c.vals vs) (e : H a = some o) : OwnAt K G ι H a c := by
  cases c with
  | lst _ => exact d.elim
  | dk ks l => obtain ⟨rfl, h0⟩ := d; exact ⟨vs, e, h0, r⟩
  | dt ks l => obtain ⟨rfl, h0⟩ := d; exact ⟨vs, e, h0, r⟩
theorem own_to {c : Cell} (hc : isDct c.t = true) (h : OwnAt K G ι H a c) : ∃ vs o, H a = some o ∧ DO c vs o ∧ RepL K G ι c.vals vs := by
  cases c with
  | lst _ => cases hc
  | dk ks l => obtain ⟨vs, e, h0, r⟩ := h; exact ⟨vs, _, e, ⟨rfl, h0⟩, r⟩
  | dt ks l => obtain ⟨vs, e, h0, r⟩ := h; exact ⟨vs, _, e, ⟨rfl, h0⟩, r⟩
theorem dP_rep {κ : Type} [DecidableEq κ] {q : κ} {t : T} {z : V} (rt : Rep K G ι t z) {ks : List κ} {l : List T} {vs : List V} (r : RepL K G ι l vs) :
    (dP (ks.zip l) q t).map (·.1) = (putK (ks.zip vs) q z).map (·.1) ∧ RepL K G ι ((dP (ks.zip l) q t).map (·.2)) ((putK (ks.zip vs) q z).map (·.2)) := by
  have hany : ∀ {ks : List κ} {l : List T} {vs : List V}, RepL K G ι l vs → ((ks.zip l).any fun kv => decide (kv.1 = q)) = ((ks.zip vs).any fun kv => decide (kv.1 = q)) := by
    intro ks
    induction ks with
    | nil => intro l vs _; rfl
    | cons k ks ih =>
      intro l vs r
      cases r with
      | nil => rfl
      | cons h r => simp only [List.zip_cons_cons, List.any_cons, ih r]
  have hmap : ∀ {ks : List κ} {l : List T} {vs : List V}, RepL K G ι l vs → ((ks.zip l).map fun kv => if kv.1 = q then (kv.1, t) else kv).map (·.1) = ((ks.zip vs).map fun kv => if kv.1 = q then (kv.1, z) else kv).map (·.1) ∧
      RepL K G ι (((ks.zip l).map fun kv => if kv.1 = q then (kv.1, t) else kv).map (·.2)) (((ks.zip vs).map fun kv => if kv.1 = q then (kv.1, z) else kv).map (·.2)) := by
    intro ks
    induction ks with
    | nil => intro l vs _; exact ⟨rfl, .nil⟩
    | cons k ks ih =>
      intro l vs r
      cases r with
      | nil => exact ⟨rfl, .nil⟩
      | cons h r =>
        obtain ⟨i1, i2⟩ := ih r
        simp only [List.zip_cons_cons, List.map_cons]
        by_cases e : k = q
        · simp only [e, if_true]; exact ⟨by rw [i1], .cons rt i2⟩
        · simp only [e, if_false]; exact ⟨by rw [i1], .cons h i2⟩
  have hsnd : ∀ {ks : List κ} {l : List T} {vs : List V}, RepL K G ι l vs → (ks.zip l).map (·.1) = (ks.zip vs).map (·.1) ∧ RepL K G ι ((ks.zip l).map (·.2)) ((ks.zip vs).map (·.2)) := by
    intro ks
    induction ks with
    | nil => intro l vs _; exact ⟨rfl, .nil⟩
    | cons k ks ih =>
      intro l vs r
      cases r with
      | nil => exact ⟨rfl, .nil⟩
      | cons h r => exact ⟨by simp only [List.zip_cons_cons, List.map_cons, (ih r).1], .cons h (ih r).2⟩
  unfold dP putK
  rw [hany r]
  split
  · exact hmap r
  · obtain ⟨e1, e2⟩ := hsnd (ks := ks) r
    refine ⟨by simp only [List.map_append, List.map_cons, List.map_nil, e1], ?_⟩
    rw [List.map_append, List.map_append]
    exact e2.append (.one rt)
theorem zip_self' {α β : Type} : ∀ l : List (α × β), (l.map (·.1)).zip (l.map (·.2)) = l
  | [] => rfl
  | p :: l => by simp only [List.map_cons, List.zip_cons_cons, zip_self' l]
/-- d[k] = t -/
theorem dPut_rep {c c' : Cell} {k t : T} {y z : V} {vs : List V} {o : HO} (d : DO c vs o) (r : RepL K G ι c.vals vs) (e : dPut c k t = some c') (rk : PRep K G ι H k y) (rt : Rep K G ι t z) (gs : Le G H) (ha : H a = some o) :
    ∃ vs' o', DPut H a y z (upd H a o') ∧ DO c' vs' o' ∧ RepL K G ι c'.vals vs' := by
  cases c with
  | lst _ => exact d.elim
  | dk ks l =>
    obtain ⟨rfl, h0⟩ := d
    simp only [dPut] at e
    cases ek : kOf k with
    | none => rw [ek] at e; cases e
    | some q =>
      rw [ek] at e
      obtain ⟨hz, rfl⟩ := ite_some e
      have := kOf_rep ek rk
      subst this
      obtain ⟨e1, e2⟩ := dP_rep (q := q) (ks := ks) rt (show RepL K G ι l vs from r)
      refine ⟨(putK (ks.zip vs) q z).map (fun p : Key × V => p.2), _, .k ha (by rw [List.length_zip]; omega), ⟨?_, by rw [List.length_map, List.length_map]⟩, e2⟩
      rw [e1, zip_self']
  | dt ks l =>
    obtain ⟨rfl, h0⟩ := d
    simp only [dPut] at e
    cases ek : ksOf k with
    | none => rw [ek] at e; cases e
    | some q =>
      rw [ek] at e
      obtain ⟨hz, rfl⟩ := ite_some e
      obtain ⟨b, rfl, hb⟩ := ksOf_rep ek rk
      obtain ⟨e1, e2⟩ := dP_rep (q := q) (ks := ks) rt (show RepL K G ι l vs from r)
      refine ⟨(putK (ks.zip vs) q z).map (fun p : List Key × V => p.2), _, .t ha (gs _ _ hb) (by rw [List.length_zip]; omega), ⟨?_, by rw [List.length_map, List.length_map]⟩, e2⟩
      rw [e1, zip_self']
end

/-! ### comprehensions of dicts -/
def turnD (Γ : Cl) (own : List Nat) (tg : Tg) (k v : E) (env : En) (x : T) (h2 : Hs) : Out (T × T) := match putTg tg (wipeE env own) x with
  | none => .stuck
  | some env2 => (ev Γ k env2 h2).bind fun y h3 => match y.k with
    | none => .stuck
    | some tk => (ev Γ v env2 h3).bind fun z h4 => .of (z.k.map fun tv => (tk, tv)) h4
theorem ev_dc {Γ : Cl} {b : Bool} {own : List Nat} {tg : Tg} {it : It} {k v : E} {env : En} {h : Hs} : ev Γ (.dc b own tg it k v) env h = (evI Γ false it env h).bind fun xs h1 =>
    if xs.length ≤ sizeLine ∧ freeE env own = true then (noX (dcL (turnD Γ own tg k v env) xs (dEmp b) h1)).bind fun c h5 => .ok (.new c) h5 else .stuck := by
  rw [ev]; rfl
theorem wipe_wipe (vs : List Nat) (σ : St) : L2.wipe (L2.wipe σ vs) vs = L2.wipe σ vs := wipe_twice vs σ
section
variable {X : Cx} {W : L2.WX} {Γ : Cl} {g : Gx} {b : Bool} {k v : E} {ek evv tg it : Expr} {pos : Pos} {scope : Scope}
def hoE (b : Bool) : HO := if b then .dT [] else .dK []
theorem do_emp : DO (dEmp b) [] (hoE b) := by cases b <;> exact ⟨rfl, rfl⟩
/-- what holds between two turns -/
structure DcInv (K : PySem.W.Frag) (O G : Hp) (ι : List Addr) (env : En) (σ : St) (D : Addr) (f : T → Hs → Out (T × T)) (xs : List T) (ce : Cell) (h5 : Hs) (i : Nat) (H : Hp) : Prop where
  ex : ∃ G' ι' h c vs o, Le G G' ∧ ι <+: ι' ∧ SRel K (upd O D o) G' ι' env h σ H ∧ DO c vs o ∧ RepL K G' ι' c.vals vs ∧ dcL f (xs.drop i) c h = .ok ce h5
theorem dPut_is {c c' : Cell} {kt t : T} (e : dPut c kt t = some c') : isDct c'.t = true := by
  cases c with
  | lst _ => cases e
  | dk ks l =>
    simp only [dPut] at e
    cases ek : kOf kt with
    | none => rw [ek] at e; cases e
    | some q => rw [ek] at e; obtain ⟨_, rfl⟩ := ite_some e; rfl
  | dt ks l =>
    simp only [dPut] at e
    cases ek : ksOf kt with
    | none => rw [ek] at e; cases e
    | some q => rw [ek] at e; obtain ⟨_, rfl⟩ := ite_some e; rfl
theorem i_dc {own : List Nat} {N : List Str} {tgT : Tg} {itT : It} (ht : ∀ i ∈ tgSlots tgT, i ∈ own) : ∀ σ H Q, RdE X W (ev Γ (.dc b own tgT itT k v)) σ H Q →
    tDc2 (hoE b) (RdI X W false (evI Γ false itT)) (gTg X.K tgT) (RdE X noW (ev Γ k)) (RdE X noW (ev Γ v)) ((own.map fun i => (N.getD i Str.empty, i)).map (·.2)) σ H Q := by
  rintro σ H Q ⟨O, G, ι, env, h, S, q⟩
  rw [ev_dc] at q
  have eo : (own.map fun i => (N.getD i Str.empty, i)).map (·.2) = own := by rw [List.map_map]; simp [Function.comp_def]
  rw [eo]
  refine rd_bind (R1 := rI X.K false) S q fun xs h1 G1 ι1 J H1 l1 p1 S1 io q1 => ?_
  intro D hD
  by_cases hz : xs.length ≤ sizeLine ∧ freeE env own = true
  case neg => rw [if_neg hz] at q1; exact q1.elim
  rw [if_pos hz] at q1
  obtain ⟨hz, hfree⟩ := hz
  obtain ⟨ce, h5, el, q2⟩ : ∃ ce h5, dcL (turnD Γ own tgT k v env) xs (dEmp b) h1 = .ok ce h5 ∧ OutG X W O G1 ι1 env σ (rP X.K O env σ) Q (.ok (.new ce) h5) := by
    cases el : dcL (turnD Γ own tgT k v env) xs (dEmp b) h1 with
    | ok ys h5 => rw [el] at q1; exact ⟨ys, h5, rfl, q1⟩
    | exc _ _ => rw [el] at q1; exact q1.elim
    | stuck => rw [el] at q1; exact q1.elim
  obtain ⟨SD, fD⟩ := S1.made (o := hoE b) hD
  have hO : O D = none := fD.2.1
  have w : Walk J xs.length (fun H => ∃ O' G' ι' h', Le G1 G' ∧ ι1 <+: ι' ∧ SRel X.K O' G' ι' env h' σ H) J.yld :=
    ⟨fun i H hi ⟨O', G', ι', h', l, p, S'⟩ => io.go i xs[i] O' G' ι' env h' σ H (.inr ⟨rfl, rfl⟩) l p S' (by simp [hi]), fun H ⟨O', G', ι', h', l, p, S'⟩ => io.stop O' G' ι' env h' σ H (.inr ⟨rfl, rfl⟩) l p S', fun _ _ _ _ _ _ y => y⟩
  refine ⟨fun i m Hx => m = xs.length - i ∧ i ≤ xs.length ∧ DcInv X.K O G1 ι1 env σ D (turnD Γ own tgT k v env) xs ce h5 i Hx, ⟨_, rfl, Nat.zero_le _, ⟨G1, ι1, h1, dEmp b, [], hoE b, Le.refl _, List.prefix_refl _, SD.more fD upd_same, do_emp, by cases b <;> exact .nil, el⟩⟩, ?_⟩
  rintro i m H2 ⟨rfl, hi, G', ι', h', c, vs, o, l, p, S', dd, ra, er⟩
  rcases Nat.lt_or_ge i xs.length with hlt | hge
  · refine .inr ⟨io.go i xs[i] _ G' ι' env h' σ H2 (.inr ⟨rfl, rfl⟩) l p S' (by simp [hlt]), DcInv X.K O G1 ι1 env σ D (turnD Γ own tgT k v env) xs ce h5 (i + 1), fun Hy z => ⟨xs.length - (i + 1), by omega, rfl, hlt, z⟩, fun x H3 y => ?_⟩
    obtain ⟨G2, l2, S2, rx, keep⟩ := io.yld i xs[i] _ G' ι' env h' σ H2 x H3 (.inr ⟨rfl, rfl⟩) l p S' (by simp [hlt]) y
    have ed : xs.drop i = xs[i] :: xs.drop (i + 1) := by simp
    rw [ed, dcL] at er
    cases et : turnD Γ own tgT k v env xs[i] h' with
    | exc _ _ => rw [et] at er; cases er
    | stuck => rw [et] at er; cases er
    | ok kv h2 =>
    rw [et] at er
    simp only [Out.bind_ok] at er
    cases ep2 : dPut c kv.1 kv.2 with
    | none => rw [ep2] at er; cases er
    | some c1 =>
    rw [ep2] at er
    simp only at er
    unfold turnD at et
    cases ep : putTg tgT (wipeE env own) xs[i] with
    | none => rw [ep] at et; cases et
    | some env2 =>
    rw [ep] at et
    simp only at et
    refine gTg_ok (S2.wipe own) rx ep fun σ2 S3 sets => ⟨?_, ?_⟩
    · rw [(sets.mono ht).wipe]
      exact wipe_wipe own σ
    have agree : ∀ i, i ∉ own → env2[i]? = env[i]? ∧ σ2[i]? = σ[i]? := fun j hj => by
      refine ⟨by rw [putTg_slots ep j (fun z => hj (ht j z)), wipeE_out hj], ?_⟩
      have e1 := (sets.mono ht).wipe
      have e2 : (L2.wipe σ2 own)[j]? = (L2.wipe (L2.wipe σ own) own)[j]? := by rw [e1]
      rw [wipe_out hj, wipe_out hj, wipe_out hj] at e2
      exact e2
    have close : ∀ {G4 : Hp} {ι4 : List Addr} {h4 : Hs} {H4 : Hp}, Le G2 G4 → ι' <+: ι4 → SRel X.K (upd O D o) G4 ι4 env2 h4 σ2 H4 → SRel X.K (upd O D o) G4 ι4 env h4 σ H4 :=
      fun l4 p4 S4 => S2.back S4 l4 p4 agree hfree
    refine ⟨_, G2, ι', env2, h', S3, ?_⟩
    cases ek2 : ev Γ k env2 h' with
    | exc _ _ => rw [ek2] at et; cases et
    | stuck => rw [ek2] at et; cases et
    | ok y1 h3 =>
    rw [ek2] at et
    simp only [Out.bind_ok] at et
    intro G4 ι4 vk H4 l4 p4 S4 rk
    cases eyk : y1.k with
    | none => rw [eyk] at et; cases et
    | some tk =>
    rw [eyk] at et
    simp only at et
    obtain ⟨G5, S5, l5, rtk⟩ := RepP.kept S4 rk eyk
    refine ⟨_, G5, ι4, env2, h3, S5, ?_⟩
    cases ev2 : ev Γ v env2 h3 with
    | exc _ _ => rw [ev2] at et; cases et
    | stuck => rw [ev2] at et; cases et
    | ok z1 h4 =>
    rw [ev2] at et
    simp only [Out.bind_ok] at et
    intro G6 ι6 vv H6 l6 p6 S6 rv
    cases ezk : z1.k with
    | none => rw [ezk] at et; cases et
    | some tv =>
    rw [ezk] at et
    injection et with et1 et2
    subst et1 et2
    obtain ⟨G7, S7, l7, rtv⟩ := RepP.kept S6 rv ezk
    have lk := l6.trans l7
    have Sb := close (l4.trans (l5.trans lk)) (p4.trans p6) S7
    have hDv : H6 D = some o := Sb.h.os D _ upd_same
    have rl : RepL X.K G7 ι6 c.vals vs := ra.mono (l2.trans (l4.trans (l5.trans lk))) (p4.trans p6)
    obtain ⟨vs', o', dp, dd', ra'⟩ := dPut_rep dd rl ep2 (.rep (rtk.mono lk p6)) rtv Sb.h.gs hDv
    have fr := fresh_of_more hO Sb
    have S8 := (Sb.less (le_upd hO)).other (o := o') fr
    exact ⟨_, dp, G7, ι6, h4, c1, vs', o', (l.trans l2).trans (l4.trans (l5.trans lk)), p.trans (p4.trans p6), S8.more fr upd_same, dd', ra', er⟩
  · have e : i = xs.length := by omega
    subst e
    refine .inl ⟨io.stop _ G' ι' env h' σ H2 (.inr ⟨rfl, rfl⟩) l p S', ?_⟩
    rw [List.drop_length, dcL] at er
    injection er with e1 e2
    subst e1 e2
    have fr := fresh_of_more hO S'
    exact q2 G' ι' _ H2 l p (S'.less (le_upd hO)) ⟨D, rfl, own_do dd ra (S'.h.os D _ upd_same), fr⟩
end
end Fx

set_option maxHeartbeats 4000000
namespace Fx
open PySem L2
open PyProof.Rows hiding St

section
variable {K : PySem.W.Frag} {O G G' : Hp} {ι ι' : List Addr} {env env' : En} {h : Hs} {σ σ' : St} {H : Hp}
theorem set_cases {α : Type} {l : List α} {i j : Nat} {a b : α} (h : (l.set i a)[j]? = some b) : (i = j ∧ a = b) ∨ (i ≠ j ∧ l[j]? = some b) := by
  by_cases e : i = j
  · subst e
    have hl : i < l.length := by
      have := (List.getElem?_eq_some_iff.mp h).1
      simpa using this
    rw [List.getElem?_set_self hl] at h
    exact .inl ⟨rfl, Option.some.inj h⟩
  · rw [List.getElem?_set_ne e] at h
    exact .inr ⟨e, h⟩
/-- a name's own list is kept for good -/
theorem SRel.frzSlot {i : Nat} {c : Cell} (S : SRel K O G ι env h σ H) (e : env[i]? = some (Slot.own c)) : ∃ G', Le G G' ∧ SRel K O G' ι (env.set i (.val c.t)) h σ H := by
  have hi : i < σ.length := by rw [← S.len]; exact (List.getElem?_eq_some_iff.mp e).1
  obtain ⟨a, ex, ho, g0, o0, n0⟩ := S.slot i _ σ[i] e (List.getElem?_eq_getElem hi)
  have le := frz_le (H := H) g0
  refine ⟨frz G H a, le, ⟨fun b u z => ?_, S.h.os, fun b u z => ?_, S.h.len, fun n d b h1 h2 => ?_, S.h.nd, fun b hb => ?_⟩, by rw [List.length_set]; exact S.len, fun j s x h1 h2 => ?_, fun j k b c' d ne h1 h2 h3 h4 => ?_⟩
  · by_cases q : b = a
    · subst q; rw [frz_same] at z; exact z
    · rw [frz_ne q] at z; exact S.h.gs b u z
  · have q : b ≠ a := fun q => by subst q; rw [o0] at z; cases z
    rw [frz_ne q]; exact S.h.dj b u z
  · exact (S.h.cell n d b h1 h2).mono le (List.prefix_refl _) fun _ z => z
  · have q : b ≠ a := fun q => by subst q; exact n0 hb
    rw [frz_ne q]; exact S.h.fr b hb
  · rcases set_cases h1 with ⟨q, rfl⟩ | ⟨q, h1⟩
    · subst q
      rw [List.getElem?_eq_getElem hi] at h2
      cases h2
      exact ⟨_, ex, rep_own c g0 ho⟩
    · have sl := S.slot j s x h1 h2
      cases s with
      | no => trivial
      | val t => obtain ⟨v, ev, r⟩ := sl; exact ⟨v, ev, r.mono le (List.prefix_refl _)⟩
      | own d =>
        obtain ⟨b, eb, r, g1, o1, n1⟩ := sl
        have nb : b ≠ a := fun z => by
          subst z
          subst eb
          exact S.nd i j b c d q e h1 (by rw [List.getElem?_eq_getElem hi, ex]) h2
        exact ⟨b, eb, r.mono le (List.prefix_refl _) fun _ z => z, by rw [frz_ne nb]; exact g1, o1, n1⟩
  · rcases set_cases h1 with ⟨q, z⟩ | ⟨q, h1⟩
    · cases z
    · rcases set_cases h2 with ⟨q2, z⟩ | ⟨q2, h2⟩
      · cases z
      · exact S.nd j k b c' d ne h1 h2 h3 h4
/-- a name's own list is changed -/
theorem SRel.wown {i : Nat} {c : Cell} {a : Addr} {o : HO} {c' : Cell} (S : SRel K O G ι env h σ H) (e : env[i]? = some (Slot.own c)) (ea : σ[i]? = some (some (.ref a))) (hn : OwnAt K G ι (upd H a o) a c') : SRel K O G ι (env.set i (.own c')) h σ (upd H a o) := by
  obtain ⟨a', ex, ho, g0, o0, n0⟩ := S.slot i _ _ e ea
  cases ex
  have keep : ∀ b, b ≠ a → ∀ u, H b = some u → upd H a o b = some u := fun b nb u z => by rw [upd_ne nb]; exact z
  refine ⟨⟨fun b u z => keep b (fun q => by subst q; rw [g0] at z; cases z) u (S.h.gs b u z), fun b u z => keep b (fun q => by subst q; rw [o0] at z; cases z) u (S.h.os b u z), S.h.dj, S.h.len, fun n d b h1 h2 => ?_, S.h.nd, S.h.fr⟩, by rw [List.length_set]; exact S.len, fun j s x h1 h2 => ?_, fun j k b c1 d ne h1 h2 h3 h4 => ?_⟩
  · exact (S.h.cell n d b h1 h2).mono (Le.refl _) (List.prefix_refl _) (keep b fun q => by subst q; exact n0 (List.mem_of_getElem? h2))
  · rcases set_cases h1 with ⟨q, rfl⟩ | ⟨q, h1⟩
    · subst q
      rw [ea] at h2
      cases h2
      exact ⟨a, rfl, hn, g0, o0, n0⟩
    · have sl := S.slot j s x h1 h2
      cases s with
      | no => trivial
      | val t => exact sl
      | own d =>
        obtain ⟨b, eb, r, g1, o1, n1⟩ := sl
        have nb : b ≠ a := fun z => by
          subst z
          subst eb
          exact S.nd i j b c d q e h1 ea h2
        exact ⟨b, eb, r.mono (Le.refl _) (List.prefix_refl _) (keep b nb), g1, o1, n1⟩
  · rcases set_cases h1 with ⟨q, z⟩ | ⟨q, h1⟩
    · subst q
      rcases set_cases h2 with ⟨q2, z⟩ | ⟨q2, h2⟩
      · exact absurd q2 ne
      · exact S.nd i k b c d ne e h2 h3 h4
    · rcases set_cases h2 with ⟨q2, z⟩ | ⟨q2, h2⟩
      · subst q2
        exact S.nd j i b c1 c ne h1 e h3 h4
      · exact S.nd j k b c1 d ne h1 h2 h3 h4
/-- a cell is changed -/
theorem SRel.wcell {n : Nat} {a : Addr} {o : HO} {c' : Cell} (S : SRel K O G ι env h σ H) (ea : ι[n]? = some a) (hn : OwnAt K G ι (upd H a o) a c') : SRel K O G ι env (h.set n c') σ (upd H a o) := by
  obtain ⟨g0, o0⟩ := S.h.fr a (List.mem_of_getElem? ea)
  have keep : ∀ b, b ≠ a → ∀ u, H b = some u → upd H a o b = some u := fun b nb u z => by rw [upd_ne nb]; exact z
  refine ⟨⟨fun b u z => keep b (fun q => by subst q; rw [g0] at z; cases z) u (S.h.gs b u z), fun b u z => keep b (fun q => by subst q; rw [o0] at z; cases z) u (S.h.os b u z), S.h.dj, by rw [List.length_set]; exact S.h.len, fun m d b h1 h2 => ?_, S.h.nd, S.h.fr⟩, S.len, fun j s x h1 h2 => ?_, S.nd⟩
  · rcases set_cases h1 with ⟨q, rfl⟩ | ⟨q, h1⟩
    · subst q
      rw [ea] at h2
      cases h2
      exact hn
    · refine (S.h.cell m d b h1 h2).mono (Le.refl _) (List.prefix_refl _) (keep b fun z => ?_)
      subst z
      exact q ((List.getElem?_inj (List.getElem?_eq_some_iff.mp ea).1 S.h.nd).mp (ea.trans h2.symm))
  · have sl := S.slot j s x h1 h2
    cases s with
    | no => trivial
    | val t => exact sl
    | own d =>
      obtain ⟨b, eb, r, g1, o1, n1⟩ := sl
      exact ⟨b, eb, r.mono (Le.refl _) (List.prefix_refl _) (keep b fun z => by subst z; exact n1 (List.mem_of_getElem? ea)), g1, o1, n1⟩
/-- a fresh thing becomes a cell -/
theorem SRel.box {a : Addr} {c : Cell} (S : SRel K O G ι env h σ H) (ho : OwnAt K G ι H a c) (f : Fresh O G ι env σ a) : SRel K O G (ι ++ [a]) env (h ++ [c]) σ H := by
  have pre : ι <+: ι ++ [a] := List.prefix_append _ _
  refine ⟨⟨S.h.gs, S.h.os, S.h.dj, by rw [List.length_append, List.length_append, S.h.len]; rfl, fun n d b h1 h2 => ?_, ?_, fun b hb => ?_⟩, S.len, fun j s x h1 h2 => ?_, S.nd⟩
  · by_cases hn : n < h.length
    · rw [List.getElem?_append_left hn] at h1
      rw [List.getElem?_append_left (by rw [S.h.len]; exact hn)] at h2
      exact (S.h.cell n d b h1 h2).mono (Le.refl _) pre fun _ z => z
    · rw [List.getElem?_append_right (by omega)] at h1
      rw [List.getElem?_append_right (by rw [S.h.len]; omega)] at h2
      have e1 : n - h.length = 0 := by
        cases q : n - h.length with
        | zero => rfl
        | succ k => rw [q] at h1; simp at h1
      rw [e1] at h1
      rw [S.h.len, e1] at h2
      cases h1; cases h2
      exact ho.mono (Le.refl _) pre fun _ z => z
  · rw [List.nodup_append]
    refine ⟨S.h.nd, by simp, fun b hb d hd => ?_⟩
    rw [List.mem_singleton] at hd
    subst hd
    exact fun z => by subst z; exact f.2.2.1 hb
  · rcases List.mem_append.mp hb with hb | hb
    · exact S.h.fr b hb
    · rw [List.mem_singleton] at hb
      subst hb
      exact ⟨f.1, f.2.1⟩
  · have sl := S.slot j s x h1 h2
    cases s with
    | no => trivial
    | val t => obtain ⟨v, ev, r⟩ := sl; exact ⟨v, ev, r.mono (Le.refl _) pre⟩
    | own d =>
      obtain ⟨b, eb, r, g1, o1, n1⟩ := sl
      refine ⟨b, eb, r.mono (Le.refl _) pre fun _ z => z, g1, o1, fun hb => ?_⟩
      rcases List.mem_append.mp hb with hb | hb
      · exact n1 hb
      · rw [List.mem_singleton] at hb
        subst hb
        subst eb
        exact f.2.2.2 j d h1 h2
/-- a fresh thing becomes a name's own -/
theorem SRel.setOwn {i : Nat} {a : Addr} {c : Cell} (S : SRel K O G ι env h σ H) (ho : OwnAt K G ι H a c) (f : Fresh O G ι env σ a) : SRel K O G ι (env.set i (.own c)) h (σ.set i (some (.ref a))) H where
  h := S.h
  len := by rw [List.length_set, List.length_set]; exact S.len
  slot := fun j s x h1 h2 => by
    rcases set_cases h1 with ⟨q, rfl⟩ | ⟨q, h1⟩
    · subst q
      rcases set_cases h2 with ⟨_, rfl⟩ | ⟨q2, _⟩
      · exact ⟨a, rfl, ho, f.1, f.2.1, f.2.2.1⟩
      · exact absurd rfl q2
    · rw [List.getElem?_set_ne q] at h2
      exact S.slot j s x h1 h2
  nd := fun j k b c1 d ne h1 h2 h3 h4 => by
    rcases set_cases h1 with ⟨q, z⟩ | ⟨q, h1⟩
    · subst q
      rcases set_cases h2 with ⟨q2, z⟩ | ⟨q2, h2⟩
      · exact absurd q2 ne
      · rw [List.getElem?_set_ne q2] at h4
        rcases set_cases h3 with ⟨_, z⟩ | ⟨q3, _⟩
        · cases z
          exact f.2.2.2 k d h2 h4
        · exact absurd rfl q3
    · rw [List.getElem?_set_ne q] at h3
      rcases set_cases h2 with ⟨q2, z⟩ | ⟨q2, h2⟩
      · subst q2
        rcases set_cases h4 with ⟨_, z⟩ | ⟨q3, _⟩
        · cases z
          exact f.2.2.2 j c1 h1 h3
        · exact absurd rfl q3
      · rw [List.getElem?_set_ne q2] at h4
        exact S.nd j k b c1 d ne h1 h2 h3 h4
end

/-! ### what a statement's outcome asks -/
def OutF (X : Cx) (W : L2.WX) (O G : Hp) (ι : List Addr) (D : Ends) : Fl → Prop
  | .nx env h => ∀ G' ι' σ' H', Le G G' → ι <+: ι' → SRel X.K O G' ι' env h σ' H' → D.nx σ' H'
  | .bk env h => ∀ G' ι' σ' H', Le G G' → ι <+: ι' → SRel X.K O G' ι' env h σ' H' → D.bk σ' H'
  | .ct env h => ∀ G' ι' σ' H', Le G G' → ι <+: ι' → SRel X.K O G' ι' env h σ' H' → D.ct σ' H'
  | .rt r h => ∀ G' ι' v H', Le G G' → ι <+: ι' → HRel X.K O G' ι' h H' → RepC X.K O G' ι' H' r v → D.rt v H'
  | .exc e env h => ∀ G' ι' cls d σ' H', Le G G' → ι <+: ι' → SRel X.K O G' ι' env h σ' H' → RepX X.mg X.K G' ι' e cls d → W cls d σ' H'
  | .stuck => False
def RdS (X : Cx) (W : L2.WX) (f : En → Hs → Fl) : TS := fun D σ H => ∃ O G ι env h, SRel X.K O G ι env h σ H ∧ OutF X W O G ι D (f env h)
section
variable {X : Cx} {W : L2.WX} {O G G1 : Hp} {ι ι1 : List Addr} {D D' : Ends} {fl : Fl} {env : En} {h : Hs} {σ : St} {H : Hp}
theorem OutF.mono (l : Le G G1) (p : ι <+: ι1) (q : OutF X W O G ι D fl) : OutF X W O G1 ι1 D fl := by
  cases fl with
  | nx env h => exact fun G' ι' σ' H' l' p' => q G' ι' σ' H' (l.trans l') (p.trans p')
  | bk env h => exact fun G' ι' σ' H' l' p' => q G' ι' σ' H' (l.trans l') (p.trans p')
  | ct env h => exact fun G' ι' σ' H' l' p' => q G' ι' σ' H' (l.trans l') (p.trans p')
  | rt r h => exact fun G' ι' v H' l' p' => q G' ι' v H' (l.trans l') (p.trans p')
  | exc e env h => exact fun G' ι' c d σ' H' l' p' => q G' ι' c d σ' H' (l.trans l') (p.trans p')
  | stuck => exact q
theorem rs_bind {α γ : Type} {f : En → Hs → Out α} {R1 : Hp → En → St → Hp → List Addr → Hp → α → γ → Prop} {k : α → Hs → Fl} {Φ : γ → Hp → Prop}
    (S : SRel X.K O G ι env h σ H) (q : OutF X W O G ι D ((f env h).fl env k))
    (hk : ∀ a h1 G1 ι1 v H1, Le G G1 → ι <+: ι1 → SRel X.K O G1 ι1 env h1 σ H1 → R1 O env σ G1 ι1 H1 a v → OutF X W O G1 ι1 D (k a h1) → Φ v H1) : RdG X W f R1 σ H Φ := by
  refine ⟨O, G, ι, env, h, S, ?_⟩
  cases e : f env h with
  | ok a h1 =>
    rw [e] at q
    exact fun G' ι' v H' l p S' r => hk a h1 G' ι' v H' l p S' r (q.mono l p)
  | exc e h1 => rw [e] at q; exact fun G' ι' cls d H' l p S' r => q G' ι' cls d σ H' l p S' r
  | stuck => rw [e] at q; exact q
theorem ret_ok {p : P} {v : V} (S : SRel X.K O G ι env h σ H) (r : RepP X.K O G ι env σ H p v) : RepC X.K O G ι H p.ret v := by
  cases p with
  | val t => exact r
  | new c => obtain ⟨a, e, h1, f⟩ := r; exact ⟨a, e, h1, f.1, f.2.1, f.2.2.1⟩
  | pk i c =>
    obtain ⟨a, e, h1, g, o, n⟩ := S.slot i _ _ r.1 r.2
    cases e
    exact ⟨a, rfl, h1, g, o, n⟩
end
end Fx

set_option maxHeartbeats 4000000
namespace Fx
open PySem L2
open PyProof.Rows hiding St

section
variable {X : Cx} {W : L2.WX} {Γ : Cl} {g : Gx} {a b c : E} {ea eb ec : Expr} {pos p1 p2 : Pos}
/-! ### plain statements -/
theorem z_pass : PS X (.Pass pos) (RdS X W (ex Γ .pass)) := by
  refine PS.imp ps_pass ?_
  rintro D σ H ⟨O, G, ι, env, h, S, q⟩
  rw [ex] at q
  exact q G ι σ H (Le.refl _) (List.prefix_refl _) S
def isComp : Expr → Bool
  | .ListComp .. => true
  | .SetComp .. => true
  | .DictComp .. => true
  | _ => false
theorem sw_none {e : Expr} {t : Option Expr} {l : Nat} {env : Env} (h : isComp e = false) : swapsWith e t l env = pure false := by
  unfold swapsWith
  cases e <;> first | rfl | cases h
theorem z_expr (h : isComp ea = false) (ha : PE X ea (RdE X W (ev Γ a))) : PS X (.Expr ea pos) (RdS X W (ex Γ (.expr a))) := by
  refine PS.imp (ps_expr ha (sw_none h)) ?_
  rintro D σ H ⟨O, G, ι, env, h, S, q⟩
  rw [ex] at q
  refine rs_bind (R1 := rP X.K) S q fun x h1 G1 ι1 v H1 l1 p1 S1 r1 q1 => ?_
  exact q1 _ _ σ H1 (Le.refl _) (List.prefix_refl _) S1
theorem z_ret (ha : PE X ea (RdE X W (ev Γ a))) : PS X (.Return (some ea) pos) (RdS X W (ex Γ (.ret a))) := by
  refine PS.imp (ps_ret ha) ?_
  rintro D σ H ⟨O, G, ι, env, h, S, q⟩
  rw [ex] at q
  refine rs_bind (R1 := rP X.K) S q fun x h1 G1 ι1 v H1 l1 p1 S1 r1 q1 => ?_
  exact q1 _ _ v H1 (Le.refl _) (List.prefix_refl _) S1.h (ret_ok S1 r1)
theorem z_retN : PS X (.Return none pos) (RdS X W (ex Γ .retN)) := by
  refine PS.imp ps_retN ?_
  rintro D σ H ⟨O, G, ι, env, h, S, q⟩
  rw [ex] at q
  exact q G ι .non H (Le.refl _) (List.prefix_refl _) S.h .non
theorem z_ite {sa sb : Ss} {ba bb : List Stmt} (hc : PT X ec (RdB X W (evB Γ c))) (ha : PSs X ba (RdS X W (exs Γ sa))) (hb : PSs X bb (RdS X W (exs Γ sb))) : PS X (.If ec ba bb pos) (RdS X W (ex Γ (.ite c sa sb))) := by
  refine PS.imp (ps_if hc ha hb) ?_
  rintro D σ H ⟨O, G, ι, env, h, S, q⟩
  rw [ex] at q
  have q' : OutF X W O G ι D ((evB Γ c env h).fl env fun b h1 => if b = true then exs Γ sa env h1 else exs Γ sb env h1) := by
    unfold evB
    cases e : ev Γ c env h with
    | ok x h1 =>
      rw [e] at q
      simp only [Out.fl_ok, Out.bind_ok] at q ⊢
      cases ex : truthB x with
      | none => rw [ex] at q; exact q
      | some k => rw [ex] at q; cases k <;> exact q
    | exc _ _ => rw [e] at q; exact q
    | stuck => rw [e] at q; exact q
  refine rs_bind (R1 := rB) S q' fun x h1 G1 ι1 v H1 l1 p1 S1 r1 q1 => ?_
  cases r1
  cases x with
  | true => rw [if_pos rfl] at q1 ⊢; exact ⟨O, G1, ι1, env, h1, S1, q1⟩
  | false => rw [if_neg Bool.false_ne_true] at q1 ⊢; exact ⟨O, G1, ι1, env, h1, S1, q1⟩

/-! ### blocks -/
theorem b_nil : PSs X [] (RdS X W (exs Γ .nil)) := by
  refine PSs.imp pss_nil ?_
  rintro D σ H ⟨O, G, ι, env, h, S, q⟩
  rw [exs] at q
  exact q G ι σ H (Le.refl _) (List.prefix_refl _) S
theorem b_cons {s : S} {r : Ss} {st : Stmt} {sts : List Stmt} (h1 : PS X st (RdS X W (ex Γ s))) (h2 : PSs X sts (RdS X W (exs Γ r))) : PSs X (st :: sts) (RdS X W (exs Γ (.cons s r))) := by
  refine PSs.imp (pss_cons h1 h2) ?_
  rintro D σ H ⟨O, G, ι, env, h, S, q⟩
  rw [exs] at q
  refine ⟨O, G, ι, env, h, S, ?_⟩
  cases e : ex Γ s env h with
  | nx env1 h1 =>
    rw [e] at q
    simp only [Fl.bind_nx] at q
    exact fun G' ι' σ' H' l p S' => ⟨O, G', ι', env1, h1, S', q.mono l p⟩
  | rt r h1 => rw [e] at q; exact q
  | bk env1 h1 => rw [e] at q; exact q
  | ct env1 h1 => rw [e] at q; exact q
  | exc x env1 h1 => rw [e] at q; exact q
  | stuck => rw [e] at q; exact q
theorem b_frz {i : Nat} {r : Ss} {sts : List Stmt} (h2 : PSs X sts (RdS X W (exs Γ r))) : PSs X sts (RdS X W (exs Γ (.frz i r))) := by
  refine PSs.imp h2 ?_
  rintro D σ H ⟨O, G, ι, env, h, S, q⟩
  rw [exs] at q
  split at q
  · rename_i c e
    obtain ⟨G', l, S'⟩ := S.frzSlot e
    exact ⟨O, G', ι, _, h, S', q.mono l (List.prefix_refl _)⟩
  · exact ⟨O, G, ι, env, h, S, q⟩

/-! ### stores to names -/
def PAs (X : Cx) (W : L2.WX) (Γ : Cl) (g : Gx) (e : E) (ee : Expr) : Prop := ∀ (i : Nat) (t : Expr) (pos : Pos), ckN g i t = true → PS X (.Assign [t] ee pos) (tAsg (RdE X W (ev Γ e)) (gName i))
theorem pas_of (ok : XOk X W Γ g) (h : isComp ea = false) (ha : PE X ea (RdE X W (ev Γ a))) : PAs X W Γ g a ea := by
  intro i t pos ht
  cases t with
  | Name x p =>
    simp only [ckN, Bool.and_eq_true, decide_eq_true_eq] at ht
    obtain ⟨h1, h2⟩ := ht
    unfold locB at h2
    split at h2
    · rename_i e
      exact ps_set (by rw [ok.hN]; exact ok.nd) (by rw [ok.hN]; exact h1) (.inl (by rw [ok.sc]; exact e)) ha (sw_none h) (.inr (by rw [ok.sc]; exact e))
    · rename_i e
      exact ps_set (by rw [ok.hN]; exact ok.nd) (by rw [ok.hN]; exact h1) (.inr (by rw [ok.sc]; exact e)) ha (sw_none h) (.inl (by rw [ok.fn]; exact h2))
    · cases h2
  | _ => cases ht
variable {i : Nat} {t : Expr}
theorem z_asg (ha : PAs X W Γ g a ea) (ht : ckN g i t = true) : PS X (.Assign [t] ea pos) (RdS X W (ex Γ (.asg i a))) := by
  refine PS.imp (ha i t pos ht) ?_
  rintro D σ H ⟨O, G, ι, env, h, S, q⟩
  rw [ex] at q
  refine rs_bind (R1 := rP X.K) S q fun x h1 G1 ι1 v H1 l1 p1 S1 r1 q1 => ?_
  cases e : x.k with
  | none => rw [e] at q1; exact q1.elim
  | some t =>
    rw [e] at q1
    obtain ⟨G2, S2, l2, r2⟩ := RepP.kept S1 r1 e
    exact q1 G2 ι1 _ H1 l2 (List.prefix_refl _) (S2.set r2)
theorem z_asgO (ha : PAs X W Γ g a ea) (ht : ckN g i t = true) : PS X (.Assign [t] ea pos) (RdS X W (ex Γ (.asgO i a))) := by
  refine PS.imp (ha i t pos ht) ?_
  rintro D σ H ⟨O, G, ι, env, h, S, q⟩
  rw [ex] at q
  refine rs_bind (R1 := rP X.K) S q fun x h1 G1 ι1 v H1 l1 p1 S1 r1 q1 => ?_
  cases x with
  | new c =>
    obtain ⟨p, rfl, ho, f⟩ := r1
    exact q1 G1 ι1 _ H1 (Le.refl _) (List.prefix_refl _) (S1.setOwn ho f)
  | val t => exact q1.elim
  | pk i c => exact q1.elim
theorem z_asgB (ha : PAs X W Γ g a ea) (ht : ckN g i t = true) : PS X (.Assign [t] ea pos) (RdS X W (ex Γ (.asgB i a))) := by
  refine PS.imp (ha i t pos ht) ?_
  rintro D σ H ⟨O, G, ι, env, h, S, q⟩
  rw [ex] at q
  refine rs_bind (R1 := rP X.K) S q fun x h1 G1 ι1 v H1 l1 p1 S1 r1 q1 => ?_
  cases x with
  | new c =>
    obtain ⟨p, rfl, ho, f⟩ := r1
    refine q1 G1 (ι1 ++ [p]) _ H1 (Le.refl _) (List.prefix_append _ _) ((S1.box ho f).set (.ref ?_))
    rw [← S1.h.len, List.getElem?_append_right (Nat.le_refl _), Nat.sub_self]
    rfl
  | val t => exact q1.elim
  | pk i c => exact q1.elim
theorem z_aug {op : PySem.Operator} {x : Str} (ok : XOk X W Γ g) (ho : op = .Add ∨ op = .Sub) (h1 : g.N[i]? = some x) (h2 : locB g x = true) (ha : PE X ea (RdE X W (ev Γ a))) : PS X (.AugAssign (.Name x p1) op ea pos) (RdS X W (ex Γ (.aug i op a))) := by
  have G0 : ∀ (f : Int → Int → Int), PIp X op (ipI f) → PS X (.AugAssign (.Name x p1) op ea pos) (tAug i (RdE X W (ev Γ a)) (ipI f)) := fun f hp => by
    unfold locB at h2
    split at h2
    · rename_i e
      exact ps_aug (by rw [ok.hN]; exact ok.nd) (by rw [ok.hN]; exact h1) (.inl (by rw [ok.sc]; exact e)) ha hp (.inr (by rw [ok.sc]; exact e))
    · rename_i e
      exact ps_aug (by rw [ok.hN]; exact ok.nd) (by rw [ok.hN]; exact h1) (.inr (by rw [ok.sc]; exact e)) ha hp (.inl (by rw [ok.fn]; exact h2))
    · cases h2
  have key : ∀ (f : Int → Int → Int), (∀ t u r, augT op t u = some r → ∃ m n, t = .int m ∧ u = .int n ∧ r = .int (f m n)) → ∀ D σ H, RdS X W (ex Γ (.aug i op a)) D σ H → tAug i (RdE X W (ev Γ a)) (ipI f) D σ H := by
    rintro f hf D σ H ⟨O, G, ι, env, h, S, q⟩
    rw [ex] at q
    split at q
    · rename_i t e
      have hi : i < σ.length := by rw [← S.len]; exact (List.getElem?_eq_some_iff.mp e).1
      obtain ⟨v, ev', rv⟩ := S.slot i _ σ[i] e (List.getElem?_eq_getElem hi)
      refine ⟨v, by rw [List.getElem?_eq_getElem hi, ev'], ?_⟩
      refine rs_bind (R1 := rP X.K) S q fun y h1 G1 ι1 w H1 l1 p1 S1 r1 q1 => ?_
      obtain ⟨G1', S1', l1', o1⟩ := RepP.opd S1 r1
      have r := o1.at S1'
      cases er : augT op t y.t with
      | none => rw [er] at q1; exact q1.elim
      | some u =>
        rw [er] at q1
        obtain ⟨m, n, e1, e2, e3⟩ := hf _ _ _ er
        subst e1 e3
        rw [e2] at r
        cases rv
        cases r.int
        exact ⟨m, n, rfl, rfl, q1 G1 ι1 _ H1 (Le.refl _) (List.prefix_refl _) (S1.set .int)⟩
    · exact q.elim
  rcases ho with rfl | rfl
  · refine PS.imp (G0 _ ip_add) (key _ fun t u r e => ?_)
    cases t <;> cases u <;> simp [augT] at e
    exact ⟨_, _, rfl, rfl, e.symm⟩
  · refine PS.imp (G0 _ ip_sub) (key _ fun t u r e => ?_)
    cases t <;> cases u <;> simp [augT] at e
    exact ⟨_, _, rfl, rfl, e.symm⟩

/-! ### loops -/
def notSet : Expr → Bool
  | .Set .. => false
  | _ => true
theorem fold_ok {e : Expr} {env : Env} (h : notSet e = true) : ∀ x, foldedSetIterable e env x = pure x := fun x => by
  unfold foldedSetIterable
  cases e <;> first | rfl | cases h
theorem z_for (ok : XOk X W Γ g) {tgT : Tg} {itT : It} {sb : Ss} {tg it : Expr} {body : List Stmt} (hi : PI X tg it (RdI X W true (evI Γ true itT))) (hf : notSet it = true) (ht : ckTg g tgT tg = true) (hb : PSs X body (RdS X W (exs Γ sb))) :
    PS X (.For tg it body [] pos) (RdS X W (ex Γ (.forr tgT itT sb))) := by
  refine PS.imp (ps_for ok.own ok.calm hi (g_tg ok ht) hb (fold_ok hf)) ?_
  rintro D σ H ⟨O, G, ι, env, h, S, q⟩
  rw [ex] at q
  refine rs_bind (R1 := rI X.K true) S q fun xs h1 G1 ι1 J H1 l1 p1 S1 io q1 => ?_
  have w : Walk J xs.length (fun H => ∃ O' G' ι' env' h' σ', Le G1 G' ∧ ι1 <+: ι' ∧ SRel X.K O' G' ι' env' h' σ' H) J.yld :=
    ⟨fun i H hi ⟨O', G', ι', env', h', σ', l, p, S'⟩ => io.go i xs[i] O' G' ι' env' h' σ' H (.inl rfl) l p S' (by simp [hi]), fun H ⟨O', G', ι', env', h', σ', l, p, S'⟩ => io.stop O' G' ι' env' h' σ' H (.inl rfl) l p S', fun _ _ _ _ _ _ y => y⟩
  refine for_it w (fun i σ' H' => ∃ G' ι' env' h', Le G1 G' ∧ ι1 <+: ι' ∧ SRel X.K O G' ι' env' h' σ' H' ∧ OutF X W O G' ι' D (forL tgT (exs Γ sb) (xs.drop i) env' h')) ?_ ?_ ?_ ?_
  · exact ⟨G1, ι1, env, h1, Le.refl _, List.prefix_refl _, S1, q1⟩
  · rintro i σ' H' _ ⟨G', ι', env', h', l, p, S', _⟩
    exact ⟨O, G', ι', env', h', σ', l, p, S'⟩
  · rintro i x σ2 H2 H3 hi ⟨G', ι', env', h', l, p, S', q'⟩ y
    obtain ⟨G2, l2, S2, rx, _⟩ := io.yld i xs[i] O G' ι' env' h' σ2 H2 x H3 (.inl rfl) l p S' (by simp [hi]) y
    have ed : xs.drop i = xs[i] :: xs.drop (i + 1) := by simp
    rw [ed, forL] at q'
    cases ep : putTg tgT env' xs[i] with
    | none => rw [ep] at q'; exact q'.elim
    | some env2 =>
    rw [ep] at q'
    simp only at q'
    have q2 := q'.mono l2 (List.prefix_refl _)
    refine gTg_ok S2 rx ep fun σ3 S3 _ => ⟨O, G2, ι', env2, h', S3, ?_⟩
    cases eb : exs Γ sb env2 h' with
    | nx env3 h3 =>
      rw [eb] at q2
      exact fun G4 ι4 σ4 H4 l4 p4 S4 => ⟨G4, ι4, env3, h3, (l.trans l2).trans l4, p.trans p4, S4, q2.mono l4 p4⟩
    | ct env3 h3 =>
      rw [eb] at q2
      exact fun G4 ι4 σ4 H4 l4 p4 S4 => ⟨G4, ι4, env3, h3, (l.trans l2).trans l4, p.trans p4, S4, q2.mono l4 p4⟩
    | bk env3 h3 =>
      rw [eb] at q2
      exact fun G4 ι4 σ4 H4 l4 p4 S4 => q2 G4 ι4 σ4 H4 l4 p4 S4
    | rt r h3 => rw [eb] at q2; exact q2
    | exc x env3 h3 => rw [eb] at q2; exact q2
    | stuck => rw [eb] at q2; exact q2
  · rintro σ2 H2 ⟨G', ι', env', h', l, p, S', q'⟩
    rw [List.drop_length, forL] at q'
    exact q' G' ι' σ2 H2 (Le.refl _) (List.prefix_refl _) S'
theorem z_whl (ok : XOk X W Γ g) {sb : Ss} {body : List Stmt} (hc : PT X ec (RdB X W (evB Γ c))) (hb : PSs X body (RdS X W (exs Γ sb))) : PS X (.While ec body [] pos) (RdS X W (ex Γ (.whl c sb))) := by
  refine PS.imp (ps_while ok.own hc hb) ?_
  rintro D σ H ⟨O, G, ι, env, h, S, q⟩
  rw [ex] at q
  refine ⟨fun m σ' H' => ∃ G' ι' env' h', SRel X.K O G' ι' env' h' σ' H' ∧ OutF X W O G' ι' D (whlL (ev Γ c) (exs Γ sb) m env' h'), ⟨turns, G, ι, env, h, S, q⟩, ?_⟩
  rintro m σ1 H1 ⟨G1, ι1, env1, h1, S1, q1⟩
  cases m with
  | zero => exact q1.elim
  | succ n =>
    rw [whlL] at q1
    have q' : OutF X W O G1 ι1 D ((evB Γ c env1 h1).fl env1 fun b h2 => if b = true then (match exs Γ sb env1 h2 with
        | .nx env2 h2 => whlL (ev Γ c) (exs Γ sb) n env2 h2
        | .ct env2 h2 => whlL (ev Γ c) (exs Γ sb) n env2 h2
        | .bk env2 h2 => .nx env2 h2
        | r => r) else .nx env1 h2) := by
      unfold evB
      cases e : ev Γ c env1 h1 with
      | ok x h1 =>
        rw [e] at q1
        simp only [Out.fl_ok, Out.bind_ok] at q1 ⊢
        cases ex : truthB x with
        | none => rw [ex] at q1; exact q1
        | some k => rw [ex] at q1; cases k <;> exact q1
      | exc _ _ => rw [e] at q1; exact q1
      | stuck => rw [e] at q1; exact q1
    refine rs_bind (R1 := rB) S1 q' fun x h2 G2 ι2 v H2 l2 p2 S2 r2 q2 => ?_
    cases r2
    cases x with
    | false => rw [if_neg Bool.false_ne_true] at q2 ⊢; exact q2 G2 ι2 σ1 H2 (Le.refl _) (List.prefix_refl _) S2
    | true =>
      rw [if_pos rfl] at q2 ⊢
      refine ⟨fun σ' H' => ∃ G' ι' env' h', SRel X.K O G' ι' env' h' σ' H' ∧ OutF X W O G' ι' D (whlL (ev Γ c) (exs Γ sb) n env' h'), fun σ' H' z => ⟨n, Nat.lt_succ_self n, z⟩, O, G2, ι2, env1, h2, S2, ?_⟩
      cases eb : exs Γ sb env1 h2 with
      | nx env3 h3 =>
        rw [eb] at q2
        exact fun G4 ι4 σ4 H4 l4 p4 S4 => ⟨G4, ι4, env3, h3, S4, q2.mono l4 p4⟩
      | ct env3 h3 =>
        rw [eb] at q2
        exact fun G4 ι4 σ4 H4 l4 p4 S4 => ⟨G4, ι4, env3, h3, S4, q2.mono l4 p4⟩
      | bk env3 h3 =>
        rw [eb] at q2
        exact fun G4 ι4 σ4 H4 l4 p4 S4 => q2 G4 ι4 σ4 H4 l4 p4 S4
      | rt r h3 => rw [eb] at q2; exact q2
      | exc x env3 h3 => rw [eb] at q2; exact q2
      | stuck => rw [eb] at q2; exact q2
end
end Fx

set_option maxHeartbeats 4000000
namespace Fx
open PySem L2
open PyProof.Rows hiding St

section
variable {X : Cx} {W : L2.WX} {Γ : Cl} {g : Gx} {a b c : E} {ea eb ec : Expr} {pos p1 p2 : Pos}
/-- a list comprehension that is given to a name -/
theorem pas_lc (ok : XOk X W Γ g) {own : List Nat} {tgT : Tg} {itT : It} {co : OE} {e : E} {ee tg it : Expr} {ifs : List Expr} {scope : Scope} (ho : blkC g.N g.sc scope (own.map fun i => (g.N.getD i Str.empty, i)) = true) (ht : ∀ i ∈ tgSlots tgT, i ∈ own) (hc : ckTg (blkG g scope) tgT tg = true)
    (hi : PI X tg it (RdI X W false (evI Γ false itT))) (hf : ∀ x, foldedSetIterable it X.env x = pure x)
    (hcs : ∀ (X' : Cx), XOk X' noW Γ (blkG g scope) → PTs X' ifs (RdC X' noW Γ co)) (he : ∀ (X' : Cx), XOk X' noW Γ (blkG g scope) → PE X' ee (RdE X' noW (ev Γ e))) (hk : g.sc.kind = .function) :
    PAs X W Γ g (.lc own tgT itT co e) (.ListComp ee [⟨tg, it, ifs, 0⟩] scope pos) := by
  intro i t spos hn
  have P0 := s_lc (pos := pos) ok ho ht hc hi hf hcs he
  cases t with
  | Name x p =>
    simp only [ckN, Bool.and_eq_true, decide_eq_true_eq] at hn
    obtain ⟨h1, h2⟩ := hn
    have bo : BlkOk X.N X.env.scope scope (own.map fun i => (g.N.getD i Str.empty, i)) := by
      rw [ok.hN, ok.sc]; exact blkOk_by ho
    by_cases hsw : (X.env.kindOf x == some .local && p.line == pos.line && !(scope.names.any fun (n, k) => n == x && (k == .local || k == .cell))) = true
    · simp only [Bool.and_eq_true, Bool.not_eq_true'] at hsw
      have hl : X.env.scope.names.lookup x = some .local := by
        have := hsw.1.1
        exact eq_of_beq this
      have s1 : swapsWith (.ListComp ee [⟨tg, it, ifs, 0⟩] scope pos) (some (.Name x p)) spos.line X.env = pure true := sw_true (by rw [ok.sc]; exact hk) hl hsw.1.2 hsw.2
      refine PS.imp (ps_setLc (X := X) (g := gTg X.K tgT) (tt := RdC X noW Γ co) (te := RdE X noW (ev Γ e)) ok.calm (by rw [ok.hN]; exact ok.nd) (by rw [ok.hN]; exact h1) hl s1 hi bo
        (fun s H C cl fp => g_tg (ok.blk s H C cl fp) hc) (fun s H C cl fp => hcs _ (ok.blk s H C cl fp)) (fun s H C cl fp => he _ (ok.blk s H C cl fp)) hf) ?_
      intro D σ H q
      exact i_lc ht σ H _ q
    · have s0 : swapsWith (.ListComp ee [⟨tg, it, ifs, 0⟩] scope pos) (some (.Name x p)) spos.line X.env = pure false := by
        unfold swapsWith
        have e1 : X.env.blockKind = .function := by
          unfold Env.blockKind
          rw [ok.sc, hk]
          rfl
        simp only [e1]
        have e2 : (X.env.kindOf x == some NameKind.local && p.line == (Expr.ListComp ee [⟨tg, it, ifs, 0⟩] scope pos).pos.line && !(scope.names.any fun (n, k) => n == x && (k == .local || k == .cell))) = false := by
          have : (Expr.ListComp ee [⟨tg, it, ifs, 0⟩] scope pos).pos = pos := rfl
          rw [this]
          exact Bool.eq_false_iff.mpr hsw
        show (pure _ : Sem Bool) = pure false
        congr 1
      unfold locB at h2
      split at h2
      · rename_i e
        exact ps_set (by rw [ok.hN]; exact ok.nd) (by rw [ok.hN]; exact h1) (.inl (by rw [ok.sc]; exact e)) P0 s0 (.inr (by rw [ok.sc]; exact e))
      · rename_i e
        exact ps_set (by rw [ok.hN]; exact ok.nd) (by rw [ok.hN]; exact h1) (.inr (by rw [ok.sc]; exact e)) P0 s0 (.inl (by rw [ok.fn]; exact h2))
      · cases h2
  | _ => cases hn

/-- one with two fors -/
theorem pas_lc2 (ok : XOk X W Γ g) {own : List Nat} {tgT tgT1 : Tg} {itT itT1 : It} {tg1 it1 : Expr} {co : OE} {e : E} {ee tg it : Expr} {ifs : List Expr} {scope : Scope} (ho : blkC g.N g.sc scope (own.map fun i => (g.N.getD i Str.empty, i)) = true) (ht : ∀ i ∈ tgSlots tgT, i ∈ own) (ht1 : ∀ i ∈ tgSlots tgT1, i ∈ own) (hc : ckTg (blkG g scope) tgT tg = true) (hc1 : ckTg (blkG g scope) tgT1 tg1 = true)
    (hi : PI X tg it (RdI X W false (evI Γ false itT))) (hf : ∀ x, foldedSetIterable it X.env x = pure x) (hf1 : ∀ env x, foldedSetIterable it1 env x = pure x)
    (hi1 : ∀ (X' : Cx), XOk X' noW Γ (blkG g scope) → PI X' tg1 it1 (RdI X' noW false (evI Γ false itT1)))
    (hcs : ∀ (X' : Cx), XOk X' noW Γ (blkG g scope) → PTs X' ifs (RdC X' noW Γ co)) (he : ∀ (X' : Cx), XOk X' noW Γ (blkG g scope) → PE X' ee (RdE X' noW (ev Γ e))) (hk : g.sc.kind = .function) :
    PAs X W Γ g (.lc2 own tgT itT tgT1 itT1 co e) (.ListComp ee [⟨tg, it, [], 0⟩, ⟨tg1, it1, ifs, 0⟩] scope pos) := by
  intro i t spos hn
  have P0 := s_lc2 (pos := pos) ok ho ht ht1 hc hc1 hi hf hf1 hi1 hcs he
  cases t with
  | Name x p =>
    simp only [ckN, Bool.and_eq_true, decide_eq_true_eq] at hn
    obtain ⟨h1, h2⟩ := hn
    have bo : BlkOk X.N X.env.scope scope (own.map fun i => (g.N.getD i Str.empty, i)) := by
      rw [ok.hN, ok.sc]; exact blkOk_by ho
    by_cases hsw : (X.env.kindOf x == some .local && p.line == pos.line && !(scope.names.any fun (n, k) => n == x && (k == .local || k == .cell))) = true
    · simp only [Bool.and_eq_true, Bool.not_eq_true'] at hsw
      have hl : X.env.scope.names.lookup x = some .local := by
        have := hsw.1.1
        exact eq_of_beq this
      have s1 : swapsWith (.ListComp ee [⟨tg, it, [], 0⟩, ⟨tg1, it1, ifs, 0⟩] scope pos) (some (.Name x p)) spos.line X.env = pure true := sw_true (by rw [ok.sc]; exact hk) hl hsw.1.2 hsw.2
      have eo : (own.map fun i => (g.N.getD i Str.empty, i)).map (·.2) = own := by rw [List.map_map]; simp [Function.comp_def]
      refine PS.imp (ps_setLc2 (X := X) (g := gTg X.K tgT) (g1 := gTg X.K tgT1) (tt := RdC X noW Γ .no) (wi1 := RdI X noW false (evI Γ false itT1)) (tt1 := RdC X noW Γ co) (te := RdE X noW (ev Γ e)) (vs1 := tgSlots tgT1) ok.calm (by rw [ok.hN]; exact ok.nd) (by rw [ok.hN]; exact h1) hl s1 hi bo (by rw [eo]; exact ht1)
        (fun s H C cl fp => g_tg (ok.blk s H C cl fp) hc) (fun s H C cl fp => c_no (W := noW) (Γ := Γ)) (fun s H C cl fp => hi1 _ (ok.blk s H C cl fp)) (fun s H C cl fp => g_tg (ok.blk s H C cl fp) hc1) (fun s H C cl fp => hcs _ (ok.blk s H C cl fp)) (fun s H C cl fp => he _ (ok.blk s H C cl fp)) hf hf1) ?_
      intro D σ H q
      exact i_lc2 ht σ H _ q
    · have s0 : swapsWith (.ListComp ee [⟨tg, it, [], 0⟩, ⟨tg1, it1, ifs, 0⟩] scope pos) (some (.Name x p)) spos.line X.env = pure false := by
        unfold swapsWith
        have e1 : X.env.blockKind = .function := by
          unfold Env.blockKind
          rw [ok.sc, hk]
          rfl
        simp only [e1]
        have e2 : (X.env.kindOf x == some NameKind.local && p.line == (Expr.ListComp ee [⟨tg, it, [], 0⟩, ⟨tg1, it1, ifs, 0⟩] scope pos).pos.line && !(scope.names.any fun (n, k) => n == x && (k == .local || k == .cell))) = false := by
          have : (Expr.ListComp ee [⟨tg, it, [], 0⟩, ⟨tg1, it1, ifs, 0⟩] scope pos).pos = pos := rfl
          rw [this]
          exact Bool.eq_false_iff.mpr hsw
        show (pure _ : Sem Bool) = pure false
        congr 1
      unfold locB at h2
      split at h2
      · rename_i e
        exact ps_set (by rw [ok.hN]; exact ok.nd) (by rw [ok.hN]; exact h1) (.inl (by rw [ok.sc]; exact e)) P0 s0 (.inr (by rw [ok.sc]; exact e))
      · rename_i e
        exact ps_set (by rw [ok.hN]; exact ok.nd) (by rw [ok.hN]; exact h1) (.inr (by rw [ok.sc]; exact e)) P0 s0 (.inl (by rw [ok.fn]; exact h2))
      · cases h2
  | _ => cases hn

/-! ### stores to places -/
theorem get_slot {O G : Hp} {ι : List Addr} {env : En} {h : Hs} {σ : St} {H : Hp} {i : Nat} {s : Slot} (S : SRel X.K O G ι env h σ H) (e : env[i]? = some s) (hs : s ≠ .no) : ∃ v, σ[i]? = some (some v) ∧ SlotOk X.K O G ι H (some v) s := by
  have hi : i < σ.length := by rw [← S.len]; exact (List.getElem?_eq_some_iff.mp e).1
  have sl := S.slot i _ σ[i] e (List.getElem?_eq_getElem hi)
  cases s with
  | no => exact absurd rfl hs
  | val t => obtain ⟨v, ev, r⟩ := sl; exact ⟨v, by rw [List.getElem?_eq_getElem hi, ev], v, rfl, r⟩
  | own c => obtain ⟨a, ev, r⟩ := sl; exact ⟨.ref a, by rw [List.getElem?_eq_getElem hi, ev], a, rfl, r⟩
theorem has_slot {O G : Hp} {ι : List Addr} {env : En} {h : Hs} {σ : St} {H : Hp} {i : Nat} (S : SRel X.K O G ι env h σ H) (e : hasSlot env i = true) : ∃ ov, σ[i]? = some (some ov) := by
  unfold hasSlot at e
  split at e
  · rename_i q; obtain ⟨v, hv, _⟩ := get_slot S q (by intro z; cases z); exact ⟨v, hv⟩
  · rename_i q; obtain ⟨v, hv, _⟩ := get_slot S q (by intro z; cases z); exact ⟨v, hv⟩
  · cases e
theorem setAt_ok {O G : Hp} {ι : List Addr} {env : En} {h : Hs} {σ : St} {H : Hp} {i : Nat} {k t : T} {ov kv v : V} {D : Ends} (S : SRel X.K O G ι env h σ H) (ho : σ[i]? = some (some ov)) (rk : PRep X.K G ι H k kv) (rt : Rep X.K G ι t v) (q : OutF X W O G ι D (setAt env h i k t)) :
    rSetL ov kv v H (fun H3 => ∃ env3 h3 G3, Le G G3 ∧ setAt env h i k t = .nx env3 h3 ∧ SRel X.K O G3 ι env3 h3 σ H3) := by
  unfold setAt at q ⊢
  split at q
  · rename_i l e
    obtain ⟨v0, hv0, a, ea, ⟨vs, h1, r1⟩, _⟩ := get_slot S e (by intro z; cases z)
    cases ea
    rw [ho] at hv0
    cases hv0
    split at q
    · rename_i z
      cases rk.int
      split at q
      · rename_i j ej
        refine ⟨a, vs, z, j, rfl, rfl, h1, by rw [← r1.length]; exact ej, _, h, G, Le.refl _, rfl, S.wown e ho ⟨_, upd_same, r1.set rt j⟩⟩
      · exact q.elim
    · exact q.elim
  · rename_i n e
    obtain ⟨v0, hv0, w, ew, rw'⟩ := get_slot S e (by intro z; cases z)
    cases ew
    rw [ho] at hv0
    cases hv0
    cases rw' with
    | @ref _ a hn =>
    split at q
    · rename_i l el
      obtain ⟨vs, h1, r1⟩ := S.h.cell n _ a el hn
      split at q
      · rename_i z
        cases rk.int
        split at q
        · rename_i j ej
          refine ⟨a, vs, z, j, rfl, rfl, h1, by rw [← r1.length]; exact ej, env, _, G, Le.refl _, rfl, S.wcell hn ⟨_, upd_same, r1.set rt j⟩⟩
        · exact q.elim
      · exact q.elim
    · exact q.elim
  · exact q.elim
def notSliceA (e : Expr) : Bool := notSlice e
theorem sub_form {o i : Expr} {env : Env} (h : notSlice i = true) : ∀ v, assign (.Subscript o i pos) env v = (do
      let ov ← holding [v] (eval o env)
      let iv ← holding [v, ov] (eval i env)
      standAt pos
      holding [v, ov, iv] (setItem ov iv v)
      release [v, ov, iv] []) := fun v => by
  cases i <;> first | rfl | cases h
theorem sub_each {o i : Expr} {es : List Expr} {env : Env} : assignEach (.Subscript o i pos :: es) env = (false, assign (.Subscript o i pos) env) :: assignEach es env := rfl
theorem pe_slot (ok : XOk X W Γ g) {i : Nat} {x : Str} {p : Pos} (h1 : g.N[i]? = some x) (h2 : visB g.sc x = true) (h3 : (x == ("__debug__" : Str)) = false) (h4 : (x == ("__classdict__" : Str)) = false) : PE X (.Name x p) (tVar i) :=
  pe_var (i := i) (by rw [ok.hN]; exact h1) (by rw [ok.sc]; exact vis_of h2) h3 h4
theorem sole_none {e t : Expr} {l : Nat} {env : Env} (h : isComp e = false) : swapsWithSole [t] e l env = pure false := by
  rw [swapsWithSole]; exact sw_none h
variable {i : Nat} {x : Str}
theorem z_seti (ok : XOk X W Γ g) {ix : E} {eix : Expr} (h1 : g.N[i]? = some x) (h2 : visB g.sc x = true) (h3 : (x == ("__debug__" : Str)) = false) (h4 : (x == ("__classdict__" : Str)) = false) (hs : notSlice eix = true) (hq : isComp ea = false) (hix : PE X eix (RdE X W (ev Γ ix))) (ha : PE X ea (RdE X W (ev Γ a)))
    (hw : swappedStores [.Subscript (.Name x p1) eix p2] ea X.env = pure none) : PS X (.Assign [.Subscript (.Name x p1) eix p2] ea pos) (RdS X W (ex Γ (.seti i ix a))) := by
  refine PS.imp (ps_asg ha (pg_sub (pe_slot ok h1 h2 h3 h4) hix set_list (sub_form hs)) (sole_none hq) hw rfl) ?_
  rintro D σ H ⟨O, G, ι, env, h, S, q⟩
  rw [ex] at q
  refine rs_bind (R1 := rP X.K) S q fun y h1 G1 ι1 v H1 l1 p1 S1 r1 q1 => ?_
  cases e : y.k with
  | none => rw [e] at q1; exact q1.elim
  | some t =>
    rw [e] at q1
    obtain ⟨G2, S2, l2, r2⟩ := RepP.kept S1 r1 e
    have q2 := q1.mono l2 (List.prefix_refl _)
    simp only at q2
    by_cases hh : hasSlot env i = true
    case neg => rw [if_neg hh] at q2; exact q2.elim
    rw [if_pos hh] at q2
    have hov := has_slot S2 hh
    obtain ⟨ov, hov⟩ := hov
    refine ⟨ov, hov, ?_⟩
    refine rs_bind (R1 := rP X.K) S2 q2 fun k h3 G3 ι3 kv H3 l3 p3 S3 r3 q3 => ?_
    obtain ⟨G4, S4, l4, o4⟩ := RepP.opd S3 r3
    have q4 := q3.mono l4 (List.prefix_refl _)
    obtain ⟨p, xs, z, j, e1, e2, e3, e4, env5, h5, G5, l5, e5, S5⟩ := setAt_ok S4 hov (o4.at S4) ((r2.mono l3 p3).mono l4 (List.prefix_refl _)) q4
    rw [e5] at q4
    exact ⟨p, xs, z, j, e1, e2, e3, e4, q4 G5 ι3 σ _ l5 (List.prefix_refl _) S5⟩
/-- x[a], x[b] = c, d -/
theorem swap_none {o1 i1 o2 i2 v1 v2 : Expr} {p3 p4 : Pos} {k1 k2 : Nat} {env : Env} : swappedStores [.Tuple [.Subscript o1 i1 p1, .Subscript o2 i2 p2] k1 p3] (.Tuple [v1, v2] k2 p4) env = pure none := by
  unfold swappedStores
  simp only []
  split
  · rfl
  · split
    · rfl
    · rfl
theorem z_swap (ok : XOk X W Γ g) {x1 x2 e1 e2 : E} {i1 i2 v1 v2 : Expr} {p3 p4 p5 p6 : Pos} {k1 k2 : Nat} (h1 : g.N[i]? = some x) (h2 : visB g.sc x = true) (h3 : (x == ("__debug__" : Str)) = false) (h4 : (x == ("__classdict__" : Str)) = false)
    (hs1 : notSlice i1 = true) (hs2 : notSlice i2 = true) (hx1 : PE X i1 (RdE X W (ev Γ x1))) (hx2 : PE X i2 (RdE X W (ev Γ x2))) (ha : PA X [v1, v2] (RdA X W (evs Γ (.cons e1 (.cons e2 .nil))))) :
    PS X (.Assign [.Tuple [.Subscript (.Name x p1) i1 p2, .Subscript (.Name x p3) i2 p4] k1 p5] (.Tuple [v1, v2] k2 p6) pos) (RdS X W (ex Γ (.swap i x1 x2 e1 e2))) := by
  refine PS.imp (ps_asg (pe_tup ha) (pg_tup ok.calm (pgs_cons (pg_sub (pe_slot ok h1 h2 h3 h4) hx1 set_list (sub_form hs1)) (pgs_cons (pg_sub (pe_slot ok h1 h2 h3 h4) hx2 set_list (sub_form hs2)) pgs_nil)))
    (sole_none rfl) swap_none rfl) ?_
  rintro D σ H ⟨O, G, ι, env, h, S, q⟩
  rw [ex] at q
  refine rs_bind (R1 := rTs X.K) S q fun ts h1 G1 ι1 vs H1 l1 p1 S1 r1 q1 => ?_
  cases r1 with
  | nil => exact q1.elim
  | @cons t v ts vs rt r1 =>
  cases r1 with
  | nil => exact q1.elim
  | @cons u w ts vs ru r1 =>
  cases r1 with
  | cons _ _ => exact q1.elim
  | nil =>
  simp only at q1
  refine ⟨by have := sizeLine_eq; simp; omega, fun tp htp => ?_⟩
  obtain ⟨S2, l2⟩ := S1.laid (o := .tup [v, w]) htp
  have rt2 := rt.mono l2 (List.prefix_refl _)
  have ru2 := ru.mono l2 (List.prefix_refl _)
  have q2 := q1.mono l2 (List.prefix_refl _)
  refine ⟨tp, [v, w], rfl, .inl (.inl upd_same), rfl, v, [w], rfl, ?_⟩
  by_cases hh : hasSlot env i = true
  case neg => rw [if_neg hh] at q2; exact q2.elim
  rw [if_pos hh] at q2
  obtain ⟨ov, hov⟩ := has_slot S2 hh
  refine ⟨ov, hov, ?_⟩
  refine rs_bind (R1 := rP X.K) S2 q2 fun k h3 G3 ι3 kv H3 l3 p3 S3 r3 q3 => ?_
  obtain ⟨G4, S4, l4, o4⟩ := RepP.opd S3 r3
  have q4 := q3.mono l4 (List.prefix_refl _)
  have rt4 := (rt2.mono l3 p3).mono l4 (List.prefix_refl _)
  have ru4 := (ru2.mono l3 p3).mono l4 (List.prefix_refl _)
  -- the first store
  have q4' : OutF X W O G4 ι3 { nx := fun σ' H' => True, rt := fun _ _ => True, bk := fun _ _ => True, ct := fun _ _ => True } (setAt env h3 i k.t t) := by
    cases e : setAt env h3 i k.t t with
    | nx _ _ => exact fun _ _ _ _ _ _ _ => trivial
    | bk _ _ => exact fun _ _ _ _ _ _ _ => trivial
    | ct _ _ => exact fun _ _ _ _ _ _ _ => trivial
    | rt _ _ => exact fun _ _ _ _ _ _ _ _ => trivial
    | exc x en hh => exfalso; unfold setAt at e; (repeat' split at e) <;> cases e
    | stuck => rw [e] at q4; exact q4
  obtain ⟨p, xs, z, j, e1, e2, e3, e4, env5, h5, G5, l5, e5, S5⟩ := setAt_ok S4 hov (o4.at S4) rt4 q4'
  rw [e5] at q4
  simp only [Fl.bind_nx] at q4
  refine ⟨p, xs, z, j, e1, e2, e3, e4, w, [], rfl, ?_⟩
  have q5 := q4.mono l5 (List.prefix_refl _)
  by_cases hh5 : hasSlot env5 i = true
  case neg => rw [if_neg hh5] at q5; exact q5.elim
  rw [if_pos hh5] at q5
  refine ⟨ov, hov, ?_⟩
  refine rs_bind (R1 := rP X.K) S5 q5 fun k2 h6 G6 ι6 kv2 H6 l6 p6 S6 r6 q6 => ?_
  obtain ⟨G7, S7, l7, o7⟩ := RepP.opd S6 r6
  have q7 := q6.mono l7 (List.prefix_refl _)
  obtain ⟨p', xs', z', j', f1, f2, f3, f4, env8, h8, G8, l8, e8, S8⟩ := setAt_ok S7 hov (o7.at S7) (((ru4.mono l5 (List.prefix_refl _)).mono l6 p6).mono l7 (List.prefix_refl _)) q7
  rw [e8] at q7
  exact ⟨p', xs', z', j', f1, f2, f3, f4, rfl, q7 G8 ι6 σ _ l8 (List.prefix_refl _) S8⟩
/-- x.append(e) -/
theorem z_app (ok : XOk X W Γ g) {apos : Pos} (h1 : g.N[i]? = some x) (h2 : visB g.sc x = true) (h3 : (x == ("__debug__" : Str)) = false) (h4 : (x == ("__classdict__" : Str)) = false) (hs : notStar ea = true) (hl : (apos.endLine == p2.line) = true) (ha : PE X ea (RdE X W (ev Γ a))) :
    PS X (.Expr (.Call (.Attribute (.Name x p1) "append" apos) [ea] [] p2) pos) (RdS X W (ex Γ (.app i a))) := by
  have few : ((backTo p2 (starEach [ea] X.env)).all (fun x => !x.1) && (backToKw p2 (keywordEach [] X.env)).all (fun x => x.1.isSome) && decide ([ea].length + ([] : List Keyword).length + (if ([] : List Keyword).isEmpty then 0 else 1) < 30)) = true := by
    rw [star_ok hs]; rfl
  refine PS.imp (ps_expr (pe_bm PySem.F.plainAttrs_list PySem.F.slot_list_append PySem.F.type_list_append mt_append (pe_slot ok h1 h2 h3 h4) (pa_cons ha pa_nil (star_ok hs)) (base_ok rfl) few hl (star_ok hs) (plain_ok rfl)) (sw_none rfl)) ?_
  rintro D σ H ⟨O, G, ι, env, h, S, q⟩
  rw [ex] at q
  by_cases hh : isLst env h i = true
  case neg => rw [if_neg hh] at q; exact q.elim
  rw [if_pos hh] at q
  -- the list
  have hv : ∃ p, σ[i]? = some (some (.ref p)) ∧ ∃ xs, H p = some (.lst xs) := by
    unfold isLst at hh
    split at hh
    · rename_i l e
      obtain ⟨v0, hv0, p, ep, ⟨vs, hp, _⟩, _⟩ := get_slot S e (by intro z; cases z)
      cases ep
      exact ⟨p, hv0, vs, hp⟩
    · rename_i n e
      obtain ⟨v0, hv0, w, ew, rw'⟩ := get_slot S e (by intro z; cases z)
      cases ew
      cases rw' with
      | @ref _ p hn =>
      split at hh
      · rename_i l el
        obtain ⟨vs, hp, _⟩ := S.h.cell n _ p el hn
        exact ⟨p, hv0, vs, hp⟩
      · cases hh
    · cases hh
  obtain ⟨p, hp, xs, hxs⟩ := hv
  refine ⟨.ref p, hp, .inl ⟨rfl, xs, SqL.of hxs⟩, ?_⟩
  refine rs_bind (R1 := rP X.K) S q fun y h1 G1 ι1 v H1 l1 p1 S1 r1 q1 => ?_
  cases e : y.k with
  | none => rw [e] at q1; exact q1.elim
  | some t =>
    rw [e] at q1
    obtain ⟨G2, S2, l2, r2⟩ := RepP.kept S1 r1 e
    have q2 := q1.mono l2 (List.prefix_refl _)
    simp only at q2
    split at q2
    · rename_i l e2
      obtain ⟨v0, hv0, p', ep, ⟨vs, hq, rq⟩, _⟩ := get_slot S2 e2 (by intro z; cases z)
      cases ep
      rw [hp] at hv0
      cases hv0
      split at q2
      · rename_i hl2
        exact ⟨p, vs, v, rfl, rfl, hq, by rw [← rq.length]; exact hl2, q2 G2 ι1 σ _ (Le.refl _) (List.prefix_refl _) (S2.wown e2 hp ⟨_, upd_same, rq.append (.one r2)⟩)⟩
      · exact q2.elim
    · rename_i n e2
      obtain ⟨v0, hv0, w, ew, rw'⟩ := get_slot S2 e2 (by intro z; cases z)
      cases ew
      rw [hp] at hv0
      cases hv0
      cases rw' with
      | ref hn =>
      split at q2
      · rename_i l el
        obtain ⟨vs, hq, rq⟩ := S2.h.cell n _ p el hn
        split at q2
        · rename_i hl2
          exact ⟨p, vs, v, rfl, rfl, hq, by rw [← rq.length]; exact hl2, q2 G2 ι1 σ _ (Le.refl _) (List.prefix_refl _) (S2.wcell hn ⟨_, upd_same, rq.append (.one r2)⟩)⟩
        · exact q2.elim
      · exact q2.elim
    · exact q2.elim
/-- a, b = a tuple -/
theorem z_asgT (ok : XOk X W Γ g) {l : List Nat} {es : List Expr} {k : Nat} (hl : ckNs g l es = true) (hq : isComp ea = false) (ha : PE X ea (RdE X W (ev Γ a))) (hw : swappedStores [.Tuple es k p1] ea X.env = pure none) : PS X (.Assign [.Tuple es k p1] ea pos) (RdS X W (ex Γ (.asgT l a))) := by
  obtain ⟨n1, n2, n3⟩ := g_names ok hl
  refine PS.imp (ps_asg ha (pg_tup ok.calm n1 n2 n3) (sole_none hq) hw rfl) ?_
  rintro D σ H ⟨O, G, ι, env, h, S, q⟩
  rw [ex] at q
  refine rs_bind (R1 := rP X.K) S q fun x h1 G1 ι1 v H1 l1 p1 S1 r1 q1 => ?_
  cases e : x.k with
  | none => rw [e] at q1; exact q1.elim
  | some t =>
    rw [e] at q1
    obtain ⟨G2, S2, l2, r2⟩ := RepP.kept S1 r1 e
    have q2 := q1.mono l2 (List.prefix_refl _)
    cases t with
    | tup ts =>
      simp only at q2
      cases ep : putEs env l ts with
      | none => rw [ep] at q2; exact q2.elim
      | some env1 =>
        rw [ep] at q2
        have : gTg X.K (.tp l) v σ H1 D.nx := gTg_ok (tg := .tp l) S2 r2 ep fun σ2 S3 _ => q2 G2 ι1 σ2 H1 (Le.refl _) (List.prefix_refl _) S3
        exact this
    | _ => exact q2.elim
/-- a, b = x, y with plain names -/
def parB (g : Gx) (i j : Nat) : Expr → Expr → Bool
  | .Tuple [.Name x p1, .Name y p2] _ _, .Tuple [v1, v2] _ _ => decide (g.N[i]? = some x) && decide (g.N[j]? = some y) && decide (g.sc.names.lookup x = some .local) && decide (g.sc.names.lookup y = some .local) && (p1.line == p2.line) && !(i == j) && !(x == y) &&
      (match g.sc.kind with | .function => true | _ => false) && notStar v1 && notStar v2 && !([v1, v2].all (foldedForSure 8)) && !([v1, v2].all (constantsAlone 8))
  | _, _ => false
theorem z_par (ok : XOk X W Γ g) {i j : Nat} {tg va : Expr} (hp : parB g i j tg va = true) (ha : ∀ v1 v2 k p, va = .Tuple [v1, v2] k p → PA X [v1, v2] (RdA X W (evs Γ (.cons a (.cons b .nil))))) : PS X (.Assign [tg] va pos) (RdS X W (ex Γ (.par i j a b))) := by
  unfold parB at hp
  split at hp
  · rename_i x p1 y p2 k1 p3 v1 v2 k2 p4
    simp only [Bool.and_eq_true, decide_eq_true_eq, Bool.not_eq_true'] at hp
    obtain ⟨⟨⟨⟨⟨⟨⟨⟨⟨⟨⟨h1, h2⟩, h3⟩, h4⟩, h5⟩, h6⟩, h7⟩, h8⟩, h9⟩, h10⟩, h11⟩, h12⟩ := hp
    have hij : i ≠ j := fun e => by rw [e] at h6; simp at h6
    have hk : g.sc.kind = .function := by
      split at h8
      · assumption
      · cases h8
    have sw : swappedStores [.Tuple [.Name x p1, .Name y p2] k1 p3] (.Tuple [v1, v2] k2 p4) X.env = pure (some [x, y]) := by
      have e1 : X.env.blockKind = .function := by
        unfold Env.blockKind
        rw [ok.sc, hk]
        rfl
      have kx : X.env.kindOf x = some .local := by show X.env.scope.names.lookup x = _; rw [ok.sc]; exact h3
      have ky : X.env.kindOf y = some .local := by show X.env.scope.names.lookup y = _; rw [ok.sc]; exact h4
      have nl : ([Expr.Name x p1, Expr.Name y p2].filterMap fun
          | .Name id pos => if X.env.kindOf id == some .local && pos.line == (([Expr.Name x p1, Expr.Name y p2].head?.map (·.pos.line)).getD 0) then some id else none
          | _ => none) = [x, y] := by
        have hl : (([Expr.Name x p1, Expr.Name y p2].head?.map (·.pos.line)).getD 0) = p1.line := rfl
        rw [hl]
        have hl2 : p2.line = p1.line := by rw [beq_iff_eq] at h5; exact h5.symm
        simp [List.filterMap_cons, kx, ky, hl2]
      unfold swappedStores
      dsimp only
      rw [if_neg (by simp [e1])]
      rw [if_neg (by
        intro z
        obtain ⟨v, hv, e⟩ := List.any_eq_true.mp z
        have hn : notStar v = true := by
          rcases List.mem_cons.mp hv with rfl | hv
          · exact h9
          · rw [List.mem_singleton] at hv; subst hv; exact h10
        clear z hv
        cases v <;> first | (simp [notStar] at hn; done) | (simp at e; done))]
      generalize hL : List.filterMap _ [Expr.Name x p1, Expr.Name y p2] = L
      have hL' : L = [x, y] := hL.symm.trans nl
      subst hL'
      clear hL nl
      have ned : ([x, y].eraseDups).length = 2 := by
        have : (y == x) = false := by
          rw [beq_eq_false_iff_ne] at h7 ⊢
          exact fun e => h7 e.symm
        simp [List.eraseDups_cons, this]
      rw [if_neg (by rw [ned]; simp)]
      rw [if_neg (by rw [h11]; simp)]
      rw [if_neg (by rw [h12]; simp)]
    refine PS.imp (ps_par ok.calm (by rw [ok.hN]; exact ok.nd) (by rw [ok.hN]; exact h1) (by rw [ok.hN]; exact h2) hij (by rw [ok.sc]; exact h3) (by rw [ok.sc]; exact h4) (ha v1 v2 k2 p4 rfl) sw (sole_none rfl)) ?_
    rintro D σ H ⟨O, G, ι, env, h, S, q⟩
    rw [ex] at q
    refine rs_bind (R1 := rTs X.K) S q fun ts h1 G1 ι1 vs H1 l1 p1 S1 r1 q1 => ?_
    cases r1 with
    | nil => exact q1.elim
    | @cons t v ts vs rt r1 =>
    cases r1 with
    | nil => exact q1.elim
    | @cons u w ts vs ru r1 =>
    cases r1 with
    | cons _ _ => exact q1.elim
    | nil => exact ⟨v, w, rfl, q1 G1 ι1 _ H1 (Le.refl _) (List.prefix_refl _) ((S1.set rt).set ru)⟩
  · cases hp
end
end Fx

set_option maxHeartbeats 4000000
namespace Fx
open PySem L2
open PyProof.Rows hiding St

section
variable {X : Cx} {W : L2.WX} {Γ : Cl} {g : Gx} {a b c k v d : E} {ea eb ec ek evv ed : Expr} {pos p1 p2 : Pos} {scope : Scope}
theorem hoE_ok {P : Program} {w : World} (bb : Bool) : ∀ (Hq : Hp) (hp : Heap), sysModules < hp.objs.size → ObjOk P w Hq (hp.push { cls := .type "dict", data := .dict #[] }) hp.objs.size (hoE bb) := fun Hq hp hb => by
  cases bb
  · exact dk_empty hp hb
  · exact dt_empty hp hb
theorem un1 (ok : XOk X W Γ g) : X.A.units + 1 < cLine := Nat.lt_of_le_of_lt (Nat.add_le_add_left (by decide) _) ok.un
/-- {k: v for ..} -/
theorem s_dc (ok : XOk X W Γ g) {bb : Bool} {own : List Nat} {tgT : Tg} {itT : It} {tg it : Expr} (ho : blkC g.N g.sc scope (own.map fun i => (g.N.getD i Str.empty, i)) = true) (ht : ∀ i ∈ tgSlots tgT, i ∈ own) (hc : ckTg (blkG g scope) tgT tg = true)
    (hi : PI X tg it (RdI X W false (evI Γ false itT))) (hf : ∀ x, foldedSetIterable it X.env x = pure x)
    (hk : ∀ (X' : Cx), XOk X' noW Γ (blkG g scope) → PE X' ek (RdE X' noW (ev Γ k))) (hv : ∀ (X' : Cx), XOk X' noW Γ (blkG g scope) → PE X' evv (RdE X' noW (ev Γ v))) :
    PE X (.DictComp ek evv [⟨tg, it, [], 0⟩] scope pos) (RdE X W (ev Γ (.dc bb own tgT itT k v))) := by
  have bo : BlkOk X.N X.env.scope scope (own.map fun i => (g.N.getD i Str.empty, i)) := by
    rw [ok.hN, ok.sc]; exact blkOk_by ho
  exact PE.imp (pe_dc2 (X := X) (pos := pos) (g := gTg X.K tgT) (tk := RdE X noW (ev Γ k)) (tv := RdE X noW (ev Γ v)) ok.calm (un1 ok) (by rw [ok.hN]; exact ok.nd) hi bo (hoE_ok bb)
    (fun s H C cl fp => g_tg (ok.blk s H C cl fp) hc) (fun s H C cl fp => hk _ (ok.blk s H C cl fp)) (fun s H C cl fp => hv _ (ok.blk s H C cl fp)) hf) (i_dc ht)
theorem pas_dc (ok : XOk X W Γ g) {bb : Bool} {own : List Nat} {tgT : Tg} {itT : It} {tg it : Expr} (ho : blkC g.N g.sc scope (own.map fun i => (g.N.getD i Str.empty, i)) = true) (ht : ∀ i ∈ tgSlots tgT, i ∈ own) (hc : ckTg (blkG g scope) tgT tg = true)
    (hi : PI X tg it (RdI X W false (evI Γ false itT))) (hf : ∀ x, foldedSetIterable it X.env x = pure x)
    (hkk : ∀ (X' : Cx), XOk X' noW Γ (blkG g scope) → PE X' ek (RdE X' noW (ev Γ k))) (hv : ∀ (X' : Cx), XOk X' noW Γ (blkG g scope) → PE X' evv (RdE X' noW (ev Γ v))) (hk : g.sc.kind = .function) :
    PAs X W Γ g (.dc bb own tgT itT k v) (.DictComp ek evv [⟨tg, it, [], 0⟩] scope pos) := by
  intro i t spos hn
  have P0 := s_dc (pos := pos) (bb := bb) ok ho ht hc hi hf hkk hv
  cases t with
  | Name x p =>
    simp only [ckN, Bool.and_eq_true, decide_eq_true_eq] at hn
    obtain ⟨h1, h2⟩ := hn
    have bo : BlkOk X.N X.env.scope scope (own.map fun i => (g.N.getD i Str.empty, i)) := by
      rw [ok.hN, ok.sc]; exact blkOk_by ho
    by_cases hsw : (X.env.kindOf x == some .local && p.line == pos.line && !(scope.names.any fun (n, k) => n == x && (k == .local || k == .cell))) = true
    · simp only [Bool.and_eq_true, Bool.not_eq_true'] at hsw
      have hl : X.env.scope.names.lookup x = some .local := by
        have := hsw.1.1
        exact eq_of_beq this
      have s1 : swapsWith (.DictComp ek evv [⟨tg, it, [], 0⟩] scope pos) (some (.Name x p)) spos.line X.env = pure true := swd_true (by rw [ok.sc]; exact hk) hl hsw.1.2 hsw.2
      refine PS.imp (ps_setDc (X := X) (g := gTg X.K tgT) (tk := RdE X noW (ev Γ k)) (tv := RdE X noW (ev Γ v)) ok.calm (un1 ok) (by rw [ok.hN]; exact ok.nd) (by rw [ok.hN]; exact h1) hl s1 hi bo (hoE_ok bb)
        (fun s H C cl fp => g_tg (ok.blk s H C cl fp) hc) (fun s H C cl fp => hkk _ (ok.blk s H C cl fp)) (fun s H C cl fp => hv _ (ok.blk s H C cl fp)) hf) ?_
      intro D σ H q
      exact i_dc ht σ H _ q
    · have s0 : swapsWith (.DictComp ek evv [⟨tg, it, [], 0⟩] scope pos) (some (.Name x p)) spos.line X.env = pure false := by
        unfold swapsWith
        have e1 : X.env.blockKind = .function := by
          unfold Env.blockKind
          rw [ok.sc, hk]
          rfl
        simp only [e1]
        have e2 : (X.env.kindOf x == some NameKind.local && p.line == (Expr.DictComp ek evv [⟨tg, it, [], 0⟩] scope pos).pos.line && !(scope.names.any fun (n, k) => n == x && (k == .local || k == .cell))) = false := by
          have : (Expr.DictComp ek evv [⟨tg, it, [], 0⟩] scope pos).pos = pos := rfl
          rw [this]
          exact Bool.eq_false_iff.mpr hsw
        show (pure _ : Sem Bool) = pure false
        congr 1
      unfold locB at h2
      split at h2
      · rename_i e
        exact ps_set (by rw [ok.hN]; exact ok.nd) (by rw [ok.hN]; exact h1) (.inl (by rw [ok.sc]; exact e)) P0 s0 (.inr (by rw [ok.sc]; exact e))
      · rename_i e
        exact ps_set (by rw [ok.hN]; exact ok.nd) (by rw [ok.hN]; exact h1) (.inr (by rw [ok.sc]; exact e)) P0 s0 (.inl (by rw [ok.fn]; exact h2))
      · cases h2
  | _ => cases hn
/-- {} -/
theorem s_dnew (bb : Bool) : PE X (.Dict [] [] pos) (RdE X W (ev Γ (.dnew bb))) := by
  have key : ∀ σ H Q, RdE X W (ev Γ (.dnew bb)) σ H Q → ∀ p, H p = none → Q (.ref p) (upd H p (hoE bb)) := by
    rintro σ H Q ⟨O, G, ι, env, h, S, q⟩ p hp
    rw [ev] at q
    obtain ⟨S2, f⟩ := S.made (o := hoE bb) hp
    exact q G ι _ _ (Le.refl _) (List.prefix_refl _) S2 ⟨p, rfl, own_do do_emp (by cases bb <;> exact .nil) upd_same, f⟩
  cases bb
  · exact PE.imp pe_dnewK key
  · exact PE.imp pe_dnewT key
theorem m2_ok {m : Str} {apos cpos : Pos} {o e f : Expr} (hb : notCall0 o = true) (h1 : notStar e = true) (h2 : notStar f = true) (hl : (apos.endLine == cpos.line) = true) : M2 X o m apos e f cpos := by
  have es : starEach [e, f] X.env = (false, eval e X.env) :: (false, eval f X.env) :: [] := by
    cases e <;> first | (cases h1; done) | (cases f <;> first | (cases h2; done) | rfl)
  exact ⟨base_ok hb, by rw [es]; rfl, hl, by rw [es]; rfl⟩
theorem dct_at {G : Hp} {ι : List Addr} {H : Hp} {t : T} {v : V} (gs : Le G H) (ht : isDct t = true) (r : PRep X.K G ι H t v) : ∃ a, v = .ref a ∧ IsD H a := by
  cases t with
  | dk ks l => obtain ⟨a, vs, rfl, h, _⟩ := r.dk gs; exact ⟨a, rfl, .inl ⟨_, .inl h⟩⟩
  | dt ks l => obtain ⟨a, vs, rfl, h, _⟩ := r.dt gs; exact ⟨a, rfl, .inr ⟨_, .inl h⟩⟩
  | _ => cases ht
theorem dget_at {G : Hp} {ι : List Addr} {H : Hp} {t kt : T} {y : V} {a : Addr} {o : Option T} (gs : Le G H) (r : PRep X.K G ι H t (.ref a)) (rk : PRep X.K G ι H kt y) (e : dFind t kt = some o) :
    ∃ ov, DGet H a y ov ∧ (o = none → ov = none) ∧ ∀ z, o = some z → ∃ w, ov = some w ∧ Rep X.K G ι z w := by
  cases t with
  | dk ks l =>
    obtain ⟨a', vs, ea, h, _, rl⟩ := r.dk gs
    cases ea
    simp only [dFind] at e
    cases ek : kOf kt with
    | none => rw [ek] at e; cases e
    | some q =>
      rw [ek] at e
      simp only [Option.map_some, Option.some.injEq] at e
      cases kOf_rep ek rk
      obtain ⟨d1, d2⟩ := dG_rep q (ks := ks) rl
      rw [e] at d1 d2
      refine ⟨_, .k h, fun z => ?_, d2⟩
      rw [z] at d1
      exact Option.not_isSome_iff_eq_none.mp (by rw [← d1]; simp)
  | dt ks l =>
    obtain ⟨a', vs, ea, h, _, rl⟩ := r.dt gs
    cases ea
    simp only [dFind] at e
    cases ek : ksOf kt with
    | none => rw [ek] at e; cases e
    | some q =>
      rw [ek] at e
      simp only [Option.map_some, Option.some.injEq] at e
      obtain ⟨b, rfl, hb⟩ := ksOf_rep ek rk
      obtain ⟨d1, d2⟩ := dG_rep q (ks := ks) rl
      rw [e] at d1 d2
      refine ⟨_, .t h (gs _ _ hb), fun z => ?_, d2⟩
      rw [z] at d1
      exact Option.not_isSome_iff_eq_none.mp (by rw [← d1]; simp)
  | _ => cases e
/-- d.get(k, x) -/
theorem s_dget2 (ok : XOk X W Γ g) {apos : Pos} (hb : notCall0 ea = true) (hs1 : notStar ek = true) (hs2 : notStar ed = true) (hl : (apos.endLine == p2.line) = true) (ha : PE X ea (RdE X W (ev Γ a))) (hk : PE X ek (RdE X W (ev Γ k))) (hd : PE X ed (RdE X W (ev Γ d))) :
    PE X (.Call (.Attribute ea "get" apos) [ek, ed] [] p2) (RdE X W (ev Γ (.dget2 a k d))) := by
  refine PE.imp (pe_dget2 (un1 ok) ha hk hd (m2_ok hb hs1 hs2 hl)) ?_
  rintro σ H Q ⟨O, G, ι, env, h, S, q⟩
  rw [ev] at q
  refine rd_bind (R1 := rP X.K) S q fun x h1 G1 ι1 v H1 l1 p1 S1 r1 q1 => ?_
  by_cases hx : isDct x.t = true
  case neg => rw [if_neg hx] at q1; exact q1.elim
  rw [if_pos hx] at q1
  obtain ⟨G1', S1', l1', o1⟩ := RepP.opd S1 r1
  obtain ⟨a0, rfl, hd0⟩ := dct_at S1'.h.gs hx (o1.at S1')
  refine ⟨a0, rfl, hd0, ?_⟩
  refine rd_bind (R1 := rP X.K) S1' (q1.mono l1' (List.prefix_refl _)) fun y h2 G2 ι2 w H2 l2 p2 S2 r2 q2 => ?_
  obtain ⟨G2', S2', l2', o2⟩ := RepP.opd S2 r2
  refine rd_bind (R1 := rP X.K) S2' (q2.mono l2' (List.prefix_refl _)) fun z h3 G3 ι3 u H3 l3 p3 S3 r3 q3 => ?_
  have o1' := (((o1.mono l2 p2).mono l2' (List.prefix_refl _)).mono l3 p3).at S3
  have o2' := (o2.mono l3 p3).at S3
  obtain ⟨p, e, q4⟩ := q3.of_some
  cases ef : dFind x.t y.t with
  | none => rw [ef] at e; cases e
  | some o =>
    rw [ef] at e
    simp only [Option.map_some, Option.some.injEq] at e
    obtain ⟨ov, g1, g2, g3⟩ := dget_at S3.h.gs o1' o2' ef
    refine ⟨ov, g1, ?_⟩
    cases o with
    | none => rw [g2 rfl]; subst e; exact q4 G3 ι3 _ _ (Le.refl _) (List.prefix_refl _) S3 r3
    | some t => obtain ⟨w', rfl, rw'⟩ := g3 t rfl; subst e; exact q4.after.rep S3 rw'
/-- d[k] = v -/
theorem z_setd (ok : XOk X W Γ g) {i : Nat} {x : Str} {ix : E} {eix : Expr} (h1 : g.N[i]? = some x) (h2 : visB g.sc x = true) (h3 : (x == ("__debug__" : Str)) = false) (h4 : (x == ("__classdict__" : Str)) = false) (hq : isComp ea = false) (hix : PE X eix (RdE X W (ev Γ ix))) (ha : PE X ea (RdE X W (ev Γ a))) :
    PS X (.Assign [.Subscript (.Name x p1) eix p2] ea pos) (RdS X W (ex Γ (.setd i ix a))) := by
  refine PS.imp (ps_dput (un1 ok) (pe_slot ok h1 h2 h3 h4) hix ha (sw_none hq)) ?_
  rintro D σ H ⟨O, G, ι, env, h, S, q⟩
  rw [ex] at q
  refine rs_bind (R1 := rP X.K) S q fun y h1 G1 ι1 v H1 l1 p1 S1 r1 q1 => ?_
  cases e : y.k with
  | none => rw [e] at q1; exact q1.elim
  | some t =>
    rw [e] at q1
    obtain ⟨G2, S2, l2, r2⟩ := RepP.kept S1 r1 e
    have q2 := q1.mono l2 (List.prefix_refl _)
    simp only at q2
    by_cases hh : hasSlot env i = true
    case neg => rw [if_neg hh] at q2; exact q2.elim
    rw [if_pos hh] at q2
    obtain ⟨ov, hov⟩ := has_slot S2 hh
    refine ⟨ov, hov, ?_⟩
    refine rs_bind (R1 := rP X.K) S2 q2 fun k h3 G3 ι3 kv H3 l3 p3 S3 r3 q3 => ?_
    cases ek : k.k with
    | none => rw [ek] at q3; exact q3.elim
    | some kt =>
      rw [ek] at q3
      obtain ⟨G4, S4, l4, r4⟩ := RepP.kept S3 r3 ek
      have q4 := q3.mono l4 (List.prefix_refl _)
      simp only at q4
      split at q4
      · rename_i c ec
        cases ep : dPut c kt t with
        | none => rw [ep] at q4; exact q4.elim
        | some c' =>
          rw [ep] at q4
          obtain ⟨v0, hv0, p, ep0, hown, g0, o0, n0⟩ := get_slot S4 ec (by intro z; cases z)
          cases ep0
          rw [hov] at hv0
          cases hv0
          have hc : isDct c.t = true := by
            cases c with
            | lst _ => cases ep
            | dk _ _ => rfl
            | dt _ _ => rfl
          obtain ⟨vs, o, ho, dd, rl⟩ := own_to hc hown
          obtain ⟨vs', o', dp, dd', rl'⟩ := dPut_rep dd rl ep (.rep r4) ((r2.mono l3 p3).mono l4 (List.prefix_refl _)) S4.h.gs ho
          exact ⟨p, _, rfl, dp, q4 G4 ι3 σ _ (Le.refl _) (List.prefix_refl _) (S4.wown ec hov (own_do dd' rl' upd_same))⟩
      · exact q4.elim
end
end Fx

set_option maxHeartbeats 4000000
namespace Fx
open PySem L2
open PyProof.Rows hiding St

/-! ### the small language against the text -/
def ckK : T → Expr → Bool
  | .non, .Constant .none _ _ => true
  | .bl b, .Constant (.bool c) _ _ => b == c
  | .int i, .Constant (.int j) _ _ => i == j
  | .str x, .Constant (.str y) _ _ => x == y
  | _, _ => false
def isFn : ScopeKind → Bool
  | .function => true
  | _ => false
def ckCls (g : Gx) : List Cn → Expr → Bool
  | [c], .Name x _ => decide (x = Str.ofString c.nm) && clB g.sc c
  | cs, .Tuple es _ _ => decide (cs.length ≤ 20) && decide (es.length = cs.length) && ((cs.zip es).all fun q => match q.2 with | .Name x _ => decide (x = Str.ofString q.1.nm) | _ => false) && cs.all (clB g.sc)
  | _, _ => false
def dbg (x : Str) : Bool := !(x == ("__debug__" : Str)) && !(x == ("__classdict__" : Str))

mutual
def ckE (g : Gx) : E → Expr → Bool
  | .var i, ee => match ee with
    | .Name x _ => decide (g.N[i]? = some x) && visB g.sc x && dbg x
    | _ => false
  | .con t, ee => ckK t ee
  | .glo x, ee => match ee with
    | .Name y _ => decide (x = y) && glB g.sc x && dbg x
    | _ => false
  | .bin op a b, ee => match ee with
    | .BinOp l o r _ => decide (op = o) && ckE g a l && ckE g b r
    | _ => false
  | .neg a, ee => match ee with
    | .UnaryOp .USub x _ => ckE g a x
    | _ => false
  | .not a, ee => match ee with
    | .UnaryOp .Not x _ => ckE g a x
    | _ => false
  | .and l, ee => match ee with
    | .BoolOp .And (x :: xs) _ => ckEs g l (x :: xs)
    | _ => false
  | .or l, ee => match ee with
    | .BoolOp .Or (x :: xs) _ => ckEs g l (x :: xs)
    | _ => false
  | .cmp op a b, ee => match ee with
    | .Compare l [o] [r] _ => decide (op = o) && ckE g a l && ckE g b r && !behindInMarks o r
    | _ => false
  | .chn a c, ee => match ee with
    | .Compare l (o1 :: o2 :: os) (r1 :: r2 :: rs) _ => ckE g a l && ckCh g c (o1 :: o2 :: os) (r1 :: r2 :: rs) && !lastMarks (o1 :: o2 :: os) (r1 :: r2 :: rs)
    | _ => false
  | .isN p a, ee => match ee with
    | .Compare l [.Is] [.Constant .none _ _] _ => p && ckE g a l
    | .Compare l [.IsNot] [.Constant .none _ _] _ => !p && ckE g a l
    | _ => false
  | .isB p b a, ee => match ee with
    | .Compare l [.Is] [.Constant (.bool c) _ _] _ => p && (b == c) && ckE g a l
    | .Compare l [.IsNot] [.Constant (.bool c) _ _] _ => !p && (b == c) && ckE g a l
    | _ => false
  | .rev a, ee => match ee with
    | .Subscript x (.Slice none none (some (.UnaryOp .USub (.Constant (.int 1) _ _) _)) _) _ => ckE g a x
    | _ => false
  | .lrng1 a, ee => match ee with
    | .Call (.Name x _) [.Call (.Name y _) [e] [] _] [] _ => decide (x = "list") && decide (y = "range") && glB g.sc "list" && glB g.sc "range" && ckE g a e
    | _ => false
  | .lrng2 a b, ee => match ee with
    | .Call (.Name x _) [.Call (.Name y _) [e, f] [] _] [] _ => decide (x = "list") && decide (y = "range") && glB g.sc "list" && glB g.sc "range" && ckE g a e && ckE g b f
    | _ => false
  | .ite c a b, ee => match ee with
    | .IfExp t x y _ => ckE g c t && ckE g a x && ckE g b y
    | _ => false
  | .tup l, ee => match ee with
    | .Tuple es _ _ => ckEs g l es
    | _ => false
  | .lst l, ee => match ee with
    | .List es _ => ckEs g l es
    | _ => false
  | .idx a i, ee => match ee with
    | .Subscript x s _ => notSlice s && ckE g a x && ckE g i s
    | _ => false
  | .slc a lo hi, ee => match ee with
    | .Subscript x (.Slice l h none _) _ => ckE g a x && ckO g lo l && ckO g hi h
    | _ => false
  | .call f l, ee => match ee with
    | .Call (.Name y _) (e :: es) [] _ => decide (f = y) && g.fns.contains f && glB g.sc f && dbg f && ckEs g l (e :: es)
    | _ => false
  | .bi f l, ee => match ee with
    | .Call (.Name y _) (e :: es) [] _ => decide (f.nm = y) && glB g.sc f.nm && ckEs g l (e :: es)
    | _ => false
  | .isi a cs, ee => match ee with
    | .Call (.Name y _) [x, c] [] _ => decide (y = "isinstance") && glB g.sc "isinstance" && ckE g a x && ckCls g cs c
    | _ => false
  | .mth m a l, ee => match ee with
    | .Call (.Attribute o n ap) args [] p => notCall0 o && (ap.endLine == p.line) && ckE g a o && (match m with
      | .join => decide (n = "join") && (match args, l with | [_], .cons _ .nil => true | _, _ => false)
      | .upper => decide (n = "upper") && (match args, l with | [], .nil => true | _, _ => false)) && ckEs g l args
    | _ => false
  | .lc own tg it c e, ee => match ee with
    | .ListComp x [⟨t, i, fs, 0⟩] scope _ => blkC g.N g.sc scope (own.map fun i => (g.N.getD i Str.empty, i)) && (tgSlots tg).all own.contains && ckTg (blkG g scope) tg t && notSet i && isFn g.sc.kind && ckI g it t i && ckC (blkG g scope) c fs && ckE (blkG g scope) e x
    | _ => false
  | .lc2 own tg it tg1 it1 c e, ee => match ee with
    | .ListComp x [⟨t, i, [], 0⟩, ⟨t1, i1, fs, 0⟩] scope _ => blkC g.N g.sc scope (own.map fun i => (g.N.getD i Str.empty, i)) && (tgSlots tg).all own.contains && (tgSlots tg1).all own.contains && ckTg (blkG g scope) tg t && ckTg (blkG g scope) tg1 t1 && notSet i && notSet i1 && isFn g.sc.kind && ckI g it t i && ckI (blkG g scope) it1 t1 i1 && ckC (blkG g scope) c fs && ckE (blkG g scope) e x
    | _ => false
  | .dnew _, ee => match ee with
    | .Dict [] [] _ => true
    | _ => false
  | .dget2 a k d, ee => match ee with
    | .Call (.Attribute o n ap) [x, y] [] p => notCall0 o && decide (n = "get") && (ap.endLine == p.line) && ckE g a o && ckE g k x && ckE g d y
    | _ => false
  | .dc _ own tg it k v, ee => match ee with
    | .DictComp x y [⟨t, i, [], 0⟩] scope _ => blkC g.N g.sc scope (own.map fun i => (g.N.getD i Str.empty, i)) && (tgSlots tg).all own.contains && ckTg (blkG g scope) tg t && notSet i && isFn g.sc.kind && ckI g it t i && ckE (blkG g scope) k x && ckE (blkG g scope) v y
    | _ => false
def ckEs (g : Gx) : Es → List Expr → Bool
  | .nil, es => es.isEmpty
  | .cons a r, es => match es with
    | e :: es => ckE g a e && ckEs g r es
    | [] => false
def ckO (g : Gx) : OE → Option Expr → Bool
  | .no, o => o.isNone
  | .so a, o => match o with
    | some e => ckE g a e
    | none => false
def ckC (g : Gx) : OE → List Expr → Bool
  | .no, o => o.isEmpty
  | .so a, o => match o with
    | [e] => ckE g a e
    | _ => false
def ckCh (g : Gx) : Ch → List CmpOp → List Expr → Bool
  | .one op a, os, es => match os, es with
    | [o], [e] => decide (op = o) && ckE g a e
    | _, _ => false
  | .more op a r, os, es => match os, es with
    | o :: o2 :: os, e :: e2 :: es => decide (op = o) && ckE g a e && ckCh g r (o2 :: os) (e2 :: es)
    | _, _ => false
def ckI (g : Gx) : It → Expr → Expr → Bool
  | .val a, _, i => ckE g a i
  | .rng1 a, _, i => match i with
    | .Call (.Name y _) [e] [] _ => decide (y = "range") && glB g.sc "range" && ckE g a e
    | _ => false
  | .rng2 a b, _, i => match i with
    | .Call (.Name y _) [e, f] [] _ => decide (y = "range") && glB g.sc "range" && ckE g a e && ckE g b f
    | _ => false
  | .zip a b, t, i => match t, i with
    | .Tuple _ _ _, .Call (.Name y _) [e, f] [] _ => decide (y = "zip") && glB g.sc "zip" && ckE g a e && ckE g b f
    | _, _ => false
  | .enu a, t, i => match t, i with
    | .Tuple _ _ _, .Call (.Name y _) [e] [] _ => decide (y = "enumerate") && glB g.sc "enumerate" && ckE g a e
    | _, _ => false
end
theorem ck_star {g : Gx} {e : E} {ee : Expr} (h : ckE g e ee = true) : notStar ee = true := by
  cases ee with
  | Starred v p =>
    unfold ckE at h
    cases e with
    | con t => cases t <;> simp [ckK] at h
    | _ => simp at h
  | _ => rfl
theorem cks_star {g : Gx} : ∀ {l : Es} {es : List Expr}, ckEs g l es = true → es.all notStar = true
  | .nil, es, h => by
    unfold ckEs at h
    cases es with
    | nil => rfl
    | cons => simp at h
  | .cons a r, es, h => by
    cases es with
    | nil => simp [ckEs] at h
    | cons e es =>
      simp only [ckEs] at h
      simp only [Bool.and_eq_true] at h
      simp only [List.all_cons, Bool.and_eq_true]
      exact ⟨ck_star h.1, cks_star h.2⟩

/-- what is shown of an expression -/
structure SndE (Γ : Cl) (e : E) : Prop where
  s : ∀ {X : Cx} {W : L2.WX} {g : Gx} {ee : Expr}, XOk X W Γ g → ckE g e ee = true → PE X ee (RdE X W (ev Γ e)) ∧ PT X ee (RdB X W (evB Γ e)) ∧ PAs X W Γ g e ee
structure SndEs (Γ : Cl) (l : Es) : Prop where
  s : ∀ {X : Cx} {W : L2.WX} {g : Gx} {es : List Expr}, XOk X W Γ g → ckEs g l es = true → PA X es (RdA X W (evs Γ l)) ∧ PA X es (RdP X W (evp Γ l)) ∧
    ∀ pos, es ≠ [] → PE X (.BoolOp .And es pos) (RdE X W (evAnd Γ l)) ∧ PW X (.BoolOp .And es pos) (RdB X W (evAndB Γ l)) ∧ PE X (.BoolOp .Or es pos) (RdE X W (evOr Γ l)) ∧ PW X (.BoolOp .Or es pos) (RdB X W (evOrB Γ l))
structure SndO (Γ : Cl) (o : OE) : Prop where
  s : ∀ {X : Cx} {W : L2.WX} {g : Gx} {eo : Option Expr}, XOk X W Γ g → ckO g o eo = true → PO X eo (fun σ H Q => RdG X W (evO Γ o) rO σ H Q)
  c : ∀ {X : Cx} {W : L2.WX} {g : Gx} {es : List Expr}, XOk X W Γ g → ckC g o es = true → PTs X es (RdC X W Γ o)
structure SndCh (Γ : Cl) (c : Ch) : Prop where
  s : ∀ {X : Cx} {W : L2.WX} {g : Gx} {os : List CmpOp} {es : List Expr}, XOk X W Γ g → ckCh g c os es = true → PCh X W Γ c os es
structure SndI (Γ : Cl) (i : It) : Prop where
  s : ∀ {X : Cx} {W : L2.WX} {g : Gx} {t ie : Expr} (kp : Bool), XOk X W Γ g → ckI g i t ie = true → PI X t ie (RdI X W kp (evI Γ kp i))

theorem dbg_ok {x : Str} (h : dbg x = true) : (x == ("__debug__" : Str)) = false ∧ (x == ("__classdict__" : Str)) = false := by
  simpa [dbg] using h
section
variable {Γ : Cl}
/-- from its value alone -/
theorem snd_of {X : Cx} {W : L2.WX} {g : Gx} {e : E} {ee : Expr} (ok : XOk X W Γ g) (h : PE X ee (RdE X W (ev Γ e))) (hc : isComp ee = false) (he : ∀ whole, PySem.isTrue ee X.env whole = (do let v ← whole; standAt ee.pos; holding [v] (truthy v))) :
    PE X ee (RdE X W (ev Γ e)) ∧ PT X ee (RdB X W (evB Γ e)) ∧ PAs X W Γ g e ee := ⟨h, s_test h he, pas_of ok hc h⟩
theorem n_var {i : Nat} : SndE Γ (.var i) := ⟨fun {X W g ee} ok h => by
  unfold ckE at h
  cases ee with
  | Name x p =>
    simp only [Bool.and_eq_true, decide_eq_true_eq] at h
    obtain ⟨⟨h1, h2⟩, h3⟩ := h
    exact snd_of ok (s_var ok h1 h2 (dbg_ok h3).1 (dbg_ok h3).2) rfl fun _ => rfl
  | _ => cases h⟩
theorem n_con {t : T} : SndE Γ (.con t) := ⟨fun {X W g ee} ok h => by
  unfold ckE at h
  cases ee with
  | Constant c k p =>
    cases t <;> cases c <;> simp only [ckK, beq_iff_eq] at h <;> first | cases h | skip
    · exact snd_of ok (s_con pe_non fun _ _ => .non) rfl fun _ => rfl
    all_goals (try cases h)
    · exact snd_of ok (s_con pe_bl fun _ _ => .bl) rfl fun _ => rfl
    · exact snd_of ok (s_con pe_int fun _ _ => .int) rfl fun _ => rfl
    · exact snd_of ok (s_con pe_str fun _ _ => .str) rfl fun _ => rfl
  | _ => cases t <;> cases h⟩
theorem n_glo {x : Str} : SndE Γ (.glo x) := ⟨fun {X W g ee} ok h => by
  unfold ckE at h
  cases ee with
  | Name y p =>
    simp only [Bool.and_eq_true, decide_eq_true_eq] at h
    obtain ⟨⟨rfl, h2⟩, h3⟩ := h
    exact snd_of ok (s_glo ok h2 (dbg_ok h3).1) rfl fun _ => rfl
  | _ => cases h⟩
theorem n_bin {op : PySem.Operator} {a b : E} (ha : SndE Γ a) (hb : SndE Γ b) : SndE Γ (.bin op a b) := ⟨fun {X W g ee} ok h => by
  unfold ckE at h
  cases ee with
  | BinOp l o r p =>
    simp only [Bool.and_eq_true, decide_eq_true_eq] at h
    obtain ⟨⟨rfl, h2⟩, h3⟩ := h
    exact snd_of ok (s_bin (ha.s ok h2).1 (hb.s ok h3).1) rfl fun _ => rfl
  | _ => cases h⟩
theorem n_neg {a : E} (ha : SndE Γ a) : SndE Γ (.neg a) := ⟨fun {X W g ee} ok h => by
  unfold ckE at h
  split at h
  · exact snd_of ok (s_neg (ha.s ok h).1) rfl fun _ => rfl
  · cases h⟩
theorem n_not {a : E} (ha : SndE Γ a) : SndE Γ (.not a) := ⟨fun {X W g ee} ok h => by
  unfold ckE at h
  split at h
  · have := s_not (pos := by assumption) (ha.s ok h).1
    exact ⟨this, t_not (ha.s ok h).2.1, pas_of ok rfl this⟩
  · cases h⟩
theorem n_and {l : Es} (hl : SndEs Γ l) : SndE Γ (.and l) := ⟨fun {X W g ee} ok h => by
  unfold ckE at h
  split at h
  · rename_i x xs p
    obtain ⟨h1, h2, h3, h4⟩ := (hl.s ok h).2.2 p (by simp)
    have e1 : ev Γ (.and l) = evAnd Γ l := by funext env hh; rw [ev]
    have e2 : evB Γ (.and l) = evAndB Γ l := by funext env hh; unfold evB evAndB; rw [ev]
    rw [e1, e2]
    refine ⟨h1, h2.pt, ?_⟩
    intro i t pos ht
    rw [e1]
    exact pas_of (a := .and l) ok rfl (by rw [e1]; exact h1) i t pos ht |> fun z => by rw [e1] at z; exact z
  · cases h⟩
theorem n_or {l : Es} (hl : SndEs Γ l) : SndE Γ (.or l) := ⟨fun {X W g ee} ok h => by
  unfold ckE at h
  split at h
  · rename_i x xs p
    obtain ⟨h1, h2, h3, h4⟩ := (hl.s ok h).2.2 p (by simp)
    have e1 : ev Γ (.or l) = evOr Γ l := by funext env hh; rw [ev]
    have e2 : evB Γ (.or l) = evOrB Γ l := by funext env hh; unfold evB evOrB; rw [ev]
    rw [e1, e2]
    refine ⟨h3, h4.pt, ?_⟩
    intro i t pos ht
    rw [e1]
    exact pas_of (a := .or l) ok rfl (by rw [e1]; exact h3) i t pos ht |> fun z => by rw [e1] at z; exact z
  · cases h⟩
theorem n_cmp {op : CmpOp} {a b : E} (ha : SndE Γ a) (hb : SndE Γ b) : SndE Γ (.cmp op a b) := ⟨fun {X W g ee} ok h => by
  unfold ckE at h
  split at h
  · simp only [Bool.and_eq_true, decide_eq_true_eq, Bool.not_eq_true'] at h
    obtain ⟨⟨⟨rfl, h2⟩, h3⟩, h4⟩ := h
    have := s_cmp (pos := by assumption) ok (ha.s ok h2).1 (hb.s ok h3).1 h4
    exact ⟨this, t_cmp ok (ha.s ok h2).1 (hb.s ok h3).1 h4, pas_of ok rfl this⟩
  · cases h⟩
theorem n_chn {a : E} {c : Ch} (ha : SndE Γ a) (hc : SndCh Γ c) : SndE Γ (.chn a c) := ⟨fun {X W g ee} ok h => by
  unfold ckE at h
  split at h
  · simp only [Bool.and_eq_true, Bool.not_eq_true'] at h
    obtain ⟨⟨h2, h3⟩, h4⟩ := h
    have := s_chn (pos := by assumption) (ha.s ok h2).1 (hc.s ok h3) h4
    exact ⟨this, t_chn (ha.s ok h2).1 (hc.s ok h3) h4, pas_of ok rfl this⟩
  · cases h⟩
theorem n_isN {p : Bool} {a : E} (ha : SndE Γ a) : SndE Γ (.isN p a) := ⟨fun {X W g ee} ok h => by
  unfold ckE at h
  split at h
  · simp only [Bool.and_eq_true] at h
    obtain ⟨h1, h2⟩ := h
    subst h1
    exact ⟨s_isN (ha.s ok h2).1, t_isN (ha.s ok h2).1, pas_of ok rfl (s_isN (ha.s ok h2).1)⟩
  · simp only [Bool.and_eq_true, Bool.not_eq_true'] at h
    obtain ⟨h1, h2⟩ := h
    subst h1
    exact ⟨s_notN (ha.s ok h2).1, t_notN (ha.s ok h2).1, pas_of ok rfl (s_notN (ha.s ok h2).1)⟩
  · cases h⟩
theorem n_isB {p b : Bool} {a : E} (ha : SndE Γ a) : SndE Γ (.isB p b a) := ⟨fun {X W g ee} ok h => by
  unfold ckE at h
  split at h
  · simp only [Bool.and_eq_true, beq_iff_eq] at h
    obtain ⟨⟨h1, h3⟩, h2⟩ := h
    subst h1 h3
    exact ⟨s_isB (ha.s ok h2).1, t_isB (ha.s ok h2).1, pas_of ok rfl (s_isB (ha.s ok h2).1)⟩
  · simp only [Bool.and_eq_true, Bool.not_eq_true', beq_iff_eq] at h
    obtain ⟨⟨h1, h3⟩, h2⟩ := h
    subst h1 h3
    exact ⟨s_notB (ha.s ok h2).1, t_notB (ha.s ok h2).1, pas_of ok rfl (s_notB (ha.s ok h2).1)⟩
  · cases h⟩
theorem n_rev {a : E} (ha : SndE Γ a) : SndE Γ (.rev a) := ⟨fun {X W g ee} ok h => by
  unfold ckE at h
  split at h
  · exact snd_of ok (s_rev (ha.s ok h).1) rfl fun _ => rfl
  · cases h⟩
theorem n_lrng1 {a : E} (ha : SndE Γ a) : SndE Γ (.lrng1 a) := ⟨fun {X W g ee} ok h => by
  unfold ckE at h
  split at h
  · simp only [Bool.and_eq_true, decide_eq_true_eq] at h
    obtain ⟨⟨⟨⟨rfl, rfl⟩, h1⟩, h2⟩, h3⟩ := h
    exact snd_of ok (s_lrng1 ok h2 h1 (ck_star h3) (ha.s ok h3).1) rfl fun _ => rfl
  · cases h⟩
theorem n_lrng2 {a b : E} (ha : SndE Γ a) (hb : SndE Γ b) : SndE Γ (.lrng2 a b) := ⟨fun {X W g ee} ok h => by
  unfold ckE at h
  split at h
  · simp only [Bool.and_eq_true, decide_eq_true_eq] at h
    obtain ⟨⟨⟨⟨⟨rfl, rfl⟩, h1⟩, h2⟩, h3⟩, h4⟩ := h
    exact snd_of ok (s_lrng2 ok h2 h1 (ck_star h3) (ck_star h4) (ha.s ok h3).1 (hb.s ok h4).1) rfl fun _ => rfl
  · cases h⟩
theorem n_ite {c a b : E} (hc : SndE Γ c) (ha : SndE Γ a) (hb : SndE Γ b) : SndE Γ (.ite c a b) := ⟨fun {X W g ee} ok h => by
  unfold ckE at h
  split at h
  · simp only [Bool.and_eq_true] at h
    obtain ⟨⟨h1, h2⟩, h3⟩ := h
    have := s_ite (pos := by assumption) (hc.s ok h1).2.1 (ha.s ok h2).1 (hb.s ok h3).1
    exact ⟨this, t_ite (hc.s ok h1).2.1 (ha.s ok h2).2.1 (hb.s ok h3).2.1, pas_of ok rfl this⟩
  · cases h⟩
theorem n_tup {l : Es} (hl : SndEs Γ l) : SndE Γ (.tup l) := ⟨fun {X W g ee} ok h => by
  unfold ckE at h
  split at h
  · exact snd_of ok (s_tup (hl.s ok h).1) rfl fun _ => rfl
  · cases h⟩
theorem n_lst {l : Es} (hl : SndEs Γ l) : SndE Γ (.lst l) := ⟨fun {X W g ee} ok h => by
  unfold ckE at h
  split at h
  · exact snd_of ok (s_lst (hl.s ok h).1) rfl fun _ => rfl
  · cases h⟩
theorem n_idx {a i : E} (ha : SndE Γ a) (hi : SndE Γ i) : SndE Γ (.idx a i) := ⟨fun {X W g ee} ok h => by
  unfold ckE at h
  split at h
  · simp only [Bool.and_eq_true] at h
    obtain ⟨⟨h1, h2⟩, h3⟩ := h
    exact snd_of ok (s_idx ok.un (ha.s ok h2).1 (hi.s ok h3).1 h1) rfl fun _ => rfl
  · cases h⟩
theorem n_slc {a : E} {lo hi : OE} (ha : SndE Γ a) (hl : SndO Γ lo) (hh : SndO Γ hi) : SndE Γ (.slc a lo hi) := ⟨fun {X W g ee} ok h => by
  unfold ckE at h
  split at h
  · simp only [Bool.and_eq_true] at h
    obtain ⟨⟨h1, h2⟩, h3⟩ := h
    exact snd_of ok (s_slc (ha.s ok h1).1 (hl.s ok h2) (hh.s ok h3)) rfl fun _ => rfl
  · cases h⟩
theorem n_call {f : Str} {l : Es} (hl : SndEs Γ l) : SndE Γ (.call f l) := ⟨fun {X W g ee} ok h => by
  unfold ckE at h
  split at h
  · simp only [Bool.and_eq_true, decide_eq_true_eq, List.contains_iff_mem] at h
    obtain ⟨⟨⟨⟨rfl, h2⟩, h3⟩, h4⟩, h5⟩ := h
    exact snd_of ok (s_call ok h2 h3 (dbg_ok h4).1 (cks_star h5) (hl.s ok h5).1) rfl fun _ => rfl
  · cases h⟩
theorem n_bi {f : Bi} {l : Es} (hl : SndEs Γ l) : SndE Γ (.bi f l) := ⟨fun {X W g ee} ok h => by
  unfold ckE at h
  split at h
  · simp only [Bool.and_eq_true, decide_eq_true_eq] at h
    obtain ⟨⟨rfl, h3⟩, h5⟩ := h
    exact snd_of ok (s_bi ok h3 (cks_star h5) (hl.s ok h5).2.1) rfl fun _ => rfl
  · cases h⟩
theorem cls_form : ∀ {cs : List Cn} {es : List Expr}, es.length = cs.length → ((cs.zip es).all fun q => match q.2 with | .Name x _ => decide (x = Str.ofString q.1.nm) | _ => false) = true →
    ∃ ps : List Pos, cs.length = ps.length ∧ es = (cs.zip ps).map fun q => Expr.Name (Str.ofString q.1.nm) q.2
  | [], [], _, _ => ⟨[], rfl, rfl⟩
  | [], _ :: _, h, _ => by cases h
  | _ :: _, [], h, _ => by cases h
  | c :: cs, e :: es, h, k => by
    simp only [List.zip_cons_cons, List.all_cons, Bool.and_eq_true] at k
    obtain ⟨k1, k2⟩ := k
    obtain ⟨ps, h1, h2⟩ := cls_form (by simpa using h) k2
    cases e with
    | Name x p =>
      simp only [decide_eq_true_eq] at k1
      subst k1
      exact ⟨p :: ps, by simp [h1], by simp [h2]⟩
    | _ => cases k1
theorem n_isi {a : E} {cs : List Cn} (ha : SndE Γ a) : SndE Γ (.isi a cs) := ⟨fun {X W g ee} ok h => by
  unfold ckE at h
  split at h
  · rename_i y p x c p2
    simp only [Bool.and_eq_true, decide_eq_true_eq] at h
    obtain ⟨⟨⟨rfl, h3⟩, h4⟩, h5⟩ := h
    have tupC : ∀ es k p3, c = .Tuple es k p3 → (decide (cs.length ≤ 20) && decide (es.length = cs.length) && ((cs.zip es).all fun q => match q.2 with | .Name x _ => decide (x = Str.ofString q.1.nm) | _ => false) && cs.all (clB g.sc)) = true →
        PE X (.Call (.Name "isinstance" p) [x, c] [] p2) (RdE X W (ev Γ (.isi a cs))) := fun es k p3 ec hh => by
      subst ec
      simp only [Bool.and_eq_true, decide_eq_true_eq] at hh
      obtain ⟨⟨⟨k1, k2⟩, k3⟩, k4⟩ := hh
      obtain ⟨ps, l1, rfl⟩ := cls_form k2 k3
      exact s_isiT ok h3 l1 k1 k4 (ck_star h4) (ha.s ok h4).1
    refine snd_of ok ?_ rfl fun _ => rfl
    unfold ckCls at h5
    split at h5
    · simp only [Bool.and_eq_true, decide_eq_true_eq] at h5
      obtain ⟨rfl, h6⟩ := h5
      exact s_isi1 ok h3 h6 (ck_star h4) (ha.s ok h4).1
    · exact tupC _ _ _ rfl h5
    · cases h5
  · cases h⟩
end
end Fx

set_option maxHeartbeats 4000000
namespace Fx
open PySem L2
open PyProof.Rows hiding St
section
variable {Γ : Cl}
theorem n_mth {m : Mt} {a : E} {l : Es} (ha : SndE Γ a) (hl : ∀ b, l = .cons b .nil → SndE Γ b) : SndE Γ (.mth m a l) := ⟨fun {X W g ee} ok h => by
  unfold ckE at h
  split at h
  · rename_i o n ap args p
    simp only [Bool.and_eq_true] at h
    obtain ⟨⟨⟨⟨h1, h2⟩, h3⟩, h4⟩, h5⟩ := h
    refine snd_of ok ?_ rfl fun _ => rfl
    cases m with
    | join =>
      simp only [Bool.and_eq_true, decide_eq_true_eq] at h4
      obtain ⟨rfl, h6⟩ := h4
      split at h6
      · rename_i e b
        simp only [ckEs, Bool.and_eq_true] at h5
        exact s_join (ha.s ok h3).1 ((hl b rfl).s ok h5.1).1 (ck_star h5.1) h1 h2
      · cases h6
    | upper =>
      simp only [Bool.and_eq_true, decide_eq_true_eq] at h4
      obtain ⟨rfl, h6⟩ := h4
      split at h6
      · exact s_upper (ha.s ok h3).1 h1 h2
      · cases h6
  · cases h⟩
theorem n_lc {own : List Nat} {tg : Tg} {it : It} {c : OE} {e : E} (hi : SndI Γ it) (hc : SndO Γ c) (he : SndE Γ e) : SndE Γ (.lc own tg it c e) := ⟨fun {X W g ee} ok h => by
  unfold ckE at h
  split at h
  · rename_i x t i fs scope p
    simp only [Bool.and_eq_true] at h
    obtain ⟨⟨⟨⟨⟨⟨⟨h1, h2⟩, h3⟩, h4⟩, h5⟩, h6⟩, h7⟩, h8⟩ := h
    have ht : ∀ i ∈ tgSlots tg, i ∈ own := fun i hi => by
      have := List.all_eq_true.mp h2 i hi
      simpa using this
    have hk : g.sc.kind = .function := by
      unfold isFn at h5
      split at h5
      · assumption
      · cases h5
    have P0 := s_lc (pos := p) ok h1 ht h3 (hi.s false ok h6) (fold_ok h4) (fun X' ok' => hc.c ok' h7) fun X' ok' => (he.s ok' h8).1
    exact ⟨P0, s_test P0 fun _ => rfl, pas_lc ok h1 ht h3 (hi.s false ok h6) (fold_ok h4) (fun X' ok' => hc.c ok' h7) (fun X' ok' => (he.s ok' h8).1) hk⟩
  · cases h⟩
theorem n_lc2 {own : List Nat} {tg tg1 : Tg} {it it1 : It} {c : OE} {e : E} (hi : SndI Γ it) (hi1 : SndI Γ it1) (hc : SndO Γ c) (he : SndE Γ e) : SndE Γ (.lc2 own tg it tg1 it1 c e) := ⟨fun {X W g ee} ok h => by
  unfold ckE at h
  split at h
  · rename_i x t i t1 i1 fs scope p
    simp only [Bool.and_eq_true] at h
    obtain ⟨⟨⟨⟨⟨⟨⟨⟨⟨⟨⟨h1, h2⟩, h2b⟩, h3⟩, h3b⟩, h4⟩, h4b⟩, h5⟩, h6⟩, h6b⟩, h7⟩, h8⟩ := h
    have ht : ∀ i ∈ tgSlots tg, i ∈ own := fun i hi => by
      have := List.all_eq_true.mp h2 i hi
      simpa using this
    have ht1 : ∀ i ∈ tgSlots tg1, i ∈ own := fun i hi => by
      have := List.all_eq_true.mp h2b i hi
      simpa using this
    have hk : g.sc.kind = .function := by
      unfold isFn at h5
      split at h5
      · assumption
      · cases h5
    have P0 := s_lc2 (pos := p) ok h1 ht ht1 h3 h3b (hi.s false ok h6) (fold_ok h4) (fun env => fold_ok h4b) (fun X' ok' => hi1.s false ok' h6b) (fun X' ok' => hc.c ok' h7) fun X' ok' => (he.s ok' h8).1
    exact ⟨P0, s_test P0 fun _ => rfl, pas_lc2 ok h1 ht ht1 h3 h3b (hi.s false ok h6) (fold_ok h4) (fun env => fold_ok h4b) (fun X' ok' => hi1.s false ok' h6b) (fun X' ok' => hc.c ok' h7) (fun X' ok' => (he.s ok' h8).1) hk⟩
  · cases h⟩
theorem n_dnew {b : Bool} : SndE Γ (.dnew b) := ⟨fun {X W g ee} ok h => by
  unfold ckE at h
  split at h
  · exact snd_of ok (s_dnew b) rfl fun _ => rfl
  · cases h⟩
theorem n_dget2 {a k d : E} (ha : SndE Γ a) (hk : SndE Γ k) (hd : SndE Γ d) : SndE Γ (.dget2 a k d) := ⟨fun {X W g ee} ok h => by
  unfold ckE at h
  split at h
  · simp only [Bool.and_eq_true, decide_eq_true_eq] at h
    obtain ⟨⟨⟨⟨⟨h1, rfl⟩, h2⟩, h3⟩, h4⟩, h5⟩ := h
    exact snd_of ok (s_dget2 ok h1 (ck_star h4) (ck_star h5) h2 (ha.s ok h3).1 (hk.s ok h4).1 (hd.s ok h5).1) rfl fun _ => rfl
  · cases h⟩
theorem n_dc {b : Bool} {own : List Nat} {tg : Tg} {it : It} {k v : E} (hi : SndI Γ it) (hk : SndE Γ k) (hv : SndE Γ v) : SndE Γ (.dc b own tg it k v) := ⟨fun {X W g ee} ok h => by
  unfold ckE at h
  split at h
  · rename_i x y t i scope p
    simp only [Bool.and_eq_true] at h
    obtain ⟨⟨⟨⟨⟨⟨⟨h1, h2⟩, h3⟩, h4⟩, h5⟩, h6⟩, h7⟩, h8⟩ := h
    have ht : ∀ i ∈ tgSlots tg, i ∈ own := fun i hi => by
      have := List.all_eq_true.mp h2 i hi
      simpa using this
    have hf : g.sc.kind = .function := by
      unfold isFn at h5
      split at h5
      · assumption
      · cases h5
    have P0 := s_dc (pos := p) (bb := b) ok h1 ht h3 (hi.s false ok h6) (fold_ok h4) (fun X' ok' => (hk.s ok' h7).1) fun X' ok' => (hv.s ok' h8).1
    exact ⟨P0, s_test P0 fun _ => rfl, pas_dc ok h1 ht h3 (hi.s false ok h6) (fold_ok h4) (fun X' ok' => (hk.s ok' h7).1) (fun X' ok' => (hv.s ok' h8).1) hf⟩
  · cases h⟩
theorem n_nil : SndEs Γ .nil := ⟨fun {X W g es} ok h => by
  unfold ckEs at h
  cases es with
  | nil => exact ⟨a_nil, p_nil, fun _ z => absurd rfl z⟩
  | cons _ _ => cases h⟩
theorem n_cons {a : E} {r : Es} (ha : SndE Γ a) (hr : SndEs Γ r) : SndEs Γ (.cons a r) := ⟨fun {X W g es} ok h => by
  cases es with
  | nil => simp [ckEs] at h
  | cons e es =>
    simp only [ckEs, Bool.and_eq_true] at h
    obtain ⟨h1, h2⟩ := h
    obtain ⟨p1, p2, p3⟩ := ha.s ok h1
    obtain ⟨q1, q2, q3⟩ := hr.s ok h2
    refine ⟨a_cons (ck_star h1) p1 q1, p_cons (ck_star h1) p1 q2, fun pos _ => ?_⟩
    cases r with
    | nil =>
      cases es with
      | cons _ _ => simp [ckEs] at h2
      | nil =>
        have e1 : evAnd Γ (.cons a .nil) = ev Γ a := by funext env hh; rw [evAnd]
        have e2 : evAndB Γ (.cons a .nil) = evB Γ a := by funext env hh; unfold evB evAndB; rw [evAnd]
        have e3 : evOr Γ (.cons a .nil) = ev Γ a := by funext env hh; rw [evOr]
        have e4 : evOrB Γ (.cons a .nil) = evB Γ a := by funext env hh; unfold evB evOrB; rw [evOr]
        rw [e1, e2, e3, e4]
        exact ⟨pe_one p1, pw_and1 p2, pe_one p1, pw_or1 p2⟩
    | cons b l =>
      cases es with
      | nil => simp [ckEs] at h2
      | cons eb es =>
        obtain ⟨k1, k2, k3, k4⟩ := q3 pos (by simp)
        exact ⟨s_and p1 k1, t_and p2 k2, s_or p1 k3, t_or p2 k4⟩⟩
theorem n_no : SndO Γ .no where
  s := fun {X W g eo} ok h => by
    unfold ckO at h
    cases eo with
    | none => exact o_no
    | some _ => cases h
  c := fun {X W g es} ok h => by
    unfold ckC at h
    cases es with
    | nil => exact c_no
    | cons _ _ => cases h
theorem n_so {a : E} (ha : SndE Γ a) : SndO Γ (.so a) where
  s := fun {X W g eo} ok h => by
    unfold ckO at h
    cases eo with
    | none => cases h
    | some e => exact o_so (ha.s ok h).1
  c := fun {X W g es} ok h => by
    unfold ckC at h
    split at h
    · exact c_so (ha.s ok h).2.1
    · cases h
theorem n_one {op : CmpOp} {a : E} (ha : SndE Γ a) : SndCh Γ (.one op a) := ⟨fun {X W g os es} ok h => by
  unfold ckCh at h
  split at h
  · simp only [Bool.and_eq_true, decide_eq_true_eq] at h
    obtain ⟨rfl, h2⟩ := h
    exact ch_one ok (ha.s ok h2).1
  · cases h⟩
theorem n_more {op : CmpOp} {a : E} {r : Ch} (ha : SndE Γ a) (hr : SndCh Γ r) : SndCh Γ (.more op a r) := ⟨fun {X W g os es} ok h => by
  unfold ckCh at h
  split at h
  · simp only [Bool.and_eq_true, decide_eq_true_eq] at h
    obtain ⟨⟨rfl, h2⟩, h3⟩ := h
    exact ch_more ok (ha.s ok h2).1 (hr.s ok h3)
  · cases h⟩
theorem n_ival {a : E} (ha : SndE Γ a) : SndI Γ (.val a) := ⟨fun {X W g t ie} kp ok h => by
  unfold ckI at h
  exact i_val (ha.s ok h).1⟩
theorem n_rng1 {a : E} (ha : SndE Γ a) : SndI Γ (.rng1 a) := ⟨fun {X W g t ie} kp ok h => by
  unfold ckI at h
  split at h
  · simp only [Bool.and_eq_true, decide_eq_true_eq] at h
    obtain ⟨⟨rfl, h2⟩, h3⟩ := h
    exact i_rng1 ok h2 (ck_star h3) (ha.s ok h3).1
  · cases h⟩
theorem n_rng2 {a b : E} (ha : SndE Γ a) (hb : SndE Γ b) : SndI Γ (.rng2 a b) := ⟨fun {X W g t ie} kp ok h => by
  unfold ckI at h
  split at h
  · simp only [Bool.and_eq_true, decide_eq_true_eq] at h
    obtain ⟨⟨⟨rfl, h2⟩, h3⟩, h4⟩ := h
    exact i_rng2 ok h2 (ck_star h3) (ck_star h4) (ha.s ok h3).1 (hb.s ok h4).1
  · cases h⟩
theorem n_zip {a b : E} (ha : SndE Γ a) (hb : SndE Γ b) : SndI Γ (.zip a b) := ⟨fun {X W g t ie} kp ok h => by
  unfold ckI at h
  split at h
  · simp only [Bool.and_eq_true, decide_eq_true_eq] at h
    obtain ⟨⟨⟨rfl, h2⟩, h3⟩, h4⟩ := h
    exact i_zip ok h2 (ck_star h3) (ck_star h4) (ha.s ok h3).1 (hb.s ok h4).1
  · cases h⟩
theorem n_enu {a : E} (ha : SndE Γ a) : SndI Γ (.enu a) := ⟨fun {X W g t ie} kp ok h => by
  unfold ckI at h
  split at h
  · simp only [Bool.and_eq_true, decide_eq_true_eq] at h
    obtain ⟨⟨rfl, h2⟩, h3⟩ := h
    exact i_enu ok h2 (ck_star h3) (ha.s ok h3).1
  · cases h⟩
end
mutual
theorem sndE (Γ : Cl) : ∀ e : E, SndE Γ e
  | .var _ => n_var
  | .con _ => n_con
  | .glo _ => n_glo
  | .bin _ a b => n_bin (sndE Γ a) (sndE Γ b)
  | .neg a => n_neg (sndE Γ a)
  | .not a => n_not (sndE Γ a)
  | .and l => n_and (sndEs Γ l)
  | .or l => n_or (sndEs Γ l)
  | .cmp _ a b => n_cmp (sndE Γ a) (sndE Γ b)
  | .chn a c => n_chn (sndE Γ a) (sndCh Γ c)
  | .isN _ a => n_isN (sndE Γ a)
  | .isB _ _ a => n_isB (sndE Γ a)
  | .rev a => n_rev (sndE Γ a)
  | .lrng1 a => n_lrng1 (sndE Γ a)
  | .lrng2 a b => n_lrng2 (sndE Γ a) (sndE Γ b)
  | .ite c a b => n_ite (sndE Γ c) (sndE Γ a) (sndE Γ b)
  | .tup l => n_tup (sndEs Γ l)
  | .lst l => n_lst (sndEs Γ l)
  | .idx a i => n_idx (sndE Γ a) (sndE Γ i)
  | .slc a lo hi => n_slc (sndE Γ a) (sndO Γ lo) (sndO Γ hi)
  | .call _ l => n_call (sndEs Γ l)
  | .bi _ l => n_bi (sndEs Γ l)
  | .isi a _ => n_isi (sndE Γ a)
  | .mth _ a .nil => n_mth (sndE Γ a) fun _ z => by cases z
  | .mth _ a (.cons b r) => n_mth (sndE Γ a) fun c z => by
      have h := sndE Γ b
      cases z
      exact h
  | .lc _ _ it c e => n_lc (sndI Γ it) (sndO Γ c) (sndE Γ e)
  | .lc2 _ _ it _ it1 c e => n_lc2 (sndI Γ it) (sndI Γ it1) (sndO Γ c) (sndE Γ e)
  | .dnew _ => n_dnew
  | .dget2 a k d => n_dget2 (sndE Γ a) (sndE Γ k) (sndE Γ d)
  | .dc _ _ _ it k v => n_dc (sndI Γ it) (sndE Γ k) (sndE Γ v)
theorem sndEs (Γ : Cl) : ∀ l : Es, SndEs Γ l
  | .nil => n_nil
  | .cons a r => n_cons (sndE Γ a) (sndEs Γ r)
theorem sndO (Γ : Cl) : ∀ o : OE, SndO Γ o
  | .no => n_no
  | .so a => n_so (sndE Γ a)
theorem sndCh (Γ : Cl) : ∀ c : Ch, SndCh Γ c
  | .one _ a => n_one (sndE Γ a)
  | .more _ a r => n_more (sndE Γ a) (sndCh Γ r)
theorem sndI (Γ : Cl) : ∀ i : It, SndI Γ i
  | .val a => n_ival (sndE Γ a)
  | .rng1 a => n_rng1 (sndE Γ a)
  | .rng2 a b => n_rng2 (sndE Γ a) (sndE Γ b)
  | .zip a b => n_zip (sndE Γ a) (sndE Γ b)
  | .enu a => n_enu (sndE Γ a)
end

/-! ### statements -/
def noSwap (g : Gx) (tg : Expr) (va : Expr) : Bool := match tg, va with
  | .Tuple ts _ _, .Tuple _ _ _ => (match ts with
    | [.Name x _, .Name y _] => !decide (g.sc.names.lookup x = some .local) || !decide (g.sc.names.lookup y = some .local)
    | [_, _] => false
    | [_, _, _] => false
    | _ => true)
  | .List _ _, _ => false
  | _, _ => true
/-! ### the hot terms against the text -/
/-- what is known of the text: classes, fields, functions that take the exception -/
structure Hk where
  ie : Nat
  tb : ClT
  fns : List Str
def ckVar (g : Gx) (i : Nat) : Expr → Bool
  | .Name x _ => decide (g.N[i]? = some x) && visB g.sc x && dbg x
  | _ => false
def nameOf : Expr → Option Str
  | .Name x _ => some x
  | _ => none
def posOf : Expr → Pos
  | .Name _ p => p
  | _ => ⟨0, 0, 0, 0⟩
def ckCl (g : Gx) (tb : ClT) (d : Str) (e : Expr) : Bool := match e with
  | .Name x _ => decide (x = d) && glB g.sc d && decide ((d == ("__debug__" : Str)) = false) && tb.asked.contains d
  | _ => false
def isCall : Expr → Bool
  | .Call .. => true
  | _ => false
mutual
def ckH (g : Gx) (K : Hk) : HE → Expr → Bool
  | .con t, ee => ckK t ee
  | .var i, ee => ckVar g i ee
  | .isx ds tp, ee => match ee with
    | .Call (.Name f _) [x, c] [] _ => decide (f = "isinstance") && glB g.sc "isinstance" && ckVar g K.ie x && (match tp, c, ds with
      | false, c, [d] => ckCl g K.tb d c
      | true, .Tuple es _ _, d :: ds => decide ((d :: ds).length = es.length) && decide ((d :: ds).length ≤ 20) && ((d :: ds).zip es).all fun q => ckCl g K.tb q.1 q.2
      | _, _, _ => false)
    | _ => false
  | .fld f, ee => match ee with
    | .Attribute x n _ => decide (n = f) && ckVar g K.ie x && K.tb.fld.contains f
    | _ => false
  | .call f, ee => match ee with
    | .Call (.Name y _) [x] [] _ => decide (y = f) && K.fns.contains f && glB g.sc f && dbg f && ckVar g K.ie x
    | _ => false
  | .lst l, ee => match ee with
    | .List es _ => ckHs g K l es
    | _ => false
  | .tup l, ee => match ee with
    | .Tuple es _ _ => ckHs g K l es
    | _ => false
  | .cat a b, ee => match ee with
    | .BinOp l .Add r _ => ckH g K a l && ckH g K b r
    | _ => false
  | .ite c a b, ee => match ee with
    | .IfExp t x y _ => isCall t && ckH g K c t && ckH g K a x && ckH g K b y
    | _ => false
  | .jn n w s k, ee => match ee with
    | .Call (.Attribute (.Constant (.str z) _ _) m ap) [.ListComp (.Subscript ew ek _) [⟨t, .Call (.Name y _) [.Constant (.int j) _ _] [] _, [.Subscript es ek2 _], 0⟩] scope _] [] p =>
      decide (m = "join") && decide (z = Str.empty) && (ap.endLine == p.line) && blkC g.N g.sc scope ([k].map fun i => (g.N.getD i Str.empty, i)) && ckN (blkG g scope) k t && decide (y = "range") && glB g.sc "range" && decide (j = n) &&
        ckVar (blkG g scope) w ew && ckVar (blkG g scope) k ek && ckVar (blkG g scope) s es && ckVar (blkG g scope) k ek2
    | _ => false
def ckHs (g : Gx) (K : Hk) : HEs → List Expr → Bool
  | .nil, es => es.isEmpty
  | .cons a r, es => match es with
    | e :: es => ckH g K a e && ckHs g K r es
    | [] => false
end
def ckHx (g : Gx) (K : Hk) : HSx → Stmt → Bool
  | .asg i e, st => match st with
    | .Assign [t] ee _ => decide (i ≠ K.ie) && ckN g i t && !isComp ee && ckH g K e ee
    | _ => false
  | .par i j a b, st => match st with
    | .Assign [t] (.Tuple [v1, v2] k p) _ => decide (i ≠ K.ie) && decide (j ≠ K.ie) && parB g i j t (.Tuple [v1, v2] k p) && ckHs g K (.cons a (.cons b .nil)) [v1, v2]
    | _ => false
mutual
def ckS (g : Gx) : S → Stmt → Bool
  | .pass, st => match st with
    | .Pass _ => true
    | _ => false
  | .expr e, st => match st with
    | .Expr x _ => !isComp x && ckE g e x
    | _ => false
  | .asg i e, st => match st with
    | .Assign [t] x _ => ckN g i t && ckE g e x
    | _ => false
  | .asgO i e, st => match st with
    | .Assign [t] x _ => ckN g i t && ckE g e x
    | _ => false
  | .asgB i e, st => match st with
    | .Assign [t] x _ => ckN g i t && ckE g e x
    | _ => false
  | .asgT l e, st => match st with
    | .Assign [.Tuple es k p] x _ => ckNs g l es && !isComp x && noSwap g (.Tuple es k p) x && ckE g e x
    | _ => false
  | .par i j a b, st => match st with
    | .Assign [t] (.Tuple [v1, v2] k p) _ => parB g i j t (.Tuple [v1, v2] k p) && ckEs g (.cons a (.cons b .nil)) [v1, v2]
    | _ => false
  | .seti i ix e, st => match st with
    | .Assign [.Subscript (.Name x _) s _] v _ => decide (g.N[i]? = some x) && visB g.sc x && dbg x && notSlice s && !isComp v && ckE g ix s && ckE g e v
    | _ => false
  | .setd i ix e, st => match st with
    | .Assign [.Subscript (.Name x _) s _] v _ => decide (g.N[i]? = some x) && visB g.sc x && dbg x && !isComp v && ckE g ix s && ckE g e v
    | _ => false
  | .swap i x1 x2 e1 e2, st => match st with
    | .Assign [.Tuple [.Subscript (.Name x _) s1 _, .Subscript (.Name y _) s2 _] _ _] (.Tuple [v1, v2] _ _) _ =>
      decide (g.N[i]? = some x) && decide (x = y) && visB g.sc x && dbg x && notSlice s1 && notSlice s2 && ckE g x1 s1 && ckE g x2 s2 && ckEs g (.cons e1 (.cons e2 .nil)) [v1, v2]
    | _ => false
  | .app i e, st => match st with
    | .Expr (.Call (.Attribute (.Name x _) n ap) [v] [] p) _ => decide (g.N[i]? = some x) && visB g.sc x && dbg x && decide (n = "append") && (ap.endLine == p.line) && ckE g e v
    | _ => false
  | .aug i op e, st => match st with
    | .AugAssign (.Name x _) o v _ => decide (g.N[i]? = some x) && locB g x && decide (op = o) && (decide (op = .Add) || decide (op = .Sub)) && ckE g e v
    | _ => false
  | .ret e, st => match st with
    | .Return (some x) _ => ckE g e x
    | _ => false
  | .retN, st => match st with
    | .Return none _ => true
    | _ => false
  | .ite c a b, st => match st with
    | .If t x y _ => ckE g c t && ckSs g a x && ckSs g b y
    | _ => false
  | .forr tg it b, st => match st with
    | .For t i x [] _ => notSet i && ckTg g tg t && ckI g it t i && ckSs g b x
    | _ => false
  | .whl c b, st => match st with
    | .While t x [] _ => ckE g c t && ckSs g b x
    | _ => false
  | .bad, _ => true
  | .raise0 c, st => match st with
    | .Raise (some (.Call (.Name x _) [.Constant (.str _) _ _] [] _)) none _ => decide (x = c) && glB g.sc c && dbg c
    | _ => false
  | .raise1 c e, st => match st with
    | .Raise (some (.Call (.Name x _) [v] [] _)) none _ => decide (x = c) && glB g.sc c && dbg c && ckE g e v
    | _ => false
  | .tryx b c ie s, st => match st with
    | .Try body [.ExceptHandler (some (.Name x _)) (some n) [hs] _] [] [] _ => g.top && decide (x = c) && glB g.sc c && dbg c && decide (g.N[ie]? = some n) && decide (g.sc.names.lookup n = some .local) && g.tb.asked.contains c && ckSs g b body && ckHx g ⟨ie, g.tb, g.hots⟩ s hs
    | _ => false
def ckSs (g : Gx) : Ss → List Stmt → Bool
  | .nil, sts => sts.isEmpty
  | .cons a r, sts => match sts with
    | st :: sts => ckS g a st && ckSs g r sts
    | [] => false
  | .frz _ r, sts => ckSs g r sts
end
theorem noSwap_ok {X : Cx} {W : L2.WX} {Γ : Cl} {g : Gx} (ok : XOk X W Γ g) {es : List Expr} {k : Nat} {p : Pos} {va : Expr} (h : noSwap g (.Tuple es k p) va = true) (hn : es.all (fun e => match e with | .Name _ _ => true | _ => false) = true) : swappedStores [.Tuple es k p] va X.env = pure none := by
  cases va with
  | Tuple vs k2 p2 =>
    unfold swappedStores
    dsimp only
    split
    · rfl
    · rename_i c1
      split
      · rfl
      · rename_i c2
        simp only [noSwap] at h
        split at h
        · rename_i x p1 y p3
          have kk : ∀ z : Str, X.env.kindOf z = g.sc.names.lookup z := fun z => by show X.env.scope.names.lookup z = _; rw [ok.sc]
          have : ([Expr.Name x p1, Expr.Name y p3].filterMap fun
            | .Name id pos => if X.env.kindOf id == some .local && pos.line == (([Expr.Name x p1, Expr.Name y p3].head?.map (·.pos.line)).getD 0) then some id else none
            | _ => none).length ≠ 2 := by
            have hl : (([Expr.Name x p1, Expr.Name y p3].head?.map (·.pos.line)).getD 0) = p1.line := rfl
            rw [hl]
            simp only [Bool.or_eq_true, Bool.not_eq_true', decide_eq_false_iff_not] at h
            simp only [List.filterMap_cons, kk, List.filterMap_nil]
            rcases h with h | h
            · simp [h]
              split <;> simp
            · simp [h]
              split <;> simp
          generalize hL : List.filterMap _ [Expr.Name x p1, Expr.Name y p3] = L
          have hL' : L.length ≠ 2 := by rw [← hL]; exact this
          rw [if_pos (by simp [hL'])]
        · cases h
        · cases h
        · rename_i n1 n2 n3
          exfalso
          simp only [Bool.or_eq_true, Bool.not_eq_true', beq_iff_eq, bne_iff_ne, ne_eq, not_or, Bool.not_eq_false, Bool.or_eq_false_iff] at c1
          match es, n1, n2, n3 with
          | [], _, _, _ => simp at c1
          | [a], _, _, _ => simp at c1
          | [a, b], n1, n2, n3 => exact n2 _ _ rfl
          | [a, b, c], n1, n2, n3 => exact n3 _ _ _ rfl
          | a :: b :: c :: d :: r, _, _, _ => simp at c1
  | _ => rfl
end Fx

namespace Fx
open PySem L2
theorem lookup_zip : ∀ (ps : List Str) (us : List Value), ps.Nodup → us.length = ps.length → (ps.filterMap fun n => ((ps.zip us).lookup n).map fun v => (n, v)) = ps.zip us := by
  intro ps us nd hl
  have key : ∀ (qs : List Str) (ws : List Value), ws.length = qs.length → qs.Nodup → ∀ (f : Str → Option Value), (∀ q w, (q, w) ∈ qs.zip ws → f q = some w) → (qs.filterMap fun n => (f n).map fun v => (n, v)) = qs.zip ws := by
    intro qs
    induction qs with
    | nil => intro ws _ _ f _; simp
    | cons q qs ih =>
      intro ws hw nq f hf
      cases ws with
      | nil => cases hw
      | cons w ws =>
        have e := hf q w (by simp)
        simp only [List.filterMap_cons, e, Option.map_some, List.zip_cons_cons]
        rw [ih ws (by simpa using hw) (List.nodup_cons.mp nq).2 f fun q' w' h => hf q' w' (List.mem_cons_of_mem _ h)]
  refine key ps us hl nd _ fun q w h => ?_
  have : ∀ (qs : List Str) (ws : List Value), qs.Nodup → (q, w) ∈ qs.zip ws → (qs.zip ws).lookup q = some w := by
    intro qs
    induction qs with
    | nil => intro ws _ h; simp at h
    | cons p qs ih =>
      intro ws nq h
      cases ws with
      | nil => simp at h
      | cons x ws =>
        simp only [List.zip_cons_cons, List.mem_cons, Prod.mk.injEq] at h
        rcases h with ⟨rfl, rfl⟩ | h
        · simp
        · have hm : q ∈ qs := (List.of_mem_zip h).1
          have hne : (q == p) = false := by
            rw [beq_eq_false_iff_ne]
            rintro rfl
            exact (List.nodup_cons.mp nq).1 hm
          simp only [List.zip_cons_cons, List.lookup_cons, hne]
          exact ih ws (List.nodup_cons.mp nq).2 h
  exact this ps us nd h
theorem bind_ok {fd : FuncData} {as : List Arg} (hp : fd.params = { posonlyargs := [], args := as, vararg := none, kwonlyargs := [], kw_defaults := [], kwarg := none, defaults := [] }) (hd : fd.defaults = .none) (nd : (as.map (·.arg)).Nodup) (us : List Value) (hl : us.length = (as.map (·.arg)).length) :
    bindArgs fd ⟨us, []⟩ = pure ((as.map (·.arg)).zip us) := by
  have hm : ((as.map (·.arg)).filter fun n => (((as.map (·.arg)).zip us).lookup n).isNone) = [] := by
    rw [List.filter_eq_nil_iff]
    intro n hn
    have := lookup_zip _ us nd hl
    cases e : ((as.map (·.arg)).zip us).lookup n with
    | some _ => simp
    | none =>
      exfalso
      have h2 : ((as.map (·.arg)).zip us).map Prod.fst = as.map (·.arg) := by
        rw [List.map_fst_zip]; omega
      have h3 : n ∈ ((as.map (·.arg)).zip us).map Prod.fst := by rw [h2]; exact hn
      obtain ⟨⟨a, b⟩, h4, rfl⟩ := List.mem_map.mp h3
      have : ∀ l : List (Str × Value), (a, b) ∈ l → l.lookup a ≠ none := by
        intro l
        induction l with
        | nil => intro h; simp at h
        | cons x l ih =>
          intro h
          obtain ⟨x1, x2⟩ := x
          simp only [List.lookup_cons]
          cases q : (a == x1) with
          | true => simp
          | false =>
            simp only [List.mem_cons, Prod.mk.injEq] at h
            rcases h with ⟨h, _⟩ | h
            · rw [beq_eq_false_iff_ne] at q; exact absurd h q
            · exact ih h
      exact this _ h4 e
  have hg : ¬ us.length > (as.map (·.arg)).length := by omega
  unfold bindArgs
  simp only [hp, hd, List.map_nil, List.nil_append, List.append_nil, List.forIn_nil, seqItems?, pure_bind, bind_pure_comp, Option.getD_none]
  have h0 : notAStandIn Value.none = pure () := rfl
  have e0 : (#[] : Array Value).toList = [] := rfl
  rw [h0]
  simp only [map_pure, pure_bind, Option.getD_none, e0, List.length_nil, Nat.sub_zero, List.drop_nil, List.take_length, hm, List.isEmpty_nil, Bool.not_true, Bool.false_eq_true, if_false]
  rw [if_neg (by rw [hl]; simp)]
  simp only [List.drop_length, List.zip_nil_right, List.forIn_nil, pure_bind, lookup_zip _ us nd hl]
end Fx

set_option maxHeartbeats 4000000
namespace Fx
open PySem L2
open PyProof.Rows hiding St

/-! ### isinstance of an exception that keeps a dict or none -/
section
open PySem.W PySem.Calls PyProof.Rows
variable {prog : Program} {w : World} {A : Around} {E : Value → Shared → Prop} {s : Shared} {K : Frag} {x D : Addr} {ox : Obj} {od : Option Obj}
theorem exc_cls {Q : Option Value → Shared → Prop} (C : ExcC K D) (Xk : K.In s.heap) (I : InstAt s.heap x ox D od) (h : Q (some (.ref D)) { s with toks := s.toks + 1 }) : wpAny (model prog w) A (getAttr? (.ref x) "__class__") Q E s := by
  have hf : findObj K D od "__class__" = some (.bind (.builtin "getset_descriptor.__get__") (.builtin "object.__class__")) := by
    obtain ⟨cd, hc, _⟩ := any_some C.hd
    have h1 := C.ha
    have h2 := C.hn
    have h3 := C.ht
    unfold findObj
    rw [hc, Option.bind_some, h1, Option.bind_some]
    simp [h2, h3]
  obtain ⟨hp, g, d, t, os⟩ := s
  have K0 := I.type (M := model prog w)
  have K1 := looks_findIn (M := model prog w) Xk C.hg
  have K2 := looks_findIn (M := model prog w) Xk C.hk
  have K3 := looks_find (M := model prog w) Xk I hf
  have isb : Looks (model prog w) hp (isInstance (.ref x) (.type "BaseException")) true := K0.andThen (looks_subIn Xk C.hs)
  have z0 : (false && onTheHeap (Value.builtin "BaseException.__getattribute__")) = false := rfl
  have z1 : (onTheHeap (Value.ref D) && Value.builtin "BaseException.__getattribute__" == Value.builtin "object.__getattribute__") = false := by
    rw [show (Value.builtin "BaseException.__getattribute__" == Value.builtin "object.__getattribute__") = false from by decide +kernel]; rfl
  unfold getAttr? getAttrBy? getAttrBy
  refine wpAny_bind (wpAny_mkText (wpAny_bind (wpAny_attempt (wpAny_holding (wpAny_bind (K0.at (wpAny_bind (K1.at ?_))))))))
  show wpAny _ _ (if (onTheHeap (Value.ref D) && Value.builtin "BaseException.__getattribute__" == Value.builtin "object.__getattribute__") = true then _ else _) _ _ _
  rw [z1, if_neg Bool.false_ne_true]
  unfold getAttrByItsOwn hookBefore
  refine wpAny_bind ?_
  rw [if_pos (show onTheHeap (Value.ref D) = true from rfl)]
  refine K2.at ?_
  refine wpAny_bind (wpAny_attempt (wpAny_holding ?_))
  unfold callGetattribute
  rw [z0, if_neg Bool.false_ne_true]
  unfold boundAndCalled
  rw [PySem.F.excAttr_ValueError.ga.bind (.ref x)]
  refine wpAny_bind (wpAny_pure ?_)
  show wpAny _ _ (call (.builtin "BaseException.__getattribute__") [.ref x, .str "__class__" t]) _ _ _
  refine wpAny_call (codeAny_call_builtin PySem.F.excAttr_ValueError.ga.plain PySem.F.entry_bexc_ga ?_)
  refine @check_slot (model prog w) _ _ ⟨hp, g, d, t + 1, os⟩ "BaseException.__getattribute__" "BaseException" "__getattribute__" (.ref x) [.str "__class__" t] [] _ (by decide +kernel) (by decide +kernel) isb (PySem.F.args_bexc_ga (.ref x) (.str "__class__" t)) ?_
  unfold Builtin.«object.__getattribute__»
  refine wpAny_bind (wpAny_of_eq (a := ((Value.ref x : Value), [Value.str "__class__" t])) (by first | rfl | (simp only [slotArgs]; rfl)) ?_)
  refine wpAny_bind (wpAny_pure (wpAny_bind (K0.at (wpAny_bind (K3.at ?_)))))
  show wpAny _ _ (holding [Value.builtin "object.__class__"] (call (.builtin "getset_descriptor.__get__") [.builtin "object.__class__", .ref x, .ref D]) >>= ret) _ _ _
  refine wpAny_bind (wpAny_holding (wpAny_call (class_get (s := ⟨hp, g, d, t + 1, os⟩) (ox := ox) (od := od) Xk I C.hm ?_)))
  refine wpAny_pure ?_
  show wpAny _ _ (handedOut (.ref D)) _ _ _
  rw [handedOut_of (v := .ref D) rfl]
  first
    | exact wpAny_pure (wpAny_pure h)
    | exact wpAny_pure h
    | exact wpAny_pure (wpAny_bind (wpAny_pure (wpAny_pure h)))
theorem kit_exc (C : ExcC K D) : KitX K (.ref x) (.ref D) (fun h => ∃ od, InstAt h x ox D od) where
  ty := fun _ _ _ ⟨_, I⟩ => I.type
  it := fun _ _ Xk _ => by
    obtain ⟨cd, hc, _⟩ := any_some C.hd
    unfold clsIn at hc
    split at hc
    · rename_i c' d' cd' sl' ho
      intro A' Q' E' s' k q
      unfold isType loadHead
      exact wpAny_bind (wpAny_loadPart (k _ _ (Xk _ _ ho)) (wpAny_pure q))
    · cases hc
  ne := fun h tp dd its n sl Xk htp => by
    obtain ⟨cd, hc, _⟩ := any_some C.hd
    refine Bool.eq_false_iff.mpr fun q => ?_
    have e : D = tp := Value.ref.inj (beq_iff_eq.mp q)
    subst e
    unfold clsIn at hc
    split at hc
    · rename_i c' d' cd' sl' ho
      have z := (Xk _ _ ho).symm.trans htp
      cases z
    · cases hc
  ca := fun Xk ⟨_, I⟩ k => exc_cls C Xk I k
end

end Fx

set_option maxHeartbeats 4000000
namespace Fx
open PySem L2
open PyProof.Rows hiding St

/-! ### readings -/
/-- the exception: where it stands, what it is -/
structure Xq where
  ie : Nat
  a : Addr
  oe : Obj
  D : Addr
  d : Option Addr
  c : Str
  fs : List T
def XF (X : Cx) (q : Xq) (σ : St) (G : Hp) (ι : List Addr) : Prop := σ[q.ie]? = some (some (.ref q.a)) ∧ RepX X.mg X.K G ι (.exc q.c q.fs) (.ref q.D) q.d
theorem XF.mono {X : Cx} {q : Xq} {σ : St} {G G' : Hp} {ι ι' : List Addr} (l : Le G G') (p : ι <+: ι') (h : XF X q σ G ι) : XF X q σ G' ι' := ⟨h.1, h.2.mono l p⟩
def Rd1 {α β : Type} (X : Cx) (q : Xq) (R : Hp → List Addr → α → β → Prop) (f : En → Hs → Option (α × Hs)) (σ : St) (H : Hp) (Q : β → Hp → Prop) : Prop :=
  ∃ O G ι env h t h', SRel X.K O G ι env h σ H ∧ XF X q σ G ι ∧ f env h = some (t, h') ∧ ∀ G' ι' v H', Le G G' → ι <+: ι' → SRel X.K O G' ι' env h' σ H' → R G' ι' t v → Q v H'
def RdV (X : Cx) (q : Xq) (f : En → Hs → Option (T × Hs)) : TE := fun σ H Q => Rd1 X q (fun G ι t v => Rep X.K G ι t v) f σ H Q
def RdVs (X : Cx) (q : Xq) (f : En → Hs → Option (List T × Hs)) : TA := fun σ H Q => Rd1 X q (fun G ι t v => RepL X.K G ι t v) f σ H Q
section
variable {X : Cx} {q : Xq} {O G : Hp} {ι : List Addr} {env : En} {h : Hs} {σ : St} {H : Hp}
theorem rd1_bind {α β γ : Type} {f : En → Hs → Option (α × Hs)} {k : α × Hs → Option γ} {r : γ} {R : Hp → List Addr → α → β → Prop} {Q : β → Hp → Prop} (S : SRel X.K O G ι env h σ H) (x : XF X q σ G ι) (e : (f env h).bind k = some r)
    (hk : ∀ t h1 G' ι' v H', f env h = some (t, h1) → k (t, h1) = some r → Le G G' → ι <+: ι' → SRel X.K O G' ι' env h1 σ H' → XF X q σ G' ι' → R G' ι' t v → Q v H') : Rd1 X q R f σ H Q := by
  cases ef : f env h with
  | none => rw [ef] at e; cases e
  | some y =>
    rw [ef] at e
    exact ⟨O, G, ι, env, h, y.1, y.2, S, x, ef, fun G' ι' v H' l p S' r' => hk y.1 y.2 G' ι' v H' ef e l p S' (x.mono l p) r'⟩
end
/-- the context of such code -/
structure XHot (X : Cx) (g : Gx) (q : Xq) (tb : ClT) (η : Hx) : Prop where
  hN : X.N = g.N
  nd : g.N.Nodup
  sc : X.env.scope = g.sc
  fn : X.fn = g.fn
  pin : (q.a, q.oe) ∈ X.pn
  z : L2N.Zn (.ref q.D) q.d q.oe
  dat : ∃ vs : Array Value, q.oe.data = .fields vs
  hot : L2H.Hot1 X.A (q.a, q.oe)
  kn : (tb.cls.lookup q.c).isSome = true
  bi : ∀ x ∈ biNames, X.mg x = none
  fs : η.fs = q.fs
  sub : ∀ d b, η.sub d = some b → d ∈ tb.asked ∧ ∃ l, tb.cls.lookup q.c = some l ∧ b = l.contains d
  tbl : TblOk X.K X.mg tb
  un : X.A.units + 66 < cLine
section
variable {X : Cx} {g : Gx} {q : Xq} {tb : ClT} {η : Hx} {pos : Pos}
theorem XHot.gl (ok : XHot X g q tb η) {x : Str} (h : glB g.sc x = true) : Gl X x := by
  unfold glB at h
  show X.env.scope.names.lookup x = _
  rw [ok.sc]
  split at h
  · assumption
  · cases h
/-- the class object is the one at D -/
theorem XHot.cls (ok : XHot X g q tb η) {σ : St} {G : Hp} {ι : List Addr} (x : XF X q σ G ι) {l : List Str} (hl : tb.cls.lookup q.c = some l) : ClsOk X.K X.mg tb q.c l q.D := by
  obtain ⟨C, k⟩ := ok.tbl.cl q.c l hl
  have e : X.mg q.c = some (.ref q.D) := by
    have h2 := x.2
    unfold RepX at h2
    split at h2
    · rename_i e1
      injection e1 with e1 _
      obtain ⟨C', h1, h2, _⟩ := h2
      rw [e1, h1, h2]
    · rename_i e1
      injection e1 with e1 _
      obtain ⟨C', _, _, h1, h2, _⟩ := h2
      rw [e1, h1, h2]
    · exact h2.elim
  have : C = q.D := by
    have h1 := k.at_
    rw [e] at h1
    injection h1 with h1
    injection h1 with h1
    exact h1.symm
  rw [← this]; exact k
theorem h_con {t : T} {v : V} {e : Expr} (h : PE X e (tC v)) (r : ∀ G ι, Rep X.K G ι t v) : PE X e (RdV X q (hv η (.con t))) := by
  refine PE.imp h ?_
  rintro σ H Q ⟨O, G, ι, env, h, t', h', S, x, e, k⟩
  unfold hv at e
  cases e
  exact k G ι v H (Le.refl G) (List.prefix_refl _) S (r G ι)
theorem h_var (ok : XHot X g q tb η) {i : Nat} {x : Str} (h1 : g.N[i]? = some x) (h2 : visB g.sc x = true) (h3 : (x == ("__debug__" : Str)) = false) (h4 : (x == ("__classdict__" : Str)) = false) : PE X (.Name x pos) (RdV X q (hv η (.var i))) := by
  refine PE.imp (pe_var (i := i) (by rw [ok.hN]; exact h1) (by rw [ok.sc]; exact vis_of h2) h3 h4) ?_
  rintro σ H Q ⟨O, G, ι, env, h, t', h', S, x, e, k⟩
  unfold hv at e
  split at e
  · rename_i t ei
    cases e
    have hi : i < σ.length := by rw [← S.len]; exact (List.getElem?_eq_some_iff.mp ei).1
    obtain ⟨v, ev, r⟩ := S.slot i _ σ[i] ei (List.getElem?_eq_getElem hi)
    exact ⟨v, by rw [List.getElem?_eq_getElem hi, ev], k G ι v H (Le.refl G) (List.prefix_refl _) S r⟩
  · cases e
/-- the exception's own name -/
theorem h_e (ok : XHot X g q tb η) {x : Str} (h1 : g.N[q.ie]? = some x) (h2 : visB g.sc x = true) (h3 : (x == ("__debug__" : Str)) = false) (h4 : (x == ("__classdict__" : Str)) = false) : PE X (.Name x pos) (tVar q.ie) :=
  pe_var (i := q.ie) (by rw [ok.hN]; exact h1) (by rw [ok.sc]; exact vis_of h2) h3 h4
theorem boot_ve : bootBuiltins "ValueError" = some (.type "ValueError") := by decide +kernel
theorem h_cls (ok : XHot X g q tb η) {d : Str} (hg : glB g.sc d = true) (hd : (d == ("__debug__" : Str)) = false) {l : List Str} {C : Addr} (k : ClsOk X.K X.mg tb q.c l C) (hm : d ∈ tb.asked) :
    ∃ v cv, PE X (.Name d pos) (tC v) ∧ ClsV v cv ∧ (∀ u, RelV v u → u = cv) ∧ PySem.W.kitOne X.K (.ref C) cv = some (l.contains d) := by
  obtain ⟨v, cv, h, hk, _⟩ := k.ask d hm
  rcases h with ⟨h1, D, rfl, rfl⟩ | ⟨rfl, h1, rfl, rfl⟩
  · exact ⟨V.ref D, .ref D, pe_glob (ok.gl hg) h1 (show RelV (V.ref D) (.ref D) from rfl) hd, .own D, fun u r => r, hk⟩
  · exact ⟨V.ty "ValueError", .type "ValueError", pe_bltn (ok.gl hg) h1 boot_ve (show RelV (V.ty "ValueError") (.type "ValueError") from rfl) (by decide +kernel) hd, .ty _, fun u r => r, hk⟩
end
/-- isinstance(e, c) -/
def rIsP (K : PySem.W.Frag) (q : Xq) : List V → Hp → VK → Prop := fun xs H Q => ∃ (c : V) (cv : Value) (b : Bool), xs = [.ref q.a, c] ∧ (∀ u, RelV c u → u = cv) ∧ PySem.W.kitOne K (.ref q.D) cv = some b ∧ (q.d = none ∨ ∃ dd fs, q.d = some dd ∧ H dd = some (.xd fs)) ∧ Q (.bl b) H
def rIsPT (K : PySem.W.Frag) (q : Xq) : List V → Hp → VK → Prop := fun xs H Q => ∃ (tp : Addr) (cs : List V) (us : List Value) (b : Bool), xs = [.ref q.a, .ref tp] ∧ H tp = some (.tup cs) ∧ Paired ClsV cs us ∧ PySem.W.kitAny K (.ref q.D) us = some b ∧ (q.d = none ∨ ∃ dd fs, q.d = some dd ∧ H dd = some (.xd fs)) ∧ Q (.bl b) H
section
variable {X : Cx} {g : Gx} {q : Xq} {tb : ClT} {η : Hx} {pos : Pos}
theorem inst_at (ok : XHot X g q tb η) {pins : List (Addr × Obj)} {σ : St} {H : Hp} {s : Shared} (I : Inv X pins σ H s) (hd : q.d = none ∨ ∃ dd fs, q.d = some dd ∧ H dd = some (.xd fs)) : ∃ od, PySem.W.InstAt s.heap q.a q.oe q.D od := by
  obtain ⟨hget, _⟩ := I.pin (q.a, q.oe) (List.mem_append_left _ ok.pin)
  obtain ⟨vs, hv⟩ := ok.dat
  have hc : q.oe.cls = .ref q.D := ok.z.1
  have hdict : q.oe.dict = q.d := ok.z.2.1
  rcases hd with hd | ⟨dd, fs, hd, hH⟩
  · exact ⟨none, hget, hc, by unfold PySem.W.notCls; rw [hv], by rw [hdict, hd]; exact True.intro⟩
  · have hx : ObjOk X.prog X.w H s.heap dd (.xd fs) := I.hok dd _ hH
    obtain ⟨mA, hns, _⟩ := hx
    obtain ⟨od, ho, _⟩ := lookIn_ns hns
    exact ⟨some od, hget, hc, by unfold PySem.W.notCls; rw [hv], by rw [hdict, hd]; exact ho⟩
theorem call_isP (ok : XHot X g q tb η) (C : ExcC X.K q.D) : CallR X (.builtin "isinstance") (rIsP X.K q) := by
  intro pins s σ H xs us Q I r h
  obtain ⟨c, cv, b, rfl, hcv, e, hd, qq⟩ := h
  obtain ⟨u1, u2, rfl, r1, r2⟩ := vals2 r
  obtain rfl : u1 = Value.ref q.a := r1
  rw [hcv _ r2]
  exact PySem.W.kia_one (kit_exc C) I.kIn (inst_at ok I hd) e (fun z => nomatch z) fun tk => ⟨.bl b, H, I.tok tk, rfl, qq⟩
theorem call_isPT (ok : XHot X g q tb η) (C : ExcC X.K q.D) : CallR X (.builtin "isinstance") (rIsPT X.K q) := by
  intro pins s σ H xs us Q I r h
  obtain ⟨tp, cs, ws, b, rfl, hT, k, e, hd, qq⟩ := h
  obtain ⟨u1, u2, rfl, r1, r2⟩ := vals2 r
  obtain rfl : u1 = Value.ref q.a := r1
  obtain rfl : u2 = Value.ref tp := r2
  obtain ⟨_, its, rv, o, h1, h2, n, h3⟩ := (show ObjOk X.prog X.w H s.heap tp (.tup cs) from I.hok tp _ hT)
  have e3 := ClsV.all k rv
  subst e3
  obtain ⟨oc, od, dt, sl⟩ := o
  simp only at h2 h3
  subst h2 h3
  exact PySem.W.kia_tup (kit_exc C) I.kIn (inst_at ok I hd) h1 e (fun z => nomatch z) fun tk => ⟨.bl b, H, I.tok tk, rfl, qq⟩
/-- its dict stands -/
theorem XF.dict {σ : St} {O G : Hp} {ι : List Addr} {env : En} {h : Hs} {H : Hp} (x : XF X q σ G ι) (S : SRel X.K O G ι env h σ H) : q.d = none ∨ ∃ dd fs, q.d = some dd ∧ H dd = some (.xd fs) := by
  have h2 := x.2
  unfold RepX at h2
  split at h2
  · obtain ⟨_, _, _, h⟩ := h2; exact .inl h
  · obtain ⟨_, da, v, _, _, h, h4, _⟩ := h2; exact .inr ⟨da, _, h, S.h.gs _ _ h4⟩
  · exact h2.elim
theorem h_isx (ok : XHot X g q tb η) {x d : Str} {p p1 p2 : Pos} (h1 : g.N[q.ie]? = some x) (h2 : visB g.sc x = true) (h3 : (x == ("__debug__" : Str)) = false) (h4 : (x == ("__classdict__" : Str)) = false) (hg : glB g.sc "isinstance" = true) (hd : glB g.sc d = true) (hdb : (d == ("__debug__" : Str)) = false) :
    PE X (.Call (.Name "isinstance" p) [.Name x p1, .Name d p2] [] pos) (RdV X q (hv η (.isx [d] false))) := by
  refine ⟨fun pins s σ H Q I w => ?_⟩
  obtain ⟨O, G, ι, env, h, t', h', S, xf, e, k⟩ := w
  unfold hv at e
  cases es : η.sub d with
  | none => unfold anySub at e; rw [es] at e; cases e
  | some b =>
    obtain ⟨hm, l, hl, rfl⟩ := ok.sub d b es
    have K0 := ok.cls xf hl
    obtain ⟨v, cv, hpe, hcv, hu, hk⟩ := h_cls (pos := p2) ok hd hdb K0 hm
    have et : t' = .bl (l.contains d) ∧ h' = h := by
      have ea : anySub η.sub [d] = some (l.contains d) := by
        unfold anySub
        rw [es]
        cases l.contains d <;> rfl
      rw [ea] at e
      cases e
      exact ⟨rfl, rfl⟩
    obtain ⟨rfl, rfl⟩ := et
    refine (pe_callB (call_isP ok K0.ex) (ok.gl hg) (ok.bi _ (by decide +kernel)) boot_isi (pa_cons (h_e ok h1 h2 h3 h4) (pa_cons hpe pa_nil)) (by decide +kernel) (by decide +kernel)).run pins s σ H Q I ?_
    exact ⟨.ref q.a, xf.1, v, cv, l.contains d, rfl, hu, hk, xf.dict S, k G ι _ H (Le.refl _) (List.prefix_refl _) S .bl⟩
end
end Fx

set_option maxHeartbeats 4000000
namespace Fx
open PySem L2
open PyProof.Rows hiding St
section
variable {X : Cx} {g : Gx} {q : Xq} {tb : ClT} {η : Hx} {pos : Pos} {a b c : HE} {ea eb ec : Expr} {l : HEs} {es : List Expr}
/-- the classes' names -/
theorem h_names (ok : XHot X g q tb η) {lc : List Str} {C : Addr} (K0 : ClsOk X.K X.mg tb q.c lc C) : ∀ (ds : List Str) (ps : List Pos), ds.length = ps.length → ds.all (fun d => glB g.sc d && decide ((d == ("__debug__" : Str)) = false)) = true → (∀ d ∈ ds, d ∈ tb.asked) →
    ∃ (vs : List V) (cvs : List Value), vs.length = ds.length ∧ PA X ((ds.zip ps).map fun q => Expr.Name q.1 q.2) (fun _ H Q => Q vs H) ∧ Paired ClsV vs cvs ∧ PySem.W.kitAny X.K (.ref C) cvs = anySub (fun d => some (lc.contains d)) ds
  | [], [], _, _, _ => ⟨[], [], rfl, pa_nil, .nil, rfl⟩
  | [], _ :: _, e, _, _ => by cases e
  | _ :: _, [], e, _, _ => by cases e
  | d :: ds, p :: ps, e, h, hm => by
    simp only [List.all_cons, Bool.and_eq_true, decide_eq_true_eq] at h
    obtain ⟨vs, cvs, hl, hp, hc, hk⟩ := h_names ok K0 ds ps (by simpa using e) (by simpa using h.2) fun d hd => hm d (List.mem_cons_of_mem _ hd)
    obtain ⟨v, cv, hpe, hcv, _, hk1⟩ := h_cls (pos := p) ok h.1.1 h.1.2 K0 (hm d List.mem_cons_self)
    refine ⟨v :: vs, cv :: cvs, by simp [hl], PA.imp (pa_cons hpe hp) fun σ H Q q => q, .cons hcv hc, ?_⟩
    unfold PySem.W.kitAny anySub
    rw [hk1]
    cases lc.contains d with
    | true => rfl
    | false => simpa using hk
theorem any_eq' (ok : XHot X g q tb η) {ds : List Str} {r : Bool} (e : anySub η.sub ds = some r) (hne : ds ≠ []) : ∃ l, tb.cls.lookup q.c = some l ∧ anySub (fun d => some (l.contains d)) ds = some r := by
  cases ds with
  | nil => exact absurd rfl hne
  | cons d ds =>
    have h0 : ∃ b, η.sub d = some b := by
      unfold anySub at e
      cases es : η.sub d with
      | none => rw [es] at e; cases e
      | some b => exact ⟨b, rfl⟩
    obtain ⟨b, es⟩ := h0
    obtain ⟨_, l, hl, _⟩ := ok.sub d b es
    refine ⟨l, hl, ?_⟩
    have key : ∀ ds : List Str, anySub η.sub ds = some r → anySub (fun d => some (l.contains d)) ds = some r := by
      intro ds
      induction ds with
      | nil => intro h; exact h
      | cons d ds ih =>
        intro h
        unfold anySub at h ⊢
        cases es : η.sub d with
        | none => rw [es] at h; cases h
        | some b =>
          obtain ⟨_, l', hl', rfl⟩ := ok.sub d b es
          rw [hl] at hl'
          cases hl'
          rw [es] at h
          cases el : l.contains d with
          | true => rw [el] at h; exact h
          | false => rw [el] at h; exact ih h
    exact key _ e
theorem h_isxT (ok : XHot X g q tb η) {x : Str} {ds : List Str} {ps : List Pos} {p p1 p2 : Pos} {k : Nat} (h1 : g.N[q.ie]? = some x) (h2 : visB g.sc x = true) (h3 : (x == ("__debug__" : Str)) = false) (h4 : (x == ("__classdict__" : Str)) = false) (hg : glB g.sc "isinstance" = true)
    (hne : ds ≠ []) (hl : ds.length = ps.length) (hz : ds.length ≤ 20) (hd : ds.all (fun d => glB g.sc d && decide ((d == ("__debug__" : Str)) = false)) = true) (hm : ∀ d ∈ ds, d ∈ tb.asked) :
    PE X (.Call (.Name "isinstance" p) [.Name x p1, .Tuple ((ds.zip ps).map fun q => Expr.Name q.1 q.2) k p2] [] pos) (RdV X q (hv η (.isx ds true))) := by
  refine ⟨fun pins s σ H Q I w => ?_⟩
  obtain ⟨O, G, ι, env, h, t', h', S, xf, e, kk⟩ := w
  unfold hv at e
  cases es : anySub η.sub ds with
  | none => rw [es] at e; cases e
  | some r =>
    rw [es] at e
    cases e
    obtain ⟨l, hl', er⟩ := any_eq' ok es hne
    have K0 := ok.cls xf hl'
    obtain ⟨vs, cvs, hvl, hpa, hpr, hk⟩ := h_names ok K0 ds ps hl hd hm
    refine (pe_callB (call_isPT ok K0.ex) (ok.gl hg) (ok.bi _ (by decide +kernel)) boot_isi (pa_cons (h_e ok h1 h2 h3 h4) (pa_cons (pe_tup hpa) pa_nil)) (by decide +kernel) (by decide +kernel)).run pins s σ H Q I ?_
    refine ⟨.ref q.a, xf.1, by have := sizeLine_eq; omega, fun tp htp => ?_⟩
    obtain ⟨S3, _⟩ := S.made (o := .tup vs) htp
    refine ⟨tp, vs, cvs, r, rfl, upd_same, hpr, by rw [hk, er], xf.dict S3, kk G ι _ _ (Le.refl _) (List.prefix_refl _) S3 .bl⟩
theorem h_fld (ok : XHot X g q tb η) {x f : Str} {p1 : Pos} (h1 : g.N[q.ie]? = some x) (h2 : visB g.sc x = true) (h3 : (x == ("__debug__" : Str)) = false) (h4 : (x == ("__classdict__" : Str)) = false) (hf : f ∈ tb.fld) (hc : (tb.cls.lookup q.c).isSome = true) :
    PE X (.Attribute (.Name x p1) f pos) (RdV X q (hv η (.fld f))) := by
  refine ⟨fun pins s σ H Q I w => ?_⟩
  obtain ⟨O, G, ι, env, h, t', h', S, xf, e, kk⟩ := w
  unfold hv at e
  rw [ok.fs] at e
  obtain ⟨l, hl⟩ := Option.isSome_iff_exists.mp hc
  have K0 := ok.cls xf hl
  split at e
  · rename_i g0 t efs
    obtain ⟨ef, e⟩ := ite_some e
    cases e
    subst ef
    have hx := xf.2
    rw [efs] at hx
    obtain ⟨C, da, v, _, _, hd, hG, rv⟩ := hx
    refine attr_of (by rfl) (thn ((h_e (pos := p1) ok h1 h2 h3 h4).run pins s σ H (fun y H1 => y = .ref q.a ∧ H1 = H) I ⟨_, xf.1, rfl, rfl⟩) fun u s1 hh => ?_)
    obtain ⟨y, H1, I1, rx, ey, rfl⟩ := hh
    subst ey
    obtain rfl : u = Value.ref q.a := rx
    have hH : H1 da = some (.xd [(f, v)]) := S.h.gs _ _ hG
    obtain ⟨od, J⟩ := inst_at ok I1 (.inr ⟨da, _, hd, hH⟩)
    have hx : ObjOk X.prog X.w H1 s1.heap da (.xd [(f, v)]) := I1.hok da _ hH
    obtain ⟨mA, hns, hr⟩ := hx
    obtain ⟨od', ho, hlk⟩ := lookIn_ns hns
    have eod : od = some od' := by
      have hj := J.dict
      rw [show q.oe.dict = some da from ok.z.2.1.trans hd] at hj
      cases od with
      | none => exact hj.elim
      | some od =>
        have hj2 : s1.heap.get? da = some od := hj
        rw [ho] at hj2
        cases hj2
        rfl
    subst eod
    have hv0 : RelO (some v) (mA f) := by
      have := hr f
      simpa using this
    obtain ⟨u, hu, ru⟩ := RelO.some_of (v := v) hv0
    exact HandSPX.exc_get I1.kIn J K0.xf.ga K0.xf.gg K0.xf.exC (PySem.W.findObj_own K0.xf.hdC (K0.no f hf) rfl (by rw [hlk, hu])) (handed_of ru) ⟨v, H1, I1.tok _, ru, kk G ι _ _ (Le.refl _) (List.prefix_refl _) S rv⟩
  · cases e
/-! ### lists -/
theorem hv_cons {a : HE} {r : HEs} {env : En} {h : Hs} : hvs η (.cons a r) env h = (hv η a env h).bind fun x => (hvs η r env x.2).bind fun y => some (x.1 :: y.1, y.2) := by rw [hvs]
theorem h_nil : PA X [] (RdVs X q (hvs η .nil)) := by
  refine PA.imp pa_nil ?_
  rintro σ H Q ⟨O, G, ι, env, h, t', h', S, x, e, k⟩
  unfold hvs at e
  cases e
  exact k G ι [] H (Le.refl G) (List.prefix_refl _) S .nil
theorem h_cons {r : HEs} (hs : notStar ea = true) (ha : PE X ea (RdV X q (hv η a))) (hr : PA X es (RdVs X q (hvs η r))) : PA X (ea :: es) (RdVs X q (hvs η (.cons a r))) := by
  refine PA.imp (pa_cons ha hr (star_ok hs)) ?_
  rintro σ H Q ⟨O, G, ι, env, h, t', h', S, x, e, k⟩
  rw [hv_cons] at e
  refine rd1_bind S x e fun t h1 G1 ι1 v H1 _ e1 l1 p1 S1 x1 r1 => ?_
  refine rd1_bind S1 x1 e1 fun ts h2 G2 ι2 vs H2 _ e2 l2 p2 S2 x2 r2 => ?_
  cases e2
  exact k _ _ _ _ (l1.trans l2) (p1.trans p2) S2 (.cons (r1.mono l2 p2) r2)
theorem lay_lst {O G : Hp} {ι : List Addr} {env : En} {h : Hs} {σ : St} {H : Hp} {K : PySem.W.Frag} {ts : List T} {vs : List V} {p : Addr} (S : SRel K O G ι env h σ H) (r : RepL K G ι ts vs) (hp : H p = none) :
    ∃ G', Le G G' ∧ SRel K O G' ι env h σ (upd H p (.lst vs)) ∧ Rep K G' ι (.lst ts) (.ref p) := by
  obtain ⟨S1, f⟩ := S.made (o := .lst vs) hp
  obtain ⟨S2, l2, r2⟩ := S1.freeze (c := .lst ts) ⟨vs, upd_same, r⟩ f
  exact ⟨_, l2, S2, r2⟩
theorem h_lst (h : PA X es (RdVs X q (hvs η l))) : PE X (.List es pos) (RdV X q (hv η (.lst l))) := by
  refine PE.imp (pe_lst h) ?_
  rintro σ H Q ⟨O, G, ι, env, h, t', h', S, x, e, k⟩
  rw [hv] at e
  refine rd1_bind S x e fun ts h1 G1 ι1 vs H1 _ e1 l1 p1 S1 x1 r1 => ?_
  obtain ⟨hl, e1⟩ := ite_some e1
  cases e1
  refine ⟨by rw [← r1.length]; exact hl, fun p hp => ?_⟩
  obtain ⟨G2, l2, S2, r2⟩ := lay_lst S1 r1 hp
  exact k _ _ _ _ (l1.trans l2) p1 S2 r2
theorem h_tup {kk : Nat} (h : PA X es (RdVs X q (hvs η l))) : PE X (.Tuple es kk pos) (RdV X q (hv η (.tup l))) := by
  refine PE.imp (pe_tup h) ?_
  rintro σ H Q ⟨O, G, ι, env, h, t', h', S, x, e, k⟩
  rw [hv] at e
  refine rd1_bind S x e fun ts h1 G1 ι1 vs H1 _ e1 l1 p1 S1 x1 r1 => ?_
  obtain ⟨hl, e1⟩ := ite_some e1
  cases e1
  refine ⟨by rw [← r1.length]; exact hl, fun p hp => ?_⟩
  obtain ⟨S2, l2⟩ := S1.laid (o := .tup vs) hp
  exact k _ _ _ _ (l1.trans l2) p1 S2 (.tup upd_same (r1.mono l2 (List.prefix_refl _)))
theorem h_cat (ha : PE X ea (RdV X q (hv η a))) (hb : PE X eb (RdV X q (hv η b))) : PE X (.BinOp ea .Add eb pos) (RdV X q (hv η (.cat a b))) := by
  refine PE.imp (pe_op (bin_ok (op := .Add)) ha hb) ?_
  rintro σ H Q ⟨O, G, ι, env, h, t', h', S, x, e, k⟩
  rw [hv] at e
  refine rd1_bind S x e fun t h1 G1 ι1 v H1 _ e1 l1 p1 S1 x1 r1 => ?_
  refine rd1_bind S1 x1 e1 fun t2 h2 G2 ι2 w H2 _ e2 l2 p2 S2 x2 r2 => ?_
  dsimp only at e2
  obtain ⟨m, n, rfl, rfl, e2⟩ : ∃ m n, t = .lst m ∧ t2 = .lst n ∧ (if m.length + n.length ≤ sizeLine then some (T.lst (m ++ n), h2) else none) = some (t', h') := by
    split at e2
    · exact ⟨_, _, rfl, rfl, e2⟩
    · cases e2
  · obtain ⟨hl, e2⟩ := ite_some e2
    cases e2
    refine ⟨O, G2, ι2, env, h', σ, _, _, .new (.lst (m ++ n)), S2, .rep (r1.mono l2 p2), .rep r2, by simp only [opB]; rw [if_pos hl], fun G3 y H3 l3 S3 r3 => ?_⟩
    obtain ⟨ad, rfl, ho, f⟩ := r3
    obtain ⟨S4, l4, r4⟩ := S3.freeze ho f
    exact k _ _ _ _ ((l1.trans l2).trans (l3.trans l4)) (p1.trans p2) S4 r4
/-- a truth -/
theorem h_test (h : PE X ea (RdV X q (hv η a))) (he : ∀ whole, isTrue ea X.env whole = (do let v ← whole; standAt ea.pos; holding [v] (truthy v))) : PT X ea (fun σ H Q => ∃ O G ι env h k h', SRel X.K O G ι env h σ H ∧ XF X q σ G ι ∧ hv η a env h = some (.bl k, h') ∧ ∀ G' ι' H', Le G G' → ι <+: ι' → SRel X.K O G' ι' env h' σ H' → XF X q σ G' ι' → Q k H') := by
  refine PT.imp (pt_val h he) ?_
  rintro σ H Q ⟨O, G, ι, env, h, k, h', S, x, e, kk⟩
  exact ⟨O, G, ι, env, h, .bl k, h', S, x, e, fun G' ι' v H' l p S' r => by cases r; exact ⟨k, rfl, kk G' ι' H' l p S' (x.mono l p)⟩⟩
theorem h_ite (hc : PE X ec (RdV X q (hv η c))) (he : ∀ whole, isTrue ec X.env whole = (do let v ← whole; standAt ec.pos; holding [v] (truthy v))) (ha : PE X ea (RdV X q (hv η a))) (hb : PE X eb (RdV X q (hv η b))) : PE X (.IfExp ec ea eb pos) (RdV X q (hv η (.ite c a b))) := by
  refine PE.imp (pe_ifExp (h_test hc he) ha hb) ?_
  rintro σ H Q ⟨O, G, ι, env, h, t', h', S, x, e, k⟩
  rw [hv] at e
  cases ec' : hv η c env h with
  | none => rw [ec'] at e; cases e
  | some y =>
    obtain ⟨y, h1⟩ := y
    rw [ec'] at e
    simp only [Option.bind_some] at e
    cases y with
    | bl kb =>
      refine ⟨O, G, ι, env, h, kb, h1, S, x, ec', fun G' ι' H' l p S' x' => ?_⟩
      cases kb with
      | true => exact ⟨O, G', ι', env, h1, t', h', S', x', e, fun G2 ι2 v H2 l2 p2 => k G2 ι2 v H2 (l.trans l2) (p.trans p2)⟩
      | false => exact ⟨O, G', ι', env, h1, t', h', S', x', e, fun G2 ι2 v H2 l2 p2 => k G2 ι2 v H2 (l.trans l2) (p.trans p2)⟩
    | _ => cases e
end
end Fx

set_option maxHeartbeats 4000000
namespace Fx
open PySem L2
open PyProof.Rows hiding St

/-- [.. for .. in ..] where an exception is handled -/
theorem lc_hot {X : Cx} {elt tg iter : Expr} {ifs : List Expr} {scope : Scope} {own : List (Str × Nat)} {pos : Pos} {wi : TI} {gg : TG} {tt : TT} {te : TE} (hot : L2H.HotC X) (hN : X.N.Nodup) (hi : L2H.PIH X tg iter wi) (ok : BlkOk X.N X.env.scope scope own)
    (hg : ∀ (s : Shared) (H : Hp) (C : Addr) (cl : List (Str × Addr)) (fp : List Addr), PG (X.blk s H scope (compEnvC scope cl C X.env) fp) tg gg)
    (ht : ∀ (s : Shared) (H : Hp) (C : Addr) (cl : List (Str × Addr)) (fp : List Addr), PTs (X.blk s H scope (compEnvC scope cl C X.env) fp) ifs tt)
    (he : ∀ (s : Shared) (H : Hp) (C : Addr) (cl : List (Str × Addr)) (fp : List Addr), PE (X.blk s H scope (compEnvC scope cl C X.env) fp) elt te) (hs : ∀ x, foldedSetIterable iter X.env x = pure x) :
    PE X (.ListComp elt [⟨tg, iter, ifs, 0⟩] scope pos) (tLc wi gg tt te (own.map (·.2))) := by
  refine ⟨fun pins s σ H Q I h => ?_⟩
  obtain ⟨p, hot1, hp⟩ := hot
  rw [eval_ListComp]
  have hfree : ∀ y ∈ scope.names, y.2 = .free → ∃ c, X.env.cells.lookup y.1 = some c := fun y hy e => (ok.free y hy e).elim (fun k => I.ok.has _ (.inl k)) fun k => I.ok.has _ (.inr k)
  refine wpAny_comprehension_free (use := none) rfl hs (closure_ok hfree) ok.kind (fun y hy e => by rw [ok.uniq y hy, e]) (thn (hi.run pins s σ H _ I h) fun xv s1 hx => thn hx fun itv s2 h2 => ?_)
  obtain ⟨it, fp, tn, J, H2, rfl, I2, T, st2, f2, q⟩ := h2
  refine wpAny_newObj_type (newEnv_comp ?_) (by show 0 ≤ sizeLine; decide)
  generalize hD : s2.heap.objs.size = D
  have hDn : H2 D = none := I2.hok.fresh (Nat.le_of_eq hD)
  obtain ⟨W, ⟨m0, w0⟩, turn⟩ := q D hDn
  have hot2 := I2.pin p (List.mem_append_left _ hp)
  have npD : p.1 ≠ D := fun e => absurd (Heap.lt_size hot2.1) (by rw [e, ← hD]; exact Nat.lt_irrefl _)
  generalize hs3 : ({ s2 with heap := s2.heap.push { cls := .type "list", data := .seq ([] : List Value).toArray } } : Shared) = s3
  have h3 : s3.heap = s2.heap.push { cls := .type "list", data := .seq ([] : List Value).toArray } := by rw [← hs3]
  have I3 : Inv X pins σ (upd H2 D (.lst [])) s3 := by
    rw [← hs3]
    refine I2.laid (t' := s2.toks) (fun b o e => Heap.get?_push_of_some _ e) (Nat.le_of_eq hD) ⟨Nat.zero_le _, [], 0, .nil, ?_⟩
    rw [← hD]; exact Heap.get?_push_size _ rfl
  have sz : ∀ b ∈ fp, b < s2.heap.objs.size := fun b hb => by
    obtain ⟨o, e, _⟩ := T.obj _ _ st2 b hb
    exact Heap.lt_size e
  have f3 : ∀ b ∈ fp, FpOk X pins (upd H2 D (.lst [])) b ∧ b < s3.heap.objs.size := fun b hb => by
    have hlt := sz b hb
    refine ⟨⟨?_, (f2 b hb).2⟩, by rw [h3, Heap.size_push]; exact Nat.lt_succ_of_lt hlt⟩
    rw [upd_ne (by rw [← hD]; exact Nat.ne_of_lt hlt)]; exact (f2 b hb).1
  have npf : ∀ b ∈ fp, p.1 ≠ b := fun b hb => (f2 b hb).2.2.2.2.2 p (List.mem_append_left _ hp)
  have st3 : tn 0 s3.heap := T.keep _ _ _ st2 fun b _ o e => by rw [h3]; exact Heap.get?_push_of_some _ e
  have I4 := block_start I3 ok hN f3
  have pg := hg s3 (upd H2 D (.lst [])) s3.heap.objs.size (cellsFrom (s3.heap.objs.size + 1) scope.names (cloFrom X.env.cells scope.names [])) fp
  have pt := ht s3 (upd H2 D (.lst [])) s3.heap.objs.size (cellsFrom (s3.heap.objs.size + 1) scope.names (cloFrom X.env.cells scope.names [])) fp
  have pe := he s3 (upd H2 D (.lst [])) s3.heap.objs.size (cellsFrom (s3.heap.objs.size + 1) scope.names (cloFrom X.env.cells scope.names [])) fp
  have hot3 := I3.pin p (List.mem_append_left _ hp)
  show codeAny _ _ (.compStart (.ListComp elt [⟨tg, iter, ifs, 0⟩] scope pos) 0 (.ref it) (.ref D) (compEnvC scope (cellsFrom (s3.heap.objs.size + 1) scope.names (cloFrom X.env.cells scope.names [])) s3.heap.objs.size X.env)) (compPost (model X.prog X.w) X.A X.xe none _ (.ref D) s3.heap.objs.size) { s3 with heap := pushCells (s3.heap.push { cls := .type "dict", data := .dict #[] }) scope.names }
  have nfp : ∀ b ∈ fp, (upd H2 D (.lst [])) b = none := fun b hb => (f3 b hb).1.1
  generalize hce : compEnvC scope (cellsFrom (s3.heap.objs.size + 1) scope.names (cloFrom X.env.cells scope.names [])) s3.heap.objs.size X.env = ce at I4 pg pt pe ⊢
  have cL : ce.locals = s3.heap.objs.size := by subst hce; rfl
  generalize hH3 : upd H2 D (.lst []) = H3 at I3 I4 pg pt pe w0 nfp f3 hot3
  generalize hs4 : ({ s3 with heap := pushCells (s3.heap.push { cls := .type "dict", data := .dict #[] }) scope.names } : Shared) = s4 at I4 ⊢
  have st4 : tn 0 s4.heap := T.keep _ _ _ st3 fun b _ o e => by rw [← hs4]; exact pushCells_keeps _ _ _ _ (Heap.get?_push_of_some _ e)
  generalize hB : X.blk s3 H3 scope ce fp = B at I4 pg pt pe
  have eB1 : B.prog = X.prog := by rw [← hB]
  have eBA : B.A = X.A := by rw [← hB]
  have ePn : B.pn = [] := by rw [← hB]
  have eEx : B.ex = fp := by rw [← hB]
  have I4p : Inv B [p] (wipe σ (own.map (·.2))) H3 s4 := I4.pins_of fun r hr => by
    obtain rfl : r = p := by simpa using hr
    refine ⟨?_, hot3.2.1, ?_, ?_, hot3.2.2.2.2⟩
    · rw [← hs4]; exact pushCells_keeps _ _ _ _ (Heap.get?_push_of_some _ hot3.1)
    · rw [← hB]
      show r.1 ≠ ce.locals
      rw [cL]
      exact Nat.ne_of_lt (Heap.lt_size hot3.1)
    · rw [← hB]
      show r.1 ∉ frs X.stack
      exact fun hm => (List.mem_cons.mp (I3.stkSub r.1 hm)).elim hot3.2.2.1 hot3.2.2.2.1
  have stat : ∀ {σ' : St} {H' : Hp} {s' : Shared}, Inv B [p] σ' H' s' → (∀ b ∈ fp, H' b = none) → ∀ b ∈ fp, FpOk B [p] H' b := fun {σ' H' s'} I' hn b hb => by
    have e1 := I'.ok.exf b (by rw [eEx]; exact hb)
    exact ⟨hn b hb, e1.1, I'.ok.exfs b (by rw [eEx]; exact hb), .inl (by rw [eEx]; exact hb), fun x c e => e1.2 x c e, fun r hr => by
      rw [ePn] at hr
      obtain rfl : r = p := by simpa using hr
      exact npf b hb⟩
  -- the block's context with the exception in it
  have hotB : L2H.HotC (B.tr (B.pn ++ [p]) B.xe) := ⟨p, by show L2H.Hot1 B.A p; rw [eBA]; exact hot1, List.mem_append_right _ List.mem_cons_self⟩
  have eP : B.prog = X.prog := by rw [← hB]
  have eW : B.w = X.w := by rw [← hB]
  have eK : B.K = X.K := by rw [← hB]
  have fpT : ∀ {H' : Hp}, (∀ b ∈ fp, FpOk B [p] H' b) → ∀ b ∈ fp, FpOk (B.tr (B.pn ++ [p]) B.xe) [] H' b := fun {H'} f b hb => by
    obtain ⟨f0, f1, f2, f3, f4, f5⟩ := f b hb
    exact ⟨f0, f1, f2, f3, f4, fun r hr => f5 r (by rw [List.append_nil] at hr; exact hr)⟩
  have loop : codeAny (model X.prog X.w) X.A (.compLoop (.ListComp elt [⟨tg, iter, ifs, 0⟩] scope pos) 0 (.ref it) (.ref D) ce) (compPost (model X.prog X.w) X.A X.xe none (EP X pins σ Q) (.ref D) s3.heap.objs.size) s4 := by
    refine compLoop_any (fun n s' => ∃ i H', Inv B [p] (wipe σ (own.map (·.2))) H' s' ∧ tn i s'.heap ∧ (∀ b ∈ fp, H' b = none) ∧ W i n H') ?_ m0 ⟨0, H3, I4p, st4, nfp, w0⟩
    rintro n s5 ⟨i, H5, I5, st5, n5, w5⟩
    have J5 := I5.toTry B.xe
    rcases turn i n H5 w5 with ⟨stop, qq⟩ | ⟨go, Nx, hNx, step⟩
    · have td := T.done (B.tr (B.pn ++ [p]) B.xe) eP eW eK hotB i [] s5 _ H5 (fun _ _ => False) J5 (fpT (stat I5 n5)) st5 stop
      rw [show (B.tr (B.pn ++ [p]) B.xe).A = X.A from eBA] at td
      refine thnF td fun r s6 ⟨hr, J6⟩ => ?_
      have I6 := J6.ofTry I5.ok
      subst hr
      have I7 : Inv X pins σ H5 s6 := by
        have e6 := I6
        rw [← hB] at e6
        exact I3.call' (ch := fp) e6.os e6.base e6.hok e6.bare fun b hb => ⟨(f3 b hb).1.2.2.2.1, (f3 b hb).1.2.1, (f3 b hb).1.2.2.2.2.1, (f3 b hb).1.2.2.2.2.2⟩
      have e6 := I6
      rw [← hB] at e6
      have nC : H5 s3.heap.objs.size = none := by
        have z : H5 ce.locals = none := e6.free
        rw [cL] at z; exact z
      obtain ⟨m, hn, _⟩ := e6.loc
      have hn : s6.heap.Ns ce.locals m := hn
      rw [cL] at hn
      refine ⟨m, hn, fun h'' sb => ?_⟩
      obtain ⟨f0, f1, f2, f3, f4, f5⟩ := I3.fpOk (Nat.le_refl _) nC
      exact ⟨.ref D, H5, I7.turned (t' := s6.toks) (fun b o hb e => (sb.2 b hb).trans e) f0 f1 f3 f4 f5, rfl, qq⟩
    · have ti := T.item (B.tr (B.pn ++ [p]) B.xe) eP eW eK hotB i [] s5 _ H5 (fun _ _ => False) J5 (fpT (stat I5 n5)) st5 go
      rw [show (B.tr (B.pn ++ [p]) B.xe).A = X.A from eBA] at ti
      refine thnF ti fun r s6 ⟨u, hr, h6⟩ => ?_
      subst hr
      refine thnF h6 fun _ s7 ⟨x, H7, J7, r7, y7, st7, n7⟩ => ?_
      have I7 := J7.ofTry I5.ok
      have I7' := I7.pinned (stat I7 n7) (T.obj _ _ st7)
      have pgr := fun pins => pg.run pins s7
      have fin : ∀ {s' : Shared} {H' : Hp} {σ8 : St}, wipe σ8 (own.map (·.2)) = wipe σ (own.map (·.2)) → Inv B ([p] ++ pinsAt fp s7.heap) σ8 H' s' → Nx H' → ∃ m, m < n ∧ ∃ i H', Inv B [p] (wipe σ (own.map (·.2))) H' s' ∧ tn i s'.heap ∧ (∀ b ∈ fp, H' b = none) ∧ W i m H' := fun {s' H' σ8} hw8 I' nx => by
        obtain ⟨m', hm, w'⟩ := hNx H' nx
        have pin' : ∀ b ∈ fp, ∀ o, s7.heap.get? b = some o → s'.heap.get? b = some o ∧ H' b = none := fun b hb o e =>
          let z := I'.pin (b, o) (List.mem_append_right _ (List.mem_append_right _ (mem_pinsAt hb e)))
          ⟨z.1, z.2.1⟩
        have hl : (wipe σ (own.map (·.2))).length = σ8.length := by rw [← hw8, wipe_length]
        refine ⟨m', hm, i + 1, H', (I'.unpinned (pins := [p])).weak hl (fun j v e => ?_), T.keep _ _ _ st7 fun b hb o e => (pin' b hb o e).1, fun b hb => ?_, w'⟩
        · rw [← hw8] at e; exact (wipe_some e).1
        · obtain ⟨o, e, _⟩ := T.obj _ _ st7 b hb
          exact (pin' b hb o e).2
      have pgt := pg.run _ s7 _ H7 x u _ I7' r7 (step x H7 y7)
      rw [eP, eW, eBA] at pgt
      have eXe : B.xe = fun _ _ => False := by rw [← hB]
      have eEnv : B.env = ce := by rw [← hB]
      rw [eXe, eEnv] at pgt
      refine thnF pgt fun _ s8 ⟨σ8, H8, I8, hw8, q8⟩ => ?_
      have ptt := pt.run _ s8 σ8 H8 _ I8 q8
      rw [eP, eW, eBA, eXe, eEnv] at ptt
      refine thnF ptt fun b s9 ⟨H9, I9, q9⟩ => ?_
      cases b with
      | false =>
        simp only [Bool.false_eq_true, if_false] at q9 ⊢
        exact fin hw8 I9 q9
      | true =>
        simp only [if_true] at q9 ⊢
        have pet := pe.run _ s9 σ8 H9 _ I9 q9
        rw [eP, eW, eBA, eXe, eEnv] at pet
        refine thnF pet fun z s10 ⟨yv, H10, I10, r10, acc, hD10, hz10, nx⟩ => ?_
        have ap := fun (Qz : Value → Shared → Prop) (E : Value → Shared → Prop) => app_ok (X := B) (E := E) (Q := Qz) I10 hD10 hz10 r10
        rw [eP, eW, eBA] at ap
        exact ap _ _ fun s11 I11 => fin hw8 I11 nx
  exact codeAny_compStart_list loop (T.self X.A 0 _ _ _ st4 loop)
end Fx

set_option maxHeartbeats 4000000
namespace Fx
open PySem L2
open PyProof.Rows hiding St

theorem ckH_star {g : Gx} {K : Hk} {e : HE} {ee : Expr} (h : ckH g K e ee = true) : notStar ee = true := by
  cases ee with
  | Starred v p =>
    cases e with
    | con t => unfold ckH at h; cases t <;> simp [ckK] at h
    | var i => unfold ckH ckVar at h; simp at h
    | _ => unfold ckH at h; simp at h
  | _ => rfl
/-- names alone -/
structure XL (X : Cx) (g : Gx) : Prop where
  hN : X.N = g.N
  nd : g.N.Nodup
  sc : X.env.scope = g.sc
  fn : X.fn = g.fn
section
variable {X : Cx} {W : L2.WX} {Γ : Cl} {g : Gx} {pos : Pos}
theorem s_var0 (ok : XL X g) {i : Nat} {e : Expr} (h : ckVar g i e = true) : PE X e (RdE X W (ev Γ (.var i))) := by
  cases e with
  | Name x p =>
    simp only [ckVar, Bool.and_eq_true, decide_eq_true_eq] at h
    obtain ⟨⟨h1, h2⟩, h3⟩ := h
    refine PE.imp (pe_var (i := i) (by rw [ok.hN]; exact h1) (by rw [ok.sc]; exact vis_of h2) (dbg_ok h3).1 (dbg_ok h3).2) ?_
    rintro σ H Q ⟨O, G, ι, env, h, S, q⟩
    unfold ev at q
    cases e : env[i]? with
    | none => rw [e] at q; exact q.elim
    | some s =>
      rw [e] at q
      have hi : i < σ.length := by rw [← S.len]; exact (List.getElem?_eq_some_iff.mp e).1
      have sl := S.slot i s σ[i] e (List.getElem?_eq_getElem hi)
      cases s with
      | no => exact q.elim
      | val t =>
        obtain ⟨v, ev, r⟩ := sl
        exact ⟨v, by rw [List.getElem?_eq_getElem hi, ev], q G ι v H (Le.refl G) (List.prefix_refl _) S r⟩
      | own c =>
        obtain ⟨a, ev, r⟩ := sl
        exact ⟨.ref a, by rw [List.getElem?_eq_getElem hi, ev], q G ι _ H (Le.refl G) (List.prefix_refl _) S ⟨e, by rw [List.getElem?_eq_getElem hi, ev]⟩⟩
  | _ => simp [ckVar] at h
theorem g_name0 (ok : XL X g) {i : Nat} {e : Expr} (h : ckN g i e = true) : PG X e (gName i) := by
  cases e with
  | Name x p =>
    simp only [ckN, Bool.and_eq_true, decide_eq_true_eq] at h
    obtain ⟨h1, h2⟩ := h
    unfold locB at h2
    split at h2
    · rename_i e
      exact pg_name (by rw [ok.hN]; exact ok.nd) (by rw [ok.hN]; exact h1) (.inl (by rw [ok.sc]; exact e)) (.inr (by rw [ok.sc]; exact e))
    · rename_i e
      exact pg_name (by rw [ok.hN]; exact ok.nd) (by rw [ok.hN]; exact h1) (.inr (by rw [ok.sc]; exact e)) (.inl (by rw [ok.fn]; exact h2))
    · cases h2
  | _ => cases h
theorem XL.blk (ok : XL X g) {scope : Scope} (s : Shared) (H : Hp) (C : Addr) (cl : List (Str × Addr)) (fp : List Addr) : XL (X.blk s H scope (compEnvC scope cl C X.env) fp) (blkG g scope) where
  hN := ok.hN
  nd := ok.nd
  sc := by
    show _ = relS scope g.sc
    rw [← ok.sc]
    rfl
  fn := rfl
theorem i_rng1H {tg ea : Expr} {a : E} {kp : Bool} {p : Pos} (hg : Gl X "range") (hm : X.mg "range" = none) (hs : notStar ea = true) (ha : PE X ea (RdE X W (ev Γ a))) : L2H.PIH X tg (.Call (.Name "range" p) [ea] [] pos) (RdI X W kp (evI Γ kp (.rng1 a))) := by
  have P0 := L2H.pi_range1H (tg := tg) (p := p) (pos := pos) hg hm (pa_cons ha pa_nil (star_ok hs)) (star_ok hs)
  refine ⟨fun pins s σ H R I w => P0.run pins s σ H R I ?_⟩
  obtain ⟨O, G, ι, env, h, S, q⟩ := w
  rw [evI] at q
  refine rd_bind (R1 := rP X.K) S q fun x h1 G1 ι1 v H1 l1 p1 S1 r1 q1 => ?_
  obtain ⟨G1', S1', l1', o1⟩ := RepP.opd S1 r1
  have r := o1.at S1'
  split at q1
  · rename_i j e
    rw [e] at r
    cases r.int
    split at q1
    · rename_i hj
      obtain ⟨s1, s2⟩ := small_ok hj
      have := q1 G1 ι1 (Itr 0 (j - 0).toNat) H1 (Le.refl _) (List.prefix_refl _) S1 iter_rng
      rw [Int.sub_zero] at this
      exact ⟨j, rfl, s1, s2, this⟩
    · exact q1.elim
  · exact q1.elim
end
section
variable {X : Cx} {g : Gx} {q : Xq} {tb : ClT} {η : Hx} {pos : Pos}
theorem XHot.xl (ok : XHot X g q tb η) : XL X g := ⟨ok.hN, ok.nd, ok.sc, ok.fn⟩
theorem h_jn (ok : XHot X g q tb η) {n : Int} {w s k : Nat} {z : Str} {ew ek es ek2 t : Expr} {ap p p1 p2 p3 p4 p5 p6 : Pos} {j1 j2 : Nat} {scope : Scope}
    (hz : z = Str.empty) (hl : (ap.endLine == p.line) = true) (hb : blkC g.N g.sc scope ([k].map fun i => (g.N.getD i Str.empty, i)) = true) (ht : ckN (blkG g scope) k t = true) (hr : glB g.sc "range" = true)
    (h1 : ckVar (blkG g scope) w ew = true) (h2 : ckVar (blkG g scope) k ek = true) (h3 : ckVar (blkG g scope) s es = true) (h4 : ckVar (blkG g scope) k ek2 = true) :
    PE X (.Call (.Attribute (.Constant (.str z) j1 p1) "join" ap) [.ListComp (.Subscript ew ek p2) [⟨t, .Call (.Name "range" p3) [.Constant (.int n) j2 p4] [] p5, [.Subscript es ek2 p6], 0⟩] scope pos] [] p) (RdV X q (hv η (.jn n w s k))) := by
  subst hz
  have hs2 : ∀ {ek : Expr}, ckVar (blkG g scope) k ek = true → notSlice ek = true := fun {ek} h => by
    cases ek <;> first | rfl | (simp [ckVar] at h)
  have bo : BlkOk X.N X.env.scope scope ([k].map fun i => (g.N.getD i Str.empty, i)) := by rw [ok.hN, ok.sc]; exact blkOk_by hb
  have hi := i_rng1H (X := X) (W := noW) (Γ := noCl) (tg := t) (kp := false) (p := p3) (pos := p5) (a := .con (.int n)) (ok.gl hr) (ok.bi _ (by decide +kernel)) (ea := .Constant (.int n) j2 p4) rfl (s_con (v := .int n) pe_int fun _ _ => .int)
  have P0 := lc_hot (elt := .Subscript ew ek p2) (ifs := [.Subscript es ek2 p6]) (pos := pos) (gg := gTg X.K (.nm k)) (tt := RdC X noW noCl (.so (.idx (.var s) (.var k)))) (te := RdE X noW (ev noCl (.idx (.var w) (.var k)))) ⟨_, ok.hot, ok.pin⟩ (by rw [ok.hN]; exact ok.nd) hi bo
    (fun s0 H C cl fp => g_name0 (ok.xl.blk s0 H C cl fp) ht) (fun s0 H C cl fp => c_so (s_test (s_idx ok.un (s_var0 (ok.xl.blk s0 H C cl fp) h3) (s_var0 (ok.xl.blk s0 H C cl fp) h4) (hs2 h4)) fun _ => rfl))
    (fun s0 H C cl fp => s_idx ok.un (s_var0 (ok.xl.blk s0 H C cl fp) h1) (s_var0 (ok.xl.blk s0 H C cl fp) h2) (hs2 h2)) (fold_ok (by rfl))
  have P1 : PE X (.ListComp (.Subscript ew ek p2) [⟨t, .Call (.Name "range" p3) [.Constant (.int n) j2 p4] [] p5, [.Subscript es ek2 p6], 0⟩] scope pos) (RdE X noW (ev noCl (.lc [k] (.nm k) (.rng1 (.con (.int n))) (.so (.idx (.var s) (.var k))) (.idx (.var w) (.var k))))) :=
    PE.imp P0 fun σ H Q q => i_lc (own := [k]) (N := g.N) (by intro i hi; exact hi) σ H Q q
  have P2 := s_join (pos := p) (apos := ap) (s_con (X := X) (W := noW) (Γ := noCl) (t := .str Str.empty) (v := .str Str.empty) (e := .Constant (.str Str.empty) j1 p1) pe_str fun _ _ => .str) P1 rfl rfl hl
  refine PE.imp P2 ?_
  rintro σ H Q ⟨O, G, ι, env, h, t', h', S, x, e, kk⟩
  refine ⟨O, G, ι, env, h, S, ?_⟩
  unfold hv okVal at e
  split at e
  · rename_i t1 h1 e1
    cases e
    show OutG _ _ _ _ _ _ _ _ _ (ev noCl (jnE n w s k) env h)
    rw [e1]
    exact kk
  · cases e
end
end Fx

set_option maxHeartbeats 4000000
namespace Fx
open PySem L2
open PyProof.Rows hiding St

section
variable {X : Cx} {g : Gx} {q : Xq} {tb : ClT} {η : Hx} {pos : Pos}
theorem ck_e (ok : XHot X g q tb η) {x : Expr} (h : ckVar g q.ie x = true) : ∃ y p, x = .Name y p ∧ g.N[q.ie]? = some y ∧ visB g.sc y = true ∧ (y == ("__debug__" : Str)) = false ∧ (y == ("__classdict__" : Str)) = false := by
  cases x with
  | Name y p =>
    simp only [ckVar, Bool.and_eq_true, decide_eq_true_eq] at h
    exact ⟨y, p, rfl, h.1.1, h.1.2, (dbg_ok h.2).1, (dbg_ok h.2).2⟩
  | _ => simp [ckVar] at h
theorem h_call (ok : XHot X g q tb η) (rm : L2H.RoomH 1 X.A) {hf : Str → Str → List T → Hs → Option (T × Hs)} {f : Str} (hη : η.call f = hf f q.c q.fs) (F : HotOk X (hf f) f) {x : Expr} {p : Pos} (hx : ckVar g q.ie x = true) (hg : glB g.sc f = true) (hd : (f == ("__debug__" : Str)) = false) :
    PE X (.Call (.Name f p) [x] [] pos) (RdV X q (hv η (.call f))) := by
  obtain ⟨fa, fd, n, hm, hk, hb, F⟩ := F.ok
  obtain ⟨y, py, rfl, y1, y2, y3, y4⟩ := ck_e ok hx
  refine ⟨fun pins s σ H Q I w => ?_⟩
  obtain ⟨O, G, ι, env, h, t', h', S, xf, e, kk⟩ := w
  unfold hv at e
  rw [hη] at e
  have ha : PA X [.Name y py] (tCons (tVar q.ie) tNil) := pa_cons (h_e ok y1 y2 y3 y4) pa_nil
  refine wpAny_Call_Name_kw (ld_glob I (ok.gl hg) hm ?_ hd)
  refine PySem.W.callWith_K (h₀ := X.base) I.ok.mod.kin hk (thn (ha.run pos pins s σ H (fun vs H1 => vs = [.ref q.a] ∧ H1 = H) I ⟨_, xf.1, rfl, rfl⟩) fun us s1 ⟨vs, H1, I1, r1, ev, eH⟩ => ⟨I1.kIn, ?_⟩) rfl rfl
  subst ev eH
  cases r1 with
  | @cons _ u _ ur ru rr =>
  cases rr
  have P0 := I1.pin (q.a, q.oe) (List.mem_append_left _ ok.pin)
  have hpin : L2H.PinOk X.stack H1 s1 (q.a, q.oe) := ⟨P0.1, P0.2.1, fun hm => (List.mem_cons.mp (I1.stkSub q.a hm)).elim P0.2.2.1 P0.2.2.2.1, P0.2.2.2.2⟩
  have b := hb s1 [u] I1.kIn rfl
  rw [List.append_nil] at b
  refine wpAny_call (codeAny_mono (F.go X.A X.stack s1 H1 ⟨[u], []⟩ u [.ref q.a] Q (fun _ _ _ => False) (q.a, q.oe) rm ok.hot hpin I1.env0 b (.cons ru .nil)
    ⟨rfl, outer O env σ H1, G, ι, h, q.D, q.d, q.c, q.fs, t', h', S.down, ok.z, xf.2, e, fun G' ι' v H' l p D r => kk G' ι' v H' l p (S.up l p D) r⟩) fun r s' hq => ?_)
  cases r with
  | error e => obtain ⟨_, _, _, _, _, _, _, _, _, _, _, _, z⟩ := hq; exact z.elim
  | ok fl =>
    cases fl with
    | ret u => exact I1.after hq
    | next => exact hq.elim
    | brk => exact hq.elim
    | cont => exact hq.elim
/-! ### all hot terms -/
theorem names_of {g : Gx} {tb : ClT} : ∀ (ds : List Str) (es : List Expr), ds.length = es.length → ((ds.zip es).all fun q => ckCl g tb q.1 q.2) = true → es = ((ds.zip (es.map posOf)).map fun q => Expr.Name q.1 q.2) ∧ ds.all (fun d => glB g.sc d && decide ((d == ("__debug__" : Str)) = false)) = true ∧ ∀ d ∈ ds, d ∈ tb.asked
  | [], [], _, _ => ⟨rfl, rfl, by simp⟩
  | [], _ :: _, e, _ => by cases e
  | _ :: _, [], e, _ => by cases e
  | d :: ds, e :: es, hl, h => by
    simp only [List.zip_cons_cons, List.all_cons, Bool.and_eq_true] at h
    obtain ⟨h1, h2, h3⟩ := names_of ds es (by simpa using hl) h.2
    have hd := h.1
    cases e with
    | Name x p =>
      simp only [ckCl, Bool.and_eq_true, decide_eq_true_eq] at hd
      obtain ⟨⟨⟨e1, e2⟩, e3⟩, e4⟩ := hd
      subst e1
      refine ⟨?_, ?_, ?_⟩
      · rw [List.map_cons, List.zip_cons_cons, List.map_cons, ← h1]; rfl
      · simp only [List.all_cons, Bool.and_eq_true, decide_eq_true_eq]
        exact ⟨⟨e2, e3⟩, h2⟩
      · intro d' hd'
        rcases List.mem_cons.mp hd' with rfl | hd'
        · simpa using e4
        · exact h3 d' hd'
    | _ => simp [ckCl] at hd
/-- what the functions that may be called here are -/
structure HotFs (X : Cx) (q : Xq) (η : Hx) (K : Hk) : Prop where
  f : ∀ f ∈ K.fns, ∃ hf : Str → List T → Hs → Option (T × Hs), η.call f = hf q.c q.fs ∧ HotOk X hf f
  rm : K.fns ≠ [] → L2H.RoomH 1 X.A
theorem k_con {t : T} {e : Expr} (h : ckK t e = true) : ∃ v, PE X e (tC v) ∧ ∀ G ι, Rep X.K G ι t v := by
  unfold ckK at h
  split at h
  · exact ⟨.non, pe_non, fun _ _ => .non⟩
  · rename_i b c _ _
    have : b = c := by simpa using h
    subst this
    exact ⟨.bl b, pe_bl, fun _ _ => .bl⟩
  · have := eq_of_beq h
    subst this
    exact ⟨.int _, pe_int, fun _ _ => .int⟩
  · have := eq_of_beq h
    subst this
    exact ⟨.str _, pe_str, fun _ _ => .str⟩
  · cases h
mutual
theorem h_ok (ok : XHot X g q tb η) {K : Hk} (hi : K.ie = q.ie) (ht : K.tb = tb) (hF : HotFs X q η K) : ∀ (e : HE) {ee : Expr}, ckH g K e ee = true → PE X ee (RdV X q (hv η e))
  | .con t, ee, h => by
    unfold ckH at h
    obtain ⟨v, h1, h2⟩ := k_con (X := X) h
    exact h_con h1 h2
  | .var i, ee, h => by
    unfold ckH at h
    cases ee with
    | Name y p =>
      simp only [ckVar, Bool.and_eq_true, decide_eq_true_eq] at h
      exact h_var ok h.1.1 h.1.2 (dbg_ok h.2).1 (dbg_ok h.2).2
    | _ => simp [ckVar] at h
  | .isx ds tp, ee, h => by
    unfold ckH at h
    split at h
    · rename_i f p x c pos'
      simp only [Bool.and_eq_true, decide_eq_true_eq] at h
      obtain ⟨⟨⟨rfl, h1⟩, h2⟩, h3⟩ := h
      rw [hi] at h2
      obtain ⟨y, py, rfl, y1, y2, y3, y4⟩ := ck_e ok h2
      rw [ht] at h3
      split at h3
      · rename_i d
        cases c with
        | Name z pz =>
          simp only [ckCl, Bool.and_eq_true, decide_eq_true_eq] at h3
          obtain ⟨⟨⟨rfl, e2⟩, e3⟩, e4⟩ := h3
          exact h_isx ok y1 y2 y3 y4 h1 e2 e3
        | _ => simp [ckCl] at h3
      · rename_i es kk pp d ds
        simp only [Bool.and_eq_true, decide_eq_true_eq] at h3
        obtain ⟨⟨e1, e2⟩, e3⟩ := h3
        obtain ⟨z1, z2, z3⟩ := names_of (d :: ds) es e1 e3
        rw [z1]
        exact h_isxT ok y1 y2 y3 y4 h1 (by simp) (by rw [List.length_map]; exact e1) e2 z2 z3
      · cases h3
    · cases h
  | .fld f, ee, h => by
    unfold ckH at h
    split at h
    · rename_i x n p
      simp only [Bool.and_eq_true, decide_eq_true_eq] at h
      obtain ⟨⟨rfl, h2⟩, h3⟩ := h
      rw [hi] at h2
      obtain ⟨y, py, rfl, y1, y2, y3, y4⟩ := ck_e ok h2
      exact h_fld ok y1 y2 y3 y4 (by rw [← ht]; simpa using h3) ok.kn
    · cases h
  | .call f, ee, h => by
    unfold ckH at h
    split at h
    · rename_i y p x pos'
      simp only [Bool.and_eq_true, decide_eq_true_eq] at h
      obtain ⟨⟨⟨⟨rfl, h1⟩, h2⟩, h3⟩, h4⟩ := h
      rw [hi] at h4
      have hm : y ∈ K.fns := by simpa using h1
      obtain ⟨hf, hη, HF⟩ := hF.f y hm
      exact h_call (hf := fun _ => hf) ok (hF.rm fun e => by rw [e] at hm; cases hm) hη HF h4 h2 (dbg_ok h3).1
    · cases h
  | .lst l, ee, h => by
    unfold ckH at h
    split at h
    · exact h_lst (h_oks ok hi ht hF l h)
    · cases h
  | .tup l, ee, h => by
    unfold ckH at h
    split at h
    · exact h_tup (h_oks ok hi ht hF l h)
    · cases h
  | .cat a b, ee, h => by
    unfold ckH at h
    split at h
    · simp only [Bool.and_eq_true] at h
      exact h_cat (h_ok ok hi ht hF a h.1) (h_ok ok hi ht hF b h.2)
    · cases h
  | .ite c a b, ee, h => by
    unfold ckH at h
    split at h
    · rename_i t x y p
      simp only [Bool.and_eq_true] at h
      obtain ⟨⟨⟨h1, h2⟩, h3⟩, h4⟩ := h
      exact h_ite (h_ok ok hi ht hF c h2) (by cases t <;> first | (intro _; rfl) | (simp [isCall] at h1)) (h_ok ok hi ht hF a h3) (h_ok ok hi ht hF b h4)
    · cases h
  | .jn n w s k, ee, h => by
    unfold ckH at h
    split at h
    · simp only [Bool.and_eq_true, decide_eq_true_eq] at h
      obtain ⟨⟨⟨⟨⟨⟨⟨⟨⟨⟨⟨rfl, h1⟩, h2⟩, h3⟩, h4⟩, rfl⟩, h5⟩, rfl⟩, h6⟩, h7⟩, h8⟩, h9⟩ := h
      exact h_jn ok h1 h2 h3 h4 h5 h6 h7 h8 h9
    · cases h
theorem h_oks (ok : XHot X g q tb η) {K : Hk} (hi : K.ie = q.ie) (ht : K.tb = tb) (hF : HotFs X q η K) : ∀ (l : HEs) {es : List Expr}, ckHs g K l es = true → PA X es (RdVs X q (hvs η l))
  | .nil, es, h => by
    unfold ckHs at h
    cases es with
    | nil => exact h_nil
    | cons => simp at h
  | .cons a r, es, h => by
    cases es with
    | nil => simp [ckHs] at h
    | cons e es =>
      simp only [ckHs, Bool.and_eq_true] at h
      exact h_cons (ckH_star h.1) (h_ok ok hi ht hF a h.1) (h_oks ok hi ht hF r h.2)
end
end
end Fx

set_option maxHeartbeats 4000000
namespace Fx
open PySem L2
open PyProof.Rows hiding St

/-! ### bodies of defs that take the exception -/
def ckHS (g : Gx) (K : Hk) : List HSt → List Stmt → Bool
  | [.ret e], [.Return (some ee) _] => ckH g K e ee
  | .asg i e :: r, .Assign [t] ee _ :: sts => decide (i ≠ K.ie) && ckN g i t && !isComp ee && ckH g K e ee && ckHS g K r sts
  | .retIf c e :: r, .If ec [.Return (some ee) _] [] _ :: sts => isCall ec && ckH g K c ec && ckH g K e ee && ckHS g K r sts
  | _, _ => false
section
variable {X : Cx} {g : Gx} {q : Xq} {tb : ClT} {η : Hx} {pos : Pos}
def RdR (X : Cx) (q : Xq) (f : En → Hs → Option (T × Hs)) : TS := fun D σ H => ∃ O G ι env h t h', SRel X.K O G ι env h σ H ∧ XF X q σ G ι ∧ f env h = some (t, h') ∧ ∀ G' ι' v H', Le G G' → ι <+: ι' → HRel X.K O G' ι' h' H' → Rep X.K G' ι' t v → D.rt v H'
theorem h_body (ok : XHot X g q tb η) {K : Hk} (hi : K.ie = q.ie) (ht : K.tb = tb) (hF : HotFs X q η K) : ∀ (l : List HSt) {sts : List Stmt}, ckHS g K l sts = true → PSs X sts (RdR X q (hrun η l)) := by
  intro l
  induction l with
  | nil => intro sts h; simp [ckHS] at h
  | cons a r ih =>
    intro sts h
    cases a with
    | ret e =>
      unfold ckHS at h
      split at h
      · rename_i e0 ee p e1
        cases e1
        refine PSs.imp (pss_one (ps_ret (h_ok ok hi ht hF e h))) ?_
        rintro D σ H ⟨O, G, ι, env, h, t', h', S, x, e, k⟩
        unfold hrun at e
        exact ⟨O, G, ι, env, h, t', h', S, x, e, fun G' ι' v H' l p S' => k G' ι' v H' l p S'.h⟩
      · rename_i e1
        cases e1
      · rename_i e1
        cases e1
      · cases h
    | asg i e =>
      unfold ckHS at h
      split at h
      · rename_i e1
        cases e1
      · rename_i i0 e0 r0 t ee p sts0 e1
        cases e1
        simp only [Bool.and_eq_true, decide_eq_true_eq, Bool.not_eq_true'] at h
        obtain ⟨⟨⟨⟨h1, h2⟩, h3⟩, h4⟩, h5⟩ := h
        have he := h_ok ok hi ht hF _ h4
        have PA0 : PS X (.Assign [t] ee p) (tAsg (RdV X q (hv η e)) (gName i)) := by
          cases t with
          | Name y py =>
            simp only [ckN, Bool.and_eq_true, decide_eq_true_eq] at h2
            obtain ⟨k1, k2⟩ := h2
            unfold locB at k2
            split at k2
            · rename_i el
              exact ps_set (by rw [ok.hN]; exact ok.nd) (by rw [ok.hN]; exact k1) (.inl (by rw [ok.sc]; exact el)) he (sw_none h3) (.inr (by rw [ok.sc]; exact el))
            · rename_i el
              exact ps_set (by rw [ok.hN]; exact ok.nd) (by rw [ok.hN]; exact k1) (.inr (by rw [ok.sc]; exact el)) he (sw_none h3) (.inl (by rw [ok.fn]; exact k2))
            · cases k2
          | _ => cases h2
        refine PSs.imp (pss_cons PA0 (ih h5)) ?_
        rintro D σ H ⟨O, G, ι, env, h, t', h', S, x, e, k⟩
        unfold hrun at e
        refine rd1_bind S x e fun t1 hh1 G1 ι1 v H1 _ e1 l1 p1 S1 x1 r1 => ?_
        refine ⟨O, G1, ι1, _, hh1, t', h', S1.set r1, ⟨?_, x1.2⟩, e1, fun G2 ι2 v2 H2 l2 p2 => k G2 ι2 v2 H2 (l1.trans l2) (p1.trans p2)⟩
        rw [List.getElem?_set_ne (by rw [← hi]; exact h1)]
        exact x1.1
      · rename_i e1
        cases e1
      · cases h
    | retIf c e =>
      unfold ckHS at h
      split at h
      · rename_i e1
        cases e1
      · rename_i e1
        cases e1
      · rename_i c0 e0 r0 ec ee p p2 sts0 e1
        cases e1
        simp only [Bool.and_eq_true] at h
        obtain ⟨⟨⟨h1, h2⟩, h3⟩, h4⟩ := h
        have hc := h_test (h_ok ok hi ht hF c h2) (by cases ec <;> first | (intro _; rfl) | (simp [isCall] at h1))
        refine PSs.imp (pss_cons (ps_if hc (pss_one (ps_ret (h_ok ok hi ht hF e h3))) pss_nil) (ih h4)) ?_
        rintro D σ H ⟨O, G, ι, env, h, t', h', S, x, e, k⟩
        unfold hrun at e
        cases ec' : hv η c env h with
        | none => rw [ec'] at e; cases e
        | some y =>
          obtain ⟨y, hh1⟩ := y
          rw [ec'] at e
          simp only [Option.bind_some] at e
          cases y with
          | bl kb =>
            refine ⟨O, G, ι, env, h, kb, hh1, S, x, ec', fun G' ι' H' l p S' x' => ?_⟩
            cases kb with
            | true => exact ⟨O, G', ι', env, hh1, t', h', S', x', e, fun G2 ι2 v H2 l2 p2 S2 => k G2 ι2 v H2 (l.trans l2) (p.trans p2) S2.h⟩
            | false => exact ⟨O, G', ι', env, hh1, t', h', S', x', e, fun G2 ι2 v H2 l2 p2 => k G2 ι2 v H2 (l.trans l2) (p.trans p2)⟩
          | _ => cases e
      · cases h
end
theorem sub_ok {tb : ClT} {c d : Str} {b : Bool} (h : tb.sub c d = some b) : d ∈ tb.asked ∧ ∃ l, tb.cls.lookup c = some l ∧ b = l.contains d := by
  unfold ClT.sub at h
  split at h
  · rename_i hd
    cases e : tb.cls.lookup c with
    | none => rw [e] at h; cases h
    | some l => rw [e] at h; cases h; exact ⟨by simpa using hd, l, rfl, rfl⟩
  · cases h
structure HD where
  nm : Str
  fn : HFn
  N : List Str
def ckHFn (tb : ClT) (f : HD) (st : Stmt) : Bool :=
  (match defArgs st with
    | { posonlyargs := [], args := as, vararg := none, kwonlyargs := [], kw_defaults := [], kwarg := none, defaults := [] } => decide (as.map (·.arg) = f.N.take 1)
    | _ => false) &&
  decide (1 ≤ f.N.length) && decide (f.N.length = f.fn.ns) && decide f.N.Nodup && isFn (defScope st).kind && !(defScope st).isCoroutine && !(defScope st).isGenerator &&
  ((f.N.take 1).all fun x => match (defScope st).names.lookup x with | some .local => true | some .cell => true | _ => false) &&
  ((defScope st).names.all fun y => match y.2 with | .free => false | _ => true) &&
  ckHS ⟨f.N, defScope st, fun _ => true, [], [], tb, false⟩ ⟨0, tb, []⟩ f.fn.body (defBody st)
theorem ckH_parts {tb : ClT} {f : HD} {st : Stmt} (h : ckHFn tb f st = true) : ∃ as, defArgs st = { posonlyargs := [], args := as, vararg := none, kwonlyargs := [], kw_defaults := [], kwarg := none, defaults := [] } ∧ as.map (·.arg) = f.N.take 1 ∧
    1 ≤ f.N.length ∧ f.N.length = f.fn.ns ∧ FnScope f.N (f.N.take 1) (defScope st) ∧ ckHS ⟨f.N, defScope st, fun _ => true, [], [], tb, false⟩ ⟨0, tb, []⟩ f.fn.body (defBody st) = true := by
  unfold ckHFn at h
  simp only [Bool.and_eq_true, decide_eq_true_eq, Bool.not_eq_true'] at h
  obtain ⟨⟨⟨⟨⟨⟨⟨⟨⟨h1, h2⟩, h3⟩, h4⟩, h5⟩, h6⟩, h7⟩, h8⟩, h9⟩, h10⟩ := h
  split at h1
  · rename_i as e
    refine ⟨as, e, of_decide_eq_true h1, h2, h3, ⟨?_, h6, h7, h4, ?_, fun x hx => ?_, fun y hy e => ?_⟩, h10⟩
    · unfold isFn at h5
      split at h5
      · assumption
      · cases h5
    · rw [List.length_take, Nat.min_eq_left h2]
    · have := List.all_eq_true.mp h8 x hx
      split at this
      · exact .inl (by assumption)
      · exact .inr (by assumption)
      · cases this
    · have := List.all_eq_true.mp h9 y hy
      rw [e] at this
      cases this
  · cases h1
/-- it keeps its promise -/
theorem hotF_ok {P : Program} {w : World} {K : PySem.W.Frag} {mg : Str → Option Value} {base : Heap} {tb : ClT} {f : HD} {st : Stmt} {fa : Addr} {fd : FuncData} {n : Str} (F : FunD K f.nm f.nm (defArgs st) (defBody st) (defScope st) [] [] fa fd) (ck : ckHFn tb f st = true) (hn : f.N.take 1 = [n])
    (bi : ∀ x ∈ biNames, mg x = none) (tk : TblOk K mg tb) : HotF P w K mg base (L2N.CX P w) fa fd n (hotFn tb f.fn) := by
  obtain ⟨as, ea, eas, hnp, hns, S, hb⟩ := ckH_parts ck
  rw [hn] at S
  refine ⟨fun A outer s H args u vs Q E p hr hot hpin e0 hbt r hsp => ?_⟩
  obtain ⟨rfl, O, G, ι, h, D, d, c, fs, t, h', R, hz, rx, ef, k⟩ := hsp
  unfold hotFn at ef
  obtain ⟨hkn, ef⟩ : (tb.cls.lookup c).isSome = true ∧ hrun (hxOf tb c fs fun _ _ => none) f.fn.body (List.replicate f.fn.ns .no) h = some (t, h') := by
    split at ef
    · exact ⟨by assumption, ef⟩
    · cases ef
  obtain ⟨oc, od, dV, kV, doc, pm, an, cdv, ct, osl, rfl, lk, hcd, _, _⟩ := F.ex
  have KX : K.In s.heap := e0.mod.kin.keeps fun b o e => (e0.bs b o e).1
  have lim : s.heap.NoLimit := e0.mod.nolimit.keeps fun b o e => (e0.bs b o e).1
  have hkind : ∀ y ∈ [n].zip [u], (defScope st).names.lookup y.1 = some .local ∨ ((defScope st).names.lookup y.1 = some .cell ∧ ((cellsFrom (s.heap.objs.size + 1) (defScope st).names []).lookup y.1).isSome = true) := fun y hy => by
    rcases S.par y.1 (List.of_mem_zip hy).1 with q | q
    · exact .inl q
    · exact .inr ⟨q, PySem.W.cellsFrom_some _ _ _ (.inl q)⟩
  refine codeAny_call_function hr.depth (KX _ _ lk) rfl S.co S.gen rfl (PySem.W.codeRec_of KX hcd) (hbt _ _ _ _ ?_)
  refine wpAny_newFunctionEnv_cells S.kind hkind fun env he s1 x => ?_
  subst he
  refine ⟨lim.keeps x.toInCall.keep, codeAny_func ?_⟩
  have I := L2H.inv_startH (CX := L2N.CX P w) (vs := [.ref p.1]) (us := [u]) (E := E) S hpin e0 rfl r x
  generalize hX : L2H.cxH (L2N.CX P w) P w K mg base f.N f.nm (defScope st) fa cdv A outer s H E p = X at I
  have ok : XHot X ⟨f.N, defScope st, fun _ => true, [], [], tb, false⟩ ⟨0, p.1, p.2, D, d, c, fs⟩ tb (hxOf tb c fs fun _ _ => none) := by
    obtain ⟨vs, hv, _⟩ := hot.2
    rw [← hX]
    exact ⟨rfl, S.nd, rfl, rfl, List.mem_cons_self, hz, ⟨vs, hv⟩, hot, hkn, bi, rfl, fun d' b' e' => sub_ok e', tk, by have := hr.un; show A.units + 3 + 66 < cLine; omega⟩
  have hbd := h_body ok (K := ⟨0, tb, []⟩) rfl rfl ⟨(fun f' hf' => absurd hf' (by simp)), fun z => absurd rfl z⟩ f.fn.body hb
  have S0 : SRel K O G ι (List.replicate f.fn.ns .no) h (L2.start f.N [.ref p.1]) H := by
    refine ⟨R, ?_, fun i s0 x0 h1 h2 => ?_, fun i j a c d _ h1 _ _ _ => ?_⟩
    · unfold L2.start
      rw [List.length_append, List.length_map, List.length_replicate, List.length_replicate]
      simp
      omega
    · rw [List.getElem?_replicate] at h1
      split at h1
      · cases h1; trivial
      · cases h1
    · rw [List.getElem?_replicate] at h1
      split at h1 <;> cases h1
  have eK : X.K = K := by rw [← hX]; rfl
  have eM : X.mg = mg := by rw [← hX]; rfl
  have run := hbd.run [] s1 (L2.start f.N [.ref p.1]) H { nx := fun _ _ => False, rt := Q } I ⟨O, G, ι, List.replicate f.fn.ns .no, h, t, h', by rw [eK]; exact S0, ⟨?_, by rw [eK, eM]; exact rx⟩, ef, fun G' ι' v H' l p S' r' => k G' ι' v H' l p (by rw [eK] at S'; exact S') (by rw [eK] at r'; exact r')⟩
  · rw [← hX] at run
    refine wpAny_mono run (fun fl s' hs => ?_) fun e s' hs => hs
    have fin : ∀ {σ' : St} {H' : Hp} {v : V} {u : Value}, Inv (L2H.cxH (L2N.CX P w) P w K mg base f.N f.nm (defScope st) fa cdv A outer s H E p) [] σ' H' s' → RelV v u → Q v H' → CE outer P w H s Q u s' := fun {σ' H' v u} J rv q => ⟨v, H', J.os, J.bare, J.base, J.hok, rv, q⟩
    cases fl with
    | ret u => obtain ⟨v, σ', H', J, rv, q⟩ := hs; exact fin J rv q
    | next => obtain ⟨σ', H', J, q⟩ := hs; exact q.elim
    | brk => obtain ⟨_, _, _, q⟩ := hs; exact q.elim
    | cont => obtain ⟨_, _, _, q⟩ := hs; exact q.elim
  · unfold L2.start
    rfl
end Fx

set_option maxHeartbeats 4000000
namespace Fx
open PySem L2
open PyProof.Rows hiding St

/-! ### a, b = x, y where an exception is handled -/
section
open PyProof.Rows HotX
variable {prog : Program} {w : World} {A : Around} {E : Value → Shared → Prop} {s : Shared}
theorem tup_end_hot {it t x1 : Addr} {i : Nat} {items} {Q : Option Value → Shared → Prop} (hot : HotAt A x1 s.heap) (hit : IsTupIter s.heap it t i) (ht : IsTup s.heap t items) (hx : items[i]? = none)
    (hQ : ∀ h', Heap.ExtBut it s.heap h' → Q none { s with heap := h' }) (hne : x1 ≠ it) : wpAny (model prog w) A (pyNext (.ref it)) Q E s := by
  obtain ⟨o, ho, hc, hd⟩ := id hit
  obtain ⟨ol, hol, _, nl, hdl⟩ := ht
  obtain ⟨hh, o1, vs1, h1, d1, c1⟩ := hot
  unfold pyNext
  refine wpAny_bind (wpAny_attempt (wpAny_callSpecial?_slot (name := Str.ofString "__next__") hit.typeIs slot_tupleiter_next
    (wpAny_call_entry slot_tupleiter_next hit.typeIs entry_tupleiter_next ?_ (args_tupleiter_next _))))
  show wpAny _ _ (field (.ref it) 0 >>= _) _ _ s
  refine wpAny_bind (wpAny_field ho hd (x := .ref t) rfl ?_)
  show wpAny _ _ (if (Value.ref t == Value.none) = true then _ else _) _ _ s
  rw [if_neg (show ¬ ((Value.ref t == Value.none) = true) from Bool.false_ne_true)]
  show wpAny _ _ (field (.ref it) 1 >>= _) _ _ s
  refine wpAny_bind (wpAny_field ho hd (x := .int i 0) rfl ?_)
  show wpAny _ _ (seqItems? (.ref t) >>= _) _ _ s
  refine wpAny_bind (wpAny_seqItems hol hdl ?_)
  simp only [Int.toNat_natCast, hx]
  refine wpAny_bind (wpAny_rule (wpAny_bind (wpAny_setField ho hd (by simp) ?_)))
  show wpAny _ _ (newExc (.type "StopIteration") [] >>= _) _ _ _
  have h1' : ∀ {h : Heap} {f : Obj → Obj}, (∀ b o, s.heap.get? b = some o → h.get? b = some o) → (h.update it f).get? x1 = some o1 := fun {h f} k => by
    rw [Heap.get?_update_other _ _ (Ne.symm hne)]; exact k _ _ h1
  refine wpAny_bind ?_
  simp only [newExc, newTuple]
  refine wpAny_bind (wpAny_newObj_type ?_ (by size_fits))
  refine wpAny_bind (m := firstArgMember _ _) (wpAny_of_eq (a := Value.none) (by first | rfl | (simp only [firstArgMember]; rfl)) ?_)
  refine wpAny_newObj_type ?_ (by size_fits)
  refine raiseNew_hot ⟨hh, o1, vs1, Heap.get?_push_of_some _ (Heap.get?_push_of_some _ (h1' fun _ _ z => z)), d1, c1⟩ (Nat.ne_of_lt (Heap.lt_size (Heap.get?_push_of_some _ (h1' fun _ _ z => z)))) (Heap.get?_push_size _ rfl) rfl (by first | (simp; done) | (simp; omega) | (simp only [Array.size_append]; simp; omega)) ?_
  refine wpAny_bind (wpAny_isInstance (T := "StopIteration") (b := true) ⟨_, Heap.get?_update_self _ (Heap.get?_push_size _ rfl) rfl, rfl⟩ isSubtype_stop ?_)
  refine wpAny_pure (hQ _ fun b u hb e => ?_)
  have e0 : ∀ f, (s.heap.update it f).get? b = some u := fun f => by rw [Heap.get?_update_other _ _ (Ne.symm hb)]; exact e
  rw [Heap.get?_update_other _ _ (Nat.ne_of_gt (Heap.lt_size (Heap.get?_push_of_some _ (e0 _))))]
  exact Heap.get?_push_of_some _ (Heap.get?_push_of_some _ (e0 _))
theorem unpack_hot {t x1 : Addr} {items : Array Value} {Q : List Value → Shared → Prop} (hot : HotAt A x1 s.heap) (ht : IsTup s.heap t items)
    (hQ : ∀ h', Heap.ExtBut s.heap.objs.size s.heap h' → Q items.toList { s with heap := h' }) : wpAny (model prog w) A (unpackItems (.ref t) items.size none) Q E s := by
  have hlt : t ≠ s.heap.objs.size := by obtain ⟨o, ho, _⟩ := ht; exact Nat.ne_of_lt (Heap.lt_size ho)
  obtain ⟨hh, o1, vs1, h1, d1, c1⟩ := hot
  have hne : x1 ≠ s.heap.objs.size := Nat.ne_of_lt (Heap.lt_size h1)
  unfold unpackItems notIterableAtAll
  refine wpAny_bind (wpAny_bind (wpAny_specialOf ht.typeIs slot_tuple_iter.lookup (wpAny_pure ?_)))
  simp only [Bool.false_eq_true, if_false]
  refine wpAny_bind (wpAny_holding (iter_tuple ht ?_))
  refine wpAny_bind (wpAny_holding (draw_tuple hlt items.size 0 _ _ ⟨_, Heap.get?_push_size _ rfl, rfl, rfl⟩ (ht.push _) (by omega) fun h₁ hit₁ hs₁ => ?_))
  rw [show List.take items.size (List.drop 0 items.toList) = items.toList from by rw [List.drop_zero]; exact List.take_of_length_le (by simp), if_neg (by simp)]
  have ht₁ : IsTup h₁ t items := (ht.push _).extBut hs₁.extBut hlt
  refine wpAny_bind (wpAny_holding (tup_end_hot ⟨hh, o1, vs1, (hs₁.2 x1 hne).trans (Heap.get?_push_of_some _ h1), d1, c1⟩ hit₁ ht₁ (by simp) (fun h₂ he₂ => ?_) hne))
  simp only [Option.isSome_none, Bool.false_eq_true, if_false]
  refine wpAny_pure (hQ h₂ fun b o hb e => he₂ b o hb (hs₁.extBut b o hb (Heap.get?_push_of_some _ e)))
end
theorem ps_parH {X : Cx} {i j : Nat} {x y : Str} {a b : Expr} {ta : TA} {px py pt pos : Pos} {kt k2 pt2} (hc : L2H.HotC X) (hN : X.N.Nodup) (hi : X.N[i]? = some x) (hj : X.N[j]? = some y) (hij : i ≠ j)
    (hx : X.env.scope.names.lookup x = some .local) (hy : X.env.scope.names.lookup y = some .local) (ha : PA X [a, b] ta)
    (hw : swappedStores [.Tuple [.Name x px, .Name y py] kt pt] (.Tuple [a, b] k2 pt2) X.env = pure (some [x, y]))
    (hs : swapsWithSole [.Tuple [.Name x px, .Name y py] kt pt] (.Tuple [a, b] k2 pt2) pos.line X.env = pure false) :
    PS X (.Assign [.Tuple [.Name x px, .Name y py] kt pt] (.Tuple [a, b] k2 pt2) pos) (tPar i j ta) := by
  refine ⟨fun pins s σ H D I h => ?_⟩
  rw [exec_Assign_arm]
  refine wpAny_bind (wpAny_standAt ?_)
  rw [hs]
  refine wpAny_bind (wpAny_pure ?_)
  rw [if_neg (by decide)]
  refine wpAny_bind (Tuple_ (thn (ha.run _ pins s σ H _ I h) fun us s1 ⟨vs, H1, I1, r1, v, w, e1, q1⟩ => ?_))
  subst e1
  obtain ⟨u1, u2, rfl, rv, rw'⟩ : ∃ u1 u2, us = [u1, u2] ∧ RelV v u1 ∧ RelV w u2 := by
    cases r1 with
    | cons p q =>
      cases q with
      | cons p' q' => cases q'; exact ⟨_, _, rfl, p, p'⟩
  refine wpAny_newObj_type ?_ (by show 2 ≤ sizeLine; decide)
  have I2 : Inv X pins σ H1 { s1 with heap := s1.heap.push { cls := .type "tuple", data := .seq [u1, u2].toArray } } := I1.kept (t' := s1.toks) fun b o e => Heap.get?_push_of_some _ e
  rw [hw]
  refine wpAny_bind (wpAny_pure ?_)
  show wpAny (model X.prog X.w) X.A (do rule "assign.swapped-stores"; let items ← unpackItems (.ref s1.heap.objs.size) 2 none; assignInOrder [fun v => bindName X.env y v, fun v => bindName X.env x v] items.reverse; pure Flow.next) _ _ _
  obtain ⟨x1, hot⟩ := hc.at I2
  refine wpAny_bind (wpAny_rule (wpAny_bind (unpack_hot (items := #[u1, u2]) hot (IsTup.new s1.heap _) fun h' hx' => ?_)))
  have I3 := I2.kept (h' := h') (t' := s1.toks) fun b o e => hx' b o (Nat.ne_of_lt (Heap.lt_size e)) e
  show wpAny _ _ (assignInOrder [fun v => bindName X.env y v, fun v => bindName X.env x v] [u2, u1] >>= fun _ => pure Flow.next) _ _ _
  refine wpAny_bind (assignInOrder_cons (wpAny_bindName (store_ok I3 hN hj (.inl hy) rw' (fun s2 I4 => ?_) (.inr hy))))
  refine assignInOrder_cons (wpAny_bindName (store_ok I4 hN hi (.inl hx) rv (fun s3 I5 => assignInOrder_nil (wpAny_pure ?_)) (.inr hx)))
  rw [List.set_comm _ _ (Ne.symm hij)] at I5
  exact ⟨_, H1, I5, q1⟩
end Fx

set_option maxHeartbeats 4000000
namespace Fx
open PySem L2
open PyProof.Rows hiding St

/-! ### raise, try -/
section
variable {X : Cx} {W : L2.WX} {Γ : Cl} {g : Gx} {pos : Pos}
theorem z_raise0 (ok : XOk X W Γ g) {c m : Str} {p p2 p3 : Pos} {j : Nat} (hg : glB g.sc c = true) (hd : (c == ("__debug__" : Str)) = false) : PS X (.Raise (some (.Call (.Name c p) [.Constant (.str m) j p2] [] p3)) none pos) (RdS X W (ex Γ (.raise0 c))) := by
  refine ⟨fun pins s σ H D I w => ?_⟩
  obtain ⟨O, G, ι, env, h, S, q⟩ := w
  unfold ex at q
  split at q
  · rename_i hc
    rw [ok.tbe] at hc
    obtain ⟨C, hm, h1, h2, h3, h4⟩ := ok.rs c hc.1 hc.2
    refine (L2N.ps_raise (W := W) (pos := pos) ok.calm ok.tk (L2N.pmk_own (x := c) (m := m) (j := j) (p := p) (p2 := p2) (pos := p3) PySem.F.excBase_ValueError h1 hm h2 (raises_own h3 h4) (gl_of ok hg) hd)).run pins s σ H D I ?_
    exact q G ι _ _ σ H (Le.refl _) (List.prefix_refl _) S ⟨C, hm, rfl, rfl⟩
  · exact q.elim
theorem z_raise1 (ok : XOk X W Γ g) {c : Str} {e : E} {ee : Expr} {p p3 : Pos} (hg : glB g.sc c = true) (hd : (c == ("__debug__" : Str)) = false) (hs : notStar ee = true) (he : PA X [ee] (RdA X W (evs Γ (.cons e .nil)))) : PS X (.Raise (some (.Call (.Name c p) [ee] [] p3)) none pos) (RdS X W (ex Γ (.raise1 c e))) := by
  refine ⟨fun pins s σ H D I w => ?_⟩
  obtain ⟨O, G, ι, env, h, S, q⟩ := w
  unfold ex at q
  split at q
  · rename_i f hf
    rw [ok.tbe] at hf
    obtain ⟨C, fI, fd, ps, hm, T0, iC, tI, F1, hb⟩ := (ok.ini c f hf).ok
    split at q
    · rename_i hl
      refine (L2N.ps_raise (W := W) (pos := pos) ok.calm ok.tk (pmk_init (p := p) (pos := p3) T0 iC tI F1 (ok.rm.mono hl) hb (fun pins σ H s e s' I c => by
        obtain ⟨_, _, _, _, _, _, _, _, _, _, _, _, z⟩ := c
        exact z.elim) (gl_of ok hg) hm he hd (star_ok hs))).run pins s σ H D I ?_
      refine rs_bind (R1 := rTs X.K) S q fun ts h1 G1 ι1 vs H1 l1 p1 S1 r1 q1 => ?_
      cases r1 with
      | nil => exact q1.elim
      | @cons t v ts vs rt r1 =>
      cases r1 with
      | cons _ _ => exact q1.elim
      | nil =>
        refine ⟨v, rfl, fun d hd => ?_⟩
        obtain ⟨S2, l2⟩ := S1.laid (o := .xd [(f, v)]) hd
        exact q1 _ ι1 _ _ σ _ l2 (List.prefix_refl _) S2 ⟨C, d, v, hm, rfl, rfl, upd_same, rt.mono l2 (List.prefix_refl _)⟩
    · exact q.elim
  · exact q.elim
/-- the body's context -/
theorem XOk.tr (ok : XOk X W Γ g) {pn : List (Addr × Obj)} {xe : Value → Shared → Prop} {W2 : L2.WX} (tk : L2N.Takes (X.tr pn xe) W2) (own : PassesOwn (model X.prog X.w) X.A X.env xe) : XOk (X.tr pn xe) W2 Γ g where
  hN := ok.hN
  nd := ok.nd
  sc := ok.sc
  calm := ok.calm
  un := ok.un
  own := own
  tk := tk
  bi := ok.bi
  glo := ok.glo
  call := fun f hf => by
    obtain ⟨fa, fd, k, ps, h1, h2, h3, h4, h5, h6⟩ := (ok.call f hf).ok
    exact ⟨fa, fd, k, ps, h1, h2, h3, h4, h5, h6⟩
  fn := ok.fn
  tbe := ok.tbe
  tb := ok.tb
  rs := ok.rs
  ini := fun c f h => by
    obtain ⟨C, fI, fd, ps, h1, h2, h3, h4, h5, h6⟩ := (ok.ini c f h).ok
    exact ⟨C, fI, fd, ps, h1, h2, h3, h4, h5, h6⟩
  hots := fun f hf => by
    obtain ⟨fa, fd, n, h1, h2, h3, h4⟩ := (ok.hots f hf).ok
    exact ⟨fa, fd, n, h1, h2, h3, h4⟩
  rm := ok.rm
  top := ok.top
/-- stores of a suite -/
theorem par_sw {i j : Nat} {x y : Str} {p1 p2 p3 p4 : Pos} {k1 k2} {v1 v2 : Expr} (sc : X.env.scope = g.sc) (hp : parB g i j (.Tuple [.Name x p1, .Name y p2] k1 p3) (.Tuple [v1, v2] k2 p4) = true) :
    swappedStores [.Tuple [.Name x p1, .Name y p2] k1 p3] (.Tuple [v1, v2] k2 p4) X.env = pure (some [x, y]) ∧ g.N[i]? = some x ∧ g.N[j]? = some y ∧ i ≠ j ∧ g.sc.names.lookup x = some .local ∧ g.sc.names.lookup y = some .local ∧ notStar v1 = true ∧ notStar v2 = true := by
  unfold parB at hp
  simp only [Bool.and_eq_true, decide_eq_true_eq, Bool.not_eq_true'] at hp
  obtain ⟨⟨⟨⟨⟨⟨⟨⟨⟨⟨⟨h1, h2⟩, h3⟩, h4⟩, h5⟩, h6⟩, h7⟩, h8⟩, h9⟩, h10⟩, h11⟩, h12⟩ := hp
  have hij : i ≠ j := fun e => by rw [e] at h6; simp at h6
  refine ⟨?_, h1, h2, hij, h3, h4, h9, h10⟩
  have hk : g.sc.kind = .function := by
    split at h8
    · assumption
    · cases h8
  have e1 : X.env.blockKind = .function := by
    unfold Env.blockKind
    rw [sc, hk]
    rfl
  have kx : X.env.kindOf x = some .local := by show X.env.scope.names.lookup x = _; rw [sc]; exact h3
  have ky : X.env.kindOf y = some .local := by show X.env.scope.names.lookup y = _; rw [sc]; exact h4
  have nl : ([Expr.Name x p1, Expr.Name y p2].filterMap fun
      | .Name id pos => if X.env.kindOf id == some .local && pos.line == (([Expr.Name x p1, Expr.Name y p2].head?.map (·.pos.line)).getD 0) then some id else none
      | _ => none) = [x, y] := by
    have hl : (([Expr.Name x p1, Expr.Name y p2].head?.map (·.pos.line)).getD 0) = p1.line := rfl
    rw [hl]
    have hl2 : p2.line = p1.line := by rw [beq_iff_eq] at h5; exact h5.symm
    simp [List.filterMap_cons, kx, ky, hl2]
  unfold swappedStores
  dsimp only
  rw [if_neg (by simp [e1])]
  rw [if_neg (by
    intro z
    obtain ⟨v, hv, e⟩ := List.any_eq_true.mp z
    have hn : notStar v = true := by
      rcases List.mem_cons.mp hv with rfl | hv
      · exact h9
      · rw [List.mem_singleton] at hv; subst hv; exact h10
    clear z hv
    cases v <;> first | (simp [notStar] at hn; done) | (simp at e; done))]
  generalize hL : List.filterMap _ [Expr.Name x p1, Expr.Name y p2] = L
  have hL' : L = [x, y] := hL.symm.trans nl
  subst hL'
  clear hL nl
  have ned : ([x, y].eraseDups).length = 2 := by
    have : (y == x) = false := by
      rw [beq_eq_false_iff_ne] at h7 ⊢
      exact fun e => h7 e.symm
    simp [List.eraseDups_cons, this]
  rw [if_neg (by rw [ned]; simp)]
  rw [if_neg (by rw [h11]; simp)]
  rw [if_neg (by rw [h12]; simp)]
variable {q : Xq} {tb : ClT} {η : Hx}
/-- what the suite's store leaves -/
def RdX (X : Cx) (q : Xq) (f : En → Hs → Option (En × Hs)) : TS := fun D σ H => ∃ O G ι env h env' h', SRel X.K O G ι env h σ H ∧ XF X q σ G ι ∧ f env h = some (env', h') ∧ ∀ G' ι' σ' H', Le G G' → ι <+: ι' → SRel X.K O G' ι' env' h' σ' H' → D.nx σ' H'
theorem h_suite (ok : XHot X g q tb η) {K : Hk} (hi : K.ie = q.ie) (ht : K.tb = tb) (hF : HotFs X q η K) : ∀ (s : HSx) {st : Stmt}, ckHx g K s st = true → PS X st (RdX X q (hsx η s))
  | .asg i e, st, h => by
    simp only [ckHx] at h
    split at h
    · rename_i t ee p
      simp only [Bool.and_eq_true, decide_eq_true_eq, Bool.not_eq_true'] at h
      obtain ⟨⟨⟨h1, h2⟩, h3⟩, h4⟩ := h
      have he := h_ok ok hi ht hF _ h4
      have PA0 : PS X (.Assign [t] ee p) (tAsg (RdV X q (hv η e)) (gName i)) := by
        cases t with
        | Name y py =>
          simp only [ckN, Bool.and_eq_true, decide_eq_true_eq] at h2
          obtain ⟨k1, k2⟩ := h2
          unfold locB at k2
          split at k2
          · rename_i el
            exact ps_set (by rw [ok.hN]; exact ok.nd) (by rw [ok.hN]; exact k1) (.inl (by rw [ok.sc]; exact el)) he (sw_none h3) (.inr (by rw [ok.sc]; exact el))
          · rename_i el
            exact ps_set (by rw [ok.hN]; exact ok.nd) (by rw [ok.hN]; exact k1) (.inr (by rw [ok.sc]; exact el)) he (sw_none h3) (.inl (by rw [ok.fn]; exact k2))
          · cases k2
        | _ => cases h2
      refine PS.imp PA0 ?_
      rintro D σ H ⟨O, G, ι, env, h, env', h', S, x, e, k⟩
      unfold hsx at e
      refine rd1_bind S x e fun t1 hh1 G1 ι1 v H1 _ e1 l1 p1 S1 x1 r1 => ?_
      cases e1
      exact k _ _ _ _ l1 p1 (S1.set r1)
    · cases h
  | .par i j a b, st, h => by
    simp only [ckHx] at h
    split at h
    · rename_i t v1 v2 k p p0
      simp only [Bool.and_eq_true, decide_eq_true_eq] at h
      obtain ⟨⟨⟨h1, h2⟩, h3⟩, h4⟩ := h
      have hc := h4
      cases t with
      | Tuple es k1 p3 =>
        have h3' := h3
        unfold parB at h3'
        split at h3'
        · rename_i x p1 y p2 _ _ w1 w2 _ _ e1 e2
          cases e1
          cases e2
          obtain ⟨sw, a1, a2, a3, a4, a5, a6, a7⟩ := par_sw (X := X) ok.sc h3
          have he := h_oks ok hi ht hF _ h4
          refine PS.imp (ps_parH ⟨_, ok.hot, ok.pin⟩ (by rw [ok.hN]; exact ok.nd) (by rw [ok.hN]; exact a1) (by rw [ok.hN]; exact a2) a3 (by rw [ok.sc]; exact a4) (by rw [ok.sc]; exact a5) he sw (sole_none rfl)) ?_
          rintro D σ H ⟨O, G, ι, env, h, env', h', S, x, e, k⟩
          unfold hsx at e
          refine rd1_bind S x e fun ts hh1 G1 ι1 vs H1 _ e1 l1 p1 S1 x1 r1 => ?_
          cases r1 with
          | nil => cases e1
          | @cons t v ts vs rt r1 =>
          cases r1 with
          | nil => cases e1
          | @cons u w ts vs ru r1 =>
          cases r1 with
          | cons _ _ => cases e1
          | nil =>
            cases e1
            exact ⟨v, w, rfl, k _ _ _ _ l1 p1 ((S1.set rt).set ru)⟩
        · cases h3'
      | _ => simp [parB] at h3
    · cases h
theorem z_tryx (ok : XOk X W Γ g) {sb : Ss} {c n : Str} {ie : Nat} {s : HSx} {body : List Stmt} {hs : Stmt} {np pos' : Pos} (ht : g.top = true) (hg : glB g.sc c = true) (hd : (c == ("__debug__" : Str)) = false) (hn : g.N[ie]? = some n) (hl : g.sc.names.lookup n = some .local) (ha : g.tb.asked.contains c = true)
    (hb : ∀ {X' : Cx} {W' : L2.WX}, XOk X' W' Γ g → PSs X' body (RdS X' W' (exs Γ sb))) (hx : ckHx g ⟨ie, g.tb, g.hots⟩ s hs = true) :
    PS X (.Try body [.ExceptHandler (some (.Name c np)) (some n) [hs] pos'] [] [] pos) (RdS X W (ex Γ (.tryx sb c ie s))) := by
  refine ⟨fun pins st σ H D I w => ?_⟩
  have hm : c ∈ g.tb.asked := by simpa using ha
  obtain ⟨v, cv, hcv⟩ := ok.tb.nm c hm
  have hnm : Names X c cv := by
    refine ⟨gl_of ok hg, hd, ?_⟩
    rcases hcv with ⟨h1, _⟩ | ⟨rfl, h1, rfl, _⟩
    · exact .inl h1
    · exact .inr ⟨h1, boot_ve, by decide +kernel⟩
  obtain ⟨t1, t2⟩ := ok.top ht
  have P := L2N.ps_try_as (X := X) (x := c) (n := n) (c := cv) (i := ie) (body := body) (suite := []) (b₀ := hs) (np := np) (pos := pos) (pos' := pos') (tb := fun W' => RdS X W' (exs Γ sb)) (Wout := W)
    (ts := fun a cls d D σ H => 1 ≤ Γ.lev ∧ ∃ D0 c0 fs, cls = .ref D0 ∧ (g.tb.cls.lookup c0).isSome = true ∧ RdX X ⟨ie, a, ⟨.none, none, .fields #[], #[]⟩, D0, d, c0, fs⟩ (hsx (hxOf Γ.tb c0 fs fun f h => Γ.hot f c0 fs h) s) D σ H)
    t1 t2 (by rw [ok.hN]; exact ok.nd) (by rw [ok.hN]; exact hn) (by show X.env.scope.names.lookup n = _; rw [ok.sc]; exact hl) hnm ok.tk
    (fun W' pn xe tk own => hb (ok.tr tk own))
    (fun a oe cls d pn hz hdat => pss_one ⟨fun pins2 s2 σ2 H2 D2 I2 w2 => by
      obtain ⟨hlev, D0, c0, fs, rfl, hkn, O, G, ι, env, h, env', h', S, x, e, k⟩ := w2
      obtain ⟨vs, hv⟩ := hdat
      have okH : XHot (X.suite a ((a, oe) :: pn)) g ⟨ie, a, oe, D0, d, c0, fs⟩ g.tb (hxOf Γ.tb c0 fs fun f h => Γ.hot f c0 fs h) :=
        ⟨ok.hN, ok.nd, ok.sc, ok.fn, List.mem_cons_self, hz, ⟨vs, hv⟩, ⟨rfl, vs, hv, hz.2.2 vs hv⟩, hkn, ok.bi, rfl, fun d' b' e' => sub_ok (by rw [← ok.tbe]; exact e'), ok.tb, ok.un⟩
      exact (h_suite okH (K := ⟨ie, g.tb, g.hots⟩) rfl rfl ⟨fun f hf => ⟨Γ.hot f, rfl, by
        obtain ⟨fa, fd, n, h1, h2, h3, h4⟩ := (ok.hots f hf).ok
        exact ⟨fa, fd, n, h1, h2, h3, h4⟩⟩, fun _ => ⟨by have := (ok.rm.mono hlev).dp; exact this, by have := (ok.rm.mono hlev).un; exact this⟩⟩ s hx).run pins2 s2 σ2 H2 D2 I2 ⟨O, G, ι, env, h, env', h', S, x, e, k⟩⟩)
  refine P.run pins st σ H D I ?_
  obtain ⟨O, G, ι, env, h, S, q⟩ := w
  refine ⟨O, G, ι, env, h, S, ?_⟩
  unfold ex at q
  cases e : exs Γ sb env h with
  | exc x env1 h1 =>
    rw [e] at q
    intro G' ι' cls d σ' H' l p S' rx
    have rx0 := rx
    cases x with
    | exc d1 fs =>
      dsimp only at q
      have hcls : ∃ D0, cls = .ref D0 ∧ X.mg d1 = some (.ref D0) := by
        unfold RepX at rx0
        split at rx0
        · rename_i e1; cases e1; obtain ⟨C, h1, h2, _⟩ := rx0; exact ⟨C, h2, h1⟩
        · rename_i e1; cases e1; obtain ⟨C, _, _, h1, h2, _⟩ := rx0; exact ⟨C, h2, h1⟩
        · exact rx0.elim
      obtain ⟨D0, rfl, hmD⟩ := hcls
      cases es : Γ.tb.sub d1 c with
      | none => rw [es] at q; exact q.elim
      | some b =>
        rw [es] at q
        have es' : g.tb.sub d1 c = some b := by rw [← ok.tbe]; exact es
        obtain ⟨hm1, l1, hl1, rfl⟩ := sub_ok es'
        obtain ⟨C1, K1⟩ := ok.tb.cl d1 l1 hl1
        have eC : C1 = D0 := by
          have := K1.at_
          rw [hmD] at this
          cases this; rfl
        subst eC
        obtain ⟨v1, cv1, hcv1, _, hex⟩ := K1.ask c hm1
        have ecv : cv1 = cv := by
          rcases hcv with ⟨h1, _⟩ | ⟨_, h1, h2, _⟩ <;> rcases hcv1 with ⟨h3, _⟩ | ⟨_, h3, h4, _⟩
          · rw [h1] at h3; cases h3; rfl
          · rw [h1] at h3; cases h3
          · rw [h1] at h3; cases h3
          · rw [h2, h4]
        subst ecv
        refine ⟨l1.contains c, hex, fun hyes a na => ?_, fun hno => ?_⟩
        · rw [hyes] at q
          dsimp only at q
          split at q
          · rename_i hlev
            refine ⟨hlev.1, C1, d1, fs, rfl, by rw [hl1]; rfl, ?_⟩
            cases eh : hsx (hxOf Γ.tb d1 fs fun f h => Γ.hot f d1 fs h) s (env1.set ie .no) h1 with
            | none => rw [eh] at q; exact q.elim
            | some y =>
              obtain ⟨env2, h2⟩ := y
              rw [eh] at q
              have hie : ie < σ'.length := by rw [← S'.len]; exact hlev.2
              refine ⟨O, G', ι', env1.set ie .no, h1, env2, h2, S'.drop, ⟨by rw [List.getElem?_set_self hie], rx⟩, eh, fun G2 ι2 σ2 H2 l2 p2 S2 => ?_⟩
              exact q G2 ι2 _ H2 (l.trans l2) (p.trans p2) S2.drop
          · exact q.elim
        · rw [hno] at q
          exact q G' ι' _ d σ' H' l p S' rx
    | _ => exact q.elim
  | nx env1 h1 => rw [e] at q; exact q
  | rt r h1 => rw [e] at q; exact q
  | bk env1 h1 => rw [e] at q; exact q
  | ct env1 h1 => rw [e] at q; exact q
  | stuck => rw [e] at q; exact q
end
end Fx

set_option maxHeartbeats 4000000
namespace Fx
open PySem L2
open PyProof.Rows hiding St

structure SndS (Γ : Cl) (s : S) : Prop where
  s : ∀ {X : Cx} {W : L2.WX} {g : Gx} {st : Stmt}, XOk X W Γ g → ckS g s st = true → PS X st (RdS X W (ex Γ s))
structure SndSs (Γ : Cl) (l : Ss) : Prop where
  s : ∀ {X : Cx} {W : L2.WX} {g : Gx} {sts : List Stmt}, XOk X W Γ g → ckSs g l sts = true → PSs X sts (RdS X W (exs Γ l))
theorem ckNs_names {g : Gx} : ∀ {l : List Nat} {es : List Expr}, ckNs g l es = true → es.all (fun e => match e with | .Name _ _ => true | _ => false) = true
  | [], [], _ => rfl
  | [], _ :: _, h => by simp [ckNs] at h
  | _ :: _, [], h => by simp [ckNs] at h
  | i :: l, e :: es, h => by
    simp only [ckNs, Bool.and_eq_true] at h
    simp only [List.all_cons, Bool.and_eq_true]
    refine ⟨?_, ckNs_names h.2⟩
    have := h.1
    cases e <;> first | rfl | cases this
section
variable {Γ : Cl}
theorem m_leaf {s : S} (hs : ∀ (a : Ss) (c : E) (b : Ss) (tg : Tg) (it : It), s ≠ .ite c a b ∧ s ≠ .forr tg it a ∧ s ≠ .whl c a) (ht : ∀ (b : Ss) (c : Str) (i : Nat) (x : HSx), s ≠ .tryx b c i x) : SndS Γ s := ⟨fun {X W g st} ok h => by
  cases s with
  | pass =>
    unfold ckS at h
    split at h
    · exact z_pass
    · cases h
  | expr e =>
    unfold ckS at h
    split at h
    · simp only [Bool.and_eq_true, Bool.not_eq_true'] at h
      exact z_expr h.1 ((sndE Γ e).s ok h.2).1
    · cases h
  | asg i e =>
    unfold ckS at h
    split at h
    · simp only [Bool.and_eq_true] at h
      exact z_asg ((sndE Γ e).s ok h.2).2.2 h.1
    · cases h
  | asgO i e =>
    unfold ckS at h
    split at h
    · simp only [Bool.and_eq_true] at h
      exact z_asgO ((sndE Γ e).s ok h.2).2.2 h.1
    · cases h
  | asgB i e =>
    unfold ckS at h
    split at h
    · simp only [Bool.and_eq_true] at h
      exact z_asgB ((sndE Γ e).s ok h.2).2.2 h.1
    · cases h
  | asgT l e =>
    unfold ckS at h
    split at h
    · simp only [Bool.and_eq_true, Bool.not_eq_true'] at h
      obtain ⟨⟨⟨h1, h2⟩, h3⟩, h4⟩ := h
      exact z_asgT ok h1 h2 ((sndE Γ e).s ok h4).1 (noSwap_ok ok h3 (ckNs_names h1))
    · cases h
  | par i j a b =>
    unfold ckS at h
    split at h
    · simp only [Bool.and_eq_true] at h
      exact z_par ok h.1 fun v1 v2 k p e => by
        cases e
        exact ((sndEs Γ _).s ok h.2).1
    · cases h
  | seti i ix e =>
    unfold ckS at h
    split at h
    · simp only [Bool.and_eq_true, decide_eq_true_eq, Bool.not_eq_true'] at h
      obtain ⟨⟨⟨⟨⟨⟨h1, h2⟩, h3⟩, h4⟩, h5⟩, h6⟩, h7⟩ := h
      exact z_seti ok h1 h2 (dbg_ok h3).1 (dbg_ok h3).2 h4 h5 ((sndE Γ ix).s ok h6).1 ((sndE Γ e).s ok h7).1 rfl
    · cases h
  | setd i ix e =>
    unfold ckS at h
    split at h
    · simp only [Bool.and_eq_true, decide_eq_true_eq, Bool.not_eq_true'] at h
      obtain ⟨⟨⟨⟨⟨h1, h2⟩, h3⟩, h5⟩, h6⟩, h7⟩ := h
      exact z_setd ok h1 h2 (dbg_ok h3).1 (dbg_ok h3).2 h5 ((sndE Γ ix).s ok h6).1 ((sndE Γ e).s ok h7).1
    · cases h
  | swap i x1 x2 e1 e2 =>
    unfold ckS at h
    split at h
    · simp only [Bool.and_eq_true, decide_eq_true_eq] at h
      obtain ⟨⟨⟨⟨⟨⟨⟨⟨h1, rfl⟩, h2⟩, h3⟩, h4⟩, h5⟩, h6⟩, h7⟩, h8⟩ := h
      exact z_swap ok h1 h2 (dbg_ok h3).1 (dbg_ok h3).2 h4 h5 ((sndE Γ x1).s ok h6).1 ((sndE Γ x2).s ok h7).1 ((sndEs Γ _).s ok h8).1
    · cases h
  | app i e =>
    unfold ckS at h
    split at h
    · simp only [Bool.and_eq_true, decide_eq_true_eq] at h
      obtain ⟨⟨⟨⟨⟨h1, h2⟩, h3⟩, rfl⟩, h5⟩, h6⟩ := h
      exact z_app ok h1 h2 (dbg_ok h3).1 (dbg_ok h3).2 (ck_star h6) h5 ((sndE Γ e).s ok h6).1
    · cases h
  | aug i op e =>
    unfold ckS at h
    split at h
    · simp only [Bool.and_eq_true, decide_eq_true_eq, Bool.or_eq_true] at h
      obtain ⟨⟨⟨⟨h1, h2⟩, rfl⟩, h4⟩, h5⟩ := h
      exact z_aug ok h4 h1 h2 ((sndE Γ e).s ok h5).1
    · cases h
  | ret e =>
    unfold ckS at h
    split at h
    · exact z_ret ((sndE Γ e).s ok h).1
    · cases h
  | retN =>
    unfold ckS at h
    split at h
    · exact z_retN
    · cases h
  | bad =>
    refine ⟨fun pins s σ H D I z => ?_⟩
    obtain ⟨O, G, ι, env, hh, S, q⟩ := z
    unfold ex at q
    exact q.elim
  | raise0 c =>
    unfold ckS at h
    split at h
    · simp only [Bool.and_eq_true, decide_eq_true_eq] at h
      obtain ⟨⟨rfl, h1⟩, h2⟩ := h
      exact z_raise0 ok h1 (dbg_ok h2).1
    · cases h
  | raise1 c e =>
    unfold ckS at h
    split at h
    · simp only [Bool.and_eq_true, decide_eq_true_eq] at h
      obtain ⟨⟨⟨rfl, h1⟩, h2⟩, h3⟩ := h
      exact z_raise1 ok h1 (dbg_ok h2).1 (ck_star h3) (a_cons (ck_star h3) ((sndE Γ e).s ok h3).1 a_nil)
    · cases h
  | tryx b c i x => exact absurd rfl (ht b c i x)
  | ite c a b => exact absurd rfl (hs a c b (.nm 0) (.val c)).1
  | forr tg it b => exact absurd rfl (hs b (.var 0) b tg it).2.1
  | whl c b => exact absurd rfl (hs b c b (.nm 0) (.val c)).2.2⟩
theorem m_ite {c : E} {a b : Ss} (ha : SndSs Γ a) (hb : SndSs Γ b) : SndS Γ (.ite c a b) := ⟨fun {X W g st} ok h => by
  unfold ckS at h
  split at h
  · simp only [Bool.and_eq_true] at h
    obtain ⟨⟨h1, h2⟩, h3⟩ := h
    exact z_ite ((sndE Γ c).s ok h1).2.1 (ha.s ok h2) (hb.s ok h3)
  · cases h⟩
theorem m_for {tg : Tg} {it : It} {b : Ss} (hb : SndSs Γ b) : SndS Γ (.forr tg it b) := ⟨fun {X W g st} ok h => by
  unfold ckS at h
  split at h
  · simp only [Bool.and_eq_true] at h
    obtain ⟨⟨⟨h1, h2⟩, h3⟩, h4⟩ := h
    exact z_for ok ((sndI Γ it).s true ok h3) h1 h2 (hb.s ok h4)
  · cases h⟩
theorem m_whl {c : E} {b : Ss} (hb : SndSs Γ b) : SndS Γ (.whl c b) := ⟨fun {X W g st} ok h => by
  unfold ckS at h
  split at h
  · simp only [Bool.and_eq_true] at h
    exact z_whl ok ((sndE Γ c).s ok h.1).2.1 (hb.s ok h.2)
  · cases h⟩
theorem m_try {b : Ss} {c : Str} {ie : Nat} {s : HSx} (hb : SndSs Γ b) : SndS Γ (.tryx b c ie s) := ⟨fun {X W g st} ok h => by
  unfold ckS at h
  split at h
  · simp only [Bool.and_eq_true, decide_eq_true_eq] at h
    obtain ⟨⟨⟨⟨⟨⟨⟨⟨h1, rfl⟩, h2⟩, h3⟩, h4⟩, h5⟩, h6⟩, h7⟩, h8⟩ := h
    exact z_tryx ok h1 h2 (dbg_ok h3).1 h4 h5 h6 (fun {X' W'} ok' => hb.s ok' h7) h8
  · cases h⟩
end
mutual
theorem sndS (Γ : Cl) : ∀ s : S, SndS Γ s
  | .ite _ a b => m_ite (sndSs Γ a) (sndSs Γ b)
  | .forr _ _ b => m_for (sndSs Γ b)
  | .whl _ b => m_whl (sndSs Γ b)
  | .pass => m_leaf (by intros; simp) (by intros; simp)
  | .expr _ => m_leaf (by intros; simp) (by intros; simp)
  | .asg _ _ => m_leaf (by intros; simp) (by intros; simp)
  | .asgO _ _ => m_leaf (by intros; simp) (by intros; simp)
  | .asgB _ _ => m_leaf (by intros; simp) (by intros; simp)
  | .asgT _ _ => m_leaf (by intros; simp) (by intros; simp)
  | .par _ _ _ _ => m_leaf (by intros; simp) (by intros; simp)
  | .seti _ _ _ => m_leaf (by intros; simp) (by intros; simp)
  | .setd _ _ _ => m_leaf (by intros; simp) (by intros; simp)
  | .swap _ _ _ _ _ => m_leaf (by intros; simp) (by intros; simp)
  | .app _ _ => m_leaf (by intros; simp) (by intros; simp)
  | .aug _ _ _ => m_leaf (by intros; simp) (by intros; simp)
  | .ret _ => m_leaf (by intros; simp) (by intros; simp)
  | .retN => m_leaf (by intros; simp) (by intros; simp)
  | .bad => m_leaf (by intros; simp) (by intros; simp)
  | .raise0 _ => m_leaf (by intros; simp) (by intros; simp)
  | .raise1 _ _ => m_leaf (by intros; simp) (by intros; simp)
  | .tryx b _ _ _ => m_try (sndSs Γ b)
theorem sndSs (Γ : Cl) : ∀ l : Ss, SndSs Γ l
  | .nil => ⟨fun {X W g sts} ok h => by
      unfold ckSs at h
      cases sts with
      | nil => exact b_nil
      | cons _ _ => cases h⟩
  | .cons a r => ⟨fun {X W g sts} ok h => by
      cases sts with
      | nil => simp [ckSs] at h
      | cons st sts =>
        simp only [ckSs, Bool.and_eq_true] at h
        exact b_cons ((sndS Γ a).s ok h.1) ((sndSs Γ r).s ok h.2)⟩
  | .frz i r => ⟨fun {X W g sts} ok h => by
      simp only [ckSs] at h
      exact b_frz ((sndSs Γ r).s ok h)⟩
end

/-! ### the defs of a text -/
structure FD where
  nm : Str
  fn : Fn
  N : List Str
/-- a def's shape: plain parameters, the slots' names, the body -/
def ckFn (fns hots : List Str) (tb : ClT) (f : FD) (st : Stmt) : Bool :=
  (match defArgs st with
    | { posonlyargs := [], args := as, vararg := none, kwonlyargs := [], kw_defaults := [], kwarg := none, defaults := [] } => decide (as.map (·.arg) = f.N.take f.fn.np)
    | _ => false) &&
  decide (f.fn.np ≤ f.N.length) && decide (f.N.length = f.fn.ns) && decide f.N.Nodup && isFn (defScope st).kind && !(defScope st).isCoroutine && !(defScope st).isGenerator &&
  ((f.N.take f.fn.np).all fun x => match (defScope st).names.lookup x with | some .local => true | some .cell => true | _ => false) &&
  ((defScope st).names.all fun y => match y.2 with | .free => false | _ => true) &&
  ckSs ⟨f.N, defScope st, fun _ => true, fns, hots, tb, true⟩ f.fn.body (defBody st)
def prgOf (l : List FD) (gl : List (Str × T)) (hd : List HD) (tb : ClT) : Prg := ⟨l.map fun f => (f.nm, f.fn), gl, hd.map fun f => (f.nm, f.fn), tb⟩

/-- what the module's top has left -/
structure Top (K : PySem.W.Frag) (mg : Str → Option Value) (l : List FD) (gl : List (Str × T)) (hd : List HD) (tb : ClT) : Prop where
  nd : (l.map (·.nm)).Nodup
  fn : ∀ f ∈ l, ∃ st fa fd, ckFn (l.map (·.nm)) (hd.map (·.nm)) tb f st = true ∧ mg f.nm = some (.ref fa) ∧ FunD K f.nm f.nm (defArgs st) (defBody st) (defScope st) [] [] fa fd
  bi : ∀ x ∈ biNames, mg x = none
  glo : ∀ x t, gl.lookup x = some t → ∃ u, mg x = some u ∧ RepG t u
  hnd : (hd.map (·.nm)).Nodup
  hot : ∀ f ∈ hd, ∃ st fa fd, ckHFn tb f st = true ∧ mg f.nm = some (.ref fa) ∧ FunD K f.nm f.nm (defArgs st) (defBody st) (defScope st) [] [] fa fd
  tk : TblOk K mg tb
  rs : ∀ c, (tb.cls.lookup c).isSome = true → tb.init.lookup c = none → RaiseOk K mg c
  ini : ∀ c f, tb.init.lookup c = some f → ∃ C fI fd ps, mg c = some (.ref C) ∧ OexC K C ∧ PySem.W.findIn K (.ref C) "__init__" = some (some (.ref fI)) ∧ PySem.W.typeIn K (.ref fI) = some (.type "function") ∧
    (∀ (P : Program) (w : World) (base : Heap), FnOk P w K mg base (L2N.CX P w) 1 fI fd ps (spInit C f)) ∧ Binds K fd ps []

theorem lookup_fn {l : List FD} (nd : (l.map (·.nm)).Nodup) {f : FD} (h : f ∈ l) : (l.map fun f => (f.nm, f.fn)).lookup f.nm = some f.fn := by
  induction l with
  | nil => cases h
  | cons a l ih =>
    simp only [List.map_cons, List.nodup_cons] at nd
    simp only [List.map_cons, List.lookup_cons]
    rcases List.mem_cons.mp h with rfl | h
    · simp
    · have : (f.nm == a.nm) = false := by
        rw [beq_eq_false_iff_ne]
        intro e
        exact nd.1 (List.mem_map.mpr ⟨f, h, e⟩)
      rw [this]
      exact ih nd.2 h
theorem start_rel {K : PySem.W.Frag} {O G : Hp} {ι : List Addr} {h : Hs} {H : Hp} {ts : List T} {vs : List V} {N : List Str} {n : Nat} (R : HRel K O G ι h H) (r : RepL K G ι ts vs) (hn : N.length = n) (hl : ts.length ≤ n) : SRel K O G ι (startE n ts) h (L2.start N vs) H where
  h := R
  len := by
    unfold startE L2.start
    rw [List.length_append, List.length_append, List.length_map, List.length_map, List.length_replicate, List.length_replicate, r.length, hn]
  slot := fun i s x h1 h2 => by
    unfold startE at h1
    unfold L2.start at h2
    by_cases hi : i < ts.length
    · rw [List.getElem?_append_left (by simpa using hi), List.getElem?_map] at h1
      rw [List.getElem?_append_left (by rw [List.length_map, ← r.length]; exact hi), List.getElem?_map] at h2
      rw [List.getElem?_eq_getElem hi] at h1
      cases h1
      obtain ⟨v, hv, rv⟩ := r.get (List.getElem?_eq_getElem hi)
      rw [hv] at h2
      cases h2
      exact ⟨v, rfl, rv⟩
    · rw [List.getElem?_append_right (by simpa using hi), List.getElem?_replicate] at h1
      split at h1
      · cases h1; trivial
      · cases h1
  nd := fun i j a c d _ h1 _ _ _ => by
    unfold startE at h1
    by_cases hi : i < ts.length
    · rw [List.getElem?_append_left (by simpa using hi), List.getElem?_map, List.getElem?_eq_getElem hi] at h1
      cases h1
    · rw [List.getElem?_append_right (by simpa using hi), List.getElem?_replicate] at h1
      split at h1 <;> cases h1
theorem lookup_hot {l : List HD} (nd : (l.map (·.nm)).Nodup) {f : HD} (h : f ∈ l) : (l.map fun f => (f.nm, f.fn)).lookup f.nm = some f.fn := by
  induction l with
  | nil => cases h
  | cons a l ih =>
    simp only [List.map_cons, List.nodup_cons] at nd
    simp only [List.map_cons, List.lookup_cons]
    rcases List.mem_cons.mp h with rfl | h
    · simp
    · have : (f.nm == a.nm) = false := by
        rw [beq_eq_false_iff_ne]
        intro e
        exact nd.1 (List.mem_map.mpr ⟨f, h, e⟩)
      rw [this]
      exact ih nd.2 h
theorem ck_parts {fns hots : List Str} {tb : ClT} {f : FD} {st : Stmt} (h : ckFn fns hots tb f st = true) : ∃ as, defArgs st = { posonlyargs := [], args := as, vararg := none, kwonlyargs := [], kw_defaults := [], kwarg := none, defaults := [] } ∧ as.map (·.arg) = f.N.take f.fn.np ∧
    f.fn.np ≤ f.N.length ∧ f.N.length = f.fn.ns ∧ FnScope f.N (f.N.take f.fn.np) (defScope st) ∧ ckSs ⟨f.N, defScope st, fun _ => true, fns, hots, tb, true⟩ f.fn.body (defBody st) = true := by
  unfold ckFn at h
  simp only [Bool.and_eq_true, decide_eq_true_eq, Bool.not_eq_true'] at h
  obtain ⟨⟨⟨⟨⟨⟨⟨⟨⟨h1, h2⟩, h3⟩, h4⟩, h5⟩, h6⟩, h7⟩, h8⟩, h9⟩, h10⟩ := h
  split at h1
  · rename_i as e
    refine ⟨as, e, of_decide_eq_true h1, h2, h3, ⟨?_, h6, h7, h4, ?_, fun x hx => ?_, fun y hy e => ?_⟩, h10⟩
    · unfold isFn at h5
      split at h5
      · assumption
      · cases h5
    · rw [List.length_take, Nat.min_eq_left h2]
    · have := List.all_eq_true.mp h8 x hx
      split at this
      · exact .inl (by assumption)
      · exact .inr (by assumption)
      · cases this
    · have := List.all_eq_true.mp h9 y hy
      rw [e] at this
      cases this
  · cases h1
theorem fun_at {K : PySem.W.Frag} {x q : Str} {as : Arguments} {b : List Stmt} {sc : Scope} {d : List V} {k : List (Str × V)} {fa : Addr} {fd : FuncData} (F : FunD K x q as b sc d k fa fd) : ∃ oc od osl, K.lookup fa = some ⟨oc, od, .func fd, osl⟩ := by
  obtain ⟨oc, od, _, _, _, _, _, _, _, osl, _, h, _⟩ := F.ex
  exact ⟨oc, od, osl, h⟩
theorem all_ok {P : Program} {w : World} {K : PySem.W.Frag} {mg : Str → Option Value} {base : Heap} {l : List FD} {gl : List (Str × T)} {hd : List HD} {tb : ClT} (Tp : Top K mg l gl hd tb) : ∀ (k : Nat), ∀ f ∈ l, ∃ fa fd, mg f.nm = some (.ref fa) ∧ (∃ oc od osl, K.lookup fa = some ⟨oc, od, .func fd, osl⟩) ∧ PySem.W.keepIn K (.ref fa) = true ∧ Binds K fd (f.N.take f.fn.np) [] ∧
    (∀ (s : Shared) (us : List Value), us.length = (f.N.take f.fn.np).length → BindsTo s fd ⟨us, []⟩ ((f.N.take f.fn.np).zip us)) ∧
    FnOk P w K mg base (L2N.CX P w) k fa fd (f.N.take f.fn.np) (spC K mg (f.N.take f.fn.np).length (callK (prgOf l gl hd tb) k f.nm)) := by
  intro k
  induction k with
  | zero =>
    intro f hf
    obtain ⟨st, fa, fd, hck, hm, F⟩ := Tp.fn f hf
    obtain ⟨as, ea, eas, hnp, hns, sco, hb⟩ := ck_parts hck
    have bnd : ∀ us : List Value, us.length = (f.N.take f.fn.np).length → ∀ (kV doc pm : Value) (an : Option Addr) (cdv ct : Value), bindArgs (PySem.W.fnOf f.nm f.nm (defArgs st) (defBody st) (defScope st) .none kV doc pm an cdv ct) ⟨us, []⟩ = pure ((f.N.take f.fn.np).zip us) := fun us hl kV doc pm an cdv ct => by
      have := bind_ok (fd := PySem.W.fnOf f.nm f.nm (defArgs st) (defBody st) (defScope st) .none kV doc pm an cdv ct) (as := as) ea rfl (by rw [eas]; exact sco.nd.sublist (List.take_sublist _ _)) us (by rw [eas]; exact hl)
      rw [eas] at this
      exact this
    refine ⟨fa, fd, hm, fun_at F, F.kp, F.bindsN fun kV doc pm an cdv ct us hl => bnd us hl kV doc pm an cdv ct, fun s us hl => F.bindsA (fun kV doc pm an cdv ct us hl => bnd us hl kV doc pm an cdv ct) s us hl, fun vs H Q E h => h.1, fun A outer s H args us vs Q E _ _ _ _ h => ?_⟩
    obtain ⟨_, O, G, ι, h0, ts, _, _, q⟩ := h
    exact q.elim
  | succ k ih =>
    intro f hf
    obtain ⟨st, fa, fd, hck, hm, F⟩ := Tp.fn f hf
    obtain ⟨as, ea, eas, hnp, hns, sco, hb⟩ := ck_parts hck
    have bnd : ∀ us : List Value, us.length = (f.N.take f.fn.np).length → ∀ (kV doc pm : Value) (an : Option Addr) (cdv ct : Value), bindArgs (PySem.W.fnOf f.nm f.nm (defArgs st) (defBody st) (defScope st) .none kV doc pm an cdv ct) ⟨us, []⟩ = pure ((f.N.take f.fn.np).zip us) := fun us hl kV doc pm an cdv ct => by
      have := bind_ok (fd := PySem.W.fnOf f.nm f.nm (defArgs st) (defBody st) (defScope st) .none kV doc pm an cdv ct) (as := as) ea rfl (by rw [eas]; exact sco.nd.sublist (List.take_sublist _ _)) us (by rw [eas]; exact hl)
      rw [eas] at this
      exact this
    refine ⟨fa, fd, hm, fun_at F, F.kp, F.bindsN fun kV doc pm an cdv ct us hl => bnd us hl kV doc pm an cdv ct, fun s us hl => F.bindsA (fun kV doc pm an cdv ct us hl => bnd us hl kV doc pm an cdv ct) s us hl, ?_⟩
    refine F.ok sco (fun vs H Q E h => h.1) fun cdv A outer s H vs Q E hr h => ?_
    obtain ⟨hlen, O, G, ι, h0, ts, R, r, q⟩ := h
    have lk : (prgOf l gl hd tb).fns.lookup f.nm = some f.fn := lookup_fn Tp.nd hf
    have hts : ts.length = f.fn.np := by
      rw [r.length, hlen, List.length_take, Nat.min_eq_left hnp]
    have ec : callK (prgOf l gl hd tb) (k + 1) f.nm ts h0 = runF ((prgOf l gl hd tb).cl k) f.fn ts h0 := by
      rw [callK, lk]; rfl
    rw [ec] at q
    unfold runF at q
    rw [if_pos hts] at q
    have ok : XOk (cxOf (L2N.CX P w) P w K mg base f.N f.nm (defScope st) fa cdv A outer s H E) (fun cls d _ H => E cls d H) ((prgOf l gl hd tb).cl k) ⟨f.N, defScope st, fun _ => true, l.map (·.nm), hd.map (·.nm), tb, true⟩ := by
      refine ⟨rfl, sco.nd, rfl, rfl, by have := hr.un; exact (show (A.deeper (envOfC f.nm (defScope st) s.heap.objs.size fa cdv)).units + 66 < cLine by omega), L2.passes_of (K := fun e s'' => L2N.CX P w outer H s E e s'') (E₁ := fun e' s'' => L2N.CX P w outer H s E e' s'') rfl, L2N.takes_of rfl rfl rfl (E₁ := fun e' s'' => L2N.CX P w outer H s E e' s'') rfl, Tp.bi, Tp.glo, fun x hx => ?_, rfl, rfl, Tp.tk, Tp.rs, fun c f h => ?_, fun f hf => ?_, hr, fun _ => ⟨rfl, rfl⟩⟩
      obtain ⟨f', hf', rfl⟩ := List.mem_map.mp hx
      obtain ⟨fa', fd', m1, _, m2, m3, m4, m5⟩ := ih f' hf'
      refine ⟨fa', fd', k, _, m1, m2, hr, m3, fun ts h hne => ?_, m5⟩
      have hck' := Tp.fn f' hf'
      obtain ⟨st', _, _, hck', _⟩ := hck'
      obtain ⟨_, _, _, hnp', _⟩ := ck_parts hck'
      rw [List.length_take, Nat.min_eq_left hnp']
      by_cases hq : ts.length = f'.fn.np
      · exact hq
      · exfalso
        apply hne
        show callK (prgOf l gl hd tb) k f'.nm ts h = .stuck
        cases k with
        | zero => rfl
        | succ k =>
          have lk' : (prgOf l gl hd tb).fns.lookup f'.nm = some f'.fn := lookup_fn Tp.nd hf'
          rw [callK, lk']
          show runF _ f'.fn ts h = .stuck
          unfold runF
          rw [if_neg hq]
      · obtain ⟨C, fI, fd', ps, i1, i2, i3, i4, i5, i6⟩ := Tp.ini c f h
        exact ⟨C, fI, fd', ps, i1, i2, i3, i4, i5 P w base, i6⟩
      · obtain ⟨f', hf', rfl⟩ := List.mem_map.mp hf
        obtain ⟨st', fa', fd', hck', hm', F'⟩ := Tp.hot f' hf'
        obtain ⟨as', ea', eas', hnp', hns', sco', _⟩ := ckH_parts hck'
        obtain ⟨n, hn⟩ : ∃ n, f'.N.take 1 = [n] := by
          cases e : f'.N with
          | nil => rw [e] at hnp'; simp at hnp'
          | cons n r => exact ⟨n, rfl⟩
        have bnd' : ∀ us : List Value, us.length = [n].length → ∀ (kV doc pm : Value) (an : Option Addr) (cdv ct : Value), bindArgs (PySem.W.fnOf f'.nm f'.nm (defArgs st') (defBody st') (defScope st') .none kV doc pm an cdv ct) ⟨us, []⟩ = pure ([n].zip us) := fun us hl kV doc pm an cdv ct => by
          have := bind_ok (fd := PySem.W.fnOf f'.nm f'.nm (defArgs st') (defBody st') (defScope st') .none kV doc pm an cdv ct) (as := as') ea' rfl (by rw [eas']; exact sco'.nd.sublist (List.take_sublist _ _)) us (by rw [eas', hn]; exact hl)
          rw [eas', hn] at this
          exact this
        refine ⟨fa', fd', n, hm', F'.kp, F'.bindsN fun kV doc pm an cdv ct us hl => bnd' us hl kV doc pm an cdv ct, ?_⟩
        have eh : ((prgOf l gl hd tb).cl k).hot f'.nm = hotFn tb f'.fn := by
          funext c fs h
          show (prgOf l gl hd tb).hot f'.nm c fs h = _
          unfold Prg.hot
          rw [show (prgOf l gl hd tb).hots.lookup f'.nm = some f'.fn from lookup_hot Tp.hnd hf']
          rfl
        rw [eh]
        exact hotF_ok F' hck' hn Tp.bi Tp.tk
    refine ⟨_, (sndSs _ f.fn.body).s ok hb, O, G, ι, startE f.fn.ns ts, h0, start_rel R r hns (by omega), ?_⟩
    cases e : exs ((prgOf l gl hd tb).cl k) f.fn.body (startE f.fn.ns ts) h0 with
    | nx env1 h1 =>
      rw [e] at q
      exact fun G' ι' σ' H' l p S' => q G' ι' .non H' l p S'.h .non
    | rt x h1 => rw [e] at q; exact q
    | exc x env1 h1 =>
      rw [e] at q
      exact fun G' ι' cls d σ' H' l p S' rx => q G' ι' cls d H' l p S'.h rx
    | bk _ _ => rw [e] at q; exact q.elim
    | ct _ _ => rw [e] at q; exact q.elim
    | stuck => rw [e] at q; exact q.elim
end Fx

set_option maxHeartbeats 4000000
namespace Fx
open PySem L2
open PyProof.Rows hiding St

/-! ### a law's end -/
def mkD (q : FD × Stmt) : He.DefD := ⟨(q.1.nm, none), q.1.nm, q.1.nm, defArgs q.2, defBody q.2, defScope q.2, [], []⟩
def faOf (l : List (FD × Stmt)) (gi : List (Str × Int)) (gs : List (Str × Str)) : List He.Fa := (l.map fun q => He.Fa.glo q.1.nm) ++ (biNames.map He.Fa.free ++ ((gi.map fun q => He.Fa.int q.1 q.2) ++ gs.map fun q => He.Fa.str q.1 q.2))
def globs (gi : List (Str × Int)) (gs : List (Str × Str)) : List (Str × T) := (gi.map fun q => (q.1, T.int q.2)) ++ gs.map fun q => (q.1, T.str q.2)
theorem mem_of_lookup' {α : Type} : ∀ {l : List (Str × α)} {x : Str} {a : α}, l.lookup x = some a → (x, a) ∈ l
  | [], _, _, h => by cases h
  | (y, b) :: l, x, a, h => by
    simp only [List.lookup_cons] at h
    cases e : x == y with
    | true =>
      rw [e] at h
      cases h
      rw [beq_iff_eq] at e
      subst e
      exact List.mem_cons_self
    | false =>
      rw [e] at h
      exact List.mem_cons_of_mem _ (mem_of_lookup' h)
/-- an exception's __init__ that keeps one thing -/
structure ID where
  c : Str
  f : Str
  B : Str
  y : Str
  m : Str
structure XD where
  hd : List (HD × Stmt)
  tb : ClT
  ids : List (ID × Stmt)
def mkH (q : HD × Stmt) : He.DefD := ⟨(q.1.nm, none), q.1.nm, q.1.nm, defArgs q.2, defBody q.2, defScope q.2, [], []⟩
def mkI (q : ID × Stmt) : He.DefD := ⟨(q.1.c, some "__init__"), "__init__", q.1.c ++ ".__init__", defArgs q.2, defBody q.2, defScope q.2, [], []⟩
def defsOf (l : List (FD × Stmt)) (x : XD) : List He.DefD := l.map mkD ++ (x.hd.map mkH ++ x.ids.map mkI)
def faX (l : List (FD × Stmt)) (gi : List (Str × Int)) (gs : List (Str × Str)) (x : XD) : List He.Fa := faOf l gi gs ++ (x.hd.map fun q => He.Fa.glo q.1.nm)
/-! ### what is asked of the written part -/
def cvOf (K : PySem.W.Frag) (d : Str) : Value := if d = "ValueError" then .type "ValueError" else .ref (He.ga K d)
def nmB (K : PySem.W.Frag) (d : Str) : Bool := if d = "ValueError" then (He.Fa.free d).ok K else (He.Fa.glo d).ok K
def excB (K : PySem.W.Frag) (C : Addr) : Bool := decide (PySem.W.findIn K (.ref C) "__class__" = some (some (.builtin "object.__class__"))) && decide (PySem.W.specialIn K (.builtin "object.__class__") "__get__" = some (some (.builtin "getset_descriptor.__get__"))) &&
  decide (PySem.W.takesIn K (.builtin "object.__class__") = some true) && decide (PySem.W.mroIn K C (.type "object") = some true) && xfB K C
def clsB (K : PySem.W.Frag) (t : ClT) (c : Str) (l : List Str) : Bool := (He.Fa.glo c).ok K && excB K (He.ga K c) && (t.fld.all fun f => decide (PySem.W.findIn K (.ref (He.ga K c)) f = some none)) &&
  t.asked.all fun d => decide (PySem.W.kitOne K (.ref (He.ga K c)) (cvOf K d) = some (l.contains d)) && decide (PySem.W.exmOne K (.ref (He.ga K c)) (cvOf K d) = some (l.contains d))
def oexB (K : PySem.W.Frag) (C : Addr) : Bool := (match K.lookup C with
  | some ⟨.type t, _, .cls cd, sl⟩ => decide (t = "type") && (match cd.mro, sl.toList with
    | .ref C' :: bm, [_, _, _, _, some (.builtin n), _] => decide (C' = C) && decide (n = "ValueError.__new__") && !cd.hasDel && cd.hasDict && PySem.HandSPX.refsVE bm
    | _, _ => false)
  | _ => false) && decide (PySem.W.findIn K (.ref C) "__setattr__" = some (some (.builtin "object.__setattr__"))) && decide (PySem.W.subIn K (.ref C) (.type "BaseException") = some true) && decide (PySem.W.typeIn K (.ref C) = some (.type "type")) && PySem.W.keepIn K (.ref C)
def initB (K : PySem.W.Frag) (q : ID) : Bool := (He.Fa.glo q.c).ok K && (He.Fa.glo q.B).ok K && oexB K (He.ga K q.c) && decide (PySem.W.findIn K (.ref (He.ga K q.c)) "__init__" = some (some (.ref (He.ma K (He.ga K q.c) "__init__")))) &&
  decide (PySem.W.typeIn K (.ref (He.ma K (He.ga K q.c) "__init__")) = some (.type "function")) && PySem.W.readsIn K (He.ga K q.B) (.type "type") && decide (PySem.W.specialIn K (.ref (He.ga K q.B)) "__getattribute__" = some (some (.builtin "type.__getattribute__"))) &&
  (match PySem.W.findCls K (.ref (He.ga K q.B)) (.type "type") "__init__" with
    | some (.val v) => decide (v = .builtin "ValueError.__init__")
    | _ => false) && decide (PySem.W.findIn K (.ref (He.ga K q.c)) q.f = some none)
def exB (x : XD) (K : PySem.W.Frag) : Bool := x.tb.asked.all (nmB K) && (x.tb.cls.all fun q => clsB K x.tb q.1 q.2 && (match x.tb.init.lookup q.1 with
  | none => (He.Fa.exc q.1).ok K
  | some _ => true)) && x.ids.all fun q => initB K q.1
/-! ### the head's hook: what the names reach, the interpreter's statics -/
def frY (n : Nat) (g : Addr → Option Obj) : PySem.W.Frag := He.frT g (PySem.cStatics :: He.asD g n)
def obsY (n : Nat) (fa : List He.Fa) (fn : List He.DefD) (ex : PySem.W.Frag → Bool) (g : Addr → Option Obj) : He.AlD × Bool := (He.obsD fa fn (frY n g), ex (frY n g))
def hookY (n : Nat) (fa : List He.Fa) (fn : List He.DefD) (ex : PySem.W.Frag → Bool) : PySem.W.Hook where
  α := He.AlD × Bool
  obs := fun s => obsY n fa fn ex s.heap.get?
  val := fun _ => (He.valD fn, true)
  says := fun _ h => ∃ K : PySem.W.Frag, K.In h ∧ He.SaysD fa fn K ∧ ex K = true
  of := fun _ _ e => ⟨_, He.frT_in, congrArg (fun z : He.AlD × Bool => z.1) e, congrArg (fun z : He.AlD × Bool => z.2) e⟩
  keeps := fun _ _ _ ⟨K, hK, c⟩ k => ⟨K, PySem.W.Frag.In.keeps hK k, c⟩
theorem obsY_eq {n : Nat} {fa : List He.Fa} {fn : List He.DefD} {ex : PySem.W.Frag → Bool} {g : Addr → Option Obj} {s : Shared} (h : ∀ a, g a = s.heap.get? a) : obsY n fa fn ex g = (hookY n fa fn ex).obs s := by
  rw [show g = s.heap.get? from funext h] <;> rfl
/-! ### what is asked of the text -/
def ckID (q : ID × Stmt) : Bool := (match defArgs q.2 with
    | { posonlyargs := [], args := as, vararg := none, kwonlyargs := [], kw_defaults := [], kwarg := none, defaults := [] } => decide (as.map (·.arg) = [("self" : Str), q.1.y])
    | _ => false) && isFn (defScope q.2).kind && !(defScope q.2).isCoroutine && !(defScope q.2).isGenerator && decide (("self" : Str) ≠ q.1.y) && decide ((defScope q.2).names.lookup ("self" : Str) = some .local) && decide ((defScope q.2).names.lookup q.1.y = some .local) && decide ((defScope q.2).names.lookup q.1.B = some .globalImplicit) &&
    ((defScope q.2).names.all fun y => match y.2 with | .free => false | _ => true) && dbg q.1.B && dbg q.1.y && initBody q.1.B "self" q.1.y q.1.f q.1.m (defBody q.2)
def okAll (l : List (FD × Stmt)) (x : XD) : Bool := decide (l.map fun q => q.1.nm).Nodup && (l.all fun q => ckFn (l.map fun q => q.1.nm) (x.hd.map fun q => q.1.nm) x.tb q.1 q.2) && decide (x.hd.map fun q => q.1.nm).Nodup && (x.hd.all fun q => ckHFn x.tb q.1 q.2) && decide (x.tb.init = x.ids.map fun q => (q.1.c, q.1.f)) && x.ids.all ckID
theorem says_fact {fa : List He.Fa} {fn : List He.DefD} {K : PySem.W.Frag} (c : He.SaysD fa fn K) {f : He.Fa} (h : f ∈ fa) : f.ok K = true := by
  obtain ⟨i, hi⟩ := List.getElem?_of_mem h
  exact c.fact i hi
theorem says_def {fa : List He.Fa} {fn : List He.DefD} {K : PySem.W.Frag} (c : He.SaysD fa fn K) {d : He.DefD} (h : d ∈ fn) : ∃ fd, FunD K d.name d.qual d.params d.body d.scope (d.dvs K) (d.kws K) (He.fAd K d.at_) fd := by
  obtain ⟨i, hi⟩ := List.getElem?_of_mem h
  exact c.def_ i hi
theorem nm_ok {K : PySem.W.Frag} {h : Heap} {mg : Str → Option Value} (X : K.In h) (G : h.Ns mainGlobals mg) {d : Str} (c : nmB K d = true) : ∃ v, NmOk mg d v (cvOf K d) := by
  unfold nmB at c
  unfold cvOf
  split at c
  · rename_i e
    rw [if_pos e]
    exact ⟨_, .inr ⟨e, He.free_ok X G c, rfl, rfl⟩⟩
  · rename_i e
    rw [if_neg e]
    exact ⟨_, .inl ⟨He.glo_ok X G c, _, rfl, rfl⟩⟩
theorem exc_ok {K : PySem.W.Frag} {C : Addr} (c : excB K C = true) : ExcC K C ∧ XfC K C := by
  unfold excB at c
  simp only [Bool.and_eq_true, decide_eq_true_eq] at c
  obtain ⟨⟨⟨⟨h1, h2⟩, h3⟩, h4⟩, h5⟩ := c
  have x := xfB_ok h5
  exact ⟨⟨x.ga, x.gg, x.exC, x.hdC, h1, h2, h3, h4⟩, x⟩
theorem oex_ok {K : PySem.W.Frag} {C : Addr} (c : oexB K C = true) : OexC K C := by
  unfold oexB at c
  simp only [Bool.and_eq_true, decide_eq_true_eq] at c
  obtain ⟨⟨⟨⟨h1, h2⟩, h3⟩, h4⟩, h5⟩ := c
  refine ⟨?_, h2, h3, h4, h5⟩
  split at h1
  · rename_i t dd cd sl ho
    rw [Bool.and_eq_true, decide_eq_true_eq] at h1
    obtain ⟨rfl, h1⟩ := h1
    split at h1
    · rename_i C' bm k0 k1 k2 k3 n k5 hm hs
      simp only [Bool.and_eq_true, decide_eq_true_eq, Bool.not_eq_true'] at h1
      obtain ⟨⟨⟨⟨rfl, rfl⟩, hdel⟩, hdi⟩, hr⟩ := h1
      obtain ⟨nm, bs, mro, ns, qn, hd, sn, sub, ab, col, del⟩ := cd
      dsimp only at hm hdel hdi
      subst hm hdel hdi
      have hsl : sl = #[k0, k1, k2, k3, some (.builtin "ValueError.__new__"), k5] := by
        obtain ⟨l⟩ := sl
        simp only at hs
        rw [hs]
      subst hsl
      exact ⟨nm, qn, ns, bs, bm, sn, sub, ab, col, dd, k0, k1, k2, k3, k5, ho, hr⟩
    · cases h1
  · cases h1
theorem top_of {l : List (FD × Stmt)} {gi : List (Str × Int)} {gs : List (Str × Str)} {x : XD} {K : PySem.W.Frag} {h : Heap} {mg : Str → Option Value} (X : K.In h) (G : h.Ns mainGlobals mg) (cd : He.SaysD (faX l gi gs x) (defsOf l x) K) (cx : exB x K = true) (ck : okAll l x = true) :
    Top K mg (l.map (·.1)) (globs gi gs) (x.hd.map (·.1)) x.tb := by
  unfold okAll at ck
  simp only [Bool.and_eq_true, decide_eq_true_eq] at ck
  obtain ⟨⟨⟨⟨⟨nd, ck⟩, hnd⟩, ckh⟩, ein⟩, cki⟩ := ck
  have en : (l.map (·.1)).map (·.nm) = l.map fun q => q.1.nm := by rw [List.map_map]; rfl
  have eh : (x.hd.map (·.1)).map (·.nm) = x.hd.map fun q => q.1.nm := by rw [List.map_map]; rfl
  unfold exB at cx
  simp only [Bool.and_eq_true] at cx
  obtain ⟨⟨c1, c2⟩, c3⟩ := cx
  have memA : ∀ {f : He.Fa}, f ∈ faOf l gi gs → f ∈ faX l gi gs x := fun h => List.mem_append_left _ h
  refine ⟨by rw [en]; exact nd, fun f hf => ?_, fun y hy => ?_, fun y t e => ?_, by rw [eh]; exact hnd, fun f hf => ?_, ⟨fun d hd => ?_, fun cn lc e => ?_⟩, fun cn hc hn => ?_, fun cn f hcf => ?_⟩
  · obtain ⟨q, hq, rfl⟩ := List.mem_map.mp hf
    have k1 := List.all_eq_true.mp ck q hq
    have hd : mkD q ∈ defsOf l x := List.mem_append_left _ (List.mem_map.mpr ⟨q, hq, rfl⟩)
    obtain ⟨fd, F⟩ := says_def cd hd
    have m1 : He.Fa.glo q.1.nm ∈ faOf l gi gs := List.mem_append_left _ (List.mem_map.mpr ⟨q, hq, rfl⟩)
    exact ⟨q.2, _, fd, by rw [en, eh]; exact k1, He.glo_ok X G (says_fact cd (memA m1)), F⟩
  · exact He.free_ok X G (says_fact cd (memA (List.mem_append_right _ (List.mem_append_left _ (List.mem_map.mpr ⟨y, hy, rfl⟩)))))
  · have hm := mem_of_lookup' e
    unfold globs at hm
    rcases List.mem_append.mp hm with hm | hm
    · obtain ⟨q, hq, e2⟩ := List.mem_map.mp hm
      cases e2
      obtain ⟨tk, e3⟩ := He.int_ok X G (says_fact cd (memA (List.mem_append_right _ (List.mem_append_right _ (List.mem_append_left _ (List.mem_map.mpr ⟨q, hq, rfl⟩))))))
      exact ⟨_, e3, tk, rfl⟩
    · obtain ⟨q, hq, e2⟩ := List.mem_map.mp hm
      cases e2
      obtain ⟨tk, e3⟩ := He.str_ok X G (says_fact cd (memA (List.mem_append_right _ (List.mem_append_right _ (List.mem_append_right _ (List.mem_map.mpr ⟨q, hq, rfl⟩))))))
      exact ⟨_, e3, tk, rfl⟩
  · obtain ⟨q, hq, rfl⟩ := List.mem_map.mp hf
    have k1 := List.all_eq_true.mp ckh q hq
    have hd : mkH q ∈ defsOf l x := List.mem_append_right _ (List.mem_append_left _ (List.mem_map.mpr ⟨q, hq, rfl⟩))
    obtain ⟨fd, F⟩ := says_def cd hd
    have m1 : He.Fa.glo q.1.nm ∈ faX l gi gs x := List.mem_append_right _ (List.mem_map.mpr ⟨q, hq, rfl⟩)
    exact ⟨q.2, _, fd, k1, He.glo_ok X G (says_fact cd m1), F⟩
  · obtain ⟨v, hv⟩ := nm_ok X G (List.all_eq_true.mp c1 d hd)
    exact ⟨v, _, hv⟩
  · have k1 := List.all_eq_true.mp c2 _ (mem_of_lookup' e)
    rw [Bool.and_eq_true] at k1
    have k2 := k1.1
    unfold clsB at k2
    simp only [Bool.and_eq_true] at k2
    obtain ⟨⟨⟨e1, e2⟩, e3⟩, e4⟩ := k2
    obtain ⟨x1, x2⟩ := exc_ok e2
    refine ⟨_, He.glo_ok X G e1, x1, x2, fun f hf => of_decide_eq_true (List.all_eq_true.mp e3 f hf), fun d hd => ?_⟩
    have z := List.all_eq_true.mp e4 d hd
    simp only [Bool.and_eq_true, decide_eq_true_eq] at z
    obtain ⟨v, hv⟩ := nm_ok X G (List.all_eq_true.mp c1 d hd)
    exact ⟨v, _, hv, z.1, z.2⟩
  · obtain ⟨lc, e⟩ := Option.isSome_iff_exists.mp hc
    have k1 := List.all_eq_true.mp c2 _ (mem_of_lookup' e)
    simp only [Bool.and_eq_true, hn] at k1
    have k3 : clsB K x.tb cn lc = true := k1.1
    unfold clsB at k3
    simp only [Bool.and_eq_true] at k3
    obtain ⟨h1, h2, h3, h4⟩ := He.exc_ok k1.2
    exact ⟨_, He.glo_ok X G k3.1.1.1, h1, h2, h3, h4⟩
  · rw [ein] at hcf
    obtain ⟨q, hq, e⟩ := List.mem_map.mp (mem_of_lookup' hcf)
    cases e
    have k1 := List.all_eq_true.mp c3 q hq
    have k2 := List.all_eq_true.mp cki q hq
    unfold initB at k1
    simp only [Bool.and_eq_true, decide_eq_true_eq] at k1
    obtain ⟨⟨⟨⟨⟨⟨⟨⟨g1, g2⟩, g3⟩, g4⟩, g5⟩, g6⟩, g7⟩, g8⟩, g9⟩ := k1
    have g8' : PySem.W.findCls K (.ref (He.ga K q.1.B)) (.type "type") "__init__" = some (.val (.builtin "ValueError.__init__")) := by
      split at g8
      · rename_i v e
        rw [e, of_decide_eq_true g8]
      · cases g8
    have hd : mkI q ∈ defsOf l x := List.mem_append_right _ (List.mem_append_right _ (List.mem_map.mpr ⟨q, hq, rfl⟩))
    obtain ⟨fd, F⟩ := says_def cd hd
    unfold ckID at k2
    simp only [Bool.and_eq_true, decide_eq_true_eq, Bool.not_eq_true'] at k2
    obtain ⟨⟨⟨⟨⟨⟨⟨⟨⟨⟨⟨a1, a2⟩, a3⟩, a4⟩, a5⟩, a6⟩, a7⟩, a8⟩, a9⟩, a10⟩, a11⟩, a12⟩ := k2
    split at a1
    · rename_i as ea
      have eas : as.map (·.arg) = [("self" : Str), q.1.y] := of_decide_eq_true a1
      have S : FnScope [("self" : Str), q.1.y] [("self" : Str), q.1.y] (defScope q.2) := by
        refine ⟨?_, a3, a4, ?_, rfl, fun z hz => ?_, fun z hz e => ?_⟩
        · unfold isFn at a2
          split at a2
          · assumption
          · cases a2
        · simpa using a5
        · rcases List.mem_cons.mp hz with rfl | hz
          · exact .inl a6
          · rw [List.mem_singleton.mp hz]; exact .inl a7
        · have := List.all_eq_true.mp a9 z hz
          rw [e] at this
          cases this
      refine ⟨_, _, fd, [("self" : Str), q.1.y], He.glo_ok X G g1, oex_ok g3, g4, g5, fun P w base => ?_, ?_⟩
      · exact init_ok F S a12 a6 a7 a8 (dbg_ok a10).1 (dbg_ok a11) (He.glo_ok X G g2) g6 g7 g8' (oex_ok g3) g9
      · refine F.bindsN fun kV doc pm an cdv ct us hl => ?_
        have := bind_ok (fd := PySem.W.fnOf "__init__" (q.1.c ++ ".__init__") (defArgs q.2) (defBody q.2) (defScope q.2) .none kV doc pm an cdv ct) (as := as) ea rfl (by rw [eas]; exact S.nd) us (by rw [eas]; exact hl)
        rw [eas] at this
        exact this
    · cases a1
/-- the same over every world -/
def CXw : CXT := fun o H s E u s' => ∃ (P : Program) (w : World), L2N.CX P w o H s E u s'
theorem fn_cx {P : Program} {w : World} {K : PySem.W.Frag} {mg : Str → Option Value} {base : Heap} {k : Nat} {f : Addr} {fd : FuncData} {ps : List Str} {sp : Sp} (F : FnOk P w K mg base (L2N.CX P w) k f fd ps sp) : FnOk P w K mg base CXw k f fd ps sp :=
  ⟨F.len, fun A o s H args us vs Q E hr e0 hb hv hs => codeAny_mono (F.run A o s H args us vs Q E hr e0 hb hv hs) fun r s' hq => by
    cases r with
    | error e => exact ⟨P, w, hq⟩
    | ok fl => cases fl <;> exact hq⟩
/-- what the law's def is to yield -/
def LawOk (l : List (FD × Stmt)) (gi : List (Str × Int)) (gs : List (Str × Str)) (x : XD) (k : Nat) : Prop :=
  ∀ ns : List Int, ns.length ≤ 63 → ∃ h, callK (prgOf (l.map (·.1)) (globs gi gs) (x.hd.map (·.1)) x.tb) k "law" [.scr (ns.map T.int)] [] = .ok (.val (.bl true)) h
theorem ints_repl {K : PySem.W.Frag} {G : Hp} {ι : List Addr} : ∀ ns : List Int, RepL K G ι (ns.map T.int) (ns.map V.int)
  | [] => .nil
  | _ :: r => .cons .int (ints_repl r)
theorem law_facts {l : List (FD × Stmt)} {gi : List (Str × Int)} {gs : List (Str × Str)} {x : XD} {k : Nat} {P : Program} {w : World} {K : PySem.W.Frag} {h : Heap} {mg : Str → Option Value} {f : Addr} (spec : LawOk l gi gs x k) (ck : okAll l x = true) {q : FD × Stmt} (hq : q ∈ l) (hn : q.1.nm = "law") (hp : q.1.N.take q.1.fn.np = (["script"] : List Str))
    (X : K.In h) (G : h.Ns mainGlobals mg) (hfa : mg ("law" : Str) = some (.ref f)) (c : He.SaysD (faX l gi gs x) (defsOf l x) K) (cx : exB x K = true) :
    ∃ (K' : PySem.W.Frag) (fd : FuncData) (sp : Sp), K'.In h ∧ (∀ (s : Shared) (u : Value), BindsTo s fd ⟨[u], []⟩ [("script", u)]) ∧
      (∀ (H : Hp) (a : Addr) (ns : List Int), ns.length ≤ 63 → Only H → SqL K' H a (ns.map V.int) → sp [.ref a] H (fun v _ => v = .bl true) fun _ _ _ => False) ∧
      ∀ base : Heap, K'.In base → base.Ns mainGlobals mg → FnOk P w K' mg base CXw k f fd ["script"] sp := by
  have Tp := top_of X G c cx ck
  have hf : q.1 ∈ l.map (·.1) := List.mem_map.mpr ⟨q, hq, rfl⟩
  -- the def's own object, the same over every ground
  obtain ⟨fa, fd, m1, ⟨oc, od, osl, lk⟩, m2, m3, m4, _⟩ := all_ok (P := P) (w := w) (base := h) Tp k q.1 hf
  rw [hn] at m1
  have e := hfa.symm.trans m1
  cases e
  rw [hp] at m3 m4
  refine ⟨K, fd, spC K mg 1 (callK (prgOf (l.map (·.1)) (globs gi gs) (x.hd.map (·.1)) x.tb) k "law"), X, fun s u => m4 s [u] rfl, fun H a ns hl _ hS => ?_, fun base hb hg => ?_⟩
  · obtain ⟨h2, e2⟩ := spec ns hl
    refine ⟨rfl, fun _ => none, H, [], [], [.scr (ns.map T.int)], ⟨Le.refl _, (fun _ _ z => by cases z), (fun _ _ z => by cases z), rfl, (fun _ _ _ z => by simp at z), List.nodup_nil, (fun _ z => by cases z)⟩, .one (.scr hS (ints_repl ns)), ?_⟩
    rw [e2]
    intro G' ι' v H' _ _ _ r
    cases r
    rfl
  · obtain ⟨fa', fd', n1, ⟨oc', od', osl', lk'⟩, n2, n3, n4, n5⟩ := all_ok (P := P) (w := w) (base := base) Tp k q.1 hf
    rw [hn] at n1
    have e := hfa.symm.trans n1
    cases e
    rw [lk] at lk'
    cases lk'
    rw [hp, hn] at n5
    exact fn_cx n5
theorem cx_no : ∀ (H : Hp) (s : Shared) (e : Value) (s' : Shared), CXw [] H s (fun _ _ _ => False) e s' → False := fun _ _ _ _ z => by
  obtain ⟨_, _, _, _, _, _, _, _, _, _, _, _, _, _, z⟩ := z
  exact z
end Fx

namespace Fx
open PySem L2
def f_is_whole : Fn := { np := 1, ns := 1, body := (.cons (.ret (.and (.cons (.isi (.var 0) [.int]) (.cons (.not (.isi (.var 0) [.bool])) .nil)))) .nil) }
def d_is_whole : FD := ⟨"is_whole", f_is_whole, ["thing"]⟩
def f_is_within : Fn := { np := 3, ns := 3, body := (.cons (.ret (.and (.cons (.call "is_whole" (.cons (.var 0) .nil)) (.cons (.chn (.var 1) (.more .LtE (.var 0) (.one .LtE (.var 2)))) .nil)))) .nil) }
def d_is_within : FD := ⟨"is_within", f_is_within, ["thing", "least", "most"]⟩
def f_is_name : Fn := { np := 1, ns := 2, body := (.cons (.ret (.and (.cons (.isi (.var 0) [.str]) (.cons (.chn (.con (.int 1)) (.more .LtE (.bi .len (.cons (.var 0) .nil)) (.one .LtE (.con (.int 8))))) (.cons (.bi .all (.cons (.lc [1] (.nm 1) (.val (.var 0)) .no (.cmp .In (.var 1) (.glo "LETTERS"))) .nil)) .nil))))) .nil) }
def d_is_name : FD := ⟨"is_name", f_is_name, ["thing", "sign"]⟩
def f_is_span : Fn := { np := 1, ns := 1, body := (.cons (.ite (.or (.cons (.not (.isi (.var 0) [.tuple])) (.cons (.cmp .NotEq (.bi .len (.cons (.var 0) .nil)) (.con (.int 3))) (.cons (.not (.call "is_name" (.cons (.idx (.var 0) (.con (.int 0))) .nil))) .nil)))) (.cons (.ret (.con (.bl false))) .nil) .nil) (.cons (.ret (.and (.cons (.call "is_within" (.cons (.idx (.var 0) (.con (.int 1))) (.cons (.con (.int 0)) (.cons (.glo "POOL") .nil)))) (.cons (.call "is_within" (.cons (.idx (.var 0) (.con (.int 2))) (.cons (.con (.int 0)) (.cons (.glo "POOL") .nil)))) (.cons (.cmp .Lt (.idx (.var 0) (.con (.int 1))) (.idx (.var 0) (.con (.int 2)))) .nil))))) .nil)) }
def d_is_span : FD := ⟨"is_span", f_is_span, ["thing"]⟩
def f__law_bag : Fn := { np := 2, ns := 3, body := (.cons (.asg 2 (.con (.int 0))) (.cons (.ite (.cmp .Lt (.var 1) (.bi .len (.cons (.var 0) .nil))) (.cons (.asg 2 (.bi .abs (.cons (.idx (.var 0) (.var 1)) .nil))) .nil) .nil) (.cons (.ite (.cmp .Lt (.var 2) (.bin .Pow (.con (.int 10)) (.con (.int 18)))) (.cons (.ret (.lst (.cons (.con (.int 0)) (.cons (.bin .Add (.con (.int 1)) (.bin .Mod (.bin .Add (.bin .Mult (.var 2) (.con (.int 7919))) (.bin .Mult (.con (.int 104729)) (.var 1))) (.con (.int 2147483646)))) .nil)))) .nil) .nil) (.cons (.ret (.lst (.cons (.var 2) (.cons (.bin .Add (.con (.int 1)) (.bin .Mod (.bin .Add (.var 2) (.var 1)) (.con (.int 2147483646)))) .nil)))) .nil)))) }
def d__law_bag : FD := ⟨"_law_bag", f__law_bag, ["script", "k", "cell"]⟩
def f__law_take : Fn := { np := 2, ns := 3, body := (.cons (.ite (.cmp .Gt (.idx (.var 0) (.con (.int 0))) (.con (.int 0))) (.cons (.asg 2 (.bin .Mod (.idx (.var 0) (.con (.int 0))) (.var 1))) (.cons (.seti 0 (.con (.int 0)) (.bin .FloorDiv (.idx (.var 0) (.con (.int 0))) (.var 1))) (.cons (.ret (.var 2)) .nil))) .nil) (.cons (.seti 0 (.con (.int 1)) (.bin .Mod (.bin .Mult (.idx (.var 0) (.con (.int 1))) (.con (.int 48271))) (.con (.int 2147483647)))) (.cons (.ret (.bin .Mod (.bin .FloorDiv (.bin .Mod (.bin .Mult (.idx (.var 0) (.con (.int 1))) (.idx (.var 0) (.con (.int 1)))) (.con (.int 2147483629))) (.con (.int 64))) (.var 1))) .nil))) }
def d__law_take : FD := ⟨"_law_take", f__law_take, ["bag", "many", "found"]⟩
def f__law_of : Fn := { np := 2, ns := 2, body := (.cons (.ret (.idx (.var 1) (.call "_law_take" (.cons (.var 0) (.cons (.bi .len (.cons (.var 1) .nil)) .nil))))) .nil) }
def d__law_of : FD := ⟨"_law_of", f__law_of, ["bag", "some"]⟩
def f__law_whole : Fn := { np := 1, ns := 1, body := (.cons (.ret (.and (.cons (.isi (.var 0) [.int]) (.cons (.not (.isi (.var 0) [.bool])) .nil)))) .nil) }
def d__law_whole : FD := ⟨"_law_whole", f__law_whole, ["thing"]⟩
def f__law_is_name : Fn := { np := 1, ns := 2, body := (.cons (.ite (.or (.cons (.not (.isi (.var 0) [.str])) (.cons (.not (.chn (.con (.int 1)) (.more .LtE (.bi .len (.cons (.var 0) .nil)) (.one .LtE (.con (.int 8)))))) .nil))) (.cons (.ret (.con (.bl false))) .nil) .nil) (.cons (.ret (.cmp .Eq (.lc [1] (.nm 1) (.val (.var 0)) (.so (.cmp .NotIn (.var 1) (.con (.str "abcdefghijklmnopqrstuvwxyz")))) (.var 1)) (.lst .nil))) .nil)) }
def d__law_is_name : FD := ⟨"_law_is_name", f__law_is_name, ["thing", "sign"]⟩
def f__law_name : Fn := { np := 1, ns := 3, body := (.cons (.asg 1 (.bin .Add (.con (.int 1)) (.idx (.lst (.cons (.call "_law_take" (.cons (.var 0) (.cons (.con (.int 3)) .nil))) (.cons (.call "_law_take" (.cons (.var 0) (.cons (.con (.int 8)) .nil))) .nil))) (.bi .int (.cons (.cmp .Eq (.call "_law_take" (.cons (.var 0) (.cons (.con (.int 4)) .nil))) (.con (.int 0))) .nil))))) (.cons (.ret (.mth .join (.con (.str "")) (.cons (.lc [2] (.nm 2) (.rng1 (.var 1)) .no (.idx (.con (.str "abcdefghijklmnopqrstuvwxyz")) (.call "_law_take" (.cons (.var 0) (.cons (.con (.int 26)) .nil))))) .nil))) .nil)) }
def d__law_name : FD := ⟨"_law_name", f__law_name, ["bag", "many", "k"]⟩
def f__law_odd : Fn := { np := 1, ns := 2, body := (.cons (.asg 1 (.lst (.cons (.con .non) (.cons (.con (.bl true)) (.cons (.con (.bl false)) (.cons (.con (.int 0)) (.cons (.con (.int 1)) (.cons (.neg (.con (.int 1))) (.cons (.con (.int 5)) (.cons (.bin .Pow (.con (.int 10)) (.con (.int 6))) (.cons (.bin .Pow (.con (.int 10)) (.con (.int 30))) (.cons (.con (.str "")) (.cons (.con (.str "a")) (.cons (.con (.str "ann")) (.cons (.con (.str "pour")) (.cons (.con (.str "page")) (.cons (.con (.str "link")) (.cons (.con (.str "off")) (.cons (.con (.str "Ann")) .nil))))))))))))))))))) (.cons (.asg 1 (.bin .Add (.var 1) (.lst (.cons (.tup .nil) (.cons (.lst .nil) (.cons (.tup (.cons (.con (.int 1)) (.cons (.con (.int 2)) .nil))) (.cons (.tup (.cons (.con (.str "ann")) (.cons (.con (.int 0)) (.cons (.con (.int 5)) .nil)))) (.cons (.lst (.cons (.con (.str "ann")) (.cons (.con (.int 0)) (.cons (.con (.int 5)) .nil)))) (.cons (.tup (.cons (.tup (.cons (.con (.str "ann")) (.cons (.con (.int 0)) (.cons (.con (.int 5)) .nil)))) .nil)) (.cons (.lst (.cons (.tup (.cons (.con (.str "ann")) (.cons (.con (.int 0)) (.cons (.con (.int 5)) .nil)))) .nil)) (.cons (.tup (.cons (.con (.str "ann")) (.cons (.con (.int 1)) .nil))) .nil))))))))))) (.cons (.asg 1 (.bin .Add (.var 1) (.lst (.cons (.tup (.cons (.con (.str "ann")) (.cons (.con (.bl true)) (.cons (.con (.int 5)) .nil)))) (.cons (.tup (.cons (.con (.str "ann")) (.cons (.con (.int 5)) (.cons (.con (.int 5)) .nil)))) (.cons (.tup (.cons (.con (.str "off")) (.cons (.con (.str "ann")) (.cons (.con (.int 1)) .nil)))) (.cons (.tup (.cons (.tup (.cons (.con (.str "ann")) (.cons (.con (.int 0)) (.cons (.con (.int 5)) .nil)))) (.cons (.tup (.cons (.con (.str "ann")) (.cons (.con (.int 5)) (.cons (.con (.int 6)) .nil)))) .nil))) (.cons (.tup (.cons (.con .non) .nil)) .nil)))))))) (.cons (.ret (.idx (.var 1) (.call "_law_take" (.cons (.var 0) (.cons (.bi .len (.cons (.var 1) .nil)) .nil))))) .nil)))) }
def d__law_odd : FD := ⟨"_law_odd", f__law_odd, ["bag", "some"]⟩
def f__law_spoilt : Fn := { np := 2, ns := 6, body := (.cons (.asg 2 (.call "_law_take" (.cons (.var 0) (.cons (.con (.int 9)) .nil)))) (.cons (.ite (.and (.cons (.isi (.var 1) [.tuple, .list]) (.cons (.cmp .Gt (.bi .len (.cons (.var 1) .nil)) (.con (.int 0))) (.cons (.cmp .Gt (.var 2) (.con (.int 0))) .nil)))) (.cons (.asgO 3 (.bi .list (.cons (.var 1) .nil))) (.cons (.asg 4 (.call "_law_take" (.cons (.var 0) (.cons (.bi .len (.cons (.var 3) .nil)) .nil)))) (.cons (.ite (.cmp .Eq (.var 2) (.con (.int 1))) (.cons (.asgO 3 (.bin .Add (.slc (.var 3) .no (.so (.var 4))) (.slc (.var 3) (.so (.bin .Add (.var 4) (.con (.int 1)))) .no))) .nil) (.cons (.ite (.cmp .Eq (.var 2) (.con (.int 2))) (.cons (.asgO 3 (.bin .Add (.slc (.var 3) .no (.so (.bin .Add (.var 4) (.con (.int 1))))) (.slc (.var 3) (.so (.var 4)) .no))) .nil) (.cons (.ite (.cmp .Eq (.var 2) (.con (.int 3))) (.cons (.asg 5 (.call "_law_take" (.cons (.var 0) (.cons (.bi .len (.cons (.var 3) .nil)) .nil)))) (.cons (.swap 3 (.var 4) (.var 5) (.idx (.var 3) (.var 5)) (.idx (.var 3) (.var 4))) .nil)) (.cons (.ite (.cmp .Eq (.var 2) (.con (.int 4))) (.cons (.ret (.ite (.isi (.var 1) [.tuple]) (.var 3) (.bi .tuple (.cons (.var 3) .nil)))) .nil) (.cons (.seti 3 (.var 4) (.call "_law_spoilt" (.cons (.var 0) (.cons (.idx (.var 3) (.var 4)) .nil)))) .nil)) .nil)) .nil)) .nil)) (.cons (.ret (.ite (.isi (.var 1) [.tuple]) (.bi .tuple (.cons (.var 3) .nil)) (.var 3))) .nil)))) .nil) (.cons (.ite (.and (.cons (.isi (.var 1) [.str]) (.cons (.cmp .Gt (.var 2) (.con (.int 1))) .nil))) (.cons (.ret (.idx (.lst (.cons (.bin .Add (.var 1) (.con (.str "a"))) (.cons (.slc (.var 1) .no (.so (.neg (.con (.int 1))))) (.cons (.bin .Add (.var 1) (.con (.str " "))) (.cons (.mth .upper (.var 1) .nil) (.cons (.bin .Add (.var 1) (.var 1)) (.cons (.bin .Add (.con (.str "z")) (.var 1)) (.cons (.con (.str "")) .nil)))))))) (.bin .Sub (.var 2) (.con (.int 2))))) .nil) .nil) (.cons (.ite (.and (.cons (.isi (.var 1) [.int]) (.cons (.cmp .Gt (.var 2) (.con (.int 1))) .nil))) (.cons (.ret (.idx (.lst (.cons (.bin .Add (.var 1) (.con (.int 1))) (.cons (.bin .Sub (.var 1) (.con (.int 1))) (.cons (.neg (.var 1)) (.cons (.bin .Add (.var 1) (.con (.int 1000))) (.cons (.bi .str (.cons (.var 1) .nil)) (.cons (.bin .Add (.var 1) (.con (.int 50))) (.cons (.tup (.cons (.var 1) .nil)) .nil)))))))) (.bin .Sub (.var 2) (.con (.int 2))))) .nil) .nil) (.cons (.ret (.call "_law_odd" (.cons (.var 0) .nil))) .nil))))) }
def d__law_spoilt : FD := ⟨"_law_spoilt", f__law_spoilt, ["bag", "thing", "way", "rows", "at", "other"]⟩
def f__law_is_span : Fn := { np := 1, ns := 1, body := (.cons (.ite (.or (.cons (.not (.isi (.var 0) [.tuple])) (.cons (.cmp .NotEq (.bi .len (.cons (.var 0) .nil)) (.con (.int 3))) (.cons (.not (.call "_law_is_name" (.cons (.idx (.var 0) (.con (.int 0))) .nil))) .nil)))) (.cons (.ret (.con (.bl false))) .nil) .nil) (.cons (.ite (.or (.cons (.not (.call "_law_whole" (.cons (.idx (.var 0) (.con (.int 1))) .nil))) (.cons (.not (.call "_law_whole" (.cons (.idx (.var 0) (.con (.int 2))) .nil))) .nil))) (.cons (.ret (.con (.bl false))) .nil) .nil) (.cons (.ret (.chn (.con (.int 0)) (.more .LtE (.idx (.var 0) (.con (.int 1))) (.more .Lt (.idx (.var 0) (.con (.int 2))) (.one .LtE (.bin .Pow (.con (.int 10)) (.con (.int 6)))))))) .nil))) }
def d__law_is_span : FD := ⟨"_law_is_span", f__law_is_span, ["thing"]⟩
def f__law_span : Fn := { np := 1, ns := 4, body := (.cons (.asg 1 (.call "_law_of" (.cons (.var 0) (.cons (.lst (.cons (.con (.str "ann")) (.cons (.con (.str "ann")) (.cons (.con (.str "bo")) (.cons (.con (.str "cy")) (.cons (.call "_law_name" (.cons (.var 0) .nil)) .nil)))))) .nil)))) (.cons (.asg 2 (.idx (.lst (.cons (.con (.int 1)) (.cons (.bin .Add (.con (.int 1)) (.call "_law_take" (.cons (.var 0) (.cons (.con (.int 4)) .nil)))) (.cons (.bin .Add (.con (.int 1)) (.call "_law_take" (.cons (.var 0) (.cons (.con (.int 12)) .nil)))) .nil)))) (.call "_law_take" (.cons (.var 0) (.cons (.con (.int 3)) .nil))))) (.cons (.asg 3 (.idx (.lst (.cons (.call "_law_take" (.cons (.var 0) (.cons (.con (.int 9)) .nil))) (.cons (.call "_law_take" (.cons (.var 0) (.cons (.con (.int 40)) .nil))) (.cons (.bin .Sub (.bin .Pow (.con (.int 10)) (.con (.int 6))) (.var 2)) .nil)))) (.bi .min (.cons (.con (.int 2)) (.cons (.bin .FloorDiv (.call "_law_take" (.cons (.var 0) (.cons (.con (.int 20)) .nil))) (.con (.int 9))) .nil))))) (.cons (.ret (.tup (.cons (.var 1) (.cons (.var 3) (.cons (.bin .Add (.var 3) (.var 2)) .nil))))) .nil)))) }
def d__law_span : FD := ⟨"_law_span", f__law_span, ["bag", "author", "many", "first"]⟩
def f_go_on : Fn := { np := 2, ns := 2, body := (.cons (.ret (.and (.cons (.cmp .Eq (.idx (.var 0) (.con (.int 0))) (.idx (.var 1) (.con (.int 0)))) (.cons (.cmp .Eq (.idx (.var 0) (.con (.int 2))) (.idx (.var 1) (.con (.int 1)))) .nil)))) .nil) }
def d_go_on : FD := ⟨"go_on", f_go_on, ["one", "other"]⟩
def f_long : Fn := { np := 1, ns := 4, body := (.cons (.ret (.bi .sum (.cons (.lc [1, 2, 3] (.tp [1, 2, 3]) (.val (.var 0)) .no (.bin .Sub (.var 3) (.var 2))) .nil))) .nil) }
def d_long : FD := ⟨"long", f_long, ["page", "author", "first", "last"]⟩
def f_is_page : Fn := { np := 1, ns := 4, body := (.cons (.ite (.or (.cons (.not (.isi (.var 0) [.tuple])) (.cons (.cmp .Gt (.bi .len (.cons (.var 0) .nil)) (.glo "MOST_SPANS")) (.cons (.not (.bi .all (.cons (.lc [1] (.nm 1) (.val (.var 0)) .no (.call "is_span" (.cons (.var 1) .nil))) .nil))) .nil)))) (.cons (.ret (.con (.bl false))) .nil) .nil) (.cons (.ret (.and (.cons (.cmp .LtE (.call "long" (.cons (.var 0) .nil)) (.glo "MOST_SIGNS")) (.cons (.not (.bi .any (.cons (.lc [2, 3] (.tp [2, 3]) (.zip (.var 0) (.slc (.var 0) (.so (.con (.int 1))) .no)) .no (.call "go_on" (.cons (.var 2) (.cons (.var 3) .nil)))) .nil))) .nil)))) .nil)) }
def d_is_page : FD := ⟨"is_page", f_is_page, ["thing", "span", "one", "other"]⟩
def f__law_is_page : Fn := { np := 1, ns := 3, body := (.cons (.ite (.or (.cons (.not (.isi (.var 0) [.tuple])) (.cons (.cmp .Gt (.bi .len (.cons (.var 0) .nil)) (.con (.int 60))) (.cons (.cmp .NotEq (.lc [2] (.nm 2) (.val (.var 0)) (.so (.not (.call "_law_is_span" (.cons (.var 2) .nil)))) (.var 2)) (.lst .nil)) .nil)))) (.cons (.ret (.con (.bl false))) .nil) .nil) (.cons (.forr (.nm 1) (.rng2 (.con (.int 1)) (.bi .len (.cons (.var 0) .nil))) (.cons (.ite (.and (.cons (.cmp .Eq (.idx (.idx (.var 0) (.bin .Sub (.var 1) (.con (.int 1)))) (.con (.int 0))) (.idx (.idx (.var 0) (.var 1)) (.con (.int 0)))) (.cons (.cmp .Eq (.idx (.idx (.var 0) (.bin .Sub (.var 1) (.con (.int 1)))) (.con (.int 2))) (.idx (.idx (.var 0) (.var 1)) (.con (.int 1)))) .nil))) (.cons (.ret (.con (.bl false))) .nil) .nil) .nil)) (.cons (.ret (.cmp .LtE (.call "_law_long" (.cons (.var 0) .nil)) (.con (.int 2000)))) .nil))) }
def d__law_is_page : FD := ⟨"_law_is_page", f__law_is_page, ["thing", "at", "one"]⟩
def f__law_long : Fn := { np := 1, ns := 2, body := (.cons (.ret (.bi .sum (.cons (.lc [1] (.nm 1) (.val (.var 0)) .no (.bin .Sub (.idx (.var 1) (.con (.int 2))) (.idx (.var 1) (.con (.int 1))))) .nil))) .nil) }
def d__law_long : FD := ⟨"_law_long", f__law_long, ["page", "span"]⟩
def f__law_signs : Fn := { np := 1, ns := 6, body := (.cons (.asgO 1 (.lst .nil)) (.cons (.forr (.tp [2, 3, 4]) (.val (.var 0)) (.cons (.forr (.nm 5) (.rng2 (.var 3) (.var 4)) (.cons (.app 1 (.tup (.cons (.var 2) (.cons (.var 5) .nil)))) .nil)) .nil)) (.cons (.ret (.var 1)) .nil))) }
def d__law_signs : FD := ⟨"_law_signs", f__law_signs, ["page", "found", "author", "first", "last", "place"]⟩
def f__law_page_of : Fn := { np := 1, ns := 4, body := (.cons (.asgO 1 (.lst .nil)) (.cons (.forr (.tp [2, 3]) (.val (.var 0)) (.cons (.ite (.and (.cons (.cmp .NotEq (.var 1) (.lst .nil)) (.cons (.cmp .Eq (.idx (.idx (.var 1) (.neg (.con (.int 1)))) (.con (.int 0))) (.var 2)) (.cons (.cmp .Eq (.idx (.idx (.var 1) (.neg (.con (.int 1)))) (.con (.int 2))) (.var 3)) .nil)))) (.cons (.seti 1 (.neg (.con (.int 1))) (.tup (.cons (.var 2) (.cons (.idx (.idx (.var 1) (.neg (.con (.int 1)))) (.con (.int 1))) (.cons (.bin .Add (.var 3) (.con (.int 1))) .nil))))) .nil) (.cons (.app 1 (.tup (.cons (.var 2) (.cons (.var 3) (.cons (.bin .Add (.var 3) (.con (.int 1))) .nil))))) .nil)) .nil)) (.cons (.ret (.bi .tuple (.cons (.var 1) .nil))) .nil))) }
def d__law_page_of : FD := ⟨"_law_page_of", f__law_page_of, ["signs", "found", "author", "place"]⟩
def f__law_page : Fn := { np := 2, ns := 4, body := (.cons (.asg 2 (.lst .nil)) (.cons (.forr (.nm 3) (.rng1 (.call "_law_take" (.cons (.var 0) (.cons (.bin .Add (.var 1) (.con (.int 1))) .nil)))) (.cons (.asg 2 (.bin .Add (.var 2) (.call "_law_signs" (.cons (.lst (.cons (.call "_law_span" (.cons (.var 0) .nil)) .nil)) .nil)))) .nil)) (.cons (.ret (.call "_law_page_of" (.cons (.var 2) .nil))) .nil))) }
def d__law_page : FD := ⟨"_law_page", f__law_page, ["bag", "most", "signs", "turn"]⟩
end Fx

namespace Fx
open PySem L2
def f_spots : Fn := { np := 2, ns := 9, body := (.cons (.asgO 2 (.lst .nil)) (.cons (.asg 3 (.con (.int 0))) (.cons (.forr (.tp [4, 5, 6]) (.val (.var 0)) (.cons (.asg 7 (.bi .max (.cons (.var 5) (.cons (.idx (.var 1) (.con (.int 1))) .nil)))) (.cons (.asg 8 (.bi .min (.cons (.var 6) (.cons (.idx (.var 1) (.con (.int 2))) .nil)))) (.cons (.ite (.and (.cons (.cmp .Eq (.var 4) (.idx (.var 1) (.con (.int 0)))) (.cons (.cmp .Lt (.var 7) (.var 8)) .nil))) (.cons (.app 2 (.tup (.cons (.bin .Sub (.bin .Add (.var 3) (.var 7)) (.var 5)) (.cons (.var 7) (.cons (.bin .Sub (.var 8) (.var 7)) .nil))))) .nil) .nil) (.cons (.aug 3 .Add (.bin .Sub (.var 6) (.var 5))) .nil))))) (.cons (.ret (.var 2)) .nil)))) }
def d_spots : FD := ⟨"spots", f_spots, ["page", "span", "found", "at", "author", "first", "last", "low", "high"]⟩
def f_shared : Fn := { np := 2, ns := 8, body := (.cons (.asgO 2 (.lst .nil)) (.cons (.asg 3 (.con (.int 0))) (.cons (.forr (.nm 4) (.val (.var 0)) (.cons (.forr (.tp [5, 6, 7]) (.val (.call "spots" (.cons (.var 1) (.cons (.var 4) .nil)))) (.cons (.app 2 (.tup (.cons (.bin .Sub (.bin .Add (.var 3) (.var 6)) (.idx (.var 4) (.con (.int 1)))) (.cons (.var 5) (.cons (.var 7) .nil))))) .nil)) (.cons (.aug 3 .Add (.bin .Sub (.idx (.var 4) (.con (.int 2))) (.idx (.var 4) (.con (.int 1))))) .nil))) (.cons (.ret (.bi .sorted (.cons (.var 2) .nil))) .nil)))) }
def d_shared : FD := ⟨"shared", f_shared, ["one", "other", "found", "at", "span", "where", "place", "many"]⟩
def f__law_likes : Fn := { np := 2, ns := 8, body := (.cons (.asg 2 (.call "_law_signs" (.cons (.var 1) .nil))) (.cons (.forr (.nm 3) (.rng1 (.call "_law_take" (.cons (.var 0) (.cons (.con (.int 5)) .nil)))) (.cons (.asg 4 (.call "_law_take" (.cons (.var 0) (.cons (.bin .Add (.bi .len (.cons (.var 2) .nil)) (.con (.int 1))) .nil)))) (.cons (.asg 5 (.bin .Add (.var 4) (.call "_law_take" (.cons (.var 0) (.cons (.bin .Add (.bi .min (.cons (.con (.int 12)) (.cons (.bin .Sub (.bi .len (.cons (.var 2) .nil)) (.var 4)) .nil))) (.con (.int 1))) .nil))))) (.cons (.asg 6 (.call "_law_take" (.cons (.var 0) (.cons (.bin .Add (.bi .len (.cons (.var 2) .nil)) (.con (.int 1))) .nil)))) (.cons (.asg 7 (.call "_law_take" (.cons (.var 0) (.cons (.con (.int 4)) .nil)))) (.cons (.ite (.cmp .Eq (.var 7) (.con (.int 0))) (.cons (.asg 2 (.bin .Add (.slc (.var 2) .no (.so (.var 4))) (.slc (.var 2) (.so (.var 5)) .no))) .nil) (.cons (.ite (.cmp .Eq (.var 7) (.con (.int 1))) (.cons (.asg 2 (.bin .Add (.bin .Add (.slc (.var 2) .no (.so (.var 6))) (.slc (.var 2) (.so (.var 4)) (.so (.var 5)))) (.slc (.var 2) (.so (.var 6)) .no))) .nil) (.cons (.ite (.cmp .Eq (.var 7) (.con (.int 2))) (.cons (.asg 2 (.bin .Add (.bin .Add (.slc (.var 2) (.so (.var 4)) (.so (.var 5))) (.slc (.var 2) .no (.so (.var 4)))) (.slc (.var 2) (.so (.var 5)) .no))) .nil) (.cons (.asg 2 (.bin .Add (.bin .Add (.slc (.var 2) .no (.so (.var 6))) (.call "_law_signs" (.cons (.lst (.cons (.call "_law_span" (.cons (.var 0) .nil)) .nil)) .nil))) (.slc (.var 2) (.so (.var 6)) .no))) .nil)) .nil)) .nil)) .nil)))))) (.cons (.ret (.call "_law_page_of" (.cons (.var 2) .nil))) .nil))) }
def d__law_likes : FD := ⟨"_law_likes", f__law_likes, ["bag", "page", "row", "turn", "first", "last", "at", "way"]⟩
def f_addresses : Fn := { np := 1, ns := 5, body := (.cons (.ret (.lc2 [2, 3, 4, 1] (.tp [2, 3, 4]) (.val (.var 0)) (.nm 1) (.rng2 (.var 3) (.var 4)) .no (.tup (.cons (.var 2) (.cons (.var 1) .nil))))) .nil) }
def d_addresses : FD := ⟨"addresses", f_addresses, ["page", "place", "author", "first", "last"]⟩
def f_stretches : Fn := { np := 1, ns := 3, body := (.cons (.asgO 1 (.lst .nil)) (.cons (.forr (.nm 2) (.val (.var 0)) (.cons (.ite (.and (.cons (.cmp .NotEq (.var 1) (.lst .nil)) (.cons (.cmp .Eq (.idx (.idx (.var 1) (.neg (.con (.int 1)))) (.con (.int 1))) (.var 2)) .nil))) (.cons (.seti 1 (.neg (.con (.int 1))) (.tup (.cons (.idx (.idx (.var 1) (.neg (.con (.int 1)))) (.con (.int 0))) (.cons (.bin .Add (.var 2) (.con (.int 1))) .nil)))) .nil) (.cons (.app 1 (.tup (.cons (.var 2) (.cons (.bin .Add (.var 2) (.con (.int 1))) .nil)))) .nil)) .nil)) (.cons (.ret (.var 1)) .nil))) }
def d_stretches : FD := ⟨"stretches", f_stretches, ["places", "found", "place"]⟩
def f__law_short : Fn := { np := 2, ns := 2, body := (.cons (.ret (.call "_law_page_of" (.cons (.slc (.call "_law_signs" (.cons (.var 0) .nil)) .no (.so (.var 1))) .nil))) .nil) }
def d__law_short : FD := ⟨"_law_short", f__law_short, ["page", "most"]⟩
def f_table : Fn := { np := 2, ns := 8, body := (.cons (.asgO 2 (.lst (.cons (.bin .Mult (.lst (.cons (.con (.int 0)) .nil)) (.bin .Add (.bi .len (.cons (.var 1) .nil)) (.con (.int 1)))) .nil))) (.cons (.forr (.nm 3) (.val (.var 0)) (.cons (.asgO 4 (.lst (.cons (.con (.int 0)) .nil))) (.cons (.forr (.tp [5, 6]) (.enu (.var 1)) (.cons (.asg 7 (.bi .max (.cons (.idx (.var 4) (.var 5)) (.cons (.idx (.idx (.var 2) (.neg (.con (.int 1)))) (.bin .Add (.var 5) (.con (.int 1)))) .nil)))) (.cons (.app 4 (.ite (.cmp .Eq (.var 3) (.var 6)) (.bi .max (.cons (.var 7) (.cons (.bin .Add (.idx (.idx (.var 2) (.neg (.con (.int 1)))) (.var 5)) (.con (.int 1))) .nil))) (.var 7))) .nil))) (.frz 4 (.cons (.app 2 (.var 4)) .nil))))) (.cons (.ret (.var 2)) .nil))) }
def d_table : FD := ⟨"table", f_table, ["one", "other", "rows", "sign", "row", "at", "more", "here"]⟩
def f_is_grid : Fn := { np := 3, ns := 5, body := (.cons (.ite (.or (.cons (.not (.isi (.var 0) [.tuple])) (.cons (.cmp .NotEq (.bi .len (.cons (.var 0) .nil)) (.var 1)) .nil))) (.cons (.ret (.con (.bl false))) .nil) .nil) (.cons (.forr (.nm 3) (.val (.var 0)) (.cons (.ite (.or (.cons (.not (.isi (.var 3) [.tuple])) (.cons (.cmp .NotEq (.bi .len (.cons (.var 3) .nil)) (.var 2)) (.cons (.not (.bi .all (.cons (.lc [4] (.nm 4) (.val (.var 3)) .no (.call "is_whole" (.cons (.var 4) .nil))) .nil))) .nil)))) (.cons (.ret (.con (.bl false))) .nil) .nil) .nil)) (.cons (.ret (.con (.bl true))) .nil))) }
def d_is_grid : FD := ⟨"is_grid", f_is_grid, ["thing", "high", "wide", "row", "part"]⟩
def f__law_kept_table : Fn := { np := 2, ns := 7, body := (.cons (.asgO 2 (.lst (.cons (.bin .Mult (.lst (.cons (.con (.int 0)) .nil)) (.bin .Add (.bi .len (.cons (.var 1) .nil)) (.con (.int 1)))) .nil))) (.cons (.forr (.nm 3) (.val (.var 0)) (.cons (.asgO 4 (.lst (.cons (.con (.int 0)) .nil))) (.cons (.forr (.nm 5) (.rng1 (.bi .len (.cons (.var 1) .nil))) (.cons (.asg 6 (.bi .max (.cons (.idx (.var 4) (.var 5)) (.cons (.idx (.idx (.var 2) (.neg (.con (.int 1)))) (.bin .Add (.var 5) (.con (.int 1)))) .nil)))) (.cons (.ite (.cmp .Eq (.var 3) (.idx (.var 1) (.var 5))) (.cons (.asg 6 (.bi .max (.cons (.var 6) (.cons (.bin .Add (.idx (.idx (.var 2) (.neg (.con (.int 1)))) (.var 5)) (.con (.int 1))) .nil)))) .nil) .nil) (.cons (.app 4 (.var 6)) .nil)))) (.frz 4 (.cons (.app 2 (.var 4)) .nil))))) (.cons (.ret (.var 2)) .nil))) }
def d__law_kept_table : FD := ⟨"_law_kept_table", f__law_kept_table, ["one", "other", "rows", "sign", "row", "at", "best"]⟩
def f__law_is_paper : Fn := { np := 3, ns := 8, body := (.cons (.ite (.or (.cons (.not (.isi (.var 2) [.tuple])) (.cons (.cmp .NotEq (.bi .len (.cons (.var 2) .nil)) (.bin .Add (.bi .len (.cons (.var 0) .nil)) (.con (.int 1)))) .nil))) (.cons (.ret (.con (.bl false))) .nil) .nil) (.cons (.forr (.nm 3) (.val (.var 2)) (.cons (.ite (.or (.cons (.not (.isi (.var 3) [.tuple])) (.cons (.cmp .NotEq (.bi .len (.cons (.var 3) .nil)) (.bin .Add (.bi .len (.cons (.var 1) .nil)) (.con (.int 1)))) .nil))) (.cons (.ret (.con (.bl false))) .nil) .nil) (.cons (.ite (.cmp .NotEq (.lc [7] (.nm 7) (.val (.var 3)) (.so (.not (.call "_law_whole" (.cons (.var 7) .nil)))) (.var 7)) (.lst .nil)) (.cons (.ret (.con (.bl false))) .nil) .nil) .nil))) (.cons (.forr (.nm 4) (.rng1 (.bin .Add (.bi .len (.cons (.var 0) .nil)) (.con (.int 1)))) (.cons (.forr (.nm 5) (.rng1 (.bin .Add (.bi .len (.cons (.var 1) .nil)) (.con (.int 1)))) (.cons (.asg 6 (.idx (.idx (.var 2) (.var 4)) (.var 5))) (.cons (.ite (.or (.cons (.and (.cons (.cmp .Gt (.var 5) (.con (.int 0))) (.cons (.cmp .Lt (.var 6) (.idx (.idx (.var 2) (.var 4)) (.bin .Sub (.var 5) (.con (.int 1))))) .nil))) (.cons (.and (.cons (.cmp .Gt (.var 4) (.con (.int 0))) (.cons (.cmp .Lt (.var 6) (.idx (.idx (.var 2) (.bin .Sub (.var 4) (.con (.int 1)))) (.var 5))) .nil))) .nil))) (.cons (.ret (.con (.bl false))) .nil) .nil) (.cons (.ite (.and (.cons (.cmp .Gt (.var 4) (.con (.int 0))) (.cons (.cmp .Gt (.var 5) (.con (.int 0))) (.cons (.cmp .Eq (.idx (.var 0) (.bin .Sub (.var 4) (.con (.int 1)))) (.idx (.var 1) (.bin .Sub (.var 5) (.con (.int 1))))) (.cons (.cmp .Lt (.var 6) (.bin .Add (.idx (.idx (.var 2) (.bin .Sub (.var 4) (.con (.int 1)))) (.bin .Sub (.var 5) (.con (.int 1)))) (.con (.int 1)))) .nil))))) (.cons (.ret (.con (.bl false))) .nil) .nil) .nil)))) .nil)) (.cons (.ret (.cmp .Eq (.idx (.idx (.var 2) (.con (.int 0))) (.con (.int 0))) (.con (.int 0)))) .nil)))) }
def d__law_is_paper : FD := ⟨"_law_is_paper", f__law_is_paper, ["one", "other", "thing", "row", "at", "to", "here", "number"]⟩
end Fx

namespace Fx
open PySem L2
def f_plain : Fn := { np := 1, ns := 3, body := (.cons (.asgO 1 (.lst .nil)) (.cons (.forr (.nm 2) (.val (.var 0)) (.cons (.ite (.and (.cons (.cmp .NotEq (.var 1) (.lst .nil)) (.cons (.call "go_on" (.cons (.idx (.var 1) (.neg (.con (.int 1)))) (.cons (.var 2) .nil))) .nil))) (.cons (.seti 1 (.neg (.con (.int 1))) (.tup (.cons (.idx (.var 2) (.con (.int 0))) (.cons (.idx (.idx (.var 1) (.neg (.con (.int 1)))) (.con (.int 1))) (.cons (.idx (.var 2) (.con (.int 2))) .nil))))) .nil) (.cons (.app 1 (.var 2)) .nil)) .nil)) (.cons (.ite (.not (.call "is_page" (.cons (.bi .tuple (.cons (.var 1) .nil)) .nil))) (.cons (.raise0 "TooLong") .nil) .nil) (.cons (.ret (.bi .tuple (.cons (.var 1) .nil))) .nil)))) }
def d_plain : FD := ⟨"plain", f_plain, ["spans", "found", "span"]⟩
def f_need_place : Fn := { np := 3, ns := 3, body := (.cons (.ite (.not (.chn (.var 1) (.more .LtE (.var 0) (.one .LtE (.var 2))))) (.cons (.raise1 "NoPlace" (.var 0)) .nil) .nil) .nil) }
def d_need_place : FD := ⟨"need_place", f_need_place, ["at", "least", "most"]⟩
def f_need_part : Fn := { np := 3, ns := 3, body := (.cons (.expr (.call "need_place" (.cons (.var 1) (.cons (.con (.int 0)) (.cons (.call "long" (.cons (.var 0) .nil)) .nil))))) (.cons (.expr (.call "need_place" (.cons (.var 2) (.cons (.var 1) (.cons (.call "long" (.cons (.var 0) .nil)) .nil))))) .nil)) }
def d_need_part : FD := ⟨"need_part", f_need_part, ["page", "first", "last"]⟩
def f_piece : Fn := { np := 3, ns := 10, body := (.cons (.asgO 3 (.lst .nil)) (.cons (.asg 4 (.con (.int 0))) (.cons (.forr (.tp [5, 6, 7]) (.val (.var 0)) (.cons (.asg 8 (.bi .max (.cons (.var 6) (.cons (.bin .Sub (.bin .Add (.var 6) (.var 1)) (.var 4)) .nil)))) (.cons (.asg 9 (.bi .min (.cons (.var 7) (.cons (.bin .Sub (.bin .Add (.var 6) (.var 2)) (.var 4)) .nil)))) (.cons (.ite (.cmp .Lt (.var 8) (.var 9)) (.cons (.app 3 (.tup (.cons (.var 5) (.cons (.var 8) (.cons (.var 9) .nil))))) .nil) .nil) (.cons (.aug 4 .Add (.bin .Sub (.var 7) (.var 6))) .nil))))) (.cons (.ret (.bi .tuple (.cons (.var 3) .nil))) .nil)))) }
def d_piece : FD := ⟨"piece", f_piece, ["page", "first", "last", "found", "at", "author", "start", "end", "low", "high"]⟩
def f_part : Fn := { np := 3, ns := 3, body := (.cons (.expr (.call "need_part" (.cons (.var 0) (.cons (.var 1) (.cons (.var 2) .nil))))) (.cons (.ret (.call "piece" (.cons (.var 0) (.cons (.var 1) (.cons (.var 2) .nil))))) .nil)) }
def d_part : FD := ⟨"part", f_part, ["page", "first", "last"]⟩
def f_put : Fn := { np := 3, ns := 3, body := (.cons (.expr (.call "need_place" (.cons (.var 1) (.cons (.con (.int 0)) (.cons (.call "long" (.cons (.var 0) .nil)) .nil))))) (.cons (.ret (.call "plain" (.cons (.bin .Add (.bin .Add (.call "piece" (.cons (.var 0) (.cons (.con (.int 0)) (.cons (.var 1) .nil)))) (.var 2)) (.call "piece" (.cons (.var 0) (.cons (.var 1) (.cons (.call "long" (.cons (.var 0) .nil)) .nil))))) .nil))) .nil)) }
def d_put : FD := ⟨"put", f_put, ["page", "at", "more"]⟩
def f_without : Fn := { np := 3, ns := 3, body := (.cons (.expr (.call "need_part" (.cons (.var 0) (.cons (.var 1) (.cons (.var 2) .nil))))) (.cons (.ret (.call "plain" (.cons (.bin .Add (.call "piece" (.cons (.var 0) (.cons (.con (.int 0)) (.cons (.var 1) .nil)))) (.call "piece" (.cons (.var 0) (.cons (.var 2) (.cons (.call "long" (.cons (.var 0) .nil)) .nil))))) .nil))) .nil)) }
def d_without : FD := ⟨"without", f_without, ["page", "first", "last"]⟩
def f_shifted : Fn := { np := 4, ns := 6, body := (.cons (.expr (.call "need_part" (.cons (.var 0) (.cons (.var 1) (.cons (.var 2) .nil))))) (.cons (.expr (.call "need_place" (.cons (.var 3) (.cons (.con (.int 0)) (.cons (.bin .Sub (.call "long" (.cons (.var 0) .nil)) (.bin .Sub (.var 2) (.var 1))) .nil))))) (.cons (.asg 4 (.bin .Add (.call "piece" (.cons (.var 0) (.cons (.con (.int 0)) (.cons (.var 1) .nil)))) (.call "piece" (.cons (.var 0) (.cons (.var 2) (.cons (.call "long" (.cons (.var 0) .nil)) .nil)))))) (.cons (.asg 5 (.call "long" (.cons (.var 4) .nil))) (.cons (.ret (.call "plain" (.cons (.bin .Add (.bin .Add (.call "piece" (.cons (.var 4) (.cons (.con (.int 0)) (.cons (.var 3) .nil)))) (.call "piece" (.cons (.var 0) (.cons (.var 1) (.cons (.var 2) .nil))))) (.call "piece" (.cons (.var 4) (.cons (.var 3) (.cons (.var 5) .nil))))) .nil))) .nil))))) }
def d_shifted : FD := ⟨"shifted", f_shifted, ["page", "first", "last", "at", "rest", "many"]⟩
def f_address : Fn := { np := 2, ns := 5, body := (.cons (.expr (.call "need_place" (.cons (.var 1) (.cons (.con (.int 0)) (.cons (.bin .Sub (.call "long" (.cons (.var 0) .nil)) (.con (.int 1))) .nil))))) (.cons (.asgT [2, 3, 4] (.idx (.call "piece" (.cons (.var 0) (.cons (.var 1) (.cons (.bin .Add (.var 1) (.con (.int 1))) .nil)))) (.con (.int 0)))) (.cons (.ret (.tup (.cons (.var 2) (.cons (.var 3) .nil)))) .nil))) }
def d_address : FD := ⟨"address", f_address, ["page", "at", "author", "first", "last"]⟩
def f__law_made : Fn := { np := 2, ns := 6, body := (.cons (.asg 2 (.con .non)) (.cons (.asg 3 (.con (.str ""))) (.cons (.asg 4 (.con .non)) (.cons (.tryx (.cons (.ite (.cmp .Eq (.var 0) (.con (.str "plain"))) (.cons (.asg 2 (.call "plain" (.cons (.idx (.var 1) (.con (.int 0))) .nil))) .nil) (.cons (.ite (.cmp .Eq (.var 0) (.con (.str "part"))) (.cons (.asg 2 (.call "part" (.cons (.idx (.var 1) (.con (.int 0))) (.cons (.idx (.var 1) (.con (.int 1))) (.cons (.idx (.var 1) (.con (.int 2))) .nil))))) .nil) (.cons (.ite (.cmp .Eq (.var 0) (.con (.str "put"))) (.cons (.asg 2 (.call "put" (.cons (.idx (.var 1) (.con (.int 0))) (.cons (.idx (.var 1) (.con (.int 1))) (.cons (.idx (.var 1) (.con (.int 2))) .nil))))) .nil) (.cons (.ite (.cmp .Eq (.var 0) (.con (.str "without"))) (.cons (.asg 2 (.call "without" (.cons (.idx (.var 1) (.con (.int 0))) (.cons (.idx (.var 1) (.con (.int 1))) (.cons (.idx (.var 1) (.con (.int 2))) .nil))))) .nil) (.cons (.ite (.cmp .Eq (.var 0) (.con (.str "shifted"))) (.cons (.asg 2 (.call "shifted" (.cons (.idx (.var 1) (.con (.int 0))) (.cons (.idx (.var 1) (.con (.int 1))) (.cons (.idx (.var 1) (.con (.int 2))) (.cons (.idx (.var 1) (.con (.int 3))) .nil)))))) .nil) (.cons (.asg 2 (.call "address" (.cons (.idx (.var 1) (.con (.int 0))) (.cons (.idx (.var 1) (.con (.int 1))) .nil)))) .nil)) .nil)) .nil)) .nil)) .nil)) .nil) "LoomError" 5 (.par 3 4 (.call "_law_kinds") (.call "_law_field"))) (.cons (.ret (.tup (.cons (.var 2) (.cons (.var 3) (.cons (.var 4) .nil))))) .nil))))) }
def d__law_made : FD := ⟨"_law_made", f__law_made, ["way", "parts", "found", "kind", "field", "e"]⟩
def f__law_due_page : Fn := { np := 1, ns := 2, body := (.cons (.asg 1 (.call "_law_page_of" (.cons (.var 0) .nil))) (.cons (.ret (.ite (.call "_law_is_page" (.cons (.var 1) .nil)) (.tup (.cons (.var 1) (.cons (.con (.str "")) (.cons (.con .non) .nil)))) (.tup (.cons (.con .non) (.cons (.con (.str "asked TooLong+")) (.cons (.con .non) .nil)))))) .nil)) }
def d__law_due_page : FD := ⟨"_law_due_page", f__law_due_page, ["signs", "page"]⟩
def f__law_bad_part : Fn := { np := 3, ns := 4, body := (.cons (.asg 3 (.ite (.chn (.con (.int 0)) (.more .LtE (.var 1) (.one .LtE (.var 0)))) (.lst .nil) (.lst (.cons (.var 1) .nil)))) (.cons (.ret (.slc (.bin .Add (.var 3) (.ite (.chn (.var 1) (.more .LtE (.var 2) (.one .LtE (.var 0)))) (.lst .nil) (.lst (.cons (.var 2) .nil)))) .no (.so (.con (.int 1))))) .nil)) }
def d__law_bad_part : FD := ⟨"_law_bad_part", f__law_bad_part, ["many", "first", "last", "bad"]⟩
def f__law_place : Fn := { np := 2, ns := 2, body := (.cons (.ret (.idx (.lst (.cons (.call "_law_take" (.cons (.var 0) (.cons (.bin .Add (.var 1) (.con (.int 1))) .nil))) (.cons (.call "_law_take" (.cons (.var 0) (.cons (.bin .Add (.var 1) (.con (.int 1))) .nil))) (.cons (.var 1) (.cons (.con (.int 0)) (.cons (.neg (.con (.int 1))) (.cons (.bin .Add (.var 1) (.con (.int 1))) (.cons (.bin .Pow (.con (.int 10)) (.con (.int 39))) .nil)))))))) (.call "_law_take" (.cons (.var 0) (.cons (.con (.int 7)) .nil))))) .nil) }
def d__law_place : FD := ⟨"_law_place", f__law_place, ["bag", "many"]⟩
def f__law_full_page : Fn := { np := 1, ns := 2, body := (.cons (.ite (.cmp .Eq (.call "_law_take" (.cons (.var 0) (.cons (.con (.int 2)) .nil))) (.con (.int 0))) (.cons (.ret (.bi .tuple (.cons (.lc [1] (.nm 1) (.rng1 (.bin .Add (.con (.int 57)) (.call "_law_take" (.cons (.var 0) (.cons (.con (.int 4)) .nil))))) .no (.tup (.cons (.con (.str "ann")) (.cons (.bin .Mult (.con (.int 10)) (.var 1)) (.cons (.bin .Add (.bin .Mult (.con (.int 10)) (.var 1)) (.con (.int 2))) .nil))))) .nil))) .nil) .nil) (.cons (.ret (.tup (.cons (.tup (.cons (.con (.str "ann")) (.cons (.con (.int 0)) (.cons (.con (.int 1000)) .nil)))) (.cons (.tup (.cons (.con (.str "bo")) (.cons (.con (.int 50)) (.cons (.bin .Add (.con (.int 1040)) (.call "_law_take" (.cons (.var 0) (.cons (.con (.int 11)) .nil)))) .nil)))) .nil)))) .nil)) }
def d__law_full_page : FD := ⟨"_law_full_page", f__law_full_page, ["bag", "at"]⟩
def h__law_kinds : HD := ⟨"_law_kinds", ⟨4, [.asg 1 (.lst (.cons (.isx ["AskedError"] false) (.cons (.isx ["ToldError"] false) (.cons (.isx ["Crossed"] false) (.cons (.isx ["Forged"] false) .nil))))), .asg 1 (.cat (.var 1) (.lst (.cons (.isx ["Gainsaid"] false) (.cons (.isx ["NoAuthor"] false) (.cons (.isx ["NoBase"] false) (.cons (.isx ["NoDeed"] false) .nil)))))), .asg 1 (.cat (.var 1) (.lst (.cons (.isx ["NoEnd"] false) (.cons (.isx ["NoLink"] false) (.cons (.isx ["NoName"] false) (.cons (.isx ["NoPlace"] false) .nil)))))), .asg 1 (.cat (.var 1) (.lst (.cons (.isx ["NoPrices"] false) (.cons (.isx ["NoRecord"] false) (.cons (.isx ["NoRow"] false) (.cons (.isx ["NoSigns"] false) .nil)))))), .asg 1 (.cat (.var 1) (.lst (.cons (.isx ["NoText"] false) (.cons (.isx ["NoVersion"] false) (.cons (.isx ["NoWork"] false) (.cons (.isx ["TooLong"] false) .nil)))))), .asg 1 (.cat (.var 1) (.lst (.cons (.isx ["Twice"] false) (.cons (.isx ["Wanting"] false) (.cons (.isx ["ValueError"] false) .nil))))), .asg 2 (.lst (.cons (.con (.str "asked ")) (.cons (.con (.str "told ")) (.cons (.con (.str "Crossed")) (.cons (.con (.str "Forged")) (.cons (.con (.str "Gainsaid")) (.cons (.con (.str "NoAuthor")) (.cons (.con (.str "NoBase")) (.cons (.con (.str "NoDeed")) (.cons (.con (.str "NoEnd")) (.cons (.con (.str "NoLink")) .nil))))))))))), .asg 2 (.cat (.var 2) (.lst (.cons (.con (.str "NoName")) (.cons (.con (.str "NoPlace")) (.cons (.con (.str "NoPrices")) (.cons (.con (.str "NoRecord")) (.cons (.con (.str "NoRow")) (.cons (.con (.str "NoSigns")) (.cons (.con (.str "NoText")) (.cons (.con (.str "NoVersion")) (.cons (.con (.str "NoWork")) .nil))))))))))), .asg 2 (.cat (.var 2) (.lst (.cons (.con (.str "TooLong")) (.cons (.con (.str "Twice")) (.cons (.con (.str "Wanting")) (.cons (.con (.str "+")) .nil)))))), .ret (.jn 23 2 1 3)]⟩, ["e", "some", "words", "k"]⟩
def h__law_field : HD := ⟨"_law_field", ⟨1, [.retIf (.isx ["NoPlace"] false) (.fld "at"), .retIf (.isx ["Crossed", "NoVersion"] true) (.fld "which"), .retIf (.isx ["Forged", "NoAuthor"] true) (.fld "name"), .retIf (.isx ["Gainsaid"] false) (.fld "record"), .retIf (.isx ["Wanting"] false) (.fld "ends"), .ret (.ite (.isx ["NoWork"] false) (.fld "work") (.con .non))]⟩, ["e"]⟩
end Fx

namespace Fx
open PySem L2
def f_need_short : Fn := { np := 2, ns := 2, body := (.cons (.ite (.cmp .Gt (.bi .max (.cons (.call "long" (.cons (.var 0) .nil)) (.cons (.call "long" (.cons (.var 1) .nil)) .nil))) (.glo "MOST_KEPT")) (.cons (.raise0 "TooLong") .nil) .nil) .nil) }
def d_need_short : FD := ⟨"need_short", f_need_short, ["one", "other"]⟩
def f_kept_paper : Fn := { np := 2, ns := 3, body := (.cons (.expr (.call "need_short" (.cons (.var 0) (.cons (.var 1) .nil)))) (.cons (.ret (.bi .tuple (.cons (.lc [2] (.nm 2) (.val (.call "table" (.cons (.call "addresses" (.cons (.var 0) .nil)) (.cons (.call "addresses" (.cons (.var 1) .nil)) .nil)))) .no (.bi .tuple (.cons (.var 2) .nil))) .nil))) .nil)) }
def d_kept_paper : FD := ⟨"kept_paper", f_kept_paper, ["one", "other", "row"]⟩
def f_kept_shown : Fn := { np := 3, ns := 9, body := (.cons (.expr (.call "need_short" (.cons (.var 0) (.cons (.var 1) .nil)))) (.cons (.par 3 4 (.call "addresses" (.cons (.var 0) .nil)) (.call "addresses" (.cons (.var 1) .nil))) (.cons (.ite (.or (.cons (.not (.call "is_grid" (.cons (.var 2) (.cons (.bin .Add (.bi .len (.cons (.var 3) .nil)) (.con (.int 1))) (.cons (.bin .Add (.bi .len (.cons (.var 4) .nil)) (.con (.int 1))) .nil))))) (.cons (.cmp .NotEq (.idx (.idx (.var 2) (.con (.int 0))) (.con (.int 0))) (.con (.int 0))) .nil))) (.cons (.ret (.con (.bl false))) .nil) .nil) (.cons (.forr (.tp [5, 6]) (.enu (.var 2)) (.cons (.forr (.tp [7, 8]) (.enu (.var 6)) (.cons (.ite (.or (.cons (.and (.cons (.cmp .Gt (.var 7) (.con (.int 0))) (.cons (.cmp .Lt (.var 8) (.idx (.var 6) (.bin .Sub (.var 7) (.con (.int 1))))) .nil))) (.cons (.and (.cons (.cmp .Gt (.var 5) (.con (.int 0))) (.cons (.cmp .Lt (.var 8) (.idx (.idx (.var 2) (.bin .Sub (.var 5) (.con (.int 1)))) (.var 7))) .nil))) .nil))) (.cons (.ret (.con (.bl false))) .nil) .nil) (.cons (.ite (.and (.cons (.cmp .Gt (.var 5) (.con (.int 0))) (.cons (.cmp .Gt (.var 7) (.con (.int 0))) (.cons (.cmp .Eq (.idx (.var 3) (.bin .Sub (.var 5) (.con (.int 1)))) (.idx (.var 4) (.bin .Sub (.var 7) (.con (.int 1))))) (.cons (.cmp .LtE (.var 8) (.idx (.idx (.var 2) (.bin .Sub (.var 5) (.con (.int 1)))) (.bin .Sub (.var 7) (.con (.int 1))))) .nil))))) (.cons (.ret (.con (.bl false))) .nil) .nil) .nil))) .nil)) (.cons (.ret (.con (.bl true))) .nil))))) }
def d_kept_shown : FD := ⟨"kept_shown", f_kept_shown, ["one", "other", "paper", "signs", "more", "at", "row", "there", "number"]⟩
end Fx

namespace Fx
open PySem L2
def f_kept : Fn := { np := 2, ns := 8, body := (.cons (.expr (.call "need_short" (.cons (.var 0) (.cons (.var 1) .nil)))) (.cons (.par 4 5 (.call "addresses" (.cons (.var 0) .nil)) (.call "addresses" (.cons (.var 1) .nil))) (.cons (.asg 2 (.call "table" (.cons (.var 4) (.cons (.var 5) .nil)))) (.cons (.asgO 3 (.lst .nil)) (.cons (.par 6 7 (.bi .len (.cons (.var 4) .nil)) (.bi .len (.cons (.var 5) .nil))) (.cons (.whl (.and (.cons (.cmp .Gt (.var 6) (.con (.int 0))) (.cons (.cmp .Gt (.var 7) (.con (.int 0))) .nil))) (.cons (.ite (.cmp .Eq (.idx (.idx (.var 2) (.var 6)) (.var 7)) (.idx (.idx (.var 2) (.bin .Sub (.var 6) (.con (.int 1)))) (.var 7))) (.cons (.aug 6 .Sub (.con (.int 1))) .nil) (.cons (.ite (.cmp .Eq (.idx (.idx (.var 2) (.var 6)) (.var 7)) (.idx (.idx (.var 2) (.var 6)) (.bin .Sub (.var 7) (.con (.int 1))))) (.cons (.aug 7 .Sub (.con (.int 1))) .nil) (.cons (.aug 6 .Sub (.con (.int 1))) (.cons (.aug 7 .Sub (.con (.int 1))) (.cons (.app 3 (.tup (.cons (.var 6) (.cons (.var 7) .nil)))) .nil)))) .nil)) .nil)) (.cons (.ret (.tup (.cons (.idx (.idx (.var 2) (.neg (.con (.int 1)))) (.neg (.con (.int 1)))) (.cons (.rev (.var 3)) .nil)))) .nil))))))) }
def d_kept : FD := ⟨"kept", f_kept, ["one", "other", "rows", "pairs", "signs", "more", "at", "there"]⟩
def f__law_pairs_right : Fn := { np := 3, ns := 6, body := (.cons (.ite (.not (.isi (.var 2) [.list])) (.cons (.ret (.con (.bl false))) .nil) .nil) (.cons (.forr (.nm 3) (.rng1 (.bi .len (.cons (.var 2) .nil))) (.cons (.asgT [4, 5] (.idx (.var 2) (.var 3))) (.cons (.ite (.or (.cons (.not (.chn (.con (.int 0)) (.more .LtE (.var 4) (.one .Lt (.bi .len (.cons (.var 0) .nil)))))) (.cons (.not (.chn (.con (.int 0)) (.more .LtE (.var 5) (.one .Lt (.bi .len (.cons (.var 1) .nil)))))) (.cons (.cmp .NotEq (.idx (.var 0) (.var 4)) (.idx (.var 1) (.var 5))) .nil)))) (.cons (.ret (.con (.bl false))) .nil) .nil) (.cons (.ite (.and (.cons (.cmp .Gt (.var 3) (.con (.int 0))) (.cons (.or (.cons (.cmp .GtE (.idx (.idx (.var 2) (.bin .Sub (.var 3) (.con (.int 1)))) (.con (.int 0))) (.var 4)) (.cons (.cmp .GtE (.idx (.idx (.var 2) (.bin .Sub (.var 3) (.con (.int 1)))) (.con (.int 1))) (.var 5)) .nil))) .nil))) (.cons (.ret (.con (.bl false))) .nil) .nil) .nil)))) (.cons (.ret (.con (.bl true))) .nil))) }
def d__law_pairs_right : FD := ⟨"_law_pairs_right", f__law_pairs_right, ["one", "other", "pairs", "number", "at", "to"]⟩
end Fx

namespace Fx
open PySem L2
def f_only : Fn := { np := 2, ns := 5, body := (.cons (.asg 2 (.dc true [3] (.nm 3) (.val (.call "addresses" (.cons (.var 1) .nil))) (.var 3) (.con (.bl true)))) (.cons (.ret (.call "stretches" (.cons (.lc [4, 3] (.tp [4, 3]) (.enu (.call "addresses" (.cons (.var 0) .nil))) (.so (.cmp .NotIn (.var 3) (.var 2))) (.var 4)) .nil))) .nil)) }
def d_only : FD := ⟨"only", f_only, ["one", "other", "there_too", "sign", "at"]⟩
def f_there : Fn := { np := 3, ns := 6, body := (.cons (.asg 3 (.call "address" (.cons (.var 0) (.cons (.var 2) .nil)))) (.cons (.ret (.lc [4, 5] (.tp [4, 5]) (.enu (.call "addresses" (.cons (.var 1) .nil))) (.so (.cmp .Eq (.var 5) (.var 3))) (.var 4))) .nil)) }
def d_there : FD := ⟨"there", f_there, ["one", "other", "at", "sign", "place", "more"]⟩
def f__law_stretches : Fn := { np := 1, ns := 3, body := (.cons (.asgO 1 (.lst .nil)) (.cons (.forr (.nm 2) (.val (.bi .sorted (.cons (.var 0) .nil))) (.cons (.ite (.and (.cons (.cmp .NotEq (.var 1) (.lst .nil)) (.cons (.cmp .Eq (.idx (.idx (.var 1) (.neg (.con (.int 1)))) (.con (.int 1))) (.var 2)) .nil))) (.cons (.seti 1 (.neg (.con (.int 1))) (.tup (.cons (.idx (.idx (.var 1) (.neg (.con (.int 1)))) (.con (.int 0))) (.cons (.bin .Add (.var 2) (.con (.int 1))) .nil)))) .nil) (.cons (.app 1 (.tup (.cons (.var 2) (.cons (.bin .Add (.var 2) (.con (.int 1))) .nil)))) .nil)) .nil)) (.cons (.ret (.var 1)) .nil))) }
def d__law_stretches : FD := ⟨"_law_stretches", f__law_stretches, ["places", "found", "place"]⟩
end Fx

namespace Fx
open PySem L2
def f__law_there : Fn := { np := 3, ns := 7, body := (.cons (.asg 3 (.con .non)) (.cons (.asg 4 (.con (.str ""))) (.cons (.asg 5 (.con .non)) (.cons (.tryx (.cons (.asg 3 (.call "there" (.cons (.var 0) (.cons (.var 1) (.cons (.var 2) .nil))))) .nil) "LoomError" 6 (.par 4 5 (.call "_law_kinds") (.call "_law_field"))) (.cons (.ret (.tup (.cons (.var 3) (.cons (.var 4) (.cons (.var 5) .nil))))) .nil))))) }
def d__law_there : FD := ⟨"_law_there", f__law_there, ["one", "other", "at", "found", "kind", "field", "e"]⟩
def f_law : Fn := { np := 1, ns := 11, body := (.cons (.forr (.nm 1) (.rng1 (.bin .Add (.con (.int 1)) (.bi .min (.cons (.bi .len (.cons (.var 0) .nil)) (.cons (.con (.int 15)) .nil))))) (.cons (.asgB 2 (.call "_law_bag" (.cons (.var 0) (.cons (.var 1) .nil)))) (.cons (.asg 3 (.call "_law_page" (.cons (.var 2) (.cons (.con (.int 8)) .nil)))) (.cons (.asg 4 (.idx (.lst (.cons (.call "_law_likes" (.cons (.var 2) (.cons (.var 3) .nil))) (.cons (.call "_law_page" (.cons (.var 2) (.cons (.con (.int 8)) .nil))) .nil))) (.call "_law_take" (.cons (.var 2) (.cons (.con (.int 2)) .nil))))) (.cons (.asg 5 (.call "_law_signs" (.cons (.var 3) .nil))) (.cons (.asg 6 (.call "_law_signs" (.cons (.var 4) .nil))) (.cons (.asg 7 (.lc [8] (.nm 8) (.rng1 (.bi .len (.cons (.var 5) .nil))) (.so (.cmp .NotIn (.idx (.var 5) (.var 8)) (.var 6))) (.var 8))) (.cons (.ite (.or (.cons (.cmp .NotEq (.call "only" (.cons (.var 3) (.cons (.var 4) .nil))) (.call "_law_stretches" (.cons (.var 7) .nil))) (.cons (.cmp .NotEq (.call "only" (.cons (.var 3) (.cons (.var 3) .nil))) (.lst .nil)) .nil))) (.cons (.ret (.con (.bl false))) .nil) .nil) (.cons (.forr (.nm 8) (.val (.bin .Add (.lrng1 (.bi .len (.cons (.var 5) .nil))) (.lst (.cons (.neg (.con (.int 1))) (.cons (.bi .len (.cons (.var 5) .nil)) (.cons (.bin .Pow (.con (.int 10)) (.con (.int 39))) .nil)))))) (.cons (.asg 9 (.tup (.cons (.con .non) (.cons (.con (.str "asked NoPlace+")) (.cons (.var 8) .nil))))) (.cons (.ite (.chn (.con (.int 0)) (.more .LtE (.var 8) (.one .Lt (.bi .len (.cons (.var 5) .nil))))) (.cons (.asg 9 (.tup (.cons (.lc [10] (.nm 10) (.rng1 (.bi .len (.cons (.var 6) .nil))) (.so (.cmp .Eq (.idx (.var 6) (.var 10)) (.idx (.var 5) (.var 8)))) (.var 10)) (.cons (.con (.str "")) (.cons (.con .non) .nil))))) .nil) .nil) (.cons (.ite (.cmp .NotEq (.call "_law_there" (.cons (.var 3) (.cons (.var 4) (.cons (.var 8) .nil)))) (.var 9)) (.cons (.ret (.con (.bl false))) .nil) .nil) .nil)))) .nil))))))))) (.cons (.ret (.con (.bl true))) .nil)) }
def d_law : FD := ⟨"law", f_law, ["script", "k", "bag", "page", "other", "signs", "more", "alone", "at", "due", "place"]⟩
end Fx

set_option maxHeartbeats 4000000
namespace Fx
open PySem L2
def top (i : Nat) : Stmt := PySem.Challenge.pw_spanloom_k10_what_is_alone_and_where_it.main.body.getD i (.Pass ⟨0, 0, 0, 0⟩)
def rows : List (FD × Stmt) := [(d_long, top 25), (d_addresses, top 26), (d_need_place, top 28), (d_piece, top 29), (d_address, top 30), (d_stretches, top 32), (d_only, top 33), (d_there, top 34), (d__law_bag, top 36), (d__law_take, top 37), (d__law_of, top 38), (d__law_name, top 39), (d__law_signs, top 42), (d__law_page_of, top 43), (d__law_span, top 44), (d__law_page, top 45), (d__law_stretches, top 46), (d__law_likes, top 47), (d__law_there, top 48), (d_law, top 49)]
def gi : List (Str × Int) := []
def gs : List (Str × Str) := []
def clsDef (i j : Nat) : Stmt := match top i with | .ClassDef _ _ _ b _ _ _ _ _ _ _ => b.getD j (.Pass ⟨0, 0, 0, 0⟩) | _ => .Pass ⟨0, 0, 0, 0⟩
def tb0 : ClT := ⟨[("NoPlace", ["AskedError", "LoomError", "NoPlace", "ValueError"])], ["AskedError", "Crossed", "Forged", "Gainsaid", "LoomError", "NoAuthor", "NoBase", "NoDeed", "NoEnd", "NoLink", "NoName", "NoPlace", "NoPrices", "NoRecord", "NoRow", "NoSigns", "NoText", "NoVersion", "NoWork", "ToldError", "TooLong", "Twice", "ValueError", "Wanting"], ["at", "ends", "name", "record", "which", "work"], [("NoPlace", "at")]⟩
def xd : XD := ⟨[(h__law_kinds, top 40), (h__law_field, top 41)], tb0, [(⟨"NoPlace", "at", "AskedError", "at", "no such place"⟩, clsDef 18 0)]⟩
theorem rows_ok : okAll rows xd = true := by decide +kernel
def names0 : List Str := ["LoomError", "ToldError", "AskedError", "NoRecord", "NoName", "NoRow", "NoPrices", "NoDeed", "NoEnd", "Twice", "NoText", "Forged", "Gainsaid", "TooLong", "NoSigns", "NoLink", "NoBase", "NoPlace", "Crossed", "Wanting", "NoWork", "NoVersion", "NoAuthor", "long", "addresses", "need_place", "piece", "address", "stretches", "only"]
def names1 : List Str := ["there", "_law_bag", "_law_take", "_law_of", "_law_name", "_law_kinds", "_law_field", "_law_signs", "_law_page_of", "_law_span", "_law_page", "_law_stretches", "_law_likes", "_law_there"]
def names : List Str := names0 ++ names1
abbrev hk : PySem.W.Hook := hookY 4 (faX rows gi gs xd) (defsOf rows xd) (exB xd)
def ob (s : PySem.W.SharedT) : He.AlD × Bool := obsY 4 (faX rows gi gs xd) (defsOf rows xd) (exB xd) (HandSHeadRun.getT s)
theorem ob_eq (s : PySem.W.SharedT) : ob s = hk.obs s.abs := obsY_eq (HandSHeadRun.getT_eq s)
abbrev Rw : PySem.W.OpenRow := PySem.W.OpenLaw.row PySem.Challenge.rw_spanloom_k10_what_is_alone_and_where_it
theorem run (w : World) : HandSHeadRun.RunEq Rw (PySem.W.view Rw.prog [49]) hk ob 12000 names w := by
  intro os
  kernel_rfl
end Fx

namespace Fx
open PySem L2

/-! ### walking the small language -/
def Has (p : Prg) (x : Str) (f : Fn) : Prop := p.fns.lookup x = some f
theorem call_at {p : Prg} {x : Str} {f : Fn} (h : Has p x f) {k : Nat} {ts : List T} {hs : Hs} : callK p (k + 1) x ts hs = runF (p.cl k) f ts hs := by
  unfold callK
  rw [show p.fns.lookup x = some f from h]
  rfl
theorem Out.bind_ite {α β : Type} {c : Prop} [Decidable c] (a b : Out α) (f : α → Hs → Out β) : (if c then a else b).bind f = if c then a.bind f else b.bind f := by split <;> rfl
theorem Out.fl_ite {α : Type} {c : Prop} [Decidable c] (a b : Out α) (env : En) (f : α → Hs → Fl) : (if c then a else b).fl env f = if c then a.fl env f else b.fl env f := by split <;> rfl
theorem Fl.bind_ite {c : Prop} [Decidable c] (a b : Fl) (f : En → Hs → Fl) : (if c then a else b).bind f = if c then a.bind f else b.bind f := by split <;> rfl
theorem Fl.fin_ite {c : Prop} [Decidable c] (a b : Fl) : (if c then a else b).fin = if c then a.fin else b.fin := by split <;> rfl
theorem Fl.fin_nx (env : En) (h : Hs) : (Fl.nx env h).fin = .ok (.val .non) h := rfl
theorem Fl.fin_rt (r : R) (h : Hs) : (Fl.rt r h).fin = .ok r h := rfl
theorem Fl.fin_exc (e : T) (env : En) (h : Hs) : (Fl.exc e env h).fin = .exc e h := rfl
theorem Fl.fin_stuck : Fl.stuck.fin = .stuck := rfl
theorem Out.of_ite {α : Type} {c : Prop} [Decidable c] (a b : Option α) (h : Hs) : Out.of (if c then a else b) h = if c then Out.of a h else Out.of b h := by split <;> rfl
end Fx

namespace Fx
open PySem L2

/-! ### what must hold ahead -/
/-- what simp may not walk into -/
inductive Keep {α : Type} (a : α) : Type where
  | mk
def wp {α : Type} (o : Out α) (Q : α → Hs → Prop) (X : T → Hs → Prop) (_d : Keep Q := .mk) (_e : Keep X := .mk) : Prop := match o with
  | .ok a h => Q a h
  | .exc e h => X e h
  | .stuck => False
def wf (o : Fl) (N B C : En → Hs → Prop) (R : R → Hs → Prop) (X : T → En → Hs → Prop) (_n : Keep N := .mk) (_b : Keep B := .mk) (_c : Keep C := .mk) (_d : Keep R := .mk) (_e : Keep X := .mk) : Prop := match o with
  | .nx env h => N env h
  | .bk env h => B env h
  | .ct env h => C env h
  | .rt r h => R r h
  | .exc e env h => X e env h
  | .stuck => False

section
variable {α β : Type} {Q : α → Hs → Prop} {X : T → Hs → Prop}
theorem w_ok {a : α} {h : Hs} : wp (.ok a h) Q X ↔ Q a h := Iff.rfl
theorem w_exc {e : T} {h : Hs} : wp (.exc e h : Out α) Q X ↔ X e h := Iff.rfl
theorem w_stuck : wp (.stuck : Out α) Q X ↔ False := Iff.rfl
theorem w_bind {o : Out β} {f : β → Hs → Out α} : wp (o.bind f) Q X ↔ wp o (fun a h => wp (f a h) Q X) X := by cases o <;> rfl
theorem w_of {o : Option α} {h : Hs} : wp (Out.of o h) Q X ↔ ∃ a, o = some a ∧ Q a h := by
  cases o with
  | none => exact ⟨fun e => e.elim, fun ⟨_, e, _⟩ => nomatch e⟩
  | some a => exact ⟨fun e => ⟨a, rfl, e⟩, fun ⟨_, e, q⟩ => by cases e; exact q⟩
theorem w_ofs {a : α} {h : Hs} : wp (Out.of (some a) h) Q X ↔ Q a h := Iff.rfl
theorem w_ofn {h : Hs} : wp (Out.of (none : Option α) h) Q X ↔ False := Iff.rfl
theorem w_ofm {γ : Type} {g : γ → α} {o : Option γ} {h : Hs} : wp (Out.of (o.map g) h) Q X ↔ wp (Out.of o h) (fun a h => Q (g a) h) X := by cases o <;> rfl
theorem w_if {c : Prop} [Decidable c] {a b : Out α} : wp (if c then a else b) Q X ↔ (c → wp a Q X) ∧ (¬c → wp b Q X) := by
  by_cases hc : c
  · rw [if_pos hc]; exact ⟨fun k => ⟨fun _ => k, fun n => absurd hc n⟩, fun k => k.1 hc⟩
  · rw [if_neg hc]; exact ⟨fun k => ⟨fun n => absurd n hc, fun _ => k⟩, fun k => k.2 hc⟩
theorem w_ofif {c : Prop} [Decidable c] {a b : Option α} {h : Hs} : wp (Out.of (if c then a else b) h) Q X ↔ (c → wp (Out.of a h) Q X) ∧ (¬c → wp (Out.of b h) Q X) := by
  rw [Out.of_ite]; exact w_if
theorem w_sel {k : Bool} {a b c : Out α} : wp (sel (some k) a b c) Q X ↔ (k = true → wp a Q X) ∧ (k = false → wp b Q X) := by
  cases k
  · exact ⟨fun z => ⟨fun n => (nomatch n), fun _ => z⟩, fun z => z.2 rfl⟩
  · exact ⟨fun z => ⟨fun _ => z, fun n => (nomatch n)⟩, fun z => z.1 rfl⟩
theorem wp_ext {o : Out α} {Q' : α → Hs → Prop} (e : ∀ a h, Q a h ↔ Q' a h) : wp o Q X ↔ wp o Q' X := by
  cases o with
  | ok a h => exact e a h
  | exc e h => exact Iff.rfl
  | stuck => exact Iff.rfl
theorem w_noX {o : Out α} : wp (noX o) Q X ↔ wp o Q (fun _ _ => False) := by cases o <;> rfl
theorem w_mono {o : Out α} {Q' : α → Hs → Prop} {X' : T → Hs → Prop} (h : wp o Q' X') (q : ∀ a h, Q' a h → Q a h) (x : ∀ e h, X' e h → X e h) : wp o Q X := by
  cases o with
  | ok a h' => exact q _ _ h
  | exc e h' => exact x _ _ h
  | stuck => exact h
end
section
variable {N B C : En → Hs → Prop} {R : R → Hs → Prop} {X : T → En → Hs → Prop} {env : En} {h : Hs}
theorem f_nx : wf (.nx env h) N B C R X ↔ N env h := Iff.rfl
theorem f_bk : wf (.bk env h) N B C R X ↔ B env h := Iff.rfl
theorem f_ct : wf (.ct env h) N B C R X ↔ C env h := Iff.rfl
theorem f_rt {r : Fx.R} : wf (.rt r h) N B C R X ↔ R r h := Iff.rfl
theorem f_exc {e : T} : wf (.exc e env h) N B C R X ↔ X e env h := Iff.rfl
theorem f_stuck : wf .stuck N B C R X ↔ False := Iff.rfl
theorem f_bind {o : Fl} {f : En → Hs → Fl} : wf (o.bind f) N B C R X ↔ wf o (fun env h => wf (f env h) N B C R X) B C R X := by cases o <;> rfl
theorem f_fl {α : Type} {o : Out α} {f : α → Hs → Fl} : wf (o.fl env f) N B C R X ↔ wp o (fun a h => wf (f a h) N B C R X) (fun e h => X e env h) := by cases o <;> rfl
theorem f_if {c : Prop} [Decidable c] {a b : Fl} : wf (if c then a else b) N B C R X ↔ (c → wf a N B C R X) ∧ (¬c → wf b N B C R X) := by
  by_cases hc : c
  · rw [if_pos hc]; exact ⟨fun k => ⟨fun _ => k, fun n => absurd hc n⟩, fun k => k.1 hc⟩
  · rw [if_neg hc]; exact ⟨fun k => ⟨fun n => absurd n hc, fun _ => k⟩, fun k => k.2 hc⟩
theorem f_sel {k : Bool} {a b c : Fl} : wf (sel (some k) a b c) N B C R X ↔ (k = true → wf a N B C R X) ∧ (k = false → wf b N B C R X) := by
  cases k
  · exact ⟨fun z => ⟨fun n => (nomatch n), fun _ => z⟩, fun z => z.2 rfl⟩
  · exact ⟨fun z => ⟨fun _ => z, fun n => (nomatch n)⟩, fun z => z.1 rfl⟩
theorem f_mono {o : Fl} {N' B' C' : En → Hs → Prop} {R' : Fx.R → Hs → Prop} {X' : T → En → Hs → Prop} (k : wf o N' B' C' R' X') (n : ∀ e h, N' e h → N e h) (b : ∀ e h, B' e h → B e h) (c : ∀ e h, C' e h → C e h) (r : ∀ e h, R' e h → R e h) (x : ∀ t e h, X' t e h → X t e h) : wf o N B C R X := by
  cases o with
  | nx e h' => exact n _ _ k
  | bk e h' => exact b _ _ k
  | ct e h' => exact c _ _ k
  | rt e h' => exact r _ _ k
  | exc t e h' => exact x _ _ _ k
  | stuck => exact k
variable {Γ : Cl}
theorem f_nil : wf (exs Γ .nil env h) N B C R X ↔ N env h := by simp only [exs, f_nx]
theorem f_cons {a : S} {r : Ss} : wf (exs Γ (.cons a r) env h) N B C R X ↔ wf (ex Γ a env h) (fun env1 h1 => wf (exs Γ r env1 h1) N B C R X) B C R X := by simp only [exs, f_bind]
def frzE (env : En) (i : Nat) : En := match env[i]? with
  | some (.own c) => env.set i (.val c.t)
  | _ => env
theorem f_frz {i : Nat} {r : Ss} : wf (exs Γ (.frz i r) env h) N B C R X ↔ wf (exs Γ r (frzE env i) h) N B C R X := by
  unfold frzE
  rw [exs]
  generalize env[i]? = o
  cases o with
  | none => rfl
  | some s => cases s <;> rfl
theorem f_pass : wf (ex Γ .pass env h) N B C R X ↔ N env h := by simp only [ex, f_nx]
theorem f_expr {e : E} : wf (ex Γ (.expr e) env h) N B C R X ↔ wp (ev Γ e env h) (fun _ h => N env h) (fun e h => X e env h) := by simp only [ex, f_fl, f_nx]; refine wp_ext fun x h1 => ?_; first | (simp only [w_bind, w_ofm, w_ok, f_nx, f_rt]; done) | (simp only [w_bind]; refine wp_ext fun y h2 => ?_; simp only [w_bind, w_ofm, w_ok]; done) | (simp only [w_bind]; refine wp_ext fun y h2 => ?_; simp only [w_bind]; refine wp_ext fun y h2 => ?_; simp only [w_bind, w_ofm, w_ok]; done)
def asgV (N : En → Hs → Prop) (env : En) (i : Nat) (h : Hs) (x : P) (_d : Keep N := .mk) : Prop := match x.k with
  | some t => N (env.set i (.val t)) h
  | none => False
theorem f_asg {i : Nat} {e : E} : wf (ex Γ (.asg i e) env h) N B C R X ↔ wp (ev Γ e env h) (fun x h1 => asgV N env i h1 x) (fun e h => X e env h) := by
  simp only [ex, f_fl]
  generalize ev Γ e env h = o
  cases o with
  | ok x h1 =>
    simp only [w_ok, asgV]
    cases x.k <;> rfl
  | exc => rfl
  | stuck => rfl
def asgOV (N : En → Hs → Prop) (env : En) (i : Nat) (h : Hs) (x : P) (_d : Keep N := .mk) : Prop := match x with
  | .new c => N (env.set i (.own c)) h
  | _ => False
theorem f_asgO {i : Nat} {e : E} : wf (ex Γ (.asgO i e) env h) N B C R X ↔ wp (ev Γ e env h) (fun x h1 => asgOV N env i h1 x) (fun e h => X e env h) := by
  simp only [ex, f_fl]
  generalize ev Γ e env h = o
  cases o with
  | ok x h1 => cases x <;> rfl
  | exc => rfl
  | stuck => rfl
def asgBV (N : En → Hs → Prop) (env : En) (i : Nat) (h : Hs) (x : P) (_d : Keep N := .mk) : Prop := match x with
  | .new c => N (env.set i (.val (.ref h.length))) (h ++ [c])
  | _ => False
theorem f_asgB {i : Nat} {e : E} : wf (ex Γ (.asgB i e) env h) N B C R X ↔ wp (ev Γ e env h) (fun x h1 => asgBV N env i h1 x) (fun e h => X e env h) := by
  simp only [ex, f_fl]
  generalize ev Γ e env h = o
  cases o with
  | ok x h1 => cases x <;> rfl
  | exc => rfl
  | stuck => rfl
theorem f_ret {e : E} : wf (ex Γ (.ret e) env h) N B C R X ↔ wp (ev Γ e env h) (fun x h1 => R x.ret h1) (fun e h => X e env h) := by simp only [ex, f_fl, f_rt]; refine wp_ext fun x h1 => ?_; first | (simp only [w_bind, w_ofm, w_ok, f_nx, f_rt]; done) | (simp only [w_bind]; refine wp_ext fun y h2 => ?_; simp only [w_bind, w_ofm, w_ok]; done) | (simp only [w_bind]; refine wp_ext fun y h2 => ?_; simp only [w_bind]; refine wp_ext fun y h2 => ?_; simp only [w_bind, w_ofm, w_ok]; done)
theorem f_retN : wf (ex Γ .retN env h) N B C R X ↔ R (.val .non) h := by simp only [ex, f_rt]
theorem f_ite {c : E} {a b : Ss} : wf (ex Γ (.ite c a b) env h) N B C R X ↔ wp (ev Γ c env h) (fun x h1 => wf (sel (truthB x) (exs Γ a env h1) (exs Γ b env h1) .stuck) N B C R X) (fun e h => X e env h) := by simp only [ex, f_fl]
theorem f_forr {tg : Tg} {it : It} {b : Ss} : wf (ex Γ (.forr tg it b) env h) N B C R X ↔ wp (evI Γ true it env h) (fun xs h1 => wf (forL tg (exs Γ b) xs env h1) N B C R X) (fun e h => X e env h) := by simp only [ex, f_fl]
end
section
variable {Q : P → Hs → Prop} {X : T → Hs → Prop} {env : En} {h : Hs} {Γ : Cl}
def varV (Q : P → Hs → Prop) (h : Hs) (i : Nat) (o : Option Slot) (_d : Keep Q := .mk) : Prop := match o with
  | some (.val t) => Q (.val t) h
  | some (.own c) => Q (.pk i c) h
  | _ => False
theorem w_var {i : Nat} : wp (ev Γ (.var i) env h) Q X ↔ varV Q h i env[i]? := by
  simp only [ev]
  generalize env[i]? = o
  cases o with
  | none => rfl
  | some s => cases s <;> rfl
theorem vV_v {i : Nat} {t : T} : varV Q h i (some (.val t)) ↔ Q (.val t) h := Iff.rfl
theorem vV_o {i : Nat} {c : Cell} : varV Q h i (some (.own c)) ↔ Q (.pk i c) h := Iff.rfl
theorem w_con {t : T} : wp (ev Γ (.con t) env h) Q X ↔ Q (.val t) h := by simp only [ev, w_ok]
theorem w_bin {op : PySem.Operator} {a b : E} : wp (ev Γ (.bin op a b) env h) Q X ↔ wp (ev Γ a env h) (fun x h1 => wp (ev Γ b env h1) (fun y h2 => wp (Out.of (opB op x.t y.t) h2) Q X) X) X := by simp only [ev, w_bind]; refine wp_ext fun x h1 => ?_; first | (simp only [w_bind, w_ofm, w_ok, f_nx, f_rt]; done) | (simp only [w_bind]; refine wp_ext fun y h2 => ?_; simp only [w_bind, w_ofm, w_ok]; done) | (simp only [w_bind]; refine wp_ext fun y h2 => ?_; simp only [w_bind]; refine wp_ext fun y h2 => ?_; simp only [w_bind, w_ofm, w_ok]; done)
theorem w_not {a : E} : wp (ev Γ (.not a) env h) Q X ↔ wp (ev Γ a env h) (fun x h1 => wp (Out.of (truthB x) h1) (fun b h2 => Q (.val (.bl (!b))) h2) X) X := by simp only [ev, w_bind, w_ofm]; refine wp_ext fun x h1 => ?_; first | (simp only [w_bind, w_ofm, w_ok, f_nx, f_rt]; done) | (simp only [w_bind]; refine wp_ext fun y h2 => ?_; simp only [w_bind, w_ofm, w_ok]; done) | (simp only [w_bind]; refine wp_ext fun y h2 => ?_; simp only [w_bind]; refine wp_ext fun y h2 => ?_; simp only [w_bind, w_ofm, w_ok]; done)
theorem w_and {l : Es} : wp (ev Γ (.and l) env h) Q X ↔ wp (evAnd Γ l env h) Q X := by simp only [ev]
theorem w_or {l : Es} : wp (ev Γ (.or l) env h) Q X ↔ wp (evOr Γ l env h) Q X := by simp only [ev]
theorem w_and1 {a : E} : wp (evAnd Γ (.cons a .nil) env h) Q X ↔ wp (ev Γ a env h) Q X := by simp only [evAnd]
theorem w_and2 {a b : E} {r : Es} : wp (evAnd Γ (.cons a (.cons b r)) env h) Q X ↔ wp (ev Γ a env h) (fun x h1 => wp (sel (truthB x) (evAnd Γ (.cons b r) env h1) (.ok (.val (.bl false)) h1) .stuck) Q X) X := by simp only [evAnd, w_bind]
theorem w_or1 {a : E} : wp (evOr Γ (.cons a .nil) env h) Q X ↔ wp (ev Γ a env h) Q X := by simp only [evOr]
theorem w_or2 {a b : E} {r : Es} : wp (evOr Γ (.cons a (.cons b r)) env h) Q X ↔ wp (ev Γ a env h) (fun x h1 => wp (sel (truthB x) (.ok (.val (.bl true)) h1) (evOr Γ (.cons b r) env h1) .stuck) Q X) X := by simp only [evOr, w_bind]
theorem w_cmp {op : CmpOp} {a b : E} : wp (ev Γ (.cmp op a b) env h) Q X ↔ wp (ev Γ a env h) (fun x h1 => wp (ev Γ b env h1) (fun y h2 => wp (Out.of (opC op x.t y.t) h2) (fun b h3 => Q (.val (.bl b)) h3) X) X) X := by simp only [ev, w_bind, w_ofm]; refine wp_ext fun x h1 => ?_; first | (simp only [w_bind, w_ofm, w_ok, f_nx, f_rt]; done) | (simp only [w_bind]; refine wp_ext fun y h2 => ?_; simp only [w_bind, w_ofm, w_ok]; done) | (simp only [w_bind]; refine wp_ext fun y h2 => ?_; simp only [w_bind]; refine wp_ext fun y h2 => ?_; simp only [w_bind, w_ofm, w_ok]; done)
theorem w_chn {a : E} {c : Ch} : wp (ev Γ (.chn a c) env h) Q X ↔ wp (ev Γ a env h) (fun x h1 => wp (evCh Γ c x.t env h1) Q X) X := by simp only [ev, w_bind]
theorem w_ch1 {op : CmpOp} {a : E} {x : T} : wp (evCh Γ (.one op a) x env h) Q X ↔ wp (ev Γ a env h) (fun y h2 => wp (Out.of (opC op x y.t) h2) (fun b h3 => Q (.val (.bl b)) h3) X) X := by simp only [evCh, w_bind, w_ofm]; refine wp_ext fun x h1 => ?_; first | (simp only [w_bind, w_ofm, w_ok, f_nx, f_rt]; done) | (simp only [w_bind]; refine wp_ext fun y h2 => ?_; simp only [w_bind, w_ofm, w_ok]; done) | (simp only [w_bind]; refine wp_ext fun y h2 => ?_; simp only [w_bind]; refine wp_ext fun y h2 => ?_; simp only [w_bind, w_ofm, w_ok]; done)
theorem w_ch2 {op : CmpOp} {a : E} {r : Ch} {x : T} : wp (evCh Γ (.more op a r) x env h) Q X ↔ wp (ev Γ a env h) (fun y h2 => wp (sel (opC op x y.t) (evCh Γ r y.t env h2) (.ok (.val (.bl false)) h2) .stuck) Q X) X := by simp only [evCh, w_bind]
theorem w_isN {p : Bool} {a : E} : wp (ev Γ (.isN p a) env h) Q X ↔ wp (ev Γ a env h) (fun x h1 => Q (.val (.bl (x.t.isNon == p))) h1) X := by simp only [ev, w_bind, w_ok]; refine wp_ext fun x h1 => ?_; first | (simp only [w_bind, w_ofm, w_ok, f_nx, f_rt]; done) | (simp only [w_bind]; refine wp_ext fun y h2 => ?_; simp only [w_bind, w_ofm, w_ok]; done) | (simp only [w_bind]; refine wp_ext fun y h2 => ?_; simp only [w_bind]; refine wp_ext fun y h2 => ?_; simp only [w_bind, w_ofm, w_ok]; done)
theorem w_ite {c a b : E} : wp (ev Γ (.ite c a b) env h) Q X ↔ wp (ev Γ c env h) (fun x h1 => wp (sel (truthB x) (ev Γ a env h1) (ev Γ b env h1) .stuck) Q X) X := by simp only [ev, w_bind]
theorem w_tup {l : Es} : wp (ev Γ (.tup l) env h) Q X ↔ wp (evs Γ l env h) (fun ts h1 => ts.length ≤ sizeLine ∧ Q (.val (.tup ts)) h1) X := by
  simp only [ev, w_bind, w_ofif, w_ofs, w_ofn]
  refine wp_ext fun ts h1 => ?_
  simp only [w_if, w_ofif, w_ofs, w_ofn, w_ok, w_stuck]
  by_cases q : ts.length ≤ sizeLine <;> simp [q, w_ok, w_stuck]
theorem w_lst {l : Es} : wp (ev Γ (.lst l) env h) Q X ↔ wp (evs Γ l env h) (fun ts h1 => ts.length ≤ sizeLine ∧ Q (.new (.lst ts)) h1) X := by
  simp only [ev, w_bind, w_ofif, w_ofs, w_ofn]
  refine wp_ext fun ts h1 => ?_
  simp only [w_if, w_ofif, w_ofs, w_ofn, w_ok, w_stuck]
  by_cases q : ts.length ≤ sizeLine <;> simp [q, w_ok, w_stuck]
theorem w_slc {a : E} {lo hi : OE} : wp (ev Γ (.slc a lo hi) env h) Q X ↔ wp (ev Γ a env h) (fun x h1 => wp (evO Γ lo env h1) (fun l h2 => wp (evO Γ hi env h2) (fun u h3 => wp (Out.of (opS x.t l u) h3) Q X) X) X) X := by simp only [ev, w_bind]; refine wp_ext fun x h1 => ?_; first | (simp only [w_bind, w_ofm, w_ok, f_nx, f_rt]; done) | (simp only [w_bind]; refine wp_ext fun y h2 => ?_; simp only [w_bind, w_ofm, w_ok]; done) | (simp only [w_bind]; refine wp_ext fun y h2 => ?_; simp only [w_bind]; refine wp_ext fun y h2 => ?_; simp only [w_bind, w_ofm, w_ok]; done)
theorem w_call {f : Str} {l : Es} : wp (ev Γ (.call f l) env h) Q X ↔ wp (evs Γ l env h) (fun ts h1 => wp (Γ.call f ts h1) (fun r h2 => Q r.p h2) X) X := by simp only [ev, w_bind, w_ok]; refine wp_ext fun x h1 => ?_; first | (simp only [w_bind, w_ofm, w_ok, f_nx, f_rt]; done) | (simp only [w_bind]; refine wp_ext fun y h2 => ?_; simp only [w_bind, w_ofm, w_ok]; done) | (simp only [w_bind]; refine wp_ext fun y h2 => ?_; simp only [w_bind]; refine wp_ext fun y h2 => ?_; simp only [w_bind, w_ofm, w_ok]; done)
theorem w_bi {f : Bi} {l : Es} : wp (ev Γ (.bi f l) env h) Q X ↔ wp (evp Γ l env h) (fun ts h1 => wp (Out.of (opF f ts) h1) Q X) X := by simp only [ev, w_bind]
theorem w_isi {a : E} {cs : List Cn} : wp (ev Γ (.isi a cs) env h) Q X ↔ wp (ev Γ a env h) (fun x h1 => wp (Out.of (opIs x.t cs) h1) (fun b h2 => Q (.val (.bl b)) h2) X) X := by simp only [ev, w_bind, w_ofm]; refine wp_ext fun x h1 => ?_; first | (simp only [w_bind, w_ofm, w_ok, f_nx, f_rt]; done) | (simp only [w_bind]; refine wp_ext fun y h2 => ?_; simp only [w_bind, w_ofm, w_ok]; done) | (simp only [w_bind]; refine wp_ext fun y h2 => ?_; simp only [w_bind]; refine wp_ext fun y h2 => ?_; simp only [w_bind, w_ofm, w_ok]; done)
def exV {α : Type} (K : α → Prop) (o : Option α) (_d : Keep K := .mk) : Prop := ∃ v, o = some v ∧ K v
theorem exV_some {α : Type} {K : α → Prop} {v : α} : exV K (some v) ↔ K v := by simp [exV]
theorem exV_map {α β : Type} {K : β → Prop} {f : α → β} {o : Option α} : exV K (o.map f) ↔ exV (fun v => K (f v)) o := by
  cases o with
  | none => simp [exV]
  | some v => simp [exV]
theorem exV_if {α : Type} {K : α → Prop} {c : Prop} [Decidable c] {o : Option α} : exV K (if c then o else none) ↔ c ∧ exV K o := by
  by_cases q : c <;> simp [q, exV]
def idxV (Q : P → Hs → Prop) (h : Hs) (i t : T) (_d : Keep Q := .mk) : Prop := match t with
  | .ref n => match h[n]? with
    | some (.lst l) => exV (fun v => Q (.val v) h) (opI (.lst l) i)
    | _ => False
  | t => exV (fun v => Q (.val v) h) (opI t i)
theorem w_idx {a i : E} : wp (ev Γ (.idx a i) env h) Q X ↔ wp (ev Γ a env h) (fun x h1 => wp (ev Γ i env h1) (fun y h2 => idxV Q h2 y.t x.t) X) X := by
  simp only [ev, w_bind]
  refine wp_ext fun x h1 => ?_
  simp only [w_bind]
  refine wp_ext fun y h2 => ?_
  unfold idxV
  generalize x.t = t
  cases t with
  | ref n =>
    dsimp only
    generalize h2[n]? = o
    cases o with
    | none => rfl
    | some c => cases c with
      | lst l => dsimp only; rw [w_ofm, w_of]; rfl
      | dk => rfl
      | dt => rfl
  | _ => dsimp only; rw [w_ofm, w_of]; rfl
theorem w_isB {p b : Bool} {a : E} : wp (ev Γ (.isB p b a) env h) Q X ↔ wp (ev Γ a env h) (fun x h1 => wp (Out.of (truthB x) h1) (fun c h2 => Q (.val (.bl (decide (c = b) == p))) h2) X) X := by
  simp only [ev, w_bind]
  exact wp_ext fun x h1 => w_ofm
def revV (Q : P → Hs → Prop) (h : Hs) (t : T) (_d : Keep Q := .mk) : Prop := match t with
  | .lst l => Q (.new (.lst l.reverse)) h
  | _ => False
theorem w_rev {a : E} : wp (ev Γ (.rev a) env h) Q X ↔ wp (ev Γ a env h) (fun x h1 => revV Q h1 x.t) X := by
  simp only [ev, w_bind]
  refine wp_ext fun x h1 => ?_
  unfold revV
  generalize x.t = t
  cases t <;> rfl
def lrgV (Q : P → Hs → Prop) (h : Hs) (s t : T) (_d : Keep Q := .mk) : Prop := match s, t with
  | .int i, .int j => smallR i j = true ∧ Q (.new (.lst (rangeT i j))) h
  | _, _ => False
theorem w_lrng1 {a : E} : wp (ev Γ (.lrng1 a) env h) Q X ↔ wp (ev Γ a env h) (fun x h1 => lrgV Q h1 (.int 0) x.t) X := by
  simp only [ev, w_bind]
  refine wp_ext fun x h1 => ?_
  unfold lrgV
  generalize x.t = t
  cases t with
  | int j => cases h : smallR 0 j <;> simp [w_ok, w_stuck, h]
  | _ => rfl
theorem w_lrng2 {a b : E} : wp (ev Γ (.lrng2 a b) env h) Q X ↔ wp (ev Γ a env h) (fun x h1 => wp (ev Γ b env h1) (fun y h2 => lrgV Q h2 x.t y.t) X) X := by
  simp only [ev, w_bind]
  refine wp_ext fun x h1 => ?_
  simp only [w_bind]
  refine wp_ext fun y h2 => ?_
  unfold lrgV
  generalize x.t = s
  generalize y.t = t
  cases s <;> cases t <;> try rfl
  rename_i i j
  cases h1 : smallR i j <;> simp [w_ok, w_stuck, h1]
def negV (Q : P → Hs → Prop) (h : Hs) (t : T) (_d : Keep Q := .mk) : Prop := match t with
  | .int i => Q (.val (.int (-i))) h
  | .bl k => Q (.val (.int (-(if k = true then (1 : Int) else 0)))) h
  | _ => False
theorem w_neg {a : E} : wp (ev Γ (.neg a) env h) Q X ↔ wp (ev Γ a env h) (fun x h1 => negV Q h1 x.t) X := by
  simp only [ev, w_bind]
  refine wp_ext fun x h1 => ?_
  unfold negV
  generalize x.t = t
  cases t <;> rfl
theorem w_mth {m : Mt} {a : E} {l : Es} : wp (ev Γ (.mth m a l) env h) Q X ↔ wp (ev Γ a env h) (fun x h1 => x.t.ty = some m.ty ∧ wp (evp Γ l env h1) (fun ts h2 => wp (Out.of (opM m x.t ts) h2) Q X) X) X := by
  simp only [ev, w_bind, w_if, w_stuck]
  refine wp_ext fun x h1 => ?_
  simp only [w_if, w_stuck, w_bind]
  by_cases q : x.t.ty = some m.ty <;> simp [q, w_bind, w_stuck]
theorem w_ono {Q : Option Int → Hs → Prop} : wp (evO Γ .no env h) Q X ↔ Q none h := by simp only [evO, w_ok]
def osoV (Q : Option Int → Hs → Prop) (h : Hs) (t : T) (_d : Keep Q := .mk) : Prop := match t with
  | .int i => Q (some i) h
  | _ => False
theorem w_oso {Q : Option Int → Hs → Prop} {a : E} : wp (evO Γ (.so a) env h) Q X ↔ wp (ev Γ a env h) (fun x h1 => osoV Q h1 x.t) X := by
  simp only [evO, w_bind]
  refine wp_ext fun x h1 => ?_
  unfold osoV
  generalize x.t = t
  cases t <;> rfl
theorem w_cno {Q : Bool → Hs → Prop} : wp (evC Γ .no env h) Q X ↔ Q true h := by simp only [evC, w_ok]
theorem w_cso {Q : Bool → Hs → Prop} {a : E} : wp (evC Γ (.so a) env h) Q X ↔ wp (ev Γ a env h) (fun x h1 => wp (Out.of (truthB x) h1) Q X) X := by simp only [evC, w_bind]
end
section
variable {Q : List T → Hs → Prop} {X : T → Hs → Prop} {env : En} {h : Hs} {Γ : Cl}
theorem w_nil : wp (evs Γ .nil env h) Q X ↔ Q [] h := by simp only [evs, w_ok]
def conV (K : T → Prop) (x : P) (_d : Keep K := .mk) : Prop := match x.k with
  | none => False
  | some t => K t
theorem w_cons {a : E} {r : Es} : wp (evs Γ (.cons a r) env h) Q X ↔ wp (ev Γ a env h) (fun x h1 => conV (fun t => wp (evs Γ r env h1) (fun ts h2 => Q (t :: ts) h2) X) x) X := by
  simp only [evs, w_bind]
  refine wp_ext fun x h1 => ?_
  unfold conV
  generalize x.k = o
  cases o with
  | none => rfl
  | some t => simp only [w_bind]; exact wp_ext fun a h => by simp only [w_ok]
theorem w_pnil : wp (evp Γ .nil env h) Q X ↔ Q [] h := by simp only [evp, w_ok]
theorem w_pcons {a : E} {r : Es} : wp (evp Γ (.cons a r) env h) Q X ↔ wp (ev Γ a env h) (fun x h1 => wp (evp Γ r env h1) (fun ts h2 => Q (x.t :: ts) h2) X) X := by simp only [evp, w_bind, w_ok]; refine wp_ext fun x h1 => ?_; first | (simp only [w_bind, w_ofm, w_ok, f_nx, f_rt]; done) | (simp only [w_bind]; refine wp_ext fun y h2 => ?_; simp only [w_bind, w_ofm, w_ok]; done) | (simp only [w_bind]; refine wp_ext fun y h2 => ?_; simp only [w_bind]; refine wp_ext fun y h2 => ?_; simp only [w_bind, w_ofm, w_ok]; done)
theorem w_ival {kp : Bool} {a : E} : wp (evI Γ kp (.val a) env h) Q X ↔ wp (ev Γ a env h) (fun x h1 => wp (Out.of ((x.u kp).bind itemsT) h1) Q X) X := by simp only [evI, w_bind]
def rngV (Q : List T → Hs → Prop) (h : Hs) (lo : Int) (t : T) (_d : Keep Q := .mk) : Prop := match t with
  | .int j => smallI j = true ∧ Q (rangeT lo j) h
  | _ => False
theorem w_rng1 {kp : Bool} {a : E} : wp (evI Γ kp (.rng1 a) env h) Q X ↔ wp (ev Γ a env h) (fun x h1 => rngV Q h1 0 x.t) X := by
  simp only [evI, w_bind]
  refine wp_ext fun x h1 => ?_
  unfold rngV
  generalize x.t = t
  cases t with
  | int j => cases h : smallI j <;> simp [w_ok, w_stuck, h]
  | _ => rfl
def rng2V (Q : List T → Hs → Prop) (h : Hs) (s t : T) (_d : Keep Q := .mk) : Prop := match s, t with
  | .int i, .int j => (smallI i = true ∧ smallI j = true) ∧ Q (rangeT i j) h
  | _, _ => False
theorem w_rng2 {kp : Bool} {a b : E} : wp (evI Γ kp (.rng2 a b) env h) Q X ↔ wp (ev Γ a env h) (fun x h1 => wp (ev Γ b env h1) (fun y h2 => rng2V Q h2 x.t y.t) X) X := by
  simp only [evI, w_bind]
  refine wp_ext fun x h1 => ?_
  simp only [w_bind]
  refine wp_ext fun y h2 => ?_
  unfold rng2V
  generalize x.t = s
  generalize y.t = t
  cases s <;> cases t <;> try rfl
  rename_i i j
  cases h1 : smallI i <;> cases h2 : smallI j <;> simp [w_ok, w_stuck, h1, h2]
def zipV (Q : List T → Hs → Prop) (h : Hs) (s t : T) (_d : Keep Q := .mk) : Prop := match s, t with
  | .lst xs, .lst ys => Q (xs.zipWith (fun x y => .tup [x, y]) ys) h
  | .tup xs, .tup ys => Q (xs.zipWith (fun x y => .tup [x, y]) ys) h
  | _, _ => False
theorem w_zip {a b : E} : wp (evI Γ false (.zip a b) env h) Q X ↔ wp (ev Γ a env h) (fun x h1 => wp (ev Γ b env h1) (fun y h2 => zipV Q h2 x.t y.t) X) X := by
  simp only [evI, w_bind, P.u, Bool.false_eq_true, if_false]
  refine wp_ext fun x h1 => ?_
  simp only [w_bind]
  refine wp_ext fun y h2 => ?_
  unfold zipV
  generalize x.t = s
  generalize y.t = t
  cases s <;> cases t <;> rfl
theorem w_zipk {a b : E} : wp (evI Γ true (.zip a b) env h) Q X ↔ wp (ev Γ a env h) (fun x h1 => conV (fun s => wp (ev Γ b env h1) (fun y h2 => conV (fun t => zipV Q h2 s t) y) X) x) X := by
  simp only [evI, w_bind, P.u, if_true]
  refine wp_ext fun x h1 => ?_
  unfold conV
  generalize x.k = o
  cases o with
  | none => rfl
  | some s =>
    simp only [w_bind]
    refine wp_ext fun y h2 => ?_
    unfold zipV
    generalize y.k = o
    cases o with
    | none => cases s <;> rfl
    | some t => cases s <;> cases t <;> rfl
theorem w_enu {kp : Bool} {a : E} : wp (evI Γ kp (.enu a) env h) Q X ↔ wp (ev Γ a env h) (fun x h1 => wp (Out.of ((x.u kp).bind itemsT) h1) (fun l h2 => Q (enuT l) h2) X) X := by
  simp only [evI, w_bind]
  exact wp_ext fun x h1 => w_ofm
end
section
variable {Q : P → Hs → Prop} {X : T → Hs → Prop} {env : En} {h : Hs} {Γ : Cl}
theorem w_call2 {p : Prg} {f : Str} {l : Es} {k : Nat} : wp (ev (p.cl k) (.call f l) env h) Q X ↔ wp (evs (p.cl k) l env h) (fun ts h1 => wp (callK p k f ts h1) (fun r h2 => Q r.p h2) X) X := w_call
/-- one turn of a comprehension -/
def turnL (Γ : Cl) (own : List Nat) (tg : Tg) (c : OE) (e : E) (env : En) (x : T) (h2 : Hs) : Out (Option T) := match putTg tg (wipeE env own) x with
  | none => .stuck
  | some env2 => (evC Γ c env2 h2).bind fun b h3 => if b then (ev Γ e env2 h3).bind fun r h4 => .of (r.k.map some) h4 else .ok none h3
theorem w_lc {own : List Nat} {tg : Tg} {it : It} {c : OE} {e : E} : wp (ev Γ (.lc own tg it c e) env h) Q X ↔ wp (evI Γ false it env h) (fun xs h1 => xs.length ≤ sizeLine ∧ freeE env own = true ∧ wp (lcL (turnL Γ own tg c e env) xs h1) (fun ys h5 => Q (.new (.lst ys)) h5) (fun _ _ => False)) X := by
  simp only [ev, w_bind]
  refine wp_ext fun xs h1 => ?_
  by_cases q : xs.length ≤ sizeLine ∧ freeE env own = true
  · rw [if_pos q, w_bind, w_noX]
    refine ⟨fun k => ⟨q.1, q.2, k⟩, fun k => k.2.2⟩
  · rw [if_neg q]
    exact ⟨fun k => k.elim, fun k => q ⟨k.1, k.2.1⟩⟩
theorem w_turn {own : List Nat} {tg : Tg} {c : OE} {e : E} {x : T} {env2 : En} {Q : Option T → Hs → Prop} (hp : putTg tg (wipeE env own) x = some env2) : wp (turnL Γ own tg c e env x h) Q X ↔ wp (evC Γ c env2 h) (fun b h3 => (b = true → wp (ev Γ e env2 h3) (fun r h4 => wp (Out.of r.k h4) (fun y h5 => Q (some y) h5) X) X) ∧ (b = false → Q none h3)) X := by
  unfold turnL
  simp only [hp, w_bind, w_if, w_ok, w_ofm]
  refine wp_ext fun b h1 => ?_
  cases b <;> simp [w_ok, w_bind]
  exact wp_ext fun x h => by simp only [w_ofm]
theorem w_lc2 {own : List Nat} {tg tg1 : Tg} {it it1 : It} {c : OE} {e : E} : wp (ev Γ (.lc2 own tg it tg1 it1 c e) env h) Q X ↔ wp (evI Γ false it env h) (fun xs h1 => freeE env own = true ∧ wp (lcL2 (turn2 Γ own tg tg1 it1 c e env) xs h1) (fun ys h5 => ys.length ≤ sizeLine ∧ Q (.new (.lst ys)) h5) (fun _ _ => False)) X := by
  rw [ev_lc2, w_bind]
  refine wp_ext fun xs h1 => ?_
  by_cases q : freeE env own = true
  · rw [if_pos q, w_bind, w_noX]
    have : ∀ o : Out (List T), wp o (fun a h => wp (if a.length ≤ sizeLine then Out.ok (P.new (.lst a)) h else Out.stuck) Q X) (fun _ _ => False) ↔ wp o (fun ys h5 => ys.length ≤ sizeLine ∧ Q (.new (.lst ys)) h5) (fun _ _ => False) := fun o => wp_ext fun ys h5 => by
      by_cases z : ys.length ≤ sizeLine <;> simp [z, w_ok, w_stuck]
    rw [this]
    exact ⟨fun k => ⟨q, k⟩, fun k => k.2⟩
  · rw [if_neg q]
    exact ⟨fun k => k.elim, fun k => q k.1⟩
theorem w_turn2 {own : List Nat} {tg tg1 : Tg} {it1 : It} {c : OE} {e : E} {x : T} {env2 : En} {Q : List T → Hs → Prop} (hp : putTg tg (wipeE env own) x = some env2) : wp (turn2 Γ own tg tg1 it1 c e env x h) Q X ↔ wp (evI Γ false it1 env2 h) (fun zs h3 => freeE env2 (tgSlots tg1) = true ∧ wp (lcL (turnL Γ (tgSlots tg1) tg1 c e env2) zs h3) Q X) X := by
  unfold turn2
  simp only [hp, w_bind]
  refine wp_ext fun zs h3 => ?_
  by_cases q : freeE env2 (tgSlots tg1) = true
  · rw [if_pos q]; exact ⟨fun k => ⟨q, k⟩, fun k => k.2⟩
  · rw [if_neg q]; exact ⟨fun k => k.elim, fun k => q k.1⟩
theorem w_lc2map {α : Type} {f : T → Hs → Out (List T)} {xs : List α} {e : α → T} {g : α → List T} {h : Hs} {Q : List T → Hs → Prop} {X : T → Hs → Prop} (k : ∀ x ∈ xs, wp (f (e x) h) (fun y h' => y = g x ∧ h' = h) (fun _ _ => False)) (q : Q (xs.flatMap g) h) : wp (lcL2 f (xs.map e) h) Q X := by
  have key : lcL2 f (xs.map e) h = .ok (xs.flatMap g) h := by
    clear q
    induction xs with
    | nil => rfl
    | cons x r ih =>
      have e1 : f (e x) h = .ok (g x) h := by
        have := k x (by simp)
        generalize f (e x) h = o at this
        cases o with
        | ok a h' => obtain ⟨rfl, rfl⟩ := this; rfl
        | exc => exact this.elim
        | stuck => exact this.elim
      simp only [List.map_cons, lcL2, e1, Out.bind_ok, ih (fun y hy => k y (by simp [hy])), List.flatMap_cons]
  rw [key]
  exact q
end
/-! ### loops -/
theorem lc_pure {f : T → Hs → Out (Option T)} {g : T → Option T} {xs : List T} {h : Hs} (k : ∀ x ∈ xs, f x h = .ok (g x) h) : lcL f xs h = .ok (xs.filterMap g) h := by
  induction xs with
  | nil => rfl
  | cons x xs ih =>
    simp only [lcL, k x (by simp), Out.bind_ok, ih (fun y hy => k y (by simp [hy]))]
    cases hg : g x <;> simp [List.filterMap, hg]
theorem w_lcpure {f : T → Hs → Out (Option T)} {xs : List T} {h : Hs} {Q : List T → Hs → Prop} {X : T → Hs → Prop} (g : T → Option T) (k : ∀ x ∈ xs, wp (f x h) (fun y h' => y = g x ∧ h' = h) (fun _ _ => False)) (q : Q (xs.filterMap g) h) : wp (lcL f xs h) Q X := by
  rw [lc_pure (g := g)]
  · exact q
  intro x hx
  have := k x hx
  generalize f x h = o at this
  cases o with
  | ok a h' => obtain ⟨rfl, rfl⟩ := this; rfl
  | exc => exact this.elim
  | stuck => exact this.elim
/-- each turn may change the heap -/
theorem w_lcinv {f : T → Hs → Out (Option T)} (I : Hs → Prop) (P : T → Prop) {Q : List T → Hs → Prop} {X : T → Hs → Prop} {xs : List T} {h : Hs} (hI : I h) (k : ∀ x ∈ xs, ∀ h, I h → wp (f x h) (fun y h' => I h' ∧ ∀ z, y = some z → P z) (fun _ _ => False)) (q : ∀ ys h', I h' → (∀ z ∈ ys, P z) → ys.length ≤ xs.length → Q ys h') : wp (lcL f xs h) Q X := by
  induction xs generalizing h Q with
  | nil => exact q [] h hI (by simp) (by simp)
  | cons x xs ih =>
    simp only [lcL, w_bind]
    refine w_mono (k x (by simp) h hI) ?_ (fun _ _ z => z.elim)
    intro y h1 ⟨hI1, hy⟩
    rw [w_bind]
    refine ih hI1 (fun z hz => k z (by simp [hz])) ?_
    intro ys h2 hI2 hys hl
    rw [w_ok]
    cases y with
    | none => exact q ys h2 hI2 hys (by simp; omega)
    | some z => exact q (z :: ys) h2 hI2 (by simpa using ⟨hy z rfl, hys⟩) (by simp; omega)
/-- as many as there are turns -/
theorem w_lcall {f : T → Hs → Out (Option T)} (I : Hs → Prop) (P : T → Prop) {Q : List T → Hs → Prop} {X : T → Hs → Prop} {xs : List T} {h : Hs} (hI : I h) (k : ∀ x ∈ xs, ∀ h, I h → wp (f x h) (fun y h' => I h' ∧ ∃ z, y = some z ∧ P z) (fun _ _ => False)) (q : ∀ ys h', I h' → (∀ z ∈ ys, P z) → ys.length = xs.length → Q ys h') : wp (lcL f xs h) Q X := by
  induction xs generalizing h Q with
  | nil => exact q [] h hI (by simp) (by simp)
  | cons x xs ih =>
    simp only [lcL, w_bind]
    refine w_mono (k x (by simp) h hI) ?_ (fun _ _ z => z.elim)
    intro y h1 ⟨hI1, z, hy, hz⟩
    subst hy
    rw [w_bind]
    refine ih hI1 (fun z hz => k z (by simp [hz])) ?_
    intro ys h2 hI2 hys hl
    rw [w_ok]
    exact q (z :: ys) h2 hI2 (by simpa using ⟨hz, hys⟩) (by simp; omega)
theorem f_forL {tg : Tg} {b : En → Hs → Fl} {N B C : En → Hs → Prop} {R : R → Hs → Prop} {X : T → En → Hs → Prop} (I : En → Hs → Prop) {xs : List T} {env : En} {h : Hs} (hI : I env h)
    (k : ∀ x ∈ xs, ∀ env h, I env h → ∃ env1, putTg tg env x = some env1 ∧ wf (b env1 h) I N I R X) (q : ∀ env h, I env h → N env h) : wf (forL tg b xs env h) N B C R X := by
  induction xs generalizing env h with
  | nil => exact q env h hI
  | cons x xs ih =>
    obtain ⟨env1, e, w⟩ := k x (by simp) env h hI
    simp only [forL, e]
    generalize b env1 h = o at w
    cases o with
    | nx e2 h2 => exact ih w (fun z hz => k z (by simp [hz]))
    | ct e2 h2 => exact ih w (fun z hz => k z (by simp [hz]))
    | bk e2 h2 => exact w
    | rt r h2 => exact w
    | exc t e2 h2 => exact w
    | stuck => exact w
/-- the turns counted -/
theorem f_forLi {tg : Tg} {b : En → Hs → Fl} {N B C : En → Hs → Prop} {R : R → Hs → Prop} {X : T → En → Hs → Prop} (I : List T → En → Hs → Prop) {xs : List T} {env : En} {h : Hs} (hI : I xs env h)
    (k : ∀ x r, ∀ env h, I (x :: r) env h → ∃ env1, putTg tg env x = some env1 ∧ wf (b env1 h) (I r) N (I r) R X) (q : ∀ env h, I [] env h → N env h) : wf (forL tg b xs env h) N B C R X := by
  induction xs generalizing env h with
  | nil => exact q env h hI
  | cons x xs ih =>
    obtain ⟨env1, e, w⟩ := k x xs env h hI
    simp only [forL, e]
    generalize b env1 h = o at w
    cases o with
    | nx e2 h2 => exact ih w
    | ct e2 h2 => exact ih w
    | bk e2 h2 => exact w
    | rt r h2 => exact w
    | exc t e2 h2 => exact w
    | stuck => exact w
/-! ### calls -/
theorem w_run {p : Prg} {x : Str} {f : Fn} (hf : Has p x f) {k : Nat} {ts : List T} {h : Hs} {Q : R → Hs → Prop} {X : T → Hs → Prop} (hl : ts.length = f.np) (w : wf (exs (p.cl k) f.body (startE f.ns ts) h) (fun _ h => Q (.val .non) h) (fun _ _ => False) (fun _ _ => False) Q (fun e _ h => X e h)) : wp (callK p (k + 1) x ts h) Q X := by
  rw [call_at hf]
  unfold runF
  rw [if_pos hl]
  generalize exs (p.cl k) f.body (startE f.ns ts) h = o at w
  cases o <;> exact w
theorem wp_eq {α : Type} {o : Out α} {a : α} {h : Hs} : wp o (fun b h' => b = a ∧ h' = h) (fun _ _ => False) ↔ o = .ok a h := by
  cases o with
  | ok b h' => exact ⟨fun ⟨e, e'⟩ => by rw [e, e'], fun e => by cases e; exact ⟨rfl, rfl⟩⟩
  | exc => exact ⟨fun e => e.elim, fun e => nomatch e⟩
  | stuck => exact ⟨fun e => e.elim, fun e => nomatch e⟩
end Fx

namespace Fx
open PySem L2

/-! ### the values, one by one -/
theorem ixN_nat {n j : Nat} (h : j < n) : ixN n (j : Int) = some j := by
  unfold ixN
  rw [if_pos (by omega), if_pos (by omega)]
  simp
theorem atI_nat {α : Type} {l : List α} {n : Nat} : atI l (n : Int) = l[n]? := by
  unfold atI ixN
  rw [if_pos (by omega)]
  by_cases h : n < l.length
  · rw [if_pos (by omega)]; simp
  · rw [if_neg (by omega)]; simp; omega
theorem atI_2 {α : Type} {l : List α} : atI l 2 = l[2]? := atI_nat (n := 2)
theorem atI_3 {α : Type} {l : List α} : atI l 3 = l[3]? := atI_nat (n := 3)
theorem atI_4 {α : Type} {l : List α} : atI l 4 = l[4]? := atI_nat (n := 4)
theorem atI_0 {α : Type} {l : List α} : atI l 0 = l[0]? := atI_nat (n := 0)
theorem atI_1 {α : Type} {l : List α} : atI l 1 = l[1]? := atI_nat (n := 1)
theorem atI_lt {α : Type} {l : List α} {i : Int} (h0 : 0 ≤ i) (h1 : i < l.length) : ∃ v, atI l i = some v ∧ v ∈ l := by
  obtain ⟨n, rfl⟩ := Int.eq_ofNat_of_zero_le h0
  rw [atI_nat]
  have hn : n < l.length := by omega
  exact ⟨l[n], List.getElem?_eq_getElem hn, List.getElem_mem hn⟩
section
variable {α : Type} {Q : α → Hs → Prop} {X : T → Hs → Prop} {h : Hs}
theorem w_ofc {c : Prop} [Decidable c] {a : α} : wp (Out.of (if c then some a else none) h) Q X ↔ c ∧ Q a h := by
  rw [w_ofif, w_ofs, w_ofn]
  by_cases q : c <;> simp [q]
theorem w_ofmap {β : Type} {o : Option β} {f : β → α} : wp (Out.of (o.map f) h) Q X ↔ wp (Out.of o h) (fun a h => Q (f a) h) X := w_ofm
end
theorem P.t_val {t : T} : (P.val t).t = t := rfl
theorem P.t_new {l : List T} : (P.new (.lst l)).t = .lst l := rfl
theorem P.t_pk {i : Nat} {l : List T} : (P.pk i (.lst l)).t = .lst l := rfl
theorem P.k_val {t : T} : (P.val t).k = some t := rfl
theorem P.k_new {l : List T} : (P.new (.lst l)).k = some (.lst l) := rfl
theorem P.k_pk {i : Nat} {c : Cell} : (P.pk i c).k = none := rfl
theorem P.u_t {p : P} : p.u false = some p.t := rfl
theorem P.u_k {p : P} : p.u true = p.k := rfl
theorem P.ret_val {t : T} : (P.val t).ret = .val t := rfl
theorem P.ret_new {c : Cell} : (P.new c).ret = .new c := rfl
theorem P.ret_pk {i : Nat} {c : Cell} : (P.pk i c).ret = .new c := rfl
theorem R.p_val {t : T} : (R.val t).p = .val t := rfl
theorem R.p_new {c : Cell} : (R.new c).p = .new c := rfl
theorem truthB_bl {b : Bool} : truthB (.val (.bl b)) = some b := rfl
theorem Cell.t_lst {l : List T} : (Cell.lst l).t = .lst l := rfl
section
variable {i j : Int} {a b : Str} {l m : List T} {s t : T}
theorem oB_add : opB .Add (.int i) (.int j) = some (.val (.int (i + j))) := rfl
theorem oB_addb {k : Bool} : opB .Add (.bl k) (.int j) = some (.val (.int ((if k = true then (1 : Int) else 0) + j))) := rfl
theorem oB_subb {k : Bool} : opB .Sub (.bl k) (.int j) = some (.val (.int ((if k = true then (1 : Int) else 0) - j))) := rfl
theorem oB_adds : opB .Add (.str a) (.str b) = if a.length + b.length ≤ sizeLine then some (.val (.str (a ++ b))) else none := rfl
theorem oB_addl : opB .Add (.lst l) (.lst m) = if l.length + m.length ≤ sizeLine then some (.new (.lst (l ++ m))) else none := rfl
theorem oB_addt : opB .Add (.tup l) (.tup m) = if l.length + m.length ≤ sizeLine then some (.val (.tup (l ++ m))) else none := rfl
theorem oB_sub : opB .Sub (.int i) (.int j) = some (.val (.int (i - j))) := rfl
theorem oB_mul : opB .Mult (.int i) (.int j) = if i.natAbs.log2 + j.natAbs.log2 < 1000000 then some (.val (.int (i * j))) else none := rfl
theorem oB_mull : opB .Mult (.lst l) (.int j) = if -(2 ^ 63) ≤ j ∧ j < 2 ^ 63 ∧ l.length * j.toNat ≤ sizeLine then some (.new (.lst (List.replicate j.toNat l).flatten)) else none := rfl
theorem oB_div : opB .FloorDiv (.int i) (.int j) = if 0 < j ∧ j.natAbs.log2 < 9000 then some (.val (.int (i / j))) else none := rfl
theorem oB_mod : opB .Mod (.int i) (.int j) = if 0 < j then some (.val (.int (i % j))) else none := rfl
theorem oB_pow : opB .Pow (.int i) (.int j) = if 0 ≤ j ∧ j ≤ 1000000 ∧ i.natAbs < 2 ^ 64 then some (.val (.int (i ^ j.toNat))) else none := rfl
theorem oC_eq : opC .Eq s t = if okEq s t then some (eqT s t) else none := rfl
theorem oC_ne : opC .NotEq s t = if okEq s t then some (!eqT s t) else none := rfl
theorem oC_lt : opC .Lt (.int i) (.int j) = some (decide (i < j)) := rfl
theorem oC_le : opC .LtE (.int i) (.int j) = some (decide (i ≤ j)) := rfl
theorem oC_gt : opC .Gt (.int i) (.int j) = some (decide (j < i)) := rfl
theorem oC_ge : opC .GtE (.int i) (.int j) = some (decide (j ≤ i)) := rfl
theorem oC_lts : opC .Lt (.str a) (.str b) = some (decide (a.cps.toList < b.cps.toList)) := rfl
theorem oC_gts : opC .Gt (.str a) (.str b) = some (decide (b.cps.toList < a.cps.toList)) := rfl
theorem oC_les : opC .LtE (.str a) (.str b) = some (!decide (b.cps.toList < a.cps.toList)) := rfl
theorem oC_ges : opC .GtE (.str a) (.str b) = some (!decide (a.cps.toList < b.cps.toList)) := rfl
theorem oC_ltt : opC .Lt (.tup l) (.tup m) = if okLt (.tup l) (.tup m) then some (ltT (.tup l) (.tup m)) else none := rfl
theorem oC_ltl : opC .Lt (.lst l) (.lst m) = if okLt (.lst l) (.lst m) then some (ltT (.lst l) (.lst m)) else none := rfl
theorem oC_inl : opC .In s (.lst l) = if okEq s s && okEq (.lst l) (.lst l) then some (l.any fun z => eqT z s) else none := by
  cases s <;> try rfl
  rename_i x; obtain ⟨⟨cs⟩⟩ := x
  cases cs with
  | nil => rfl
  | cons c r => cases r <;> rfl
theorem oC_notinl : opC .NotIn s (.lst l) = if okEq s s && okEq (.lst l) (.lst l) then some (!l.any fun z => eqT z s) else none := by
  cases s <;> try rfl
  rename_i x; obtain ⟨⟨cs⟩⟩ := x
  cases cs with
  | nil => rfl
  | cons c r => cases r <;> rfl
theorem oB_mult : opB .Mult (.tup l) (.int j) = if l.isEmpty = false ∧ 2 ≤ j ∧ j ≤ 1000 ∧ l.length ≤ 1000 then some (.val (.tup (List.replicate j.toNat l).flatten)) else none := rfl
theorem fSort_l : opF .sorted [.lst l] = if okSort l then some (.new (.lst (sortT l))) else none := rfl
theorem fSort_t : opF .sorted [.tup l] = if okSort l then some (.new (.lst (sortT l))) else none := rfl
theorem fOrd_c {c : Nat} : opF .ord [.str ⟨#[c]⟩] = some (.val (.int (c : Nat))) := rfl
theorem oC_in {c : Nat} : opC .In (.str ⟨#[c]⟩) (.str b) = some (decide (c ∈ b.cps.toList)) := rfl
theorem oC_notin {c : Nat} : opC .NotIn (.str ⟨#[c]⟩) (.str b) = some (!decide (c ∈ b.cps.toList)) := rfl
theorem okEq_ii : okEq (.int i) (.int j) = true := rfl
theorem okEq_bb {p q : Bool} : okEq (.bl p) (.bl q) = true := rfl
theorem okEq_ss : okEq (.str a) (.str b) = (PySem.PyData.strOk a && PySem.PyData.strOk b) := by unfold okEq; simp [T.isD, T.dep]
theorem eqT_ii : eqT (.int i) (.int j) = (i == j) := rfl
theorem eqT_bb {p q : Bool} : eqT (.bl p) (.bl q) = (p == q) := by cases p <;> cases q <;> rfl
theorem eqT_ss : eqT (.str a) (.str b) = (a == b) := rfl
theorem opI_l : opI (.lst l) (.int i) = atI l i := rfl
theorem opI_c : opI (.scr l) (.int i) = atI l i := rfl
theorem opI_t : opI (.tup l) (.int i) = atI l i := rfl
theorem opI_s : opI (.str a) (.int i) = if a.length ≤ sizeLine then (atI a.cps.toList i).map fun c => .str ⟨#[c]⟩ else none := rfl
theorem opS_l {lo hi : Option Int} : opS (.lst l) lo hi = some (.new (.lst (cutT l lo hi))) := rfl
theorem opS_t {lo hi : Option Int} : opS (.tup l) lo hi = some (.val (.tup (cutT l lo hi))) := rfl
theorem opS_s {lo hi : Option Int} : opS (.str a) lo hi = if a.length ≤ sizeLine then some (.val (.str (cutS a lo hi))) else none := rfl
section
variable {Q : P → Hs → Prop} {h : Hs} {n : Nat}
theorem iV_l : idxV Q h t (.lst l) ↔ exV (fun v => Q (.val v) h) (opI (.lst l) t) := Iff.rfl
theorem iV_t : idxV Q h t (.tup l) ↔ exV (fun v => Q (.val v) h) (opI (.tup l) t) := Iff.rfl
theorem iV_s : idxV Q h t (.str a) ↔ exV (fun v => Q (.val v) h) (opI (.str a) t) := Iff.rfl
theorem iV_c : idxV Q h t (.scr l) ↔ exV (fun v => Q (.val v) h) (opI (.scr l) t) := Iff.rfl
theorem iV_r (e : h[n]? = some (.lst l)) : idxV Q h t (.ref n) ↔ exV (fun v => Q (.val v) h) (opI (.lst l) t) := by unfold idxV; simp only [e]
theorem nV_i : negV Q h (.int i) ↔ Q (.val (.int (-i))) h := Iff.rfl
theorem nV_b {k : Bool} : negV Q h (.bl k) ↔ Q (.val (.int (-(if k = true then (1 : Int) else 0)))) h := Iff.rfl
theorem oV_i {Q : Option Int → Hs → Prop} : osoV Q h (.int i) ↔ Q (some i) h := Iff.rfl
theorem r2V_i {Q : List T → Hs → Prop} : rng2V Q h (.int i) (.int j) ↔ (smallI i = true ∧ smallI j = true) ∧ Q (rangeT i j) h := Iff.rfl
theorem zV_l {Q : List T → Hs → Prop} : zipV Q h (.lst l) (.lst m) ↔ Q (l.zipWith (fun x y => .tup [x, y]) m) h := Iff.rfl
theorem zV_t {Q : List T → Hs → Prop} : zipV Q h (.tup l) (.tup m) ↔ Q (l.zipWith (fun x y => .tup [x, y]) m) h := Iff.rfl
theorem vV_l : revV Q h (.lst l) ↔ Q (.new (.lst l.reverse)) h := Iff.rfl
theorem lV_i : lrgV Q h (.int i) (.int j) ↔ smallR i j = true ∧ Q (.new (.lst (rangeT i j))) h := Iff.rfl
theorem rV_i {Q : List T → Hs → Prop} : rngV Q h i (.int j) ↔ smallI j = true ∧ Q (rangeT i j) h := Iff.rfl
end
section
variable {N : En → Hs → Prop} {env : En} {h : Hs} {k : Nat} {c : Cell} {K : T → Prop}
theorem aV_v : asgV N env k h (.val t) ↔ N (env.set k (.val t)) h := Iff.rfl
theorem aV_n : asgV N env k h (.new (.lst l)) ↔ N (env.set k (.val (.lst l))) h := Iff.rfl
theorem aO_n : asgOV N env k h (.new c) ↔ N (env.set k (.own c)) h := Iff.rfl
theorem aB_n : asgBV N env k h (.new c) ↔ N (env.set k (.val (.ref h.length))) (h ++ [c]) := Iff.rfl
theorem cV_v : conV K (.val t) ↔ K t := Iff.rfl
theorem cV_n : conV K (.new (.lst l)) ↔ K (.lst l) := Iff.rfl
end
theorem fLen_l : opF .len [.lst l] = some (.val (.int l.length)) := rfl
theorem fLen_t : opF .len [.tup l] = some (.val (.int l.length)) := rfl
theorem fLen_c : opF .len [.scr l] = some (.val (.int l.length)) := rfl
theorem fLen_s : opF .len [.str a] = if a.length ≤ sizeLine then some (.val (.int a.length)) else none := rfl
theorem fAbs_i : opF .abs [.int i] = some (.val (.int (if i < 0 then -i else i))) := rfl
theorem fMin_i : opF .min [.int i, .int j] = some (.val (.int (min i j))) := by
  show some (P.val (.int (if j < i then j else i))) = _
  rw [show (if j < i then j else i) = min i j from by split <;> omega]
theorem fMax_i : opF .max [.int i, .int j] = some (.val (.int (max i j))) := by
  show some (P.val (.int (if j > i then j else i))) = _
  rw [show (if j > i then j else i) = max i j from by split <;> omega]
theorem fSum_l : opF .sum [.lst l] = (ints? l).map fun ns => .val (.int ns.sum) := rfl
theorem fAll_l : opF .all [.lst l] = (bls? l).map fun ns => .val (.bl (ns.all id)) := rfl
theorem fAny_l : opF .any [.lst l] = (bls? l).map fun ns => .val (.bl (ns.any id)) := rfl
theorem fInt_i : opF .int [.int i] = some (.val (.int i)) := rfl
theorem fInt_b {p : Bool} : opF .int [.bl p] = some (.val (.int (if p then 1 else 0))) := rfl
theorem fStr_i : opF .str [.int i] = if i.natAbs.log2 < 1920 then some (.val (.str (toString i))) else none := rfl
theorem fStr_b {k : Bool} : opF .str [.bl k] = some (.val (.str (if k then "True" else "False"))) := rfl
theorem fStr_s : opF .str [.str a] = some (.val (.str a)) := rfl
theorem fList_l : opF .list [.lst l] = some (.new (.lst l)) := rfl
theorem fList_t : opF .list [.tup l] = some (.new (.lst l)) := rfl
theorem fTuple_l : opF .tuple [.lst l] = some (.val (.tup l)) := rfl
theorem fTuple_t : opF .tuple [.tup l] = some (.val (.tup l)) := rfl
theorem mJoin_l : opM .join (.str a) [.lst l] = (strs? l).bind fun ys => if (ys.map (·.length)).sum + ys.length * a.length ≤ 16777216 then some (.val (.str (Txt.join a ys))) else none := rfl
theorem mUp_s : opM .upper (.str a) [] = if a.length ≤ 5592405 then some (.val (.str (Txt.upper a))) else none := rfl
theorem isI_non {cs : List Cn} : opIs .non cs = some (cs.any (isTy .non)) := rfl
theorem isI_bl {p : Bool} {cs : List Cn} : opIs (.bl p) cs = some (cs.any (isTy .bool)) := rfl
theorem isI_int {cs : List Cn} : opIs (.int i) cs = some (cs.any (isTy .int)) := rfl
theorem isI_str {cs : List Cn} : opIs (.str a) cs = some (cs.any (isTy .str)) := rfl
theorem isI_tup {cs : List Cn} : opIs (.tup l) cs = some (cs.any (isTy .tuple)) := rfl
theorem isI_lst {cs : List Cn} : opIs (.lst l) cs = some (cs.any (isTy .list)) := rfl
theorem itemsT_l : itemsT (.lst l) = some l := rfl
theorem itemsT_t : itemsT (.tup l) = some l := rfl
theorem itemsT_s : itemsT (.str a) = some (signsT a) := rfl
theorem putTg_nm {n : Nat} {env : En} : putTg (.nm n) env t = some (env.set n (.val t)) := rfl
theorem putTg_tp {n : List Nat} {env : En} : putTg (.tp n) env (.tup l) = putEs env n l := rfl
theorem Prg.cl_call {p : Prg} {k : Nat} : (p.cl k).call = callK p k := rfl
theorem Prg.cl_glob {p : Prg} {k : Nat} {x : Str} : (p.cl k).glob x = p.glob.lookup x := rfl
theorem augT_add : augT .Add (.int i) (.int j) = some (.int (i + j)) := rfl
theorem augT_sub : augT .Sub (.int i) (.int j) = some (.int (i - j)) := rfl
end
theorem w_val {Γ : Cl} {i : Nat} {env : En} {h : Hs} {Q : P → Hs → Prop} {X : T → Hs → Prop} {t : T} (e : env[i]? = some (.val t)) : wp (ev Γ (.var i) env h) Q X ↔ Q (.val t) h := by simp only [ev, e, w_ok]
theorem w_own {Γ : Cl} {i : Nat} {env : En} {h : Hs} {Q : P → Hs → Prop} {X : T → Hs → Prop} {c : Cell} (e : env[i]? = some (.own c)) : wp (ev Γ (.var i) env h) Q X ↔ Q (.pk i c) h := by simp only [ev, e, w_ok]
theorem w_glo {p : Prg} {k : Nat} {x : Str} {t : T} {env : En} {h : Hs} {Q : P → Hs → Prop} {X : T → Hs → Prop} (e : p.glob.lookup x = some t) : wp (ev (p.cl k) (.glo x) env h) Q X ↔ Q (.val t) h := by
  simp only [ev, Prg.cl_glob, e, Option.map_some, Out.of_some, w_ok]
theorem f_frz1 {Γ : Cl} {i : Nat} {r : Ss} {c : Cell} {env : En} {h : Hs} {N B C : En → Hs → Prop} {R : R → Hs → Prop} {X : T → En → Hs → Prop} (e : env[i]? = some (.own c)) : wf (exs Γ (.frz i r) env h) N B C R X ↔ wf (exs Γ r (env.set i (.val c.t)) h) N B C R X := by
  rw [f_frz]; unfold frzE; simp only [e]
theorem f_frz0 {Γ : Cl} {i : Nat} {r : Ss} {t : T} {env : En} {h : Hs} {N B C : En → Hs → Prop} {R : R → Hs → Prop} {X : T → En → Hs → Prop} (e : env[i]? = some (.val t)) : wf (exs Γ (.frz i r) env h) N B C R X ↔ wf (exs Γ r env h) N B C R X := by
  rw [f_frz]; unfold frzE; simp only [e]
theorem f_frzn {Γ : Cl} {i : Nat} {r : Ss} {env : En} {h : Hs} {N B C : En → Hs → Prop} {R : R → Hs → Prop} {X : T → En → Hs → Prop} (e : env[i]? = some .no) : wf (exs Γ (.frz i r) env h) N B C R X ↔ wf (exs Γ r env h) N B C R X := by
  rw [f_frz]; unfold frzE; simp only [e]
theorem f_app {Γ : Cl} {i : Nat} {a : E} {l : List T} {env : En} {h : Hs} {N B C : En → Hs → Prop} {R : R → Hs → Prop} {X : T → En → Hs → Prop} (e : env[i]? = some (.own (.lst l))) : wf (ex Γ (.app i a) env h) N B C R X ↔ wp (ev Γ a env h) (fun x h1 => conV (fun t => l.length < sizeLine ∧ N (env.set i (.own (.lst (l ++ [t])))) h1) x) (fun e h => X e env h) := by
  have q : isLst env h i = true := by unfold isLst; simp only [e]
  simp only [ex, q, if_true, f_fl]
  refine wp_ext fun x h1 => ?_
  unfold conV
  generalize x.k = o
  cases o with
  | none => rfl
  | some t => simp only [e, f_if, f_nx, f_stuck]; by_cases z : l.length < sizeLine <;> simp [z]
/-- a cell changed -/
theorem f_setr {Γ : Cl} {i n : Nat} {ix e : E} {env : En} {h : Hs} {N B C : En → Hs → Prop} {R : R → Hs → Prop} {X : T → En → Hs → Prop} (er : env[i]? = some (.val (.ref n))) : wf (ex Γ (.seti i ix e) env h) N B C R X ↔ wp (ev Γ e env h) (fun x h1 => conV (fun t => wp (ev Γ ix env h1) (fun k h2 => ∃ l z j, h2[n]? = some (.lst l) ∧ k.t = .int z ∧ ixN l.length z = some j ∧ N env (h2.set n (.lst (l.set j t)))) (fun e h => X e env h)) x) (fun e h => X e env h) := by
  have q : hasSlot env i = true := by unfold hasSlot; simp only [er]
  simp only [ex, f_fl, q, if_true]
  refine wp_ext fun x h1 => ?_
  unfold conV
  generalize x.k = o
  cases o with
  | none => rfl
  | some t =>
    simp only [f_fl]
    refine wp_ext fun k h2 => ?_
    unfold setAt
    simp only [er]
    generalize k.t = kt
    cases hh : h2[n]? with
    | none => simp [f_stuck]
    | some c => cases c with
      | dk => simp [f_stuck]
      | dt => simp [f_stuck]
      | lst l => cases kt <;> simp [f_stuck]
                 rename_i z
                 cases hz : ixN l.length z <;> simp [f_stuck, f_nx]
theorem f_seto {Γ : Cl} {i : Nat} {l : List T} {ix e : E} {env : En} {h : Hs} {N B C : En → Hs → Prop} {R : R → Hs → Prop} {X : T → En → Hs → Prop} (er : env[i]? = some (.own (.lst l))) : wf (ex Γ (.seti i ix e) env h) N B C R X ↔ wp (ev Γ e env h) (fun x h1 => conV (fun t => wp (ev Γ ix env h1) (fun k h2 => ∃ z j, k.t = .int z ∧ ixN l.length z = some j ∧ N (env.set i (.own (.lst (l.set j t)))) h2) (fun e h => X e env h)) x) (fun e h => X e env h) := by
  have q : hasSlot env i = true := by unfold hasSlot; simp only [er]
  simp only [ex, f_fl, q, if_true]
  refine wp_ext fun x h1 => ?_
  unfold conV
  generalize x.k = o
  cases o with
  | none => rfl
  | some t =>
    simp only [f_fl]
    refine wp_ext fun k h2 => ?_
    unfold setAt
    simp only [er]
    generalize k.t = kt
    cases kt <;> simp [f_stuck]
    rename_i z
    cases hz : ixN l.length z <;> simp [f_stuck, f_nx]
end Fx

namespace Fx
open PySem L2

/-! ### stores, walked by their slot -/
section
variable {Γ : Cl} {N B C : En → Hs → Prop} {R : R → Hs → Prop} {X : T → En → Hs → Prop} {env : En} {h : Hs}
def slotV (K : T → Prop) (o : Option Slot) (_d : Keep K := .mk) : Prop := match o with
  | some (.val t) => K t
  | _ => False
theorem sV_v {K : T → Prop} {t : T} : slotV K (some (.val t)) ↔ K t := Iff.rfl
theorem f_aug {i : Nat} {op : PySem.Operator} {e : E} : wf (ex Γ (.aug i op e) env h) N B C R X ↔ slotV (fun t => wp (ev Γ e env h) (fun y h1 => exV (fun u => N (env.set i (.val u)) h1) (augT op t y.t)) (fun e h => X e env h)) env[i]? := by
  simp only [ex]
  generalize env[i]? = o
  cases o with
  | none => rfl
  | some s =>
    cases s with
    | no => rfl
    | own c => rfl
    | val t =>
      simp only [sV_v, f_fl]
      refine wp_ext fun y h1 => ?_
      cases augT op t y.t with
      | none => simp [exV, f_stuck]
      | some u => simp [exV, f_nx]
/-- a thing changed in place: a name's own list, or a cell -/
def mutV (K : List T → Prop) (J : Nat → Prop) (o : Option Slot) (_d : Keep K := .mk) (_e : Keep J := .mk) : Prop := match o with
  | some (.own (.lst l)) => K l
  | some (.val (.ref n)) => J n
  | _ => False
theorem mV_o {K : List T → Prop} {J : Nat → Prop} {l : List T} : mutV K J (some (.own (.lst l))) ↔ K l := Iff.rfl
theorem mV_r {K : List T → Prop} {J : Nat → Prop} {n : Nat} : mutV K J (some (.val (.ref n))) ↔ J n := Iff.rfl
/-- the list in a cell -/
def cellV (K : List T → Prop) (o : Option Cell) (_d : Keep K := .mk) : Prop := match o with
  | some (.lst l) => K l
  | _ => False
theorem ceV_l {K : List T → Prop} {l : List T} : cellV K (some (.lst l)) ↔ K l := Iff.rfl
theorem f_app2 {i : Nat} {a : E} : wf (ex Γ (.app i a) env h) N B C R X ↔ mutV (fun l => wp (ev Γ a env h) (fun x h1 => conV (fun t => l.length < sizeLine ∧ N (env.set i (.own (.lst (l ++ [t])))) h1) x) (fun e h => X e env h))
    (fun n => cellV (fun _ => wp (ev Γ a env h) (fun x h1 => conV (fun t => cellV (fun l => l.length < sizeLine ∧ N env (h1.set n (.lst (l ++ [t])))) h1[n]?) x) (fun e h => X e env h)) h[n]?) env[i]? := by
  cases eo : env[i]? with
  | none => simp [ex, isLst, eo, mutV, f_stuck]
  | some s =>
    cases s with
    | no => simp [ex, isLst, eo, mutV, f_stuck]
    | own c =>
      cases c with
      | dk _ _ => simp [ex, isLst, eo, mutV, f_stuck]
      | dt _ _ => simp [ex, isLst, eo, mutV, f_stuck]
      | lst l => rw [mV_o]; exact f_app eo
    | val t =>
      cases t with
      | ref n =>
        rw [mV_r]
        cases eh : h[n]? with
        | none => simp [ex, isLst, eo, eh, cellV, f_stuck]
        | some c =>
          cases c with
          | dk _ _ => simp [ex, isLst, eo, eh, cellV, f_stuck]
          | dt _ _ => simp [ex, isLst, eo, eh, cellV, f_stuck]
          | lst l0 =>
            have q : isLst env h i = true := by unfold isLst; simp only [eo, eh]
            simp only [ex, q, if_true, f_fl, ceV_l]
            refine wp_ext fun x h1 => ?_
            unfold conV
            generalize x.k = o
            cases o with
            | none => rfl
            | some t =>
              simp only [eo]
              cases h1[n]? with
              | none => simp [cellV, f_stuck]
              | some c => cases c with
                | dk _ _ => simp [cellV, f_stuck]
                | dt _ _ => simp [cellV, f_stuck]
                | lst l => simp only [cellV, f_if, f_nx, f_stuck]; by_cases z : l.length < sizeLine <;> simp [z]
      | _ => simp [ex, isLst, eo, mutV, f_stuck]
def ixV (K : Nat → Prop) (l : List T) (t : T) (_d : Keep K := .mk) : Prop := match t with
  | .int z => exV K (ixN l.length z)
  | _ => False
theorem xV_i {K : Nat → Prop} {l : List T} {z : Int} : ixV K l (.int z) ↔ exV K (ixN l.length z) := Iff.rfl
def mutD (D : Prop) (K : List T → Prop) (J : Nat → Prop) (o : Option Slot) (_d : Keep K := .mk) (_e : Keep J := .mk) (_f : Keep D := .mk) : Prop := match o with
  | some (.own (.lst l)) => K l
  | some (.val (.ref n)) => J n
  | _ => D
theorem mD_o {D : Prop} {K : List T → Prop} {J : Nat → Prop} {l : List T} : mutD D K J (some (.own (.lst l))) ↔ K l := Iff.rfl
theorem mD_r {D : Prop} {K : List T → Prop} {J : Nat → Prop} {n : Nat} : mutD D K J (some (.val (.ref n))) ↔ J n := Iff.rfl
def setTl (Γ : Cl) (env : En) (i : Nat) (ix : E) (t : T) (h1 : Hs) : Fl := if hasSlot env i then (ev Γ ix env h1).fl env fun k h2 => setAt env h2 i k.t t else .stuck
theorem f_seti2 {i : Nat} {ix e : E} : wf (ex Γ (.seti i ix e) env h) N B C R X ↔ wp (ev Γ e env h) (fun x h1 => conV (fun t => mutD (wf (setTl Γ env i ix t h1) N B C R X) (fun l => wp (ev Γ ix env h1) (fun k h2 => ixV (fun j => N (env.set i (.own (.lst (l.set j t)))) h2) l k.t) (fun e h => X e env h))
    (fun n => wp (ev Γ ix env h1) (fun k h2 => cellV (fun l => ixV (fun j => N env (h2.set n (.lst (l.set j t)))) l k.t) h2[n]?) (fun e h => X e env h)) env[i]?) x) (fun e h => X e env h) := by
  simp only [ex, f_fl]
  refine wp_ext fun x h1 => ?_
  unfold conV
  generalize x.k = o
  cases o with
  | none => rfl
  | some t =>
    show wf (setTl Γ env i ix t h1) N B C R X ↔ mutD _ _ _ _
    unfold mutD
    split
    · rename_i l eo
      have q : hasSlot env i = true := by unfold hasSlot; simp only [eo]
      unfold setTl
      simp only [q, if_true, f_fl]
      refine wp_ext fun k h2 => ?_
      unfold setAt
      simp only [eo]
      generalize k.t = kt
      cases kt <;> simp [f_stuck, ixV]
      rename_i z
      cases hz : ixN l.length z <;> simp [f_stuck, f_nx, exV]
    · rename_i n eo
      have q : hasSlot env i = true := by unfold hasSlot; simp only [eo]
      unfold setTl
      simp only [q, if_true, f_fl]
      refine wp_ext fun k h2 => ?_
      unfold setAt
      simp only [eo]
      generalize k.t = kt
      cases hh : h2[n]? with
      | none => simp [f_stuck, cellV]
      | some c => cases c with
        | dk => simp [f_stuck, cellV]
        | dt => simp [f_stuck, cellV]
        | lst l => cases kt <;> simp [f_stuck, cellV, ixV]
                   rename_i z
                   cases hz : ixN l.length z <;> simp [f_stuck, f_nx, exV]
    · rfl
/-- a tuple taken apart -/
def tupV (K : List T → Prop) (x : P) (_d : Keep K := .mk) : Prop := match x.k with
  | some (.tup ts) => K ts
  | _ => False
theorem tV_t {K : List T → Prop} {ts : List T} : tupV K (.val (.tup ts)) ↔ K ts := Iff.rfl
theorem f_asgT {l : List Nat} {e : E} : wf (ex Γ (.asgT l e) env h) N B C R X ↔ wp (ev Γ e env h) (fun x h1 => tupV (fun ts => exV (fun env1 => N env1 h1) (putEs env l ts)) x) (fun e h => X e env h) := by
  simp only [ex, f_fl]
  refine wp_ext fun x h1 => ?_
  unfold tupV
  cases x.k with
  | none => rfl
  | some t =>
    cases t with
    | tup ts =>
      dsimp only
      cases putEs env l ts with
      | none => simp [exV, f_stuck]
      | some e1 => simp [exV, f_nx]
    | _ => rfl
def twoV (K : T → T → Prop) (l : List T) (_d : Keep K := .mk) : Prop := match l with
  | [t, u] => K t u
  | _ => False
theorem twV {K : T → T → Prop} {t u : T} : twoV K [t, u] ↔ K t u := Iff.rfl
theorem f_par {i j : Nat} {a b : E} : wf (ex Γ (.par i j a b) env h) N B C R X ↔ wp (evs Γ (.cons a (.cons b .nil)) env h) (fun ts h1 => twoV (fun t u => N ((env.set i (.val t)).set j (.val u)) h1) ts) (fun e h => X e env h) := by
  simp only [ex, f_fl]
  refine wp_ext fun ts h1 => ?_
  match ts with
  | [] => rfl
  | [_] => rfl
  | [_, _] => rfl
  | _ :: _ :: _ :: _ => rfl
theorem sz0 : (0 ≤ sizeLine) = True := eq_true (by decide)
theorem sz1 : (1 ≤ sizeLine) = True := eq_true (by decide)
theorem sz2 : (2 ≤ sizeLine) = True := eq_true (by decide)
theorem sz3 : (3 ≤ sizeLine) = True := eq_true (by decide)
theorem sz4 : (4 ≤ sizeLine) = True := eq_true (by decide)
theorem sz5 : (5 ≤ sizeLine) = True := eq_true (by decide)
theorem sz6 : (6 ≤ sizeLine) = True := eq_true (by decide)
theorem sz7 : (7 ≤ sizeLine) = True := eq_true (by decide)
theorem sz8 : (8 ≤ sizeLine) = True := eq_true (by decide)
theorem sz9 : (9 ≤ sizeLine) = True := eq_true (by decide)
theorem sz10 : (10 ≤ sizeLine) = True := eq_true (by decide)
theorem sz11 : (11 ≤ sizeLine) = True := eq_true (by decide)
theorem sz12 : (12 ≤ sizeLine) = True := eq_true (by decide)
theorem sz13 : (13 ≤ sizeLine) = True := eq_true (by decide)
theorem sz14 : (14 ≤ sizeLine) = True := eq_true (by decide)
theorem sz15 : (15 ≤ sizeLine) = True := eq_true (by decide)
theorem sz16 : (16 ≤ sizeLine) = True := eq_true (by decide)
theorem sz17 : (17 ≤ sizeLine) = True := eq_true (by decide)
theorem sz18 : (18 ≤ sizeLine) = True := eq_true (by decide)
theorem sz19 : (19 ≤ sizeLine) = True := eq_true (by decide)
theorem sz20 : (20 ≤ sizeLine) = True := eq_true (by decide)
theorem sz21 : (21 ≤ sizeLine) = True := eq_true (by decide)
theorem sz22 : (22 ≤ sizeLine) = True := eq_true (by decide)
theorem sz23 : (23 ≤ sizeLine) = True := eq_true (by decide)
theorem sz24 : (24 ≤ sizeLine) = True := eq_true (by decide)
theorem sz25 : (25 ≤ sizeLine) = True := eq_true (by decide)
theorem sz26 : (26 ≤ sizeLine) = True := eq_true (by decide)
theorem sz27 : (27 ≤ sizeLine) = True := eq_true (by decide)
theorem sz28 : (28 ≤ sizeLine) = True := eq_true (by decide)
theorem sz29 : (29 ≤ sizeLine) = True := eq_true (by decide)
theorem sz30 : (30 ≤ sizeLine) = True := eq_true (by decide)
theorem putEs_c {i : Nat} {is : List Nat} {t : T} {ts : List T} : putEs env (i :: is) (t :: ts) = putEs (env.set i (.val t)) is ts := rfl
theorem putEs_n : putEs env [] [] = some env := rfl
end
end Fx

namespace Fx
open PySem L2
local macro_rules | `(tactic| walk_at "wk") => `(tactic| simp only [↓w_con, ↓w_var, vV_v, vV_o, ↓w_bin, ↓w_not, ↓w_and, ↓w_or, ↓w_and1, ↓w_and2, ↓w_or1, ↓w_or2, ↓w_cmp, ↓w_chn, ↓w_ch1, ↓w_ch2, ↓w_isN, ↓w_ite, ↓w_tup, ↓w_lst, ↓w_slc, ↓w_call2, ↓w_bi, ↓w_isi, ↓w_idx, ↓w_neg, ↓w_mth, ↓w_ono, ↓w_oso, ↓w_cno, ↓w_cso, ↓w_nil, ↓w_cons, ↓w_pnil, ↓w_pcons, ↓w_ival, ↓w_rng1, ↓w_rng2, ↓w_zip, ↓w_zipk, ↓w_enu, ↓w_isB, ↓w_rev, ↓w_lrng1, ↓w_lrng2, vV_l, lV_i, r2V_i, zV_l, zV_t, ↓w_lc, ↓w_lc2,
  ↓w_ok, ↓w_exc, ↓w_stuck, ↓w_bind, ↓w_ofc, ↓w_ofs, ↓w_ofn, ↓w_ofm, ↓w_if, ↓w_sel, ↓f_nx, ↓f_rt, ↓f_exc, ↓f_stuck, ↓f_bind, ↓f_fl, ↓f_if, ↓f_sel, ↓f_nil, ↓f_cons, ↓f_pass, ↓f_expr, ↓f_asg, ↓f_asgO, ↓f_asgB, ↓f_ret, ↓f_retN, ↓f_ite, ↓f_forr,
  f_app, f_seto, w_ok, w_ofc, w_ofs, w_ofn, w_ofm, w_if, w_sel, f_sel, f_if,
  P.t_val, P.t_new, P.t_pk, P.k_val, P.k_new, P.k_pk, P.u_t, P.u_k, P.ret_val, P.ret_new, P.ret_pk, R.p_val, R.p_new, truthB_bl, Cell.t_lst,
  oB_add, oB_adds, oB_addb, oB_subb, fStr_b, nV_b, oB_addl, oB_addt, oB_sub, oB_mul, oB_mull, oB_div, oB_mod, oB_pow, oC_eq, oC_ne, oC_lt, oC_le, oC_gt, oC_ge, oC_in, oC_notin, oC_inl, oC_notinl, oC_lts, oC_gts, oC_les, oC_ges, oC_ltt, oC_ltl, oB_mult, fSort_l, fSort_t, fOrd_c, okEq_ii, okEq_bb, okEq_ss, eqT_ii, eqT_bb, eqT_ss, opI_l, opI_c, opI_t, opI_s, opS_l, opS_t, opS_s, iV_l, iV_t, iV_s, iV_c, nV_i, oV_i, rV_i, aV_v, aV_n, aO_n, aB_n, cV_v, cV_n,
  fLen_l, fLen_t, fLen_c, fLen_s, fAbs_i, fMin_i, fMax_i, fSum_l, fAll_l, fAny_l, fInt_i, fInt_b, fStr_i, fStr_s, fList_l, fList_t, fTuple_l, fTuple_t, mJoin_l, mUp_s, isI_non, isI_bl, isI_int, isI_str, isI_tup, isI_lst, itemsT_l, itemsT_t, itemsT_s, exV_some, exV_map, exV_if, atI_0, atI_1, atI_2, atI_3, atI_4,
  T.ty, Mt.ty, T.isNon, isTy, startE, wipeE, beq_self_eq_true,
  List.map_cons, List.map_nil, List.length_cons, List.length_nil, List.replicate, List.cons_append, List.nil_append, List.getElem?_cons_zero, List.getElem?_cons_succ, List.getElem?_nil, List.set_cons_zero, List.set_cons_succ, List.any_cons, List.any_nil, List.all_cons, List.all_nil,
  Option.map_some, Option.map_none, Option.bind_some, Option.bind_none, Nat.sub_self, Nat.zero_add, Nat.add_zero, Nat.reduceAdd, Nat.reduceSub, Nat.reduceEqDiff, Int.reduceToNat, Int.reducePow, Int.reduceLT, Int.reduceLE, Int.reduceAdd, Int.reduceSub, Int.reduceMul, Int.reduceNeg, Int.reduceBEq, Nat.reduceLT, Nat.reduceLeDiff, Nat.reducePow, gt_iff_lt, ge_iff_le, if_true, if_false, Bool.not_true, Bool.not_false, Bool.or_true, Bool.or_false, Bool.true_or, Bool.false_or, Bool.and_true, Bool.and_false, Bool.true_and, Bool.false_and,
  reduceCtorEq, decide_true, decide_false, Bool.false_eq_true, Bool.true_eq_false, decide_eq_true_eq, decide_eq_false_iff_not, eq_self, Bool.not_eq_true', Bool.not_eq_false', Bool.not_not, false_imp_iff, true_and, and_true, false_and, and_false, not_true_eq_false, not_false_eq_true, implies_true, true_implies, false_implies])
local macro_rules | `(tactic| walk_at "cj") => `(tactic| (repeat' (first | (refine And.intro ?_ ?_) | decide | omega | assumption)))

/-! ### the bag -/
def Bag (h : Hs) (b : Nat) : Prop := ∃ a c : Int, h[b]? = some (.lst [.int a, .int c]) ∧ 0 ≤ a ∧ 0 ≤ c ∧ c ≤ 2147483646
/-- all but the bag stays -/
def Up (b : Nat) (h h' : Hs) : Prop := h'.length = h.length ∧ ∀ j, j ≠ b → h'[j]? = h[j]?
theorem Up.refl (b : Nat) (h : Hs) : Up b h h := ⟨rfl, fun _ _ => rfl⟩
theorem Up.trans {b : Nat} {h h1 h2 : Hs} (u : Up b h h1) (v : Up b h1 h2) : Up b h h2 := ⟨v.1.trans u.1, fun j hj => (v.2 j hj).trans (u.2 j hj)⟩
theorem up_set {b : Nat} {h : Hs} {c : Cell} : Up b h (h.set b c) := ⟨by simp, fun j hj => by rw [List.getElem?_set_ne (fun e => hj e.symm)]⟩
theorem log2_le {i : Int} {k : Nat} (h0 : 0 ≤ i) (h : i < 2 ^ k) (hk : 0 < k) : i.natAbs.log2 < k := by
  by_cases hz : i.natAbs = 0
  · rw [hz]; simpa using hk
  · rw [Nat.log2_lt hz]
    have : (i.natAbs : Int) < 2 ^ k := by rw [Int.natAbs_of_nonneg h0]; exact h
    exact_mod_cast this
theorem w_take {p : Prg} (hp : Has p "_law_take" f__law_take) {k : Nat} {b : Nat} {m : Int} {h : Hs} {Q : R → Hs → Prop} {X : T → Hs → Prop} (hb : Bag h b) (hm : 0 < m) (hm2 : m < 2 ^ 63) (q : ∀ r h', 0 ≤ r → r < m → Bag h' b → Up b h h' → Q (.val (.int r)) h') : wp (callK p (k + 1) "_law_take" [.ref b, .int m] h) Q X := by
  obtain ⟨a, c, hc, ha, hc1, hc2⟩ := hb
  refine w_run hp rfl ?_
  have hlt : b < h.length := by
    rcases List.getElem?_eq_some_iff.mp hc with ⟨e, _⟩; exact e
  unfold f__law_take
  walk_at "wk"
  rw [iV_r hc]
  walk_at "wk"
  have key : ∀ a' c' : Int, 0 ≤ a' → 0 ≤ c' → c' ≤ 2147483646 → Bag (h.set b (.lst [.int a', .int c'])) b := fun a' c' x1 x2 x3 => ⟨a', c', by simp [hlt], x1, x2, x3⟩
  refine ⟨fun hpos => ?_, fun hneg => ?_⟩
  · rw [iV_r hc]
    walk_at "wk"
    refine ⟨hm, ?_⟩
    rw [f_setr (by rfl)]
    walk_at "wk"
    rw [iV_r hc]
    walk_at "wk"
    refine ⟨⟨hm, Nat.lt_trans (log2_le (k := 63) (by omega) hm2 (by decide)) (by decide)⟩, _, 0, 0, hc, rfl, rfl, ?_⟩
    exact q _ _ (Int.emod_nonneg _ (by omega)) (Int.emod_lt_of_pos _ hm) (key _ _ (Int.ediv_nonneg ha (by omega)) hc1 hc2) up_set
  · rw [f_setr (by rfl)]
    walk_at "wk"
    rw [iV_r hc]
    walk_at "wk"
    have l1 : c.natAbs.log2 < 31 := log2_le (by omega) (by omega) (by decide)
    have l2 : (Int.natAbs 48271).log2 < 31 := by decide
    refine ⟨by omega, _, 1, 1, hc, rfl, rfl, ?_⟩
    have e : (h.set b (.lst [T.int a, T.int (c * 48271 % 2147483647)]))[b]? = some (.lst [T.int a, T.int (c * 48271 % 2147483647)]) := by simp [hlt]
    have hs : (0 : Int) ≤ c * 48271 % 2147483647 ∧ c * 48271 % 2147483647 ≤ 2147483646 := by
      constructor <;> omega
    show idxV _ (h.set b (.lst [T.int a, T.int (c * 48271 % 2147483647)])) _ _
    rw [iV_r e]
    walk_at "wk"
    rw [iV_r e]
    walk_at "wk"
    have l3 : (c * 48271 % 2147483647).natAbs.log2 < 31 := log2_le (by omega) (by omega) (by decide)
    walk_at "cj"
    exact q _ _ (Int.emod_nonneg _ (by omega)) (Int.emod_lt_of_pos _ hm) (key _ _ ha hs.1 hs.2) up_set

def bagV (a c : Int) : R := .new (.lst [.int a, .int c])
theorem w_bag {p : Prg} (hp : Has p "_law_bag" f__law_bag) {k : Nat} {ns : List Int} {n : Nat} {h : Hs} {Q : R → Hs → Prop} {X : T → Hs → Prop} (hn : n < 1000) (q : ∀ a c : Int, 0 ≤ a → 0 ≤ c → c ≤ 2147483646 → Q (.new (.lst [.int a, .int c])) h) : wp (callK p (k + 1) "_law_bag" [.scr (ns.map T.int), .int n] h) Q X := by
  refine w_run hp rfl ?_
  unfold f__law_bag
  walk_at "wk"
  have l1 : (Int.natAbs 7919).log2 < 31 := by decide
  have l2 : (Int.natAbs 104729).log2 < 31 := by decide
  have l3 : (Int.natAbs (n : Int)).log2 < 31 := log2_le (by omega) (by omega) (by decide)
  have sz : 2 ≤ sizeLine := by decide
  refine ⟨fun h1 => ?_, fun h1 => ?_⟩
  · rw [List.length_map] at h1
    have e : atI (ns.map T.int) (n : Int) = some (.int (ns[n]'(by omega))) := by
      rw [atI_nat, List.getElem?_map, List.getElem?_eq_getElem (by omega)]
      rfl
    rw [e]
    walk_at "wk"
    generalize hc : (if ns[n]'(by omega) < 0 then -(ns[n]'(by omega)) else ns[n]'(by omega)) = cell
    have h0 : 0 ≤ cell := by rw [← hc]; split <;> omega
    refine ⟨by decide, fun h2 => ?_, fun h2 => ?_⟩
    · have l4 : cell.natAbs.log2 < 64 := log2_le h0 (by omega) (by decide)
      exact ⟨by omega, by omega, sz, q _ _ (by omega) (by omega) (by omega)⟩
    · exact ⟨sz, q _ _ (by omega) (by omega) (by omega)⟩
  · skip
    walk_at "cj"
    exact q _ _ (by omega) (by omega) (by omega)
end Fx

namespace Fx
open PySem L2
local macro_rules | `(tactic| walk_at "wk") => `(tactic| simp only [↓w_con, ↓w_var, vV_v, vV_o, ↓w_bin, ↓w_not, ↓w_and, ↓w_or, ↓w_and1, ↓w_and2, ↓w_or1, ↓w_or2, ↓w_cmp, ↓w_chn, ↓w_ch1, ↓w_ch2, ↓w_isN, ↓w_ite, ↓w_tup, ↓w_lst, ↓w_slc, ↓w_call2, ↓w_bi, ↓w_isi, ↓w_idx, ↓w_neg, ↓w_mth, ↓w_ono, ↓w_oso, ↓w_cno, ↓w_cso, ↓w_nil, ↓w_cons, ↓w_pnil, ↓w_pcons, ↓w_ival, ↓w_rng1, ↓w_rng2, ↓w_zip, ↓w_zipk, ↓w_enu, ↓w_isB, ↓w_rev, ↓w_lrng1, ↓w_lrng2, vV_l, lV_i, r2V_i, zV_l, zV_t, ↓w_lc, ↓w_lc2,
  ↓w_ok, ↓w_exc, ↓w_stuck, ↓w_bind, ↓w_ofc, ↓w_ofs, ↓w_ofn, ↓w_ofm, ↓w_if, ↓w_sel, ↓f_nx, ↓f_rt, ↓f_exc, ↓f_stuck, ↓f_bind, ↓f_fl, ↓f_if, ↓f_sel, ↓f_nil, ↓f_cons, ↓f_pass, ↓f_expr, ↓f_asg, ↓f_asgO, ↓f_asgB, ↓f_ret, ↓f_retN, ↓f_ite, ↓f_forr,
  f_app, f_seto, w_ok, w_ofc, w_ofs, w_ofn, w_ofm, w_if, w_sel, f_sel, f_if,
  P.t_val, P.t_new, P.t_pk, P.k_val, P.k_new, P.k_pk, P.u_t, P.u_k, P.ret_val, P.ret_new, P.ret_pk, R.p_val, R.p_new, truthB_bl, Cell.t_lst,
  oB_add, oB_adds, oB_addb, oB_subb, fStr_b, nV_b, oB_addl, oB_addt, oB_sub, oB_mul, oB_mull, oB_div, oB_mod, oB_pow, oC_eq, oC_ne, oC_lt, oC_le, oC_gt, oC_ge, oC_in, oC_notin, oC_inl, oC_notinl, oC_lts, oC_gts, oC_les, oC_ges, oC_ltt, oC_ltl, oB_mult, fSort_l, fSort_t, fOrd_c, okEq_ii, okEq_bb, okEq_ss, eqT_ii, eqT_bb, eqT_ss, opI_l, opI_c, opI_t, opI_s, opS_l, opS_t, opS_s, iV_l, iV_t, iV_s, iV_c, nV_i, oV_i, rV_i, aV_v, aV_n, aO_n, aB_n, cV_v, cV_n,
  fLen_l, fLen_t, fLen_c, fLen_s, fAbs_i, fMin_i, fMax_i, fSum_l, fAll_l, fAny_l, fInt_i, fInt_b, fStr_i, fStr_s, fList_l, fList_t, fTuple_l, fTuple_t, mJoin_l, mUp_s, isI_non, isI_bl, isI_int, isI_str, isI_tup, isI_lst, itemsT_l, itemsT_t, itemsT_s, exV_some, exV_map, exV_if, atI_0, atI_1, atI_2, atI_3, atI_4,
  T.ty, Mt.ty, T.isNon, isTy, startE, wipeE, beq_self_eq_true,
  List.map_cons, List.map_nil, List.length_cons, List.length_nil, List.replicate, List.cons_append, List.nil_append, List.getElem?_cons_zero, List.getElem?_cons_succ, List.getElem?_nil, List.set_cons_zero, List.set_cons_succ, List.any_cons, List.any_nil, List.all_cons, List.all_nil,
  Option.map_some, Option.map_none, Option.bind_some, Option.bind_none, Nat.sub_self, Nat.zero_add, Nat.add_zero, Nat.reduceAdd, Nat.reduceSub, Nat.reduceEqDiff, Int.reduceToNat, Int.reducePow, Int.reduceLT, Int.reduceLE, Int.reduceAdd, Int.reduceSub, Int.reduceMul, Int.reduceNeg, Int.reduceBEq, Nat.reduceLT, Nat.reduceLeDiff, Nat.reducePow, gt_iff_lt, ge_iff_le, if_true, if_false, Bool.not_true, Bool.not_false, Bool.or_true, Bool.or_false, Bool.true_or, Bool.false_or, Bool.and_true, Bool.and_false, Bool.true_and, Bool.false_and,
  reduceCtorEq, decide_true, decide_false, Bool.false_eq_true, Bool.true_eq_false, decide_eq_true_eq, decide_eq_false_iff_not, eq_self, Bool.not_eq_true', Bool.not_eq_false', Bool.not_not, false_imp_iff, true_and, and_true, false_and, and_false, not_true_eq_false, not_false_eq_true, implies_true, true_implies, false_implies])
local macro_rules | `(tactic| walk_at "cj") => `(tactic| (repeat' (first | (refine And.intro ?_ ?_) | decide | omega | assumption)))

/-! ### data of bounded size -/
mutual
def fits (n m : Nat) : T → Bool
  | .non => true
  | .bl _ => true
  | .int i => decide (i.natAbs < 2 ^ m)
  | .str s => (TL.tl s).all (fun c => decide (c < 128)) && decide ((TL.tl s).length ≤ n)
  | .tup l => decide (l.length ≤ n) && fitsL n m l
  | .lst l => decide (l.length ≤ n) && fitsL n m l
  | .dk _ _ => false
  | .dt _ _ => false
  | .set _ => false
  | .exc _ _ => false
  | .scr _ => false
  | .ref _ => false
def fitsL (n m : Nat) : List T → Bool
  | [] => true
  | t :: r => fits n m t && fitsL n m r
end
theorem fitsL_iff {n m : Nat} {l : List T} : fitsL n m l = true ↔ ∀ x ∈ l, fits n m x = true := by
  induction l with
  | nil => simp [fitsL]
  | cons a r ih => simp [fitsL, ih]
theorem depL_iff {d : Nat} {l : List T} : depL l ≤ d ↔ ∀ x ∈ l, x.dep ≤ d := by
  induction l with
  | nil => simp [depL]
  | cons a r ih => simp [depL, Nat.max_le, ih]
theorem allD_iff {l : List T} : allD l = true ↔ ∀ x ∈ l, x.isD = true := by
  induction l with
  | nil => simp [allD]
  | cons a r ih => simp [allD, ih]
structure Dt (n m d : Nat) (t : T) : Prop where
  f : fits n m t = true
  d : t.dep ≤ d
theorem Dt.int {n m d : Nat} {i : Int} : Dt n m d (.int i) ↔ i.natAbs < 2 ^ m := ⟨fun h => by simpa [fits] using h.f, fun h => ⟨by simpa [fits] using h, Nat.zero_le _⟩⟩
theorem Dt.bl {n m d : Nat} {b : Bool} : Dt n m d (.bl b) := ⟨rfl, Nat.zero_le _⟩
theorem Dt.non {n m d : Nat} : Dt n m d .non := ⟨rfl, Nat.zero_le _⟩
theorem Dt.str {n m d : Nat} {s : Str} : Dt n m d (.str s) ↔ (∀ c ∈ TL.tl s, c < 128) ∧ (TL.tl s).length ≤ n := by
  constructor
  · intro h
    have := h.f
    simpa only [fits, Bool.and_eq_true, List.all_eq_true, decide_eq_true_eq] using this
  · intro h
    exact ⟨by simpa only [fits, Bool.and_eq_true, List.all_eq_true, decide_eq_true_eq] using h, Nat.zero_le _⟩
theorem Dt.tup {n m d : Nat} {l : List T} : Dt n m (d + 1) (.tup l) ↔ l.length ≤ n ∧ ∀ x ∈ l, Dt n m d x := by
  constructor
  · intro h
    have h1 := h.f
    have h2 := h.d
    simp only [fits, Bool.and_eq_true, decide_eq_true_eq] at h1
    simp only [T.dep, Nat.add_le_add_iff_right] at h2
    exact ⟨h1.1, fun x hx => ⟨fitsL_iff.mp h1.2 x hx, depL_iff.mp h2 x hx⟩⟩
  · intro h
    refine ⟨?_, ?_⟩
    · simp only [fits, Bool.and_eq_true, decide_eq_true_eq]; exact ⟨h.1, fitsL_iff.mpr fun x hx => (h.2 x hx).f⟩
    · simp only [T.dep, Nat.add_le_add_iff_right]; exact depL_iff.mpr fun x hx => (h.2 x hx).d
theorem Dt.lst {n m d : Nat} {l : List T} : Dt n m (d + 1) (.lst l) ↔ l.length ≤ n ∧ ∀ x ∈ l, Dt n m d x := by
  constructor
  · intro h
    have h1 := h.f
    have h2 := h.d
    simp only [fits, Bool.and_eq_true, decide_eq_true_eq] at h1
    simp only [T.dep, Nat.add_le_add_iff_right] at h2
    exact ⟨h1.1, fun x hx => ⟨fitsL_iff.mp h1.2 x hx, depL_iff.mp h2 x hx⟩⟩
  · intro h
    refine ⟨?_, ?_⟩
    · simp only [fits, Bool.and_eq_true, decide_eq_true_eq]; exact ⟨h.1, fitsL_iff.mpr fun x hx => (h.2 x hx).f⟩
    · simp only [T.dep, Nat.add_le_add_iff_right]; exact depL_iff.mpr fun x hx => (h.2 x hx).d
theorem Dt.tup0 {n m : Nat} {l : List T} (h : Dt n m 0 (.tup l)) : False := by have := h.d; simp [T.dep] at this
theorem Dt.lst0 {n m : Nat} {l : List T} (h : Dt n m 0 (.lst l)) : False := by have := h.d; simp [T.dep] at this
mutual
theorem fits_mono {n m n' m' : Nat} (hn : n ≤ n') (hm : m ≤ m') : ∀ t : T, fits n m t = true → fits n' m' t = true
  | .non, _ => rfl
  | .bl _, _ => rfl
  | .int i, h => by
    simp only [fits, decide_eq_true_eq] at h ⊢
    exact Nat.lt_of_lt_of_le h (Nat.pow_le_pow_right (by decide) hm)
  | .str s, h => by
    simp only [fits, Bool.and_eq_true, decide_eq_true_eq] at h ⊢
    exact ⟨h.1, Nat.le_trans h.2 hn⟩
  | .tup l, h => by
    simp only [fits, Bool.and_eq_true, decide_eq_true_eq] at h ⊢
    exact ⟨Nat.le_trans h.1 hn, fitsL_mono hn hm l h.2⟩
  | .lst l, h => by
    simp only [fits, Bool.and_eq_true, decide_eq_true_eq] at h ⊢
    exact ⟨Nat.le_trans h.1 hn, fitsL_mono hn hm l h.2⟩
  | .dk _ _, h => by simp [fits] at h
  | .dt _ _, h => by simp [fits] at h
  | .set _, h => by simp [fits] at h
  | .exc _ _, h => by simp [fits] at h
  | .scr _, h => by simp [fits] at h
  | .ref _, h => by simp [fits] at h
theorem fitsL_mono {n m n' m' : Nat} (hn : n ≤ n') (hm : m ≤ m') : ∀ l : List T, fitsL n m l = true → fitsL n' m' l = true
  | [], _ => rfl
  | t :: r, h => by
    simp only [fitsL, Bool.and_eq_true] at h ⊢
    exact ⟨fits_mono hn hm t h.1, fitsL_mono hn hm r h.2⟩
end
theorem Dt.mono {n m d n' m' d' : Nat} {t : T} (h : Dt n m d t) (hn : n ≤ n') (hm : m ≤ m') (hd : d ≤ d') : Dt n' m' d' t := ⟨fits_mono hn hm t h.f, Nat.le_trans h.d hd⟩
theorem strOk_of {s : Str} (h : ∀ c ∈ TL.tl s, c < 128) : PySem.PyData.strOk s = true := by
  unfold PySem.PyData.strOk
  rw [← Array.all_toList, List.all_eq_true]
  intro c hc
  have := h c hc
  simp only [decide_eq_true_eq]
  omega
mutual
theorem isD_of {n m : Nat} : ∀ t : T, fits n m t = true → t.isD = true
  | .non, _ => rfl
  | .bl _, _ => rfl
  | .int i, h => rfl
  | .str s, h => by
    simp only [fits, Bool.and_eq_true, decide_eq_true_eq, List.all_eq_true] at h
    exact strOk_of h.1
  | .tup l, h => by
    simp only [fits, Bool.and_eq_true, decide_eq_true_eq] at h
    exact allD_of l h.2
  | .lst l, h => by
    simp only [fits, Bool.and_eq_true, decide_eq_true_eq] at h
    exact allD_of l h.2
  | .dk _ _, h => by simp [fits] at h
  | .dt _ _, h => by simp [fits] at h
  | .set _, h => by simp [fits] at h
  | .exc _ _, h => by simp [fits] at h
  | .scr _, h => by simp [fits] at h
  | .ref _, h => by simp [fits] at h
theorem allD_of {n m : Nat} : ∀ l : List T, fitsL n m l = true → allD l = true
  | [], _ => rfl
  | t :: r, h => by
    simp only [fitsL, Bool.and_eq_true] at h
    simp only [allD, Bool.and_eq_true]
    exact ⟨isD_of t h.1, allD_of r h.2⟩
end
theorem Dt.isD {n m d : Nat} {t : T} (h : Dt n m d t) : t.isD = true := isD_of t h.f
theorem Dt.ty {n m d : Nat} {t : T} (h : Dt n m d t) : t.ty ≠ none := by
  have := h.f
  cases t <;> simp [fits, T.ty] at this ⊢
/-- data's forms -/
theorem Dt.cases {n m d : Nat} {t : T} (h : Dt n m d t) {M : T → Prop} (h0 : M .non) (h1 : ∀ b, M (.bl b)) (h2 : ∀ i, M (.int i)) (h3 : ∀ s, M (.str s)) (h4 : ∀ l, M (.tup l)) (h5 : ∀ l, M (.lst l)) : M t := by
  have := h.f
  cases t with
  | non => exact h0
  | bl b => exact h1 b
  | int i => exact h2 i
  | str s => exact h3 s
  | tup l => exact h4 l
  | lst l => exact h5 l
  | _ => simp [fits] at this
theorem okEq_of {n m d n' m' d' : Nat} {s t : T} (h : Dt n m d s) (k : Dt n' m' d' t) (hd : d ≤ 64 ∨ d' ≤ 64) : okEq s t = true := by
  unfold okEq
  rw [h.isD, k.isD]
  have := h.d
  have := k.d
  simp only [Bool.true_and, decide_eq_true_eq]
  omega
theorem R.pk (r : R) : r.p.k = some r.p.t := by cases r <;> rfl
theorem aV_r {N : En → Hs → Prop} {env : En} {i : Nat} {h : Hs} {r : R} : asgV N env i h r.p ↔ N (env.set i (.val r.p.t)) h := by unfold asgV; rw [R.pk]
theorem cV_r {K : T → Prop} {r : R} : conV K r.p ↔ K r.p.t := by unfold conV; rw [R.pk]
theorem tl_len {s : Str} : s.length = (TL.tl s).length := TL.len_tl s
theorem dt_all {n m d : Nat} {l : List T} (h : (l.all fun x => fits n m x && decide (x.dep ≤ d)) = true) {v : T} (hv : v ∈ l) : Dt n m d v := by
  have := List.all_eq_true.mp h v hv
  simp only [Bool.and_eq_true, decide_eq_true_eq] at this
  exact ⟨this.1, this.2⟩
theorem size_ge : 16777216 ≤ sizeLine := by decide
/-! ### the drawn things -/
theorem w_of' {p : Prg} (hp : Has p "_law_of" f__law_of) (hp1 : Has p "_law_take" f__law_take) {k : Nat} {b : Nat} {l : List T} {h : Hs} {Q : R → Hs → Prop} {X : T → Hs → Prop} (hb : Bag h b) (h0 : 0 < l.length) (h2 : l.length < 2 ^ 63) (q : ∀ v h', v ∈ l → Bag h' b → Up b h h' → Q (.val v) h') : wp (callK p (k + 2) "_law_of" [.ref b, .lst l] h) Q X := by
  refine w_run hp rfl ?_
  unfold f__law_of
  walk_at "wk"
  refine w_take hp1 hb (by omega) (by omega) ?_
  intro r h' r0 r1 hb' hu
  obtain ⟨v, e, hv⟩ := atI_lt (l := l) r0 r1
  walk_at "wk"
  rw [e]
  walk_at "wk"
  exact q v h' hv hb' hu
theorem w_odd {p : Prg} (hp : Has p "_law_odd" f__law_odd) (hp1 : Has p "_law_take" f__law_take) {k : Nat} {b : Nat} {h : Hs} {Q : R → Hs → Prop} {X : T → Hs → Prop} (hb : Bag h b) (q : ∀ v h', Dt 40 100 3 v → Bag h' b → Up b h h' → Q (.val v) h') : wp (callK p (k + 2) "_law_odd" [.ref b] h) Q X := by
  refine w_run hp rfl ?_
  unfold f__law_odd
  walk_at "wk"
  walk_at "cj"
  refine w_take hp1 hb (by decide) (by decide) ?_
  intro r h' r0 r1 hb' hu
  walk_at "wk"
  refine (show ∀ l : List T, (l.all fun x => fits 40 100 x && decide (x.dep ≤ 3)) = true → r < l.length → exV (fun v => Q (.val v) h') (atI l r) from ?_) _ (by decide +kernel) r1
  intro l hl hr
  obtain ⟨v, e, hv⟩ := atI_lt (l := l) r0 hr
  rw [e]
  walk_at "wk"
  exact q v h' (dt_all hl hv) hb' hu
/-! ### a text of letters -/
theorem tl_one (c : Nat) : TL.tl ⟨#[c]⟩ = [c] := rfl
theorem strs_one {cs : List Nat} : strs? (cs.map fun c => T.str ⟨#[c]⟩) = some (cs.map fun c => ⟨#[c]⟩) := by
  induction cs with
  | nil => rfl
  | cons c r ih => simp [strs?, ih]
theorem join_ones {cs : List Nat} : TL.tl (Txt.join "" (cs.map fun c => ⟨#[c]⟩)) = cs := by
  rw [TL.join_eq, TL.tl_join]
  have e : TL.tl ("" : Str) = [] := by decide
  rw [e]
  induction cs with
  | nil => rfl
  | cons c r ih =>
    cases r with
    | nil => rfl
    | cons d r => simp only [List.map_cons, TL.joinL, List.nil_append] at ih ⊢; rw [ih]; rfl
theorem len_one (c : Nat) : (⟨#[c]⟩ : Str).length = 1 := rfl
theorem w_name {p : Prg} (hp : Has p "_law_name" f__law_name) (hp1 : Has p "_law_take" f__law_take) {k : Nat} {b : Nat} {h : Hs} {Q : R → Hs → Prop} {X : T → Hs → Prop} (hb : Bag h b) (q : ∀ s h', (∀ c ∈ TL.tl s, 97 ≤ c ∧ c ≤ 122) → 1 ≤ (TL.tl s).length → (TL.tl s).length ≤ 8 → Bag h' b → Up b h h' → Q (.val (.str s)) h') : wp (callK p (k + 2) "_law_name" [.ref b] h) Q X := by
  refine w_run hp rfl ?_
  unfold f__law_name
  walk_at "wk"
  refine w_take hp1 hb (by decide) (by decide) ?_
  intro r1 h1 a1 b1 hb1 hu1
  walk_at "wk"
  refine w_take hp1 hb1 (by decide) (by decide) ?_
  intro r2 h2 a2 b2 hb2 hu2
  walk_at "wk"
  walk_at "cj"
  refine w_take hp1 hb2 (by decide) (by decide) ?_
  intro r3 h3 a3 b3 hb3 hu3
  walk_at "wk"
  have en : ∃ n : Int, 0 ≤ n ∧ n < 8 ∧ atI [T.int r1, T.int r2] (if (r3 == 0) = true then 1 else 0) = some (.int n) := by
    by_cases hz : (r3 == 0) = true
    · rw [if_pos hz]; exact ⟨r2, a2, b2, rfl⟩
    · rw [if_neg hz]; exact ⟨r1, a1, by omega, rfl⟩
  obtain ⟨n, n0, n8, en⟩ := en
  rw [en]
  walk_at "wk"
  have hlen : (rangeT 0 (1 + n)).length = (1 + n).toNat := by simp [rangeT]
  refine ⟨by simp only [smallI, decide_eq_true_eq]; omega, by rw [hlen]; exact Nat.le_trans (by omega) size_ge, rfl, ?_⟩
  refine w_lcall (fun h' => Bag h' b ∧ Up b h3 h') (fun t => ∃ c : Nat, t = .str ⟨#[c]⟩ ∧ 97 ≤ c ∧ c ≤ 122) ⟨hb3, Up.refl _ _⟩ ?_ ?_
  · intro x hx h' ⟨hb', hu'⟩
    rw [w_turn rfl]
    walk_at "wk"
    refine w_take hp1 hb' (by decide) (by decide) ?_
    intro r4 h4 a4 b4 hb4 hu4
    walk_at "wk"
    refine ⟨by decide, ?_⟩
    obtain ⟨v, e, hv⟩ := atI_lt (l := TL.tl (Str.ofString "abcdefghijklmnopqrstuvwxyz")) a4 (by rw [show (TL.tl (Str.ofString "abcdefghijklmnopqrstuvwxyz")).length = 26 from by decide]; exact b4)
    rw [e]
    walk_at "wk"
    have hr : ∀ c ∈ TL.tl (Str.ofString "abcdefghijklmnopqrstuvwxyz"), 97 ≤ c ∧ c ≤ 122 := by decide
    exact ⟨⟨hb4, hu'.trans hu4⟩, _, rfl, v, rfl, hr v hv⟩
  · intro ys h5 ⟨hb5, hu5⟩ hP hl
    walk_at "wk"
    have : ∃ cs : List Nat, ys = cs.map (fun c => T.str ⟨#[c]⟩) ∧ ∀ c ∈ cs, 97 ≤ c ∧ c ≤ 122 := by
      clear hl
      induction ys with
      | nil => exact ⟨[], rfl, by simp⟩
      | cons y r ih =>
        obtain ⟨c, e, hc⟩ := hP y (by simp)
        obtain ⟨cs, e2, hcs⟩ := ih (fun z hz => hP z (by simp [hz]))
        exact ⟨c :: cs, by rw [e, e2]; rfl, by simpa using ⟨hc, hcs⟩⟩
    obtain ⟨cs, rfl, hcs⟩ := this
    rw [strs_one]
    walk_at "wk"
    rw [List.length_map, hlen] at hl
    refine ⟨?_, ?_⟩
    · rw [show (Str.ofString "").length = 0 from by decide, Nat.mul_zero, Nat.add_zero, List.map_map, show (fun c => Str.length c) ∘ (fun c => (⟨#[c]⟩ : Str)) = fun c : Nat => 1 from rfl, List.map_const', List.sum_replicate_nat]
      omega
    · refine q _ h5 ?_ ?_ ?_ hb5 (((hu1.trans hu2).trans hu3).trans hu5)
      · rw [join_ones]; exact hcs
      · rw [join_ones]; omega
      · rw [join_ones]; omega
end Fx

namespace Fx
open PySem L2
local macro_rules | `(tactic| walk_at "wk") => `(tactic| simp only [↓w_con, ↓w_var, vV_v, vV_o, ↓w_bin, ↓w_not, ↓w_and, ↓w_or, ↓w_and1, ↓w_and2, ↓w_or1, ↓w_or2, ↓w_cmp, ↓w_chn, ↓w_ch1, ↓w_ch2, ↓w_isN, ↓w_ite, ↓w_tup, ↓w_lst, ↓w_slc, ↓w_call2, ↓w_bi, ↓w_isi, ↓w_idx, ↓w_neg, ↓w_mth, ↓w_ono, ↓w_oso, ↓w_cno, ↓w_cso, ↓w_nil, ↓w_cons, ↓w_pnil, ↓w_pcons, ↓w_ival, ↓w_rng1, ↓w_rng2, ↓w_zip, ↓w_zipk, ↓w_enu, ↓w_isB, ↓w_rev, ↓w_lrng1, ↓w_lrng2, vV_l, lV_i, r2V_i, zV_l, zV_t, ↓w_lc, ↓w_lc2,
  ↓w_ok, ↓w_exc, ↓w_stuck, ↓w_bind, ↓w_ofc, ↓w_ofs, ↓w_ofn, ↓w_ofm, ↓w_if, ↓w_sel, ↓f_nx, ↓f_rt, ↓f_exc, ↓f_stuck, ↓f_bind, ↓f_fl, ↓f_if, ↓f_sel, ↓f_nil, ↓f_cons, ↓f_pass, ↓f_expr, ↓f_asg, ↓f_asgO, ↓f_asgB, ↓f_ret, ↓f_retN, ↓f_ite, ↓f_forr,
  f_app, f_seto, w_ok, w_ofc, w_ofs, w_ofn, w_ofm, w_if, w_sel, f_sel, f_if,
  P.t_val, P.t_new, P.t_pk, P.k_val, P.k_new, P.k_pk, P.u_t, P.u_k, P.ret_val, P.ret_new, P.ret_pk, R.p_val, R.p_new, truthB_bl, Cell.t_lst,
  oB_add, oB_adds, oB_addb, oB_subb, fStr_b, nV_b, oB_addl, oB_addt, oB_sub, oB_mul, oB_mull, oB_div, oB_mod, oB_pow, oC_eq, oC_ne, oC_lt, oC_le, oC_gt, oC_ge, oC_in, oC_notin, oC_inl, oC_notinl, oC_lts, oC_gts, oC_les, oC_ges, oC_ltt, oC_ltl, oB_mult, fSort_l, fSort_t, fOrd_c, okEq_ii, okEq_bb, okEq_ss, eqT_ii, eqT_bb, eqT_ss, opI_l, opI_c, opI_t, opI_s, opS_l, opS_t, opS_s, iV_l, iV_t, iV_s, iV_c, nV_i, oV_i, rV_i, aV_v, aV_n, aO_n, aB_n, cV_v, cV_n,
  fLen_l, fLen_t, fLen_c, fLen_s, fAbs_i, fMin_i, fMax_i, fSum_l, fAll_l, fAny_l, fInt_i, fInt_b, fStr_i, fStr_s, fList_l, fList_t, fTuple_l, fTuple_t, mJoin_l, mUp_s, isI_non, isI_bl, isI_int, isI_str, isI_tup, isI_lst, itemsT_l, itemsT_t, itemsT_s, exV_some, exV_map, exV_if, atI_0, atI_1, atI_2, atI_3, atI_4,
  T.ty, Mt.ty, T.isNon, isTy, startE, wipeE, beq_self_eq_true,
  List.map_cons, List.map_nil, List.length_cons, List.length_nil, List.replicate, List.cons_append, List.nil_append, List.getElem?_cons_zero, List.getElem?_cons_succ, List.getElem?_nil, List.set_cons_zero, List.set_cons_succ, List.any_cons, List.any_nil, List.all_cons, List.all_nil,
  Option.map_some, Option.map_none, Option.bind_some, Option.bind_none, Nat.sub_self, Nat.zero_add, Nat.add_zero, Nat.reduceAdd, Nat.reduceSub, Nat.reduceEqDiff, Int.reduceToNat, Int.reducePow, Int.reduceLT, Int.reduceLE, Int.reduceAdd, Int.reduceSub, Int.reduceMul, Int.reduceNeg, Int.reduceBEq, Nat.reduceLT, Nat.reduceLeDiff, Nat.reducePow, gt_iff_lt, ge_iff_le, if_true, if_false, Bool.not_true, Bool.not_false, Bool.or_true, Bool.or_false, Bool.true_or, Bool.false_or, Bool.and_true, Bool.and_false, Bool.true_and, Bool.false_and,
  reduceCtorEq, decide_true, decide_false, Bool.false_eq_true, Bool.true_eq_false, decide_eq_true_eq, decide_eq_false_iff_not, eq_self, Bool.not_eq_true', Bool.not_eq_false', Bool.not_not, false_imp_iff, true_and, and_true, false_and, and_false, not_true_eq_false, not_false_eq_true, implies_true, true_implies, false_implies])
local macro_rules | `(tactic| walk_at "cj") => `(tactic| (repeat' (first | (refine And.intro ?_ ?_) | decide | omega | assumption)))

theorem f_swap {Γ : Cl} {i : Nat} {l : List T} {x1 x2 e1 e2 : E} {env : En} {h : Hs} {N B C : En → Hs → Prop} {R : R → Hs → Prop} {X : T → En → Hs → Prop} (er : env[i]? = some (.own (.lst l))) (hi : i < env.length)
    (w : wp (evs Γ (.cons e1 (.cons e2 .nil)) env h) (fun ts h2 => ∃ t u, ts = [t, u] ∧ wp (ev Γ x1 env h2) (fun k1 h3 => ∃ z j, k1.t = .int z ∧ ixN l.length z = some j ∧ wp (ev Γ x2 (env.set i (.own (.lst (l.set j t)))) h3) (fun k2 h5 => ∃ z2 j2, k2.t = .int z2 ∧ ixN l.length z2 = some j2 ∧ N (env.set i (.own (.lst ((l.set j t).set j2 u)))) h5) (fun e h => X e (env.set i (.own (.lst (l.set j t)))) h)) (fun e h => X e env h)) (fun e h => X e env h)) :
    wf (ex Γ (.swap i x1 x2 e1 e2) env h) N B C R X := by
  have q : hasSlot env i = true := by unfold hasSlot; simp only [er]
  simp only [ex, f_fl]
  refine w_mono w ?_ (fun _ _ z => z)
  rintro ts h2 ⟨t, u, rfl, w1⟩
  simp only [q, if_true, f_fl]
  refine w_mono w1 ?_ (fun _ _ z => z)
  rintro k1 h3 ⟨z, j, ez, ej, w2⟩
  have e1 : setAt env h3 i k1.t t = .nx (env.set i (.own (.lst (l.set j t)))) h3 := by
    unfold setAt; simp only [er, ez, ej]
  have er2 : (env.set i (.own (.lst (l.set j t))))[i]? = some (.own (.lst (l.set j t))) := by simp [hi]
  have q2 : hasSlot (env.set i (.own (.lst (l.set j t)))) i = true := by unfold hasSlot; simp only [er2]
  rw [e1]
  simp only [Fl.bind_nx, q2, if_true, f_fl]
  refine w_mono w2 ?_ (fun _ _ z => z)
  rintro k2 h5 ⟨z2, j2, ez2, ej2, w3⟩
  have e2 : setAt (env.set i (.own (.lst (l.set j t)))) h5 i k2.t u = .nx (env.set i (.own (.lst ((l.set j t).set j2 u)))) h5 := by
    unfold setAt; simp only [er2, ez2, List.length_set, ej2, List.set_set]
  rw [e2]
  exact w3
theorem ixN_lt {n : Nat} {i : Int} (h0 : 0 ≤ i) (h1 : i < n) : ixN n i = some i.toNat := by
  obtain ⟨j, rfl⟩ := Int.eq_ofNat_of_zero_le h0
  rw [ixN_nat (by omega)]; simp
theorem cutT_mem {l : List T} {lo hi : Option Int} {x : T} (h : x ∈ cutT l lo hi) : x ∈ l := List.mem_of_mem_drop (List.mem_of_mem_take h)
theorem cutT_len {l : List T} {lo hi : Option Int} : (cutT l lo hi).length ≤ l.length := by unfold cutT; simp; omega
theorem tl_cut {s : Str} {lo hi : Option Int} : TL.tl (cutS s lo hi) = ((TL.tl s).drop (HT.sIx s.length 0 lo)).take (HT.sIx s.length s.length hi - HT.sIx s.length 0 lo) := rfl
theorem tl_cut_mem {s : Str} {lo hi : Option Int} {c : Nat} (h : c ∈ TL.tl (cutS s lo hi)) : c ∈ TL.tl s := by rw [tl_cut] at h; exact List.mem_of_mem_drop (List.mem_of_mem_take h)
theorem tl_cut_len {s : Str} {lo hi : Option Int} : (TL.tl (cutS s lo hi)).length ≤ (TL.tl s).length := by rw [tl_cut]; simp; omega
theorem tl_int {i : Int} {m : Nat} (h : i.natAbs < 2 ^ m) (hm : 0 < m) : (∀ c ∈ TL.tl (Str.ofString (toString i)), c < 128) ∧ (TL.tl (Str.ofString (toString i))).length ≤ m + 1 := by
  have e : TL.tl (Str.ofString (toString i)) = (toString i).toList.map Char.toNat := by rw [Str.ofString_eq_toList]
  rw [e]
  refine ⟨?_, ?_⟩
  · intro c hc
    obtain ⟨x, hx, rfl⟩ := List.mem_map.mp hc
    exact int_ascii i x hx
  · rw [List.length_map]
    have := int_text_length_le (a := i) (k := m) hm (by
      by_cases hz : i.natAbs = 0
      · rw [hz]; simpa using hm
      · exact (Nat.log2_lt hz).mpr h)
    rw [String.length_toList]; exact this
theorem tl_upper {s : Str} (h : ∀ c ∈ TL.tl s, c < 128) : (∀ c ∈ TL.tl (Txt.upper s), c < 128) ∧ (TL.tl (Txt.upper s)).length = (TL.tl s).length := by
  rw [PyProof.Rows.upper_ascii h]
  refine ⟨?_, ?_⟩
  · intro c hc
    simp only [TL.tl, Array.toList_map, List.mem_map] at hc
    obtain ⟨x, hx, rfl⟩ := hc
    have := h x hx
    unfold PyProof.Rows.up1
    split <;> omega
  · simp [TL.tl]
/-! ### a part of a thing spoilt -/
theorem w_spoilt1 {p : Prg} (hp : Has p "_law_spoilt" f__law_spoilt) (hp0 : Has p "_law_odd" f__law_odd) (hp1 : Has p "_law_take" f__law_take) {n m d : Nat} (hn : 40 ≤ n) (hn2 : n ≤ 1000000) (hm : 100 ≤ m) (hm2 : m ≤ 1800) (hmn : m ≤ n)
    {k : Nat} {b : Nat} {t : T} {h : Hs} {Q : R → Hs → Prop} {X : T → Hs → Prop} (hb : Bag h b) (ht : Dt n m d t)
    (rec : ∀ l, (t = .tup l ∨ t = .lst l) → ∀ x ∈ l, ∀ {h : Hs} {Q : R → Hs → Prop} {X : T → Hs → Prop}, Bag h b → (∀ r h', Dt (2 * n + 1) (m + 1) (d + 2) r.p.t → Bag h' b → Up b h h' → Q r h') → wp (callK p (k + 2) "_law_spoilt" [.ref b, x] h) Q X)
    (q : ∀ r h', Dt (2 * n + 1) (m + 1) (d + 3) r.p.t → Bag h' b → Up b h h' → Q r h') : wp (callK p (k + 3) "_law_spoilt" [.ref b, t] h) Q X := by
  refine w_run hp rfl ?_
  unfold f__law_spoilt
  walk_at "wk"
  refine w_take hp1 hb (by decide) (by decide) ?_
  intro way h1 w0 w9 hb1 hu1
  walk_at "wk"
  have odd : ∀ {h2 : Hs}, Bag h2 b → Up b h h2 → wp (callK p (k + 2) "_law_odd" [.ref b] h2) (fun r h' => Q r.p.ret h') X := by
    intro h2 hb2 hu2
    refine w_odd hp0 hp1 hb2 ?_
    intro v h' hv hb' hu'
    exact q (.val v) h' (hv.mono (by omega) (by omega) (by omega)) hb' (hu2.trans hu')
  have pick : ∀ L : List T, 1 < way → L.length = 7 → (∀ x ∈ L, Dt (2 * n + 1) (m + 1) (d + 3) x) → exV (fun v => Q (.val v) h1) (atI L (way - 2)) := by
    intro L hw hl hL
    obtain ⟨v, e, hv⟩ := atI_lt (l := L) (i := way - 2) (by omega) (by omega)
    rw [e, exV_some]
    exact q (.val v) h1 (hL v hv) hb1 hu1
  have i100 : ∀ i : Int, i.natAbs < 2 ^ m + 1001 → i.natAbs < 2 ^ (m + 1) := by
    intro i hi
    have : 2 ^ 100 ≤ 2 ^ m := Nat.pow_le_pow_right (by decide) hm
    rw [Nat.pow_succ]
    omega
  cases t with
  | non =>
    walk_at "wk"
    exact odd hb1 hu1
  | bl kk =>
    walk_at "wk"
    refine ⟨fun hw => ⟨by decide, by decide, pick _ hw rfl ?_⟩, fun hw => odd hb1 hu1⟩
    have pp : 2 ^ 100 ≤ 2 ^ m := Nat.pow_le_pow_right (by decide) hm
    have hz : ∀ i : Int, i.natAbs < 1100 → Dt (2 * n + 1) (m + 1) (d + 3) (.int i) := fun i hi => Dt.int.mpr (i100 i (by omega))
    intro x hx
    simp only [List.mem_cons, List.not_mem_nil, or_false] at hx
    rcases hx with rfl | rfl | rfl | rfl | rfl | rfl | rfl
    · exact hz _ (by cases kk <;> decide)
    · exact hz _ (by cases kk <;> decide)
    · exact hz _ (by cases kk <;> decide)
    · exact hz _ (by cases kk <;> decide)
    · have : Dt 40 100 3 (.str (if kk = true then Str.ofString "True" else Str.ofString "False")) := dt_all (l := [_]) (by cases kk <;> decide +kernel) (List.mem_singleton.mpr rfl)
      exact this.mono (by omega) (by omega) (by omega)
    · exact hz _ (by cases kk <;> decide)
    · exact Dt.tup.mpr ⟨by simp, fun x hx => by rw [List.mem_singleton.mp hx]; exact Dt.bl⟩
  | int i =>
    have hi := Dt.int.mp ht
    walk_at "wk"
    have hl : i.natAbs.log2 < 1920 := by
      by_cases hz : i.natAbs = 0
      · rw [hz]; decide
      · exact (Nat.log2_lt hz).mpr (Nat.lt_of_lt_of_le hi (Nat.pow_le_pow_right (by decide) (by omega)))
    refine ⟨fun hw => ⟨hl, by decide, by decide, pick _ hw rfl ?_⟩, fun hw => odd hb1 hu1⟩
    have hz : ∀ i : Int, i.natAbs < 2 ^ m + 1001 → Dt (2 * n + 1) (m + 1) (d + 3) (.int i) := fun i hi => Dt.int.mpr (i100 i hi)
    intro x hx
    simp only [List.mem_cons, List.not_mem_nil, or_false] at hx
    rcases hx with rfl | rfl | rfl | rfl | rfl | rfl | rfl
    · exact hz _ (by omega)
    · exact hz _ (by omega)
    · exact hz _ (by omega)
    · exact hz _ (by omega)
    · have := tl_int hi (by omega)
      exact Dt.str.mpr ⟨this.1, by have := this.2; omega⟩
    · exact hz _ (by omega)
    · exact Dt.tup.mpr ⟨by simp, fun x hx => by rw [List.mem_singleton.mp hx]; exact Dt.int.mpr (i100 i (by omega))⟩
  | str s =>
    have hs := Dt.str.mp ht
    have hl : s.length ≤ n := by rw [tl_len]; exact hs.2
    walk_at "wk"
    have e1 : (Str.ofString "a").length = 1 := by decide
    have e2 : (Str.ofString " ").length = 1 := by decide
    have e3 : (Str.ofString "z").length = 1 := by decide
    have hsz := size_ge
    rw [e1, e2, e3]
    refine ⟨fun hw => ⟨by omega, by omega, by omega, by omega, by omega, by omega, by decide, pick _ hw rfl ?_⟩, fun hw => odd hb1 hu1⟩
    have one : ∀ u : Str, (∀ c ∈ TL.tl u, c < 128) → (TL.tl u).length ≤ 2 * n + 1 → Dt (2 * n + 1) (m + 1) (d + 3) (.str u) := fun u h1 h2 => Dt.str.mpr ⟨h1, h2⟩
    have app : ∀ u v : Str, (∀ c ∈ TL.tl u, c < 128) → (∀ c ∈ TL.tl v, c < 128) → (TL.tl u).length + (TL.tl v).length ≤ 2 * n + 1 → Dt (2 * n + 1) (m + 1) (d + 3) (.str (u ++ v)) := by
      intro u v h1 h2 h3
      refine one _ ?_ ?_
      · intro c hc
        rw [TL.tl_append, List.mem_append] at hc
        exact hc.elim (h1 c) (h2 c)
      · rw [TL.tl_append, List.length_append]; exact h3
    have n1 := hs.2
    intro x hx
    simp only [List.mem_cons, List.not_mem_nil, or_false] at hx
    rcases hx with rfl | rfl | rfl | rfl | rfl | rfl | rfl
    · exact app _ _ hs.1 (by decide) (by rw [show (TL.tl (Str.ofString "a")).length = 1 from by decide]; omega)
    · exact one _ (fun c hc => hs.1 c (tl_cut_mem hc)) (Nat.le_trans tl_cut_len (by omega))
    · exact app _ _ hs.1 (by decide) (by rw [show (TL.tl (Str.ofString " ")).length = 1 from by decide]; omega)
    · have := tl_upper hs.1
      exact one _ this.1 (by rw [this.2]; omega)
    · exact app _ _ hs.1 hs.1 (by omega)
    · exact app _ _ (by decide) hs.1 (by rw [show (TL.tl (Str.ofString "z")).length = 1 from by decide]; omega)
    · exact one _ (by decide) (by rw [show (TL.tl (Str.ofString "")).length = 0 from by decide]; omega)
  | tup l =>
    obtain _ | d := d
    · exact ht.tup0.elim
    have hs := Dt.tup.mp ht
    have el : ∀ x ∈ l, Dt (2 * n + 1) (m + 1) (d + 1 + 2) x := fun x hx => (hs.2 x hx).mono (by omega) (by omega) (by omega)
    have ln := hs.1
    have hsz := size_ge
    have fin : ∀ rows h', rows.length ≤ 2 * n + 1 → (∀ x ∈ rows, Dt (2 * n + 1) (m + 1) (d + 1 + 2) x) → Bag h' b → Up b h h' → Q (.val (.tup rows)) h' := fun rows h' h1 h2 h3 h4 => q _ h' (Dt.tup.mpr ⟨h1, h2⟩) h3 h4
    have fin4 : ∀ rows h', rows.length ≤ 2 * n + 1 → (∀ x ∈ rows, Dt (2 * n + 1) (m + 1) (d + 1 + 2) x) → Bag h' b → Up b h h' → Q (.new (.lst rows)) h' := fun rows h' h1 h2 h3 h4 => q _ h' (Dt.lst.mpr ⟨h1, h2⟩) h3 h4
    walk_at "wk"
    refine ⟨fun hl => ⟨fun hw => ?_, fun hw => odd hb1 hu1⟩, fun hl => odd hb1 hu1⟩
    refine w_take hp1 hb1 (by omega) (by omega) ?_
    intro at_ h2 a0 a1 hb2 hu2
    have hu2' := hu1.trans hu2
    walk_at "wk"
    refine ⟨fun _ => ?_, fun _ => ⟨fun _ => ?_, fun _ => ⟨fun _ => ?_, fun _ => ⟨fun _ => ?_, fun _ => ?_⟩⟩⟩⟩
    · refine ⟨?_, fin _ _ ?_ ?_ hb2 hu2'⟩
      · have e1 := @cutT_len l none (some at_)
        have e2 := @cutT_len l (some (at_ + 1)) none
        omega
      · have e1 := @cutT_len l none (some at_)
        have e2 := @cutT_len l (some (at_ + 1)) none
        rw [List.length_append]
        omega
      · intro x hx
        rw [List.mem_append] at hx
        exact el x (hx.elim cutT_mem cutT_mem)
    · refine ⟨?_, fin _ _ ?_ ?_ hb2 hu2'⟩
      · have e1 := @cutT_len l none (some (at_ + 1))
        have e2 := @cutT_len l (some at_) none
        omega
      · have e1 := @cutT_len l none (some (at_ + 1))
        have e2 := @cutT_len l (some at_) none
        rw [List.length_append]
        omega
      · intro x hx
        rw [List.mem_append] at hx
        exact el x (hx.elim cutT_mem cutT_mem)
    · refine w_take hp1 hb2 (by omega) (by omega) ?_
      intro other h3 o0 o1 hb3 hu3
      walk_at "wk"
      refine f_swap (l := l) rfl (by simp) ?_
      obtain ⟨v1, e1, m1⟩ := atI_lt (l := l) o0 o1
      obtain ⟨v2, e2, m2⟩ := atI_lt (l := l) a0 a1
      walk_at "wk"
      rw [e1]
      walk_at "wk"
      rw [e2]
      walk_at "wk"
      refine ⟨_, _, rfl, _, _, rfl, ixN_lt a0 a1, _, _, rfl, ixN_lt o0 o1, ?_⟩
      refine fin _ _ (by simp; omega) ?_ hb3 (hu2'.trans hu3)
      intro x hx
      rcases List.mem_or_eq_of_mem_set hx with hx | rfl
      · rcases List.mem_or_eq_of_mem_set hx with hx | rfl
        · exact el x hx
        · exact el _ m1
      · exact el _ m2
    · exact fin4 l h2 (by omega) el hb2 hu2'
    · obtain ⟨v2, e2, m2⟩ := atI_lt (l := l) a0 a1
      rw [f_seto (l := l) rfl]
      walk_at "wk"
      rw [e2]
      walk_at "wk"
      refine rec l (.inl rfl) v2 m2 hb2 ?_
      intro r h3 hr hb3 hu3
      rw [cV_r]
      walk_at "wk"
      refine ⟨_, _, rfl, ixN_lt a0 a1, ?_⟩
      refine fin _ _ (by simp; omega) ?_ hb3 (hu2'.trans hu3)
      intro x hx
      rcases List.mem_or_eq_of_mem_set hx with hx | rfl
      · exact el x hx
      · exact hr
  | lst l =>
    obtain _ | d := d
    · exact ht.lst0.elim
    have hs := Dt.lst.mp ht
    have el : ∀ x ∈ l, Dt (2 * n + 1) (m + 1) (d + 1 + 2) x := fun x hx => (hs.2 x hx).mono (by omega) (by omega) (by omega)
    have ln := hs.1
    have hsz := size_ge
    have fin : ∀ rows h', rows.length ≤ 2 * n + 1 → (∀ x ∈ rows, Dt (2 * n + 1) (m + 1) (d + 1 + 2) x) → Bag h' b → Up b h h' → Q (.new (.lst rows)) h' := fun rows h' h1 h2 h3 h4 => q _ h' (Dt.lst.mpr ⟨h1, h2⟩) h3 h4
    have fin4 : ∀ rows h', rows.length ≤ 2 * n + 1 → (∀ x ∈ rows, Dt (2 * n + 1) (m + 1) (d + 1 + 2) x) → Bag h' b → Up b h h' → Q (.val (.tup rows)) h' := fun rows h' h1 h2 h3 h4 => q _ h' (Dt.tup.mpr ⟨h1, h2⟩) h3 h4
    walk_at "wk"
    refine ⟨fun hl => ⟨fun hw => ?_, fun hw => odd hb1 hu1⟩, fun hl => odd hb1 hu1⟩
    refine w_take hp1 hb1 (by omega) (by omega) ?_
    intro at_ h2 a0 a1 hb2 hu2
    have hu2' := hu1.trans hu2
    walk_at "wk"
    refine ⟨fun _ => ?_, fun _ => ⟨fun _ => ?_, fun _ => ⟨fun _ => ?_, fun _ => ⟨fun _ => ?_, fun _ => ?_⟩⟩⟩⟩
    · refine ⟨?_, fin _ _ ?_ ?_ hb2 hu2'⟩
      · have e1 := @cutT_len l none (some at_)
        have e2 := @cutT_len l (some (at_ + 1)) none
        omega
      · have e1 := @cutT_len l none (some at_)
        have e2 := @cutT_len l (some (at_ + 1)) none
        rw [List.length_append]
        omega
      · intro x hx
        rw [List.mem_append] at hx
        exact el x (hx.elim cutT_mem cutT_mem)
    · refine ⟨?_, fin _ _ ?_ ?_ hb2 hu2'⟩
      · have e1 := @cutT_len l none (some (at_ + 1))
        have e2 := @cutT_len l (some at_) none
        omega
      · have e1 := @cutT_len l none (some (at_ + 1))
        have e2 := @cutT_len l (some at_) none
        rw [List.length_append]
        omega
      · intro x hx
        rw [List.mem_append] at hx
        exact el x (hx.elim cutT_mem cutT_mem)
    · refine w_take hp1 hb2 (by omega) (by omega) ?_
      intro other h3 o0 o1 hb3 hu3
      walk_at "wk"
      refine f_swap (l := l) rfl (by simp) ?_
      obtain ⟨v1, e1, m1⟩ := atI_lt (l := l) o0 o1
      obtain ⟨v2, e2, m2⟩ := atI_lt (l := l) a0 a1
      walk_at "wk"
      rw [e1]
      walk_at "wk"
      rw [e2]
      walk_at "wk"
      refine ⟨_, _, rfl, _, _, rfl, ixN_lt a0 a1, _, _, rfl, ixN_lt o0 o1, ?_⟩
      refine fin _ _ (by simp; omega) ?_ hb3 (hu2'.trans hu3)
      intro x hx
      rcases List.mem_or_eq_of_mem_set hx with hx | rfl
      · rcases List.mem_or_eq_of_mem_set hx with hx | rfl
        · exact el x hx
        · exact el _ m1
      · exact el _ m2
    · exact fin4 l h2 (by omega) el hb2 hu2'
    · obtain ⟨v2, e2, m2⟩ := atI_lt (l := l) a0 a1
      rw [f_seto (l := l) rfl]
      walk_at "wk"
      rw [e2]
      walk_at "wk"
      refine rec l (.inr rfl) v2 m2 hb2 ?_
      intro r h3 hr hb3 hu3
      rw [cV_r]
      walk_at "wk"
      refine ⟨_, _, rfl, ixN_lt a0 a1, ?_⟩
      refine fin _ _ (by simp; omega) ?_ hb3 (hu2'.trans hu3)
      intro x hx
      rcases List.mem_or_eq_of_mem_set hx with hx | rfl
      · exact el x hx
      · exact hr
  | _ => exact absurd ht.f (by simp [fits])
theorem w_spoilt {p : Prg} (hp : Has p "_law_spoilt" f__law_spoilt) (hp0 : Has p "_law_odd" f__law_odd) (hp1 : Has p "_law_take" f__law_take) {n m : Nat} (hn : 40 ≤ n) (hn2 : n ≤ 1000000) (hm : 100 ≤ m) (hm2 : m ≤ 1800) (hmn : m ≤ n) :
    ∀ d : Nat, ∀ {k : Nat} {b : Nat} {t : T} {h : Hs} {Q : R → Hs → Prop} {X : T → Hs → Prop}, Bag h b → Dt n m d t → (∀ r h', Dt (2 * n + 1) (m + 1) (d + 3) r.p.t → Bag h' b → Up b h h' → Q r h') → wp (callK p (k + d + 3) "_law_spoilt" [.ref b, t] h) Q X := by
  intro d
  induction d with
  | zero =>
    intro k b t h Q X hb ht q
    refine w_spoilt1 hp hp0 hp1 hn hn2 hm hm2 hmn hb ht ?_ q
    rintro l (rfl | rfl)
    · exact ht.tup0.elim
    · exact ht.lst0.elim
  | succ d ih =>
    intro k b t h Q X hb ht q
    refine w_spoilt1 hp hp0 hp1 hn hn2 hm hm2 hmn hb ht ?_ q
    intro l hl x hx h Q X hb q
    rw [show k + (d + 1) + 2 = k + d + 3 from by omega]
    refine ih hb ?_ q
    rcases hl with rfl | rfl
    · exact (Dt.tup.mp ht).2 x hx
    · exact (Dt.lst.mp ht).2 x hx
end Fx

namespace Fx
open PySem L2
local macro_rules | `(tactic| walk_at "wk") => `(tactic| simp only [↓w_con, ↓w_var, vV_v, vV_o, ↓w_bin, ↓w_not, ↓w_and, ↓w_or, ↓w_and1, ↓w_and2, ↓w_or1, ↓w_or2, ↓w_cmp, ↓w_chn, ↓w_ch1, ↓w_ch2, ↓w_isN, ↓w_ite, ↓w_tup, ↓w_lst, ↓w_slc, ↓w_call2, ↓w_bi, ↓w_isi, ↓w_idx, ↓w_neg, ↓w_mth, ↓w_ono, ↓w_oso, ↓w_cno, ↓w_cso, ↓w_nil, ↓w_cons, ↓w_pnil, ↓w_pcons, ↓w_ival, ↓w_rng1, ↓w_rng2, ↓w_zip, ↓w_zipk, ↓w_enu, ↓w_isB, ↓w_rev, ↓w_lrng1, ↓w_lrng2, vV_l, lV_i, r2V_i, zV_l, zV_t, ↓w_lc, ↓w_lc2,
  ↓w_ok, ↓w_exc, ↓w_stuck, ↓w_bind, ↓w_ofc, ↓w_ofs, ↓w_ofn, ↓w_ofm, ↓w_if, ↓w_sel, ↓f_nx, ↓f_rt, ↓f_exc, ↓f_stuck, ↓f_bind, ↓f_fl, ↓f_if, ↓f_sel, ↓f_nil, ↓f_cons, ↓f_pass, ↓f_expr, ↓f_asg, ↓f_asgO, ↓f_asgB, ↓f_ret, ↓f_retN, ↓f_ite, ↓f_forr,
  f_app, f_seto, w_ok, w_ofc, w_ofs, w_ofn, w_ofm, w_if, w_sel, f_sel, f_if,
  P.t_val, P.t_new, P.t_pk, P.k_val, P.k_new, P.k_pk, P.u_t, P.u_k, P.ret_val, P.ret_new, P.ret_pk, R.p_val, R.p_new, truthB_bl, Cell.t_lst,
  oB_add, oB_adds, oB_addb, oB_subb, fStr_b, nV_b, oB_addl, oB_addt, oB_sub, oB_mul, oB_mull, oB_div, oB_mod, oB_pow, oC_eq, oC_ne, oC_lt, oC_le, oC_gt, oC_ge, oC_in, oC_notin, oC_inl, oC_notinl, oC_lts, oC_gts, oC_les, oC_ges, oC_ltt, oC_ltl, oB_mult, fSort_l, fSort_t, fOrd_c, okEq_ii, okEq_bb, okEq_ss, eqT_ii, eqT_bb, eqT_ss, opI_l, opI_c, opI_t, opI_s, opS_l, opS_t, opS_s, iV_l, iV_t, iV_s, iV_c, nV_i, oV_i, rV_i, aV_v, aV_n, aO_n, aB_n, cV_v, cV_n,
  fLen_l, fLen_t, fLen_c, fLen_s, fAbs_i, fMin_i, fMax_i, fSum_l, fAll_l, fAny_l, fInt_i, fInt_b, fStr_i, fStr_s, fList_l, fList_t, fTuple_l, fTuple_t, mJoin_l, mUp_s, isI_non, isI_bl, isI_int, isI_str, isI_tup, isI_lst, itemsT_l, itemsT_t, itemsT_s, exV_some, exV_map, exV_if, atI_0, atI_1, atI_2, atI_3, atI_4,
  T.ty, Mt.ty, T.isNon, isTy, startE, wipeE, beq_self_eq_true,
  List.map_cons, List.map_nil, List.length_cons, List.length_nil, List.replicate, List.cons_append, List.nil_append, List.getElem?_cons_zero, List.getElem?_cons_succ, List.getElem?_nil, List.set_cons_zero, List.set_cons_succ, List.any_cons, List.any_nil, List.all_cons, List.all_nil,
  Option.map_some, Option.map_none, Option.bind_some, Option.bind_none, Nat.sub_self, Nat.zero_add, Nat.add_zero, Nat.reduceAdd, Nat.reduceSub, Nat.reduceEqDiff, Int.reduceToNat, Int.reducePow, Int.reduceLT, Int.reduceLE, Int.reduceAdd, Int.reduceSub, Int.reduceMul, Int.reduceNeg, Int.reduceBEq, Nat.reduceLT, Nat.reduceLeDiff, Nat.reducePow, gt_iff_lt, ge_iff_le, if_true, if_false, Bool.not_true, Bool.not_false, Bool.or_true, Bool.or_false, Bool.true_or, Bool.false_or, Bool.and_true, Bool.and_false, Bool.true_and, Bool.false_and,
  reduceCtorEq, decide_true, decide_false, Bool.false_eq_true, Bool.true_eq_false, decide_eq_true_eq, decide_eq_false_iff_not, eq_self, Bool.not_eq_true', Bool.not_eq_false', Bool.not_not, false_imp_iff, true_and, and_true, false_and, and_false, not_true_eq_false, not_false_eq_true, implies_true, true_implies, false_implies])
local macro_rules | `(tactic| walk_at "cj") => `(tactic| (repeat' (first | (refine And.intro ?_ ?_) | decide | omega | assumption)))

/-! ### the readings -/
def isWhole : T → Bool
  | .int _ => true
  | _ => false
theorem c_whole {p : Prg} (h : Has p "_law_whole" f__law_whole) {k : Nat} {t : T} {hs : Hs} (ht : t.ty ≠ none) : callK p (k + 1) "_law_whole" [t] hs = .ok (.val (.bl (isWhole t))) hs := by
  rw [← wp_eq]
  refine w_run h rfl ?_
  unfold f__law_whole
  walk_at "wk"
  cases t <;> first | (exfalso; exact ht rfl) | skip
  all_goals try walk_at "wk"
  all_goals (first | exact ⟨rfl, trivial⟩ | rfl | trivial | simp [isWhole])
theorem c_is_whole {p : Prg} (h : Has p "is_whole" f_is_whole) {k : Nat} {t : T} {hs : Hs} (ht : t.ty ≠ none) : callK p (k + 1) "is_whole" [t] hs = .ok (.val (.bl (isWhole t))) hs := by
  rw [← wp_eq]
  refine w_run h rfl ?_
  unfold f_is_whole
  walk_at "wk"
  cases t <;> first | (exfalso; exact ht rfl) | skip
  all_goals try walk_at "wk"
  all_goals (first | exact ⟨rfl, trivial⟩ | rfl | trivial | simp [isWhole])
def isWithin (t : T) (a b : Int) : Bool := match t with
  | .int i => decide (a ≤ i) && decide (i ≤ b)
  | _ => false
theorem c_is_within {p : Prg} (h : Has p "is_within" f_is_within) (h1 : Has p "is_whole" f_is_whole) {k : Nat} {t : T} {a b : Int} {hs : Hs} (ht : t.ty ≠ none) : callK p (k + 2) "is_within" [t, .int a, .int b] hs = .ok (.val (.bl (isWithin t a b))) hs := by
  rw [← wp_eq]
  refine w_run h rfl ?_
  unfold f_is_within
  walk_at "wk"
  rw [c_is_whole h1 ht]
  walk_at "wk"
  cases t <;> first | (exfalso; exact ht rfl) | skip
  all_goals simp only [isWhole, isWithin]
  all_goals try walk_at "wk"
  refine ⟨fun h => ?_, fun h => ?_⟩ <;> simp [h]
/-- a name: one to eight letters from a to z -/
def letters : Str := "abcdefghijklmnopqrstuvwxyz"
def isName : T → Bool
  | .str s => decide (1 ≤ s.length) && decide (s.length ≤ 8) && (TL.tl s).all fun c => decide (c ∈ TL.tl letters)
  | _ => false
theorem signs_len {s : Str} : (signsT s).length = s.length := by simp [signsT, Str.length]
theorem bls_map {α : Type} {f : α → Bool} {l : List α} : bls? (l.map fun c => T.bl (f c)) = some (l.map f) := by
  induction l with
  | nil => rfl
  | cons a r ih => simp [bls?, ih]
/-- what one sign gives -/
def onSign (f : Nat → Option T) : T → Option T
  | .str s => f (s.cps.getD 0 0)
  | _ => none
theorem onSign_one {f : Nat → Option T} {c : Nat} : onSign f (.str ⟨#[c]⟩) = f c := rfl
theorem fm_signs {f : Nat → Option T} {s : Str} : (signsT s).filterMap (onSign f) = (TL.tl s).filterMap f := by
  unfold signsT
  rw [List.filterMap_map]
  rfl
theorem c_is_name {p : Prg} (h : Has p "is_name" f_is_name) (hl : p.glob.lookup ("LETTERS" : Str) = some (.str letters)) {n m d : Nat} {k : Nat} {t : T} {hs : Hs} (ht : Dt n m d t) (hn : n ≤ 1000000) : callK p (k + 1) "is_name" [t] hs = .ok (.val (.bl (isName t))) hs := by
  rw [← wp_eq]
  refine w_run h rfl ?_
  unfold f_is_name
  walk_at "wk"
  cases t with
  | str s =>
    have hs' := Dt.str.mp ht
    have hsz := size_ge
    have l1 := hs'.2
    rw [← tl_len] at l1
    walk_at "wk"
    refine ⟨by omega, fun h1 => ⟨fun h2 => ⟨by rw [signs_len]; omega, rfl, ?_⟩, fun h2 => ?_⟩, fun h1 => ?_⟩
    · refine w_lcpure (onSign fun c => some (.bl (decide (c ∈ TL.tl letters)))) ?_ ?_
      · intro x hx
        obtain ⟨c, hc, rfl⟩ := List.mem_map.mp hx
        rw [w_turn rfl]
        walk_at "wk"
        rw [w_glo hl]
        walk_at "wk"
        rfl
      · rw [fm_signs]
        walk_at "wk"
        rw [show (TL.tl s).filterMap (fun c => some (T.bl (decide (c ∈ TL.tl letters)))) = (TL.tl s).map (fun c => T.bl (decide (c ∈ TL.tl letters))) from by rw [List.filterMap_eq_map']]
        rw [bls_map]
        walk_at "wk"
        have e1 : (1 : Nat) ≤ s.length := by omega
        have e2 : s.length ≤ 8 := by omega
        simp [isName, e1, e2, List.all_map]
        try rfl
    · simp only [isName]
      rw [show decide (s.length ≤ 8) = false from by simp; omega]
      simp
    · simp only [isName]
      rw [show decide (1 ≤ s.length) = false from by simp; omega]
      simp
  | non => walk_at "wk"; rfl
  | bl _ => walk_at "wk"; rfl
  | int _ => walk_at "wk"; rfl
  | tup _ => walk_at "wk"; rfl
  | lst _ => walk_at "wk"; rfl
  | _ => exact absurd ht.f (by simp [fits])
theorem c_law_is_name {p : Prg} (h : Has p "_law_is_name" f__law_is_name) {n m d : Nat} {k : Nat} {t : T} {hs : Hs} (ht : Dt n m d t) (hn : n ≤ 1000000) : callK p (k + 1) "_law_is_name" [t] hs = .ok (.val (.bl (isName t))) hs := by
  rw [← wp_eq]
  refine w_run h rfl ?_
  unfold f__law_is_name
  walk_at "wk"
  cases t with
  | str s =>
    have hs' := Dt.str.mp ht
    have hsz := size_ge
    have l1 := hs'.2
    rw [← tl_len] at l1
    walk_at "wk"
    refine ⟨by omega, fun h1 => ⟨fun h2 => ?_, fun h2 => ⟨by rw [signs_len]; omega, rfl, ?_⟩⟩, fun h1 => ?_⟩
    · simp only [isName]
      rw [show decide (s.length ≤ 8) = false from by simp; omega]
      simp
    · refine w_lcpure (onSign fun c => if c ∈ TL.tl letters then none else some (.str ⟨#[c]⟩)) ?_ ?_
      · intro x hx
        obtain ⟨c, hc, rfl⟩ := List.mem_map.mp hx
        rw [w_turn rfl]
        walk_at "wk"
        rw [onSign_one]
        refine ⟨fun z => ?_, fun z => ?_⟩
        · rw [if_neg (show ¬c ∈ TL.tl letters from z)]
        · rw [if_pos (show c ∈ TL.tl letters from z)]
      · rw [fm_signs]
        walk_at "wk"
        have hy : ∀ y ∈ (TL.tl s).filterMap (fun c => if c ∈ TL.tl letters then none else some (T.str ⟨#[c]⟩)), Dt 1 0 0 y := by
          intro y hy
          obtain ⟨c, hc, e⟩ := List.mem_filterMap.mp hy
          split at e
          · cases e
          · cases e
            exact Dt.str.mpr ⟨fun z hz => by rw [tl_one, List.mem_singleton] at hz; rw [hz]; exact hs'.1 c hc, by rw [tl_one]; simp⟩
        refine ⟨by omega, okEq_of (n := max 1 s.length) (m := 0) (d := 1) (n' := 0) (m' := 0) (d' := 1) (Dt.lst.mpr ⟨?_, fun x hx => (hy x hx).mono (by omega) (by omega) (by omega)⟩) (show Dt 0 0 1 (.lst []) from ⟨rfl, by decide⟩) (by omega), ?_⟩
        · refine Nat.le_trans (List.length_filterMap_le _ _) ?_
          rw [← tl_len]; omega
        · have e1 : (1 : Nat) ≤ s.length := by omega
          have e2 : s.length ≤ 8 := by omega
          have e3 : ∀ l : List T, eqT (.lst l) (.lst []) = l.isEmpty := by intro l; cases l <;> rfl
          rw [e3]
          simp only [isName, e1, e2, decide_true, Bool.true_and]
          congr 2
          rw [Bool.eq_iff_iff]
          rw [List.isEmpty_iff, List.filterMap_eq_nil_iff, List.all_eq_true]
          refine forall_congr' fun c => forall_congr' fun _ => ?_
          by_cases z : c ∈ TL.tl letters
          · simp [z]
          · simp [z]
    · simp only [isName]
      rw [show decide (1 ≤ s.length) = false from by simp; omega]
      simp
  | non => walk_at "wk"; rfl
  | bl _ => walk_at "wk"; rfl
  | int _ => walk_at "wk"; rfl
  | tup _ => walk_at "wk"; rfl
  | lst _ => walk_at "wk"; rfl
  | _ => exact absurd ht.f (by simp [fits])
/-- a span: author, first, end -/
def isSpan : T → Bool
  | .tup [a, b, c] => isName a && isWithin b 0 1000000 && isWithin c 0 1000000 && (match b, c with | .int i, .int j => decide (i < j) | _, _ => false)
  | _ => false
theorem c_is_span {p : Prg} (h : Has p "is_span" f_is_span) (h1 : Has p "is_name" f_is_name) (h2 : Has p "is_within" f_is_within) (h3 : Has p "is_whole" f_is_whole) (hl : p.glob.lookup ("LETTERS" : Str) = some (.str letters)) (hg : p.glob.lookup ("POOL" : Str) = some (.int 1000000)) {n m d : Nat} {k : Nat} {t : T} {hs : Hs} (ht : Dt n m d t) (hn : n ≤ 1000000) : callK p (k + 3) "is_span" [t] hs = .ok (.val (.bl (isSpan t))) hs := by
  rw [← wp_eq]
  refine w_run h rfl ?_
  unfold f_is_span
  walk_at "wk"
  cases t with
  | tup l =>
    obtain _ | d := d
    · exact ht.tup0.elim
    have hs' := Dt.tup.mp ht
    walk_at "wk"
    refine ⟨fun h => ?_, fun h => ?_⟩
    · match l, h with
      | [a, b, c], h => simp at h
      | [], _ => rfl
      | [_], _ => rfl
      | [_, _], _ => rfl
      | _ :: _ :: _ :: _ :: _, _ => rfl
    · match l, h, hs' with
      | [], h, _ => simp at h
      | [_], h, _ => simp at h
      | [_, _], h, _ => simp at h
      | _ :: _ :: _ :: _ :: _, h, _ => simp at h; omega
      | [a, b, c], h, hs' =>
        have da := hs'.2 a (by simp)
        have db := hs'.2 b (by simp)
        have dc := hs'.2 c (by simp)
        walk_at "wk"
        rw [c_is_name h1 hl da hn]
        walk_at "wk"
        refine ⟨fun e0 => by simp [isSpan, e0], fun e0 => ?_⟩
        rw [w_glo hg]
        walk_at "wk"
        rw [c_is_within h2 h3 db.ty]
        walk_at "wk"
        refine ⟨fun e1 => ?_, fun e1 => by simp [isSpan, e0, e1]⟩
        rw [w_glo hg]
        walk_at "wk"
        rw [c_is_within h2 h3 dc.ty]
        walk_at "wk"
        refine ⟨fun e2 => ?_, fun e2 => by simp [isSpan, e0, e1, e2]⟩
        cases b <;> try (simp [isWithin] at e1; done)
        cases c <;> try (simp [isWithin] at e2; done)
        walk_at "wk"
        simp [isSpan, e0, e1, e2]
  | non => walk_at "wk"; rfl
  | bl _ => walk_at "wk"; rfl
  | int _ => walk_at "wk"; rfl
  | str _ => walk_at "wk"; rfl
  | lst _ => walk_at "wk"; rfl
  | _ => exact absurd ht.f (by simp [fits])
theorem c_law_is_span {p : Prg} (h : Has p "_law_is_span" f__law_is_span) (h1 : Has p "_law_is_name" f__law_is_name) (h3 : Has p "_law_whole" f__law_whole) {n m d : Nat} {k : Nat} {t : T} {hs : Hs} (ht : Dt n m d t) (hn : n ≤ 1000000) : callK p (k + 2) "_law_is_span" [t] hs = .ok (.val (.bl (isSpan t))) hs := by
  rw [← wp_eq]
  refine w_run h rfl ?_
  unfold f__law_is_span
  walk_at "wk"
  cases t with
  | tup l =>
    obtain _ | d := d
    · exact ht.tup0.elim
    have hs' := Dt.tup.mp ht
    walk_at "wk"
    refine ⟨fun h => ?_, fun h => ?_⟩
    · match l, h with
      | [a, b, c], h => simp at h
      | [], _ => rfl
      | [_], _ => rfl
      | [_, _], _ => rfl
      | _ :: _ :: _ :: _ :: _, _ => rfl
    · match l, h, hs' with
      | [], h, _ => simp at h
      | [_], h, _ => simp at h
      | [_, _], h, _ => simp at h
      | _ :: _ :: _ :: _ :: _, h, _ => simp at h; omega
      | [a, b, c], h, hs' =>
        have da := hs'.2 a (by simp)
        have db := hs'.2 b (by simp)
        have dc := hs'.2 c (by simp)
        walk_at "wk"
        rw [c_law_is_name h1 da hn]
        walk_at "wk"
        refine ⟨fun e0 => by simp [isSpan, e0], fun e0 => ?_⟩
        rw [c_whole h3 db.ty]
        walk_at "wk"
        refine ⟨fun e1 => ?_, fun e1 => ?_⟩
        · cases b <;> simp [isSpan, isWithin, isWhole] at e1 ⊢
        rw [c_whole h3 dc.ty]
        walk_at "wk"
        refine ⟨fun e2 => ?_, fun e2 => ?_⟩
        · cases c <;> simp [isSpan, isWithin, isWhole] at e2 ⊢
        cases b <;> try (simp [isWhole] at e1; done)
        cases c <;> try (simp [isWhole] at e2; done)
        walk_at "wk"
        rename_i i j
        have key : ∀ v : Bool, (v = true ↔ (0 ≤ i ∧ i ≤ 1000000) ∧ (0 ≤ j ∧ j ≤ 1000000) ∧ i < j) → R.val (T.bl v) = R.val (T.bl (isSpan (T.tup [a, T.int i, T.int j]))) := by
          intro v hv
          congr 2
          rw [Bool.eq_iff_iff, hv]
          simp [isSpan, isWithin, e0, and_assoc]
        refine ⟨fun x0 => ⟨fun x1 => ⟨by decide, key _ ?_⟩, fun x1 => key _ ?_⟩, fun x0 => key _ ?_⟩
        · simp; omega
        · simp; omega
        · simp; omega
  | non => walk_at "wk"; rfl
  | bl _ => walk_at "wk"; rfl
  | int _ => walk_at "wk"; rfl
  | str _ => walk_at "wk"; rfl
  | lst _ => walk_at "wk"; rfl
  | _ => exact absurd ht.f (by simp [fits])
end Fx

namespace Fx
open PySem L2
local macro_rules | `(tactic| walk_at "wk") => `(tactic| simp only [↓w_con, ↓w_var, vV_v, vV_o, ↓w_bin, ↓w_not, ↓w_and, ↓w_or, ↓w_and1, ↓w_and2, ↓w_or1, ↓w_or2, ↓w_cmp, ↓w_chn, ↓w_ch1, ↓w_ch2, ↓w_isN, ↓w_ite, ↓w_tup, ↓w_lst, ↓w_slc, ↓w_call2, ↓w_bi, ↓w_isi, ↓w_idx, ↓w_neg, ↓w_mth, ↓w_ono, ↓w_oso, ↓w_cno, ↓w_cso, ↓w_nil, ↓w_cons, ↓w_pnil, ↓w_pcons, ↓w_ival, ↓w_rng1, ↓w_rng2, ↓w_zip, ↓w_zipk, ↓w_enu, ↓w_isB, ↓w_rev, ↓w_lrng1, ↓w_lrng2, vV_l, lV_i, r2V_i, zV_l, zV_t, ↓w_lc, ↓w_lc2,
  ↓w_ok, ↓w_exc, ↓w_stuck, ↓w_bind, ↓w_ofc, ↓w_ofs, ↓w_ofn, ↓w_ofm, ↓w_if, ↓w_sel, ↓f_nx, ↓f_rt, ↓f_exc, ↓f_stuck, ↓f_bind, ↓f_fl, ↓f_if, ↓f_sel, ↓f_nil, ↓f_cons, ↓f_pass, ↓f_expr, ↓f_asg, ↓f_asgO, ↓f_asgB, ↓f_ret, ↓f_retN, ↓f_ite, ↓f_forr,
  f_app, f_seto, w_ok, w_ofc, w_ofs, w_ofn, w_ofm, w_if, w_sel, f_sel, f_if,
  P.t_val, P.t_new, P.t_pk, P.k_val, P.k_new, P.k_pk, P.u_t, P.u_k, P.ret_val, P.ret_new, P.ret_pk, R.p_val, R.p_new, truthB_bl, Cell.t_lst,
  oB_add, oB_adds, oB_addb, oB_subb, fStr_b, nV_b, oB_addl, oB_addt, oB_sub, oB_mul, oB_mull, oB_div, oB_mod, oB_pow, oC_eq, oC_ne, oC_lt, oC_le, oC_gt, oC_ge, oC_in, oC_notin, oC_inl, oC_notinl, oC_lts, oC_gts, oC_les, oC_ges, oC_ltt, oC_ltl, oB_mult, fSort_l, fSort_t, fOrd_c, okEq_ii, okEq_bb, okEq_ss, eqT_ii, eqT_bb, eqT_ss, opI_l, opI_c, opI_t, opI_s, opS_l, opS_t, opS_s, iV_l, iV_t, iV_s, iV_c, nV_i, oV_i, rV_i, aV_v, aV_n, aO_n, aB_n, cV_v, cV_n,
  fLen_l, fLen_t, fLen_c, fLen_s, fAbs_i, fMin_i, fMax_i, fSum_l, fAll_l, fAny_l, fInt_i, fInt_b, fStr_i, fStr_s, fList_l, fList_t, fTuple_l, fTuple_t, mJoin_l, mUp_s, isI_non, isI_bl, isI_int, isI_str, isI_tup, isI_lst, itemsT_l, itemsT_t, itemsT_s, exV_some, exV_map, exV_if, atI_0, atI_1, atI_2, atI_3, atI_4,
  T.ty, Mt.ty, T.isNon, isTy, startE, wipeE, beq_self_eq_true,
  List.map_cons, List.map_nil, List.length_cons, List.length_nil, List.replicate, List.cons_append, List.nil_append, List.getElem?_cons_zero, List.getElem?_cons_succ, List.getElem?_nil, List.set_cons_zero, List.set_cons_succ, List.any_cons, List.any_nil, List.all_cons, List.all_nil,
  Option.map_some, Option.map_none, Option.bind_some, Option.bind_none, Nat.sub_self, Nat.zero_add, Nat.add_zero, Nat.reduceAdd, Nat.reduceSub, Nat.reduceEqDiff, Int.reduceToNat, Int.reducePow, Int.reduceLT, Int.reduceLE, Int.reduceAdd, Int.reduceSub, Int.reduceMul, Int.reduceNeg, Int.reduceBEq, Nat.reduceLT, Nat.reduceLeDiff, Nat.reducePow, gt_iff_lt, ge_iff_le, if_true, if_false, Bool.not_true, Bool.not_false, Bool.or_true, Bool.or_false, Bool.true_or, Bool.false_or, Bool.and_true, Bool.and_false, Bool.true_and, Bool.false_and,
  reduceCtorEq, decide_true, decide_false, Bool.false_eq_true, Bool.true_eq_false, decide_eq_true_eq, decide_eq_false_iff_not, eq_self, Bool.not_eq_true', Bool.not_eq_false', Bool.not_not, false_imp_iff, true_and, and_true, false_and, and_false, not_true_eq_false, not_false_eq_true, implies_true, true_implies, false_implies])
local macro_rules | `(tactic| walk_at "cj") => `(tactic| (repeat' (first | (refine And.intro ?_ ?_) | decide | omega | assumption)))

theorem dt_name {s : Str} (h1 : ∀ c ∈ TL.tl s, 97 ≤ c ∧ c ≤ 122) (h2 : (TL.tl s).length ≤ 8) {m d : Nat} : Dt 40 m d (.str s) := Dt.str.mpr ⟨fun c hc => by have := h1 c hc; omega, by omega⟩
theorem dt_isName {s : Str} (h : isName (.str s) = true) {m d : Nat} : Dt 40 m d (.str s) := by
  simp only [isName, Bool.and_eq_true, decide_eq_true_eq, List.all_eq_true, tl_len] at h
  have hl : ∀ c ∈ TL.tl letters, 97 ≤ c ∧ c ≤ 122 := by decide
  exact dt_name (fun c hc => hl c (h.2 c hc)) h.1.2
/-- a drawn span -/
theorem w_span {p : Prg} (hp : Has p "_law_span" f__law_span) (hp0 : Has p "_law_of" f__law_of) (hp1 : Has p "_law_take" f__law_take) (hp2 : Has p "_law_name" f__law_name) {k : Nat} {b : Nat} {h : Hs} {Q : R → Hs → Prop} {X : T → Hs → Prop} (hb : Bag h b)
    (q : ∀ (a : Str) (i j : Int) h', isName (.str a) = true → 0 ≤ i → i < j → j ≤ 1000000 → j ≤ i + 12 → Bag h' b → Up b h h' → Q (.val (.tup [.str a, .int i, .int j])) h') : wp (callK p (k + 3) "_law_span" [.ref b] h) Q X := by
  refine w_run hp rfl ?_
  unfold f__law_span
  walk_at "wk"
  refine w_name hp2 hp1 hb ?_
  intro s h1 s1 s2 s3 hb1 hu1
  walk_at "wk"
  walk_at "cj"
  refine w_of' hp0 hp1 hb1 (by simp) (by simp) ?_
  intro a h2 ha hb2 hu2
  have da : ∃ u : Str, a = .str u ∧ isName (.str u) = true := by
    simp only [List.mem_cons, List.not_mem_nil, or_false] at ha
    rcases ha with rfl | rfl | rfl | rfl | rfl
    · exact ⟨_, rfl, by decide⟩
    · exact ⟨_, rfl, by decide⟩
    · exact ⟨_, rfl, by decide⟩
    · exact ⟨_, rfl, by decide⟩
    · refine ⟨_, rfl, ?_⟩
      have hl : ∀ c, c < 123 → 97 ≤ c → c ∈ TL.tl letters := by decide
      simp only [isName, Bool.and_eq_true, decide_eq_true_eq, List.all_eq_true, tl_len]
      exact ⟨⟨s2, s3⟩, fun c hc => hl c (by have := s1 c hc; omega) (s1 c hc).1⟩
  obtain ⟨u, rfl, da⟩ := da
  walk_at "wk"
  refine w_take hp1 hb2 (by decide) (by decide) ?_
  intro r3 h3 a3 b3 hb3 hu3
  walk_at "wk"
  refine w_take hp1 hb3 (by decide) (by decide) ?_
  intro r4 h4 a4 b4 hb4 hu4
  walk_at "wk"
  walk_at "cj"
  refine w_take hp1 hb4 (by decide) (by decide) ?_
  intro r5 h5 a5 b5 hb5 hu5
  walk_at "wk"
  have em : ∃ m : Int, 1 ≤ m ∧ m ≤ 12 ∧ atI [T.int 1, T.int (1 + r3), T.int (1 + r4)] r5 = some (.int m) := by
    obtain rfl | rfl | rfl : r5 = 0 ∨ r5 = 1 ∨ r5 = 2 := by omega
    · exact ⟨1, by omega, by omega, rfl⟩
    · exact ⟨1 + r3, by omega, by omega, rfl⟩
    · exact ⟨1 + r4, by omega, by omega, rfl⟩
  obtain ⟨m, m1, m2, em⟩ := em
  rw [em]
  walk_at "wk"
  refine w_take hp1 hb5 (by decide) (by decide) ?_
  intro r6 h6 a6 b6 hb6 hu6
  walk_at "wk"
  refine w_take hp1 hb6 (by decide) (by decide) ?_
  intro r7 h7 a7 b7 hb7 hu7
  walk_at "wk"
  walk_at "cj"
  refine w_take hp1 hb7 (by decide) (by decide) ?_
  intro r8 h8 a8 b8 hb8 hu8
  walk_at "wk"
  walk_at "cj"
  generalize hi : (min 2 (r8 / 9) : Int) = ix
  have ef : ∃ i : Int, 0 ≤ i ∧ i + m ≤ 1000000 ∧ atI [T.int r6, T.int r7, T.int (1000000 - m)] ix = some (.int i) := by
    obtain rfl | rfl | rfl : ix = 0 ∨ ix = 1 ∨ ix = 2 := by omega
    · exact ⟨r6, by omega, by omega, rfl⟩
    · exact ⟨r7, by omega, by omega, rfl⟩
    · exact ⟨1000000 - m, by omega, by omega, rfl⟩
  obtain ⟨i, i1, i2, ef⟩ := ef
  rw [ef]
  walk_at "wk"
  walk_at "cj"
  exact q u i (i + m) h8 da i1 (by omega) i2 (by omega) hb8 ((((((((hu1.trans hu2).trans hu3).trans hu4).trans hu5).trans hu6).trans hu7).trans hu8))
end Fx

namespace Fx
open PySem L2
local macro_rules | `(tactic| walk_at "wk") => `(tactic| simp only [↓w_con, ↓w_var, vV_v, vV_o, ↓w_bin, ↓w_not, ↓w_and, ↓w_or, ↓w_and1, ↓w_and2, ↓w_or1, ↓w_or2, ↓w_cmp, ↓w_chn, ↓w_ch1, ↓w_ch2, ↓w_isN, ↓w_ite, ↓w_tup, ↓w_lst, ↓w_slc, ↓w_call2, ↓w_bi, ↓w_isi, ↓w_idx, ↓w_neg, ↓w_mth, ↓w_ono, ↓w_oso, ↓w_cno, ↓w_cso, ↓w_nil, ↓w_cons, ↓w_pnil, ↓w_pcons, ↓w_ival, ↓w_rng1, ↓w_rng2, ↓w_zip, ↓w_zipk, ↓w_enu, ↓w_isB, ↓w_rev, ↓w_lrng1, ↓w_lrng2, vV_l, lV_i, r2V_i, zV_l, zV_t, ↓w_lc, ↓w_lc2,
  ↓w_ok, ↓w_exc, ↓w_stuck, ↓w_bind, ↓w_ofc, ↓w_ofs, ↓w_ofn, ↓w_ofm, ↓w_if, ↓w_sel, ↓f_nx, ↓f_rt, ↓f_exc, ↓f_stuck, ↓f_bind, ↓f_fl, ↓f_if, ↓f_sel, ↓f_nil, ↓f_cons, ↓f_pass, ↓f_expr, ↓f_asg, ↓f_asgO, ↓f_asgB, ↓f_ret, ↓f_retN, ↓f_ite, ↓f_forr,
  f_app, f_seto, w_ok, w_ofc, w_ofs, w_ofn, w_ofm, w_if, w_sel, f_sel, f_if,
  P.t_val, P.t_new, P.t_pk, P.k_val, P.k_new, P.k_pk, P.u_t, P.u_k, P.ret_val, P.ret_new, P.ret_pk, R.p_val, R.p_new, truthB_bl, Cell.t_lst,
  oB_add, oB_adds, oB_addb, oB_subb, fStr_b, nV_b, oB_addl, oB_addt, oB_sub, oB_mul, oB_mull, oB_div, oB_mod, oB_pow, oC_eq, oC_ne, oC_lt, oC_le, oC_gt, oC_ge, oC_in, oC_notin, oC_inl, oC_notinl, oC_lts, oC_gts, oC_les, oC_ges, oC_ltt, oC_ltl, oB_mult, fSort_l, fSort_t, fOrd_c, okEq_ii, okEq_bb, okEq_ss, eqT_ii, eqT_bb, eqT_ss, opI_l, opI_c, opI_t, opI_s, opS_l, opS_t, opS_s, iV_l, iV_t, iV_s, iV_c, nV_i, oV_i, rV_i, aV_v, aV_n, aO_n, aB_n, cV_v, cV_n,
  fLen_l, fLen_t, fLen_c, fLen_s, fAbs_i, fMin_i, fMax_i, fSum_l, fAll_l, fAny_l, fInt_i, fInt_b, fStr_i, fStr_s, fList_l, fList_t, fTuple_l, fTuple_t, mJoin_l, mUp_s, isI_non, isI_bl, isI_int, isI_str, isI_tup, isI_lst, itemsT_l, itemsT_t, itemsT_s, exV_some, exV_map, exV_if, atI_0, atI_1, atI_2, atI_3, atI_4,
  T.ty, Mt.ty, T.isNon, isTy, startE, wipeE, beq_self_eq_true,
  List.map_cons, List.map_nil, List.length_cons, List.length_nil, List.replicate, List.cons_append, List.nil_append, List.getElem?_cons_zero, List.getElem?_cons_succ, List.getElem?_nil, List.set_cons_zero, List.set_cons_succ, List.any_cons, List.any_nil, List.all_cons, List.all_nil,
  Option.map_some, Option.map_none, Option.bind_some, Option.bind_none, Nat.sub_self, Nat.zero_add, Nat.add_zero, Nat.reduceAdd, Nat.reduceSub, Nat.reduceEqDiff, Int.reduceToNat, Int.reducePow, Int.reduceLT, Int.reduceLE, Int.reduceAdd, Int.reduceSub, Int.reduceMul, Int.reduceNeg, Int.reduceBEq, Nat.reduceLT, Nat.reduceLeDiff, Nat.reducePow, gt_iff_lt, ge_iff_le, if_true, if_false, Bool.not_true, Bool.not_false, Bool.or_true, Bool.or_false, Bool.true_or, Bool.false_or, Bool.and_true, Bool.and_false, Bool.true_and, Bool.false_and,
  reduceCtorEq, decide_true, decide_false, Bool.false_eq_true, Bool.true_eq_false, decide_eq_true_eq, decide_eq_false_iff_not, eq_self, Bool.not_eq_true', Bool.not_eq_false', Bool.not_not, false_imp_iff, true_and, and_true, false_and, and_false, not_true_eq_false, not_false_eq_true, implies_true, true_implies, false_implies])
local macro_rules | `(tactic| walk_at "cj") => `(tactic| (repeat' (first | (refine And.intro ?_ ?_) | decide | omega | assumption)))

theorem mem_range {x : T} {lo hi : Int} (h : x ∈ rangeT lo hi) : ∃ n : Nat, x = .int (lo + n) ∧ lo + n < hi := by
  obtain ⟨k, hk, rfl⟩ := List.mem_map.mp h
  rw [List.mem_range] at hk
  exact ⟨k, rfl, by omega⟩
theorem bag_new {h : Hs} {a c : Int} (h1 : 0 ≤ a) (h2 : 0 ≤ c) (h3 : c ≤ 2147483646) : Bag (h ++ [.lst [.int a, .int c]]) h.length := ⟨a, c, by simp, h1, h2, h3⟩
theorem ok_of {o : Out R} (h : wp o (fun r _ => r = .val (.bl true)) (fun _ _ => False)) : ∃ h', o = .ok (.val (.bl true)) h' := by
  cases o with
  | ok r h' => exact ⟨h', by rw [show r = .val (.bl true) from h]⟩
  | exc => exact h.elim
  | stuck => exact h.elim
theorem has_of {p : Prg} {x : PySem.Str} {f : Fn} (e : p.fns.lookup x = some f) : Has p x f := e
end Fx

namespace Fx
open PySem L2
local macro_rules | `(tactic| walk_at "wk") => `(tactic| simp only [↓w_con, ↓w_var, vV_v, vV_o, ↓w_bin, ↓w_not, ↓w_and, ↓w_or, ↓w_and1, ↓w_and2, ↓w_or1, ↓w_or2, ↓w_cmp, ↓w_chn, ↓w_ch1, ↓w_ch2, ↓w_isN, ↓w_ite, ↓w_tup, ↓w_lst, ↓w_slc, ↓w_call2, ↓w_bi, ↓w_isi, ↓w_idx, ↓w_neg, ↓w_mth, ↓w_ono, ↓w_oso, ↓w_cno, ↓w_cso, ↓w_nil, ↓w_cons, ↓w_pnil, ↓w_pcons, ↓w_ival, ↓w_rng1, ↓w_rng2, ↓w_zip, ↓w_zipk, ↓w_enu, ↓w_isB, ↓w_rev, ↓w_lrng1, ↓w_lrng2, vV_l, lV_i, r2V_i, zV_l, zV_t, ↓w_lc, ↓w_lc2,
  ↓w_ok, ↓w_exc, ↓w_stuck, ↓w_bind, ↓w_ofc, ↓w_ofs, ↓w_ofn, ↓w_ofm, ↓w_if, ↓w_sel, ↓f_nx, ↓f_rt, ↓f_exc, ↓f_stuck, ↓f_bind, ↓f_fl, ↓f_if, ↓f_sel, ↓f_nil, ↓f_cons, ↓f_pass, ↓f_expr, ↓f_asg, ↓f_asgO, ↓f_asgB, ↓f_ret, ↓f_retN, ↓f_ite, ↓f_forr,
  f_app, f_seto, w_ok, w_ofc, w_ofs, w_ofn, w_ofm, w_if, w_sel, f_sel, f_if,
  P.t_val, P.t_new, P.t_pk, P.k_val, P.k_new, P.k_pk, P.u_t, P.u_k, P.ret_val, P.ret_new, P.ret_pk, R.p_val, R.p_new, truthB_bl, Cell.t_lst,
  oB_add, oB_adds, oB_addb, oB_subb, fStr_b, nV_b, oB_addl, oB_addt, oB_sub, oB_mul, oB_mull, oB_div, oB_mod, oB_pow, oC_eq, oC_ne, oC_lt, oC_le, oC_gt, oC_ge, oC_in, oC_notin, oC_inl, oC_notinl, oC_lts, oC_gts, oC_les, oC_ges, oC_ltt, oC_ltl, oB_mult, fSort_l, fSort_t, fOrd_c, okEq_ii, okEq_bb, okEq_ss, eqT_ii, eqT_bb, eqT_ss, opI_l, opI_c, opI_t, opI_s, opS_l, opS_t, opS_s, iV_l, iV_t, iV_s, iV_c, nV_i, oV_i, rV_i, aV_v, aV_n, aO_n, aB_n, cV_v, cV_n,
  fLen_l, fLen_t, fLen_c, fLen_s, fAbs_i, fMin_i, fMax_i, fSum_l, fAll_l, fAny_l, fInt_i, fInt_b, fStr_i, fStr_s, fList_l, fList_t, fTuple_l, fTuple_t, mJoin_l, mUp_s, isI_non, isI_bl, isI_int, isI_str, isI_tup, isI_lst, itemsT_l, itemsT_t, itemsT_s, exV_some, exV_map, exV_if, atI_0, atI_1, atI_2, atI_3, atI_4,
  T.ty, Mt.ty, T.isNon, isTy, startE, wipeE, beq_self_eq_true,
  List.map_cons, List.map_nil, List.length_cons, List.length_nil, List.replicate, List.cons_append, List.nil_append, List.getElem?_cons_zero, List.getElem?_cons_succ, List.getElem?_nil, List.set_cons_zero, List.set_cons_succ, List.any_cons, List.any_nil, List.all_cons, List.all_nil,
  Option.map_some, Option.map_none, Option.bind_some, Option.bind_none, Nat.sub_self, Nat.zero_add, Nat.add_zero, Nat.reduceAdd, Nat.reduceSub, Nat.reduceEqDiff, Int.reduceToNat, Int.reducePow, Int.reduceLT, Int.reduceLE, Int.reduceAdd, Int.reduceSub, Int.reduceMul, Int.reduceNeg, Int.reduceBEq, Nat.reduceLT, Nat.reduceLeDiff, Nat.reducePow, gt_iff_lt, ge_iff_le, if_true, if_false, Bool.not_true, Bool.not_false, Bool.or_true, Bool.or_false, Bool.true_or, Bool.false_or, Bool.and_true, Bool.and_false, Bool.true_and, Bool.false_and,
  reduceCtorEq, decide_true, decide_false, Bool.false_eq_true, Bool.true_eq_false, decide_eq_true_eq, decide_eq_false_iff_not, eq_self, Bool.not_eq_true', Bool.not_eq_false', Bool.not_not, false_imp_iff, true_and, and_true, false_and, and_false, not_true_eq_false, not_false_eq_true, implies_true, true_implies, false_implies])
local macro_rules | `(tactic| walk_at "cj") => `(tactic| (repeat' (first | (refine And.intro ?_ ?_) | decide | omega | assumption)))

/-! ### rows of typed things -/
theorem w_lcmap {α : Type} {f : T → Hs → Out (Option T)} {xs : List α} {e g : α → T} {h : Hs} {Q : List T → Hs → Prop} {X : T → Hs → Prop} (k : ∀ x ∈ xs, wp (f (e x) h) (fun y h' => y = some (g x) ∧ h' = h) (fun _ _ => False)) (q : Q (xs.map g) h) : wp (lcL f (xs.map e) h) Q X := by
  have key : lcL f (xs.map e) h = .ok (xs.map g) h := by
    clear q
    induction xs with
    | nil => rfl
    | cons x r ih =>
      have e1 := wp_eq.mp (k x (by simp))
      simp only [List.map_cons, lcL, e1, Out.bind_ok, ih (fun y hy => k y (by simp [hy]))]
  rw [key]
  exact q
theorem w_lcfil {α : Type} {f : T → Hs → Out (Option T)} {xs : List α} {e : α → T} {g : α → Option T} {h : Hs} {Q : List T → Hs → Prop} {X : T → Hs → Prop} (k : ∀ x ∈ xs, wp (f (e x) h) (fun y h' => y = g x ∧ h' = h) (fun _ _ => False)) (q : Q (xs.filterMap g) h) : wp (lcL f (xs.map e) h) Q X := by
  have key : lcL f (xs.map e) h = .ok (xs.filterMap g) h := by
    clear q
    induction xs with
    | nil => rfl
    | cons x r ih =>
      have e1 := wp_eq.mp (k x (by simp))
      simp only [List.map_cons, lcL, e1, Out.bind_ok, ih (fun y hy => k y (by simp [hy]))]
      cases hg : g x <;> simp [List.filterMap_cons, hg]
  rw [key]
  exact q
theorem ints_map {α : Type} {f : α → Int} {l : List α} : ints? (l.map fun c => T.int (f c)) = some (l.map f) := by
  induction l with
  | nil => rfl
  | cons a r ih => simp [ints?, ih]
theorem cut_1 {l : List T} : cutT l (some 1) none = l.drop 1 := by
  unfold cutT
  have e : HT.sIx l.length 0 (some 1) = min 1 l.length := HT.sIx_nat _ _ 1
  rw [e, HT.sIx_none]
  cases l with
  | nil => rfl
  | cons a r =>
    rw [show min 1 (a :: r).length = 1 from by simp]
    rw [List.take_of_length_le]
    simp
theorem f_forRange {tg : Tg} {b : En → Hs → Fl} {N B C : En → Hs → Prop} {R : R → Hs → Prop} {X : T → En → Hs → Prop} {lo hi : Int} (I : Nat → En → Hs → Prop) {env : En} {h : Hs} (hI : I 0 env h)
    (k : ∀ n : Nat, lo + n < hi → ∀ env h, I n env h → ∃ env1, putTg tg env (.int (lo + n)) = some env1 ∧ wf (b env1 h) (I (n + 1)) N (I (n + 1)) R X) (q : ∀ env h, I (hi - lo).toNat env h → N env h) : wf (forL tg b (rangeT lo hi) env h) N B C R X := by
  refine f_forLi (fun xs env h => ∃ n : Nat, n ≤ (hi - lo).toNat ∧ xs = ((List.range (hi - lo).toNat).drop n).map (fun k => T.int (lo + (k : Nat))) ∧ I n env h) ⟨0, by omega, rfl, hI⟩ ?_ ?_
  · rintro x r env h ⟨n, hn, e, hi'⟩
    have hlt : n < (hi - lo).toNat := by
      apply Nat.lt_of_not_le
      intro hc
      rw [List.drop_eq_nil_of_le (by simpa using hc)] at e
      cases e
    rw [List.drop_eq_getElem_cons (by simpa using hlt)] at e
    simp only [List.map_cons, List.getElem_range, List.cons.injEq] at e
    obtain ⟨rfl, er⟩ := e
    obtain ⟨env1, e1, w⟩ := k n (by omega) env h hi'
    exact ⟨env1, e1, f_mono w (fun e h z => ⟨n + 1, hlt, er, z⟩) (fun _ _ z => z) (fun e h z => ⟨n + 1, hlt, er, z⟩) (fun _ _ z => z) (fun _ _ _ z => z)⟩
  · rintro env h ⟨n, hn, e, hi'⟩
    have : n = (hi - lo).toNat := by
      have := congrArg List.length e
      simp at this
      omega
    rw [this] at hi'
    exact q env h hi'
/-- two neighbours of a row -/
def adj {α : Type} (f : α → α → Bool) : List α → Bool
  | x :: y :: r => f x y || adj f (y :: r)
  | _ => false
theorem adj_zip {α : Type} {f : α → α → Bool} : ∀ l : List α, ((l.zip (l.drop 1)).any fun p => f p.1 p.2) = adj f l
  | [] => rfl
  | [_] => rfl
  | x :: y :: r => by
    have ih := adj_zip (f := f) (y :: r)
    simp only [adj]
    rw [← ih]
    rfl
theorem adj_iff {α : Type} {f : α → α → Bool} : ∀ {l : List α}, adj f l = true ↔ ∃ j, ∃ h : j + 1 < l.length, f (l[j]'(by omega)) l[j + 1] = true
  | [] => by simp [adj]
  | [x] => by simp [adj]
  | x :: y :: r => by
    rw [adj, Bool.or_eq_true, adj_iff]
    constructor
    · rintro (h | ⟨j, hj, h⟩)
      · exact ⟨0, by simp, h⟩
      · exact ⟨j + 1, by simp at hj ⊢; omega, h⟩
    · rintro ⟨j, hj, h⟩
      cases j with
      | zero => exact .inl h
      | succ j => exact .inr ⟨j, by simp at hj ⊢; omega, h⟩
/-! ### typed spans -/
abbrev Sp := Str × Int × Int
def sp (x : Sp) : T := .tup [.str x.1, .int x.2.1, .int x.2.2]
def okSp (x : Sp) : Bool := isSpan (sp x)
def toSp : T → Option Sp
  | .tup [.str a, .int i, .int j] => some (a, i, j)
  | _ => none
theorem toSp_sp {xs : List Sp} : (xs.map sp).filterMap toSp = xs := by
  rw [List.filterMap_map]
  induction xs with
  | nil => rfl
  | cons x r ih => rw [List.filterMap_cons]; rw [show (toSp ∘ sp) x = some x from rfl, ih]
theorem isSpan_sp {t : T} (h : isSpan t = true) : ∃ x : Sp, t = sp x ∧ okSp x = true := by
  unfold isSpan at h
  split at h
  · rename_i a b c
    simp only [Bool.and_eq_true] at h
    obtain ⟨⟨⟨h1, h2⟩, h3⟩, h4⟩ := h
    cases b <;> try (simp [isWithin] at h2; done)
    cases c <;> try (simp [isWithin] at h3; done)
    cases a <;> try (simp [isName] at h1; done)
    rename_i i j s
    refine ⟨(s, i, j), rfl, ?_⟩
    simp only [okSp, isSpan, sp, h1, h2, h3, h4, Bool.and_true]
  · cases h
theorem okSp_iff {x : Sp} : okSp x = true ↔ isName (.str x.1) = true ∧ 0 ≤ x.2.1 ∧ x.2.1 < x.2.2 ∧ x.2.2 ≤ 1000000 := by
  simp only [okSp, sp, isSpan, isWithin, Bool.and_eq_true, decide_eq_true_eq]
  constructor
  · rintro ⟨⟨⟨h1, h2, h3⟩, h4, h5⟩, h6⟩; exact ⟨h1, h2, h6, h5⟩
  · rintro ⟨h1, h2, h3, h4⟩; exact ⟨⟨⟨h1, h2, by omega⟩, by omega, h4⟩, h3⟩
theorem spans_of {l : List T} (h : l.all isSpan = true) : ∃ xs : List Sp, l = xs.map sp ∧ ∀ x ∈ xs, okSp x = true := by
  induction l with
  | nil => exact ⟨[], rfl, by simp⟩
  | cons t r ih =>
    rw [List.all_cons, Bool.and_eq_true] at h
    obtain ⟨x, rfl, hx⟩ := isSpan_sp h.1
    obtain ⟨xs, rfl, hxs⟩ := ih h.2
    exact ⟨x :: xs, rfl, fun y hy => by
      rcases List.mem_cons.mp hy with rfl | hy
      · exact hx
      · exact hxs y hy⟩
theorem letters_lt : ∀ c ∈ TL.tl letters, 97 ≤ c ∧ c ≤ 122 := by decide
theorem name_tl {s : Str} (h : isName (.str s) = true) : (∀ c ∈ TL.tl s, 97 ≤ c ∧ c ≤ 122) ∧ 1 ≤ (TL.tl s).length ∧ (TL.tl s).length ≤ 8 := by
  simp only [isName, Bool.and_eq_true, decide_eq_true_eq, List.all_eq_true, tl_len] at h
  exact ⟨fun c hc => letters_lt c (h.2 c hc), h.1.1, h.1.2⟩
theorem name_ok {s : Str} (h : isName (.str s) = true) : PySem.PyData.strOk s = true := strOk_of fun c hc => by have := (name_tl h).1 c hc; omega
theorem okSp_str {x : Sp} (h : okSp x = true) : PySem.PyData.strOk x.1 = true := name_ok (okSp_iff.mp h).1
def goOn (x y : Sp) : Bool := x.1 == y.1 && x.2.2 == y.2.1
def longOf (xs : List Sp) : Int := (xs.map fun x => x.2.2 - x.2.1).sum
def isPage : T → Bool
  | .tup l => decide (l.length ≤ 60) && l.all isSpan && decide (longOf (l.filterMap toSp) ≤ 2000) && !adj goOn (l.filterMap toSp)
  | _ => false
theorem isPage_sp {xs : List Sp} (h : ∀ x ∈ xs, okSp x = true) (hl : xs.length ≤ 60) : isPage (.tup (xs.map sp)) = (decide (longOf xs ≤ 2000) && !adj goOn xs) := by
  simp only [isPage, toSp_sp, List.length_map, hl, decide_true, Bool.true_and]
  rw [show (xs.map sp).all isSpan = true from by rw [List.all_map, List.all_eq_true]; exact fun x hx => h x hx]
  rfl
theorem c_go_on {p : Prg} (h : Has p "go_on" f_go_on) {k : Nat} {x y : Sp} {hs : Hs} (hx : okSp x = true) (hy : okSp y = true) : callK p (k + 1) "go_on" [sp x, sp y] hs = .ok (.val (.bl (goOn x y))) hs := by
  rw [← wp_eq]
  refine w_run h rfl ?_
  unfold f_go_on sp
  walk_at "wk"
  refine ⟨by rw [okSp_str hx, okSp_str hy]; rfl, fun e => ?_, fun e => ?_⟩
  · simp [goOn, e]
  · simp [goOn, e]
theorem c_long {p : Prg} (h : Has p "long" f_long) {k : Nat} {xs : List Sp} {hs : Hs} (hl : xs.length ≤ 1000000) : callK p (k + 1) "long" [.tup (xs.map sp)] hs = .ok (.val (.int (longOf xs))) hs := by
  rw [← wp_eq]
  refine w_run h rfl ?_
  unfold f_long
  walk_at "wk"
  refine ⟨by rw [List.length_map]; have := size_ge; omega, rfl, ?_⟩
  refine w_lcmap (g := fun x => .int (x.2.2 - x.2.1)) ?_ ?_
  · intro x hx
    rw [w_turn (by rfl)]
    walk_at "wk"
  · walk_at "wk"
    rw [ints_map]
    walk_at "wk"
    rfl
structure HasPage (p : Prg) : Prop where
  spn : Has p "is_span" f_is_span
  nam : Has p "is_name" f_is_name
  wit : Has p "is_within" f_is_within
  who : Has p "is_whole" f_is_whole
  let1 : p.glob.lookup ("LETTERS" : Str) = some (.str letters)
  pool : p.glob.lookup ("POOL" : Str) = some (.int 1000000)
theorem HasPage.span {p : Prg} (H : HasPage p) {n m d : Nat} {k : Nat} {t : T} {hs : Hs} (ht : Dt n m d t) (hn : n ≤ 1000000) : callK p (k + 3) "is_span" [t] hs = .ok (.val (.bl (isSpan t))) hs := c_is_span H.spn H.nam H.wit H.who H.let1 H.pool ht hn
theorem c_is_page {p : Prg} (h : Has p "is_page" f_is_page) (H : HasPage p) (hgo : Has p "go_on" f_go_on) (hlo : Has p "long" f_long) (g1 : p.glob.lookup ("MOST_SPANS" : Str) = some (.int 60)) (g2 : p.glob.lookup ("MOST_SIGNS" : Str) = some (.int 2000)) {n m d : Nat} {k : Nat} {t : T} {hs : Hs} (ht : Dt n m d t) (hn : n ≤ 1000000) : callK p (k + 4) "is_page" [t] hs = .ok (.val (.bl (isPage t))) hs := by
  rw [← wp_eq]
  refine w_run h rfl ?_
  unfold f_is_page
  walk_at "wk"
  cases t with
  | tup l =>
    obtain _ | d := d
    · exact ht.tup0.elim
    have hs' := Dt.tup.mp ht
    have hsz := size_ge
    walk_at "wk"
    rw [w_glo g1]
    walk_at "wk"
    refine ⟨fun hl => ?_, fun hl => ⟨by omega, rfl, ?_⟩⟩
    · have : decide (l.length ≤ 60) = false := by simp; omega
      simp [isPage, this]
    · have hl : l.length ≤ 60 := by omega
      have key : l = l.map id := by simp
      rw [key]
      refine w_lcmap (e := id) (g := fun x => .bl (isSpan x)) ?_ ?_
      · intro x hx
        rw [w_turn (by rfl)]
        walk_at "wk"
        rw [show (id x : T) = x from rfl, H.span (hs'.2 x hx) hn]
        walk_at "wk"
      · walk_at "wk"
        rw [bls_map]
        walk_at "wk"
        rw [List.map_id, show (l.map fun c => isSpan c).all id = l.all isSpan from by rw [List.all_map]; rfl]
        refine ⟨fun hf => ?_, fun ha => ?_⟩
        · simp [isPage, hf]
        · obtain ⟨xs, rfl, hxs⟩ := spans_of ha
          rw [List.length_map] at hl
          rw [isPage_sp hxs hl]
          rw [show k + 3 = (k + 2) + 1 from rfl, c_long hlo (by omega)]
          walk_at "wk"
          rw [w_glo g2]
          walk_at "wk"
          refine ⟨fun h2 => ⟨?_, rfl, ?_⟩, fun h2 => by simp [h2]⟩
          · rw [cut_1]; simp; omega
          · have ez : List.zipWith (fun x y => T.tup [x, y]) (xs.map sp) (cutT (xs.map sp) (some 1) none) = (xs.zip (xs.drop 1)).map fun q => T.tup [sp q.1, sp q.2] := by
              rw [cut_1, ← List.map_drop, List.zipWith_map, List.zip, List.map_zipWith]
            rw [ez]
            refine w_lcmap (g := fun q => .bl (goOn q.1 q.2)) ?_ ?_
            · intro q hq
              have m1 := (List.of_mem_zip hq).1
              have m2 := List.mem_of_mem_drop (List.of_mem_zip hq).2
              rw [w_turn (by rfl)]
              walk_at "wk"
              rw [show k + 2 + 1 = (k + 2) + 1 from rfl, c_go_on hgo (hxs _ m1) (hxs _ m2)]
              walk_at "wk"
            · walk_at "wk"
              rw [bls_map]
              walk_at "wk"
              rw [show ((xs.zip (xs.drop 1)).map fun q => goOn q.1 q.2).any id = adj goOn xs from by rw [List.any_map, ← adj_zip]; rfl]
              simp [h2]
  | non => walk_at "wk"; rfl
  | bl _ => walk_at "wk"; rfl
  | int _ => walk_at "wk"; rfl
  | str _ => walk_at "wk"; rfl
  | lst _ => walk_at "wk"; rfl
  | _ => exact absurd ht.f (by simp [fits])
end Fx

namespace Fx
open PySem L2
local macro_rules | `(tactic| walk_at "wk") => `(tactic| simp only [↓w_con, ↓w_var, vV_v, vV_o, ↓w_bin, ↓w_not, ↓w_and, ↓w_or, ↓w_and1, ↓w_and2, ↓w_or1, ↓w_or2, ↓w_cmp, ↓w_chn, ↓w_ch1, ↓w_ch2, ↓w_isN, ↓w_ite, ↓w_tup, ↓w_lst, ↓w_slc, ↓w_call2, ↓w_bi, ↓w_isi, ↓w_idx, ↓w_neg, ↓w_mth, ↓w_ono, ↓w_oso, ↓w_cno, ↓w_cso, ↓w_nil, ↓w_cons, ↓w_pnil, ↓w_pcons, ↓w_ival, ↓w_rng1, ↓w_rng2, ↓w_zip, ↓w_zipk, ↓w_enu, ↓w_isB, ↓w_rev, ↓w_lrng1, ↓w_lrng2, vV_l, lV_i, r2V_i, zV_l, zV_t, ↓w_lc, ↓w_lc2,
  ↓w_ok, ↓w_exc, ↓w_stuck, ↓w_bind, ↓w_ofc, ↓w_ofs, ↓w_ofn, ↓w_ofm, ↓w_if, ↓w_sel, ↓f_nx, ↓f_rt, ↓f_exc, ↓f_stuck, ↓f_bind, ↓f_fl, ↓f_if, ↓f_sel, ↓f_nil, ↓f_cons, ↓f_pass, ↓f_expr, ↓f_asg, ↓f_asgO, ↓f_asgB, ↓f_ret, ↓f_retN, ↓f_ite, ↓f_forr,
  f_app, f_seto, w_ok, w_ofc, w_ofs, w_ofn, w_ofm, w_if, w_sel, f_sel, f_if,
  P.t_val, P.t_new, P.t_pk, P.k_val, P.k_new, P.k_pk, P.u_t, P.u_k, P.ret_val, P.ret_new, P.ret_pk, R.p_val, R.p_new, truthB_bl, Cell.t_lst,
  oB_add, oB_adds, oB_addb, oB_subb, fStr_b, nV_b, oB_addl, oB_addt, oB_sub, oB_mul, oB_mull, oB_div, oB_mod, oB_pow, oC_eq, oC_ne, oC_lt, oC_le, oC_gt, oC_ge, oC_in, oC_notin, oC_inl, oC_notinl, oC_lts, oC_gts, oC_les, oC_ges, oC_ltt, oC_ltl, oB_mult, fSort_l, fSort_t, fOrd_c, okEq_ii, okEq_bb, okEq_ss, eqT_ii, eqT_bb, eqT_ss, opI_l, opI_c, opI_t, opI_s, opS_l, opS_t, opS_s, iV_l, iV_t, iV_s, iV_c, nV_i, oV_i, rV_i, aV_v, aV_n, aO_n, aB_n, cV_v, cV_n,
  fLen_l, fLen_t, fLen_c, fLen_s, fAbs_i, fMin_i, fMax_i, fSum_l, fAll_l, fAny_l, fInt_i, fInt_b, fStr_i, fStr_s, fList_l, fList_t, fTuple_l, fTuple_t, mJoin_l, mUp_s, isI_non, isI_bl, isI_int, isI_str, isI_tup, isI_lst, itemsT_l, itemsT_t, itemsT_s, exV_some, exV_map, exV_if, atI_0, atI_1, atI_2, atI_3, atI_4,
  T.ty, Mt.ty, T.isNon, isTy, startE, wipeE, beq_self_eq_true,
  List.map_cons, List.map_nil, List.length_cons, List.length_nil, List.replicate, List.cons_append, List.nil_append, List.getElem?_cons_zero, List.getElem?_cons_succ, List.getElem?_nil, List.set_cons_zero, List.set_cons_succ, List.any_cons, List.any_nil, List.all_cons, List.all_nil,
  Option.map_some, Option.map_none, Option.bind_some, Option.bind_none, Nat.sub_self, Nat.zero_add, Nat.add_zero, Nat.reduceAdd, Nat.reduceSub, Nat.reduceEqDiff, Int.reduceToNat, Int.reducePow, Int.reduceLT, Int.reduceLE, Int.reduceAdd, Int.reduceSub, Int.reduceMul, Int.reduceNeg, Int.reduceBEq, Nat.reduceLT, Nat.reduceLeDiff, Nat.reducePow, gt_iff_lt, ge_iff_le, if_true, if_false, Bool.not_true, Bool.not_false, Bool.or_true, Bool.or_false, Bool.true_or, Bool.false_or, Bool.and_true, Bool.and_false, Bool.true_and, Bool.false_and,
  reduceCtorEq, decide_true, decide_false, Bool.false_eq_true, Bool.true_eq_false, decide_eq_true_eq, decide_eq_false_iff_not, eq_self, Bool.not_eq_true', Bool.not_eq_false', Bool.not_not, false_imp_iff, true_and, and_true, false_and, and_false, not_true_eq_false, not_false_eq_true, implies_true, true_implies, false_implies])
local macro_rules | `(tactic| walk_at "cj") => `(tactic| (repeat' (first | (refine And.intro ?_ ?_) | decide | omega | assumption)))

theorem c_law_long {p : Prg} (h : Has p "_law_long" f__law_long) {k : Nat} {xs : List Sp} {hs : Hs} (hl : xs.length ≤ 1000000) : callK p (k + 1) "_law_long" [.tup (xs.map sp)] hs = .ok (.val (.int (longOf xs))) hs := by
  rw [← wp_eq]
  refine w_run h rfl ?_
  unfold f__law_long
  walk_at "wk"
  refine ⟨by rw [List.length_map]; have := size_ge; omega, rfl, ?_⟩
  refine w_lcmap (g := fun x => .int (x.2.2 - x.2.1)) ?_ ?_
  · intro x hx
    rw [w_turn (by rfl)]
    unfold sp
    walk_at "wk"
  · walk_at "wk"
    rw [ints_map]
    walk_at "wk"
    rfl
theorem eq_nil {l : List T} : eqT (.lst l) (.lst []) = l.isEmpty := by cases l <;> rfl
theorem map_at {xs : List Sp} {i : Nat} (h : i < xs.length) : atI (xs.map sp) (i : Int) = some (sp (xs[i])) := by
  rw [atI_nat, List.getElem?_map, List.getElem?_eq_getElem h]; rfl
structure HasLPage (p : Prg) : Prop where
  spn : Has p "_law_is_span" f__law_is_span
  nam : Has p "_law_is_name" f__law_is_name
  who : Has p "_law_whole" f__law_whole
theorem HasLPage.span {p : Prg} (H : HasLPage p) {n m d : Nat} {k : Nat} {t : T} {hs : Hs} (ht : Dt n m d t) (hn : n ≤ 1000000) : callK p (k + 2) "_law_is_span" [t] hs = .ok (.val (.bl (isSpan t))) hs := c_law_is_span H.spn H.nam H.who ht hn
theorem c_law_is_page {p : Prg} (h : Has p "_law_is_page" f__law_is_page) (H : HasLPage p) (hlo : Has p "_law_long" f__law_long) {n m d : Nat} {k : Nat} {t : T} {hs : Hs} (ht : Dt n m d t) (hn : n ≤ 1000000) : callK p (k + 3) "_law_is_page" [t] hs = .ok (.val (.bl (isPage t))) hs := by
  rw [← wp_eq]
  refine w_run h rfl ?_
  unfold f__law_is_page
  walk_at "wk"
  cases t with
  | tup l =>
    obtain _ | d := d
    · exact ht.tup0.elim
    have hs' := Dt.tup.mp ht
    have hsz := size_ge
    walk_at "wk"
    refine ⟨fun hl => ?_, fun hl => ⟨by omega, rfl, ?_⟩⟩
    · have : decide (l.length ≤ 60) = false := by simp; omega
      simp [isPage, this]
    · have hl : l.length ≤ 60 := by omega
      have key : l = l.map id := by simp
      rw [key]
      refine w_lcfil (e := id) (g := fun x => if isSpan x = true then none else some x) ?_ ?_
      · intro x hx
        rw [w_turn (by rfl)]
        walk_at "wk"
        rw [show (id x : T) = x from rfl, H.span (hs'.2 x hx) hn]
        walk_at "wk"
        refine ⟨fun e => by simp [e], fun e => by simp [e]⟩
      · walk_at "wk"
        have hy : ∀ y ∈ l.filterMap (fun x => if isSpan x = true then none else some x), Dt n m d y := by
          intro y hy
          obtain ⟨c, hc, e⟩ := List.mem_filterMap.mp hy
          split at e
          · cases e
          · cases e; exact hs'.2 _ hc
        have ok1 : okEq (.lst (l.filterMap (fun x => if isSpan x = true then none else some x))) (.lst []) = true := by
          refine okEq_of (n := n) (m := m) (d := d + 1) (n' := 0) (m' := 0) (d' := 1) (Dt.lst.mpr ⟨Nat.le_trans (List.length_filterMap_le _ _) hs'.1, hy⟩) ⟨rfl, by decide⟩ (by omega)
        rw [ok1, eq_nil]
        have ea : (l.filterMap (fun x => if isSpan x = true then none else some x)).isEmpty = l.all isSpan := by
          rw [Bool.eq_iff_iff, List.isEmpty_iff, List.filterMap_eq_nil_iff, List.all_eq_true]
          refine forall_congr' fun c => forall_congr' fun _ => ?_
          by_cases z : isSpan c = true <;> simp [z]
        rw [ea]
        refine ⟨by omega, rfl, fun hf => ?_, fun ha => ?_⟩
        · simp [isPage, hf]
        · rw [List.map_id] at *
          obtain ⟨xs, rfl, hxs⟩ := spans_of ha
          rw [List.length_map] at hl
          rw [isPage_sp hxs hl]
          refine ⟨⟨by decide, by simp only [smallI, decide_eq_true_eq, List.length_map]; omega⟩, ?_⟩
          refine f_forRange (fun n env h => h = hs ∧ (∃ s1, env = [Slot.val (T.tup (xs.map sp)), s1, Slot.no]) ∧ ∀ j, j < n → ∀ hj : j + 1 < xs.length, goOn (xs[j]'(by omega)) xs[j + 1] = false) ⟨rfl, ⟨_, rfl⟩, fun j hj => absurd hj (Nat.not_lt_zero j)⟩ ?_ ?_
          · rintro n hn env h1 ⟨rfl, ⟨s1, rfl⟩, hI⟩
            rw [List.length_map] at hn
            have hn' : n + 1 < xs.length := by omega
            refine ⟨_, rfl, ?_⟩
            have e2 : (1 + (n : Int)) = ((n + 1 : Nat) : Int) := by omega
            have e1 : (((n + 1 : Nat) : Int) - 1) = (n : Int) := by omega
            rw [e2]
            have a1 := map_at (xs := xs) (i := n) (by omega)
            have a2 := map_at (xs := xs) (i := n + 1) hn'
            walk_at "wk"
            rw [e1, a1]
            unfold sp at a1 a2 ⊢
            walk_at "wk"
            rw [a2]
            walk_at "wk"
            have o1 := hxs (xs[n]'(by omega)) (List.getElem_mem _)
            have o2 := hxs (xs[n + 1]) (List.getElem_mem _)
            rw [okSp_str o1, okSp_str o2]
            refine ⟨rfl, fun b1 => ?_, fun b1 => ?_⟩
            · rw [e1, a1]
              walk_at "wk"
              rw [a2]
              walk_at "wk"
              refine ⟨fun b2 => ?_, fun b2 => ?_⟩
              · have : adj goOn xs = true := adj_iff.mpr ⟨n, hn', by simp only [goOn, b1, b2]; rfl⟩
                simp [this]
              · refine ⟨⟨_, rfl⟩, fun j hj hj' => ?_⟩
                rcases Nat.lt_succ_iff_lt_or_eq.mp hj with hj | rfl
                · exact hI j hj hj'
                · simp only [goOn, b1, b2]; rfl
            · refine ⟨⟨_, rfl⟩, fun j hj hj' => ?_⟩
              rcases Nat.lt_succ_iff_lt_or_eq.mp hj with hj | rfl
              · exact hI j hj hj'
              · simp only [goOn, b1]; rfl
          · rintro env h1 ⟨rfl, ⟨s1, rfl⟩, hI⟩
            walk_at "wk"
            rw [c_law_long hlo (by omega)]
            walk_at "wk"
            have : adj goOn xs = false := by
              rw [← Bool.not_eq_true, adj_iff]
              rintro ⟨j, hj, hg⟩
              rw [hI j (by rw [List.length_map]; omega) hj] at hg
              cases hg
            rw [this]
            simp
  | non => walk_at "wk"; rfl
  | bl _ => walk_at "wk"; rfl
  | int _ => walk_at "wk"; rfl
  | str _ => walk_at "wk"; rfl
  | lst _ => walk_at "wk"; rfl
  | _ => exact absurd ht.f (by simp [fits])
end Fx

namespace Fx
open PySem L2
local macro_rules | `(tactic| walk_at "wk") => `(tactic| simp only [↓w_con, ↓w_var, vV_v, vV_o, ↓w_bin, ↓w_not, ↓w_and, ↓w_or, ↓w_and1, ↓w_and2, ↓w_or1, ↓w_or2, ↓w_cmp, ↓w_chn, ↓w_ch1, ↓w_ch2, ↓w_isN, ↓w_ite, ↓w_tup, ↓w_lst, ↓w_slc, ↓w_call2, ↓w_bi, ↓w_isi, ↓w_idx, ↓w_neg, ↓w_mth, ↓w_ono, ↓w_oso, ↓w_cno, ↓w_cso, ↓w_nil, ↓w_cons, ↓w_pnil, ↓w_pcons, ↓w_ival, ↓w_rng1, ↓w_rng2, ↓w_zip, ↓w_zipk, ↓w_enu, ↓w_isB, ↓w_rev, ↓w_lrng1, ↓w_lrng2, vV_l, lV_i, r2V_i, zV_l, zV_t, ↓w_lc, ↓w_lc2,
  ↓w_ok, ↓w_exc, ↓w_stuck, ↓w_bind, ↓w_ofc, ↓w_ofs, ↓w_ofn, ↓w_ofm, ↓w_if, ↓w_sel, ↓f_nx, ↓f_rt, ↓f_exc, ↓f_stuck, ↓f_bind, ↓f_fl, ↓f_if, ↓f_sel, ↓f_nil, ↓f_cons, ↓f_pass, ↓f_expr, ↓f_asg, ↓f_asgO, ↓f_asgB, ↓f_ret, ↓f_retN, ↓f_ite, ↓f_forr,
  f_app, f_seto, w_ok, w_ofc, w_ofs, w_ofn, w_ofm, w_if, w_sel, f_sel, f_if,
  P.t_val, P.t_new, P.t_pk, P.k_val, P.k_new, P.k_pk, P.u_t, P.u_k, P.ret_val, P.ret_new, P.ret_pk, R.p_val, R.p_new, truthB_bl, Cell.t_lst,
  oB_add, oB_adds, oB_addb, oB_subb, fStr_b, nV_b, oB_addl, oB_addt, oB_sub, oB_mul, oB_mull, oB_div, oB_mod, oB_pow, oC_eq, oC_ne, oC_lt, oC_le, oC_gt, oC_ge, oC_in, oC_notin, oC_inl, oC_notinl, oC_lts, oC_gts, oC_les, oC_ges, oC_ltt, oC_ltl, oB_mult, fSort_l, fSort_t, fOrd_c, okEq_ii, okEq_bb, okEq_ss, eqT_ii, eqT_bb, eqT_ss, opI_l, opI_c, opI_t, opI_s, opS_l, opS_t, opS_s, iV_l, iV_t, iV_s, iV_c, nV_i, oV_i, rV_i, aV_v, aV_n, aO_n, aB_n, cV_v, cV_n,
  fLen_l, fLen_t, fLen_c, fLen_s, fAbs_i, fMin_i, fMax_i, fSum_l, fAll_l, fAny_l, fInt_i, fInt_b, fStr_i, fStr_s, fList_l, fList_t, fTuple_l, fTuple_t, mJoin_l, mUp_s, isI_non, isI_bl, isI_int, isI_str, isI_tup, isI_lst, itemsT_l, itemsT_t, itemsT_s, exV_some, exV_map, exV_if, atI_0, atI_1, atI_2, atI_3, atI_4,
  T.ty, Mt.ty, T.isNon, isTy, startE, wipeE, beq_self_eq_true,
  List.map_cons, List.map_nil, List.length_cons, List.length_nil, List.replicate, List.cons_append, List.nil_append, List.getElem?_cons_zero, List.getElem?_cons_succ, List.getElem?_nil, List.set_cons_zero, List.set_cons_succ, List.any_cons, List.any_nil, List.all_cons, List.all_nil,
  Option.map_some, Option.map_none, Option.bind_some, Option.bind_none, Nat.sub_self, Nat.zero_add, Nat.add_zero, Nat.reduceAdd, Nat.reduceSub, Nat.reduceEqDiff, Int.reduceToNat, Int.reducePow, Int.reduceLT, Int.reduceLE, Int.reduceAdd, Int.reduceSub, Int.reduceMul, Int.reduceNeg, Int.reduceBEq, Nat.reduceLT, Nat.reduceLeDiff, Nat.reducePow, gt_iff_lt, ge_iff_le, if_true, if_false, Bool.not_true, Bool.not_false, Bool.or_true, Bool.or_false, Bool.true_or, Bool.false_or, Bool.and_true, Bool.and_false, Bool.true_and, Bool.false_and,
  reduceCtorEq, decide_true, decide_false, Bool.false_eq_true, Bool.true_eq_false, decide_eq_true_eq, decide_eq_false_iff_not, eq_self, Bool.not_eq_true', Bool.not_eq_false', Bool.not_not, false_imp_iff, true_and, and_true, false_and, and_false, not_true_eq_false, not_false_eq_true, implies_true, true_implies, false_implies])
local macro_rules | `(tactic| walk_at "cj") => `(tactic| (repeat' (first | (refine And.intro ?_ ?_) | decide | omega | assumption)))

theorem f_forMap {α : Type} {e : α → T} {tg : Tg} {b : En → Hs → Fl} {N B C : En → Hs → Prop} {R : R → Hs → Prop} {X : T → En → Hs → Prop} (I : List α → En → Hs → Prop) {xs : List α} {env : En} {h : Hs} (hI : I [] env h)
    (k : ∀ done x rest, xs = done ++ x :: rest → ∀ env h, I done env h → ∃ env1, putTg tg env (e x) = some env1 ∧ wf (b env1 h) (I (done ++ [x])) N (I (done ++ [x])) R X) (q : ∀ env h, I xs env h → N env h) : wf (forL tg b (xs.map e) env h) N B C R X := by
  refine f_forLi (fun l env h => ∃ done rest, xs = done ++ rest ∧ l = rest.map e ∧ I done env h) ⟨[], xs, rfl, rfl, hI⟩ ?_ ?_
  · rintro x r env h ⟨done, rest, e1, e2, hi⟩
    cases rest with
    | nil => cases e2
    | cons y rest =>
      simp only [List.map_cons, List.cons.injEq] at e2
      obtain ⟨rfl, rfl⟩ := e2
      obtain ⟨env1, ee, w⟩ := k done y rest e1 env h hi
      have ea : xs = (done ++ [y]) ++ rest := by rw [e1, List.append_assoc]; rfl
      exact ⟨env1, ee, f_mono w (fun _ _ z => ⟨_, _, ea, rfl, z⟩) (fun _ _ z => z) (fun _ _ z => ⟨_, _, ea, rfl, z⟩) (fun _ _ z => z) (fun _ _ _ z => z)⟩
  · rintro env h ⟨done, rest, e1, e2, hi⟩
    have : rest = [] := by
      cases rest with
      | nil => rfl
      | cons => cases e2
    subst this
    rw [List.append_nil] at e1
    rw [← e1] at hi
    exact q env h hi
theorem f_bodyEq {Γ : Cl} {b : Ss} {env : En} {h : Hs} {N B C : En → Hs → Prop} {R : R → Hs → Prop} {X : T → En → Hs → Prop} (k : wf (exs Γ b env h) N B C R X) : wf (exs Γ b env h) N B C R X := k
/-! ### signs, one by one -/
abbrev Sg := Str × Int
def sg (q : Sg) : T := .tup [.str q.1, .int q.2]
def signsFrom (x : Sp) (n : Nat) : List Sg := (List.range n).map fun k => (x.1, x.2.1 + (k : Nat))
def signsOf (xs : List Sp) : List Sg := xs.flatMap fun x => signsFrom x (x.2.2 - x.2.1).toNat
theorem signsOf_app {xs : List Sp} {x : Sp} : signsOf (xs ++ [x]) = signsOf xs ++ signsFrom x (x.2.2 - x.2.1).toNat := by simp [signsOf]
theorem signsOf_len {xs ys : List Sp} : (signsOf xs).length ≤ (signsOf (xs ++ ys)).length := by simp [signsOf]
theorem signsFrom_succ {x : Sp} {n : Nat} : signsFrom x (n + 1) = signsFrom x n ++ [(x.1, x.2.1 + (n : Nat))] := by simp [signsFrom, List.range_succ]
theorem c_law_signs {p : Prg} (h : Has p "_law_signs" f__law_signs) {k : Nat} {t : T} {xs : List Sp} {hs : Hs} (ht : itemsT t = some (xs.map sp)) (hb : ∀ x ∈ xs, 0 ≤ x.2.1 ∧ x.2.1 ≤ x.2.2 ∧ x.2.2 ≤ 10000000) (hl : (signsOf xs).length ≤ 10000000) : callK p (k + 1) "_law_signs" [t] hs = .ok (.new (.lst ((signsOf xs).map sg))) hs := by
  rw [← wp_eq]
  refine w_run h rfl ?_
  unfold f__law_signs
  have hsz := size_ge
  walk_at "wk"
  rw [ht]
  walk_at "wk"
  refine ⟨by omega, ?_⟩
  refine f_forMap (fun done env h => h = hs ∧ ∃ s2 s3 s4 s5, env = [Slot.val t, Slot.own (.lst ((signsOf done).map sg)), s2, s3, s4, s5]) ⟨rfl, _, _, _, _, rfl⟩ ?_ ?_
  · rintro done x rest ex env h1 ⟨rfl, s2, s3, s4, s5, rfl⟩
    have hx := hb x (by rw [ex]; simp)
    refine ⟨_, rfl, ?_⟩
    walk_at "wk"
    have hsm : ∀ i : Int, 0 ≤ i → i ≤ 10000000 → smallI i = true := fun i h1 h2 => by simp only [smallI, decide_eq_true_eq]; omega
    refine ⟨⟨hsm _ hx.1 (by omega), hsm _ (by omega) hx.2.2⟩, ?_⟩
    refine f_forRange (fun n env h => h = h1 ∧ ∃ s5, env = [Slot.val t, Slot.own (.lst ((signsOf done ++ signsFrom x n).map sg)), Slot.val (.str x.1), Slot.val (.int x.2.1), Slot.val (.int x.2.2), s5]) ⟨rfl, s5, by simp [signsFrom]⟩ ?_ ?_
    · rintro n hn env h2 ⟨rfl, s5, rfl⟩
      refine ⟨_, rfl, ?_⟩
      walk_at "wk"
      rw [f_app (l := (signsOf done ++ signsFrom x n).map sg) rfl]
      walk_at "wk"
      have hlen : (signsOf done ++ signsFrom x n).length ≤ 10000000 := by
        have e1 : (signsOf xs).length = (signsOf done).length + ((x.2.2 - x.2.1).toNat + (signsOf rest).length) := by
          rw [ex]; simp [signsOf, signsFrom]
        simp only [List.length_append, signsFrom, List.length_map, List.length_range]
        omega
      rw [List.length_map]
      refine ⟨by omega, by omega, .val (.int (x.2.1 + n)), ?_⟩
      rw [signsFrom_succ, ← List.append_assoc]
      simp only [List.map_append]
      rfl
    · rintro env h2 ⟨rfl, s5, rfl⟩
      walk_at "wk"
      rw [signsOf_app]
      exact ⟨_, _, _, _, rfl⟩
  · rintro env h1 ⟨rfl, s2, s3, s4, s5, rfl⟩
    walk_at "wk"
theorem atI_neg {α : Type} {l : List α} {a : α} : atI (l ++ [a]) (-1) = some a := by
  unfold atI ixN
  rw [if_neg (by omega), if_pos (by simp; omega)]
  simp only [List.length_append, List.length_singleton, Option.bind_some]
  rw [show ((-1 : Int) + ((l.length + 1 : Nat) : Int)).toNat = l.length from by omega]
  simp
theorem ixN_neg {n : Nat} : ixN (n + 1) (-1) = some n := by
  unfold ixN
  rw [if_neg (by omega), if_pos (by omega)]
  rw [show ((-1 : Int) + ((n + 1 : Nat) : Int)).toNat = n from by omega]
theorem snoc_ind {α : Type} {M : List α → Prop} (h0 : M []) (h1 : ∀ l a, M l → M (l ++ [a])) (l : List α) : M l := by
  rw [← List.reverse_reverse l]
  induction l.reverse with
  | nil => exact h0
  | cons a r ih => rw [List.reverse_cons]; exact h1 _ _ ih
theorem set_last {α : Type} {l : List α} {a b : α} : (l ++ [a]).set l.length b = l ++ [b] := by simp
/-- a page grows by a sign -/
def grow (found : List Sp) (q : Sg) : List Sp := match found.reverse with
  | (b, f, e) :: r => if (b == q.1) = true ∧ (e == q.2) = true then r.reverse ++ [(q.1, f, q.2 + 1)] else found ++ [(q.1, q.2, q.2 + 1)]
  | [] => [(q.1, q.2, q.2 + 1)]
def pageOf (signs : List Sg) : List Sp := signs.foldl grow []
theorem pageOf_app {l : List Sg} {q : Sg} : pageOf (l ++ [q]) = grow (pageOf l) q := by simp [pageOf]
theorem grow_len {found : List Sp} {q : Sg} : (grow found q).length ≤ found.length + 1 := by
  unfold grow
  split
  · rename_i b f e r hr
    have := congrArg List.length hr
    simp at this
    split <;> simp <;> omega
  · simp
theorem pageOf_len : ∀ l : List Sg, (pageOf l).length ≤ l.length := by
  refine snoc_ind (Nat.le_refl _) fun l q ih => ?_
  · rw [pageOf_app]
    have := @grow_len (pageOf l) q
    simp
    omega
theorem grow_nam {found : List Sp} {q : Sg} (h : ∀ x ∈ found, isName (.str x.1) = true) (hq : isName (.str q.1) = true) : ∀ x ∈ grow found q, isName (.str x.1) = true := by
  unfold grow
  split
  · rename_i b f e r hr
    have hf : found = r.reverse ++ [(b, f, e)] := by rw [← List.reverse_reverse found, hr]; simp
    intro x hx
    split at hx
    · rcases List.mem_append.mp hx with hx | hx
      · exact h x (by rw [hf]; simp at hx ⊢; exact .inl hx)
      · rw [List.mem_singleton.mp hx]; exact hq
    · rcases List.mem_append.mp hx with hx | hx
      · exact h x hx
      · rw [List.mem_singleton.mp hx]; exact hq
  · intro x hx
    rw [List.mem_singleton.mp hx]; exact hq
theorem pageOf_nam {l : List Sg} (h : ∀ q ∈ l, isName (.str q.1) = true) : ∀ x ∈ pageOf l, isName (.str x.1) = true := by
  revert h
  refine snoc_ind (M := fun l => (∀ q ∈ l, isName (.str q.1) = true) → ∀ x ∈ pageOf l, isName (.str x.1) = true) (fun _ x hx => by cases hx) (fun l q ih h => ?_) l
  · rw [pageOf_app]
    exact grow_nam (ih fun q hq => h q (by simp [hq])) (h q (by simp))
theorem sp_isD {x : Sp} (h : isName (.str x.1) = true) : (sp x).isD = true := by
  have := name_ok h
  simp [sp, T.isD, allD, this]
theorem sps_isD {xs : List Sp} (h : ∀ x ∈ xs, isName (.str x.1) = true) : (T.lst (xs.map sp)).isD = true := by
  simp only [T.isD]
  rw [allD_iff]
  intro t ht
  obtain ⟨x, hx, rfl⟩ := List.mem_map.mp ht
  exact sp_isD (h x hx)
theorem c_law_page_of {p : Prg} (h : Has p "_law_page_of" f__law_page_of) {k : Nat} {t : T} {l : List Sg} {hs : Hs} (ht : itemsT t = some (l.map sg)) (hn : ∀ q ∈ l, isName (.str q.1) = true) (hl : l.length ≤ 10000000) : callK p (k + 1) "_law_page_of" [t] hs = .ok (.val (.tup ((pageOf l).map sp))) hs := by
  rw [← wp_eq]
  refine w_run h rfl ?_
  unfold f__law_page_of
  have hsz := size_ge
  walk_at "wk"
  rw [ht]
  walk_at "wk"
  refine ⟨by omega, ?_⟩
  refine f_forMap (fun done env h => h = hs ∧ ∃ s2 s3, env = [Slot.val t, Slot.own (.lst ((pageOf done).map sp)), s2, s3]) ⟨rfl, _, _, rfl⟩ ?_ ?_
  · rintro done q rest ex env h1 ⟨rfl, s2, s3, rfl⟩
    have hq := hn q (by rw [ex]; simp)
    have hd : ∀ x ∈ pageOf done, isName (.str x.1) = true := pageOf_nam fun x hx => hn x (by rw [ex]; simp [hx])
    have hlen : (pageOf done).length ≤ 10000000 := by
      have h1 := pageOf_len done
      have h2 := congrArg List.length ex
      simp at h2
      omega
    refine ⟨_, rfl, ?_⟩
    rw [pageOf_app]
    generalize pageOf done = found at hd hlen
    walk_at "wk"
    have ok1 : okEq (.lst (found.map sp)) (.lst []) = true := by
      unfold okEq
      rw [sps_isD hd]
      simp [T.isD, allD, T.dep, depL]
    rw [ok1, eq_nil]
    refine ⟨by omega, rfl, ?_⟩
    rcases List.eq_nil_or_concat found with rfl | ⟨r, ⟨b, f, e⟩, rfl⟩
    · refine ⟨fun hh => absurd hh (by simp), fun _ => ?_⟩
      rw [f_app (l := ([] : List Sp).map sp) rfl]
      walk_at "wk"
      exact ⟨by omega, Nat.lt_of_lt_of_le (by decide) hsz, _, _, rfl⟩
    · have hb := hd (b, f, e) (by simp)
      have hc : List.map sp (r.concat (b, f, e)) = r.map sp ++ [sp (b, f, e)] := by simp
      have hg : (r.concat (b, f, e)).reverse = (b, f, e) :: r.reverse := by simp
      have hl2 : r.length + 1 ≤ 10000000 := by simpa using hlen
      unfold grow
      rw [hg]
      rw [hc]
      refine ⟨fun _ => ?_, fun hh => by simp at hh⟩
      rw [atI_neg]
      unfold sp
      walk_at "wk"
      rw [name_ok hb, name_ok hq]
      refine ⟨rfl, fun e1 => ?_, fun e1 => ?_⟩
      · rw [atI_neg]
        walk_at "wk"
        refine ⟨fun e2 => ?_, fun e2 => ?_⟩
        · rw [f_seto (l := List.map (fun x : Sp => T.tup [T.str x.1, T.int x.2.1, T.int x.2.2]) r ++ [T.tup [T.str b, T.int f, T.int e]]) rfl]
          walk_at "wk"
          rw [atI_neg]
          walk_at "wk"
          refine ⟨by omega, _, r.length, rfl, by rw [List.length_append, List.length_singleton, List.length_map]; exact ixN_neg, ?_⟩
          rw [show r.length = (List.map (fun x : Sp => T.tup [T.str x.1, T.int x.2.1, T.int x.2.2]) r).length from by simp, set_last]
          rw [if_pos ⟨e1, e2⟩]
          refine ⟨.val (.str q.1), .val (.int q.2), ?_⟩
          simp
        · rw [f_app (l := List.map (fun x : Sp => T.tup [T.str x.1, T.int x.2.1, T.int x.2.2]) r ++ [T.tup [T.str b, T.int f, T.int e]]) rfl]
          walk_at "wk"
          rw [if_neg (by rw [e2]; simp)]
          refine ⟨by omega, by simp; omega, .val (.str q.1), .val (.int q.2), ?_⟩
          simp
      · rw [f_app (l := List.map (fun x : Sp => T.tup [T.str x.1, T.int x.2.1, T.int x.2.2]) r ++ [T.tup [T.str b, T.int f, T.int e]]) rfl]
        walk_at "wk"
        rw [if_neg (by rw [e1]; simp)]
        refine ⟨by omega, by simp; omega, .val (.str q.1), .val (.int q.2), ?_⟩
        simp
  · rintro env h1 ⟨rfl, s2, s3, rfl⟩
    walk_at "wk"
end Fx

namespace Fx
open PySem L2
local macro_rules | `(tactic| walk_at "wk") => `(tactic| simp only [↓w_con, ↓w_var, vV_v, vV_o, ↓w_bin, ↓w_not, ↓w_and, ↓w_or, ↓w_and1, ↓w_and2, ↓w_or1, ↓w_or2, ↓w_cmp, ↓w_chn, ↓w_ch1, ↓w_ch2, ↓w_isN, ↓w_ite, ↓w_tup, ↓w_lst, ↓w_slc, ↓w_call2, ↓w_bi, ↓w_isi, ↓w_idx, ↓w_neg, ↓w_mth, ↓w_ono, ↓w_oso, ↓w_cno, ↓w_cso, ↓w_nil, ↓w_cons, ↓w_pnil, ↓w_pcons, ↓w_ival, ↓w_rng1, ↓w_rng2, ↓w_zip, ↓w_zipk, ↓w_enu, ↓w_isB, ↓w_rev, ↓w_lrng1, ↓w_lrng2, vV_l, lV_i, r2V_i, zV_l, zV_t, ↓w_lc, ↓w_lc2,
  ↓w_ok, ↓w_exc, ↓w_stuck, ↓w_bind, ↓w_ofc, ↓w_ofs, ↓w_ofn, ↓w_ofm, ↓w_if, ↓w_sel, ↓f_nx, ↓f_rt, ↓f_exc, ↓f_stuck, ↓f_bind, ↓f_fl, ↓f_if, ↓f_sel, ↓f_nil, ↓f_cons, ↓f_pass, ↓f_expr, ↓f_asg, ↓f_asgO, ↓f_asgB, ↓f_ret, ↓f_retN, ↓f_ite, ↓f_forr,
  f_app, f_seto, w_ok, w_ofc, w_ofs, w_ofn, w_ofm, w_if, w_sel, f_sel, f_if,
  P.t_val, P.t_new, P.t_pk, P.k_val, P.k_new, P.k_pk, P.u_t, P.u_k, P.ret_val, P.ret_new, P.ret_pk, R.p_val, R.p_new, truthB_bl, Cell.t_lst,
  oB_add, oB_adds, oB_addb, oB_subb, fStr_b, nV_b, oB_addl, oB_addt, oB_sub, oB_mul, oB_mull, oB_div, oB_mod, oB_pow, oC_eq, oC_ne, oC_lt, oC_le, oC_gt, oC_ge, oC_in, oC_notin, oC_inl, oC_notinl, oC_lts, oC_gts, oC_les, oC_ges, oC_ltt, oC_ltl, oB_mult, fSort_l, fSort_t, fOrd_c, okEq_ii, okEq_bb, okEq_ss, eqT_ii, eqT_bb, eqT_ss, opI_l, opI_c, opI_t, opI_s, opS_l, opS_t, opS_s, iV_l, iV_t, iV_s, iV_c, nV_i, oV_i, rV_i, aV_v, aV_n, aO_n, aB_n, cV_v, cV_n,
  fLen_l, fLen_t, fLen_c, fLen_s, fAbs_i, fMin_i, fMax_i, fSum_l, fAll_l, fAny_l, fInt_i, fInt_b, fStr_i, fStr_s, fList_l, fList_t, fTuple_l, fTuple_t, mJoin_l, mUp_s, isI_non, isI_bl, isI_int, isI_str, isI_tup, isI_lst, itemsT_l, itemsT_t, itemsT_s, exV_some, exV_map, exV_if, atI_0, atI_1, atI_2, atI_3, atI_4,
  T.ty, Mt.ty, T.isNon, isTy, startE, wipeE, beq_self_eq_true,
  List.map_cons, List.map_nil, List.length_cons, List.length_nil, List.replicate, List.cons_append, List.nil_append, List.getElem?_cons_zero, List.getElem?_cons_succ, List.getElem?_nil, List.set_cons_zero, List.set_cons_succ, List.any_cons, List.any_nil, List.all_cons, List.all_nil,
  Option.map_some, Option.map_none, Option.bind_some, Option.bind_none, Nat.sub_self, Nat.zero_add, Nat.add_zero, Nat.reduceAdd, Nat.reduceSub, Nat.reduceEqDiff, Int.reduceToNat, Int.reducePow, Int.reduceLT, Int.reduceLE, Int.reduceAdd, Int.reduceSub, Int.reduceMul, Int.reduceNeg, Int.reduceBEq, Nat.reduceLT, Nat.reduceLeDiff, Nat.reducePow, gt_iff_lt, ge_iff_le, if_true, if_false, Bool.not_true, Bool.not_false, Bool.or_true, Bool.or_false, Bool.true_or, Bool.false_or, Bool.and_true, Bool.and_false, Bool.true_and, Bool.false_and,
  reduceCtorEq, decide_true, decide_false, Bool.false_eq_true, Bool.true_eq_false, decide_eq_true_eq, decide_eq_false_iff_not, eq_self, Bool.not_eq_true', Bool.not_eq_false', Bool.not_not, false_imp_iff, true_and, and_true, false_and, and_false, not_true_eq_false, not_false_eq_true, implies_true, true_implies, false_implies])
local macro_rules | `(tactic| walk_at "cj") => `(tactic| (repeat' (first | (refine And.intro ?_ ?_) | decide | omega | assumption)))

theorem signsOf_nam {ys : List Sp} (h : ∀ y ∈ ys, okSp y = true) : ∀ q ∈ signsOf ys, isName (.str q.1) = true ∧ 0 ≤ q.2 ∧ q.2 < 1000000 := by
  intro q hq
  obtain ⟨y, hy, hq⟩ := List.mem_flatMap.mp hq
  obtain ⟨k, hk, rfl⟩ := List.mem_map.mp hq
  have := okSp_iff.mp (h y hy)
  rw [List.mem_range] at hk
  exact ⟨this.1, by simp; omega, by simp; omega⟩
theorem signsOf_le {ys : List Sp} {m : Nat} (h : ∀ y ∈ ys, y.2.2 ≤ y.2.1 + m) : (signsOf ys).length ≤ m * ys.length := by
  induction ys with
  | nil => simp [signsOf]
  | cons y r ih =>
    have h1 := ih (fun z hz => h z (by simp [hz]))
    have h2 := h y (by simp)
    have e : (signsOf (y :: r)).length = (y.2.2 - y.2.1).toNat + (signsOf r).length := by simp [signsOf, signsFrom]
    rw [e, List.length_cons, Nat.mul_succ]
    omega
structure HasDraw (p : Prg) : Prop where
  take : Has p "_law_take" f__law_take
  off : Has p "_law_of" f__law_of
  name : Has p "_law_name" f__law_name
  span : Has p "_law_span" f__law_span
/-- a drawn page -/
theorem w_page {p : Prg} (hp : Has p "_law_page" f__law_page) (H : HasDraw p) (hs : Has p "_law_signs" f__law_signs) (ho : Has p "_law_page_of" f__law_page_of) {k : Nat} {b : Nat} {most : Int} {h : Hs} {Q : R → Hs → Prop} {X : T → Hs → Prop} (hb : Bag h b) (m0 : 0 ≤ most) (m1 : most ≤ 1000)
    (q : ∀ (ys : List Sp) h', (∀ y ∈ ys, okSp y = true ∧ y.2.2 ≤ y.2.1 + 12) → ys.length ≤ most.toNat → Bag h' b → Up b h h' → Q (.val (.tup ((pageOf (signsOf ys)).map sp))) h') : wp (callK p (k + 4) "_law_page" [.ref b, .int most] h) Q X := by
  refine w_run hp rfl ?_
  unfold f__law_page
  have hsz := size_ge
  walk_at "wk"
  refine ⟨by omega, ?_⟩
  refine w_take H.take hb (by omega) (by omega) ?_
  intro r h1 r0 r1 hb1 hu1
  walk_at "wk"
  refine ⟨by simp only [smallI, decide_eq_true_eq]; omega, ?_⟩
  refine f_forRange (fun n env h' => ∃ (ys : List Sp) (s3 : Slot), env = [Slot.val (.ref b), Slot.val (.int most), Slot.val (.lst ((signsOf ys).map sg)), s3] ∧ (∀ y ∈ ys, okSp y = true ∧ y.2.2 ≤ y.2.1 + 12) ∧ ys.length ≤ n ∧ Bag h' b ∧ Up b h h') ⟨[], _, rfl, by simp, by simp, hb1, hu1⟩ ?_ ?_
  · rintro n hn env h2 ⟨ys, s3, rfl, hy, hl, hb2, hu2⟩
    refine ⟨_, rfl, ?_⟩
    walk_at "wk"
    refine w_span H.span H.off H.take H.name hb2 ?_
    intro s i j h3 na i0 ij j1 jl hb3 hu3
    walk_at "wk"
    refine ⟨by omega, ?_⟩
    have e1 := signsOf_le (m := 12) (ys := [(s, i, j)]) (by intro y hy; rw [List.mem_singleton.mp hy]; exact jl)
    have e2 := signsOf_le (m := 12) (ys := ys) (fun y hy' => (hy y hy').2)
    rw [show k + 3 = (k + 2) + 1 from rfl, c_law_signs hs (xs := [(s, i, j)]) rfl (by intro y hy; rw [List.mem_singleton.mp hy]; exact ⟨i0, Int.le_of_lt ij, by show j ≤ 10000000; omega⟩) (by simp at e1 ⊢; omega)]
    walk_at "wk"
    rw [List.length_map, List.length_map]
    simp only [List.length_singleton] at e1
    refine ⟨by omega, ys ++ [(s, i, j)], .val (.int (0 + n)), ?_, ?_, by simp; omega, hb3, hu2.trans hu3⟩
    · rw [signsOf_app]
      simp [signsOf]
    · intro y hy'
      rcases List.mem_append.mp hy' with hy' | hy'
      · exact hy y hy'
      · rw [List.mem_singleton.mp hy']
        exact ⟨okSp_iff.mpr ⟨na, i0, ij, j1⟩, jl⟩
  · rintro env h2 ⟨ys, s3, rfl, hy, hl, hb2, hu2⟩
    walk_at "wk"
    have e2 := signsOf_le (m := 12) (ys := ys) (fun y hy' => (hy y hy').2)
    rw [show k + 3 = (k + 2) + 1 from rfl, c_law_page_of ho (l := signsOf ys) rfl (fun q hq => (signsOf_nam (fun y hy' => (hy y hy').1) q hq).1) (by omega)]
    walk_at "wk"
    exact q ys h2 hy (by omega) hb2 hu2
end Fx

namespace Fx
open PySem L2
local macro_rules | `(tactic| walk_at "wk") => `(tactic| simp only [↓w_con, ↓w_var, vV_v, vV_o, ↓w_bin, ↓w_not, ↓w_and, ↓w_or, ↓w_and1, ↓w_and2, ↓w_or1, ↓w_or2, ↓w_cmp, ↓w_chn, ↓w_ch1, ↓w_ch2, ↓w_isN, ↓w_ite, ↓w_tup, ↓w_lst, ↓w_slc, ↓w_call2, ↓w_bi, ↓w_isi, ↓w_idx, ↓w_neg, ↓w_mth, ↓w_ono, ↓w_oso, ↓w_cno, ↓w_cso, ↓w_nil, ↓w_cons, ↓w_pnil, ↓w_pcons, ↓w_ival, ↓w_rng1, ↓w_rng2, ↓w_zip, ↓w_zipk, ↓w_enu, ↓w_isB, ↓w_rev, ↓w_lrng1, ↓w_lrng2, vV_l, lV_i, r2V_i, zV_l, zV_t, ↓w_lc, ↓w_lc2,
  ↓w_ok, ↓w_exc, ↓w_stuck, ↓w_bind, ↓w_ofc, ↓w_ofs, ↓w_ofn, ↓w_ofm, ↓w_if, ↓w_sel, ↓f_nx, ↓f_rt, ↓f_exc, ↓f_stuck, ↓f_bind, ↓f_fl, ↓f_if, ↓f_sel, ↓f_nil, ↓f_cons, ↓f_pass, ↓f_expr, ↓f_asg, ↓f_asgO, ↓f_asgB, ↓f_ret, ↓f_retN, ↓f_ite, ↓f_forr,
  f_app, f_seto, w_ok, w_ofc, w_ofs, w_ofn, w_ofm, w_if, w_sel, f_sel, f_if,
  P.t_val, P.t_new, P.t_pk, P.k_val, P.k_new, P.k_pk, P.u_t, P.u_k, P.ret_val, P.ret_new, P.ret_pk, R.p_val, R.p_new, truthB_bl, Cell.t_lst,
  oB_add, oB_adds, oB_addb, oB_subb, fStr_b, nV_b, oB_addl, oB_addt, oB_sub, oB_mul, oB_mull, oB_div, oB_mod, oB_pow, oC_eq, oC_ne, oC_lt, oC_le, oC_gt, oC_ge, oC_in, oC_notin, oC_inl, oC_notinl, oC_lts, oC_gts, oC_les, oC_ges, oC_ltt, oC_ltl, oB_mult, fSort_l, fSort_t, fOrd_c, okEq_ii, okEq_bb, okEq_ss, eqT_ii, eqT_bb, eqT_ss, opI_l, opI_c, opI_t, opI_s, opS_l, opS_t, opS_s, iV_l, iV_t, iV_s, iV_c, nV_i, oV_i, rV_i, aV_v, aV_n, aO_n, aB_n, cV_v, cV_n,
  fLen_l, fLen_t, fLen_c, fLen_s, fAbs_i, fMin_i, fMax_i, fSum_l, fAll_l, fAny_l, fInt_i, fInt_b, fStr_i, fStr_s, fList_l, fList_t, fTuple_l, fTuple_t, mJoin_l, mUp_s, isI_non, isI_bl, isI_int, isI_str, isI_tup, isI_lst, itemsT_l, itemsT_t, itemsT_s, exV_some, exV_map, exV_if, atI_0, atI_1, atI_2, atI_3, atI_4,
  T.ty, Mt.ty, T.isNon, isTy, startE, wipeE, beq_self_eq_true,
  List.map_cons, List.map_nil, List.length_cons, List.length_nil, List.replicate, List.cons_append, List.nil_append, List.getElem?_cons_zero, List.getElem?_cons_succ, List.getElem?_nil, List.set_cons_zero, List.set_cons_succ, List.any_cons, List.any_nil, List.all_cons, List.all_nil,
  Option.map_some, Option.map_none, Option.bind_some, Option.bind_none, Nat.sub_self, Nat.zero_add, Nat.add_zero, Nat.reduceAdd, Nat.reduceSub, Nat.reduceEqDiff, Int.reduceToNat, Int.reducePow, Int.reduceLT, Int.reduceLE, Int.reduceAdd, Int.reduceSub, Int.reduceMul, Int.reduceNeg, Int.reduceBEq, Nat.reduceLT, Nat.reduceLeDiff, Nat.reducePow, gt_iff_lt, ge_iff_le, if_true, if_false, Bool.not_true, Bool.not_false, Bool.or_true, Bool.or_false, Bool.true_or, Bool.false_or, Bool.and_true, Bool.and_false, Bool.true_and, Bool.false_and,
  reduceCtorEq, decide_true, decide_false, Bool.false_eq_true, Bool.true_eq_false, decide_eq_true_eq, decide_eq_false_iff_not, eq_self, Bool.not_eq_true', Bool.not_eq_false', Bool.not_not, false_imp_iff, true_and, and_true, false_and, and_false, not_true_eq_false, not_false_eq_true, implies_true, true_implies, false_implies])
local macro_rules | `(tactic| walk_at "cj") => `(tactic| (repeat' (first | (refine And.intro ?_ ?_) | decide | omega | assumption)))

theorem range_map {lo hi : Int} : rangeT lo hi = (List.range (hi - lo).toNat).map fun k : Nat => T.int (lo + (k : Nat)) := rfl
theorem c_addresses {p : Prg} (h : Has p "addresses" f_addresses) {k : Nat} {xs : List Sp} {hs : Hs} (hb : ∀ x ∈ xs, 0 ≤ x.2.1 ∧ x.2.1 ≤ x.2.2 ∧ x.2.2 ≤ 10000000) (hl : (signsOf xs).length ≤ 10000000) : callK p (k + 1) "addresses" [.tup (xs.map sp)] hs = .ok (.new (.lst ((signsOf xs).map sg))) hs := by
  rw [← wp_eq]
  refine w_run h rfl ?_
  unfold f_addresses
  have hsz := size_ge
  walk_at "wk"
  refine ⟨rfl, ?_⟩
  refine w_lc2map (g := fun x => (signsFrom x (x.2.2 - x.2.1).toNat).map sg) ?_ ?_
  · intro x hx
    have hx' := hb x hx
    have hsm : ∀ i : Int, 0 ≤ i → i ≤ 10000000 → smallI i = true := fun i h1 h2 => by simp only [smallI, decide_eq_true_eq]; omega
    rw [w_turn2 (by rfl)]
    walk_at "wk"
    refine ⟨⟨hsm _ hx'.1 (by omega), hsm _ (by omega) hx'.2.2⟩, rfl, ?_⟩
    rw [range_map]
    refine w_lcmap (g := fun k : Nat => sg (x.1, x.2.1 + (k : Nat))) ?_ ?_
    · intro n hn
      rw [w_turn (by rfl)]
      walk_at "wk"
      refine ⟨Nat.le_trans (by show 2 ≤ 16777216; decide) hsz, ?_⟩
      exact ⟨rfl, rfl⟩
    · simp [signsFrom, Function.comp_def]
  · walk_at "wk"
    have e : (xs.flatMap fun x => (signsFrom x (x.2.2 - x.2.1).toNat).map sg) = (signsOf xs).map sg := by
      simp [signsOf, List.map_flatMap]
    rw [e]
    rw [List.length_map]
    exact ⟨by omega, rfl⟩
end Fx

namespace Fx
open PySem L2
local macro_rules | `(tactic| walk_at "wk") => `(tactic| simp only [↓w_con, ↓w_var, vV_v, vV_o, ↓w_bin, ↓w_not, ↓w_and, ↓w_or, ↓w_and1, ↓w_and2, ↓w_or1, ↓w_or2, ↓w_cmp, ↓w_chn, ↓w_ch1, ↓w_ch2, ↓w_isN, ↓w_ite, ↓w_tup, ↓w_lst, ↓w_slc, ↓w_call2, ↓w_bi, ↓w_isi, ↓w_idx, ↓w_neg, ↓w_mth, ↓w_ono, ↓w_oso, ↓w_cno, ↓w_cso, ↓w_nil, ↓w_cons, ↓w_pnil, ↓w_pcons, ↓w_ival, ↓w_rng1, ↓w_rng2, ↓w_zip, ↓w_zipk, ↓w_enu, ↓w_isB, ↓w_rev, ↓w_lrng1, ↓w_lrng2, vV_l, lV_i, r2V_i, zV_l, zV_t, ↓w_lc, ↓w_lc2,
  ↓w_ok, ↓w_exc, ↓w_stuck, ↓w_bind, ↓w_ofc, ↓w_ofs, ↓w_ofn, ↓w_ofm, ↓w_if, ↓w_sel, ↓f_nx, ↓f_rt, ↓f_exc, ↓f_stuck, ↓f_bind, ↓f_fl, ↓f_if, ↓f_sel, ↓f_nil, ↓f_cons, ↓f_pass, ↓f_expr, ↓f_asg, ↓f_asgO, ↓f_asgB, ↓f_ret, ↓f_retN, ↓f_ite, ↓f_forr,
  f_app, f_seto, w_ok, w_ofc, w_ofs, w_ofn, w_ofm, w_if, w_sel, f_sel, f_if,
  P.t_val, P.t_new, P.t_pk, P.k_val, P.k_new, P.k_pk, P.u_t, P.u_k, P.ret_val, P.ret_new, P.ret_pk, R.p_val, R.p_new, truthB_bl, Cell.t_lst,
  oB_add, oB_adds, oB_addb, oB_subb, fStr_b, nV_b, oB_addl, oB_addt, oB_sub, oB_mul, oB_mull, oB_div, oB_mod, oB_pow, oC_eq, oC_ne, oC_lt, oC_le, oC_gt, oC_ge, oC_in, oC_notin, oC_inl, oC_notinl, oC_lts, oC_gts, oC_les, oC_ges, oC_ltt, oC_ltl, oB_mult, fSort_l, fSort_t, fOrd_c, okEq_ii, okEq_bb, okEq_ss, eqT_ii, eqT_bb, eqT_ss, opI_l, opI_c, opI_t, opI_s, opS_l, opS_t, opS_s, iV_l, iV_t, iV_s, iV_c, nV_i, oV_i, rV_i, aV_v, aV_n, aO_n, aB_n, cV_v, cV_n,
  fLen_l, fLen_t, fLen_c, fLen_s, fAbs_i, fMin_i, fMax_i, fSum_l, fAll_l, fAny_l, fInt_i, fInt_b, fStr_i, fStr_s, fList_l, fList_t, fTuple_l, fTuple_t, mJoin_l, mUp_s, isI_non, isI_bl, isI_int, isI_str, isI_tup, isI_lst, itemsT_l, itemsT_t, itemsT_s, exV_some, exV_map, exV_if, atI_0, atI_1, atI_2, atI_3, atI_4,
  T.ty, Mt.ty, T.isNon, isTy, startE, wipeE, beq_self_eq_true,
  List.map_cons, List.map_nil, List.length_cons, List.length_nil, List.replicate, List.cons_append, List.nil_append, List.getElem?_cons_zero, List.getElem?_cons_succ, List.getElem?_nil, List.set_cons_zero, List.set_cons_succ, List.any_cons, List.any_nil, List.all_cons, List.all_nil,
  Option.map_some, Option.map_none, Option.bind_some, Option.bind_none, Nat.sub_self, Nat.zero_add, Nat.add_zero, Nat.reduceAdd, Nat.reduceSub, Nat.reduceEqDiff, Int.reduceToNat, Int.reducePow, Int.reduceLT, Int.reduceLE, Int.reduceAdd, Int.reduceSub, Int.reduceMul, Int.reduceNeg, Int.reduceBEq, Nat.reduceLT, Nat.reduceLeDiff, Nat.reducePow, gt_iff_lt, ge_iff_le, if_true, if_false, Bool.not_true, Bool.not_false, Bool.or_true, Bool.or_false, Bool.true_or, Bool.false_or, Bool.and_true, Bool.and_false, Bool.true_and, Bool.false_and,
  reduceCtorEq, decide_true, decide_false, Bool.false_eq_true, Bool.true_eq_false, decide_eq_true_eq, decide_eq_false_iff_not, eq_self, Bool.not_eq_true', Bool.not_eq_false', Bool.not_not, false_imp_iff, true_and, and_true, false_and, and_false, not_true_eq_false, not_false_eq_true, implies_true, true_implies, false_implies])
local macro_rules | `(tactic| walk_at "cj") => `(tactic| (repeat' (first | (refine And.intro ?_ ?_) | decide | omega | assumption)))

/-- a walk that ends at the first bad one -/
theorem f_forFind {α : Type} {e : α → T} {tg : Tg} {b : En → Hs → Fl} {N B C : En → Hs → Prop} {R : R → Hs → Prop} {X : T → En → Hs → Prop} (bad : α → Bool) (I : En → Hs → Prop) {xs : List α} {env : En} {h : Hs} (hI : I env h)
    (k : ∀ x ∈ xs, ∀ env h, I env h → ∃ env1, putTg tg env (e x) = some env1 ∧ wf (b env1 h) (fun env h => I env h ∧ bad x = false) N (fun env h => I env h ∧ bad x = false) (fun r h => bad x = true ∧ ((∃ x ∈ xs, bad x = true) → R r h)) X) (q : ∀ env h, I env h → (∀ x ∈ xs, bad x = false) → N env h) : wf (forL tg b (xs.map e) env h) N B C R X := by
  refine f_forMap (fun done env h => I env h ∧ ∀ x ∈ done, bad x = false) ⟨hI, by simp⟩ ?_ ?_
  · rintro done x rest ex env h ⟨hi, hd⟩
    have hx : x ∈ xs := by rw [ex]; simp
    obtain ⟨env1, ee, w⟩ := k x hx env h hi
    have more : bad x = false → ∀ y ∈ done ++ [x], bad y = false := fun hb y hy => by
      rcases List.mem_append.mp hy with hy | hy
      · exact hd y hy
      · rw [List.mem_singleton.mp hy]; exact hb
    exact ⟨env1, ee, f_mono w (fun _ _ z => ⟨z.1, more z.2⟩) (fun _ _ z => z) (fun _ _ z => ⟨z.1, more z.2⟩) (fun _ _ z => z.2 ⟨x, hx, z.1⟩) (fun _ _ _ z => z)⟩
  · rintro env h ⟨hi, hd⟩
    exact q env h hi hd
theorem f_forFindT {tg : Tg} {b : En → Hs → Fl} {N B C : En → Hs → Prop} {R : R → Hs → Prop} {X : T → En → Hs → Prop} (bad : T → Bool) (I : En → Hs → Prop) {xs : List T} {env : En} {h : Hs} (hI : I env h)
    (k : ∀ x ∈ xs, ∀ env h, I env h → ∃ env1, putTg tg env x = some env1 ∧ wf (b env1 h) (fun env h => I env h ∧ bad x = false) N (fun env h => I env h ∧ bad x = false) (fun r h => bad x = true ∧ ((∃ x ∈ xs, bad x = true) → R r h)) X) (q : ∀ env h, I env h → (∀ x ∈ xs, bad x = false) → N env h) : wf (forL tg b xs env h) N B C R X := by
  have := f_forFind (e := id) (B := B) (C := C) bad I hI k q
  rw [List.map_id] at this
  exact this
end Fx

namespace Fx
open PySem L2
local macro_rules | `(tactic| walk_at "wk") => `(tactic| simp only [↓w_con, ↓w_var, vV_v, vV_o, ↓w_bin, ↓w_not, ↓w_and, ↓w_or, ↓w_and1, ↓w_and2, ↓w_or1, ↓w_or2, ↓w_cmp, ↓w_chn, ↓w_ch1, ↓w_ch2, ↓w_isN, ↓w_ite, ↓w_tup, ↓w_lst, ↓w_slc, ↓w_call2, ↓w_bi, ↓w_isi, ↓w_idx, ↓w_neg, ↓w_mth, ↓w_ono, ↓w_oso, ↓w_cno, ↓w_cso, ↓w_nil, ↓w_cons, ↓w_pnil, ↓w_pcons, ↓w_ival, ↓w_rng1, ↓w_rng2, ↓w_zip, ↓w_zipk, ↓w_enu, ↓w_isB, ↓w_rev, ↓w_lrng1, ↓w_lrng2, vV_l, lV_i, r2V_i, zV_l, zV_t, ↓w_lc, ↓w_lc2,
  ↓w_ok, ↓w_exc, ↓w_stuck, ↓w_bind, ↓w_ofc, ↓w_ofs, ↓w_ofn, ↓w_ofm, ↓w_if, ↓w_sel, ↓f_nx, ↓f_rt, ↓f_exc, ↓f_stuck, ↓f_bind, ↓f_fl, ↓f_if, ↓f_sel, ↓f_nil, ↓f_cons, ↓f_pass, ↓f_expr, ↓f_asg, ↓f_asgO, ↓f_asgB, ↓f_ret, ↓f_retN, ↓f_ite, ↓f_forr,
  f_app, f_seto, w_ok, w_ofc, w_ofs, w_ofn, w_ofm, w_if, w_sel, f_sel, f_if,
  P.t_val, P.t_new, P.t_pk, P.k_val, P.k_new, P.k_pk, P.u_t, P.u_k, P.ret_val, P.ret_new, P.ret_pk, R.p_val, R.p_new, truthB_bl, Cell.t_lst,
  oB_add, oB_adds, oB_addb, oB_subb, fStr_b, nV_b, oB_addl, oB_addt, oB_sub, oB_mul, oB_mull, oB_div, oB_mod, oB_pow, oC_eq, oC_ne, oC_lt, oC_le, oC_gt, oC_ge, oC_in, oC_notin, oC_inl, oC_notinl, oC_lts, oC_gts, oC_les, oC_ges, oC_ltt, oC_ltl, oB_mult, fSort_l, fSort_t, fOrd_c, okEq_ii, okEq_bb, okEq_ss, eqT_ii, eqT_bb, eqT_ss, opI_l, opI_c, opI_t, opI_s, opS_l, opS_t, opS_s, iV_l, iV_t, iV_s, iV_c, nV_i, oV_i, rV_i, aV_v, aV_n, aO_n, aB_n, cV_v, cV_n,
  fLen_l, fLen_t, fLen_c, fLen_s, fAbs_i, fMin_i, fMax_i, fSum_l, fAll_l, fAny_l, fInt_i, fInt_b, fStr_i, fStr_s, fList_l, fList_t, fTuple_l, fTuple_t, mJoin_l, mUp_s, isI_non, isI_bl, isI_int, isI_str, isI_tup, isI_lst, itemsT_l, itemsT_t, itemsT_s, exV_some, exV_map, exV_if, atI_0, atI_1, atI_2, atI_3, atI_4,
  T.ty, Mt.ty, T.isNon, isTy, startE, wipeE, beq_self_eq_true,
  List.map_cons, List.map_nil, List.length_cons, List.length_nil, List.replicate, List.cons_append, List.nil_append, List.getElem?_cons_zero, List.getElem?_cons_succ, List.getElem?_nil, List.set_cons_zero, List.set_cons_succ, List.any_cons, List.any_nil, List.all_cons, List.all_nil,
  Option.map_some, Option.map_none, Option.bind_some, Option.bind_none, Nat.sub_self, Nat.zero_add, Nat.add_zero, Nat.reduceAdd, Nat.reduceSub, Nat.reduceEqDiff, Int.reduceToNat, Int.reducePow, Int.reduceLT, Int.reduceLE, Int.reduceAdd, Int.reduceSub, Int.reduceMul, Int.reduceNeg, Int.reduceBEq, Nat.reduceLT, Nat.reduceLeDiff, Nat.reducePow, gt_iff_lt, ge_iff_le, if_true, if_false, Bool.not_true, Bool.not_false, Bool.or_true, Bool.or_false, Bool.true_or, Bool.false_or, Bool.and_true, Bool.and_false, Bool.true_and, Bool.false_and,
  reduceCtorEq, decide_true, decide_false, Bool.false_eq_true, Bool.true_eq_false, decide_eq_true_eq, decide_eq_false_iff_not, eq_self, Bool.not_eq_true', Bool.not_eq_false', Bool.not_not, false_imp_iff, true_and, and_true, false_and, and_false, not_true_eq_false, not_false_eq_true, implies_true, true_implies, false_implies])
local macro_rules | `(tactic| walk_at "cj") => `(tactic| (repeat' (first | (refine And.intro ?_ ?_) | decide | omega | assumption)))

def rowOk (wide : Int) : T → Bool
  | .tup l => ((l.length : Int) == wide) && l.all isWhole
  | _ => false
def isGrid (high wide : Int) : T → Bool
  | .tup l => ((l.length : Int) == high) && l.all (rowOk wide)
  | _ => false
theorem c_is_grid {p : Prg} (h : Has p "is_grid" f_is_grid) (h1 : Has p "is_whole" f_is_whole) {n m d : Nat} {k : Nat} {t : T} {high wide : Int} {hs : Hs} (ht : Dt n m d t) (hn : n ≤ 1000000) : callK p (k + 2) "is_grid" [t, .int high, .int wide] hs = .ok (.val (.bl (isGrid high wide t))) hs := by
  rw [← wp_eq]
  refine w_run h rfl ?_
  unfold f_is_grid
  have hsz := size_ge
  walk_at "wk"
  cases t with
  | tup l =>
    obtain _ | d := d
    · exact ht.tup0.elim
    have hs' := Dt.tup.mp ht
    walk_at "wk"
    refine ⟨fun e0 => ?_, fun e0 => ?_⟩
    · simp [isGrid, e0]
    · have e0' : ((l.length : Int) == high) = true := e0
      refine f_forFindT (fun r => !rowOk wide r) (fun env h => h = hs ∧ ∃ s3, env = [Slot.val (T.tup l), Slot.val (T.int high), Slot.val (T.int wide), s3, Slot.no]) ⟨rfl, _, rfl⟩ ?_ ?_
      · rintro x hx env h2 ⟨rfl, s3, rfl⟩
        refine ⟨_, rfl, ?_⟩
        have dx := hs'.2 x hx
        have fin : rowOk wide x = false → rowOk wide x = false ∧ ((∃ y, y ∈ l ∧ rowOk wide y = false) → R.val (T.bl false) = R.val (T.bl (isGrid high wide (T.tup l)))) := by
          intro hr
          refine ⟨hr, fun _ => ?_⟩
          have : l.all (rowOk wide) = false := by
            rw [← Bool.not_eq_true, List.all_eq_true]
            intro z
            rw [z x hx] at hr
            cases hr
          simp [isGrid, this]
        walk_at "wk"
        cases x with
        | tup r =>
          obtain _ | d := d
          · exact dx.tup0.elim
          have hr := Dt.tup.mp dx
          walk_at "wk"
          refine ⟨fun e1 => fin ?_, fun e1 => ⟨by omega, rfl, ?_⟩⟩
          · simp only [rowOk]
            rw [show ((r.length : Int) == wide) = false from e1]
            rfl
          · have e1' : ((r.length : Int) == wide) = true := e1
            rw [show r = r.map id from by simp]
            refine w_lcmap (e := id) (g := fun x => .bl (isWhole x)) ?_ ?_
            · intro y hy
              rw [w_turn (by rfl)]
              walk_at "wk"
              rw [show (id y : T) = y from rfl, c_is_whole h1 (hr.2 y hy).ty]
              walk_at "wk"
            · walk_at "wk"
              rw [bls_map]
              walk_at "wk"
              rw [List.map_id, show (r.map fun c => isWhole c).all id = r.all isWhole from by rw [List.all_map]; rfl]
              refine ⟨fun e2 => ?_, fun e2 => ?_⟩
              · exact fin (by simp only [rowOk, e1', e2]; rfl)
              · exact ⟨⟨_, rfl⟩, by simp only [rowOk, e1', e2]; rfl⟩
        | non => walk_at "wk"; exact fin rfl
        | bl _ => walk_at "wk"; exact fin rfl
        | int _ => walk_at "wk"; exact fin rfl
        | str _ => walk_at "wk"; exact fin rfl
        | lst _ => walk_at "wk"; exact fin rfl
        | _ => exact absurd dx.f (by simp [fits])
      · rintro env h2 ⟨rfl, s3, rfl⟩ hall
        walk_at "wk"
        have : l.all (rowOk wide) = true := by
          rw [List.all_eq_true]
          intro x hx
          have := hall x hx
          simpa using this
        simp [isGrid, this, e0']
  | non => walk_at "wk"; rfl
  | bl _ => walk_at "wk"; rfl
  | int _ => walk_at "wk"; rfl
  | str _ => walk_at "wk"; rfl
  | lst _ => walk_at "wk"; rfl
  | _ => exact absurd ht.f (by simp [fits])
end Fx

namespace Fx
open PySem L2
local macro_rules | `(tactic| walk_at "wk") => `(tactic| simp only [↓w_con, ↓w_var, vV_v, vV_o, ↓w_bin, ↓w_not, ↓w_and, ↓w_or, ↓w_and1, ↓w_and2, ↓w_or1, ↓w_or2, ↓w_cmp, ↓w_chn, ↓w_ch1, ↓w_ch2, ↓w_isN, ↓w_ite, ↓w_tup, ↓w_lst, ↓w_slc, ↓w_call2, ↓w_bi, ↓w_isi, ↓w_idx, ↓w_neg, ↓w_mth, ↓w_ono, ↓w_oso, ↓w_cno, ↓w_cso, ↓w_nil, ↓w_cons, ↓w_pnil, ↓w_pcons, ↓w_ival, ↓w_rng1, ↓w_rng2, ↓w_zip, ↓w_zipk, ↓w_enu, ↓w_isB, ↓w_rev, ↓w_lrng1, ↓w_lrng2, vV_l, lV_i, r2V_i, zV_l, zV_t, ↓w_lc, ↓w_lc2,
  ↓w_ok, ↓w_exc, ↓w_stuck, ↓w_bind, ↓w_ofc, ↓w_ofs, ↓w_ofn, ↓w_ofm, ↓w_if, ↓w_sel, ↓f_nx, ↓f_rt, ↓f_exc, ↓f_stuck, ↓f_bind, ↓f_fl, ↓f_if, ↓f_sel, ↓f_nil, ↓f_cons, ↓f_pass, ↓f_expr, ↓f_asg, ↓f_asgO, ↓f_asgB, ↓f_ret, ↓f_retN, ↓f_ite, ↓f_forr,
  f_app, f_seto, w_ok, w_ofc, w_ofs, w_ofn, w_ofm, w_if, w_sel, f_sel, f_if,
  P.t_val, P.t_new, P.t_pk, P.k_val, P.k_new, P.k_pk, P.u_t, P.u_k, P.ret_val, P.ret_new, P.ret_pk, R.p_val, R.p_new, truthB_bl, Cell.t_lst,
  oB_add, oB_adds, oB_addb, oB_subb, fStr_b, nV_b, oB_addl, oB_addt, oB_sub, oB_mul, oB_mull, oB_div, oB_mod, oB_pow, oC_eq, oC_ne, oC_lt, oC_le, oC_gt, oC_ge, oC_in, oC_notin, oC_inl, oC_notinl, oC_lts, oC_gts, oC_les, oC_ges, oC_ltt, oC_ltl, oB_mult, fSort_l, fSort_t, fOrd_c, okEq_ii, okEq_bb, okEq_ss, eqT_ii, eqT_bb, eqT_ss, opI_l, opI_c, opI_t, opI_s, opS_l, opS_t, opS_s, iV_l, iV_t, iV_s, iV_c, nV_i, oV_i, rV_i, aV_v, aV_n, aO_n, aB_n, cV_v, cV_n,
  fLen_l, fLen_t, fLen_c, fLen_s, fAbs_i, fMin_i, fMax_i, fSum_l, fAll_l, fAny_l, fInt_i, fInt_b, fStr_i, fStr_s, fList_l, fList_t, fTuple_l, fTuple_t, mJoin_l, mUp_s, isI_non, isI_bl, isI_int, isI_str, isI_tup, isI_lst, itemsT_l, itemsT_t, itemsT_s, exV_some, exV_map, exV_if, atI_0, atI_1, atI_2, atI_3, atI_4,
  T.ty, Mt.ty, T.isNon, isTy, startE, wipeE, beq_self_eq_true,
  List.map_cons, List.map_nil, List.length_cons, List.length_nil, List.replicate, List.cons_append, List.nil_append, List.getElem?_cons_zero, List.getElem?_cons_succ, List.getElem?_nil, List.set_cons_zero, List.set_cons_succ, List.any_cons, List.any_nil, List.all_cons, List.all_nil,
  Option.map_some, Option.map_none, Option.bind_some, Option.bind_none, Nat.sub_self, Nat.zero_add, Nat.add_zero, Nat.reduceAdd, Nat.reduceSub, Nat.reduceEqDiff, Int.reduceToNat, Int.reducePow, Int.reduceLT, Int.reduceLE, Int.reduceAdd, Int.reduceSub, Int.reduceMul, Int.reduceNeg, Int.reduceBEq, Nat.reduceLT, Nat.reduceLeDiff, Nat.reducePow, gt_iff_lt, ge_iff_le, if_true, if_false, Bool.not_true, Bool.not_false, Bool.or_true, Bool.or_false, Bool.true_or, Bool.false_or, Bool.and_true, Bool.and_false, Bool.true_and, Bool.false_and,
  reduceCtorEq, decide_true, decide_false, Bool.false_eq_true, Bool.true_eq_false, decide_eq_true_eq, decide_eq_false_iff_not, eq_self, Bool.not_eq_true', Bool.not_eq_false', Bool.not_not, false_imp_iff, true_and, and_true, false_and, and_false, not_true_eq_false, not_false_eq_true, implies_true, true_implies, false_implies])
local macro_rules | `(tactic| walk_at "cj") => `(tactic| (repeat' (first | (refine And.intro ?_ ?_) | decide | omega | assumption)))

/-! ### pages and their signs -/
def okSg (q : Sg) : Prop := isName (.str q.1) = true ∧ 0 ≤ q.2 ∧ q.2 < 1000000
structure Pg (xs : List Sp) : Prop where
  ok : ∀ x ∈ xs, okSp x = true
  ad : adj goOn xs = false
theorem grow_eq {r : List Sp} {x : Sp} {q : Sg} : grow (r ++ [x]) q = if x.1 = q.1 ∧ x.2.2 = q.2 then r ++ [(q.1, x.2.1, q.2 + 1)] else r ++ [x] ++ [(q.1, q.2, q.2 + 1)] := by
  obtain ⟨b, f, e⟩ := x
  unfold grow
  have hg : (r ++ [(b, f, e)]).reverse = (b, f, e) :: r.reverse := by simp
  rw [hg]
  simp only [List.reverse_reverse, beq_iff_eq]
theorem adj_snoc {α : Type} {f : α → α → Bool} : ∀ {l : List α} {x y : α}, adj f (l ++ [x, y]) = (adj f (l ++ [x]) || f x y)
  | [], x, y => by simp [adj]
  | [a], x, y => by simp [adj]
  | a :: b :: l, x, y => by
    have ih := adj_snoc (f := f) (l := b :: l) (x := x) (y := y)
    simp only [List.cons_append] at ih ⊢
    rw [adj, adj, ih, Bool.or_assoc]
theorem signsOf_cons {x : Sp} {xs : List Sp} : signsOf (x :: xs) = signsFrom x (x.2.2 - x.2.1).toNat ++ signsOf xs := by simp [signsOf]
theorem signsOf_nil : signsOf [] = [] := rfl
theorem signsOf_append {xs ys : List Sp} : signsOf (xs ++ ys) = signsOf xs ++ signsOf ys := by simp [signsOf]
theorem signsOf_one {x : Sp} : signsOf [x] = signsFrom x (x.2.2 - x.2.1).toNat := by simp [signsOf]
theorem signsFrom_len {x : Sp} {n : Nat} : (signsFrom x n).length = n := by simp [signsFrom]
theorem signsFrom_get {x : Sp} {n i : Nat} (h : i < n) : (signsFrom x n)[i]? = some (x.1, x.2.1 + (i : Nat)) := by simp [signsFrom, h]
theorem longOf_cons {x : Sp} {xs : List Sp} : longOf (x :: xs) = (x.2.2 - x.2.1) + longOf xs := by simp [longOf]
theorem longOf_append {xs ys : List Sp} : longOf (xs ++ ys) = longOf xs + longOf ys := by
  induction xs with
  | nil => simp [longOf]
  | cons x r ih => rw [List.cons_append, longOf_cons, longOf_cons, ih]; omega
theorem longOf_signs {xs : List Sp} (h : ∀ x ∈ xs, x.2.1 ≤ x.2.2) : longOf xs = ((signsOf xs).length : Int) := by
  induction xs with
  | nil => rfl
  | cons x r ih =>
    rw [longOf_cons, signsOf_cons, List.length_append, signsFrom_len, ih (fun y hy => h y (by simp [hy]))]
    have := h x (by simp)
    omega
theorem okSp_le {xs : List Sp} (h : ∀ x ∈ xs, okSp x = true) : ∀ x ∈ xs, x.2.1 ≤ x.2.2 := fun x hx => by have := okSp_iff.mp (h x hx); omega
theorem okSp_bd {xs : List Sp} (h : ∀ x ∈ xs, okSp x = true) : ∀ x ∈ xs, 0 ≤ x.2.1 ∧ x.2.1 ≤ x.2.2 ∧ x.2.2 ≤ 10000000 := fun x hx => by have := okSp_iff.mp (h x hx); omega
theorem okSp_nam {xs : List Sp} (h : ∀ x ∈ xs, okSp x = true) : ∀ x ∈ xs, isName (.str x.1) = true := fun x hx => (okSp_iff.mp (h x hx)).1
theorem signsOf_ok {xs : List Sp} (h : ∀ x ∈ xs, okSp x = true) : ∀ q ∈ signsOf xs, okSg q := signsOf_nam h
theorem sp_len {xs : List Sp} (h : ∀ x ∈ xs, okSp x = true) : xs.length ≤ (signsOf xs).length := by
  induction xs with
  | nil => simp
  | cons x r ih =>
    have := okSp_iff.mp (h x (by simp))
    have e := ih (fun y hy => h y (by simp [hy]))
    rw [signsOf_cons, List.length_append, signsFrom_len, List.length_cons]
    omega
/-- a page grown sign by sign -/
theorem pageOf_pg : ∀ {l : List Sg}, (∀ q ∈ l, okSg q) → Pg (pageOf l) ∧ signsOf (pageOf l) = l := by
  refine fun {l} => snoc_ind (M := fun l => (∀ q ∈ l, okSg q) → Pg (pageOf l) ∧ signsOf (pageOf l) = l) (fun _ => ⟨⟨by simp [pageOf], rfl⟩, rfl⟩) (fun l q ih h => ?_) l
  obtain ⟨ip, is⟩ := ih fun x hx => h x (by simp [hx])
  have hq := h q (by simp)
  rw [pageOf_app]
  have one : okSp (q.1, q.2, q.2 + 1) = true := okSp_iff.mpr ⟨hq.1, hq.2.1, by show q.2 < q.2 + 1; omega, by have := hq.2.2; show q.2 + 1 ≤ 1000000; omega⟩
  generalize pageOf l = found at ip is
  rcases List.eq_nil_or_concat found with rfl | ⟨r, x, rfl⟩
  · have e : grow [] q = [(q.1, q.2, q.2 + 1)] := rfl
    rw [e]
    refine ⟨⟨by intro y hy; rw [List.mem_singleton.mp hy]; exact one, rfl⟩, ?_⟩
    rw [← is, signsOf_one]
    simp [signsFrom, signsOf, show (q.2 + 1 - q.2).toNat = 1 by omega]
  · rw [List.concat_eq_append] at ip is ⊢
    rw [grow_eq]
    have hx := okSp_iff.mp (ip.ok x (by simp))
    by_cases c : x.1 = q.1 ∧ x.2.2 = q.2
    · rw [if_pos c]
      have two : okSp (q.1, x.2.1, q.2 + 1) = true := okSp_iff.mpr ⟨hq.1, hx.2.1, by show x.2.1 < q.2 + 1; omega, by have := hq.2.2; show q.2 + 1 ≤ 1000000; omega⟩
      refine ⟨⟨fun y hy => ?_, ?_⟩, ?_⟩
      · rcases List.mem_append.mp hy with hy | hy
        · exact ip.ok y (by simp [hy])
        · rw [List.mem_singleton.mp hy]; exact two
      · rcases List.eq_nil_or_concat r with rfl | ⟨r2, z, rfl⟩
        · rfl
        · rw [List.concat_eq_append, List.append_assoc, List.singleton_append, adj_snoc, Bool.or_eq_false_iff]
          have := ip.ad
          rw [List.concat_eq_append, List.append_assoc, List.singleton_append, adj_snoc, Bool.or_eq_false_iff] at this
          refine ⟨this.1, ?_⟩
          have h2 := this.2
          unfold goOn at h2 ⊢
          rw [← c.1]
          exact h2
      · rw [signsOf_append, signsOf_one] at is ⊢
        rw [← is, List.append_assoc]
        congr 1
        have e1 : ((q.1, x.2.1, q.2 + 1).2.2 - (q.1, x.2.1, q.2 + 1).2.1 : Int).toNat = (x.2.2 - x.2.1).toNat + 1 := by
          show (q.2 + 1 - x.2.1).toNat = _
          omega
        rw [e1, signsFrom_succ]
        have e2 : signsFrom (q.1, x.2.1, q.2 + 1) (x.2.2 - x.2.1).toNat = signsFrom x (x.2.2 - x.2.1).toNat := by unfold signsFrom; rw [← c.1]
        rw [e2]
        have e3 : ((q.1, x.2.1, q.2 + 1).2.1 + ((x.2.2 - x.2.1).toNat : Nat) : Int) = q.2 := by
          show x.2.1 + ((x.2.2 - x.2.1).toNat : Int) = q.2
          omega
        rw [e3]
    · rw [if_neg c]
      refine ⟨⟨fun y hy => ?_, ?_⟩, ?_⟩
      · rcases List.mem_append.mp hy with hy | hy
        · exact ip.ok y hy
        · rw [List.mem_singleton.mp hy]; exact one
      · rw [List.append_assoc, List.singleton_append, adj_snoc, ip.ad, Bool.false_or]
        unfold goOn
        rw [Bool.and_eq_false_iff]
        by_cases c1 : x.1 = q.1
        · have c2 : ¬ x.2.2 = q.2 := fun z => c ⟨c1, z⟩
          exact .inr (by simpa using c2)
        · exact .inl (by simpa using c1)
      · rw [signsOf_append, is, signsOf_one]
        simp [signsFrom, show (q.2 + 1 - q.2).toNat = 1 by omega]
/-- a run of signs of one span -/
theorem pageOf_run {l : List Sg} {x : Sp} (hl : ∀ y, (pageOf l).getLast? = some y → goOn y x = false) : ∀ n : Nat, pageOf (l ++ signsFrom x (n + 1)) = pageOf l ++ [(x.1, x.2.1, x.2.1 + (n : Nat) + 1)]
  | 0 => by
    rw [show signsFrom x (0 + 1) = [(x.1, x.2.1)] from by simp [signsFrom], pageOf_app]
    rcases List.eq_nil_or_concat (pageOf l) with e | ⟨r, y, e⟩
    · rw [e]
      simp [grow]
    · rw [e] at hl ⊢
      rw [List.concat_eq_append] at hl ⊢
      have := hl y (by simp)
      rw [grow_eq, if_neg]
      · simp
      · rintro ⟨z1, z2⟩
        rw [goOn] at this
        simp [z1, z2] at this
  | n + 1 => by
    rw [signsFrom_succ, ← List.append_assoc, pageOf_app, pageOf_run hl n, grow_eq, if_pos ⟨rfl, by push_cast; omega⟩]
    first | done | (push_cast; done) | (push_cast; simp [Int.add_assoc])
theorem pageOf_canon : ∀ {xs : List Sp}, Pg xs → pageOf (signsOf xs) = xs := by
  refine fun {xs} => snoc_ind (M := fun xs => Pg xs → pageOf (signsOf xs) = xs) (fun _ => rfl) (fun xs x ih h => ?_) xs
  have hp : Pg xs := by
    refine ⟨fun y hy => h.ok y (by simp [hy]), ?_⟩
    rcases List.eq_nil_or_concat xs with rfl | ⟨r, z, rfl⟩
    · rfl
    · have := h.ad
      rw [List.concat_eq_append] at this ⊢
      rw [List.append_assoc, List.singleton_append, adj_snoc, Bool.or_eq_false_iff] at this
      exact this.1
  have hx := okSp_iff.mp (h.ok x (by simp))
  rw [signsOf_append, signsOf_one]
  obtain ⟨n, hn⟩ : ∃ n : Nat, (x.2.2 - x.2.1).toNat = n + 1 := ⟨(x.2.2 - x.2.1).toNat - 1, by omega⟩
  rw [hn, pageOf_run ?_ n, ih hp]
  · have : x.2.1 + (n : Int) + 1 = x.2.2 := by omega
    rw [this]
  · intro y hy
    rw [ih hp] at hy
    rcases List.eq_nil_or_concat xs with rfl | ⟨r, z, rfl⟩
    · simp at hy
    · rw [List.concat_eq_append] at hy
      simp at hy
      subst hy
      have := h.ad
      rw [List.concat_eq_append, List.append_assoc, List.singleton_append, adj_snoc, Bool.or_eq_false_iff] at this
      exact this.2
end Fx

namespace Fx
open PySem L2
local macro_rules | `(tactic| walk_at "wk") => `(tactic| simp only [↓w_con, ↓w_var, vV_v, vV_o, ↓w_bin, ↓w_not, ↓w_and, ↓w_or, ↓w_and1, ↓w_and2, ↓w_or1, ↓w_or2, ↓w_cmp, ↓w_chn, ↓w_ch1, ↓w_ch2, ↓w_isN, ↓w_ite, ↓w_tup, ↓w_lst, ↓w_slc, ↓w_call2, ↓w_bi, ↓w_isi, ↓w_idx, ↓w_neg, ↓w_mth, ↓w_ono, ↓w_oso, ↓w_cno, ↓w_cso, ↓w_nil, ↓w_cons, ↓w_pnil, ↓w_pcons, ↓w_ival, ↓w_rng1, ↓w_rng2, ↓w_zip, ↓w_zipk, ↓w_enu, ↓w_isB, ↓w_rev, ↓w_lrng1, ↓w_lrng2, vV_l, lV_i, r2V_i, zV_l, zV_t, ↓w_lc, ↓w_lc2,
  ↓w_ok, ↓w_exc, ↓w_stuck, ↓w_bind, ↓w_ofc, ↓w_ofs, ↓w_ofn, ↓w_ofm, ↓w_if, ↓w_sel, ↓f_nx, ↓f_rt, ↓f_exc, ↓f_stuck, ↓f_bind, ↓f_fl, ↓f_if, ↓f_sel, ↓f_nil, ↓f_cons, ↓f_pass, ↓f_expr, ↓f_asg, ↓f_asgO, ↓f_asgB, ↓f_ret, ↓f_retN, ↓f_ite, ↓f_forr,
  ↓f_app2, mV_o, mV_r, ceV_l, ↓f_seti2, mD_o, mD_r, xV_i, ↓f_aug, sV_v, augT_add, augT_sub, ↓f_asgT, tV_t, putEs_c, putEs_n, ↓f_par, twV, sz0, sz1, sz2, sz3, sz4, sz5, sz6, sz7, sz8, sz9, sz10, sz11, sz12, sz13, sz14, sz15, sz16, sz17, sz18, sz19, sz20, sz21, sz22, sz23, sz24, sz25, sz26, sz27, sz28, sz29, sz30, w_ok, w_ofc, w_ofs, w_ofn, w_ofm, w_if, w_sel, f_sel, f_if,
  P.t_val, P.t_new, P.t_pk, P.k_val, P.k_new, P.k_pk, P.u_t, P.u_k, P.ret_val, P.ret_new, P.ret_pk, R.p_val, R.p_new, truthB_bl, Cell.t_lst,
  oB_add, oB_adds, oB_addb, oB_subb, fStr_b, nV_b, oB_addl, oB_addt, oB_sub, oB_mul, oB_mull, oB_div, oB_mod, oB_pow, oC_eq, oC_ne, oC_lt, oC_le, oC_gt, oC_ge, oC_in, oC_notin, oC_inl, oC_notinl, oC_lts, oC_gts, oC_les, oC_ges, oC_ltt, oC_ltl, oB_mult, fSort_l, fSort_t, fOrd_c, okEq_ii, okEq_bb, okEq_ss, eqT_ii, eqT_bb, eqT_ss, opI_l, opI_c, opI_t, opI_s, opS_l, opS_t, opS_s, iV_l, iV_t, iV_s, iV_c, nV_i, oV_i, rV_i, aV_v, aV_n, aO_n, aB_n, cV_v, cV_n,
  fLen_l, fLen_t, fLen_c, fLen_s, fAbs_i, fMin_i, fMax_i, fSum_l, fAll_l, fAny_l, fInt_i, fInt_b, fStr_i, fStr_s, fList_l, fList_t, fTuple_l, fTuple_t, mJoin_l, mUp_s, isI_non, isI_bl, isI_int, isI_str, isI_tup, isI_lst, itemsT_l, itemsT_t, itemsT_s, exV_some, exV_map, exV_if, atI_0, atI_1, atI_2, atI_3, atI_4,
  T.ty, Mt.ty, T.isNon, isTy, startE, wipeE, beq_self_eq_true,
  List.map_cons, List.map_nil, List.length_cons, List.length_nil, List.replicate, List.cons_append, List.nil_append, List.getElem?_cons_zero, List.getElem?_cons_succ, List.getElem?_nil, List.set_cons_zero, List.set_cons_succ, List.any_cons, List.any_nil, List.all_cons, List.all_nil,
  Option.map_some, Option.map_none, Option.bind_some, Option.bind_none, Nat.sub_self, Nat.zero_add, Nat.add_zero, Nat.reduceAdd, Nat.reduceSub, Nat.reduceEqDiff, Int.reduceToNat, Int.reducePow, Int.reduceLT, Int.reduceLE, Int.reduceAdd, Int.reduceSub, Int.reduceMul, Int.reduceNeg, Int.reduceBEq, Nat.reduceLT, Nat.reduceLeDiff, Nat.reducePow, gt_iff_lt, ge_iff_le, if_true, if_false, Bool.not_true, Bool.not_false, Bool.or_true, Bool.or_false, Bool.true_or, Bool.false_or, Bool.and_true, Bool.and_false, Bool.true_and, Bool.false_and,
  reduceCtorEq, decide_true, decide_false, Bool.false_eq_true, Bool.true_eq_false, decide_eq_true_eq, decide_eq_false_iff_not, eq_self, Bool.not_eq_true', Bool.not_eq_false', Bool.not_not, false_imp_iff, true_and, and_true, false_and, and_false, not_true_eq_false, not_false_eq_true, implies_true, true_implies, false_implies])
local macro_rules | `(tactic| walk_at "cj") => `(tactic| (repeat' (first | (refine And.intro ?_ ?_) | decide | omega | assumption)))

/-! ### drawn pages -/
structure HasPg (p : Prg) : Prop extends HasDraw p where
  pag : Has p "_law_page" f__law_page
  sgs : Has p "_law_signs" f__law_signs
  pof : Has p "_law_page_of" f__law_page_of
theorem w_pg {p : Prg} (H : HasPg p) {k : Nat} {b : Nat} {most : Int} {h : Hs} {Q : R → Hs → Prop} {X : T → Hs → Prop} (hb : Bag h b) (m0 : 0 ≤ most) (m1 : most ≤ 1000)
    (q : ∀ (xs : List Sp) h', Pg xs → (signsOf xs).length ≤ 12 * most.toNat → Bag h' b → Up b h h' → Q (.val (.tup (xs.map sp))) h') : wp (callK p (k + 4) "_law_page" [.ref b, .int most] h) Q X := by
  refine w_page H.pag H.toHasDraw H.sgs H.pof hb m0 m1 fun ys h' hy hl hb' hu => ?_
  have hs := pageOf_pg (l := signsOf ys) (signsOf_ok fun y m => (hy y m).1)
  refine q _ h' hs.1 ?_ hb' hu
  rw [hs.2]
  have := signsOf_le (m := 12) (fun y m => (hy y m).2)
  omega
theorem c_signs {p : Prg} (h : Has p "_law_signs" f__law_signs) {k : Nat} {t : T} {xs : List Sp} {hs : Hs} (ht : itemsT t = some (xs.map sp)) (hx : ∀ x ∈ xs, okSp x = true) (hl : (signsOf xs).length ≤ 10000000) : callK p (k + 1) "_law_signs" [t] hs = .ok (.new (.lst ((signsOf xs).map sg))) hs :=
  c_law_signs h ht (okSp_bd hx) hl
theorem c_pageof {p : Prg} (h : Has p "_law_page_of" f__law_page_of) {k : Nat} {t : T} {l : List Sg} {hs : Hs} (ht : itemsT t = some (l.map sg)) (hn : ∀ q ∈ l, okSg q) (hl : l.length ≤ 10000000) : callK p (k + 1) "_law_page_of" [t] hs = .ok (.val (.tup ((pageOf l).map sp))) hs :=
  c_law_page_of h ht (fun q hq => (hn q hq).1) hl
theorem cut_map {α : Type} {e : α → T} {l : List α} {lo hi : Option Int} : cutT (l.map e) lo hi = ((l.drop (HT.sIx l.length 0 lo)).take (HT.sIx l.length l.length hi - HT.sIx l.length 0 lo)).map e := by
  unfold cutT
  rw [List.length_map, List.map_take, List.map_drop]
theorem cut_lo {α : Type} {e : α → T} {l : List α} {i : Int} (h0 : 0 ≤ i) : cutT (l.map e) (some i) none = (l.drop i.toNat).map e := by
  rw [cut_map]
  obtain ⟨n, rfl⟩ := Int.eq_ofNat_of_zero_le h0
  rw [HT.sIx_nat, HT.sIx_none]
  congr 1
  by_cases hn : n ≤ l.length
  · rw [Nat.min_eq_left hn]
    rw [List.take_of_length_le (by simp)]
    simp
  · rw [Nat.min_eq_right (by omega)]
    simp
    omega
theorem cut_hi {α : Type} {e : α → T} {l : List α} {i : Int} (h0 : 0 ≤ i) : cutT (l.map e) none (some i) = (l.take i.toNat).map e := by
  rw [cut_map]
  obtain ⟨n, rfl⟩ := Int.eq_ofNat_of_zero_le h0
  rw [HT.sIx_nat, HT.sIx_none]
  congr 1
  by_cases hn : n ≤ l.length
  · rw [Nat.min_eq_left hn]; simp
  · rw [Nat.min_eq_right (by omega), List.take_of_length_le (by simp), Int.toNat_natCast, List.take_of_length_le (show l.length ≤ n by omega)]
    rfl
theorem cut_lohi {α : Type} {e : α → T} {l : List α} {i j : Int} (h0 : 0 ≤ i) (h1 : i ≤ j) : cutT (l.map e) (some i) (some j) = ((l.take j.toNat).drop i.toNat).map e := by
  rw [cut_map]
  obtain ⟨n, rfl⟩ := Int.eq_ofNat_of_zero_le h0
  obtain ⟨m, rfl⟩ := Int.eq_ofNat_of_zero_le (show 0 ≤ j by omega)
  rw [HT.sIx_nat, HT.sIx_nat]
  congr 1
  have hnm : n ≤ m := by omega
  simp only [Int.toNat_natCast]
  rw [List.drop_take]
  by_cases hm : m ≤ l.length
  · rw [Nat.min_eq_left hm, Nat.min_eq_left (by omega)]
  · rw [Nat.min_eq_right (show l.length ≤ m by omega)]
    by_cases hn : n ≤ l.length
    · rw [Nat.min_eq_left hn]
      rw [List.take_of_length_le (by simp), List.take_of_length_le (by simp; omega)]
    · rw [Nat.min_eq_right (show l.length ≤ n by omega)]
      rw [List.drop_of_length_le (Nat.le_refl _), List.drop_of_length_le (show l.length ≤ n by omega)]
      simp
/-- a page like another one -/
theorem w_likes {p : Prg} (hp : Has p "_law_likes" f__law_likes) (H : HasPg p) {k : Nat} {b : Nat} {xs : List Sp} {h : Hs} {Q : R → Hs → Prop} {X : T → Hs → Prop} (hb : Bag h b) (hx : ∀ x ∈ xs, okSp x = true) (hl : (signsOf xs).length ≤ 100000)
    (q : ∀ (ys : List Sp) h', Pg ys → (signsOf ys).length ≤ (signsOf xs).length + 48 → Bag h' b → Up b h h' → Q (.val (.tup (ys.map sp))) h') : wp (callK p (k + 4) "_law_likes" [.ref b, .tup (xs.map sp)] h) Q X := by
  refine w_run hp rfl ?_
  unfold f__law_likes
  have hsz := size_ge
  walk_at "wk"
  rw [show k + 3 = (k + 2) + 1 from rfl, c_signs H.sgs rfl hx (by omega)]
  walk_at "wk"
  refine w_take H.take hb (by decide) (by decide) ?_
  intro r h1 r0 r1 hb1 hu1
  walk_at "wk"
  refine ⟨by simp only [smallI, decide_eq_true_eq]; omega, ?_⟩
  refine f_forRange (fun n env h' => ∃ (l : List Sg) (s3 s4 s5 s6 s7 : Slot), env = [Slot.val (.ref b), Slot.val (.tup (xs.map sp)), Slot.val (.lst (l.map sg)), s3, s4, s5, s6, s7] ∧ (∀ x ∈ l, okSg x) ∧ l.length ≤ (signsOf xs).length + 12 * n ∧ Bag h' b ∧ Up b h h') ⟨signsOf xs, _, _, _, _, _, rfl, signsOf_ok hx, by omega, hb1, hu1⟩ ?_ ?_
  · rintro n hn env h2 ⟨l, s3, s4, s5, s6, s7, rfl, ho, hll, hb2, hu2⟩
    refine ⟨_, rfl, ?_⟩
    walk_at "wk"
    rw [List.length_map]
    refine w_take H.take hb2 (by omega) (by omega) ?_
    intro fi h3 f0 f1 hb3 hu3
    walk_at "wk"
    rw [List.length_map]
    refine w_take H.take hb3 (by omega) (by omega) ?_
    intro d h4 d0 d1 hb4 hu4
    walk_at "wk"
    rw [List.length_map]
    refine w_take H.take hb4 (by omega) (by omega) ?_
    intro at_ h5 a0 a1 hb5 hu5
    walk_at "wk"
    refine w_take H.take hb5 (by decide) (by decide) ?_
    intro way h6 w0 w1 hb6 hu6
    walk_at "wk"
    have hu : Up b h h6 := (((hu2.trans hu3).trans hu4).trans hu5).trans hu6
    have d2 : d ≤ 12 ∧ fi + d ≤ l.length := by omega
    have mt : ∀ {m : Nat} {x : Sg}, x ∈ l.take m → okSg x := fun hm => ho _ (List.mem_of_mem_take hm)
    have md : ∀ {m : Nat} {x : Sg}, x ∈ l.drop m → okSg x := fun hm => ho _ (List.mem_of_mem_drop hm)
    have mtd : ∀ {m j : Nat} {x : Sg}, x ∈ (l.take m).drop j → okSg x := fun hm => ho _ (List.mem_of_mem_take (List.mem_of_mem_drop hm))
    refine ⟨fun e => ?_, fun e => ⟨fun e2 => ?_, fun e2 => ⟨fun e3 => ?_, fun e3 => ?_⟩⟩⟩
    · rw [cut_hi f0, cut_lo (by omega), ← List.map_append]
      refine ⟨by simp; omega, _, _, _, _, _, _, rfl, ?_, by simp; omega, hb6, hu⟩
      intro x hxm
      rcases List.mem_append.mp hxm with hxm | hxm
      · exact mt hxm
      · exact md hxm
    · rw [cut_hi a0, cut_lo a0, cut_lohi f0 (by omega), ← List.map_append, ← List.map_append]
      refine ⟨by simp; omega, by simp; omega, _, _, _, _, _, _, rfl, ?_, by simp; omega, hb6, hu⟩
      intro x hxm
      simp only [List.mem_append] at hxm
      rcases hxm with (hxm | hxm) | hxm
      · exact mt hxm
      · exact mtd hxm
      · exact md hxm
    · rw [cut_lo (by omega), cut_hi f0, cut_lohi f0 (by omega), ← List.map_append, ← List.map_append]
      refine ⟨by simp; omega, by simp; omega, _, _, _, _, _, _, rfl, ?_, by simp; omega, hb6, hu⟩
      intro x hxm
      simp only [List.mem_append] at hxm
      rcases hxm with (hxm | hxm) | hxm
      · exact mtd hxm
      · exact mt hxm
      · exact md hxm
    · refine w_span H.span H.off H.take H.name hb6 ?_
      intro s i j h7 na i0 ij j1 jl hb7 hu7
      have okz : ∀ y ∈ [((s, i, j) : Sp)], okSp y = true := by intro y hy; rw [List.mem_singleton.mp hy]; exact okSp_iff.mpr ⟨na, i0, ij, j1⟩
      have e1 := signsOf_le (m := 12) (ys := [(s, i, j)]) (by intro y hy; rw [List.mem_singleton.mp hy]; exact jl)
      simp only [List.length_singleton] at e1
      walk_at "wk"
      rw [show k + 3 = (k + 2) + 1 from rfl, c_signs H.sgs (xs := [(s, i, j)]) rfl okz (by omega)]
      walk_at "wk"
      rw [cut_hi a0, cut_lo a0, ← List.map_append, ← List.map_append]
      refine ⟨by simp; omega, by simp; omega, _, _, _, _, _, _, rfl, ?_, by simp; omega, hb7, hu.trans hu7⟩
      intro x hxm
      simp only [List.mem_append] at hxm
      rcases hxm with (hxm | hxm) | hxm
      · exact mt hxm
      · exact signsOf_ok okz x hxm
      · exact md hxm
  · rintro env h2 ⟨l, s3, s4, s5, s6, s7, rfl, ho, hll, hb2, hu2⟩
    walk_at "wk"
    rw [show k + 3 = (k + 2) + 1 from rfl, c_pageof H.pof (l := l) rfl ho (by omega)]
    walk_at "wk"
    have hs := pageOf_pg ho
    exact q _ h2 hs.1 (by rw [hs.2]; omega) hb2 hu2
end Fx

namespace Fx
open PySem L2
local macro_rules | `(tactic| walk_at "wk") => `(tactic| simp only [↓w_con, ↓w_var, vV_v, vV_o, ↓w_bin, ↓w_not, ↓w_and, ↓w_or, ↓w_and1, ↓w_and2, ↓w_or1, ↓w_or2, ↓w_cmp, ↓w_chn, ↓w_ch1, ↓w_ch2, ↓w_isN, ↓w_ite, ↓w_tup, ↓w_lst, ↓w_slc, ↓w_call2, ↓w_bi, ↓w_isi, ↓w_idx, ↓w_neg, ↓w_mth, ↓w_ono, ↓w_oso, ↓w_cno, ↓w_cso, ↓w_nil, ↓w_cons, ↓w_pnil, ↓w_pcons, ↓w_ival, ↓w_rng1, ↓w_rng2, ↓w_zip, ↓w_zipk, ↓w_enu, ↓w_isB, ↓w_rev, ↓w_lrng1, ↓w_lrng2, vV_l, lV_i, r2V_i, zV_l, zV_t, ↓w_lc, ↓w_lc2,
  ↓w_ok, ↓w_exc, ↓w_stuck, ↓w_bind, ↓w_ofc, ↓w_ofs, ↓w_ofn, ↓w_ofm, ↓w_if, ↓w_sel, ↓f_nx, ↓f_rt, ↓f_exc, ↓f_stuck, ↓f_bind, ↓f_fl, ↓f_if, ↓f_sel, ↓f_nil, ↓f_cons, ↓f_pass, ↓f_expr, ↓f_asg, ↓f_asgO, ↓f_asgB, ↓f_ret, ↓f_retN, ↓f_ite, ↓f_forr,
  ↓f_app2, mV_o, mV_r, ceV_l, ↓f_seti2, mD_o, mD_r, xV_i, ↓f_aug, sV_v, augT_add, augT_sub, ↓f_asgT, tV_t, putEs_c, putEs_n, ↓f_par, twV, sz0, sz1, sz2, sz3, sz4, sz5, sz6, sz7, sz8, sz9, sz10, sz11, sz12, sz13, sz14, sz15, sz16, sz17, sz18, sz19, sz20, sz21, sz22, sz23, sz24, sz25, sz26, sz27, sz28, sz29, sz30, w_ok, w_ofc, w_ofs, w_ofn, w_ofm, w_if, w_sel, f_sel, f_if,
  P.t_val, P.t_new, P.t_pk, P.k_val, P.k_new, P.k_pk, P.u_t, P.u_k, P.ret_val, P.ret_new, P.ret_pk, R.p_val, R.p_new, truthB_bl, Cell.t_lst,
  oB_add, oB_adds, oB_addb, oB_subb, fStr_b, nV_b, oB_addl, oB_addt, oB_sub, oB_mul, oB_mull, oB_div, oB_mod, oB_pow, oC_eq, oC_ne, oC_lt, oC_le, oC_gt, oC_ge, oC_in, oC_notin, oC_inl, oC_notinl, oC_lts, oC_gts, oC_les, oC_ges, oC_ltt, oC_ltl, oB_mult, fSort_l, fSort_t, fOrd_c, okEq_ii, okEq_bb, okEq_ss, eqT_ii, eqT_bb, eqT_ss, opI_l, opI_c, opI_t, opI_s, opS_l, opS_t, opS_s, iV_l, iV_t, iV_s, iV_c, nV_i, oV_i, rV_i, aV_v, aV_n, aO_n, aB_n, cV_v, cV_n,
  fLen_l, fLen_t, fLen_c, fLen_s, fAbs_i, fMin_i, fMax_i, fSum_l, fAll_l, fAny_l, fInt_i, fInt_b, fStr_i, fStr_s, fList_l, fList_t, fTuple_l, fTuple_t, mJoin_l, mUp_s, isI_non, isI_bl, isI_int, isI_str, isI_tup, isI_lst, itemsT_l, itemsT_t, itemsT_s, exV_some, exV_map, exV_if, atI_0, atI_1, atI_2, atI_3, atI_4,
  T.ty, Mt.ty, T.isNon, isTy, startE, wipeE, beq_self_eq_true,
  List.map_cons, List.map_nil, List.length_cons, List.length_nil, List.replicate, List.cons_append, List.nil_append, List.getElem?_cons_zero, List.getElem?_cons_succ, List.getElem?_nil, List.set_cons_zero, List.set_cons_succ, List.any_cons, List.any_nil, List.all_cons, List.all_nil,
  Option.map_some, Option.map_none, Option.bind_some, Option.bind_none, Nat.sub_self, Nat.zero_add, Nat.add_zero, Nat.reduceAdd, Nat.reduceSub, Nat.reduceEqDiff, Int.reduceToNat, Int.reducePow, Int.reduceLT, Int.reduceLE, Int.reduceAdd, Int.reduceSub, Int.reduceMul, Int.reduceNeg, Int.reduceBEq, Nat.reduceLT, Nat.reduceLeDiff, Nat.reducePow, gt_iff_lt, ge_iff_le, if_true, if_false, Bool.not_true, Bool.not_false, Bool.or_true, Bool.or_false, Bool.true_or, Bool.false_or, Bool.and_true, Bool.and_false, Bool.true_and, Bool.false_and,
  reduceCtorEq, decide_true, decide_false, Bool.false_eq_true, Bool.true_eq_false, decide_eq_true_eq, decide_eq_false_iff_not, eq_self, Bool.not_eq_true', Bool.not_eq_false', Bool.not_not, false_imp_iff, true_and, and_true, false_and, and_false, not_true_eq_false, not_false_eq_true, implies_true, true_implies, false_implies])
local macro_rules | `(tactic| walk_at "cj") => `(tactic| (repeat' (first | (refine And.intro ?_ ?_) | decide | omega | assumption)))

/-! ### where a span stands -/
abbrev Tr := Int × Int × Int
def tr (x : Tr) : T := .tup [.int x.1, .int x.2.1, .int x.2.2]
def spot1 (a : Int) (x s : Sp) : List Tr := if x.1 = s.1 ∧ max x.2.1 s.2.1 < min x.2.2 s.2.2 then [(a + max x.2.1 s.2.1 - x.2.1, max x.2.1 s.2.1, min x.2.2 s.2.2 - max x.2.1 s.2.1)] else []
def spotsFrom (s : Sp) : Int → List Sp → List Tr
  | _, [] => []
  | a, x :: r => spot1 a x s ++ spotsFrom s (a + (x.2.2 - x.2.1)) r
theorem spotsFrom_app {s : Sp} : ∀ {xs ys : List Sp} {a : Int}, spotsFrom s a (xs ++ ys) = spotsFrom s a xs ++ spotsFrom s (a + longOf xs) ys
  | [], ys, a => by simp [spotsFrom, longOf]
  | x :: xs, ys, a => by
    rw [List.cons_append, spotsFrom, spotsFrom, spotsFrom_app, longOf_cons, List.append_assoc]
    congr 3
    omega
theorem spot1_len {a : Int} {x s : Sp} : (spot1 a x s).length ≤ 1 := by unfold spot1; split <;> simp
theorem spotsFrom_len {s : Sp} : ∀ {xs : List Sp} {a : Int}, (spotsFrom s a xs).length ≤ xs.length
  | [], _ => by simp [spotsFrom]
  | x :: xs, a => by
    have := @spotsFrom_len s xs (a + (x.2.2 - x.2.1))
    have := @spot1_len a x s
    rw [spotsFrom, List.length_append, List.length_cons]
    omega
theorem longOf_snoc {xs : List Sp} {x : Sp} : longOf (xs ++ [x]) = longOf xs + (x.2.2 - x.2.1) := by rw [longOf_append]; simp [longOf]
theorem done_len {α : Type} {xs done rest : List α} {x : α} (e : xs = done ++ x :: rest) : done.length + 1 ≤ xs.length := by have := congrArg List.length e; simp at this; omega
theorem spots_step {s x : Sp} {xs : List Sp} : spotsFrom s 0 (xs ++ [x]) = spotsFrom s 0 xs ++ spot1 (longOf xs) x s := by rw [spotsFrom_app]; simp [spotsFrom]
theorem c_spots {p : Prg} (h : Has p "spots" f_spots) {k : Nat} {xs : List Sp} {s : Sp} {hs : Hs} (hx : ∀ x ∈ xs, isName (.str x.1) = true) (hn : isName (.str s.1) = true) (hl : xs.length ≤ 1000000) : callK p (k + 1) "spots" [.tup (xs.map sp), sp s] hs = .ok (.new (.lst ((spotsFrom s 0 xs).map tr))) hs := by
  rw [← wp_eq]
  refine w_run h rfl ?_
  unfold f_spots
  have hsz := size_ge
  walk_at "wk"
  refine f_forMap (fun done env h => h = hs ∧ ∃ s4 s5 s6 s7 s8, env = [Slot.val (.tup (xs.map sp)), Slot.val (sp s), Slot.own (.lst ((spotsFrom s 0 done).map tr)), Slot.val (.int (longOf done)), s4, s5, s6, s7, s8]) ⟨rfl, _, _, _, _, _, rfl⟩ ?_ ?_
  · rintro done x rest ex env h1 ⟨rfl, s4, s5, s6, s7, s8, rfl⟩
    have hxn := name_ok (hx x (by rw [ex]; simp))
    have hsn := name_ok hn
    have hdl := done_len ex
    have hsl := @spotsFrom_len s done 0
    refine ⟨_, rfl, ?_⟩
    rw [spots_step, longOf_snoc, List.map_append]
    generalize spotsFrom s 0 done = found at hsl
    generalize longOf done = at_
    obtain ⟨xa, xf, xl⟩ := x
    obtain ⟨sa, sf, sl⟩ := s
    unfold sp
    walk_at "wk"
    rw [hxn, hsn]
    refine ⟨rfl, fun e => ⟨fun e2 => ?_, fun e2 => ?_⟩, fun e => ?_⟩
    · rw [show spot1 at_ (xa, xf, xl) (sa, sf, sl) = [(at_ + max xf sf - xf, max xf sf, min xl sl - max xf sf)] from if_pos ⟨by simpa using e, e2⟩]
      exact ⟨by simp; omega, _, _, _, _, _, rfl⟩
    · rw [show spot1 at_ (xa, xf, xl) (sa, sf, sl) = [] from if_neg fun z => by have := z.2; simp only at this; omega, List.map_nil, List.append_nil]
      exact ⟨_, _, _, _, _, rfl⟩
    · rw [show spot1 at_ (xa, xf, xl) (sa, sf, sl) = [] from if_neg fun z => by have z1 : xa = sa := z.1; simp [z1] at e, List.map_nil, List.append_nil]
      exact ⟨_, _, _, _, _, rfl⟩
  · rintro env h1 ⟨rfl, s4, s5, s6, s7, s8, rfl⟩
    walk_at "wk"
/-- what two pages share, unsorted -/
def shareOne (a : Int) (x : Sp) (ys : List Sp) : List Tr := (spotsFrom x 0 ys).map fun t => (a + t.2.1 - x.2.1, t.1, t.2.2)
def shareFrom (ys : List Sp) : Int → List Sp → List Tr
  | _, [] => []
  | a, x :: r => shareOne a x ys ++ shareFrom ys (a + (x.2.2 - x.2.1)) r
theorem shareFrom_app {zs : List Sp} : ∀ {xs ys : List Sp} {a : Int}, shareFrom zs a (xs ++ ys) = shareFrom zs a xs ++ shareFrom zs (a + longOf xs) ys
  | [], ys, a => by simp [shareFrom, longOf]
  | x :: xs, ys, a => by
    rw [List.cons_append, shareFrom, shareFrom, shareFrom_app, longOf_cons, List.append_assoc]
    congr 3
    omega
theorem share_step {zs : List Sp} {x : Sp} {xs : List Sp} : shareFrom zs 0 (xs ++ [x]) = shareFrom zs 0 xs ++ shareOne (longOf xs) x zs := by rw [shareFrom_app]; simp [shareFrom]
theorem shareOne_len {a : Int} {x : Sp} {ys : List Sp} : (shareOne a x ys).length ≤ ys.length := by unfold shareOne; rw [List.length_map]; exact spotsFrom_len
theorem shareFrom_len {ys : List Sp} : ∀ {xs : List Sp} {a : Int}, (shareFrom ys a xs).length ≤ xs.length * ys.length
  | [], _ => by simp [shareFrom]
  | x :: xs, a => by
    have h1 := @shareFrom_len ys xs (a + (x.2.2 - x.2.1))
    have h2 := @shareOne_len a x ys
    rw [shareFrom, List.length_append, List.length_cons, Nat.succ_mul]
    omega
theorem alike_tr (x y : Tr) : PySem.W.alike (tr x).pd (tr y).pd = true := by simp [tr, T.pd, pds, PySem.W.alike, PySem.W.alikeAll]
theorem okSort_map {α : Type} {e : α → T} {l : List α} (h1 : ∀ x ∈ l, (e x).isD = true) (h2 : ∀ x ∈ l, ∀ y ∈ l, PySem.W.alike (e x).pd (e y).pd = true) (h3 : (∀ x ∈ l, isTup1 (e x) = true) ∨ ∀ x ∈ l, noTup (e x) = true) (h4 : ∀ x ∈ l, (e x).dep ≤ 60) (h5 : l.length ≤ sizeLine) : okSort (l.map e) = true := by
  unfold okSort
  simp only [Bool.and_eq_true, decide_eq_true_eq, List.length_map, List.all_map, List.all_eq_true, Function.comp, Bool.or_eq_true, h5, and_true]
  refine ⟨⟨⟨allD_iff.mpr ?_, fun x hx y hy => h2 x hx y hy⟩, h3⟩, depL_iff.mpr ?_⟩
  · intro t ht; obtain ⟨x, hx, rfl⟩ := List.mem_map.mp ht; exact h1 x hx
  · intro t ht; obtain ⟨x, hx, rfl⟩ := List.mem_map.mp ht; exact h4 x hx
theorem okSort_tr {l : List Tr} (h : l.length ≤ sizeLine) : okSort (l.map tr) = true :=
  okSort_map (fun _ _ => by simp [tr, T.isD, allD]) (fun _ _ _ _ => alike_tr _ _) (.inl fun _ _ => rfl) (fun _ _ => by simp [tr, T.dep, depL]) h
theorem c_shared {p : Prg} (h : Has p "shared" f_shared) (h1 : Has p "spots" f_spots) {k : Nat} {xs ys : List Sp} {hs : Hs} (hx : ∀ x ∈ xs, isName (.str x.1) = true) (hy : ∀ x ∈ ys, isName (.str x.1) = true) (hl : xs.length ≤ 1000) (hl2 : ys.length ≤ 1000) : callK p (k + 2) "shared" [.tup (xs.map sp), .tup (ys.map sp)] hs = .ok (.new (.lst (sortT ((shareFrom ys 0 xs).map tr)))) hs := by
  rw [← wp_eq]
  refine w_run h rfl ?_
  unfold f_shared
  have hsz := size_ge
  walk_at "wk"
  refine f_forMap (fun done env h => h = hs ∧ ∃ s4 s5 s6 s7, env = [Slot.val (.tup (xs.map sp)), Slot.val (.tup (ys.map sp)), Slot.own (.lst ((shareFrom ys 0 done).map tr)), Slot.val (.int (longOf done)), s4, s5, s6, s7]) ⟨rfl, _, _, _, _, rfl⟩ ?_ ?_
  · rintro done x rest ex env h2 ⟨rfl, s4, s5, s6, s7, rfl⟩
    have hdl := done_len ex
    have hsl := @shareFrom_len ys done 0
    have hxn := hx x (by rw [ex]; simp)
    refine ⟨_, rfl, ?_⟩
    walk_at "wk"
    rw [c_spots h1 hy hxn (by omega)]
    walk_at "wk"
    have hb : (shareFrom ys 0 done).length ≤ 1000 * 1000 := Nat.le_trans hsl (Nat.mul_le_mul (by omega) hl2)
    have hb2 := @spotsFrom_len x ys 0
    refine f_forMap (fun d2 env h => h = h2 ∧ ∃ s5 s6 s7, env = [Slot.val (.tup (xs.map sp)), Slot.val (.tup (ys.map sp)), Slot.own (.lst ((shareFrom ys 0 done ++ d2.map fun t => (longOf done + t.2.1 - x.2.1, t.1, t.2.2)).map tr)), Slot.val (.int (longOf done)), Slot.val (sp x), s5, s6, s7]) ⟨rfl, s5, s6, s7, by simp⟩ ?_ ?_
    · rintro d2 t r2 e2 env h3 ⟨rfl, s5, s6, s7, rfl⟩
      have hd2 := done_len e2
      refine ⟨_, rfl, ?_⟩
      rw [List.map_append, List.map_append, List.map_append, List.map_append, ← List.append_assoc]
      unfold sp
      walk_at "wk"
      exact ⟨by simp; omega, _, _, _, rfl⟩
    · rintro env h3 ⟨rfl, s5, s6, s7, rfl⟩
      rw [share_step, longOf_snoc]
      unfold sp
      walk_at "wk"
      exact ⟨_, _, _, _, rfl⟩
  · rintro env h2 ⟨rfl, s4, s5, s6, s7, rfl⟩
    have hsl := @shareFrom_len ys xs 0
    have hb : (shareFrom ys 0 xs).length ≤ 1000 * 1000 := Nat.le_trans hsl (Nat.mul_le_mul hl hl2)
    walk_at "wk"
    exact okSort_tr (by omega)
mutual
theorem eqT_self : ∀ t : T, t.isD = true → eqT t t = true
  | .non, _ => rfl
  | .bl _, _ => by simp [eqT]
  | .int _, _ => by simp [eqT]
  | .str _, _ => by simp [eqT]
  | .tup l, h => by simp only [eqT]; exact eqL_self l (by simpa [T.isD] using h)
  | .lst l, h => by simp only [eqT]; exact eqL_self l (by simpa [T.isD] using h)
  | .dk _ _, h => by simp [T.isD] at h
  | .dt _ _, h => by simp [T.isD] at h
  | .set _, h => by simp [T.isD] at h
  | .exc _ _, h => by simp [T.isD] at h
  | .scr _, h => by simp [T.isD] at h
  | .ref _, h => by simp [T.isD] at h
theorem eqL_self : ∀ l : List T, allD l = true → eqL l l = true
  | [], _ => rfl
  | x :: l, h => by
    simp only [allD, Bool.and_eq_true] at h
    simp only [eqL, eqT_self x h.1, eqL_self l h.2, Bool.and_self]
end
theorem sortT_mem {l : List T} {t : T} : t ∈ sortT l ↔ t ∈ l := by unfold sortT; rw [List.mem_mergeSort]
theorem sortT_len {l : List T} : (sortT l).length = l.length := by unfold sortT; rw [List.length_mergeSort]
theorem sort_tr_isD {l : List Tr} : (T.lst (sortT (l.map tr))).isD = true := by
  simp only [T.isD]
  rw [allD_iff]
  intro t ht
  obtain ⟨x, hx, rfl⟩ := List.mem_map.mp (sortT_mem.mp ht)
  simp [tr, T.isD, allD]
theorem sort_tr_dep {l : List Tr} : (T.lst (sortT (l.map tr))).dep ≤ 2 := by
  simp only [T.dep]
  have : depL (sortT (l.map tr)) ≤ 1 := depL_iff.mpr fun t ht => by
    obtain ⟨x, hx, rfl⟩ := List.mem_map.mp (sortT_mem.mp ht)
    simp [tr, T.dep, depL]
  omega
theorem okEq_self {t : T} (h : t.isD = true) (d : t.dep ≤ 64) : okEq t t = true := by
  unfold okEq
  simp [h, d]
end Fx

namespace Fx
open PySem L2
local macro_rules | `(tactic| walk_at "wk") => `(tactic| simp only [↓w_con, ↓w_var, vV_v, vV_o, ↓w_bin, ↓w_not, ↓w_and, ↓w_or, ↓w_and1, ↓w_and2, ↓w_or1, ↓w_or2, ↓w_cmp, ↓w_chn, ↓w_ch1, ↓w_ch2, ↓w_isN, ↓w_ite, ↓w_tup, ↓w_lst, ↓w_slc, ↓w_call2, ↓w_bi, ↓w_isi, ↓w_idx, ↓w_neg, ↓w_mth, ↓w_ono, ↓w_oso, ↓w_cno, ↓w_cso, ↓w_nil, ↓w_cons, ↓w_pnil, ↓w_pcons, ↓w_ival, ↓w_rng1, ↓w_rng2, ↓w_zip, ↓w_zipk, ↓w_enu, ↓w_isB, ↓w_rev, ↓w_lrng1, ↓w_lrng2, vV_l, lV_i, r2V_i, zV_l, zV_t, ↓w_lc, ↓w_lc2,
  ↓w_ok, ↓w_exc, ↓w_stuck, ↓w_bind, ↓w_ofc, ↓w_ofs, ↓w_ofn, ↓w_ofm, ↓w_if, ↓w_sel, ↓f_nx, ↓f_rt, ↓f_exc, ↓f_stuck, ↓f_bind, ↓f_fl, ↓f_if, ↓f_sel, ↓f_nil, ↓f_cons, ↓f_pass, ↓f_expr, ↓f_asg, ↓f_asgO, ↓f_asgB, ↓f_ret, ↓f_retN, ↓f_ite, ↓f_forr,
  ↓f_app2, mV_o, mV_r, ceV_l, ↓f_seti2, mD_o, mD_r, xV_i, ↓f_aug, sV_v, augT_add, augT_sub, ↓f_asgT, tV_t, putEs_c, putEs_n, ↓f_par, twV, sz0, sz1, sz2, sz3, sz4, sz5, sz6, sz7, sz8, sz9, sz10, sz11, sz12, sz13, sz14, sz15, sz16, sz17, sz18, sz19, sz20, sz21, sz22, sz23, sz24, sz25, sz26, sz27, sz28, sz29, sz30, w_ok, w_ofc, w_ofs, w_ofn, w_ofm, w_if, w_sel, f_sel, f_if,
  P.t_val, P.t_new, P.t_pk, P.k_val, P.k_new, P.k_pk, P.u_t, P.u_k, P.ret_val, P.ret_new, P.ret_pk, R.p_val, R.p_new, truthB_bl, Cell.t_lst,
  oB_add, oB_adds, oB_addb, oB_subb, fStr_b, nV_b, oB_addl, oB_addt, oB_sub, oB_mul, oB_mull, oB_div, oB_mod, oB_pow, oC_eq, oC_ne, oC_lt, oC_le, oC_gt, oC_ge, oC_in, oC_notin, oC_inl, oC_notinl, oC_lts, oC_gts, oC_les, oC_ges, oC_ltt, oC_ltl, oB_mult, fSort_l, fSort_t, fOrd_c, okEq_ii, okEq_bb, okEq_ss, eqT_ii, eqT_bb, eqT_ss, opI_l, opI_c, opI_t, opI_s, opS_l, opS_t, opS_s, iV_l, iV_t, iV_s, iV_c, nV_i, oV_i, rV_i, aV_v, aV_n, aO_n, aB_n, cV_v, cV_n,
  fLen_l, fLen_t, fLen_c, fLen_s, fAbs_i, fMin_i, fMax_i, fSum_l, fAll_l, fAny_l, fInt_i, fInt_b, fStr_i, fStr_s, fList_l, fList_t, fTuple_l, fTuple_t, mJoin_l, mUp_s, isI_non, isI_bl, isI_int, isI_str, isI_tup, isI_lst, itemsT_l, itemsT_t, itemsT_s, exV_some, exV_map, exV_if, atI_0, atI_1, atI_2, atI_3, atI_4,
  T.ty, Mt.ty, T.isNon, isTy, startE, wipeE, beq_self_eq_true,
  List.map_cons, List.map_nil, List.length_cons, List.length_nil, List.replicate, List.cons_append, List.nil_append, List.getElem?_cons_zero, List.getElem?_cons_succ, List.getElem?_nil, List.set_cons_zero, List.set_cons_succ, List.any_cons, List.any_nil, List.all_cons, List.all_nil,
  Option.map_some, Option.map_none, Option.bind_some, Option.bind_none, Nat.sub_self, Nat.zero_add, Nat.add_zero, Nat.reduceAdd, Nat.reduceSub, Nat.reduceEqDiff, Int.reduceToNat, Int.reducePow, Int.reduceLT, Int.reduceLE, Int.reduceAdd, Int.reduceSub, Int.reduceMul, Int.reduceNeg, Int.reduceBEq, Nat.reduceLT, Nat.reduceLeDiff, Nat.reducePow, gt_iff_lt, ge_iff_le, if_true, if_false, Bool.not_true, Bool.not_false, Bool.or_true, Bool.or_false, Bool.true_or, Bool.false_or, Bool.and_true, Bool.and_false, Bool.true_and, Bool.false_and,
  reduceCtorEq, decide_true, decide_false, Bool.false_eq_true, Bool.true_eq_false, decide_eq_true_eq, decide_eq_false_iff_not, eq_self, Bool.not_eq_true', Bool.not_eq_false', Bool.not_not, false_imp_iff, true_and, and_true, false_and, and_false, not_true_eq_false, not_false_eq_true, implies_true, true_implies, false_implies])
local macro_rules | `(tactic| walk_at "cj") => `(tactic| (repeat' (first | (refine And.intro ?_ ?_) | decide | omega | assumption)))

/-! ### raise, try -/
section
variable {p : Prg} {k : Nat} {N B C : En → Hs → Prop} {R : R → Hs → Prop} {X : T → En → Hs → Prop} {env : En} {h : Hs}
def oneV (K : T → Prop) (l : List T) (_d : Keep K := .mk) : Prop := match l with
  | [t] => K t
  | _ => False
theorem f_raise1 {c f : Str} {e : E} (hi : p.tb.init.lookup c = some f) (hk : 2 ≤ k) : wf (ex (p.cl k) (.raise1 c e) env h) N B C R X ↔ wp (evs (p.cl k) (.cons e .nil) env h) (fun ts h1 => oneV (fun t => X (.exc c [.str f, t]) env h1) ts) (fun e h => X e env h) := by
  simp only [ex]
  rw [show (p.cl k).tb.init.lookup c = some f from hi]
  dsimp only
  rw [if_pos (show 2 ≤ (p.cl k).lev from hk), f_fl]
  refine wp_ext fun ts h1 => ?_
  match ts with
  | [] => rfl
  | [_] => rfl
  | _ :: _ :: _ => rfl
theorem onV {K : T → Prop} {t : T} : oneV K [t] ↔ K t := Iff.rfl
theorem f_raise0 {c : Str} (hc : (p.tb.cls.lookup c).isSome = true) (hi : p.tb.init.lookup c = none) : wf (ex (p.cl k) (.raise0 c) env h) N B C R X ↔ X (.exc c []) env h := by
  simp only [ex]
  rw [if_pos ⟨hc, hi⟩]
  rfl
/-- what is to be shown of an exception that a try meets -/
def tryX (p : Prg) (k : Nat) (c : Str) (ie : Nat) (s : HSx) (N : En → Hs → Prop) (X : T → En → Hs → Prop) (x : T) (env : En) (h : Hs) : Prop := match x with
  | .exc d fs => match p.tb.sub d c with
    | some true => (1 ≤ k ∧ ie < env.length) ∧ ∃ q, hsx (hxOf p.tb d fs fun f h => p.hot f d fs h) s (env.set ie .no) h = some q ∧ N (q.1.set ie .no) q.2
    | some false => X x env h
    | none => False
  | _ => False
theorem f_try {b : Ss} {c : Str} {ie : Nat} {s : HSx} (w : wf (exs (p.cl k) b env h) N B C R (tryX p k c ie s N X)) : wf (ex (p.cl k) (.tryx b c ie s) env h) N B C R X := by
  unfold ex
  cases e : exs (p.cl k) b env h with
  | exc x env1 h1 =>
    rw [e] at w
    have w' : tryX p k c ie s N X x env1 h1 := w
    cases x with
    | exc d fs =>
      unfold tryX at w'
      dsimp only at w' ⊢
      rw [show (p.cl k).tb = p.tb from rfl]
      cases es : p.tb.sub d c with
      | none => rw [es] at w'; exact w'.elim
      | some b =>
        rw [es] at w'
        cases b with
        | true =>
          obtain ⟨hk, q, hq, n⟩ := w'
          dsimp only
          rw [if_pos (show 1 ≤ (p.cl k).lev ∧ ie < env1.length from hk), show (hsx (hxOf p.tb d fs fun f h => (p.cl k).hot f d fs h) s (env1.set ie .no) h1) = some q from hq]
          exact n
        | false => exact w'
    | _ => exact w'.elim
  | nx env1 h1 => rw [e] at w; exact w
  | rt r h1 => rw [e] at w; exact w
  | bk env1 h1 => rw [e] at w; exact w
  | ct env1 h1 => rw [e] at w; exact w
  | stuck => rw [e] at w; exact w
end

/-! ### pieces of pages -/
def piece1 (f l a : Int) (x : Sp) : List Sp := if max x.2.1 (x.2.1 + f - a) < min x.2.2 (x.2.1 + l - a) then [(x.1, max x.2.1 (x.2.1 + f - a), min x.2.2 (x.2.1 + l - a))] else []
def pieceFrom (f l : Int) : Int → List Sp → List Sp
  | _, [] => []
  | a, x :: r => piece1 f l a x ++ pieceFrom f l (a + (x.2.2 - x.2.1)) r
theorem pieceFrom_app {f l : Int} : ∀ {xs ys : List Sp} {a : Int}, pieceFrom f l a (xs ++ ys) = pieceFrom f l a xs ++ pieceFrom f l (a + longOf xs) ys
  | [], ys, a => by simp [pieceFrom, longOf]
  | x :: r, ys, a => by
    rw [List.cons_append, pieceFrom, pieceFrom, pieceFrom_app, longOf_cons, List.append_assoc, Int.add_assoc]
theorem longOf_snoc' {xs : List Sp} {x : Sp} : longOf (xs ++ [x]) = longOf xs + (x.2.2 - x.2.1) := by rw [longOf_append]; simp [longOf]
theorem piece_step {f l : Int} {xs : List Sp} {x : Sp} : pieceFrom f l 0 (xs ++ [x]) = pieceFrom f l 0 xs ++ piece1 f l (longOf xs) x := by rw [pieceFrom_app]; simp [pieceFrom]
theorem piece1_len {f l a : Int} {x : Sp} : (piece1 f l a x).length ≤ 1 := by unfold piece1; split <;> simp
theorem pieceFrom_len {f l : Int} : ∀ {xs : List Sp} {a : Int}, (pieceFrom f l a xs).length ≤ xs.length
  | [], a => by simp [pieceFrom]
  | x :: r, a => by
    rw [pieceFrom, List.length_append, List.length_cons]
    have := @piece1_len f l a x
    have := @pieceFrom_len f l r (a + (x.2.2 - x.2.1))
    omega
theorem c_piece {p : Prg} (h : Has p "piece" f_piece) {k : Nat} {xs : List Sp} {f l : Int} {hs : Hs} (hl : xs.length ≤ 1000000) : callK p (k + 1) "piece" [.tup (xs.map sp), .int f, .int l] hs = .ok (.val (.tup ((pieceFrom f l 0 xs).map sp))) hs := by
  rw [← wp_eq]
  refine w_run h rfl ?_
  unfold f_piece
  have hsz := size_ge
  walk_at "wk"
  refine f_forMap (fun done env h => h = hs ∧ ∃ s5 s6 s7 s8 s9, env = [Slot.val (.tup (xs.map sp)), Slot.val (.int f), Slot.val (.int l), Slot.own (.lst ((pieceFrom f l 0 done).map sp)), Slot.val (.int (longOf done)), s5, s6, s7, s8, s9]) ⟨rfl, _, _, _, _, _, rfl⟩ ?_ ?_
  · rintro done x rest ex env h2 ⟨rfl, s5, s6, s7, s8, s9, rfl⟩
    have hdl : done.length + 1 ≤ xs.length := by have := congrArg List.length ex; simp at this; omega
    have hpl := @pieceFrom_len f l done 0
    refine ⟨_, rfl, ?_⟩
    rw [piece_step, longOf_snoc', List.map_append]
    generalize pieceFrom f l 0 done = found at hpl
    generalize longOf done = at_
    obtain ⟨xa, xf, xl⟩ := x
    walk_at "wk"
    refine ⟨fun e => ?_, fun e => ?_⟩
    · unfold piece1
      rw [if_pos e]
      exact ⟨by rw [List.length_map]; omega, _, _, _, _, _, rfl⟩
    · unfold piece1
      rw [if_neg e, List.map_nil, List.append_nil]
      exact ⟨_, _, _, _, _, rfl⟩
  · rintro env h2 ⟨rfl, s5, s6, s7, s8, s9, rfl⟩
    walk_at "wk"
theorem longOf_le {xs : List Sp} : xs.length ≤ 1000000 → True := fun _ => trivial
/-- the part of the text that the part functions need -/
structure HasPart (p : Prg) : Prop where
  npl : Has p "need_place" f_need_place
  npa : Has p "need_part" f_need_part
  pie : Has p "piece" f_piece
  lon : Has p "long" f_long
  ini : p.tb.init.lookup ("NoPlace" : Str) = some "at"
def noPlace (t : T) : T := .exc "NoPlace" [.str "at", t]
theorem w_need_place {p : Prg} (H : HasPart p) {k : Nat} {a lo hi : Int} {hs : Hs} {Q : R → Hs → Prop} {X : T → Hs → Prop} (q1 : lo ≤ a ∧ a ≤ hi → Q (.val .non) hs) (q2 : ¬ (lo ≤ a ∧ a ≤ hi) → X (noPlace (.int a)) hs) : wp (callK p (k + 3) "need_place" [.int a, .int lo, .int hi] hs) Q X := by
  refine w_run H.npl rfl ?_
  unfold f_need_place
  walk_at "wk"
  rw [f_raise1 H.ini (by omega)]
  walk_at "wk"
  rw [onV]
  by_cases c1 : lo ≤ a
  · by_cases c2 : a ≤ hi
    · refine ⟨fun _ => ⟨fun z => ?_, fun z => ?_⟩, fun z => ?_⟩
      all_goals first | exact q1 ⟨c1, c2⟩ | omega
    · refine ⟨fun _ => ⟨fun z => ?_, fun z => ?_⟩, fun z => ?_⟩
      all_goals first | exact q2 fun z => c2 z.2 | omega
  · refine ⟨fun _ => ⟨fun z => ?_, fun z => ?_⟩, fun z => ?_⟩
    all_goals first | exact q2 fun z => c1 z.1 | omega
end Fx

namespace Fx
open PySem L2
local macro_rules | `(tactic| walk_at "wk") => `(tactic| simp only [↓w_con, ↓w_var, vV_v, vV_o, ↓w_bin, ↓w_not, ↓w_and, ↓w_or, ↓w_and1, ↓w_and2, ↓w_or1, ↓w_or2, ↓w_cmp, ↓w_chn, ↓w_ch1, ↓w_ch2, ↓w_isN, ↓w_ite, ↓w_tup, ↓w_lst, ↓w_slc, ↓w_call2, ↓w_bi, ↓w_isi, ↓w_idx, ↓w_neg, ↓w_mth, ↓w_ono, ↓w_oso, ↓w_cno, ↓w_cso, ↓w_nil, ↓w_cons, ↓w_pnil, ↓w_pcons, ↓w_ival, ↓w_rng1, ↓w_rng2, ↓w_zip, ↓w_zipk, ↓w_enu, ↓w_isB, ↓w_rev, ↓w_lrng1, ↓w_lrng2, vV_l, lV_i, r2V_i, zV_l, zV_t, ↓w_lc, ↓w_lc2,
  ↓w_ok, ↓w_exc, ↓w_stuck, ↓w_bind, ↓w_ofc, ↓w_ofs, ↓w_ofn, ↓w_ofm, ↓w_if, ↓w_sel, ↓f_nx, ↓f_rt, ↓f_exc, ↓f_stuck, ↓f_bind, ↓f_fl, ↓f_if, ↓f_sel, ↓f_nil, ↓f_cons, ↓f_pass, ↓f_expr, ↓f_asg, ↓f_asgO, ↓f_asgB, ↓f_ret, ↓f_retN, ↓f_ite, ↓f_forr,
  ↓f_app2, mV_o, mV_r, ceV_l, ↓f_seti2, mD_o, mD_r, xV_i, ↓f_aug, sV_v, augT_add, augT_sub, ↓f_asgT, tV_t, putEs_c, putEs_n, ↓f_par, twV, sz0, sz1, sz2, sz3, sz4, sz5, sz6, sz7, sz8, sz9, sz10, sz11, sz12, sz13, sz14, sz15, sz16, sz17, sz18, sz19, sz20, sz21, sz22, sz23, sz24, sz25, sz26, sz27, sz28, sz29, sz30, w_ok, w_ofc, w_ofs, w_ofn, w_ofm, w_if, w_sel, f_sel, f_if,
  P.t_val, P.t_new, P.t_pk, P.k_val, P.k_new, P.k_pk, P.u_t, P.u_k, P.ret_val, P.ret_new, P.ret_pk, R.p_val, R.p_new, truthB_bl, Cell.t_lst,
  oB_add, oB_adds, oB_addb, oB_subb, fStr_b, nV_b, oB_addl, oB_addt, oB_sub, oB_mul, oB_mull, oB_div, oB_mod, oB_pow, oC_eq, oC_ne, oC_lt, oC_le, oC_gt, oC_ge, oC_in, oC_notin, oC_inl, oC_notinl, oC_lts, oC_gts, oC_les, oC_ges, oC_ltt, oC_ltl, oB_mult, fSort_l, fSort_t, fOrd_c, okEq_ii, okEq_bb, okEq_ss, eqT_ii, eqT_bb, eqT_ss, opI_l, opI_c, opI_t, opI_s, opS_l, opS_t, opS_s, iV_l, iV_t, iV_s, iV_c, nV_i, oV_i, rV_i, aV_v, aV_n, aO_n, aB_n, cV_v, cV_n,
  fLen_l, fLen_t, fLen_c, fLen_s, fAbs_i, fMin_i, fMax_i, fSum_l, fAll_l, fAny_l, fInt_i, fInt_b, fStr_i, fStr_s, fList_l, fList_t, fTuple_l, fTuple_t, mJoin_l, mUp_s, isI_non, isI_bl, isI_int, isI_str, isI_tup, isI_lst, itemsT_l, itemsT_t, itemsT_s, exV_some, exV_map, exV_if, atI_0, atI_1, atI_2, atI_3, atI_4,
  T.ty, Mt.ty, T.isNon, isTy, startE, wipeE, beq_self_eq_true,
  List.map_cons, List.map_nil, List.length_cons, List.length_nil, List.replicate, List.cons_append, List.nil_append, List.getElem?_cons_zero, List.getElem?_cons_succ, List.getElem?_nil, List.set_cons_zero, List.set_cons_succ, List.any_cons, List.any_nil, List.all_cons, List.all_nil,
  Option.map_some, Option.map_none, Option.bind_some, Option.bind_none, Nat.sub_self, Nat.zero_add, Nat.add_zero, Nat.reduceAdd, Nat.reduceSub, Nat.reduceEqDiff, Int.reduceToNat, Int.reducePow, Int.reduceLT, Int.reduceLE, Int.reduceAdd, Int.reduceSub, Int.reduceMul, Int.reduceNeg, Int.reduceBEq, Nat.reduceLT, Nat.reduceLeDiff, Nat.reducePow, gt_iff_lt, ge_iff_le, if_true, if_false, Bool.not_true, Bool.not_false, Bool.or_true, Bool.or_false, Bool.true_or, Bool.false_or, Bool.and_true, Bool.and_false, Bool.true_and, Bool.false_and,
  reduceCtorEq, decide_true, decide_false, Bool.false_eq_true, Bool.true_eq_false, decide_eq_true_eq, decide_eq_false_iff_not, eq_self, Bool.not_eq_true', Bool.not_eq_false', Bool.not_not, false_imp_iff, true_and, and_true, false_and, and_false, not_true_eq_false, not_false_eq_true, implies_true, true_implies, false_implies])
local macro_rules | `(tactic| walk_at "cj") => `(tactic| (repeat' (first | (refine And.intro ?_ ?_) | decide | omega | assumption)))

/-! ### the refusals of laws k03 to k07 -/
def tb37 : ClT := ⟨[("NoPlace", ["AskedError", "LoomError", "NoPlace", "ValueError"]), ("TooLong", ["AskedError", "LoomError", "TooLong", "ValueError"])], ["AskedError", "Crossed", "Forged", "Gainsaid", "LoomError", "NoAuthor", "NoBase", "NoDeed", "NoEnd", "NoLink", "NoName", "NoPlace", "NoPrices", "NoRecord", "NoRow", "NoSigns", "NoText", "NoVersion", "NoWork", "ToldError", "TooLong", "Twice", "ValueError", "Wanting"], ["at", "ends", "name", "record", "which", "work"], [("NoPlace", "at")]⟩
structure HasExc (p : Prg) : Prop where
  tb : p.tb = tb37
  kin : p.hots.lookup ("_law_kinds" : Str) = some h__law_kinds.fn
  fie : p.hots.lookup ("_law_field" : Str) = some h__law_field.fn
theorem kinds_np (t : T) (h : Hs) : hotFn tb37 h__law_kinds.fn "NoPlace" [.str "at", t] h = some (.str "asked NoPlace+", h) := by kernel_rfl
theorem field_np (t : T) (h : Hs) : hotFn tb37 h__law_field.fn "NoPlace" [.str "at", t] h = some (t, h) := by kernel_rfl
theorem kinds_tl (h : Hs) : hotFn tb37 h__law_kinds.fn "TooLong" [] h = some (.str "asked TooLong+", h) := by kernel_rfl
theorem field_tl (h : Hs) : hotFn tb37 h__law_field.fn "TooLong" [] h = some (.non, h) := by kernel_rfl
theorem sub_np : tb37.sub "NoPlace" "LoomError" = some true := by kernel_rfl
theorem sub_tl : tb37.sub "TooLong" "LoomError" = some true := by kernel_rfl
theorem HasExc.ini {p : Prg} (H : HasExc p) : p.tb.init.lookup ("NoPlace" : Str) = some "at" := by rw [H.tb]; rfl
theorem HasExc.tl {p : Prg} (H : HasExc p) : (p.tb.cls.lookup ("TooLong" : Str)).isSome = true ∧ p.tb.init.lookup ("TooLong" : Str) = none := by rw [H.tb]; exact ⟨rfl, rfl⟩
/-- kind, field = (_law_kinds(e), _law_field(e)) -/
theorem try_np {p : Prg} (H : HasExc p) {k i j ie : Nat} {N : En → Hs → Prop} {X : T → En → Hs → Prop} {t : T} {env : En} {h : Hs} (hk : 1 ≤ k) (hi : ie < env.length) (q : N ((((env.set ie .no).set i (.val (.str "asked NoPlace+"))).set j (.val t)).set ie .no) h) :
    tryX p k "LoomError" ie (.par i j (.call "_law_kinds") (.call "_law_field")) N X (noPlace t) env h := by
  unfold tryX noPlace
  dsimp only
  rw [H.tb, sub_np]
  refine ⟨⟨hk, hi⟩, ((((env.set ie .no).set i (.val (.str "asked NoPlace+"))).set j (.val t)), h), ?_, q⟩
  have e1 : ∀ h, p.hot "_law_kinds" "NoPlace" [.str "at", t] h = some (.str "asked NoPlace+", h) := fun h => by unfold Prg.hot; rw [H.kin, H.tb]; exact kinds_np t h
  have e2 : ∀ h, p.hot "_law_field" "NoPlace" [.str "at", t] h = some (t, h) := fun h => by unfold Prg.hot; rw [H.fie, H.tb]; exact field_np t h
  simp only [hsx, hvs, hv, hxOf, e1, e2, Option.bind_some]
theorem try_tl {p : Prg} (H : HasExc p) {k i j ie : Nat} {N : En → Hs → Prop} {X : T → En → Hs → Prop} {env : En} {h : Hs} (hk : 1 ≤ k) (hi : ie < env.length) (q : N ((((env.set ie .no).set i (.val (.str "asked TooLong+"))).set j (.val .non)).set ie .no) h) :
    tryX p k "LoomError" ie (.par i j (.call "_law_kinds") (.call "_law_field")) N X (.exc "TooLong" []) env h := by
  unfold tryX
  dsimp only
  rw [H.tb, sub_tl]
  refine ⟨⟨hk, hi⟩, ((((env.set ie .no).set i (.val (.str "asked TooLong+"))).set j (.val .non)), h), ?_, q⟩
  have e1 : ∀ h, p.hot "_law_kinds" "TooLong" [] h = some (.str "asked TooLong+", h) := fun h => by unfold Prg.hot; rw [H.kin, H.tb]; exact kinds_tl h
  have e2 : ∀ h, p.hot "_law_field" "TooLong" [] h = some (.non, h) := fun h => by unfold Prg.hot; rw [H.fie, H.tb]; exact field_tl h
  simp only [hsx, hvs, hv, hxOf, e1, e2, Option.bind_some]
def badPart (m f l : Int) : List Int := ((if 0 ≤ f ∧ f ≤ m then [] else [f]) ++ (if f ≤ l ∧ l ≤ m then [] else [l])).take 1
theorem w_need_part {p : Prg} (H : HasPart p) {k : Nat} {xs : List Sp} {f l : Int} {hs : Hs} {Q : R → Hs → Prop} {X : T → Hs → Prop} (hl : xs.length ≤ 1000000) (q1 : badPart (longOf xs) f l = [] → Q (.val .non) hs) (q2 : ∀ b, badPart (longOf xs) f l = [b] → X (noPlace (.int b)) hs) : wp (callK p (k + 4) "need_part" [.tup (xs.map sp), .int f, .int l] hs) Q X := by
  refine w_run H.npa rfl ?_
  unfold f_need_part
  walk_at "wk"
  rw [c_long H.lon hl]
  walk_at "wk"
  refine w_need_place H (fun c => ?_) (fun c => ?_)
  · walk_at "wk"
    rw [c_long H.lon hl]
    walk_at "wk"
    refine w_need_place H (fun c2 => ?_) (fun c2 => ?_)
    · walk_at "wk"
      exact q1 (by unfold badPart; rw [if_pos c, if_pos c2]; rfl)
    · exact q2 _ (by unfold badPart; rw [if_pos c, if_neg c2]; rfl)
  · refine q2 _ ?_
    unfold badPart
    rw [if_neg c]
    rfl
theorem w_part {p : Prg} (H : HasPart p) (hp : Has p "part" f_part) {k : Nat} {xs : List Sp} {f l : Int} {hs : Hs} {Q : R → Hs → Prop} {X : T → Hs → Prop} (hl : xs.length ≤ 1000000) (q1 : badPart (longOf xs) f l = [] → Q (.val (.tup ((pieceFrom f l 0 xs).map sp))) hs) (q2 : ∀ b, badPart (longOf xs) f l = [b] → X (noPlace (.int b)) hs) : wp (callK p (k + 5) "part" [.tup (xs.map sp), .int f, .int l] hs) Q X := by
  refine w_run hp rfl ?_
  unfold f_part
  walk_at "wk"
  refine w_need_part H hl (fun c => ?_) (fun b c => ?_)
  · walk_at "wk"
    rw [c_piece H.pie hl]
    walk_at "wk"
    exact q1 c
  · exact q2 b c
def made (found : T) (kind : Str) (field : T) : T := .tup [found, .str kind, field]
theorem badPart_cases (m f l : Int) : badPart m f l = [] ∨ ∃ b, badPart m f l = [b] := by
  unfold badPart
  split <;> split <;> simp
/-- what part tells -/
def duePart (xs : List Sp) (f l : Int) : T := match badPart (longOf xs) f l with
  | [] => made (.tup ((pieceFrom f l 0 xs).map sp)) "" .non
  | b :: _ => made .non "asked NoPlace+" (.int b)
theorem c_made_part {p : Prg} (hm : Has p "_law_made" f__law_made) (H : HasPart p) (hp : Has p "part" f_part) (E : HasExc p) {k : Nat} {xs : List Sp} {f l : Int} {hs : Hs} (hl : xs.length ≤ 1000000) : callK p (k + 6) "_law_made" [.str "part", .lst [.tup (xs.map sp), .int f, .int l]] hs = .ok (.val (duePart xs f l)) hs := by
  rw [← wp_eq]
  refine w_run hm rfl ?_
  unfold f__law_made
  walk_at "wk"
  refine f_try ?_
  walk_at "wk"
  have e1 : (PyData.strOk (Str.ofString "part") && PyData.strOk (Str.ofString "plain")) = true := by decide +kernel
  have e2 : (Str.ofString "part" == Str.ofString "plain") = false := by decide
  have e3 : (PyData.strOk (Str.ofString "part") && PyData.strOk (Str.ofString "part")) = true := by decide +kernel
  simp only [e1, e2, e3, true_and, Bool.false_eq_true, false_imp_iff, not_false_eq_true, true_imp_iff]
  refine w_part H hp hl (fun c => ?_) (fun b c => ?_)
  · walk_at "wk"
    unfold duePart
    rw [c]
    rfl
  · refine try_np E (by omega) (by simp) ?_
    walk_at "wk"
    unfold duePart
    rw [c]
    rfl
end Fx

namespace Fx
open PySem L2
local macro_rules | `(tactic| walk_at "wk") => `(tactic| simp only [↓w_con, ↓w_var, vV_v, vV_o, ↓w_bin, ↓w_not, ↓w_and, ↓w_or, ↓w_and1, ↓w_and2, ↓w_or1, ↓w_or2, ↓w_cmp, ↓w_chn, ↓w_ch1, ↓w_ch2, ↓w_isN, ↓w_ite, ↓w_tup, ↓w_lst, ↓w_slc, ↓w_call2, ↓w_bi, ↓w_isi, ↓w_idx, ↓w_neg, ↓w_mth, ↓w_ono, ↓w_oso, ↓w_cno, ↓w_cso, ↓w_nil, ↓w_cons, ↓w_pnil, ↓w_pcons, ↓w_ival, ↓w_rng1, ↓w_rng2, ↓w_zip, ↓w_zipk, ↓w_enu, ↓w_isB, ↓w_rev, ↓w_lrng1, ↓w_lrng2, vV_l, lV_i, r2V_i, zV_l, zV_t, ↓w_lc, ↓w_lc2,
  ↓w_ok, ↓w_exc, ↓w_stuck, ↓w_bind, ↓w_ofc, ↓w_ofs, ↓w_ofn, ↓w_ofm, ↓w_if, ↓w_sel, ↓f_nx, ↓f_rt, ↓f_exc, ↓f_stuck, ↓f_bind, ↓f_fl, ↓f_if, ↓f_sel, ↓f_nil, ↓f_cons, ↓f_pass, ↓f_expr, ↓f_asg, ↓f_asgO, ↓f_asgB, ↓f_ret, ↓f_retN, ↓f_ite, ↓f_forr,
  ↓f_app2, mV_o, mV_r, ceV_l, ↓f_seti2, mD_o, mD_r, xV_i, ↓f_aug, sV_v, augT_add, augT_sub, ↓f_asgT, tV_t, putEs_c, putEs_n, ↓f_par, twV, sz0, sz1, sz2, sz3, sz4, sz5, sz6, sz7, sz8, sz9, sz10, sz11, sz12, sz13, sz14, sz15, sz16, sz17, sz18, sz19, sz20, sz21, sz22, sz23, sz24, sz25, sz26, sz27, sz28, sz29, sz30, w_ok, w_ofc, w_ofs, w_ofn, w_ofm, w_if, w_sel, f_sel, f_if,
  P.t_val, P.t_new, P.t_pk, P.k_val, P.k_new, P.k_pk, P.u_t, P.u_k, P.ret_val, P.ret_new, P.ret_pk, R.p_val, R.p_new, truthB_bl, Cell.t_lst,
  oB_add, oB_adds, oB_addb, oB_subb, fStr_b, nV_b, oB_addl, oB_addt, oB_sub, oB_mul, oB_mull, oB_div, oB_mod, oB_pow, oC_eq, oC_ne, oC_lt, oC_le, oC_gt, oC_ge, oC_in, oC_notin, oC_inl, oC_notinl, oC_lts, oC_gts, oC_les, oC_ges, oC_ltt, oC_ltl, oB_mult, fSort_l, fSort_t, fOrd_c, okEq_ii, okEq_bb, okEq_ss, eqT_ii, eqT_bb, eqT_ss, opI_l, opI_c, opI_t, opI_s, opS_l, opS_t, opS_s, iV_l, iV_t, iV_s, iV_c, nV_i, oV_i, rV_i, aV_v, aV_n, aO_n, aB_n, cV_v, cV_n,
  fLen_l, fLen_t, fLen_c, fLen_s, fAbs_i, fMin_i, fMax_i, fSum_l, fAll_l, fAny_l, fInt_i, fInt_b, fStr_i, fStr_s, fList_l, fList_t, fTuple_l, fTuple_t, mJoin_l, mUp_s, isI_non, isI_bl, isI_int, isI_str, isI_tup, isI_lst, itemsT_l, itemsT_t, itemsT_s, exV_some, exV_map, exV_if, atI_0, atI_1, atI_2, atI_3, atI_4,
  T.ty, Mt.ty, T.isNon, isTy, startE, wipeE, beq_self_eq_true,
  List.map_cons, List.map_nil, List.length_cons, List.length_nil, List.replicate, List.cons_append, List.nil_append, List.getElem?_cons_zero, List.getElem?_cons_succ, List.getElem?_nil, List.set_cons_zero, List.set_cons_succ, List.any_cons, List.any_nil, List.all_cons, List.all_nil,
  Option.map_some, Option.map_none, Option.bind_some, Option.bind_none, Nat.sub_self, Nat.zero_add, Nat.add_zero, Nat.reduceAdd, Nat.reduceSub, Nat.reduceEqDiff, Int.reduceToNat, Int.reducePow, Int.reduceLT, Int.reduceLE, Int.reduceAdd, Int.reduceSub, Int.reduceMul, Int.reduceNeg, Int.reduceBEq, Nat.reduceLT, Nat.reduceLeDiff, Nat.reducePow, gt_iff_lt, ge_iff_le, if_true, if_false, Bool.not_true, Bool.not_false, Bool.or_true, Bool.or_false, Bool.true_or, Bool.false_or, Bool.and_true, Bool.and_false, Bool.true_and, Bool.false_and,
  reduceCtorEq, decide_true, decide_false, Bool.false_eq_true, Bool.true_eq_false, decide_eq_true_eq, decide_eq_false_iff_not, eq_self, Bool.not_eq_true', Bool.not_eq_false', Bool.not_not, false_imp_iff, true_and, and_true, false_and, and_false, not_true_eq_false, not_false_eq_true, implies_true, true_implies, false_implies])
local macro_rules | `(tactic| walk_at "cj") => `(tactic| (repeat' (first | (refine And.intro ?_ ?_) | decide | omega | assumption)))

/-! ### pieces: their signs -/
theorem from_cut {x : Sp} {len n m : Nat} {e : Int} : ((signsFrom x len).take n).drop m = signsFrom (x.1, x.2.1 + (m : Nat), e) (min n len - m) := by
  apply List.ext_getElem?
  intro i
  rw [List.getElem?_drop, List.getElem?_take]
  unfold signsFrom
  simp only [List.getElem?_map]
  by_cases h : m + i < n
  · rw [if_pos h]
    by_cases h2 : m + i < len
    · rw [List.getElem?_range h2, List.getElem?_range (by omega)]
      simp only [Option.map_some]
      congr 2
      omega
    · rw [List.getElem?_eq_none (by simp; omega), List.getElem?_eq_none (by simp; omega)]
      rfl
  · rw [if_neg h, List.getElem?_eq_none (by simp; omega)]
    rfl
theorem piece1_signs {f l a : Int} {x : Sp} (h : x.2.1 ≤ x.2.2) : signsOf (piece1 f l a x) = ((signsFrom x (x.2.2 - x.2.1).toNat).take (l - a).toNat).drop (f - a).toNat := by
  rw [from_cut (e := min x.2.2 (x.2.1 + l - a))]
  unfold piece1
  have e1 : x.2.1 + ((f - a).toNat : Int) = max x.2.1 (x.2.1 + f - a) := by omega
  rw [e1]
  split
  · rename_i c
    rw [signsOf_one]
    congr 1
    show (min x.2.2 (x.2.1 + l - a) - max x.2.1 (x.2.1 + f - a)).toNat = _
    omega
  · rename_i c
    rw [show min (l - a).toNat (x.2.2 - x.2.1).toNat - (f - a).toNat = 0 from by omega]
    rfl
theorem cut_app {α : Type} {A B : List α} {n m : Nat} : ((A ++ B).take n).drop m = (A.take n).drop m ++ (B.take (n - A.length)).drop (m - A.length) := by
  rw [List.take_append, List.drop_append, List.length_take]
  by_cases h : n < A.length
  · rw [show n - A.length = 0 by omega]; simp
  · rw [Nat.min_eq_right (by omega)]
theorem piece_signs {f l : Int} : ∀ {xs : List Sp} {a : Int}, (∀ x ∈ xs, x.2.1 ≤ x.2.2) → signsOf (pieceFrom f l a xs) = ((signsOf xs).take (l - a).toNat).drop (f - a).toNat
  | [], a, _ => by simp [pieceFrom, signsOf]
  | x :: r, a, h => by
    have hx := h x (by simp)
    rw [pieceFrom, signsOf_append, signsOf_cons, cut_app, piece1_signs hx, piece_signs fun y hy => h y (by simp [hy]), signsFrom_len]
    congr 3
    · omega
    · congr 1; omega
theorem piece_end {f l : Int} : ∀ {xs : List Sp} {a : Int}, (∀ x ∈ xs, x.2.1 ≤ x.2.2) → l ≤ a → pieceFrom f l a xs = []
  | [], a, _, _ => rfl
  | x :: r, a, h, hl => by
    have hx := h x (by simp)
    rw [pieceFrom, piece_end (fun y hy => h y (by simp [hy])) (by omega)]
    unfold piece1
    rw [if_neg (by omega)]
    rfl
theorem piece_head {f l a : Int} {y : Sp} {r : List Sp} (h : ∀ x ∈ y :: r, x.2.1 < x.2.2) (hf : f ≤ a) {z : Sp} {zs : List Sp} (e : pieceFrom f l a (y :: r) = z :: zs) : z.1 = y.1 ∧ z.2.1 = y.2.1 := by
  have hy := h y (by simp)
  by_cases c : l ≤ a
  · rw [piece_end (fun x hx => by have := h x hx; omega) c] at e
    cases e
  · rw [pieceFrom] at e
    unfold piece1 at e
    rw [if_pos (by omega)] at e
    simp only [List.singleton_append, List.cons.injEq] at e
    rw [← e.1]
    exact ⟨rfl, by show max y.2.1 (y.2.1 + f - a) = y.2.1; omega⟩
theorem piece1_ok {f l a : Int} {x y : Sp} (h : okSp x = true) (hy : y ∈ piece1 f l a x) : okSp y = true ∧ y.1 = x.1 := by
  unfold piece1 at hy
  split at hy
  · rename_i c
    rw [List.mem_singleton.mp hy]
    obtain ⟨h1, h2, h3, h4⟩ := okSp_iff.mp h
    exact ⟨okSp_iff.mpr ⟨h1, by show 0 ≤ max x.2.1 (x.2.1 + f - a); omega, c, by show min x.2.2 (x.2.1 + l - a) ≤ _; omega⟩, rfl⟩
  · cases hy
theorem piece_ok {f l : Int} : ∀ {xs : List Sp} {a : Int}, (∀ x ∈ xs, okSp x = true) → ∀ y ∈ pieceFrom f l a xs, okSp y = true
  | [], a, _, y, hy => by cases hy
  | x :: r, a, h, y, hy => by
    rw [pieceFrom] at hy
    rcases List.mem_append.mp hy with hy | hy
    · exact (piece1_ok (h x (by simp)) hy).1
    · exact piece_ok (fun z hz => h z (by simp [hz])) y hy
theorem adj_tail {α : Type} {f : α → α → Bool} {x : α} {l : List α} (h : adj f (x :: l) = false) : adj f l = false := by
  cases l with
  | nil => rfl
  | cons y r => rw [adj, Bool.or_eq_false_iff] at h; exact h.2
theorem piece_adj {f l : Int} : ∀ {xs : List Sp} {a : Int}, (∀ x ∈ xs, x.2.1 < x.2.2) → adj goOn xs = false → adj goOn (pieceFrom f l a xs) = false
  | [], a, _, _ => rfl
  | x :: r, a, h, ha => by
    have hx := h x (by simp)
    have ih := piece_adj (f := f) (l := l) (xs := r) (a := a + (x.2.2 - x.2.1)) (fun y hy => h y (by simp [hy])) (adj_tail ha)
    have hle : ∀ y ∈ r, y.2.1 ≤ y.2.2 := fun y hy => by have := h y (by simp [hy]); omega
    rw [pieceFrom]
    unfold piece1
    split
    · rename_i c
      rw [List.singleton_append]
      cases e : pieceFrom f l (a + (x.2.2 - x.2.1)) r with
      | nil => rfl
      | cons z zs =>
        rw [e] at ih
        rw [adj, ih, Bool.or_false]
        cases r with
        | nil => cases e
        | cons y r =>
          obtain ⟨h1, h2⟩ := piece_head (fun w hw => h w (by simp only [List.mem_cons] at hw ⊢; exact .inr hw)) (by omega) e
          have hl : a + (x.2.2 - x.2.1) < l := by
            refine Int.not_le.mp fun z => ?_
            rw [piece_end hle z] at e
            cases e
          have hg : goOn x y = false := by rw [adj, Bool.or_eq_false_iff] at ha; exact ha.1
          unfold goOn at hg ⊢
          rw [h1, h2]
          show (x.1 == y.1 && min x.2.2 (x.2.1 + l - a) == y.2.1) = false
          rw [show min x.2.2 (x.2.1 + l - a) = x.2.2 from by omega]
          exact hg
    · exact ih
theorem okSp_lt {xs : List Sp} (h : ∀ x ∈ xs, okSp x = true) : ∀ x ∈ xs, x.2.1 < x.2.2 := fun x hx => (okSp_iff.mp (h x hx)).2.2.1
theorem piece_pg {f l a : Int} {xs : List Sp} (h : Pg xs) : Pg (pieceFrom f l a xs) := ⟨piece_ok h.ok, piece_adj (okSp_lt h.ok) h.ad⟩
theorem piece_canon {f l : Int} {xs : List Sp} (h : Pg xs) : pieceFrom f l 0 xs = pageOf (((signsOf xs).take l.toNat).drop f.toNat) := by
  rw [← pageOf_canon (piece_pg (f := f) (l := l) (a := 0) h), piece_signs (okSp_le h.ok), Int.sub_zero, Int.sub_zero]
end Fx

namespace Fx
open PySem L2
local macro_rules | `(tactic| walk_at "wk") => `(tactic| simp only [↓w_con, ↓w_var, vV_v, vV_o, ↓w_bin, ↓w_not, ↓w_and, ↓w_or, ↓w_and1, ↓w_and2, ↓w_or1, ↓w_or2, ↓w_cmp, ↓w_chn, ↓w_ch1, ↓w_ch2, ↓w_isN, ↓w_ite, ↓w_tup, ↓w_lst, ↓w_slc, ↓w_call2, ↓w_bi, ↓w_isi, ↓w_idx, ↓w_neg, ↓w_mth, ↓w_ono, ↓w_oso, ↓w_cno, ↓w_cso, ↓w_nil, ↓w_cons, ↓w_pnil, ↓w_pcons, ↓w_ival, ↓w_rng1, ↓w_rng2, ↓w_zip, ↓w_zipk, ↓w_enu, ↓w_isB, ↓w_rev, ↓w_lrng1, ↓w_lrng2, vV_l, lV_i, r2V_i, zV_l, zV_t, ↓w_lc, ↓w_lc2,
  ↓w_ok, ↓w_exc, ↓w_stuck, ↓w_bind, ↓w_ofc, ↓w_ofs, ↓w_ofn, ↓w_ofm, ↓w_if, ↓w_sel, ↓f_nx, ↓f_rt, ↓f_exc, ↓f_stuck, ↓f_bind, ↓f_fl, ↓f_if, ↓f_sel, ↓f_nil, ↓f_cons, ↓f_pass, ↓f_expr, ↓f_asg, ↓f_asgO, ↓f_asgB, ↓f_ret, ↓f_retN, ↓f_ite, ↓f_forr,
  ↓f_app2, mV_o, mV_r, ceV_l, ↓f_seti2, mD_o, mD_r, xV_i, ↓f_aug, sV_v, augT_add, augT_sub, ↓f_asgT, tV_t, putEs_c, putEs_n, ↓f_par, twV, sz0, sz1, sz2, sz3, sz4, sz5, sz6, sz7, sz8, sz9, sz10, sz11, sz12, sz13, sz14, sz15, sz16, sz17, sz18, sz19, sz20, sz21, sz22, sz23, sz24, sz25, sz26, sz27, sz28, sz29, sz30, w_ok, w_ofc, w_ofs, w_ofn, w_ofm, w_if, w_sel, f_sel, f_if,
  P.t_val, P.t_new, P.t_pk, P.k_val, P.k_new, P.k_pk, P.u_t, P.u_k, P.ret_val, P.ret_new, P.ret_pk, R.p_val, R.p_new, truthB_bl, Cell.t_lst,
  oB_add, oB_adds, oB_addb, oB_subb, fStr_b, nV_b, oB_addl, oB_addt, oB_sub, oB_mul, oB_mull, oB_div, oB_mod, oB_pow, oC_eq, oC_ne, oC_lt, oC_le, oC_gt, oC_ge, oC_in, oC_notin, oC_inl, oC_notinl, oC_lts, oC_gts, oC_les, oC_ges, oC_ltt, oC_ltl, oB_mult, fSort_l, fSort_t, fOrd_c, okEq_ii, okEq_bb, okEq_ss, eqT_ii, eqT_bb, eqT_ss, opI_l, opI_c, opI_t, opI_s, opS_l, opS_t, opS_s, iV_l, iV_t, iV_s, iV_c, nV_i, oV_i, rV_i, aV_v, aV_n, aO_n, aB_n, cV_v, cV_n,
  fLen_l, fLen_t, fLen_c, fLen_s, fAbs_i, fMin_i, fMax_i, fSum_l, fAll_l, fAny_l, fInt_i, fInt_b, fStr_i, fStr_s, fList_l, fList_t, fTuple_l, fTuple_t, mJoin_l, mUp_s, isI_non, isI_bl, isI_int, isI_str, isI_tup, isI_lst, itemsT_l, itemsT_t, itemsT_s, exV_some, exV_map, exV_if, atI_0, atI_1, atI_2, atI_3, atI_4,
  T.ty, Mt.ty, T.isNon, isTy, startE, wipeE, beq_self_eq_true,
  List.map_cons, List.map_nil, List.length_cons, List.length_nil, List.replicate, List.cons_append, List.nil_append, List.getElem?_cons_zero, List.getElem?_cons_succ, List.getElem?_nil, List.set_cons_zero, List.set_cons_succ, List.any_cons, List.any_nil, List.all_cons, List.all_nil,
  Option.map_some, Option.map_none, Option.bind_some, Option.bind_none, Nat.sub_self, Nat.zero_add, Nat.add_zero, Nat.reduceAdd, Nat.reduceSub, Nat.reduceEqDiff, Int.reduceToNat, Int.reducePow, Int.reduceLT, Int.reduceLE, Int.reduceAdd, Int.reduceSub, Int.reduceMul, Int.reduceNeg, Int.reduceBEq, Nat.reduceLT, Nat.reduceLeDiff, Nat.reducePow, gt_iff_lt, ge_iff_le, if_true, if_false, Bool.not_true, Bool.not_false, Bool.or_true, Bool.or_false, Bool.true_or, Bool.false_or, Bool.and_true, Bool.and_false, Bool.true_and, Bool.false_and,
  reduceCtorEq, decide_true, decide_false, Bool.false_eq_true, Bool.true_eq_false, decide_eq_true_eq, decide_eq_false_iff_not, eq_self, Bool.not_eq_true', Bool.not_eq_false', Bool.not_not, false_imp_iff, true_and, and_true, false_and, and_false, not_true_eq_false, not_false_eq_true, implies_true, true_implies, false_implies])
local macro_rules | `(tactic| walk_at "cj") => `(tactic| (repeat' (first | (refine And.intro ?_ ?_) | decide | omega | assumption)))

theorem cut_01 {α : Type} {e : α → T} {l : List α} : cutT (l.map e) none (some 1) = (l.take 1).map e := cut_hi (i := 1) (by decide)
theorem eq_nil_map {α : Type} {e : α → T} {l : List α} : eqT (.lst (l.map e)) (.lst []) = l.isEmpty := by cases l <;> rfl
theorem ok_ints {l : List Int} : (T.lst (l.map T.int)).isD = true ∧ (T.lst (l.map T.int)).dep ≤ 1 := by
  constructor
  · simp only [T.isD]
    induction l with
    | nil => rfl
    | cons x r ih => simp [allD, T.isD, ih]
  · have : depL (l.map T.int) = 0 := by
      induction l with
      | nil => rfl
      | cons x r ih => simp [depL, T.dep, ih]
    simp [T.dep, this]
theorem okEq_ints {l : List Int} : okEq (.lst (l.map T.int)) (.lst []) = true := by
  obtain ⟨h1, h2⟩ := @ok_ints l
  unfold okEq
  rw [h1]
  simp [T.isD, allD, T.dep, depL]
theorem c_law_bad_part {p : Prg} (h : Has p "_law_bad_part" f__law_bad_part) {k : Nat} {m f l : Int} {hs : Hs} : callK p (k + 1) "_law_bad_part" [.int m, .int f, .int l] hs = .ok (.new (.lst ((badPart m f l).map T.int))) hs := by
  rw [← wp_eq]
  refine w_run h rfl ?_
  unfold f__law_bad_part
  have hsz := size_ge
  walk_at "wk"
  have c0 : ∀ l : List Int, cutT (l.map T.int) none (some 1) = (l.take 1).map T.int := fun l => cut_01
  have e0 : cutT [] none (some 1) = [] := c0 []
  have e1 : ∀ x, cutT [T.int x] none (some 1) = [T.int x] := fun x => c0 [x]
  have e2 : ∀ x y, cutT [T.int x, T.int y] none (some 1) = [T.int x] := fun x y => c0 [x, y]
  simp only [e0, e1, e2]
  unfold badPart
  by_cases k1 : 0 ≤ f <;> by_cases k2 : f ≤ m <;> by_cases k3 : f ≤ l <;> by_cases k4 : l ≤ m <;> simp [k1, k2, k3, k4]
theorem w_law_place {p : Prg} (h : Has p "_law_place" f__law_place) (ht : Has p "_law_take" f__law_take) {k : Nat} {b : Nat} {m : Int} {hs : Hs} {Q : R → Hs → Prop} {X : T → Hs → Prop} (hb : Bag hs b) (h0 : 0 ≤ m) (h1 : m ≤ 1000000) (q : ∀ (a : Int) h', Bag h' b → Up b hs h' → Q (.val (.int a)) h') : wp (callK p (k + 2) "_law_place" [.ref b, .int m] hs) Q X := by
  refine w_run h rfl ?_
  unfold f__law_place
  walk_at "wk"
  refine w_take ht hb (by omega) (by omega) ?_
  intro r1 h1 a0 a1 hb1 hu1
  walk_at "wk"
  refine w_take ht hb1 (by omega) (by omega) ?_
  intro r2 h2 a2 a3 hb2 hu2
  have hsz := size_ge
  walk_at "wk"
  refine ⟨by decide, ?_⟩
  refine w_take (m := 7) ht hb2 (by decide) (by decide) ?_
  intro r h3 a4 a5 hb3 hu3
  walk_at "wk"
  have hu : Up b hs h3 := (hu1.trans hu2).trans hu3
  obtain ⟨a, ea⟩ : ∃ a : Int, atI [T.int r1, T.int r2, T.int m, T.int 0, T.int (-1), T.int (m + 1), T.int 1000000000000000000000000000000000000000] r = some (.int a) := by
    obtain rfl | rfl | rfl | rfl | rfl | rfl | rfl : r = 0 ∨ r = 1 ∨ r = 2 ∨ r = 3 ∨ r = 4 ∨ r = 5 ∨ r = 6 := by omega
    all_goals exact ⟨_, rfl⟩
  rw [ea]
  walk_at "wk"
  exact q a h3 hb3 hu
end Fx

namespace Fx
open PySem L2
local macro_rules | `(tactic| walk_at "wk") => `(tactic| simp only [↓w_con, ↓w_var, vV_v, vV_o, ↓w_bin, ↓w_not, ↓w_and, ↓w_or, ↓w_and1, ↓w_and2, ↓w_or1, ↓w_or2, ↓w_cmp, ↓w_chn, ↓w_ch1, ↓w_ch2, ↓w_isN, ↓w_ite, ↓w_tup, ↓w_lst, ↓w_slc, ↓w_call2, ↓w_bi, ↓w_isi, ↓w_idx, ↓w_neg, ↓w_mth, ↓w_ono, ↓w_oso, ↓w_cno, ↓w_cso, ↓w_nil, ↓w_cons, ↓w_pnil, ↓w_pcons, ↓w_ival, ↓w_rng1, ↓w_rng2, ↓w_zip, ↓w_zipk, ↓w_enu, ↓w_isB, ↓w_rev, ↓w_lrng1, ↓w_lrng2, vV_l, lV_i, r2V_i, zV_l, zV_t, ↓w_lc, ↓w_lc2,
  ↓w_ok, ↓w_exc, ↓w_stuck, ↓w_bind, ↓w_ofc, ↓w_ofs, ↓w_ofn, ↓w_ofm, ↓w_if, ↓w_sel, ↓f_nx, ↓f_rt, ↓f_exc, ↓f_stuck, ↓f_bind, ↓f_fl, ↓f_if, ↓f_sel, ↓f_nil, ↓f_cons, ↓f_pass, ↓f_expr, ↓f_asg, ↓f_asgO, ↓f_asgB, ↓f_ret, ↓f_retN, ↓f_ite, ↓f_forr,
  ↓f_app2, mV_o, mV_r, ceV_l, ↓f_seti2, mD_o, mD_r, xV_i, ↓f_aug, sV_v, augT_add, augT_sub, ↓f_asgT, tV_t, putEs_c, putEs_n, ↓f_par, twV, sz0, sz1, sz2, sz3, sz4, sz5, sz6, sz7, sz8, sz9, sz10, sz11, sz12, sz13, sz14, sz15, sz16, sz17, sz18, sz19, sz20, sz21, sz22, sz23, sz24, sz25, sz26, sz27, sz28, sz29, sz30, w_ok, w_ofc, w_ofs, w_ofn, w_ofm, w_if, w_sel, f_sel, f_if,
  P.t_val, P.t_new, P.t_pk, P.k_val, P.k_new, P.k_pk, P.u_t, P.u_k, P.ret_val, P.ret_new, P.ret_pk, R.p_val, R.p_new, truthB_bl, Cell.t_lst,
  oB_add, oB_adds, oB_addb, oB_subb, fStr_b, nV_b, oB_addl, oB_addt, oB_sub, oB_mul, oB_mull, oB_div, oB_mod, oB_pow, oC_eq, oC_ne, oC_lt, oC_le, oC_gt, oC_ge, oC_in, oC_notin, oC_inl, oC_notinl, oC_lts, oC_gts, oC_les, oC_ges, oC_ltt, oC_ltl, oB_mult, fSort_l, fSort_t, fOrd_c, okEq_ii, okEq_bb, okEq_ss, eqT_ii, eqT_bb, eqT_ss, opI_l, opI_c, opI_t, opI_s, opS_l, opS_t, opS_s, iV_l, iV_t, iV_s, iV_c, nV_i, oV_i, rV_i, aV_v, aV_n, aO_n, aB_n, cV_v, cV_n,
  fLen_l, fLen_t, fLen_c, fLen_s, fAbs_i, fMin_i, fMax_i, fSum_l, fAll_l, fAny_l, fInt_i, fInt_b, fStr_i, fStr_s, fList_l, fList_t, fTuple_l, fTuple_t, mJoin_l, mUp_s, isI_non, isI_bl, isI_int, isI_str, isI_tup, isI_lst, itemsT_l, itemsT_t, itemsT_s, exV_some, exV_map, exV_if, atI_0, atI_1, atI_2, atI_3, atI_4,
  T.ty, Mt.ty, T.isNon, isTy, startE, wipeE, beq_self_eq_true,
  List.map_cons, List.map_nil, List.length_cons, List.length_nil, List.replicate, List.cons_append, List.nil_append, List.getElem?_cons_zero, List.getElem?_cons_succ, List.getElem?_nil, List.set_cons_zero, List.set_cons_succ, List.any_cons, List.any_nil, List.all_cons, List.all_nil,
  Option.map_some, Option.map_none, Option.bind_some, Option.bind_none, Nat.sub_self, Nat.zero_add, Nat.add_zero, Nat.reduceAdd, Nat.reduceSub, Nat.reduceEqDiff, Int.reduceToNat, Int.reducePow, Int.reduceLT, Int.reduceLE, Int.reduceAdd, Int.reduceSub, Int.reduceMul, Int.reduceNeg, Int.reduceBEq, Nat.reduceLT, Nat.reduceLeDiff, Nat.reducePow, gt_iff_lt, ge_iff_le, if_true, if_false, Bool.not_true, Bool.not_false, Bool.or_true, Bool.or_false, Bool.true_or, Bool.false_or, Bool.and_true, Bool.and_false, Bool.true_and, Bool.false_and,
  reduceCtorEq, decide_true, decide_false, Bool.false_eq_true, Bool.true_eq_false, decide_eq_true_eq, decide_eq_false_iff_not, eq_self, Bool.not_eq_true', Bool.not_eq_false', Bool.not_not, false_imp_iff, true_and, and_true, false_and, and_false, not_true_eq_false, not_false_eq_true, implies_true, true_implies, false_implies])
local macro_rules | `(tactic| walk_at "cj") => `(tactic| (repeat' (first | (refine And.intro ?_ ?_) | decide | omega | assumption)))

/-! ### the address of a sign -/
theorem piece_one {xs : List Sp} {a : Int} {q : Sg} (pg : Pg xs) (h0 : 0 ≤ a) (e : (signsOf xs)[a.toNat]? = some q) : pieceFrom a (a + 1) 0 xs = [(q.1, q.2, q.2 + 1)] := by
  rw [piece_canon pg]
  have hlt : a.toNat < (signsOf xs).length := (List.getElem?_eq_some_iff.mp e).1
  have e1 : ((signsOf xs).take (a + 1).toNat).drop a.toNat = [q] := by
    apply List.ext_getElem?
    intro i
    rw [List.getElem?_drop, List.getElem?_take]
    cases i with
    | zero => rw [if_pos (by omega), Nat.add_zero, e]; rfl
    | succ i => rw [if_neg (by omega)]; simp
  rw [e1]
  rfl
theorem w_address {p : Prg} (H : HasPart p) (hp : Has p "address" f_address) {k : Nat} {xs : List Sp} {a : Int} {hs : Hs} {Q : R → Hs → Prop} {X : T → Hs → Prop} (pg : Pg xs) (hl : xs.length ≤ 1000000) (q1 : ∀ q, 0 ≤ a → (signsOf xs)[a.toNat]? = some q → Q (.val (sg q)) hs) (q2 : ¬ (0 ≤ a ∧ a < (signsOf xs).length) → X (noPlace (.int a)) hs) : wp (callK p (k + 4) "address" [.tup (xs.map sp), .int a] hs) Q X := by
  have hlong := longOf_signs (okSp_le pg.ok)
  refine w_run hp rfl ?_
  unfold f_address
  walk_at "wk"
  rw [c_long H.lon hl]
  walk_at "wk"
  rw [hlong]
  refine w_need_place H (fun c => ?_) (fun c => ?_)
  · walk_at "wk"
    rw [c_piece H.pie hl]
    have hlt : a.toNat < (signsOf xs).length := by omega
    rw [piece_one pg c.1 (List.getElem?_eq_getElem hlt)]
    walk_at "wk"
    unfold sp
    walk_at "wk"
    exact q1 _ c.1 (List.getElem?_eq_getElem hlt)
  · exact q2 fun z => c ⟨z.1, by omega⟩
/-- what address tells -/
def dueAddr (xs : List Sp) (a : Int) : T := if 0 ≤ a ∧ a < (signsOf xs).length then made (sg ((signsOf xs).getD a.toNat (Str.empty, 0))) "" .non else made .non "asked NoPlace+" (.int a)
theorem c_made_addr {p : Prg} (hm : Has p "_law_made" f__law_made) (H : HasPart p) (hp : Has p "address" f_address) (E : HasExc p) {k : Nat} {xs : List Sp} {a : Int} {hs : Hs} (pg : Pg xs) (hl : xs.length ≤ 1000000) : callK p (k + 6) "_law_made" [.str "address", .lst [.tup (xs.map sp), .int a]] hs = .ok (.val (dueAddr xs a)) hs := by
  rw [← wp_eq]
  refine w_run hm rfl ?_
  unfold f__law_made
  walk_at "wk"
  refine f_try ?_
  walk_at "wk"
  have e1 : (PyData.strOk (Str.ofString "address") && PyData.strOk (Str.ofString "plain")) = true := by decide +kernel
  have e2 : (PyData.strOk (Str.ofString "address") && PyData.strOk (Str.ofString "part")) = true := by decide +kernel
  have e3 : (PyData.strOk (Str.ofString "address") && PyData.strOk (Str.ofString "put")) = true := by decide +kernel
  have e4 : (PyData.strOk (Str.ofString "address") && PyData.strOk (Str.ofString "without")) = true := by decide +kernel
  have e5 : (PyData.strOk (Str.ofString "address") && PyData.strOk (Str.ofString "shifted")) = true := by decide +kernel
  have n1 : (Str.ofString "address" == Str.ofString "plain") = false := by decide
  have n2 : (Str.ofString "address" == Str.ofString "part") = false := by decide
  have n3 : (Str.ofString "address" == Str.ofString "put") = false := by decide
  have n4 : (Str.ofString "address" == Str.ofString "without") = false := by decide
  have n5 : (Str.ofString "address" == Str.ofString "shifted") = false := by decide
  simp only [e1, e2, e3, e4, e5, n1, n2, n3, n4, n5, true_and, Bool.false_eq_true, false_imp_iff, not_false_eq_true, true_imp_iff]
  refine w_address H hp pg hl (fun q c eq => ?_) (fun c => ?_)
  · walk_at "wk"
    have hlt : a.toNat < (signsOf xs).length := (List.getElem?_eq_some_iff.mp eq).1
    unfold dueAddr
    rw [if_pos ⟨c, by omega⟩, List.getD_eq_getElem?_getD, eq]
    rfl
  · refine try_np E (by omega) (by simp) ?_
    walk_at "wk"
    unfold dueAddr
    rw [if_neg c]
    rfl
/-! ### the law's own spots -/
def plc (f l : Int) : List Int := (List.range (l - f).toNat).map fun k : Nat => f + (k : Nat)
theorem plc_snoc {f l : Int} (h : f ≤ l) : plc f (l + 1) = plc f l ++ [l] := by
  unfold plc
  rw [show (l + 1 - f).toNat = (l - f).toNat + 1 by omega, List.range_succ, List.map_append]
  congr 1
  simp only [List.map_cons, List.map_nil]
  congr 1
  omega
theorem plc_nil {f l : Int} (h : l ≤ f) : plc f l = [] := by unfold plc; rw [show (l - f).toNat = 0 by omega]; rfl
theorem plc_fil {f s1 s2 : Int} : ∀ n : Nat, (plc f (f + (n : Nat))).filter (fun k => decide (s1 ≤ k) && decide (k < s2)) = plc (max f s1) (min (f + (n : Nat)) s2)
  | 0 => by rw [plc_nil (by omega), plc_nil (by omega)]; rfl
  | n + 1 => by
    rw [show f + ((n + 1 : Nat) : Int) = f + (n : Nat) + 1 by omega, plc_snoc (by omega), List.filter_append, plc_fil n]
    by_cases c1 : s1 ≤ f + (n : Nat)
    · by_cases c2 : f + (n : Nat) < s2
      · rw [show min (f + (n : Int) + 1) s2 = f + (n : Nat) + 1 by omega, show min (f + (n : Int)) s2 = f + (n : Nat) by omega, plc_snoc (by omega)]
        simp [c1, c2]
      · rw [show min (f + (n : Int) + 1) s2 = min (f + (n : Nat)) s2 by omega]
        simp [c2]
    · rw [plc_nil (f := max f s1) (l := min (f + (n : Int)) s2) (by omega), plc_nil (f := max f s1) (l := min (f + (n : Int) + 1) s2) (by omega)]
      simp [c1]
def someOf (x s : Sp) : List Int := if x.1 = s.1 then plc (max x.2.1 s.2.1) (min x.2.2 s.2.2) else []
theorem some_eq {x s : Sp} (h : x.2.1 ≤ x.2.2) : (plc x.2.1 x.2.2).filterMap (fun k => if x.1 = s.1 ∧ s.2.1 ≤ k ∧ k < s.2.2 then some (T.int k) else none) = (someOf x s).map T.int := by
  unfold someOf
  by_cases c : x.1 = s.1
  · rw [if_pos c]
    have := plc_fil (f := x.2.1) (s1 := s.2.1) (s2 := s.2.2) (x.2.2 - x.2.1).toNat
    rw [show x.2.1 + ((x.2.2 - x.2.1).toNat : Int) = x.2.2 by omega] at this
    rw [← this]
    rw [← List.filterMap_eq_map, List.filterMap_filter]
    congr 1
    funext k
    by_cases c1 : s.2.1 ≤ k <;> by_cases c2 : k < s.2.2 <;> simp [c, c1, c2]
  · rw [if_neg c]
    simp [c]
theorem some_spot {x s : Sp} {a : Int} : (someOf x s = [] → spot1 a x s = []) ∧ ∀ k r, someOf x s = k :: r → spot1 a x s = [(a + k - x.2.1, k, ((k :: r).length : Int))] := by
  unfold someOf spot1
  by_cases c : x.1 = s.1
  · rw [if_pos c]
    by_cases c2 : max x.2.1 s.2.1 < min x.2.2 s.2.2
    · rw [if_pos ⟨c, c2⟩]
      have hl : (plc (max x.2.1 s.2.1) (min x.2.2 s.2.2)).length = (min x.2.2 s.2.2 - max x.2.1 s.2.1).toNat := by simp [plc]
      constructor
      · intro e; rw [e] at hl; simp at hl; omega
      · intro k r e
        rw [e] at hl
        have hk : k = max x.2.1 s.2.1 := by
          unfold plc at e
          obtain ⟨n, hn⟩ : ∃ n : Nat, (min x.2.2 s.2.2 - max x.2.1 s.2.1).toNat = n + 1 := ⟨(min x.2.2 s.2.2 - max x.2.1 s.2.1).toNat - 1, by omega⟩
          rw [hn, List.range_succ_eq_map] at e
          simp at e
          exact e.1.symm
        rw [hl, hk]
        have : ((min x.2.2 s.2.2 - max x.2.1 s.2.1).toNat : Int) = min x.2.2 s.2.2 - max x.2.1 s.2.1 := by omega
        rw [this]
    · rw [if_neg (by simp [c2]), plc_nil (by omega)]
      exact ⟨fun _ => rfl, fun _ _ e => by cases e⟩
  · rw [if_neg c, if_neg (by simp [c])]
    exact ⟨fun _ => rfl, fun _ _ e => by cases e⟩
end Fx

namespace Fx
open PySem L2
local macro_rules | `(tactic| walk_at "wk") => `(tactic| simp only [↓w_con, ↓w_var, vV_v, vV_o, ↓w_bin, ↓w_not, ↓w_and, ↓w_or, ↓w_and1, ↓w_and2, ↓w_or1, ↓w_or2, ↓w_cmp, ↓w_chn, ↓w_ch1, ↓w_ch2, ↓w_isN, ↓w_ite, ↓w_tup, ↓w_lst, ↓w_slc, ↓w_call2, ↓w_bi, ↓w_isi, ↓w_idx, ↓w_neg, ↓w_mth, ↓w_ono, ↓w_oso, ↓w_cno, ↓w_cso, ↓w_nil, ↓w_cons, ↓w_pnil, ↓w_pcons, ↓w_ival, ↓w_rng1, ↓w_rng2, ↓w_zip, ↓w_zipk, ↓w_enu, ↓w_isB, ↓w_rev, ↓w_lrng1, ↓w_lrng2, vV_l, lV_i, r2V_i, zV_l, zV_t, ↓w_lc, ↓w_lc2,
  ↓w_ok, ↓w_exc, ↓w_stuck, ↓w_bind, ↓w_ofc, ↓w_ofs, ↓w_ofn, ↓w_ofm, ↓w_if, ↓w_sel, ↓f_nx, ↓f_rt, ↓f_exc, ↓f_stuck, ↓f_bind, ↓f_fl, ↓f_if, ↓f_sel, ↓f_nil, ↓f_cons, ↓f_pass, ↓f_expr, ↓f_asg, ↓f_asgO, ↓f_asgB, ↓f_ret, ↓f_retN, ↓f_ite, ↓f_forr,
  ↓f_app2, mV_o, mV_r, ceV_l, ↓f_seti2, mD_o, mD_r, xV_i, ↓f_aug, sV_v, augT_add, augT_sub, ↓f_asgT, tV_t, putEs_c, putEs_n, ↓f_par, twV, sz0, sz1, sz2, sz3, sz4, sz5, sz6, sz7, sz8, sz9, sz10, sz11, sz12, sz13, sz14, sz15, sz16, sz17, sz18, sz19, sz20, sz21, sz22, sz23, sz24, sz25, sz26, sz27, sz28, sz29, sz30, w_ok, w_ofc, w_ofs, w_ofn, w_ofm, w_if, w_sel, f_sel, f_if,
  P.t_val, P.t_new, P.t_pk, P.k_val, P.k_new, P.k_pk, P.u_t, P.u_k, P.ret_val, P.ret_new, P.ret_pk, R.p_val, R.p_new, truthB_bl, Cell.t_lst,
  oB_add, oB_adds, oB_addb, oB_subb, fStr_b, nV_b, oB_addl, oB_addt, oB_sub, oB_mul, oB_mull, oB_div, oB_mod, oB_pow, oC_eq, oC_ne, oC_lt, oC_le, oC_gt, oC_ge, oC_in, oC_notin, oC_inl, oC_notinl, oC_lts, oC_gts, oC_les, oC_ges, oC_ltt, oC_ltl, oB_mult, fSort_l, fSort_t, fOrd_c, okEq_ii, okEq_bb, okEq_ss, eqT_ii, eqT_bb, eqT_ss, opI_l, opI_c, opI_t, opI_s, opS_l, opS_t, opS_s, iV_l, iV_t, iV_s, iV_c, nV_i, oV_i, rV_i, aV_v, aV_n, aO_n, aB_n, cV_v, cV_n,
  fLen_l, fLen_t, fLen_c, fLen_s, fAbs_i, fMin_i, fMax_i, fSum_l, fAll_l, fAny_l, fInt_i, fInt_b, fStr_i, fStr_s, fList_l, fList_t, fTuple_l, fTuple_t, mJoin_l, mUp_s, isI_non, isI_bl, isI_int, isI_str, isI_tup, isI_lst, itemsT_l, itemsT_t, itemsT_s, exV_some, exV_map, exV_if, atI_0, atI_1, atI_2, atI_3, atI_4,
  T.ty, Mt.ty, T.isNon, isTy, startE, wipeE, beq_self_eq_true,
  List.map_cons, List.map_nil, List.length_cons, List.length_nil, List.replicate, List.cons_append, List.nil_append, List.getElem?_cons_zero, List.getElem?_cons_succ, List.getElem?_nil, List.set_cons_zero, List.set_cons_succ, List.any_cons, List.any_nil, List.all_cons, List.all_nil,
  Option.map_some, Option.map_none, Option.bind_some, Option.bind_none, Nat.sub_self, Nat.zero_add, Nat.add_zero, Nat.reduceAdd, Nat.reduceSub, Nat.reduceEqDiff, Int.reduceToNat, Int.reducePow, Int.reduceLT, Int.reduceLE, Int.reduceAdd, Int.reduceSub, Int.reduceMul, Int.reduceNeg, Int.reduceBEq, Nat.reduceLT, Nat.reduceLeDiff, Nat.reducePow, gt_iff_lt, ge_iff_le, if_true, if_false, Bool.not_true, Bool.not_false, Bool.or_true, Bool.or_false, Bool.true_or, Bool.false_or, Bool.and_true, Bool.and_false, Bool.true_and, Bool.false_and,
  reduceCtorEq, decide_true, decide_false, Bool.false_eq_true, Bool.true_eq_false, decide_eq_true_eq, decide_eq_false_iff_not, eq_self, Bool.not_eq_true', Bool.not_eq_false', Bool.not_not, false_imp_iff, true_and, and_true, false_and, and_false, not_true_eq_false, not_false_eq_true, implies_true, true_implies, false_implies])
local macro_rules | `(tactic| walk_at "cj") => `(tactic| (repeat' (first | (refine And.intro ?_ ?_) | decide | omega | assumption)))

/-! ### plain pages -/
theorem dt_sps {xs : List Sp} {n : Nat} (h : ∀ x ∈ xs, okSp x = true) (hl : xs.length ≤ n) (h8 : 8 ≤ n) : Dt n 20 2 (.tup (xs.map sp)) := by
  refine Dt.tup.mpr ⟨by rw [List.length_map]; exact hl, fun t ht => ?_⟩
  obtain ⟨x, hx, rfl⟩ := List.mem_map.mp ht
  obtain ⟨h1, h2, h3, h4⟩ := okSp_iff.mp (h x hx)
  have hn := name_tl h1
  refine Dt.tup.mpr ⟨by simp; omega, fun u hu => ?_⟩
  simp only [List.mem_cons, List.not_mem_nil, or_false] at hu
  rcases hu with rfl | rfl | rfl
  · exact Dt.str.mpr ⟨fun c hc => by have := hn.1 c hc; omega, by omega⟩
  · refine Dt.int.mpr ?_
    omega
  · refine Dt.int.mpr ?_
    omega
def mrg (found : List Sp) (x : Sp) : List Sp := match found.reverse with
  | y :: r => if goOn y x = true then r.reverse ++ [(x.1, y.2.1, x.2.2)] else found ++ [x]
  | [] => [x]
theorem mrg_nil {x : Sp} : mrg [] x = [x] := rfl
theorem mrg_snoc {r : List Sp} {y x : Sp} : mrg (r ++ [y]) x = if goOn y x = true then r ++ [(x.1, y.2.1, x.2.2)] else r ++ [y] ++ [x] := by
  unfold mrg
  rw [show (r ++ [y]).reverse = y :: r.reverse from by simp]
  simp
theorem pageOf_more {l : List Sg} {x y : Sp} {r : List Sp} (e : pageOf l = r ++ [y]) (hg : goOn y x = true) : ∀ n : Nat, pageOf (l ++ signsFrom x (n + 1)) = r ++ [(x.1, y.2.1, x.2.1 + (n : Nat) + 1)]
  | 0 => by
    simp only [goOn, Bool.and_eq_true, beq_iff_eq] at hg
    rw [show signsFrom x (0 + 1) = [(x.1, x.2.1)] from by simp [signsFrom], pageOf_app, e, grow_eq, if_pos ⟨hg.1, hg.2⟩]
    simp
  | n + 1 => by
    rw [signsFrom_succ, ← List.append_assoc, pageOf_app, pageOf_more e hg n, grow_eq, if_pos ⟨rfl, by push_cast; omega⟩]
    first | done | (push_cast; simp [Int.add_assoc])
theorem mrg_page {xs : List Sp} {x : Sp} (hx : okSp x = true) : mrg (pageOf (signsOf xs)) x = pageOf (signsOf (xs ++ [x])) := by
  have h := okSp_iff.mp hx
  rw [signsOf_append, signsOf_one]
  obtain ⟨n, hn⟩ : ∃ n : Nat, (x.2.2 - x.2.1).toNat = n + 1 := ⟨(x.2.2 - x.2.1).toNat - 1, by omega⟩
  have e2 : x.2.1 + (n : Int) + 1 = x.2.2 := by omega
  rw [hn]
  rcases List.eq_nil_or_concat (pageOf (signsOf xs)) with e | ⟨r, y, e⟩
  · rw [pageOf_run (by rw [e]; simp) n, e, e2]; rfl
  · rw [List.concat_eq_append] at e
    by_cases c : goOn y x = true
    · rw [pageOf_more e c n, e, mrg_snoc, if_pos c, e2]
    · rw [pageOf_run (by rw [e]; intro z hz; simp at hz; subst hz; simpa using c) n, e, mrg_snoc, if_neg c, e2]
structure HasPlain (p : Prg) : Prop extends HasPage p where
  pla : Has p "plain" f_plain
  go : Has p "go_on" f_go_on
  isp : Has p "is_page" f_is_page
  long : Has p "long" f_long
  g1 : p.glob.lookup ("MOST_SPANS" : Str) = some (.int 60)
  g2 : p.glob.lookup ("MOST_SIGNS" : Str) = some (.int 2000)
  tl : (p.tb.cls.lookup ("TooLong" : Str)).isSome = true ∧ p.tb.init.lookup ("TooLong" : Str) = none
theorem sps_dep {ys : List Sp} : depL (ys.map sp) ≤ 1 := by
  induction ys with
  | nil => simp [depL]
  | cons y r ih => simp only [List.map_cons, depL, sp, T.dep]; omega
theorem okEq_sps {xs : List Sp} (h : ∀ x ∈ xs, isName (.str x.1) = true) : okEq (.lst (xs.map sp)) (.lst []) = true := by
  have h1 := sps_isD h
  have h2 := @sps_dep xs
  unfold okEq
  rw [h1]
  simp [T.isD, allD, T.dep, depL]
def tooLong : T := .exc "TooLong" []
theorem w_plain {p : Prg} (H : HasPlain p) {k : Nat} {t : T} {xs : List Sp} {hs : Hs} {Q : R → Hs → Prop} {X : T → Hs → Prop} (ht : itemsT t = some (xs.map sp)) (hx : ∀ x ∈ xs, okSp x = true) (hl : xs.length ≤ 900000)
    (q1 : isPage (.tup ((pageOf (signsOf xs)).map sp)) = true → Q (.val (.tup ((pageOf (signsOf xs)).map sp))) hs) (q2 : isPage (.tup ((pageOf (signsOf xs)).map sp)) = false → X tooLong hs) : wp (callK p (k + 5) "plain" [t] hs) Q X := by
  refine w_run H.pla rfl ?_
  unfold f_plain
  have hsz := size_ge
  walk_at "wk"
  rw [ht]
  walk_at "wk"
  have pgl : ∀ done rest, xs = done ++ rest → Pg (pageOf (signsOf done)) ∧ (pageOf (signsOf done)).length ≤ done.length := fun done rest e => by
    have hd : ∀ x ∈ done, okSp x = true := fun x hx' => hx x (by rw [e]; simp [hx'])
    refine ⟨(pageOf_pg (signsOf_ok hd)).1, ?_⟩
    clear e
    revert hd
    refine snoc_ind (M := fun done => (∀ x ∈ done, okSp x = true) → (pageOf (signsOf done)).length ≤ done.length) (fun _ => by simp [signsOf, pageOf]) (fun l a ih h => ?_) done
    rw [← mrg_page (h a (by simp))]
    have := ih fun x hx' => h x (by simp [hx'])
    rcases List.eq_nil_or_concat (pageOf (signsOf l)) with e | ⟨r, y, e⟩
    · rw [e]; simp [mrg]
    · rw [List.concat_eq_append] at e
      rw [e] at this ⊢
      rw [mrg_snoc]
      split
      · simp at this ⊢; omega
      · simp at this ⊢; omega
  refine f_forMap (fun done env h => h = hs ∧ ∃ s2, env = [Slot.val t, Slot.own (.lst ((pageOf (signsOf done)).map sp)), s2]) ⟨rfl, _, rfl⟩ ?_ ?_
  · rintro done x rest ex env h1 ⟨rfl, s2, rfl⟩
    have hxo := hx x (by rw [ex]; simp)
    obtain ⟨pgd, pll⟩ := pgl done (x :: rest) ex
    have hdl := done_len ex
    refine ⟨_, rfl, ?_⟩
    rw [← mrg_page hxo]
    generalize pageOf (signsOf done) = found at pgd pll
    have hnam := okEq_sps (okSp_nam pgd.ok)
    rcases List.eq_nil_or_concat found with rfl | ⟨r, y, rfl⟩
    · rw [mrg_nil]
      walk_at "wk"
      refine ⟨rfl, fun z => ?_, fun _ => ⟨by omega, _, rfl⟩⟩
      have z2 : eqT (T.lst []) (T.lst []) = true := rfl
      rw [z2] at z
      cases z
    · rw [List.concat_eq_append] at pgd pll hnam ⊢
      have em : (r ++ [y]).map sp = r.map sp ++ [sp y] := by simp
      have hy := pgd.ok y (by simp)
      rw [mrg_snoc, em]
      rw [em] at hnam
      walk_at "wk"
      rw [hnam, show eqT (T.lst (r.map sp ++ [sp y])) (T.lst []) = false from by rw [eq_nil]; simp]
      refine ⟨rfl, fun _ => ?_, fun z => by cases z⟩
      rw [atI_neg]
      walk_at "wk"
      rw [c_go_on H.go hy hxo]
      walk_at "wk"
      refine ⟨fun c => ?_, fun c => ?_⟩
      · rw [if_pos c]
        obtain ⟨xa, xf, xl⟩ := x
        obtain ⟨ya, yf, yl⟩ := y
        rw [show sp (xa, xf, xl) = T.tup [.str xa, .int xf, .int xl] from rfl, show sp (ya, yf, yl) = T.tup [.str ya, .int yf, .int yl] from rfl]
        walk_at "wk"
        rw [atI_neg]
        walk_at "wk"
        rw [List.length_append, List.length_singleton, ixN_neg]
        walk_at "wk"
        rw [set_last]
        exact ⟨Slot.val (T.tup [T.str xa, T.int xf, T.int xl]), by simp [sp]⟩
      · rw [if_neg (by rw [c]; simp)]
        refine ⟨by simp at pll ⊢; omega, Slot.val (sp x), by simp⟩
  · rintro env h1 ⟨rfl, s2, rfl⟩
    obtain ⟨pgd, pll⟩ := pgl xs [] (by simp)
    walk_at "wk"
    rw [c_is_page H.isp H.toHasPage H.go H.long H.g1 H.g2 (dt_sps (n := 1000000) pgd.ok (by omega) (by omega)) (by omega)]
    walk_at "wk"
    rw [f_raise0 H.tl.1 H.tl.2]
    exact ⟨q2, q1⟩
end Fx

namespace Fx
open PySem L2
local macro_rules | `(tactic| walk_at "wk") => `(tactic| simp only [↓w_con, ↓w_var, vV_v, vV_o, ↓w_bin, ↓w_not, ↓w_and, ↓w_or, ↓w_and1, ↓w_and2, ↓w_or1, ↓w_or2, ↓w_cmp, ↓w_chn, ↓w_ch1, ↓w_ch2, ↓w_isN, ↓w_ite, ↓w_tup, ↓w_lst, ↓w_slc, ↓w_call2, ↓w_bi, ↓w_isi, ↓w_idx, ↓w_neg, ↓w_mth, ↓w_ono, ↓w_oso, ↓w_cno, ↓w_cso, ↓w_nil, ↓w_cons, ↓w_pnil, ↓w_pcons, ↓w_ival, ↓w_rng1, ↓w_rng2, ↓w_zip, ↓w_zipk, ↓w_enu, ↓w_isB, ↓w_rev, ↓w_lrng1, ↓w_lrng2, vV_l, lV_i, r2V_i, zV_l, zV_t, ↓w_lc, ↓w_lc2,
  ↓w_ok, ↓w_exc, ↓w_stuck, ↓w_bind, ↓w_ofc, ↓w_ofs, ↓w_ofn, ↓w_ofm, ↓w_if, ↓w_sel, ↓f_nx, ↓f_rt, ↓f_exc, ↓f_stuck, ↓f_bind, ↓f_fl, ↓f_if, ↓f_sel, ↓f_nil, ↓f_cons, ↓f_pass, ↓f_expr, ↓f_asg, ↓f_asgO, ↓f_asgB, ↓f_ret, ↓f_retN, ↓f_ite, ↓f_forr,
  ↓f_app2, mV_o, mV_r, ceV_l, ↓f_seti2, mD_o, mD_r, xV_i, ↓f_aug, sV_v, augT_add, augT_sub, ↓f_asgT, tV_t, putEs_c, putEs_n, ↓f_par, twV, sz0, sz1, sz2, sz3, sz4, sz5, sz6, sz7, sz8, sz9, sz10, sz11, sz12, sz13, sz14, sz15, sz16, sz17, sz18, sz19, sz20, sz21, sz22, sz23, sz24, sz25, sz26, sz27, sz28, sz29, sz30, w_ok, w_ofc, w_ofs, w_ofn, w_ofm, w_if, w_sel, f_sel, f_if,
  P.t_val, P.t_new, P.t_pk, P.k_val, P.k_new, P.k_pk, P.u_t, P.u_k, P.ret_val, P.ret_new, P.ret_pk, R.p_val, R.p_new, truthB_bl, Cell.t_lst,
  oB_add, oB_adds, oB_addb, oB_subb, fStr_b, nV_b, oB_addl, oB_addt, oB_sub, oB_mul, oB_mull, oB_div, oB_mod, oB_pow, oC_eq, oC_ne, oC_lt, oC_le, oC_gt, oC_ge, oC_in, oC_notin, oC_inl, oC_notinl, oC_lts, oC_gts, oC_les, oC_ges, oC_ltt, oC_ltl, oB_mult, fSort_l, fSort_t, fOrd_c, okEq_ii, okEq_bb, okEq_ss, eqT_ii, eqT_bb, eqT_ss, opI_l, opI_c, opI_t, opI_s, opS_l, opS_t, opS_s, iV_l, iV_t, iV_s, iV_c, nV_i, oV_i, rV_i, aV_v, aV_n, aO_n, aB_n, cV_v, cV_n,
  fLen_l, fLen_t, fLen_c, fLen_s, fAbs_i, fMin_i, fMax_i, fSum_l, fAll_l, fAny_l, fInt_i, fInt_b, fStr_i, fStr_s, fList_l, fList_t, fTuple_l, fTuple_t, mJoin_l, mUp_s, isI_non, isI_bl, isI_int, isI_str, isI_tup, isI_lst, itemsT_l, itemsT_t, itemsT_s, exV_some, exV_map, exV_if, atI_0, atI_1, atI_2, atI_3, atI_4,
  T.ty, Mt.ty, T.isNon, isTy, startE, wipeE, beq_self_eq_true,
  List.map_cons, List.map_nil, List.length_cons, List.length_nil, List.replicate, List.cons_append, List.nil_append, List.getElem?_cons_zero, List.getElem?_cons_succ, List.getElem?_nil, List.set_cons_zero, List.set_cons_succ, List.any_cons, List.any_nil, List.all_cons, List.all_nil,
  Option.map_some, Option.map_none, Option.bind_some, Option.bind_none, Nat.sub_self, Nat.zero_add, Nat.add_zero, Nat.reduceAdd, Nat.reduceSub, Nat.reduceEqDiff, Int.reduceToNat, Int.reducePow, Int.reduceLT, Int.reduceLE, Int.reduceAdd, Int.reduceSub, Int.reduceMul, Int.reduceNeg, Int.reduceBEq, Nat.reduceLT, Nat.reduceLeDiff, Nat.reducePow, gt_iff_lt, ge_iff_le, if_true, if_false, Bool.not_true, Bool.not_false, Bool.or_true, Bool.or_false, Bool.true_or, Bool.false_or, Bool.and_true, Bool.and_false, Bool.true_and, Bool.false_and,
  reduceCtorEq, decide_true, decide_false, Bool.false_eq_true, Bool.true_eq_false, decide_eq_true_eq, decide_eq_false_iff_not, eq_self, Bool.not_eq_true', Bool.not_eq_false', Bool.not_not, false_imp_iff, true_and, and_true, false_and, and_false, not_true_eq_false, not_false_eq_true, implies_true, true_implies, false_implies])
local macro_rules | `(tactic| walk_at "cj") => `(tactic| (repeat' (first | (refine And.intro ?_ ?_) | decide | omega | assumption)))

/-! ### pages put together -/
structure HasFuns (p : Prg) : Prop extends HasPlain p where
  part : HasPart p
structure HasWhole (p : Prg) : Prop extends HasFuns p where
  exc : HasExc p
  mad : Has p "_law_made" f__law_made
/-- a page is told, or TooLong -/
def duePg (l : List Sg) : T := if isPage (.tup ((pageOf l).map sp)) = true then made (.tup ((pageOf l).map sp)) "" .non else made .non "asked TooLong+" .non
theorem duePg_ok {l : List Sg} (h : ∀ q ∈ l, okSg q) : (duePg l).isD = true ∧ (duePg l).dep ≤ 64 := by
  have e1 : PyData.strOk (Str.ofString "asked TooLong+") = true := by decide +kernel
  have e2 : PyData.strOk (Str.ofString "") = true := by decide +kernel
  unfold duePg made
  split
  · have h1 : allD ((pageOf l).map sp) = true := sps_isD (okSp_nam (pageOf_pg h).1.ok)
    have h3 := @sps_dep (pageOf l)
    constructor
    · simp only [T.isD, allD, h1, e2, Bool.and_self]
    · simp only [T.dep, depL]; omega
  · constructor
    · simp only [T.isD, allD, e1, Bool.and_self]
    · simp only [T.dep, depL]; omega
structure HasDue (p : Prg) : Prop extends HasLPage p where
  due : Has p "_law_due_page" f__law_due_page
  pof : Has p "_law_page_of" f__law_page_of
  isp : Has p "_law_is_page" f__law_is_page
  lon : Has p "_law_long" f__law_long
theorem c_due_page {p : Prg} (H : HasDue p) {k : Nat} {l : List Sg} {hs : Hs} (h : ∀ q ∈ l, okSg q) (hl : l.length ≤ 900000) : callK p (k + 4) "_law_due_page" [.lst (l.map sg)] hs = .ok (.val (duePg l)) hs := by
  rw [← wp_eq]
  refine w_run H.due rfl ?_
  unfold f__law_due_page
  walk_at "wk"
  rw [c_pageof H.pof rfl h (by omega)]
  walk_at "wk"
  have pg := (pageOf_pg h).1
  have := pageOf_len l
  rw [c_law_is_page H.isp H.toHasLPage H.lon (dt_sps (n := 1000000) pg.ok (by omega) (by omega)) (by omega)]
  walk_at "wk"
  unfold duePg
  refine ⟨fun c => ?_, fun c => ?_⟩
  · rw [if_pos c]; rfl
  · rw [if_neg (by rw [c]; simp)]; rfl
/-- TooLong in the try -/
theorem try_pg {p : Prg} (H : HasExc p) {k i j ie : Nat} {N : En → Hs → Prop} {X : T → En → Hs → Prop} {env : En} {h : Hs} (hk : 1 ≤ k) (hi : ie < env.length) (q : N ((((env.set ie .no).set i (.val (.str "asked TooLong+"))).set j (.val .non)).set ie .no) h) :
    tryX p k "LoomError" ie (.par i j (.call "_law_kinds") (.call "_law_field")) N X tooLong env h := try_tl H hk hi q
theorem st1 : (PyData.strOk (Str.ofString "plain") && PyData.strOk (Str.ofString "plain")) = true := by decide +kernel
theorem st2 : (PyData.strOk (Str.ofString "put") && PyData.strOk (Str.ofString "plain")) = true := by decide +kernel
theorem st3 : (PyData.strOk (Str.ofString "put") && PyData.strOk (Str.ofString "part")) = true := by decide +kernel
theorem st4 : (PyData.strOk (Str.ofString "put") && PyData.strOk (Str.ofString "put")) = true := by decide +kernel
theorem st5 : (PyData.strOk (Str.ofString "without") && PyData.strOk (Str.ofString "plain")) = true := by decide +kernel
theorem st6 : (PyData.strOk (Str.ofString "without") && PyData.strOk (Str.ofString "part")) = true := by decide +kernel
theorem st7 : (PyData.strOk (Str.ofString "without") && PyData.strOk (Str.ofString "put")) = true := by decide +kernel
theorem st8 : (PyData.strOk (Str.ofString "without") && PyData.strOk (Str.ofString "without")) = true := by decide +kernel
theorem st9 : (PyData.strOk (Str.ofString "shifted") && PyData.strOk (Str.ofString "plain")) = true := by decide +kernel
theorem st10 : (PyData.strOk (Str.ofString "shifted") && PyData.strOk (Str.ofString "part")) = true := by decide +kernel
theorem st11 : (PyData.strOk (Str.ofString "shifted") && PyData.strOk (Str.ofString "put")) = true := by decide +kernel
theorem st12 : (PyData.strOk (Str.ofString "shifted") && PyData.strOk (Str.ofString "without")) = true := by decide +kernel
theorem st13 : (PyData.strOk (Str.ofString "shifted") && PyData.strOk (Str.ofString "shifted")) = true := by decide +kernel
theorem sn2 : (Str.ofString "put" == Str.ofString "plain") = false := by decide
theorem sn3 : (Str.ofString "put" == Str.ofString "part") = false := by decide
theorem sn5 : (Str.ofString "without" == Str.ofString "plain") = false := by decide
theorem sn6 : (Str.ofString "without" == Str.ofString "part") = false := by decide
theorem sn7 : (Str.ofString "without" == Str.ofString "put") = false := by decide
theorem sn9 : (Str.ofString "shifted" == Str.ofString "plain") = false := by decide
theorem sn10 : (Str.ofString "shifted" == Str.ofString "part") = false := by decide
theorem sn11 : (Str.ofString "shifted" == Str.ofString "put") = false := by decide
theorem sn12 : (Str.ofString "shifted" == Str.ofString "without") = false := by decide
theorem c_made_plain {p : Prg} (H : HasWhole p) {k : Nat} {t : T} {xs : List Sp} {hs : Hs} (ht : itemsT t = some (xs.map sp)) (hx : ∀ x ∈ xs, okSp x = true) (hl : xs.length ≤ 900000) : callK p (k + 7) "_law_made" [.str "plain", .lst [t]] hs = .ok (.val (duePg (signsOf xs))) hs := by
  rw [← wp_eq]
  refine w_run H.mad rfl ?_
  unfold f__law_made
  walk_at "wk"
  refine f_try ?_
  walk_at "wk"
  simp only [st1, true_and, true_imp_iff]
  refine w_plain H.toHasPlain ht hx hl (fun c => ?_) (fun c => ?_)
  · walk_at "wk"
    unfold duePg
    rw [if_pos c]
    rfl
  · refine try_pg H.exc (by omega) (by simp) ?_
    walk_at "wk"
    unfold duePg
    rw [if_neg (by rw [c]; simp)]
    rfl
/-! put -/
theorem sg_take {xs : List Sp} {a : Int} (h : ∀ x ∈ xs, okSp x = true) : signsOf (pieceFrom 0 a 0 xs) = (signsOf xs).take a.toNat := by
  rw [piece_signs (okSp_le h), Int.sub_zero]; simp
theorem sg_drop {xs : List Sp} {a : Int} (h : ∀ x ∈ xs, okSp x = true) : signsOf (pieceFrom a (longOf xs) 0 xs) = (signsOf xs).drop a.toNat := by
  rw [piece_signs (okSp_le h), Int.sub_zero, Int.sub_zero, longOf_signs (okSp_le h), Int.toNat_natCast, List.take_of_length_le (Nat.le_refl _)]
def putSg (xs ys : List Sp) (a : Int) : List Sg := (signsOf xs).take a.toNat ++ signsOf ys ++ (signsOf xs).drop a.toNat
def duePut (xs ys : List Sp) (a : Int) : T := if 0 ≤ a ∧ a ≤ longOf xs then duePg (putSg xs ys a) else made .non "asked NoPlace+" (.int a)
theorem w_put {p : Prg} (H : HasFuns p) (hp : Has p "put" f_put) {k : Nat} {xs ys : List Sp} {a : Int} {hs : Hs} {Q : R → Hs → Prop} {X : T → Hs → Prop} (hx : ∀ x ∈ xs, okSp x = true) (hy : ∀ x ∈ ys, okSp x = true) (hl : xs.length ≤ 100000) (hl2 : ys.length ≤ 100000)
    (q1 : 0 ≤ a ∧ a ≤ longOf xs → isPage (.tup ((pageOf (putSg xs ys a)).map sp)) = true → Q (.val (.tup ((pageOf (putSg xs ys a)).map sp))) hs) (q2 : 0 ≤ a ∧ a ≤ longOf xs → isPage (.tup ((pageOf (putSg xs ys a)).map sp)) = false → X tooLong hs) (q3 : ¬ (0 ≤ a ∧ a ≤ longOf xs) → X (noPlace (.int a)) hs) : wp (callK p (k + 6) "put" [.tup (xs.map sp), .int a, .tup (ys.map sp)] hs) Q X := by
  refine w_run hp rfl ?_
  unfold f_put
  have hsz := size_ge
  have l1 := @pieceFrom_len 0 a xs 0
  have l2 := @pieceFrom_len a (longOf xs) xs 0
  walk_at "wk"
  rw [c_long H.long (by omega)]
  walk_at "wk"
  refine w_need_place H.part (fun c => ?_) (fun c => q3 c)
  walk_at "wk"
  rw [c_piece H.part.pie (by omega)]
  walk_at "wk"
  refine ⟨by simp; omega, ?_⟩
  rw [c_long H.long (by omega)]
  walk_at "wk"
  rw [c_piece H.part.pie (by omega)]
  walk_at "wk"
  refine ⟨by simp; omega, ?_⟩
  have hm : pieceFrom 0 a 0 xs ++ ys ++ pieceFrom a (longOf xs) 0 xs = pieceFrom 0 a 0 xs ++ ys ++ pieceFrom a (longOf xs) 0 xs := rfl
  have hs3 : signsOf (pieceFrom 0 a 0 xs ++ ys ++ pieceFrom a (longOf xs) 0 xs) = putSg xs ys a := by
    rw [signsOf_append, signsOf_append, sg_take hx, sg_drop hx]; rfl
  refine w_plain (xs := pieceFrom 0 a 0 xs ++ ys ++ pieceFrom a (longOf xs) 0 xs) H.toHasPlain (by simp [itemsT]) (fun x hx' => ?_) (by simp; omega) (fun c2 => ?_) (fun c2 => ?_)
  · rcases List.mem_append.mp hx' with h | h
    · rcases List.mem_append.mp h with h | h
      · exact piece_ok hx x h
      · exact hy x h
    · exact piece_ok hx x h
  · rw [hs3] at c2 ⊢
    walk_at "wk"
    exact q1 c c2
  · rw [hs3] at c2
    exact q2 c c2
theorem c_made_put {p : Prg} (H : HasWhole p) (hp : Has p "put" f_put) {k : Nat} {xs ys : List Sp} {a : Int} {hs : Hs} (hx : ∀ x ∈ xs, okSp x = true) (hy : ∀ x ∈ ys, okSp x = true) (hl : xs.length ≤ 100000) (hl2 : ys.length ≤ 100000) : callK p (k + 8) "_law_made" [.str "put", .lst [.tup (xs.map sp), .int a, .tup (ys.map sp)]] hs = .ok (.val (duePut xs ys a)) hs := by
  rw [← wp_eq]
  refine w_run H.mad rfl ?_
  unfold f__law_made
  walk_at "wk"
  refine f_try ?_
  walk_at "wk"
  simp only [st2, st3, st4, sn2, sn3, true_and, Bool.false_eq_true, false_imp_iff, not_false_eq_true, true_imp_iff]
  refine w_put H.toHasFuns hp hx hy hl hl2 (fun c c2 => ?_) (fun c c2 => ?_) (fun c => ?_)
  · walk_at "wk"
    unfold duePut duePg
    rw [if_pos c, if_pos c2]
    rfl
  · refine try_pg H.exc (by omega) (by simp) ?_
    walk_at "wk"
    unfold duePut duePg
    rw [if_pos c, if_neg (by rw [c2]; simp)]
    rfl
  · refine try_np H.exc (by omega) (by simp) ?_
    walk_at "wk"
    unfold duePut
    rw [if_neg c]
    rfl
end Fx

namespace Fx
open PySem L2
local macro_rules | `(tactic| walk_at "wk") => `(tactic| simp only [↓w_con, ↓w_var, vV_v, vV_o, ↓w_bin, ↓w_not, ↓w_and, ↓w_or, ↓w_and1, ↓w_and2, ↓w_or1, ↓w_or2, ↓w_cmp, ↓w_chn, ↓w_ch1, ↓w_ch2, ↓w_isN, ↓w_ite, ↓w_tup, ↓w_lst, ↓w_slc, ↓w_call2, ↓w_bi, ↓w_isi, ↓w_idx, ↓w_neg, ↓w_mth, ↓w_ono, ↓w_oso, ↓w_cno, ↓w_cso, ↓w_nil, ↓w_cons, ↓w_pnil, ↓w_pcons, ↓w_ival, ↓w_rng1, ↓w_rng2, ↓w_zip, ↓w_zipk, ↓w_enu, ↓w_isB, ↓w_rev, ↓w_lrng1, ↓w_lrng2, vV_l, lV_i, r2V_i, zV_l, zV_t, ↓w_lc, ↓w_lc2,
  ↓w_ok, ↓w_exc, ↓w_stuck, ↓w_bind, ↓w_ofc, ↓w_ofs, ↓w_ofn, ↓w_ofm, ↓w_if, ↓w_sel, ↓f_nx, ↓f_rt, ↓f_exc, ↓f_stuck, ↓f_bind, ↓f_fl, ↓f_if, ↓f_sel, ↓f_nil, ↓f_cons, ↓f_pass, ↓f_expr, ↓f_asg, ↓f_asgO, ↓f_asgB, ↓f_ret, ↓f_retN, ↓f_ite, ↓f_forr,
  ↓f_app2, mV_o, mV_r, ceV_l, ↓f_seti2, mD_o, mD_r, xV_i, ↓f_aug, sV_v, augT_add, augT_sub, ↓f_asgT, tV_t, putEs_c, putEs_n, ↓f_par, twV, sz0, sz1, sz2, sz3, sz4, sz5, sz6, sz7, sz8, sz9, sz10, sz11, sz12, sz13, sz14, sz15, sz16, sz17, sz18, sz19, sz20, sz21, sz22, sz23, sz24, sz25, sz26, sz27, sz28, sz29, sz30, w_ok, w_ofc, w_ofs, w_ofn, w_ofm, w_if, w_sel, f_sel, f_if,
  P.t_val, P.t_new, P.t_pk, P.k_val, P.k_new, P.k_pk, P.u_t, P.u_k, P.ret_val, P.ret_new, P.ret_pk, R.p_val, R.p_new, truthB_bl, Cell.t_lst,
  oB_add, oB_adds, oB_addb, oB_subb, fStr_b, nV_b, oB_addl, oB_addt, oB_sub, oB_mul, oB_mull, oB_div, oB_mod, oB_pow, oC_eq, oC_ne, oC_lt, oC_le, oC_gt, oC_ge, oC_in, oC_notin, oC_inl, oC_notinl, oC_lts, oC_gts, oC_les, oC_ges, oC_ltt, oC_ltl, oB_mult, fSort_l, fSort_t, fOrd_c, okEq_ii, okEq_bb, okEq_ss, eqT_ii, eqT_bb, eqT_ss, opI_l, opI_c, opI_t, opI_s, opS_l, opS_t, opS_s, iV_l, iV_t, iV_s, iV_c, nV_i, oV_i, rV_i, aV_v, aV_n, aO_n, aB_n, cV_v, cV_n,
  fLen_l, fLen_t, fLen_c, fLen_s, fAbs_i, fMin_i, fMax_i, fSum_l, fAll_l, fAny_l, fInt_i, fInt_b, fStr_i, fStr_s, fList_l, fList_t, fTuple_l, fTuple_t, mJoin_l, mUp_s, isI_non, isI_bl, isI_int, isI_str, isI_tup, isI_lst, itemsT_l, itemsT_t, itemsT_s, exV_some, exV_map, exV_if, atI_0, atI_1, atI_2, atI_3, atI_4,
  T.ty, Mt.ty, T.isNon, isTy, startE, wipeE, beq_self_eq_true,
  List.map_cons, List.map_nil, List.length_cons, List.length_nil, List.replicate, List.cons_append, List.nil_append, List.getElem?_cons_zero, List.getElem?_cons_succ, List.getElem?_nil, List.set_cons_zero, List.set_cons_succ, List.any_cons, List.any_nil, List.all_cons, List.all_nil,
  Option.map_some, Option.map_none, Option.bind_some, Option.bind_none, Nat.sub_self, Nat.zero_add, Nat.add_zero, Nat.reduceAdd, Nat.reduceSub, Nat.reduceEqDiff, Int.reduceToNat, Int.reducePow, Int.reduceLT, Int.reduceLE, Int.reduceAdd, Int.reduceSub, Int.reduceMul, Int.reduceNeg, Int.reduceBEq, Nat.reduceLT, Nat.reduceLeDiff, Nat.reducePow, gt_iff_lt, ge_iff_le, if_true, if_false, Bool.not_true, Bool.not_false, Bool.or_true, Bool.or_false, Bool.true_or, Bool.false_or, Bool.and_true, Bool.and_false, Bool.true_and, Bool.false_and,
  reduceCtorEq, decide_true, decide_false, Bool.false_eq_true, Bool.true_eq_false, decide_eq_true_eq, decide_eq_false_iff_not, eq_self, Bool.not_eq_true', Bool.not_eq_false', Bool.not_not, false_imp_iff, true_and, and_true, false_and, and_false, not_true_eq_false, not_false_eq_true, implies_true, true_implies, false_implies])
local macro_rules | `(tactic| walk_at "cj") => `(tactic| (repeat' (first | (refine And.intro ?_ ?_) | decide | omega | assumption)))

/-! ### full pages -/
theorem nm_ann : isName (.str "ann") = true := by decide +kernel
theorem nm_bo : isName (.str "bo") = true := by decide +kernel
theorem w_full_page {p : Prg} (h : Has p "_law_full_page" f__law_full_page) (ht : Has p "_law_take" f__law_take) {k : Nat} {b : Nat} {hs : Hs} {Q : R → Hs → Prop} {X : T → Hs → Prop} (hb : Bag hs b) (q : ∀ (xs : List Sp) h', Pg xs → xs.length ≤ 60 → (signsOf xs).length ≤ 2100 → Bag h' b → Up b hs h' → Q (.val (.tup (xs.map sp))) h') : wp (callK p (k + 2) "_law_full_page" [.ref b] hs) Q X := by
  refine w_run h rfl ?_
  unfold f__law_full_page
  have hsz := size_ge
  walk_at "wk"
  refine w_take (m := 2) ht hb (by decide) (by decide) ?_
  intro r h1 a0 a1 hb1 hu1
  walk_at "wk"
  refine ⟨fun c => ?_, fun c => ?_⟩
  · refine w_take (m := 4) ht hb1 (by decide) (by decide) ?_
    intro r2 h2 a2 a3 hb2 hu2
    walk_at "wk"
    refine ⟨by simp only [smallI, decide_eq_true_eq]; omega, by simp [rangeT]; omega, rfl, ?_⟩
    rw [show rangeT 0 (57 + r2) = (List.range (57 + r2).toNat).map fun k : Nat => T.int (k : Nat) from by simp [rangeT]]
    refine w_lcmap (g := fun k : Nat => sp ("ann", 10 * (k : Nat), 10 * (k : Nat) + 2)) ?_ ?_
    · intro m hm
      rw [List.mem_range] at hm
      rw [w_turn (by rfl)]
      walk_at "wk"
      have e1 : (10 : Int).natAbs.log2 + ((m : Int)).natAbs.log2 < 1000000 := by
        have h1 : ((m : Int)).natAbs.log2 ≤ m := by rw [Int.natAbs_natCast]; exact Nat.log2_le_self m
        have h2 : (10 : Int).natAbs.log2 = 3 := by decide +kernel
        omega
      exact ⟨e1, e1, rfl⟩
    walk_at "wk"
    have hcat : (List.range (57 + r2).toNat).map (fun k : Nat => sp ("ann", 10 * (k : Nat), 10 * (k : Nat) + 2)) = ((List.range (57 + r2).toNat).map fun k : Nat => (("ann", 10 * (k : Int), 10 * (k : Int) + 2) : Sp)).map sp := by rw [List.map_map]; rfl
    rw [hcat]
    have hok : ∀ x ∈ ((List.range (57 + r2).toNat).map fun k : Nat => (("ann", 10 * (k : Int), 10 * (k : Int) + 2) : Sp)), okSp x = true ∧ x.2.2 ≤ x.2.1 + 2 := by
      intro x hx
      obtain ⟨m, hm, rfl⟩ := List.mem_map.mp hx
      rw [List.mem_range] at hm
      exact ⟨okSp_iff.mpr ⟨nm_ann, by show 0 ≤ 10 * (m : Int); omega, by show 10 * (m : Int) < 10 * (m : Int) + 2; omega, by show 10 * (m : Int) + 2 ≤ 1000000; omega⟩, by show 10 * (m : Int) + 2 ≤ 10 * (m : Int) + 2; omega⟩
    refine q _ h2 ⟨fun x hx => (hok x hx).1, ?_⟩ (by simp; omega) ?_ hb2 (hu1.trans hu2)
    · rw [← Bool.not_eq_true, adj_iff]
      rintro ⟨j, hj, e⟩
      simp only [List.getElem_map, List.getElem_range, goOn, Bool.and_eq_true, beq_iff_eq] at e
      omega
    · refine Nat.le_trans (signsOf_le (m := 2) fun x hx => (hok x hx).2) ?_
      simp
      omega
  · refine w_take (m := 11) ht hb1 (by decide) (by decide) ?_
    intro r2 h2 a2 a3 hb2 hu2
    walk_at "wk"
    refine q [("ann", 0, 1000), ("bo", 50, 1040 + r2)] h2 ⟨?_, rfl⟩ (by simp) ?_ hb2 (hu1.trans hu2)
    · intro x hx
      simp only [List.mem_cons, List.not_mem_nil, or_false] at hx
      rcases hx with rfl | rfl
      · exact okSp_iff.mpr ⟨nm_ann, by decide, by decide, by decide⟩
      · exact okSp_iff.mpr ⟨nm_bo, by show (0 : Int) ≤ 50; decide, by show 50 < 1040 + r2; omega, by show 1040 + r2 ≤ 1000000; omega⟩
    · simp [signsOf, signsFrom]
      omega
/-- drawn or full -/
theorem pick2 {A B : T} {r : Int} : atI [A, B] (if (r == 0) = true then 1 else 0) = some (if r = 0 then B else A) := by
  by_cases c : r = 0
  · subst c; rfl
  · rw [if_neg (by simpa using c), if_neg c]; rfl
end Fx

namespace Fx
open PySem L2
local macro_rules | `(tactic| walk_at "wk") => `(tactic| simp only [↓w_con, ↓w_var, vV_v, vV_o, ↓w_bin, ↓w_not, ↓w_and, ↓w_or, ↓w_and1, ↓w_and2, ↓w_or1, ↓w_or2, ↓w_cmp, ↓w_chn, ↓w_ch1, ↓w_ch2, ↓w_isN, ↓w_ite, ↓w_tup, ↓w_lst, ↓w_slc, ↓w_call2, ↓w_bi, ↓w_isi, ↓w_idx, ↓w_neg, ↓w_mth, ↓w_ono, ↓w_oso, ↓w_cno, ↓w_cso, ↓w_nil, ↓w_cons, ↓w_pnil, ↓w_pcons, ↓w_ival, ↓w_rng1, ↓w_rng2, ↓w_zip, ↓w_zipk, ↓w_enu, ↓w_isB, ↓w_rev, ↓w_lrng1, ↓w_lrng2, vV_l, lV_i, r2V_i, zV_l, zV_t, ↓w_lc, ↓w_lc2,
  ↓w_ok, ↓w_exc, ↓w_stuck, ↓w_bind, ↓w_ofc, ↓w_ofs, ↓w_ofn, ↓w_ofm, ↓w_if, ↓w_sel, ↓f_nx, ↓f_rt, ↓f_exc, ↓f_stuck, ↓f_bind, ↓f_fl, ↓f_if, ↓f_sel, ↓f_nil, ↓f_cons, ↓f_pass, ↓f_expr, ↓f_asg, ↓f_asgO, ↓f_asgB, ↓f_ret, ↓f_retN, ↓f_ite, ↓f_forr,
  ↓f_app2, mV_o, mV_r, ceV_l, ↓f_seti2, mD_o, mD_r, xV_i, ↓f_aug, sV_v, augT_add, augT_sub, ↓f_asgT, tV_t, putEs_c, putEs_n, ↓f_par, twV, sz0, sz1, sz2, sz3, sz4, sz5, sz6, sz7, sz8, sz9, sz10, sz11, sz12, sz13, sz14, sz15, sz16, sz17, sz18, sz19, sz20, sz21, sz22, sz23, sz24, sz25, sz26, sz27, sz28, sz29, sz30, w_ok, w_ofc, w_ofs, w_ofn, w_ofm, w_if, w_sel, f_sel, f_if,
  P.t_val, P.t_new, P.t_pk, P.k_val, P.k_new, P.k_pk, P.u_t, P.u_k, P.ret_val, P.ret_new, P.ret_pk, R.p_val, R.p_new, truthB_bl, Cell.t_lst,
  oB_add, oB_adds, oB_addb, oB_subb, fStr_b, nV_b, oB_addl, oB_addt, oB_sub, oB_mul, oB_mull, oB_div, oB_mod, oB_pow, oC_eq, oC_ne, oC_lt, oC_le, oC_gt, oC_ge, oC_in, oC_notin, oC_inl, oC_notinl, oC_lts, oC_gts, oC_les, oC_ges, oC_ltt, oC_ltl, oB_mult, fSort_l, fSort_t, fOrd_c, okEq_ii, okEq_bb, okEq_ss, eqT_ii, eqT_bb, eqT_ss, opI_l, opI_c, opI_t, opI_s, opS_l, opS_t, opS_s, iV_l, iV_t, iV_s, iV_c, nV_i, oV_i, rV_i, aV_v, aV_n, aO_n, aB_n, cV_v, cV_n,
  fLen_l, fLen_t, fLen_c, fLen_s, fAbs_i, fMin_i, fMax_i, fSum_l, fAll_l, fAny_l, fInt_i, fInt_b, fStr_i, fStr_s, fList_l, fList_t, fTuple_l, fTuple_t, mJoin_l, mUp_s, isI_non, isI_bl, isI_int, isI_str, isI_tup, isI_lst, itemsT_l, itemsT_t, itemsT_s, exV_some, exV_map, exV_if, atI_0, atI_1, atI_2, atI_3, atI_4,
  T.ty, Mt.ty, T.isNon, isTy, startE, wipeE, beq_self_eq_true,
  List.map_cons, List.map_nil, List.length_cons, List.length_nil, List.replicate, List.cons_append, List.nil_append, List.getElem?_cons_zero, List.getElem?_cons_succ, List.getElem?_nil, List.set_cons_zero, List.set_cons_succ, List.any_cons, List.any_nil, List.all_cons, List.all_nil,
  Option.map_some, Option.map_none, Option.bind_some, Option.bind_none, Nat.sub_self, Nat.zero_add, Nat.add_zero, Nat.reduceAdd, Nat.reduceSub, Nat.reduceEqDiff, Int.reduceToNat, Int.reducePow, Int.reduceLT, Int.reduceLE, Int.reduceAdd, Int.reduceSub, Int.reduceMul, Int.reduceNeg, Int.reduceBEq, Nat.reduceLT, Nat.reduceLeDiff, Nat.reducePow, gt_iff_lt, ge_iff_le, if_true, if_false, Bool.not_true, Bool.not_false, Bool.or_true, Bool.or_false, Bool.true_or, Bool.false_or, Bool.and_true, Bool.and_false, Bool.true_and, Bool.false_and,
  reduceCtorEq, decide_true, decide_false, Bool.false_eq_true, Bool.true_eq_false, decide_eq_true_eq, decide_eq_false_iff_not, eq_self, Bool.not_eq_true', Bool.not_eq_false', Bool.not_not, false_imp_iff, true_and, and_true, false_and, and_false, not_true_eq_false, not_false_eq_true, implies_true, true_implies, false_implies])
local macro_rules | `(tactic| walk_at "cj") => `(tactic| (repeat' (first | (refine And.intro ?_ ?_) | decide | omega | assumption)))

/-! ### parts left out, shifted -/
def outSg (xs : List Sp) (f l : Int) : List Sg := (signsOf xs).take f.toNat ++ (signsOf xs).drop l.toNat
def outSp (xs : List Sp) (f l : Int) : List Sp := pieceFrom 0 f 0 xs ++ pieceFrom l (longOf xs) 0 xs
theorem outSp_ok {xs : List Sp} {f l : Int} (h : ∀ x ∈ xs, okSp x = true) : ∀ x ∈ outSp xs f l, okSp x = true := fun x hx => by
  unfold outSp at hx
  rcases List.mem_append.mp hx with hx | hx <;> exact piece_ok h x hx
theorem outSp_signs {xs : List Sp} {f l : Int} (h : ∀ x ∈ xs, okSp x = true) : signsOf (outSp xs f l) = outSg xs f l := by
  unfold outSp outSg
  rw [signsOf_append, sg_take h, sg_drop h]
theorem outSp_len {xs : List Sp} {f l : Int} : (outSp xs f l).length ≤ 2 * xs.length := by
  have l1 := @pieceFrom_len 0 f xs 0
  have l2 := @pieceFrom_len l (longOf xs) xs 0
  unfold outSp
  rw [List.length_append]
  omega
theorem outSg_ok {xs : List Sp} {f l : Int} (h : ∀ x ∈ xs, okSp x = true) : ∀ q ∈ outSg xs f l, okSg q := fun q hq => by
  unfold outSg at hq
  rcases List.mem_append.mp hq with hq | hq
  · exact signsOf_ok h q (List.mem_of_mem_take hq)
  · exact signsOf_ok h q (List.mem_of_mem_drop hq)
def dueOut (xs : List Sp) (f l : Int) : T := match badPart (longOf xs) f l with
  | [] => duePg (outSg xs f l)
  | b :: _ => made .non "asked NoPlace+" (.int b)
theorem w_without {p : Prg} (H : HasFuns p) (hp : Has p "without" f_without) {k : Nat} {xs : List Sp} {f l : Int} {hs : Hs} {Q : R → Hs → Prop} {X : T → Hs → Prop} (hx : ∀ x ∈ xs, okSp x = true) (hl : xs.length ≤ 100000)
    (q1 : badPart (longOf xs) f l = [] → isPage (.tup ((pageOf (outSg xs f l)).map sp)) = true → Q (.val (.tup ((pageOf (outSg xs f l)).map sp))) hs) (q2 : badPart (longOf xs) f l = [] → isPage (.tup ((pageOf (outSg xs f l)).map sp)) = false → X tooLong hs) (q3 : ∀ b, badPart (longOf xs) f l = [b] → X (noPlace (.int b)) hs) : wp (callK p (k + 6) "without" [.tup (xs.map sp), .int f, .int l] hs) Q X := by
  refine w_run hp rfl ?_
  unfold f_without
  have hsz := size_ge
  have l1 := @pieceFrom_len 0 f xs 0
  have l2 := @pieceFrom_len l (longOf xs) xs 0
  walk_at "wk"
  refine w_need_part H.part (by omega) (fun c => ?_) q3
  walk_at "wk"
  rw [c_piece H.part.pie (by omega)]
  walk_at "wk"
  rw [c_long H.long (by omega)]
  walk_at "wk"
  rw [c_piece H.part.pie (by omega)]
  walk_at "wk"
  refine ⟨by simp; omega, ?_⟩
  have ho := @outSp_len xs f l
  refine w_plain (xs := outSp xs f l) H.toHasPlain (by simp [itemsT, outSp]) (outSp_ok hx) (by omega) (fun c2 => ?_) (fun c2 => ?_)
  · rw [outSp_signs hx] at c2 ⊢
    walk_at "wk"
    exact q1 c c2
  · rw [outSp_signs hx] at c2
    exact q2 c c2
theorem c_made_without {p : Prg} (H : HasWhole p) (hp : Has p "without" f_without) {k : Nat} {xs : List Sp} {f l : Int} {hs : Hs} (hx : ∀ x ∈ xs, okSp x = true) (hl : xs.length ≤ 100000) : callK p (k + 8) "_law_made" [.str "without", .lst [.tup (xs.map sp), .int f, .int l]] hs = .ok (.val (dueOut xs f l)) hs := by
  rw [← wp_eq]
  refine w_run H.mad rfl ?_
  unfold f__law_made
  walk_at "wk"
  refine f_try ?_
  walk_at "wk"
  simp only [st5, st6, st7, st8, sn5, sn6, sn7, true_and, Bool.false_eq_true, false_imp_iff, not_false_eq_true, true_imp_iff]
  refine w_without H.toHasFuns hp hx hl (fun c c2 => ?_) (fun c c2 => ?_) (fun b c => ?_)
  · walk_at "wk"
    unfold dueOut duePg
    rw [c]
    simp only
    rw [if_pos c2]
    rfl
  · refine try_pg H.exc (by omega) (by simp) ?_
    walk_at "wk"
    unfold dueOut duePg
    rw [c]
    simp only
    rw [if_neg (by rw [c2]; simp)]
    rfl
  · refine try_np H.exc (by omega) (by simp) ?_
    walk_at "wk"
    unfold dueOut
    rw [c]
    rfl
def cutSg (xs : List Sp) (f l : Int) : List Sg := ((signsOf xs).take l.toNat).drop f.toNat
def shSg (xs : List Sp) (f l a : Int) : List Sg := (outSg xs f l).take a.toNat ++ cutSg xs f l ++ (outSg xs f l).drop a.toNat
theorem shSg_ok {xs : List Sp} {f l a : Int} (h : ∀ x ∈ xs, okSp x = true) : ∀ q ∈ shSg xs f l a, okSg q := fun q hq => by
  unfold shSg at hq
  rcases List.mem_append.mp hq with hq | hq
  · rcases List.mem_append.mp hq with hq | hq
    · exact outSg_ok h q (List.mem_of_mem_take hq)
    · exact signsOf_ok h q (List.mem_of_mem_take (List.mem_of_mem_drop hq))
  · exact outSg_ok h q (List.mem_of_mem_drop hq)
def dueSh (xs : List Sp) (f l a : Int) : T := match badPart (longOf xs) f l with
  | [] => if 0 ≤ a ∧ a ≤ longOf xs - (l - f) then duePg (shSg xs f l a) else made .non "asked NoPlace+" (.int a)
  | b :: _ => made .non "asked NoPlace+" (.int b)
theorem w_shifted {p : Prg} (H : HasFuns p) (hp : Has p "shifted" f_shifted) {k : Nat} {xs : List Sp} {f l a : Int} {hs : Hs} {Q : R → Hs → Prop} {X : T → Hs → Prop} (hx : ∀ x ∈ xs, okSp x = true) (hl : xs.length ≤ 100000)
    (q1 : badPart (longOf xs) f l = [] → 0 ≤ a ∧ a ≤ longOf xs - (l - f) → isPage (.tup ((pageOf (shSg xs f l a)).map sp)) = true → Q (.val (.tup ((pageOf (shSg xs f l a)).map sp))) hs) (q2 : badPart (longOf xs) f l = [] → 0 ≤ a ∧ a ≤ longOf xs - (l - f) → isPage (.tup ((pageOf (shSg xs f l a)).map sp)) = false → X tooLong hs)
    (q3 : ∀ b, badPart (longOf xs) f l = [b] → X (noPlace (.int b)) hs) (q4 : badPart (longOf xs) f l = [] → ¬ (0 ≤ a ∧ a ≤ longOf xs - (l - f)) → X (noPlace (.int a)) hs) : wp (callK p (k + 6) "shifted" [.tup (xs.map sp), .int f, .int l, .int a] hs) Q X := by
  refine w_run hp rfl ?_
  unfold f_shifted
  have hsz := size_ge
  have l1 := @pieceFrom_len 0 f xs 0
  have l2 := @pieceFrom_len l (longOf xs) xs 0
  have ho := @outSp_len xs f l
  have hoo := outSp_ok (f := f) (l := l) hx
  have l3 := @pieceFrom_len f l xs 0
  have l4 := @pieceFrom_len 0 a (outSp xs f l) 0
  have l5 := @pieceFrom_len a (longOf (outSp xs f l)) (outSp xs f l) 0
  walk_at "wk"
  refine w_need_part H.part (by omega) (fun c => ?_) q3
  walk_at "wk"
  rw [c_long H.long (by omega)]
  walk_at "wk"
  refine w_need_place H.part (fun d => ?_) (fun d => q4 c d)
  walk_at "wk"
  rw [c_piece H.part.pie (by omega)]
  walk_at "wk"
  rw [c_long H.long (by omega)]
  walk_at "wk"
  rw [c_piece H.part.pie (by omega)]
  walk_at "wk"
  refine ⟨by simp; omega, ?_⟩
  rw [show (pieceFrom 0 f 0 xs).map sp ++ (pieceFrom l (longOf xs) 0 xs).map sp = (outSp xs f l).map sp from by unfold outSp; simp]
  rw [c_long H.long (by omega)]
  walk_at "wk"
  rw [c_piece H.part.pie (by omega)]
  walk_at "wk"
  rw [c_piece H.part.pie (by omega)]
  walk_at "wk"
  refine ⟨by simp; omega, ?_⟩
  rw [c_piece H.part.pie (by omega)]
  walk_at "wk"
  refine ⟨by simp; omega, ?_⟩
  have hs3 : signsOf (pieceFrom 0 a 0 (outSp xs f l) ++ pieceFrom f l 0 xs ++ pieceFrom a (longOf (outSp xs f l)) 0 (outSp xs f l)) = shSg xs f l a := by
    rw [signsOf_append, signsOf_append, sg_take hoo, sg_drop hoo, outSp_signs hx, piece_signs (okSp_le hx), Int.sub_zero, Int.sub_zero]; rfl
  refine w_plain (xs := pieceFrom 0 a 0 (outSp xs f l) ++ pieceFrom f l 0 xs ++ pieceFrom a (longOf (outSp xs f l)) 0 (outSp xs f l)) H.toHasPlain (by simp [itemsT]) (fun x hx' => ?_) (by simp; omega) (fun c2 => ?_) (fun c2 => ?_)
  · rcases List.mem_append.mp hx' with h | h
    · rcases List.mem_append.mp h with h | h
      · exact piece_ok hoo x h
      · exact piece_ok hx x h
    · exact piece_ok hoo x h
  · rw [hs3] at c2 ⊢
    walk_at "wk"
    exact q1 c d c2
  · rw [hs3] at c2
    exact q2 c d c2
theorem c_made_shifted {p : Prg} (H : HasWhole p) (hp : Has p "shifted" f_shifted) {k : Nat} {xs : List Sp} {f l a : Int} {hs : Hs} (hx : ∀ x ∈ xs, okSp x = true) (hl : xs.length ≤ 100000) : callK p (k + 8) "_law_made" [.str "shifted", .lst [.tup (xs.map sp), .int f, .int l, .int a]] hs = .ok (.val (dueSh xs f l a)) hs := by
  rw [← wp_eq]
  refine w_run H.mad rfl ?_
  unfold f__law_made
  walk_at "wk"
  refine f_try ?_
  walk_at "wk"
  simp only [st9, st10, st11, st12, st13, sn9, sn10, sn11, sn12, true_and, Bool.false_eq_true, false_imp_iff, not_false_eq_true, true_imp_iff]
  refine w_shifted H.toHasFuns hp hx hl (fun c d c2 => ?_) (fun c d c2 => ?_) (fun b c => ?_) (fun c d => ?_)
  · walk_at "wk"
    unfold dueSh duePg
    rw [c]
    simp only
    rw [if_pos d, if_pos c2]
    rfl
  · refine try_pg H.exc (by omega) (by simp) ?_
    walk_at "wk"
    unfold dueSh duePg
    rw [c]
    simp only
    rw [if_pos d, if_neg (by rw [c2]; simp)]
    rfl
  · refine try_np H.exc (by omega) (by simp) ?_
    walk_at "wk"
    unfold dueSh
    rw [c]
    rfl
  · refine try_np H.exc (by omega) (by simp) ?_
    walk_at "wk"
    unfold dueSh
    rw [c]
    simp only
    rw [if_neg d]
    rfl
end Fx

namespace Fx
open PySem L2
local macro_rules | `(tactic| walk_at "wk") => `(tactic| simp only [↓w_con, ↓w_var, vV_v, vV_o, ↓w_bin, ↓w_not, ↓w_and, ↓w_or, ↓w_and1, ↓w_and2, ↓w_or1, ↓w_or2, ↓w_cmp, ↓w_chn, ↓w_ch1, ↓w_ch2, ↓w_isN, ↓w_ite, ↓w_tup, ↓w_lst, ↓w_slc, ↓w_call2, ↓w_bi, ↓w_isi, ↓w_idx, ↓w_neg, ↓w_mth, ↓w_ono, ↓w_oso, ↓w_cno, ↓w_cso, ↓w_nil, ↓w_cons, ↓w_pnil, ↓w_pcons, ↓w_ival, ↓w_rng1, ↓w_rng2, ↓w_zip, ↓w_zipk, ↓w_enu, ↓w_isB, ↓w_rev, ↓w_lrng1, ↓w_lrng2, vV_l, lV_i, r2V_i, zV_l, zV_t, ↓w_lc, ↓w_lc2,
  ↓w_ok, ↓w_exc, ↓w_stuck, ↓w_bind, ↓w_ofc, ↓w_ofs, ↓w_ofn, ↓w_ofm, ↓w_if, ↓w_sel, ↓f_nx, ↓f_rt, ↓f_exc, ↓f_stuck, ↓f_bind, ↓f_fl, ↓f_if, ↓f_sel, ↓f_nil, ↓f_cons, ↓f_pass, ↓f_expr, ↓f_asg, ↓f_asgO, ↓f_asgB, ↓f_ret, ↓f_retN, ↓f_ite, ↓f_forr,
  ↓f_app2, mV_o, mV_r, ceV_l, ↓f_seti2, mD_o, mD_r, xV_i, ↓f_aug, sV_v, augT_add, augT_sub, ↓f_asgT, tV_t, putEs_c, putEs_n, ↓f_par, twV, sz0, sz1, sz2, sz3, sz4, sz5, sz6, sz7, sz8, sz9, sz10, sz11, sz12, sz13, sz14, sz15, sz16, sz17, sz18, sz19, sz20, sz21, sz22, sz23, sz24, sz25, sz26, sz27, sz28, sz29, sz30, w_ok, w_ofc, w_ofs, w_ofn, w_ofm, w_if, w_sel, f_sel, f_if,
  P.t_val, P.t_new, P.t_pk, P.k_val, P.k_new, P.k_pk, P.u_t, P.u_k, P.ret_val, P.ret_new, P.ret_pk, R.p_val, R.p_new, truthB_bl, Cell.t_lst,
  oB_add, oB_adds, oB_addb, oB_subb, fStr_b, nV_b, oB_addl, oB_addt, oB_sub, oB_mul, oB_mull, oB_div, oB_mod, oB_pow, oC_eq, oC_ne, oC_lt, oC_le, oC_gt, oC_ge, oC_in, oC_notin, oC_inl, oC_notinl, oC_lts, oC_gts, oC_les, oC_ges, oC_ltt, oC_ltl, oB_mult, fSort_l, fSort_t, fOrd_c, okEq_ii, okEq_bb, okEq_ss, eqT_ii, eqT_bb, eqT_ss, opI_l, opI_c, opI_t, opI_s, opS_l, opS_t, opS_s, iV_l, iV_t, iV_s, iV_c, nV_i, oV_i, rV_i, aV_v, aV_n, aO_n, aB_n, cV_v, cV_n,
  fLen_l, fLen_t, fLen_c, fLen_s, fAbs_i, fMin_i, fMax_i, fSum_l, fAll_l, fAny_l, fInt_i, fInt_b, fStr_i, fStr_s, fList_l, fList_t, fTuple_l, fTuple_t, mJoin_l, mUp_s, isI_non, isI_bl, isI_int, isI_str, isI_tup, isI_lst, itemsT_l, itemsT_t, itemsT_s, exV_some, exV_map, exV_if, atI_0, atI_1, atI_2, atI_3, atI_4,
  T.ty, Mt.ty, T.isNon, isTy, startE, wipeE, beq_self_eq_true,
  List.map_cons, List.map_nil, List.length_cons, List.length_nil, List.replicate, List.cons_append, List.nil_append, List.getElem?_cons_zero, List.getElem?_cons_succ, List.getElem?_nil, List.set_cons_zero, List.set_cons_succ, List.any_cons, List.any_nil, List.all_cons, List.all_nil,
  Option.map_some, Option.map_none, Option.bind_some, Option.bind_none, Nat.sub_self, Nat.zero_add, Nat.add_zero, Nat.reduceAdd, Nat.reduceSub, Nat.reduceEqDiff, Int.reduceToNat, Int.reducePow, Int.reduceLT, Int.reduceLE, Int.reduceAdd, Int.reduceSub, Int.reduceMul, Int.reduceNeg, Int.reduceBEq, Nat.reduceLT, Nat.reduceLeDiff, Nat.reducePow, gt_iff_lt, ge_iff_le, if_true, if_false, Bool.not_true, Bool.not_false, Bool.or_true, Bool.or_false, Bool.true_or, Bool.false_or, Bool.and_true, Bool.and_false, Bool.true_and, Bool.false_and,
  reduceCtorEq, decide_true, decide_false, Bool.false_eq_true, Bool.true_eq_false, decide_eq_true_eq, decide_eq_false_iff_not, eq_self, Bool.not_eq_true', Bool.not_eq_false', Bool.not_not, false_imp_iff, true_and, and_true, false_and, and_false, not_true_eq_false, not_false_eq_true, implies_true, true_implies, false_implies])
local macro_rules | `(tactic| walk_at "cj") => `(tactic| (repeat' (first | (refine And.intro ?_ ?_) | decide | omega | assumption)))

/-! ### short pages are pages -/
theorem pageOf_spans : ∀ {xs : List Sp}, (∀ x ∈ xs, okSp x = true) → (pageOf (signsOf xs)).length ≤ xs.length := by
  refine fun {xs} => snoc_ind (M := fun done => (∀ x ∈ done, okSp x = true) → (pageOf (signsOf done)).length ≤ done.length) (fun _ => by simp [signsOf, pageOf]) (fun l a ih h => ?_) xs
  rw [← mrg_page (h a (by simp))]
  have := ih fun x hx' => h x (by simp [hx'])
  rcases List.eq_nil_or_concat (pageOf (signsOf l)) with e | ⟨r, y, e⟩
  · rw [e]; simp [mrg]
  · rw [List.concat_eq_append] at e
    rw [e] at this ⊢
    rw [mrg_snoc]
    split
    · simp at this ⊢; omega
    · simp at this ⊢; omega
theorem isPage_pg {P : List Sp} (h : Pg P) (hl : P.length ≤ 60) (hs : (signsOf P).length ≤ 2000) : isPage (.tup (P.map sp)) = true := by
  rw [isPage_sp h.ok hl, h.ad, longOf_signs (okSp_le h.ok)]
  simp
  omega
theorem isPage_of {xs : List Sp} {l : List Sg} (h : ∀ x ∈ xs, okSp x = true) (e : signsOf xs = l) (hl : xs.length ≤ 60) (hs : l.length ≤ 2000) : isPage (.tup ((pageOf l).map sp)) = true := by
  subst e
  have pg := pageOf_pg (signsOf_ok h)
  exact isPage_pg pg.1 (Nat.le_trans (pageOf_spans h) hl) (by rw [pg.2]; exact hs)
/-! ### what comes back -/
section
variable {α : Type} {S Y : List α} {f l a : Nat}
theorem len_take (h : a ≤ S.length) : (S.take a).length = a := by rw [List.length_take, Nat.min_eq_left h]
theorem back_put (h1 : f ≤ l) (h2 : l ≤ S.length) : (S.take f ++ S.drop l).take f ++ (S.take l).drop f ++ (S.take f ++ S.drop l).drop f = S := by
  rw [List.take_left' (len_take (by omega)), List.drop_left' (len_take (by omega))]
  rw [show S.take f = (S.take l).take f from by rw [List.take_take, Nat.min_eq_left h1], List.take_append_drop, List.take_append_drop]
theorem back_out (h : a ≤ S.length) : (S.take a ++ Y ++ S.drop a).take a ++ (S.take a ++ Y ++ S.drop a).drop (a + Y.length) = S := by
  rw [List.drop_left' (by rw [List.length_append, len_take h]), List.append_assoc, List.take_left' (len_take h), List.take_append_drop]
theorem back_cut (h : a ≤ S.length) : ((S.take a ++ Y ++ S.drop a).take (a + Y.length)).drop a = Y := by
  rw [List.take_left' (by rw [List.length_append, len_take h]), List.drop_left' (len_take h)]
end
end Fx

namespace Fx
open PySem L2
local macro_rules | `(tactic| walk_at "wk") => `(tactic| simp only [↓w_con, ↓w_var, vV_v, vV_o, ↓w_bin, ↓w_not, ↓w_and, ↓w_or, ↓w_and1, ↓w_and2, ↓w_or1, ↓w_or2, ↓w_cmp, ↓w_chn, ↓w_ch1, ↓w_ch2, ↓w_isN, ↓w_ite, ↓w_tup, ↓w_lst, ↓w_slc, ↓w_call2, ↓w_bi, ↓w_isi, ↓w_idx, ↓w_neg, ↓w_mth, ↓w_ono, ↓w_oso, ↓w_cno, ↓w_cso, ↓w_nil, ↓w_cons, ↓w_pnil, ↓w_pcons, ↓w_ival, ↓w_rng1, ↓w_rng2, ↓w_zip, ↓w_zipk, ↓w_enu, ↓w_isB, ↓w_rev, ↓w_lrng1, ↓w_lrng2, vV_l, lV_i, r2V_i, zV_l, zV_t, ↓w_lc, ↓w_lc2,
  ↓w_ok, ↓w_exc, ↓w_stuck, ↓w_bind, ↓w_ofc, ↓w_ofs, ↓w_ofn, ↓w_ofm, ↓w_if, ↓w_sel, ↓f_nx, ↓f_rt, ↓f_exc, ↓f_stuck, ↓f_bind, ↓f_fl, ↓f_if, ↓f_sel, ↓f_nil, ↓f_cons, ↓f_pass, ↓f_expr, ↓f_asg, ↓f_asgO, ↓f_asgB, ↓f_ret, ↓f_retN, ↓f_ite, ↓f_forr,
  ↓f_app2, mV_o, mV_r, ceV_l, ↓f_seti2, mD_o, mD_r, xV_i, ↓f_aug, sV_v, augT_add, augT_sub, ↓f_asgT, tV_t, putEs_c, putEs_n, ↓f_par, twV, sz0, sz1, sz2, sz3, sz4, sz5, sz6, sz7, sz8, sz9, sz10, sz11, sz12, sz13, sz14, sz15, sz16, sz17, sz18, sz19, sz20, sz21, sz22, sz23, sz24, sz25, sz26, sz27, sz28, sz29, sz30, w_ok, w_ofc, w_ofs, w_ofn, w_ofm, w_if, w_sel, f_sel, f_if,
  P.t_val, P.t_new, P.t_pk, P.k_val, P.k_new, P.k_pk, P.u_t, P.u_k, P.ret_val, P.ret_new, P.ret_pk, R.p_val, R.p_new, truthB_bl, Cell.t_lst,
  oB_add, oB_adds, oB_addb, oB_subb, fStr_b, nV_b, oB_addl, oB_addt, oB_sub, oB_mul, oB_mull, oB_div, oB_mod, oB_pow, oC_eq, oC_ne, oC_lt, oC_le, oC_gt, oC_ge, oC_in, oC_notin, oC_inl, oC_notinl, oC_lts, oC_gts, oC_les, oC_ges, oC_ltt, oC_ltl, oB_mult, fSort_l, fSort_t, fOrd_c, okEq_ii, okEq_bb, okEq_ss, eqT_ii, eqT_bb, eqT_ss, opI_l, opI_c, opI_t, opI_s, opS_l, opS_t, opS_s, iV_l, iV_t, iV_s, iV_c, nV_i, oV_i, rV_i, aV_v, aV_n, aO_n, aB_n, cV_v, cV_n,
  fLen_l, fLen_t, fLen_c, fLen_s, fAbs_i, fMin_i, fMax_i, fSum_l, fAll_l, fAny_l, fInt_i, fInt_b, fStr_i, fStr_s, fList_l, fList_t, fTuple_l, fTuple_t, mJoin_l, mUp_s, isI_non, isI_bl, isI_int, isI_str, isI_tup, isI_lst, itemsT_l, itemsT_t, itemsT_s, exV_some, exV_map, exV_if, atI_0, atI_1, atI_2, atI_3, atI_4,
  T.ty, Mt.ty, T.isNon, isTy, startE, wipeE, beq_self_eq_true,
  List.map_cons, List.map_nil, List.length_cons, List.length_nil, List.replicate, List.cons_append, List.nil_append, List.getElem?_cons_zero, List.getElem?_cons_succ, List.getElem?_nil, List.set_cons_zero, List.set_cons_succ, List.any_cons, List.any_nil, List.all_cons, List.all_nil,
  Option.map_some, Option.map_none, Option.bind_some, Option.bind_none, Nat.sub_self, Nat.zero_add, Nat.add_zero, Nat.reduceAdd, Nat.reduceSub, Nat.reduceEqDiff, Int.reduceToNat, Int.reducePow, Int.reduceLT, Int.reduceLE, Int.reduceAdd, Int.reduceSub, Int.reduceMul, Int.reduceNeg, Int.reduceBEq, Nat.reduceLT, Nat.reduceLeDiff, Nat.reducePow, gt_iff_lt, ge_iff_le, if_true, if_false, Bool.not_true, Bool.not_false, Bool.or_true, Bool.or_false, Bool.true_or, Bool.false_or, Bool.and_true, Bool.and_false, Bool.true_and, Bool.false_and,
  reduceCtorEq, decide_true, decide_false, Bool.false_eq_true, Bool.true_eq_false, decide_eq_true_eq, decide_eq_false_iff_not, eq_self, Bool.not_eq_true', Bool.not_eq_false', Bool.not_not, false_imp_iff, true_and, and_true, false_and, and_false, not_true_eq_false, not_false_eq_true, implies_true, true_implies, false_implies])
local macro_rules | `(tactic| walk_at "cj") => `(tactic| (repeat' (first | (refine And.intro ?_ ?_) | decide | omega | assumption)))

/-! ### the page functions asked of pages, where none refuses -/
theorem bp_nil {m f l : Int} (h0 : 0 ≤ f) (h1 : f ≤ l) (h2 : l ≤ m) : badPart m f l = [] := by
  unfold badPart
  rw [if_pos ⟨h0, by omega⟩, if_pos ⟨h1, h2⟩]
  rfl
theorem page_eq {xs : List Sp} (h : ∀ x ∈ xs, okSp x = true) : okEq (.tup (xs.map sp)) (.tup (xs.map sp)) = true ∧ eqT (.tup (xs.map sp)) (.tup (xs.map sp)) = true := by
  have hD : (T.tup (xs.map sp)).isD = true := sps_isD (okSp_nam h)
  exact ⟨okEq_self hD (by have := @sps_dep xs; simp only [T.dep]; omega), eqT_self _ hD⟩
theorem Pg.same {P xs : List Sp} (a : Pg P) (b : Pg xs) (e : signsOf P = signsOf xs) : P = xs := by
  rw [← pageOf_canon a, ← pageOf_canon b, e]
theorem pg_long {xs : List Sp} (h : Pg xs) : longOf xs = ((signsOf xs).length : Int) := longOf_signs (okSp_le h.ok)
theorem w_part1 {p : Prg} (H : HasPart p) (hp : Has p "part" f_part) {k : Nat} {xs : List Sp} {f l : Int} {hs : Hs} {Q : R → Hs → Prop} {X : T → Hs → Prop} (hx : Pg xs) (hl : xs.length ≤ 1000000) (h0 : 0 ≤ f) (h1 : f ≤ l) (h2 : l ≤ longOf xs)
    (q : ∀ P, Pg P → signsOf P = ((signsOf xs).take l.toNat).drop f.toNat → P.length ≤ xs.length → Q (.val (.tup (P.map sp))) hs) : wp (callK p (k + 5) "part" [.tup (xs.map sp), .int f, .int l] hs) Q X := by
  have bp := bp_nil h0 h1 h2
  refine w_part H hp hl (fun _ => ?_) (fun b z => by rw [bp] at z; cases z)
  exact q _ (piece_pg hx) (by rw [piece_signs (okSp_le hx.ok), Int.sub_zero, Int.sub_zero]) pieceFrom_len
theorem w_without1 {p : Prg} (H : HasFuns p) (hp : Has p "without" f_without) {k : Nat} {xs : List Sp} {f l : Int} {hs : Hs} {Q : R → Hs → Prop} {X : T → Hs → Prop} (hx : Pg xs) (hl : xs.length ≤ 30) (hs2 : (signsOf xs).length ≤ 2000) (h0 : 0 ≤ f) (h1 : f ≤ l) (h2 : l ≤ longOf xs)
    (q : ∀ P, Pg P → signsOf P = (signsOf xs).take f.toNat ++ (signsOf xs).drop l.toNat → P.length ≤ 2 * xs.length → Q (.val (.tup (P.map sp))) hs) : wp (callK p (k + 6) "without" [.tup (xs.map sp), .int f, .int l] hs) Q X := by
  have bp := bp_nil h0 h1 h2
  rw [pg_long hx] at h2
  have hlen := @outSp_len xs f l
  have es := outSp_signs (f := f) (l := l) hx.ok
  have ps := pageOf_spans (outSp_ok (f := f) (l := l) hx.ok)
  have pg := pageOf_pg (signsOf_ok (outSp_ok (f := f) (l := l) hx.ok))
  have sl : (outSg xs f l).length ≤ 2000 := by unfold outSg; simp only [List.length_append, List.length_take, List.length_drop]; omega
  have ip := isPage_of (outSp_ok (f := f) (l := l) hx.ok) es (by omega) sl
  rw [es] at ps pg
  refine w_without H hp hx.ok (by omega) (fun _ _ => q _ pg.1 pg.2 (by omega)) (fun _ z => by rw [ip] at z; cases z) (fun b z => by rw [bp] at z; cases z)
theorem w_put1 {p : Prg} (H : HasFuns p) (hp : Has p "put" f_put) {k : Nat} {xs ys : List Sp} {a : Int} {hs : Hs} {Q : R → Hs → Prop} {X : T → Hs → Prop} (hx : Pg xs) (hy : Pg ys) (hl : 2 * xs.length + ys.length ≤ 60) (hs2 : (signsOf xs).length + (signsOf ys).length ≤ 2000) (h0 : 0 ≤ a) (h1 : a ≤ longOf xs)
    (q : ∀ P, Pg P → signsOf P = (signsOf xs).take a.toNat ++ signsOf ys ++ (signsOf xs).drop a.toNat → P.length ≤ 2 * xs.length + ys.length → Q (.val (.tup (P.map sp))) hs) : wp (callK p (k + 6) "put" [.tup (xs.map sp), .int a, .tup (ys.map sp)] hs) Q X := by
  have l1 := @pieceFrom_len 0 a xs 0
  have l2 := @pieceFrom_len a (longOf xs) xs 0
  have ok3 : ∀ x ∈ pieceFrom 0 a 0 xs ++ ys ++ pieceFrom a (longOf xs) 0 xs, okSp x = true := fun x h => by
    rcases List.mem_append.mp h with h | h
    · rcases List.mem_append.mp h with h | h
      · exact piece_ok hx.ok x h
      · exact hy.ok x h
    · exact piece_ok hx.ok x h
  have es : signsOf (pieceFrom 0 a 0 xs ++ ys ++ pieceFrom a (longOf xs) 0 xs) = putSg xs ys a := by
    rw [signsOf_append, signsOf_append, sg_take hx.ok, sg_drop hx.ok]; rfl
  have ps := pageOf_spans ok3
  have pg := pageOf_pg (signsOf_ok ok3)
  have sl : (putSg xs ys a).length ≤ 2000 := by unfold putSg; simp only [List.length_append, List.length_take, List.length_drop]; omega
  have ip := isPage_of ok3 es (by simp only [List.length_append]; omega) sl
  rw [es] at ps pg
  simp only [List.length_append] at ps
  refine w_put H hp hx.ok hy.ok (by omega) (by omega) (fun _ _ => q _ pg.1 pg.2 (by omega)) (fun _ z => by rw [ip] at z; cases z) (fun z => absurd ⟨h0, h1⟩ z)
theorem w_shifted1 {p : Prg} (H : HasFuns p) (hp : Has p "shifted" f_shifted) {k : Nat} {xs : List Sp} {f l a : Int} {hs : Hs} {Q : R → Hs → Prop} {X : T → Hs → Prop} (hx : Pg xs) (hl : xs.length ≤ 60) (hs2 : (signsOf xs).length ≤ 2000) (h0 : 0 ≤ f) (h1 : f ≤ l) (h2 : l ≤ longOf xs) (a0 : 0 ≤ a) (a1 : a ≤ longOf xs - (l - f))
    (hle : (∀ P, Pg P → signsOf P = shSg xs f l a → P.length ≤ 5 * xs.length → P.length ≤ 60)) (q : ∀ P, Pg P → signsOf P = shSg xs f l a → P.length ≤ 60 → Q (.val (.tup (P.map sp))) hs) : wp (callK p (k + 6) "shifted" [.tup (xs.map sp), .int f, .int l, .int a] hs) Q X := by
  have bp := bp_nil h0 h1 h2
  rw [pg_long hx] at h2
  have hoo := outSp_ok (f := f) (l := l) hx.ok
  have ho := @outSp_len xs f l
  have l3 := @pieceFrom_len f l xs 0
  have l4 := @pieceFrom_len 0 a (outSp xs f l) 0
  have l5 := @pieceFrom_len a (longOf (outSp xs f l)) (outSp xs f l) 0
  have ok3 : ∀ x ∈ pieceFrom 0 a 0 (outSp xs f l) ++ pieceFrom f l 0 xs ++ pieceFrom a (longOf (outSp xs f l)) 0 (outSp xs f l), okSp x = true := fun x h => by
    rcases List.mem_append.mp h with h | h
    · rcases List.mem_append.mp h with h | h
      · exact piece_ok hoo x h
      · exact piece_ok hx.ok x h
    · exact piece_ok hoo x h
  have es : signsOf (pieceFrom 0 a 0 (outSp xs f l) ++ pieceFrom f l 0 xs ++ pieceFrom a (longOf (outSp xs f l)) 0 (outSp xs f l)) = shSg xs f l a := by
    rw [signsOf_append, signsOf_append, sg_take hoo, sg_drop hoo, outSp_signs hx.ok, piece_signs (okSp_le hx.ok), Int.sub_zero, Int.sub_zero]; rfl
  have ps := pageOf_spans ok3
  have pg := pageOf_pg (signsOf_ok ok3)
  have sl : (shSg xs f l a).length ≤ 2000 := by unfold shSg outSg cutSg; simp only [List.length_append, List.length_take, List.length_drop]; omega
  rw [es] at ps pg
  simp only [List.length_append] at ps
  have h60 := hle _ pg.1 pg.2 (by omega)
  have ip := isPage_pg pg.1 h60 (by rw [pg.2]; exact sl)
  refine w_shifted H hp hx.ok (by omega) (fun _ _ _ => q _ pg.1 pg.2 h60) (fun _ _ z => by rw [ip] at z; cases z) (fun b z => by rw [bp] at z; cases z) (fun _ z => absurd ⟨a0, a1⟩ z)
end Fx

namespace Fx
open PySem L2
local macro_rules | `(tactic| walk_at "wk") => `(tactic| simp only [↓w_con, ↓w_var, vV_v, vV_o, ↓w_bin, ↓w_not, ↓w_and, ↓w_or, ↓w_and1, ↓w_and2, ↓w_or1, ↓w_or2, ↓w_cmp, ↓w_chn, ↓w_ch1, ↓w_ch2, ↓w_isN, ↓w_ite, ↓w_tup, ↓w_lst, ↓w_slc, ↓w_call2, ↓w_bi, ↓w_isi, ↓w_idx, ↓w_neg, ↓w_mth, ↓w_ono, ↓w_oso, ↓w_cno, ↓w_cso, ↓w_nil, ↓w_cons, ↓w_pnil, ↓w_pcons, ↓w_ival, ↓w_rng1, ↓w_rng2, ↓w_zip, ↓w_zipk, ↓w_enu, ↓w_isB, ↓w_rev, ↓w_lrng1, ↓w_lrng2, vV_l, lV_i, r2V_i, zV_l, zV_t, ↓w_lc, ↓w_lc2,
  ↓w_ok, ↓w_exc, ↓w_stuck, ↓w_bind, ↓w_ofc, ↓w_ofs, ↓w_ofn, ↓w_ofm, ↓w_if, ↓w_sel, ↓f_nx, ↓f_rt, ↓f_exc, ↓f_stuck, ↓f_bind, ↓f_fl, ↓f_if, ↓f_sel, ↓f_nil, ↓f_cons, ↓f_pass, ↓f_expr, ↓f_asg, ↓f_asgO, ↓f_asgB, ↓f_ret, ↓f_retN, ↓f_ite, ↓f_forr,
  ↓f_app2, mV_o, mV_r, ceV_l, ↓f_seti2, mD_o, mD_r, xV_i, ↓f_aug, sV_v, augT_add, augT_sub, ↓f_asgT, tV_t, putEs_c, putEs_n, ↓f_par, twV, sz0, sz1, sz2, sz3, sz4, sz5, sz6, sz7, sz8, sz9, sz10, sz11, sz12, sz13, sz14, sz15, sz16, sz17, sz18, sz19, sz20, sz21, sz22, sz23, sz24, sz25, sz26, sz27, sz28, sz29, sz30, w_ok, w_ofc, w_ofs, w_ofn, w_ofm, w_if, w_sel, f_sel, f_if,
  P.t_val, P.t_new, P.t_pk, P.k_val, P.k_new, P.k_pk, P.u_t, P.u_k, P.ret_val, P.ret_new, P.ret_pk, R.p_val, R.p_new, truthB_bl, Cell.t_lst,
  oB_add, oB_adds, oB_addb, oB_subb, fStr_b, nV_b, oB_addl, oB_addt, oB_sub, oB_mul, oB_mull, oB_div, oB_mod, oB_pow, oC_eq, oC_ne, oC_lt, oC_le, oC_gt, oC_ge, oC_in, oC_notin, oC_inl, oC_notinl, oC_lts, oC_gts, oC_les, oC_ges, oC_ltt, oC_ltl, oB_mult, fSort_l, fSort_t, fOrd_c, okEq_ii, okEq_bb, okEq_ss, eqT_ii, eqT_bb, eqT_ss, opI_l, opI_c, opI_t, opI_s, opS_l, opS_t, opS_s, iV_l, iV_t, iV_s, iV_c, nV_i, oV_i, rV_i, aV_v, aV_n, aO_n, aB_n, cV_v, cV_n,
  fLen_l, fLen_t, fLen_c, fLen_s, fAbs_i, fMin_i, fMax_i, fSum_l, fAll_l, fAny_l, fInt_i, fInt_b, fStr_i, fStr_s, fList_l, fList_t, fTuple_l, fTuple_t, mJoin_l, mUp_s, isI_non, isI_bl, isI_int, isI_str, isI_tup, isI_lst, itemsT_l, itemsT_t, itemsT_s, exV_some, exV_map, exV_if, atI_0, atI_1, atI_2, atI_3, atI_4,
  T.ty, Mt.ty, T.isNon, isTy, startE, wipeE, beq_self_eq_true,
  List.map_cons, List.map_nil, List.length_cons, List.length_nil, List.replicate, List.cons_append, List.nil_append, List.getElem?_cons_zero, List.getElem?_cons_succ, List.getElem?_nil, List.set_cons_zero, List.set_cons_succ, List.any_cons, List.any_nil, List.all_cons, List.all_nil,
  Option.map_some, Option.map_none, Option.bind_some, Option.bind_none, Nat.sub_self, Nat.zero_add, Nat.add_zero, Nat.reduceAdd, Nat.reduceSub, Nat.reduceEqDiff, Int.reduceToNat, Int.reducePow, Int.reduceLT, Int.reduceLE, Int.reduceAdd, Int.reduceSub, Int.reduceMul, Int.reduceNeg, Int.reduceBEq, Nat.reduceLT, Nat.reduceLeDiff, Nat.reducePow, gt_iff_lt, ge_iff_le, if_true, if_false, Bool.not_true, Bool.not_false, Bool.or_true, Bool.or_false, Bool.true_or, Bool.false_or, Bool.and_true, Bool.and_false, Bool.true_and, Bool.false_and,
  reduceCtorEq, decide_true, decide_false, Bool.false_eq_true, Bool.true_eq_false, decide_eq_true_eq, decide_eq_false_iff_not, eq_self, Bool.not_eq_true', Bool.not_eq_false', Bool.not_not, false_imp_iff, true_and, and_true, false_and, and_false, not_true_eq_false, not_false_eq_true, implies_true, true_implies, false_implies])
local macro_rules | `(tactic| walk_at "cj") => `(tactic| (repeat' (first | (refine And.intro ?_ ?_) | decide | omega | assumption)))

/-! ### whole numbers in order -/
theorem sort_ints (l : List Int) : ∃ cs : List Int, sortT (l.map T.int) = cs.map T.int ∧ cs.Pairwise (fun a b => a ≤ b) ∧ (∀ c ∈ cs, c ∈ l) ∧ cs.length = l.length := by
  refine ⟨l.mergeSort (fun a b => decide (a ≤ b)), ?_, ?_, fun c hc => List.mem_mergeSort.mp hc, List.length_mergeSort l⟩
  · unfold sortT
    symm
    apply List.map_mergeSort
    intro a _ b _
    exact (congrFun (congrFun (PySem.W.dataLe_int (β := Int) id) a) b).symm
  · have := List.pairwise_mergeSort (le := fun a b : Int => decide (a ≤ b)) (by intro a b c; simp; omega) (by intro a b; simp; omega) l
    simpa using this
theorem okSort_ints {l : List Int} (h : l.length ≤ sizeLine) : okSort (l.map T.int) = true :=
  okSort_map (e := T.int) (fun _ _ => rfl) (fun _ _ _ _ => rfl) (.inr fun _ _ => rfl) (fun _ _ => by simp [T.dep]) h
theorem ints_of {ys : List T} {P : Int → Prop} (h : ∀ z ∈ ys, ∃ i : Int, z = .int i ∧ P i) : ∃ l : List Int, ys = l.map T.int ∧ ∀ i ∈ l, P i := by
  induction ys with
  | nil => exact ⟨[], rfl, by simp⟩
  | cons y r ih =>
    obtain ⟨i, e, hi⟩ := h y (by simp)
    obtain ⟨l, e2, hl⟩ := ih fun z hz => h z (by simp [hz])
    exact ⟨i :: l, by rw [e, e2]; rfl, by simpa using ⟨hi, hl⟩⟩
/-! ### cuts -/
def cutsT (e : Int) (cs : List Int) (n : Int) : List T := ((e :: cs).map T.int).zipWith (fun x y => T.tup [x, y]) ((cs ++ [n]).map T.int)
theorem cutsT_nil {e n : Int} : cutsT e [] n = [.tup [.int e, .int n]] := rfl
theorem cutsT_cons {e c n : Int} {cs : List Int} : cutsT e (c :: cs) n = .tup [.int e, .int c] :: cutsT c cs n := rfl
theorem cutsT_len {e n : Int} {cs : List Int} : (cutsT e cs n).length = cs.length + 1 := by simp [cutsT]
theorem take_cut {S : List α} {a b : Nat} (h : a ≤ b) : S.take a ++ (S.take b).drop a = S.take b := by
  have : S.take a = (S.take b).take a := by rw [List.take_take, Nat.min_eq_left h]
  rw [this, List.take_append_drop]
theorem w_plain1 {p : Prg} (H : HasPlain p) {k : Nat} {t : T} {xs ys : List Sp} {hs : Hs} {Q : R → Hs → Prop} {X : T → Hs → Prop} (ht : itemsT t = some (xs.map sp)) (hx : ∀ x ∈ xs, okSp x = true) (hl : xs.length ≤ 900000) (hy : Pg ys) (e : signsOf xs = signsOf ys) (l1 : ys.length ≤ 60) (l2 : (signsOf ys).length ≤ 2000)
    (q : Q (.val (.tup (ys.map sp))) hs) : wp (callK p (k + 5) "plain" [t] hs) Q X := by
  have ee : pageOf (signsOf xs) = ys := by rw [e]; exact pageOf_canon hy
  have ip := isPage_pg hy l1 l2
  refine w_plain H ht hx hl (fun _ => by rw [ee]; exact q) (fun z => by rw [ee, ip] at z; cases z)
end Fx

namespace Fx
open PySem L2
local macro_rules | `(tactic| walk_at "wk") => `(tactic| simp only [↓w_con, ↓w_var, vV_v, vV_o, ↓w_bin, ↓w_not, ↓w_and, ↓w_or, ↓w_and1, ↓w_and2, ↓w_or1, ↓w_or2, ↓w_cmp, ↓w_chn, ↓w_ch1, ↓w_ch2, ↓w_isN, ↓w_ite, ↓w_tup, ↓w_lst, ↓w_slc, ↓w_call2, ↓w_bi, ↓w_isi, ↓w_idx, ↓w_neg, ↓w_mth, ↓w_ono, ↓w_oso, ↓w_cno, ↓w_cso, ↓w_nil, ↓w_cons, ↓w_pnil, ↓w_pcons, ↓w_ival, ↓w_rng1, ↓w_rng2, ↓w_zip, ↓w_zipk, ↓w_enu, ↓w_isB, ↓w_rev, ↓w_lrng1, ↓w_lrng2, vV_l, lV_i, r2V_i, zV_l, zV_t, ↓w_lc, ↓w_lc2,
  ↓w_ok, ↓w_exc, ↓w_stuck, ↓w_bind, ↓w_ofc, ↓w_ofs, ↓w_ofn, ↓w_ofm, ↓w_if, ↓w_sel, ↓f_nx, ↓f_rt, ↓f_exc, ↓f_stuck, ↓f_bind, ↓f_fl, ↓f_if, ↓f_sel, ↓f_nil, ↓f_cons, ↓f_pass, ↓f_expr, ↓f_asg, ↓f_asgO, ↓f_asgB, ↓f_ret, ↓f_retN, ↓f_ite, ↓f_forr,
  ↓f_app2, mV_o, mV_r, ceV_l, ↓f_seti2, mD_o, mD_r, xV_i, ↓f_aug, sV_v, augT_add, augT_sub, ↓f_asgT, tV_t, putEs_c, putEs_n, ↓f_par, twV, sz0, sz1, sz2, sz3, sz4, sz5, sz6, sz7, sz8, sz9, sz10, sz11, sz12, sz13, sz14, sz15, sz16, sz17, sz18, sz19, sz20, sz21, sz22, sz23, sz24, sz25, sz26, sz27, sz28, sz29, sz30, w_ok, w_ofc, w_ofs, w_ofn, w_ofm, w_if, w_sel, f_sel, f_if,
  P.t_val, P.t_new, P.t_pk, P.k_val, P.k_new, P.k_pk, P.u_t, P.u_k, P.ret_val, P.ret_new, P.ret_pk, R.p_val, R.p_new, truthB_bl, Cell.t_lst,
  oB_add, oB_adds, oB_addb, oB_subb, fStr_b, nV_b, oB_addl, oB_addt, oB_sub, oB_mul, oB_mull, oB_div, oB_mod, oB_pow, oC_eq, oC_ne, oC_lt, oC_le, oC_gt, oC_ge, oC_in, oC_notin, oC_inl, oC_notinl, oC_lts, oC_gts, oC_les, oC_ges, oC_ltt, oC_ltl, oB_mult, fSort_l, fSort_t, fOrd_c, okEq_ii, okEq_bb, okEq_ss, eqT_ii, eqT_bb, eqT_ss, opI_l, opI_c, opI_t, opI_s, opS_l, opS_t, opS_s, iV_l, iV_t, iV_s, iV_c, nV_i, oV_i, rV_i, aV_v, aV_n, aO_n, aB_n, cV_v, cV_n,
  fLen_l, fLen_t, fLen_c, fLen_s, fAbs_i, fMin_i, fMax_i, fSum_l, fAll_l, fAny_l, fInt_i, fInt_b, fStr_i, fStr_s, fList_l, fList_t, fTuple_l, fTuple_t, mJoin_l, mUp_s, isI_non, isI_bl, isI_int, isI_str, isI_tup, isI_lst, itemsT_l, itemsT_t, itemsT_s, exV_some, exV_map, exV_if, atI_0, atI_1, atI_2, atI_3, atI_4,
  T.ty, Mt.ty, T.isNon, isTy, startE, wipeE, beq_self_eq_true,
  List.map_cons, List.map_nil, List.length_cons, List.length_nil, List.replicate, List.cons_append, List.nil_append, List.getElem?_cons_zero, List.getElem?_cons_succ, List.getElem?_nil, List.set_cons_zero, List.set_cons_succ, List.any_cons, List.any_nil, List.all_cons, List.all_nil,
  Option.map_some, Option.map_none, Option.bind_some, Option.bind_none, Nat.sub_self, Nat.zero_add, Nat.add_zero, Nat.reduceAdd, Nat.reduceSub, Nat.reduceEqDiff, Int.reduceToNat, Int.reducePow, Int.reduceLT, Int.reduceLE, Int.reduceAdd, Int.reduceSub, Int.reduceMul, Int.reduceNeg, Int.reduceBEq, Nat.reduceLT, Nat.reduceLeDiff, Nat.reducePow, gt_iff_lt, ge_iff_le, if_true, if_false, Bool.not_true, Bool.not_false, Bool.or_true, Bool.or_false, Bool.true_or, Bool.false_or, Bool.and_true, Bool.and_false, Bool.true_and, Bool.false_and,
  reduceCtorEq, decide_true, decide_false, Bool.false_eq_true, Bool.true_eq_false, decide_eq_true_eq, decide_eq_false_iff_not, eq_self, Bool.not_eq_true', Bool.not_eq_false', Bool.not_not, false_imp_iff, true_and, and_true, false_and, and_false, not_true_eq_false, not_false_eq_true, implies_true, true_implies, false_implies])
local macro_rules | `(tactic| walk_at "cj") => `(tactic| (repeat' (first | (refine And.intro ?_ ?_) | decide | omega | assumption)))

/-! ### the table of what is kept -/
def at0 (l : List Int) (i : Nat) : Int := l.getD i 0
def stepK (prev : List Int) (s : Sg) (row : List Int) (q : Sg) : List Int :=
  row ++ [if s = q then max (max (at0 row (row.length - 1)) (at0 prev row.length)) (at0 prev (row.length - 1) + 1) else max (at0 row (row.length - 1)) (at0 prev row.length)]
def rowK (prev : List Int) (s : Sg) (ys : List Sg) : List Int := ys.foldl (stepK prev s) [0]
def tabK (xs ys : List Sg) : List (List Int) := xs.foldl (fun rows s => rows ++ [rowK (rows.getLastD []) s ys]) [List.replicate (ys.length + 1) 0]
theorem rowK_len {prev : List Int} {s : Sg} {ys : List Sg} : (rowK prev s ys).length = ys.length + 1 := by
  unfold rowK
  suffices h : ∀ r : List Int, (ys.foldl (stepK prev s) r).length = r.length + ys.length from by rw [h]; simp; omega
  induction ys with
  | nil => intro r; simp
  | cons y ys ih => intro r; rw [List.foldl_cons, ih]; simp [stepK]; omega
theorem rowK_snoc {prev : List Int} {s y : Sg} {ys : List Sg} : rowK prev s (ys ++ [y]) = stepK prev s (rowK prev s ys) y := by unfold rowK; rw [List.foldl_append]; rfl
theorem tabK_snoc {x : Sg} {xs ys : List Sg} : tabK (xs ++ [x]) ys = tabK xs ys ++ [rowK ((tabK xs ys).getLastD []) x ys] := by unfold tabK; rw [List.foldl_append]; rfl
theorem tabK_nil {ys : List Sg} : tabK [] ys = [List.replicate (ys.length + 1) 0] := rfl
theorem tabK_len {xs ys : List Sg} : (tabK xs ys).length = xs.length + 1 := by
  refine snoc_ind (M := fun xs => (tabK xs ys).length = xs.length + 1) rfl (fun l a ih => ?_) xs
  rw [tabK_snoc]; simp; omega
theorem tabK_rows {xs ys : List Sg} : ∀ r ∈ tabK xs ys, r.length = ys.length + 1 := by
  refine snoc_ind (M := fun xs => ∀ r ∈ tabK xs ys, r.length = ys.length + 1) (by intro r hr; rw [tabK_nil] at hr; rw [List.mem_singleton.mp hr]; simp) (fun l a ih r hr => ?_) xs
  rw [tabK_snoc] at hr
  rcases List.mem_append.mp hr with h | h
  · exact ih r h
  · rw [List.mem_singleton.mp h, rowK_len]
def ilst (l : List Int) : T := .lst (l.map T.int)
theorem enu_sg {ys : List Sg} : enuT (ys.map sg) = ys.zipIdx.map fun p => T.tup [.int (p.2 : Nat), sg p.1] := by
  unfold enuT
  rw [List.zipIdx_map, List.map_map]; rfl
theorem enu_at {α : Type} {ys : List α} {done rest : List (α × Nat)} {x : α × Nat} (h : ys.zipIdx = done ++ x :: rest) : x.2 = done.length ∧ ys = done.map Prod.fst ++ x.1 :: rest.map Prod.fst := by
  have e := congrArg (List.map Prod.fst) h
  rw [List.zipIdx_map_fst] at e
  refine ⟨?_, by rw [e]; simp⟩
  have e2 := congrArg (fun l => l[done.length]?) h
  simp [List.getElem?_zipIdx] at e2
  obtain ⟨a, _, e2⟩ := e2
  rw [← e2]
theorem atI_ints {l : List Int} {i : Int} (h0 : 0 ≤ i) (h : i < l.length) : atI (l.map T.int) i = some (.int (at0 l i.toNat)) := by
  obtain ⟨n, rfl⟩ := Int.eq_ofNat_of_zero_le h0
  have h' : n < l.length := by omega
  rw [atI_nat, List.getElem?_map, List.getElem?_eq_getElem h']
  simp [at0, h']
theorem atI_last {L : List (List Int)} (h : L ≠ []) : atI (L.map ilst) (-1) = some (.lst ((L.getLastD []).map T.int)) := by
  rcases List.eq_nil_or_concat L with e | ⟨r, y, e⟩
  · exact absurd e h
  · rw [List.concat_eq_append] at e
    subst e
    rw [List.map_append, List.map_singleton, atI_neg]
    simp [ilst]
theorem tabK_ne {xs ys : List Sg} : tabK xs ys ≠ [] := by
  intro e
  have := @tabK_len xs ys
  rw [e] at this
  simp at this
theorem tabK_last {xs ys : List Sg} : ((tabK xs ys).getLastD []).length = ys.length + 1 := by
  rcases List.eq_nil_or_concat (tabK xs ys) with e | ⟨r, y, e⟩
  · exact absurd e tabK_ne
  · rw [List.concat_eq_append] at e
    have := @tabK_rows xs ys y (by rw [e]; simp)
    rw [e]
    simpa using this
theorem okEq_sg {a b : Sg} (h : okSg a) (h2 : okSg b) : okEq (sg a) (sg b) = true := by
  have e1 := name_ok h.1
  have e2 := name_ok h2.1
  unfold okEq
  simp [sg, T.isD, allD, e1, e2, T.dep, depL]
theorem eqT_sg {a b : Sg} : eqT (sg a) (sg b) = decide (a = b) := by
  obtain ⟨a1, a2⟩ := a
  obtain ⟨b1, b2⟩ := b
  simp only [sg, eqT, eqL, Bool.and_true]
  by_cases h1 : a1 = b1 <;> by_cases h2 : a2 = b2 <;> simp [h1, h2]
theorem c_table {p : Prg} (h : Has p "table" f_table) {k : Nat} {xs ys : List Sg} {hs : Hs} (hx : ∀ q ∈ xs, okSg q) (hy0 : ∀ q ∈ ys, okSg q) (hl : xs.length ≤ 1000) (hl2 : ys.length ≤ 1000) : callK p (k + 1) "table" [.lst (xs.map sg), .lst (ys.map sg)] hs = .ok (.new (.lst ((tabK xs ys).map ilst))) hs := by
  rw [← wp_eq]
  refine w_run h rfl ?_
  unfold f_table
  have hsz := size_ge
  walk_at "wk"
  refine ⟨by simp; omega, ?_⟩
  refine f_forMap (fun done env h => h = hs ∧ ∃ s3 s4 s5 s6 s7, env = [Slot.val (T.lst (xs.map sg)), Slot.val (T.lst (ys.map sg)), Slot.own (Cell.lst ((tabK done ys).map ilst)), s3, s4, s5, s6, s7]) ⟨rfl, .no, .no, .no, .no, .no, ?_⟩ ?_ ?_
  · rw [show ((↑(List.map sg ys).length : Int) + 1).toNat = ys.length + 1 from by rw [List.length_map]; omega]
    simp [tabK_nil, ilst, List.flatten_replicate_singleton]
  · rintro done x rest hd env h ⟨rfl, s3, s4, s5, s6, s7, rfl⟩
    refine ⟨_, rfl, ?_⟩
    walk_at "wk"
    rw [enu_sg]
    refine f_forMap (fun dn env h' => h' = h ∧ ∃ s5 s6 s7, env = [Slot.val (T.lst (xs.map sg)), Slot.val (T.lst (ys.map sg)), Slot.own (Cell.lst ((tabK done ys).map ilst)), Slot.val (sg x), Slot.own (Cell.lst ((rowK ((tabK done ys).getLastD []) x (dn.map Prod.fst)).map T.int)), s5, s6, s7]) ⟨rfl, _, _, _, rfl⟩ ?_ ?_
    · rintro dn y rst hdn env h' ⟨rfl, s5, s6, s7, rfl⟩
      obtain ⟨q, i⟩ := y
      obtain ⟨hi, hy⟩ := enu_at hdn
      simp only at hi hy
      subst hi
      have hrl := @rowK_len ((tabK done ys).getLastD []) x (dn.map Prod.fst)
      rw [List.length_map] at hrl
      refine ⟨_, rfl, ?_⟩
      walk_at "wk"
      rw [atI_ints (by omega) (by omega)]
      walk_at "wk"
      have hpl := @tabK_last done ys
      have hyl : dn.length < ys.length := by rw [hy]; simp
      rw [atI_last tabK_ne]
      walk_at "wk"
      rw [atI_ints (by omega) (by omega)]
      walk_at "wk"
      simp only [okEq_sg (hx x (by rw [hd]; simp)) (hy0 q (by rw [hy]; simp)), if_true, eqT_sg]
      have hst : (rowK ((tabK done ys).getLastD []) x (dn.map Prod.fst ++ [q])).map T.int = (rowK ((tabK done ys).getLastD []) x (dn.map Prod.fst)).map T.int ++ [T.int (if x = q then max (max (at0 (rowK ((tabK done ys).getLastD []) x (dn.map Prod.fst)) dn.length) (at0 ((tabK done ys).getLastD []) (dn.length + 1))) (at0 ((tabK done ys).getLastD []) dn.length + 1) else max (at0 (rowK ((tabK done ys).getLastD []) x (dn.map Prod.fst)) dn.length) (at0 ((tabK done ys).getLastD []) (dn.length + 1)))] := by
        rw [rowK_snoc, stepK, hrl]; simp
      have e1 : ((dn.length : Int) + 1).toNat = dn.length + 1 := by omega
      walk_at "wk"
      refine ⟨fun e => ?_, fun e => ?_⟩
      · rw [atI_last tabK_ne]
        walk_at "wk"
        rw [atI_ints (by omega) (by omega)]
        walk_at "wk"
        rw [show (dn ++ [(q, dn.length)]).map Prod.fst = dn.map Prod.fst ++ [q] from by simp, hst, if_pos e, e1, Int.toNat_natCast]
        exact ⟨by rw [List.length_map]; omega, _, _, _, rfl⟩
      · rw [show (dn ++ [(q, dn.length)]).map Prod.fst = dn.map Prod.fst ++ [q] from by simp, hst, if_neg e, e1, Int.toNat_natCast]
        exact ⟨by rw [List.length_map]; omega, _, _, _, rfl⟩
    · rintro env h' ⟨rfl, s5, s6, s7, rfl⟩
      rw [f_frz1 rfl, List.zipIdx_map_fst]
      walk_at "wk"
      have hl3 := @tabK_len done ys
      have hl4 : done.length < xs.length := by rw [hd]; simp
      rw [tabK_snoc, List.map_append]
      exact ⟨by rw [List.length_map]; omega, _, _, _, _, _, rfl⟩
  · rintro env h ⟨rfl, s3, s4, s5, s6, s7, rfl⟩
    walk_at "wk"
end Fx

namespace Fx
open PySem L2
local macro_rules | `(tactic| walk_at "wk") => `(tactic| simp only [↓w_con, ↓w_var, vV_v, vV_o, ↓w_bin, ↓w_not, ↓w_and, ↓w_or, ↓w_and1, ↓w_and2, ↓w_or1, ↓w_or2, ↓w_cmp, ↓w_chn, ↓w_ch1, ↓w_ch2, ↓w_isN, ↓w_ite, ↓w_tup, ↓w_lst, ↓w_slc, ↓w_call2, ↓w_bi, ↓w_isi, ↓w_idx, ↓w_neg, ↓w_mth, ↓w_ono, ↓w_oso, ↓w_cno, ↓w_cso, ↓w_nil, ↓w_cons, ↓w_pnil, ↓w_pcons, ↓w_ival, ↓w_rng1, ↓w_rng2, ↓w_zip, ↓w_zipk, ↓w_enu, ↓w_isB, ↓w_rev, ↓w_lrng1, ↓w_lrng2, vV_l, lV_i, r2V_i, zV_l, zV_t, ↓w_lc, ↓w_lc2,
  ↓w_ok, ↓w_exc, ↓w_stuck, ↓w_bind, ↓w_ofc, ↓w_ofs, ↓w_ofn, ↓w_ofm, ↓w_if, ↓w_sel, ↓f_nx, ↓f_rt, ↓f_exc, ↓f_stuck, ↓f_bind, ↓f_fl, ↓f_if, ↓f_sel, ↓f_nil, ↓f_cons, ↓f_pass, ↓f_expr, ↓f_asg, ↓f_asgO, ↓f_asgB, ↓f_ret, ↓f_retN, ↓f_ite, ↓f_forr,
  ↓f_app2, mV_o, mV_r, ceV_l, ↓f_seti2, mD_o, mD_r, xV_i, ↓f_aug, sV_v, augT_add, augT_sub, ↓f_asgT, tV_t, putEs_c, putEs_n, ↓f_par, twV, sz0, sz1, sz2, sz3, sz4, sz5, sz6, sz7, sz8, sz9, sz10, sz11, sz12, sz13, sz14, sz15, sz16, sz17, sz18, sz19, sz20, sz21, sz22, sz23, sz24, sz25, sz26, sz27, sz28, sz29, sz30, w_ok, w_ofc, w_ofs, w_ofn, w_ofm, w_if, w_sel, f_sel, f_if,
  P.t_val, P.t_new, P.t_pk, P.k_val, P.k_new, P.k_pk, P.u_t, P.u_k, P.ret_val, P.ret_new, P.ret_pk, R.p_val, R.p_new, truthB_bl, Cell.t_lst,
  oB_add, oB_adds, oB_addb, oB_subb, fStr_b, nV_b, oB_addl, oB_addt, oB_sub, oB_mul, oB_mull, oB_div, oB_mod, oB_pow, oC_eq, oC_ne, oC_lt, oC_le, oC_gt, oC_ge, oC_in, oC_notin, oC_inl, oC_notinl, oC_lts, oC_gts, oC_les, oC_ges, oC_ltt, oC_ltl, oB_mult, fSort_l, fSort_t, fOrd_c, okEq_ii, okEq_bb, okEq_ss, eqT_ii, eqT_bb, eqT_ss, opI_l, opI_c, opI_t, opI_s, opS_l, opS_t, opS_s, iV_l, iV_t, iV_s, iV_c, nV_i, oV_i, rV_i, aV_v, aV_n, aO_n, aB_n, cV_v, cV_n,
  fLen_l, fLen_t, fLen_c, fLen_s, fAbs_i, fMin_i, fMax_i, fSum_l, fAll_l, fAny_l, fInt_i, fInt_b, fStr_i, fStr_s, fList_l, fList_t, fTuple_l, fTuple_t, mJoin_l, mUp_s, isI_non, isI_bl, isI_int, isI_str, isI_tup, isI_lst, itemsT_l, itemsT_t, itemsT_s, exV_some, exV_map, exV_if, atI_0, atI_1, atI_2, atI_3, atI_4,
  T.ty, Mt.ty, T.isNon, isTy, startE, wipeE, beq_self_eq_true,
  List.map_cons, List.map_nil, List.length_cons, List.length_nil, List.replicate, List.cons_append, List.nil_append, List.getElem?_cons_zero, List.getElem?_cons_succ, List.getElem?_nil, List.set_cons_zero, List.set_cons_succ, List.any_cons, List.any_nil, List.all_cons, List.all_nil,
  Option.map_some, Option.map_none, Option.bind_some, Option.bind_none, Nat.sub_self, Nat.zero_add, Nat.add_zero, Nat.reduceAdd, Nat.reduceSub, Nat.reduceEqDiff, Int.reduceToNat, Int.reducePow, Int.reduceLT, Int.reduceLE, Int.reduceAdd, Int.reduceSub, Int.reduceMul, Int.reduceNeg, Int.reduceBEq, Nat.reduceLT, Nat.reduceLeDiff, Nat.reducePow, gt_iff_lt, ge_iff_le, if_true, if_false, Bool.not_true, Bool.not_false, Bool.or_true, Bool.or_false, Bool.true_or, Bool.false_or, Bool.and_true, Bool.and_false, Bool.true_and, Bool.false_and,
  reduceCtorEq, decide_true, decide_false, Bool.false_eq_true, Bool.true_eq_false, decide_eq_true_eq, decide_eq_false_iff_not, eq_self, Bool.not_eq_true', Bool.not_eq_false', Bool.not_not, false_imp_iff, true_and, and_true, false_and, and_false, not_true_eq_false, not_false_eq_true, implies_true, true_implies, false_implies])
local macro_rules | `(tactic| walk_at "cj") => `(tactic| (repeat' (first | (refine And.intro ?_ ?_) | decide | omega | assumption)))

theorem c_law_table {p : Prg} (h : Has p "_law_kept_table" f__law_kept_table) {k : Nat} {xs ys : List Sg} {hs : Hs} (hx : ∀ q ∈ xs, okSg q) (hy0 : ∀ q ∈ ys, okSg q) (hl : xs.length ≤ 1000) (hl2 : ys.length ≤ 1000) : callK p (k + 1) "_law_kept_table" [.lst (xs.map sg), .lst (ys.map sg)] hs = .ok (.new (.lst ((tabK xs ys).map ilst))) hs := by
  rw [← wp_eq]
  refine w_run h rfl ?_
  unfold f__law_kept_table
  have hsz := size_ge
  walk_at "wk"
  refine ⟨by simp; omega, ?_⟩
  refine f_forMap (fun done env h => h = hs ∧ ∃ s3 s4 s5 s6, env = [Slot.val (T.lst (xs.map sg)), Slot.val (T.lst (ys.map sg)), Slot.own (Cell.lst ((tabK done ys).map ilst)), s3, s4, s5, s6]) ⟨rfl, .no, .no, .no, .no, ?_⟩ ?_ ?_
  · rw [show ((↑(List.map sg ys).length : Int) + 1).toNat = ys.length + 1 from by rw [List.length_map]; omega]
    simp [tabK_nil, ilst, List.flatten_replicate_singleton]
  · rintro done x rest hd env h ⟨rfl, s3, s4, s5, s6, rfl⟩
    refine ⟨_, rfl, ?_⟩
    walk_at "wk"
    refine ⟨by simp only [smallI, decide_eq_true_eq, List.length_map]; omega, ?_⟩
    refine f_forRange (fun n env h' => h' = h ∧ ∃ s5 s6, env = [Slot.val (T.lst (xs.map sg)), Slot.val (T.lst (ys.map sg)), Slot.own (Cell.lst ((tabK done ys).map ilst)), Slot.val (sg x), Slot.own (Cell.lst ((rowK ((tabK done ys).getLastD []) x (ys.take n)).map T.int)), s5, s6]) ⟨rfl, _, _, rfl⟩ ?_ ?_
    · rintro n hn env h' ⟨rfl, s5, s6, rfl⟩
      rw [List.length_map, Int.zero_add] at hn
      have hn' : n < ys.length := by omega
      have hrl := @rowK_len ((tabK done ys).getLastD []) x (ys.take n)
      rw [List.length_take, Nat.min_eq_left (by omega)] at hrl
      have hpl := @tabK_last done ys
      rw [Int.zero_add]
      refine ⟨_, rfl, ?_⟩
      walk_at "wk"
      rw [atI_ints (by omega) (by omega)]
      walk_at "wk"
      rw [atI_last tabK_ne]
      walk_at "wk"
      rw [atI_ints (by omega) (by omega)]
      walk_at "wk"
      rw [show atI (ys.map sg) (n : Nat) = some (sg ys[n]) from by rw [atI_nat, List.getElem?_map, List.getElem?_eq_getElem hn']; rfl]
      walk_at "wk"
      simp only [okEq_sg (hx x (by rw [hd]; simp)) (hy0 ys[n] (by simp)), if_true, eqT_sg]
      walk_at "wk"
      have hst : (rowK ((tabK done ys).getLastD []) x (ys.take (n + 1))).map T.int = (rowK ((tabK done ys).getLastD []) x (ys.take n)).map T.int ++ [T.int (if x = ys[n] then max (max (at0 (rowK ((tabK done ys).getLastD []) x (ys.take n)) n) (at0 ((tabK done ys).getLastD []) (n + 1))) (at0 ((tabK done ys).getLastD []) n + 1) else max (at0 (rowK ((tabK done ys).getLastD []) x (ys.take n)) n) (at0 ((tabK done ys).getLastD []) (n + 1)))] := by
        rw [List.take_succ_eq_append_getElem hn', rowK_snoc, stepK, hrl]; simp
      have e1 : ((n : Int) + 1).toNat = n + 1 := by omega
      refine ⟨fun e => ?_, fun e => ?_⟩
      · rw [atI_last tabK_ne]
        walk_at "wk"
        rw [atI_ints (by omega) (by omega)]
        walk_at "wk"
        rw [hst, if_pos e, e1, Int.toNat_natCast]
        exact ⟨by rw [List.length_map]; omega, _, _, rfl⟩
      · rw [hst, if_neg e, e1, Int.toNat_natCast]
        exact ⟨by rw [List.length_map]; omega, _, _, rfl⟩
    · rintro env h' ⟨rfl, s5, s6, rfl⟩
      rw [f_frz1 rfl, show ys.take ((↑(List.map sg ys).length : Int) - 0).toNat = ys from List.take_of_length_le (by simp)]
      walk_at "wk"
      have hl3 := @tabK_len done ys
      have hl4 : done.length < xs.length := by rw [hd]; simp
      rw [tabK_snoc, List.map_append]
      exact ⟨by rw [List.length_map]; omega, _, _, _, _, rfl⟩
  · rintro env h ⟨rfl, s3, s4, s5, s6, rfl⟩
    walk_at "wk"
end Fx

namespace Fx
open PySem L2
local macro_rules | `(tactic| walk_at "wk") => `(tactic| simp only [↓w_con, ↓w_var, vV_v, vV_o, ↓w_bin, ↓w_not, ↓w_and, ↓w_or, ↓w_and1, ↓w_and2, ↓w_or1, ↓w_or2, ↓w_cmp, ↓w_chn, ↓w_ch1, ↓w_ch2, ↓w_isN, ↓w_ite, ↓w_tup, ↓w_lst, ↓w_slc, ↓w_call2, ↓w_bi, ↓w_isi, ↓w_idx, ↓w_neg, ↓w_mth, ↓w_ono, ↓w_oso, ↓w_cno, ↓w_cso, ↓w_nil, ↓w_cons, ↓w_pnil, ↓w_pcons, ↓w_ival, ↓w_rng1, ↓w_rng2, ↓w_zip, ↓w_zipk, ↓w_enu, ↓w_isB, ↓w_rev, ↓w_lrng1, ↓w_lrng2, vV_l, lV_i, r2V_i, zV_l, zV_t, ↓w_lc, ↓w_lc2,
  ↓w_ok, ↓w_exc, ↓w_stuck, ↓w_bind, ↓w_ofc, ↓w_ofs, ↓w_ofn, ↓w_ofm, ↓w_if, ↓w_sel, ↓f_nx, ↓f_rt, ↓f_exc, ↓f_stuck, ↓f_bind, ↓f_fl, ↓f_if, ↓f_sel, ↓f_nil, ↓f_cons, ↓f_pass, ↓f_expr, ↓f_asg, ↓f_asgO, ↓f_asgB, ↓f_ret, ↓f_retN, ↓f_ite, ↓f_forr,
  ↓f_app2, mV_o, mV_r, ceV_l, ↓f_seti2, mD_o, mD_r, xV_i, ↓f_aug, sV_v, augT_add, augT_sub, ↓f_asgT, tV_t, putEs_c, putEs_n, ↓f_par, twV, sz0, sz1, sz2, sz3, sz4, sz5, sz6, sz7, sz8, sz9, sz10, sz11, sz12, sz13, sz14, sz15, sz16, sz17, sz18, sz19, sz20, sz21, sz22, sz23, sz24, sz25, sz26, sz27, sz28, sz29, sz30, w_ok, w_ofc, w_ofs, w_ofn, w_ofm, w_if, w_sel, f_sel, f_if,
  P.t_val, P.t_new, P.t_pk, P.k_val, P.k_new, P.k_pk, P.u_t, P.u_k, P.ret_val, P.ret_new, P.ret_pk, R.p_val, R.p_new, truthB_bl, Cell.t_lst,
  oB_add, oB_adds, oB_addb, oB_subb, fStr_b, nV_b, oB_addl, oB_addt, oB_sub, oB_mul, oB_mull, oB_div, oB_mod, oB_pow, oC_eq, oC_ne, oC_lt, oC_le, oC_gt, oC_ge, oC_in, oC_notin, oC_inl, oC_notinl, oC_lts, oC_gts, oC_les, oC_ges, oC_ltt, oC_ltl, oB_mult, fSort_l, fSort_t, fOrd_c, okEq_ii, okEq_bb, okEq_ss, eqT_ii, eqT_bb, eqT_ss, opI_l, opI_c, opI_t, opI_s, opS_l, opS_t, opS_s, iV_l, iV_t, iV_s, iV_c, nV_i, oV_i, rV_i, aV_v, aV_n, aO_n, aB_n, cV_v, cV_n,
  fLen_l, fLen_t, fLen_c, fLen_s, fAbs_i, fMin_i, fMax_i, fSum_l, fAll_l, fAny_l, fInt_i, fInt_b, fStr_i, fStr_s, fList_l, fList_t, fTuple_l, fTuple_t, mJoin_l, mUp_s, isI_non, isI_bl, isI_int, isI_str, isI_tup, isI_lst, itemsT_l, itemsT_t, itemsT_s, exV_some, exV_map, exV_if, atI_0, atI_1, atI_2, atI_3, atI_4,
  T.ty, Mt.ty, T.isNon, isTy, startE, wipeE, beq_self_eq_true,
  List.map_cons, List.map_nil, List.length_cons, List.length_nil, List.replicate, List.cons_append, List.nil_append, List.getElem?_cons_zero, List.getElem?_cons_succ, List.getElem?_nil, List.set_cons_zero, List.set_cons_succ, List.any_cons, List.any_nil, List.all_cons, List.all_nil,
  Option.map_some, Option.map_none, Option.bind_some, Option.bind_none, Nat.sub_self, Nat.zero_add, Nat.add_zero, Nat.reduceAdd, Nat.reduceSub, Nat.reduceEqDiff, Int.reduceToNat, Int.reducePow, Int.reduceLT, Int.reduceLE, Int.reduceAdd, Int.reduceSub, Int.reduceMul, Int.reduceNeg, Int.reduceBEq, Nat.reduceLT, Nat.reduceLeDiff, Nat.reducePow, gt_iff_lt, ge_iff_le, if_true, if_false, Bool.not_true, Bool.not_false, Bool.or_true, Bool.or_false, Bool.true_or, Bool.false_or, Bool.and_true, Bool.and_false, Bool.true_and, Bool.false_and,
  reduceCtorEq, decide_true, decide_false, Bool.false_eq_true, Bool.true_eq_false, decide_eq_true_eq, decide_eq_false_iff_not, eq_self, Bool.not_eq_true', Bool.not_eq_false', Bool.not_not, false_imp_iff, true_and, and_true, false_and, and_false, not_true_eq_false, not_false_eq_true, implies_true, true_implies, false_implies])
local macro_rules | `(tactic| walk_at "cj") => `(tactic| (repeat' (first | (refine And.intro ?_ ?_) | decide | omega | assumption)))

structure HasKept (p : Prg) : Prop where
  nee : Has p "need_short" f_need_short
  tab : Has p "table" f_table
  lon : Has p "long" f_long
  add : Has p "addresses" f_addresses
  mst : p.glob.lookup ("MOST_KEPT" : Str) = some (.int 80)
theorem w_need_short {p : Prg} (H : HasKept p) {k : Nat} {xs ys : List Sp} {hs : Hs} {Q : R → Hs → Prop} {X : T → Hs → Prop} (hl : xs.length ≤ 100000) (hl2 : ys.length ≤ 100000) (h1 : longOf xs ≤ 80) (h2 : longOf ys ≤ 80) (q : Q (.val .non) hs) : wp (callK p (k + 2) "need_short" [.tup (xs.map sp), .tup (ys.map sp)] hs) Q X := by
  refine w_run H.nee rfl ?_
  unfold f_need_short
  have hg := H.mst
  walk_at "wk"
  rw [c_long H.lon (by omega)]
  walk_at "wk"
  rw [c_long H.lon (by omega)]
  walk_at "wk"
  rw [w_glo H.mst]
  walk_at "wk"
  exact ⟨fun z => absurd z (by simp; omega), fun _ => q⟩
theorem w_kept_paper {p : Prg} (H : HasKept p) (hp : Has p "kept_paper" f_kept_paper) {k : Nat} {xs ys : List Sp} {hs : Hs} {Q : R → Hs → Prop} {X : T → Hs → Prop} (hx : Pg xs) (hy : Pg ys) (h1 : longOf xs ≤ 80) (h2 : longOf ys ≤ 80) (hl : xs.length ≤ 100000) (hl2 : ys.length ≤ 100000)
    (q : Q (.val (.tup ((tabK (signsOf xs) (signsOf ys)).map fun r => .tup (r.map T.int)))) hs) : wp (callK p (k + 3) "kept_paper" [.tup (xs.map sp), .tup (ys.map sp)] hs) Q X := by
  have e1 := pg_long hx
  have e2 := pg_long hy
  have b1 := fun x m => okSp_le hx.ok x m
  refine w_run hp rfl ?_
  unfold f_kept_paper
  have hsz := size_ge
  walk_at "wk"
  refine w_need_short H hl hl2 h1 h2 ?_
  walk_at "wk"
  have c1 : ∀ x ∈ xs, 0 ≤ x.2.1 ∧ x.2.1 ≤ x.2.2 ∧ x.2.2 ≤ 10000000 := fun x m => by have := okSp_iff.mp (hx.ok x m); omega
  have c2 : ∀ x ∈ ys, 0 ≤ x.2.1 ∧ x.2.1 ≤ x.2.2 ∧ x.2.2 ≤ 10000000 := fun x m => by have := okSp_iff.mp (hy.ok x m); omega
  rw [c_addresses H.add c1 (by omega)]
  walk_at "wk"
  rw [c_addresses H.add c2 (by omega)]
  walk_at "wk"
  rw [c_table H.tab (signsOf_ok hx.ok) (signsOf_ok hy.ok) (by omega) (by omega)]
  walk_at "wk"
  have tl := @tabK_len (signsOf xs) (signsOf ys)
  refine ⟨by rw [List.length_map]; omega, ?_⟩
  refine ⟨rfl, ?_⟩
  refine w_lcmap (e := ilst) (g := fun r => .tup (r.map T.int)) ?_ ?_
  · intro r hr
    rw [w_turn (by rfl)]
    unfold ilst
    walk_at "wk"
  · walk_at "wk"
    exact q
end Fx

namespace Fx
open PySem L2
local macro_rules | `(tactic| walk_at "wk") => `(tactic| simp only [↓w_con, ↓w_var, vV_v, vV_o, ↓w_bin, ↓w_not, ↓w_and, ↓w_or, ↓w_and1, ↓w_and2, ↓w_or1, ↓w_or2, ↓w_cmp, ↓w_chn, ↓w_ch1, ↓w_ch2, ↓w_isN, ↓w_ite, ↓w_tup, ↓w_lst, ↓w_slc, ↓w_call2, ↓w_bi, ↓w_isi, ↓w_idx, ↓w_neg, ↓w_mth, ↓w_ono, ↓w_oso, ↓w_cno, ↓w_cso, ↓w_nil, ↓w_cons, ↓w_pnil, ↓w_pcons, ↓w_ival, ↓w_rng1, ↓w_rng2, ↓w_zip, ↓w_zipk, ↓w_enu, ↓w_isB, ↓w_rev, ↓w_lrng1, ↓w_lrng2, vV_l, lV_i, r2V_i, zV_l, zV_t, ↓w_lc, ↓w_lc2,
  ↓w_ok, ↓w_exc, ↓w_stuck, ↓w_bind, ↓w_ofc, ↓w_ofs, ↓w_ofn, ↓w_ofm, ↓w_if, ↓w_sel, ↓f_nx, ↓f_rt, ↓f_exc, ↓f_stuck, ↓f_bind, ↓f_fl, ↓f_if, ↓f_sel, ↓f_nil, ↓f_cons, ↓f_pass, ↓f_expr, ↓f_asg, ↓f_asgO, ↓f_asgB, ↓f_ret, ↓f_retN, ↓f_ite, ↓f_forr,
  ↓f_app2, mV_o, mV_r, ceV_l, ↓f_seti2, mD_o, mD_r, xV_i, ↓f_aug, sV_v, augT_add, augT_sub, ↓f_asgT, tV_t, putEs_c, putEs_n, ↓f_par, twV, sz0, sz1, sz2, sz3, sz4, sz5, sz6, sz7, sz8, sz9, sz10, sz11, sz12, sz13, sz14, sz15, sz16, sz17, sz18, sz19, sz20, sz21, sz22, sz23, sz24, sz25, sz26, sz27, sz28, sz29, sz30, w_ok, w_ofc, w_ofs, w_ofn, w_ofm, w_if, w_sel, f_sel, f_if,
  P.t_val, P.t_new, P.t_pk, P.k_val, P.k_new, P.k_pk, P.u_t, P.u_k, P.ret_val, P.ret_new, P.ret_pk, R.p_val, R.p_new, truthB_bl, Cell.t_lst,
  oB_add, oB_adds, oB_addb, oB_subb, fStr_b, nV_b, oB_addl, oB_addt, oB_sub, oB_mul, oB_mull, oB_div, oB_mod, oB_pow, oC_eq, oC_ne, oC_lt, oC_le, oC_gt, oC_ge, oC_in, oC_notin, oC_inl, oC_notinl, oC_lts, oC_gts, oC_les, oC_ges, oC_ltt, oC_ltl, oB_mult, fSort_l, fSort_t, fOrd_c, okEq_ii, okEq_bb, okEq_ss, eqT_ii, eqT_bb, eqT_ss, opI_l, opI_c, opI_t, opI_s, opS_l, opS_t, opS_s, iV_l, iV_t, iV_s, iV_c, nV_i, oV_i, rV_i, aV_v, aV_n, aO_n, aB_n, cV_v, cV_n,
  fLen_l, fLen_t, fLen_c, fLen_s, fAbs_i, fMin_i, fMax_i, fSum_l, fAll_l, fAny_l, fInt_i, fInt_b, fStr_i, fStr_s, fList_l, fList_t, fTuple_l, fTuple_t, mJoin_l, mUp_s, isI_non, isI_bl, isI_int, isI_str, isI_tup, isI_lst, itemsT_l, itemsT_t, itemsT_s, exV_some, exV_map, exV_if, atI_0, atI_1, atI_2, atI_3, atI_4,
  T.ty, Mt.ty, T.isNon, isTy, startE, wipeE, beq_self_eq_true,
  List.map_cons, List.map_nil, List.length_cons, List.length_nil, List.replicate, List.cons_append, List.nil_append, List.getElem?_cons_zero, List.getElem?_cons_succ, List.getElem?_nil, List.set_cons_zero, List.set_cons_succ, List.any_cons, List.any_nil, List.all_cons, List.all_nil,
  Option.map_some, Option.map_none, Option.bind_some, Option.bind_none, Nat.sub_self, Nat.zero_add, Nat.add_zero, Nat.reduceAdd, Nat.reduceSub, Nat.reduceEqDiff, Int.reduceToNat, Int.reducePow, Int.reduceLT, Int.reduceLE, Int.reduceAdd, Int.reduceSub, Int.reduceMul, Int.reduceNeg, Int.reduceBEq, Nat.reduceLT, Nat.reduceLeDiff, Nat.reducePow, gt_iff_lt, ge_iff_le, if_true, if_false, Bool.not_true, Bool.not_false, Bool.or_true, Bool.or_false, Bool.true_or, Bool.false_or, Bool.and_true, Bool.and_false, Bool.true_and, Bool.false_and,
  reduceCtorEq, decide_true, decide_false, Bool.false_eq_true, Bool.true_eq_false, decide_eq_true_eq, decide_eq_false_iff_not, eq_self, Bool.not_eq_true', Bool.not_eq_false', Bool.not_not, false_imp_iff, true_and, and_true, false_and, and_false, not_true_eq_false, not_false_eq_true, implies_true, true_implies, false_implies])
local macro_rules | `(tactic| walk_at "cj") => `(tactic| (repeat' (first | (refine And.intro ?_ ?_) | decide | omega | assumption)))

/-! ### papers: one reading for both -/
def prow (r : List Int) : T := .tup (r.map T.int)
def pap (g : List (List Int)) : T := .tup (g.map prow)
theorem wholes_of : ∀ {l : List T}, l.all isWhole = true → ∃ r : List Int, l = r.map T.int
  | [], _ => ⟨[], rfl⟩
  | x :: l, h => by
    simp only [List.all_cons, Bool.and_eq_true] at h
    obtain ⟨r, e⟩ := wholes_of h.2
    cases x <;> simp [isWhole] at h
    exact ⟨_ :: r, by rw [e]; rfl⟩
theorem row_of {wide : Int} {t : T} (h : rowOk wide t = true) : ∃ r : List Int, t = prow r ∧ (r.length : Int) = wide := by
  cases t <;> simp only [rowOk, Bool.false_eq_true] at h
  simp only [Bool.and_eq_true, beq_iff_eq] at h
  obtain ⟨r, e⟩ := wholes_of h.2
  subst e
  exact ⟨r, rfl, by rw [← h.1, List.length_map]⟩
theorem rows_of {wide : Int} : ∀ {l : List T}, l.all (rowOk wide) = true → ∃ g : List (List Int), l = g.map prow ∧ ∀ r ∈ g, (r.length : Int) = wide
  | [], _ => ⟨[], rfl, by simp⟩
  | x :: l, h => by
    simp only [List.all_cons, Bool.and_eq_true] at h
    obtain ⟨g, e, hg⟩ := rows_of h.2
    obtain ⟨r, e2, hr⟩ := row_of h.1
    exact ⟨r :: g, by rw [e, e2]; rfl, by simpa using ⟨hr, hg⟩⟩
theorem grid_of {high wide : Int} {t : T} (h : isGrid high wide t = true) : ∃ g : List (List Int), t = pap g ∧ (g.length : Int) = high ∧ ∀ r ∈ g, (r.length : Int) = wide := by
  cases t <;> simp only [isGrid, Bool.false_eq_true] at h
  simp only [Bool.and_eq_true, beq_iff_eq] at h
  obtain ⟨g, e, hg⟩ := rows_of h.2
  subst e
  exact ⟨g, rfl, by rw [← h.1, List.length_map], hg⟩
def cellK (g : List (List Int)) (i j : Nat) : Int := at0 (g.getD i []) j
/-- a number that a paper can't have there -/
def badAt (xs ys : List Sg) (g : List (List Int)) (i j : Nat) : Bool :=
  decide (0 < j ∧ cellK g i j < cellK g i (j - 1)) || decide (0 < i ∧ cellK g i j < cellK g (i - 1) j) || decide (0 < i ∧ 0 < j ∧ xs[i - 1]? = ys[j - 1]? ∧ cellK g i j ≤ cellK g (i - 1) (j - 1))
def unI : T → Int
  | .int i => i
  | _ => 0
def unR : T → List Int
  | .tup r => r.map unI
  | _ => []
def unP : T → List (List Int)
  | .tup l => l.map unR
  | _ => []
theorem unP_pap {g : List (List Int)} : unP (pap g) = g := by
  have e1 : ∀ r : List Int, unR (prow r) = r := fun r => by
    show (r.map T.int).map unI = r
    rw [List.map_map]
    exact List.map_id'' (fun _ => rfl) r
  show (g.map prow).map unR = g
  rw [List.map_map]
  exact List.map_id'' (fun r => e1 r) g
def badIn (xs ys : List Sg) (g : List (List Int)) : Bool := (List.range (xs.length + 1)).any fun i => (List.range (ys.length + 1)).any fun j => badAt xs ys g i j
/-- what both readings of a paper tell -/
def shown (xs ys : List Sg) (t : T) : Bool := isGrid (xs.length + 1) (ys.length + 1) t && (cellK (unP t) 0 0 == 0) && !badIn xs ys (unP t)
end Fx

namespace Fx
open PySem L2
local macro_rules | `(tactic| walk_at "wk") => `(tactic| simp only [↓w_con, ↓w_var, vV_v, vV_o, ↓w_bin, ↓w_not, ↓w_and, ↓w_or, ↓w_and1, ↓w_and2, ↓w_or1, ↓w_or2, ↓w_cmp, ↓w_chn, ↓w_ch1, ↓w_ch2, ↓w_isN, ↓w_ite, ↓w_tup, ↓w_lst, ↓w_slc, ↓w_call2, ↓w_bi, ↓w_isi, ↓w_idx, ↓w_neg, ↓w_mth, ↓w_ono, ↓w_oso, ↓w_cno, ↓w_cso, ↓w_nil, ↓w_cons, ↓w_pnil, ↓w_pcons, ↓w_ival, ↓w_rng1, ↓w_rng2, ↓w_zip, ↓w_zipk, ↓w_enu, ↓w_isB, ↓w_rev, ↓w_lrng1, ↓w_lrng2, vV_l, lV_i, r2V_i, zV_l, zV_t, ↓w_lc, ↓w_lc2,
  ↓w_ok, ↓w_exc, ↓w_stuck, ↓w_bind, ↓w_ofc, ↓w_ofs, ↓w_ofn, ↓w_ofm, ↓w_if, ↓w_sel, ↓f_nx, ↓f_rt, ↓f_exc, ↓f_stuck, ↓f_bind, ↓f_fl, ↓f_if, ↓f_sel, ↓f_nil, ↓f_cons, ↓f_pass, ↓f_expr, ↓f_asg, ↓f_asgO, ↓f_asgB, ↓f_ret, ↓f_retN, ↓f_ite, ↓f_forr,
  ↓f_app2, mV_o, mV_r, ceV_l, ↓f_seti2, mD_o, mD_r, xV_i, ↓f_aug, sV_v, augT_add, augT_sub, ↓f_asgT, tV_t, putEs_c, putEs_n, ↓f_par, twV, sz0, sz1, sz2, sz3, sz4, sz5, sz6, sz7, sz8, sz9, sz10, sz11, sz12, sz13, sz14, sz15, sz16, sz17, sz18, sz19, sz20, sz21, sz22, sz23, sz24, sz25, sz26, sz27, sz28, sz29, sz30, w_ok, w_ofc, w_ofs, w_ofn, w_ofm, w_if, w_sel, f_sel, f_if,
  P.t_val, P.t_new, P.t_pk, P.k_val, P.k_new, P.k_pk, P.u_t, P.u_k, P.ret_val, P.ret_new, P.ret_pk, R.p_val, R.p_new, truthB_bl, Cell.t_lst,
  oB_add, oB_adds, oB_addb, oB_subb, fStr_b, nV_b, oB_addl, oB_addt, oB_sub, oB_mul, oB_mull, oB_div, oB_mod, oB_pow, oC_eq, oC_ne, oC_lt, oC_le, oC_gt, oC_ge, oC_in, oC_notin, oC_inl, oC_notinl, oC_lts, oC_gts, oC_les, oC_ges, oC_ltt, oC_ltl, oB_mult, fSort_l, fSort_t, fOrd_c, okEq_ii, okEq_bb, okEq_ss, eqT_ii, eqT_bb, eqT_ss, opI_l, opI_c, opI_t, opI_s, opS_l, opS_t, opS_s, iV_l, iV_t, iV_s, iV_c, nV_i, oV_i, rV_i, aV_v, aV_n, aO_n, aB_n, cV_v, cV_n,
  fLen_l, fLen_t, fLen_c, fLen_s, fAbs_i, fMin_i, fMax_i, fSum_l, fAll_l, fAny_l, fInt_i, fInt_b, fStr_i, fStr_s, fList_l, fList_t, fTuple_l, fTuple_t, mJoin_l, mUp_s, isI_non, isI_bl, isI_int, isI_str, isI_tup, isI_lst, itemsT_l, itemsT_t, itemsT_s, exV_some, exV_map, exV_if, atI_0, atI_1, atI_2, atI_3, atI_4,
  T.ty, Mt.ty, T.isNon, isTy, startE, wipeE, beq_self_eq_true,
  List.map_cons, List.map_nil, List.length_cons, List.length_nil, List.replicate, List.cons_append, List.nil_append, List.getElem?_cons_zero, List.getElem?_cons_succ, List.getElem?_nil, List.set_cons_zero, List.set_cons_succ, List.any_cons, List.any_nil, List.all_cons, List.all_nil,
  Option.map_some, Option.map_none, Option.bind_some, Option.bind_none, Nat.sub_self, Nat.zero_add, Nat.add_zero, Nat.reduceAdd, Nat.reduceSub, Nat.reduceEqDiff, Int.reduceToNat, Int.reducePow, Int.reduceLT, Int.reduceLE, Int.reduceAdd, Int.reduceSub, Int.reduceMul, Int.reduceNeg, Int.reduceBEq, Nat.reduceLT, Nat.reduceLeDiff, Nat.reducePow, gt_iff_lt, ge_iff_le, if_true, if_false, Bool.not_true, Bool.not_false, Bool.or_true, Bool.or_false, Bool.true_or, Bool.false_or, Bool.and_true, Bool.and_false, Bool.true_and, Bool.false_and,
  reduceCtorEq, decide_true, decide_false, Bool.false_eq_true, Bool.true_eq_false, decide_eq_true_eq, decide_eq_false_iff_not, eq_self, Bool.not_eq_true', Bool.not_eq_false', Bool.not_not, false_imp_iff, true_and, and_true, false_and, and_false, not_true_eq_false, not_false_eq_true, implies_true, true_implies, false_implies])
local macro_rules | `(tactic| walk_at "cj") => `(tactic| (repeat' (first | (refine And.intro ?_ ?_) | decide | omega | assumption)))

theorem enu_map {α : Type} {f : α → T} {l : List α} : enuT (l.map f) = l.zipIdx.map fun p => T.tup [.int (p.2 : Nat), f p.1] := by
  unfold enuT
  rw [List.zipIdx_map, List.map_map]; rfl
theorem zip_at {α : Type} {l : List α} {p : α × Nat} (h : p ∈ l.zipIdx) : l[p.2]? = some p.1 := by
  obtain ⟨i, hi, e⟩ := List.getElem_of_mem h
  rw [List.getElem_zipIdx] at e
  rw [List.length_zipIdx] at hi
  rw [← e]
  show l[0 + i]? = _
  rw [Nat.zero_add, List.getElem?_eq_getElem hi]
theorem atI_map {α : Type} {f : α → T} {l : List α} {i : Nat} {x : α} (h : l[i]? = some x) : atI (l.map f) (i : Nat) = some (f x) := by
  rw [atI_nat, List.getElem?_map, h]; rfl
theorem getD_of {α : Type} {l : List α} {i : Nat} {x d : α} (h : l[i]? = some x) : l.getD i d = x := by rw [List.getD_eq_getElem?_getD, h]; rfl
section
variable {Γ : Cl} {env : En} {h : Hs} {a b : E} {r : Es} {x y : Bool}
theorem e_and1 (ha : ev Γ a env h = .ok (.val (.bl x)) h) : evAnd Γ (.cons a .nil) env h = .ok (.val (.bl x)) h := by rw [evAnd]; exact ha
theorem e_and2 (ha : ev Γ a env h = .ok (.val (.bl x)) h) (hr : x = true → evAnd Γ (.cons b r) env h = .ok (.val (.bl y)) h) : evAnd Γ (.cons a (.cons b r)) env h = .ok (.val (.bl (x && y))) h := by
  rw [evAnd, ha]
  · cases x
    · rfl
    · exact hr rfl
  · intro z; cases z
theorem e_and {l : Es} (ha : evAnd Γ l env h = .ok (.val (.bl x)) h) : ev Γ (.and l) env h = .ok (.val (.bl x)) h := by rw [ev]; exact ha
theorem e_or1 (ha : ev Γ a env h = .ok (.val (.bl x)) h) : evOr Γ (.cons a .nil) env h = .ok (.val (.bl x)) h := by rw [evOr]; exact ha
theorem e_or2 (ha : ev Γ a env h = .ok (.val (.bl x)) h) (hr : x = false → evOr Γ (.cons b r) env h = .ok (.val (.bl y)) h) : evOr Γ (.cons a (.cons b r)) env h = .ok (.val (.bl (x || y))) h := by
  rw [evOr, ha]
  · cases x
    · exact hr rfl
    · rfl
  · intro z; cases z
theorem e_or {l : Es} (ha : evOr Γ l env h = .ok (.val (.bl x)) h) : ev Γ (.or l) env h = .ok (.val (.bl x)) h := by rw [ev]; exact ha
theorem f_iteB {N B C : En → Hs → Prop} {R : R → Hs → Prop} {X : T → En → Hs → Prop} {c : E} {s t : Ss} (hc : ev Γ c env h = .ok (.val (.bl x)) h) (h1 : x = true → wf (exs Γ s env h) N B C R X) (h2 : x = false → wf (exs Γ t env h) N B C R X) : wf (ex Γ (.ite c s t) env h) N B C R X := by
  rw [f_ite, hc]
  cases x
  · exact h2 rfl
  · exact h1 rfl
end
theorem w_kept_shown {p : Prg} (H : HasKept p) (hp : Has p "kept_shown" f_kept_shown) (hg : Has p "is_grid" f_is_grid) (hw : Has p "is_whole" f_is_whole) {n m d : Nat} {k : Nat} {t : T} {xs ys : List Sp} {hs : Hs} {Q : R → Hs → Prop} {X : T → Hs → Prop} (hx : Pg xs) (hy : Pg ys) (h1 : longOf xs ≤ 80) (h2 : longOf ys ≤ 80) (hl : xs.length ≤ 100000) (hl2 : ys.length ≤ 100000) (ht : Dt n m d t) (hn : n ≤ 1000000)
    (q : Q (.val (.bl (shown (signsOf xs) (signsOf ys) t))) hs) : wp (callK p (k + 3) "kept_shown" [.tup (xs.map sp), .tup (ys.map sp), t] hs) Q X := by
  have e1 := pg_long hx
  have e2 := pg_long hy
  have c1 : ∀ x ∈ xs, 0 ≤ x.2.1 ∧ x.2.1 ≤ x.2.2 ∧ x.2.2 ≤ 10000000 := fun x m => by have := okSp_iff.mp (hx.ok x m); omega
  have c2 : ∀ x ∈ ys, 0 ≤ x.2.1 ∧ x.2.1 ≤ x.2.2 ∧ x.2.2 ≤ 10000000 := fun x m => by have := okSp_iff.mp (hy.ok x m); omega
  refine w_run hp rfl ?_
  unfold f_kept_shown
  have hsz := size_ge
  walk_at "wk"
  refine w_need_short H hl hl2 h1 h2 ?_
  walk_at "wk"
  rw [c_addresses H.add c1 (by omega)]
  walk_at "wk"
  rw [c_addresses H.add c2 (by omega)]
  walk_at "wk"
  rw [c_is_grid hg hw ht hn]
  walk_at "wk"
  have ox := signsOf_ok hx.ok
  have oy := signsOf_ok hy.ok
  generalize signsOf xs = us at ox e1 q ⊢
  generalize signsOf ys = vs at oy e2 q ⊢
  rw [List.length_map, List.length_map]
  refine ⟨fun e0 => ?_, fun e0 => ?_⟩
  · rw [show shown us vs t = false from by unfold shown; rw [e0]; rfl] at q
    exact q
  · obtain ⟨g, rfl, g1, g2⟩ := grid_of e0
    have g1' : g.length = us.length + 1 := by omega
    have gr : ∀ i : Nat, i < g.length → ∃ r, g[i]? = some r ∧ r ∈ g ∧ r.length = vs.length + 1 := fun i hi => ⟨g[i], List.getElem?_eq_getElem hi, List.getElem_mem hi, by have := g2 _ (List.getElem_mem hi); omega⟩
    unfold pap
    obtain ⟨r0, hr0, mr0, lr0⟩ := gr 0 (by omega)
    have es : shown us vs (pap g) = ((cellK g 0 0 == 0) && !badIn us vs g) := by unfold shown; rw [e0, unP_pap]; rfl
    walk_at "wk"
    rw [show (g.map prow)[0]? = some (prow r0) from by rw [List.getElem?_map, hr0]; rfl]
    unfold prow
    walk_at "wk"
    rw [show (r0.map T.int)[0]? = some (T.int (at0 r0 0)) from by rw [List.getElem?_map, List.getElem?_eq_getElem (by omega)]; simp [at0, List.getD_eq_getElem?_getD, List.getElem?_eq_getElem (show 0 < r0.length by omega)]]
    walk_at "wk"
    have ec : cellK g 0 0 = at0 r0 0 := by unfold cellK; rw [getD_of hr0]
    refine ⟨fun z => ?_, fun z => ?_⟩
    · rw [es, ec] at q
      have : (at0 r0 0 == 0) = false := by simpa using z
      rw [this] at q
      exact q
    · have z' : at0 r0 0 = 0 := by simpa using z
      have es2 : shown us vs (pap g) = !badIn us vs g := by rw [es, ec, z']; rfl
      rw [es2] at q
      have hbad : ∀ i j : Nat, i < g.length → j < vs.length + 1 → badAt us vs g i j = true → (badIn us vs g = true ∧ ((List.range (vs.length + 1)).any fun j => badAt us vs g i j) = true) := by
        intro i j hi hj hb
        have hh : ((List.range (vs.length + 1)).any fun j => badAt us vs g i j) = true := List.any_eq_true.mpr ⟨j, List.mem_range.mpr hj, hb⟩
        exact ⟨List.any_eq_true.mpr ⟨i, List.mem_range.mpr (by omega), hh⟩, hh⟩
      rw [enu_map]
      refine f_forFind (e := fun p : List Int × Nat => T.tup [.int (p.2 : Nat), T.tup (p.1.map T.int)]) (fun p => (List.range (vs.length + 1)).any fun j => badAt us vs g p.2 j) (fun env h => h = hs ∧ ∃ s5 s6 s7 s8, env = [Slot.val (T.tup (List.map sp xs)), Slot.val (T.tup (List.map sp ys)), Slot.val (T.tup (List.map (fun r => T.tup (List.map T.int r)) g)), Slot.val (T.lst (List.map sg us)), Slot.val (T.lst (List.map sg vs)), s5, s6, s7, s8]) ⟨rfl, _, _, _, _, rfl⟩ ?_ ?_
      · rintro ⟨r, i⟩ hp env h ⟨rfl, s5, s6, s7, s8, rfl⟩
        have hri : g[i]? = some r := zip_at hp
        have hi : i < g.length := (List.getElem?_eq_some_iff.mp hri).1
        have lr : r.length = vs.length + 1 := by obtain ⟨r', a, _, b⟩ := gr i hi; rw [hri] at a; cases a; exact b
        refine ⟨_, rfl, ?_⟩
        walk_at "wk"
        rw [enu_map]
        refine f_forFind (e := fun p : Int × Nat => T.tup [.int (p.2 : Nat), T.int p.1]) (fun p => badAt us vs g i p.2) (fun env h' => h' = h ∧ ∃ s7 s8, env = [Slot.val (T.tup (List.map sp xs)), Slot.val (T.tup (List.map sp ys)), Slot.val (T.tup (List.map (fun r => T.tup (List.map T.int r)) g)), Slot.val (T.lst (List.map sg us)), Slot.val (T.lst (List.map sg vs)), Slot.val (T.int (i : Nat)), Slot.val (T.tup (r.map T.int)), s7, s8]) ⟨rfl, _, _, rfl⟩ ?_ ?_
        · rintro ⟨v, j⟩ hq env h' ⟨rfl, s7, s8, rfl⟩
          have hv : r[j]? = some v := zip_at hq
          have hj : j < r.length := (List.getElem?_eq_some_iff.mp hv).1
          have ev : cellK g i j = v := by unfold cellK; rw [getD_of hri]; unfold at0; rw [getD_of hv]
          refine ⟨_, rfl, ?_⟩
          have fin : badAt us vs g i j = true → badAt us vs g i j = true ∧ ((∃ x ∈ r.zipIdx, badAt us vs g i x.2 = true) → ((List.range (vs.length + 1)).any fun j => badAt us vs g i j) = true ∧ ((∃ x ∈ g.zipIdx, ((List.range (vs.length + 1)).any fun j => badAt us vs g x.2 j) = true) → Q (.val (.bl false)) h')) := fun hb => by
            obtain ⟨k1, k2⟩ := hbad i j hi (by omega) hb
            rw [k1] at q
            exact ⟨hb, fun _ => ⟨k2, fun _ => q⟩⟩
          have up : ∀ hi0 : 0 < i, ∃ r', g[i - 1]? = some r' ∧ r'.length = vs.length + 1 ∧ ∀ j, cellK g (i - 1) j = at0 r' j := fun hi0 => by
            obtain ⟨r', a, _, b⟩ := gr (i - 1) (by omega)
            exact ⟨r', a, b, fun j => by unfold cellK; rw [getD_of a]⟩
          have ej : cellK g i (j - 1) = at0 r (j - 1) := by unfold cellK; rw [getD_of hri]
          rw [f_cons]
          refine f_iteB (x := (decide (0 < j) && decide (v < cellK g i (j - 1))) || (decide (0 < i) && decide (v < cellK g (i - 1) j))) ?_ ?_ ?_
          · refine e_or (e_or2 (e_and (e_and2 ?_ fun z => e_and1 ?_)) fun _ => e_or1 (e_and (e_and2 ?_ fun z => e_and1 ?_)))
            · rw [← wp_eq]; walk_at "wk"; simp
            · have z' : 0 < j := by simpa using z
              rw [← wp_eq]; walk_at "wk"
              rw [atI_ints (by omega) (by omega)]
              walk_at "wk"
              rw [ej, show ((j : Int) - 1).toNat = j - 1 from by omega]
            · rw [← wp_eq]; walk_at "wk"; simp
            · have z' : 0 < i := by simpa using z
              obtain ⟨r', a, b, e⟩ := up z'
              rw [← wp_eq]; walk_at "wk"
              rw [show ((i : Int) - 1) = ((i - 1 : Nat) : Int) from by omega, atI_map a]
              walk_at "wk"
              rw [atI_ints (by omega) (by omega)]
              walk_at "wk"
              rw [e, Int.toNat_natCast]
          · intro hb
            walk_at "wk"
            refine fin ?_
            simp only [Bool.or_eq_true, Bool.and_eq_true, decide_eq_true_eq] at hb
            simp only [badAt, Bool.or_eq_true, decide_eq_true_eq, ev]
            rcases hb with hb | hb
            · exact .inl (.inl hb)
            · exact .inl (.inr hb)
          · intro hb
            rw [f_nil, f_cons]
            refine f_iteB (x := decide (0 < i) && (decide (0 < j) && (decide (us[i - 1]? = vs[j - 1]?) && decide (v ≤ cellK g (i - 1) (j - 1))))) ?_ ?_ ?_
            · refine e_and (e_and2 ?_ fun z => e_and2 ?_ fun z2 => e_and2 ?_ fun _ => e_and1 ?_)
              · rw [← wp_eq]; walk_at "wk"; simp
              · rw [← wp_eq]; walk_at "wk"; simp
              · have z1 : 0 < i := by simpa using z
                have z3 : 0 < j := by simpa using z2
                have h1 : i - 1 < us.length := by omega
                have h2 : j - 1 < vs.length := by omega
                rw [← wp_eq]; walk_at "wk"
                rw [show ((i : Int) - 1) = ((i - 1 : Nat) : Int) from by omega, atI_map (List.getElem?_eq_getElem h1)]
                walk_at "wk"
                rw [show ((j : Int) - 1) = ((j - 1 : Nat) : Int) from by omega, atI_map (List.getElem?_eq_getElem h2)]
                walk_at "wk"
                simp only [okEq_sg (ox us[i - 1] (by simp)) (oy vs[j - 1] (by simp)), if_true, eqT_sg]
                walk_at "wk"
                rw [List.getElem?_eq_getElem h1, List.getElem?_eq_getElem h2]
                simp
              · have z1 : 0 < i := by simpa using z
                have z3 : 0 < j := by simpa using z2
                obtain ⟨r', a, b, e⟩ := up z1
                rw [← wp_eq]; walk_at "wk"
                rw [show ((i : Int) - 1) = ((i - 1 : Nat) : Int) from by omega, atI_map a]
                walk_at "wk"
                rw [atI_ints (by omega) (by omega)]
                walk_at "wk"
                rw [e, show ((j : Int) - 1).toNat = j - 1 from by omega]
            · intro hc
              walk_at "wk"
              refine fin ?_
              simp only [Bool.and_eq_true, decide_eq_true_eq] at hc
              simp only [badAt, Bool.or_eq_true, decide_eq_true_eq, ev]
              exact .inr hc
            · intro hc
              rw [f_nil, f_nil]
              refine ⟨⟨rfl, _, _, rfl⟩, ?_⟩
              simp only [badAt, ev]
              rw [← Bool.not_eq_true] at hb hc ⊢
              simp only [Bool.or_eq_true, Bool.and_eq_true, decide_eq_true_eq] at hb hc ⊢
              intro z
              rcases z with (z | z) | z
              · exact hb (.inl z)
              · exact hb (.inr z)
              · exact hc z
        · rintro env h' ⟨rfl, s7, s8, rfl⟩ hall
          walk_at "wk"
          refine ⟨⟨_, _, _, _, rfl⟩, ?_⟩
          rw [← Bool.not_eq_true, List.any_eq_true]
          rintro ⟨j, hj, hb⟩
          rw [List.mem_range] at hj
          have hjr : j < r.length := by omega
          have := hall (r[j], j) (by rw [List.mem_iff_getElem?]; exact ⟨j, by rw [List.getElem?_zipIdx, List.getElem?_eq_getElem hjr]; simp⟩)
          rw [this] at hb
          cases hb
      · rintro env h ⟨rfl, s5, s6, s7, s8, rfl⟩ hall
        walk_at "wk"
        have : badIn us vs g = false := by
          rw [← Bool.not_eq_true]
          intro hb
          obtain ⟨i, hi, hb⟩ := List.any_eq_true.mp hb
          rw [List.mem_range] at hi
          have hig : i < g.length := by omega
          have := hall (g[i], i) (by rw [List.mem_iff_getElem?]; exact ⟨i, by rw [List.getElem?_zipIdx, List.getElem?_eq_getElem hig]; simp⟩)
          rw [this] at hb
          cases hb
        rw [this] at q
        exact q
end Fx

namespace Fx
open PySem L2
local macro_rules | `(tactic| walk_at "wk") => `(tactic| simp only [↓w_con, ↓w_var, vV_v, vV_o, ↓w_bin, ↓w_not, ↓w_and, ↓w_or, ↓w_and1, ↓w_and2, ↓w_or1, ↓w_or2, ↓w_cmp, ↓w_chn, ↓w_ch1, ↓w_ch2, ↓w_isN, ↓w_ite, ↓w_tup, ↓w_lst, ↓w_slc, ↓w_call2, ↓w_bi, ↓w_isi, ↓w_idx, ↓w_neg, ↓w_mth, ↓w_ono, ↓w_oso, ↓w_cno, ↓w_cso, ↓w_nil, ↓w_cons, ↓w_pnil, ↓w_pcons, ↓w_ival, ↓w_rng1, ↓w_rng2, ↓w_zip, ↓w_zipk, ↓w_enu, ↓w_isB, ↓w_rev, ↓w_lrng1, ↓w_lrng2, vV_l, lV_i, r2V_i, zV_l, zV_t, ↓w_lc, ↓w_lc2,
  ↓w_ok, ↓w_exc, ↓w_stuck, ↓w_bind, ↓w_ofc, ↓w_ofs, ↓w_ofn, ↓w_ofm, ↓w_if, ↓w_sel, ↓f_nx, ↓f_rt, ↓f_exc, ↓f_stuck, ↓f_bind, ↓f_fl, ↓f_if, ↓f_sel, ↓f_nil, ↓f_cons, ↓f_pass, ↓f_expr, ↓f_asg, ↓f_asgO, ↓f_asgB, ↓f_ret, ↓f_retN, ↓f_ite, ↓f_forr,
  ↓f_app2, mV_o, mV_r, ceV_l, ↓f_seti2, mD_o, mD_r, xV_i, ↓f_aug, sV_v, augT_add, augT_sub, ↓f_asgT, tV_t, putEs_c, putEs_n, ↓f_par, twV, sz0, sz1, sz2, sz3, sz4, sz5, sz6, sz7, sz8, sz9, sz10, sz11, sz12, sz13, sz14, sz15, sz16, sz17, sz18, sz19, sz20, sz21, sz22, sz23, sz24, sz25, sz26, sz27, sz28, sz29, sz30, w_ok, w_ofc, w_ofs, w_ofn, w_ofm, w_if, w_sel, f_sel, f_if,
  P.t_val, P.t_new, P.t_pk, P.k_val, P.k_new, P.k_pk, P.u_t, P.u_k, P.ret_val, P.ret_new, P.ret_pk, R.p_val, R.p_new, truthB_bl, Cell.t_lst,
  oB_add, oB_adds, oB_addb, oB_subb, fStr_b, nV_b, oB_addl, oB_addt, oB_sub, oB_mul, oB_mull, oB_div, oB_mod, oB_pow, oC_eq, oC_ne, oC_lt, oC_le, oC_gt, oC_ge, oC_in, oC_notin, oC_inl, oC_notinl, oC_lts, oC_gts, oC_les, oC_ges, oC_ltt, oC_ltl, oB_mult, fSort_l, fSort_t, fOrd_c, okEq_ii, okEq_bb, okEq_ss, eqT_ii, eqT_bb, eqT_ss, opI_l, opI_c, opI_t, opI_s, opS_l, opS_t, opS_s, iV_l, iV_t, iV_s, iV_c, nV_i, oV_i, rV_i, aV_v, aV_n, aO_n, aB_n, cV_v, cV_n,
  fLen_l, fLen_t, fLen_c, fLen_s, fAbs_i, fMin_i, fMax_i, fSum_l, fAll_l, fAny_l, fInt_i, fInt_b, fStr_i, fStr_s, fList_l, fList_t, fTuple_l, fTuple_t, mJoin_l, mUp_s, isI_non, isI_bl, isI_int, isI_str, isI_tup, isI_lst, itemsT_l, itemsT_t, itemsT_s, exV_some, exV_map, exV_if, atI_0, atI_1, atI_2, atI_3, atI_4,
  T.ty, Mt.ty, T.isNon, isTy, startE, wipeE, beq_self_eq_true,
  List.map_cons, List.map_nil, List.length_cons, List.length_nil, List.replicate, List.cons_append, List.nil_append, List.getElem?_cons_zero, List.getElem?_cons_succ, List.getElem?_nil, List.set_cons_zero, List.set_cons_succ, List.any_cons, List.any_nil, List.all_cons, List.all_nil,
  Option.map_some, Option.map_none, Option.bind_some, Option.bind_none, Nat.sub_self, Nat.zero_add, Nat.add_zero, Nat.reduceAdd, Nat.reduceSub, Nat.reduceEqDiff, Int.reduceToNat, Int.reducePow, Int.reduceLT, Int.reduceLE, Int.reduceAdd, Int.reduceSub, Int.reduceMul, Int.reduceNeg, Int.reduceBEq, Nat.reduceLT, Nat.reduceLeDiff, Nat.reducePow, gt_iff_lt, ge_iff_le, if_true, if_false, Bool.not_true, Bool.not_false, Bool.or_true, Bool.or_false, Bool.true_or, Bool.false_or, Bool.and_true, Bool.and_false, Bool.true_and, Bool.false_and,
  reduceCtorEq, decide_true, decide_false, Bool.false_eq_true, Bool.true_eq_false, decide_eq_true_eq, decide_eq_false_iff_not, eq_self, Bool.not_eq_true', Bool.not_eq_false', Bool.not_not, false_imp_iff, true_and, and_true, false_and, and_false, not_true_eq_false, not_false_eq_true, implies_true, true_implies, false_implies])
local macro_rules | `(tactic| walk_at "cj") => `(tactic| (repeat' (first | (refine And.intro ?_ ?_) | decide | omega | assumption)))

/-! ### dicts -/
section
variable {Γ : Cl} {env : En} {h : Hs} {X : T → Hs → Prop}
theorem w_dc {Q : P → Hs → Prop} {b : Bool} {own : List Nat} {tg : Tg} {it : It} {k v : E} : wp (ev Γ (.dc b own tg it k v) env h) Q X ↔ wp (evI Γ false it env h) (fun xs h1 => xs.length ≤ sizeLine ∧ freeE env own = true ∧ wp (dcL (turnD Γ own tg k v env) xs (dEmp b) h1) (fun c h5 => Q (.new c) h5) (fun _ _ => False)) X := by
  rw [ev_dc, w_bind]
  refine wp_ext fun xs h1 => ?_
  by_cases q : xs.length ≤ sizeLine ∧ freeE env own = true
  · rw [if_pos q, w_bind, w_noX]
    refine ⟨fun k => ⟨q.1, q.2, k⟩, fun k => k.2.2⟩
  · rw [if_neg q]
    exact ⟨fun k => k.elim, fun k => q ⟨k.1, k.2.1⟩⟩
theorem w_turnD {own : List Nat} {tg : Tg} {k v : E} {x : T} {env2 : En} {Q : T × T → Hs → Prop} (hp : putTg tg (wipeE env own) x = some env2) : wp (turnD Γ own tg k v env x h) Q X ↔ wp (ev Γ k env2 h) (fun y h3 => wp (Out.of y.k h3) (fun tk h4 => wp (ev Γ v env2 h4) (fun z h5 => wp (Out.of z.k h5) (fun tv h6 => Q (tk, tv) h6) X) X) X) X := by
  unfold turnD
  simp only [hp, w_bind]
  refine wp_ext fun y h3 => ?_
  cases y.k with
  | none => rfl
  | some tk =>
    rw [w_bind]
    show _ ↔ wp (ev Γ v env2 h3) (fun z h5 => wp (Out.of z.k h5) (fun tv h6 => Q (tk, tv) h6) X) X
    refine wp_ext fun z h5 => ?_
    cases z.k <;> rfl
end
def ct (d : List (List Key × T)) : Cell := .dt (d.map (·.1)) (d.map (·.2))
def dAll (c l : List (List Key × T)) : List (List Key × T) := l.foldl (fun d kv => dP d kv.1 kv.2) c
theorem dP_len {κ : Type} [DecidableEq κ] {d : List (κ × T)} {k : κ} {v : T} : (dP d k v).length ≤ d.length + 1 := by
  unfold dP
  split
  · rw [List.length_map]; omega
  · simp
theorem dPut_ct {d : List (List Key × T)} {k v : T} {q : List Key} (e : ksOf k = some q) (hl : d.length < sizeLine) : dPut (ct d) k v = some (ct (dP d q v)) := by
  simp only [ct, dPut, e, Option.bind_some, zip_self', List.length_map, hl, if_true]
theorem w_dcmap {α : Type} {f : T → Hs → Out (T × T)} {xs : List α} {e ke ve : α → T} {kk : α → List Key} {h : Hs} {Q : Cell → Hs → Prop} {X : T → Hs → Prop} (hk : ∀ x ∈ xs, ksOf (ke x) = some (kk x)) (k : ∀ x ∈ xs, wp (f (e x) h) (fun y h' => y = (ke x, ve x) ∧ h' = h) (fun _ _ => False)) (hl : xs.length ≤ sizeLine)
    (q : Q (ct (dAll [] (xs.map fun x => (kk x, ve x)))) h) : wp (dcL f (xs.map e) (dEmp true) h) Q X := by
  have key : ∀ (xs : List α) (d : List (List Key × T)), (∀ x ∈ xs, ksOf (ke x) = some (kk x)) → (∀ x ∈ xs, wp (f (e x) h) (fun y h' => y = (ke x, ve x) ∧ h' = h) (fun _ _ => False)) → d.length + xs.length ≤ sizeLine →
      dcL f (xs.map e) (ct d) h = .ok (ct (dAll d (xs.map fun x => (kk x, ve x)))) h := by
    intro xs
    induction xs with
    | nil => intro d _ _ _; rfl
    | cons x r ih =>
      intro d hk k hl
      have e1 := wp_eq.mp (k x (by simp))
      simp only [List.length_cons] at hl
      have hd := @dP_len _ _ d (kk x) (ve x)
      simp only [List.map_cons, dcL, e1, Out.bind_ok]
      rw [dPut_ct (hk x (by simp)) (by omega)]
      simp only
      rw [ih _ (fun y hy => hk y (by simp [hy])) (fun y hy => k y (by simp [hy])) (by omega)]
      rfl
  have := key xs [] hk k (by simpa using hl)
  show wp (dcL f (xs.map e) (ct []) h) Q X
  rw [this]
  exact q
theorem dG_dP {κ α : Type} [DecidableEq κ] {d : List (κ × α)} {k q : κ} {v : α} : dG (dP d k v) q = if k = q then some v else dG d q := by
  unfold dP
  by_cases c : (d.any fun kv => decide (kv.1 = k)) = true
  · rw [if_pos c]
    induction d with
    | nil => cases c
    | cons x d ih =>
      obtain ⟨x1, x2⟩ := x
      by_cases e : x1 = k
      · subst e
        by_cases e2 : x1 = q
        · subst e2; simp [dG]
        · simp only [e2, if_false]
          clear ih c
          simp only [dG, List.map_cons, if_true, List.find?_cons, e2, decide_false]
          congr 1
          induction d with
          | nil => rfl
          | cons y d ih =>
            obtain ⟨y1, y2⟩ := y
            by_cases e3 : y1 = x1
            · subst e3; simp [List.find?_cons, e2, ih]
            · by_cases e4 : y1 = q
              · subst e4; simp [List.find?_cons, e3]
              · simp [List.find?_cons, e3, e4, ih]
      · have c' : (d.any fun kv => decide (kv.1 = k)) = true := by simpa [e] using c
        have ih := ih c'
        by_cases e2 : x1 = q
        · subst e2
          have : ¬ k = x1 := fun z => e z.symm
          simp [dG, e, this]
        · simp only [dG, List.map_cons, e, if_false, List.find?_cons, e2, decide_false] at ih ⊢
          exact ih
  · rw [if_neg c]
    by_cases e : k = q
    · subst e
      have : d.find? (fun kv => decide (kv.1 = k)) = none := by
        rw [List.find?_eq_none]
        intro x hx z
        exact c (List.any_eq_true.mpr ⟨x, hx, z⟩)
      simp [dG, List.find?_append, this]
    · simp [dG, List.find?_append, e]
theorem dG_dAll {l : List (List Key × T)} {q : List Key} : ∀ {d : List (List Key × T)}, (dG (dAll d l) q).isSome = ((dG d q).isSome || l.any fun kv => decide (kv.1 = q)) := by
  induction l with
  | nil => intro d; simp [dAll]
  | cons x r ih =>
    intro d
    show (dG (dAll (dP d x.1 x.2) r) q).isSome = _
    rw [ih, dG_dP, List.any_cons]
    by_cases e : x.1 = q
    · simp [e]
    · simp [e]
theorem aV_ct {N : En → Hs → Prop} {env : En} {k : Nat} {h : Hs} {d : List (List Key × T)} : asgV N env k h (.new (ct d)) ↔ N (env.set k (.val (ct d).t)) h := Iff.rfl
def sk (q : Sg) : List Key := [.inr q.1, .inl q.2]
theorem ksOf_sg {q : Sg} : ksOf (sg q) = some (sk q) := rfl
theorem sk_inj {a b : Sg} : sk a = sk b ↔ a = b := by
  obtain ⟨a1, a2⟩ := a
  obtain ⟨b1, b2⟩ := b
  simp [sk]
theorem in_sgs {l : List Sg} {v : T} {q : Sg} : (dG (dAll [] (l.map fun x => (sk x, v))) (sk q)).isSome = decide (q ∈ l) := by
  rw [dG_dAll]
  show (false || _) = _
  rw [Bool.false_or]
  induction l with
  | nil => rfl
  | cons x r ih =>
    rw [List.map_cons, List.any_cons, ih]
    have : (sk x = sk q) = (q = x) := propext (sk_inj.trans eq_comm)
    simp only [this, List.mem_cons, Bool.decide_or]
theorem oC_ndt {q : Sg} {d : List (List Key × T)} : opC .NotIn (sg q) (ct d).t = some (!(dG d (sk q)).isSome) := by
  show (dFind (.dt (d.map (·.1)) (d.map (·.2))) (sg q)).map (fun o => !o.isSome) = _
  simp only [dFind, ksOf_sg, Option.map_some, zip_self']
theorem oC_idt {q : Sg} {d : List (List Key × T)} : opC .In (sg q) (ct d).t = some (dG d (sk q)).isSome := by
  show (dFind (.dt (d.map (·.1)) (d.map (·.2))) (sg q)).map (fun o => o.isSome) = _
  simp only [dFind, ksOf_sg, Option.map_some, zip_self']

/-! ### stretches -/
abbrev Pr := Int × Int
def pr (x : Pr) : T := .tup [.int x.1, .int x.2]
def addS (f : List Pr) (p : Int) : List Pr := match f.reverse with
  | [] => [(p, p + 1)]
  | (a, b) :: r => if b = p then r.reverse ++ [(a, p + 1)] else r.reverse ++ [(a, b)] ++ [(p, p + 1)]
def strt (l : List Int) : List Pr := l.foldl addS []
theorem strt_app {l : List Int} {p : Int} : strt (l ++ [p]) = addS (strt l) p := by simp [strt]
theorem addS_len {f : List Pr} {p : Int} : (addS f p).length ≤ f.length + 1 := by
  unfold addS
  rcases List.eq_nil_or_concat f with rfl | ⟨r, ⟨a, b⟩, rfl⟩
  · simp
  · simp only [List.concat_eq_append, List.reverse_append, List.reverse_cons, List.reverse_nil, List.nil_append, List.cons_append, List.reverse_reverse]
    split <;> simp
theorem strt_len (l : List Int) : (strt l).length ≤ l.length := by
  refine snoc_ind (M := fun l => (strt l).length ≤ l.length) (by simp [strt]) (fun l p ih => ?_) l
  rw [strt_app]
  have := @addS_len (strt l) p
  simp
  omega
theorem prs_isD {l : List Pr} : (T.lst (l.map pr)).isD = true := by
  simp only [T.isD]
  rw [allD_iff]
  intro t ht
  obtain ⟨x, _, rfl⟩ := List.mem_map.mp ht
  rfl
theorem sort_rising {l : List Int} (h : l.Pairwise (fun a b => a ≤ b)) : sortT (l.map T.int) = l.map T.int := by
  have e : sortT (l.map T.int) = (l.mergeSort (fun a b => decide (a ≤ b))).map T.int := by
    unfold sortT
    symm
    apply List.map_mergeSort
    intro a _ b _
    exact (congrFun (congrFun (PySem.W.dataLe_int (β := Int) id) a) b).symm
  rw [e, List.mergeSort_of_pairwise (h.imp (fun h => by simpa using h))]
theorem c_stretches {p : Prg} (h : Has p "stretches" f_stretches) {k : Nat} {t : T} {l : List Int} {hs : Hs} (ht : itemsT t = some (l.map T.int)) (hl : l.length ≤ 10000000) : callK p (k + 1) "stretches" [t] hs = .ok (.new (.lst ((strt l).map pr))) hs := by
  rw [← wp_eq]
  refine w_run h rfl ?_
  unfold f_stretches
  have hsz := size_ge
  walk_at "wk"
  rw [ht]
  walk_at "wk"
  refine f_forMap (fun done env h => h = hs ∧ ∃ s2, env = [Slot.val t, Slot.own (.lst ((strt done).map pr)), s2]) ⟨rfl, _, rfl⟩ ?_ ?_
  · rintro done q rest ex env h1 ⟨rfl, s2, rfl⟩
    have hlen : (strt done).length ≤ 10000000 := by
      have h1 := strt_len done
      have h2 := congrArg List.length ex
      simp at h2
      omega
    refine ⟨_, rfl, ?_⟩
    rw [strt_app]
    generalize strt done = found at hlen
    walk_at "wk"
    have ok1 : okEq (.lst (found.map pr)) (.lst []) = true := by
      unfold okEq
      rw [prs_isD]
      simp [T.isD, allD, T.dep, depL]
    rw [ok1, eq_nil]
    rcases List.eq_nil_or_concat found with rfl | ⟨r, ⟨a, b⟩, rfl⟩
    · refine ⟨rfl, fun hh => absurd hh (by simp), fun _ => ⟨Nat.lt_of_lt_of_le (by decide) hsz, _, rfl⟩⟩
    · have hc : List.map pr (r.concat (a, b)) = r.map pr ++ [pr (a, b)] := by simp
      have hg : (r.concat (a, b)).reverse = (a, b) :: r.reverse := by simp
      have hl2 : r.length + 1 ≤ 10000000 := by simpa using hlen
      unfold addS
      rw [hg]
      rw [hc]
      refine ⟨rfl, fun _ => ?_, fun hh => by simp at hh⟩
      rw [atI_neg]
      unfold pr
      walk_at "wk"
      refine ⟨fun e1 => ?_, fun e1 => ?_⟩
      · rw [atI_neg]
        walk_at "wk"
        refine ⟨r.length, by rw [List.length_append, List.length_singleton, List.length_map]; exact ixN_neg, ?_⟩
        walk_at "wk"
        rw [show r.length = (List.map (fun x : Pr => T.tup [T.int x.1, T.int x.2]) r).length from by simp, set_last]
        rw [if_pos (by simpa using e1)]
        refine ⟨.val (.int q), ?_⟩
        simp
      · rw [if_neg (by simpa using e1)]
        refine ⟨by simp; omega, .val (.int q), ?_⟩
        simp
  · rintro env h1 ⟨rfl, s2, rfl⟩
    walk_at "wk"
theorem c_law_stretches {p : Prg} (h : Has p "_law_stretches" f__law_stretches) {k : Nat} {l : List Int} {hs : Hs} (ht : l.Pairwise (fun a b => a ≤ b)) (hl : l.length ≤ 10000000) : callK p (k + 1) "_law_stretches" [.lst (l.map T.int)] hs = .ok (.new (.lst ((strt l).map pr))) hs := by
  rw [← wp_eq]
  refine w_run h rfl ?_
  unfold f__law_stretches
  have hsz := size_ge
  walk_at "wk"
  rw [okSort_ints (by omega), sort_rising ht]
  walk_at "wk"
  refine f_forMap (fun done env h => h = hs ∧ ∃ s2, env = [Slot.val (.lst (l.map T.int)), Slot.own (.lst ((strt done).map pr)), s2]) ⟨rfl, _, rfl⟩ ?_ ?_
  · rintro done q rest ex env h1 ⟨rfl, s2, rfl⟩
    have hlen : (strt done).length ≤ 10000000 := by
      have h1 := strt_len done
      have h2 := congrArg List.length ex
      simp at h2
      omega
    refine ⟨_, rfl, ?_⟩
    rw [strt_app]
    generalize strt done = found at hlen
    walk_at "wk"
    have ok1 : okEq (.lst (found.map pr)) (.lst []) = true := by
      unfold okEq
      rw [prs_isD]
      simp [T.isD, allD, T.dep, depL]
    rw [ok1, eq_nil]
    rcases List.eq_nil_or_concat found with rfl | ⟨r, ⟨a, b⟩, rfl⟩
    · refine ⟨rfl, fun hh => absurd hh (by simp), fun _ => ⟨Nat.lt_of_lt_of_le (by decide) hsz, _, rfl⟩⟩
    · have hc : List.map pr (r.concat (a, b)) = r.map pr ++ [pr (a, b)] := by simp
      have hg : (r.concat (a, b)).reverse = (a, b) :: r.reverse := by simp
      have hl2 : r.length + 1 ≤ 10000000 := by simpa using hlen
      unfold addS
      rw [hg]
      rw [hc]
      refine ⟨rfl, fun _ => ?_, fun hh => by simp at hh⟩
      rw [atI_neg]
      unfold pr
      walk_at "wk"
      refine ⟨fun e1 => ?_, fun e1 => ?_⟩
      · rw [atI_neg]
        walk_at "wk"
        refine ⟨r.length, by rw [List.length_append, List.length_singleton, List.length_map]; exact ixN_neg, ?_⟩
        walk_at "wk"
        rw [show r.length = (List.map (fun x : Pr => T.tup [T.int x.1, T.int x.2]) r).length from by simp, set_last]
        rw [if_pos (by simpa using e1)]
        refine ⟨.val (.int q), ?_⟩
        simp
      · rw [if_neg (by simpa using e1)]
        refine ⟨by simp; omega, .val (.int q), ?_⟩
        simp
  · rintro env h1 ⟨rfl, s2, rfl⟩
    walk_at "wk"
/-! ### places in rows of signs -/
def sg0 : Sg := (Str.empty, 0)
theorem zip_range {α : Type} {l : List α} (d : α) : l.zipIdx = (List.range l.length).map fun i => (l.getD i d, i) := by
  apply List.ext_getElem
  · simp
  · intro i h1 h2
    simp at h1
    simp [h1]
theorem okEq_sgs' {l m : List Sg} (h : ∀ q ∈ l, okSg q) (h2 : ∀ q ∈ m, okSg q) : okEq (.lst (l.map sg)) (.lst (m.map sg)) = true := by
  have key : ∀ l : List Sg, (∀ q ∈ l, okSg q) → (T.lst (l.map sg)).isD = true ∧ (T.lst (l.map sg)).dep ≤ 3 := by
    intro l h
    constructor
    · simp only [T.isD]
      rw [allD_iff]
      intro t ht
      obtain ⟨x, hx, rfl⟩ := List.mem_map.mp ht
      have := name_ok (h x hx).1
      simp [sg, T.isD, allD, this]
    · have : depL (l.map sg) ≤ 2 := by
        clear h
        induction l with
        | nil => simp [depL]
        | cons x r ih => simp only [List.map_cons, depL, sg, T.dep]; omega
      simp only [T.dep]; omega
  unfold okEq
  have k1 := key l h
  have k2 := key m h2
  simp only [k1.1, k2.1, Bool.and_self, Bool.true_and, decide_eq_true_eq]
  omega
theorem any_sgs {l : List Sg} {q : Sg} : ((l.map sg).any fun z => eqT z (sg q)) = decide (q ∈ l) := by
  rw [List.any_map]
  induction l with
  | nil => rfl
  | cons x r ih =>
    rw [List.any_cons, ih]
    have : (x = q) = (q = x) := propext eq_comm
    simp only [Function.comp_apply, eqT_sg, this, List.mem_cons, Bool.decide_or]
/-- the places of signs that are not in the other row -/
def onlyI (S M : List Sg) : List Int := (List.range S.length).filterMap fun i => if S.getD i sg0 ∈ M then none else some (i : Int)
def thereI (M : List Sg) (q : Sg) : List Int := (List.range M.length).filterMap fun i => if M.getD i sg0 = q then some (i : Int) else none
theorem onlyI_T {S M : List Sg} : (List.range S.length).filterMap (fun i => if S.getD i sg0 ∈ M then none else some (T.int (i : Nat))) = (onlyI S M).map T.int := by
  unfold onlyI
  rw [List.map_filterMap]
  congr 1
  funext i
  split <;> rfl
theorem thereI_T {M : List Sg} {q : Sg} : (List.range M.length).filterMap (fun i => if M.getD i sg0 = q then some (T.int (i : Nat)) else none) = (thereI M q).map T.int := by
  unfold thereI
  rw [List.map_filterMap]
  congr 1
  funext i
  split <;> rfl
theorem thereI_len (M : List Sg) (q : Sg) : (thereI M q).length ≤ M.length := by
  have := List.length_filterMap_le (fun i => if M.getD i sg0 = q then some (i : Int) else none) (List.range M.length)
  simpa [thereI] using this
theorem onlyI_len (S M : List Sg) : (onlyI S M).length ≤ S.length := by
  have := List.length_filterMap_le (fun i => if S.getD i sg0 ∈ M then none else some (i : Int)) (List.range S.length)
  simpa [onlyI] using this
theorem onlyI_rise (S M : List Sg) : (onlyI S M).Pairwise (fun a b => a ≤ b) := by
  unfold onlyI
  rw [List.pairwise_filterMap]
  refine List.pairwise_lt_range.imp ?_
  intro a b hab x hx y hy
  split at hx
  · cases hx
  · split at hy
    · cases hy
    · cases hx; cases hy; omega
theorem onlyI_self (S : List Sg) : onlyI S S = [] := by
  unfold onlyI
  rw [List.filterMap_eq_nil_iff]
  intro i hi
  have h := List.mem_range.mp hi
  rw [if_pos]
  rw [List.getD_eq_getElem?_getD, List.getElem?_eq_getElem h]
  exact List.getElem_mem h
theorem c_only {p : Prg} (hp : Has p "only" f_only) (had : Has p "addresses" f_addresses) (hst : Has p "stretches" f_stretches) {k : Nat} {xs ys : List Sp} {hs : Hs} (hx : ∀ x ∈ xs, 0 ≤ x.2.1 ∧ x.2.1 ≤ x.2.2 ∧ x.2.2 ≤ 10000000) (hy : ∀ x ∈ ys, 0 ≤ x.2.1 ∧ x.2.1 ≤ x.2.2 ∧ x.2.2 ≤ 10000000)
    (hl : (signsOf xs).length ≤ 10000000) (hl2 : (signsOf ys).length ≤ 10000000) : callK p (k + 2) "only" [.tup (xs.map sp), .tup (ys.map sp)] hs = .ok (.new (.lst ((strt (onlyI (signsOf xs) (signsOf ys))).map pr))) hs := by
  rw [← wp_eq]
  refine w_run hp rfl ?_
  unfold f_only
  have hsz := size_ge
  walk_at "wk"
  rw [w_dc]
  walk_at "wk"
  rw [c_addresses had hy hl2]
  walk_at "wk"
  refine ⟨by rw [List.length_map]; omega, rfl, ?_⟩
  refine w_dcmap (ke := sg) (ve := fun _ => .bl true) (kk := sk) (fun _ _ => ksOf_sg) ?_ (by omega) ?_
  · intro q hq
    rw [w_turnD (by rfl)]
    walk_at "wk"
  rw [aV_ct]
  walk_at "wk"
  rw [c_addresses had hx hl]
  walk_at "wk"
  rw [enu_map, zip_range sg0, List.map_map]
  refine ⟨by simp; omega, rfl, ?_⟩
  refine w_lcfil (g := fun i => if (signsOf xs).getD i sg0 ∈ signsOf ys then none else some (.int (i : Nat))) ?_ ?_
  · intro i hi
    rw [w_turn (by rfl)]
    walk_at "wk"
    rw [oC_ndt, in_sgs]
    walk_at "wk"
    refine ⟨fun e => ?_, fun e => ?_⟩
    · rw [if_neg e]
    · rw [if_pos e]
  · walk_at "wk"
    rw [onlyI_T]
    have hz := onlyI_len (signsOf xs) (signsOf ys)
    rw [c_stretches hst rfl (by omega)]
    exact ⟨rfl, rfl⟩
/-- what address wants -/
structure HasPlc (p : Prg) : Prop where
  npl : Has p "need_place" f_need_place
  pie : Has p "piece" f_piece
  lon : Has p "long" f_long
  ini : p.tb.init.lookup ("NoPlace" : Str) = some "at"
theorem w_need_place2 {p : Prg} (H : HasPlc p) {k : Nat} {a lo hi : Int} {hs : Hs} {Q : R → Hs → Prop} {X : T → Hs → Prop} (q1 : lo ≤ a ∧ a ≤ hi → Q (.val .non) hs) (q2 : ¬ (lo ≤ a ∧ a ≤ hi) → X (noPlace (.int a)) hs) : wp (callK p (k + 3) "need_place" [.int a, .int lo, .int hi] hs) Q X := by
  refine w_run H.npl rfl ?_
  unfold f_need_place
  walk_at "wk"
  rw [f_raise1 H.ini (by omega)]
  walk_at "wk"
  rw [onV]
  by_cases c1 : lo ≤ a
  · by_cases c2 : a ≤ hi
    · refine ⟨fun _ => ⟨fun z => ?_, fun z => ?_⟩, fun z => ?_⟩
      all_goals first | exact q1 ⟨c1, c2⟩ | omega
    · refine ⟨fun _ => ⟨fun z => ?_, fun z => ?_⟩, fun z => ?_⟩
      all_goals first | exact q2 fun z => c2 z.2 | omega
  · refine ⟨fun _ => ⟨fun z => ?_, fun z => ?_⟩, fun z => ?_⟩
    all_goals first | exact q2 fun z => c1 z.1 | omega
theorem w_address2 {p : Prg} (H : HasPlc p) (hp : Has p "address" f_address) {k : Nat} {xs : List Sp} {a : Int} {hs : Hs} {Q : R → Hs → Prop} {X : T → Hs → Prop} (pg : Pg xs) (hl : xs.length ≤ 1000000) (q1 : ∀ q, 0 ≤ a → (signsOf xs)[a.toNat]? = some q → Q (.val (sg q)) hs) (q2 : ¬ (0 ≤ a ∧ a < (signsOf xs).length) → X (noPlace (.int a)) hs) : wp (callK p (k + 4) "address" [.tup (xs.map sp), .int a] hs) Q X := by
  have hlong := longOf_signs (okSp_le pg.ok)
  refine w_run hp rfl ?_
  unfold f_address
  walk_at "wk"
  rw [c_long H.lon hl]
  walk_at "wk"
  rw [hlong]
  refine w_need_place2 H (fun c => ?_) (fun c => ?_)
  · walk_at "wk"
    rw [c_piece H.pie hl]
    have hlt : a.toNat < (signsOf xs).length := by omega
    rw [piece_one pg c.1 (List.getElem?_eq_getElem hlt)]
    walk_at "wk"
    unfold sp
    walk_at "wk"
    exact q1 _ c.1 (List.getElem?_eq_getElem hlt)
  · exact q2 fun z => c ⟨z.1, by omega⟩
/-- where a sign stands in another page -/
theorem w_there {p : Prg} (H : HasPlc p) (hp : Has p "there" f_there) (ha : Has p "address" f_address) (had : Has p "addresses" f_addresses) {k : Nat} {xs ys : List Sp} {a : Int} {hs : Hs} {Q : R → Hs → Prop} {X : T → Hs → Prop} (pg : Pg xs) (pgy : Pg ys) (hl : xs.length ≤ 1000000) (hl2 : (signsOf ys).length ≤ 10000000)
    (q1 : 0 ≤ a → a < (signsOf xs).length → Q (.new (.lst ((thereI (signsOf ys) ((signsOf xs).getD a.toNat sg0)).map T.int))) hs) (q2 : ¬ (0 ≤ a ∧ a < (signsOf xs).length) → X (noPlace (.int a)) hs) : wp (callK p (k + 5) "there" [.tup (xs.map sp), .tup (ys.map sp), .int a] hs) Q X := by
  have hsz := size_ge
  refine w_run hp rfl ?_
  unfold f_there
  walk_at "wk"
  refine w_address2 H ha pg hl (fun q c eq => ?_) (fun c => ?_)
  · have hlt : a.toNat < (signsOf xs).length := (List.getElem?_eq_some_iff.mp eq).1
    have hq1 : okSg q := by
      have := signsOf_ok pg.ok q (List.mem_of_getElem? eq)
      exact this
    walk_at "wk"
    rw [c_addresses had (okSp_bd pgy.ok) hl2]
    walk_at "wk"
    rw [enu_map, zip_range sg0, List.map_map]
    refine ⟨by simp; omega, rfl, ?_⟩
    refine w_lcfil (g := fun i => if (signsOf ys).getD i sg0 = q then some (T.int (i : Nat)) else none) ?_ ?_
    · intro i hi
      have hi' := List.mem_range.mp hi
      have ho : okSg ((signsOf ys).getD i sg0) := by
        rw [List.getD_eq_getElem?_getD, List.getElem?_eq_getElem hi']
        exact signsOf_ok pgy.ok _ (List.getElem_mem hi')
      rw [w_turn (by rfl)]
      walk_at "wk"
      simp only [okEq_sg ho hq1, if_true, eqT_sg]
      walk_at "wk"
      refine ⟨fun e => ?_, fun e => ?_⟩
      · rw [if_pos e]
      · rw [if_neg e]
    · rw [thereI_T]
      have := q1 c (by omega)
      rw [List.getD_eq_getElem?_getD, eq, Option.getD_some] at this
      exact this
  · exact q2 c
end Fx

namespace Fx
open PySem L2
local macro_rules | `(tactic| walk_at "wk") => `(tactic| simp only [↓w_con, ↓w_var, vV_v, vV_o, ↓w_bin, ↓w_not, ↓w_and, ↓w_or, ↓w_and1, ↓w_and2, ↓w_or1, ↓w_or2, ↓w_cmp, ↓w_chn, ↓w_ch1, ↓w_ch2, ↓w_isN, ↓w_ite, ↓w_tup, ↓w_lst, ↓w_slc, ↓w_call2, ↓w_bi, ↓w_isi, ↓w_idx, ↓w_neg, ↓w_mth, ↓w_ono, ↓w_oso, ↓w_cno, ↓w_cso, ↓w_nil, ↓w_cons, ↓w_pnil, ↓w_pcons, ↓w_ival, ↓w_rng1, ↓w_rng2, ↓w_zip, ↓w_zipk, ↓w_enu, ↓w_isB, ↓w_rev, ↓w_lrng1, ↓w_lrng2, vV_l, lV_i, r2V_i, zV_l, zV_t, ↓w_lc, ↓w_lc2,
  ↓w_ok, ↓w_exc, ↓w_stuck, ↓w_bind, ↓w_ofc, ↓w_ofs, ↓w_ofn, ↓w_ofm, ↓w_if, ↓w_sel, ↓f_nx, ↓f_rt, ↓f_exc, ↓f_stuck, ↓f_bind, ↓f_fl, ↓f_if, ↓f_sel, ↓f_nil, ↓f_cons, ↓f_pass, ↓f_expr, ↓f_asg, ↓f_asgO, ↓f_asgB, ↓f_ret, ↓f_retN, ↓f_ite, ↓f_forr,
  ↓f_app2, mV_o, mV_r, ceV_l, ↓f_seti2, mD_o, mD_r, xV_i, ↓f_aug, sV_v, augT_add, augT_sub, ↓f_asgT, tV_t, putEs_c, putEs_n, ↓f_par, twV, sz0, sz1, sz2, sz3, sz4, sz5, sz6, sz7, sz8, sz9, sz10, sz11, sz12, sz13, sz14, sz15, sz16, sz17, sz18, sz19, sz20, sz21, sz22, sz23, sz24, sz25, sz26, sz27, sz28, sz29, sz30, w_ok, w_ofc, w_ofs, w_ofn, w_ofm, w_if, w_sel, f_sel, f_if,
  P.t_val, P.t_new, P.t_pk, P.k_val, P.k_new, P.k_pk, P.u_t, P.u_k, P.ret_val, P.ret_new, P.ret_pk, R.p_val, R.p_new, truthB_bl, Cell.t_lst,
  oB_add, oB_adds, oB_addb, oB_subb, fStr_b, nV_b, oB_addl, oB_addt, oB_sub, oB_mul, oB_mull, oB_div, oB_mod, oB_pow, oC_eq, oC_ne, oC_lt, oC_le, oC_gt, oC_ge, oC_in, oC_notin, oC_inl, oC_notinl, oC_lts, oC_gts, oC_les, oC_ges, oC_ltt, oC_ltl, oB_mult, fSort_l, fSort_t, fOrd_c, okEq_ii, okEq_bb, okEq_ss, eqT_ii, eqT_bb, eqT_ss, opI_l, opI_c, opI_t, opI_s, opS_l, opS_t, opS_s, iV_l, iV_t, iV_s, iV_c, nV_i, oV_i, rV_i, aV_v, aV_n, aO_n, aB_n, cV_v, cV_n,
  fLen_l, fLen_t, fLen_c, fLen_s, fAbs_i, fMin_i, fMax_i, fSum_l, fAll_l, fAny_l, fInt_i, fInt_b, fStr_i, fStr_s, fList_l, fList_t, fTuple_l, fTuple_t, mJoin_l, mUp_s, isI_non, isI_bl, isI_int, isI_str, isI_tup, isI_lst, itemsT_l, itemsT_t, itemsT_s, exV_some, exV_map, exV_if, atI_0, atI_1, atI_2, atI_3, atI_4,
  T.ty, Mt.ty, T.isNon, isTy, startE, wipeE, beq_self_eq_true,
  List.map_cons, List.map_nil, List.length_cons, List.length_nil, List.replicate, List.cons_append, List.nil_append, List.getElem?_cons_zero, List.getElem?_cons_succ, List.getElem?_nil, List.set_cons_zero, List.set_cons_succ, List.any_cons, List.any_nil, List.all_cons, List.all_nil,
  Option.map_some, Option.map_none, Option.bind_some, Option.bind_none, Nat.sub_self, Nat.zero_add, Nat.add_zero, Nat.reduceAdd, Nat.reduceSub, Nat.reduceEqDiff, Int.reduceToNat, Int.reducePow, Int.reduceLT, Int.reduceLE, Int.reduceAdd, Int.reduceSub, Int.reduceMul, Int.reduceNeg, Int.reduceBEq, Nat.reduceLT, Nat.reduceLeDiff, Nat.reducePow, gt_iff_lt, ge_iff_le, if_true, if_false, Bool.not_true, Bool.not_false, Bool.or_true, Bool.or_false, Bool.true_or, Bool.false_or, Bool.and_true, Bool.and_false, Bool.true_and, Bool.false_and,
  reduceCtorEq, decide_true, decide_false, Bool.false_eq_true, Bool.true_eq_false, decide_eq_true_eq, decide_eq_false_iff_not, eq_self, Bool.not_eq_true', Bool.not_eq_false', Bool.not_not, false_imp_iff, true_and, and_true, false_and, and_false, not_true_eq_false, not_false_eq_true, implies_true, true_implies, false_implies])
local macro_rules | `(tactic| walk_at "cj") => `(tactic| (repeat' (first | (refine And.intro ?_ ?_) | decide | omega | assumption)))

def tb10 : ClT := ⟨[("NoPlace", ["AskedError", "LoomError", "NoPlace", "ValueError"])], ["AskedError", "Crossed", "Forged", "Gainsaid", "LoomError", "NoAuthor", "NoBase", "NoDeed", "NoEnd", "NoLink", "NoName", "NoPlace", "NoPrices", "NoRecord", "NoRow", "NoSigns", "NoText", "NoVersion", "NoWork", "ToldError", "TooLong", "Twice", "ValueError", "Wanting"], ["at", "ends", "name", "record", "which", "work"], [("NoPlace", "at")]⟩
theorem kinds_np10 (t : T) (h : Hs) : hotFn tb10 h__law_kinds.fn "NoPlace" [.str "at", t] h = some (.str "asked NoPlace+", h) := by kernel_rfl
theorem field_np10 (t : T) (h : Hs) : hotFn tb10 h__law_field.fn "NoPlace" [.str "at", t] h = some (t, h) := by kernel_rfl
theorem sub_np10 : tb10.sub "NoPlace" "LoomError" = some true := by kernel_rfl
structure HasEx10 (p : Prg) : Prop where
  tb : p.tb = tb10
  kin : p.hots.lookup ("_law_kinds" : Str) = some h__law_kinds.fn
  fie : p.hots.lookup ("_law_field" : Str) = some h__law_field.fn
theorem HasEx10.ini {p : Prg} (H : HasEx10 p) : p.tb.init.lookup ("NoPlace" : Str) = some "at" := by rw [H.tb]; rfl
theorem try_np10 {p : Prg} (H : HasEx10 p) {k i j ie : Nat} {N : En → Hs → Prop} {X : T → En → Hs → Prop} {t : T} {env : En} {h : Hs} (hk : 1 ≤ k) (hi : ie < env.length) (q : N ((((env.set ie .no).set i (.val (.str "asked NoPlace+"))).set j (.val t)).set ie .no) h) :
    tryX p k "LoomError" ie (.par i j (.call "_law_kinds") (.call "_law_field")) N X (noPlace t) env h := by
  unfold tryX noPlace
  dsimp only
  rw [H.tb, sub_np10]
  refine ⟨⟨hk, hi⟩, ((((env.set ie .no).set i (.val (.str "asked NoPlace+"))).set j (.val t)), h), ?_, q⟩
  have e1 : ∀ h, p.hot "_law_kinds" "NoPlace" [.str "at", t] h = some (.str "asked NoPlace+", h) := fun h => by unfold Prg.hot; rw [H.kin, H.tb]; exact kinds_np10 t h
  have e2 : ∀ h, p.hot "_law_field" "NoPlace" [.str "at", t] h = some (t, h) := fun h => by unfold Prg.hot; rw [H.fie, H.tb]; exact field_np10 t h
  simp only [hsx, hvs, hv, hxOf, e1, e2, Option.bind_some]
/-- what there tells -/
def dueThere (xs ys : List Sp) (a : Int) : T := if 0 ≤ a ∧ a < (signsOf xs).length then made (.lst ((thereI (signsOf ys) ((signsOf xs).getD a.toNat sg0)).map T.int)) "" .non else made .non "asked NoPlace+" (.int a)
theorem c_law_there {p : Prg} (hm : Has p "_law_there" f__law_there) (H : HasPlc p) (hp : Has p "there" f_there) (ha : Has p "address" f_address) (had : Has p "addresses" f_addresses) (E : HasEx10 p) {k : Nat} {xs ys : List Sp} {a : Int} {hs : Hs} (pg : Pg xs) (pgy : Pg ys) (hl : xs.length ≤ 1000000) (hl2 : (signsOf ys).length ≤ 10000000) :
    callK p (k + 6) "_law_there" [.tup (xs.map sp), .tup (ys.map sp), .int a] hs = .ok (.val (dueThere xs ys a)) hs := by
  rw [← wp_eq]
  refine w_run hm rfl ?_
  unfold f__law_there
  walk_at "wk"
  refine f_try ?_
  walk_at "wk"
  refine w_there H hp ha had pg pgy hl hl2 (fun c1 c2 => ?_) (fun c => ?_)
  · walk_at "wk"
    unfold dueThere
    rw [if_pos ⟨c1, c2⟩]
    rfl
  · refine try_np10 E (by omega) (by simp) ?_
    walk_at "wk"
    unfold dueThere
    rw [if_neg c]
    rfl
theorem dueT_ok {xs ys : List Sp} {a : Int} : (dueThere xs ys a).isD = true ∧ (dueThere xs ys a).dep ≤ 64 := by
  have e1 : PyData.strOk (Str.ofString "asked NoPlace+") = true := by decide +kernel
  have e2 : PyData.strOk (Str.ofString "") = true := by decide +kernel
  have e3 : ∀ l : List Int, allD (l.map T.int) = true := fun l => by
    rw [allD_iff]; intro t ht; obtain ⟨x, _, rfl⟩ := List.mem_map.mp ht; rfl
  have e4 : ∀ l : List Int, depL (l.map T.int) = 0 := fun l => by
    induction l with
    | nil => rfl
    | cons x r ih => simp only [List.map_cons, depL, T.dep, ih]; rfl
  unfold dueThere made
  split
  · constructor
    · simp only [T.isD, allD, e2, e3, Bool.and_self]
    · simp only [T.dep, depL, e4]; omega
  · constructor
    · simp only [T.isD, allD, e1, Bool.and_self]
    · simp only [T.dep, depL]; omega
theorem prs_dep {l : List Pr} : (T.lst (l.map pr)).dep ≤ 64 := by
  have : depL (l.map pr) ≤ 1 := by
    induction l with
    | nil => simp [depL]
    | cons x r ih => simp only [List.map_cons, depL, pr, T.dep]; omega
  simp only [T.dep]; omega
/-- a slot that holds no list of its own -/
def nv : Option T → Slot
  | none => .no
  | some t => .val t
theorem getD_at {l : List Sg} {i : Nat} (h : i < l.length) : l[i]? = some (l.getD i sg0) := by rw [List.getD_eq_getElem?_getD, List.getElem?_eq_getElem h]; rfl
theorem sg_at {l : List Sg} (h : ∀ q ∈ l, okSg q) {i : Nat} (hi : i < l.length) : okSg (l.getD i sg0) := h _ (List.mem_of_getElem? (getD_at hi))
theorem k10_true {p : Prg} (hp : Has p "law" f_law) (h1 : Has p "_law_bag" f__law_bag) (htk : Has p "_law_take" f__law_take) (hof : Has p "_law_of" f__law_of) (hnm : Has p "_law_name" f__law_name) (hsn : Has p "_law_span" f__law_span) (hpg : Has p "_law_page" f__law_page) (hsg : Has p "_law_signs" f__law_signs) (hpo : Has p "_law_page_of" f__law_page_of) (hlk : Has p "_law_likes" f__law_likes)
    (hnl : Has p "need_place" f_need_place) (hpi : Has p "piece" f_piece) (hlo : Has p "long" f_long) (hadr : Has p "address" f_address) (hads : Has p "addresses" f_addresses) (hon : Has p "only" f_only) (hst : Has p "stretches" f_stretches) (hth : Has p "there" f_there) (hls : Has p "_law_stretches" f__law_stretches) (hlt : Has p "_law_there" f__law_there)
    (g1 : p.hots.lookup ("_law_kinds" : Str) = some h__law_kinds.fn) (g2 : p.hots.lookup ("_law_field" : Str) = some h__law_field.fn) (g3 : p.tb = tb10)
    (ns : List Int) (hn : ns.length ≤ 63) : ∃ h, callK p 31 "law" [.scr (ns.map T.int)] [] = .ok (.val (.bl true)) h := by
  have HP : HasPg p := ⟨⟨htk, hof, hnm, hsn⟩, hpg, hsg, hpo⟩
  have HE : HasEx10 p := ⟨g3, g1, g2⟩
  have HR : HasPlc p := ⟨hnl, hpi, hlo, HE.ini⟩
  have hsz := size_ge
  apply ok_of
  refine w_run hp rfl ?_
  unfold f_law
  walk_at "wk"
  refine ⟨by simp only [smallI, decide_eq_true_eq]; omega, ?_⟩
  refine f_forL (fun env h => ∃ s1 s2 s3 s4 s5 s6 s7 s8 s9, env = [Slot.val (T.scr (ns.map T.int)), s1, s2, s3, s4, s5, s6, s7, nv s8, s9, Slot.no]) ⟨_, _, _, _, _, _, _, none, _, rfl⟩ ?_ ?_
  · rintro x hx env h0 ⟨s1, s2, s3, s4, s5, s6, s7, s8, s9, rfl⟩
    obtain ⟨n, rfl, hn⟩ := mem_range hx
    refine ⟨_, rfl, ?_⟩
    walk_at "wk"
    rw [Int.zero_add]
    refine w_bag h1 (by omega) ?_
    intro a c a0 c0 c1
    walk_at "wk"
    have hb := bag_new (h := h0) a0 c0 c1
    refine w_pg HP hb (by decide) (by decide) ?_
    intro xs h1 pgx hxl hb1 hu1
    walk_at "wk"
    refine w_likes hlk HP hb1 pgx.ok (by omega) ?_
    intro y1 h2 pg1 hl1 hb2 hu2
    walk_at "wk"
    refine w_pg HP hb2 (by decide) (by decide) ?_
    intro y2 h3 pg2 hl2 hb3 hu3
    walk_at "wk"
    refine w_take htk hb3 (by decide) (by decide) ?_
    intro r h5 r0 r1 hb5 hu5
    walk_at "wk"
    obtain ⟨ys, er, pgy, hly⟩ : ∃ ys : List Sp, atI [T.tup (y1.map sp), T.tup (y2.map sp)] r = some (.tup (ys.map sp)) ∧ Pg ys ∧ (signsOf ys).length ≤ 200 := by
      obtain rfl | rfl : r = 0 ∨ r = 1 := by omega
      · exact ⟨y1, rfl, pg1, by omega⟩
      · exact ⟨y2, rfl, pg2, by omega⟩
    rw [er]
    walk_at "wk"
    rw [c_signs hsg rfl pgx.ok (by omega)]
    walk_at "wk"
    rw [c_signs hsg rfl pgy.ok (by omega)]
    walk_at "wk"
    have ox : ∀ q ∈ signsOf xs, okSg q := signsOf_ok pgx.ok
    have oy : ∀ q ∈ signsOf ys, okSg q := signsOf_ok pgy.ok
    have hxl' : (signsOf xs).length ≤ 96 := by omega
    have hxn := sp_len pgx.ok
    have hL : ((List.map sg (signsOf xs)).length : Int) = ((signsOf xs).length : Int) := by simp
    have hL2 : ((List.map sg (signsOf ys)).length : Int) = ((signsOf ys).length : Int) := by simp
    rw [hL]
    refine ⟨by simp only [smallI, decide_eq_true_eq]; omega, by simp [rangeT]; omega, by cases s8 <;> rfl, ?_⟩
    rw [range_map, Int.sub_zero, Int.toNat_natCast]
    refine w_lcfil (g := fun i : Nat => if (signsOf xs).getD i sg0 ∈ signsOf ys then none else some (T.int (i : Nat))) ?_ ?_
    · intro i hi
      have hi' := List.mem_range.mp hi
      have ho := sg_at ox hi'
      rw [w_turn (by rfl)]
      walk_at "wk"
      rw [Int.zero_add, atI_map (getD_at hi')]
      walk_at "wk"
      simp only [okEq_sg ho ho, okEq_sgs' oy oy, any_sgs]
      walk_at "wk"
      refine ⟨fun e => ?_, fun e => ?_⟩
      · rw [if_neg e]
      · rw [if_pos e]
    rw [onlyI_T]
    walk_at "wk"
    have hz := onlyI_len (signsOf xs) (signsOf ys)
    rw [c_only hon hads hst (okSp_bd pgx.ok) (okSp_bd pgy.ok) (by omega) (by omega)]
    walk_at "wk"
    rw [c_law_stretches hls (onlyI_rise _ _) (by omega)]
    walk_at "wk"
    simp only [okEq_self prs_isD prs_dep, eqT_self _ prs_isD]
    walk_at "wk"
    rw [c_only hon hads hst (okSp_bd pgx.ok) (okSp_bd pgx.ok) (by omega) (by omega), onlyI_self]
    walk_at "wk"
    refine ⟨rfl, fun z => (by cases z), fun _ => ?_⟩
    rw [hL]
    refine ⟨by simp only [smallR, decide_eq_true_eq]; omega, by decide, by simp [rangeT]; omega, ?_⟩
    rw [show (rangeT 0 ((signsOf xs).length : Int) ++ [T.int (-1), T.int ((signsOf xs).length : Int), T.int 1000000000000000000000000000000000000000]) = (plc 0 ((signsOf xs).length : Int) ++ [-1, ((signsOf xs).length : Int), 1000000000000000000000000000000000000000]).map T.int from by simp [rangeT, plc, Function.comp_def]]
    refine f_forMap (fun _ env h => ∃ o s9, env = [Slot.val (T.scr (ns.map T.int)), Slot.val (.int n), Slot.val (.ref h0.length), Slot.val (.tup (xs.map sp)), Slot.val (.tup (ys.map sp)), Slot.val (T.lst (List.map sg (signsOf xs))), Slot.val (T.lst (List.map sg (signsOf ys))), Slot.val (T.lst (List.map T.int (onlyI (signsOf xs) (signsOf ys)))), nv o, s9, Slot.no]) ⟨s8, s9, rfl⟩ ?_ ?_
    · rintro done at_ rest ex env h6 ⟨o, s9, rfl⟩
      refine ⟨_, rfl, ?_⟩
      have hdo := dueT_ok (xs := xs) (ys := ys) (a := at_)
      have hEq : okEq (dueThere xs ys at_) (dueThere xs ys at_) = true := okEq_self hdo.1 hdo.2
      have hSe := eqT_self _ hdo.1
      walk_at "wk"
      rw [hL]
      have good : 0 ≤ at_ → at_ < (signsOf xs).length → dueThere xs ys at_ = .tup [.lst ((thereI (signsOf ys) ((signsOf xs).getD at_.toNat sg0)).map T.int), .str "", .non] := fun c1 c2 => by unfold dueThere; rw [if_pos ⟨c1, c2⟩]; rfl
      have bad : ¬ (0 ≤ at_ ∧ at_ < (signsOf xs).length) → dueThere xs ys at_ = .tup [.non, .str "asked NoPlace+", .int at_] := fun c => by unfold dueThere; rw [if_neg c]; rfl
      refine ⟨fun c1 => ⟨fun c2 => ?_, fun c2 => ?_⟩, fun c1 => ?_⟩
      · have hi0 : at_.toNat < (signsOf xs).length := by omega
        have ho0 := sg_at ox hi0
        rw [hL2]
        refine ⟨by simp only [smallI, decide_eq_true_eq]; omega, by simp [rangeT]; omega, rfl, ?_⟩
        rw [range_map, Int.sub_zero, Int.toNat_natCast]
        refine w_lcfil (g := fun i : Nat => if (signsOf ys).getD i sg0 = (signsOf xs).getD at_.toNat sg0 then some (T.int (i : Nat)) else none) ?_ ?_
        · intro i hi
          have hi' := List.mem_range.mp hi
          have ho := sg_at oy hi'
          rw [w_turn (by rfl)]
          walk_at "wk"
          rw [Int.zero_add, atI_map (getD_at hi')]
          walk_at "wk"
          rw [show at_ = ((at_.toNat : Nat) : Int) from by omega, atI_map (getD_at hi0)]
          walk_at "wk"
          simp only [okEq_sg ho ho0, if_true, eqT_sg, Int.toNat_natCast]
          walk_at "wk"
          refine ⟨fun e => ?_, fun e => ?_⟩
          · rw [if_pos e]
          · rw [if_neg e]
        rw [thereI_T]
        walk_at "wk"
        rw [c_law_there hlt HR hth hadr hads HE pgx pgy (by omega) (by omega)]
        walk_at "wk"
        rw [good c1 c2] at hEq hSe ⊢
        simp only [hEq, hSe]
        walk_at "wk"
        exact ⟨some _, _, rfl⟩
      · rw [c_law_there hlt HR hth hadr hads HE pgx pgy (by omega) (by omega)]
        walk_at "wk"
        rw [bad (by omega)] at hEq hSe ⊢
        simp only [hEq, hSe]
        walk_at "wk"
        exact ⟨some _, _, rfl⟩
      · rw [c_law_there hlt HR hth hadr hads HE pgx pgy (by omega) (by omega)]
        walk_at "wk"
        rw [bad (by omega)] at hEq hSe ⊢
        simp only [hEq, hSe]
        walk_at "wk"
        exact ⟨some _, _, rfl⟩
    · rintro env h6 ⟨o, s9, rfl⟩
      exact ⟨_, _, _, _, _, _, _, o, _, rfl⟩
  · rintro env h ⟨s1, s2, s3, s4, s5, s6, s7, s8, s9, rfl⟩
    walk_at "wk"
end Fx

set_option maxHeartbeats 4000000
namespace Fx
theorem law_ok : LawOk rows gi gs xd 31 := fun ns hns =>
  k10_true (has_of (by kernel_rfl)) (has_of (by kernel_rfl)) (has_of (by kernel_rfl)) (has_of (by kernel_rfl)) (has_of (by kernel_rfl)) (has_of (by kernel_rfl)) (has_of (by kernel_rfl)) (has_of (by kernel_rfl)) (has_of (by kernel_rfl)) (has_of (by kernel_rfl)) (has_of (by kernel_rfl)) (has_of (by kernel_rfl)) (has_of (by kernel_rfl)) (has_of (by kernel_rfl)) (has_of (by kernel_rfl)) (has_of (by kernel_rfl)) (has_of (by kernel_rfl)) (has_of (by kernel_rfl)) (has_of (by kernel_rfl)) (has_of (by kernel_rfl)) (by kernel_rfl) (by kernel_rfl) (by kernel_rfl) ns hns
end Fx
open PySem PySem.W PySem.Calls PyProof.Rows
set_option maxRecDepth 100000 in
set_option maxHeartbeats 0 in
theorem PySem.Challenge.cw_spanloom_k10_what_is_alone_and_where_it_holds : PySem.Challenge.rw_spanloom_k10_what_is_alone_and_where_it.Holds := by
  w_on; o_law
  refine HandSHeadRun.head_any (r := OpenLaw.row PySem.Challenge.rw_spanloom_k10_what_is_alone_and_where_it) (q := view (OpenLaw.row PySem.Challenge.rw_spanloom_k10_what_is_alone_and_where_it).prog [49]) (H := Fx.hk) (ob := Fx.ob) (M := 12000) (loose := Fx.names) (d := HandSHeadRun.topDef (OpenLaw.row PySem.Challenge.rw_spanloom_k10_what_is_alone_and_where_it).prog 49) (kwd := []) Fx.ob_eq
    (by kernel_rfl) (fun s => by kernel_rfl) Fx.run (by kernel_rfl) (by kernel_rfl) (by kernel_rfl) (by rfl) (by first | assumption | decide +kernel) (by decide +kernel) ⟨rfl, rfl, rfl, rfl, rfl, by decide +kernel⟩ ?hw ?hc
  case hw => w_witness2
  case hc =>
    refine L2.walk_ofE (l := PySem.Challenge.rw_spanloom_k10_what_is_alone_and_where_it) (n := 63) (k := 31) (x := "script") rfl (by decide) (by kernel_rfl) ⟨rfl, by decide, by decide⟩ ?F Fx.cx_no
    intro w mg fa h Y G hmg0
    obtain ⟨K, KX, c, cx⟩ := Y
    have hmg : mg ("law" : PySem.Str) = some (.ref fa) := by
      have e : (HandSHeadRun.topDef (OpenLaw.row PySem.Challenge.rw_spanloom_k10_what_is_alone_and_where_it).prog 49).name = ("law" : PySem.Str) := by kernel_rfl
      rw [← e]
      exact hmg0
    exact Fx.law_facts (q := (Fx.d_law, Fx.top 49)) Fx.law_ok Fx.rows_ok (List.mem_of_getElem? (i := 19) rfl) rfl (by decide +kernel) KX G hmg c cx
