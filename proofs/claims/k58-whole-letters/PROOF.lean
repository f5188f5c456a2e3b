import PyProof.Rows.All
import Wide.All
import OpenK.AllK
import Wide.FinOn
import HandS.ForMost
import HandS.StrMore
import HandS.Walk
import HandS.DictComp
import KE.GoesEnum
import HandS.ForExc
import HandS.ExcInit
import HandS.ExcSuper
import HandS.ExcField
import KE.KExcSuper
import HandS.ExcOwn
import HandS.IsInst
import HandS.Star
import HandS.Style
import HandS.TupAny
import KE.KExcLine
import KE.RegKSuper
import PySem.Challenge.RW_twicedated_k58_whole_letters
set_option Elab.async false
set_option maxRecDepth 100000
set_option maxHeartbeats 4000000
/-! The plain part: lines of letters as lists of signs, how they are split, found and cut. -/
namespace K58
open PySem PySem.Builtin PySem.Builtin.Str TL
/-- a receiver and the one name of a letter -/
abbrev Ent := Str × Str
def sp : Str := Str.ofString " "
def nl : Str := Str.ofString "\n"
def cm : Str := Str.ofString ","
theorem tl_sp : tl sp = [32] := by decide +kernel
theorem tl_nl : tl nl = [10] := by decide +kernel
theorem tl_cm : tl cm = [44] := by decide +kernel
def numS (i : Nat) : Str := Str.ofString (toString ((i : Nat) : Int))
theorem tl_numS (i : Nat) : tl (numS i) = numL i := tl_num i
theorem numS_inj {i j : Nat} (h : numS i = numS j) : i = j := numL_inj (by rw [← tl_numS, ← tl_numS, h])
/-- signs of names: small letters and figures -/
def okC (c : Nat) : Prop := (97 ≤ c ∧ c ≤ 122) ∨ (48 ≤ c ∧ c ≤ 57)
/-- a name -/
structure NameOk (z : Str) : Prop where
  pos : 1 ≤ z.length
  le : z.length ≤ 8
  head : ∃ c r, tl z = c :: r ∧ 97 ≤ c ∧ c ≤ 122
  all : ∀ c ∈ tl z, okC c
theorem NameOk.no {z : Str} (h : NameOk z) {c : Nat} (hc : ¬ okC c) : c ∉ tl z := fun m => hc (h.all c m)
theorem ok_32 : ¬ okC 32 := by unfold okC; omega
theorem ok_44 : ¬ okC 44 := by unfold okC; omega
theorem ok_10 : ¬ okC 10 := by unfold okC; omega
theorem join_one (y a : Str) : Txt.join y [a] = a := by
  rw [join_eq] <;> rfl
theorem split_one {n : Str} (h : 44 ∉ tl n) : Txt.split n cm = [n] := by
  have e := split_join (y := cm) (s := 44) (S := []) tl_cm (by decide +kernel) (parts := [n]) (by simp) (fun p hp => by rw [List.mem_singleton.mp hp]; exact h)
  rw [join_one] at e
  exact e
def letterS : Str := Str.ofString "letter"
/-- the words of the line of a letter -/
def wordsOf (i : Nat) (r n : Str) : List Str := [numS i, letterS, r, n, numS i]
def lineS (i : Nat) (r n : Str) : Str := Txt.join sp (wordsOf i r n)
theorem split_line {i : Nat} {r n : Str} (hr : NameOk r) (hn : NameOk n) : Txt.split (lineS i r n) sp = wordsOf i r n := by
  refine split_join (y := sp) (s := 32) (S := []) tl_sp (by decide +kernel) (by simp [wordsOf]) fun p hp => ?_
  simp only [wordsOf, List.mem_cons, List.not_mem_nil, or_false] at hp
  rcases hp with rfl | rfl | rfl | rfl | rfl
  · rw [tl_numS]; exact numL_free (by omega)
  · decide +kernel
  · exact hr.no ok_32
  · exact hn.no ok_32
  · rw [tl_numS]; exact numL_free (by omega)
theorem tl_line (i : Nat) (r n : Str) : tl (lineS i r n) = numL i ++ (32 :: (tl letterS ++ (32 :: (tl r ++ (32 :: (tl n ++ (32 :: numL i))))))) := by
  unfold lineS
  rw [join_eq, tl_join, tl_sp]
  show joinL [32] [tl (numS i), tl letterS, tl r, tl n, tl (numS i)] = _
  rw [tl_numS] <;> rfl
theorem line_no_nl {i : Nat} {r n : Str} (hr : NameOk r) (hn : NameOk n) : 10 ∉ tl (lineS i r n) := by
  rw [tl_line]
  have h1 : 10 ∉ numL i := numL_free (by omega)
  have h2 : 10 ∉ tl letterS := by decide +kernel
  have h3 := hr.no ok_10
  have h4 := hn.no ok_10
  simp only [List.mem_append, List.mem_cons, not_or]
  exact ⟨h1, by decide, h2, by decide, h3, by decide, h4, by decide, h1⟩
theorem letter_len : (tl letterS).length = 6 := by decide +kernel
theorem line_len {i : Nat} {r n : Str} (hi : i < 1000000) (hr : NameOk r) (hn : NameOk n) : (lineS i r n).length ≤ 38 := by
  have h1 : (numL i).length ≤ 6 := numL_len (by decide) hi
  have h2 := hr.le
  have h3 := hn.le
  rw [len_tl] at h2 h3
  rw [len_tl, tl_line]
  simp only [List.length_append, List.length_cons, letter_len]
  omega
/-- the lines of letters, numbered from i, each with its line feed -/
def linesL (i : Nat) : List Ent → List Nat
  | [] => []
  | e :: es => tl (lineS i e.1 e.2) ++ 10 :: linesL (i + 1) es
theorem linesL_append : ∀ (i : Nat) (as bs : List Ent), linesL i (as ++ bs) = linesL i as ++ linesL (i + as.length) bs
  | i, [], bs => by simp [linesL]
  | i, a :: as, bs => by
    show tl (lineS i a.1 a.2) ++ 10 :: linesL (i + 1) (as ++ bs) = (tl (lineS i a.1 a.2) ++ 10 :: linesL (i + 1) as) ++ linesL (i + (as.length + 1)) bs
    rw [linesL_append (i + 1) as bs, List.append_assoc, List.cons_append, Nat.add_assoc, Nat.add_comm 1]
def EntOk (e : Ent) : Prop := NameOk e.1 ∧ NameOk e.2
theorem linesL_len : ∀ (i : Nat) (es : List Ent), (∀ e ∈ es, EntOk e) → i + es.length ≤ 1000000 → (linesL i es).length ≤ 39 * es.length
  | i, [], _, _ => by simp [linesL]
  | i, e :: es, h, hi => by
    rw [List.length_cons] at hi
    have ih := linesL_len (i + 1) es (fun x hx => h x (List.mem_cons_of_mem _ hx)) (by omega)
    have he := h e List.mem_cons_self
    have h1 := line_len (i := i) (by omega) he.1 he.2
    rw [len_tl] at h1
    show (tl (lineS i e.1 e.2) ++ 10 :: linesL (i + 1) es).length ≤ _
    rw [List.length_append, List.length_cons, List.length_cons]
    omega
/-- a beginning of lines is whole lines, and a piece without line feed -/
theorem cut_lines : ∀ (i : Nat) (es : List Ent), (∀ e ∈ es, EntOk e) → ∀ c : Nat, ∃ m ≤ es.length, ∃ rest : List Nat, (linesL i es).take c = linesL i (es.take m) ++ rest ∧ 10 ∉ rest
  | i, [], _, c => ⟨0, Nat.le_refl _, [], by simp [linesL], by simp⟩
  | i, e :: es, h, c => by
    have he := h e List.mem_cons_self
    have hn := line_no_nl (i := i) he.1 he.2
    show ∃ m ≤ (e :: es).length, ∃ rest : List Nat, (tl (lineS i e.1 e.2) ++ 10 :: linesL (i + 1) es).take c = _ ∧ _
    by_cases hc : c ≤ (tl (lineS i e.1 e.2)).length
    · refine ⟨0, Nat.zero_le _, (tl (lineS i e.1 e.2)).take c, ?_, fun m => hn (List.mem_of_mem_take m)⟩
      rw [List.take_append_of_le_length hc] <;> rfl
    · obtain ⟨m, hm, rest, e1, e2⟩ := cut_lines (i + 1) es (fun x hx => h x (List.mem_cons_of_mem _ hx)) (c - ((tl (lineS i e.1 e.2)).length + 1))
      refine ⟨m + 1, by rw [List.length_cons]; omega, rest, ?_, e2⟩
      obtain ⟨d, hd⟩ : ∃ d, c = (tl (lineS i e.1 e.2)).length + (d + 1) := ⟨c - ((tl (lineS i e.1 e.2)).length + 1), by omega⟩
      have hd2 : c - ((tl (lineS i e.1 e.2)).length + 1) = d := by omega
      rw [hd2] at e1
      rw [hd, List.take_length_add_append, List.take_succ_cons, e1]
      show _ = (tl (lineS i e.1 e.2) ++ 10 :: linesL (i + 1) (es.take m)) ++ rest
      rw [List.append_assoc] <;> rfl
/-! ### find and cut -/
theorem from_nat {n j : Nat} : fromIndex n (j : Int) = j := by
  unfold fromIndex
  omega
theorem getD_tl {x : Str} {v : Nat} (hv : v < x.length) : (tl x)[v]? = some (x.cps.getD v 0) := by
  obtain ⟨⟨l⟩⟩ := x
  have h' : v < l.length := hv
  show l[v]? = _
  simp [Array.getD, h']
/-- the first line feed behind A -/
theorem find_at {x : Str} {A B C : List Nat} (e : tl x = A ++ (B ++ 10 :: C)) (h : 10 ∉ B) : Txt.find3 x nl (A.length : Int) = ((A.length + B.length : Nat) : Int) := by
  have hnl : nl = (⟨#[10]⟩ : Str) := by decide +kernel
  have hlen : x.length = A.length + (B.length + (C.length + 1)) := by rw [len_tl, e, List.length_append, List.length_append, List.length_cons]
  have at10 : x.cps.getD (A.length + B.length) 0 = 10 := by
    have q := getD_tl (x := x) (v := A.length + B.length) (by omega)
    rw [e, List.getElem?_append_right (by omega), List.getElem?_append_right (by omega)] at q
    have z : A.length + B.length - A.length - B.length = 0 := by omega
    rw [z] at q
    exact (Option.some.inj q).symm
  have atB : ∀ v, A.length ≤ v → v < A.length + B.length → x.cps.getD v 0 ≠ 10 := fun v h1 h2 he => by
    have q := getD_tl (x := x) (v := v) (by omega)
    rw [e, List.getElem?_append_right h1, List.getElem?_append_left (by omega), he] at q
    exact h (List.mem_of_getElem? q)
  rw [hnl]
  rcases StrLaws.find3_spec x 10 (A.length : Int) with ⟨_, hn⟩ | ⟨k, h0, h1, h2, h3, h4⟩
  · rw [from_nat] at hn
    exact absurd at10 (hn _ (by omega) (by omega))
  · rw [from_nat] at h1 h4
    have : k = A.length + B.length := by
      rcases Nat.lt_trichotomy k (A.length + B.length) with z | z | z
      · exact absurd h3 (atB k h1 z)
      · exact z
      · exact absurd at10 (h4 _ (by omega) z)
    rw [h0, this]
/-- no line feed behind A -/
theorem find_none {x : Str} {A B : List Nat} (e : tl x = A ++ B) (h : 10 ∉ B) : Txt.find3 x nl (A.length : Int) = -1 := by
  have hnl : nl = (⟨#[10]⟩ : Str) := by decide +kernel
  rw [hnl]
  rcases StrLaws.find3_spec x 10 (A.length : Int) with ⟨h0, _⟩ | ⟨k, h0, h1, h2, h3, h4⟩
  · exact h0
  · rw [from_nat] at h1
    have q := getD_tl h2
    rw [e, List.getElem?_append_right h1, h3] at q
    exact absurd (List.mem_of_getElem? q) h
theorem tl_cutS (z : Str) (lo hi : Option Int) : tl (L2.cutS z lo hi) = ((tl z).drop (HT.sIx z.length 0 lo)).take (HT.sIx z.length z.length hi - HT.sIx z.length 0 lo) := rfl
theorem cut_mid {x : Str} {A B C : List Nat} (e : tl x = A ++ (B ++ C)) {z : Str} (hz : tl z = B) : L2.cutS x (some (A.length : Int)) (some ((A.length + B.length : Nat) : Int)) = z := by
  refine ext_tl ?_
  have hlen : x.length = A.length + (B.length + C.length) := by rw [len_tl, e, List.length_append, List.length_append]
  rw [tl_cutS, HT.sIx_nat, HT.sIx_nat, hz, e]
  have h1 : min A.length x.length = A.length := by omega
  have h2 : min (A.length + B.length) x.length = A.length + B.length := by omega
  rw [h1, h2, List.drop_left, Nat.add_sub_cancel_left, List.take_left]
theorem cut_pre {x : Str} {A B : List Nat} (e : tl x = A ++ B) : tl (L2.cutS x none (some (A.length : Int))) = A := by
  have hlen : x.length = A.length + B.length := by rw [len_tl, e, List.length_append]
  rw [tl_cutS, HT.sIx_nat, HT.sIx_none, e, List.drop_zero, Nat.sub_zero]
  have h1 : min A.length x.length = A.length := by omega
  rw [h1, List.take_left]
theorem cut_take (x : Str) (c : Nat) : tl (L2.cutS x none (some (c : Int))) = (tl x).take c := by
  rw [tl_cutS, HT.sIx_nat, HT.sIx_none, List.drop_zero, Nat.sub_zero]
  by_cases h : c ≤ x.length
  · rw [Nat.min_eq_left h]
  · have h1 : min c x.length = x.length := by omega
    rw [h1, len_tl, List.take_length, List.take_of_length_le (by rw [← len_tl]; omega)]
/-! ### the names of the law -/
theorem ok_digits (n : Nat) : ∀ c ∈ numL n, okC c := fun c hc => by
  have h := numL_digits n c hc
  exact .inr h
def bobS : Str := Str.ofString "bob"
def coraS : Str := Str.ofString "cora"
theorem ok_bob : NameOk bobS := ⟨by decide +kernel, by decide +kernel, ⟨98, [111, 98], by decide +kernel, by decide, by decide⟩, by
  intro c hc
  have e : tl bobS = [98, 111, 98] := by decide +kernel
  rw [e] at hc
  simp at hc
  unfold okC
  omega⟩
theorem ok_cora : NameOk coraS := ⟨by decide +kernel, by decide +kernel, ⟨99, [111, 114, 97], by decide +kernel, by decide, by decide⟩, by
  intro c hc
  have e : tl coraS = [99, 111, 114, 97] := by decide +kernel
  rw [e] at hc
  simp at hc
  unfold okC
  omega⟩
/-- a sign and a turn's number -/
theorem ok_name {a : Str} {c i : Nat} (ha : tl a = [c]) (h1 : 97 ≤ c) (h2 : c ≤ 122) (hi : i < 100) : NameOk (a ++ numS i) := by
  have e : tl (a ++ numS i) = c :: numL i := by rw [tl_append, ha, tl_numS] <;> rfl
  have hl : (numL i).length ≤ 2 := numL_len (by decide) hi
  refine ⟨?_, ?_, ⟨c, numL i, e, h1, h2⟩, fun d hd => ?_⟩
  · rw [len_tl, e, List.length_cons]; omega
  · rw [len_tl, e, List.length_cons]; omega
  · rw [e] at hd
    rcases List.mem_cons.mp hd with rfl | hd
    · exact .inl ⟨h1, h2⟩
    · exact ok_digits i d hd
end K58
/-! Rules that the layer lacks: a list's item as the old value of xs[i] += e, an attribute as a target, a new dict walked, enumerate over a tuple, a dict comprehension over any walk. -/
namespace K58
open PySem PySem.Spec PyProof.Rows L2
section
variable {X : Cx}
/-- xs[i], by values -/
theorem get_list : PGet X (rIxL X.K) := by
  intro pins s σ H o i ov iv Q I ro ri h
  obtain ⟨p, xs, k, v, eo, ei, hq, he, q⟩ := h
  subst eo; subst ei
  cases ro
  obtain ⟨t, rfl⟩ := ri
  obtain ⟨its, r, pl, hz⟩ := I.list hq
  obtain ⟨j, h1, h2, h3, h4, h5⟩ := atI_get he
  obtain ⟨u, hu, ru⟩ := r.get h2
  have hl := r.length
  have hn := line63
  by_cases h0 : 0 ≤ k
  · have hj : k.toNat = j := by
      rw [seqIndex_of h0 h5] at h1
      exact Option.some.inj h1
    exact wpAny_getItem_list pl.isList h0 (by omega) (by rw [hj]; simpa using hu) ⟨v, H, I, ru, q⟩
  · have hj : (k + (its.toArray.size : Int)).toNat = j := by
      rw [seqIndex_neg (by omega) h4] at h1
      rw [List.size_toArray, ← hl]
      exact Option.some.inj h1
    exact wpAny_getItem_list_neg pl.isList (by omega) (by rw [List.size_toArray]; omega) (by omega) (by rw [hj]; simpa using hu) ⟨v, H, I, ru, q⟩
/-- o.f as a target -/
def gFld (K : PySem.W.Frag) (to : TE) (f : Str) : TG := fun v σ H Q => to σ H fun x H1 => ∃ a C dx fs, x = .ref a ∧ H1 a = some (.ins C dx fs) ∧ Cls K C ∧ NoAttr K C f ∧ fs.length < 1000 ∧
  Q σ (upd H1 a (.ins C dx (putF f v fs)))
theorem pg_fld {o : Expr} {to : TE} {f : Str} {pos : Pos} (ho : PE X o to) : PG X (.Attribute o f pos) (gFld X.K to f) := by
  refine ⟨fun pins s σ H v u Q I r h => ?_⟩
  rw [assign_Attribute]
  refine wpAny_bind (wpAny_holding (thn (ho.run pins s σ H _ I h) fun ov s1 hh => ?_))
  obtain ⟨x, H1, I1, r1, a, C, dx, fs, ex, ea, c, n, l, q⟩ := hh
  subst ex
  obtain rfl : ov = Value.ref a := r1
  refine wpAny_bind (wpAny_standAt (wpAny_bind (wpAny_holding (setattr_ok I1 ea c n l r fun s2 I2 => ?_))))
  exact wpAny_release ⟨σ, _, I2, q⟩
/-- what an expression has given stands still from here on: it may be walked -/
def tFrz (te : TE) : TE := fun σ H Q => te σ H fun x H1 => ∃ d u, x = .ref d ∧ H1 d = some u ∧ Mut (some u) ∧ ∀ od, Q (.ref d) (upd H1 d (.frz od u))
theorem pe_frz {e : Expr} {te : TE} (he : PE X e te) : PE X e (tFrz te) := by
  refine ⟨fun pins s σ H Q I h => ?_⟩
  refine thn (he.run pins s σ H _ I h) fun v s1 hh => ?_
  obtain ⟨x, H1, I1, r1, d, u, ex, hd, mu, q⟩ := hh
  subst ex
  obtain ⟨od, I2⟩ := I1.lock hd mu
  exact ⟨.ref d, _, I2, r1, q od⟩
end
/-! ### enumerate over a tuple -/
theorem enumB_new {v : Value} {o : Obj} {G : Heap → Prop} (B : Begins v o G) :
    Meets (Builtin.«enumerate.__new__» ⟨[.type "enumerate", v], []⟩) (fun _ R s => G s.heap ∧
      R (.ok (.ret (.ref (s.heap.push o).objs.size))) { s with heap := (s.heap.push o).push { cls := .type "enumerate", data := .fields #[.none, .bool false, .ref s.heap.objs.size, rawInt 0, .none, .none] } }) :=
  .of_wp fun prog w A R s h => by
    obtain ⟨hp, g, d, tk, os⟩ := s
    obtain ⟨h1, h⟩ := h
    have hsub := sub_enumerate
    have q1 : ∀ {A' : Around} {E : Value → Shared → Prop} {Q : Value → Shared → Prop}, Q (.ref hp.objs.size) ⟨hp.push o, g, d, tk, os⟩ → wpAny (model prog w) A' (pyIter v) Q E ⟨hp, g, d, tk, os⟩ :=
      fun q => B.iter prog w _ _ ⟨hp, g, d, tk, os⟩ _ h1 q
    wp_walk using q1
    refine wpAny_stack_any fun st => wpAny_pure ?_
    split
    · rename_i c _ _ _ _ _
      cases (c == Value.type "enumerate")
      · wp_walk using q1
        exact ⟨_, rfl, h⟩
      · wp_walk using q1
        exact ⟨_, rfl, h⟩
    · wp_walk using q1
      exact ⟨_, rfl, h⟩
theorem enumB_call {prog : Program} {w : World} {A : Around} {E : Value → Shared → Prop} {s : Shared} {v : Value} {o : Obj} {G : Heap → Prop} {Q : Value → Shared → Prop} (B : Begins v o G) (h1 : G s.heap)
    (h : ∀ h', IsEnum h' (s.heap.objs.size + 1) s.heap.objs.size 0 .none → h'.get? s.heap.objs.size = some o → (∀ b ob, s.heap.get? b = some ob → h'.get? b = some ob) → Q (.ref (s.heap.objs.size + 1)) { s with heap := h' }) :
    wpAny (model prog w) A (call (.type "enumerate") [v]) Q E s := by
  refine callType_new F.called_enumerate (by decide) (F.typeCall_enumerate_1 _) (F.newCall_enumerate_1 _) (fun obj => F.args_object_init_2 obj _) F.entry_enumerate_new (enumB_new B) ⟨h1, ?_⟩
  have hz : (s.heap.push o).objs.size = s.heap.objs.size + 1 := Heap.size_push ..
  show _ ∧ _
  have he := Heap.get?_push_size (s.heap.push o) (o := { cls := .type "enumerate", data := .fields #[.none, .bool false, .ref s.heap.objs.size, rawInt 0, .none, .none] }) rfl
  rw [hz] at he ⊢
  exact ⟨⟨_, he, rfl⟩, h _ he (Heap.get?_push_of_some _ (Heap.get?_push_size _ B.free)) fun b ob x => Heap.get?_push_of_some _ (Heap.get?_push_of_some _ x)⟩
/-- the tuple at a, each item in a new pair behind its number -/
def IteT (K : PySem.W.Frag) (a : Addr) : It :=
  ⟨fun i H => ∃ (xs : List V) (x : V), SqT K H a xs ∧ xs[i]? = some x, fun i H v H' => ∃ T x, v = .ref T ∧ H T = none ∧ H' = upd H T (.tup [.int (i : Nat), x]) ∧ ∀ xs, SqT K H a xs → xs[i]? = some x,
    fun i H => ∃ xs : List V, SqT K H a xs ∧ xs.length = i⟩
theorem turn_enumT {P : Program} {w : World} {K : PySem.W.Frag} {elts : List Expr} {kk : Nat} {tpos : Pos} (a e it : Addr) (hei : e ≠ it) (hea : e ≠ a) (hai : a ≠ it) :
    Turn P w K (.Tuple elts kk tpos) (IteT K a) [e, it] e (fun i h => (∃ old, IsEnum h e it ((i : Nat) : Int) old) ∧ h.IsTupleIter it a i) where
  mem := by simp
  obj := fun i h st b hb => by
    obtain ⟨⟨old, he⟩, ⟨o, ho, hc, hd⟩⟩ := st
    rcases (show b = e ∨ b = it by simpa using hb) with z | z
    · subst z; exact ⟨_, he, fun v q => nomatch q⟩
    · subst z; exact ⟨o, ho, fun v q => by rw [hd] at q; cases q⟩
  keep := fun i h h' st k => by
    obtain ⟨⟨old, he⟩, hi⟩ := st
    exact ⟨⟨old, k e (by simp) _ he⟩, hi.at fun o q => k it (by simp) o q⟩
  item := by
    intro X hP hw hK hc i pins s σ H E I hf st hg
    subst hP hw hK
    obtain ⟨⟨old, he⟩, hit⟩ := st
    obtain ⟨xs, x, hq, hx⟩ := hg
    obtain ⟨its, rv, p, hz⟩ := I.tuple hq
    obtain ⟨u, hu, ru⟩ := rv.get hx
    have hlen := rv.length
    have hlt : i < its.toArray.size := by
      rw [List.size_toArray, ← hlen]
      exact (List.getElem?_eq_some_iff.mp hx).1
    have hel : e < s.heap.objs.size := Heap.lt_size he
    have hil : it < s.heap.objs.size := by obtain ⟨_, q, _⟩ := hit; exact Heap.lt_size q
    have hcalm : X.A.in1.handled = none := I.ok.hd hc
    refine wpAny_pyNext_enum_itemD (Draws.tuple hcalm it a hai its.toArray) he ⟨hit, p⟩ hlt hei (by simp [hei, hea]) fun y h' tk hy ho hst hT hsz hk => ?_
    have ey : y = u := by
      have q : its.toArray[i]? = some u := by simpa using hu
      rw [q] at hy
      exact (Option.some.inj hy).symm
    subst ey
    refine ⟨_, rfl, wpAny_letOwnedTupleGo_enum (s := { s with heap := h', toks := tk + 1 }) ho fun h'' he' sb => ?_⟩
    have hT2 : h''.get? s.heap.objs.size = some { cls := .type "tuple", data := .seq #[.int i tk, y] } := (sb.2 _ (Nat.ne_of_gt hel)).trans hT
    have new : ObjOk X.prog X.w (upd H s.heap.objs.size (.tup [.int (i : Nat), x])) h'' s.heap.objs.size (.tup [.int (i : Nat), x]) :=
      ⟨by show 2 ≤ sizeLine; decide, [.int i tk, y], .cons ⟨_, rfl⟩ (.cons ru .nil), ⟨_, hT2, rfl, _, rfl⟩⟩
    have I1 : Inv X pins σ (upd H s.heap.objs.size (.tup [.int (i : Nat), x])) { s with heap := h'', toks := tk + 1 } :=
      I.turnedNew (ch := [e, it]) (fun b ob hb q => (sb.2 b (fun z => hb (by simp [z]))).trans (hk b ob (fun z => hb (by simp [z])) (fun z => hb (by simp [z])) q)) hf (Nat.le_refl _) new
    refine ⟨.ref s.heap.objs.size, _, I1, rfl, ⟨_, x, rfl, I.hok.fresh (Nat.le_refl _), rfl, fun ys hy => by rw [I.tuple_inj hy hq]; exact hx⟩, ⟨⟨y, ?_⟩, hst.1.at fun o q => (sb.2 it (Ne.symm hei)).trans q⟩, fun b hb => ?_⟩
    · have e1 : ((i + 1 : Nat) : Int) = (i : Int) + 1 := by omega
      rw [e1]; exact he'
    · have hb' : b < s.heap.objs.size := by
        rcases (show b = e ∨ b = it by simpa using hb) with z | z
        · subst z; exact hel
        · subst z; exact hil
      rw [upd_ne (Nat.ne_of_lt hb')]
      exact (hf b hb).1
  done := by
    intro X hP hw hK hc i pins s σ H E I hf st hg
    subst hP hw hK
    obtain ⟨⟨old, he⟩, hit⟩ := st
    obtain ⟨xs, hq, hx⟩ := hg
    obtain ⟨its, rv, p, hz⟩ := I.tuple hq
    obtain ⟨f0, f1, f2, f3, f4, f5⟩ := hf it (by simp)
    have hcalm : X.A.in1.handled = none := I.ok.hd hc
    have hsz : i = its.toArray.size := by rw [List.size_toArray, ← rv.length, hx]
    subst hsz
    exact wpAny_pyNext_enum_endD (Draws.tuple hcalm it a hai its.toArray) he ⟨hit, p⟩ fun h' eb => ⟨rfl, I.turned (t' := s.toks) (fun b o hb q => eb b o hb q) f0 f1 f3 f4 f5⟩
  self := fun A i s Q E st h => by
    obtain ⟨⟨_, he⟩, _⟩ := st
    exact wpAny_pyIter_enum he h
def iEnumT (K : PySem.W.Frag) (ta : TA) : TI := fun σ H R => ta σ H fun vs H1 => ∃ a xs, vs = [.ref a] ∧ SqT K H1 a xs ∧ R (IteT K a) H1
theorem pi_enumT {X : Cx} {e : Expr} {ta : TA} {p pos tpos : Pos} {elts : List Expr} {kk : Nat} (hg : Gl X "enumerate") (hm : X.mg "enumerate" = none) (ha : PA X [e] ta) (hs : starEach [e] X.env = [(false, eval e X.env)] := by rfl) :
    PI X (.Tuple elts kk tpos) (.Call (.Name "enumerate" p) [e] [] pos) (iEnumT X.K ta) := by
  refine ⟨fun pins s σ H R I h => ?_⟩
  refine Call_ (ld_blt I hg hm boot_enumerate (PyProof.Rows.callWith_type1 (thn (ha.run pos pins s σ H _ I h) fun us s1 hh => ?_) hs rfl))
  obtain ⟨vs, H1, I1, r1, a, xs, ex, hq, q⟩ := hh
  subst ex
  cases r1 with
  | cons r rr =>
    cases rr
    cases r
    obtain ⟨its, rv, pt, hz⟩ := I1.tuple hq
    have hlt : a < s1.heap.objs.size := by
      obtain ⟨o, ho, _⟩ := pt
      exact Heap.lt_size ho
    refine enumB_call (begins_tuple a its.toArray) pt fun h' he hit hk => wpAny_pyIter_enum he ?_
    have I2 : Inv X pins σ H1 { s1 with heap := h' } := I1.kept (t' := s1.toks) hk
    refine ⟨s1.heap.objs.size + 1, [s1.heap.objs.size + 1, s1.heap.objs.size], _, _, H1, rfl, I2, turn_enumT a (s1.heap.objs.size + 1) s1.heap.objs.size (Nat.succ_ne_self _) (Nat.ne_of_gt (Nat.lt_succ_of_lt hlt)) (Nat.ne_of_lt hlt), ⟨⟨.none, he⟩, _, hit, rfl, rfl⟩, fun b hb => ?_, q⟩
    have hle : s1.heap.objs.size ≤ b := by
      rcases (show b = s1.heap.objs.size + 1 ∨ b = s1.heap.objs.size by simpa using hb) with z | z
      · rw [z]; exact Nat.le_add_right _ _
      · rw [z]; exact Nat.le_refl _
    exact I1.fpOk hle (I1.hok.fresh hle)
theorem walk_enumT {K : PySem.W.Frag} {a : Addr} {xs : List V} : Walk (IteT K a) xs.length (fun H => SqT K H a xs) (YPair (fun i => some (.int (i : Nat))) (fun i => xs[i]?)) := by
  refine ⟨fun i _ hi q => ⟨xs, xs[i], q, by simp [hi]⟩, fun _ q => ⟨xs, q, rfl⟩, fun i H v H' _ q y => ?_⟩
  obtain ⟨T, x, h1, h2, h3, h4⟩ := y
  exact ⟨T, .int (i : Nat), x, h1, h2, h3, rfl, h4 xs q⟩
/-! ### a dict comprehension over any walk -/
theorem dc_it {J : It} {n : Nat} {G : Hp → Prop} {Y : Nat → Hp → V → Hp → Prop} (w : Walk J n G Y) {g : TG} {tt : TT} {tk tv : TE} {vs : List Nat} {σ : L2.St} {H1 : Hp} {D : Addr} {Qd : Hp → Prop} (Pv : Nat → Hp → Prop)
    (h0 : Pv 0 (upd H1 D (.dK []))) (hG : ∀ i H, i ≤ n → Pv i H → G H)
    (hs : ∀ i x H H', i < n → Pv i H → Y i H x H' → g x (wipe σ vs) H' fun σ2 H2 => wipe σ2 vs = wipe σ vs ∧ tt σ2 H2 fun b H3 =>
      if b = true then tk σ2 H3 fun y H4 => tv σ2 H4 fun z H5 => ∃ kvs k, y = kV k ∧ H5 D = some (.dK kvs) ∧ kvs.length < sizeLine ∧ Pv (i + 1) (upd H5 D (.dK (putK kvs k z))) else Pv (i + 1) H3) (hd : ∀ H, Pv n H → Qd H) :
    ∃ W : Nat → Nat → Hp → Prop, (∃ m, W 0 m (upd H1 D (.dK []))) ∧ ∀ i m H, W i m H →
      (J.stop i H ∧ Qd H) ∨ (J.go i H ∧ ∃ Nx : Hp → Prop, (∀ H', Nx H' → ∃ m', m' < m ∧ W (i + 1) m' H') ∧ ∀ x H', J.yld i H x H' → g x (wipe σ vs) H' fun σ2 H2 => wipe σ2 vs = wipe σ vs ∧ tt σ2 H2 fun b H3 =>
        if b = true then tk σ2 H3 fun y H4 => tv σ2 H4 fun z H5 => ∃ kvs k, y = kV k ∧ H5 D = some (.dK kvs) ∧ kvs.length < sizeLine ∧ Nx (upd H5 D (.dK (putK kvs k z))) else Nx H3) := by
  refine ⟨fun i m H => m = n - i ∧ i ≤ n ∧ Pv i H, ⟨n, by simp, Nat.zero_le _, h0⟩, ?_⟩
  rintro i m H ⟨rfl, hi, p⟩
  have q := hG i H hi p
  by_cases hlt : i < n
  · exact .inr ⟨w.goes i H hlt q, Pv (i + 1), fun H' p' => ⟨n - (i + 1), by omega, rfl, hlt, p'⟩, fun x H' y => hs i x H H' hlt p (w.yields i H x H' hlt q y)⟩
  · have e : i = n := by omega
    subst e
    exact .inl ⟨w.stops H q, hd H p⟩
end K58
/-! BadEntry(..): an exception of a class of the program over OfficeError(Exception), its __init__ says super().__init__(text) and stores one field. -/
namespace K58
open PySem PySem.Spec PyProof.Rows L2
def topS (i : Nat) : Stmt := PySem.Challenge.pw_twicedated_k58_whole_letters.main.body.getD i (.Pass ⟨0, 0, 0, 0⟩)
abbrev sBad : Stmt := inClass (topS 5) 0
/-- Exception's own row of classes -/
abbrev exRow : List Value := [.type "Exception", .type "BaseException", .type "object"]
def badName : Str := Str.ofString "BadEntry.__init__"
/-- what the top has written of BadEntry -/
structure BadC (K : PySem.W.Frag) (C fI : Addr) : Prop where
  q : PySem.W.excInitIn K C exRow "Exception.__new__" = true
  over : PySem.W.excOver K C exRow = true
  sa : PySem.W.findIn K (.ref C) "__setattr__" = some (some (.builtin "object.__setattr__"))
  noE : PySem.W.findIn K (.ref C) "entry" = some none
  hd : PySem.W.hasDictIn K C = true
  exC : PySem.W.subIn K (.ref C) (.type "BaseException") = some true
  exE : PySem.W.subIn K (.ref C) (.type "Exception") = some true
  tyC : PySem.W.typeIn K (.ref C) = some (.type "type")
  kC : PySem.W.keepIn K (.ref C) = true
  ga : PySem.W.findIn K (.ref C) "__getattribute__" = some (some (.builtin "BaseException.__getattribute__"))
  gg : PySem.W.findIn K (.ref C) "__getattr__" = some none
  iC : PySem.W.findIn K (.ref C) "__init__" = some (some (.ref fI))
  tI : PySem.W.typeIn K (.ref fI) = some (.type "function")
  sup : PySem.W.ks_superIn K C C "__init__" = some (some (.builtin "Exception.__init__"))
  mroS : PySem.W.mroIn K C (.ref C) = some true
  opq : PySem.W.nsIn K cStatics "thirdparty.any" = some none
  nsup : PySem.W.nsIn K mainGlobals "super" = some none
  fn : ∃ (oc : Value) (od : Option Addr) (kV doc pm : Value) (an : Option Addr) (cda cc : Addr) (ct : Value) (osl : Array (Option Value)) (ccl : Value) (cdd : Option Addr) (vs : Array Value) (ccs : Array (Option Value)) (file : Str) (tf : Tok) (cl : Value) (cld : Option Addr) (csl : Array (Option Value)),
    K.lookup fI = some ⟨oc, od, .func (PySem.W.ksFn "__init__" badName (defArgs sBad) (defBody sBad) (defScope sBad) .none kV doc pm an (.ref cda) ct cc), osl⟩ ∧ PySem.W.codeIn K (.ref cda) badName = true ∧
    K.lookup cda = some ⟨ccl, cdd, .fields vs, ccs⟩ ∧ vs[2]? = some (.str file tf) ∧ (PySem.Challenge.pw_twicedated_k58_whole_letters.main.file == file) = true ∧ K.lookup cc = some ⟨cl, cld, .cell (some (.ref C)), csl⟩
section
variable {P : Program} {w : World} {A : Around} {E : Value → Shared → Prop} {K : PySem.W.Frag} {C fI : Addr}
open Builtin Builtin.ObjectAttr in
/-- self.entry = v, the first field: its dict is made -/
theorem bad_set {h : Heap} {g : Array GenState} {d : Drawn} {t : Nat} {os : OsState} {e t0 : Addr} {v : Value} {Q : Unit → Shared → Prop} (T : BadC K C fI) (X : K.In h) (he : h.get? e = some (HandSPX.excO C t0))
    (hq : ∀ h' tk' dx, (∀ b o, b ≠ e → h.get? b = some o → h'.get? b = some o) → h.objs.size ≤ dx → dx ≠ e → h'.get? e = some { cls := .ref C, dict := some dx, data := .fields #[.ref t0, .none, .none, .none, .bool false, .none] } →
      h'.Ns1 dx (fun y => if y = "entry" then some v else none) → Q () ⟨h', g, d, tk', os⟩) :
    wpAny (model P w) A (setAttr (.ref e) "entry" v) Q E ⟨h, g, d, t, os⟩ := by
  have I0 : PySem.W.InstAt h e (HandSPX.excO C t0) C none := ⟨he, rfl, rfl, trivial⟩
  have taker : PySem.W.takerIn K C "entry" = some none := by
    unfold PySem.W.takerIn
    rw [T.noE]
    rfl
  refine PySem.W.set_plain X I0 T.sa ?_
  refine PySem.W.osa_openX (s := ⟨h, g, d, t + 1, os⟩) (od := none) PySem.F.store_Exception X I0 T.over taker fun b => ?_
  obtain ⟨cd, hc, hd'⟩ := PySem.W.any_some T.hd
  have hxs : e ≠ h.objs.size := Nat.ne_of_lt (Heap.lt_size he)
  refine wpAny_bind (wpAny_pure (wpAny_bind (PySem.W.instanceDict_exc (s := ⟨h, g, d, t + 1, os⟩) he (PySem.W.looks_clsIn X hc) hd' ?_)))
  refine HandSPX.store_in_new ⟨_, #[], _, (Heap.get?_update_ne _ _ _ _ hxs.symm).trans (Heap.get?_push_at rfl rfl), rfl, fun e he => absurd he (by simp), fun _ => rfl⟩ fun h' tk' hn hs => ?_
  refine hq h' tk' h.objs.size (fun b o hb ho => ?_) (Nat.le_refl _) hxs.symm ?_ hn
  · exact (hs.2 b (Nat.ne_of_lt (Heap.lt_size ho))).trans ((Heap.get?_update_ne _ _ _ _ hb).trans (Heap.get?_push_of_some _ ho))
  · exact (hs.2 e hxs).trans (Heap.get?_update_self _ (Heap.get?_push_of_some _ he) rfl)
abbrev PW : Program := PySem.Challenge.pw_twicedated_k58_whole_letters
variable {mg mb : Str → Option Value}
/-- the __init__ called: every other object stays, the exception has its dict -/
theorem bad_init {h : Heap} {g : Array GenState} {d : Drawn} {t : Nat} {os : OsState} {e t0 : Addr} {v : Value} {R : Result → Shared → Prop} (T : BadC K C fI) (X : K.In h) (lim : h.NoLimit) (G : h.Ns mainGlobals mg) (gs : mg "super" = none) (B : h.Ns builtinsNs mb)
    (bs : ∀ x : Str, x ≠ "__name__" → mb x = bootBuiltins x) (room : A.depth < recursionLimit) (ne : K.lookup e = none) (he : h.get? e = some (HandSPX.excO C t0))
    (hq : ∀ h' tk' dx t1, (∀ b o, b ≠ e → h.get? b = some o → h'.get? b = some o) → h.objs.size ≤ dx → dx ≠ e → h'.get? e = some { cls := .ref C, dict := some dx, data := .fields #[.ref t1, .none, .none, .none, .bool false, .none] } →
      h'.Ns1 dx (fun y => if y = "entry" then some v else none) → R (.ok (.ret .none)) ⟨h', g, d, tk', os⟩) :
    codeAny (model PW w) A (.call (.ref fI) ⟨[.ref e, v], []⟩) R ⟨h, g, d, t, os⟩ := by
  obtain ⟨oc, od, kV, doc, pm, an, cda, cc, ct, osl, ccl, cdd, vs, ccs, file, tf, cl, cld, csl, lk, hcd, lkc, hvs, hfile, lcc⟩ := T.fn
  refine ks_codeAny_call_defAt (s := ⟨h, g, d, t, os⟩) (binds := [("self", .ref e), ("entry", v)]) room (X _ _ lk) rfl lim (PySem.W.codeRec_of X hcd) rfl (.of_eq rfl) (show ∀ x ∈ (defScope sBad).names, x.2 ≠ .cell by decide +kernel) (fun x hx => ?_) (fun h1 hns k1 => ?_) rfl rfl rfl
  · rcases List.mem_cons.mp hx with rfl | hx
    · show (defScope sBad).names.lookup (Str.ofString "self") = some NameKind.local
      decide +kernel
    · rw [List.mem_singleton.mp hx]
      show (defScope sBad).names.lookup (Str.ofString "entry") = some NameKind.local
      decide +kernel
  have X1 : K.In h1 := X.keeps k1
  have e1 := k1 _ _ he
  obtain ⟨nm, N', qn, bs', bm, hdct, sn, sub, ab, col, dd, k0, k1', k2, k3, k5, hC, hT⟩ := PySem.W.excInit_of X1 T.q
  have lkX : h1.get? fI = _ := X1 _ _ lk
  refine ks_wpAt_execs_cons (ks_wpAt_Expr_any (ks_wpAt_MethodCall ?_) rfl rfl)
  refine ks_wpAt_super_base (s := ⟨h1, g, d, t + 2, os⟩) rfl rfl rfl rfl lkX rfl (ar := { arg := "self", annotation := none, pos := ⟨19, 17, 19, 21⟩ }) rfl rfl (X1 _ _ lkc) rfl hvs hfile (by decide +kernel) ?_
  refine PySem.W.ks_loadName_global rfl rfl (Calls.loadGlobal_builtin (G.keeps k1) gs (B.keeps k1) ((bs _ (by decide +kernel)).trans (show bootBuiltins "super" = some (.type "super") by decide +kernel)) ⟨rfl, ?_⟩)
  refine wpAny_loadName_free rfl rfl rfl ⟨_, X1 _ _ lcc, rfl⟩ ?_
  refine wpAny_loadName_local rfl rfl hns rfl ?_
  refine ks_wpAny_isType_cls hC rfl ⟨rfl, ?_⟩
  refine ks_wpAny_call_super hC rfl e1 rfl (fun c z => nomatch z) ?_ fun h2 hso k2' => ?_
  · exact PySem.W.looks_mroIn X1 T.mroS
  have X2 : K.In h2 := X1.keeps k2'
  have e2 := k2' _ _ e1
  have I2 : PySem.W.InstAt h2 e (HandSPX.excO C t0) C none := ⟨e2, rfl, rfl, trivial⟩
  cases hcl : PySem.W.clsIn K C with
  | none =>
    have z := T.sup
    unfold PySem.W.ks_superIn at z
    rw [hcl] at z
    cases z
  | some cd =>
    have hsup := T.sup
    unfold PySem.W.ks_superIn at hsup
    rw [hcl] at hsup
    refine PySem.ESX.getMethod_super hso (PySem.W.looks_opaque X2 T.opq) ((PySem.W.looks_clsIn X2 hcl).andThen .now) rfl X2 hsup (PySem.W.ks_ne X2 I2 hcl) (by decide +kernel) (I2.type.andThen (PySem.W.looks_subIn X2 T.exE)) ?_
    refine PySem.ESX.callWith_bound (x := e) ?_ rfl rfl
    refine Calls.spliced_cons ?_
    refine Calls.Constant_str (k := 0) (pos := ⟨20, 25, 20, 38⟩) ?_
    refine Calls.spliced_nil ?_
    have hbw : (h2.push (PySem.ESX.bw e)).get? h2.objs.size = some (PySem.ESX.bw e) := Heap.get?_push_size _ rfl
    have k3 : ∀ b o, h2.get? b = some o → (h2.push (PySem.ESX.bw e)).get? b = some o := fun b o z => Heap.get?_push_of_some _ z
    refine ⟨hbw, ?_⟩
    refine PySem.ESX.call_bw (k3 _ _ (k2' _ _ hC)) (k3 _ _ e2) hbw (by show 1 ≤ sizeLine; decide) fun h4 t1 k4 e4 => ?_
    have neK : ∀ b o, K.lookup b = some o → b ≠ e := fun b o z q => by
      rw [q, ne] at z
      cases z
    have X4 : K.In h4 := fun b o z => k4 b o (neK b o z) (k3 _ _ (X2 b o z))
    have hel : e < h.objs.size := Heap.lt_size he
    have up : ∀ b o, b ≠ e → h1.get? b = some o → h4.get? b = some o := fun b o hb z => k4 b o hb (k3 _ _ (k2' _ _ z))
    obtain ⟨oL, esL, epL, hoL, rL⟩ := hns
    have hns4 : h4.Ns h.objs.size (fun x => List.lookup x [(Str.ofString "self", Value.ref e), (Str.ofString "entry", v)].reverse) := ⟨oL, esL, epL, up _ _ (Nat.ne_of_gt hel) hoL, rL⟩
    refine ks_wpAt_execs_cons (ks_wpAt_Assign_Attr (wpAt_of_wpAny ?_) rfl)
    refine PySem.ESX.ldL (env := callEnv (PySem.W.ksFn "__init__" badName (defArgs sBad) (defBody sBad) (defScope sBad) .none kV doc pm an (.ref cda) ct cc) h.objs.size fI) (s := ⟨h4, g, d, _, os⟩) (x := Str.ofString "entry") (pos := ⟨21, 21, 21, 26⟩) (v := v) hns4 rfl ?_ rfl rfl (by decide)
    refine PySem.ESX.ldL (env := callEnv (PySem.W.ksFn "__init__" badName (defArgs sBad) (defBody sBad) (defScope sBad) .none kV doc pm an (.ref cda) ct cc) h.objs.size fI) (s := ⟨h4, g, d, _, os⟩) (x := Str.ofString "self") (pos := ⟨21, 8, 21, 12⟩) (v := .ref e) hns4 rfl ?_ rfl rfl (by decide)
    refine bad_set T X4 e4 fun h5 tk5 dx k5' le5 ne5 e5 n5 => ?_
    refine wpAt_of_wpAny (wpAny_execs_nil ?_)
    have lt1 : h.objs.size ≤ h4.objs.size := Nat.le_of_lt (Heap.lt_size (up _ _ (Nat.ne_of_gt hel) hoL))
    exact hq h5 tk5 dx t1 (fun b o hb z => k5' b o hb (up b o hb (k1 _ _ z))) (Nat.le_trans lt1 le5) ne5 e5 n5
end
section
variable {X : Cx} {C fI : Addr} {x : Str} {p pos : Pos} {e : Expr} {ta : TA}
/-- BadEntry(e): d, its dict, is new and holds the entry -/
theorem pmk_bad (hP : X.prog = PW) (T : BadC X.K C fI) (hg : Gl X x) (hm : X.mg x = some (.ref C)) (gs : X.mg "super" = none) (hr : Room 1 X.A) (ha : PA X [e] ta) (hdb : (x == ("__debug__" : Str)) = false := by decide)
    (he : starEach [e] X.env = (false, eval e X.env) :: starEach [] X.env := by rfl) (hpl : (backTo pos (starEach [] X.env)).any (·.1) = false := by rfl) :
    PMk X (.Call (.Name x p) [e] [] pos) (fun σ H Q => ta σ H fun vs H1 => ∃ v, vs = [v] ∧ ∀ d, H1 d = none → Q (.ref C) (some d) (upd H1 d (.xd [(("entry" : Str), v)]))) := by
  intro pins s σ H Q I h
  refine wpAny_Call_Name_kw (ld_glob I hg hm ?_ hdb)
  refine PySem.W.callWith_K (h₀ := X.base) I.ok.mod.kin T.kC (thn (ha.run pos pins s σ H _ I h) fun us s1 hh => ?_) he hpl
  obtain ⟨vs, H1, I1, r1, v, ev, q⟩ := hh
  subst ev
  refine ⟨I1.kIn, ?_⟩
  cases r1 with
  | @cons _ u _ _ ru rn =>
    cases rn
    show wpAny _ _ (call (.ref C) [u]) _ _ _
    have em : model X.prog X.w = model PW X.w := by rw [hP]
    rw [em]
    obtain ⟨mB, hB, hBB⟩ := I1.ok.mod.blt
    have lim := I1.nolimit
    have gl := I1.mod.glob.keeps I1.bk
    have bl := hB.keeps I1.bk
    have hX := I1.kIn
    obtain ⟨nm, N', qn, bs', bm, hdct, sn, sub, ab, col, dd, k0, k1, k2, k3, k5, hC, hT⟩ := PySem.W.excInit_of hX T.q
    have hi : PySem.W.Looks (model PW X.w) s1.heap (typeLookup (.ref C) "__init__") (some (.ref fI)) := PySem.W.looks_findIn hX T.iC
    have hb : ∀ self, PySem.W.Looks (model PW X.w) s1.heap (bindSpecial (.ref fI) self) (.ref fI, [self]) := fun self => PySem.W.bind_fn hX self T.tI
    obtain ⟨hh, g, d, t, os⟩ := s1
    have kk : ∀ b o, hh.get? b = some o → ((hh.push (PySem.W.kdv_tup [u])).push (PX.excO C hh.objs.size)).get? b = some o := fun b o z => Heap.get?_push_of_some _ (Heap.get?_push_of_some _ z)
    have hget : ((hh.push (PySem.W.kdv_tup [u])).push (PX.excO C hh.objs.size)).get? (hh.objs.size + 1) = some (HandSPX.excO C hh.objs.size) := by heap_get
    have neK : X.K.lookup (hh.objs.size + 1) = none := by
      cases z : X.K.lookup (hh.objs.size + 1) with
      | none => rfl
      | some o => exact absurd (Heap.lt_size (hX _ _ z)) (Nat.not_lt.mpr (Nat.le_succ _))
    refine wpAny_call (PX.call_own PySem.F.excBase_Exception hT hC hi hb (by show 1 ≤ sizeLine; decide) ?_)
    refine bad_init (mg := X.mg) (mb := mB) T (hX.keeps kk) (lim.keeps kk) (gl.keeps kk) gs (bl.keeps kk) hBB (hr.make C [u] []).depth neK hget fun h' tk' dx t1 k' le' ne' e' n' => ?_
    refine ⟨rfl, ?_⟩
    have lt1 : hh.objs.size ≤ hh.objs.size + 1 := Nat.le_succ _
    have size2 : ((hh.push (PySem.W.kdv_tup [u])).push (PX.excO C hh.objs.size)).objs.size = hh.objs.size + 2 := by rw [Heap.size_push, Heap.size_push]
    have ledx : hh.objs.size ≤ dx := Nat.le_trans (by rw [size2]; exact Nat.le_add_right _ _) le'
    have nd : H1 dx = none := I1.hok.fresh ledx
    have ne0 : H1 (hh.objs.size + 1) = none := I1.hok.fresh lt1
    obtain ⟨G, g1, g2⟩ := restrict h' fun b => decide (b ≠ hh.objs.size + 1)
    have gk : ∀ b, b ≠ hh.objs.size + 1 → G.get? b = h'.get? b := fun b hb => g1 b (decide_eq_true hb)
    have ge : G.get? (hh.objs.size + 1) = none := g2 _ (by simp)
    have kG : ∀ b o, hh.get? b = some o → G.get? b = some o := fun b o z => by
      have hb : b ≠ hh.objs.size + 1 := Nat.ne_of_lt (Nat.lt_succ_of_lt (Heap.lt_size z))
      rw [gk b hb]
      exact k' b o hb (kk b o z)
    have nG : G.Ns1 dx (fun y => if y = "entry" then some u else none) := n'.at fun o z => (gk dx ne').trans z
    have J : Inv X pins σ (upd H1 dx (.xd [(("entry" : Str), v)])) ⟨G, g, d, tk', os⟩ := by
      refine I1.laid (t' := tk') (a := dx) (o := .xd [(("entry" : Str), v)]) (h' := G) kG ledx ⟨_, nG, fun f => ?_⟩
      rw [lookup_put]
      by_cases hf : f = "entry"
      · rw [if_pos hf, if_pos hf]
        exact ru
      · rw [if_neg hf, if_neg hf]
        exact True.intro
    exact ⟨hh.objs.size + 1, _, _, ⟨G, g, d, tk', os⟩, _, .ref C, some dx, rfl, J, fun b o z => by
      by_cases hb : b = hh.objs.size + 1
      · rw [hb, ge] at z; cases z
      · exact (gk b hb).symm.trans z, ge, e', ⟨rfl, rfl⟩, rfl, rfl, by rw [upd_ne (Ne.symm ne')]; exact ne0, rfl, I1.bare, raises_own T.exC T.tyC, q dx nd⟩
end
end K58
/-! A method that may raise, called in a try: the wish of its exception may speak of the caller's slots. -/
namespace K58
open PySem PySem.Spec PyProof.Rows L2
def tMethS (C : Addr) (m : Str) (sp : Sp) (W : L2.St → XK) (to : TE) (t : TA) : TE := fun σ H Q =>
  to σ H fun x H1 => ∃ a dx fs, x = .ref a ∧ H1 a = some (.ins C dx fs) ∧ fs.lookup m = none ∧ t σ H1 fun vs H2 => sp (x :: vs) H2 Q (W σ)
theorem pe_methS {X : Cx} {CX : CXT} {k : Nat} {g C : Addr} {fd : FuncData} {ps : List Str} {sp : Sp} {W : L2.St → XK} {m : Str} {pos apos : Pos} {e o : Expr} {es : List Expr} {to : TE} {t : TA} {pl : Sem Bool}
    (ho : PE X o to) (c : Cls X.K C) (hm : Meth X.K C m g) (F : FnOk X.prog X.w X.K X.mg X.base CX k g fd ps sp) (hr : Room k X.A) (hb : Binds X.K fd ps []) (hw : ∀ σ, PassesAt CX X σ (W σ)) (ha : PA X (e :: es) t)
    (hs : starEach (e :: es) X.env = (false, eval e X.env) :: starEach es X.env := by rfl) (hp : (backTo pos (starEach es X.env)).any (·.1) = false := by rfl)
    (ht : eval (.Call (.Attribute o m apos) (e :: es) [] pos) X.env =
      (do let ov ← eval o X.env
          standAt apos.atName
          let (f, first) ← holding [ov] (getMethod ov m pl)
          callWith pos f first (backTo pos (starEach (e :: es) X.env)) (backToKw pos (keywordEach [] X.env))) := by rfl) :
    PE X (.Call (.Attribute o m apos) (e :: es) [] pos) (tMethS C m sp W to t) := by
  refine ⟨fun pins s σ H Q I h => PySem.W.methodCall_KW (pl := pl) (thn (ho.run pins s σ H _ I h) fun u s1 z => ?_) ht⟩
  obtain ⟨x, H1, I1, rx, a, dx, fs, ex, ea, l, q⟩ := z
  subst ex
  obtain rfl : u = Value.ref a := rx
  refine getmeth_ok I1 ea c hm l (PySem.W.callWith_K (first := [.ref a]) (h₀ := X.base) I.ok.mod.kin hm.kp (thn (ha.run pos pins s1 σ H1 _ I1 q) fun us s2 y => ?_) hs hp)
  obtain ⟨vs, H2, I2, r, q2⟩ := y
  exact ⟨I2.kIn, run_fnS (us := .ref a :: us) (vs := .ref a :: vs) F hr hb (hw σ) I2 (.cons rfl r) q2⟩
end K58
/-! What stands in the heap: letters, entries, items under way, the journal, the post, a receiver; what a call leaves as it was. -/
namespace K58
open PySem L2 TL
/-! ### frames: all but what stands at M stays -/
structure Frm (M : List Addr) (H H' : Hp) : Prop where
  keep : ∀ b o, H b = some o → b ∉ M → H' b = some o
  tup : ∀ b xs, H b = some (.tup xs) → H' b = some (.tup xs)
  dom : ∀ b, H' b = none → H b = none
section
variable {M N : List Addr} {H H1 H2 : Hp} {a b : Addr} {o u : HO}
theorem Frm.refl (M : List Addr) (H : Hp) : Frm M H H := ⟨fun _ _ h _ => h, fun _ _ h => h, fun _ h => h⟩
theorem Frm.of_same (h : Same H H1) (M : List Addr) : Frm M H H1 := ⟨fun b o e _ => h b o e, fun b xs e => h b _ e, fun _ e => h.free e⟩
theorem Frm.same (f : Frm [] H H1) : Same H H1 := fun b o e => f.keep b o e (by simp)
theorem Frm.free (f : Frm M H H1) (h : H1 a = none) : H a = none := f.dom a h
/-- one more step: it changes what M names, or what is new -/
theorem Frm.trans (f : Frm M H H1) (g : Frm N H1 H2) (h : ∀ x ∈ N, x ∈ M ∨ H x = none) : Frm M H H2 := by
  refine ⟨fun b o e n => g.keep b o (f.keep b o e n) fun hb => ?_, fun b xs e => g.tup b xs (f.tup b xs e), fun b e => f.dom b (g.dom b e)⟩
  rcases h b hb with z | z
  · exact n z
  · rw [z] at e
    cases e
theorem Frm.step (f : Frm M H H1) (g : Frm [] H1 H2) : Frm M H H2 := f.trans g fun _ h => absurd h (by simp)
theorem Frm.weak (f : Frm N H H1) (h : ∀ x ∈ N, x ∈ M ∨ H x = none) : Frm M H H1 := (Frm.refl M H).trans f h
theorem Frm.put (f : Frm M H H1) (h : a ∈ M ∨ H a = none) (nt : ∀ xs, H1 a ≠ some (.tup xs)) : Frm M H (upd H1 a o) := by
  refine ⟨fun b u e n => ?_, fun b xs e => ?_, fun b e => ?_⟩
  · have nb : b ≠ a := by
      rintro rfl
      rcases h with z | z
      · exact n z
      · rw [z] at e
        cases e
    rw [upd_ne nb]
    exact f.keep b u e n
  · have nb : b ≠ a := by
      rintro rfl
      exact nt xs (f.tup _ xs e)
    rw [upd_ne nb]
    exact f.tup b xs e
  · by_cases nb : b = a
    · subst nb
      rw [upd_same] at e
      cases e
    · rw [upd_ne nb] at e
      exact f.dom b e
theorem Frm.new (f : Frm M H H1) (h : H1 a = none) : Frm M H (upd H1 a o) := f.put (.inr (f.dom a h)) fun xs z => by rw [h] at z; cases z
theorem Frm.lst {xs : List V} (f : Frm M H H1) (h : a ∈ M ∨ H a = none) (e : H1 a = some (.lst xs)) : Frm M H (upd H1 a o) := f.put h fun xs z => by rw [e] at z; cases z
theorem Frm.dk {kvs : List (Key × V)} (f : Frm M H H1) (h : a ∈ M ∨ H a = none) (e : H1 a = some (.dK kvs)) : Frm M H (upd H1 a o) := f.put h fun xs z => by rw [e] at z; cases z
theorem Frm.ins {C dx : Addr} {fs : List (Str × V)} (f : Frm M H H1) (h : a ∈ M ∨ H a = none) (e : H1 a = some (.ins C dx fs)) : Frm M H (upd H1 a o) := f.put h fun xs z => by rw [e] at z; cases z
theorem Frm.frz {ob : Obj} {q : HO} (f : Frm M H H1) (h : a ∈ M ∨ H a = none) (e : H1 a = some (.frz ob q)) : Frm M H (upd H1 a o) := f.put h fun xs z => by rw [e] at z; cases z
/-- the same heap, told otherwise -/
theorem upd_eq (h : H a = some o) : upd H a o = H := by
  funext b
  unfold upd
  split
  · rename_i e; rw [e, h]
  · rfl
end
/-! ### pairs of lists -/
section
variable {α β γ : Type} {R : α → β → Prop}
theorem pd_append : ∀ {xs xs' : List α} {ys ys' : List β}, Paired R xs ys → Paired R xs' ys' → Paired R (xs ++ xs') (ys ++ ys')
  | _, _, _, _, .nil, h => h
  | _, _, _, _, .cons a t, h => .cons a (pd_append t h)
theorem pd_take : ∀ (n : Nat) {xs : List α} {ys : List β}, Paired R xs ys → Paired R (xs.take n) (ys.take n)
  | 0, _, _, _ => .nil
  | _ + 1, _, _, .nil => .nil
  | n + 1, _, _, .cons a t => .cons a (pd_take n t)
theorem pd_drop : ∀ (n : Nat) {xs : List α} {ys : List β}, Paired R xs ys → Paired R (xs.drop n) (ys.drop n)
  | 0, _, _, h => h
  | _ + 1, _, _, .nil => .nil
  | n + 1, _, _, .cons _ t => pd_drop n t
theorem pd_left : ∀ {i : Nat} {xs : List α} {ys : List β} {x : α}, Paired R xs ys → xs[i]? = some x → ∃ y, ys[i]? = some y ∧ R x y
  | _, _, _, _, .nil, e => by simp at e
  | 0, _, _, _, .cons r _, e => by simp at e; subst e; exact ⟨_, rfl, r⟩
  | i + 1, _, _, _, .cons _ t, e => by
    obtain ⟨y, h1, h2⟩ := pd_left (i := i) t (by simpa using e)
    exact ⟨y, by simpa using h1, h2⟩
theorem pd_right : ∀ {i : Nat} {xs : List α} {ys : List β} {y : β}, Paired R xs ys → ys[i]? = some y → ∃ x, xs[i]? = some x ∧ R x y
  | _, _, _, _, .nil, e => by simp at e
  | 0, _, _, _, .cons r _, e => by simp at e; subst e; exact ⟨_, rfl, r⟩
  | i + 1, _, _, _, .cons _ t, e => by
    obtain ⟨x, h1, h2⟩ := pd_right (i := i) t (by simpa using e)
    exact ⟨x, by simpa using h1, h2⟩
theorem pd_mono {R' : α → β → Prop} (h : ∀ a b, R a b → R' a b) {xs : List α} {ys : List β} (p : Paired R xs ys) : Paired R' xs ys := p.mono h
theorem pd_nil_of {ys : List β} (p : Paired R [] ys) : ys = [] := by cases p; rfl
end
/-! ### letters, entries, items under way -/
def LT (H : Hp) (v : V) (n : Str) : Prop := ∃ a, v = .ref a ∧ H a = some (.tup [.str n])
def ET (H : Hp) (v : V) (e : Ent) : Prop := ∃ a lv, v = .ref a ∧ H a = some (.tup [.str letterS, .str e.1, lv]) ∧ LT H lv e.2
/-- an item under way: the receiver, the number, the letter (none: an answer) -/
structure Und where
  r : Str
  n : Nat
  l : Option Str
/-- the letter, or None -/
def OT (H : Hp) (v : V) : Option Str → Prop
  | none => v = .non
  | some n => LT H v n
def UT (H : Hp) (v : V) (u : Und) : Prop := ∃ a lv, v = .ref a ∧ H a = some (.tup [.str u.r, .int (u.n : Int), lv]) ∧ OT H lv u.l
section
variable {M : List Addr} {H H1 : Hp} {v : V}
theorem LT.keep {n : Str} (h : LT H v n) (f : Frm M H H1) : LT H1 v n := by
  obtain ⟨a, e, h⟩ := h
  exact ⟨a, e, f.tup _ _ h⟩
theorem OT.keep {o : Option Str} (h : OT H v o) (f : Frm M H H1) : OT H1 v o := by
  cases o with
  | none => exact h
  | some n => exact LT.keep h f
theorem ET.keep {e : Ent} (h : ET H v e) (f : Frm M H H1) : ET H1 v e := by
  obtain ⟨a, lv, e, h, l⟩ := h
  exact ⟨a, lv, e, f.tup _ _ h, l.keep f⟩
theorem UT.keep {u : Und} (h : UT H v u) (f : Frm M H H1) : UT H1 v u := by
  obtain ⟨a, lv, e, h, l⟩ := h
  exact ⟨a, lv, e, f.tup _ _ h, l.keep f⟩
theorem lts_keep {vs : List V} {ns : List Str} (h : Paired (LT H) vs ns) (f : Frm M H H1) : Paired (LT H1) vs ns := h.mono fun _ _ z => z.keep f
theorem ets_keep {vs : List V} {es : List Ent} (h : Paired (ET H) vs es) (f : Frm M H H1) : Paired (ET H1) vs es := h.mono fun _ _ z => z.keep f
theorem uts_keep {vs : List V} {us : List Und} (h : Paired (UT H) vs us) (f : Frm M H H1) : Paired (UT H1) vs us := h.mono fun _ _ z => z.keep f
end
/-! ### the letters of a receiver -/
def lettersOf (r : Str) (es : List Ent) : List Str := (es.filter fun e => decide (e.1 = r)).map (·.2)
theorem lettersOf_append (r : Str) (as bs : List Ent) : lettersOf r (as ++ bs) = lettersOf r as ++ lettersOf r bs := by unfold lettersOf; rw [List.filter_append, List.map_append]
theorem lettersOf_le (r : Str) (es : List Ent) : (lettersOf r es).length ≤ es.length := by unfold lettersOf; rw [List.length_map]; exact List.length_filter_le _ _
/-- the dict of letters: bob ahead of cora, none of them without a letter -/
def lettersD (es : List Ent) : List (Str × List Str) := [bobS, coraS].filterMap fun r => if lettersOf r es = [] then none else some (r, lettersOf r es)
def isRec (r : Str) : Prop := r = bobS ∨ r = coraS
theorem bc_ne : bobS ≠ coraS := by decide +kernel
/-- a tuple of letters -/
def TT (H : Hp) (v : V) (ns : List Str) : Prop := ∃ t vs, v = .ref t ∧ H t = some (.tup vs) ∧ Paired (LT H) vs ns
theorem TT.keep {M : List Addr} {H H1 : Hp} {v : V} {ns : List Str} (h : TT H v ns) (f : Frm M H H1) : TT H1 v ns := by
  obtain ⟨t, vs, e, h, p⟩ := h
  exact ⟨t, vs, e, f.tup _ _ h, lts_keep p f⟩
def RowD (H : Hp) (kv : Key × V) (x : Str × List Str) : Prop := kv.1 = Sum.inr x.1 ∧ TT H kv.2 x.2
theorem RowD.keep {M : List Addr} {H H1 : Hp} {kv : Key × V} {x : Str × List Str} (h : RowD H kv x) (f : Frm M H H1) : RowD H1 kv x := ⟨h.1, h.2.keep f⟩
/-- the dict that letters() gives -/
def LD (H : Hp) (d : Addr) (es : List Ent) : Prop := ∃ kvs, H d = some (.dK kvs) ∧ Paired (RowD H) kvs (lettersD es)
/-! ### the journal -/
def relK : List (Key × V) := [(Sum.inr ("works" : Str), .int 1), (Sum.inr ("lives" : Str), .int 2)]
def jf (jr l : Addr) (x y : Str) (k : Nat) : List (Str × V) := [(("relations" : Str), .ref jr), (("entries" : Str), .ref l), (("text" : Str), .str x), (("loose" : Str), .str y), (("settled" : Str), .int (k : Int))]
def entOk (e : Ent) : Prop := EntOk e ∧ isRec e.1
structure JAt (C : Addr) (H : Hp) (p dx l jr : Addr) (x y : Str) (es : List Ent) (k : Nat) : Prop where
  ob : H p = some (.ins C dx (jf jr l x y k))
  tx : tl x = linesL 0 (es.take k)
  ty : tl y = linesL k (es.drop k)
  le : k ≤ es.length
  ls : ∃ vs, H l = some (.lst vs) ∧ Paired (ET H) vs es
  rl : H jr = some (.dK relK)
  ok : ∀ e ∈ es, entOk e
theorem JAt.keep {M : List Addr} {C p dx l jr : Addr} {x y : Str} {es : List Ent} {k : Nat} {H H1 : Hp} (J : JAt C H p dx l jr x y es k) (f : Frm M H H1) (hp : p ∉ M) (hl : l ∉ M) (hj : jr ∉ M) : JAt C H1 p dx l jr x y es k := by
  obtain ⟨vs, h1, h2⟩ := J.ls
  exact ⟨f.keep _ _ J.ob hp, J.tx, J.ty, J.le, ⟨vs, f.keep _ _ h1 hl, ets_keep h2 f⟩, f.keep _ _ J.rl hj, J.ok⟩
theorem JAt.cx {C p dx l jr : Addr} {x y : Str} {es : List Ent} {k : Nat} {H : Hp} (J : JAt C H p dx l jr x y es k) (h : es.length ≤ 1000) : x.length ≤ 39000 := by
  have h1 := linesL_len 0 (es.take k) (fun e he => (J.ok e (List.mem_of_mem_take he)).1) (by rw [List.length_take]; omega)
  rw [TL.len_tl, J.tx]
  rw [List.length_take] at h1
  omega
end K58
/-! What the top has written (printed by genfacts.py). -/
namespace K58
open PySem L2
abbrev sWhole : Stmt := topS 12
abbrev sName : Stmt := topS 14
abbrev sChk : Stmt := topS 15
abbrev sNof : Stmt := topS 28
abbrev sIsE : Stmt := topS 29
abbrev sLin : Stmt := topS 33
abbrev sEby : Stmt := topS 34
abbrev sEin : Stmt := topS 36
abbrev sNum : Stmt := topS 39
abbrev sTak : Stmt := topS 40
abbrev sPik : Stmt := topS 41
abbrev sRel : Stmt := topS 42
abbrev sRit : Stmt := topS 49
abbrev sLaw : Stmt := topS 50
abbrev sPI : Stmt := inClass (topS 18) 0
abbrev sPW : Stmt := inClass (topS 18) 1
abbrev sPH : Stmt := inClass (topS 18) 2
abbrev sRI : Stmt := inClass (topS 19) 0
abbrev sRG : Stmt := inClass (topS 19) 1
abbrev sJI : Stmt := inClass (topS 37) 0
abbrev sJW : Stmt := inClass (topS 37) 1
abbrev sJS : Stmt := inClass (topS 37) 2
abbrev sJF : Stmt := inClass (topS 37) 3
abbrev sJL : Stmt := inClass (topS 37) 5
/-- where it stands -/
structure Ads where
  cB : Addr
  fB : Addr
  cP : Addr
  cR : Addr
  cJ : Addr
  aK : Addr
  fWhole : Addr
  dWhole : FuncData
  fName : Addr
  dName : FuncData
  fChk : Addr
  dChk : FuncData
  fNof : Addr
  dNof : FuncData
  fIsE : Addr
  dIsE : FuncData
  fLin : Addr
  dLin : FuncData
  fEby : Addr
  dEby : FuncData
  fEin : Addr
  dEin : FuncData
  fNum : Addr
  dNum : FuncData
  fTak : Addr
  dTak : FuncData
  fPik : Addr
  dPik : FuncData
  fRel : Addr
  dRel : FuncData
  fRit : Addr
  dRit : FuncData
  fPI : Addr
  dPI : FuncData
  fPW : Addr
  dPW : FuncData
  fPH : Addr
  dPH : FuncData
  fRI : Addr
  dRI : FuncData
  fRG : Addr
  dRG : FuncData
  fJI : Addr
  dJI : FuncData
  fJW : Addr
  dJW : FuncData
  fJS : Addr
  dJS : FuncData
  fJF : Addr
  dJF : FuncData
  fJL : Addr
  dJL : FuncData
structure Tx (K : PySem.W.Frag) (mg : Str → Option Value) (A : Ads) : Prop where
  bad : BadC K A.cB A.fB
  bx : PySem.W.exmOne K (.ref A.cB) (.ref A.cB) = some true
  gB : mg "BadEntry" = some (.ref A.cB)
  clP : Cls K A.cP
  mkP : Mk K A.cP A.fPI
  gP : mg "Post" = some (.ref A.cP)
  nPjournal : NoAttr K A.cP "journal"
  nPheard : NoAttr K A.cP "heard"
  clR : Cls K A.cR
  mkR : Mk K A.cR A.fRI
  gR : mg "Receiver" = some (.ref A.cR)
  nRtaken : NoAttr K A.cR "taken"
  nRearly : NoAttr K A.cR "early"
  clJ : Cls K A.cJ
  mkJ : Mk K A.cJ A.fJI
  gJ : mg "Journal" = some (.ref A.cJ)
  nJrelations : NoAttr K A.cJ "relations"
  nJentries : NoAttr K A.cJ "entries"
  nJtext : NoAttr K A.cJ "text"
  nJloose : NoAttr K A.cJ "loose"
  nJsettled : NoAttr K A.cJ "settled"
  gWhole : mg "is_whole" = some (.ref A.fWhole)
  FWhole : Fun K "is_whole" "is_whole" sWhole A.fWhole A.dWhole
  gName : mg "is_name" = some (.ref A.fName)
  FName : Fun K "is_name" "is_name" sName A.fName A.dName
  gChk : mg "check_relations" = some (.ref A.fChk)
  FChk : Fun K "check_relations" "check_relations" sChk A.fChk A.dChk
  gNof : mg "names_of" = some (.ref A.fNof)
  FNof : Fun K "names_of" "names_of" sNof A.fNof A.dNof
  gIsE : mg "is_entry" = some (.ref A.fIsE)
  FIsE : Fun K "is_entry" "is_entry" sIsE A.fIsE A.dIsE
  gLin : mg "entry_line" = some (.ref A.fLin)
  FLin : Fun K "entry_line" "entry_line" sLin A.fLin A.dLin
  gEby : mg "entry_by" = some (.ref A.fEby)
  FEby : Fun K "entry_by" "entry_by" sEby A.fEby A.dEby
  gEin : mg "entries_in" = some (.ref A.fEin)
  FEin : Fun K "entries_in" "entries_in" sEin A.fEin A.dEin
  gNum : mg "_law_number" = some (.ref A.fNum)
  FNum : Fun K "_law_number" "_law_number" sNum A.fNum A.dNum
  gTak : mg "_law_take" = some (.ref A.fTak)
  FTak : Fun K "_law_take" "_law_take" sTak A.fTak A.dTak
  gPik : mg "_law_pick" = some (.ref A.fPik)
  FPik : Fun K "_law_pick" "_law_pick" sPik A.fPik A.dPik
  gRel : mg "_law_relations" = some (.ref A.fRel)
  FRel : Fun K "_law_relations" "_law_relations" sRel A.fRel A.dRel
  gRit : mg "_law_right" = some (.ref A.fRit)
  FRit : Fun K "_law_right" "_law_right" sRit A.fRit A.dRit
  FPI : Fun K "__init__" "Post.__init__" sPI A.fPI A.dPI
  FPW : Fun K "waiting" "Post.waiting" sPW A.fPW A.dPW
  mPW : Meth K A.cP "waiting" A.fPW
  FPH : Fun K "hear" "Post.hear" sPH A.fPH A.dPH
  mPH : Meth K A.cP "hear" A.fPH
  FRI : Fun K "__init__" "Receiver.__init__" sRI A.fRI A.dRI
  FRG : Fun K "get" "Receiver.get" sRG A.fRG A.dRG
  mRG : Meth K A.cR "get" A.fRG
  FJI : Fun K "__init__" "Journal.__init__" sJI A.fJI A.dJI
  FJW : Fun K "write" "Journal.write" sJW A.fJW A.dJW
  mJW : Meth K A.cJ "write" A.fJW
  FJS : Fun K "settle" "Journal.settle" sJS A.fJS A.dJS
  mJS : Meth K A.cJ "settle" A.fJS
  FJF : Fun K "fallen" "Journal.fallen" sJF A.fJF A.dJF
  mJF : Meth K A.cJ "fallen" A.fJF
  FJL : Fun K "letters" "Journal.letters" sJL A.fJL A.dJL
  mJL : Meth K A.cJ "letters" A.fJL
  b_isinstance : mg "isinstance" = none
  b_int : mg "int" = none
  b_bool : mg "bool" = none
  b_str : mg "str" = none
  b_tuple : mg "tuple" = none
  b_len : mg "len" = none
  b_all : mg "all" = none
  b_any : mg "any" = none
  b_dict : mg "dict" = none
  b_max : mg "max" = none
  b_enumerate : mg "enumerate" = none
  b_sorted : mg "sorted" = none
  b_range : mg "range" = none
  b_abs : mg "abs" = none
  b_super : mg "super" = none
  gLET : ∃ t, mg "LETTERS" = some (.str "abcdefghijklmnopqrstuvwxyz" t)
  gFIG : ∃ t, mg "FIGURES" = some (.str "0123456789" t)
  gMN : ∃ t, mg "MOST_NAMES" = some (.int 4 t)
  gMW : ∃ t, mg "MOST_WORDS" = some (.int 6 t)
  gKI : mg "KINDS" = some (.ref A.aK)
  kin : ∃ (ob : Obj) (n : Nat) (t1 t2 : Tok), K.lookup A.aK = some ob ∧ ob.cls = .type "tuple" ∧ ob.data = .seq #[.str "change" t1, .str "letter" t2] n
section
variable {K : PySem.W.Frag} {mg : Str → Option Value} {A : Ads}
theorem bWhole (T : Tx K mg A) : Binds K A.dWhole ["thing", "low", "high"] [] := T.FWhole.binds (ps := ["thing", "low", "high"]) fun _ _ _ _ _ _ us hl => match us, hl with | [_, _, _], _ => rfl
theorem bName (T : Tx K mg A) : Binds K A.dName ["thing"] [] := T.FName.binds (ps := ["thing"]) fun _ _ _ _ _ _ us hl => match us, hl with | [_], _ => rfl
theorem bChk (T : Tx K mg A) : Binds K A.dChk ["relations"] [] := T.FChk.binds (ps := ["relations"]) fun _ _ _ _ _ _ us hl => match us, hl with | [_], _ => rfl
theorem bNof (T : Tx K mg A) : Binds K A.dNof ["word"] [] := T.FNof.binds (ps := ["word"]) fun _ _ _ _ _ _ us hl => match us, hl with | [_], _ => rfl
theorem bIsE (T : Tx K mg A) : Binds K A.dIsE ["relations", "thing"] [] := T.FIsE.binds (ps := ["relations", "thing"]) fun _ _ _ _ _ _ us hl => match us, hl with | [_, _], _ => rfl
theorem bLin (T : Tx K mg A) : Binds K A.dLin ["number", "entry"] [] := T.FLin.binds (ps := ["number", "entry"]) fun _ _ _ _ _ _ us hl => match us, hl with | [_, _], _ => rfl
theorem bEby (T : Tx K mg A) : Binds K A.dEby ["relations", "number", "line"] [] := T.FEby.binds (ps := ["relations", "number", "line"]) fun _ _ _ _ _ _ us hl => match us, hl with | [_, _, _], _ => rfl
theorem bEin (T : Tx K mg A) : Binds K A.dEin ["relations", "text"] [] := T.FEin.binds (ps := ["relations", "text"]) fun _ _ _ _ _ _ us hl => match us, hl with | [_, _], _ => rfl
theorem bNum (T : Tx K mg A) : Binds K A.dNum ["_law_script", "_law_index"] [] := T.FNum.binds (ps := ["_law_script", "_law_index"]) fun _ _ _ _ _ _ us hl => match us, hl with | [_, _], _ => rfl
theorem bTak (T : Tx K mg A) : Binds K A.dTak ["_law_draw", "_law_many"] [] := T.FTak.binds (ps := ["_law_draw", "_law_many"]) fun _ _ _ _ _ _ us hl => match us, hl with | [_, _], _ => rfl
theorem bPik (T : Tx K mg A) : Binds K A.dPik ["_law_draw", "_law_items"] [] := T.FPik.binds (ps := ["_law_draw", "_law_items"]) fun _ _ _ _ _ _ us hl => match us, hl with | [_, _], _ => rfl
theorem bRel (T : Tx K mg A) : Binds K A.dRel [] [] := T.FRel.binds (ps := []) fun _ _ _ _ _ _ us hl => match us, hl with | [], _ => rfl
theorem bRit (T : Tx K mg A) : Binds K A.dRit ["_law_journal", "_law_receivers"] [] := T.FRit.binds (ps := ["_law_journal", "_law_receivers"]) fun _ _ _ _ _ _ us hl => match us, hl with | [_, _], _ => rfl
theorem bPI (T : Tx K mg A) : Binds K A.dPI ["self", "journal"] [] := T.FPI.binds (ps := ["self", "journal"]) fun _ _ _ _ _ _ us hl => match us, hl with | [_, _], _ => rfl
theorem bPW (T : Tx K mg A) : Binds K A.dPW ["self"] [] := T.FPW.binds (ps := ["self"]) fun _ _ _ _ _ _ us hl => match us, hl with | [_], _ => rfl
theorem bPH (T : Tx K mg A) : Binds K A.dPH ["self", "receiver", "number"] [] := T.FPH.binds (ps := ["self", "receiver", "number"]) fun _ _ _ _ _ _ us hl => match us, hl with | [_, _, _], _ => rfl
theorem bRI (T : Tx K mg A) : Binds K A.dRI ["self"] [] := T.FRI.binds (ps := ["self"]) fun _ _ _ _ _ _ us hl => match us, hl with | [_], _ => rfl
theorem bRG (T : Tx K mg A) : Binds K A.dRG ["self", "number", "letter"] [] := T.FRG.binds (ps := ["self", "number", "letter"]) fun _ _ _ _ _ _ us hl => match us, hl with | [_, _, _], _ => rfl
theorem bJI (T : Tx K mg A) : Binds K A.dJI ["self", "relations", "text"] [] := T.FJI.binds (ps := ["self", "relations", "text"]) fun _ _ _ _ _ _ us hl => match us, hl with | [_, _, _], _ => rfl
theorem bJW (T : Tx K mg A) : Binds K A.dJW ["self", "entry"] [] := T.FJW.binds (ps := ["self", "entry"]) fun _ _ _ _ _ _ us hl => match us, hl with | [_, _], _ => rfl
theorem bJS (T : Tx K mg A) : Binds K A.dJS ["self"] [] := T.FJS.binds (ps := ["self"]) fun _ _ _ _ _ _ us hl => match us, hl with | [_], _ => rfl
theorem bJF (T : Tx K mg A) : Binds K A.dJF ["self", "cut"] [] := T.FJF.binds (ps := ["self", "cut"]) fun _ _ _ _ _ _ us hl => match us, hl with | [_, _], _ => rfl
theorem bJL (T : Tx K mg A) : Binds K A.dJL ["self"] [] := T.FJL.binds (ps := ["self"]) fun _ _ _ _ _ _ us hl => match us, hl with | [_], _ => rfl
end
/-- an error of the class is what its except names -/
theorem exm_own {K : PySem.W.Frag} {C : Addr} (h1 : PySem.W.subIn K (.ref C) (.type "BaseException") = some true) (h2 : PySem.W.isClsIn K C = true) (h3 : PySem.W.typeIn K (.ref C) = some (.type "type")) (h4 : PySem.W.subIn K (.ref C) (.ref C) = some true) :
    PySem.W.exmOne K (.ref C) (.ref C) = some true := by
  have e1 : (PySem.W.subIn K (.ref C) (.type "BaseException") == some true) = true := by rw [h1] <;> rfl
  have e2 : ((PySem.W.clsIn K C).isSome && PySem.W.typeIn K (.ref C) == some (.type "type")) = true := by
    have q : (PySem.W.clsIn K C).isSome = true := h2
    rw [q, h3] <;> rfl
  show (if (PySem.W.subIn K (.ref C) (.type "BaseException") == some true) = true then (if ((PySem.W.clsIn K C).isSome && PySem.W.typeIn K (.ref C) == some (.type "type")) = true then PySem.W.subIn K (.ref C) (.ref C) else none) else none) = some true
  rw [if_pos e1, if_pos e2, h4]
theorem all_mk {K : PySem.W.Frag} {h : Heap} {mg : Str → Option Value} (X : K.In h) (G : h.Ns mainGlobals mg) {cB fB cP cR cJ aK fa fLaw fWhole fName fChk fNof fIsE fLin fEby fEin fNum fTak fPik fRel fRit fPI fPW fPH fRI fRG fJI fJW fJS fJF fJL : Addr} (hfa : mg "law" = some (.ref fa))
    {oc kV doc pm ct ccl cl : Value} {od an cdd cld : Option Addr} {cda cc : Addr} {osl ccs csl : Array (Option Value)} {vs : Array Value} {file : Str} {tf : Tok}
    {odWhole anWhole odName anName odChk anChk odNof anNof odIsE anIsE odLin anLin odEby anEby odEin anEin odNum anNum odTak anTak odPik anPik odRel anRel odRit anRit odLaw anLaw odPI anPI odPW anPW odPH anPH odRI anRI odRG anRG odJI anJI odJW anJW odJS anJS odJF anJF odJL anJL dKI : Option Addr} {slWhole slName slChk slNof slIsE slLin slEby slEin slNum slTak slPik slRel slRit slLaw slPI slPW slPH slRI slRG slJI slJW slJS slJF slJL slKI : Array (Option Value)} {ocWhole kVWhole dcWhole pmWhole cdWhole ctWhole ocName kVName dcName pmName cdName ctName ocChk kVChk dcChk pmChk cdChk ctChk ocNof kVNof dcNof pmNof cdNof ctNof ocIsE kVIsE dcIsE pmIsE cdIsE ctIsE ocLin kVLin dcLin pmLin cdLin ctLin ocEby kVEby dcEby pmEby cdEby ctEby ocEin kVEin dcEin pmEin cdEin ctEin ocNum kVNum dcNum pmNum cdNum ctNum ocTak kVTak dcTak pmTak cdTak ctTak ocPik kVPik dcPik pmPik cdPik ctPik ocRel kVRel dcRel pmRel cdRel ctRel ocRit kVRit dcRit pmRit cdRit ctRit ocLaw kVLaw dcLaw pmLaw cdLaw ctLaw ocPI kVPI dcPI pmPI cdPI ctPI ocPW kVPW dcPW pmPW cdPW ctPW ocPH kVPH dcPH pmPH cdPH ctPH ocRI kVRI dcRI pmRI cdRI ctRI ocRG kVRG dcRG pmRG cdRG ctRG ocJI kVJI dcJI pmJI cdJI ctJI ocJW kVJW dcJW pmJW cdJW ctJW ocJS kVJS dcJS pmJS cdJS ctJS ocJF kVJF dcJF pmJF cdJF ctJF ocJL kVJL dcJL pmJL cdJL ctJL : Value} {tLET tFIG tMN tMW tK1 tK2 : Tok} {nKI : Nat}
    (aB : PySem.W.nsIn K mainGlobals "BadEntry" = some (some (.ref cB)))
    (bq : PySem.W.excInitIn K cB exRow "Exception.__new__" = true)
    (bover : PySem.W.excOver K cB exRow = true)
    (bsa : PySem.W.findIn K (.ref cB) "__setattr__" = some (some (.builtin "object.__setattr__")))
    (bnoE : PySem.W.findIn K (.ref cB) "entry" = some none)
    (bhd : PySem.W.hasDictIn K cB = true)
    (bexC : PySem.W.subIn K (.ref cB) (.type "BaseException") = some true)
    (bexE : PySem.W.subIn K (.ref cB) (.type "Exception") = some true)
    (btyC : PySem.W.typeIn K (.ref cB) = some (.type "type"))
    (bkC : PySem.W.keepIn K (.ref cB) = true)
    (bga : PySem.W.findIn K (.ref cB) "__getattribute__" = some (some (.builtin "BaseException.__getattribute__")))
    (bgg : PySem.W.findIn K (.ref cB) "__getattr__" = some none)
    (biC : PySem.W.findIn K (.ref cB) "__init__" = some (some (.ref fB)))
    (btI : PySem.W.typeIn K (.ref fB) = some (.type "function"))
    (bsup : PySem.W.ks_superIn K cB cB "__init__" = some (some (.builtin "Exception.__init__")))
    (bmro : PySem.W.mroIn K cB (.ref cB) = some true)
    (bopq : PySem.W.nsIn K cStatics "thirdparty.any" = some none)
    (bnsup : PySem.W.nsIn K mainGlobals "super" = some none)
    (biB : PySem.W.isClsIn K cB = true)
    (bsB : PySem.W.subIn K (.ref cB) (.ref cB) = some true)
    (blk : K.lookup fB = some ⟨oc, od, .func (PySem.W.ksFn "__init__" badName (defArgs sBad) (defBody sBad) (defScope sBad) .none kV doc pm an (.ref cda) ct cc), osl⟩)
    (bcd : PySem.W.codeIn K (.ref cda) badName = true)
    (blkc : K.lookup cda = some ⟨ccl, cdd, .fields vs, ccs⟩)
    (bvs : vs[2]? = some (.str file tf))
    (bfile : (PySem.Challenge.pw_twicedated_k58_whole_letters.main.file == file) = true)
    (blcc : K.lookup cc = some ⟨cl, cld, .cell (some (.ref cB)), csl⟩)
    (aWhole : PySem.W.nsIn K mainGlobals "is_whole" = some (some (.ref fWhole)))
    (lWhole : K.lookup fWhole = some ⟨ocWhole, odWhole, .func (PySem.W.fnOf "is_whole" "is_whole" (defArgs sWhole) (defBody sWhole) (defScope sWhole) .none kVWhole dcWhole pmWhole anWhole cdWhole ctWhole), slWhole⟩)
    (cWhole : PySem.W.codeIn K cdWhole "is_whole" = true)
    (kWhole : PySem.W.keepIn K (.ref fWhole) = true)
    (aName : PySem.W.nsIn K mainGlobals "is_name" = some (some (.ref fName)))
    (lName : K.lookup fName = some ⟨ocName, odName, .func (PySem.W.fnOf "is_name" "is_name" (defArgs sName) (defBody sName) (defScope sName) .none kVName dcName pmName anName cdName ctName), slName⟩)
    (cName : PySem.W.codeIn K cdName "is_name" = true)
    (kName : PySem.W.keepIn K (.ref fName) = true)
    (aChk : PySem.W.nsIn K mainGlobals "check_relations" = some (some (.ref fChk)))
    (lChk : K.lookup fChk = some ⟨ocChk, odChk, .func (PySem.W.fnOf "check_relations" "check_relations" (defArgs sChk) (defBody sChk) (defScope sChk) .none kVChk dcChk pmChk anChk cdChk ctChk), slChk⟩)
    (cChk : PySem.W.codeIn K cdChk "check_relations" = true)
    (kChk : PySem.W.keepIn K (.ref fChk) = true)
    (aNof : PySem.W.nsIn K mainGlobals "names_of" = some (some (.ref fNof)))
    (lNof : K.lookup fNof = some ⟨ocNof, odNof, .func (PySem.W.fnOf "names_of" "names_of" (defArgs sNof) (defBody sNof) (defScope sNof) .none kVNof dcNof pmNof anNof cdNof ctNof), slNof⟩)
    (cNof : PySem.W.codeIn K cdNof "names_of" = true)
    (kNof : PySem.W.keepIn K (.ref fNof) = true)
    (aIsE : PySem.W.nsIn K mainGlobals "is_entry" = some (some (.ref fIsE)))
    (lIsE : K.lookup fIsE = some ⟨ocIsE, odIsE, .func (PySem.W.fnOf "is_entry" "is_entry" (defArgs sIsE) (defBody sIsE) (defScope sIsE) .none kVIsE dcIsE pmIsE anIsE cdIsE ctIsE), slIsE⟩)
    (cIsE : PySem.W.codeIn K cdIsE "is_entry" = true)
    (kIsE : PySem.W.keepIn K (.ref fIsE) = true)
    (aLin : PySem.W.nsIn K mainGlobals "entry_line" = some (some (.ref fLin)))
    (lLin : K.lookup fLin = some ⟨ocLin, odLin, .func (PySem.W.fnOf "entry_line" "entry_line" (defArgs sLin) (defBody sLin) (defScope sLin) .none kVLin dcLin pmLin anLin cdLin ctLin), slLin⟩)
    (cLin : PySem.W.codeIn K cdLin "entry_line" = true)
    (kLin : PySem.W.keepIn K (.ref fLin) = true)
    (aEby : PySem.W.nsIn K mainGlobals "entry_by" = some (some (.ref fEby)))
    (lEby : K.lookup fEby = some ⟨ocEby, odEby, .func (PySem.W.fnOf "entry_by" "entry_by" (defArgs sEby) (defBody sEby) (defScope sEby) .none kVEby dcEby pmEby anEby cdEby ctEby), slEby⟩)
    (cEby : PySem.W.codeIn K cdEby "entry_by" = true)
    (kEby : PySem.W.keepIn K (.ref fEby) = true)
    (aEin : PySem.W.nsIn K mainGlobals "entries_in" = some (some (.ref fEin)))
    (lEin : K.lookup fEin = some ⟨ocEin, odEin, .func (PySem.W.fnOf "entries_in" "entries_in" (defArgs sEin) (defBody sEin) (defScope sEin) .none kVEin dcEin pmEin anEin cdEin ctEin), slEin⟩)
    (cEin : PySem.W.codeIn K cdEin "entries_in" = true)
    (kEin : PySem.W.keepIn K (.ref fEin) = true)
    (aNum : PySem.W.nsIn K mainGlobals "_law_number" = some (some (.ref fNum)))
    (lNum : K.lookup fNum = some ⟨ocNum, odNum, .func (PySem.W.fnOf "_law_number" "_law_number" (defArgs sNum) (defBody sNum) (defScope sNum) .none kVNum dcNum pmNum anNum cdNum ctNum), slNum⟩)
    (cNum : PySem.W.codeIn K cdNum "_law_number" = true)
    (kNum : PySem.W.keepIn K (.ref fNum) = true)
    (aTak : PySem.W.nsIn K mainGlobals "_law_take" = some (some (.ref fTak)))
    (lTak : K.lookup fTak = some ⟨ocTak, odTak, .func (PySem.W.fnOf "_law_take" "_law_take" (defArgs sTak) (defBody sTak) (defScope sTak) .none kVTak dcTak pmTak anTak cdTak ctTak), slTak⟩)
    (cTak : PySem.W.codeIn K cdTak "_law_take" = true)
    (kTak : PySem.W.keepIn K (.ref fTak) = true)
    (aPik : PySem.W.nsIn K mainGlobals "_law_pick" = some (some (.ref fPik)))
    (lPik : K.lookup fPik = some ⟨ocPik, odPik, .func (PySem.W.fnOf "_law_pick" "_law_pick" (defArgs sPik) (defBody sPik) (defScope sPik) .none kVPik dcPik pmPik anPik cdPik ctPik), slPik⟩)
    (cPik : PySem.W.codeIn K cdPik "_law_pick" = true)
    (kPik : PySem.W.keepIn K (.ref fPik) = true)
    (aRel : PySem.W.nsIn K mainGlobals "_law_relations" = some (some (.ref fRel)))
    (lRel : K.lookup fRel = some ⟨ocRel, odRel, .func (PySem.W.fnOf "_law_relations" "_law_relations" (defArgs sRel) (defBody sRel) (defScope sRel) .none kVRel dcRel pmRel anRel cdRel ctRel), slRel⟩)
    (cRel : PySem.W.codeIn K cdRel "_law_relations" = true)
    (kRel : PySem.W.keepIn K (.ref fRel) = true)
    (aRit : PySem.W.nsIn K mainGlobals "_law_right" = some (some (.ref fRit)))
    (lRit : K.lookup fRit = some ⟨ocRit, odRit, .func (PySem.W.fnOf "_law_right" "_law_right" (defArgs sRit) (defBody sRit) (defScope sRit) .none kVRit dcRit pmRit anRit cdRit ctRit), slRit⟩)
    (cRit : PySem.W.codeIn K cdRit "_law_right" = true)
    (kRit : PySem.W.keepIn K (.ref fRit) = true)
    (aLaw : PySem.W.nsIn K mainGlobals "law" = some (some (.ref fLaw)))
    (lLaw : K.lookup fLaw = some ⟨ocLaw, odLaw, .func (PySem.W.fnOf "law" "law" (defArgs sLaw) (defBody sLaw) (defScope sLaw) .none kVLaw dcLaw pmLaw anLaw cdLaw ctLaw), slLaw⟩)
    (cLaw : PySem.W.codeIn K cdLaw "law" = true)
    (kLaw : PySem.W.keepIn K (.ref fLaw) = true)
    (aP : PySem.W.nsIn K mainGlobals "Post" = some (some (.ref cP)))
    (pgP : PySem.W.plainGet K cP Str.empty = true)
    (hdP : PySem.W.hasDictIn K cP = true)
    (poP : PySem.W.plainOver K cP = true)
    (saP : PySem.W.findIn K (.ref cP) "__setattr__" = some (some (.builtin "object.__setattr__")))
    (mkP : PySem.W.makesIn K cP = true)
    (kcP : PySem.W.keepIn K (.ref cP) = true)
    (nPjournal : PySem.W.findIn K (.ref cP) "journal" = some none)
    (nPheard : PySem.W.findIn K (.ref cP) "heard" = some none)
    (aR : PySem.W.nsIn K mainGlobals "Receiver" = some (some (.ref cR)))
    (pgR : PySem.W.plainGet K cR Str.empty = true)
    (hdR : PySem.W.hasDictIn K cR = true)
    (poR : PySem.W.plainOver K cR = true)
    (saR : PySem.W.findIn K (.ref cR) "__setattr__" = some (some (.builtin "object.__setattr__")))
    (mkR : PySem.W.makesIn K cR = true)
    (kcR : PySem.W.keepIn K (.ref cR) = true)
    (nRtaken : PySem.W.findIn K (.ref cR) "taken" = some none)
    (nRearly : PySem.W.findIn K (.ref cR) "early" = some none)
    (aJ : PySem.W.nsIn K mainGlobals "Journal" = some (some (.ref cJ)))
    (pgJ : PySem.W.plainGet K cJ Str.empty = true)
    (hdJ : PySem.W.hasDictIn K cJ = true)
    (poJ : PySem.W.plainOver K cJ = true)
    (saJ : PySem.W.findIn K (.ref cJ) "__setattr__" = some (some (.builtin "object.__setattr__")))
    (mkJ : PySem.W.makesIn K cJ = true)
    (kcJ : PySem.W.keepIn K (.ref cJ) = true)
    (nJrelations : PySem.W.findIn K (.ref cJ) "relations" = some none)
    (nJentries : PySem.W.findIn K (.ref cJ) "entries" = some none)
    (nJtext : PySem.W.findIn K (.ref cJ) "text" = some none)
    (nJloose : PySem.W.findIn K (.ref cJ) "loose" = some none)
    (nJsettled : PySem.W.findIn K (.ref cJ) "settled" = some none)
    (aPI : PySem.W.findIn K (.ref cP) "__init__" = some (some (.ref fPI)))
    (iPI : PySem.W.isFn K (.ref fPI) = true)
    (lPI : K.lookup fPI = some ⟨ocPI, odPI, .func (PySem.W.fnOf "__init__" "Post.__init__" (defArgs sPI) (defBody sPI) (defScope sPI) .none kVPI dcPI pmPI anPI cdPI ctPI), slPI⟩)
    (cPI : PySem.W.codeIn K cdPI "Post.__init__" = true)
    (kPI : PySem.W.keepIn K (.ref fPI) = true)
    (aPW : PySem.W.findIn K (.ref cP) "waiting" = some (some (.ref fPW)))
    (iPW : PySem.W.isFn K (.ref fPW) = true)
    (lPW : K.lookup fPW = some ⟨ocPW, odPW, .func (PySem.W.fnOf "waiting" "Post.waiting" (defArgs sPW) (defBody sPW) (defScope sPW) .none kVPW dcPW pmPW anPW cdPW ctPW), slPW⟩)
    (cPW : PySem.W.codeIn K cdPW "Post.waiting" = true)
    (kPW : PySem.W.keepIn K (.ref fPW) = true)
    (aPH : PySem.W.findIn K (.ref cP) "hear" = some (some (.ref fPH)))
    (iPH : PySem.W.isFn K (.ref fPH) = true)
    (lPH : K.lookup fPH = some ⟨ocPH, odPH, .func (PySem.W.fnOf "hear" "Post.hear" (defArgs sPH) (defBody sPH) (defScope sPH) .none kVPH dcPH pmPH anPH cdPH ctPH), slPH⟩)
    (cPH : PySem.W.codeIn K cdPH "Post.hear" = true)
    (kPH : PySem.W.keepIn K (.ref fPH) = true)
    (aRI : PySem.W.findIn K (.ref cR) "__init__" = some (some (.ref fRI)))
    (iRI : PySem.W.isFn K (.ref fRI) = true)
    (lRI : K.lookup fRI = some ⟨ocRI, odRI, .func (PySem.W.fnOf "__init__" "Receiver.__init__" (defArgs sRI) (defBody sRI) (defScope sRI) .none kVRI dcRI pmRI anRI cdRI ctRI), slRI⟩)
    (cRI : PySem.W.codeIn K cdRI "Receiver.__init__" = true)
    (kRI : PySem.W.keepIn K (.ref fRI) = true)
    (aRG : PySem.W.findIn K (.ref cR) "get" = some (some (.ref fRG)))
    (iRG : PySem.W.isFn K (.ref fRG) = true)
    (lRG : K.lookup fRG = some ⟨ocRG, odRG, .func (PySem.W.fnOf "get" "Receiver.get" (defArgs sRG) (defBody sRG) (defScope sRG) .none kVRG dcRG pmRG anRG cdRG ctRG), slRG⟩)
    (cRG : PySem.W.codeIn K cdRG "Receiver.get" = true)
    (kRG : PySem.W.keepIn K (.ref fRG) = true)
    (aJI : PySem.W.findIn K (.ref cJ) "__init__" = some (some (.ref fJI)))
    (iJI : PySem.W.isFn K (.ref fJI) = true)
    (lJI : K.lookup fJI = some ⟨ocJI, odJI, .func (PySem.W.fnOf "__init__" "Journal.__init__" (defArgs sJI) (defBody sJI) (defScope sJI) .none kVJI dcJI pmJI anJI cdJI ctJI), slJI⟩)
    (cJI : PySem.W.codeIn K cdJI "Journal.__init__" = true)
    (kJI : PySem.W.keepIn K (.ref fJI) = true)
    (aJW : PySem.W.findIn K (.ref cJ) "write" = some (some (.ref fJW)))
    (iJW : PySem.W.isFn K (.ref fJW) = true)
    (lJW : K.lookup fJW = some ⟨ocJW, odJW, .func (PySem.W.fnOf "write" "Journal.write" (defArgs sJW) (defBody sJW) (defScope sJW) .none kVJW dcJW pmJW anJW cdJW ctJW), slJW⟩)
    (cJW : PySem.W.codeIn K cdJW "Journal.write" = true)
    (kJW : PySem.W.keepIn K (.ref fJW) = true)
    (aJS : PySem.W.findIn K (.ref cJ) "settle" = some (some (.ref fJS)))
    (iJS : PySem.W.isFn K (.ref fJS) = true)
    (lJS : K.lookup fJS = some ⟨ocJS, odJS, .func (PySem.W.fnOf "settle" "Journal.settle" (defArgs sJS) (defBody sJS) (defScope sJS) .none kVJS dcJS pmJS anJS cdJS ctJS), slJS⟩)
    (cJS : PySem.W.codeIn K cdJS "Journal.settle" = true)
    (kJS : PySem.W.keepIn K (.ref fJS) = true)
    (aJF : PySem.W.findIn K (.ref cJ) "fallen" = some (some (.ref fJF)))
    (iJF : PySem.W.isFn K (.ref fJF) = true)
    (lJF : K.lookup fJF = some ⟨ocJF, odJF, .func (PySem.W.fnOf "fallen" "Journal.fallen" (defArgs sJF) (defBody sJF) (defScope sJF) .none kVJF dcJF pmJF anJF cdJF ctJF), slJF⟩)
    (cJF : PySem.W.codeIn K cdJF "Journal.fallen" = true)
    (kJF : PySem.W.keepIn K (.ref fJF) = true)
    (aJL : PySem.W.findIn K (.ref cJ) "letters" = some (some (.ref fJL)))
    (iJL : PySem.W.isFn K (.ref fJL) = true)
    (lJL : K.lookup fJL = some ⟨ocJL, odJL, .func (PySem.W.fnOf "letters" "Journal.letters" (defArgs sJL) (defBody sJL) (defScope sJL) .none kVJL dcJL pmJL anJL cdJL ctJL), slJL⟩)
    (cJL : PySem.W.codeIn K cdJL "Journal.letters" = true)
    (kJL : PySem.W.keepIn K (.ref fJL) = true)
    (z_isinstance : PySem.W.nsIn K mainGlobals "isinstance" = some none)
    (z_int : PySem.W.nsIn K mainGlobals "int" = some none)
    (z_bool : PySem.W.nsIn K mainGlobals "bool" = some none)
    (z_str : PySem.W.nsIn K mainGlobals "str" = some none)
    (z_tuple : PySem.W.nsIn K mainGlobals "tuple" = some none)
    (z_len : PySem.W.nsIn K mainGlobals "len" = some none)
    (z_all : PySem.W.nsIn K mainGlobals "all" = some none)
    (z_any : PySem.W.nsIn K mainGlobals "any" = some none)
    (z_dict : PySem.W.nsIn K mainGlobals "dict" = some none)
    (z_max : PySem.W.nsIn K mainGlobals "max" = some none)
    (z_enumerate : PySem.W.nsIn K mainGlobals "enumerate" = some none)
    (z_sorted : PySem.W.nsIn K mainGlobals "sorted" = some none)
    (z_range : PySem.W.nsIn K mainGlobals "range" = some none)
    (z_abs : PySem.W.nsIn K mainGlobals "abs" = some none)
    (zLET : PySem.W.nsIn K mainGlobals "LETTERS" = some (some (.str "abcdefghijklmnopqrstuvwxyz" tLET)))
    (zFIG : PySem.W.nsIn K mainGlobals "FIGURES" = some (some (.str "0123456789" tFIG)))
    (zMN : PySem.W.nsIn K mainGlobals "MOST_NAMES" = some (some (.int 4 tMN)))
    (zMW : PySem.W.nsIn K mainGlobals "MOST_WORDS" = some (some (.int 6 tMW)))
    (zKI : PySem.W.nsIn K mainGlobals "KINDS" = some (some (.ref aK)))
    (lKI : K.lookup aK = some ⟨.type "tuple", dKI, .seq #[.str "change" tK1, .str "letter" tK2] nKI, slKI⟩) :
    ∃ (A : Ads) (fd : FuncData), Tx K mg A ∧ Fun K "law" "law" sLaw fa fd ∧ ∀ (s : Shared) (v : Value), BindsTo s fd ⟨[v], []⟩ [("_law_script", v)] := by
  have e := hfa.symm.trans (PySem.W.mg_of X G aLaw)
  cases e
  have FWhole := fun_mk (st := sWhole) lWhole cWhole kWhole
  have FName := fun_mk (st := sName) lName cName kName
  have FChk := fun_mk (st := sChk) lChk cChk kChk
  have FNof := fun_mk (st := sNof) lNof cNof kNof
  have FIsE := fun_mk (st := sIsE) lIsE cIsE kIsE
  have FLin := fun_mk (st := sLin) lLin cLin kLin
  have FEby := fun_mk (st := sEby) lEby cEby kEby
  have FEin := fun_mk (st := sEin) lEin cEin kEin
  have FNum := fun_mk (st := sNum) lNum cNum kNum
  have FTak := fun_mk (st := sTak) lTak cTak kTak
  have FPik := fun_mk (st := sPik) lPik cPik kPik
  have FRel := fun_mk (st := sRel) lRel cRel kRel
  have FRit := fun_mk (st := sRit) lRit cRit kRit
  have FLaw := fun_mk (st := sLaw) lLaw cLaw kLaw
  have FPI := fun_mk (st := sPI) lPI cPI kPI
  have FPW := fun_mk (st := sPW) lPW cPW kPW
  have FPH := fun_mk (st := sPH) lPH cPH kPH
  have FRI := fun_mk (st := sRI) lRI cRI kRI
  have FRG := fun_mk (st := sRG) lRG cRG kRG
  have FJI := fun_mk (st := sJI) lJI cJI kJI
  have FJW := fun_mk (st := sJW) lJW cJW kJW
  have FJS := fun_mk (st := sJS) lJS cJS kJS
  have FJF := fun_mk (st := sJF) lJF cJF kJF
  have FJL := fun_mk (st := sJL) lJL cJL kJL
  have bad : BadC K cB fB := ⟨bq, bover, bsa, bnoE, bhd, bexC, bexE, btyC, bkC, bga, bgg, biC, btI, bsup, bmro, bopq, bnsup, ⟨_, _, _, _, _, _, _, _, _, _, _, _, _, _, _, _, _, _, _, blk, bcd, blkc, bvs, bfile, blcc⟩⟩
  exact ⟨⟨cB, fB, cP, cR, cJ, aK, fWhole, _, fName, _, fChk, _, fNof, _, fIsE, _, fLin, _, fEby, _, fEin, _, fNum, _, fTak, _, fPik, _, fRel, _, fRit, _, fPI, _, fPW, _, fPH, _, fRI, _, fRG, _, fJI, _, fJW, _, fJS, _, fJF, _, fJL, _⟩, _, { bad := bad, bx := exm_own bexC biB btyC bsB, gB := PySem.W.mg_of X G aB, clP := ⟨pgP, hdP, poP, saP⟩, mkP := ⟨mkP, aPI, iPI, kcP⟩, gP := PySem.W.mg_of X G aP, nPjournal := nPjournal, nPheard := nPheard, clR := ⟨pgR, hdR, poR, saR⟩, mkR := ⟨mkR, aRI, iRI, kcR⟩, gR := PySem.W.mg_of X G aR, nRtaken := nRtaken, nRearly := nRearly, clJ := ⟨pgJ, hdJ, poJ, saJ⟩, mkJ := ⟨mkJ, aJI, iJI, kcJ⟩, gJ := PySem.W.mg_of X G aJ, nJrelations := nJrelations, nJentries := nJentries, nJtext := nJtext, nJloose := nJloose, nJsettled := nJsettled, gWhole := PySem.W.mg_of X G aWhole, FWhole := FWhole, gName := PySem.W.mg_of X G aName, FName := FName, gChk := PySem.W.mg_of X G aChk, FChk := FChk, gNof := PySem.W.mg_of X G aNof, FNof := FNof, gIsE := PySem.W.mg_of X G aIsE, FIsE := FIsE, gLin := PySem.W.mg_of X G aLin, FLin := FLin, gEby := PySem.W.mg_of X G aEby, FEby := FEby, gEin := PySem.W.mg_of X G aEin, FEin := FEin, gNum := PySem.W.mg_of X G aNum, FNum := FNum, gTak := PySem.W.mg_of X G aTak, FTak := FTak, gPik := PySem.W.mg_of X G aPik, FPik := FPik, gRel := PySem.W.mg_of X G aRel, FRel := FRel, gRit := PySem.W.mg_of X G aRit, FRit := FRit, FPI := FPI, FPW := FPW, mPW := ⟨aPW, iPW, kPW⟩, FPH := FPH, mPH := ⟨aPH, iPH, kPH⟩, FRI := FRI, FRG := FRG, mRG := ⟨aRG, iRG, kRG⟩, FJI := FJI, FJW := FJW, mJW := ⟨aJW, iJW, kJW⟩, FJS := FJS, mJS := ⟨aJS, iJS, kJS⟩, FJF := FJF, mJF := ⟨aJF, iJF, kJF⟩, FJL := FJL, mJL := ⟨aJL, iJL, kJL⟩, b_isinstance := PySem.W.mg_none_of X G z_isinstance, b_int := PySem.W.mg_none_of X G z_int, b_bool := PySem.W.mg_none_of X G z_bool, b_str := PySem.W.mg_none_of X G z_str, b_tuple := PySem.W.mg_none_of X G z_tuple, b_len := PySem.W.mg_none_of X G z_len, b_all := PySem.W.mg_none_of X G z_all, b_any := PySem.W.mg_none_of X G z_any, b_dict := PySem.W.mg_none_of X G z_dict, b_max := PySem.W.mg_none_of X G z_max, b_enumerate := PySem.W.mg_none_of X G z_enumerate, b_sorted := PySem.W.mg_none_of X G z_sorted, b_range := PySem.W.mg_none_of X G z_range, b_abs := PySem.W.mg_none_of X G z_abs, b_super := PySem.W.mg_none_of X G bnsup, gLET := ⟨_, PySem.W.mg_of X G zLET⟩, gFIG := ⟨_, PySem.W.mg_of X G zFIG⟩, gMN := ⟨_, PySem.W.mg_of X G zMN⟩, gMW := ⟨_, PySem.W.mg_of X G zMW⟩, gKI := PySem.W.mg_of X G zKI, kin := ⟨_, _, _, _, lKI, rfl, rfl⟩ }, FLaw, fun s v => .of_eq rfl⟩
end K58
/-! is_whole, is_name, check_relations. -/
namespace K58
open PySem L2 PyProof.Rows
section
variable {P : Program} {w : World} {K : PySem.W.Frag} {mg : Str → Option Value} {base : Heap} {A : Ads}
def spWhole : Sp := fun vs H Q _ => ∃ (x : V) (lo hi : Int), vs = [x, .int lo, .int hi] ∧ ((∃ i : Int, x = .int i ∧ Q (.bl (decide (lo ≤ i ∧ i ≤ hi))) H) ∨ (∃ b, x = .bl b ∧ Q (.bl false) H))
theorem scWhole : FnScope ["thing", "low", "high"] ["thing", "low", "high"] (defScope sWhole) := ⟨rfl, rfl, rfl, by decide +kernel, rfl, by decide +kernel, by decide +kernel⟩
theorem ok_whole (T : Tx K mg A) : FnOk P w K mg base CX0 1 A.fWhole A.dWhole ["thing", "low", "high"] spWhole := by
  refine T.FWhole.ok scWhole (fun vs H Q E h => ?_) (fun cdv B outer s H vs Q E hr h => ?_)
  · obtain ⟨x, lo, hi, rfl, _⟩ := h
    rfl
  · obtain ⟨x, lo, hi, rfl, h⟩ := h
    refine ⟨_, pss_one (ps_ret (pe_and (pe_callB call_isi (by rfl) T.b_isinstance (by decide +kernel) (pa_cons (pv 0) (pa_cons (pe_bltn (v := .ty "int") (by rfl) T.b_int boot_int rfl) pa_nil)))
      (pe_and (pe_not (pe_callB call_isi (by rfl) T.b_isinstance (by decide +kernel) (pa_cons (pv 0) (pa_cons (pe_bltn (v := .ty "bool") (by rfl) T.b_bool boot_bool rfl) pa_nil))))
      (pe_one (pe_chain op_le op_le (pv 1) (pv 0) (pv 2)))))), ?_⟩
    rcases h with ⟨i, rfl, k⟩ | ⟨b, rfl, k⟩
    · refine ⟨_, rfl, _, _, _, _, _, rfl, .ty "int", .base (.int i), kit_ty (by decide +kernel), _, rfl, iteT ?_⟩
      refine ⟨_, rfl, _, _, _, _, false, rfl, .ty "bool", .base (.int i), kit_ty (by decide +kernel), _, rfl, _, rfl, iteT ?_⟩
      refine ⟨_, rfl, _, rfl, _, _, rfl, rfl, _, rfl, ?_⟩
      by_cases h1 : lo ≤ i
      · rw [decide_eq_true h1]
        refine iteT ⟨_, rfl, _, _, rfl, rfl, ?_⟩
        have e : decide (lo ≤ i ∧ i ≤ hi) = decide (i ≤ hi) := by simp [h1]
        rw [e] at k
        exact k
      · rw [decide_eq_false h1]
        refine iteF ?_
        have e : decide (lo ≤ i ∧ i ≤ hi) = false := by simp [h1]
        rw [e] at k
        exact k
    · refine ⟨_, rfl, _, _, _, _, _, rfl, .ty "int", .base (.bl b), kit_ty (by decide +kernel), _, rfl, iteT ?_⟩
      refine ⟨_, rfl, _, _, _, _, true, rfl, .ty "bool", .base (.bl b), kit_ty (by decide +kernel), _, rfl, _, rfl, iteF ?_⟩
      exact k
/-! ### is_name -/
def letS : Str := "abcdefghijklmnopqrstuvwxyz"
def figS : Str := "0123456789"
theorem in_let {c : Nat} (h : 97 ≤ c ∧ c ≤ 122) : c ∈ letS.cps.toList := by
  have e : letS.cps.toList = List.range' 97 26 := by decide +kernel
  rw [e, List.mem_range'_1]
  omega
theorem in_fig {c : Nat} (h : 48 ≤ c ∧ c ≤ 57) : c ∈ figS.cps.toList := by
  have e : figS.cps.toList = List.range' 48 10 := by decide +kernel
  rw [e, List.mem_range'_1]
  omega
theorem tl_get {z : Str} {i c : Nat} (h : z.cps[i]? = some c) : c ∈ TL.tl z := by
  have e : (TL.tl z)[i]? = some c := by
    show z.cps.toList[i]? = some c
    rw [Array.getElem?_toList, h]
  exact List.mem_of_getElem? e
def spName : Sp := fun vs H Q _ => ∃ z : Str, vs = [.str z] ∧ NameOk z ∧ ∀ H', Same H H' → Q (.bl true) H'
theorem scName : FnScope ["thing", "sign"] ["thing"] (defScope sName) := ⟨rfl, rfl, rfl, by decide +kernel, rfl, by decide +kernel, by decide +kernel⟩
theorem ok_isname (T : Tx K mg A) : FnOk P w K mg base CX0 1 A.fName A.dName ["thing"] spName := by
  obtain ⟨t1, gL⟩ := T.gLET
  obtain ⟨t2, gF⟩ := T.gFIG
  refine T.FName.ok scName (fun vs H Q E h => ?_) (fun cdv B outer s H vs Q E hr h => ?_)
  · obtain ⟨z, rfl, _⟩ := h
    rfl
  · obtain ⟨z, rfl, ok, k⟩ := h
    obtain ⟨c0, r0, e0, h0, h1⟩ := ok.head
    have hz : z.length ≤ sizeLine := Nat.le_trans ok.le (by decide)
    refine ⟨_, pss_cons (ps_if (PW.pt (pw_or (pt_not (pt_val (pe_callB call_isi (by rfl) T.b_isinstance (by decide +kernel) (pa_cons (pv 0) (pa_cons (pe_bltn (v := .ty "str") (by rfl) T.b_str boot_str rfl) pa_nil)))))
        (pw_or (pt_not (pt_chain op_le op_le pe_int (pe_callB call_len_str (by rfl) T.b_len PySem.boot_len (pa_cons (pv 0) pa_nil)) pe_int))
        (pw_or1 (pt_cmpR op_notIn_sign (pe_item_str (pv 0) pe_int (fun _ _ => rfl)) (pe_glob (v := .str letS) rfl gL ⟨_, rfl⟩) rfl)))))
        (pss_one (ps_ret pe_bl)) pss_nil)
      (pss_one (ps_ret (pe_callB (cr_all rfl) (by rfl) T.b_all (by decide +kernel) (pa_cons
        (pe_lc (own := [("sign", 1)]) (g := gName 1) (tt := tYes) rfl scName.nd (pi_str (pv 0)) (blkOk_by (N := ["thing", "sign"]) (sc := defScope sName) (by decide +kernel)) (fun _ _ _ _ _ => pg_name (i := 1) scName.nd rfl (Or.inl rfl)) (fun _ _ _ _ _ => pts_nil)
          (fun _ _ _ _ _ => pe_or (pe_cmpR op_in_sign (pv 1) (pe_glob (v := .str letS) rfl gL ⟨_, rfl⟩) rfl) (pe_one (pe_cmpR op_in_sign (pv 1) (pe_glob (v := .str figS) rfl gF ⟨_, rfl⟩) rfl)))) pa_nil)))), ?_⟩
    refine ⟨_, rfl, _, _, _, _, true, rfl, .ty "str", .base (.str z), kit_ty (by decide +kernel), _, rfl, iteF ?_⟩
    have p1 : (1 : Int) ≤ ((z.length : Nat) : Int) := by have := ok.pos; omega
    have p8 : ((z.length : Nat) : Int) ≤ 8 := by have := ok.le; omega
    have g0 : z.cps[0]? = some c0 := by
      have q : (TL.tl z)[0]? = some c0 := by rw [e0]; rfl
      have q' : z.cps.toList[0]? = some c0 := q
      rw [Array.getElem?_toList] at q'
      exact q'
    refine ⟨_, rfl, _, rfl, hz, _, _, rfl, rfl, _, rfl, ?_⟩
    rw [decide_eq_true p1]
    refine iteT ⟨_, _, rfl, rfl, _, rfl, ?_⟩
    rw [decide_eq_true p8]
    refine iteF ⟨_, rfl, z, 0, c0, rfl, rfl, by decide, by decide, (by omega), g0, ?_⟩
    refine ⟨_, _, rfl, rfl, _, rfl, ?_⟩
    rw [decide_eq_true (in_let ⟨h0, h1⟩)]
    refine iteF ?_
    refine ⟨_, rfl, z, rfl, ?_⟩
    refine fun D hD => lc_it (walk_str (z := z)) (fun i H' => H' = upd H D (.lst ((List.replicate i true).map V.bl))) rfl (fun _ _ _ _ => trivial) ?_ ?_
    · rintro i x H1 H2 hi rfl ⟨rfl, c, hc, rfl⟩
      have hlen : i < sizeLine := by
        have : z.cps.size = z.length := rfl
        have h8 := ok.le
        exact Nat.lt_of_lt_of_le (by omega : i < 8) (by decide)
      refine ⟨rfl, ?_⟩
      have fin : (upd (upd H D (.lst ((List.replicate i true).map V.bl))) D (.lst ((List.replicate i true).map V.bl ++ [V.bl true]))) = upd H D (.lst ((List.replicate (i + 1) true).map V.bl)) := by
        rw [upd_upd, List.replicate_succ', List.map_append] <;> rfl
      rcases ok.all c (tl_get hc) with hl | hf
      · refine ⟨_, rfl, _, _, rfl, rfl, _, rfl, ?_⟩
        rw [decide_eq_true (in_let hl)]
        refine iteT ?_
        exact ⟨_, upd_same, by rw [List.length_map, List.length_replicate]; exact hlen, fin⟩
      · refine ⟨_, rfl, _, _, rfl, rfl, _, rfl, ?_⟩
        refine ite2 (fun _ => ?_) (fun _ => ?_)
        · exact ⟨_, upd_same, by rw [List.length_map, List.length_replicate]; exact hlen, fin⟩
        · refine ⟨_, rfl, _, _, rfl, rfl, ?_⟩
          rw [decide_eq_true (in_fig hf)]
          exact ⟨_, upd_same, by rw [List.length_map, List.length_replicate]; exact hlen, fin⟩
    · rintro H1 rfl
      refine ⟨D, List.replicate z.cps.size true, rfl, SqL.of upd_same, ?_⟩
      have e : (List.replicate z.cps.size true).all id = true := by rw [List.all_eq_true]; intro b hb; rw [(List.mem_replicate.mp hb).2] <;> rfl
      rw [e]
      exact k _ fun b o q => by rw [upd_ne (ne_of_none q hD)]; exact q
/-! ### check_relations -/
theorem Frm.unlock {M : List Addr} {H H2 : Hp} {d : Addr} {u : HO} {od : Obj} (hd : H d = some u) (f : Frm M (upd H d (.frz od u)) H2) (nt : ∀ xs, u ≠ .tup xs) (hM : d ∉ M) : Frm M H (upd H2 d u) := by
  have e2 : H2 d = some (.frz od u) := f.keep _ _ upd_same hM
  refine ⟨fun b o e n => ?_, fun b xs e => ?_, fun b e => ?_⟩
  · by_cases hb : b = d
    · rw [hb, upd_same, ← hd, ← hb]
      exact e
    · rw [upd_ne hb]
      exact f.keep _ _ (by rw [upd_ne hb]; exact e) n
  · have hb : b ≠ d := by
      rintro rfl
      rw [hd] at e
      exact nt xs (Option.some.inj e)
    rw [upd_ne hb]
    exact f.tup _ _ (by rw [upd_ne hb]; exact e)
  · have hb : b ≠ d := by
      rintro rfl
      rw [upd_same] at e
      cases e
    rw [upd_ne hb] at e
    have := f.dom _ e
    rw [upd_ne hb] at this
    exact this
theorem ok_of {z : Str} {c : Nat} {r : List Nat} (e : TL.tl z = c :: r) (h : 97 ≤ c ∧ c ≤ 122) (hl : r.length ≤ 7) (ha : ∀ x ∈ c :: r, okC x) : NameOk z := by
  refine ⟨?_, ?_, ⟨c, r, e, h⟩, by rw [e]; exact ha⟩
  · rw [TL.len_tl, e, List.length_cons]; omega
  · rw [TL.len_tl, e, List.length_cons]; omega
theorem ok_works : NameOk "works" := ok_of (c := 119) (r := [111, 114, 107, 115]) (by decide +kernel) (by decide) (by decide) (by unfold okC; decide)
theorem ok_lives : NameOk "lives" := ok_of (c := 108) (r := [105, 118, 101, 115]) (by decide +kernel) (by decide) (by decide) (by unfold okC; decide)
def spChk : Sp := fun vs H Q _ => ∃ d : Addr, vs = [.ref d] ∧ H d = some (.dK relK) ∧ ∀ H', Frm [] H H' → Q .non H'
theorem scChk : FnScope ["relations", "name", "many"] ["relations"] (defScope sChk) := ⟨rfl, rfl, rfl, by decide +kernel, rfl, by decide +kernel, by decide +kernel⟩
theorem ok_chk (T : Tx K mg A) : FnOk P w K mg base CX0 2 A.fChk A.dChk ["relations"] spChk := by
  have GN : FnOk P w K mg base CX0 1 A.fName A.dName ["thing"] spName := ok_isname T
  have GW : FnOk P w K mg base CX0 1 A.fWhole A.dWhole ["thing", "low", "high"] spWhole := ok_whole T
  obtain ⟨t1, gN⟩ := T.gMN
  refine T.FChk.ok scChk (fun vs H Q E h => ?_) (fun cdv B outer s H vs Q E hr h => ?_)
  · obtain ⟨d, rfl, _⟩ := h
    rfl
  · obtain ⟨d, rfl, hd, k⟩ := h
    refine ⟨_, pss_one (ps_lock (ps_for PassesOwn.never rfl (pi_items (pv 0)) (pg_tup rfl (pgs_cons (pg_name (i := 1) scChk.nd rfl (.inl rfl)) (pgs_cons (pg_name (i := 2) scChk.nd rfl (.inl rfl)) pgs_nil)))
      (pss_one (ps_if (PW.pt (pw_or (pt_not (pt_val (pe_call GN hr (by rfl) T.gName T.FName.kp (bName T) .nil pass0 (pa_cons (pv 1) pa_nil))))
        (pw_or1 (pt_not (pt_val (pe_call GW hr (by rfl) T.gWhole T.FWhole.kp (bWhole T) .nil pass0 (pa_cons (pv 2) (pa_cons pe_int (pa_cons (pe_glob (v := .int 4) (by rfl) gN ⟨_, rfl⟩) pa_nil)))))))))
        (pss_one ps_never) pss_nil)))), ?_⟩
    refine ⟨d, _, hd, trivial, fun od => ?_⟩
    refine ⟨_, rfl, d, od, relK, rfl, upd_same, ?_⟩
    refine for_it (walk_items (kvs := relK)) (fun i σ H2 => Frm [] (upd H d (.frz od (.dK relK))) H2 ∧ ∃ v1 v2, σ = [some (.ref d), v1, v2]) ⟨Frm.refl _ _, none, none, rfl⟩ (fun i σ H2 _ p => p.1.keep _ _ upd_same (by simp)) ?_ ?_
    · rintro i x σ H1 H2 hi ⟨f, v1, v2, rfl⟩ ⟨Tp, x1, x2, rfl, hT, rfl, hx1, hx2⟩
      refine ⟨Tp, _, rfl, SqT.of upd_same, rfl, _, _, rfl, _, _, rfl, rfl, ?_⟩
      have f2 : Frm [] (upd H d (.frz od (.dK relK))) (upd H1 Tp (.tup [x1, x2])) := f.new hT
      obtain ⟨z, n, rfl, rfl, oz, hn⟩ : ∃ (z : Str) (n : Int), x1 = .str z ∧ x2 = .int n ∧ NameOk z ∧ (1 ≤ n ∧ n ≤ 4) := by
        rcases i with _ | _ | i
        · cases hx1
          cases hx2
          exact ⟨_, _, rfl, rfl, ok_works, by decide⟩
        · cases hx1
          cases hx2
          exact ⟨_, _, rfl, rfl, ok_lives, by decide⟩
        · exact absurd hi (by show ¬ i + 1 + 1 < 2; omega)
      refine ⟨_, rfl, z, rfl, oz, fun H3 s3 => ⟨_, rfl, iteF ?_⟩⟩
      refine ⟨_, rfl, _, 1, 4, rfl, .inl ⟨n, rfl, _, rfl, ?_⟩⟩
      rw [decide_eq_true hn]
      refine iteF ?_
      exact ⟨f2.step (Frm.of_same s3 _), _, _, rfl⟩
    · rintro σ H2 ⟨f, v1, v2, rfl⟩
      exact ⟨f.keep _ _ upd_same (by simp), k _ (Frm.unlock hd f (by intro xs z; cases z) (by simp))⟩
end
end K58
/-! names_of, is_entry, entry_line, entry_by, entries_in: of the lines of letters. -/
namespace K58
open PySem L2 PyProof.Rows
theorem pe_never {X : Cx} {e : Expr} : PE X e (fun _ _ _ => False) := ⟨fun _ _ _ _ _ _ h => h.elim⟩
section
variable {P : Program} {w : World} {K : PySem.W.Frag} {mg : Str → Option Value} {base : Heap} {A : Ads}
/-! ### names_of -/
def spNof : Sp := fun vs H Q _ => ∃ n : Str, vs = [.str n] ∧ NameOk n ∧ ∀ H' v, Frm [] H H' → LT H' v n → Q v H'
theorem scNof : FnScope ["word", "names", "name"] ["word"] (defScope sNof) := ⟨rfl, rfl, rfl, by decide +kernel, rfl, by decide +kernel, by decide +kernel⟩
theorem split_cm {n : Str} (h : NameOk n) : Txt.split n "," = [n] := split_one (h.no ok_44)
theorem ok_nof (T : Tx K mg A) : FnOk P w K mg base CX0 2 A.fNof A.dNof ["word"] spNof := by
  have GN : FnOk P w K mg base CX0 1 A.fName A.dName ["thing"] spName := ok_isname T
  refine T.FNof.ok scNof (fun vs H Q E h => ?_) (fun cdv B outer s H vs Q E hr h => ?_)
  · obtain ⟨n, rfl, _⟩ := h
    rfl
  · obtain ⟨n, rfl, ok, k⟩ := h
    refine ⟨_, pss_cons (ps_set (i := 1) scNof.nd rfl (.inl rfl) (pe_callTy call_tuple_of (by rfl) T.b_tuple (by decide +kernel) (pa_cons (pe_split (pv 0) pe_str) pa_nil)))
      (pss_one (ps_ret (pe_ifExp (pt_val (pe_callB (cr_all rfl) (by rfl) T.b_all (by decide +kernel) (pa_cons
        (pe_lc (own := [("name", 2)]) (g := gName 2) (tt := tYes) rfl scNof.nd (pi_tup (pv 1)) (blkOk_by (N := ["word", "names", "name"]) (sc := defScope sNof) (by decide +kernel)) (fun _ _ _ _ _ => pg_name (i := 2) scNof.nd rfl (Or.inl rfl)) (fun _ _ _ _ _ => pts_nil)
          (fun _ _ _ _ _ => pe_call GN hr (by rfl) T.gName T.FName.kp (bName T) .nil pass0 (pa_cons (pv 2) pa_nil))) pa_nil))) (pv 1) pe_non))), ?_⟩
    have hz : n.length + 2 ≤ sizeLine := Nat.le_trans (Nat.add_le_add_right ok.le 2) (by decide)
    refine ⟨_, rfl, ⟨_, rfl⟩, _, _, rfl, rfl, (by decide +kernel), hz, ?_⟩
    rw [split_cm ok]
    intro l0 hl0
    refine ⟨l0, _, rfl, .inl ⟨SqL.of upd_same, fun t ht => ?_⟩⟩
    have f0 : Frm [] H (upd (upd H l0 (.lst ([n].map V.str))) t (.tup ([n].map V.str))) := ((Frm.refl [] H).new hl0).new ht
    refine ⟨_, rfl, t, rfl, ⟨_, SqT.of upd_same⟩, fun D hD => ?_⟩
    refine lc_tup (K := K) (a := t) (xs := [V.str n]) (fun i H' => Frm [] (upd (upd H l0 (.lst ([n].map V.str))) t (.tup ([n].map V.str))) H' ∧ H' D = some (.lst ((List.replicate i true).map V.bl))) ⟨(Frm.refl [] _).new hD, upd_same⟩
      (fun i H' _ p => .inl (.inl (p.1.tup _ _ upd_same))) ?_ ?_
    · rintro i x H' hi ⟨f, hD'⟩
      obtain ⟨rfl, rfl⟩ : i = 0 ∧ x = V.str n := by
        rcases i with _ | i
        · exact ⟨rfl, (Option.some.inj hi).symm⟩
        · simp at hi
      refine ⟨rfl, ?_⟩
      refine ⟨_, rfl, n, rfl, ok, fun H2 s2 => ⟨_, s2 _ _ hD', by decide, ?_⟩⟩
      exact ⟨(f.step (Frm.of_same s2 _)).lst (.inr hD) (s2 _ _ hD'), upd_same⟩
    · rintro H' ⟨f, hD'⟩
      refine ⟨D, [true], rfl, SqL.of hD', _, rfl, iteT ⟨_, rfl, ?_⟩⟩
      exact k _ _ (f0.step f) ⟨t, rfl, f.tup _ _ upd_same⟩
/-! ### is_entry -/
theorem kinds (T : Tx K mg A) (H : Hp) : SqT K H A.aK [.str "change", .str "letter"] := by
  obtain ⟨ob, n, t1, t2, h1, h2, h3⟩ := T.kin
  exact .inr ⟨ob, _, n, h1, h2, h3, (by show 2 ≤ sizeLine; decide), .cons ⟨_, rfl⟩ (.cons ⟨_, rfl⟩ .nil)⟩
def spIsE : Sp := fun vs H Q _ => ∃ (r v : V) (e : Ent), vs = [r, v] ∧ ET H v e ∧ EntOk e ∧ ∀ H', Frm [] H H' → Q (.bl true) H'
theorem scIsE : FnScope ["relations", "thing", "name"] ["relations", "thing"] (defScope sIsE) := ⟨rfl, rfl, rfl, by decide +kernel, rfl, by decide +kernel, by decide +kernel⟩
theorem ok_ise (T : Tx K mg A) : FnOk P w K mg base CX0 2 A.fIsE A.dIsE ["relations", "thing"] spIsE := by
  have GN : FnOk P w K mg base CX0 1 A.fName A.dName ["thing"] spName := ok_isname T
  have GW : FnOk P w K mg base CX0 1 A.fWhole A.dWhole ["thing", "low", "high"] spWhole := ok_whole T
  obtain ⟨t1, gM⟩ := T.gMW
  refine T.FIsE.ok scIsE (fun vs H Q E h => ?_) (fun cdv B outer s H vs Q E hr h => ?_)
  · obtain ⟨r, v, e, rfl, _⟩ := h
    rfl
  · obtain ⟨r, v, e, rfl, ⟨a, lv, rfl, ha, ⟨b, rfl, hb⟩⟩, ⟨o1, o2⟩, k⟩ := h
    refine ⟨_, pss_cons (ps_if (PW.pt (pw_or (pt_not (pt_val (pe_callB call_isi (by rfl) T.b_isinstance (by decide +kernel) (pa_cons (pv 1) (pa_cons (pe_bltn (v := .ty "tuple") (by rfl) T.b_tuple boot_tuple rfl) pa_nil)))))
        (pw_or (pt_cmpR op_lt (pe_callB call_len_seq (by rfl) T.b_len PySem.boot_len (pa_cons (pv 1) pa_nil)) pe_int (nomark _))
        (pw_or (pt_not (pt_val (pe_callB call_isi (by rfl) T.b_isinstance (by decide +kernel) (pa_cons (pe_ix ix_tup (pv 1) pe_int (fun _ _ => rfl)) (pa_cons (pe_bltn (v := .ty "str") (by rfl) T.b_str boot_str rfl) pa_nil)))))
        (pw_or1 (pt_cmpR op_notIn_seq (pe_ix ix_tup (pv 1) pe_int (fun _ _ => rfl)) (pe_glob (v := .ref A.aK) (by rfl) T.gKI rfl) (by rfl)))))))
        (pss_one (ps_ret pe_bl)) pss_nil)
      (pss_cons (ps_if (pt_cmpR op_eq (pe_ix ix_tup (pv 1) pe_int (fun _ _ => rfl)) pe_str (nomark _)) pss_never pss_nil)
      (pss_cons (ps_if (PW.pt (pw_or (pt_cmpR op_ne (pe_callB call_len_seq (by rfl) T.b_len PySem.boot_len (pa_cons (pv 1) pa_nil)) pe_int (nomark _))
        (pw_or (pt_not (pt_val (pe_call GN hr (by rfl) T.gName T.FName.kp (bName T) .nil pass0 (pa_cons (pe_ix ix_tup (pv 1) pe_int (fun _ _ => rfl)) pa_nil))))
        (pw_or1 (pt_not (pt_val (pe_callB call_isi (by rfl) T.b_isinstance (by decide +kernel) (pa_cons (pe_ix ix_tup (pv 1) pe_int (fun _ _ => rfl)) (pa_cons (pe_bltn (v := .ty "tuple") (by rfl) T.b_tuple boot_tuple rfl) pa_nil)))))))))
        (pss_one (ps_ret pe_bl)) pss_nil)
      (pss_one (ps_ret (pe_and (pe_call GW hr (by rfl) T.gWhole T.FWhole.kp (bWhole T) .nil pass0 (pa_cons (pe_callB call_len_seq (by rfl) T.b_len PySem.boot_len (pa_cons (pe_ix ix_tup (pv 1) pe_int (fun _ _ => rfl)) pa_nil)) (pa_cons pe_int (pa_cons (pe_glob (v := .int 6) (by rfl) gM ⟨_, rfl⟩) pa_nil))))
        (pe_one (pe_callB (cr_all rfl) (by rfl) T.b_all (by decide +kernel) (pa_cons
        (pe_lc (own := [("name", 2)]) (g := gName 2) (tt := tYes) rfl scIsE.nd (pi_tup (pe_ix ix_tup (pv 1) pe_int (fun _ _ => rfl))) (blkOk_by (N := ["relations", "thing", "name"]) (sc := defScope sIsE) (by decide +kernel)) (fun _ _ _ _ _ => pg_name (i := 2) scIsE.nd rfl (Or.inl rfl)) (fun _ _ _ _ _ => pts_nil)
          (fun _ _ _ _ _ => pe_call GN hr (by rfl) T.gName T.FName.kp (bName T) .nil pass0 (pa_cons (pv 2) pa_nil))) pa_nil)))))))), ?_⟩
    refine ⟨_, rfl, _, _, _, _, true, rfl, .ty "tuple", .base (.tup ha), kit_ty (by decide +kernel), _, rfl, iteF ?_⟩
    refine ⟨_, rfl, a, _, rfl, .inr (SqT.of ha), _, _, rfl, rfl, _, rfl, iteF ?_⟩
    refine ⟨_, rfl, a, _, _, _, rfl, rfl, SqT.of ha, rfl, _, _, _, _, true, rfl, .ty "str", .base (.str _), kit_ty (by decide +kernel), _, rfl, iteF ?_⟩
    refine ⟨_, rfl, a, _, _, _, rfl, rfl, SqT.of ha, rfl, A.aK, _, rfl, .inr (kinds T H), rfl, rfl, _, rfl, ?_⟩
    have e1 : inV (.str letterS) [.str "change", .str "letter"] = true := by decide +kernel
    rw [show inV (V.str letterS) [V.str "change", V.str "letter"] = true from e1]
    refine iteF ?_
    refine ⟨_, rfl, a, _, _, _, rfl, rfl, SqT.of ha, rfl, rfl, _, rfl, ?_⟩
    refine ite2 (fun z => absurd (of_decide_eq_true z) (by decide +kernel)) (fun _ => ?_)
    refine ⟨_, rfl, a, _, rfl, .inr (SqT.of ha), rfl, _, rfl, iteF ?_⟩
    refine ⟨_, rfl, a, _, _, _, rfl, rfl, SqT.of ha, rfl, e.1, rfl, o1, fun H1 s1 => ⟨_, rfl, iteF ?_⟩⟩
    have ha1 := s1 _ _ ha
    have hb1 := s1 _ _ hb
    refine ⟨_, rfl, a, _, _, _, rfl, rfl, SqT.of ha1, rfl, _, _, _, _, true, rfl, .ty "tuple", .base (.tup hb1), kit_ty (by decide +kernel), _, rfl, iteF ?_⟩
    refine ⟨_, rfl, a, _, _, _, rfl, rfl, SqT.of ha1, rfl, b, _, rfl, .inr (SqT.of hb1), _, 1, 6, rfl, .inl ⟨1, rfl, ?_⟩⟩
    refine ⟨_, rfl, iteT ?_⟩
    refine ⟨_, rfl, a, _, _, _, rfl, rfl, SqT.of ha1, rfl, b, rfl, ⟨_, SqT.of hb1⟩, fun D hD => ?_⟩
    refine lc_tup (K := K) (a := b) (xs := [V.str e.2]) (fun i H' => Frm [] H1 H' ∧ H' D = some (.lst ((List.replicate i true).map V.bl))) ⟨(Frm.refl [] _).new hD, upd_same⟩
      (fun i H' _ p => .inl (.inl (p.1.tup _ _ hb1))) ?_ ?_
    · rintro i x H' hi ⟨f, hD'⟩
      obtain ⟨rfl, rfl⟩ : i = 0 ∧ x = V.str e.2 := by
        rcases i with _ | i
        · exact ⟨rfl, (Option.some.inj hi).symm⟩
        · simp at hi
      refine ⟨rfl, ?_⟩
      refine ⟨_, rfl, e.2, rfl, o2, fun H2 s2 => ⟨_, s2 _ _ hD', by decide, ?_⟩⟩
      exact ⟨(f.step (Frm.of_same s2 _)).lst (.inr hD) (s2 _ _ hD'), upd_same⟩
    · rintro H' ⟨f, hD'⟩
      refine ⟨D, [true], rfl, SqL.of hD', ?_⟩
      exact k _ ((Frm.of_same s1 _).step f)
/-! ### entry_line -/
def spLin : Sp := fun vs H Q _ => ∃ (j : Nat) (v : V) (e : Ent), vs = [.int (j : Int), v] ∧ j < 1000000 ∧ ET H v e ∧ EntOk e ∧ ∀ H', Frm [] H H' → Q (.str (lineS j e.1 e.2)) H'
theorem scLin : FnScope ["number", "entry", "words"] ["number", "entry"] (defScope sLin) := ⟨rfl, rfl, rfl, by decide +kernel, rfl, by decide +kernel, by decide +kernel⟩
theorem log_small {j : Nat} (h : j < 1000000) : ((j : Int)).natAbs.log2 < 1920 := by
  have h1 : ((j : Int)).natAbs = j := Int.natAbs_natCast j
  rw [h1]
  rcases Nat.eq_zero_or_pos j with rfl | hp
  · decide
  · exact (Nat.log2_lt (Nat.ne_of_gt hp)).mpr (Nat.lt_of_lt_of_le (Nat.lt_trans h (by decide : 1000000 < 2 ^ 64)) (Nat.pow_le_pow_right (by decide) (by decide)))
theorem numS_len {j : Nat} (h : j < 1000000) : (numS j).length ≤ 6 := by
  rw [TL.len_tl, tl_numS]
  exact TL.numL_len (by decide) h
theorem ok_lin (T : Tx K mg A) : FnOk P w K mg base CX0 1 A.fLin A.dLin ["number", "entry"] spLin := by
  refine T.FLin.ok scLin (fun vs H Q E h => ?_) (fun cdv B outer s H vs Q E hr h => ?_)
  · obtain ⟨j, v, e, rfl, _⟩ := h
    rfl
  · obtain ⟨j, v, e, rfl, hj, ⟨a, lv, rfl, ha, ⟨b, rfl, hb⟩⟩, ⟨o1, o2⟩, k⟩ := h
    refine ⟨_, pss_cons (ps_set (i := 2) scLin.nd rfl (.inl rfl) (pe_ifExp (pt_cmpR op_eq (pe_ix ix_tup (pv 1) pe_int (fun _ _ => rfl)) pe_str (nomark _)) pe_never
        (pe_lst (pa_cons (pe_ix ix_tup (pv 1) pe_int (fun _ _ => rfl)) (pa_cons (pe_join pe_str (pe_ix ix_tup (pv 1) pe_int (fun _ _ => rfl))) pa_nil)))))
      (pss_one (ps_ret (pe_join pe_str (pe_op op_cat (pe_op op_cat
        (pe_lst (pa_cons (pe_callTy call_str_int (by rfl) T.b_str (by decide +kernel) (pa_cons (pv 0) pa_nil)) (pa_cons (pe_ix ix_tup (pv 1) pe_int (fun _ _ => rfl)) pa_nil))) (pv 2))
        (pe_lst (pa_cons (pe_callTy call_str_int (by rfl) T.b_str (by decide +kernel) (pa_cons (pv 0) pa_nil)) pa_nil)))))), ?_⟩
    refine ⟨_, rfl, a, _, _, _, rfl, rfl, SqT.of ha, rfl, rfl, _, rfl, ?_⟩
    refine ite2 (fun z => absurd (of_decide_eq_true z) (by decide +kernel)) (fun _ => ?_)
    refine ⟨_, rfl, a, _, _, _, rfl, rfl, SqT.of ha, rfl, ⟨_, rfl⟩, _, rfl, a, _, _, _, rfl, rfl, SqT.of ha, rfl, _, b, [e.2], rfl, rfl, .inr (SqT.of hb), ?_, ?_⟩
    · have := o2.le
      simp only [List.map_cons, List.map_nil, List.sum_cons, List.sum_nil, List.length_cons, List.length_nil]
      have h1 : (Str.ofString ",").length = 1 := by decide +kernel
      omega
    rw [join_one]
    refine ⟨by show 2 ≤ sizeLine; decide, fun l hl => ?_⟩
    have f1 : Frm [] H (upd H l (.lst [.str e.1, .str e.2])) := (Frm.refl [] H).new hl
    have ha1 := f1.tup _ _ ha
    refine ⟨⟨_, rfl⟩, _, rfl, _, rfl, log_small hj, _, rfl, a, _, _, _, rfl, rfl, SqT.of ha1, rfl, by show 2 ≤ sizeLine; decide, fun l2 hl2 => ?_⟩
    have hl1 : (upd (upd H l (.lst [.str e.1, .str e.2])) l2 (.lst [.str (toString (j : Int)), .str letterS])) l = some (.lst [.str e.1, .str e.2]) := by
      rw [upd_ne (ne_of_none (upd_same (H := H) (a := l) (o := .lst [.str e.1, .str e.2])) hl2)]
      exact upd_same
    refine ⟨_, rfl, l2, l, _, _, rfl, rfl, upd_same, hl1, by show 4 ≤ sizeLine; decide, fun l3 hl3 => ?_⟩
    refine ⟨_, rfl, _, rfl, log_small hj, by show 1 ≤ sizeLine; decide, fun l4 hl4 => ?_⟩
    refine ⟨l3, l4, _, _, rfl, rfl, (upd_ne (ne_of_none upd_same hl4)).trans upd_same, upd_same, by show 5 ≤ sizeLine; decide, fun l5 hl5 => ?_⟩
    refine ⟨_, l5, wordsOf j e.1 e.2, rfl, rfl, .inl (SqL.of upd_same), ?_, ?_⟩
    · have h1 := o1.le
      have h2 := o2.le
      have h3 := numS_len hj
      have h4 : letterS.length = 6 := by decide +kernel
      have h5 : (Str.ofString " ").length = 1 := by decide +kernel
      simp only [wordsOf, List.map_cons, List.map_nil, List.sum_cons, List.sum_nil, List.length_cons, List.length_nil]
      omega
    · exact k _ ((((f1.new hl2).new hl3).new hl4).new hl5)
/-! ### entry_by -/
def spEby : Sp := fun vs H Q _ => ∃ (r : V) (j : Nat) (e : Ent), vs = [r, .int (j : Int), .str (lineS j e.1 e.2)] ∧ j < 1000000 ∧ EntOk e ∧ ∀ H' v, Frm [] H H' → ET H' v e → Q v H'
theorem scEby : FnScope ["relations", "number", "line", "words", "entry"] ["relations", "number", "line"] (defScope sEby) := ⟨rfl, rfl, rfl, by decide +kernel, rfl, by decide +kernel, by decide +kernel⟩
theorem ok_eby (T : Tx K mg A) : FnOk P w K mg base CX0 3 A.fEby A.dEby ["relations", "number", "line"] spEby := by
  have GN : FnOk P w K mg base CX0 2 A.fNof A.dNof ["word"] spNof := ok_nof T
  have GI : FnOk P w K mg base CX0 2 A.fIsE A.dIsE ["relations", "thing"] spIsE := ok_ise T
  have GL : FnOk P w K mg base CX0 1 A.fLin A.dLin ["number", "entry"] spLin := ok_lin T
  refine T.FEby.ok scEby (fun vs H Q E h => ?_) (fun cdv B outer s H vs Q E hr h => ?_)
  · obtain ⟨r, j, e, rfl, _⟩ := h
    rfl
  · obtain ⟨r, j, e, rfl, hj, ⟨o1, o2⟩, k⟩ := h
    refine ⟨_, pss_cons (ps_set (i := 3) scEby.nd rfl (.inl rfl) (pe_split (pv 2) pe_str))
      (pss_cons (ps_if (PW.pt (pw_or (pt_cmpR op_lt (pe_callB call_len_seq (by rfl) T.b_len PySem.boot_len (pa_cons (pv 3) pa_nil)) pe_int (nomark _))
        (pw_or (pt_cmpR op_ne (pe_ix ix_list (pv 3) pe_int (fun _ _ => rfl)) (pe_callTy call_str_int (by rfl) T.b_str (by decide +kernel) (pa_cons (pv 1) pa_nil)) (nomark _))
        (pw_or1 (pt_cmpR op_ne (pe_ix ix_list (pv 3) (pe_un un_neg pe_int) (fun _ _ => rfl)) (pe_callTy call_str_int (by rfl) T.b_str (by decide +kernel) (pa_cons (pv 1) pa_nil)) (nomark _))))))
        (pss_one (ps_ret pe_non)) pss_nil)
      (pss_cons (ps_if (pt_cmpR op_eq (pe_ix ix_list (pv 3) pe_int (fun _ _ => rfl)) pe_str (nomark _)) pss_never
        (pss_one (ps_set (i := 4) scEby.nd rfl (.inl rfl) (pe_ifExp (pt_cmpR op_eq (pe_callB call_len_seq (by rfl) T.b_len PySem.boot_len (pa_cons (pv 3) pa_nil)) pe_int (nomark _))
          (pe_tup (pa_cons (pe_ix ix_list (pv 3) pe_int (fun _ _ => rfl)) (pa_cons (pe_ix ix_list (pv 3) pe_int (fun _ _ => rfl)) (pa_cons
            (pe_call GN hr (by rfl) T.gNof T.FNof.kp (bNof T) .nil pass0 (pa_cons (pe_ix ix_list (pv 3) pe_int (fun _ _ => rfl)) pa_nil)) pa_nil)))) pe_non))))
      (pss_one (ps_ret (pe_ifExp (PW.pt (pw_and (pt_val (pe_call GI hr (by rfl) T.gIsE T.FIsE.kp (bIsE T) .nil pass0 (pa_cons (pv 0) (pa_cons (pv 4) pa_nil))))
        (pw_and1 (pt_cmpR op_eq (pe_call GL (hr.mono (by decide)) (by rfl) T.gLin T.FLin.kp (bLin T) .nil pass0 (pa_cons (pv 1) (pa_cons (pv 4) pa_nil))) (pv 2) (nomark _))))) (pv 4) pe_non))))), ?_⟩
    have hz : (lineS j e.1 e.2).length + 2 ≤ sizeLine := Nat.le_trans (Nat.add_le_add_right (line_len hj o1 o2) 2) (by decide)
    refine ⟨_, rfl, ⟨_, rfl⟩, _, _, rfl, rfl, (by decide +kernel), hz, ?_⟩
    have es : Txt.split (lineS j e.1 e.2) " " = wordsOf j e.1 e.2 := split_line o1 o2
    rw [es]
    intro l hl
    have hq : SqL K (upd H l (.lst ((wordsOf j e.1 e.2).map V.str))) l ((wordsOf j e.1 e.2).map V.str) := SqL.of upd_same
    refine ⟨_, rfl, l, _, rfl, .inl hq, _, _, rfl, rfl, _, rfl, iteF ?_⟩
    refine ⟨_, rfl, l, _, _, _, rfl, rfl, hq, rfl, _, rfl, _, rfl, log_small hj, rfl, _, rfl, iteNS rfl ?_⟩
    refine ⟨_, rfl, _, rfl, l, _, _, _, rfl, rfl, hq, rfl, _, rfl, _, rfl, log_small hj, rfl, _, rfl, iteNS rfl ?_⟩
    refine ⟨_, rfl, l, _, _, _, rfl, rfl, hq, rfl, rfl, _, rfl, ?_⟩
    refine ite2 (fun z => absurd (of_decide_eq_true z) (by decide +kernel)) (fun _ => ?_)
    refine ⟨_, rfl, l, _, rfl, .inl hq, rfl, _, rfl, iteT ?_⟩
    refine ⟨_, rfl, l, _, _, _, rfl, rfl, hq, rfl, _, rfl, l, _, _, _, rfl, rfl, hq, rfl, _, rfl, l, _, _, _, rfl, rfl, hq, rfl, e.2, rfl, o2, fun H1 v1 f1 l1 => ?_⟩
    refine ⟨by show 3 ≤ sizeLine; decide, fun t ht => ?_⟩
    have f0 : Frm [] H (upd H l (.lst ((wordsOf j e.1 e.2).map V.str))) := (Frm.refl [] H).new hl
    have f2 : Frm [] H1 (upd H1 t (.tup [.str letterS, .str e.1, v1])) := (Frm.refl [] H1).new ht
    have et : ET (upd H1 t (.tup [.str letterS, .str e.1, v1])) (.ref t) e := ⟨t, v1, rfl, upd_same, l1.keep f2⟩
    refine ⟨_, rfl, _, rfl, r, .ref t, e, rfl, et, ⟨o1, o2⟩, fun H3 f3 => ⟨_, rfl, iteT ?_⟩⟩
    refine ⟨_, rfl, _, rfl, j, .ref t, e, rfl, hj, et.keep f3, ⟨o1, o2⟩, fun H4 f4 => ⟨_, rfl, rfl, _, rfl, ?_⟩⟩
    refine ite2 (fun _ => ?_) (fun z => absurd (decide_eq_true rfl) z)
    exact ⟨_, rfl, k _ _ ((((f0.step f1).step f2).step f3).step f4) ((et.keep f3).keep f4)⟩
end
end K58
/-! entries_in: whole lines are read back, a rest without a line feed is left. -/
namespace K58
open PySem L2 PyProof.Rows TL
theorem take_at {α : Type} {l : List α} {i : Nat} {e : α} (h : l[i]? = some e) : l.take (i + 1) = l.take i ++ [e] := by
  rw [List.take_add_one, h] <;> rfl
theorem split_at {α : Type} {l : List α} {i : Nat} {e : α} (h : l[i]? = some e) : l = l.take i ++ e :: l.drop (i + 1) := by
  obtain ⟨hi, rfl⟩ := List.getElem?_eq_some_iff.mp h
  rw [← List.drop_eq_getElem_cons hi, List.take_append_drop]
theorem lines_at {es : List Ent} {i : Nat} {e : Ent} (h : es[i]? = some e) : linesL 0 es = linesL 0 (es.take i) ++ (tl (lineS i e.1 e.2) ++ 10 :: linesL (i + 1) (es.drop (i + 1))) := by
  have hi : i < es.length := (List.getElem?_eq_some_iff.mp h).1
  have e1 := congrArg (linesL 0) (split_at h)
  rw [linesL_append, List.length_take, Nat.min_eq_left (Nat.le_of_lt hi), Nat.zero_add] at e1
  exact e1
theorem lines_next {es : List Ent} {i : Nat} {e : Ent} (h : es[i]? = some e) : (linesL 0 (es.take (i + 1))).length = (linesL 0 (es.take i)).length + (tl (lineS i e.1 e.2)).length + 1 := by
  have hi : i < es.length := (List.getElem?_eq_some_iff.mp h).1
  rw [take_at h, linesL_append, List.length_append, List.length_take, Nat.min_eq_left (Nat.le_of_lt hi), Nat.zero_add]
  show _ + (tl (lineS i e.1 e.2) ++ [10]).length = _
  rw [List.length_append, List.length_singleton, Nat.add_assoc]
section
variable {P : Program} {w : World} {K : PySem.W.Frag} {mg : Str → Option Value} {base : Heap} {A : Ads}
def spEin : Sp := fun vs H Q _ => ∃ (r : V) (x : Str) (es : List Ent) (rest : List Nat), vs = [r, .str x] ∧ tl x = linesL 0 es ++ rest ∧ 10 ∉ rest ∧ (∀ e ∈ es, EntOk e) ∧ es.length ≤ 1000 ∧ x.length ≤ sizeLine ∧
  ∀ H' t l us, Frm [] H H' → H l = none → H' l = some (.lst us) → Paired (ET H') us es → H' t = some (.tup [.ref l, .int ((linesL 0 es).length : Int)]) → Q (.ref t) H'
theorem scEin : FnScope ["relations", "text", "found", "place", "end", "entry"] ["relations", "text"] (defScope sEin) := ⟨rfl, rfl, rfl, by decide +kernel, rfl, by decide +kernel, by decide +kernel⟩
theorem ok_ein (T : Tx K mg A) : FnOk P w K mg base CX0 4 A.fEin A.dEin ["relations", "text"] spEin := by
  have GE : FnOk P w K mg base CX0 3 A.fEby A.dEby ["relations", "number", "line"] spEby := ok_eby T
  refine T.FEin.ok scEin (fun vs H Q E h => ?_) (fun cdv B outer s H vs Q E hr h => ?_)
  · obtain ⟨r, x, es, rest, rfl, _⟩ := h
    rfl
  · obtain ⟨r, x, es, rest, rfl, ex, hrest, ok, hlen, hx, k⟩ := h
    refine ⟨_, pss_cons (ps_par (i := 2) (j := 3) (by rfl) scEin.nd rfl rfl (by decide) rfl rfl (pa_cons (pe_lst pa_nil) (pa_cons pe_int pa_nil)) (by rfl))
      (pss_one (ps_while PassesOwn.never (pt_val pe_bl)
        (pss_cons (ps_set (i := 4) scEin.nd rfl (.inl rfl) (pe_bm PySem.F.plainAttrs_str PySem.F.slot_str_find PySem.F.type_str_find mt_find3 (pv 1) (pa_cons pe_str (pa_cons (pv 3) pa_nil))))
        (pss_cons (ps_set (i := 5) scEin.nd rfl (.inl rfl) (pe_ifExp (pt_cmpR op_ge (pv 4) pe_int (nomark _))
          (pe_call GE hr (by rfl) T.gEby T.FEby.kp (bEby T) .nil pass0 (pa_cons (pv 0) (pa_cons (pe_callB call_len_seq (by rfl) T.b_len PySem.boot_len (pa_cons (pv 2) pa_nil)) (pa_cons (pe_slice sl_str (pv 1) (po_some (pv 3)) (po_some (pv 4))) pa_nil)))) pe_non))
        (pss_cons (ps_if (pt_cmpR op_isN (pv 5) pe_non (nomark _)) (pss_one (ps_ret (pe_tup (pa_cons (pv 2) (pa_cons (pv 3) pa_nil))))) pss_nil)
        (pss_cons (ps_expr (pe_bm PySem.F.plainAttrs_list PySem.F.slot_list_append PySem.F.type_list_append mt_append (pv 2) (pa_cons (pv 5) pa_nil)))
        (pss_one (ps_set (i := 3) scEin.nd rfl (.inl rfl) (pe_op op_add (pv 4) pe_int))))))))), ?_⟩
    refine ⟨Nat.zero_le _, fun l hl => ⟨_, _, rfl, ?_⟩⟩
    refine ⟨fun m σ H1 => ∃ i v4 v5 us, m = es.length - i ∧ i ≤ es.length ∧ σ = [some r, some (.str x), some (.ref l), some (.int ((linesL 0 (es.take i)).length : Int)), v4, v5] ∧ Frm [] H H1 ∧ H1 l = some (.lst us) ∧ Paired (ET H1) us (es.take i),
      ⟨es.length, 0, none, none, [], rfl, Nat.zero_le _, rfl, (Frm.refl [] H).new hl, upd_same, .nil⟩, ?_⟩
    rintro m σ H1 ⟨i, v4, v5, us, rfl, hi, rfl, f, hL, hp⟩
    refine ⟨_, rfl, iteT ⟨fun σ' H' => ∃ m', m' < es.length - i ∧ ∃ i v4 v5 us, m' = es.length - i ∧ i ≤ es.length ∧ σ' = [some r, some (.str x), some (.ref l), some (.int ((linesL 0 (es.take i)).length : Int)), v4, v5] ∧ Frm [] H H' ∧ H' l = some (.lst us) ∧ Paired (ET H') us (es.take i), fun _ _ z => z, ?_⟩⟩
    refine ⟨_, rfl, rfl, _, rfl, x, nl, _, rfl, rfl, ?_⟩
    by_cases hlt : i < es.length
    · obtain ⟨e, he⟩ : ∃ e, es[i]? = some e := ⟨es[i], List.getElem?_eq_getElem hlt⟩
      have oe := ok e (List.mem_of_getElem? he)
      have ex2 : tl x = linesL 0 (es.take i) ++ (tl (lineS i e.1 e.2) ++ 10 :: (linesL (i + 1) (es.drop (i + 1)) ++ rest)) := by
        rw [ex, lines_at he]
        simp
      have hul : us.length = i := by rw [hp.length, List.length_take, Nat.min_eq_left hi]
      rw [find_at ex2 (line_no_nl oe.1 oe.2)]
      refine ⟨_, rfl, _, _, rfl, rfl, _, rfl, ?_⟩
      refine ite2 (fun _ => ?_) (fun z => absurd (decide_eq_true (Int.natCast_nonneg _)) z)
      refine ⟨_, rfl, _, rfl, l, _, rfl, .inl (SqL.of hL), _, rfl, _, rfl, _, rfl, _, rfl, _, rfl, x, rfl, hx, ?_⟩
      have ec : cutS x (some ((linesL 0 (es.take i)).length : Int)) (some (((linesL 0 (es.take i)).length + (tl (lineS i e.1 e.2)).length : Nat) : Int)) = lineS i e.1 e.2 := cut_mid (by rw [ex2]) rfl
      rw [ec, hul]
      refine ⟨r, i, e, rfl, by omega, oe, fun H2 v f2 et => ?_⟩
      have hL2 := f2.keep _ _ hL (by simp)
      obtain ⟨a, lv, rfl, et2⟩ := id et
      refine ⟨_, rfl, rfl, _, rfl, iteF ?_⟩
      refine ⟨_, rfl, .inl ⟨rfl, _, SqL.of hL2⟩, _, rfl, l, _, _, rfl, rfl, hL2, small1000 (by omega), ?_⟩
      refine ⟨_, rfl, _, _, rfl, rfl, ?_⟩
      have hnum : ((((linesL 0 (es.take i)).length + (tl (lineS i e.1 e.2)).length : Nat) : Int) + 1) = ((linesL 0 (es.take (i + 1))).length : Int) := by
        rw [lines_next he]
        omega
      refine ⟨es.length - (i + 1), by omega, i + 1, some (.int (((linesL 0 (es.take i)).length + (tl (lineS i e.1 e.2)).length : Nat) : Int)), some (.ref a), us ++ [.ref a], rfl, hlt, ?_, ((f.step f2).lst (.inr hl) hL2), upd_same, ?_⟩
      · show [some r, some (V.str x), some (V.ref l), some (V.int ((((linesL 0 (es.take i)).length + (tl (lineS i e.1 e.2)).length : Nat) : Int) + 1)), some (V.int (((linesL 0 (es.take i)).length + (tl (lineS i e.1 e.2)).length : Nat) : Int)), some (V.ref a)] = _
        rw [hnum]
      · rw [take_at he]
        exact pd_append (ets_keep hp ((f2.weak (M := [l]) (by simp)).lst (.inl (by simp)) hL2)) (.cons (et.keep ((Frm.refl [l] H2).lst (.inl (by simp)) hL2)) .nil)
    · have hie : i = es.length := by omega
      subst hie
      rw [List.take_length] at hp ⊢
      rw [find_none ex hrest]
      refine ⟨_, rfl, _, _, rfl, rfl, _, rfl, ?_⟩
      refine iteF ⟨_, rfl, rfl, _, rfl, iteT ⟨_, rfl, _, rfl, by show 2 ≤ sizeLine; decide, fun t ht => ?_⟩⟩
      have f4 : Frm [] H1 (upd H1 t (.tup [.ref l, .int ((linesL 0 es).length : Int)])) := (Frm.refl [] H1).new ht
      exact k _ t l us (f.step f4) hl (f4.keep _ _ hL (by simp)) (ets_keep hp f4) upd_same
end
end K58
/-! The journal: __init__, write, settle, fallen. -/
namespace K58
open PySem L2 PyProof.Rows TL
theorem jf_mk (jr l : Addr) (x y : Str) (k : Nat) : putF "settled" (.int (k : Int)) (putF "loose" (.str y) (putF "text" (.str x) (putF "entries" (.ref l) (putF "relations" (.ref jr) [])))) = jf jr l x y k := by rfl
theorem relK_nd : (relK.map (·.1)).Nodup := by decide +kernel
section
variable {P : Program} {w : World} {K : PySem.W.Frag} {mg : Str → Option Value} {base : Heap} {A : Ads}
def spJI (C : Addr) : Sp := fun vs H Q _ => ∃ (p dx rd : Addr) (x : Str) (es : List Ent) (rest : List Nat), vs = [.ref p, .ref rd, .str x] ∧ H p = some (.ins C dx []) ∧ H rd = some (.dK relK) ∧
  tl x = linesL 0 es ++ rest ∧ 10 ∉ rest ∧ (∀ e ∈ es, entOk e) ∧ es.length ≤ 1000 ∧ x.length ≤ sizeLine ∧
  ∀ H' l jr x', Frm [p] H H' → H l = none → H jr = none → JAt C H' p dx l jr x' "" es es.length → Q .non H'
theorem scJI : FnScope ["self", "relations", "text", "signs"] ["self", "relations", "text"] (defScope sJI) := ⟨rfl, rfl, rfl, by decide +kernel, rfl, by decide +kernel, by decide +kernel⟩
theorem ok_ji (T : Tx K mg A) : FnOk P w K mg base CX0 5 A.fJI A.dJI ["self", "relations", "text"] (spJI A.cJ) := by
  have GC : FnOk P w K mg base CX0 2 A.fChk A.dChk ["relations"] spChk := ok_chk T
  have GE : FnOk P w K mg base CX0 4 A.fEin A.dEin ["relations", "text"] spEin := ok_ein T
  refine T.FJI.ok scJI (fun vs H Q E h => ?_) (fun cdv B outer s H vs Q E hr h => ?_)
  · obtain ⟨p, dx, rd, x, es, rest, rfl, _⟩ := h
    rfl
  · obtain ⟨p, dx, rd, x, es, rest, rfl, hp, hrd, ex, hrest, ok, hlen, hx, k⟩ := h
    refine ⟨_, pss_cons (ps_expr (pe_call GC (hr.mono (by decide)) (by rfl) T.gChk T.FChk.kp (bChk T) .nil pass0 (pa_cons (pv 1) pa_nil)))
      (pss_cons (ps_fld (pv 0) (pe_callTy call_dictD (by rfl) T.b_dict (by decide +kernel) (pa_cons (pv 1) pa_nil)) rfl)
      (pss_cons (ps_asg (pe_call GE hr (by rfl) T.gEin T.FEin.kp (bEin T) .nil pass0 (pa_cons (pv 1) (pa_cons (pv 2) pa_nil))) (pg_tup rfl (pgs_cons (pg_fld (pv 0)) (pgs_cons (pg_name (i := 3) scJI.nd rfl (.inl rfl)) pgs_nil))))
      (pss_cons (ps_fld (pv 0) (pe_slice sl_str (pv 2) po_none (po_some (pv 3))) rfl)
      (pss_cons (ps_fld (pv 0) pe_str rfl)
      (pss_one (ps_fld (pv 0) (pe_callB call_len_seq (by rfl) T.b_len PySem.boot_len (pa_cons (pe_fld (pv 0) rfl) pa_nil)) rfl)))))), ?_⟩
    refine ⟨_, rfl, rd, rfl, hrd, fun H1 f1 => ?_⟩
    have hp1 := f1.keep _ _ hp (by simp)
    have hrd1 := f1.keep _ _ hrd (by simp)
    refine ⟨_, rfl, rd, relK, rfl, .inl hrd1, fun jr hjr => ?_⟩
    have npj : p ≠ jr := ne_of_none hp1 hjr
    refine ⟨_, rfl, p, A.cJ, dx, [], rfl, (by rw [upd_ne npj]; exact hp1), T.clJ, T.nJrelations, (by show 0 < 1000; decide), ?_⟩
    refine ⟨_, rfl, _, rfl, _, x, es, rest, rfl, ex, hrest, fun e he => (ok e he).1, hlen, hx, fun H3 t l us f3 hl hL hus ht => ?_⟩
    have g2 : Frm [p] H (upd (upd H1 jr (.dK relK)) p (.ins A.cJ dx (putF "relations" (.ref jr) []))) :=
      ((f1.weak (M := [p]) (by simp)).new hjr).ins (.inl (by simp)) ((upd_ne npj).trans hp1)
    have g3 := g2.step f3
    have hp3 : H3 p = some (.ins A.cJ dx (putF "relations" (.ref jr) [])) := f3.keep _ _ upd_same (by simp)
    have hj3 : H3 jr = some (.dK relK) := f3.keep _ _ ((upd_ne npj.symm).trans upd_same) (by simp)
    refine ⟨t, _, rfl, SqT.of ht, rfl, _, _, rfl, _, rfl, p, A.cJ, dx, _, rfl, hp3, T.clJ, T.nJentries, (by show 1 < 1000; decide), _, _, rfl, rfl, ?_⟩
    refine ⟨_, rfl, _, rfl, _, rfl, x, rfl, hx, ?_⟩
    refine ⟨_, rfl, p, A.cJ, dx, _, rfl, upd_same, T.clJ, T.nJtext, (by show 2 < 1000; decide), ?_⟩
    refine ⟨_, rfl, p, A.cJ, dx, _, rfl, upd_same, T.clJ, T.nJloose, (by show 3 < 1000; decide), ?_⟩
    rw [upd_upd, upd_upd]
    have nlp : l ≠ p := ne_of hL hp3 (by intro z; cases z)
    refine ⟨_, rfl, p, A.cJ, dx, _, _, rfl, upd_same, T.clJ, T.nJentries, rfl, l, us, rfl, .inl (SqL.of ((upd_ne nlp).trans hL)), ?_⟩
    refine ⟨_, rfl, p, A.cJ, dx, _, rfl, upd_same, T.clJ, T.nJsettled, (by show 4 < 1000; decide), ?_⟩
    rw [upd_upd]
    have hul : us.length = es.length := hus.length
    rw [hul]
    have g4 := (g3.ins (o := .ins A.cJ dx (jf jr l (cutS x none (some ((linesL 0 es).length : Int))) "" es.length)) (.inl (by simp)) hp3)
    have f4 : Frm [p] H3 (upd H3 p (.ins A.cJ dx (jf jr l (cutS x none (some ((linesL 0 es).length : Int))) "" es.length))) := (Frm.refl [p] H3).ins (.inl (by simp)) hp3
    refine k _ l jr (cutS x none (some ((linesL 0 es).length : Int))) g4 (g2.free hl) (f1.free hjr) ⟨upd_same, ?_, ?_, Nat.le_refl _, ⟨us, (upd_ne nlp).trans hL, ets_keep hus f4⟩, (upd_ne npj.symm).trans hj3, ok⟩
    · rw [List.take_length]
      exact cut_pre ex
    · rw [List.drop_length]
      show tl (Str.ofString "") = []
      decide +kernel
/-! ### write -/
def spJW (C : Addr) : Sp := fun vs H Q _ => ∃ (p dx l jr : Addr) (x y : Str) (es : List Ent) (k : Nat) (v : V) (e : Ent), vs = [.ref p, v] ∧ JAt C H p dx l jr x y es k ∧ es.length < 1000 ∧ ET H v e ∧ entOk e ∧
  ∀ H' y', Frm [p, l] H H' → JAt C H' p dx l jr x y' (es ++ [e]) k → Q .non H'
theorem scJW : FnScope ["self", "entry"] ["self", "entry"] (defScope sJW) := ⟨rfl, rfl, rfl, by decide +kernel, rfl, by decide +kernel, by decide +kernel⟩
theorem JAt.cy {C p dx l jr : Addr} {x y : Str} {es : List Ent} {k : Nat} {H : Hp} (J : JAt C H p dx l jr x y es k) (h : es.length ≤ 1000) : y.length ≤ 39000 := by
  have hk := J.le
  have h1 := linesL_len k (es.drop k) (fun e he => (J.ok e (List.mem_of_mem_drop he)).1) (by rw [List.length_drop]; omega)
  rw [TL.len_tl, J.ty]
  rw [List.length_drop] at h1
  omega
theorem ok_jw (T : Tx K mg A) : FnOk P w K mg base CX0 3 A.fJW A.dJW ["self", "entry"] (spJW A.cJ) := by
  have GI : FnOk P w K mg base CX0 2 A.fIsE A.dIsE ["relations", "thing"] spIsE := ok_ise T
  have GL : FnOk P w K mg base CX0 1 A.fLin A.dLin ["number", "entry"] spLin := ok_lin T
  refine T.FJW.ok scJW (fun vs H Q E h => ?_) (fun cdv B outer s H vs Q E hr h => ?_)
  · obtain ⟨p, dx, l, jr, x, y, es, k, v, e, rfl, _⟩ := h
    rfl
  · obtain ⟨p, dx, l, jr, x, y, es, n, v, e, rfl, J, hlen, et, oe, k⟩ := h
    obtain ⟨us, hL, hus⟩ := J.ls
    have npl : l ≠ p := ne_of hL J.ob (by intro z; cases z)
    refine ⟨_, pss_cons (ps_if (pt_not (pt_val (pe_call GI hr (by rfl) T.gIsE T.FIsE.kp (bIsE T) .nil pass0 (pa_cons (pe_fld (pv 0) rfl) (pa_cons (pv 1) pa_nil))))) (pss_one ps_never) pss_nil)
      (pss_cons (ps_fld (pv 0) (pe_op op_add_str (pe_op op_add_str (pe_fld (pv 0) rfl) (pe_call GL (hr.mono (by decide)) (by rfl) T.gLin T.FLin.kp (bLin T) .nil pass0 (pa_cons (pe_callB call_len_seq (by rfl) T.b_len PySem.boot_len (pa_cons (pe_fld (pv 0) rfl) pa_nil)) (pa_cons (pv 1) pa_nil)))) pe_str) rfl)
      (pss_one (ps_expr (pe_bm PySem.F.plainAttrs_list PySem.F.slot_list_append PySem.F.type_list_append mt_append (pe_fld (pv 0) rfl) (pa_cons (pv 1) pa_nil))))), ?_⟩
    refine ⟨_, rfl, p, A.cJ, dx, _, _, rfl, J.ob, T.clJ, T.nJrelations, rfl, _, rfl, .ref jr, v, e, rfl, et, oe.1, fun H1 f1 => ⟨_, rfl, iteF ?_⟩⟩
    have J1 := J.keep f1 (by simp) (by simp) (by simp)
    have hL1 := f1.keep _ _ hL (by simp)
    have ul : us.length = es.length := hus.length
    refine ⟨_, rfl, p, A.cJ, dx, _, _, rfl, J1.ob, T.clJ, T.nJloose, rfl, ?_⟩
    refine ⟨_, rfl, p, A.cJ, dx, _, _, rfl, J1.ob, T.clJ, T.nJentries, rfl, l, us, rfl, .inl (SqL.of hL1), _, rfl, es.length, v, e, by rw [ul] <;> rfl, by omega, et.keep f1, oe.1, fun H2 f2 => ?_⟩
    have J2 := J1.keep f2 (by simp) (by simp) (by simp)
    have hL2 := f2.keep _ _ hL1 (by simp)
    have cy := J.cy (by omega)
    have cl := line_len (i := es.length) (by omega) oe.1.1 oe.1.2
    refine ⟨_, _, rfl, rfl, ?_, _, _, rfl, rfl, ?_, ?_⟩
    · exact Nat.le_trans (by omega : _ ≤ 40000) (by decide)
    · have e1 : (y ++ lineS es.length e.1 e.2).length = y.length + (lineS es.length e.1 e.2).length := by rw [TL.len_tl, tl_append, List.length_append, TL.len_tl, TL.len_tl]
      have e2 : (Str.ofString "\n").length = 1 := by decide +kernel
      rw [e1, e2]
      exact Nat.le_trans (by omega : _ ≤ 40000) (by decide)
    refine ⟨_, rfl, p, A.cJ, dx, _, rfl, J2.ob, T.clJ, T.nJloose, (by show 5 < 1000; decide), ?_⟩
    refine ⟨_, rfl, p, A.cJ, dx, _, _, rfl, upd_same, T.clJ, T.nJentries, rfl, .inl ⟨rfl, us, SqL.of ((upd_ne npl).trans hL2)⟩, _, rfl, l, us, v, rfl, rfl, (upd_ne npl).trans hL2, small1000 (by omega), ?_⟩
    have g : Frm [p, l] H2 (upd (upd H2 p (.ins A.cJ dx (jf jr l x (y ++ lineS es.length e.1 e.2 ++ "\n") n))) l (.lst (us ++ [v]))) :=
      ((Frm.refl [p, l] H2).ins (.inl (by simp)) J2.ob).lst (.inl (by simp)) ((upd_ne npl).trans hL2)
    have g0 : Frm [p, l] H H2 := (f1.step f2).weak (by simp)
    have njl : jr ≠ l := ne_of J.rl hL (by intro z; cases z)
    have njp : jr ≠ p := ne_of J.rl J.ob (by intro z; cases z)
    refine k _ (y ++ lineS es.length e.1 e.2 ++ "\n") (g0.trans g (fun _ h => .inl h)) ⟨(upd_ne npl.symm).trans upd_same, ?_, ?_, ?_, ⟨us ++ [v], upd_same, ?_⟩, ?_, ?_⟩
    · rw [List.take_append_of_le_length J.le]
      exact J.tx
    · have e1 : tl ("\n" : Str) = [10] := by decide +kernel
      rw [tl_append, tl_append, e1, J.ty, List.drop_append_of_le_length J.le, linesL_append, List.length_drop, Nat.add_sub_cancel' J.le, List.append_assoc]
      rfl
    · rw [List.length_append]
      exact Nat.le_trans J.le (Nat.le_add_right _ _)
    · exact ets_keep (pd_append hus (.cons et .nil)) (g0.trans g (fun _ h => .inl h))
    · rw [upd_ne njl, upd_ne njp]
      exact J2.rl
    · intro e' he'
      rcases List.mem_append.mp he' with h | h
      · exact J.ok e' h
      · rw [List.mem_singleton.mp h]
        exact oe
/-! ### settle -/
def spJS (C : Addr) : Sp := fun vs H Q _ => ∃ (p dx l jr : Addr) (x y : Str) (es : List Ent) (k : Nat), vs = [.ref p] ∧ JAt C H p dx l jr x y es k ∧ es.length ≤ 1000 ∧
  ∀ H' x', Frm [p] H H' → JAt C H' p dx l jr x' "" es es.length → Q .non H'
theorem scJS : FnScope ["self"] ["self"] (defScope sJS) := ⟨rfl, rfl, rfl, by decide +kernel, rfl, by decide +kernel, by decide +kernel⟩
theorem ok_js (T : Tx K mg A) : FnOk P w K mg base CX0 1 A.fJS A.dJS ["self"] (spJS A.cJ) := by
  refine T.FJS.ok scJS (fun vs H Q E h => ?_) (fun cdv B outer s H vs Q E hr h => ?_)
  · obtain ⟨p, dx, l, jr, x, y, es, n, rfl, _⟩ := h
    rfl
  · obtain ⟨p, dx, l, jr, x, y, es, n, rfl, J, hlen, k⟩ := h
    obtain ⟨us, hL, hus⟩ := J.ls
    have npl : l ≠ p := ne_of hL J.ob (by intro z; cases z)
    have njp : jr ≠ p := ne_of J.rl J.ob (by intro z; cases z)
    refine ⟨_, pss_cons (ps_fld (pv 0) (pe_op op_add_str (pe_fld (pv 0) rfl) (pe_fld (pv 0) rfl)) rfl)
      (pss_cons (ps_fld (pv 0) pe_str rfl)
      (pss_one (ps_fld (pv 0) (pe_callB call_len_seq (by rfl) T.b_len PySem.boot_len (pa_cons (pe_fld (pv 0) rfl) pa_nil)) rfl))), ?_⟩
    have cx := J.cx hlen
    have cy := J.cy hlen
    refine ⟨_, rfl, p, A.cJ, dx, _, _, rfl, J.ob, T.clJ, T.nJtext, rfl, _, rfl, p, A.cJ, dx, _, _, rfl, J.ob, T.clJ, T.nJloose, rfl, _, _, rfl, rfl, Nat.le_trans (by omega : _ ≤ 80000) (by decide), ?_⟩
    refine ⟨_, rfl, p, A.cJ, dx, _, rfl, J.ob, T.clJ, T.nJtext, (by show 5 < 1000; decide), ?_⟩
    refine ⟨_, rfl, p, A.cJ, dx, _, rfl, upd_same, T.clJ, T.nJloose, (by show 5 < 1000; decide), ?_⟩
    rw [upd_upd]
    refine ⟨_, rfl, p, A.cJ, dx, _, _, rfl, upd_same, T.clJ, T.nJentries, rfl, l, us, rfl, .inl (SqL.of ((upd_ne npl).trans hL)), ?_⟩
    refine ⟨_, rfl, p, A.cJ, dx, _, rfl, upd_same, T.clJ, T.nJsettled, (by show 5 < 1000; decide), ?_⟩
    rw [upd_upd, hus.length]
    have g : Frm [p] H (upd H p (.ins A.cJ dx (jf jr l (x ++ y) "" es.length))) := (Frm.refl [p] H).ins (.inl (by simp)) J.ob
    refine k _ (x ++ y) g ⟨upd_same, ?_, ?_, Nat.le_refl _, ⟨us, (upd_ne npl).trans hL, ets_keep hus g⟩, (upd_ne njp).trans J.rl, J.ok⟩
    · rw [tl_append, J.tx, J.ty, List.take_length]
      have e := linesL_append 0 (es.take n) (es.drop n)
      rw [List.take_append_drop, List.length_take, Nat.min_eq_left J.le, Nat.zero_add] at e
      exact e.symm
    · rw [List.drop_length]
      show tl (Str.ofString "") = []
      decide +kernel
/-! ### fallen -/
def spJF (C : Addr) : Sp := fun vs H Q _ => ∃ (p dx l jr : Addr) (x y : Str) (es : List Ent) (k c : Nat), vs = [.ref p, .int (c : Int)] ∧ JAt C H p dx l jr x y es k ∧ es.length ≤ 1000 ∧ c ≤ y.length ∧
  ∀ z m rest, k ≤ m → m ≤ es.length → tl z = linesL 0 (es.take m) ++ rest → 10 ∉ rest → z.length ≤ 80000 → Q (.str z) H
theorem scJF : FnScope ["self", "cut"] ["self", "cut"] (defScope sJF) := ⟨rfl, rfl, rfl, by decide +kernel, rfl, by decide +kernel, by decide +kernel⟩
theorem ok_jf (T : Tx K mg A) : FnOk P w K mg base CX0 2 A.fJF A.dJF ["self", "cut"] (spJF A.cJ) := by
  have GW : FnOk P w K mg base CX0 1 A.fWhole A.dWhole ["thing", "low", "high"] spWhole := ok_whole T
  refine T.FJF.ok scJF (fun vs H Q E h => ?_) (fun cdv B outer s H vs Q E hr h => ?_)
  · obtain ⟨p, dx, l, jr, x, y, es, n, c, rfl, _⟩ := h
    rfl
  · obtain ⟨p, dx, l, jr, x, y, es, n, c, rfl, J, hlen, hc, k⟩ := h
    have cx := J.cx hlen
    have cy := J.cy hlen
    have hy : y.length ≤ sizeLine := Nat.le_trans cy (by decide)
    refine ⟨_, pss_cons (ps_if (pt_not (pt_val (pe_call GW hr (by rfl) T.gWhole T.FWhole.kp (bWhole T) .nil pass0 (pa_cons (pv 1) (pa_cons pe_int (pa_cons (pe_callB call_len_str (by rfl) T.b_len PySem.boot_len (pa_cons (pe_fld (pv 0) rfl) pa_nil)) pa_nil)))))) (pss_one ps_never) pss_nil)
      (pss_one (ps_ret (pe_op op_add_str (pe_fld (pv 0) rfl) (pe_slice sl_str (pe_fld (pv 0) rfl) po_none (po_some (pv 1)))))), ?_⟩
    refine ⟨_, rfl, _, rfl, p, A.cJ, dx, _, _, rfl, J.ob, T.clJ, T.nJloose, rfl, y, rfl, hy, _, 0, _, rfl, .inl ⟨c, rfl, _, rfl, ?_⟩⟩
    rw [decide_eq_true (⟨by omega, by omega⟩ : (0 : Int) ≤ (c : Int) ∧ (c : Int) ≤ (y.length : Int))]
    refine iteF ?_
    refine ⟨_, rfl, p, A.cJ, dx, _, _, rfl, J.ob, T.clJ, T.nJtext, rfl, _, rfl, p, A.cJ, dx, _, _, rfl, J.ob, T.clJ, T.nJloose, rfl, _, rfl, c, rfl, y, rfl, hy, x, _, rfl, rfl, ?_⟩
    have el : (cutS y none (some (c : Int))).length ≤ y.length := by
      rw [TL.len_tl, cut_take, List.length_take, TL.len_tl]
      omega
    refine ⟨Nat.le_trans (by omega : _ ≤ 78000) (by decide), ?_⟩
    obtain ⟨m, hm, rest, e1, e2⟩ := cut_lines n (es.drop n) (fun e he => (J.ok e (List.mem_of_mem_drop he)).1) c
    rw [List.length_drop] at hm
    have hk := J.le
    refine k _ (n + m) rest (by omega) (by omega) ?_ e2 ?_
    · rw [tl_append, cut_take, J.tx, J.ty, e1, List.take_add, linesL_append, List.length_take, Nat.min_eq_left hk, Nat.zero_add, List.append_assoc]
    · have e3 : (x ++ cutS y none (some (c : Int))).length = x.length + (cutS y none (some (c : Int))).length := by rw [TL.len_tl, tl_append, List.length_append, TL.len_tl, TL.len_tl]
      rw [e3]
      omega
end
end K58
/-! Journal.letters: the dict of the receivers that have settled letters, in order. -/
namespace K58
open PySem L2 PyProof.Rows TL
/-! ### plain: the two receivers -/
theorem recs_cases {ks : List Str} (nd : ks.Nodup) (h : ∀ r ∈ ks, isRec r) : ks = [] ∨ ks = [bobS] ∨ ks = [coraS] ∨ ks = [bobS, coraS] ∨ ks = [coraS, bobS] := by
  match ks, nd, h with
  | [], _, _ => exact .inl rfl
  | [a], _, h =>
    rcases h a (by simp) with rfl | rfl
    · exact .inr (.inl rfl)
    · exact .inr (.inr (.inl rfl))
  | [a, b], nd, h =>
    have hab : a ≠ b := by
      have := List.nodup_cons.mp nd
      simpa using this.1
    rcases h a (by simp) with rfl | rfl <;> rcases h b (by simp) with rfl | rfl
    · exact absurd rfl hab
    · exact .inr (.inr (.inr (.inl rfl)))
    · exact .inr (.inr (.inr (.inr rfl)))
    · exact absurd rfl hab
  | a :: b :: c :: r, nd, h =>
    obtain ⟨h1, h2⟩ := List.nodup_cons.mp nd
    obtain ⟨h3, _⟩ := List.nodup_cons.mp h2
    simp only [List.mem_cons, not_or] at h1 h3
    rcases h a (by simp) with rfl | rfl <;> rcases h b (by simp) with rfl | rfl <;> rcases h c (by simp) with rfl | rfl <;> simp_all
theorem sorted_cb : sortedS [coraS, bobS] = false := by decide +kernel
theorem recs_sorted {ks ys : List Str} {f : Str → Bool} (nd : ks.Nodup) (h : ∀ r, r ∈ ks ↔ (isRec r ∧ f r = true)) (hp : ys.Perm ks) (hs : sortedS ys = true) : ys = [bobS, coraS].filter f := by
  have nd' : ys.Nodup := hp.nodup_iff.mpr nd
  have h' : ∀ r, r ∈ ys ↔ (isRec r ∧ f r = true) := fun r => hp.mem_iff.trans (h r)
  have hb : bobS ∈ ys ↔ f bobS = true := by rw [h']; exact ⟨fun z => z.2, fun z => ⟨.inl rfl, z⟩⟩
  have hc : coraS ∈ ys ↔ f coraS = true := by rw [h']; exact ⟨fun z => z.2, fun z => ⟨.inr rfl, z⟩⟩
  have bc := bc_ne
  have cb := bc_ne.symm
  rcases recs_cases nd' (fun r hr => ((h' r).mp hr).1) with rfl | rfl | rfl | rfl | rfl
  · simp at hb hc
    simp [hb, hc]
  · simp [bc, cb] at hb hc
    simp [hb, hc]
  · simp [bc, cb] at hb hc
    simp [hb, hc]
  · simp [bc, cb] at hb hc
    simp [hb, hc]
  · rw [sorted_cb] at hs
    cases hs
theorem ld_keys (es : List Ent) : (lettersD es).map (·.1) = [bobS, coraS].filter fun r => decide (lettersOf r es ≠ []) := by
  unfold lettersD
  by_cases h1 : lettersOf bobS es = [] <;> by_cases h2 : lettersOf coraS es = [] <;> simp [h1, h2]
theorem ld_nd (es : List Ent) : ((lettersD es).map (·.1)).Nodup := by
  rw [ld_keys]
  exact List.Pairwise.filter _ (by simp [bc_ne])
theorem ld_mem {es : List Ent} {r : Str} {ns : List Str} (h : (r, ns) ∈ lettersD es) : isRec r ∧ ns = lettersOf r es ∧ ns ≠ [] := by
  unfold lettersD at h
  rw [List.mem_filterMap] at h
  obtain ⟨q, hq, e⟩ := h
  split at e
  · cases e
  · rename_i hne
    obtain ⟨rfl, rfl⟩ := Prod.mk.inj (Option.some.inj e)
    refine ⟨?_, rfl, hne⟩
    simp at hq
    exact hq
theorem letters_next (r : Str) {es : List Ent} {i : Nat} {e : Ent} (h : es[i]? = some e) : lettersOf r (es.take (i + 1)) = lettersOf r (es.take i) ++ (if e.1 = r then [e.2] else []) := by
  rw [take_at h, lettersOf_append]
  congr 1
  unfold lettersOf
  by_cases hr : e.1 = r <;> simp [hr]
theorem valV_none {κ : Type} [DecidableEq κ] {k : κ} : ∀ {kvs : List (κ × V)}, k ∉ kvs.map (·.1) → valV kvs k = none
  | [], _ => rfl
  | p :: r, h => by
    rw [List.map_cons, List.mem_cons, not_or] at h
    rw [valV_neg (Ne.symm h.1)]
    exact valV_none h.2
theorem rows_keys {H : Hp} : ∀ {kvs : List (Key × V)} {xs : List (Str × List Str)}, Paired (RowD H) kvs xs → kvs.map (·.1) = xs.map fun x => Sum.inr x.1
  | _, _, .nil => rfl
  | _, _, .cons r t => by rw [List.map_cons, List.map_cons, rows_keys t, r.1]
/-- the dict while it is filled -/
structure FD (H : Hp) (kvs : List (Key × V)) (ks : List Str) (es : List Ent) : Prop where
  keys : kvs.map (·.1) = ks.map Sum.inr
  nd : ks.Nodup
  mem : ∀ r, r ∈ ks ↔ (isRec r ∧ lettersOf r es ≠ [])
  at_ : ∀ r, isRec r → lettersOf r es ≠ [] → ∃ v, valV kvs (Sum.inr r : Key) = some v ∧ TT H v (lettersOf r es)
theorem FD.none_ {H : Hp} {kvs : List (Key × V)} {ks : List Str} {es : List Ent} (F : FD H kvs ks es) {r : Str} (h : r ∉ ks) : valV kvs (Sum.inr r : Key) = none := by
  refine valV_none ?_
  rw [F.keys, List.mem_map]
  rintro ⟨q, hq, e⟩
  cases e
  exact h hq
theorem FD.keep {M : List Addr} {H H1 : Hp} {kvs : List (Key × V)} {ks : List Str} {es : List Ent} (F : FD H kvs ks es) (f : Frm M H H1) : FD H1 kvs ks es :=
  ⟨F.keys, F.nd, F.mem, fun r hr h => by
    obtain ⟨v, h1, h2⟩ := F.at_ r hr h
    exact ⟨v, h1, h2.keep f⟩⟩
/-- one more letter -/
theorem FD.next {H : Hp} {kvs : List (Key × V)} {ks : List Str} {es : List Ent} {i : Nat} {e : Ent} (he : es[i]? = some e) (hr : isRec e.1) (F : FD H kvs ks (es.take i)) {v : V} (ht : TT H v (lettersOf e.1 (es.take i) ++ [e.2])) :
    ∃ ks', FD H (putK kvs (Sum.inr e.1 : Key) v) ks' (es.take (i + 1)) := by
  have l1 : lettersOf e.1 (es.take (i + 1)) = lettersOf e.1 (es.take i) ++ [e.2] := by rw [letters_next e.1 he, if_pos rfl]
  have l2 : ∀ r, r ≠ e.1 → lettersOf r (es.take (i + 1)) = lettersOf r (es.take i) := fun r h => by rw [letters_next r he, if_neg (Ne.symm h), List.append_nil]
  have at' : ∀ r, isRec r → lettersOf r (es.take (i + 1)) ≠ [] → ∃ v', valV (putK kvs (Sum.inr e.1 : Key) v) (Sum.inr r : Key) = some v' ∧ TT H v' (lettersOf r (es.take (i + 1))) := fun r h1 h2 => by
    rw [valV_put]
    by_cases q : r = e.1
    · subst q
      rw [if_pos rfl, l1]
      exact ⟨v, rfl, ht⟩
    · rw [if_neg (fun z => q (Sum.inr.inj z)), l2 r q]
      rw [l2 r q] at h2
      exact F.at_ r h1 h2
  by_cases hk : e.1 ∈ ks
  · refine ⟨ks, ?_, F.nd, fun r => ?_, at'⟩
    · have q : (kvs.any fun kv => decide (kv.1 = (Sum.inr e.1 : Key))) = true := by
        rw [valV_any]
        obtain ⟨v', hv, _⟩ := F.at_ e.1 hr ((F.mem e.1).mp hk).2
        rw [hv] <;> rfl
      unfold putK
      rw [if_pos q, List.map_map, ← F.keys]
      refine List.map_congr_left fun kv _ => ?_
      show (if kv.1 = (Sum.inr e.1 : Key) then (kv.1, v) else kv).1 = kv.1
      split <;> rfl
    · by_cases q : r = e.1
      · subst q
        rw [l1]
        simp [hk, hr]
      · rw [l2 r q]
        exact F.mem r
  · refine ⟨ks ++ [e.1], ?_, ?_, fun r => ?_, at'⟩
    · rw [putK_new _ (F.none_ hk), List.map_append, List.map_append, F.keys] <;> rfl
    · rw [List.nodup_append]
      refine ⟨F.nd, by simp, fun a ha b hb => ?_⟩
      rw [List.mem_singleton.mp hb]
      rintro rfl
      exact hk ha
    · rw [List.mem_append, List.mem_singleton]
      by_cases q : r = e.1
      · subst q
        rw [l1]
        simp [hr]
      · rw [l2 r q, F.mem r]
        simp [q]
theorem cut_pre_take (us : List V) {k : Nat} (h : k ≤ us.length) : cutV us none (some (k : Int)) = us.take k := by
  unfold cutV
  rw [HT.sIx_nat, HT.sIx_none, List.drop_zero, Nat.sub_zero, Nat.min_eq_left h]
section
variable {P : Program} {w : World} {K : PySem.W.Frag} {mg : Str → Option Value} {base : Heap} {A : Ads}
def spJL (C : Addr) : Sp := fun vs H Q _ => ∃ (p dx l jr : Addr) (x y : Str) (es : List Ent) (k : Nat), vs = [.ref p] ∧ JAt C H p dx l jr x y es k ∧ es.length ≤ 1000 ∧
  ∀ H' d, Frm [] H H' → H d = none → LD H' d (es.take k) → Q (.ref d) H'
theorem scJL : FnScope ["self", "found", "entry", "name"] ["self"] (defScope sJL) := ⟨rfl, rfl, rfl, by decide +kernel, rfl, by decide +kernel, by decide +kernel⟩
theorem ok_jl (T : Tx K mg A) : FnOk P w K mg base CX0 1 A.fJL A.dJL ["self"] (spJL A.cJ) := by
  refine T.FJL.ok scJL (fun vs H Q E h => ?_) (fun cdv B outer s H vs Q E hr h => ?_)
  · obtain ⟨p, dx, l, jr, x, y, es, n, rfl, _⟩ := h
    rfl
  · obtain ⟨p, dx, l, jr, x, y, es, n, rfl, J, hlen, k⟩ := h
    obtain ⟨us, hL, hus⟩ := J.ls
    have hu := hu_of hr
    have nk := J.le
    refine ⟨_, pss_cons (ps_set (i := 1) scJL.nd rfl (.inr rfl) pe_dnewK)
      (pss_cons (ps_for PassesOwn.never rfl (pi_list (pe_slice sl_list (pe_fld (pv 0) rfl) po_none (po_some (pe_fld (pv 0) rfl)))) (pg_name (i := 2) scJL.nd rfl (.inl rfl))
        (pss_one (ps_if (pt_cmpR op_eq (pe_ix ix_tup (pv 2) pe_int (fun _ _ => rfl)) pe_str (nomark _))
          (pss_one (ps_dput hu (pv 1) (pe_ix ix_tup (pv 2) pe_int (fun _ _ => rfl))
            (pe_tup (StX.pa_star (pe_dget2 hu (pv 1) (pe_ix ix_tup (pv 2) pe_int (fun _ _ => rfl)) (pe_tup pa_nil) ⟨by rfl, by rfl, by rfl, by rfl⟩) (pa_cons (pe_ix ix_tup (pv 2) pe_int (fun _ _ => rfl)) pa_nil))) rfl)) pss_nil)))
      (pss_one (ps_ret (pe_dc (own := [("name", 3)]) (g := gName 3) (tt := tYes) rfl scJL.nd (pi_list (pe_callB (call_sortedD rfl) (by rfl) T.b_sorted (by decide +kernel) (pa_cons (pv 1) pa_nil)))
        (blkOk_by (own := [("name", 3)]) (N := ["self", "found", "entry", "name"]) (sc := defScope sJL) (by decide +kernel)) (fun _ _ _ _ _ => pg_name (i := 3) scJL.nd rfl (Or.inl rfl)) (fun _ _ _ _ _ => pts_nil)
        (fun _ _ _ _ _ => pv 3) (fun _ _ _ _ _ => pe_dget hu (pv 1) (pv 3) (fun _ _ => rfl)))))), ?_⟩
    intro fd hfd
    have f1 : Frm [] H (upd H fd (.dK [])) := (Frm.refl [] H).new hfd
    have J1 := J.keep f1 (by simp) (by simp) (by simp)
    have hL1 := f1.keep _ _ hL (by simp)
    refine ⟨_, rfl, p, A.cJ, dx, _, _, rfl, J1.ob, T.clJ, T.nJentries, rfl, _, rfl, p, A.cJ, dx, _, _, rfl, J1.ob, T.clJ, T.nJsettled, rfl, ?_⟩
    refine ⟨(n : Int), rfl, l, us, rfl, SqL.of hL1, fun l2 hl2 => ?_⟩
    have ul : us.length = es.length := hus.length
    rw [cut_pre_take us (by omega)]
    have f2 : Frm [] H (upd (upd H fd (.dK [])) l2 (.lst (us.take n))) := f1.new hl2
    have hn : (us.take n).length = n := by rw [List.length_take]; omega
    have hE : (es.take n).length = n := by rw [List.length_take]; omega
    have nfl : fd ≠ l2 := ne_of_none (upd_same (H := H) (a := fd) (o := .dK [])) hl2
    refine ⟨l2, rfl, ⟨_, SqL.of upd_same⟩, for_list (K := K) (a := l2) (xs := us.take n) (fun i σ H1 => ∃ v2 kvs ks, σ = [some (.ref p), some (.ref fd), v2, none] ∧ Frm [] H H1 ∧ H1 fd = some (.dK kvs) ∧ H1 l2 = some (.lst (us.take n)) ∧ FD H1 kvs ks ((es.take n).take i))
      ⟨none, [], [], rfl, f2, (upd_ne nfl).trans upd_same, upd_same, ⟨rfl, List.nodup_nil, fun r => by simp [lettersOf], fun r _ h => absurd (by simp [lettersOf]) h⟩⟩ (fun i σ H1 _ ⟨_, _, _, _, _, _, q, _⟩ => SqL.of q) ?_ ?_⟩
    · rintro i v σ H1 hv ⟨v2, kvs, ks, rfl, f, hfd1, hl21, F⟩
      have hin : i < n := by
        have := (List.getElem?_eq_some_iff.mp hv).1
        omega
      obtain ⟨e, he, a, lv, rfl, ha, hlv⟩ := pd_left (pd_take n (ets_keep hus f)) hv
      have oe : entOk e := J.ok e (List.mem_of_mem_take (List.mem_of_getElem? he))
      refine ⟨_, rfl, a, _, _, _, rfl, rfl, SqT.of ha, rfl, rfl, _, rfl, ?_⟩
      refine ite2 (fun _ => ?_) (fun z => absurd (decide_eq_true rfl) z)
      refine ⟨_, rfl, fd, rfl, .inl ⟨kvs, .inl hfd1⟩, _, rfl, a, _, _, _, rfl, rfl, SqT.of ha, rfl, Nat.zero_le _, fun t0 ht0 => ?_⟩
      have g1 : Frm [] H1 (upd H1 t0 (.tup [])) := (Frm.refl [] H1).new ht0
      have hfd2 := g1.keep _ _ hfd1 (by simp)
      refine ⟨_, DGet.k (k := (Sum.inr e.1 : Key)) hfd2, ?_⟩
      have hT : TT (upd H1 t0 (.tup [])) ((valV kvs (Sum.inr e.1 : Key)).getD (.ref t0)) (lettersOf e.1 ((es.take n).take i)) := by
        by_cases q : lettersOf e.1 ((es.take n).take i) = []
        · have hk : e.1 ∉ ks := fun z => ((F.mem e.1).mp z).2 q
          rw [F.none_ hk, q]
          exact ⟨t0, [], rfl, upd_same, .nil⟩
        · obtain ⟨v', h1, h2⟩ := F.at_ e.1 oe.2 q
          rw [h1]
          exact h2.keep g1
      obtain ⟨t1, ws, et1, ht1, hws⟩ := hT
      rw [et1]
      have ha2 := g1.tup _ _ ha
      refine ⟨t1, ws, rfl, .inl (SqT.of ht1), _, rfl, a, _, _, _, rfl, rfl, SqT.of ha2, rfl, ?_, fun t2 ht2 => ?_⟩
      · have l1 := hws.length
        have l2 := lettersOf_le e.1 ((es.take n).take i)
        rw [List.length_take] at l2
        rw [List.length_append, List.length_singleton]
        exact Nat.le_trans (by omega : _ ≤ 1001) (by decide)
      have g2 := g1.new (o := .tup (ws ++ [lv])) ht2
      have ha3 := g2.tup _ _ ha
      have hfd3 := g2.keep _ _ hfd1 (by simp)
      refine ⟨_, rfl, _, rfl, a, _, _, _, rfl, rfl, SqT.of ha3, rfl, fd, _, rfl, DPut.k (k := (Sum.inr e.1 : Key)) hfd3 ?_, ?_⟩
      · have q := congrArg List.length F.keys
        rw [List.length_map, List.length_map] at q
        rcases recs_cases F.nd (fun r hr => ((F.mem r).mp hr).1) with z | z | z | z | z <;> (rw [z] at q; rw [q]; decide)
      have g3 : Frm [fd] H1 (upd (upd (upd H1 t0 (.tup [])) t2 (.tup (ws ++ [lv]))) fd (.dK (putK kvs (Sum.inr e.1 : Key) (.ref t2)))) := (g2.weak (M := [fd]) (by simp)).dk (.inl (by simp)) hfd3
      have nlf : l2 ≠ fd := ne_of hl21 hfd1 (by intro z; cases z)
      have ht : TT (upd (upd (upd H1 t0 (.tup [])) t2 (.tup (ws ++ [lv]))) fd (.dK (putK kvs (Sum.inr e.1 : Key) (.ref t2)))) (.ref t2) (lettersOf e.1 ((es.take n).take i) ++ [e.2]) := by
        have g4 : Frm [fd] (upd (upd H1 t0 (.tup [])) t2 (.tup (ws ++ [lv]))) (upd (upd (upd H1 t0 (.tup [])) t2 (.tup (ws ++ [lv]))) fd (.dK (putK kvs (Sum.inr e.1 : Key) (.ref t2)))) := (Frm.refl [fd] _).dk (.inl (by simp)) hfd3
        have g5 : Frm [] (upd H1 t0 (.tup [])) (upd (upd H1 t0 (.tup [])) t2 (.tup (ws ++ [lv]))) := (Frm.refl [] _).new ht2
        exact ⟨t2, ws ++ [lv], rfl, g4.tup _ _ upd_same, pd_append (lts_keep (lts_keep hws g5) g4) (.cons ((hlv.keep g2).keep g4) .nil)⟩
      obtain ⟨ks', F'⟩ := FD.next he oe.2 (F.keep g3) ht
      exact ⟨_, _, ks', rfl, f.trans g3 (fun b hb => .inr (by rw [List.mem_singleton.mp hb]; exact hfd)), upd_same, g3.keep _ _ hl21 (by simp [nlf]), F'⟩
    · rintro σ H1 ⟨v2, kvs, ks, rfl, f, hfd1, hl21, F⟩
      rw [hn, List.take_of_length_le (by omega)] at F
      have hk64 : ks.length < 64 := by
        rcases recs_cases F.nd (fun r hr => ((F.mem r).mp hr).1) with z | z | z | z | z <;> (rw [z]; decide)
      refine ⟨_, rfl, fd, kvs, ks, rfl, .inl hfd1, F.keys, hk64, fun ys lp perm srt hlp => ?_⟩
      have ey : ys = (lettersD (es.take n)).map (·.1) := by
        rw [ld_keys]
        exact recs_sorted F.nd (fun r => by rw [F.mem r]; simp) perm srt
      subst ey
      have g1 : Frm [] H1 (upd H1 lp (.lst (((lettersD (es.take n)).map (·.1)).map V.str))) := (Frm.refl [] H1).new hlp
      have hfd2 := g1.keep _ _ hfd1 (by simp)
      refine ⟨lp, rfl, ⟨_, SqL.of upd_same⟩, fun D hD => ?_⟩
      have nfD : fd ≠ D := ne_of_none hfd2 hD
      have nlD : lp ≠ D := ne_of_none upd_same hD
      refine dc_it (walk_list (K := K) (a := lp) (xs := ((lettersD (es.take n)).map (·.1)).map V.str)) (fun i H2 => Frm [] H H2 ∧ H2 fd = some (.dK kvs) ∧ H2 lp = some (.lst (((lettersD (es.take n)).map (·.1)).map V.str)) ∧ FD H2 kvs ks (es.take n) ∧ ∃ kv', H2 D = some (.dK kv') ∧ Paired (RowD H2) kv' ((lettersD (es.take n)).take i))
        ⟨(f.step g1).new hD, (upd_ne nfD).trans hfd2, (upd_ne nlD).trans upd_same, F.keep (g1.new hD), [], upd_same, .nil⟩ (fun i H2 _ q => SqL.of q.2.2.1) ?_ ?_
      · rintro i v H2o H2 hi ⟨f2, hfd3, hlp3, F2, kv', hD2, hrow⟩ ⟨rfl, hv⟩
        rw [List.length_map, List.length_map] at hi
        obtain ⟨⟨r, ns⟩, hr⟩ : ∃ q, (lettersD (es.take n))[i]? = some q := ⟨(lettersD (es.take n))[i], List.getElem?_eq_getElem hi⟩
        rw [List.getElem?_map, List.getElem?_map, hr] at hv
        obtain rfl : V.str r = v := Option.some.inj hv
        obtain ⟨m1, m2, m3⟩ := ld_mem (List.mem_of_getElem? hr)
        subst m2
        obtain ⟨v', hv', htt⟩ := F2.at_ r m1 m3
        refine ⟨rfl, _, rfl, _, rfl, _, rfl, fd, v', rfl, ?_, kv', (Sum.inr r : Key), rfl, hD2, ?_, ?_⟩
        · rw [← hv']
          exact DGet.k (k := (Sum.inr r : Key)) hfd3
        · rw [hrow.length, List.length_take]
          have := hi
          have h2 : (lettersD (es.take n)).length ≤ 2 := by
            have := List.length_filterMap_le (fun r => if lettersOf r (es.take n) = [] then none else some (r, lettersOf r (es.take n))) [bobS, coraS]
            exact this
          exact small1000 (by omega)
        · have hnk : (Sum.inr r : Key) ∉ kv'.map (·.1) := by
            rw [rows_keys hrow, List.mem_map]
            rintro ⟨q, hq, e⟩
            have nd := ld_nd (es.take n)
            rw [split_at hr, List.map_append, List.map_cons, List.nodup_append] at nd
            exact nd.2.2 q.1 (List.mem_map_of_mem hq) r (by simp) (Sum.inr.inj e)
          rw [putK_new _ (valV_none hnk)]
          have g2 : Frm [D] H2 (upd H2 D (.dK (kv' ++ [((Sum.inr r : Key), v')]))) := (Frm.refl [D] H2).dk (.inl (by simp)) hD2
          refine ⟨f2.trans g2 (fun b hb => .inr (by rw [List.mem_singleton.mp hb]; exact (f.step g1).free hD)), g2.keep _ _ hfd3 (by simp [nfD]), g2.keep _ _ hlp3 (by simp [nlD]), F2.keep g2, _, upd_same, ?_⟩
          rw [take_at hr]
          exact pd_append (hrow.mono fun _ _ z => z.keep g2) (.cons ⟨rfl, htt.keep g2⟩ .nil)
      · rintro H2 ⟨f2, hfd3, hlp3, F2, kv', hD2, hrow⟩
        rw [List.length_map, List.length_map, List.take_length] at hrow
        exact k _ D f2 ((f.step g1).free hD) ⟨kv', hD2, hrow⟩
end
end K58
/-! The post: __init__, waiting; a receiver: __init__. -/
namespace K58
open PySem L2 PyProof.Rows TL
/-! ### plain: what is heard, what waits -/
def hget (hs : List (Str × Nat)) (r : Str) : Nat := (hs.lookup r).getD 0
def hk (hs : List (Str × Nat)) : List (Key × V) := hs.map fun x => ((Sum.inr x.1 : Key), V.int (x.2 : Int))
theorem hk_get (r : Str) : ∀ hs : List (Str × Nat), valV (hk hs) (Sum.inr r : Key) = (hs.lookup r).map fun n => V.int (n : Int)
  | [] => rfl
  | (q, n) :: t => by
    by_cases h : q = r
    · subst h
      show valV (((Sum.inr q : Key), V.int (n : Int)) :: hk t) _ = _
      rw [valV_pos rfl, List.lookup_cons_self] <;> rfl
    · show valV (((Sum.inr q : Key), V.int (n : Int)) :: hk t) _ = _
      rw [valV_neg (fun z => h (Sum.inr.inj z)), hk_get r t, List.lookup_cons]
      have : (r == q) = false := by simp [Ne.symm h]
      rw [this]
theorem hk_getD (r : Str) (hs : List (Str × Nat)) : (valV (hk hs) (Sum.inr r : Key)).getD (.int 0) = V.int (hget hs r : Int) := by
  rw [hk_get]
  unfold hget
  cases hs.lookup r <;> rfl
def dueFrom (r : Str) : Nat → List Str → List Und
  | _, [] => []
  | i, n :: t => ⟨r, i + 1, some n⟩ :: dueFrom r (i + 1) t
theorem due_len (r : Str) : ∀ (i : Nat) (ns : List Str), (dueFrom r i ns).length = ns.length
  | _, [] => rfl
  | i, n :: t => by show (dueFrom r (i + 1) t).length + 1 = t.length + 1; rw [due_len r (i + 1) t]
theorem due_get (r : Str) : ∀ (i j : Nat) (ns : List Str) {n : Str}, ns[j]? = some n → (dueFrom r i ns)[j]? = some ⟨r, i + j + 1, some n⟩
  | _, _, [], _, h => by simp at h
  | i, 0, m :: t, n, h => by
    simp at h
    subst h
    rfl
  | i, j + 1, m :: t, n, h => by
    have := due_get r (i + 1) j t (n := n) (by simpa using h)
    show (dueFrom r (i + 1) t)[j]? = _
    rw [this, show i + 1 + j = i + (j + 1) by omega]
def due (r : Str) (h : Nat) (ns : List Str) : List Und := dueFrom r h (ns.drop h)
def waits (hs : List (Str × Nat)) (xs : List (Str × List Str)) : List Und := xs.flatMap fun x => due x.1 (hget hs x.1) x.2
theorem waits_next {hs : List (Str × Nat)} {xs : List (Str × List Str)} {i : Nat} {x : Str × List Str} (h : xs[i]? = some x) : waits hs (xs.take (i + 1)) = waits hs (xs.take i) ++ due x.1 (hget hs x.1) x.2 := by
  unfold waits
  rw [take_at h, List.flatMap_append, List.flatMap_singleton]
theorem waits_len {hs : List (Str × Nat)} {N : Nat} : ∀ {xs : List (Str × List Str)}, (∀ x ∈ xs, x.2.length ≤ N) → (waits hs xs).length ≤ xs.length * N
  | [], _ => by simp [waits]
  | x :: t, h => by
    have ih := waits_len (hs := hs) (xs := t) fun y hy => h y (List.mem_cons_of_mem _ hy)
    have h1 := h x List.mem_cons_self
    have e : waits hs (x :: t) = due x.1 (hget hs x.1) x.2 ++ waits hs t := rfl
    have e2 : (due x.1 (hget hs x.1) x.2).length ≤ N := by
      unfold due
      rw [due_len, List.length_drop]
      omega
    rw [e, List.length_append, List.length_cons, Nat.succ_mul]
    omega
theorem ld_len (es : List Ent) : (lettersD es).length ≤ 2 := by
  have := List.length_filterMap_le (fun r => if lettersOf r es = [] then none else some (r, lettersOf r es)) [bobS, coraS]
  exact this
theorem ld_le {es : List Ent} : ∀ x ∈ lettersD es, x.2.length ≤ es.length := fun x hx => by
  obtain ⟨_, e, _⟩ := ld_mem (r := x.1) (ns := x.2) hx
  rw [e]
  exact lettersOf_le _ _
theorem waits_small (hs : List (Str × Nat)) (es : List Ent) : (waits hs (lettersD es)).length ≤ 2 * es.length := by
  have h1 := waits_len (hs := hs) (xs := lettersD es) (N := es.length) ld_le
  have h2 := Nat.mul_le_mul_right es.length (ld_len es)
  omega
/-- a slice of a tuple: a tuple again, the same or a new one -/
def rSlB : V → Option Int → Option Int → Hp → VK → Prop := fun x lo hi H Q => ∃ a xs, x = .ref a ∧ H a = some (.tup xs) ∧ ∀ p H', Frm [] H H' → H' p = some (.tup (cutV xs lo hi)) → Q (.ref p) H'
theorem cutV_all {xs : List V} {lo hi : Option Int} (h : HT.sIx xs.length 0 lo = 0 ∧ HT.sIx xs.length xs.length hi = xs.length) : cutV xs lo hi = xs := by
  unfold cutV
  rw [h.1, h.2, List.drop_zero, Nat.sub_zero, List.take_length]
theorem sl_tupB {X : Cx} : SlR X rSlB := by
  intro pins s σ H x v vl vu lo hi sl Q I rx hs pl pu h
  obtain ⟨a, xs, rfl, hx, q⟩ := h
  refine sl_tupA pins s σ H _ v vl vu lo hi sl Q I rx hs pl pu ⟨a, xs, rfl, SqT.of hx, fun z => q a H (Frm.refl _ _) (by rw [cutV_all z]; exact hx), fun _ p hp => q p _ ((Frm.refl [] H).new hp) upd_same⟩
theorem cut_drop (xs : List V) (h : Nat) : cutV xs (some (h : Int)) none = xs.drop h := by
  unfold cutV
  rw [HT.sIx_nat, HT.sIx_none]
  by_cases hl : h ≤ xs.length
  · rw [Nat.min_eq_left hl, List.take_of_length_le (by rw [List.length_drop]; exact Nat.le_refl _)]
  · rw [Nat.min_eq_right (by omega), List.drop_length, List.drop_of_length_le (by omega), List.take_nil]
theorem cut_take_t (xs : List V) (h : Nat) : cutV xs none (some (h : Int)) = xs.take h := by
  unfold cutV
  rw [HT.sIx_nat, HT.sIx_none, List.drop_zero, Nat.sub_zero]
  by_cases hl : h ≤ xs.length
  · rw [Nat.min_eq_left hl]
  · rw [Nat.min_eq_right (by omega), List.take_length, List.take_of_length_le (by omega)]
/-! ### the objects -/
def pf (p hd : Addr) : List (Str × V) := [(("journal" : Str), .ref p), (("heard" : Str), .ref hd)]
def rf (l d : Addr) : List (Str × V) := [(("taken" : Str), .ref l), (("early" : Str), .ref d)]
structure PAt (C : Addr) (H : Hp) (q dx p hd : Addr) (hs : List (Str × Nat)) : Prop where
  ob : H q = some (.ins C dx (pf p hd))
  hd : H hd = some (.dK (hk hs))
theorem PAt.keep {M : List Addr} {C : Addr} {H H1 : Hp} {q dx p hd : Addr} {hs : List (Str × Nat)} (h : PAt C H q dx p hd hs) (f : Frm M H H1) (h1 : q ∉ M) (h2 : hd ∉ M) : PAt C H1 q dx p hd hs := ⟨f.keep _ _ h.ob h1, f.keep _ _ h.hd h2⟩
section
variable {P : Program} {w : World} {K : PySem.W.Frag} {mg : Str → Option Value} {base : Heap} {A : Ads}
def spPI (C : Addr) : Sp := fun vs H Q _ => ∃ q dx p : Addr, vs = [.ref q, .ref p] ∧ H q = some (.ins C dx []) ∧ ∀ H' hd, Frm [q] H H' → H hd = none → PAt C H' q dx p hd [] → Q .non H'
theorem scPI : FnScope ["self", "journal"] ["self", "journal"] (defScope sPI) := ⟨rfl, rfl, rfl, by decide +kernel, rfl, by decide +kernel, by decide +kernel⟩
theorem ok_pi (T : Tx K mg A) : FnOk P w K mg base CX0 1 A.fPI A.dPI ["self", "journal"] (spPI A.cP) := by
  refine T.FPI.ok scPI (fun vs H Q E h => ?_) (fun cdv B outer s H vs Q E hr h => ?_)
  · obtain ⟨q, dx, v, rfl, _⟩ := h
    rfl
  · obtain ⟨q, dx, v, rfl, hq, k⟩ := h
    refine ⟨_, pss_cons (ps_fld (pv 0) (pv 1) rfl) (pss_one (ps_fld (pv 0) pe_dnewK rfl)), ?_⟩
    refine ⟨_, rfl, _, rfl, q, A.cP, dx, [], rfl, hq, T.clP, T.nPjournal, (by show 0 < 1000; decide), ?_⟩
    intro d hd
    have nqd : q ≠ d := ne_of_none upd_same hd
    have f1 : Frm [q] H (upd H q (.ins A.cP dx (putF "journal" (.ref v) []))) := (Frm.refl [q] H).ins (.inl (by simp)) hq
    refine ⟨_, rfl, q, A.cP, dx, _, rfl, (upd_ne nqd).trans upd_same, T.clP, T.nPheard, (by show 1 < 1000; decide), ?_⟩
    exact k _ d ((f1.new hd).ins (.inl (by simp)) ((upd_ne nqd).trans upd_same)) (f1.free hd) ⟨upd_same, (upd_ne nqd.symm).trans upd_same⟩
/-! ### waiting -/
def spPW (C D : Addr) : Sp := fun vs H Q _ => ∃ (q dxq p hd : Addr) (hs : List (Str × Nat)) (dx l jr : Addr) (x y : Str) (es : List Ent) (k : Nat), vs = [.ref q] ∧ PAt C H q dxq p hd hs ∧ JAt D H p dx l jr x y es k ∧ es.length ≤ 1000 ∧
  ∀ H' u us, Frm [] H H' → H u = none → H' u = some (.lst us) → Paired (UT H') us (waits hs (lettersD (es.take k))) → Q (.ref u) H'
theorem scPW : FnScope ["self", "found", "receiver", "letters", "known", "at", "letter"] ["self"] (defScope sPW) := ⟨rfl, rfl, rfl, by decide +kernel, rfl, by decide +kernel, by decide +kernel⟩
theorem ok_pw (T : Tx K mg A) : FnOk P w K mg base CX0 2 A.fPW A.dPW ["self"] (spPW A.cP A.cJ) := by
  have GL : FnOk P w K mg base CX0 1 A.fJL A.dJL ["self"] (spJL A.cJ) := ok_jl T
  refine T.FPW.ok scPW (fun vs H Q E h => ?_) (fun cdv B outer s H vs Q E hr h => ?_)
  · obtain ⟨q, dxq, p, hd, hs, dx, l, jr, x, y, es, n, rfl, _⟩ := h
    rfl
  · obtain ⟨q, dxq, p, hd, hs, dx, l, jr, x, y, es, n, rfl, Pq, J, hlen, k⟩ := h
    have hu := hu_of hr
    refine ⟨_, pss_cons (ps_set (i := 1) scPW.nd rfl (.inl rfl) (pe_lst pa_nil))
      (pss_cons (ps_for PassesOwn.never rfl (pi_items (pe_frz (pe_meth0 (pe_fld (pv 0) rfl) T.clJ T.mJL GL hr (bJL T) .nil pass0))) (pg_tup rfl (pgs_cons (pg_name (i := 2) scPW.nd rfl (.inr rfl)) (pgs_cons (pg_name (i := 3) scPW.nd rfl (.inl rfl)) pgs_nil)))
        (pss_cons (ps_set (i := 4) scPW.nd rfl (.inr rfl) (pe_dget2 hu (pe_fld (pv 0) rfl) (pv 2) pe_int ⟨by rfl, by rfl, by rfl, by rfl⟩))
        (pss_one (ps_aug (i := 1) scPW.nd rfl (.inl rfl)
          (pe_lc (own := [("at", 5), ("letter", 6)]) (g := gTup K 2 (gCons (gName 5) (gCons (gName 6) gNil))) (tt := tYes) rfl scPW.nd (pi_enumT (by rfl) T.b_enumerate (pa_cons (pe_slice sl_tupB (pv 3) (po_some (pv 4)) po_none) pa_nil))
            (blkOk_by (own := [("at", 5), ("letter", 6)]) (N := ["self", "found", "receiver", "letters", "known", "at", "letter"]) (sc := defScope sPW) (by decide +kernel))
            (fun _ _ _ _ _ => pg_tup rfl (pgs_cons (pg_name (i := 5) scPW.nd rfl (.inl rfl)) (pgs_cons (pg_name (i := 6) scPW.nd rfl (.inl rfl)) pgs_nil))) (fun _ _ _ _ _ => pts_nil)
            (fun _ _ _ _ _ => pe_tup (pa_cons (pv 2) (pa_cons (pe_op op_add (pe_op op_add (pv 4) (pv 5)) pe_int) (pa_cons (pv 6) pa_nil))))) iop_ext))))
      (pss_one (ps_ret (pv 1)))), ?_⟩
    refine ⟨Nat.zero_le _, fun u hu0 => ?_⟩
    have f1 : Frm [] H (upd H u (.lst [])) := (Frm.refl [] H).new hu0
    have P1 := Pq.keep f1 (by simp) (by simp)
    have J1 := J.keep f1 (by simp) (by simp) (by simp)
    refine ⟨_, rfl, q, A.cP, dxq, _, _, rfl, P1.ob, T.clP, T.nPjournal, rfl, p, dx, _, rfl, J1.ob, rfl, p, dx, l, jr, x, y, es, n, rfl, J1, hlen, fun H2 d f2 hd0 hLD => ?_⟩
    obtain ⟨kvs, hd2, rows⟩ := hLD
    refine ⟨d, _, rfl, hd2, trivial, fun od => ⟨d, od, kvs, rfl, upd_same, ?_⟩⟩
    have q0 : Frm [] H H2 := f1.step f2
    have hd1 : H d = none := f1.free hd0
    have hu2 : H2 u = some (.lst []) := f2.keep _ _ upd_same (by simp)
    have nud : u ≠ d := ne_of hu2 hd2 (by intro z; cases z)
    have g1 : Frm [u, d] H2 (upd H2 d (.frz od (.dK kvs))) := (Frm.refl _ H2).dk (.inl (by simp)) hd2
    have nEs : (es.take n).length ≤ 1000 := by rw [List.length_take]; omega
    refine for_it (walk_items (kvs := kvs)) (fun i σ H3 => ∃ v2 v3 v4 acc, σ = [some (.ref q), some (.ref u), v2, v3, v4, none, none] ∧ Frm [u, d] H2 H3 ∧ H3 d = some (.frz od (.dK kvs)) ∧ H3 u = some (.lst acc) ∧ Paired (UT H3) acc (waits hs ((lettersD (es.take n)).take i)))
      ⟨none, none, none, [], rfl, g1, upd_same, (upd_ne nud).trans hu2, .nil⟩ (fun i σ H3 _ ⟨_, _, _, _, _, _, z, _⟩ => z) ?_ ?_
    · rintro i v σ H3 H3' hi ⟨v2, v3, v4, acc, rfl, f3, hd3, hu3, hacc⟩ ⟨Tp, x1, x2, rfl, hTp, rfl, hx1, hx2⟩
      obtain ⟨⟨r, ns⟩, hr⟩ : ∃ z, (lettersD (es.take n))[i]? = some z := ⟨(lettersD (es.take n))[i]'(by rw [← rows.length]; exact hi), List.getElem?_eq_getElem _⟩
      obtain ⟨⟨kk, vv⟩, hk1, hk2, hk3⟩ := pd_right rows hr
      simp only [hk1, Option.map_some, Option.some.injEq] at hx1 hx2
      subst hx1
      subst hx2
      change kk = Sum.inr r at hk2
      subst hk2
      refine ⟨Tp, _, rfl, SqT.of upd_same, rfl, _, _, rfl, _, _, rfl, rfl, ?_⟩
      have g4 : Frm [u, d] H2 (upd H3 Tp (.tup [kV (Sum.inr r), vv])) := f3.new hTp
      have P4 := (Pq.keep q0 (by simp) (by simp)).keep g4 (by simp; exact ⟨ne_of (Pq.keep q0 (by simp) (by simp)).ob hu2 (by intro z; cases z), ne_of (Pq.keep q0 (by simp) (by simp)).ob hd2 (by intro z; cases z)⟩) (by
        have h1 := (Pq.keep q0 (by simp) (by simp)).hd
        simp
        refine ⟨ne_of h1 hu2 (by intro z; cases z), ne_of_none Pq.hd hd1⟩)
      refine ⟨_, rfl, q, A.cP, dxq, _, _, rfl, P4.ob, T.clP, T.nPheard, rfl, hd, rfl, .inl ⟨_, .inl P4.hd⟩, _, rfl, _, DGet.k (k := (Sum.inr r : Key)) P4.hd, ?_⟩
      rw [hk_getD]
      obtain ⟨t, ws, rfl, ht, hws⟩ := hk3.keep g4
      refine ⟨_, rfl, _, rfl, _, rfl, _, rfl, t, ws, rfl, ht, fun t2 H5 f5 ht2 => ?_⟩
      rw [cut_drop] at ht2
      refine ⟨t2, _, rfl, SqT.of ht2, fun D hD => ?_⟩
      have hu4 : (upd H3 Tp (.tup [kV (Sum.inr r), V.ref t])) u = some (.lst acc) := (upd_ne (ne_of_none hu3 hTp)).trans hu3
      have hu5 : H5 u = some (.lst acc) := f5.keep _ _ hu4 (by simp)
      have g5 : Frm [u, d] H2 H5 := g4.step f5
      refine lc_it (walk_enumT (K := K) (a := t2) (xs := ws.drop (hget hs r))) (fun j H6 => Frm [] H5 H6 ∧ ∃ acc2, H6 D = some (.lst acc2) ∧ Paired (UT H6) acc2 ((due r (hget hs r) ns).take j))
        ⟨(Frm.refl [] H5).new hD, [], upd_same, .nil⟩ (fun j H6 _ z => SqT.of (z.1.tup _ _ ht2)) ?_ ?_
      · rintro j v6 H6 H6' hj ⟨f6, acc2, hD6, hacc2⟩ ⟨T2, y1, y2, rfl, hT2, rfl, hy1, hy2⟩
        cases hy1
        obtain ⟨nm, hn1, hn2⟩ := pd_left (pd_drop (hget hs r) (lts_keep (lts_keep hws f5) f6)) hy2
        refine ⟨T2, _, rfl, SqT.of upd_same, rfl, _, _, rfl, _, _, rfl, rfl, rfl, ?_⟩
        have hD7 : (upd H6 T2 (.tup [.int (j : Int), y2])) D = some (.lst acc2) := (upd_ne (ne_of_none hD6 hT2)).trans hD6
        refine ⟨_, rfl, _, rfl, _, rfl, _, _, rfl, rfl, _, _, rfl, rfl, _, rfl, by show 3 ≤ sizeLine; decide, fun t8 ht8 => ?_⟩
        have f8 := ((Frm.refl [] H6).new (o := .tup [.int (j : Int), y2]) hT2).new (o := .tup [.str r, .int ((hget hs r : Int) + (j : Int) + 1), y2]) ht8
        have hD8 := f8.keep _ _ hD6 (by simp)
        have sz : acc2.length < sizeLine := by
          rw [hacc2.length, List.length_take]
          unfold due
          rw [due_len, List.length_drop]
          have h1 := ld_le (r, ns) (List.mem_of_getElem? hr)
          exact small1000 (by have : ns.length ≤ (es.take n).length := h1; omega)
        refine ⟨acc2, hD8, sz, (f6.step f8).lst (.inr hD) hD8, _, upd_same, ?_⟩
        have f9 : Frm [D] H6 (upd (upd (upd H6 T2 (.tup [.int (j : Int), y2])) t8 (.tup [.str r, .int ((hget hs r : Int) + (j : Int) + 1), y2])) D (.lst (acc2 ++ [.ref t8]))) := (f8.weak (M := [D]) (by simp)).lst (.inl (by simp)) hD8
        have f10 : Frm [D] (upd (upd H6 T2 (.tup [.int (j : Int), y2])) t8 (.tup [.str r, .int ((hget hs r : Int) + (j : Int) + 1), y2])) (upd (upd (upd H6 T2 (.tup [.int (j : Int), y2])) t8 (.tup [.str r, .int ((hget hs r : Int) + (j : Int) + 1), y2])) D (.lst (acc2 ++ [.ref t8]))) := (Frm.refl [D] _).lst (.inl (by simp)) hD8
        have hdu : (due r (hget hs r) ns)[j]? = some ⟨r, hget hs r + j + 1, some nm⟩ := due_get r _ j _ hn1
        rw [take_at hdu]
        refine pd_append (uts_keep hacc2 f9) (.cons ⟨t8, y2, rfl, ?_, hn2.keep f9⟩ .nil)
        have en : (((hget hs r + j + 1 : Nat)) : Int) = (hget hs r : Int) + (j : Int) + 1 := by omega
        show _ = some (HO.tup [V.str r, V.int ((hget hs r + j + 1 : Nat) : Int), y2])
        rw [en]
        exact f10.tup _ _ upd_same
      · rintro H6 ⟨f6, acc2, hD6, hacc2⟩
        rw [List.length_drop] at hacc2
        have hl : ws.length = ns.length := hws.length
        rw [List.take_of_length_le (by unfold due; rw [due_len, List.length_drop]; omega)] at hacc2
        have hu6 := f6.keep _ _ hu5 (by simp)
        have w1 := waits_len (hs := hs) (xs := (lettersD (es.take n)).take i) (N := 1000) fun x hx => Nat.le_trans (ld_le x (List.mem_of_mem_take hx)) nEs
        have w2 := ld_len (es.take n)
        have w3 : ((lettersD (es.take n)).take i).length ≤ 2 := by rw [List.length_take]; omega
        have w4 := ld_le (r, ns) (List.mem_of_getElem? hr)
        have w5 : (due r (hget hs r) ns).length ≤ 1000 := by
          unfold due
          rw [due_len, List.length_drop]
          have : ns.length ≤ (es.take n).length := w4
          omega
        have w6 := Nat.mul_le_mul_right 1000 w3
        refine ⟨u, D, acc, acc2, rfl, rfl, hu6, hD6, ?_, ?_⟩
        · rw [hacc.length, hacc2.length]
          exact Nat.le_trans (by omega : _ ≤ 3000) (by decide)
        · have g6 : Frm [u, d] H2 H6 := g5.step f6
          have g7 : Frm [u, d] H2 (upd H6 u (.lst (acc ++ acc2))) := g6.lst (.inl (by simp)) hu6
          have hd6 : H6 d = some (.frz od (.dK kvs)) := f6.keep _ _ (f5.keep _ _ ((upd_ne (ne_of_none hd3 hTp)).trans hd3) (by simp)) (by simp)
          refine ⟨_, _, _, acc ++ acc2, rfl, g7, (upd_ne nud.symm).trans hd6, upd_same, ?_⟩
          rw [waits_next hr]
          have g8 : Frm [u] H6 (upd H6 u (.lst (acc ++ acc2))) := (Frm.refl [u] H6).lst (.inl (by simp)) hu6
          have h9 : Frm [] H3 H6 := (((Frm.refl [] H3).new hTp).step f5).step f6
          exact pd_append (uts_keep (uts_keep hacc h9) g8) (uts_keep hacc2 g8)
    · rintro σ H3 ⟨v2, v3, v4, acc, rfl, f3, hd3, hu3, hacc⟩
      refine ⟨_, rfl, ?_⟩
      rw [rows.length, List.take_length] at hacc
      exact k _ u acc (q0.trans f3 (fun b hb => .inr (by
        simp only [List.mem_cons, List.not_mem_nil, or_false] at hb
        rcases hb with rfl | rfl
        · exact hu0
        · exact hd1))) hu0 hu3 hacc
end
end K58
/-! Post.hear: it notes a number, or raises BadEntry. -/
namespace K58
open PySem L2 PyProof.Rows TL
def hput (hs : List (Str × Nat)) (r : Str) (n : Nat) : List (Str × Nat) :=
  if hs.any (fun x => decide (x.1 = r)) = true then hs.map (fun x => if x.1 = r then (x.1, n) else x) else hs ++ [(r, n)]
theorem hk_put (hs : List (Str × Nat)) (r : Str) (n : Nat) : putK (hk hs) (Sum.inr r : Key) (.int (n : Int)) = hk (hput hs r n) := by
  have e : ((hk hs).any fun kv => decide (kv.1 = (Sum.inr r : Key))) = hs.any fun x => decide (x.1 = r) := by
    unfold hk
    rw [List.any_map]
    refine congrArg (fun f => List.any hs f) (funext fun x => ?_)
    show decide ((Sum.inr x.1 : Key) = Sum.inr r) = _
    exact decide_eq_decide.mpr ⟨fun z => Sum.inr.inj z, fun z => by rw [z]⟩
  unfold putK hput
  rw [e]
  split
  · unfold hk
    rw [List.map_map, List.map_map]
    refine List.map_congr_left fun x _ => ?_
    show (if (Sum.inr x.1 : Key) = Sum.inr r then ((Sum.inr x.1 : Key), V.int (n : Int)) else ((Sum.inr x.1 : Key), V.int (x.2 : Int))) = (fun x : Str × Nat => ((Sum.inr x.1 : Key), V.int (x.2 : Int))) (if x.1 = r then (x.1, n) else x)
    by_cases h : x.1 = r
    · rw [if_pos h, if_pos (by rw [h])]
    · rw [if_neg h, if_neg (fun z => h (Sum.inr.inj z))]
  · unfold hk
    rw [List.map_append] <;> rfl
theorem hk_len (hs : List (Str × Nat)) : (hk hs).length = hs.length := by unfold hk; rw [List.length_map]
/-- how many settled letters a receiver has -/
def lenOf (r : Str) (es : List Ent) : Nat := (((lettersD es).lookup r).getD []).length
theorem rows_lookup {H : Hp} (r : Str) : ∀ {kvs : List (Key × V)} {xs : List (Str × List Str)}, Paired (RowD H) kvs xs → (valV kvs (Sum.inr r : Key) = none ∧ xs.lookup r = none) ∨ ∃ v ns, valV kvs (Sum.inr r : Key) = some v ∧ xs.lookup r = some ns ∧ TT H v ns
  | _, _, .nil => .inl ⟨rfl, rfl⟩
  | _, _, @Paired.cons _ _ _ kv x _ _ h t => by
    obtain ⟨k, v⟩ := kv
    obtain ⟨q, ns⟩ := x
    obtain ⟨h1, h2⟩ := h
    change k = Sum.inr q at h1
    subst h1
    by_cases e : q = r
    · subst e
      exact .inr ⟨v, ns, valV_pos rfl, List.lookup_cons_self, h2⟩
    · rw [valV_neg (fun z => e (Sum.inr.inj z)), List.lookup_cons]
      have : (r == q) = false := by simp [Ne.symm e]
      rw [this]
      exact rows_lookup r t
def badNum (v : V) (m : Nat) : Prop := (∃ i : Int, v = .int i ∧ ¬ (0 ≤ i ∧ i ≤ (m : Int))) ∨ ∃ b, v = .bl b
section
variable {P : Program} {w : World} {K : PySem.W.Frag} {mg : Str → Option Value} {base : Heap} {A : Ads}
def spPH (C D B : Addr) : Sp := fun vs H Q E => ∃ (q dxq p hd : Addr) (hs : List (Str × Nat)) (dx l jr : Addr) (x y : Str) (es : List Ent) (k : Nat) (r : Str) (v : V), vs = [.ref q, .str r, v] ∧ PAt C H q dxq p hd hs ∧ JAt D H p dx l jr x y es k ∧ es.length ≤ 1000 ∧ hs.length ≤ 900 ∧
  ((∃ n : Nat, v = .int (n : Int) ∧ n ≤ lenOf r (es.take k) ∧ ∀ H', Frm [hd] H H' → PAt C H' q dxq p hd (hput hs r (max n (hget hs r))) → Q .non H') ∨
   (badNum v (lenOf r (es.take k)) ∧ ∀ d t H', Frm [] H H' → H d = none → H' t = some (.tup [.str r, v]) → H' d = some (.xd [(("entry" : Str), .ref t)]) → E (.ref B) (some d) H'))
theorem scPH : FnScope ["self", "receiver", "number", "letters"] ["self", "receiver", "number"] (defScope sPH) := ⟨rfl, rfl, rfl, by decide +kernel, rfl, by decide +kernel, by decide +kernel⟩
theorem ok_ph (hP : P = PW) (T : Tx K mg A) : FnOk P w K mg base (L2.CX P w) 2 A.fPH A.dPH ["self", "receiver", "number"] (spPH A.cP A.cJ A.cB) := by
  have GL : FnOk P w K mg base CX0 1 A.fJL A.dJL ["self"] (spJL A.cJ) := ok_jl T
  have GW : FnOk P w K mg base CX0 1 A.fWhole A.dWhole ["thing", "low", "high"] spWhole := ok_whole T
  refine T.FPH.okX scPH (fun vs H Q E h => ?_) (fun cdv B outer s H vs Q E hr h => ?_)
  · obtain ⟨q, dxq, p, hd, hs, dx, l, jr, x, y, es, n, r, v, rfl, _⟩ := h
    rfl
  · obtain ⟨q, dxq, p, hd, hs, dx, l, jr, x, y, es, n, r, v, rfl, Pq, J, hlen, hhl, h⟩ := h
    have hu := hu_of hr
    refine ⟨_, pss_cons (ps_set (i := 3) scPH.nd rfl (.inl rfl) (pe_dget2 hu (pe_meth0 (pe_fld (pv 0) rfl) T.clJ T.mJL GL hr (bJL T) .nil pass0) (pv 1) (pe_tup pa_nil) ⟨by rfl, by rfl, by rfl, by rfl⟩))
      (pss_cons (ps_if (pt_not (pt_val (pe_call GW hr (by rfl) T.gWhole T.FWhole.kp (bWhole T) .nil pass0 (pa_cons (pv 2) (pa_cons pe_int (pa_cons (pe_callB call_len_seq (by rfl) T.b_len PySem.boot_len (pa_cons (pv 3) pa_nil)) pa_nil))))))
        (pss_one (ps_raise rfl (takes_of (E := E) rfl rfl rfl rfl) (pmk_bad hP T.bad (by rfl) T.gB T.b_super hr (pa_cons (pe_tup (pa_cons (pv 1) (pa_cons (pv 2) pa_nil))) pa_nil)))) pss_nil)
      (pss_one (ps_dput hu (pe_fld (pv 0) rfl) (pv 1) (pe_callB (call_max2 rfl) (by rfl) T.b_max (by decide +kernel) (pa_cons (pv 2) (pa_cons (pe_dget2 hu (pe_fld (pv 0) rfl) (pv 1) pe_int ⟨by rfl, by rfl, by rfl, by rfl⟩) pa_nil))) rfl))), ?_⟩
    refine ⟨_, rfl, q, A.cP, dxq, _, _, rfl, Pq.ob, T.clP, T.nPjournal, rfl, p, dx, _, rfl, J.ob, rfl, p, dx, l, jr, x, y, es, n, rfl, J, hlen, fun H1 d f1 hd0 hLD => ?_⟩
    obtain ⟨kvs, hd1, rows⟩ := hLD
    refine ⟨d, rfl, .inl ⟨_, .inl hd1⟩, _, rfl, Nat.zero_le _, fun t0 ht0 => ?_⟩
    have f2 : Frm [] H1 (upd H1 t0 (.tup [])) := (Frm.refl [] H1).new ht0
    have hd2 := f2.keep _ _ hd1 (by simp)
    refine ⟨_, DGet.k (k := (Sum.inr r : Key)) hd2, ?_⟩
    obtain ⟨t, ws, et, ht, hws⟩ : ∃ t ws, (valV kvs (Sum.inr r : Key)).getD (.ref t0) = V.ref t ∧ (upd H1 t0 (.tup [])) t = some (.tup ws) ∧ ws.length = lenOf r (es.take n) := by
      unfold lenOf
      rcases rows_lookup r rows with ⟨e1, e2⟩ | ⟨v', ns, e1, e2, t, vs', rfl, ht, hp⟩
      · rw [e1, e2]
        exact ⟨t0, [], rfl, upd_same, rfl⟩
      · rw [e1, e2]
        exact ⟨t, vs', rfl, f2.tup _ _ ht, hp.length⟩
    rw [et]
    have f3 := f1.step f2
    have P3 := Pq.keep f3 (by simp) (by simp)
    rcases h with ⟨c, rfl, hc, k⟩ | ⟨hbad, k⟩
    · refine ⟨_, rfl, _, rfl, t, _, rfl, .inr (SqT.of ht), _, 0, _, rfl, .inl ⟨(c : Int), rfl, _, rfl, ?_⟩⟩
      rw [decide_eq_true (⟨by omega, by rw [hws]; omega⟩ : (0 : Int) ≤ (c : Int) ∧ (c : Int) ≤ (ws.length : Int))]
      refine iteF ?_
      refine ⟨_, rfl, _, rfl, q, A.cP, dxq, _, _, rfl, P3.ob, T.clP, T.nPheard, rfl, hd, rfl, .inl ⟨_, .inl P3.hd⟩, _, rfl, _, DGet.k (k := (Sum.inr r : Key)) P3.hd, ?_⟩
      rw [hk_getD]
      refine ⟨_, _, rfl, ?_⟩
      have em : (if ((hget hs r : Nat) : Int) > (c : Int) then ((hget hs r : Nat) : Int) else (c : Int)) = ((max c (hget hs r) : Nat) : Int) := by
        split <;> omega
      rw [em]
      refine ⟨_, rfl, q, A.cP, dxq, _, _, rfl, P3.ob, T.clP, T.nPheard, rfl, _, rfl, hd, _, rfl, DPut.k (k := (Sum.inr r : Key)) P3.hd (by rw [hk_len]; exact small1000 (by omega)), ?_⟩
      rw [hk_put]
      have nqh : q ≠ hd := ne_of P3.ob P3.hd (by intro z; cases z)
      exact k _ ((f3.weak (M := [hd]) (by simp)).dk (.inl (by simp)) P3.hd) ⟨(upd_ne nqh).trans P3.ob, upd_same⟩
    · rcases hbad with ⟨i, rfl, hi⟩ | ⟨b, rfl⟩
      · refine ⟨_, rfl, _, rfl, t, _, rfl, .inr (SqT.of ht), _, 0, _, rfl, .inl ⟨i, rfl, _, rfl, ?_⟩⟩
        rw [decide_eq_false (by rw [hws]; exact hi)]
        refine iteT ?_
        refine ⟨_, rfl, _, rfl, by show 2 ≤ sizeLine; decide, fun t2 ht2 => ⟨_, rfl, fun d2 hd2' => ?_⟩⟩
        have f4 := f3.new (o := .tup [.str r, .int i]) ht2
        refine k d2 t2 _ (f4.new hd2') (f4.free hd2') ?_ upd_same
        exact (upd_ne (ne_of_none upd_same hd2')).trans upd_same
      · refine ⟨_, rfl, _, rfl, t, _, rfl, .inr (SqT.of ht), _, 0, _, rfl, .inr ⟨b, rfl, _, rfl, iteT ?_⟩⟩
        refine ⟨_, rfl, _, rfl, by show 2 ≤ sizeLine; decide, fun t2 ht2 => ⟨_, rfl, fun d2 hd2' => ?_⟩⟩
        have f4 := f3.new (o := .tup [.str r, .bl b]) ht2
        refine k d2 t2 _ (f4.new hd2') (f4.free hd2') ?_ upd_same
        exact (upd_ne (ne_of_none upd_same hd2')).trans upd_same
end
end K58
/-! A receiver: __init__, get. -/
namespace K58
open PySem L2 PyProof.Rows TL
theorem valV_mem {κ : Type} [DecidableEq κ] {k : κ} {v : V} : ∀ {kvs : List (κ × V)}, valV kvs k = some v → (k, v) ∈ kvs
  | [], h => by cases h
  | (q, u) :: r, h => by
    by_cases e : q = k
    · subst e
      rw [valV_pos rfl] at h
      cases h
      exact List.mem_cons_self
    · rw [valV_neg e] at h
      exact List.mem_cons_of_mem _ (valV_mem h)
theorem valV_some {κ : Type} [DecidableEq κ] {k : κ} {v : V} : ∀ {kvs : List (κ × V)}, (k, v) ∈ kvs → ∃ u, valV kvs k = some u
  | [], h => by cases h
  | (q, u) :: r, h => by
    by_cases e : q = k
    · exact ⟨u, valV_pos e⟩
    · rw [valV_neg e]
      rcases List.mem_cons.mp h with z | z
      · exact absurd (Prod.mk.inj z).1.symm e
      · exact valV_some z
theorem putK_mem {κ : Type} [DecidableEq κ] {k : κ} {v : V} {kvs : List (κ × V)} {p : κ × V} (h : p ∈ putK kvs k v) : p = (k, v) ∨ p ∈ kvs := by
  unfold putK at h
  split at h
  · obtain ⟨q, hq, e⟩ := List.mem_map.mp h
    by_cases z : q.1 = k
    · rw [if_pos z] at e
      rw [← e, z]
      exact .inl rfl
    · rw [if_neg z] at e
      rw [← e]
      exact .inr hq
  · rcases List.mem_append.mp h with z | z
    · exact .inr z
    · exact .inl (List.mem_singleton.mp z)
theorem mem_putK {κ : Type} [DecidableEq κ] {k : κ} {v : V} {kvs : List (κ × V)} : (k, v) ∈ putK kvs k v := by
  have e : valV (putK kvs k v) k = some v := by rw [valV_put, if_pos rfl]
  exact valV_mem e
theorem mem_putK_of {κ : Type} [DecidableEq κ] {k q : κ} {v u : V} {kvs : List (κ × V)} (h : (q, u) ∈ kvs) : ∃ u', (q, u') ∈ putK kvs k v := by
  by_cases e : q = k
  · subst e
    exact ⟨v, mem_putK⟩
  · obtain ⟨u', hu⟩ := valV_some h
    have : valV (putK kvs k v) q = some u' := by rw [valV_put, if_neg e, hu]
    exact ⟨u', valV_mem this⟩
theorem dropK_mem {κ : Type} [DecidableEq κ] {k : κ} {kvs : List (κ × V)} {p : κ × V} : p ∈ dropK kvs k ↔ p ∈ kvs ∧ p.1 ≠ k := by
  unfold dropK
  rw [List.mem_filter]
  simp
/-- what a receiver holds of the letters L: m taken, some early, D all that it was given -/
structure RAt (C : Addr) (H : Hp) (r dx tl ed : Addr) (L : List Str) (m c : Nat) (D : Nat → Prop) : Prop where
  ob : H r = some (.ins C dx (rf tl ed))
  tk : ∃ vs, H tl = some (.lst vs) ∧ Paired (LT H) vs (L.take m)
  le : m ≤ L.length
  er : ∃ kvs, H ed = some (.dK kvs) ∧ kvs.length ≤ c ∧ (∀ p ∈ kvs, ∃ (n : Nat) (nm : Str), p.1 = (Sum.inl ((n : Int) + 1) : Key) ∧ L[n]? = some nm ∧ LT H p.2 nm) ∧
    (∀ n, D n → n ≤ m ∨ ∃ u, ((Sum.inl (n : Int) : Key), u) ∈ kvs) ∧ valV kvs (Sum.inl ((m : Int) + 1) : Key) = none
theorem RAt.keep {M : List Addr} {C : Addr} {H H1 : Hp} {r dx tl ed : Addr} {L : List Str} {m c : Nat} {D : Nat → Prop} (R : RAt C H r dx tl ed L m c D) (f : Frm M H H1) (h1 : r ∉ M) (h2 : tl ∉ M) (h3 : ed ∉ M) : RAt C H1 r dx tl ed L m c D := by
  obtain ⟨vs, a1, a2⟩ := R.tk
  obtain ⟨kvs, b1, b2, b3, b4, b5⟩ := R.er
  refine ⟨f.keep _ _ R.ob h1, ⟨vs, f.keep _ _ a1 h2, lts_keep a2 f⟩, R.le, kvs, f.keep _ _ b1 h3, b2, fun p hp => ?_, b4, b5⟩
  obtain ⟨n, nm, c1, c2, c3⟩ := b3 p hp
  exact ⟨n, nm, c1, c2, c3.keep f⟩
/-- the letters have grown -/
theorem RAt.grow {C : Addr} {H : Hp} {r dx tl ed : Addr} {L L' : List Str} {m c : Nat} {D : Nat → Prop} (R : RAt C H r dx tl ed L m c D) : RAt C H r dx tl ed (L ++ L') m c D := by
  obtain ⟨vs, a1, a2⟩ := R.tk
  obtain ⟨kvs, b1, b2, b3, b4, b5⟩ := R.er
  refine ⟨R.ob, ⟨vs, a1, ?_⟩, ?_, kvs, b1, b2, fun p hp => ?_, b4, b5⟩
  · rw [List.take_append_of_le_length R.le]
    exact a2
  · have := R.le
    rw [List.length_append]
    omega
  · obtain ⟨n, nm, c1, c2, c3⟩ := b3 p hp
    refine ⟨n, nm, c1, ?_, c3⟩
    rw [List.getElem?_append_left (List.getElem?_eq_some_iff.mp c2).1]
    exact c2
/-- all up to n given: all up to n taken -/
theorem RAt.all {C : Addr} {H : Hp} {r dx tl ed : Addr} {L : List Str} {m c : Nat} {D : Nat → Prop} (R : RAt C H r dx tl ed L m c D) {n : Nat} (h : ∀ j, j ≤ n → 1 ≤ j → j ≤ m ∨ D j) : n ≤ m := by
  obtain ⟨kvs, b1, b2, b3, b4, b5⟩ := R.er
  by_cases q : n ≤ m
  · exact q
  · rcases h (m + 1) (by omega) (by omega) with z | z
    · omega
    · rcases b4 _ z with y | ⟨u, y⟩
      · omega
      · obtain ⟨u', e⟩ := valV_some y
        have e2 : (((m + 1 : Nat) : Int)) = (m : Int) + 1 := by omega
        rw [e2, b5] at e
        cases e
theorem RAt.weak {C : Addr} {H : Hp} {r dx tl ed : Addr} {L : List Str} {m c c' : Nat} {D D' : Nat → Prop} (R : RAt C H r dx tl ed L m c D) (h : c ≤ c') (hD : ∀ n, D' n → D n) : RAt C H r dx tl ed L m c' D' := by
  obtain ⟨kvs, b1, b2, b3, b4, b5⟩ := R.er
  exact ⟨R.ob, R.tk, R.le, kvs, b1, Nat.le_trans b2 h, b3, fun n d => b4 n (hD n d), b5⟩
/-- a receiver within get -/
structure Mid (C : Addr) (H0 H : Hp) (r dx tl ed : Addr) (L : List Str) (m c : Nat) (D : Nat → Prop) (vs : List V) (kvs : List (Key × V)) : Prop where
  ob : H r = some (.ins C dx (rf tl ed))
  tk : H tl = some (.lst vs)
  ts : Paired (LT H) vs (L.take m)
  le : m ≤ L.length
  ek : H ed = some (.dK kvs)
  el : kvs.length ≤ c
  en : ∀ p ∈ kvs, ∃ (n : Nat) (nm : Str), p.1 = (Sum.inl ((n : Int) + 1) : Key) ∧ L[n]? = some nm ∧ LT H p.2 nm
  hd : ∀ n, D n → n ≤ m ∨ ∃ u, ((Sum.inl (n : Int) : Key), u) ∈ kvs
  fr : Frm [tl, ed] H0 H
theorem Mid.len {C : Addr} {H0 H : Hp} {r dx tl ed : Addr} {L : List Str} {m c : Nat} {D : Nat → Prop} {vs : List V} {kvs : List (Key × V)} (M : Mid C H0 H r dx tl ed L m c D vs kvs) : vs.length = m := by
  rw [M.ts.length, List.length_take, Nat.min_eq_left M.le]
section
variable {P : Program} {w : World} {K : PySem.W.Frag} {mg : Str → Option Value} {base : Heap} {A : Ads}
def spRI (C : Addr) : Sp := fun vs H Q _ => ∃ r dx : Addr, vs = [.ref r] ∧ H r = some (.ins C dx []) ∧ ∀ H' tl ed, Frm [r] H H' → H tl = none → H ed = none → RAt C H' r dx tl ed [] 0 0 (fun _ => False) → Q .non H'
theorem scRI : FnScope ["self"] ["self"] (defScope sRI) := ⟨rfl, rfl, rfl, by decide +kernel, rfl, by decide +kernel, by decide +kernel⟩
theorem ok_ri (T : Tx K mg A) : FnOk P w K mg base CX0 1 A.fRI A.dRI ["self"] (spRI A.cR) := by
  refine T.FRI.ok scRI (fun vs H Q E h => ?_) (fun cdv B outer s H vs Q E hr h => ?_)
  · obtain ⟨r, dx, rfl, _⟩ := h
    rfl
  · obtain ⟨r, dx, rfl, hq, k⟩ := h
    refine ⟨_, pss_cons (ps_fld (pv 0) (pe_lst pa_nil) rfl) (pss_one (ps_fld (pv 0) pe_dnewK rfl)), ?_⟩
    refine ⟨Nat.zero_le _, fun l hl => ?_⟩
    have nrl : r ≠ l := ne_of_none hq hl
    refine ⟨_, rfl, r, A.cR, dx, [], rfl, (upd_ne nrl).trans hq, T.clR, T.nRtaken, (by show 0 < 1000; decide), ?_⟩
    intro d hd
    have nrd : r ≠ d := ne_of_none upd_same hd
    have f1 : Frm [r] H (upd (upd H l (.lst [])) r (.ins A.cR dx (putF "taken" (.ref l) []))) := ((Frm.refl [r] H).new hl).ins (.inl (by simp)) ((upd_ne nrl).trans hq)
    have hl2 : (upd (upd H l (.lst [])) r (.ins A.cR dx (putF "taken" (.ref l) []))) l = some (.lst []) := (upd_ne nrl.symm).trans upd_same
    have nld : l ≠ d := ne_of_none hl2 hd
    refine ⟨_, rfl, r, A.cR, dx, _, rfl, (upd_ne nrd).trans upd_same, T.clR, T.nRearly, (by show 1 < 1000; decide), ?_⟩
    refine k _ l d ((f1.new hd).ins (.inl (by simp)) ((upd_ne nrd).trans upd_same)) hl (f1.free hd) ⟨upd_same, ⟨[], ?_, .nil⟩, Nat.le_refl _, [], (upd_ne nrd.symm).trans upd_same, Nat.le_refl _, fun p hp => absurd hp (by simp), fun n z => z.elim, rfl⟩
    rw [upd_ne nrl.symm, upd_ne nld]
    exact hl2
/-! ### get -/
def spRG (C : Addr) : Sp := fun vs H Q _ => ∃ (r dx tl ed : Addr) (L : List Str) (m c : Nat) (D : Nat → Prop) (n : Nat) (nm : Str) (v : V), vs = [.ref r, .int ((n : Int) + 1), v] ∧ L[n]? = some nm ∧ LT H v nm ∧ RAt C H r dx tl ed L m c D ∧ c ≤ 900 ∧ L.length ≤ 1000 ∧
  ∀ H' m', Frm [tl, ed] H H' → m ≤ m' → RAt C H' r dx tl ed L m' (c + 1) (fun j => D j ∨ j = n + 1) → Q (.int (m' : Int)) H'
theorem scRG : FnScope ["self", "number", "letter"] ["self", "number", "letter"] (defScope sRG) := ⟨rfl, rfl, rfl, by decide +kernel, rfl, by decide +kernel, by decide +kernel⟩
theorem ok_rg (T : Tx K mg A) : FnOk P w K mg base CX0 1 A.fRG A.dRG ["self", "number", "letter"] (spRG A.cR) := by
  refine T.FRG.ok scRG (fun vs H Q E h => ?_) (fun cdv B outer s H vs Q E hr h => ?_)
  · obtain ⟨r, dx, tl, ed, L, m, c, D, n, nm, v, rfl, _⟩ := h
    rfl
  · obtain ⟨r, dx, tl, ed, L, m, c, D, n, nm, v, rfl, hn, hv, R, hc, hL, k⟩ := h
    have hu := hu_of hr
    refine ⟨_, pss_cons (ps_if (pt_cmpR op_gt (pv 1) (pe_callB call_len_seq (by rfl) T.b_len PySem.boot_len (pa_cons (pe_fld (pv 0) rfl) pa_nil)) (nomark _)) (pss_one (ps_dput hu (pe_fld (pv 0) rfl) (pv 1) (pv 2) rfl)) pss_nil)
      (pss_cons (ps_while PassesOwn.never (pt_cmp (pc_din hu (pe_op op_add (pe_callB call_len_seq (by rfl) T.b_len PySem.boot_len (pa_cons (pe_fld (pv 0) rfl) pa_nil)) pe_int) (pe_fld (pv 0) rfl)))
        (pss_one (ps_expr (pe_bm PySem.F.plainAttrs_list PySem.F.slot_list_append PySem.F.type_list_append mt_append (pe_fld (pv 0) rfl) (pa_cons
          (pe_dpop1 (pe_fld (pv 0) rfl) (pe_op op_add (pe_callB call_len_seq (by rfl) T.b_len PySem.boot_len (pa_cons (pe_fld (pv 0) rfl) pa_nil)) pe_int) ⟨by rfl, by rfl, by rfl, by rfl⟩) pa_nil)))))
      (pss_one (ps_ret (pe_callB call_len_seq (by rfl) T.b_len PySem.boot_len (pa_cons (pe_fld (pv 0) rfl) pa_nil))))), ?_⟩
    obtain ⟨vs, htl, hvs⟩ := R.tk
    obtain ⟨kvs, hed, b2, b3, b4, b5⟩ := R.er
    have hm := R.le
    have hvl : vs.length = m := by rw [hvs.length, List.length_take, Nat.min_eq_left hm]
    have hnL : n < L.length := (List.getElem?_eq_some_iff.mp hn).1
    refine ⟨_, rfl, _, rfl, r, A.cR, dx, _, _, rfl, R.ob, T.clR, T.nRtaken, rfl, tl, vs, rfl, .inl (SqL.of htl), _, _, rfl, rfl, _, rfl, ?_⟩
    refine ite2 (fun hgt => ?_) (fun hle => ?_)
    · refine ⟨_, rfl, _, rfl, r, A.cR, dx, _, _, rfl, R.ob, T.clR, T.nRearly, rfl, _, rfl, ed, _, rfl, DPut.k (k := (Sum.inl ((n : Int) + 1) : Key)) hed (small1000 (by omega)), ?_⟩
      have nre : r ≠ ed := ne_of R.ob hed (by intro z; cases z)
      have net : tl ≠ ed := ne_of htl hed (by intro z; cases z)
      have g1 : Frm [tl, ed] H (upd H ed (.dK (putK kvs (Sum.inl ((n : Int) + 1) : Key) v))) := (Frm.refl _ H).dk (.inl (by simp)) hed
      have M : Mid A.cR H (upd H ed (.dK (putK kvs (Sum.inl ((n : Int) + 1) : Key) v))) r dx tl ed L m (c + 1) (fun j => D j ∨ j = n + 1) vs (putK kvs (Sum.inl ((n : Int) + 1) : Key) v) := by
        refine ⟨(upd_ne nre).trans R.ob, (upd_ne net).trans htl, lts_keep hvs g1, hm, upd_same, ?_, fun p hp => ?_, fun j hj => ?_, g1⟩
        · have := length_putK kvs (Sum.inl ((n : Int) + 1) : Key) v
          omega
        · rcases putK_mem hp with rfl | hp
          · exact ⟨n, nm, rfl, hn, hv.keep g1⟩
          · obtain ⟨n2, nm2, c1, c2, c3⟩ := b3 p hp
            exact ⟨n2, nm2, c1, c2, c3.keep g1⟩
        · rcases hj with hj | rfl
          · rcases b4 j hj with z | ⟨u, z⟩
            · exact .inl z
            · exact .inr (mem_putK_of z)
          · have e2 : (((n + 1 : Nat) : Int)) = (n : Int) + 1 := by omega
            rw [e2]
            exact .inr ⟨v, mem_putK⟩
      refine ⟨fun μ σ H1 => ∃ m1 vs1 kvs1, μ = L.length - m1 ∧ m ≤ m1 ∧ σ = [some (.ref r), some (.int ((n : Int) + 1)), some v] ∧ Mid A.cR H H1 r dx tl ed L m1 (c + 1) (fun j => D j ∨ j = n + 1) vs1 kvs1, ⟨_, m, vs, _, rfl, Nat.le_refl _, rfl, M⟩, ?_⟩
      rintro μ σ H1 ⟨m1, vs1, kvs1, rfl, hm, rfl, M1⟩
      refine ⟨_, rfl, r, A.cR, dx, _, _, rfl, M1.ob, T.clR, T.nRtaken, rfl, tl, vs1, rfl, .inl (SqL.of M1.tk), _, _, rfl, rfl, _, rfl, r, A.cR, dx, _, _, rfl, M1.ob, T.clR, T.nRearly, rfl, ed, _, rfl, DGet.k (k := (Sum.inl ((vs1.length : Int) + 1) : Key)) M1.ek, _, rfl, ?_⟩
      rw [M1.len]
      cases e : valV kvs1 (Sum.inl ((m1 : Int) + 1) : Key) with
      | some u =>
        obtain ⟨j, nm1, e1, e2, e3⟩ := M1.en _ (valV_mem e)
        have ej : j = m1 := by
          have := Sum.inl.inj e1
          omega
        subst ej
        have hlt : j < L.length := (List.getElem?_eq_some_iff.mp e2).1
        refine iteT ⟨fun σ' H' => ∃ m', m' < L.length - j ∧ ∃ m1 vs1 kvs1, m' = L.length - m1 ∧ m ≤ m1 ∧ σ' = [some (.ref r), some (.int ((n : Int) + 1)), some v] ∧ Mid A.cR H H' r dx tl ed L m1 (c + 1) (fun j => D j ∨ j = n + 1) vs1 kvs1, fun _ _ z => z, ?_⟩
        have net : ed ≠ tl := ne_of M1.ek M1.tk (by intro z; cases z)
        have nre : r ≠ ed := ne_of M1.ob M1.ek (by intro z; cases z)
        have nrt : r ≠ tl := ne_of M1.ob M1.tk (by intro z; cases z)
        have htl2 : (upd H1 ed (.dK (dropK kvs1 (Sum.inl ((j : Int) + 1) : Key)))) tl = some (.lst vs1) := (upd_ne net.symm).trans M1.tk
        refine ⟨_, rfl, r, A.cR, dx, _, _, rfl, M1.ob, T.clR, T.nRtaken, rfl, .inl ⟨rfl, vs1, SqL.of M1.tk⟩, _, rfl, r, A.cR, dx, _, _, rfl, M1.ob, T.clR, T.nRearly, rfl, ed, rfl, .inl ⟨_, .inl M1.ek⟩,
          _, rfl, r, A.cR, dx, _, _, rfl, M1.ob, T.clR, T.nRtaken, rfl, tl, vs1, rfl, .inl (SqL.of M1.tk), _, _, rfl, rfl, kvs1, (Sum.inl ((j : Int) + 1) : Key), u, M1.ek, by rw [M1.len] <;> rfl, e, ?_⟩
        refine ⟨tl, vs1, u, rfl, rfl, htl2, small1000 (by rw [M1.len]; omega), ?_⟩
        have g1 : Frm [tl, ed] H1 (upd H1 ed (.dK (dropK kvs1 (Sum.inl ((j : Int) + 1) : Key)))) := (Frm.refl _ H1).dk (.inl (by simp)) M1.ek
        have g2 := g1.lst (o := .lst (vs1 ++ [u])) (.inl (by simp)) htl2
        refine ⟨L.length - (j + 1), by omega, j + 1, vs1 ++ [u], dropK kvs1 (Sum.inl ((j : Int) + 1) : Key), rfl, by omega, rfl, ?_⟩
        refine ⟨(upd_ne nrt).trans ((upd_ne nre).trans M1.ob), upd_same, ?_, hlt, (upd_ne net).trans upd_same, Nat.le_trans (dropK_le _ _) M1.el, fun p hp => ?_, fun n' hn' => ?_, M1.fr.trans g2 (fun b hb => .inl hb)⟩
        · rw [take_at e2]
          exact pd_append (lts_keep M1.ts g2) (.cons (e3.keep g2) .nil)
        · obtain ⟨n2, nm2, c1, c2, c3⟩ := M1.en p (dropK_mem.mp hp).1
          exact ⟨n2, nm2, c1, c2, c3.keep g2⟩
        · rcases M1.hd n' hn' with z | ⟨u', z⟩
          · exact .inl (by omega)
          · by_cases q : n' = j + 1
            · exact .inl (by omega)
            · refine .inr ⟨u', dropK_mem.mpr ⟨z, fun y => q ?_⟩⟩
              have := Sum.inl.inj y
              omega
      | none =>
        refine iteF ?_
        refine ⟨_, rfl, r, A.cR, dx, _, _, rfl, M1.ob, T.clR, T.nRtaken, rfl, tl, vs1, rfl, .inl (SqL.of M1.tk), ?_⟩
        rw [M1.len]
        exact k _ m1 M1.fr hm ⟨M1.ob, ⟨vs1, M1.tk, M1.ts⟩, M1.le, kvs1, M1.ek, M1.el, M1.en, M1.hd, e⟩
    · have hnm : n + 1 ≤ m := by
        rw [hvl] at hle
        have : ¬ ((n : Int) + 1 > (m : Int)) := fun z => hle (decide_eq_true z)
        omega
      have M : Mid A.cR H H r dx tl ed L m (c + 1) (fun j => D j ∨ j = n + 1) vs kvs := by
        refine ⟨R.ob, htl, hvs, hm, hed, by omega, b3, fun j hj => ?_, Frm.refl _ _⟩
        rcases hj with hj | rfl
        · exact b4 j hj
        · exact .inl hnm
      refine ⟨fun μ σ H1 => ∃ m1 vs1 kvs1, μ = L.length - m1 ∧ m ≤ m1 ∧ σ = [some (.ref r), some (.int ((n : Int) + 1)), some v] ∧ Mid A.cR H H1 r dx tl ed L m1 (c + 1) (fun j => D j ∨ j = n + 1) vs1 kvs1, ⟨_, m, vs, _, rfl, Nat.le_refl _, rfl, M⟩, ?_⟩
      rintro μ σ H1 ⟨m1, vs1, kvs1, rfl, hm, rfl, M1⟩
      refine ⟨_, rfl, r, A.cR, dx, _, _, rfl, M1.ob, T.clR, T.nRtaken, rfl, tl, vs1, rfl, .inl (SqL.of M1.tk), _, _, rfl, rfl, _, rfl, r, A.cR, dx, _, _, rfl, M1.ob, T.clR, T.nRearly, rfl, ed, _, rfl, DGet.k (k := (Sum.inl ((vs1.length : Int) + 1) : Key)) M1.ek, _, rfl, ?_⟩
      rw [M1.len]
      cases e : valV kvs1 (Sum.inl ((m1 : Int) + 1) : Key) with
      | some u =>
        obtain ⟨j, nm1, e1, e2, e3⟩ := M1.en _ (valV_mem e)
        have ej : j = m1 := by
          have := Sum.inl.inj e1
          omega
        subst ej
        have hlt : j < L.length := (List.getElem?_eq_some_iff.mp e2).1
        refine iteT ⟨fun σ' H' => ∃ m', m' < L.length - j ∧ ∃ m1 vs1 kvs1, m' = L.length - m1 ∧ m ≤ m1 ∧ σ' = [some (.ref r), some (.int ((n : Int) + 1)), some v] ∧ Mid A.cR H H' r dx tl ed L m1 (c + 1) (fun j => D j ∨ j = n + 1) vs1 kvs1, fun _ _ z => z, ?_⟩
        have net : ed ≠ tl := ne_of M1.ek M1.tk (by intro z; cases z)
        have nre : r ≠ ed := ne_of M1.ob M1.ek (by intro z; cases z)
        have nrt : r ≠ tl := ne_of M1.ob M1.tk (by intro z; cases z)
        have htl2 : (upd H1 ed (.dK (dropK kvs1 (Sum.inl ((j : Int) + 1) : Key)))) tl = some (.lst vs1) := (upd_ne net.symm).trans M1.tk
        refine ⟨_, rfl, r, A.cR, dx, _, _, rfl, M1.ob, T.clR, T.nRtaken, rfl, .inl ⟨rfl, vs1, SqL.of M1.tk⟩, _, rfl, r, A.cR, dx, _, _, rfl, M1.ob, T.clR, T.nRearly, rfl, ed, rfl, .inl ⟨_, .inl M1.ek⟩,
          _, rfl, r, A.cR, dx, _, _, rfl, M1.ob, T.clR, T.nRtaken, rfl, tl, vs1, rfl, .inl (SqL.of M1.tk), _, _, rfl, rfl, kvs1, (Sum.inl ((j : Int) + 1) : Key), u, M1.ek, by rw [M1.len] <;> rfl, e, ?_⟩
        refine ⟨tl, vs1, u, rfl, rfl, htl2, small1000 (by rw [M1.len]; omega), ?_⟩
        have g1 : Frm [tl, ed] H1 (upd H1 ed (.dK (dropK kvs1 (Sum.inl ((j : Int) + 1) : Key)))) := (Frm.refl _ H1).dk (.inl (by simp)) M1.ek
        have g2 := g1.lst (o := .lst (vs1 ++ [u])) (.inl (by simp)) htl2
        refine ⟨L.length - (j + 1), by omega, j + 1, vs1 ++ [u], dropK kvs1 (Sum.inl ((j : Int) + 1) : Key), rfl, by omega, rfl, ?_⟩
        refine ⟨(upd_ne nrt).trans ((upd_ne nre).trans M1.ob), upd_same, ?_, hlt, (upd_ne net).trans upd_same, Nat.le_trans (dropK_le _ _) M1.el, fun p hp => ?_, fun n' hn' => ?_, M1.fr.trans g2 (fun b hb => .inl hb)⟩
        · rw [take_at e2]
          exact pd_append (lts_keep M1.ts g2) (.cons (e3.keep g2) .nil)
        · obtain ⟨n2, nm2, c1, c2, c3⟩ := M1.en p (dropK_mem.mp hp).1
          exact ⟨n2, nm2, c1, c2, c3.keep g2⟩
        · rcases M1.hd n' hn' with z | ⟨u', z⟩
          · exact .inl (by omega)
          · by_cases q : n' = j + 1
            · exact .inl (by omega)
            · refine .inr ⟨u', dropK_mem.mpr ⟨z, fun y => q ?_⟩⟩
              have := Sum.inl.inj y
              omega
      | none =>
        refine iteF ?_
        refine ⟨_, rfl, r, A.cR, dx, _, _, rfl, M1.ob, T.clR, T.nRtaken, rfl, tl, vs1, rfl, .inl (SqL.of M1.tk), ?_⟩
        rw [M1.len]
        exact k _ m1 M1.fr hm ⟨M1.ob, ⟨vs1, M1.tk, M1.ts⟩, M1.le, kvs1, M1.ek, M1.el, M1.en, M1.hd, e⟩
end
end K58
/-! The law's helpers: a number, a pick, the relations, whether all is right. -/
namespace K58
open PySem L2 PyProof.Rows TL
/-! ### data of letters and of items -/
def datN (n : Str) : PyData := .tuple [.str n]
def datO : Option Str → PyData
  | none => .none
  | some n => datN n
def datU (u : Und) : PyData := .tuple [.str u.r, .int (u.n : Int), datO u.l]
theorem strOk_of {z : Str} (h : NameOk z) : PyData.strOk z = true := by
  unfold PyData.strOk
  rw [Array.all_eq_true]
  intro i hi
  have hm : z.cps[i] ∈ tl z := by
    show z.cps[i] ∈ z.cps.toList
    exact Array.mem_toList_iff.mpr (Array.getElem_mem hi)
  have := h.all _ hm
  unfold okC at this
  exact decide_eq_true (by omega)
def okO : Option Str → Prop
  | none => True
  | some n => NameOk n
theorem datN_lay {n : Str} (h : NameOk n) : (datN n).canLay0 = true := by simp [datN, PyData.canLay0, PyData.canLayAll0, strOk_of h]
theorem datO_lay {o : Option Str} (h : okO o) : (datO o).canLay0 = true := by
  cases o with
  | none => simp [datO, PyData.canLay0]
  | some n => exact datN_lay h
theorem datO_depth (o : Option Str) : (datO o).depth ≤ 2 := by cases o <;> simp [datO, datN, PyData.depth, PyData.depthAll]
theorem datNs_lay : ∀ ns : List Str, (∀ n ∈ ns, NameOk n) → PyData.canLayAll0 (ns.map datN) = true
  | [], _ => by simp [PyData.canLayAll0]
  | n :: t, h => by
    have h1 := datNs_lay t fun m hm => h m (List.mem_cons_of_mem _ hm)
    have h2 := datN_lay (h n List.mem_cons_self)
    simp [PyData.canLayAll0, h1, h2]
theorem datNs_depth : ∀ ns : List Str, PyData.depthAll (ns.map datN) ≤ 3
  | [] => by simp [PyData.depthAll]
  | n :: t => by
    have := datNs_depth t
    simp only [List.map_cons, PyData.depthAll, datN, PyData.depth]
    omega
theorem datUs_lay : ∀ us : List Und, (∀ u ∈ us, NameOk u.r ∧ okO u.l) → PyData.canLayAll0 (us.map datU) = true
  | [], _ => by simp [PyData.canLayAll0]
  | u :: t, h => by
    have h1 := datUs_lay t fun m hm => h m (List.mem_cons_of_mem _ hm)
    have h2 := h u List.mem_cons_self
    have h3 := datO_lay h2.2
    simp [datU, PyData.canLay0, PyData.canLayAll0, strOk_of h2.1, h1, h3]
theorem datUs_depth : ∀ us : List Und, PyData.depthAll (us.map datU) ≤ 6
  | [] => by simp [PyData.depthAll]
  | u :: t => by
    have := datUs_depth t
    have := datO_depth u.l
    simp only [List.map_cons, PyData.depthAll, datU, PyData.depth]
    omega
theorem shaped_of {d : PyData} (h1 : d.canLay0 = true) (h2 : d.depth ≤ 64) : SeqAt.shaped d = true := by
  show (d.canLay0 && decide (d.depth ≤ 64)) = true
  rw [Bool.and_eq_true]
  exact ⟨h1, decide_eq_true h2⟩
theorem shaped_ns {ns : List Str} (h : ∀ n ∈ ns, NameOk n) : SeqAt.shaped (.tuple (ns.map datN)) = true := by
  refine shaped_of (by simp only [PyData.canLay0]; exact datNs_lay ns h) ?_
  have := datNs_depth ns
  simp only [PyData.depth]
  omega
theorem shaped_us {us : List Und} (h : ∀ u ∈ us, NameOk u.r ∧ okO u.l) : SeqAt.shaped (.list (us.map datU)) = true := by
  refine shaped_of (by simp only [PyData.canLay0]; exact datUs_lay us h) ?_
  have := datUs_depth us
  simp only [PyData.depth]
  omega
theorem eqv_shaped {d : PyData} (h : SeqAt.shaped d = true) : PyData.eqv d d = true := SeqAt.eqv_refl d (SeqAt.canLay_of_shaped h)
theorem dp_lt {K : PySem.W.Frag} {H : Hp} {v : V} {n : Str} (h : LT H v n) : Dp K H v (datN n) := by
  obtain ⟨a, rfl, h⟩ := h
  exact .tup (SqT.of h) (.cons (.str n) .nil)
theorem dp_lts {K : PySem.W.Frag} {H : Hp} : ∀ {vs : List V} {ns : List Str}, Paired (LT H) vs ns → DpAll K H vs (ns.map datN)
  | _, _, .nil => .nil
  | _, _, .cons h t => .cons (dp_lt h) (dp_lts t)
theorem dp_ut {K : PySem.W.Frag} {H : Hp} {v : V} {u : Und} (h : UT H v u) : Dp K H v (datU u) := by
  obtain ⟨a, lv, rfl, h, o⟩ := h
  refine .tup (SqT.of h) (.cons (.str _) (.cons (.int _) (.cons ?_ .nil)))
  obtain ⟨r, n, l⟩ := u
  cases l with
  | none =>
    cases o
    exact .non
  | some n => exact dp_lt o
theorem dp_uts {K : PySem.W.Frag} {H : Hp} : ∀ {vs : List V} {us : List Und}, Paired (UT H) vs us → DpAll K H vs (us.map datU)
  | _, _, .nil => .nil
  | _, _, .cons h t => .cons (dp_ut h) (dp_uts t)
theorem dp_tt {K : PySem.W.Frag} {H : Hp} {v : V} {ns : List Str} (h : TT H v ns) : Dp K H v (.tuple (ns.map datN)) := by
  obtain ⟨t, vs, rfl, h, p⟩ := h
  exact .tup (SqT.of h) (dp_lts p)
theorem dp_ints {K : PySem.W.Frag} {H : Hp} : ∀ ns : List Int, DpAll K H (ns.map V.int) (ns.map PyData.int)
  | [] => .nil
  | n :: t => .cons (.int n) (dp_ints t)
theorem ints_lay : ∀ ns : List Int, PyData.canLayAll0 (ns.map PyData.int) = true
  | [] => by simp [PyData.canLayAll0]
  | n :: t => by
    have := ints_lay t
    simp [PyData.canLay0, PyData.canLayAll0, this]
theorem ints_depth : ∀ ns : List Int, PyData.depthAll (ns.map PyData.int) ≤ 1
  | [] => by simp [PyData.depthAll]
  | n :: t => by
    have := ints_depth t
    simp only [List.map_cons, PyData.depthAll, PyData.depth]
    omega
theorem shaped_ints (ns : List Int) : SeqAt.shaped (.list (ns.map PyData.int)) = true := by
  refine shaped_of (by simp only [PyData.canLay0]; exact ints_lay ns) ?_
  have := ints_depth ns
  simp only [PyData.depth]
  omega
theorem eqv_nil (ns : List Int) : PyData.eqv (.list (ns.map PyData.int)) (.list []) = ns.isEmpty := by
  cases ns <;> simp [PyData.eqv, PyData.eqvAll]
section
variable {P : Program} {w : World} {K : PySem.W.Frag} {mg : Str → Option Value} {base : Heap} {A : Ads}
/-! ### _law_number -/
def spNum (K : PySem.W.Frag) : Sp := fun vs H Q _ => ∃ (a : Addr) (ns : List Int) (i : Int), vs = [.ref a, .int i] ∧ SqL K H a (ns.map V.int) ∧ ∀ H' z, Frm [] H H' → Q (.int z) H'
theorem scNum : FnScope ["_law_script", "_law_index", "_law_cell", "_law_blend"] ["_law_script", "_law_index"] (defScope sNum) := ⟨rfl, rfl, rfl, by decide +kernel, rfl, by decide +kernel, by decide +kernel⟩
theorem ok_num (T : Tx K mg A) : FnOk P w K mg base CX0 1 A.fNum A.dNum ["_law_script", "_law_index"] (spNum K) := by
  refine T.FNum.ok scNum (fun vs H Q E h => ?_) (fun cdv B outer s H vs Q E hr h => ?_)
  · obtain ⟨a, ns, i, rfl, _⟩ := h
    rfl
  · obtain ⟨a, ns, i, rfl, hS, k⟩ := h
    refine ⟨_, pss_cons (ps_if (pt_cmpR (op_eqD hr.units) (pv 0) (pe_lst pa_nil) (nomark _))
        (pss_one (ps_ret (pe_callTy call_int1 (by rfl) T.b_int (by decide +kernel) (pa_cons (pe_op op_mod (pe_op op_add (pe_op op_mul (pv 1) pe_int) pe_int) pe_int) pa_nil)))) pss_nil)
      (pss_cons (ps_set (i := 2) scNum.nd rfl (.inl rfl) (pe_ix ix_list (pv 0) (pe_op op_modN (pv 1) (pe_callB call_len_seq (by rfl) T.b_len PySem.boot_len (pa_cons (pv 0) pa_nil))) (fun _ _ => rfl)))
      (pss_cons (ps_if (pt_cmpR op_ge (pe_callB call_abs (by rfl) T.b_abs (by decide +kernel) (pa_cons (pv 2) pa_nil)) (pe_op op_pow pe_int pe_int) (nomark _))
        (pss_one (ps_set (i := 2) scNum.nd rfl (.inl rfl) (pe_op op_modN (pv 2) (pe_op op_pow pe_int pe_int)))) pss_nil)
      (pss_cons (ps_set (i := 3) scNum.nd rfl (.inl rfl) (pe_op op_mod (pe_op op_add (pe_op op_mul (pe_op op_add (pv 2) (pe_op op_mul pe_int (pv 1))) pe_int) (pe_op op_mul pe_int (pe_callB call_len_seq (by rfl) T.b_len PySem.boot_len (pa_cons (pv 0) pa_nil)))) pe_int))
      (pss_one (ps_ret (pe_callTy call_int1 (by rfl) T.b_int (by decide +kernel) (pa_cons (pe_op op_mod (pe_op op_add (pe_op op_mul (pe_op op_mod (pe_op op_mul (pv 3) pe_int) pe_int) pe_int) (pv 1)) pe_int) pa_nil))))))), ?_⟩
    refine ⟨_, rfl, Nat.zero_le _, fun l hl => ?_⟩
    have f1 : Frm [] H (upd H l (.lst [])) := (Frm.refl [] H).new hl
    have hS1 := f1.same.seq hS
    refine ⟨.list (ns.map PyData.int), .list [], .lst hS1 (dp_ints ns), .lst (SqL.of upd_same) .nil, shaped_ints ns, by decide +kernel, _, rfl, ?_⟩
    rw [eqv_nil]
    cases ns with
    | nil =>
      refine iteT ?_
      refine ⟨_, rfl, _, _, rfl, rfl, .inr ⟨by decide, by decide⟩, _, _, rfl, rfl, _, _, rfl, rfl, (by show (0 : Int) < 2147483647; decide), .inl ⟨_, rfl, ?_⟩⟩
      exact k _ _ f1
    | cons n0 nt =>
      refine iteF ?_
      have hlen : ((((n0 :: nt).map V.int).length : Nat) : Int) ≠ 0 := by rw [List.length_map, List.length_cons]; omega
      have h0 : (0 : Int) < ((((n0 :: nt).map V.int).length : Nat) : Int) := by rw [List.length_map, List.length_cons]; omega
      have m0 : 0 ≤ i.fmod ((((n0 :: nt).map V.int).length : Nat) : Int) := Int.fmod_nonneg_of_pos _ h0
      have m1 : i.fmod ((((n0 :: nt).map V.int).length : Nat) : Int) < ((((n0 :: nt).map V.int).length : Nat) : Int) := Int.fmod_lt_of_pos _ h0
      obtain ⟨j, ej, hj⟩ : ∃ j : Nat, i.fmod ((((n0 :: nt).map V.int).length : Nat) : Int) = (j : Int) ∧ j < ((n0 :: nt).map V.int).length := ⟨(i.fmod ((((n0 :: nt).map V.int).length : Nat) : Int)).toNat, by omega, by omega⟩
      obtain ⟨z, hz⟩ : ∃ z : Int, ((n0 :: nt).map V.int)[j]? = some (V.int z) := by
        rw [List.length_map] at hj
        exact ⟨(n0 :: nt)[j], by rw [List.getElem?_map, List.getElem?_eq_getElem hj] <;> rfl⟩
      refine ⟨_, rfl, _, rfl, _, rfl, a, _, rfl, .inl hS1, _, _, rfl, rfl, hlen, a, _, _, _, rfl, rfl, hS1, at_of ej hz, ?_⟩
      refine ⟨_, rfl, _, rfl, _, _, rfl, rfl, ⟨by decide, by decide, by decide⟩, _, _, rfl, rfl, _, rfl, ?_⟩
      refine ite2 (fun _ => ?_) (fun _ => ?_)
      · refine ⟨_, rfl, _, _, rfl, rfl, ⟨by decide, by decide, by decide⟩, _, _, rfl, rfl, (by show (10 : Int) ^ (18 : Int).toNat ≠ 0; decide +kernel), ?_⟩
        refine ⟨_, rfl, _, rfl, _, _, rfl, rfl, .inl ⟨by decide, by decide⟩, _, _, rfl, rfl, _, _, rfl, rfl, .inr ⟨by decide, by decide⟩, _, rfl, a, _, rfl, .inl hS1, _, _, rfl, rfl, .inl ⟨by decide, by decide⟩, _, _, rfl, rfl, _, _, rfl, rfl, (by show (0 : Int) < 2147483647; decide), ?_⟩
        refine ⟨_, rfl, _, _, rfl, rfl, .inr ⟨by decide, by decide⟩, _, _, rfl, rfl, (by show (0 : Int) < 2147483629; decide), _, _, rfl, rfl, .inr ⟨by decide, by decide⟩, _, rfl, _, _, rfl, rfl, _, _, rfl, rfl, (by show (0 : Int) < 2147483587; decide), .inl ⟨_, rfl, ?_⟩⟩
        exact k _ _ f1
      · refine ⟨_, rfl, _, rfl, _, _, rfl, rfl, .inl ⟨by decide, by decide⟩, _, _, rfl, rfl, _, _, rfl, rfl, .inr ⟨by decide, by decide⟩, _, rfl, a, _, rfl, .inl hS1, _, _, rfl, rfl, .inl ⟨by decide, by decide⟩, _, _, rfl, rfl, _, _, rfl, rfl, (by show (0 : Int) < 2147483647; decide), ?_⟩
        refine ⟨_, rfl, _, _, rfl, rfl, .inr ⟨by decide, by decide⟩, _, _, rfl, rfl, (by show (0 : Int) < 2147483629; decide), _, _, rfl, rfl, .inr ⟨by decide, by decide⟩, _, rfl, _, _, rfl, rfl, _, _, rfl, rfl, (by show (0 : Int) < 2147483587; decide), .inl ⟨_, rfl, ?_⟩⟩
        exact k _ _ f1
end
end K58
/-! The law's helpers: take, pick, the relations, whether all is right. -/
namespace K58
open PySem L2 PyProof.Rows TL
/-! ### rules that name the written part, for a comprehension's block -/
theorem op_eqDK {X : Cx} (K : PySem.W.Frag) (hu : X.A.units + 64 < cLine) (h : X.K = K := by rfl) : OpR X (compareOp .Eq) (rEqD K) := by
  subst h
  exact op_eqD hu
theorem pe_fldK {X : Cx} (K : PySem.W.Frag) {o : Expr} {to : TE} {f : Str} {pos : Pos} (ho : PE X o to) (hb : attributeBase o f X.env (eval o X.env) = eval o X.env) (h : X.K = K := by rfl) : PE X (.Attribute o f pos) (tFld K to f) := by
  subst h
  exact pe_fld ho hb
theorem call_tuple_ofK {X : Cx} (K : PySem.W.Frag) (h : X.K = K := by rfl) : CallR X (.type "tuple") (fun xs H Q => ∃ p ys, xs = [.ref p] ∧ ((SqL K H p ys ∧ ∀ l, H l = none → Q (.ref l) (upd H l (.tup ys))) ∨ (SqT K H p ys ∧ Q (.ref p) H))) := by
  subst h
  exact call_tuple_of
theorem call_len_seqK {X : Cx} (K : PySem.W.Frag) (h : X.K = K := by rfl) : CallR X (.builtin "len") (fun xs H Q => ∃ p ys, xs = [.ref p] ∧ (SqL K H p ys ∨ SqT K H p ys) ∧ Q (.int ys.length) H) := by
  subst h
  exact call_len_seq
/-- the draw: the script and how often it was asked -/
structure Draw (K : PySem.W.Frag) (HB H : Hp) (dl a : Addr) (ns : List Int) (i : Int) : Prop where
  sm : Same HB H
  nw : HB dl = none
  sq : SqL K HB a (ns.map V.int)
  ob : H dl = some (.lst [.ref a, .int i])
theorem Draw.keep {K : PySem.W.Frag} {HB H H1 : Hp} {dl a : Addr} {ns : List Int} {i : Int} {M : List Addr} (d : Draw K HB H dl a ns i) (f : Frm M H H1) (h : dl ∉ M) (hM : ∀ b ∈ M, HB b = none) : Draw K HB H1 dl a ns i :=
  ⟨fun b o e => f.keep b o (d.sm b o e) fun z => (by rw [hM b z] at e; cases e), d.nw, d.sq, f.keep _ _ d.ob h⟩
section
variable {P : Program} {w : World} {K : PySem.W.Frag} {mg : Str → Option Value} {base : Heap} {A : Ads}
/-! ### _law_take -/
def spTak (K : PySem.W.Frag) : Sp := fun vs H Q _ => ∃ (HB : Hp) (dl a : Addr) (ns : List Int) (i many : Int), vs = [.ref dl, .int many] ∧ 0 < many ∧ Draw K HB H dl a ns i ∧
  ∀ H' z i', 0 ≤ z → z < many → Frm [dl] H H' → Draw K HB H' dl a ns i' → Q (.int z) H'
theorem scTak : FnScope ["_law_draw", "_law_many"] ["_law_draw", "_law_many"] (defScope sTak) := ⟨rfl, rfl, rfl, by decide +kernel, rfl, by decide +kernel, by decide +kernel⟩
theorem ok_tak (T : Tx K mg A) : FnOk P w K mg base CX0 2 A.fTak A.dTak ["_law_draw", "_law_many"] (spTak K) := by
  have GN : FnOk P w K mg base CX0 1 A.fNum A.dNum ["_law_script", "_law_index"] (spNum K) := ok_num T
  refine T.FTak.ok scTak (fun vs H Q E h => ?_) (fun cdv B outer s H vs Q E hr h => ?_)
  · obtain ⟨HB, dl, a, ns, i, many, rfl, _⟩ := h
    rfl
  · obtain ⟨HB, dl, a, ns, i, many, rfl, hm, D, k⟩ := h
    refine ⟨_, pss_cons (ps_augS (pv 0) pe_int get_list pe_int ip_add set_list)
      (pss_one (ps_ret (pe_op op_modN (pe_callTy call_int1 (by rfl) T.b_int (by decide +kernel) (pa_cons (pe_call GN hr (by rfl) T.gNum T.FNum.kp (bNum T) .nil pass0 (pa_cons (pe_ix ix_list (pv 0) pe_int (fun _ _ => rfl))
        (pa_cons (pe_callTy call_int1 (by rfl) T.b_int (by decide +kernel) (pa_cons (pe_ix ix_list (pv 0) pe_int (fun _ _ => rfl)) pa_nil)) pa_nil))) pa_nil)) (pv 1)))), ?_⟩
    refine ⟨_, rfl, dl, _, 1, _, rfl, rfl, SqL.of D.ob, rfl, i, 1, rfl, rfl, dl, _, 1, 1, rfl, rfl, D.ob, rfl, ?_⟩
    have g : Frm [dl] H (upd H dl (.lst [.ref a, .int (i + 1)])) := (Frm.refl _ H).lst (.inl (by simp)) D.ob
    have D1 : Draw K HB (upd H dl (.lst [.ref a, .int (i + 1)])) dl a ns (i + 1) :=
      ⟨fun b o e => by rw [upd_ne (ne_of_none e D.nw)]; exact D.sm b o e, D.nw, D.sq, upd_same⟩
    refine ⟨_, rfl, dl, _, _, _, rfl, rfl, SqL.of upd_same, rfl, _, rfl, dl, _, _, _, rfl, rfl, SqL.of upd_same, rfl, .inl ⟨_, rfl, a, ns, _, rfl, D1.sm.seq D.sq, fun H2 z f2 => ?_⟩⟩
    refine .inl ⟨_, rfl, _, rfl, _, _, rfl, rfl, (by show many ≠ 0; omega), ?_⟩
    exact k _ _ (i + 1) (Int.fmod_nonneg_of_pos _ hm) (Int.fmod_lt_of_pos _ hm) (g.step f2) (D1.keep f2 (by simp) (by simp))
/-! ### _law_pick -/
def spPik (K : PySem.W.Frag) : Sp := fun vs H Q _ => ∃ (HB : Hp) (dl a : Addr) (ns : List Int) (i : Int) (li : Addr) (xs : List V), vs = [.ref dl, .ref li] ∧ Draw K HB H dl a ns i ∧ H li = some (.lst xs) ∧ li ≠ dl ∧ xs ≠ [] ∧
  ∀ H' v i', v ∈ xs → Frm [dl] H H' → Draw K HB H' dl a ns i' → Q v H'
theorem scPik : FnScope ["_law_draw", "_law_items"] ["_law_draw", "_law_items"] (defScope sPik) := ⟨rfl, rfl, rfl, by decide +kernel, rfl, by decide +kernel, by decide +kernel⟩
theorem ok_pik (T : Tx K mg A) : FnOk P w K mg base CX0 3 A.fPik A.dPik ["_law_draw", "_law_items"] (spPik K) := by
  have GT : FnOk P w K mg base CX0 2 A.fTak A.dTak ["_law_draw", "_law_many"] (spTak K) := ok_tak T
  refine T.FPik.ok scPik (fun vs H Q E h => ?_) (fun cdv B outer s H vs Q E hr h => ?_)
  · obtain ⟨HB, dl, a, ns, i, li, xs, rfl, _⟩ := h
    rfl
  · obtain ⟨HB, dl, a, ns, i, li, xs, rfl, D, hli, hne, hx, k⟩ := h
    refine ⟨_, pss_one (ps_ret (pe_ix ix_list (pv 1) (pe_call GT hr (by rfl) T.gTak T.FTak.kp (bTak T) .nil pass0 (pa_cons (pv 0) (pa_cons (pe_callB call_len_seq (by rfl) T.b_len PySem.boot_len (pa_cons (pv 1) pa_nil)) pa_nil))) (fun _ _ => rfl))), ?_⟩
    have hpos : 0 < xs.length := List.length_pos_iff.mpr hx
    refine ⟨_, rfl, _, rfl, _, rfl, li, xs, rfl, .inl (SqL.of hli), HB, dl, a, ns, i, _, rfl, by omega, D, fun H2 z i2 z0 z1 f2 D2 => ?_⟩
    obtain ⟨j, rfl⟩ : ∃ j : Nat, z = (j : Int) := ⟨z.toNat, by omega⟩
    have hj : j < xs.length := by omega
    refine ⟨li, xs, _, xs[j], rfl, rfl, SqL.of (f2.keep _ _ hli (by simp [hne])), atI_nat (List.getElem?_eq_getElem hj), ?_⟩
    exact k _ _ i2 (List.getElem_mem hj) f2 D2
/-! ### _law_relations -/
def spRel : Sp := fun vs H Q _ => vs = [] ∧ ∀ H' d, Frm [] H H' → H d = none → H' d = some (.dK relK) → Q (.ref d) H'
theorem scRel : FnScope [] [] (defScope sRel) := ⟨rfl, rfl, rfl, by decide +kernel, rfl, by decide +kernel, by decide +kernel⟩
theorem ok_rel (T : Tx K mg A) : FnOk P w K mg base CX0 1 A.fRel A.dRel [] spRel := by
  refine T.FRel.ok scRel (fun vs H Q E h => ?_) (fun cdv B outer s H vs Q E hr h => ?_)
  · obtain ⟨rfl, _⟩ := h
    rfl
  · obtain ⟨rfl, k⟩ := h
    refine ⟨_, pss_one (ps_ret (pe_disp (pps_cons pe_str pe_int (pps_cons pe_str pe_int pps_nil)) (by rfl) (by rfl) (fun z => by cases z) (by decide))), ?_⟩
    refine fun p hp => ⟨upd_same, relK, rfl, by decide, ?_⟩
    rw [upd_upd]
    exact k _ p ((Frm.refl [] H).new hp) hp upd_same
/-! ### _law_right -/
def rsK (rb rc : Addr) : List (Key × V) := [(Sum.inr bobS, .ref rb), (Sum.inr coraS, .ref rc)]
theorem rsK_bob (rb rc : Addr) : valV (rsK rb rc) (Sum.inr bobS : Key) = some (.ref rb) := valV_pos rfl
theorem rsK_cora (rb rc : Addr) : valV (rsK rb rc) (Sum.inr coraS : Key) = some (.ref rc) := by
  unfold rsK
  rw [valV_neg (fun z => bc_ne (Sum.inr.inj z)), valV_pos rfl]
/-- the receiver of a name -/
def recA (rb rc : Addr) (r : Str) : Addr := if r = bobS then rb else rc
theorem rsK_get {rb rc : Addr} {r : Str} (h : isRec r) : valV (rsK rb rc) (Sum.inr r : Key) = some (.ref (recA rb rc r)) := by
  rcases h with rfl | rfl
  · rw [rsK_bob]
    unfold recA
    rw [if_pos rfl]
  · rw [rsK_cora]
    unfold recA
    rw [if_neg bc_ne.symm]
theorem ld_lookup {r : Str} (h : isRec r) (es : List Ent) : (lettersD es).lookup r = if lettersOf r es = [] then none else some (lettersOf r es) := by
  have bc := bc_ne
  have cb := bc_ne.symm
  have e1 : (coraS == bobS) = false := by simp [cb]
  have e2 : (bobS == coraS) = false := by simp [bc]
  unfold lettersD
  rcases h with rfl | rfl <;> by_cases h1 : lettersOf bobS es = [] <;> by_cases h2 : lettersOf coraS es = [] <;> simp [h1, h2, List.lookup, e1, e2]
theorem lenOf_rec {r : Str} (h : isRec r) (es : List Ent) : lenOf r es = (lettersOf r es).length := by
  unfold lenOf
  rw [ld_lookup h]
  split
  · rename_i e
    rw [e] <;> rfl
  · rfl
/-- letters().get(r, ()) -/
theorem ld_get {H H1 : Hp} {kvs : List (Key × V)} {es : List Ent} {r : Str} {t0 : Addr} {M : List Addr} (hr : isRec r) (rows : Paired (RowD H) kvs (lettersD es)) (f : Frm M H H1) (h0 : H1 t0 = some (.tup [])) :
    TT H1 ((valV kvs (Sum.inr r : Key)).getD (.ref t0)) (lettersOf r es) := by
  rcases rows_lookup r rows with ⟨e1, e2⟩ | ⟨v, ns, e1, e2, ht⟩
  · rw [ld_lookup hr] at e2
    split at e2
    · rename_i e
      rw [e1, e]
      exact ⟨t0, [], rfl, h0, .nil⟩
    · cases e2
  · rw [ld_lookup hr] at e2
    split at e2
    · cases e2
    · cases e2
      rw [e1]
      exact ht.keep f
def spRit (C D : Addr) : Sp := fun vs H Q _ => ∃ (p dx l jr : Addr) (x y : Str) (es : List Ent) (k : Nat) (rs rb rc : Addr), vs = [.ref p, .ref rs] ∧ JAt C H p dx l jr x y es k ∧ es.length ≤ 1000 ∧ H rs = some (.dK (rsK rb rc)) ∧
  (∀ r, isRec r → ∃ dxr tl ed m c N, RAt D H (recA rb rc r) dxr tl ed (lettersOf r (es.take k)) m c N) ∧ ∀ H', Frm [] H H' → Q (.bl true) H'
theorem scRit : FnScope ["_law_journal", "_law_receivers", "_law_due", "_law_name"] ["_law_journal", "_law_receivers"] (defScope sRit) := ⟨rfl, rfl, rfl, by decide +kernel, rfl, by decide +kernel, by decide +kernel⟩
theorem ok_rit (T : Tx K mg A) : FnOk P w K mg base CX0 2 A.fRit A.dRit ["_law_journal", "_law_receivers"] (spRit A.cJ A.cR) := by
  have GL : FnOk P w K mg base CX0 1 A.fJL A.dJL ["self"] (spJL A.cJ) := ok_jl T
  refine T.FRit.ok scRit (fun vs H Q E h => ?_) (fun cdv B outer s H vs Q E hr h => ?_)
  · obtain ⟨p, dx, l, jr, x, y, es, n, rs, rb, rc, rfl, _⟩ := h
    rfl
  · obtain ⟨p, dx, l, jr, x, y, es, n, rs, rb, rc, rfl, J, hlen, hrs, hR, k⟩ := h
    have hu := hu_of hr
    refine ⟨_, pss_cons (ps_set (i := 2) scRit.nd rfl (.inr rfl) (pe_meth0 (pv 0) T.clJ T.mJL GL hr (bJL T) .nil pass0))
      (pss_one (ps_ret (pe_callB (cr_all rfl) (by rfl) T.b_all (by decide +kernel) (pa_cons (pe_lock
        (pe_lc (own := [("_law_name", 3)]) (g := gName 3) (tt := tYes) rfl scRit.nd (pi_keys (pv 1)) (blkOk_by (own := [("_law_name", 3)]) (N := ["_law_journal", "_law_receivers", "_law_due", "_law_name"]) (sc := defScope sRit) (by decide +kernel)) (fun _ _ _ _ _ => pg_name (i := 3) scRit.nd rfl (Or.inl rfl)) (fun _ _ _ _ _ => pts_nil)
          (fun _ _ _ _ _ => pe_cmpR (op_eqDK K hr.units) (pe_callTy (call_tuple_ofK K) (by rfl) T.b_tuple boot_tuple (pa_cons (pe_fldK K (pe_dget hu (pv 1) (pv 3) (fun _ _ => rfl)) rfl) pa_nil))
            (pe_slice sl_tupB (pe_dget2 hu (pv 2) (pv 3) (pe_tup pa_nil) ⟨by rfl, by rfl, by rfl, by rfl⟩) po_none (po_some (pe_callB (call_len_seqK K) (by rfl) T.b_len PySem.boot_len (pa_cons (pe_fldK K (pe_dget hu (pv 1) (pv 3) (fun _ _ => rfl)) rfl) pa_nil)))) (nomark _)))) pa_nil)))), ?_⟩
    refine ⟨_, rfl, p, dx, _, rfl, J.ob, rfl, p, dx, l, jr, x, y, es, n, rfl, J, hlen, fun H1 d f1 hd0 hLD => ?_⟩
    obtain ⟨kvs, hd1, rows⟩ := hLD
    have hrs1 := f1.keep _ _ hrs (by simp)
    refine ⟨rs, _, hrs1, trivial, fun od => ⟨_, rfl, rs, od, rfl, .inl ⟨rsK rb rc, upd_same, fun D hD => ?_⟩⟩⟩
    have g1 : Frm [rs] H1 (upd H1 rs (.frz od (.dK (rsK rb rc)))) := (Frm.refl _ H1).dk (.inl (by simp)) hrs1
    have ndr : d ≠ rs := fun z => by
      rw [z, hrs] at hd0
      cases hd0
    have hd2 := g1.keep _ _ hd1 (by simp [ndr])
    refine lc_it (walk_keys (d := rs) (o := od) (kvs := rsK rb rc)) (fun i H2 => Frm [] (upd H1 rs (.frz od (.dK (rsK rb rc)))) H2 ∧ H2 D = some (.lst ((List.replicate i true).map V.bl))) ⟨(Frm.refl [] _).new hD, upd_same⟩ (fun i H2 _ q => q.1.keep _ _ upd_same (by simp)) ?_ ?_
    · rintro i v H2o H2 hi ⟨f2, hD2⟩ ⟨rfl, kk, u, hkv, rfl⟩
      obtain ⟨r, rfl, hrec⟩ : ∃ r, kk = Sum.inr r ∧ isRec r := by
        rcases i with _ | _ | i
        · cases hkv
          exact ⟨_, rfl, .inl rfl⟩
        · cases hkv
          exact ⟨_, rfl, .inr rfl⟩
        · exact absurd hi (by show ¬ i + 1 + 1 < 2; omega)
      obtain ⟨dxr, tl, ed, m, c, N, R⟩ := hR r hrec
      obtain ⟨vs, ht, hvs⟩ := R.tk
      have nrr : recA rb rc r ≠ rs := ne_of R.ob hrs (by intro z; cases z)
      have ntr : tl ≠ rs := ne_of ht hrs (by intro z; cases z)
      have ob2 := f2.keep _ _ (g1.keep _ _ (f1.keep _ _ R.ob (by simp)) (by simp [nrr])) (by simp)
      have ht2 := f2.keep _ _ (g1.keep _ _ (f1.keep _ _ ht (by simp)) (by simp [ntr])) (by simp)
      have hvs2 := lts_keep (lts_keep (lts_keep hvs f1) g1) f2
      have hrs2 := f2.keep _ _ (upd_same (H := H1) (a := rs) (o := .frz od (.dK (rsK rb rc)))) (by simp)
      have hd3 := f2.keep _ _ hd2 (by simp)
      have hml : vs.length = m := by rw [hvs.length, List.length_take, Nat.min_eq_left R.le]
      refine ⟨rfl, ?_⟩
      refine ⟨_, rfl, _, rfl, rs, _, rfl, .inl ⟨rsK rb rc, Sum.inr r, .inr ⟨od, hrs2⟩, rfl, (rsK_get hrec).symm⟩, recA rb rc r, A.cR, dxr, _, _, rfl, ob2, T.clR, T.nRtaken, rfl, tl, vs, rfl, .inl ⟨SqL.of ht2, fun t htn => ?_⟩⟩
      have g3 : Frm [] H2 (upd H2 t (.tup vs)) := (Frm.refl [] H2).new htn
      refine ⟨_, rfl, d, rfl, .inl ⟨kvs, .inl (g3.keep _ _ hd3 (by simp))⟩, _, rfl, Nat.zero_le _, fun t0 ht0 => ?_⟩
      have g4 := g3.new (o := .tup []) ht0
      refine ⟨_, DGet.k (k := (Sum.inr r : Key)) (g4.keep _ _ hd3 (by simp)), ?_⟩
      have hT := ld_get hrec rows ((g1.trans f2 (by simp)).step g4) upd_same
      obtain ⟨t3, ws, e3, ht3, hws⟩ := hT
      rw [e3]
      refine ⟨_, rfl, _, rfl, rs, _, rfl, .inl ⟨rsK rb rc, Sum.inr r, .inr ⟨od, g4.keep _ _ hrs2 (by simp)⟩, rfl, (rsK_get hrec).symm⟩, recA rb rc r, A.cR, dxr, _, _, rfl, g4.keep _ _ ob2 (by simp), T.clR, T.nRtaken, rfl, tl, vs, rfl, .inl (SqL.of (g4.keep _ _ ht2 (by simp))), _, rfl, t3, ws, rfl, ht3, fun t5 H5 f5 ht5 => ?_⟩
      rw [cut_take_t, hml] at ht5
      have g5 := g4.step f5
      have p1 : Dp K H5 (.ref t) (.tuple (((lettersOf r (es.take n)).take m).map datN)) :=
        .tup (SqT.of (f5.tup _ _ (((Frm.refl [] (upd H2 t (.tup vs))).new ht0).tup _ _ upd_same))) (dp_lts (lts_keep hvs2 g5))
      have p2 : Dp K H5 (.ref t5) (.tuple (((lettersOf r (es.take n)).take m).map datN)) := .tup (SqT.of ht5) (dp_lts (pd_take m (lts_keep hws f5)))
      have sh : SeqAt.shaped (.tuple (((lettersOf r (es.take n)).take m).map datN)) = true := shaped_ns fun nm hnm => by
        have h1 := List.mem_of_mem_take hnm
        unfold lettersOf at h1
        obtain ⟨e, he, rfl⟩ := List.mem_map.mp h1
        exact (J.ok e (List.mem_of_mem_take (List.mem_filter.mp he).1)).1.2
      refine ⟨_, _, p1, p2, sh, sh, ?_⟩
      rw [eqv_shaped sh]
      have hD5 := g5.keep _ _ hD2 (by simp)
      refine ⟨_, hD5, by rw [List.length_map, List.length_replicate]; exact small1000 (by have : i < 2 := hi; omega), (f2.step g5).lst (.inr hD) hD5, ?_⟩
      rw [upd_same, List.replicate_succ', List.map_append] <;> rfl
    · rintro H2 ⟨f2, hD2⟩
      refine ⟨f2.keep _ _ upd_same (by simp), ?_⟩
      have nDr : D ≠ rs := fun z => by
        rw [z, upd_same] at hD
        cases hD
      refine ⟨D, List.replicate 2 true, rfl, SqL.of ((upd_ne nDr).trans hD2), ?_⟩
      exact k _ (f1.step (Frm.unlock hrs1 f2 (by intro xs z; cases z) (by simp)))
end
end K58
/-! The state of the law's loop, and what each deed makes of it. -/
namespace K58
open PySem L2 PyProof.Rows TL
structure RD where
  r : Addr
  dx : Addr
  tl : Addr
  ed : Addr
  m : Nat
  c : Nat
structure W where
  dl : Addr
  rd : Addr
  p : Addr
  dx : Addr
  l : Addr
  jr : Addr
  q : Addr
  dxq : Addr
  hd : Addr
  rs : Addr
  ul : Addr
  lh : Addr
  re : Str → RD
  i : Int
  x : Str
  y : Str
  es : List Ent
  k : Nat
  hs : List (Str × Nat)
  us : List Und
  D : Str → Nat → Prop
def W.mut (s : W) : List Addr := [s.ul, s.p, s.l, s.jr, s.q, s.hd, s.lh, s.dl, s.rs, s.rd, (s.re bobS).r, (s.re coraS).r, (s.re bobS).tl, (s.re coraS).tl, (s.re bobS).ed, (s.re coraS).ed]
/-- the settled letters of r -/
def W.ls (s : W) (r : Str) : List Str := lettersOf r (s.es.take s.k)
def UOk (s : W) (u : Und) : Prop := isRec u.r ∧ match u.l with
  | none => u.n ≤ (s.re u.r).m
  | some nm => ∃ j, u.n = j + 1 ∧ (s.ls u.r)[j]? = some nm
structure Sta (K : PySem.W.Frag) (A : Ads) (HB H : Hp) (a : Addr) (ns : List Int) (s : W) (n : Nat) : Prop where
  dr : Draw K HB H s.dl a ns s.i
  rd : H s.rd = some (.dK relK)
  jo : JAt A.cJ H s.p s.dx s.l s.jr s.x s.y s.es s.k
  po : PAt A.cP H s.q s.dxq s.p s.hd s.hs
  lh : H s.lh = some (.dK (hk s.hs))
  rs : H s.rs = some (.dK (rsK (s.re bobS).r (s.re coraS).r))
  re : ∀ r, isRec r → RAt A.cR H (s.re r).r (s.re r).dx (s.re r).tl (s.re r).ed (s.ls r) (s.re r).m (s.re r).c (s.D r)
  un : ∃ vs, H s.ul = some (.lst vs) ∧ Paired (UT H) vs s.us
  uo : ∀ u ∈ s.us, UOk s u
  ho : ∀ x ∈ s.hs, isRec x.1 ∧ x.2 ≤ (s.re x.1).m
  nd : s.mut.Nodup
  nw : ∀ b ∈ s.mut, HB b = none
  bE : s.es.length ≤ n
  bU : s.us.length ≤ 90 * n
  bH : s.hs.length ≤ n
  bC : ∀ r, isRec r → (s.re r).c ≤ n
theorem ne_ix {L : List Addr} (hN : L.Nodup) (i j : Nat) {b c : Addr} (hi : L[i]? = some b) (hj : L[j]? = some c) (h : i ≠ j) : b ≠ c := by
  rintro rfl
  exact h (nd_ix hN hi hj)
theorem nm1 {b c : Addr} (h : b ≠ c) : b ∉ [c] := by simpa using h
theorem nm2 {b c d : Addr} (h : b ≠ c) (h' : b ≠ d) : b ∉ [c, d] := by simp [h, h']
section
variable {K : PySem.W.Frag} {A : Ads} {HB H H1 : Hp} {a : Addr} {ns : List Int} {s : W} {n : Nat}
theorem Sta.ne (I : Sta K A HB H a ns s n) (i j : Nat) {b c : Addr} (hi : s.mut[i]? = some b) (hj : s.mut[j]? = some c) (h : i ≠ j) : b ≠ c := ne_ix I.nd i j hi hj h
theorem Sta.nwx (I : Sta K A HB H a ns s n) (i : Nat) {b : Addr} (hi : s.mut[i]? = some b) : HB b = none := I.nw b (List.mem_of_getElem? hi)
/-- the places of a receiver's three objects among mut -/
theorem re_ix (s : W) {r : Str} (hr : isRec r) : ∃ e, e < 2 ∧ s.mut[10 + e]? = some (s.re r).r ∧ s.mut[12 + e]? = some (s.re r).tl ∧ s.mut[14 + e]? = some (s.re r).ed := by
  rcases hr with rfl | rfl
  · exact ⟨0, by decide, rfl, rfl, rfl⟩
  · exact ⟨1, by decide, rfl, rfl, rfl⟩
theorem Sta.rne (I : Sta K A HB H a ns s n) {r : Str} (hr : isRec r) (j : Nat) (hj : j < 10) {c : Addr} (h : s.mut[j]? = some c) : (s.re r).r ≠ c ∧ (s.re r).tl ≠ c ∧ (s.re r).ed ≠ c := by
  obtain ⟨e, he, h1, h2, h3⟩ := re_ix s hr
  exact ⟨I.ne _ j h1 h (by omega), I.ne _ j h2 h (by omega), I.ne _ j h3 h (by omega)⟩
/-- every object of the state is there -/
theorem Sta.live (I : Sta K A HB H a ns s n) : ∀ b ∈ s.mut, ∃ o, H b = some o := by
  obtain ⟨vs, h1, _⟩ := I.un
  obtain ⟨us, h2, _⟩ := I.jo.ls
  have b1 := I.re bobS (.inl rfl)
  have c1 := I.re coraS (.inr rfl)
  obtain ⟨v3, h3, _⟩ := b1.tk
  obtain ⟨v4, h4, _⟩ := c1.tk
  obtain ⟨v5, h5, _⟩ := b1.er
  obtain ⟨v6, h6, _⟩ := c1.er
  intro b hb
  simp only [W.mut, List.mem_cons, List.not_mem_nil, or_false] at hb
  rcases hb with rfl | rfl | rfl | rfl | rfl | rfl | rfl | rfl | rfl | rfl | rfl | rfl | rfl | rfl | rfl | rfl
  · exact ⟨_, h1⟩
  · exact ⟨_, I.jo.ob⟩
  · exact ⟨_, h2⟩
  · exact ⟨_, I.jo.rl⟩
  · exact ⟨_, I.po.ob⟩
  · exact ⟨_, I.po.hd⟩
  · exact ⟨_, I.lh⟩
  · exact ⟨_, I.dr.ob⟩
  · exact ⟨_, I.rs⟩
  · exact ⟨_, I.rd⟩
  · exact ⟨_, b1.ob⟩
  · exact ⟨_, c1.ob⟩
  · exact ⟨_, h3⟩
  · exact ⟨_, h4⟩
  · exact ⟨_, h5⟩
  · exact ⟨_, h6⟩
theorem Sta.fresh (I : Sta K A HB H a ns s n) {z : Addr} (h : H z = none) : z ∉ s.mut := fun hz => by
  obtain ⟨o, e⟩ := I.live z hz
  rw [h] at e
  cases e
theorem Sta.base (I : Sta K A HB H a ns s n) {z : Addr} (h : H z = none) : HB z = none := I.dr.sm.free h
/-- nothing of it changed -/
theorem Sta.same (I : Sta K A HB H a ns s n) (f : Frm [] H H1) : Sta K A HB H1 a ns s n := by
  obtain ⟨vs, h1, h2⟩ := I.un
  exact { dr := I.dr.keep f (by simp) (by simp), rd := f.keep _ _ I.rd (by simp), jo := I.jo.keep f (by simp) (by simp) (by simp), po := I.po.keep f (by simp) (by simp), lh := f.keep _ _ I.lh (by simp), rs := f.keep _ _ I.rs (by simp),
          re := fun r hr => (I.re r hr).keep f (by simp) (by simp) (by simp), un := ⟨vs, f.keep _ _ h1 (by simp), uts_keep h2 f⟩, uo := I.uo, ho := I.ho, nd := I.nd, nw := I.nw, bE := I.bE, bU := I.bU, bH := I.bH, bC := I.bC }
theorem Sta.mono (I : Sta K A HB H a ns s n) {n' : Nat} (h : n ≤ n') : Sta K A HB H a ns s n' :=
  { I with bE := Nat.le_trans I.bE h, bU := Nat.le_trans I.bU (Nat.mul_le_mul_left 90 h), bH := Nat.le_trans I.bH h, bC := fun r hr => Nat.le_trans (I.bC r hr) h }
/-- a number was drawn -/
theorem Sta.draw (I : Sta K A HB H a ns s n) {i' : Int} (f : Frm [s.dl] H H1) (d : Draw K HB H1 s.dl a ns i') : Sta K A HB H1 a ns { s with i := i' } n := by
  obtain ⟨vs, h1, h2⟩ := I.un
  have q (j : Nat) {b : Addr} (h : s.mut[j]? = some b) (hj : j ≠ 7) : b ∉ [s.dl] := nm1 (I.ne j 7 h rfl hj)
  exact { dr := d, rd := f.keep _ _ I.rd (q 9 rfl (by decide)), jo := I.jo.keep f (q 1 rfl (by decide)) (q 2 rfl (by decide)) (q 3 rfl (by decide)), po := I.po.keep f (q 4 rfl (by decide)) (q 5 rfl (by decide)), lh := f.keep _ _ I.lh (q 6 rfl (by decide)), rs := f.keep _ _ I.rs (q 8 rfl (by decide)),
          re := fun r hr => by
            obtain ⟨z1, z2, z3⟩ := I.rne hr 7 (by decide) rfl
            exact (I.re r hr).keep f (nm1 z1) (nm1 z2) (nm1 z3),
          un := ⟨vs, f.keep _ _ h1 (q 0 rfl (by decide)), uts_keep h2 f⟩, uo := I.uo, ho := I.ho, nd := I.nd, nw := I.nw, bE := I.bE, bU := I.bU, bH := I.bH, bC := I.bC }
/-- a letter was written -/
theorem Sta.write (I : Sta K A HB H a ns s n) {y' : Str} {e : Ent} (f : Frm [s.p, s.l] H H1) (J : JAt A.cJ H1 s.p s.dx s.l s.jr s.x y' (s.es ++ [e]) s.k) : Sta K A HB H1 a ns { s with y := y', es := s.es ++ [e] } (n + 1) := by
  obtain ⟨vs, h1, h2⟩ := I.un
  have q (j : Nat) {b : Addr} (h : s.mut[j]? = some b) (hj : j ≠ 1) (hj2 : j ≠ 2) : b ∉ [s.p, s.l] := nm2 (I.ne j 1 h rfl hj) (I.ne j 2 h rfl hj2)
  have et : (s.es ++ [e]).take s.k = s.es.take s.k := List.take_append_of_le_length I.jo.le
  have el : ∀ r, W.ls { s with y := y', es := s.es ++ [e] } r = s.ls r := fun r => congrArg (lettersOf r) et
  have b1 := I.bE
  have b2 := I.bU
  have b3 := I.bH
  exact { dr := I.dr.keep f (q 7 rfl (by decide) (by decide)) (fun b hb => by
            simp only [List.mem_cons, List.not_mem_nil, or_false] at hb
            rcases hb with rfl | rfl
            · exact I.nwx 1 rfl
            · exact I.nwx 2 rfl), rd := f.keep _ _ I.rd (q 9 rfl (by decide) (by decide)), jo := J, po := I.po.keep f (q 4 rfl (by decide) (by decide)) (q 5 rfl (by decide) (by decide)), lh := f.keep _ _ I.lh (q 6 rfl (by decide) (by decide)), rs := f.keep _ _ I.rs (q 8 rfl (by decide) (by decide)),
          re := fun r hr => by
            obtain ⟨z1, z2, z3⟩ := I.rne hr 1 (by decide) rfl
            obtain ⟨w1, w2, w3⟩ := I.rne hr 2 (by decide) rfl
            rw [el r]
            exact (I.re r hr).keep f (nm2 z1 w1) (nm2 z2 w2) (nm2 z3 w3),
          un := ⟨vs, f.keep _ _ h1 (q 0 rfl (by decide) (by decide)), uts_keep h2 f⟩,
          uo := fun u hu => by
            have := I.uo u hu
            refine ⟨this.1, ?_⟩
            have h := this.2
            rw [el u.r]
            exact h,
          ho := I.ho, nd := I.nd, nw := I.nw, bE := by show (s.es ++ [e]).length ≤ n + 1; rw [List.length_append, List.length_singleton]; omega, bU := by show s.us.length ≤ _; omega, bH := by show s.hs.length ≤ _; omega, bC := fun r hr => Nat.le_trans (I.bC r hr) (Nat.le_succ n) }
theorem UOk.grow {s s' : W} {u : Und} (h : UOk s u) (hm : ∀ r, isRec r → (s.re r).m ≤ (s'.re r).m) (hl : ∀ r, isRec r → ∃ z, s'.ls r = s.ls r ++ z) : UOk s' u := by
  obtain ⟨r, k, o⟩ := u
  obtain ⟨h1, h2⟩ := h
  refine ⟨h1, ?_⟩
  cases o with
  | none => exact Nat.le_trans (show k ≤ _ from h2) (hm r h1)
  | some nm =>
    obtain ⟨j, e1, e2⟩ := h2
    refine ⟨j, e1, ?_⟩
    obtain ⟨z, ez⟩ := hl r h1
    show (s'.ls r)[j]? = some nm
    have e2' : (s.ls r)[j]? = some nm := e2
    rw [ez, List.getElem?_append_left (List.getElem?_eq_some_iff.mp e2').1]
    exact e2'
theorem ls_grow (r : Str) (es : List Ent) {k m : Nat} (h : k ≤ m) : ∃ z, lettersOf r (es.take m) = lettersOf r (es.take k) ++ z := by
  obtain ⟨d, rfl⟩ : ∃ d, m = k + d := ⟨m - k, by omega⟩
  rw [List.take_add, lettersOf_append]
  exact ⟨_, rfl⟩
/-- all is settled -/
theorem Sta.settle (I : Sta K A HB H a ns s n) {x' : Str} (f : Frm [s.p] H H1) (J : JAt A.cJ H1 s.p s.dx s.l s.jr x' "" s.es s.es.length) : Sta K A HB H1 a ns { s with x := x', y := "", k := s.es.length } n := by
  obtain ⟨vs, h1, h2⟩ := I.un
  have q (j : Nat) {b : Addr} (h : s.mut[j]? = some b) (hj : j ≠ 1) : b ∉ [s.p] := nm1 (I.ne j 1 h rfl hj)
  have el : ∀ r, ∃ z, W.ls { s with x := x', y := "", k := s.es.length } r = s.ls r ++ z := fun r => ls_grow r s.es I.jo.le
  exact { dr := I.dr.keep f (q 7 rfl (by decide)) (fun b hb => by rw [List.mem_singleton.mp hb]; exact I.nwx 1 rfl), rd := f.keep _ _ I.rd (q 9 rfl (by decide)), jo := J, po := I.po.keep f (q 4 rfl (by decide)) (q 5 rfl (by decide)), lh := f.keep _ _ I.lh (q 6 rfl (by decide)), rs := f.keep _ _ I.rs (q 8 rfl (by decide)),
          re := fun r hr => by
            obtain ⟨z1, z2, z3⟩ := I.rne hr 1 (by decide) rfl
            obtain ⟨z, ez⟩ := el r
            rw [ez]
            exact ((I.re r hr).keep f (nm1 z1) (nm1 z2) (nm1 z3)).grow,
          un := ⟨vs, f.keep _ _ h1 (q 0 rfl (by decide)), uts_keep h2 f⟩, uo := fun u hu => (I.uo u hu).grow (fun _ _ => Nat.le_refl _) fun r _ => el r, ho := I.ho, nd := I.nd, nw := I.nw, bE := I.bE, bU := I.bU, bH := I.bH, bC := I.bC }
/-- a fall: a new journal of the entries up to m, a new post, nothing heard -/
theorem Sta.fall (I : Sta K A HB H a ns s n) {m : Nat} {p dx l jr q dxq hd lh : Addr} {x' y' : Str} (hk : s.k ≤ m) (hm : m ≤ s.es.length) (f : Frm [] H H1) (J : JAt A.cJ H1 p dx l jr x' y' (s.es.take m) m) (Pq : PAt A.cP H1 q dxq p hd []) (hlh : H1 lh = some (.dK []))
    (fr : ∀ z ∈ [p, l, jr, q, hd, lh], H z = none) (nd : [p, l, jr, q, hd, lh].Nodup) :
    Sta K A HB H1 a ns { s with p := p, dx := dx, l := l, jr := jr, x := x', y := y', es := s.es.take m, k := m, q := q, dxq := dxq, hd := hd, lh := lh, hs := [] } n := by
  obtain ⟨vs, h1, h2⟩ := I.un
  have el : ∀ r, ∃ z, W.ls { s with p := p, dx := dx, l := l, jr := jr, x := x', y := y', es := s.es.take m, k := m, q := q, dxq := dxq, hd := hd, lh := lh, hs := [] } r = s.ls r ++ z := fun r => by
    obtain ⟨z, ez⟩ := ls_grow r s.es hk
    refine ⟨z, ?_⟩
    show lettersOf r ((s.es.take m).take m) = _
    rw [List.take_take, Nat.min_self]
    exact ez
  exact { dr := I.dr.keep f (by simp) (by simp), rd := f.keep _ _ I.rd (by simp), jo := J, po := Pq, lh := hlh, rs := f.keep _ _ I.rs (by simp),
          re := fun r hr => by
            obtain ⟨z, ez⟩ := el r
            rw [ez]
            exact ((I.re r hr).keep f (by simp) (by simp) (by simp)).grow,
          un := ⟨vs, f.keep _ _ h1 (by simp), uts_keep h2 f⟩, uo := fun u hu => (I.uo u hu).grow (fun _ _ => Nat.le_refl _) fun r _ => el r, ho := fun x hx => absurd hx (by simp),
          nd := by
            show (s.ul :: ([p, l, jr, q, hd, lh] ++ s.mut.drop 7)).Nodup
            have n0 : (s.mut.drop 7).Nodup := List.Sublist.nodup (List.drop_sublist 7 _) I.nd
            have fz : ∀ z ∈ [p, l, jr, q, hd, lh], z ∉ s.mut := fun z hz => I.fresh (fr z hz)
            rw [List.nodup_cons, List.nodup_append]
            refine ⟨fun hz => ?_, nd, n0, fun b hb c hc => ?_⟩
            · rcases List.mem_append.mp hz with z | z
              · exact fz _ z (by simp [W.mut])
              · have := (List.nodup_cons.mp I.nd).1
                exact this (List.mem_of_mem_drop (i := 6) z)
            · rintro rfl
              exact fz b hb (List.mem_of_mem_drop hc),
          nw := fun b hb => by
            have hb' : b ∈ s.ul :: ([p, l, jr, q, hd, lh] ++ s.mut.drop 7) := hb
            rcases List.mem_cons.mp hb' with rfl | hb'
            · exact I.nwx 0 rfl
            · rcases List.mem_append.mp hb' with z | z
              · exact I.base (fr b z)
              · exact I.nw b (List.mem_of_mem_drop z),
          bE := by
            show (s.es.take m).length ≤ n
            have := I.bE
            rw [List.length_take]
            omega,
          bU := I.bU, bH := Nat.zero_le _, bC := I.bC }
/-- what is under way, anew: at the same list or at a new one -/
theorem Sta.under (I : Sta K A HB H a ns s n) {ul : Addr} {us : List Und} {vs : List V} {n' : Nat} (hn : n ≤ n') (f : Frm [s.ul] H H1) (hu : ul = s.ul ∨ H ul = none) (h1 : H1 ul = some (.lst vs)) (h2 : Paired (UT H1) vs us) (ok : ∀ u ∈ us, UOk s u) (hb : us.length ≤ 90 * n') :
    Sta K A HB H1 a ns { s with ul := ul, us := us } n' := by
  have q (j : Nat) {b : Addr} (h : s.mut[j]? = some b) (hj : j ≠ 0) : b ∉ [s.ul] := nm1 (I.ne j 0 h rfl hj)
  have hnu : ul ∉ s.mut.drop 1 := by
    rcases hu with rfl | hu
    · exact (List.nodup_cons.mp I.nd).1
    · exact fun z => I.fresh hu (List.mem_of_mem_drop z)
  exact { dr := I.dr.keep f (q 7 rfl (by decide)) (fun b hb => by rw [List.mem_singleton.mp hb]; exact I.nwx 0 rfl), rd := f.keep _ _ I.rd (q 9 rfl (by decide)), jo := I.jo.keep f (q 1 rfl (by decide)) (q 2 rfl (by decide)) (q 3 rfl (by decide)), po := I.po.keep f (q 4 rfl (by decide)) (q 5 rfl (by decide)), lh := f.keep _ _ I.lh (q 6 rfl (by decide)), rs := f.keep _ _ I.rs (q 8 rfl (by decide)),
          re := fun r hr => by
            obtain ⟨z1, z2, z3⟩ := I.rne hr 0 (by decide) rfl
            exact (I.re r hr).keep f (nm1 z1) (nm1 z2) (nm1 z3),
          un := ⟨vs, h1, h2⟩, uo := fun u hu => ok u hu, ho := I.ho,
          nd := List.nodup_cons.mpr ⟨hnu, (List.nodup_cons.mp I.nd).2⟩,
          nw := fun b hb => by
            rcases List.mem_cons.mp (show b ∈ ul :: s.mut.drop 1 from hb) with rfl | z
            · rcases hu with rfl | hu
              · exact I.nwx 0 rfl
              · exact I.base hu
            · exact I.nw b (List.mem_of_mem_drop z),
          bE := Nat.le_trans I.bE hn, bU := hb, bH := Nat.le_trans I.bH hn, bC := fun r hr => Nat.le_trans (I.bC r hr) hn }
end
/-! ### heard -/
theorem lookup_mem {r : Str} {v : Nat} : ∀ {hs : List (Str × Nat)}, hs.lookup r = some v → (r, v) ∈ hs
  | [], h => by cases h
  | (q, u) :: t, h => by
    rw [List.lookup_cons] at h
    by_cases e : r = q
    · subst e
      have : (r == r) = true := beq_self_eq_true r
      rw [this] at h
      cases h
      exact List.mem_cons_self
    · have : (r == q) = false := by simp [e]
      rw [this] at h
      exact List.mem_cons_of_mem _ (lookup_mem h)
theorem hget_le {hs : List (Str × Nat)} {f : Str → Nat} (h : ∀ x ∈ hs, x.2 ≤ f x.1) (r : Str) : hget hs r ≤ f r := by
  unfold hget
  cases e : hs.lookup r with
  | none => exact Nat.zero_le _
  | some v => exact h _ (lookup_mem e)
theorem hput_mem {hs : List (Str × Nat)} {r : Str} {v : Nat} {x : Str × Nat} (h : x ∈ hput hs r v) : x = (r, v) ∨ x ∈ hs := by
  unfold hput at h
  split at h
  · obtain ⟨y, hy, e⟩ := List.mem_map.mp h
    by_cases z : y.1 = r
    · rw [if_pos z, z] at e
      exact .inl e.symm
    · rw [if_neg z] at e
      rw [← e]
      exact .inr hy
  · rcases List.mem_append.mp h with z | z
    · exact .inr z
    · exact .inl (List.mem_singleton.mp z)
theorem hput_len (hs : List (Str × Nat)) (r : Str) (v : Nat) : (hput hs r v).length ≤ hs.length + 1 := by
  unfold hput
  split
  · rw [List.length_map]; omega
  · rw [List.length_append, List.length_singleton]
    exact Nat.le_refl _
theorem lookup_map (r q : Str) (v : Nat) : ∀ hs : List (Str × Nat), (hs.map fun x => if x.1 = r then (x.1, v) else x).lookup q = (hs.lookup q).map fun u => if q = r then v else u
  | [] => rfl
  | (z, u) :: t => by
    rw [List.map_cons, List.lookup_cons]
    by_cases h : z = r
    · subst h
      rw [if_pos rfl, List.lookup_cons]
      by_cases e : q = z
      · subst e
        have : (q == q) = true := beq_self_eq_true q
        simp [this]
      · have : (q == z) = false := by simp [e]
        simp only [this]
        exact lookup_map z q v t
    · rw [if_neg h, List.lookup_cons]
      by_cases e : q = z
      · subst e
        have : (q == q) = true := beq_self_eq_true q
        simp [this, h]
      · have : (q == z) = false := by simp [e]
        simp only [this]
        exact lookup_map r q v t
theorem lookup_any {r : Str} : ∀ {hs : List (Str × Nat)}, (hs.any fun x => decide (x.1 = r)) = (hs.lookup r).isSome
  | [] => rfl
  | (z, u) :: t => by
    rw [List.any_cons, List.lookup_cons, lookup_any]
    by_cases e : r = z
    · subst e
      have : (r == r) = true := beq_self_eq_true r
      simp [this]
    · have h1 : (r == z) = false := by simp [e]
      simp [h1, Ne.symm e]
theorem lookup_app (q r : Str) (v : Nat) : ∀ hs : List (Str × Nat), hs.lookup r = none → (hs ++ [(r, v)]).lookup q = if q = r then some v else hs.lookup q
  | [], _ => by
    show List.lookup q [(r, v)] = _
    rw [List.lookup_cons]
    by_cases e : q = r
    · subst e
      simp
    · have : (q == r) = false := by simp [e]
      simp [this, e]
  | (z, u) :: t, h => by
    rw [List.lookup_cons] at h
    by_cases e : r = z
    · subst e
      simp at h
    · have h1 : (r == z) = false := by simp [e]
      rw [h1] at h
      have ih := lookup_app q r v t h
      rw [List.cons_append, List.lookup_cons, List.lookup_cons, ih]
      by_cases e2 : q = z
      · subst e2
        simp [Ne.symm e]
      · have : (q == z) = false := by simp [e2]
        simp [this]
theorem hget_put (hs : List (Str × Nat)) (r q : Str) (v : Nat) : hget (hput hs r v) q = if q = r then v else hget hs q := by
  unfold hget hput
  rw [lookup_any]
  cases e : hs.lookup r with
  | some u =>
    rw [if_pos (show (some u).isSome = true from rfl), lookup_map]
    by_cases h : q = r
    · subst h
      rw [e]
      simp
    · simp only [if_neg h]
      cases hs.lookup q <;> rfl
  | none =>
    rw [if_neg (by simp), lookup_app _ _ _ _ e]
    by_cases h : q = r
    · simp [h]
    · simp [h]
section
variable {K : PySem.W.Frag} {A : Ads} {HB H H1 : Hp} {a : Addr} {ns : List Int} {s : W} {n : Nat}
theorem Sta.hm (I : Sta K A HB H a ns s n) (r : Str) : hget s.hs r ≤ (s.re r).m := hget_le (f := fun r => (s.re r).m) (fun x hx => (I.ho x hx).2) r
/-- an answer was heard: by the post and by the law -/
theorem Sta.hear (I : Sta K A HB H a ns s n) {r : Str} {v : Nat} (hr : isRec r) (hv : v ≤ (s.re r).m) (f : Frm [s.hd, s.lh] H H1) (Pq : PAt A.cP H1 s.q s.dxq s.p s.hd (hput s.hs r v)) (hl : H1 s.lh = some (.dK (hk (hput s.hs r v)))) :
    Sta K A HB H1 a ns { s with hs := hput s.hs r v } (n + 1) := by
  obtain ⟨vs, h1, h2⟩ := I.un
  have q (j : Nat) {b : Addr} (h : s.mut[j]? = some b) (hj : j ≠ 5) (hj2 : j ≠ 6) : b ∉ [s.hd, s.lh] := nm2 (I.ne j 5 h rfl hj) (I.ne j 6 h rfl hj2)
  have b1 := I.bE
  have b2 := I.bU
  have b3 := I.bH
  exact { dr := I.dr.keep f (q 7 rfl (by decide) (by decide)) (fun b hb => by
            simp only [List.mem_cons, List.not_mem_nil, or_false] at hb
            rcases hb with rfl | rfl
            · exact I.nwx 5 rfl
            · exact I.nwx 6 rfl), rd := f.keep _ _ I.rd (q 9 rfl (by decide) (by decide)), jo := I.jo.keep f (q 1 rfl (by decide) (by decide)) (q 2 rfl (by decide) (by decide)) (q 3 rfl (by decide) (by decide)), po := Pq, lh := hl, rs := f.keep _ _ I.rs (q 8 rfl (by decide) (by decide)),
          re := fun r hr => by
            obtain ⟨z1, z2, z3⟩ := I.rne hr 5 (by decide) rfl
            obtain ⟨w1, w2, w3⟩ := I.rne hr 6 (by decide) rfl
            exact (I.re r hr).keep f (nm2 z1 w1) (nm2 z2 w2) (nm2 z3 w3),
          un := ⟨vs, f.keep _ _ h1 (q 0 rfl (by decide) (by decide)), uts_keep h2 f⟩, uo := I.uo,
          ho := fun x hx => by
            rcases hput_mem hx with rfl | hx
            · exact ⟨hr, hv⟩
            · exact I.ho x hx,
          nd := I.nd, nw := I.nw, bE := by show s.es.length ≤ _; omega, bU := by show s.us.length ≤ _; omega, bH := Nat.le_trans (hput_len _ _ _) (by omega), bC := fun r hr => Nat.le_trans (I.bC r hr) (Nat.le_succ n) }
/-- the state behind a get of receiver r: number j + 1 -/
def W.got (s : W) (r : Str) (m' j : Nat) : W := { s with re := fun z => if z = r then { s.re r with m := m', c := (s.re r).c + 1 } else s.re z, D := fun z i => s.D z i ∨ (z = r ∧ i = j + 1) }
theorem got_m (s : W) (r : Str) (m' j : Nat) (z : Str) : ((s.got r m' j).re z).m = if z = r then m' else (s.re z).m := by
  show (if z = r then ({ s.re r with m := m', c := (s.re r).c + 1 } : RD) else s.re z).m = _
  split <;> rfl
theorem got_mut (s : W) (r : Str) (m' j : Nat) : (s.got r m' j).mut = s.mut := by
  have h : ∀ z, ((s.got r m' j).re z).r = (s.re z).r ∧ ((s.got r m' j).re z).tl = (s.re z).tl ∧ ((s.got r m' j).re z).ed = (s.re z).ed := fun z => by
    show (if z = r then ({ s.re r with m := m', c := (s.re r).c + 1 } : RD) else s.re z).r = _ ∧ (if z = r then ({ s.re r with m := m', c := (s.re r).c + 1 } : RD) else s.re z).tl = _ ∧ (if z = r then ({ s.re r with m := m', c := (s.re r).c + 1 } : RD) else s.re z).ed = _
    by_cases e : z = r
    · subst e
      simp
    · simp [e]
  obtain ⟨b1, b2, b3⟩ := h bobS
  obtain ⟨c1, c2, c3⟩ := h coraS
  unfold W.mut
  rw [b1, b2, b3, c1, c2, c3] <;> rfl
theorem got_rs (s : W) (r : Str) (m' j : Nat) (z : Str) : ((s.got r m' j).re z).r = (s.re z).r := by
  show (if z = r then ({ s.re r with m := m', c := (s.re r).c + 1 } : RD) else s.re z).r = _
  by_cases e : z = r
  · subst e
    simp
  · simp [e]
theorem Sta.get (I : Sta K A HB H a ns s n) {r : Str} {m' j : Nat} (hr : isRec r) (f : Frm [(s.re r).tl, (s.re r).ed] H H1) (hm : (s.re r).m ≤ m') (R : RAt A.cR H1 (s.re r).r (s.re r).dx (s.re r).tl (s.re r).ed (s.ls r) m' ((s.re r).c + 1) (fun i => s.D r i ∨ i = j + 1)) :
    Sta K A HB H1 a ns (s.got r m' j) (n + 1) := by
  obtain ⟨vs, h1, h2⟩ := I.un
  have q (i : Nat) {b : Addr} (h : s.mut[i]? = some b) (hi : i < 10) : b ∉ [(s.re r).tl, (s.re r).ed] := by
    obtain ⟨z1, z2, z3⟩ := I.rne hr i hi h
    exact nm2 z2.symm z3.symm
  have b1 := I.bE
  have b2 := I.bU
  have b3 := I.bH
  have hmono : ∀ z, (s.re z).m ≤ ((s.got r m' j).re z).m := fun z => by
    rw [got_m]
    split
    · rename_i e
      rw [e]
      exact hm
    · exact Nat.le_refl _
  exact { dr := I.dr.keep f (q 7 rfl (by decide)) (fun b hb => by
            obtain ⟨e, he, _, x2, x3⟩ := re_ix s hr
            simp only [List.mem_cons, List.not_mem_nil, or_false] at hb
            rcases hb with rfl | rfl
            · exact I.nwx _ x2
            · exact I.nwx _ x3), rd := f.keep _ _ I.rd (q 9 rfl (by decide)), jo := I.jo.keep f (q 1 rfl (by decide)) (q 2 rfl (by decide)) (q 3 rfl (by decide)), po := I.po.keep f (q 4 rfl (by decide)) (q 5 rfl (by decide)), lh := f.keep _ _ I.lh (q 6 rfl (by decide)),
          rs := by
            rw [got_rs, got_rs]
            exact f.keep _ _ I.rs (q 8 rfl (by decide)),
          re := fun z hz => by
            by_cases e : z = r
            · subst e
              have e1 : (s.got z m' j).re z = { s.re z with m := m', c := (s.re z).c + 1 } := if_pos rfl
              rw [e1]
              exact R.weak (Nat.le_refl _) fun i hi => by
                rcases hi with h | h
                · exact .inl h
                · exact .inr h.2
            · have e1 : (s.got r m' j).re z = s.re z := if_neg e
              rw [e1]
              obtain ⟨e, he, x1, x2, x3⟩ := re_ix s hr
              obtain ⟨e', he', y1, y2, y3⟩ := re_ix s hz
              have ne : e ≠ e' := by
                rintro rfl
                rw [x1] at y1
                rcases hr with rfl | rfl <;> rcases hz with rfl | rfl
                · exact e rfl
                · have := I.ne 10 11 rfl rfl (by decide)
                  exact this (Option.some.inj y1)
                · have := I.ne 10 11 rfl rfl (by decide)
                  exact this (Option.some.inj y1).symm
                · exact e rfl
              refine ((I.re z hz).keep f (nm2 (I.ne _ _ y1 x2 (by omega)) (I.ne _ _ y1 x3 (by omega))) (nm2 (I.ne _ _ y2 x2 (by omega)) (I.ne _ _ y2 x3 (by omega))) (nm2 (I.ne _ _ y3 x2 (by omega)) (I.ne _ _ y3 x3 (by omega)))).weak (Nat.le_refl _) fun i hi => ?_
              rcases hi with h | h
              · exact h
              · exact absurd h.1 (by assumption),
          un := ⟨vs, f.keep _ _ h1 (q 0 rfl (by decide)), uts_keep h2 f⟩, uo := fun u hu => (I.uo u hu).grow (fun z _ => hmono z) fun z _ => ⟨[], by rw [List.append_nil] <;> rfl⟩,
          ho := fun x hx => ⟨(I.ho x hx).1, Nat.le_trans (I.ho x hx).2 (hmono x.1)⟩,
          nd := by rw [got_mut]; exact I.nd, nw := by rw [got_mut]; exact I.nw, bE := by show s.es.length ≤ _; omega, bU := by show s.us.length ≤ _; omega, bH := by show s.hs.length ≤ _; omega,
          bC := fun z hz => by
            have h0 := I.bC z hz
            have h1 := I.bC r hr
            show (if z = r then ({ s.re r with m := m', c := (s.re r).c + 1 } : RD) else s.re z).c ≤ n + 1
            split
            · show (s.re r).c + 1 ≤ n + 1
              omega
            · omega }
end
end K58
/-! The law's turns: writing, taking under way, a fall. -/
namespace K58
open PySem L2 PyProof.Rows TL
abbrev NL : List Str := ["_law_script", "_law_draw", "_law_relations_here", "_law_journal", "_law_post", "_law_receivers", "_law_under", "_law_heard", "_law_turn", "_law_kind", "_law_at", "_law_receiver", "_law_number_here", "_law_letter", "_law_due", "_law_name", "_law_letters", "bad"]
theorem scLaw : FnScope NL ["_law_script"] (defScope sLaw) := ⟨rfl, rfl, rfl, by decide +kernel, rfl, by decide +kernel, by decide +kernel⟩
abbrev XL (P : Program) (w : World) (K : PySem.W.Frag) (mg : Str → Option Value) (base : Heap) (f : Addr) (cdv : Value) (B : Around) (outer : List Env) (s : Shared) (H : Hp) (E : XK) : Cx := (cxOf CX0 P w K mg base NL "law" (defScope sLaw) f cdv B outer s H E).nox
def lawAt (i : Nat) : Stmt := (defBody sLaw).getD i (.Pass ⟨0, 0, 0, 0⟩)
def forBody (s : Stmt) : List Stmt := match s with
  | .For _ _ b _ _ => b
  | _ => []
def ifThen (s : Stmt) : List Stmt := match s with
  | .If _ a _ _ => a
  | _ => []
def ifElse (s : Stmt) : List Stmt := match s with
  | .If _ _ b _ => b
  | _ => []
def nth (l : List Stmt) (i : Nat) : Stmt := l.getD i (.Pass ⟨0, 0, 0, 0⟩)
/-- the chain of deeds of a turn -/
def deed (i : Nat) : Stmt := match i with
  | 0 => nth (forBody (lawAt 4)) 1
  | i + 1 => nth (ifElse (deed i)) 0
abbrev sg (a : Addr) (s : W) (v8 v9 v10 v11 v12 v13 v14 v15 v16 v17 : Option V) : L2.St :=
  [some (.ref a), some (.ref s.dl), some (.ref s.rd), some (.ref s.p), some (.ref s.q), some (.ref s.rs), some (.ref s.ul), some (.ref s.lh), v8, v9, v10, v11, v12, v13, v14, v15, v16, v17]
def Tri (X : Cx) (sts : List Stmt) (Pre Post : L2.St → Hp → Prop) : Prop := ∃ t, PSs X sts t ∧ ∀ (D : Ends) σ H, Pre σ H → (∀ σ' H', Post σ' H' → D.nx σ' H') → t D σ H
section
variable {P : Program} {w : World} {K : PySem.W.Frag} {mg : Str → Option Value} {base : Heap} {A : Ads} {f : Addr} {cdv : Value} {B : Around} {outer : List Env} {sh : Shared} {H0 HB : Hp} {E : XK} {a : Addr} {ns : List Int}
/-- the state at a place of a turn -/
def At (K : PySem.W.Frag) (A : Ads) (HB : Hp) (a : Addr) (ns : List Int) (n i : Nat) (σ : L2.St) (H : Hp) : Prop := ∃ s v9 v10 v11 v12 v13 v14 v15 v16 v17, σ = sg a s (some (.int (i : Int))) v9 v10 v11 v12 v13 v14 v15 v16 v17 ∧ Sta K A HB H a ns s n
theorem at_mk {n i : Nat} {σ : L2.St} {H : Hp} {s : W} {v9 v10 v11 v12 v13 v14 v15 v16 v17 : Option V} (I : Sta K A HB H a ns s n) (h : σ = sg a s (some (.int (i : Int))) v9 v10 v11 v12 v13 v14 v15 v16 v17) : At K A HB a ns n i σ H := ⟨s, v9, v10, v11, v12, v13, v14, v15, v16, v17, h, I⟩
theorem ok_rec {r : Str} (h : isRec r) : NameOk r := by
  rcases h with rfl | rfl
  · exact ok_bob
  · exact ok_cora
theorem mem_bc {v : V} (h : v ∈ [V.str bobS, V.str coraS]) : ∃ r, v = .str r ∧ isRec r := by
  simp only [List.mem_cons, List.not_mem_nil, or_false] at h
  rcases h with rfl | rfl
  · exact ⟨_, rfl, .inl rfl⟩
  · exact ⟨_, rfl, .inr rfl⟩
theorem mem_abc {v : V} (h : v ∈ [V.str "a", V.str "b", V.str "c"]) : ∃ z c, v = .str z ∧ TL.tl z = [c] ∧ 97 ≤ c ∧ c ≤ 122 ∧ z.length = 1 := by
  simp only [List.mem_cons, List.not_mem_nil, or_false] at h
  rcases h with rfl | rfl | rfl
  · exact ⟨_, 97, rfl, by decide +kernel, by decide, by decide, by decide +kernel⟩
  · exact ⟨_, 98, rfl, by decide +kernel, by decide, by decide, by decide +kernel⟩
  · exact ⟨_, 99, rfl, by decide +kernel, by decide, by decide, by decide +kernel⟩
theorem br_write (T : Tx K mg A) (hr : Room 7 (XL P w K mg base f cdv B outer sh H0 E).A) {n i : Nat} (hn : n ≤ 40) (hi : i < 40) :
    Tri (XL P w K mg base f cdv B outer sh H0 E) (ifThen (deed 0)) (At K A HB a ns n i) (At K A HB a ns (n + 1) i) := by
  have GJ : FnOk P w K mg base CX0 3 A.fJW A.dJW ["self", "entry"] (spJW A.cJ) := ok_jw T
  have GP : FnOk P w K mg base CX0 3 A.fPik A.dPik ["_law_draw", "_law_items"] (spPik K) := ok_pik T
  have hr3 : Room 3 (XL P w K mg base f cdv B outer sh H0 E).A := hr.mono (by decide)
  refine ⟨_, pss_one (ps_expr (pe_meth (pv 3) T.clJ T.mJW GJ hr3 (bJW T) .nil pass0 (pa_cons (pe_tup (pa_cons pe_str (pa_cons (pe_call GP hr3 (by rfl) T.gPik T.FPik.kp (bPik T) .nil pass0 (pa_cons (pv 1) (pa_cons (pe_lst (pa_cons pe_str (pa_cons pe_str pa_nil))) pa_nil)))
    (pa_cons (pe_tup (pa_cons (pe_op op_add_str (pe_call GP hr3 (by rfl) T.gPik T.FPik.kp (bPik T) .nil pass0 (pa_cons (pv 1) (pa_cons (pe_lst (pa_cons pe_str (pa_cons pe_str (pa_cons pe_str pa_nil)))) pa_nil)))
      (pe_callTy call_str_int (by rfl) T.b_str (by decide +kernel) (pa_cons (pv 8) pa_nil))) pa_nil)) pa_nil)))) pa_nil))), ?_⟩
  rintro D σ H ⟨s, v9, v10, v11, v12, v13, v14, v15, v16, v17, rfl, I⟩ k
  refine ⟨_, rfl, s.p, s.dx, _, rfl, I.jo.ob, rfl, ?_⟩
  refine ⟨_, rfl, by show 2 ≤ sizeLine; decide, fun li hli => ?_⟩
  have I1 := I.same ((Frm.refl [] H).new (o := .lst [.str bobS, .str coraS]) hli)
  refine ⟨HB, s.dl, a, ns, s.i, li, [.str bobS, .str coraS], rfl, I1.dr, upd_same, (fun z => by
    rw [z, I.dr.ob] at hli
    cases hli), by simp, fun H2 v i2 hv f2 d2 => ?_⟩
  obtain ⟨r, rfl, hrec⟩ := mem_bc hv
  have I2 := I1.draw f2 d2
  refine ⟨_, rfl, by show 3 ≤ sizeLine; decide, fun li2 hli2 => ?_⟩
  have I3 := I2.same ((Frm.refl [] H2).new (o := .lst [.str "a", .str "b", .str "c"]) hli2)
  refine ⟨HB, s.dl, a, ns, i2, li2, [.str "a", .str "b", .str "c"], rfl, I3.dr, upd_same, (fun z => by
    rw [z, I2.dr.ob] at hli2
    cases hli2), by simp, fun H4 v4 i4 hv4 f4 d4 => ?_⟩
  obtain ⟨z, c, rfl, hz, c1, c2, zl⟩ := mem_abc hv4
  have I4 := I3.draw f4 d4
  have nl : (numS i).length ≤ 6 := numS_len (by omega)
  refine ⟨_, rfl, _, rfl, log_small (by omega), _, _, rfl, rfl, ?_, by show 1 ≤ sizeLine; decide, fun t1 ht1 => ⟨by show 3 ≤ sizeLine; decide, fun t2 ht2 => ?_⟩⟩
  · show z.length + (numS i).length ≤ sizeLine
    exact Nat.le_trans (by omega : _ ≤ 7) (by decide)
  have g5 : Frm [] H4 (upd H4 t1 (.tup [.str (z ++ numS i)])) := (Frm.refl [] H4).new ht1
  have g6 : Frm [] (upd H4 t1 (.tup [.str (z ++ numS i)])) (upd (upd H4 t1 (.tup [.str (z ++ numS i)])) t2 (.tup [.str letterS, .str r, .ref t1])) := (Frm.refl [] _).new ht2
  have I6 := (I4.same g5).same g6
  have et : ET (upd (upd H4 t1 (.tup [.str (z ++ numS i)])) t2 (.tup [.str letterS, .str r, .ref t1])) (.ref t2) (r, z ++ numS i) := ⟨t2, .ref t1, rfl, upd_same, t1, rfl, g6.tup _ _ upd_same⟩
  have oe : entOk (r, z ++ numS i) := ⟨⟨ok_rec hrec, ok_name hz c1 c2 (by omega)⟩, hrec⟩
  refine ⟨s.p, s.dx, s.l, s.jr, s.x, s.y, s.es, s.k, .ref t2, (r, z ++ numS i), rfl, I6.jo, by have : s.es.length ≤ n := I6.bE; omega, et, oe, fun H7 y' f7 J7 => ?_⟩
  exact k _ _ (at_mk (I6.write f7 J7) rfl)
theorem waits_uok {hs : List (Str × Nat)} {es : List Ent} {u : Und} (h : u ∈ waits hs (lettersD es)) : isRec u.r ∧ ∃ j nm, u.n = j + 1 ∧ u.l = some nm ∧ (lettersOf u.r es)[j]? = some nm ∧ hget hs u.r ≤ j := by
  unfold waits at h
  obtain ⟨⟨r, ns⟩, hx, hu⟩ := List.mem_flatMap.mp h
  obtain ⟨h1, rfl, _⟩ := ld_mem hx
  unfold due at hu
  obtain ⟨j, hj⟩ := List.mem_iff_getElem?.mp hu
  have hl : j < ((lettersOf r es).drop (hget hs r)).length := by
    have := (List.getElem?_eq_some_iff.mp hj).1
    rwa [due_len] at this
  have e := due_get r (hget hs r) j _ (List.getElem?_eq_getElem hl)
  have e2 : u = ⟨r, hget hs r + j + 1, some ((lettersOf r es).drop (hget hs r))[j]⟩ := Option.some.inj (hj.symm.trans e)
  subst e2
  refine ⟨h1, hget hs r + j, _, rfl, rfl, ?_, Nat.le_add_right _ _⟩
  show (lettersOf r es)[hget hs r + j]? = some ((lettersOf r es).drop (hget hs r))[j]
  rw [← List.getElem?_drop, List.getElem?_eq_getElem hl]
theorem br_under (T : Tx K mg A) (hr : Room 7 (XL P w K mg base f cdv B outer sh H0 E).A) {n i : Nat} (hn : n ≤ 40) :
    Tri (XL P w K mg base f cdv B outer sh H0 E) (ifThen (deed 2)) (At K A HB a ns n i) (At K A HB a ns (n + 1) i) := by
  have GP : FnOk P w K mg base CX0 2 A.fPW A.dPW ["self"] (spPW A.cP A.cJ) := ok_pw T
  refine ⟨_, pss_one (ps_aug (i := 6) scLaw.nd rfl (.inl rfl) (pe_meth0 (pv 4) T.clP T.mPW GP (hr.mono (by decide)) (bPW T) .nil pass0) iop_ext), ?_⟩
  rintro D σ H ⟨s, v9, v10, v11, v12, v13, v14, v15, v16, v17, rfl, I⟩ k
  have hE := I.bE
  refine ⟨_, rfl, _, rfl, s.q, s.dxq, _, rfl, I.po.ob, rfl, s.q, s.dxq, s.p, s.hd, s.hs, s.dx, s.l, s.jr, s.x, s.y, s.es, s.k, rfl, I.po, I.jo, by omega, fun H1 u us f1 hu h1 p1 => ?_⟩
  have I1 := I.same f1
  obtain ⟨vs, hul, pul⟩ := I1.un
  have w1 := waits_small s.hs (s.es.take s.k)
  have w2 : (s.es.take s.k).length ≤ 40 := by rw [List.length_take]; omega
  have w3 := I1.bU
  have l1 := pul.length
  have l2 := p1.length
  refine ⟨s.ul, u, vs, us, rfl, rfl, hul, h1, Nat.le_trans (by omega : _ ≤ 4000) (by decide), ?_⟩
  have g : Frm [s.ul] H1 (upd H1 s.ul (.lst (vs ++ us))) := (Frm.refl _ H1).lst (.inl (by simp)) hul
  refine k _ _ (at_mk (I1.under (us := s.us ++ waits s.hs (lettersD (s.es.take s.k))) (Nat.le_succ n) g (.inl rfl) upd_same (uts_keep (pd_append pul p1) g) (fun u hu => ?_) ?_) rfl)
  · rcases List.mem_append.mp hu with h | h
    · exact I1.uo u h
    · obtain ⟨h1, j, nm, e1, e2, e3, _⟩ := waits_uok h
      refine ⟨h1, ?_⟩
      rw [e2]
      exact ⟨j, e1, e3⟩
  · rw [List.length_append]
    omega
theorem br_settle (T : Tx K mg A) (hr : Room 7 (XL P w K mg base f cdv B outer sh H0 E).A) {n i : Nat} (hn : n ≤ 40) :
    Tri (XL P w K mg base f cdv B outer sh H0 E) (ifThen (deed 1)) (At K A HB a ns n i) (At K A HB a ns n i) := by
  have GS : FnOk P w K mg base CX0 1 A.fJS A.dJS ["self"] (spJS A.cJ) := ok_js T
  refine ⟨_, pss_one (ps_expr (pe_meth0 (pv 3) T.clJ T.mJS GS (hr.mono (by decide)) (bJS T) .nil pass0)), ?_⟩
  rintro D σ H ⟨s, v9, v10, v11, v12, v13, v14, v15, v16, v17, rfl, I⟩ k
  have hE := I.bE
  refine ⟨_, rfl, s.p, s.dx, _, rfl, I.jo.ob, rfl, s.p, s.dx, s.l, s.jr, s.x, s.y, s.es, s.k, rfl, I.jo, by omega, fun H1 x' f1 J1 => ?_⟩
  exact k _ _ (at_mk (I.settle f1 J1) rfl)
theorem br_fall (T : Tx K mg A) (hr : Room 7 (XL P w K mg base f cdv B outer sh H0 E).A) {n i : Nat} (hn : n ≤ 40) :
    Tri (XL P w K mg base f cdv B outer sh H0 E) (ifThen (deed 3)) (At K A HB a ns n i) (At K A HB a ns n i) := by
  have GI : FnOk P w K mg base CX0 5 A.fJI A.dJI ["self", "relations", "text"] (spJI A.cJ) := ok_ji T
  have GF : FnOk P w K mg base CX0 2 A.fJF A.dJF ["self", "cut"] (spJF A.cJ) := ok_jf T
  have GT : FnOk P w K mg base CX0 2 A.fTak A.dTak ["_law_draw", "_law_many"] (spTak K) := ok_tak T
  have GP : FnOk P w K mg base CX0 1 A.fPI A.dPI ["self", "journal"] (spPI A.cP) := ok_pi T
  have hr2 : Room 2 (XL P w K mg base f cdv B outer sh H0 E).A := hr.mono (by decide)
  refine ⟨_, pss_cons (ps_set (i := 3) scLaw.nd rfl (.inr rfl) (pe_make T.mkJ GI (hr.mono (by decide)) (by rfl) T.gJ (bJI T) .nil pass0 (pa_cons (pv 2) (pa_cons (pe_meth (pv 3) T.clJ T.mJF GF hr2 (bJF T) .nil pass0 (pa_cons
      (pe_call GT hr2 (by rfl) T.gTak T.FTak.kp (bTak T) .nil pass0 (pa_cons (pv 1) (pa_cons (pe_op op_add (pe_callB call_len_str (by rfl) T.b_len PySem.boot_len (pa_cons (pe_fld (pv 3) rfl) pa_nil)) pe_int) pa_nil))) pa_nil)) pa_nil))))
    (pss_one (ps_asg (pe_tup (pa_cons (pe_make T.mkP GP hr2 (by rfl) T.gP (bPI T) .nil pass0 (pa_cons (pv 3) pa_nil)) (pa_cons pe_dnewK pa_nil))) (pg_tup rfl (pgs_cons (pg_name (i := 4) scLaw.nd rfl (.inr rfl)) (pgs_cons (pg_name (i := 7) scLaw.nd rfl (.inl rfl)) pgs_nil))))), ?_⟩
  rintro D σ H ⟨s, v9, v10, v11, v12, v13, v14, v15, v16, v17, rfl, I⟩ k
  have hE := I.bE
  have cy := I.jo.cy (by omega)
  refine ⟨_, rfl, _, rfl, s.p, s.dx, _, rfl, I.jo.ob, rfl, _, rfl, _, rfl, s.p, A.cJ, s.dx, _, _, rfl, I.jo.ob, T.clJ, T.nJloose, rfl, s.y, rfl, Nat.le_trans cy (by decide), _, _, rfl, rfl, HB, s.dl, a, ns, s.i, _, rfl, by omega, I.dr, fun H1 z i' z0 z1 f1 d1 => ?_⟩
  have I1 := I.draw f1 d1
  obtain ⟨c, rfl⟩ : ∃ c : Nat, z = (c : Int) := ⟨z.toNat, by omega⟩
  refine ⟨s.p, s.dx, s.l, s.jr, s.x, s.y, s.es, s.k, c, rfl, I1.jo, by omega, by omega, fun zt m rest hkm hm ez hrest hzl => ?_⟩
  intro p' dx' hp' hdx' hne
  have g1 : Frm [] H1 (upd (upd H1 dx' (.own p')) p' (.ins A.cJ dx' [])) := ((Frm.refl [] H1).new hdx').new ((upd_ne hne.symm).trans hp')
  refine ⟨p', dx', s.rd, zt, s.es.take m, rest, rfl, upd_same, g1.keep _ _ I1.rd (by simp), ez, hrest, fun e he => I1.jo.ok e (List.mem_of_mem_take he), by rw [List.length_take]; omega, Nat.le_trans hzl (by decide), fun H3 l' jr' x' f3 hl' hjr' J3 => ⟨rfl, ?_⟩⟩
  have fA : Frm [] H1 H3 := g1.trans f3 (fun b hb => .inr (by rw [List.mem_singleton.mp hb]; exact hp'))
  have em : (s.es.take m).length = m := by rw [List.length_take]; omega
  rw [em] at J3
  refine ⟨_, rfl, ?_⟩
  intro q' dxq' hq' hdxq' hneq
  have g3 : Frm [] H3 (upd (upd H3 dxq' (.own q')) q' (.ins A.cP dxq' [])) := ((Frm.refl [] H3).new hdxq').new ((upd_ne hneq.symm).trans hq')
  refine ⟨q', dxq', p', rfl, upd_same, fun H5 hd' f5 hhd' P5 => ⟨rfl, fun lh' hlh' => ⟨by show 2 ≤ sizeLine; decide, fun t ht => ?_⟩⟩⟩
  have fB : Frm [] H3 H5 := g3.trans f5 (fun b hb => .inr (by rw [List.mem_singleton.mp hb]; exact hq'))
  refine ⟨t, _, rfl, SqT.of upd_same, rfl, _, _, rfl, _, _, rfl, rfl, ?_⟩
  have fC : Frm [] H5 (upd (upd H5 lh' (.dK [])) t (.tup [.ref q', .ref lh'])) := ((Frm.refl [] H5).new hlh').new ht
  have hlt : lh' ≠ t := ne_of_none upd_same ht
  obtain ⟨us3, hl3, _⟩ := J3.ls
  have J5 := J3.keep fB (by simp) (by simp) (by simp)
  obtain ⟨us5, hl5, _⟩ := J5.ls
  have hd3 : H3 hd' = none := g3.free hhd'
  refine k _ _ (at_mk (I1.fall hkm hm ((fA.step fB).step fC) (J5.keep fC (by simp) (by simp) (by simp)) (P5.keep fC (by simp) (by simp)) ((upd_ne hlt).trans upd_same) ?_ ?_) rfl)
  · intro b hb
    simp only [List.mem_cons, List.not_mem_nil, or_false] at hb
    rcases hb with rfl | rfl | rfl | rfl | rfl | rfl
    · exact hp'
    · exact g1.free hl'
    · exact g1.free hjr'
    · exact fA.free hq'
    · exact fA.free hd3
    · exact (fA.step fB).free hlh'
  · simp only [List.nodup_cons, List.mem_cons, List.not_mem_nil, or_false, not_or, List.nodup_nil, not_false_eq_true, and_true]
    refine ⟨⟨ne_of J3.ob hl3 (by intro z; cases z), ne_of J3.ob J3.rl (by intro z; cases z), ne_of_none J3.ob hq', ne_of_none J3.ob hd3, ne_of_none J5.ob hlh'⟩, ⟨ne_of hl3 J3.rl (by intro z; cases z), ne_of_none hl3 hq', ne_of_none hl3 hd3, ne_of_none hl5 hlh'⟩,
      ⟨ne_of_none J3.rl hq', ne_of_none J3.rl hd3, ne_of_none J5.rl hlh'⟩, ⟨ne_of P5.ob P5.hd (by intro z; cases z), ne_of_none P5.ob hlh'⟩, ne_of_none P5.hd hlh'⟩
end
end K58
/-! The law's turns: an item under way comes in. -/
namespace K58
open PySem L2 PyProof.Rows TL
def Tri1 (X : Cx) (st : Stmt) (Pre Post : L2.St → Hp → Prop) : Prop := ∃ t, PS X st t ∧ ∀ (D : Ends) σ H, Pre σ H → (∀ σ' H', Post σ' H' → D.nx σ' H') → t D σ H
section
variable {P : Program} {w : World} {K : PySem.W.Frag} {mg : Str → Option Value} {base : Heap} {A : Ads} {f : Addr} {cdv : Value} {B : Around} {outer : List Env} {sh : Shared} {H0 HB : Hp} {E : XK} {a : Addr} {ns : List Int}
/-- an item was taken out -/
def AtU (K : PySem.W.Frag) (A : Ads) (HB : Hp) (a : Addr) (ns : List Int) (n i : Nat) (σ : L2.St) (H : Hp) : Prop := ∃ (s : W) (kd : Int) (v10 : Option V) (u : Und) (lv : V) (v14 v15 v16 v17 : Option V), σ = sg a s (some (.int (i : Int))) (some (.int kd)) v10 (some (.str u.r)) (some (.int (u.n : Int))) (some lv) v14 v15 v16 v17 ∧
  Sta K A HB H a ns s n ∧ UOk s u ∧ OT H lv u.l
theorem atU_mk {n i : Nat} {σ : L2.St} {H : Hp} {s : W} {kd : Int} {v10 : Option V} {u : Und} {lv : V} {v14 v15 v16 v17 : Option V} (I : Sta K A HB H a ns s n) (h1 : UOk s u) (h2 : OT H lv u.l) (h : σ = sg a s (some (.int (i : Int))) (some (.int kd)) v10 (some (.str u.r)) (some (.int (u.n : Int))) (some lv) v14 v15 v16 v17) : AtU K A HB a ns n i σ H := ⟨s, kd, v10, u, lv, v14, v15, v16, v17, h, I, h1, h2⟩
theorem recA_re (s : W) {r : Str} (h : isRec r) : recA (s.re bobS).r (s.re coraS).r r = (s.re r).r := by
  unfold recA
  rcases h with rfl | rfl
  · rw [if_pos rfl]
  · rw [if_neg bc_ne.symm]
theorem rs_get {s : W} {n : Nat} {H : Hp} (I : Sta K A HB H a ns s n) {r : Str} (h : isRec r) : DGet H s.rs (.str r) (some (.ref (s.re r).r)) :=
  .inl ⟨_, Sum.inr r, .inl I.rs, rfl, by rw [rsK_get h, recA_re s h]⟩
theorem br_in (hP : P = PW) (T : Tx K mg A) (hr : Room 7 (XL P w K mg base f cdv B outer sh H0 E).A) {n i : Nat} (hn : n ≤ 40) :
    Tri1 (XL P w K mg base f cdv B outer sh H0 E) (nth (ifThen (deed 4)) 3) (AtU K A HB a ns n i) (At K A HB a ns (n + 1) i) := by
  have GH : FnOk P w K mg base (L2.CX P w) 2 A.fPH A.dPH ["self", "receiver", "number"] (spPH A.cP A.cJ A.cB) := ok_ph hP T
  have GG : FnOk P w K mg base CX0 1 A.fRG A.dRG ["self", "number", "letter"] (spRG A.cR) := ok_rg T
  have hu := hu_of hr
  refine ⟨_, ps_if (pt_cmpR op_isN (pv 13) pe_non (nomark _))
      (pss_cons (ps_expr (pe_methS (W := WE (fun _ _ _ _ => False)) (pv 4) T.clP T.mPH GH (hr.mono (by decide)) (bPH T) (fun σ => passAt takes0 σ) (pa_cons (pv 11) (pa_cons (pv 12) pa_nil))))
        (pss_one (ps_dput hu (pv 7) (pv 11) (pe_callB (call_max2 rfl) (by rfl) T.b_max (by decide +kernel) (pa_cons (pv 12) (pa_cons (pe_dget2 hu (pv 7) (pv 11) pe_int ⟨by rfl, by rfl, by rfl, by rfl⟩) pa_nil))) rfl)))
      (pss_one (ps_if (pt_cmpR op_gt (pv 9) pe_int (nomark _))
        (pss_one (ps_expr (pe_bm PySem.F.plainAttrs_list PySem.F.slot_list_append PySem.F.type_list_append mt_append (pv 6) (pa_cons (pe_tup (pa_cons (pv 11) (pa_cons
          (pe_meth (pe_dget hu (pv 5) (pv 11) (fun _ _ => rfl)) T.clR T.mRG GG (hr.mono (by decide)) (bRG T) .nil pass0 (pa_cons (pv 12) (pa_cons (pv 13) pa_nil))) (pa_cons pe_non pa_nil)))) pa_nil)))) pss_nil)), ?_⟩
  rintro D σ H ⟨s, kd, v10, ⟨r, m, o⟩, lv, v14, v15, v16, v17, rfl, I, ⟨hrec, ok⟩, hlv⟩ k
  have hE := I.bE
  have hH := I.bH
  have R := I.re r hrec
  cases o with
  | none =>
    have hlv' : lv = .non := hlv
    subst hlv'
    have ok' : m ≤ (s.re r).m := ok
    refine ⟨_, rfl, rfl, _, rfl, iteT ?_⟩
    have hlen : m ≤ lenOf r (s.es.take s.k) := by
      rw [lenOf_rec hrec]
      exact Nat.le_trans ok' R.le
    refine ⟨_, rfl, s.q, s.dxq, _, rfl, I.po.ob, rfl, _, rfl, _, rfl, s.q, s.dxq, s.p, s.hd, s.hs, s.dx, s.l, s.jr, s.x, s.y, s.es, s.k, r, _, rfl, I.po, I.jo, by omega, by omega, .inl ⟨m, rfl, hlen, fun H1 f1 P1 => ?_⟩⟩
    have nlh : s.lh ≠ s.hd := I.ne 6 5 rfl rfl (by decide)
    have hl1 : H1 s.lh = some (.dK (hk s.hs)) := f1.keep _ _ I.lh (nm1 nlh)
    refine ⟨_, rfl, _, rfl, s.lh, rfl, .inl ⟨_, .inl hl1⟩, _, rfl, _, DGet.k (k := (Sum.inr r : Key)) hl1, ?_⟩
    rw [hk_getD]
    refine ⟨_, _, rfl, ?_⟩
    have em : (if ((hget s.hs r : Nat) : Int) > (m : Int) then ((hget s.hs r : Nat) : Int) else (m : Int)) = ((max m (hget s.hs r) : Nat) : Int) := by
      split <;> omega
    rw [em]
    refine ⟨_, rfl, _, rfl, s.lh, _, rfl, DPut.k (k := (Sum.inr r : Key)) hl1 (by rw [hk_len]; exact small1000 (by omega)), ?_⟩
    rw [hk_put]
    have g : Frm [s.hd, s.lh] H1 (upd H1 s.lh (.dK (hk (hput s.hs r (max m (hget s.hs r)))))) := (Frm.refl _ H1).dk (.inl (by simp)) hl1
    have g2 := (f1.weak (M := [s.hd, s.lh]) (by simp)).trans g (fun _ h => .inl h)
    have hv : max m (hget s.hs r) ≤ (s.re r).m := Nat.max_le.mpr ⟨ok', I.hm r⟩
    have nq : s.q ≠ s.lh := I.ne 4 6 rfl rfl (by decide)
    exact k _ _ (at_mk (I.hear hrec hv g2 ⟨(upd_ne nq).trans P1.ob, (upd_ne nlh.symm).trans P1.hd⟩ upd_same) rfl)
  | some nm =>
    have hlt : LT H lv nm := hlv
    obtain ⟨b, rfl, hb⟩ := id hlt
    obtain ⟨j, ej, hj⟩ : ∃ j, m = j + 1 ∧ (s.ls r)[j]? = some nm := ok
    subst ej
    refine ⟨_, rfl, rfl, _, rfl, iteF ?_⟩
    refine ⟨_, rfl, _, _, rfl, rfl, _, rfl, ?_⟩
    refine ite2 (fun _ => ?_) (fun _ => ?_)
    · obtain ⟨vs, hul, pul⟩ := I.un
      have hC := I.bC r hrec
      have hL : (s.ls r).length ≤ 40 := by
        have h1 := lettersOf_le r (s.es.take s.k)
        rw [List.length_take] at h1
        exact Nat.le_trans h1 (by omega)
      refine ⟨_, rfl, .inl ⟨rfl, vs, SqL.of hul⟩, _, rfl, _, rfl, _, rfl, s.rs, _, rfl, rs_get I hrec, (s.re r).r, (s.re r).dx, _, rfl, R.ob, rfl, _, rfl, _, rfl, (s.re r).r, (s.re r).dx, (s.re r).tl, (s.re r).ed, s.ls r, (s.re r).m, (s.re r).c, s.D r, j, nm, .ref b, rfl, hj, hlt, R, by omega, by omega, fun H1 m' f1 hm R1 => ?_⟩
      have I1 := I.get hrec f1 hm R1
      refine ⟨by show 3 ≤ sizeLine; decide, fun t ht => ?_⟩
      have g : Frm [] H1 (upd H1 t (.tup [.str r, .int (m' : Int), .non])) := (Frm.refl [] H1).new ht
      have I2 := I1.same g
      obtain ⟨vs2, hul2, pul2⟩ := I2.un
      have hb2 := I2.bU
      have hl2 := pul2.length
      refine ⟨s.ul, vs2, .ref t, rfl, rfl, hul2, Nat.lt_of_le_of_lt (by omega : vs2.length ≤ 4000) (by decide), ?_⟩
      have g3 : Frm [s.ul] (upd H1 t (.tup [.str r, .int (m' : Int), .non])) (upd (upd H1 t (.tup [.str r, .int (m' : Int), .non])) s.ul (.lst (vs2 ++ [.ref t]))) := (Frm.refl _ _).lst (.inl (by simp)) hul2
      have hut : UT (upd H1 t (.tup [.str r, .int (m' : Int), .non])) (.ref t) ⟨r, m', none⟩ := ⟨t, .non, rfl, upd_same, rfl⟩
      refine k _ _ (at_mk (I2.under (n' := n + 1) (us := s.us ++ [⟨r, m', none⟩]) (Nat.le_refl _) g3 (.inl rfl) upd_same (uts_keep (pd_append pul2 (.cons hut .nil)) g3) (fun u hu => ?_) ?_) rfl)
      · rcases List.mem_append.mp hu with h | h
        · exact I2.uo u h
        · rw [List.mem_singleton.mp h]
          refine ⟨hrec, ?_⟩
          show m' ≤ ((s.got r m' j).re r).m
          rw [got_m, if_pos rfl]
          exact Nat.le_refl _
      · have h5 := I.bU
        rw [List.length_append, List.length_singleton]
        omega
    · exact k _ _ (at_mk (I.mono (Nat.le_succ n)) rfl)
/-- there is something under way, and which deed it is -/
def AtD (K : PySem.W.Frag) (A : Ads) (HB : Hp) (a : Addr) (ns : List Int) (n i : Nat) (σ : L2.St) (H : Hp) : Prop := ∃ (s : W) (kd : Int) (v10 v11 v12 v13 v14 v15 v16 v17 : Option V), σ = sg a s (some (.int (i : Int))) (some (.int kd)) v10 v11 v12 v13 v14 v15 v16 v17 ∧ Sta K A HB H a ns s n ∧ s.us ≠ []
theorem br_deliver (hP : P = PW) (T : Tx K mg A) (hr : Room 7 (XL P w K mg base f cdv B outer sh H0 E).A) {n i : Nat} (hn : n ≤ 40) :
    Tri (XL P w K mg base f cdv B outer sh H0 E) (ifThen (deed 4)) (AtD K A HB a ns n i) (At K A HB a ns (n + 1) i) := by
  have GT : FnOk P w K mg base CX0 2 A.fTak A.dTak ["_law_draw", "_law_many"] (spTak K) := ok_tak T
  have hr2 : Room 2 (XL P w K mg base f cdv B outer sh H0 E).A := hr.mono (by decide)
  obtain ⟨t3, h3, q3⟩ := br_in (P := P) (w := w) (K := K) (mg := mg) (base := base) (A := A) (f := f) (cdv := cdv) (B := B) (outer := outer) (sh := sh) (H0 := H0) (HB := HB) (E := E) (a := a) (ns := ns) (i := i) hP T hr hn
  refine ⟨_, pss_cons (ps_set (i := 10) scLaw.nd rfl (.inl rfl) (pe_call GT hr2 (by rfl) T.gTak T.FTak.kp (bTak T) .nil pass0 (pa_cons (pv 1) (pa_cons (pe_callB call_len_seq (by rfl) T.b_len PySem.boot_len (pa_cons (pv 6) pa_nil)) pa_nil))))
    (pss_cons (ps_asg (pe_ix ix_list (pv 6) (pv 10) (fun _ _ => rfl)) (pg_tup rfl (pgs_cons (pg_name (i := 11) scLaw.nd rfl (.inl rfl)) (pgs_cons (pg_name (i := 12) scLaw.nd rfl (.inl rfl)) (pgs_cons (pg_name (i := 13) scLaw.nd rfl (.inl rfl)) pgs_nil)))))
    (pss_cons (ps_if (pt_cmpR op_gt (pe_call GT hr2 (by rfl) T.gTak T.FTak.kp (bTak T) .nil pass0 (pa_cons (pv 1) (pa_cons pe_int pa_nil))) pe_int (nomark _))
        (pss_one (ps_set (i := 6) scLaw.nd rfl (.inl rfl) (pe_op op_cat (pe_slice sl_list (pv 6) po_none (po_some (pv 10))) (pe_slice sl_list (pv 6) (po_some (pe_op op_add (pv 10) pe_int)) po_none)))) pss_nil)
    (pss_one h3))), ?_⟩
  rintro D σ H ⟨s, kd, v10, v11, v12, v13, v14, v15, v16, v17, rfl, I, hne⟩ k
  obtain ⟨vs, hul, pul⟩ := I.un
  have hl := pul.length
  have hpos : 0 < s.us.length := List.length_pos_iff.mpr hne
  have hU := I.bU
  refine ⟨_, rfl, _, rfl, s.ul, vs, rfl, .inl (SqL.of hul), HB, s.dl, a, ns, s.i, _, rfl, by omega, I.dr, fun H1 z i1 z0 z1 f1 d1 => ?_⟩
  have I1 := I.draw f1 d1
  obtain ⟨j, rfl⟩ : ∃ j : Nat, z = (j : Int) := ⟨z.toNat, by omega⟩
  have hj : j < s.us.length := by omega
  obtain ⟨v, hv⟩ : ∃ v, vs[j]? = some v := ⟨vs[j]'(by omega), List.getElem?_eq_getElem _⟩
  have hul1 : H1 s.ul = some (.lst vs) := f1.keep _ _ hul (nm1 (I.ne 0 7 rfl rfl (by decide)))
  obtain ⟨u, hu, b, lv, rfl, hb, hlv⟩ := pd_left (uts_keep pul f1) hv
  have oku := I1.uo u (List.mem_of_getElem? hu)
  refine ⟨_, rfl, _, rfl, s.ul, vs, _, _, rfl, rfl, SqL.of hul1, atI_nat hv, b, _, rfl, SqT.of hb, rfl, _, _, rfl, _, _, rfl, _, _, rfl, rfl, ?_⟩
  refine ⟨_, rfl, HB, s.dl, a, ns, i1, 3, rfl, by decide, I1.dr, fun H2 z2 i2 _ _ f2 d2 => ?_⟩
  have I2 := I1.draw f2 d2
  have hul2 : H2 s.ul = some (.lst vs) := f2.keep _ _ hul1 (nm1 (I.ne 0 7 rfl rfl (by decide)))
  have pul2 := uts_keep (uts_keep pul f1) f2
  refine ⟨_, _, rfl, rfl, _, rfl, ?_⟩
  refine ite2 (fun _ => ?_) (fun _ => ?_)
  · refine ⟨_, rfl, _, rfl, (j : Int), rfl, s.ul, vs, rfl, SqL.of hul2, fun l1 hl1 => ?_⟩
    have g1 : Frm [] H2 (upd H2 l1 (.lst (cutV vs none (some (j : Int))))) := (Frm.refl [] H2).new hl1
    refine ⟨_, rfl, _, rfl, _, _, rfl, rfl, ((j : Int) + 1), rfl, s.ul, vs, rfl, SqL.of (g1.keep _ _ hul2 (by simp)), fun l2 hl2 => ?_⟩
    have n12 : l1 ≠ l2 := ne_of_none upd_same hl2
    refine ⟨l1, l2, _, _, rfl, rfl, (upd_ne n12).trans upd_same, upd_same, ?_, fun l3 hl3 => ?_⟩
    · have c1 := cutV_length vs none (some (j : Int))
      have c2 := cutV_length vs (some ((j : Int) + 1)) none
      exact Nat.le_trans (by omega : _ ≤ 8000) (by decide)
    have ec : cutV vs none (some (j : Int)) ++ cutV vs (some ((j : Int) + 1)) none = vs.take j ++ vs.drop (j + 1) := by
      rw [cut_take_t, show ((j : Int) + 1) = ((j + 1 : Nat) : Int) from rfl, cut_drop]
    rw [ec]
    have g3 : Frm [] H2 (upd (upd (upd H2 l1 (.lst (cutV vs none (some (j : Int))))) l2 (.lst (cutV vs (some ((j : Int) + 1)) none))) l3 (.lst (vs.take j ++ vs.drop (j + 1)))) := (g1.new hl2).new hl3
    have I3 := I2.under (ul := l3) (us := s.us.take j ++ s.us.drop (j + 1)) (n' := n) (Nat.le_refl _) (g3.weak (M := [s.ul]) (by simp)) (.inr ((g1.new hl2).free hl3)) upd_same (uts_keep (pd_append (pd_take j pul2) (pd_drop (j + 1) pul2)) g3) (fun u' hu' => by
      rcases List.mem_append.mp hu' with h | h
      · exact I2.uo u' (List.mem_of_mem_take h)
      · exact I2.uo u' (List.mem_of_mem_drop h)) (by
      rw [List.length_append, List.length_take, List.length_drop]
      omega)
    exact q3 D _ _ (atU_mk (kd := kd) I3 oku ((hlv.keep f2).keep g3) rfl) k
  · exact q3 D _ _ (atU_mk (kd := kd) I2 oku (hlv.keep f2) rfl) k
end
end K58
/-! The law's turns: which deed; what is due. -/
namespace K58
open PySem L2 PyProof.Rows TL
theorem eqv_nilU (us : List Und) : PyData.eqv (.list (us.map datU)) (.list []) = us.isEmpty := by
  cases us <;> simp [PyData.eqv, PyData.eqvAll]
theorem letters_ok {es : List Ent} (h : ∀ e ∈ es, entOk e) {r nm : Str} (hn : nm ∈ lettersOf r es) : NameOk nm := by
  unfold lettersOf at hn
  obtain ⟨e, he, rfl⟩ := List.mem_map.mp hn
  exact (h e (List.mem_filter.mp he).1).1.2
section
variable {P : Program} {w : World} {K : PySem.W.Frag} {mg : Str → Option Value} {base : Heap} {A : Ads} {f : Addr} {cdv : Value} {B : Around} {outer : List Env} {sh : Shared} {H0 HB H : Hp} {E : XK} {a : Addr} {ns : List Int} {s : W} {n : Nat}
theorem Sta.names (I : Sta K A HB H a ns s n) {r nm : Str} (h : nm ∈ s.ls r) : NameOk nm := letters_ok (fun e he => I.jo.ok e (List.mem_of_mem_take he)) h
theorem Sta.unames (I : Sta K A HB H a ns s n) : ∀ u ∈ s.us, NameOk u.r ∧ okO u.l := fun u hu => by
  obtain ⟨h1, h2⟩ := I.uo u hu
  refine ⟨ok_rec h1, ?_⟩
  obtain ⟨r, m, o⟩ := u
  cases o with
  | none => exact True.intro
  | some nm =>
    obtain ⟨j, _, hj⟩ := h2
    exact I.names (List.mem_of_getElem? hj)
/-- the kind of the turn was drawn -/
def AtK (K : PySem.W.Frag) (A : Ads) (HB : Hp) (a : Addr) (ns : List Int) (n i : Nat) (σ : L2.St) (H : Hp) : Prop := ∃ (s : W) (kd : Int) (v10 v11 v12 v13 v14 v15 v16 v17 : Option V), σ = sg a s (some (.int (i : Int))) (some (.int kd)) v10 v11 v12 v13 v14 v15 v16 v17 ∧ Sta K A HB H a ns s n
theorem atD_mk {i : Nat} {σ : L2.St} {kd : Int} {v10 v11 v12 v13 v14 v15 v16 v17 : Option V} (I : Sta K A HB H a ns s n) (hne : s.us ≠ []) (h : σ = sg a s (some (.int (i : Int))) (some (.int kd)) v10 v11 v12 v13 v14 v15 v16 v17) : AtD K A HB a ns n i σ H := ⟨s, kd, v10, v11, v12, v13, v14, v15, v16, v17, h, I, hne⟩
theorem At.mono {i m m' : Nat} (h : m ≤ m') {σ : L2.St} (p : At K A HB a ns m i σ H) : At K A HB a ns m' i σ H := by
  obtain ⟨s, v9, v10, v11, v12, v13, v14, v15, v16, v17, e, I⟩ := p
  exact at_mk (I.mono h) e
theorem deeds (hP : P = PW) (T : Tx K mg A) (hr : Room 7 (XL P w K mg base f cdv B outer sh H0 E).A) {n i : Nat} (hn : n ≤ 40) (hi : i < 40) :
    Tri1 (XL P w K mg base f cdv B outer sh H0 E) (deed 0) (AtK K A HB a ns n i) (At K A HB a ns (n + 1) i) := by
  have GT : FnOk P w K mg base CX0 2 A.fTak A.dTak ["_law_draw", "_law_many"] (spTak K) := ok_tak T
  have hr2 : Room 2 (XL P w K mg base f cdv B outer sh H0 E).A := hr.mono (by decide)
  obtain ⟨t0, h0, q0⟩ := br_write (P := P) (w := w) (K := K) (mg := mg) (base := base) (A := A) (f := f) (cdv := cdv) (B := B) (outer := outer) (sh := sh) (H0 := H0) (HB := HB) (E := E) (a := a) (ns := ns) (i := i) T hr hn hi
  obtain ⟨t1, h1, q1⟩ := br_settle (P := P) (w := w) (K := K) (mg := mg) (base := base) (A := A) (f := f) (cdv := cdv) (B := B) (outer := outer) (sh := sh) (H0 := H0) (HB := HB) (E := E) (a := a) (ns := ns) (i := i) T hr hn
  obtain ⟨t2, h2, q2⟩ := br_under (P := P) (w := w) (K := K) (mg := mg) (base := base) (A := A) (f := f) (cdv := cdv) (B := B) (outer := outer) (sh := sh) (H0 := H0) (HB := HB) (E := E) (a := a) (ns := ns) (i := i) T hr hn
  obtain ⟨t3, h3, q3⟩ := br_fall (P := P) (w := w) (K := K) (mg := mg) (base := base) (A := A) (f := f) (cdv := cdv) (B := B) (outer := outer) (sh := sh) (H0 := H0) (HB := HB) (E := E) (a := a) (ns := ns) (i := i) T hr hn
  obtain ⟨t4, h4, q4⟩ := br_deliver (P := P) (w := w) (K := K) (mg := mg) (base := base) (A := A) (f := f) (cdv := cdv) (B := B) (outer := outer) (sh := sh) (H0 := H0) (HB := HB) (E := E) (a := a) (ns := ns) (i := i) hP T hr hn
  refine ⟨_, ps_if (pt_cmpR op_lt (pv 9) pe_int (nomark _)) h0 (pss_one (ps_if (pt_cmpR op_eq (pv 9) pe_int (nomark _)) h1 (pss_one (ps_if (pt_cmpR op_eq (pv 9) pe_int (nomark _)) h2
    (pss_one (ps_if (PW.pt (pw_and (pt_cmpR op_eq (pv 9) pe_int (nomark _)) (pw_and1 (pt_cmpR op_eq (pe_call GT hr2 (by rfl) T.gTak T.FTak.kp (bTak T) .nil pass0 (pa_cons (pv 1) (pa_cons pe_int pa_nil))) pe_int (nomark _))))) h3
    (pss_one (ps_if (pt_cmpR (op_neD hr.units) (pv 6) (pe_lst pa_nil) (nomark _)) h4 pss_nil)))))))), ?_⟩
  rintro D σ H ⟨s, kd, v10, v11, v12, v13, v14, v15, v16, v17, rfl, I⟩ k
  have k' : ∀ σ' H', At K A HB a ns n i σ' H' → D.nx σ' H' := fun σ' H' p => k _ _ (p.mono (Nat.le_succ n))
  refine ⟨_, rfl, _, _, rfl, rfl, _, rfl, ?_⟩
  refine ite2 (fun _ => q0 D _ _ (at_mk I rfl) k) (fun _ => ?_)
  refine ⟨_, rfl, rfl, _, rfl, ?_⟩
  refine ite2 (fun _ => q1 D _ _ (at_mk I rfl) k') (fun _ => ?_)
  refine ⟨_, rfl, rfl, _, rfl, ?_⟩
  refine ite2 (fun _ => q2 D _ _ (at_mk I rfl) k) (fun _ => ?_)
  refine ⟨_, rfl, rfl, _, rfl, ?_⟩
  refine ite2 (fun _ => ?_) (fun _ => ?_)
  · refine ⟨_, rfl, HB, s.dl, a, ns, s.i, 3, rfl, by decide, I.dr, fun H2 z2 i2 _ _ f2 d2 => ?_⟩
    have I2 := I.draw f2 d2
    refine ⟨rfl, _, rfl, ?_⟩
    refine ite2 (fun _ => q3 D _ _ (at_mk I2 rfl) k') (fun _ => ?_)
    obtain ⟨vs, hul, pul⟩ := I2.un
    refine ⟨_, rfl, Nat.zero_le _, fun l hl => ?_⟩
    have g := (Frm.refl [] _).new (o := .lst []) hl
    have Ig := I2.same g
    have sh := shaped_us I2.unames
    refine ⟨.list (s.us.map datU), .list [], .lst (SqL.of (g.keep _ _ hul (by simp))) (dp_uts (uts_keep pul g)), .lst (SqL.of upd_same) .nil, sh, by decide +kernel, _, rfl, ?_⟩
    rw [eqv_nilU]
    cases hus : s.us with
    | nil => exact k' _ _ (at_mk Ig rfl)
    | cons u0 ut => exact q4 D _ _ (atD_mk (kd := kd) Ig (by show s.us ≠ []; rw [hus]; simp) rfl) k
  · obtain ⟨vs, hul, pul⟩ := I.un
    refine ⟨_, rfl, Nat.zero_le _, fun l hl => ?_⟩
    have g := (Frm.refl [] _).new (o := .lst []) hl
    have Ig := I.same g
    have sh := shaped_us I.unames
    refine ⟨.list (s.us.map datU), .list [], .lst (SqL.of (g.keep _ _ hul (by simp))) (dp_uts (uts_keep pul g)), .lst (SqL.of upd_same) .nil, sh, by decide +kernel, _, rfl, ?_⟩
    rw [eqv_nilU]
    cases hus : s.us with
    | nil => exact k' _ _ (at_mk Ig rfl)
    | cons u0 ut => exact q4 D _ _ (atD_mk (kd := kd) Ig (by show s.us ≠ []; rw [hus]; simp) rfl) k
end
end K58
/-! The law's turns: the checks behind the deed. -/
namespace K58
open PySem L2 PyProof.Rows TL
theorem dueFrom_snoc (r : Str) (n : Str) : ∀ (i : Nat) (xs : List Str), dueFrom r i (xs ++ [n]) = dueFrom r i xs ++ [⟨r, i + xs.length + 1, some n⟩]
  | i, [] => rfl
  | i, x :: t => by
    show _ :: dueFrom r (i + 1) (t ++ [n]) = _ :: (dueFrom r (i + 1) t ++ _)
    rw [dueFrom_snoc r n (i + 1) t, List.length_cons, show i + 1 + t.length = i + (t.length + 1) by omega]
theorem due_next {r nm : Str} {h j : Nat} {ns : List Str} (e : ns[j]? = some nm) : due r h (ns.take (j + 1)) = if h ≤ j then due r h (ns.take j) ++ [⟨r, j + 1, some nm⟩] else due r h (ns.take j) := by
  have hj : j < ns.length := (List.getElem?_eq_some_iff.mp e).1
  have hl : (ns.take j).length = j := by rw [List.length_take]; omega
  unfold due
  rw [take_at e]
  by_cases q : h ≤ j
  · rw [if_pos q, List.drop_append_of_le_length (by omega), dueFrom_snoc, List.length_drop, hl, show h + (j - h) + 1 = j + 1 by omega]
  · rw [if_neg q, List.drop_of_length_le (by rw [List.length_append, List.length_singleton]; omega), List.drop_of_length_le (by omega)]
section
variable {P : Program} {w : World} {K : PySem.W.Frag} {mg : Str → Option Value} {base : Heap} {A : Ads} {f : Addr} {cdv : Value} {B : Around} {outer : List Env} {sh : Shared} {H0 HB H : Hp} {E : XK} {a : Addr} {ns : List Int} {s : W} {n : Nat}
/-- what changed is none of it -/
theorem Sta.off {H1 : Hp} {M : List Addr} (I : Sta K A HB H a ns s n) (f : Frm M H H1) (h : ∀ b ∈ M, b ∉ s.mut) (hB : ∀ b ∈ M, HB b = none) : Sta K A HB H1 a ns s n := by
  obtain ⟨vs, h1, h2⟩ := I.un
  have q (j : Nat) {b : Addr} (hb : s.mut[j]? = some b) : b ∉ M := fun z => h b z (List.mem_of_getElem? hb)
  exact { dr := I.dr.keep f (q 7 rfl) hB, rd := f.keep _ _ I.rd (q 9 rfl), jo := I.jo.keep f (q 1 rfl) (q 2 rfl) (q 3 rfl), po := I.po.keep f (q 4 rfl) (q 5 rfl), lh := f.keep _ _ I.lh (q 6 rfl), rs := f.keep _ _ I.rs (q 8 rfl),
          re := fun r hr => by
            obtain ⟨e, _, x1, x2, x3⟩ := re_ix s hr
            exact (I.re r hr).keep f (q _ x1) (q _ x2) (q _ x3),
          un := ⟨vs, f.keep _ _ h1 (q 0 rfl), uts_keep h2 f⟩, uo := I.uo, ho := I.ho, nd := I.nd, nw := I.nw, bE := I.bE, bU := I.bU, bH := I.bH, bC := I.bC }
theorem chk_right (T : Tx K mg A) (hr : Room 7 (XL P w K mg base f cdv B outer sh H0 E).A) {n i : Nat} (hn : n ≤ 41) :
    Tri1 (XL P w K mg base f cdv B outer sh H0 E) (nth (forBody (lawAt 4)) 2) (At K A HB a ns n i) (At K A HB a ns n i) := by
  have GR : FnOk P w K mg base CX0 2 A.fRit A.dRit ["_law_journal", "_law_receivers"] (spRit A.cJ A.cR) := ok_rit T
  refine ⟨_, ps_if (pt_not (pt_val (pe_call GR (hr.mono (by decide)) (by rfl) T.gRit T.FRit.kp (bRit T) .nil pass0 (pa_cons (pv 3) (pa_cons (pv 5) pa_nil))))) (pss_one (ps_ret pe_bl)) pss_nil, ?_⟩
  rintro D σ H ⟨s, v9, v10, v11, v12, v13, v14, v15, v16, v17, rfl, I⟩ k
  have hE := I.bE
  refine ⟨_, rfl, _, rfl, s.p, s.dx, s.l, s.jr, s.x, s.y, s.es, s.k, s.rs, (s.re bobS).r, (s.re coraS).r, rfl, I.jo, by omega, I.rs, fun r hrec => ?_, fun H1 f1 => ?_⟩
  · rw [recA_re s hrec]
    exact ⟨_, _, _, _, _, _, I.re r hrec⟩
  · exact ⟨_, rfl, iteF (k _ _ (at_mk (I.same f1) rfl))⟩
/-- what is due was laid down -/
def AtW (K : PySem.W.Frag) (A : Ads) (HB : Hp) (a : Addr) (ns : List Int) (n i : Nat) (σ : L2.St) (H : Hp) : Prop := ∃ (s : W) (v9 v10 v11 v12 v13 : Option V) (d : Addr) (v15 v16 v17 : Option V) (vs : List V), σ = sg a s (some (.int (i : Int))) v9 v10 v11 v12 v13 (some (.ref d)) v15 v16 v17 ∧
  Sta K A HB H a ns s n ∧ H d = some (.lst vs) ∧ Paired (UT H) vs (waits s.hs (lettersD (s.es.take s.k)))
theorem atW_mk {i : Nat} {σ : L2.St} {d : Addr} {v9 v10 v11 v12 v13 v15 v16 v17 : Option V} {vs : List V} (I : Sta K A HB H a ns s n) (h1 : H d = some (.lst vs)) (h2 : Paired (UT H) vs (waits s.hs (lettersD (s.es.take s.k)))) (h : σ = sg a s (some (.int (i : Int))) v9 v10 v11 v12 v13 (some (.ref d)) v15 v16 v17) :
    AtW K A HB a ns n i σ H := ⟨s, v9, v10, v11, v12, v13, d, v15, v16, v17, vs, h, I, h1, h2⟩
theorem chk_due (T : Tx K mg A) (hr : Room 7 (XL P w K mg base f cdv B outer sh H0 E).A) {n i : Nat} (hn : n ≤ 41) :
    Tri1 (XL P w K mg base f cdv B outer sh H0 E) (nth (forBody (lawAt 4)) 4) (fun σ H => ∃ (s : W) (v9 v10 v11 v12 v13 : Option V) (d : Addr) (v15 v16 v17 : Option V), σ = sg a s (some (.int (i : Int))) v9 v10 v11 v12 v13 (some (.ref d)) v15 v16 v17 ∧ Sta K A HB H a ns s n ∧ H d = some (.lst []) ∧ d ∉ s.mut ∧ HB d = none) (AtW K A HB a ns n i) := by
  have GL : FnOk P w K mg base CX0 1 A.fJL A.dJL ["self"] (spJL A.cJ) := ok_jl T
  have hu := hu_of hr
  refine ⟨_, ps_for PassesOwn.never rfl (pi_items (pe_frz (pe_meth0 (pv 3) T.clJ T.mJL GL (hr.mono (by decide)) (bJL T) .nil pass0))) (pg_tup rfl (pgs_cons (pg_name (i := 15) scLaw.nd rfl (.inl rfl)) (pgs_cons (pg_name (i := 16) scLaw.nd rfl (.inl rfl)) pgs_nil)))
    (pss_one (ps_for PassesOwn.never rfl (pi_enumT (by rfl) T.b_enumerate (pa_cons (pv 16) pa_nil)) (pg_tup rfl (pgs_cons (pg_name (i := 10) scLaw.nd rfl (.inl rfl)) (pgs_cons (pg_name (i := 13) scLaw.nd rfl (.inl rfl)) pgs_nil)))
      (pss_one (ps_if (pt_cmpR op_ge (pv 10) (pe_dget2 hu (pv 7) (pv 15) pe_int ⟨by rfl, by rfl, by rfl, by rfl⟩) (nomark _))
        (pss_one (ps_expr (pe_bm PySem.F.plainAttrs_list PySem.F.slot_list_append PySem.F.type_list_append mt_append (pv 14) (pa_cons (pe_tup (pa_cons (pv 15) (pa_cons (pe_op op_add (pv 10) pe_int) (pa_cons (pv 13) pa_nil)))) pa_nil)))) pss_nil)))), ?_⟩
  rintro D σ H ⟨s, v9, v10, v11, v12, v13, d, v15, v16, v17, rfl, I, hd, hdm, hdB⟩ k
  have hE := I.bE
  refine ⟨_, rfl, s.p, s.dx, _, rfl, I.jo.ob, rfl, s.p, s.dx, s.l, s.jr, s.x, s.y, s.es, s.k, rfl, I.jo, by omega, fun H2 dd f2 hdd hLD => ?_⟩
  obtain ⟨kvs, hd2, rows⟩ := hLD
  refine ⟨dd, _, rfl, hd2, trivial, fun od => ⟨dd, od, kvs, rfl, upd_same, ?_⟩⟩
  have I2 := I.same f2
  have hdl := f2.keep _ _ hd (by simp)
  have ndd : d ≠ dd := ne_of hdl hd2 (by intro z; cases z)
  have nEs : (s.es.take s.k).length ≤ 1000 := by rw [List.length_take]; omega
  have g1 : Frm [d, dd] H2 (upd H2 dd (.frz od (.dK kvs))) := (Frm.refl _ H2).dk (.inl (by simp)) hd2
  have nlh : s.lh ≠ d := fun z => hdm (by rw [← z]; simp [W.mut])
  have nlh2 : s.lh ≠ dd := fun z => by
    have h1 := I.lh
    rw [z, hdd] at h1
    cases h1
  refine for_it (walk_items (kvs := kvs)) (fun j σ H3 => ∃ v10 v13 v15 v16 acc, σ = sg a s (some (.int (i : Int))) v9 v10 v11 v12 v13 (some (.ref d)) v15 v16 v17 ∧ Frm [d, dd] H2 H3 ∧ H3 dd = some (.frz od (.dK kvs)) ∧ H3 d = some (.lst acc) ∧ Paired (UT H3) acc (waits s.hs ((lettersD (s.es.take s.k)).take j)))
    ⟨v10, v13, v15, v16, [], rfl, g1, upd_same, (upd_ne ndd).trans hdl, .nil⟩ (fun j σ H3 _ ⟨_, _, _, _, _, _, _, z, _⟩ => z) ?_ ?_
  · rintro j v σ H3 H3' hj ⟨v10, v13, v15, v16, acc, rfl, f3, hdd3, hd3, hacc⟩ ⟨Tp, x1, x2, rfl, hTp, rfl, hx1, hx2⟩
    obtain ⟨⟨r, nms⟩, hr⟩ : ∃ z, (lettersD (s.es.take s.k))[j]? = some z := ⟨(lettersD (s.es.take s.k))[j]'(by rw [← rows.length]; exact hj), List.getElem?_eq_getElem _⟩
    obtain ⟨⟨kk, vv⟩, hk1, hk2, hk3⟩ := pd_right rows hr
    simp only [hk1, Option.map_some, Option.some.injEq] at hx1 hx2
    subst hx1
    subst hx2
    change kk = Sum.inr r at hk2
    subst hk2
    refine ⟨Tp, _, rfl, SqT.of upd_same, rfl, _, _, rfl, _, _, rfl, rfl, ?_⟩
    have g4 : Frm [d, dd] H2 (upd H3 Tp (.tup [kV (Sum.inr r), vv])) := f3.new hTp
    obtain ⟨t, ws, rfl, ht, hws⟩ := hk3.keep g4
    have hd4 : (upd H3 Tp (.tup [kV (Sum.inr r), V.ref t])) d = some (.lst acc) := (upd_ne (ne_of_none hd3 hTp)).trans hd3
    refine ⟨_, rfl, t, ws, rfl, SqT.of ht, ?_⟩
    have w1 := waits_len (hs := s.hs) (xs := (lettersD (s.es.take s.k)).take j) (N := 1000) fun x hx => Nat.le_trans (ld_le x (List.mem_of_mem_take hx)) nEs
    have w2 := ld_len (s.es.take s.k)
    have w3 : ((lettersD (s.es.take s.k)).take j).length ≤ 2 := by rw [List.length_take]; omega
    have w6 := Nat.mul_le_mul_right 1000 w3
    have w4 : nms.length ≤ (s.es.take s.k).length := ld_le (r, nms) (List.mem_of_getElem? hr)
    refine for_it (walk_enumT (K := K) (a := t) (xs := ws)) (fun m σ H6 => ∃ v10 v13 acc2, σ = sg a s (some (.int (i : Int))) v9 v10 v11 v12 v13 (some (.ref d)) (some (.str r)) (some (.ref t)) v17 ∧ Frm [d] (upd H3 Tp (.tup [kV (Sum.inr r), V.ref t])) H6 ∧ H6 d = some (.lst acc2) ∧
        Paired (UT H6) acc2 (waits s.hs ((lettersD (s.es.take s.k)).take j) ++ due r (hget s.hs r) (nms.take m)))
      ⟨v10, v13, acc, rfl, Frm.refl _ _, hd4, by
        have e : due r (hget s.hs r) (nms.take 0) = [] := by simp [due, dueFrom]
        rw [e, List.append_nil]
        exact uts_keep hacc ((Frm.refl [] H3).new hTp)⟩ (fun m σ H6 _ ⟨_, _, _, _, f6, _⟩ => SqT.of (f6.tup _ _ ht)) ?_ ?_
    · rintro m v6 σ H6 H6' hm ⟨v10, v13, acc2, rfl, f6, hd6, hacc2⟩ ⟨T2, y1, y2, rfl, hT2, rfl, hy1, hy2⟩
      cases hy1
      obtain ⟨nm, hn1, hn2⟩ := pd_left (lts_keep hws f6) hy2
      refine ⟨T2, _, rfl, SqT.of upd_same, rfl, _, _, rfl, _, _, rfl, rfl, ?_⟩
      have g7 : Frm [d] (upd H3 Tp (.tup [kV (Sum.inr r), V.ref t])) (upd H6 T2 (.tup [.int (m : Int), y2])) := f6.new hT2
      have hl7 : (upd H6 T2 (.tup [.int (m : Int), y2])) s.lh = some (.dK (hk s.hs)) := g7.keep _ _ (g4.keep _ _ I2.lh (nm2 nlh nlh2)) (nm1 nlh)
      have hd7 : (upd H6 T2 (.tup [.int (m : Int), y2])) d = some (.lst acc2) := (upd_ne (ne_of_none hd6 hT2)).trans hd6
      refine ⟨_, rfl, _, rfl, s.lh, rfl, .inl ⟨_, .inl hl7⟩, _, rfl, _, DGet.k (k := (Sum.inr r : Key)) hl7, ?_⟩
      rw [hk_getD]
      refine ⟨_, _, rfl, rfl, _, rfl, ?_⟩
      have edn := due_next (r := r) (h := hget s.hs r) hn1
      refine ite2 (fun hge => ?_) (fun hlt => ?_)
      · have hge' : hget s.hs r ≤ m := by
          have := of_decide_eq_true hge
          omega
        rw [if_pos hge'] at edn
        refine ⟨_, rfl, .inl ⟨rfl, acc2, SqL.of hd7⟩, _, rfl, _, rfl, _, _, rfl, rfl, _, rfl, by show 3 ≤ sizeLine; decide, fun t8 ht8 => ?_⟩
        have g8 := g7.new (o := .tup [.str r, .int ((m : Int) + 1), y2]) ht8
        have hd8 : (upd (upd H6 T2 (.tup [.int (m : Int), y2])) t8 (.tup [.str r, .int ((m : Int) + 1), y2])) d = some (.lst acc2) := (upd_ne (ne_of_none hd7 ht8)).trans hd7
        have l2 := hacc2.length
        have l3 : (due r (hget s.hs r) (nms.take m)).length ≤ 1000 := by
          unfold due
          rw [due_len, List.length_drop, List.length_take]
          omega
        rw [List.length_append] at l2
        refine ⟨d, acc2, .ref t8, rfl, rfl, hd8, Nat.lt_of_le_of_lt (by omega : acc2.length ≤ 3000) (by decide), ?_⟩
        have f9 : Frm [d] (upd (upd H6 T2 (.tup [.int (m : Int), y2])) t8 (.tup [.str r, .int ((m : Int) + 1), y2])) (upd (upd (upd H6 T2 (.tup [.int (m : Int), y2])) t8 (.tup [.str r, .int ((m : Int) + 1), y2])) d (.lst (acc2 ++ [.ref t8]))) := (Frm.refl [d] _).lst (.inl (by simp)) hd8
        have f68 : Frm [] H6 (upd (upd H6 T2 (.tup [.int (m : Int), y2])) t8 (.tup [.str r, .int ((m : Int) + 1), y2])) := ((Frm.refl [] H6).new hT2).new ht8
        refine ⟨_, _, acc2 ++ [.ref t8], rfl, g8.trans f9 (fun _ h => .inl h), upd_same, ?_⟩
        rw [edn, ← List.append_assoc]
        have hut : UT (upd (upd (upd H6 T2 (.tup [.int (m : Int), y2])) t8 (.tup [.str r, .int ((m : Int) + 1), y2])) d (.lst (acc2 ++ [.ref t8]))) (.ref t8) ⟨r, m + 1, some nm⟩ := ⟨t8, y2, rfl, f9.tup _ _ upd_same, (hn2.keep f68).keep f9⟩
        exact pd_append (uts_keep (uts_keep hacc2 f68) f9) (.cons hut .nil)
      · have hlt' : ¬ hget s.hs r ≤ m := fun z => hlt (decide_eq_true (by omega))
        rw [if_neg hlt'] at edn
        refine ⟨_, _, acc2, rfl, g7, hd7, ?_⟩
        rw [edn]
        exact uts_keep hacc2 ((Frm.refl [] H6).new hT2)
    · rintro σ H6 ⟨v10, v13, acc2, rfl, f6, hd6, hacc2⟩
      have hl : ws.length = nms.length := hws.length
      rw [hl, List.take_length, ← waits_next hr] at hacc2
      refine ⟨_, _, _, _, acc2, rfl, g4.trans f6 (fun b hb => .inl (by rw [List.mem_singleton.mp hb]; simp)), f6.keep _ _ ((upd_ne (ne_of_none hdd3 hTp)).trans hdd3) (nm1 ndd.symm), hd6, hacc2⟩
  · rintro σ H3 ⟨v10, v13, v15, v16, acc, rfl, f3, hdd3, hd3, hacc⟩
    rw [rows.length, List.take_length] at hacc
    have hM : ∀ b ∈ [d, dd], b ∉ s.mut ∧ HB b = none := fun b hb => by
      simp only [List.mem_cons, List.not_mem_nil, or_false] at hb
      rcases hb with rfl | rfl
      · exact ⟨hdm, hdB⟩
      · exact ⟨I.fresh hdd, I.base hdd⟩
    exact k _ _ (atW_mk (I2.off f3 (fun b hb => (hM b hb).1) fun b hb => (hM b hb).2) hd3 hacc rfl)
theorem chk_wait (T : Tx K mg A) (hr : Room 7 (XL P w K mg base f cdv B outer sh H0 E).A) {n i : Nat} (hn : n ≤ 41) :
    Tri1 (XL P w K mg base f cdv B outer sh H0 E) (nth (forBody (lawAt 4)) 5) (AtW K A HB a ns n i) (At K A HB a ns n i) := by
  have GW : FnOk P w K mg base CX0 2 A.fPW A.dPW ["self"] (spPW A.cP A.cJ) := ok_pw T
  have hu := hu_of hr
  refine ⟨_, ps_if (PW.pt (pw_or (pt_cmpR (op_neD hr.units) (pe_meth0 (pv 4) T.clP T.mPW GW (hr.mono (by decide)) (bPW T) .nil pass0) (pv 14) (nomark _))
    (pw_or1 (pt_val (pe_callB (cr_any rfl) (by rfl) T.b_any (by decide +kernel) (pa_cons (pe_lock (pe_lc (own := [("_law_name", 15)]) (g := gName 15) (tt := tYes) rfl scLaw.nd (pi_keys (pe_fld (pv 4) rfl)) (blkOk_by (own := [("_law_name", 15)]) (N := NL) (sc := defScope sLaw) (by decide +kernel)) (fun _ _ _ _ _ => pg_name (i := 15) scLaw.nd rfl (Or.inl rfl)) (fun _ _ _ _ _ => pts_nil)
      (fun _ _ _ _ _ => pe_cmpR op_gt (pe_dget hu (pe_fldK K (pv 4) rfl) (pv 15) (fun _ _ => rfl)) (pe_callB (call_len_seqK K) (by rfl) T.b_len PySem.boot_len (pa_cons (pe_fldK K (pe_dget hu (pv 5) (pv 15) (fun _ _ => rfl)) rfl) pa_nil)) (nomark _)))) pa_nil)))))) (pss_one (ps_ret pe_bl)) pss_nil, ?_⟩
  rintro D σ H ⟨s, v9, v10, v11, v12, v13, d, v15, v16, v17, vs, rfl, I, hd, hp⟩ k
  have hE := I.bE
  refine ⟨_, rfl, s.q, s.dxq, _, rfl, I.po.ob, rfl, s.q, s.dxq, s.p, s.hd, s.hs, s.dx, s.l, s.jr, s.x, s.y, s.es, s.k, rfl, I.po, I.jo, by omega, fun H1 u us f1 hu0 h1 p1 => ?_⟩
  have I1 := I.same f1
  have hd1 := f1.keep _ _ hd (by simp)
  have shp : SeqAt.shaped (.list ((waits s.hs (lettersD (s.es.take s.k))).map datU)) = true := shaped_us fun u hu => by
    obtain ⟨z1, j, nm, z2, z3, z4, _⟩ := waits_uok hu
    refine ⟨ok_rec z1, ?_⟩
    rw [z3]
    exact I.names (List.mem_of_getElem? z4)
  refine ⟨_, rfl, _, _, .lst (SqL.of h1) (dp_uts p1), .lst (SqL.of hd1) (dp_uts (uts_keep hp f1)), shp, shp, _, rfl, ?_⟩
  rw [eqv_shaped shp]
  refine iteF ?_
  have nqh : s.q ≠ s.hd := I.ne 4 5 rfl rfl (by decide)
  refine ⟨s.hd, _, I1.po.hd, trivial, fun od => ⟨_, rfl, s.q, A.cP, s.dxq, _, _, rfl, (upd_ne nqh).trans I1.po.ob, T.clP, T.nPheard, rfl, s.hd, od, rfl, .inl ⟨hk s.hs, upd_same, fun D2 hD2 => ?_⟩⟩⟩
  have g1 : Frm [s.hd] H1 (upd H1 s.hd (.frz od (.dK (hk s.hs)))) := (Frm.refl _ H1).dk (.inl (by simp)) I1.po.hd
  refine lc_it (walk_keys (d := s.hd) (o := od) (kvs := hk s.hs)) (fun j H2 => Frm [] (upd H1 s.hd (.frz od (.dK (hk s.hs)))) H2 ∧ H2 D2 = some (.lst ((List.replicate j false).map V.bl))) ⟨(Frm.refl [] _).new hD2, upd_same⟩ (fun j H2 _ q => q.1.keep _ _ upd_same (by simp)) ?_ ?_
  · rintro j v H2o H2 hj ⟨f2, hD3⟩ ⟨rfl, kk, uu, hkv, rfl⟩
    obtain ⟨⟨r, hv⟩, hr⟩ : ∃ z, s.hs[j]? = some z := by
      rw [hk_len] at hj
      exact ⟨s.hs[j], List.getElem?_eq_getElem hj⟩
    have e1 : (hk s.hs)[j]? = some ((Sum.inr r : Key), V.int (hv : Int)) := by
      unfold hk
      rw [List.getElem?_map, hr] <;> rfl
    rw [e1] at hkv
    cases hkv
    have hrec : isRec r := (I.ho _ (List.mem_of_getElem? hr)).1
    have R := I1.re r hrec
    obtain ⟨ws, ht, hws⟩ := R.tk
    have hml : ws.length = (s.re r).m := by rw [hws.length, List.length_take, Nat.min_eq_left R.le]
    obtain ⟨z1, z2, z3⟩ := I.rne hrec 5 (by decide) rfl
    have hq2 := f2.keep _ _ ((upd_ne (o := .frz od (.dK (hk s.hs))) nqh).trans I1.po.ob) (by simp)
    have hrs2 := f2.keep _ _ (g1.keep _ _ I1.rs (nm1 (I.ne 8 5 rfl rfl (by decide)))) (by simp)
    have ob2 := f2.keep _ _ (g1.keep _ _ R.ob (nm1 z1)) (by simp)
    have ht2 := f2.keep _ _ (g1.keep _ _ ht (nm1 z2)) (by simp)
    have hhd2 := f2.keep _ _ (upd_same (H := H1) (a := s.hd) (o := .frz od (.dK (hk s.hs)))) (by simp)
    have hval : ∃ m, valV (hk s.hs) (Sum.inr r : Key) = some (.int ((m : Nat) : Int)) ∧ m ≤ (s.re r).m := by
      rw [hk_get]
      have hm := I.hm r
      unfold hget at hm
      cases e : s.hs.lookup r with
      | none =>
        obtain ⟨u', hu'⟩ := valV_some (List.mem_of_getElem? e1)
        rw [hk_get, e] at hu'
        cases hu'
      | some m =>
        rw [e] at hm
        exact ⟨m, rfl, hm⟩
    obtain ⟨m, hm1, hm2⟩ := hval
    refine ⟨rfl, ?_⟩
    refine ⟨_, rfl, s.q, A.cP, s.dxq, _, _, rfl, hq2, T.clP, T.nPheard, rfl, _, rfl, s.hd, _, rfl, .inl ⟨hk s.hs, Sum.inr r, .inr ⟨od, hhd2⟩, rfl, hm1.symm⟩,
      _, rfl, _, rfl, s.rs, _, rfl, .inl ⟨_, Sum.inr r, .inl hrs2, rfl, by rw [rsK_get hrec, recA_re s hrec]⟩, (s.re r).r, A.cR, (s.re r).dx, _, _, rfl, ob2, T.clR, T.nRtaken, rfl, (s.re r).tl, ws, rfl, .inl (SqL.of ht2), _, _, rfl, rfl, ?_⟩
    have eg : decide (((m : Nat) : Int) > ((ws.length : Nat) : Int)) = false := decide_eq_false (by omega)
    refine ⟨_, hD3, by rw [List.length_map, List.length_replicate]; rw [hk_len] at hj; exact small1000 (by have := I.bH; omega), f2.lst (.inr hD2) hD3, ?_⟩
    rw [upd_same, List.replicate_succ', List.map_append]
    show some (HO.lst (_ ++ [V.bl (decide (((m : Nat) : Int) > ((ws.length : Nat) : Int)))])) = _
    rw [eg] <;> rfl
  · rintro H2 ⟨f2, hD3⟩
    refine ⟨f2.keep _ _ upd_same (by simp), ?_⟩
    have nDh : D2 ≠ s.hd := fun z => by
      rw [z, upd_same] at hD2
      cases hD2
    refine ⟨D2, List.replicate (hk s.hs).length false, rfl, SqL.of ((upd_ne nDh).trans hD3), _, rfl, ?_⟩
    have e : (List.replicate (hk s.hs).length false).any id = false := by
      rw [List.any_eq_false]
      intro b hb
      rw [(List.mem_replicate.mp hb).2]
      simp
    rw [e]
    refine iteF ?_
    exact k _ _ (at_mk (I1.same (Frm.unlock I1.po.hd f2 (by intro xs z; cases z) (by simp))) rfl)
end
end K58
/-! A whole turn of the law, and all forty. -/
namespace K58
open PySem L2 PyProof.Rows TL
/-- any reading that is right -/
def tAny (X : Cx) (sts : List Stmt) : TS := fun D σ H => ∃ t, PSs X sts t ∧ t D σ H
theorem pss_any {X : Cx} {sts : List Stmt} : PSs X sts (tAny X sts) := ⟨fun pins s σ H D I h => by
  obtain ⟨t, h1, q⟩ := h
  exact h1.run pins s σ H D I q⟩
section
variable {P : Program} {w : World} {K : PySem.W.Frag} {mg : Str → Option Value} {base : Heap} {A : Ads} {f : Addr} {cdv : Value} {B : Around} {outer : List Env} {sh : Shared} {H0 HB H : Hp} {E : XK} {a : Addr} {ns : List Int} {s : W} {n : Nat}
/-- between two turns -/
def AtE (K : PySem.W.Frag) (A : Ads) (HB : Hp) (a : Addr) (ns : List Int) (n : Nat) (σ : L2.St) (H : Hp) : Prop := ∃ (s : W) (v8 v9 v10 v11 v12 v13 v14 v15 v16 v17 : Option V), σ = sg a s v8 v9 v10 v11 v12 v13 v14 v15 v16 v17 ∧ Sta K A HB H a ns s n
theorem atE_mk {σ : L2.St} {v8 v9 v10 v11 v12 v13 v14 v15 v16 v17 : Option V} (I : Sta K A HB H a ns s n) (h : σ = sg a s v8 v9 v10 v11 v12 v13 v14 v15 v16 v17) : AtE K A HB a ns n σ H := ⟨s, v8, v9, v10, v11, v12, v13, v14, v15, v16, v17, h, I⟩
theorem atK_mk {i : Nat} {σ : L2.St} {kd : Int} {v10 v11 v12 v13 v14 v15 v16 v17 : Option V} (I : Sta K A HB H a ns s n) (h : σ = sg a s (some (.int (i : Int))) (some (.int kd)) v10 v11 v12 v13 v14 v15 v16 v17) : AtK K A HB a ns n i σ H := ⟨s, kd, v10, v11, v12, v13, v14, v15, v16, v17, h, I⟩
theorem turn (hP : P = PW) (T : Tx K mg A) (hr : Room 7 (XL P w K mg base f cdv B outer sh H0 E).A) {i : Nat} (hi : i < 40) :
    Tri (XL P w K mg base f cdv B outer sh H0 E) (forBody (lawAt 4)) (At K A HB a ns i i) (AtE K A HB a ns (i + 1)) := by
  have GT : FnOk P w K mg base CX0 2 A.fTak A.dTak ["_law_draw", "_law_many"] (spTak K) := ok_tak T
  obtain ⟨t1, h1, q1⟩ := deeds (P := P) (w := w) (K := K) (mg := mg) (base := base) (A := A) (f := f) (cdv := cdv) (B := B) (outer := outer) (sh := sh) (H0 := H0) (HB := HB) (E := E) (a := a) (ns := ns) (i := i) (n := i) hP T hr (by omega) hi
  obtain ⟨t2, h2, q2⟩ := chk_right (P := P) (w := w) (K := K) (mg := mg) (base := base) (A := A) (f := f) (cdv := cdv) (B := B) (outer := outer) (sh := sh) (H0 := H0) (HB := HB) (E := E) (a := a) (ns := ns) (i := i) (n := i + 1) T hr (by omega)
  obtain ⟨t4, h4, q4⟩ := chk_due (P := P) (w := w) (K := K) (mg := mg) (base := base) (A := A) (f := f) (cdv := cdv) (B := B) (outer := outer) (sh := sh) (H0 := H0) (HB := HB) (E := E) (a := a) (ns := ns) (i := i) (n := i + 1) T hr (by omega)
  obtain ⟨t5, h5, q5⟩ := chk_wait (P := P) (w := w) (K := K) (mg := mg) (base := base) (A := A) (f := f) (cdv := cdv) (B := B) (outer := outer) (sh := sh) (H0 := H0) (HB := HB) (E := E) (a := a) (ns := ns) (i := i) (n := i + 1) T hr (by omega)
  refine ⟨_, pss_cons (ps_set (i := 9) scLaw.nd rfl (.inl rfl) (pe_call GT (hr.mono (by decide)) (by rfl) T.gTak T.FTak.kp (bTak T) .nil pass0 (pa_cons (pv 1) (pa_cons pe_int pa_nil))))
    (pss_cons h1 (pss_cons h2 (pss_cons (ps_set (i := 14) scLaw.nd rfl (.inl rfl) (pe_lst pa_nil)) (pss_cons h4 (pss_one h5))))), ?_⟩
  rintro D σ H ⟨s, v9, v10, v11, v12, v13, v14, v15, v16, v17, rfl, I⟩ k
  refine ⟨_, rfl, HB, s.dl, a, ns, s.i, 8, rfl, by decide, I.dr, fun H1 z i1 _ _ f1 d1 => ?_⟩
  refine q1 _ _ _ (atK_mk (kd := z) (I.draw f1 d1) rfl) fun σ2 H2 p2 => ?_
  refine q2 _ _ _ p2 fun σ3 H3 p3 => ?_
  obtain ⟨s3, w9, w10, w11, w12, w13, w14, w15, w16, w17, rfl, I3⟩ := p3
  refine ⟨Nat.zero_le _, fun d hd => ?_⟩
  have I4 := I3.same ((Frm.refl [] H3).new (o := .lst []) hd)
  refine q4 _ _ _ ⟨s3, w9, w10, w11, w12, w13, d, w15, w16, w17, rfl, I4, upd_same, I3.fresh hd, I3.base hd⟩ fun σ5 H5 p5 => ?_
  refine q5 _ _ _ p5 fun σ6 H6 p6 => ?_
  obtain ⟨s6, u9, u10, u11, u12, u13, u14, u15, u16, u17, rfl, I6⟩ := p6
  exact k _ _ (atE_mk I6 rfl)
theorem all_turns (hP : P = PW) (T : Tx K mg A) (hr : Room 7 (XL P w K mg base f cdv B outer sh H0 E).A) :
    Tri1 (XL P w K mg base f cdv B outer sh H0 E) (lawAt 4) (AtE K A HB a ns 0) (AtE K A HB a ns 40) := by
  have tr : ∀ i, i < 40 → Tri (XL P w K mg base f cdv B outer sh H0 E) (forBody (lawAt 4)) (At K A HB a ns i i) (AtE K A HB a ns (i + 1)) := fun i hi => turn hP T hr hi
  refine ⟨_, ps_for PassesOwn.never rfl (pi_range1 (by rfl) T.b_range (pa_cons pe_int pa_nil)) (pg_name (i := 8) scLaw.nd rfl (.inl rfl)) (pss_any (sts := forBody (lawAt 4))), ?_⟩
  rintro D σ H p k
  refine ⟨40, rfl, by decide, by decide, for_range (n := 40) (fun i σ H => AtE K A HB a ns i σ H) p ?_ ?_⟩
  · rintro i σ H hi ⟨s, v8, v9, v10, v11, v12, v13, v14, v15, v16, v17, rfl, I⟩
    obtain ⟨t, ht, q⟩ := tr i hi
    have e : (sg a s v8 v9 v10 v11 v12 v13 v14 v15 v16 v17).set 8 (some (V.int (0 + (i : Int)))) = sg a s (some (.int (i : Int))) v9 v10 v11 v12 v13 v14 v15 v16 v17 := by
      rw [Int.zero_add] <;> rfl
    exact ⟨t, ht, q _ _ _ (at_mk I e) fun σ' H' p' => p'⟩
  · intro σ H p
    exact k _ _ p
end
end K58
/-! The law's end: all letters come. -/
namespace K58
open PySem L2 PyProof.Rows TL
/-- what the end of the law needs of the state -/
structure Stf (A : Ads) (H : Hp) (s : W) (n : Nat) : Prop where
  jo : JAt A.cJ H s.p s.dx s.l s.jr s.x s.y s.es s.k
  po : PAt A.cP H s.q s.dxq s.p s.hd s.hs
  rs : H s.rs = some (.dK (rsK (s.re bobS).r (s.re coraS).r))
  re : ∀ r, isRec r → RAt A.cR H (s.re r).r (s.re r).dx (s.re r).tl (s.re r).ed (s.ls r) (s.re r).m (s.re r).c (s.D r)
  ho : ∀ x ∈ s.hs, isRec x.1 ∧ x.2 ≤ (s.re x.1).m
  nd : s.mut.Nodup
  bE : s.es.length ≤ 40
  bH : s.hs.length ≤ n
  bC : ∀ r, isRec r → (s.re r).c ≤ n
  st : s.k = s.es.length
section
variable {K : PySem.W.Frag} {A : Ads} {HB H H1 : Hp} {a : Addr} {ns : List Int} {s : W} {n : Nat}
theorem Stf.ne (I : Stf A H s n) (i j : Nat) {b c : Addr} (hi : s.mut[i]? = some b) (hj : s.mut[j]? = some c) (h : i ≠ j) : b ≠ c := ne_ix I.nd i j hi hj h
theorem Stf.rne (I : Stf A H s n) {r : Str} (hr : isRec r) (j : Nat) (hj : j < 10) {c : Addr} (h : s.mut[j]? = some c) : (s.re r).r ≠ c ∧ (s.re r).tl ≠ c ∧ (s.re r).ed ≠ c := by
  obtain ⟨e, he, h1, h2, h3⟩ := re_ix s hr
  exact ⟨I.ne _ j h1 h (by omega), I.ne _ j h2 h (by omega), I.ne _ j h3 h (by omega)⟩
theorem Stf.hm (I : Stf A H s n) (r : Str) : hget s.hs r ≤ (s.re r).m := hget_le (f := fun r => (s.re r).m) (fun x hx => (I.ho x hx).2) r
theorem Stf.names (I : Stf A H s n) {r nm : Str} (h : nm ∈ s.ls r) : NameOk nm := letters_ok (fun e he => I.jo.ok e (List.mem_of_mem_take he)) h
theorem Stf.rs_get (I : Stf A H s n) {r : Str} (h : isRec r) : DGet H s.rs (.str r) (some (.ref (s.re r).r)) := .inl ⟨_, Sum.inr r, .inl I.rs, rfl, by rw [rsK_get h, recA_re s h]⟩
theorem Stf.same (I : Stf A H s n) (f : Frm [] H H1) : Stf A H1 s n :=
  { jo := I.jo.keep f (by simp) (by simp) (by simp), po := I.po.keep f (by simp) (by simp), rs := f.keep _ _ I.rs (by simp), re := fun r hr => (I.re r hr).keep f (by simp) (by simp) (by simp), ho := I.ho, nd := I.nd, bE := I.bE, bH := I.bH, bC := I.bC, st := I.st }
theorem Stf.hear (I : Stf A H s n) {r : Str} {v : Nat} (hr : isRec r) (hv : v ≤ (s.re r).m) (f : Frm [s.hd] H H1) (Pq : PAt A.cP H1 s.q s.dxq s.p s.hd (hput s.hs r v)) : Stf A H1 { s with hs := hput s.hs r v } (n + 1) := by
  have q (j : Nat) {b : Addr} (h : s.mut[j]? = some b) (hj : j ≠ 5) : b ∉ [s.hd] := nm1 (I.ne j 5 h rfl hj)
  have b3 := I.bH
  exact { jo := I.jo.keep f (q 1 rfl (by decide)) (q 2 rfl (by decide)) (q 3 rfl (by decide)), po := Pq, rs := f.keep _ _ I.rs (q 8 rfl (by decide)),
          re := fun r hr => by
            obtain ⟨z1, z2, z3⟩ := I.rne hr 5 (by decide) rfl
            exact (I.re r hr).keep f (nm1 z1) (nm1 z2) (nm1 z3),
          ho := fun x hx => by
            rcases hput_mem hx with rfl | hx
            · exact ⟨hr, hv⟩
            · exact I.ho x hx,
          nd := I.nd, bE := I.bE, bH := Nat.le_trans (hput_len _ _ _) (by omega), bC := fun r hr => Nat.le_trans (I.bC r hr) (Nat.le_succ n), st := I.st }
theorem Stf.get (I : Stf A H s n) {r : Str} {m' j : Nat} (hr : isRec r) (f : Frm [(s.re r).tl, (s.re r).ed] H H1) (hm : (s.re r).m ≤ m') (R : RAt A.cR H1 (s.re r).r (s.re r).dx (s.re r).tl (s.re r).ed (s.ls r) m' ((s.re r).c + 1) (fun i => s.D r i ∨ i = j + 1)) :
    Stf A H1 (s.got r m' j) (n + 1) := by
  have q (i : Nat) {b : Addr} (h : s.mut[i]? = some b) (hi : i < 10) : b ∉ [(s.re r).tl, (s.re r).ed] := by
    obtain ⟨z1, z2, z3⟩ := I.rne hr i hi h
    exact nm2 z2.symm z3.symm
  have b3 := I.bH
  have hmono : ∀ z, (s.re z).m ≤ ((s.got r m' j).re z).m := fun z => by
    rw [got_m]
    split
    · rename_i e
      rw [e]
      exact hm
    · exact Nat.le_refl _
  exact { jo := I.jo.keep f (q 1 rfl (by decide)) (q 2 rfl (by decide)) (q 3 rfl (by decide)), po := I.po.keep f (q 4 rfl (by decide)) (q 5 rfl (by decide)),
          rs := by
            rw [got_rs, got_rs]
            exact f.keep _ _ I.rs (q 8 rfl (by decide)),
          re := fun z hz => by
            by_cases e : z = r
            · subst e
              have e1 : (s.got z m' j).re z = { s.re z with m := m', c := (s.re z).c + 1 } := if_pos rfl
              rw [e1]
              exact R.weak (Nat.le_refl _) fun i hi => by
                rcases hi with h | h
                · exact .inl h
                · exact .inr h.2
            · have e1 : (s.got r m' j).re z = s.re z := if_neg e
              rw [e1]
              obtain ⟨e, he, x1, x2, x3⟩ := re_ix s hr
              obtain ⟨e', he', y1, y2, y3⟩ := re_ix s hz
              have ne : e ≠ e' := by
                rintro rfl
                rw [x1] at y1
                rcases hr with rfl | rfl <;> rcases hz with rfl | rfl
                · exact e rfl
                · have := I.ne 10 11 rfl rfl (by decide)
                  exact this (Option.some.inj y1)
                · have := I.ne 10 11 rfl rfl (by decide)
                  exact this (Option.some.inj y1).symm
                · exact e rfl
              refine ((I.re z hz).keep f (nm2 (I.ne _ _ y1 x2 (by omega)) (I.ne _ _ y1 x3 (by omega))) (nm2 (I.ne _ _ y2 x2 (by omega)) (I.ne _ _ y2 x3 (by omega))) (nm2 (I.ne _ _ y3 x2 (by omega)) (I.ne _ _ y3 x3 (by omega)))).weak (Nat.le_refl _) fun i hi => ?_
              rcases hi with h | h
              · exact h
              · exact absurd h.1 (by assumption),
          ho := fun x hx => ⟨(I.ho x hx).1, Nat.le_trans (I.ho x hx).2 (hmono x.1)⟩,
          nd := by rw [got_mut]; exact I.nd, bE := I.bE, bH := by show s.hs.length ≤ _; omega,
          bC := fun z hz => by
            have h0 := I.bC z hz
            have h1 := I.bC r hr
            show (if z = r then ({ s.re r with m := m', c := (s.re r).c + 1 } : RD) else s.re z).c ≤ n + 1
            split
            · show (s.re r).c + 1 ≤ n + 1
              omega
            · omega,
          st := I.st }
theorem Stf.mono (I : Stf A H s n) {n' : Nat} (h : n ≤ n') : Stf A H s n' := { I with bH := Nat.le_trans I.bH h, bC := fun r hr => Nat.le_trans (I.bC r hr) h }
theorem got_te (s : W) (r : Str) (m' j : Nat) (z : Str) : ((s.got r m' j).re z).tl = (s.re z).tl ∧ ((s.got r m' j).re z).ed = (s.re z).ed := by
  show (if z = r then ({ s.re r with m := m', c := (s.re r).c + 1 } : RD) else s.re z).tl = _ ∧ (if z = r then ({ s.re r with m := m', c := (s.re r).c + 1 } : RD) else s.re z).ed = _
  by_cases e : z = r
  · subst e
    simp
  · simp [e]
theorem Sta.fin (I : Sta K A HB H a ns s n) (hn : n ≤ 40) (h : s.k = s.es.length) : Stf A H s n :=
  { jo := I.jo, po := I.po, rs := I.rs, re := I.re, ho := I.ho, nd := I.nd, bE := Nat.le_trans I.bE hn, bH := I.bH, bC := I.bC, st := h }
end
/-! ### plain: all have come -/
theorem waits_has {hs : List (Str × Nat)} {es : List Ent} {r nm : Str} {i : Nat} (hr : isRec r) (hh : hget hs r ≤ i) (e : (lettersOf r es)[i]? = some nm) : ⟨r, i + 1, some nm⟩ ∈ waits hs (lettersD es) := by
  have ne : lettersOf r es ≠ [] := by
    intro z
    rw [z] at e
    simp at e
  have hm : (r, lettersOf r es) ∈ lettersD es := by
    unfold lettersD
    rw [List.mem_filterMap]
    refine ⟨r, ?_, by rw [if_neg ne]⟩
    rcases hr with rfl | rfl <;> simp
  refine List.mem_flatMap.mpr ⟨_, hm, ?_⟩
  unfold due
  have h1 : ((lettersOf r es).drop (hget hs r))[i - hget hs r]? = some nm := by
    rw [List.getElem?_drop, show hget hs r + (i - hget hs r) = i by omega]
    exact e
  have h2 := due_get r (hget hs r) _ _ h1
  rw [show hget hs r + (i - hget hs r) + 1 = i + 1 by omega] at h2
  exact List.mem_of_getElem? h2
theorem waits_nil {hs : List (Str × Nat)} {es : List Ent} (h : ∀ r, isRec r → hget hs r = (lettersOf r es).length) : waits hs (lettersD es) = [] := by
  unfold waits
  rw [List.flatMap_eq_nil_iff]
  rintro ⟨r, ns⟩ hx
  obtain ⟨h1, rfl, _⟩ := ld_mem hx
  show due r (hget hs r) (lettersOf r es) = []
  unfold due
  rw [h r h1, List.drop_length]
  rfl
theorem pd_rev {α β : Type} {R : α → β → Prop} : ∀ {xs : List α} {ys : List β}, Paired R xs ys → Paired R xs.reverse ys.reverse
  | _, _, .nil => .nil
  | _, _, .cons h t => by
    rw [List.reverse_cons, List.reverse_cons]
    exact pd_append (pd_rev t) (.cons h .nil)
section
variable {P : Program} {w : World} {K : PySem.W.Frag} {mg : Str → Option Value} {base : Heap} {A : Ads} {f : Addr} {cdv : Value} {B : Around} {outer : List Env} {sh : Shared} {H0 HB H : Hp} {E : XK} {a : Addr} {ns : List Int} {s : W} {n : Nat}
/-- all has come: taken, heard -/
def Done (s : W) : Prop := ∀ r, isRec r → hget s.hs r = (s.ls r).length ∧ (s.re r).m = (s.ls r).length
def AtG (A : Ads) (a : Addr) (n : Nat) (σ : L2.St) (H : Hp) : Prop := ∃ (s : W) (v8 v9 v10 v11 v12 v13 v14 v15 v16 v17 : Option V), σ = sg a s v8 v9 v10 v11 v12 v13 v14 v15 v16 v17 ∧ Stf A H s n ∧ Done s
theorem atG_mk {σ : L2.St} {v8 v9 v10 v11 v12 v13 v14 v15 v16 v17 : Option V} (I : Stf A H s n) (d : Done s) (h : σ = sg a s v8 v9 v10 v11 v12 v13 v14 v15 v16 v17) : AtG A a n σ H := ⟨s, v8, v9, v10, v11, v12, v13, v14, v15, v16, v17, h, I, d⟩
def AtF (A : Ads) (a : Addr) (n : Nat) (σ : L2.St) (H : Hp) : Prop := ∃ (s : W) (v8 v9 v10 v11 v12 v13 v14 v15 v16 v17 : Option V), σ = sg a s v8 v9 v10 v11 v12 v13 v14 v15 v16 v17 ∧ Stf A H s n
theorem atF_mk {σ : L2.St} {v8 v9 v10 v11 v12 v13 v14 v15 v16 v17 : Option V} (I : Stf A H s n) (h : σ = sg a s v8 v9 v10 v11 v12 v13 v14 v15 v16 v17) : AtF A a n σ H := ⟨s, v8, v9, v10, v11, v12, v13, v14, v15, v16, v17, h, I⟩
theorem fin_settle (T : Tx K mg A) (hr : Room 7 (XL P w K mg base f cdv B outer sh H0 E).A) :
    Tri1 (XL P w K mg base f cdv B outer sh H0 E) (lawAt 5) (AtE K A HB a ns 40) (AtF A a 40) := by
  have GS : FnOk P w K mg base CX0 1 A.fJS A.dJS ["self"] (spJS A.cJ) := ok_js T
  refine ⟨_, ps_expr (pe_meth0 (pv 3) T.clJ T.mJS GS (hr.mono (by decide)) (bJS T) .nil pass0), ?_⟩
  rintro D σ H ⟨s, v8, v9, v10, v11, v12, v13, v14, v15, v16, v17, rfl, I⟩ k
  have hE := I.bE
  refine ⟨_, rfl, s.p, s.dx, _, rfl, I.jo.ob, rfl, s.p, s.dx, s.l, s.jr, s.x, s.y, s.es, s.k, rfl, I.jo, by omega, fun H1 x' f1 J1 => ?_⟩
  have I1 := (I.settle f1 J1).fin (Nat.le_refl 40) rfl
  exact k _ _ (atF_mk I1 rfl)
/-- the walk over all that waits, from its end: j have come -/
structure Come (A : Ads) (a : Addr) (s0 : W) (R : List Und) (lp : Addr) (vsr : List V) (j : Nat) (σ : L2.St) (H : Hp) : Prop where
  ex : ∃ (s : W) (v8 v9 v10 v11 v12 v13 v14 v15 v16 v17 : Option V), σ = sg a s v8 v9 v10 v11 v12 v13 v14 v15 v16 v17 ∧ Stf A H s (40 + 2 * j) ∧ s.es = s0.es ∧ s.k = s0.k ∧
    (∀ u ∈ R.take j, s.D u.r u.n ∧ hget s.hs u.r = (s.re u.r).m) ∧ (∀ r, hget s0.hs r ≤ hget s.hs r) ∧ (∀ r, isRec r → (s.re r).tl ≠ lp ∧ (s.re r).ed ≠ lp) ∧ s.hd ≠ lp
  li : H lp = some (.lst vsr)
  pr : Paired (UT H) vsr R
theorem fin_come (hP : P = PW) (T : Tx K mg A) (hr : Room 7 (XL P w K mg base f cdv B outer sh H0 E).A) :
    Tri1 (XL P w K mg base f cdv B outer sh H0 E) (lawAt 6) (AtF A a 40) (AtG A a 240) := by
  have GW : FnOk P w K mg base CX0 2 A.fPW A.dPW ["self"] (spPW A.cP A.cJ) := ok_pw T
  have GH : FnOk P w K mg base (L2.CX P w) 2 A.fPH A.dPH ["self", "receiver", "number"] (spPH A.cP A.cJ A.cB) := ok_ph hP T
  have GG : FnOk P w K mg base CX0 1 A.fRG A.dRG ["self", "number", "letter"] (spRG A.cR) := ok_rg T
  have hu := hu_of hr
  refine ⟨_, ps_for PassesOwn.never rfl (pi_list (pe_revL (pe_meth0 (pv 4) T.clP T.mPW GW (hr.mono (by decide)) (bPW T) .nil pass0))) (pg_tup rfl (pgs_cons (pg_name (i := 11) scLaw.nd rfl (.inl rfl)) (pgs_cons (pg_name (i := 12) scLaw.nd rfl (.inl rfl)) (pgs_cons (pg_name (i := 13) scLaw.nd rfl (.inl rfl)) pgs_nil))))
    (pss_one (ps_expr (pe_methS (W := WE (fun _ _ _ _ => False)) (pv 4) T.clP T.mPH GH (hr.mono (by decide)) (bPH T) (fun σ => passAt takes0 σ) (pa_cons (pv 11) (pa_cons
      (pe_meth (pe_dget hu (pv 5) (pv 11) (fun _ _ => rfl)) T.clR T.mRG GG (hr.mono (by decide)) (bRG T) .nil pass0 (pa_cons (pv 12) (pa_cons (pv 13) pa_nil))) pa_nil))))), ?_⟩
  rintro D σ H ⟨s0, v8, v9, v10, v11, v12, v13, v14, v15, v16, v17, rfl, I⟩ k
  have hE := I.bE
  refine ⟨_, rfl, s0.q, s0.dxq, _, rfl, I.po.ob, rfl, s0.q, s0.dxq, s0.p, s0.hd, s0.hs, s0.dx, s0.l, s0.jr, s0.x, s0.y, s0.es, s0.k, rfl, I.po, I.jo, by omega, fun H1 u us f1 hu0 h1 p1 => ?_⟩
  have I1 := I.same f1
  refine ⟨u, us, rfl, SqL.of h1, fun lp hlp => ?_⟩
  have g1 : Frm [] H1 (upd H1 lp (.lst us.reverse)) := (Frm.refl [] H1).new hlp
  have wl := waits_small s0.hs (s0.es.take s0.k)
  have wl2 : (s0.es.take s0.k).length ≤ 40 := by rw [List.length_take]; omega
  have pl := p1.length
  refine ⟨lp, rfl, ⟨_, SqL.of upd_same⟩, for_list (K := K) (a := lp) (xs := us.reverse) (fun j σ H => Come A a s0 (waits s0.hs (lettersD (s0.es.take s0.k))).reverse lp us.reverse j σ H)
    ⟨⟨s0, v8, v9, v10, v11, v12, v13, v14, v15, v16, v17, rfl, I1.same g1, rfl, rfl, by simp, fun r => Nat.le_refl _, fun r hrec => ?_, ?_⟩, upd_same, pd_rev (uts_keep p1 g1)⟩ (fun j σ H _ C => SqL.of C.li) ?_ ?_⟩
  · have R := I1.re r hrec
    obtain ⟨z1, e1, _⟩ := R.tk
    obtain ⟨z2, e2, _⟩ := R.er
    exact ⟨ne_of_none e1 hlp, ne_of_none e2 hlp⟩
  · exact ne_of_none I1.po.hd hlp
  · rintro j v σ H hv ⟨⟨s, v8, v9, v10, v11, v12, v13, v14, v15, v16, v17, rfl, I, ees, ek, hD, hg, hnl, hnh⟩, hli, hpr⟩
    obtain ⟨⟨r, m, o⟩, hu, b, lv, rfl, hb, hlv⟩ := pd_left hpr hv
    obtain ⟨hrec, jj, nm, ej, eo, hj, hjh⟩ := waits_uok (List.mem_reverse.mp (List.mem_of_getElem? hu))
    change m = jj + 1 at ej
    change o = some nm at eo
    subst ej
    subst eo
    have hjj : j < us.length := by
      have := (List.getElem?_eq_some_iff.mp hv).1
      rwa [List.length_reverse] at this
    have R := I.re r hrec
    have hC := I.bC r hrec
    have hH := I.bH
    have hls : s.ls r = lettersOf r (s0.es.take s0.k) := by
      show lettersOf r (s.es.take s.k) = _
      rw [ees, ek]
    have hL : (s.ls r).length ≤ 40 := by
      have h1 := lettersOf_le r (s0.es.take s0.k)
      rw [hls]
      omega
    refine ⟨b, _, rfl, SqT.of hb, rfl, _, _, rfl, _, _, rfl, _, _, rfl, rfl, ?_⟩
    refine ⟨_, rfl, s.q, s.dxq, _, rfl, I.po.ob, rfl, _, rfl, _, rfl, _, rfl, s.rs, _, rfl, I.rs_get hrec, (s.re r).r, (s.re r).dx, _, rfl, R.ob, rfl, _, rfl, _, rfl,
      (s.re r).r, (s.re r).dx, (s.re r).tl, (s.re r).ed, s.ls r, (s.re r).m, (s.re r).c, s.D r, jj, nm, lv, rfl, by rw [hls]; exact hj, hlv, R, by omega, by omega, fun H2 m' f2 hm R2 => ?_⟩
    have I2 := I.get hrec f2 hm R2
    have hlen : m' ≤ lenOf r (s.es.take s.k) := by
      rw [lenOf_rec hrec]
      exact R2.le
    refine ⟨s.q, s.dxq, s.p, s.hd, s.hs, s.dx, s.l, s.jr, s.x, s.y, s.es, s.k, r, _, rfl, I2.po, I2.jo, by have : s.es.length ≤ 40 := I2.bE; omega, by omega, .inl ⟨m', rfl, hlen, fun H3 f3 P3 => ?_⟩⟩
    have em : max m' (hget s.hs r) = m' := Nat.max_eq_left (Nat.le_trans (I.hm r) hm)
    rw [em] at P3
    have gm : ((s.got r m' jj).re r).m = m' := by rw [got_m, if_pos rfl]
    have I3 := I2.hear (v := m') hrec (by rw [gm]; exact Nat.le_refl _) f3 P3
    have hD' : ∀ u ∈ (waits s0.hs (lettersD (s0.es.take s0.k))).reverse.take (j + 1), (s.got r m' jj).D u.r u.n ∧ hget (hput s.hs r m') u.r = ((s.got r m' jj).re u.r).m := by
      intro u hu'
      rw [take_at hu] at hu'
      rw [hget_put, got_m]
      rcases List.mem_append.mp hu' with h | h
      · obtain ⟨d1, d2⟩ := hD u h
        refine ⟨.inl d1, ?_⟩
        split
        · rfl
        · exact d2
      · rw [List.mem_singleton.mp h]
        exact ⟨.inr ⟨rfl, rfl⟩, by rw [if_pos rfl, if_pos rfl]⟩
    have h2 := f2.keep _ _ hli (nm2 (hnl r hrec).1.symm (hnl r hrec).2.symm)
    have h3 := f3.keep _ _ h2 (nm1 hnh.symm)
    have e2 : 40 + 2 * (j + 1) = 40 + 2 * j + 1 + 1 := by omega
    refine ⟨⟨{ s.got r m' jj with hs := hput s.hs r m' }, _, _, _, _, _, _, _, _, _, _, rfl, (by rw [e2]; exact I3), ees, ek, hD', fun z => ?_, fun z hz => ?_, hnh⟩, h3, uts_keep (uts_keep hpr f2) f3⟩
    · show hget s0.hs z ≤ hget (hput s.hs r m') z
      rw [hget_put]
      split
      · rename_i e
        rw [e]
        exact Nat.le_trans (hg r) (Nat.le_trans (I.hm r) hm)
      · exact hg z
    · show ((s.got r m' jj).re z).tl ≠ lp ∧ ((s.got r m' jj).re z).ed ≠ lp
      rw [(got_te s r m' jj z).1, (got_te s r m' jj z).2]
      exact hnl z hz
  · rintro σ H ⟨⟨s, v8, v9, v10, v11, v12, v13, v14, v15, v16, v17, rfl, I, ees, ek, hD, hg, hnl, hnh⟩, hli, hpr⟩
    rw [List.length_reverse, pl, ← List.length_reverse, List.take_length] at hD
    have hlen : us.reverse.length ≤ 80 := by rw [List.length_reverse]; omega
    refine k _ _ (atG_mk (I.mono (by omega)) (fun r hrec => ?_) rfl)
    have hls : s.ls r = lettersOf r (s0.es.take s0.k) := by
      show lettersOf r (s.es.take s.k) = _
      rw [ees, ek]
    have R := I.re r hrec
    have hm := I.hm r
    have hle := R.le
    have hall : (s.ls r).length ≤ (s.re r).m := R.all fun j hj hj1 => by
      by_cases q : j ≤ hget s0.hs r
      · exact .inl (Nat.le_trans q (Nat.le_trans (hg r) hm))
      · obtain ⟨i, rfl⟩ : ∃ i, j = i + 1 := ⟨j - 1, by omega⟩
        have hi : i < (lettersOf r (s0.es.take s0.k)).length := by rw [← hls]; omega
        have hw := waits_has (hs := s0.hs) hrec (by omega) (List.getElem?_eq_getElem hi)
        exact .inr (hD _ (List.mem_reverse.mpr hw)).1
    have em : (s.re r).m = (s.ls r).length := by omega
    refine ⟨?_, em⟩
    by_cases q : hget s0.hs r < (s.ls r).length
    · have hi : hget s0.hs r < (lettersOf r (s0.es.take s0.k)).length := by rw [← hls]; exact q
      have hw := waits_has (hs := s0.hs) hrec (Nat.le_refl _) (List.getElem?_eq_getElem hi)
      have := (hD _ (List.mem_reverse.mpr hw)).2
      rw [em] at this
      exact this
    · have := hg r
      omega
end
end K58
/-! The law's end: nothing waits, all is taken, bad answers are refused. -/
namespace K58
open PySem L2 PyProof.Rows TL
theorem op_neDK {X : Cx} (K : PySem.W.Frag) (hu : X.A.units + 64 < cLine) (h : X.K = K := by rfl) : OpR X (compareOp .NotEq) (rNeD K) := by
  subst h
  exact op_neD hu
section
variable {P : Program} {w : World} {K : PySem.W.Frag} {mg : Str → Option Value} {base : Heap} {A : Ads} {f : Addr} {cdv : Value} {B : Around} {outer : List Env} {sh : Shared} {H0 HB H : Hp} {E : XK} {a : Addr} {ns : List Int} {s : W} {n : Nat}
theorem Done.nil (d : Done s) : waits s.hs (lettersD (s.es.take s.k)) = [] := waits_nil fun r hr => (d r hr).1
theorem fin_none (T : Tx K mg A) (hr : Room 7 (XL P w K mg base f cdv B outer sh H0 E).A) :
    Tri1 (XL P w K mg base f cdv B outer sh H0 E) (lawAt 7) (AtG A a 240) (AtG A a 240) := by
  have GW : FnOk P w K mg base CX0 2 A.fPW A.dPW ["self"] (spPW A.cP A.cJ) := ok_pw T
  refine ⟨_, ps_if (pt_cmpR (op_neD hr.units) (pe_meth0 (pv 4) T.clP T.mPW GW (hr.mono (by decide)) (bPW T) .nil pass0) (pe_lst pa_nil) (nomark _)) pss_never pss_nil, ?_⟩
  rintro D σ H ⟨s, v8, v9, v10, v11, v12, v13, v14, v15, v16, v17, rfl, I, d⟩ k
  have hE := I.bE
  refine ⟨_, rfl, s.q, s.dxq, _, rfl, I.po.ob, rfl, s.q, s.dxq, s.p, s.hd, s.hs, s.dx, s.l, s.jr, s.x, s.y, s.es, s.k, rfl, I.po, I.jo, by omega, fun H1 u us f1 hu0 h1 p1 => ?_⟩
  have I1 := I.same f1
  rw [d.nil] at p1
  cases p1
  refine ⟨Nat.zero_le _, fun l hl => ?_⟩
  have g := (Frm.refl [] H1).new (o := .lst []) hl
  refine ⟨.list [], .list [], .lst (SqL.of (g.keep _ _ h1 (by simp))) .nil, .lst (SqL.of upd_same) .nil, by decide +kernel, by decide +kernel, _, rfl, iteF ?_⟩
  exact k _ _ (atG_mk (I1.same g) d rfl)
theorem fin_taken (T : Tx K mg A) (hr : Room 7 (XL P w K mg base f cdv B outer sh H0 E).A) :
    Tri1 (XL P w K mg base f cdv B outer sh H0 E) (lawAt 8) (AtG A a 240) (AtG A a 240) := by
  have GW : FnOk P w K mg base CX0 2 A.fPW A.dPW ["self"] (spPW A.cP A.cJ) := ok_pw T
  have GL : FnOk P w K mg base CX0 1 A.fJL A.dJL ["self"] (spJL A.cJ) := ok_jl T
  have hu := hu_of hr
  have hr1 : Room 1 (XL P w K mg base f cdv B outer sh H0 E).A := hr.mono (by decide)
  refine ⟨_, ps_if (PW.pt (pw_or (pt_cmpR (op_neD hr.units) (pe_meth0 (pv 4) T.clP T.mPW GW (hr.mono (by decide)) (bPW T) .nil pass0) (pe_lst pa_nil) (nomark _))
    (pw_or1 (pt_cmpR (op_neD hr.units)
      (pe_lc (own := [("_law_name", 15)]) (g := gName 15) (tt := tYes) rfl scLaw.nd (pi_tup (pe_tup (pa_cons pe_str (pa_cons pe_str pa_nil)))) (blkOk_by (own := [("_law_name", 15)]) (N := NL) (sc := defScope sLaw) (by decide +kernel)) (fun _ _ _ _ _ => pg_name (i := 15) scLaw.nd rfl (Or.inl rfl)) (fun _ _ _ _ _ => pts_nil)
        (fun _ _ _ _ _ => pe_callTy (call_tuple_ofK K) (by rfl) T.b_tuple boot_tuple (pa_cons (pe_fldK K (pe_dget hu (pv 5) (pv 15) (fun _ _ => rfl)) rfl) pa_nil)))
      (pe_lc (own := [("_law_name", 15)]) (g := gName 15) (tt := tYes) rfl scLaw.nd (pi_tup (pe_tup (pa_cons pe_str (pa_cons pe_str pa_nil)))) (blkOk_by (own := [("_law_name", 15)]) (N := NL) (sc := defScope sLaw) (by decide +kernel)) (fun _ _ _ _ _ => pg_name (i := 15) scLaw.nd rfl (Or.inl rfl)) (fun _ _ _ _ _ => pts_nil)
        (fun _ _ _ _ _ => pe_dget2 hu (pe_meth0 (pv 3) T.clJ T.mJL GL hr1 (bJL T) .nil pass0) (pv 15) (pe_tup pa_nil) ⟨by rfl, by rfl, by rfl, by rfl⟩)) (nomark _))))) (pss_one (ps_ret pe_bl)) pss_nil, ?_⟩
  rintro D σ H ⟨s, v8, v9, v10, v11, v12, v13, v14, v15, v16, v17, rfl, I, d⟩ k
  have hE := I.bE
  refine ⟨_, rfl, s.q, s.dxq, _, rfl, I.po.ob, rfl, s.q, s.dxq, s.p, s.hd, s.hs, s.dx, s.l, s.jr, s.x, s.y, s.es, s.k, rfl, I.po, I.jo, by omega, fun H1 u us f1 hu0 h1 p1 => ?_⟩
  have I1 := I.same f1
  rw [d.nil] at p1
  cases p1
  refine ⟨Nat.zero_le _, fun l hl => ?_⟩
  have g := (Frm.refl [] H1).new (o := .lst []) hl
  refine ⟨.list [], .list [], .lst (SqL.of (g.keep _ _ h1 (by simp))) .nil, .lst (SqL.of upd_same) .nil, by decide +kernel, by decide +kernel, _, rfl, iteF ?_⟩
  have I2 := I1.same g
  generalize upd H1 l (.lst []) = H2 at I2
  refine ⟨by show 2 ≤ sizeLine; decide, fun t1 ht1 => ⟨t1, rfl, ⟨_, SqT.of upd_same⟩, fun D1 hD1 => ?_⟩⟩
  have g1 := (Frm.refl [] H2).new (o := .tup [.str bobS, .str coraS]) ht1
  refine lc_tup (K := K) (a := t1) (xs := [V.str bobS, V.str coraS]) (fun j H' => Frm [] (upd H2 t1 (.tup [.str bobS, .str coraS])) H' ∧ ∃ acc, H' D1 = some (.lst acc) ∧ Paired (TT H') acc ((([bobS, coraS] : List Str).take j).map s.ls)) ⟨(Frm.refl [] _).new hD1, [], upd_same, .nil⟩
    (fun j H' _ p => SqT.of (p.1.tup _ _ upd_same)) ?_ ?_
  · rintro j x H' hj ⟨f3, acc, hD3, hacc⟩
    obtain ⟨r, rfl, hrj, hrec⟩ : ∃ r, x = V.str r ∧ ([bobS, coraS] : List Str)[j]? = some r ∧ isRec r := by
      rcases j with _ | _ | j
      · exact ⟨_, (Option.some.inj hj).symm, rfl, .inl rfl⟩
      · exact ⟨_, (Option.some.inj hj).symm, rfl, .inr rfl⟩
      · simp at hj
    have I3 := (I2.same g1).same f3
    have R := I3.re r hrec
    obtain ⟨vs, ht, hvs⟩ := R.tk
    rw [(d r hrec).2, List.take_length] at hvs
    refine ⟨rfl, ?_⟩
    refine ⟨_, rfl, _, rfl, s.rs, _, rfl, I3.rs_get hrec, (s.re r).r, A.cR, (s.re r).dx, _, _, rfl, R.ob, T.clR, T.nRtaken, rfl, (s.re r).tl, vs, rfl, .inl ⟨SqL.of ht, fun t htn => ?_⟩⟩
    have g4 : Frm [] H' (upd H' t (.tup vs)) := (Frm.refl [] H').new htn
    have hD4 := g4.keep _ _ hD3 (by simp)
    have g5 : Frm [D1] (upd H' t (.tup vs)) (upd (upd H' t (.tup vs)) D1 (.lst (acc ++ [.ref t]))) := (Frm.refl [D1] _).lst (.inl (by simp)) hD4
    refine ⟨acc, hD4, ?_, (f3.step g4).lst (.inr hD1) hD4, _, upd_same, ?_⟩
    · rw [hacc.length, List.length_map, List.length_take]
      exact Nat.lt_of_le_of_lt (Nat.min_le_right _ _) (by decide)
    · rw [take_at hrj, List.map_append]
      exact pd_append (hacc.mono fun _ _ z => (z.keep g4).keep g5) (.cons ⟨t, vs, rfl, g5.tup _ _ upd_same, lts_keep (lts_keep hvs g4) g5⟩ .nil)
  · rintro H3 ⟨f3, acc, hD3, hacc⟩
    have I3 := (I2.same g1).same f3
    have e2 : (([bobS, coraS] : List Str).take ([V.str bobS, V.str coraS] : List V).length) = [bobS, coraS] := rfl
    rw [e2] at hacc
    refine ⟨by show 2 ≤ sizeLine; decide, fun t2 ht2 => ⟨t2, rfl, ⟨_, SqT.of upd_same⟩, fun D2 hD2 => ?_⟩⟩
    have g2 := (Frm.refl [] H3).new (o := .tup [.str bobS, .str coraS]) ht2
    refine lc_tup (K := K) (a := t2) (xs := [V.str bobS, V.str coraS]) (fun j H' => Frm [] (upd H3 t2 (.tup [.str bobS, .str coraS])) H' ∧ ∃ acc, H' D2 = some (.lst acc) ∧ Paired (TT H') acc ((([bobS, coraS] : List Str).take j).map s.ls)) ⟨(Frm.refl [] _).new hD2, [], upd_same, .nil⟩
      (fun j H' _ p => SqT.of (p.1.tup _ _ upd_same)) ?_ ?_
    · rintro j x H' hj ⟨f4, acc2, hD4, hacc2⟩
      obtain ⟨r, rfl, hrj, hrec⟩ : ∃ r, x = V.str r ∧ ([bobS, coraS] : List Str)[j]? = some r ∧ isRec r := by
        rcases j with _ | _ | j
        · exact ⟨_, (Option.some.inj hj).symm, rfl, .inl rfl⟩
        · exact ⟨_, (Option.some.inj hj).symm, rfl, .inr rfl⟩
        · simp at hj
      have I4 := (I3.same g2).same f4
      refine ⟨rfl, ?_⟩
      refine ⟨_, rfl, s.p, s.dx, _, rfl, I4.jo.ob, rfl, s.p, s.dx, s.l, s.jr, s.x, s.y, s.es, s.k, rfl, I4.jo, by omega, fun H5 dd f5 hdd hLD => ?_⟩
      obtain ⟨kvs, hd5, rows⟩ := hLD
      refine ⟨dd, rfl, .inl ⟨_, .inl hd5⟩, _, rfl, Nat.zero_le _, fun t0 ht0 => ?_⟩
      have g6 := (Frm.refl [] H5).new (o := .tup []) ht0
      refine ⟨_, DGet.k (k := (Sum.inr r : Key)) (g6.keep _ _ hd5 (by simp)), ?_⟩
      have hT := ld_get hrec rows g6 upd_same
      have f7 := f5.step g6
      have hD6 := f7.keep _ _ hD4 (by simp)
      have g7 : ∀ z, Frm [D2] (upd H5 t0 (.tup [])) (upd (upd H5 t0 (.tup [])) D2 (.lst (acc2 ++ [z]))) := fun z => (Frm.refl [D2] _).lst (.inl (by simp)) hD6
      refine ⟨acc2, hD6, ?_, (f4.step f7).lst (.inr hD2) hD6, _, upd_same, ?_⟩
      · rw [hacc2.length, List.length_map, List.length_take]
        exact Nat.lt_of_le_of_lt (Nat.min_le_right _ _) (by decide)
      · rw [take_at hrj, List.map_append]
        exact pd_append (hacc2.mono fun _ _ z => (z.keep f7).keep (g7 _)) (.cons (hT.keep (g7 _)) .nil)
    · rintro H4 ⟨f4, acc2, hD4, hacc2⟩
      rw [e2] at hacc2
      have I4 := (I3.same g2).same f4
      have f34 := g2.step f4
      have dpt : ∀ {H : Hp} {acc : List V} {xs : List Str}, Paired (TT H) acc (xs.map s.ls) → DpAll K H acc (xs.map fun r => PyData.tuple ((s.ls r).map datN)) := fun {H acc xs} p => by
        induction xs generalizing acc with
        | nil =>
          cases p
          exact .nil
        | cons r t ih =>
          cases p with
          | cons h t => exact .cons (dp_tt h) (ih t)
      have shp : SeqAt.shaped (.list ([bobS, coraS].map fun r => PyData.tuple ((s.ls r).map datN))) = true := by
        have l1 := datNs_lay (s.ls bobS) fun nm h => I.names h
        have l2 := datNs_lay (s.ls coraS) fun nm h => I.names h
        have d1 := datNs_depth (s.ls bobS)
        have d2 := datNs_depth (s.ls coraS)
        refine shaped_of (by simp [PyData.canLay0, PyData.canLayAll0, l1, l2]) ?_
        simp only [List.map_cons, List.map_nil, PyData.depth, PyData.depthAll]
        omega
      refine ⟨_, _, .lst (SqL.of (f34.keep _ _ hD3 (by simp))) (dpt (hacc.mono fun _ _ z => z.keep f34)), .lst (SqL.of hD4) (dpt hacc2), shp, shp, _, rfl, ?_⟩
      rw [eqv_shaped shp]
      refine iteF ?_
      exact k _ _ (atG_mk I4 d rfl)
end
end K58
/-! The law's end: bad answers are refused. -/
namespace K58
open PySem L2 PyProof.Rows TL
/-- the four bad answers -/
def zedS : Str := "zed"
def bads : List (Str × V) := [(bobS, .int (-1)), (bobS, .int 999), (zedS, .int 1), (bobS, .bl true)]
theorem zed_len (es : List Ent) : lenOf zedS es = 0 := by
  unfold lenOf
  have h : (lettersD es).lookup zedS = none := by
    cases e : (lettersD es).lookup zedS with
    | none => rfl
    | some ns =>
      have hm : ∀ {xs : List (Str × List Str)}, xs.lookup zedS = some ns → (zedS, ns) ∈ xs := fun {xs} => by
        induction xs with
        | nil => intro h; cases h
        | cons x t ih =>
          obtain ⟨q, u⟩ := x
          intro h
          rw [List.lookup_cons] at h
          by_cases z : zedS = q
          · subst z
            have : (zedS == zedS) = true := beq_self_eq_true _
            rw [this] at h
            cases h
            exact List.mem_cons_self
          · have : (zedS == q) = false := by simp [z]
            rw [this] at h
            exact List.mem_cons_of_mem _ (ih h)
      have := (ld_mem (hm e)).1
      rcases this with z | z
      · exact absurd z (by decide +kernel)
      · exact absurd z (by decide +kernel)
  rw [h] <;> rfl
theorem ok_zed : NameOk zedS := ok_of (c := 122) (r := [101, 100]) (by decide +kernel) (by decide) (by decide) (by unfold okC; decide)
/-- the data of a bad answer -/
def datV : V → PyData
  | .int i => .int i
  | .bl b => .bool b
  | _ => .none
theorem bads_at {es : List Ent} (h : ∀ r, lenOf r es ≤ 40) {r : Str} {v : V} (hm : (r, v) ∈ bads) : badNum v (lenOf r es) ∧ NameOk r ∧ ((∃ i, v = .int i) ∨ ∃ b, v = .bl b) := by
  simp only [bads, List.mem_cons, List.not_mem_nil, or_false, Prod.mk.injEq] at hm
  rcases hm with ⟨rfl, rfl⟩ | ⟨rfl, rfl⟩ | ⟨rfl, rfl⟩ | ⟨rfl, rfl⟩
  · exact ⟨.inl ⟨-1, rfl, by omega⟩, ok_bob, .inl ⟨_, rfl⟩⟩
  · refine ⟨.inl ⟨999, rfl, ?_⟩, ok_bob, .inl ⟨_, rfl⟩⟩
    have := h bobS
    omega
  · refine ⟨.inl ⟨1, rfl, ?_⟩, ok_zed, .inl ⟨_, rfl⟩⟩
    rw [zed_len]
    omega
  · exact ⟨.inr ⟨_, rfl⟩, ok_bob, .inr ⟨_, rfl⟩⟩
theorem dp_v {K : PySem.W.Frag} {H : Hp} {v : V} (h : (∃ i, v = .int i) ∨ ∃ b, v = .bl b) : Dp K H v (datV v) := by
  rcases h with ⟨i, rfl⟩ | ⟨b, rfl⟩
  · exact .int i
  · exact .bl b
theorem shaped_rv {r : Str} {v : V} (hr : NameOk r) (h : (∃ i, v = .int i) ∨ ∃ b, v = .bl b) : SeqAt.shaped (.tuple [.str r, datV v]) = true := by
  rcases h with ⟨i, rfl⟩ | ⟨b, rfl⟩
  · exact shaped_of (by simp [datV, PyData.canLay0, PyData.canLayAll0, strOk_of hr]) (by simp [datV, PyData.depth, PyData.depthAll])
  · exact shaped_of (by simp [datV, PyData.canLay0, PyData.canLayAll0, strOk_of hr]) (by simp [datV, PyData.depth, PyData.depthAll])
section
variable {P : Program} {w : World} {K : PySem.W.Frag} {mg : Str → Option Value} {base : Heap} {A : Ads} {f : Addr} {cdv : Value} {B : Around} {outer : List Env} {sh : Shared} {H0 HB H : Hp} {E : XK} {a : Addr} {ns : List Int} {s : W} {n : Nat}
/-- a pair of a name and a number, true or not -/
def QT (H : Hp) (v : V) (x : Str × V) : Prop := ∃ b, v = .ref b ∧ H b = some (.tup [.str x.1, x.2])
def t_in (A : Ads) (W : WX) : TS := tSeq (tDrop (tMethS A.cP "hear" (spPH A.cP A.cJ A.cB) (WE W) (tVar 4) (tCons (tVar 15) (tCons (tVar 12) tNil)))) (tRet (tC (.bl false)))
def t_su (K : PySem.W.Frag) (A : Ads) (x : Addr) (cls : Value) (d : Option Addr) : TS := tIfS (tTest (tOp (rNeD K) (tXf x cls d A.cB "entry" (tVar 17)) (tTup (tCons (tVar 15) (tCons (tVar 12) tNil))))) (tRet (tC (.bl false))) tNext
theorem fin_bad (hP : P = PW) (T : Tx K mg A) (hr : Room 7 (XL P w K mg base f cdv B outer sh H0 E).A) :
    Tri1 (XL P w K mg base f cdv B outer sh H0 E) (lawAt 9) (AtG A a 240) (fun _ _ => True) := by
  have GH : FnOk P w K mg base (L2.CX P w) 2 A.fPH A.dPH ["self", "receiver", "number"] (spPH A.cP A.cJ A.cB) := ok_ph hP T
  have hr2 : Room 2 (XL P w K mg base f cdv B outer sh H0 E).A := hr.mono (by decide)
  refine ⟨_, ps_for PassesOwn.never rfl (pi_tup (pe_tup (pa_cons (pe_tup (pa_cons pe_str (pa_cons (pe_un un_neg pe_int) pa_nil))) (pa_cons (pe_tup (pa_cons pe_str (pa_cons pe_int pa_nil))) (pa_cons (pe_tup (pa_cons pe_str (pa_cons pe_int pa_nil))) (pa_cons (pe_tup (pa_cons pe_str (pa_cons pe_bl pa_nil))) pa_nil))))))
    (pg_tup rfl (pgs_cons (pg_name (i := 15) scLaw.nd rfl (.inl rfl)) (pgs_cons (pg_name (i := 12) scLaw.nd rfl (.inl rfl)) pgs_nil)))
    (pss_one (ps_try_as (i := 17) (tb := t_in A) (ts := t_su K A) (Wout := fun _ _ _ _ => False) rfl rfl scLaw.nd rfl rfl ⟨rfl, by decide, .inl T.gB⟩ takes0
      (fun W pn xe tk _ => pss_cons (ps_expr (by exact (pe_methS (W := WE W) (pv 4) T.clP T.mPH GH hr2 (bPH T) (fun σ => passAt tk σ) (pa_cons (pv 15) (pa_cons (pv 12) pa_nil))))) (pss_one (ps_ret pe_bl)))
      (fun x oe cls d pn hz hf => pss_one (ps_if (by exact (pt_cmpR (op_neDK K hr.units) (pe_xf ⟨T.bad.ga, T.bad.gg, T.bad.exC, T.bad.hd⟩ T.bad.noE hz hf (pv 17)) (pe_tup (pa_cons (pv 15) (pa_cons (pv 12) pa_nil))) (nomark _))) (pss_one (ps_ret pe_bl)) pss_nil)))), ?_⟩
  rintro D σ H ⟨s, v8, v9, v10, v11, v12, v13, v14, v15, v16, v17, rfl, I, _⟩ k
  have hE := I.bE
  refine ⟨1, rfl, by show 2 ≤ sizeLine; decide, fun t1 ht1 => ⟨by show 2 ≤ sizeLine; decide, fun t2 ht2 => ⟨by show 2 ≤ sizeLine; decide, fun t3 ht3 => ⟨by show 2 ≤ sizeLine; decide, fun t4 ht4 => ⟨by show 4 ≤ sizeLine; decide, fun tq htq => ?_⟩⟩⟩⟩⟩
  have g1 : Frm [] H (upd H t1 (.tup [.str bobS, .int (-1)])) := (Frm.refl [] H).new ht1
  have g2 := (Frm.refl [] (upd H t1 (.tup [.str bobS, .int (-1)]))).new (o := .tup [.str bobS, .int 999]) ht2
  have g3 := (Frm.refl [] (upd (upd H t1 (.tup [.str bobS, .int (-1)])) t2 (.tup [.str bobS, .int 999]))).new (o := .tup [.str zedS, .int 1]) ht3
  have g4 := (Frm.refl [] (upd (upd (upd H t1 (.tup [.str bobS, .int (-1)])) t2 (.tup [.str bobS, .int 999])) t3 (.tup [.str zedS, .int 1]))).new (o := .tup [.str bobS, .bl true]) ht4
  have g5 := (Frm.refl [] (upd (upd (upd (upd H t1 (.tup [.str bobS, .int (-1)])) t2 (.tup [.str bobS, .int 999])) t3 (.tup [.str zedS, .int 1])) t4 (.tup [.str bobS, .bl true]))).new (o := .tup [.ref t1, .ref t2, .ref t3, .ref t4]) htq
  have hQ : Paired (QT (upd (upd (upd (upd (upd H t1 (.tup [.str bobS, .int (-1)])) t2 (.tup [.str bobS, .int 999])) t3 (.tup [.str zedS, .int 1])) t4 (.tup [.str bobS, .bl true])) tq (.tup [.ref t1, .ref t2, .ref t3, .ref t4]))) [.ref t1, .ref t2, .ref t3, .ref t4] bads :=
    .cons ⟨t1, rfl, g5.tup _ _ (g4.tup _ _ (g3.tup _ _ (g2.tup _ _ upd_same)))⟩ (.cons ⟨t2, rfl, g5.tup _ _ (g4.tup _ _ (g3.tup _ _ upd_same))⟩ (.cons ⟨t3, rfl, g5.tup _ _ (g4.tup _ _ upd_same)⟩ (.cons ⟨t4, rfl, g5.tup _ _ upd_same⟩ .nil)))
  have I5 := ((((I.same g1).same g2).same g3).same g4).same g5
  refine ⟨tq, rfl, ⟨_, SqT.of upd_same⟩, for_tup (K := K) (a := tq) (xs := [.ref t1, .ref t2, .ref t3, .ref t4]) (g := gTup K 2 (gCons (gName 15) (gCons (gName 12) gNil))) (tb := fun D σ H => t_in A (wAs K (.ref A.cB) 17 (t_su K A) (fun _ _ _ _ => False) D) D σ H)
    (fun j σ H' => Paired (QT H') [.ref t1, .ref t2, .ref t3, .ref t4] bads ∧ Stf A H' s 240 ∧ H' tq = some (.tup [.ref t1, .ref t2, .ref t3, .ref t4]) ∧ ∃ v12 v15 v17, σ = sg a s v8 v9 v10 v11 v12 v13 v14 v15 v16 v17) ⟨hQ, I5, upd_same, v12, v15, v17, rfl⟩ (fun j σ H' _ p => SqT.of p.2.2.1) ?_ (fun σ H' _ => k _ _ True.intro)⟩
  rintro j x σ H' hj ⟨hQ6, I6, hq6, v12, v15, v17, rfl⟩
  obtain ⟨⟨r, v⟩, hb1, b, rfl, hb⟩ := pd_left hQ6 hj
  have hlen : ∀ z, lenOf z (s.es.take s.k) ≤ 40 := fun z => by
    unfold lenOf
    cases e : (lettersD (s.es.take s.k)).lookup z with
    | none => exact Nat.zero_le _
    | some ns =>
      have hm : ∀ {xs : List (Str × List Str)}, xs.lookup z = some ns → (z, ns) ∈ xs := fun {xs} => by
        induction xs with
        | nil => intro h; cases h
        | cons x t ih =>
          obtain ⟨q, u⟩ := x
          intro h
          rw [List.lookup_cons] at h
          by_cases y : z = q
          · subst y
            have : (z == z) = true := beq_self_eq_true _
            rw [this] at h
            cases h
            exact List.mem_cons_self
          · have : (z == q) = false := by simp [y]
            rw [this] at h
            exact List.mem_cons_of_mem _ (ih h)
      have h1 : ns.length ≤ (s.es.take s.k).length := ld_le _ (hm e)
      have h2 : (s.es.take s.k).length ≤ s.es.length := by rw [List.length_take]; omega
      show ns.length ≤ 40
      omega
  obtain ⟨hbad, hok, hv⟩ := bads_at hlen (List.mem_of_getElem? hb1)
  have hH := I6.bH
  refine ⟨b, _, rfl, SqT.of hb, rfl, _, _, rfl, _, _, rfl, rfl, ?_⟩
  refine ⟨_, rfl, s.q, s.dxq, _, rfl, I6.po.ob, rfl, _, rfl, _, rfl, s.q, s.dxq, s.p, s.hd, s.hs, s.dx, s.l, s.jr, s.x, s.y, s.es, s.k, r, v, rfl, I6.po, I6.jo, by omega, by omega, .inr ⟨hbad, fun dd t H7 f7 hdd ht hdx => ?_⟩⟩
  refine ⟨true, T.bx, fun _ x' hx' => ?_, fun z => by cases z⟩
  refine ⟨_, rfl, rfl, rfl, dd, _, _, rfl, hdx, rfl, _, rfl, _, rfl, by show 2 ≤ sizeLine; decide, fun t5 ht5 => ?_⟩
  have g8 : Frm [] H7 (upd H7 t5 (.tup [.str r, v])) := (Frm.refl [] H7).new ht5
  have shp := shaped_rv hok hv
  refine ⟨_, _, .tup (SqT.of (g8.tup _ _ ht)) (.cons (.str r) (.cons (dp_v hv) .nil)), .tup (SqT.of upd_same) (.cons (.str r) (.cons (dp_v hv) .nil)), shp, shp, _, rfl, ?_⟩
  rw [eqv_shaped shp]
  exact iteF ⟨hQ6.mono fun v x z => by
    obtain ⟨b, e, h⟩ := z
    exact ⟨b, e, (f7.step g8).tup _ _ h⟩, I6.same (f7.step g8), (f7.step g8).tup _ _ hq6, _, _, _, rfl⟩
end
end K58
/-! The law: from its first line to its last. -/
namespace K58
open PySem L2 PyProof.Rows TL
def Live (H : Hp) (L : List Addr) : Prop := ∀ x ∈ L, H x ≠ none
theorem Live.fresh {H : Hp} {L : List Addr} {z : Addr} (h : Live H L) (hz : H z = none) : z ∉ L := fun m => h z m hz
theorem Live.keep {H H1 : Hp} {L M : List Addr} (h : Live H L) (f : Frm M H H1) : Live H1 L := fun x hx e => h x hx (f.dom x e)
theorem Live.cons {H : Hp} {L : List Addr} {z : Addr} {o : HO} (h : Live H L) (hz : H z = some o) : Live H (z :: L) := fun x hx e => by
  rcases List.mem_cons.mp hx with rfl | hx
  · rw [hz] at e
    cases e
  · exact h x hx e
theorem nodup_pick {L M : List Addr} (hN : L.Nodup) (ix : List Nat) (hix : ix.Nodup) (h : ix.map (fun i => L[i]?) = M.map some) : M.Nodup := by
  have h1 : (M.map some).Nodup := by
    rw [← h]
    refine List.pairwise_map.mpr (hix.imp_of_mem fun {i j} hi hj hij e => ?_)
    have hm : L[i]? ∈ M.map some := by
      rw [← h]
      exact List.mem_map_of_mem hi
    obtain ⟨x, _, ex⟩ := List.mem_map.mp hm
    exact hij (nd_ix hN ex.symm (e.symm.trans ex.symm))
  have h2 := List.pairwise_map.mp h1
  exact h2.imp fun h e => h (by rw [e])
theorem merge_rs (rb rc : Addr) : mergeK [] (rsK rb rc) = rsK rb rc := by
  have h : ¬ (Sum.inr bobS : Key) = Sum.inr coraS := fun z => bc_ne (Sum.inr.inj z)
  show putK (putK [] (Sum.inr bobS : Key) (.ref rb)) (Sum.inr coraS : Key) (.ref rc) = _
  rw [putK_new _ (valV_nil), List.nil_append, putK_new _ (by rw [valV_neg h, valV_nil])]
  rfl
def spLaw (K : PySem.W.Frag) : Sp := fun vs H Q _ => ∃ (a : Addr) (ns : List Int), vs = [.ref a] ∧ SqL K H a (ns.map V.int) ∧ ns.length ≤ 63 ∧ ∀ H', Q (.bl true) H'
section
variable {P : Program} {w : World} {K : PySem.W.Frag} {mg : Str → Option Value} {base : Heap} {A : Ads}
theorem ok_law {f : Addr} {fd : FuncData} (hP : P = PW) (T : Tx K mg A) (F : Fun K "law" "law" sLaw f fd) : FnOk P w K mg base CX0 8 f fd ["_law_script"] (spLaw K) := by
  have GR : FnOk P w K mg base CX0 1 A.fRel A.dRel [] spRel := ok_rel T
  have GJ : FnOk P w K mg base CX0 5 A.fJI A.dJI ["self", "relations", "text"] (spJI A.cJ) := ok_ji T
  have GP : FnOk P w K mg base CX0 1 A.fPI A.dPI ["self", "journal"] (spPI A.cP) := ok_pi T
  have GC : FnOk P w K mg base CX0 1 A.fRI A.dRI ["self"] (spRI A.cR) := ok_ri T
  refine F.ok scLaw (fun vs H Q E h => ?_) (fun cdv B outer sh H vs Q E hr h => ?_)
  · obtain ⟨a, ns, rfl, _⟩ := h
    rfl
  · obtain ⟨a, ns, rfl, hS, _, k⟩ := h
    have hr2 : Room 2 (XL P w K mg base f cdv B outer sh H E).A := hr.mono (by decide)
    obtain ⟨t4, h4, q4⟩ := all_turns (P := P) (w := w) (K := K) (mg := mg) (base := base) (A := A) (f := f) (cdv := cdv) (B := B) (outer := outer) (sh := sh) (H0 := H) (HB := H) (E := E) (a := a) (ns := ns) hP T hr
    obtain ⟨t5, h5, q5⟩ := fin_settle (P := P) (w := w) (K := K) (mg := mg) (base := base) (A := A) (f := f) (cdv := cdv) (B := B) (outer := outer) (sh := sh) (H0 := H) (HB := H) (E := E) (a := a) (ns := ns) T hr
    obtain ⟨t6, h6, q6⟩ := fin_come (P := P) (w := w) (K := K) (mg := mg) (base := base) (A := A) (f := f) (cdv := cdv) (B := B) (outer := outer) (sh := sh) (H0 := H) (E := E) (a := a) hP T hr
    obtain ⟨t7, h7, q7⟩ := fin_none (P := P) (w := w) (K := K) (mg := mg) (base := base) (A := A) (f := f) (cdv := cdv) (B := B) (outer := outer) (sh := sh) (H0 := H) (E := E) (a := a) T hr
    obtain ⟨t8, h8, q8⟩ := fin_taken (P := P) (w := w) (K := K) (mg := mg) (base := base) (A := A) (f := f) (cdv := cdv) (B := B) (outer := outer) (sh := sh) (H0 := H) (E := E) (a := a) T hr
    obtain ⟨t9, h9, q9⟩ := fin_bad (P := P) (w := w) (K := K) (mg := mg) (base := base) (A := A) (f := f) (cdv := cdv) (B := B) (outer := outer) (sh := sh) (H0 := H) (E := E) (a := a) hP T hr
    refine ⟨_, pss_cons (ps_set (i := 1) scLaw.nd rfl (.inl rfl) (pe_lst (pa_cons (pv 0) (pa_cons pe_int pa_nil))))
      (pss_cons (ps_set (i := 2) scLaw.nd rfl (.inl rfl) (pe_call0 GR (hr.mono (by decide)) (by rfl) T.gRel T.FRel.kp (bRel T) .nil pass0))
      (pss_cons (ps_set (i := 3) scLaw.nd rfl (.inr rfl) (pe_make T.mkJ GJ (hr.mono (by decide)) (by rfl) T.gJ (bJI T) .nil pass0 (pa_cons (pv 2) (pa_cons pe_str pa_nil))))
      (pss_cons (ps_asg (pe_tup (pa_cons (pe_make T.mkP GP hr2 (by rfl) T.gP (bPI T) .nil pass0 (pa_cons (pv 3) pa_nil))
          (pa_cons (pe_disp (pps_cons pe_str (pe_make0 T.mkR GC hr2 (by rfl) T.gR (bRI T) .nil pass0) (pps_cons pe_str (pe_make0 T.mkR GC hr2 (by rfl) T.gR (bRI T) .nil pass0) pps_nil)) (by rfl) (by rfl) (fun z => by cases z) (by decide))
          (pa_cons (pe_lst pa_nil) (pa_cons pe_dnewK pa_nil)))))
        (pg_tup rfl (pgs_cons (pg_name (i := 4) scLaw.nd rfl (.inr rfl)) (pgs_cons (pg_name (i := 5) scLaw.nd rfl (.inr rfl)) (pgs_cons (pg_name (i := 6) scLaw.nd rfl (.inl rfl)) (pgs_cons (pg_name (i := 7) scLaw.nd rfl (.inl rfl)) pgs_nil))))))
      (pss_cons h4 (pss_cons h5 (pss_cons h6 (pss_cons h7 (pss_cons h8 (pss_cons h9 (pss_one (ps_ret pe_bl))))))))))), ?_⟩
    -- _law_draw
    refine ⟨_, rfl, by show 2 ≤ sizeLine; decide, fun dl hdl => ?_⟩
    have f0 : Frm [] H (upd H dl (.lst [.ref a, .int 0])) := (Frm.refl [] H).new hdl
    have v0 : Live (upd H dl (.lst [.ref a, .int 0])) [dl] := (show Live _ [] from fun x hx => absurd hx (by simp)).cons upd_same
    have n0 : [dl].Nodup := by simp
    -- _law_relations_here
    refine ⟨rfl, fun H1 rd f1 hrd h1 => ?_⟩
    have v1 := (v0.keep f1).cons h1
    have n1 : [rd, dl].Nodup := List.nodup_cons.mpr ⟨v0.fresh hrd, n0⟩
    have hdl1 := f1.keep _ _ (upd_same (H := H) (a := dl) (o := .lst [.ref a, .int 0])) (by simp)
    -- _law_journal
    refine ⟨_, rfl, ?_⟩
    intro p dx hp hdx hne
    have g1 : Frm [] H1 (upd (upd H1 dx (.own p)) p (.ins A.cJ dx [])) := ((Frm.refl [] H1).new hdx).new ((upd_ne hne.symm).trans hp)
    refine ⟨p, dx, rd, "", [], [], rfl, upd_same, g1.keep _ _ h1 (by simp), (by show tl (Str.ofString "") = []; decide +kernel), by simp, fun e he => absurd he (by simp), by decide, (by show (Str.ofString "").length ≤ sizeLine; decide +kernel), fun H3 l jr x' f3 hl hjr J3 => ⟨rfl, ?_⟩⟩
    have fA : Frm [] H1 H3 := g1.trans f3 (fun b hb => .inr (by rw [List.mem_singleton.mp hb]; exact hp))
    obtain ⟨us3, hl3, _⟩ := J3.ls
    have vm := (v1.keep g1).cons upd_same
    have v3 := (((v1.keep fA).cons J3.ob).cons hl3).cons J3.rl
    have n3 : [jr, l, p, rd, dl].Nodup := List.nodup_cons.mpr ⟨fun z => by
      rcases List.mem_cons.mp z with z | z
      · exact ne_of J3.rl hl3 (by intro y; cases y) z
      · exact vm.fresh hjr z, List.nodup_cons.mpr ⟨vm.fresh hl, List.nodup_cons.mpr ⟨v1.fresh hp, n1⟩⟩⟩
    -- Post(_law_journal)
    refine ⟨_, rfl, ?_⟩
    intro q dxq hq hdxq hneq
    have g3 : Frm [] H3 (upd (upd H3 dxq (.own q)) q (.ins A.cP dxq [])) := ((Frm.refl [] H3).new hdxq).new ((upd_ne hneq.symm).trans hq)
    refine ⟨q, dxq, p, rfl, upd_same, fun H5 hd f5 hhd P5 => ⟨rfl, fun rs hrs => ?_⟩⟩
    have fB : Frm [] H3 H5 := g3.trans f5 (fun b hb => .inr (by rw [List.mem_singleton.mp hb]; exact hq))
    have v5 := ((v3.keep fB).cons P5.ob).cons P5.hd
    have n5 : [hd, q, jr, l, p, rd, dl].Nodup := List.nodup_cons.mpr ⟨((v3.keep g3).cons upd_same).fresh hhd, List.nodup_cons.mpr ⟨v3.fresh hq, n3⟩⟩
    -- the receivers
    have gr : Frm [] H5 (upd H5 rs (.dK [])) := (Frm.refl [] H5).new hrs
    have v6 := (v5.keep gr).cons (z := rs) upd_same
    have n6 : [rs, hd, q, jr, l, p, rd, dl].Nodup := List.nodup_cons.mpr ⟨v5.fresh hrs, n5⟩
    intro rb dxb hrb hdxb hneb
    have gb : Frm [] (upd H5 rs (.dK [])) (upd (upd (upd H5 rs (.dK [])) dxb (.own rb)) rb (.ins A.cR dxb [])) := ((Frm.refl [] _).new hdxb).new ((upd_ne hneb.symm).trans hrb)
    refine ⟨rb, dxb, rfl, upd_same, fun H6 tb eb f6 htb heb R6 => ⟨rfl, ?_⟩⟩
    have fb : Frm [] (upd H5 rs (.dK [])) H6 := gb.trans f6 (fun b hb => .inr (by rw [List.mem_singleton.mp hb]; exact hrb))
    obtain ⟨ub, htb6, _⟩ := R6.tk
    obtain ⟨kb, heb6, _⟩ := R6.er
    have vb := (v6.keep gb).cons (z := rb) upd_same
    have v7 := (((v6.keep fb).cons R6.ob).cons htb6).cons heb6
    have n7 : [eb, tb, rb, rs, hd, q, jr, l, p, rd, dl].Nodup := List.nodup_cons.mpr ⟨fun z => by
      rcases List.mem_cons.mp z with z | z
      · exact ne_of heb6 htb6 (by intro y; cases y) z
      · exact vb.fresh heb z, List.nodup_cons.mpr ⟨vb.fresh htb, List.nodup_cons.mpr ⟨v6.fresh hrb, n6⟩⟩⟩
    intro rc dxc hrc hdxc hnec
    have gc : Frm [] H6 (upd (upd H6 dxc (.own rc)) rc (.ins A.cR dxc [])) := ((Frm.refl [] _).new hdxc).new ((upd_ne hnec.symm).trans hrc)
    refine ⟨rc, dxc, rfl, upd_same, fun H8 tc ec f8 htc hec R8 => ⟨rfl, ?_⟩⟩
    have fc : Frm [] H6 H8 := gc.trans f8 (fun b hb => .inr (by rw [List.mem_singleton.mp hb]; exact hrc))
    obtain ⟨uc, htc8, _⟩ := R8.tk
    obtain ⟨kc, hec8, _⟩ := R8.er
    have vc := (v7.keep gc).cons (z := rc) upd_same
    have v8 := (((v7.keep fc).cons R8.ob).cons htc8).cons hec8
    have n8 : [ec, tc, rc, eb, tb, rb, rs, hd, q, jr, l, p, rd, dl].Nodup := List.nodup_cons.mpr ⟨fun z => by
      rcases List.mem_cons.mp z with z | z
      · exact ne_of hec8 htc8 (by intro y; cases y) z
      · exact vc.fresh hec z, List.nodup_cons.mpr ⟨vc.fresh htc, List.nodup_cons.mpr ⟨v7.fresh hrc, n7⟩⟩⟩
    have hrs8 : H8 rs = some (.dK []) := fc.keep _ _ (fb.keep _ _ upd_same (by simp)) (by simp)
    refine ⟨hrs8, rsK rb rc, rfl, (by show 2 ≤ 15; decide), ?_⟩
    rw [merge_rs]
    have g9 : Frm [rs] H8 (upd H8 rs (.dK (rsK rb rc))) := (Frm.refl [rs] H8).dk (.inl (by simp)) hrs8
    -- [], {}
    refine ⟨Nat.zero_le _, fun ul hul => ?_⟩
    have ga := (Frm.refl [] (upd H8 rs (.dK (rsK rb rc)))).new (o := .lst []) hul
    intro lh hlh
    have gl := (Frm.refl [] (upd (upd H8 rs (.dK (rsK rb rc))) ul (.lst []))).new (o := .dK []) hlh
    refine ⟨by show 4 ≤ sizeLine; decide, fun t ht => ?_⟩
    have gt := (Frm.refl [] (upd (upd (upd H8 rs (.dK (rsK rb rc))) ul (.lst [])) lh (.dK []))).new (o := .tup [.ref q, .ref rs, .ref ul, .ref lh]) ht
    refine ⟨t, _, rfl, SqT.of upd_same, rfl, _, _, rfl, _, _, rfl, _, _, rfl, _, _, rfl, rfl, ?_⟩
    have v9 := v8.keep g9
    have n10 : [lh, ul, ec, tc, rc, eb, tb, rb, rs, hd, q, jr, l, p, rd, dl].Nodup :=
      List.nodup_cons.mpr ⟨((v9.keep ga).cons upd_same).fresh hlh, List.nodup_cons.mpr ⟨v9.fresh hul, n8⟩⟩
    have hul2 : (upd (upd (upd (upd H8 rs (.dK (rsK rb rc))) ul (.lst [])) lh (.dK [])) t (.tup [.ref q, .ref rs, .ref ul, .ref lh])) ul = some (.lst []) := gt.keep _ _ (gl.keep _ _ upd_same (by simp)) (by simp)
    have hlh2 : (upd (upd (upd (upd H8 rs (.dK (rsK rb rc))) ul (.lst [])) lh (.dK [])) t (.tup [.ref q, .ref rs, .ref ul, .ref lh])) lh = some (.dK []) := gt.keep _ _ upd_same (by simp)
    have hrs2 : (upd (upd (upd (upd H8 rs (.dK (rsK rb rc))) ul (.lst [])) lh (.dK [])) t (.tup [.ref q, .ref rs, .ref ul, .ref lh])) rs = some (.dK (rsK rb rc)) := gt.keep _ _ (gl.keep _ _ (ga.keep _ _ upd_same (by simp)) (by simp)) (by simp)
    have F8 : Frm [rs] H8 (upd (upd (upd (upd H8 rs (.dK (rsK rb rc))) ul (.lst [])) lh (.dK [])) t (.tup [.ref q, .ref rs, .ref ul, .ref lh])) := ((g9.step ga).step gl).step gt
    generalize upd (upd (upd (upd H8 rs (.dK (rsK rb rc))) ul (.lst [])) lh (.dK [])) t (.tup [.ref q, .ref rs, .ref ul, .ref lh]) = Hn at hul2 hlh2 hrs2 F8 ⊢
    have F01 := f0.step f1
    have F03 := F01.step fA
    have F05 := F03.step fB
    have F6 := (F05.step gr).step fb
    have F08 := F6.step fc
    have hrs0 : H rs = none := F05.free hrs
    have F0n : Frm [] H Hn := F08.trans F8 (fun b hb => .inr (by rw [List.mem_singleton.mp hb]; exact hrs0))
    have nr (i : Nat) {b : Addr} (hb : [lh, ul, ec, tc, rc, eb, tb, rb, rs, hd, q, jr, l, p, rd, dl][i]? = some b) (hi : i ≠ 8) : b ∉ [rs] := nm1 (ne_ix n10 i 8 hb rfl hi)
    have F38 : Frm [] H3 H8 := (((fB.step gr).step fb).step fc)
    have F58 : Frm [] H5 H8 := ((gr.step fb).step fc)
    have e1 : (fun r => if r = bobS then (⟨rb, dxb, tb, eb, 0, 0⟩ : RD) else ⟨rc, dxc, tc, ec, 0, 0⟩) bobS = ⟨rb, dxb, tb, eb, 0, 0⟩ := if_pos rfl
    have e2 : (fun r => if r = bobS then (⟨rb, dxb, tb, eb, 0, 0⟩ : RD) else ⟨rc, dxc, tc, ec, 0, 0⟩) coraS = ⟨rc, dxc, tc, ec, 0, 0⟩ := if_neg bc_ne.symm
    have I : Sta K A H Hn a ns { dl := dl, rd := rd, p := p, dx := dx, l := l, jr := jr, q := q, dxq := dxq, hd := hd, rs := rs, ul := ul, lh := lh, re := fun r => if r = bobS then ⟨rb, dxb, tb, eb, 0, 0⟩ else ⟨rc, dxc, tc, ec, 0, 0⟩, i := 0, x := x', y := "", es := [], k := 0, hs := [], us := [], D := fun _ _ => False } 0 :=
      { dr := ⟨F0n.same, hdl, hS, F8.keep _ _ (F38.keep _ _ (fA.keep _ _ hdl1 (by simp)) (by simp)) (nr 15 rfl (by decide))⟩,
        rd := F8.keep _ _ (F38.keep _ _ (fA.keep _ _ h1 (by simp)) (by simp)) (nr 14 rfl (by decide)),
        jo := (J3.keep F38 (by simp) (by simp) (by simp)).keep F8 (nr 13 rfl (by decide)) (nr 12 rfl (by decide)) (nr 11 rfl (by decide)),
        po := (P5.keep F58 (by simp) (by simp)).keep F8 (nr 10 rfl (by decide)) (nr 9 rfl (by decide)),
        lh := hlh2,
        rs := by
          show Hn rs = some (.dK (rsK ((fun r => if r = bobS then (⟨rb, dxb, tb, eb, 0, 0⟩ : RD) else ⟨rc, dxc, tc, ec, 0, 0⟩) bobS).r ((fun r => if r = bobS then (⟨rb, dxb, tb, eb, 0, 0⟩ : RD) else ⟨rc, dxc, tc, ec, 0, 0⟩) coraS).r))
          rw [e1, e2]
          exact hrs2,
        re := fun r hrec => by
          rcases hrec with rfl | rfl
          · show RAt A.cR Hn ((fun r => if r = bobS then (⟨rb, dxb, tb, eb, 0, 0⟩ : RD) else ⟨rc, dxc, tc, ec, 0, 0⟩) bobS).r ((fun r => if r = bobS then (⟨rb, dxb, tb, eb, 0, 0⟩ : RD) else ⟨rc, dxc, tc, ec, 0, 0⟩) bobS).dx ((fun r => if r = bobS then (⟨rb, dxb, tb, eb, 0, 0⟩ : RD) else ⟨rc, dxc, tc, ec, 0, 0⟩) bobS).tl ((fun r => if r = bobS then (⟨rb, dxb, tb, eb, 0, 0⟩ : RD) else ⟨rc, dxc, tc, ec, 0, 0⟩) bobS).ed [] ((fun r => if r = bobS then (⟨rb, dxb, tb, eb, 0, 0⟩ : RD) else ⟨rc, dxc, tc, ec, 0, 0⟩) bobS).m ((fun r => if r = bobS then (⟨rb, dxb, tb, eb, 0, 0⟩ : RD) else ⟨rc, dxc, tc, ec, 0, 0⟩) bobS).c (fun _ => False)
            rw [e1]
            exact (R6.keep fc (by simp) (by simp) (by simp)).keep F8 (nr 7 rfl (by decide)) (nr 6 rfl (by decide)) (nr 5 rfl (by decide))
          · show RAt A.cR Hn ((fun r => if r = bobS then (⟨rb, dxb, tb, eb, 0, 0⟩ : RD) else ⟨rc, dxc, tc, ec, 0, 0⟩) coraS).r ((fun r => if r = bobS then (⟨rb, dxb, tb, eb, 0, 0⟩ : RD) else ⟨rc, dxc, tc, ec, 0, 0⟩) coraS).dx ((fun r => if r = bobS then (⟨rb, dxb, tb, eb, 0, 0⟩ : RD) else ⟨rc, dxc, tc, ec, 0, 0⟩) coraS).tl ((fun r => if r = bobS then (⟨rb, dxb, tb, eb, 0, 0⟩ : RD) else ⟨rc, dxc, tc, ec, 0, 0⟩) coraS).ed [] ((fun r => if r = bobS then (⟨rb, dxb, tb, eb, 0, 0⟩ : RD) else ⟨rc, dxc, tc, ec, 0, 0⟩) coraS).m ((fun r => if r = bobS then (⟨rb, dxb, tb, eb, 0, 0⟩ : RD) else ⟨rc, dxc, tc, ec, 0, 0⟩) coraS).c (fun _ => False)
            rw [e2]
            exact R8.keep F8 (nr 4 rfl (by decide)) (nr 3 rfl (by decide)) (nr 2 rfl (by decide)),
        un := ⟨[], hul2, .nil⟩,
        uo := fun u hu => absurd hu (by simp),
        ho := fun x hx => absurd hx (by simp),
        nd := by
          show [ul, p, l, jr, q, hd, lh, dl, rs, rd, ((fun r => if r = bobS then (⟨rb, dxb, tb, eb, 0, 0⟩ : RD) else ⟨rc, dxc, tc, ec, 0, 0⟩) bobS).r, ((fun r => if r = bobS then (⟨rb, dxb, tb, eb, 0, 0⟩ : RD) else ⟨rc, dxc, tc, ec, 0, 0⟩) coraS).r, ((fun r => if r = bobS then (⟨rb, dxb, tb, eb, 0, 0⟩ : RD) else ⟨rc, dxc, tc, ec, 0, 0⟩) bobS).tl, ((fun r => if r = bobS then (⟨rb, dxb, tb, eb, 0, 0⟩ : RD) else ⟨rc, dxc, tc, ec, 0, 0⟩) coraS).tl, ((fun r => if r = bobS then (⟨rb, dxb, tb, eb, 0, 0⟩ : RD) else ⟨rc, dxc, tc, ec, 0, 0⟩) bobS).ed, ((fun r => if r = bobS then (⟨rb, dxb, tb, eb, 0, 0⟩ : RD) else ⟨rc, dxc, tc, ec, 0, 0⟩) coraS).ed].Nodup
          rw [e1, e2]
          exact nodup_pick n10 [1, 13, 12, 11, 10, 9, 0, 15, 8, 14, 7, 4, 6, 3, 5, 2] (by decide) rfl,
        nw := fun b hb => by
          have hb' : b ∈ [ul, p, l, jr, q, hd, lh, dl, rs, rd, ((fun r => if r = bobS then (⟨rb, dxb, tb, eb, 0, 0⟩ : RD) else ⟨rc, dxc, tc, ec, 0, 0⟩) bobS).r, ((fun r => if r = bobS then (⟨rb, dxb, tb, eb, 0, 0⟩ : RD) else ⟨rc, dxc, tc, ec, 0, 0⟩) coraS).r, ((fun r => if r = bobS then (⟨rb, dxb, tb, eb, 0, 0⟩ : RD) else ⟨rc, dxc, tc, ec, 0, 0⟩) bobS).tl, ((fun r => if r = bobS then (⟨rb, dxb, tb, eb, 0, 0⟩ : RD) else ⟨rc, dxc, tc, ec, 0, 0⟩) coraS).tl, ((fun r => if r = bobS then (⟨rb, dxb, tb, eb, 0, 0⟩ : RD) else ⟨rc, dxc, tc, ec, 0, 0⟩) bobS).ed, ((fun r => if r = bobS then (⟨rb, dxb, tb, eb, 0, 0⟩ : RD) else ⟨rc, dxc, tc, ec, 0, 0⟩) coraS).ed] := hb
          rw [e1, e2] at hb'
          have F09 : Frm [] H (upd H8 rs (.dK (rsK rb rc))) := F08.trans g9 (fun b hb => .inr (by rw [List.mem_singleton.mp hb]; exact hrs0))
          simp only [List.mem_cons, List.not_mem_nil, or_false] at hb'
          rcases hb' with rfl | rfl | rfl | rfl | rfl | rfl | rfl | rfl | rfl | rfl | rfl | rfl | rfl | rfl | rfl | rfl
          · exact F09.free hul
          · exact F01.free hp
          · exact (F01.step g1).free hl
          · exact (F01.step g1).free hjr
          · exact F03.free hq
          · exact (F03.step g3).free hhd
          · exact (F09.step ga).free hlh
          · exact hdl
          · exact hrs0
          · exact f0.free hrd
          · exact (F05.step gr).free hrb
          · exact F6.free hrc
          · exact ((F05.step gr).step gb).free htb
          · exact (F6.step gc).free htc
          · exact ((F05.step gr).step gb).free heb
          · exact (F6.step gc).free hec,
        bE := Nat.le_refl _, bU := Nat.zero_le _, bH := Nat.le_refl _,
        bC := fun r hrec => by
          rcases hrec with rfl | rfl
          · show ((fun r => if r = bobS then (⟨rb, dxb, tb, eb, 0, 0⟩ : RD) else ⟨rc, dxc, tc, ec, 0, 0⟩) bobS).c ≤ 0
            rw [e1]
            exact Nat.le_refl _
          · show ((fun r => if r = bobS then (⟨rb, dxb, tb, eb, 0, 0⟩ : RD) else ⟨rc, dxc, tc, ec, 0, 0⟩) coraS).c ≤ 0
            rw [e2]
            exact Nat.le_refl _ }
    refine q4 _ _ _ (atE_mk I rfl) fun σ5 G5 p5 => ?_
    refine q5 _ _ _ p5 fun σ6 G6 p6 => ?_
    refine q6 _ _ _ p6 fun σ7 G7 p7 => ?_
    refine q7 _ _ _ p7 fun σ8 G8 p8 => ?_
    refine q8 _ _ _ p8 fun σ9 G9 p9 => ?_
    refine q9 _ _ _ p9 fun σ10 G10 _ => ?_
    exact k _
end
end K58
namespace K58
open PySem L2
/-! the head: the law's own walk, and what the top has written -/
theorem walk {l : PySem.W.OpenLaw} {q : Program} {loose : List Str} {XP : (Str → Option Value) → Heap → Prop} {YP : World → Heap → Prop} {d : DefRec} {K : Params → PySem.W.Frag} (hn : l.most = some 63) (hdf : d.params.defaults = [])
    (hY : ∀ (w : World) (h : Heap), YP w h → (K w.params).In h)
    (F : ∀ (w : World) (mg : Str → Option Value) (fa : Addr) (h : Heap), (K w.params).In h → h.Ns mainGlobals mg → mg d.name = some (.ref fa) →
      ∃ fd : FuncData, (∀ (s : Shared) (u : Value), BindsTo s fd ⟨[u], []⟩ [("_law_script", u)]) ∧ ∀ base : Heap, (K w.params).In base → base.Ns mainGlobals mg → FnOk l.prog w (K w.params) mg base CX0 8 fa fd ["_law_script"] (spLaw (K w.params))) :
    PySem.W.WalkO q loose XP YP l.row.toRowW d [] (fun f vs => PySem.call f vs) :=
  L2.walk_of (n := 63) (k := 8) (x := "_law_script") (CX := fun _ => CX0) (sp := fun w => spLaw (K w.params)) hn (by decide) hdf ⟨rfl, by decide, by decide⟩ hY F (fun _ _ a ns hl _ hS => ⟨a, ns, rfl, hS, hl, fun _ => rfl⟩) fun _ _ _ _ _ z => z
end K58
open PySem PySem.W PyProof.Rows
set_option maxRecDepth 100000 in
set_option maxHeartbeats 0 in
theorem PySem.Challenge.cw_twicedated_k58_whole_letters_holds : PySem.Challenge.rw_twicedated_k58_whole_letters.Holds := by
  w_on; o_law; k_head; (case hw => w_witness2)
  k_fill
  refine K58.walk (l := PySem.Challenge.rw_twicedated_k58_whole_letters) rfl rfl (fun w h Y => PySem.W.kIn_of Y) ?F
  case F =>
    intro w mg fa h KX G hmg
    suffices z : ∃ (A : K58.Ads) (fd : FuncData), K58.Tx _ mg A ∧ L2.Fun _ "law" "law" K58.sLaw fa fd ∧ ∀ (s : Shared) (v : Value), BindsTo s fd ⟨[v], []⟩ [("_law_script", v)] by
      obtain ⟨A, fd, T, F, hb⟩ := z
      exact ⟨fd, hb, fun base _ _ => K58.ok_law rfl T F⟩
    refine' K58.all_mk KX G hmg ?aB ?bq ?bover ?bsa ?bnoE ?bhd ?bexC ?bexE ?btyC ?bkC ?bga ?bgg ?biC ?btI ?bsup ?bmro ?bopq ?bnsup ?biB ?bsB ?blk ?bcd ?blkc ?bvs ?bfile ?blcc ?aWhole ?lWhole ?cWhole ?kWhole ?aName ?lName ?cName ?kName ?aChk ?lChk ?cChk ?kChk ?aNof ?lNof ?cNof ?kNof ?aIsE ?lIsE ?cIsE ?kIsE ?aLin ?lLin ?cLin ?kLin ?aEby ?lEby ?cEby ?kEby ?aEin ?lEin ?cEin ?kEin ?aNum ?lNum ?cNum ?kNum ?aTak ?lTak ?cTak ?kTak ?aPik ?lPik ?cPik ?kPik ?aRel ?lRel ?cRel ?kRel ?aRit ?lRit ?cRit ?kRit ?aLaw ?lLaw ?cLaw ?kLaw ?aP ?pgP ?hdP ?poP ?saP ?mkP ?kcP ?nPjournal ?nPheard ?aR ?pgR ?hdR ?poR ?saR ?mkR ?kcR ?nRtaken ?nRearly ?aJ ?pgJ ?hdJ ?poJ ?saJ ?mkJ ?kcJ ?nJrelations ?nJentries ?nJtext ?nJloose ?nJsettled ?aPI ?iPI ?lPI ?cPI ?kPI ?aPW ?iPW ?lPW ?cPW ?kPW ?aPH ?iPH ?lPH ?cPH ?kPH ?aRI ?iRI ?lRI ?cRI ?kRI ?aRG ?iRG ?lRG ?cRG ?kRG ?aJI ?iJI ?lJI ?cJI ?kJI ?aJW ?iJW ?lJW ?cJW ?kJW ?aJS ?iJS ?lJS ?cJS ?kJS ?aJF ?iJF ?lJF ?cJF ?kJF ?aJL ?iJL ?lJL ?cJL ?kJL ?z_isinstance ?z_int ?z_bool ?z_str ?z_tuple ?z_len ?z_all ?z_any ?z_dict ?z_max ?z_enumerate ?z_sorted ?z_range ?z_abs ?zLET ?zFIG ?zMN ?zMW ?zKI ?lKI
    (case aB => k_is); (case bq => kx_is); (case bover => kx_is); (case bsa => k_is); (case bnoE => k_is); (case bhd => k_is)
    (case bexC => k_is); (case bexE => k_is); (case btyC => k_is); (case bkC => k_is); (case bga => k_is); (case bgg => k_is)
    (case biC => k_is); (case btI => k_is); (case bsup => ks_is); (case bmro => k_is); (case bopq => k_is); (case bnsup => k_is)
    (case biB => k_is); (case bsB => first | rfl | k_is); (case blk => k_is); (case bcd => k_is); (case blkc => k_is); (case bvs => exact rfl)
    (case bfile => decide +kernel); (case blcc => k_is); (case aWhole => k_is); (case lWhole => k_is); (case cWhole => k_is); (case kWhole => k_is)
    (case aName => k_is); (case lName => k_is); (case cName => k_is); (case kName => k_is); (case aChk => k_is); (case lChk => k_is)
    (case cChk => k_is); (case kChk => k_is); (case aNof => k_is); (case lNof => k_is); (case cNof => k_is); (case kNof => k_is)
    (case aIsE => k_is); (case lIsE => k_is); (case cIsE => k_is); (case kIsE => k_is); (case aLin => k_is); (case lLin => k_is)
    (case cLin => k_is); (case kLin => k_is); (case aEby => k_is); (case lEby => k_is); (case cEby => k_is); (case kEby => k_is)
    (case aEin => k_is); (case lEin => k_is); (case cEin => k_is); (case kEin => k_is); (case aNum => k_is); (case lNum => k_is)
    (case cNum => k_is); (case kNum => k_is); (case aTak => k_is); (case lTak => k_is); (case cTak => k_is); (case kTak => k_is)
    (case aPik => k_is); (case lPik => k_is); (case cPik => k_is); (case kPik => k_is); (case aRel => k_is); (case lRel => k_is)
    (case cRel => k_is); (case kRel => k_is); (case aRit => k_is); (case lRit => k_is); (case cRit => k_is); (case kRit => k_is)
    (case aLaw => k_is); (case lLaw => k_is); (case cLaw => k_is); (case kLaw => k_is); (case aP => k_is); (case pgP => k_is)
    (case hdP => k_is); (case poP => k_is); (case saP => k_is); (case mkP => k_is); (case kcP => k_is); (case nPjournal => k_is)
    (case nPheard => k_is); (case aR => k_is); (case pgR => k_is); (case hdR => k_is); (case poR => k_is); (case saR => k_is)
    (case mkR => k_is); (case kcR => k_is); (case nRtaken => k_is); (case nRearly => k_is); (case aJ => k_is); (case pgJ => k_is)
    (case hdJ => k_is); (case poJ => k_is); (case saJ => k_is); (case mkJ => k_is); (case kcJ => k_is); (case nJrelations => k_is)
    (case nJentries => k_is); (case nJtext => k_is); (case nJloose => k_is); (case nJsettled => k_is); (case aPI => k_is); (case iPI => k_is)
    (case lPI => k_is); (case cPI => k_is); (case kPI => k_is); (case aPW => k_is); (case iPW => k_is); (case lPW => k_is)
    (case cPW => k_is); (case kPW => k_is); (case aPH => k_is); (case iPH => k_is); (case lPH => k_is); (case cPH => k_is)
    (case kPH => k_is); (case aRI => k_is); (case iRI => k_is); (case lRI => k_is); (case cRI => k_is); (case kRI => k_is)
    (case aRG => k_is); (case iRG => k_is); (case lRG => k_is); (case cRG => k_is); (case kRG => k_is); (case aJI => k_is)
    (case iJI => k_is); (case lJI => k_is); (case cJI => k_is); (case kJI => k_is); (case aJW => k_is); (case iJW => k_is)
    (case lJW => k_is); (case cJW => k_is); (case kJW => k_is); (case aJS => k_is); (case iJS => k_is); (case lJS => k_is)
    (case cJS => k_is); (case kJS => k_is); (case aJF => k_is); (case iJF => k_is); (case lJF => k_is); (case cJF => k_is)
    (case kJF => k_is); (case aJL => k_is); (case iJL => k_is); (case lJL => k_is); (case cJL => k_is); (case kJL => k_is)
    (case z_isinstance => k_is); (case z_int => k_is); (case z_bool => k_is); (case z_str => k_is); (case z_tuple => k_is); (case z_len => k_is)
    (case z_all => k_is); (case z_any => k_is); (case z_dict => k_is); (case z_max => k_is); (case z_enumerate => k_is); (case z_sorted => k_is)
    (case z_range => k_is); (case z_abs => k_is); (case zLET => k_is); (case zFIG => k_is); (case zMN => k_is); (case zMW => k_is)
    (case zKI => k_is); (case lKI => k_is)
#print axioms PySem.Challenge.cw_twicedated_k58_whole_letters_holds
