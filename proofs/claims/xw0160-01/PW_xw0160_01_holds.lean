import PyProof.Rows.All
import Wide.All
import OpenK.AllK
import Wide.FinOn
import Lean
import PySem.Challenge.RW_xw0160_01
open PySem PySem.W PySem.Calls PyProof.Rows
set_option Elab.async false
set_option maxRecDepth 100000
set_option linter.all false
set_option genSizeOf false
namespace Mine
-- from 00_top.lean
section
local macro_rules | `(tactic| o_head $_) => `(tactic| assumption)
theorem kk (h : PySem.Challenge.rw_xw0160_01.row.Holds) : PySem.Challenge.rw_xw0160_01.row.Holds := by k_head
end
noncomputable abbrev LT : List Str := [Str.ofString "LendError", Str.ofString "read_spath", Str.ofString "Words", Str.ofString "PATH_WORDS", Str.ofString "KEYWORDS", Str.ofString "read_type", Str.ofString "read_shallow_type", Str.ofString "read_paren_type", Str.ofString "read_ref_type", Str.ofString "read_array_type", Str.ofString "read_length", Str.ofString "read_segment", Str.ofString "read_path_name", Str.ofString "read_arguments", Str.ofString "is_closed", Str.ofString "_law_pool", Str.ofString "_law_take", Str.ofString "_law_one", Str.ofString "_law_put", Str.ofString "_law_sign", Str.ofString "_law_name", Str.ofString "_law_told_words", Str.ofString "_law_words", Str.ofString "_law_close", Str.ofString "_law_type", Str.ofString "_law_paren", Str.ofString "_law_ref", Str.ofString "_law_path", Str.ofString "_law_heard", Str.ofString "_law_types_told", Str.ofString "_law_paths_told", Str.ofString "law", Str.ofString "MOST_LENGTH", Str.ofString "MOST_DEEP", Str.ofString "GrammarFault"]

-- from 00b_calls.lean
theorem letQ {α : Type} {M : Model} {A : Around} {c : Sem α} {Q : α → Shared → Prop} {E : Value → Shared → Prop} {s : Shared} (h : let q := Q; wpAny M A c q E s) : wpAny M A c Q E s := h
section
variable {M : Model} {A : Around} {E : Value → Shared → Prop} {s : Shared} {h₀ : Heap} {L a : Addr} {m : Str → Option Value} {cn : Str} {cs : Scope} {ccd : Value} {cl : List (Str × Addr)}
end
section
variable {w : World} {A : Around} {E : Value → Shared → Prop} {s : Shared} {prog p : Program} {loose : List Str} {mg mb : Str → Option Value} {K : Frag} {h₀ : Heap} {L a : Addr} {m : Str → Option Value} {cn : Str} {cs : Scope} {ccd : Value} {cl : List (Str × Addr)}
end
section
variable {x y : Nat} {P1 P2 P3 P4 P5 P6 P7 P8 P9 P10 P11 P12 R : Prop}
theorem ltp2 (h : P1 ∧ x < y ∧ R) : x < y := h.2.1
end
section
variable {x : Addr} {n : List (Addr × Obj)} {P1 P2 P3 P4 P5 P6 P7 P8 P9 P10 P11 P12 P13 P14 P15 P16 P17 : Prop}
theorem ltq3 (h : P1 ∧ P2 ∧ P3 ∧ AllLt x n) : AllLt x n := h.2.2.2
end
section
variable {α : Type} {r d a b c e f g h i j : List α}
end
-- from 01_take.lean
noncomputable abbrev Led := List (Addr × Obj)

noncomputable def Con (w : World) (mean : ExcName → Option Value) (mg mb : Str → Option Value) (sz : Nat) (f : Addr) (vs : List Value) (news : Led) (Post : Value → Led → Prop) : Prop :=
  ∀ (dp un : Nat) (gd : Option (List Code)) (cn : Str) (cs : Scope) (a : Addr) (ccd : Value) (cl : List (Str × Addr)) (outer : List Env) (A₀ : Around) (base h₀ : Heap) (L : Addr) (m : Str → Option Value) (s : Shared)
    (Q E : Value → Shared → Prop),
    Below A₀ base outer h₀ → Fr h₀ L s.heap m → (kk.heap_1 w.params).In h₀ → News h₀ L s.heap news → Top topProg LT mean mg mb h₀ → cs.kind = .function → dp + sz < recursionLimit → un + 8 * sz < cLine →
    (∀ r news' h' tk', Fr h₀ L h' m → News h₀ L h' news' → Post r news' → Q r { s with heap := h', toks := tk' }) →
    wpAny (model PySem.Challenge.rw_xw0160_01.prog w) (ktrTop dp un gd cn cs L a ccd cl outer) (call (.ref f) vs) Q E s

theorem News.sub {h₀ h : Heap} {L : Addr} {n n' : Led} (N : News h₀ L h n) (k : ∀ p ∈ n', p ∈ n) : News h₀ L h n' := fun p hp => N p (k p hp)

theorem con_use {w : World} {mean : ExcName → Option Value} {mg mb : Str → Option Value} {sz : Nat} {f : Addr} {vs : List Value} {news news₀ : Led} {Post : Value → Led → Prop}
    {dp un : Nat} {gd : Option (List Code)} {cn : Str} {cs : Scope} {a : Addr} {ccd : Value} {cl : List (Str × Addr)} {outer : List Env} {A₀ : Around} {base h₀ : Heap} {L : Addr} {m : Str → Option Value} {s : Shared}
    {Q E : Value → Shared → Prop} (B : Below A₀ base outer h₀) (F : Fr h₀ L s.heap m) (X : (kk.heap_1 w.params).In h₀) (N : News h₀ L s.heap news₀) (T : Top topProg LT mean mg mb h₀) (hk : cs.kind = .function)
    (C : Con w mean mg mb sz f vs news Post) (sub : ∀ p ∈ news, p ∈ news₀) (hd : dp + sz < recursionLimit) (hu : un + 8 * sz < cLine)
    (ret : ∀ r news' h' tk', Fr h₀ L h' m → News h₀ L h' news' → Post r news' → Q r { s with heap := h', toks := tk' }) :
    wpAny (model PySem.Challenge.rw_xw0160_01.prog w) (ktrTop dp un gd cn cs L a ccd cl outer) (call (.ref f) vs) Q E s :=
  C _ _ _ _ _ _ _ _ _ _ _ _ _ _ _ _ _ B F X (News.sub N sub) T hk hd hu ret

theorem fmod_ok {x k : Int} (hk : 1 < k) : 0 ≤ Int.fmod x k ∧ Int.fmod x k < k := ⟨Int.fmod_nonneg_of_pos _ (by omega), Int.fmod_lt_of_pos _ (by omega)⟩

-- from 02_one.lean
section
variable {prog : Program} {w : World} {A : Around} {E : Value → Shared → Prop} {s : Shared} {h₀ : Heap} {L D : Addr} {news : Led} {vs : List Value} {n : Nat} {k : Int} {u : Tok}
theorem my_len {Q : Value → Shared → Prop} (N : News h₀ L s.heap news) (hm : (D, listOf vs.toArray n) ∈ news) (hf : vs.length < 1000000) (h : Q (.int (vs.length : Int) (s.toks + 1)) { s with toks := s.toks + 1 + 1 }) :
    wpAny (model prog w) A (call (.builtin "len") [.ref D]) Q E s := len_list (News.isList N hm) (by rw [List.size_toArray]; omega) (by rw [List.size_toArray]; exact h)
end

-- from 03_put.lean
structure Wd where
  kind : Str
  text : Str
  spot : Int
  val : Option Int
  told : Option Str
noncomputable def refs (rl : Led) : List Value := rl.map fun p => Value.ref p.1
noncomputable def wok (w : Wd) : Prop := PyData.strOk w.kind = true ∧ PyData.strOk w.text = true
section
variable {prog : Program} {w : World} {A : Around} {E : Value → Shared → Prop} {s : Shared} {h₀ : Heap} {L D x : Addr} {news : Led} {vs : List Value} {n k : Nat} {u : Tok}
end

theorem snoc_cases {α : Type} (l : List α) : l = [] ∨ ∃ i p, l = i ++ [p] := by
  rcases List.eq_nil_or_concat l with h | ⟨i, p, h⟩
  · exact .inl h
  · exact .inr ⟨i, p, by rw [h, List.concat_eq_append]⟩
theorem refs_snoc {rl : Led} {p : Addr × Obj} : refs (rl ++ [p]) = refs rl ++ [Value.ref p.1] := by simp [refs]
section
variable {prog : Program} {w : World} {A : Around} {E : Value → Shared → Prop} {s : Shared} {h₀ : Heap} {L D x : Addr} {m : Str → Option Value} {news news' : Led} {vs : List Value} {v : Value} {n k : Nat} {u : Tok}
theorem my_last {value slice : PySem.Expr} {Q : Value → Shared → Prop} (N : News h₀ L s.heap news) (hm : (D, listOf (vs ++ [v]).toArray n) ∈ news) (hl : vs.length < 1000000) (h : Q v s)
    (hs : subscripted slice false (.ref D) (.int (-1) u) = operate [.ref D, .int (-1) u] (getItem (.ref D) (.int (-1) u)) := by with_unfolding_all rfl) :
    wpAny (model prog w) A (subscriptTail value slice (.ref D) (.int (-1) u)) Q E s :=
  kde_neg (k := -1) (j := vs.length) (News.isList N hm) (by decide) (by decide) (by
    have e : (-1 : Int) + ((vs ++ [v]).length : Int) = (vs.length : Int) := by simp; omega
    unfold seqIndex?
    simp only [show ((-1 : Int) < 0) = True from by simp, if_true, e]
    simp; omega) (by simp) h hs
theorem my_append {Q : Value → Shared → Prop} (F : Fr h₀ L s.heap m) (N : News h₀ L s.heap news) (U : Upd D (listOf vs.toArray n) (listOf (vs ++ [v]).toArray (n + 1)) news news') (hl : vs.length < 1000000)
    (h : ∀ h', Fr h₀ L h' m → News h₀ L h' news' → Q .none { s with heap := h' }) : wpAny (model prog w) A (call (.builtin "list.append") [.ref D, v]) Q E s := by
  refine append_K F N (its := vs.toArray) (by simpa using U) h ?_
  rw [List.size_toArray, sizeLine_eq]; omega
end
-- from 05_gen.lean
noncomputable abbrev sgn (x : Str) (sp : Int) : Wd := ⟨Str.ofString "sign", x, sp, none, none⟩
noncomputable abbrev nam (x : Str) (sp : Int) : Wd := ⟨Str.ofString "name", x, sp, none, none⟩
-- from 06_close.lean
theorem my_setrow {prog : Program} {w : World} {A : Around} {E : Value → Shared → Prop} {s : Shared} {h₀ : Heap} {L q : Addr} {m : Str → Option Value} {n n' : Led} {vs : List Value} {k : Nat} {j : Int} {t : Tok} {v : Value} {Q : Unit → Shared → Prop}
    (F : Fr h₀ L s.heap m) (N : News h₀ L s.heap n) (hm : (q, listOf vs.toArray k) ∈ n) (h0 : 0 ≤ j) (h1 : j < vs.length) (h2 : j < 2 ^ 63) (hn : ∀ p ∈ n', p ∈ n ∧ p.1 ≠ q)
    (h : ∀ h', Fr h₀ L h' m → News h₀ L h' ((q, listOf (vs.set j.toNat v).toArray k) :: n') → Q () { s with heap := h' }) : wpAny (model prog w) A (setItem (.ref q) (.int j t) v) Q E s := by
  have z := N _ hm
  refine ki_setAt z.1 h0 h2 (by rw [List.size_toArray]; omega) (h _ (F.change (Heap.SameBut.update ..) z.2.1 z.2.2) ?_)
  have N2 : News h₀ L s.heap ([] ++ (q, listOf vs.toArray k) :: n') := by
    intro p hp
    rcases List.mem_cons.mp hp with rfl | hp
    · exact z
    · exact N p (hn p hp).1
  refine ki_turn (fun a => a.setIfInBounds j.toNat v) N2 (List.forall_mem_nil _) (fun p hp => (hn p hp).2) ?_ ?_
  · apply Array.toList_inj.mp; simp
  · simp
-- from 07_plain.lean
noncomputable def dOk : Nat → Dat → Bool
  | _, .none => true
  | _, .bool _ => true
  | _, .int _ => true
  | _, .str x => PyData.strOk x
  | n + 1, .tuple ds => ds.all (dOk n)
  | _, _ => false
theorem dOk_mono : ∀ (n m : Nat) (d : Dat), n ≤ m → dOk n d = true → dOk m d = true := by
  intro n
  induction n with
  | zero => intro m d h k; cases d <;> simp_all [dOk]
  | succ n ih =>
    intro m d h k
    cases d with
    | tuple ds =>
      cases m with
      | zero => omega
      | succ m =>
        simp only [dOk, List.all_eq_true] at k ⊢
        exact fun x hx => ih m x (by omega) (k x hx)
    | _ => simp_all [dOk]

-- from 09_paren.lean
theorem ltAll {x : Addr} {n : Led} (h : AllLt x n) : ∀ p ∈ n, p.1 ≠ x := fun p hp => Nat.ne_of_lt (tb_ltOf h p hp)
section
variable {h₀ h' : Heap} {L S B D D2 : Addr} {n rl rk add tl dt dat : Led} {o bk : Obj} {ws' : List Wd} {r : Value} {R : Value → Obj → Led → Led → List Wd → Prop} {m : Str → Option Value} {s : Shared} {tk' : Nat} {Q : Value → Shared → Prop} {d : Dat} {t1 t2 : Tok} {sp : Int} {vs : List Value} {ds : List Dat}
end
-- from 12_type.lean
theorem my_str {prog : Program} {w : World} {A : Around} {E : Value → Shared → Prop} {s : Shared} {n : Int} {t : Tok} {Q : Value → Shared → Prop} (h0 : 0 ≤ n) (h1 : n ≤ 4096) (h : Q (.str (Str.ofString (toString n)) s.toks) { s with toks := s.toks + 1 }) : wpAny (model prog w) A (call (.type "str") [.int n t]) Q E s :=
  P.str_of_int (shown (N := 2 ^ 1920) (by omega) (by omega) (Int.le_refl _)) h
-- from 13_peek.lean
noncomputable abbrev esW (w : World) (R : Addr) (i d : Int) (t1 t2 t3 t4 t5 : Tok) : List DictEntry :=
  [⟨PyData.keyHash w.params (Str.ofString "rows"), .str (Str.ofString "rows") t1, .ref R⟩, ⟨PyData.keyHash w.params (Str.ofString "at"), .str (Str.ofString "at") t2, .int i t3⟩, ⟨PyData.keyHash w.params (Str.ofString "deep"), .str (Str.ofString "deep") t4, .int d t5⟩]
section
variable {w : World} {W D R : Addr} {od orr : Obj} {rt dat : Led} {n : Nat} {cur : List Wd} {deep : Int}
end
theorem seqIndex_pos {k : Int} {n : Nat} (h0 : 0 ≤ k) (h1 : k.toNat < n) : seqIndex? k n = some k.toNat := by
  unfold seqIndex?
  simp only [if_neg (show ¬ k < 0 by omega)]
  have e : (decide (0 ≤ k) && decide (k < (n : Int))) = true := by simp only [Bool.and_eq_true, decide_eq_true_eq]; omega
  rw [if_pos e]
-- from 14_words.lean
theorem put_at {w : World} {R : Addr} {h i d : Int} {k v : Value} {t1 t2 t3 t4 t5 : Tok} {n : Nat} : (putL (Str.ofString "at") h k v (esW w R i d t1 t2 t3 t4 t5), putN (Str.ofString "at") (esW w R i d t1 t2 t3 t4 t5) n) =
    ([⟨PyData.keyHash w.params (Str.ofString "rows"), .str (Str.ofString "rows") t1, .ref R⟩, ⟨PyData.keyHash w.params (Str.ofString "at"), .str (Str.ofString "at") t2, v⟩, ⟨PyData.keyHash w.params (Str.ofString "deep"), .str (Str.ofString "deep") t4, .int d t5⟩], n) := by rfl
theorem put_deep {w : World} {R : Addr} {h i d : Int} {k v : Value} {t1 t2 t3 t4 t5 : Tok} {n : Nat} : (putL (Str.ofString "deep") h k v (esW w R i d t1 t2 t3 t4 t5), putN (Str.ofString "deep") (esW w R i d t1 t2 t3 t4 t5) n) =
    ([⟨PyData.keyHash w.params (Str.ofString "rows"), .str (Str.ofString "rows") t1, .ref R⟩, ⟨PyData.keyHash w.params (Str.ofString "at"), .str (Str.ofString "at") t2, .int i t3⟩, ⟨PyData.keyHash w.params (Str.ofString "deep"), .str (Str.ofString "deep") t4, v⟩], n) := by rfl
-- from 15_meth.lean
theorem strs_eqAt {A : Around} {s : Shared} {k : Str} {t : Tok} {vs : List Value} {ys : List Str} (hi : StrsAre vs ys) : ∀ y ∈ vs, PySem.SeqAt.EqAt A s y (.str k t) (isStrOf k y) := by
  induction hi with
  | nil => intro y hy; cases hy
  | cons x u _ ih =>
    intro y hy
    rcases List.mem_cons.mp hy with rfl | hy
    · exact PySem.SeqAt.EqAt.str_str x u k t
    · exact ih y hy
-- from 26_words.lean
theorem comp_ind {prog : Program} {w : World} {A : Around} {h₀ : Heap} {L : Addr} {m : Str → Option Value} {env : Env} {elt : Expr} {x : Str} {scope : Scope} {cl : List (Str × Addr)} {s : Shared} {S : Led → Prop} {P : Nat → Value → Prop} {Fin : List Value → Led → Prop} {n : Nat} {news : Led}
    (I : Nat → List Value → Led → Prop) (h0 : I 0 [] news)
    (step : ∀ i ys nw, i < n → I i ys nw → ∀ v K oK C oC D m₂ h tk (E' : Value → Shared → Prop), P i v → LCg.NsObj oC m₂ → m₂ x = some v → Fr h₀ L h m → News h₀ L h ((K, oK) :: (C, oC) :: (D, LCg.lst ys) :: nw) → LCg.Off3 K C D nw → ((@Ne Nat K C) ∧ (@Ne Nat K D) ∧ (@Ne Nat C D)) →
      wpAny (model prog w) A (eval elt (compEnvC scope cl C env)) (LCg.CompEnd h₀ L m { s with heap := h, toks := tk } K oK C oC D (LCg.lst ys) S (fun y news' => I (i + 1) (ys ++ [y]) news')) E' { s with heap := h, toks := tk })
    (fin : ∀ ys nw, I n ys nw → Fin ys nw) : LCg.CompRest prog w A h₀ L m env elt x scope cl s S P Fin n 0 [] news := by
  have key : ∀ k i ys nw, i + k = n → I i ys nw → LCg.CompRest prog w A h₀ L m env elt x scope cl s S P Fin k i ys nw := by
    intro k
    induction k with
    | zero =>
      intro i ys nw e hI
      obtain rfl : i = n := (by omega)
      exact LCg.CompRest.zero (fin _ _ hI)
    | succ k ih =>
      intro i ys nw e hI
      refine LCg.CompRest.succ ?_
      intro v K oK C oC D m₂ h tk E' hv hC hx F N off ne
      refine wpAny_mono (step i ys nw (by omega) hI v K oK C oC D m₂ h tk E' hv hC hx F N off ne) (fun y s' hce => ?_) fun _ _ e => e
      obtain ⟨h', tk', news', e', F', N', off', hS, r⟩ := hce
      exact ⟨h', tk', news', e', F', N', off', hS, ih (i + 1) _ _ (by omega) r⟩
  exact key n 0 [] news (by omega) h0
-- from 28_fault.lean
section
open PySem.Spec Sem
variable {prog : Program} {w : World} {A : Around} {E : Value → Shared → Prop} {h : Heap} {g : Array GenState} {d : Drawn} {t : Nat} {os : OsState}
variable {nm q : Str} {C N : Addr} {bs bm bmB : List Value} {hdct : Bool} {sn : List Str} {sub : List Value} {ab : Bool} {col : Option Bool} {dd : Option Addr} {k0 k1 k2 k3 k5 : Option Value} {B newId initId : String}
theorem ex_check {M : Model} (F : ExcBaseFacts B newId initId bmB) (hB : bm.contains (.type B) = true) {rest : List Value} {Q : Unit → Shared → Prop} (hC : h.get? C = some (excClassObj nm q C N bs bm hdct sn sub ab col dd k0 k1 k2 k3 k5 newId))
    (hq : Q () ⟨h, g, d, t, os⟩) : wpAny M A (checkBuiltinCall newId ⟨.ref C :: rest, []⟩) Q E ⟨h, g, d, t, os⟩ := by
  have hin : (Value.ref C :: bm).contains (.type B) = true := by rw [List.contains_cons, hB, Bool.or_true]
  have hstar := F.noStar
  simp only [checkBuiltinCall, F.newKind, F.newSplit, F.newRow]
  repeat (first | refine wpAny_loadPart_at hC ?_ | (refine wpAny_isSubtype_exc hC ?_; rw [hin]) | refine wpAny_staticBase_exc hC ?_ | refine wpAny_madeBy_exc hC ?_ | simp only [bne_self_eq_false, Bool.false_eq_true, if_false] | wp_step)
  exact hq
theorem ex_new {R : Result → Shared → Prop} (F : ExcBaseFacts B newId initId bmB) (hB : bm.contains (.type B) = true) (hA : bm.contains (.type "AttributeError") = false) (hN : bm.contains (.type "NameError") = false) {rest : List Value} (hC : h.get? C = some (excClassObj nm q C N bs bm hdct sn sub ab col dd k0 k1 k2 k3 k5 newId))
    (hq : R (.ok (.ret (.ref (h.objs.size + 1)))) ⟨(h.push { cls := .type "tuple", data := .seq rest.toArray }).push
      { cls := .ref C, data := .fields #[.ref h.objs.size, .none, .none, .none, .bool false, .none] }, g, d, t, os⟩) (hrest : rest.length ≤ sizeLine) :
    codeAny (model prog w) A (.builtin newId ⟨.ref C :: rest, []⟩) R ⟨h, g, d, t, os⟩ := by
  have hends := F.ends
  have h1 : (Value.ref C :: bm).contains (.type B) = true := by rw [List.contains_cons, hB, Bool.or_true]
  have h2 : (Value.ref C :: bm).contains (.type "AttributeError") = false := by rw [List.contains_cons, hA]; rfl
  have h3 : (Value.ref C :: bm).contains (.type "NameError") = false := by rw [List.contains_cons, hN]; rfl
  refine codeAny_builtinAt F.entry ?_
  unfold Builtin.«BaseException.__new__»
  refine PySem.wpAt_bind ?_
  show PySem.wpAt _ _ _ (stack >>= _) _ _ _
  refine PySem.wpAt_bind (PySem.wpAt_stack fun p below => PySem.wpAt_of_wpAny ?_)
  wp_walk
  refine PySem.wpAt_of_wpAny ?_
  rw [F.owner]
  repeat (first | with_reducible refine wpAny_madeHere_exc F.canon hC ?_ | with_reducible refine wpAny_loadPart_at hC ?_ | (with_reducible refine wpAny_isSubtype_exc hC ?_; first | rw [h1] | rw [h2] | rw [h3]) | wp_step)
  show R _ _
  rw [Heap.size_push]
  exact hq
noncomputable abbrev excO (C t : Addr) (dict : Option Addr) : Obj := { cls := .ref C, dict := dict, data := .fields #[.ref t, .none, .none, .none, .bool false, .none] }
theorem ex_call {K : Frag} (F : ExcBaseFacts B newId initId bmB) (hB : bm.contains (.type B) = true) (hA : bm.contains (.type "AttributeError") = false) (hN : bm.contains (.type "NameError") = false) {rest : List Value} {fI : Addr} {Q : Value → Shared → Prop}
    (X : K.In h) (hC : K.lookup C = some (excClassObj nm q C N bs bm hdct sn sub ab col dd k0 k1 k2 k3 k5 newId)) (hi : findIn K (.ref C) "__init__" = some (some (.ref fI))) (hf : typeIn K (.ref fI) = some (.type "function")) (hrest : rest.length ≤ sizeLine)
    (hq : ∀ h' e t0, (∀ b o, h.get? b = some o → h'.get? b = some o) → h.objs.size ≤ t0 → e = t0 + 1 → h'.get? t0 = some { cls := .type "tuple", data := .seq rest.toArray } → h'.get? e = some (excO C t0 none) → h'.objs.size = e + 1 →
      wpAny (model prog w) (A.under (.builtin "type.__call__" ⟨.ref C :: rest, []⟩)) (call (.ref fI) (.ref e :: rest)) (fun r s' => r = .none ∧ Q (.ref e) s') E ⟨h', g, d, t, os⟩) :
    wpAny (model prog w) A (call (.ref C) rest) Q E ⟨h, g, d, t, os⟩ := by
  have hCh := X _ _ hC
  have f1 := tc_lookup
  have f2 := tc_bind (.ref C)
  have hT : (⟨h, g, d, t, os⟩ : Shared).TypeIs (.ref C) "type" := ⟨_, hCh, rfl⟩
  refine wpAny_call (codeAny_of_tree ?_)
  show wpAny _ _ (callAny (.ref C) _) _ _ _
  repeat (any_goals (first | assumption | with_reducible refine wpAny_loadPart_at hCh ?_ | wp_step))
  refine ⟨rfl, ?_⟩
  refine codeAny_call_builtin_at (Code.quiet_builtin _ (by decide +kernel)) entry_typeCall (wpAny_check_type_call_sub hCh ?_)
  repeat (first | with_reducible refine wpAny_loadPart_at hCh ?_ | with_reducible refine wpAny_madeBy_exc hCh ?_ | wp_step)
  refine codeAny_call_builtin_code (Code.quiet_builtin _ F.quiet) (ex_check F hB hCh ?_)
  refine ex_new F hB hA hN hCh ?_ hrest
  show wpAny _ _ _ _ _ _
  have kp : ∀ b o, h.get? b = some o → ((h.push { cls := .type "tuple", data := .seq rest.toArray }).push { cls := .ref C, data := .fields #[.ref h.objs.size, .none, .none, .none, .bool false, .none] }).get? b = some o := fun b o e => Heap.get?_push_of_some _ (Heap.get?_push_of_some _ e)
  have X₁ := X.keeps kp
  have hC₁ := kp _ _ hCh
  have hget : ((h.push { cls := .type "tuple", data := .seq rest.toArray }).push
      { cls := .ref C, data := .fields #[.ref h.objs.size, .none, .none, .none, .bool false, .none] }).get? (h.objs.size + 1) = some
      { cls := .ref C, data := .fields #[.ref h.objs.size, .none, .none, .none, .bool false, .none] } := by heap_get
  have hcC : (Value.ref C :: bm).contains (.ref C) = true := by simp
  unfold isInstance
  repeat (first | with_reducible refine wpAny_loadPart_at hget ?_ | wp_step)
  dsimp only
  refine wpAny_isSubtype_exc hC₁ ?_
  rw [hcC]
  repeat wp_step
  show wpAny _ _ (typeLookup (.ref C) _) _ _ _
  refine (looks_findIn X₁ hi).here ?_
  refine wpAny_holding (wpAny_bind ((bind_fn X₁ _ hf).here ?_))
  refine wpAny_bind (wpAny_mono (hq _ (h.objs.size + 1) h.objs.size kp (Nat.le_refl _) rfl (Heap.get?_push_of_some _ (Heap.get?_push_at rfl rfl)) hget (by rw [Heap.size_push, Heap.size_push])) (fun r s' hr => ?_) fun _ _ x => x)
  obtain ⟨rfl, hQ⟩ := hr
  wp_walk
  exact hQ
theorem ex_init (F : ExcBaseFacts B newId initId bmB) (hB : bm.contains (.type B) = true) {rest : List Value} {e t0 : Addr} {dict : Option Addr} {Q : Value → Shared → Prop}
    (hC : h.get? C = some (excClassObj nm q C N bs bm hdct sn sub ab col dd k0 k1 k2 k3 k5 newId)) (he : h.get? e = some (excO C t0 dict)) (hrest : rest.length ≤ sizeLine)
    (hq : Q .none ⟨(h.push { cls := .type "tuple", data := .seq rest.toArray }).update e (Obj.mapFields (·.setIfInBounds 0 (.ref h.objs.size))), g, d, t, os⟩) :
    wpAny (model prog w) A (call (.builtin initId) (.ref e :: rest)) Q E ⟨h, g, d, t, os⟩ := by
  have h1 : (Value.ref C :: bm).contains (.type B) = true := by rw [List.contains_cons, hB, Bool.or_true]
  refine wpAny_call (codeAny_call_builtin F.init.plain F.initEntry ?_)
  · have hshort := F.noStar
    simp only [checkBuiltinCall, F.initKind, F.initSplit, F.initRow]
    repeat (first | (with_reducible refine wpAny_loadPart_at he ?_; (try dsimp only)) | with_reducible refine wpAny_loadPart_at hC ?_ | (with_reducible refine wpAny_isSubtype_exc hC ?_; rw [h1]) | wp_step)
    refine wpAny_onRaise ?_
    rw [show ∀ (a b : String) (n : Nat), Bind.check ⟨.positional, "*", B, .self, [⟨"args", .varPos, false⟩]⟩ a b n (List.map (fun x => x.fst) ({ pos := Value.ref e :: rest } : Args).kw) = pure () from fun a b n => check_star_args _ _ _ _ _ _]
    refine wpAny_pure ?_
    wp_walk
    exact hq
end
section
open PySem.Spec Builtin Builtin.ObjectAttr
variable {prog : Program} {w : World} {A : Around} {s : Shared} {K : Frag} {C C2 x : Addr} {R : Result → Shared → Prop}
theorem ex_osa {ox : Obj} {od : Option Obj} {name : Str} {tk : Tok} {v : Value} {cd : ClassData} (X : K.In s.heap) (I : PySem.W.InstAt s.heap x ox C od) (hc : clsIn K C = some cd) (hm : cd.mro = [.ref C, .ref C2, .type "Exception", .type "BaseException", .type "object"]) (ho : mroIn K C (.type "object") = some true) (ha : findIn K (.ref C) name = some none)
    (h : wpAny (model prog w) A.in1 (storeInOwnDict (.ref x) (.ref C) (.str name tk) name v false)
      (fun fin s' => match fin with | .done f => R (.ok f) s' | .again c' => c'.quiet = true ∧ codeAny (model prog w) A c' R s') (fun e s' => R (.error e) s') s) :
    codeAny (model prog w) A (.call (.builtin "object.__setattr__") ⟨[.ref x, .str name tk, v], []⟩) R s := by
  have SF := PySem.F.store_Exception
  have sb : Looks (model prog w) s.heap (isInstance (.ref x) (.type "object")) true := I.type.andThen (looks_mroIn X ho)
  refine codeAny_call_builtin PySem.F.store_object.slot.plain SF.entry (@check_slot (model prog w) _ _ s "object.__setattr__" "object" "__setattr__" (.ref x) [.str name tk, v] [] _ SF.kind SF.split sb (SF.args (.ref x) (.str name tk) v) ?_)
  have hmr : Looks (model prog w) s.heap (mroOf (.ref C)) cd.mro := (looks_clsIn X hc).andThen .now
  rw [osa_eq, refuse_eq]
  refine wpAny_bind (wpAny_bind (I.type.here (wpAny_bind (hmr.here ?_))))
  rw [hm, refuseLoop_ref, refuseLoop_ref, SF.passes]
  exact wpAny_pure (wpAny_bind (I.type.here (wpAny_bind ((looks_findIn X ha).here (wpAny_bind (wpAny_pure h))))))
theorem ex_set0 {E : Value → Shared → Prop} {t0 : Addr} {name : Str} {v : Value} {cd : ClassData} {Q : Unit → Shared → Prop} (X : K.In s.heap) (he : s.heap.get? x = some (excO C t0 none)) (hc : clsIn K C = some cd) (hm : cd.mro = [.ref C, .ref C2, .type "Exception", .type "BaseException", .type "object"]) (ho : mroIn K C (.type "object") = some true) (ha : findIn K (.ref C) name = some none)
    (hs : findIn K (.ref C) "__setattr__" = some (some (.builtin "object.__setattr__"))) (hd : cd.hasDict = true)
    (hq : ∀ h' tk u D, D = s.heap.objs.size → h'.objs.size = D + 1 → (∀ b o, b ≠ x → s.heap.get? b = some o → h'.get? b = some o) → h'.get? x = some (excO C t0 (some D)) → h'.get? D = some (dictOf [⟨PyData.keyHash w.params name, .str name u, v⟩] 1) → Q () { s with heap := h', toks := tk }) :
    wpAny (model prog w) A (setAttr (.ref x) name v) Q E s := by
  have I : PySem.W.InstAt s.heap x (excO C t0 none) C none := ⟨he, rfl, rfl, trivial⟩
  refine set_plain X I hs (ex_osa (s := { s with toks := s.toks + 1 }) X I hc hm ho ha ?_)
  refine wpAny_bind (wpAny_pure (wpAny_bind (wpAny_bind (wpAny_loadPart he (wpAny_bind (looks_clsIn X hc _ _ _ _ (fun _ _ e => e) ?_))))))
  rw [hd, if_neg (by decide)]
  dsimp only
  rw [if_neg (by simp [typeHasDict])]
  have hlt := Heap.lt_size he
  have he1 : (s.heap.push { cls := .type "dict", data := .dict #[] }).get? x = some (excO C t0 none) := Heap.get?_push_of_some _ he
  have hxs : x ≠ s.heap.objs.size := Nat.ne_of_lt hlt
  refine wpAny_bind (wpAny_alloc (wpAny_bind (wpAny_update (o := excO C t0 none) he1 (wpAny_pure ?_))))
  have hgd : ((s.heap.push { cls := .type "dict", data := .dict #[] }).update x fun o => { cls := o.cls, dict := some s.heap.objs.size, data := o.data, slots := o.slots }).get? s.heap.objs.size = some (dictOf [] 0) :=
    (Heap.get?_update_ne _ _ _ _ hxs.symm).trans (Heap.get?_push_at rfl rfl)
  show wpAny _ _ (storeInDict s.heap.objs.size _ name v) _ _ _
  unfold storeInDict newKeyGuard
  refine wpAny_bind (wpAny_pure (wpAny_bind ?_))
  unfold nsSet
  refine wpAny_bind (wpAny_bind (wpAny_askSetting (wpAny_pure (wpAny_bind (wpAny_mkText (wpAny_bind (wpAny_loadPart hgd ?_)))))))
  dsimp only
  rw [aRefKeyMayBeTheName_at, show (!(#[] : Array DictEntry).any (·.key.isStr name) && (#[] : Array DictEntry).any (·.refKey)) = false from by simp, if_neg (by decide)]
  refine wpAny_updatePart hgd ?_
  have e2 : Obj.putName name (PyData.keyHash w.params name) (.str name (s.toks + 1)) v (dictOf [] 0) = dictOf [⟨PyData.keyHash w.params name, .str name (s.toks + 1), v⟩] 1 := by rw [putName_dict]; rfl
  have hD' : (((s.heap.push { cls := .type "dict", data := .dict #[] }).update x fun o => { cls := o.cls, dict := some s.heap.objs.size, data := o.data, slots := o.slots }).update s.heap.objs.size (Obj.putName name (PyData.keyHash w.params name) (.str name (s.toks + 1)) v)).get? s.heap.objs.size = some (dictOf [⟨PyData.keyHash w.params name, .str name (s.toks + 1), v⟩] 1) := by
    rw [Heap.get?_update_self _ hgd (by rw [e2]; rfl), e2]
  refine wpAny_bind (wpAny_lookBehind hD' (pastItsLine_dict (by simp [sizeLine_eq])) ?_)
  refine wpAny_pure (hq _ _ (s.toks + 1) _ rfl ?_ ?_ ?_ hD')
  · rw [Heap.size_after_update, Heap.size_after_update, Heap.size_push]
  · intro b o hb e
    rw [Heap.get?_update_other _ _ (Nat.ne_of_gt (Heap.lt_size e)), Heap.get?_update_other _ _ (Ne.symm hb)]
    exact Heap.get?_push_of_some _ e
  · rw [Heap.get?_update_other _ _ hxs.symm, Heap.get?_update_self _ he1 rfl]
theorem ex_set1 {E : Value → Shared → Prop} {t0 D : Addr} {name : Str} {v : Value} {cd : ClassData} {es : List DictEntry} {n : Nat} {Q : Unit → Shared → Prop} (X : K.In s.heap) (he : s.heap.get? x = some (excO C t0 (some D))) (hD : s.heap.get? D = some (dictOf es n)) (hc : clsIn K C = some cd) (hm : cd.mro = [.ref C, .ref C2, .type "Exception", .type "BaseException", .type "object"]) (ho : mroIn K C (.type "object") = some true) (ha : findIn K (.ref C) name = some none)
    (hs : findIn K (.ref C) "__setattr__" = some (some (.builtin "object.__setattr__"))) (hd : cd.hasDict = true) (hk : (!es.any (·.key.isStr name) && es.any (·.refKey)) = false) (hz : (putL name (PyData.keyHash w.params name) (.str name (s.toks + 1)) v es).length ≤ 1000)
    (hq : ∀ h' tk, h'.objs.size = s.heap.objs.size → (∀ b o, b ≠ D → s.heap.get? b = some o → h'.get? b = some o) → h'.get? D = some (dictOf (putL name (PyData.keyHash w.params name) (.str name (s.toks + 1)) v es) (putN name es n)) → Q () { s with heap := h', toks := tk }) :
    wpAny (model prog w) A (setAttr (.ref x) name v) Q E s := by
  have I : PySem.W.InstAt s.heap x (excO C t0 (some D)) C (some (dictOf es n)) := ⟨he, rfl, rfl, hD⟩
  refine set_plain X I hs (ex_osa (s := { s with toks := s.toks + 1 }) X I hc hm ho ha ?_)
  refine wpAny_bind (wpAny_pure (wpAny_bind (wpAny_bind (wpAny_loadPart he (wpAny_bind (looks_clsIn X hc _ _ _ _ (fun _ _ e => e) ?_))))))
  rw [hd, if_neg (by decide)]
  dsimp only
  refine wpAny_pure ?_
  show wpAny _ _ (storeInDict D _ name v) _ _ _
  unfold storeInDict newKeyGuard
  refine wpAny_bind (wpAny_pure (wpAny_bind ?_))
  unfold nsSet
  refine wpAny_bind (wpAny_bind (wpAny_askSetting (wpAny_pure (wpAny_bind (wpAny_mkText (wpAny_bind (wpAny_loadPart hD ?_)))))))
  dsimp only
  rw [aRefKeyMayBeTheName_at, show (!es.toArray.any (·.key.isStr name) && es.toArray.any (·.refKey)) = false from by simpa using hk, if_neg (by decide)]
  refine wpAny_updatePart hD ?_
  have e2 : Obj.putName name (PyData.keyHash w.params name) (.str name (s.toks + 1)) v (dictOf es n) = dictOf (putL name (PyData.keyHash w.params name) (.str name (s.toks + 1)) v es) (putN name es n) := putName_dict ..
  have hD' : (s.heap.update D (Obj.putName name (PyData.keyHash w.params name) (.str name (s.toks + 1)) v)).get? D = some (dictOf (putL name (PyData.keyHash w.params name) (.str name (s.toks + 1)) v es) (putN name es n)) := by
    rw [Heap.get?_update_self _ hD (by rw [e2]; rfl), e2]
  refine wpAny_bind (wpAny_lookBehind hD' (pastItsLine_dict (by rw [List.size_toArray, sizeLine_eq]; omega)) ?_)
  refine wpAny_pure (hq _ _ (Heap.size_after_update ..) ?_ hD')
  intro b o hb e
  rw [Heap.get?_update_other _ _ (Ne.symm hb)]
  exact e
end
section
open PySem.Spec Builtin Builtin.ObjectAttr
variable {prog : Program} {w : World} {A : Around} {s : Shared} {K : Frag} {C x : Addr}
theorem ex_get {E : Value → Shared → Prop} {ox : Obj} {od : Option Obj} {name : Str} {expr : Bool} {v : Value} {Q : Value → Shared → Prop} (X : K.In s.heap) (I : PySem.W.InstAt s.heap x ox C od) (hg : findIn K (.ref C) "__getattribute__" = some (some (.builtin "BaseException.__getattribute__")))
    (hng : findIn K (.ref C) "__getattr__" = some none) (hb : mroIn K C (.type "BaseException") = some true) (hf : findObj K C od name = some (.value v)) (hh : handedIn v = true) (h : Q v { s with toks := s.toks + 1 }) : wpAny (model prog w) A (getAttr (.ref x) name expr) Q E s := by
  have L0 := I.type (M := model prog w)
  have L1 := looks_findIn (M := model prog w) X hg
  have L2 := looks_findIn (M := model prog w) X hng
  have L3 := looks_find (M := model prog w) X I hf
  have L4 : Looks (model prog w) s.heap (isInstance (.ref x) (.type "BaseException")) true := I.type.andThen (looks_mroIn X hb)
  have kk : ∀ b o, s.heap.get? b = some o → s.heap.get? b = some o := fun _ _ e => e
  have hx2 : (Value.builtin "BaseException.__getattribute__" == Value.builtin "object.__getattribute__") = false := by decide +kernel
  unfold getAttr getAttrBy
  refine wpAny_bind (wpAny_mkText (wpAny_holding (wpAny_bind (L0 _ _ _ _ kk (wpAny_bind (L1 _ _ _ _ kk ?_))))))
  dsimp only
  rw [hx2, Bool.and_false, if_neg (by decide)]
  unfold getAttrByItsOwn hookBefore
  refine wpAny_bind (L2 _ _ _ _ kk (wpAny_bind (wpAny_attempt (wpAny_holding ?_))))
  unfold callGetattribute
  rw [show (expr && onTheHeap (Value.builtin "BaseException.__getattribute__")) = false from by cases expr <;> rfl, if_neg (by decide)]
  unfold boundAndCalled
  rw [PySem.F.attr_Exception.ga.bind]
  refine wpAny_bind (wpAny_pure ?_)
  show wpAny _ _ (call (.builtin "BaseException.__getattribute__") [.ref x, .str name s.toks]) _ _ _
  refine wpAny_call ?_
  refine codeAny_call_builtin PySem.F.attr_Exception.ga.plain PySem.F.entry_bexc_ga ?_
  refine @check_slot (model prog w) _ _ { s with toks := s.toks + 1 } "BaseException.__getattribute__" "BaseException" "__getattribute__" (.ref x) [.str name s.toks] [] _ (by decide +kernel) (by decide +kernel) L4 (PySem.F.args_bexc_ga (.ref x) (.str name s.toks)) ?_
  unfold Builtin.«object.__getattribute__»
  refine wpAny_bind (wpAny_pure (wpAny_bind (wpAny_pure (wpAny_bind (L0 _ _ _ _ kk (wpAny_bind (L3 _ _ _ _ kk ?_)))))))
  refine wpAny_pure ?_
  show wpAny _ _ (handedOut v) _ _ _
  rw [handedOut_of hh]; exact wpAny_pure h
end
section
open PySem.Spec
noncomputable def TrD (h base : Heap) (e : Addr) (cls a0 : Value) (D : Addr) (fl : Value) : Prop :=
  ∃ oe vs T oT ts, h.get? e = some oe ∧ (oe.cls = cls ∧ oe.dict = some D ∧ vs[0]? = some a0) ∧ oe.data = .fields vs ∧ vs[1]? = some (.ref T) ∧ base.get? T = none ∧ T ≠ e ∧ h.get? T = some oT ∧ oT.data = .fields ts ∧ ts[3]? = some fl
noncomputable def NoD (base : Heap) (l : List Env) (e : Addr) (cls a0 : Value) (D : Addr) (fl : Value) (h h' : Heap) : Prop :=
  base.StaysIn h' ∧ h'.FunFrames base l ∧ TrD h' base e cls a0 D fl ∧ h.UpToSlots h'
theorem dict_mapFields (o : Obj) (f : Array Value → Array Value) : (o.mapFields f).dict = o.dict := by
  unfold Obj.mapFields
  split <;> rfl
variable {M : Model} {A : Around} {E : Value → Shared → Prop} {s : Shared}
theorem entryD {base : Heap} {env : Env} {outer : List Env} {L e D : Addr} {oe : Obj} {vs : Array Value} {head a0 : Value} {hadNext : Bool} {Q : Unit → Shared → Prop}
    (hfr : A.frames = some (env :: outer)) (hl : s.heap.FunFrames base (env :: outer)) (hf : env.frame = some L) (he : s.heap.get? e = some oe) (hkb : base.StaysIn s.heap) (hen : base.get? e = none) (hdd : oe.dict = some D) (hd : oe.data = .fields vs) (hsz : 1 < vs.size) (h0 : vs[0]? = some a0)
    (h : ∀ h', NoD base (env :: outer) e oe.cls a0 D (rawInt L) s.heap h' → Q () { s with heap := h' }) :
    wpAny M A (do let a ← frameOf env; let pl ← entryPlaceOf L hadNext; let b ← EntryCells.newEntry head a .none (rawInt L) .none pl; setField (.ref e) 1 b) Q E s := by
  have noFrame : e ∉ (env :: outer).filterMap (·.frame) := fun hm => by
    obtain ⟨_, o, ho, hn⟩ := hl.mem hm
    rw [he] at ho
    cases ho
    exact hn vs hd
  refine wpAny_bind (wpAny_frameOf_fun hfr hl hf fun g hs => ?_)
  refine wpAny_bind (wpAny_entryPlaceOf fun pl hpl => ?_)
  unfold EntryCells.newEntry newFields
  refine wpAny_bind (wpAny_newObj_type ?_ (hpl.sizeOk5 _ _ _ _ _))
  have heg : g.get? e = some oe := (hs.2.1 e noFrame).trans he
  have kb : base.StaysIn g := fun b o hb => (hs.2.1 b fun hm => by rw [(hl.mem hm).1] at hb; cases hb).trans (hkb b o hb)
  generalize hT : ([head, .ref L, .none, rawInt L, .none] ++ (if pl.isEmpty then List.replicate 6 Value.none else pl)).toArray = ts
  have hts : ts[3]? = some (rawInt L) := by
    subst hT
    first | (simp; done) | (rcases hpl with rfl | ⟨_, _, _, _, _, _, _, rfl⟩ <;> simp)
  have he2 := Heap.get?_push_of_some (h := g) { cls := .type "traceback", dict := none, data := .fields ts } heg
  refine wpAny_setField he2 hd hsz (h _ ?_)
  have hTe : g.objs.size ≠ e := Nat.ne_of_gt (Heap.lt_size heg)
  have hd3 := Obj.data_mapFields hd (·.setIfInBounds 1 (Value.ref g.objs.size))
  have he3 := Heap.get?_update_self (Obj.mapFields (·.setIfInBounds 1 (Value.ref g.objs.size))) he2 (Obj.isFreed_of_fields hd3)
  have hT3 := (Heap.get?_update_other (g.push { cls := .type "traceback", dict := none, data := .fields ts }) (Obj.mapFields (·.setIfInBounds 1 (Value.ref g.objs.size))) (Ne.symm hTe)).trans (Heap.get?_push_size g rfl)
  have keep : ∀ b o, b ≠ e → g.get? b = some o → ((g.push { cls := .type "traceback", dict := none, data := .fields ts }).update e (Obj.mapFields (·.setIfInBounds 1 (Value.ref g.objs.size)))).get? b = some o := fun b o hb hg => by
    rw [Heap.get?_update_other _ _ (Ne.symm hb)]
    exact Heap.get?_push_of_some _ hg
  have other : ∀ b o, s.heap.get? b = some o → (∀ vs, o.data ≠ .fields vs) → b ≠ e := fun b o hb hn q => by
    rw [q, he] at hb
    cases hb
    exact hn vs hd
  refine ⟨fun b o hb => keep b o (fun q => by rw [q, hen] at hb; cases hb) (kb b o hb), hl.of_keeps fun b o hb hn => ?_, ?_, fun b o hb hn => ?_⟩
  · obtain ⟨sl, q⟩ := hs.2.2 b o hb
    exact ⟨_, keep b _ (other b o hb hn) q, rfl⟩
  · exact ⟨_, _, g.objs.size, _, _, he3, ⟨Obj.cls_mapFields _ _, (dict_mapFields _ _).trans hdd, by rw [Array.getElem?_setIfInBounds_ne (by decide)]; exact h0⟩, hd3, by simp [hsz], kb.fresh, hTe, hT3, rfl, hts⟩
  · obtain ⟨sl, q⟩ := hs.2.2 b o hb
    exact ⟨sl, keep b _ (other b o hb hn) q⟩
theorem note_first {base : Heap} {env : Env} {outer : List Env} {L e D : Addr} {oe : Obj} {vs : Array Value} {a0 : Value} {Q : Unit → Shared → Prop}
    (hfr : A.frames = some (env :: outer)) (hl : s.heap.FunFrames base (env :: outer)) (hf : env.frame = some L) (he : s.heap.get? e = some oe) (hkb : base.StaysIn s.heap) (hen : base.get? e = none) (hdd : oe.dict = some D) (hd : oe.data = .fields vs) (h1 : vs[1]? = some .none) (h0 : vs[0]? = some a0)
    (h : ∀ h', NoD base (env :: outer) e oe.cls a0 D (rawInt L) s.heap h' → Q () { s with heap := h' }) : wpAny M A (noteFrame (.ref e) env) Q E s := by
  unfold noteFrame
  simp only [hf]
  refine wpAny_bind (wpAny_field he hd h1 ?_)
  rw [if_neg (by decide)]
  exact entryD hfr hl hf he hkb hen hdd hd (Array.getElem?_eq_some_iff.mp h1).1 h0 h
theorem note_next {base : Heap} {env : Env} {outer : List Env} {L e D : Addr} {cls a0 : Value} {Q : Unit → Shared → Prop}
    (hfr : A.frames = some (env :: outer)) (hl : s.heap.FunFrames base (env :: outer)) (hf : env.frame = some L) (ht : TrD s.heap base e cls a0 D .none) (hkb : base.StaysIn s.heap) (hen : base.get? e = none)
    (h : ∀ h', NoD base (env :: outer) e cls a0 D (rawInt L) s.heap h' → Q () { s with heap := h' }) : wpAny M A (noteFrame (.ref e) env) Q E s := by
  obtain ⟨oe, vs, T, oT, ts, he, ⟨rfl, hdd, h0⟩, hd, h1, hnT, hTe, hT, hdT, h3⟩ := ht
  unfold noteFrame
  simp only [hf]
  refine wpAny_bind (wpAny_field he hd h1 ?_)
  rw [if_pos (show (Value.ref T != Value.none) = true from by simp)]
  refine wpAny_bind (wpAny_field hT hdT h3 ?_)
  rw [if_neg (show ¬ ((Value.none == rawInt L) = true) from by simp [rawInt])]
  refine wpAny_bind (wpAny_setField hT hdT (Array.getElem?_eq_some_iff.mp h3).1 ?_)
  have same : ∀ b, b ≠ T → (s.heap.update T (Obj.mapFields (·.setIfInBounds 3 Value.none))).get? b = s.heap.get? b := fun b hb => Heap.get?_update_other _ _ (Ne.symm hb)
  have off : ∀ b o, s.heap.get? b = some o → (∀ vs, o.data ≠ .fields vs) → b ≠ T := fun b o hb hn q => by
    rw [q, hT] at hb
    cases hb
    exact hn ts hdT
  refine entryD hfr (hl.of_keeps fun b o hb hn => ⟨o, (same b (off b o hb hn)).trans hb, rfl⟩) hf ((same e (Ne.symm hTe)).trans he) (fun b o hb => (same b fun q => by rw [q, hnT] at hb; cases hb).trans (hkb b o hb)) hen hdd hd (Array.getElem?_eq_some_iff.mp h1).1 h0
    fun h' ⟨x1, x2, x3, x4⟩ => h h' ⟨x1, x2, x3, fun b o hb hn => x4 b o ((same b (off b o hb hn)).trans hb) hn⟩
theorem flight_none {base : Heap} {l : List Env} {e D : Addr} {cls a0 fl : Value} {Q : Unit → Shared → Prop} (hkb : base.StaysIn s.heap) (hl : s.heap.FunFrames base l) (ht : TrD s.heap base e cls a0 D fl)
    (h : ∀ h', NoD base l e cls a0 D .none s.heap h' → Q () { s with heap := h' }) : wpAny M A (setFlight (.ref e) none) Q E s := by
  obtain ⟨oe, vs, T, oT, ts, he, hcls, hd, h1, hnT, hTe, hT, hdT, h3⟩ := ht
  have hs3 : 3 < ts.size := (Array.getElem?_eq_some_iff.mp h3).1
  have same : ∀ b, b ≠ T → (s.heap.update T (Obj.mapFields (·.setIfInBounds 3 ((none : Option Addr).elim Value.none fun f => rawInt f)))).get? b = s.heap.get? b := fun b hb => Heap.get?_update_other _ _ (Ne.symm hb)
  have off : ∀ b o, s.heap.get? b = some o → (∀ vs, o.data ≠ .fields vs) → b ≠ T := fun b o hb hn q => by
    rw [q, hT] at hb
    cases hb
    exact hn ts hdT
  unfold setFlight
  refine wpAny_bind (wpAny_field he hd h1 ?_)
  rw [if_pos (show (Value.ref T != Value.none) = true from by simp)]
  refine wpAny_setField hT hdT hs3 (h _ ⟨fun b o hb => (same b fun q => by rw [q, hnT] at hb; cases hb).trans (hkb b o hb), hl.of_keeps fun b o hb hn => ⟨o, (same b (off b o hb hn)).trans hb, rfl⟩, ?_, fun b o hb hn => ⟨o.slots, (same b (off b o hb hn)).trans hb⟩⟩)
  exact ⟨oe, vs, T, _, _, (same e (Ne.symm hTe)).trans he, hcls, hd, h1, hnT, hTe, Heap.get?_update_self _ hT (Obj.isFreed_of_fields (Obj.data_mapFields hdT _)), Obj.data_mapFields hdT _, by simp [hs3]⟩
end
section
open PySem.Spec
noncomputable def RaisedF (base G : Heap) (l : List Env) (e D : Addr) (news : Led) (h : Heap) : Prop :=
  ∃ B a0, base.StaysIn B ∧ (∀ b o, G.get? b = some o → b ∉ l.filterMap (·.frame) → B.get? b = some o) ∧ (∀ q ∈ news, B.get? q.1 = some q.2 ∧ G.get? q.1 = none ∧ base.get? q.1 = none) ∧ (B.StaysIn h ∧ B.get? e = none ∧ h.FunFrames B l ∧ TrD h B e (.ref 45) a0 D .none)
section
variable {M : Model} {A : Around} {E : Value → Shared → Prop} {s' : Shared} {base g g₂ : Heap} {outer : List Env} {L a e t0 D : Addr} {m : Str → Option Value} {name : Str} {scope : Scope} {cd : Value} {Q : Unit → Shared → Prop} {news : Led}
end
section
variable {prog : Program} {w : World} {A₀ : Around} {E : Value → Shared → Prop} {s' : Shared} {base g g₀ G : Heap} {outer : List Env} {L a e D : Addr} {m : Str → Option Value} {name : Str} {scope : Scope} {cd : Value}
  {n : Str} {b₀ : Stmt} {suite : List Stmt} {pos np : Pos} {rest : List ExceptHandler} {Q : Flow → Shared → Prop} {news : Led} {KF : Frag} {p : Program} {loose : List Str} {mean : ExcName → Option Value} {mg mb : Str → Option Value} {x : Str}
  {nm q : Str} {N : Addr} {bs bm : List Value} {hdct : Bool} {sn : List Str} {sub : List Value} {ab : Bool} {col : Option Bool} {dd : Option Addr} {k0 k1 k2 k3 k5 : Option Value} {newId : String}
end
end
section
open PySem.Spec
noncomputable def RaiseEnd (M : Model) (E : Value → Shared → Prop) (v : Value) (s : Shared) : Prop :=
  ∃ e t0 D, v = .ref e ∧ s.heap.get? e = some (excO 45 t0 (some D)) ∧ Looks M s.heap (isSubtype (.ref 45) (.type "BaseException")) true ∧ Looks M s.heap (typeOf (.ref 45)) (.type "type") ∧ E (.ref e) s
variable {M : Model} {A : Around} {E : Value → Shared → Prop} {s : Shared} {env : Env}
theorem raise_F {x : Sem Value} {Q : Flow → Shared → Prop} (hh : A.handled = none) (h : wpAny M A x (RaiseEnd M E) E s) : wpAny M A (raiseStmt env (some x) none) Q E s := by
  unfold raiseStmt
  refine wpAny_bind (wpAny_mono h (fun v s₁ h₁ => ?_) fun _ _ x => x)
  obtain ⟨e, t0, D, rfl, he, l2, l3, hE⟩ := h₁
  have L0 : Looks M s₁.heap (typeOf (.ref e)) (.ref 45) := (Looks.ld he).andThen .now
  have T1 : Looks M s₁.heap (isType (.ref e)) false := (Looks.ld he).andThen .now
  have T2 : Looks M s₁.heap (isInstance (.ref e) (.type "BaseException")) true := L0.andThen l2
  have kk : ∀ b o, s₁.heap.get? b = some o → s₁.heap.get? b = some o := fun _ _ e => e
  refine wpAny_bind (wpAny_pure (wpAny_bind (wpAny_holding ?_)))
  unfold excFromValue isExcClass
  refine wpAny_bind (wpAny_bind (T1 _ _ _ _ kk ?_))
  refine wpAny_pure ?_
  rw [if_neg (by decide)]
  refine wpAny_bind (T2 _ _ _ _ kk ?_)
  rw [if_pos rfl]
  refine wpAny_pure ?_
  dsimp only
  refine wpAny_bind (T1 _ _ _ _ kk ?_)
  rw [if_neg (by decide)]
  unfold raisedInstance
  refine wpAny_bind (wpAny_bind (L0 _ _ _ _ kk (wpAny_bind (l3 _ _ _ _ kk ?_))))
  rw [if_pos (by decide)]
  refine wpAny_pure ?_
  unfold setFlight
  refine wpAny_bind (wpAny_bind (wpAny_field he rfl (x := .none) rfl ?_))
  rw [if_neg (by decide)]
  refine wpAny_pure ?_
  exact wpAny_raiseNew_none hh hE
theorem raise_exec {c : Expr} {pos : Pos} {Q : Flow → Shared → Prop} (hh : A.handled = none) (h : wpAny M A (eval c env) (RaiseEnd M E) E s) : wpAny M A (exec (.Raise (some c) none pos) env) Q E s := by
  rw [arm_exec_Raise]
  refine wpAny_bind (wpAny_standAt ?_)
  refine raise_F hh (wpAny_bind (wpAny_mono h (fun v s₁ h₁ => wpAny_bind (wpAny_standAt (wpAny_pure h₁))) fun _ _ x => x))
end
section
variable {prog : Program} {w : World} {A : Around} {s : Shared} {K : Frag} {e t0 L : Addr} {h₀ : Heap} {m : Str → Option Value} {news : Led} {E : Value → Shared → Prop}
theorem my_exinit {v : Value} {Q : Value → Shared → Prop} (F : Fr h₀ L s.heap m) (X₀ : K.In h₀) (N : News h₀ L s.heap ((e, excO 45 t0 none) :: news)) (hne : ∀ p ∈ news, p.1 ≠ e)
    {nm q : Str} {N' : Addr} {bs bm : List Value} {hdct : Bool} {sn : List Str} {sub : List Value} {ab : Bool} {col : Option Bool} {dd : Option Addr} {k0 k1 k2 k3 k5 : Option Value}
    (hC : K.lookup 45 = some (excClassObj nm q 45 N' bs bm hdct sn sub ab col dd k0 k1 k2 k3 k5 "Exception.__new__")) (hB : bm.contains (.type "Exception") = true)
    (h : ∀ t1 h', Fr h₀ L h' m → News h₀ L h' ((e, excO 45 t1 none) :: (t1, ({ cls := .type "tuple", data := .seq [v].toArray } : Obj)) :: news) → (∀ p ∈ (e, excO 45 t0 none) :: news, p.1 < t1) → Q .none { s with heap := h' }) :
    wpAny (model prog w) A (call (.builtin "Exception.__init__") [.ref e, v]) Q E s := by
  obtain ⟨hp, g, d, t, os⟩ := s
  have he := (N _ (.head _)).1
  have hL := (N _ (.head _)).2
  have hlt := Heap.lt_size he
  refine ex_init (dict := none) PySem.F.excBase_Exception hB (X₀.keeps F.keep _ _ hC) he (by size_fits) ?_
  have hk : ∀ b o, b ∉ [e] → hp.get? b = some o → ((hp.push { cls := .type "tuple", data := .seq [v].toArray }).update e (Obj.mapFields (·.setIfInBounds 0 (.ref hp.objs.size)))).get? b = some o := fun b o hb q => by
    rw [Heap.get?_update_other _ _ (by simpa using Ne.symm (by simpa using hb : b ≠ e))]
    exact Heap.get?_push_of_some _ q
  have he1 : (hp.push { cls := .type "tuple", data := .seq [v].toArray }).get? e = some (excO 45 t0 none) := Heap.get?_push_of_some _ he
  refine h hp.objs.size _ (LCg.fr_but F hk (Ne.symm hL.1) hL.2) ?_ (fun p hp => Heap.lt_size (N p hp).1)
  intro p hp'
  rcases List.mem_cons.mp hp' with rfl | hp'
  · exact ⟨Heap.get?_update_self _ he1 rfl, hL⟩
  · rcases List.mem_cons.mp hp' with rfl | hp'
    · refine ⟨?_, Nat.ne_of_gt F.ns.lt, none_at_size F⟩
      rw [Heap.get?_update_other _ _ (Nat.ne_of_lt hlt)]
      exact Heap.get?_push_at rfl rfl
    · exact ⟨hk _ _ (by simpa using hne p hp') (N p (.tail _ hp')).1, (N p (.tail _ hp')).2⟩
theorem my_exset0 {C2 : Addr} {name : Str} {v : Value} {cd : ClassData} {Q : Unit → Shared → Prop} (F : Fr h₀ L s.heap m) (X₀ : K.In h₀) (N : News h₀ L s.heap ((e, excO 45 t0 none) :: news)) (hne : ∀ p ∈ news, p.1 ≠ e) (hc : clsIn K 45 = some cd) (hm : cd.mro = [.ref 45, .ref C2, .type "Exception", .type "BaseException", .type "object"]) (ho : mroIn K 45 (.type "object") = some true) (ha : findIn K (.ref 45) name = some none)
    (hs : findIn K (.ref 45) "__setattr__" = some (some (.builtin "object.__setattr__"))) (hd : cd.hasDict = true)
    (h : ∀ D h' tk u, Fr h₀ L h' m → News h₀ L h' ((e, excO 45 t0 (some D)) :: (D, dictOf [⟨PyData.keyHash w.params name, .str name u, v⟩] 1) :: news) → (∀ p ∈ (e, excO 45 t0 none) :: news, p.1 < D) → Q () { s with heap := h', toks := tk }) :
    wpAny (model prog w) A (setAttr (.ref e) name v) Q E s := by
  have he := (N _ (.head _)).1
  have hL := (N _ (.head _)).2
  refine ex_set0 (X₀.keeps F.keep) he hc hm ho ha hs hd ?_
  rintro h' tk u D rfl hsz hk hx hD
  have hk' : ∀ b o, b ∉ [e] → s.heap.get? b = some o → h'.get? b = some o := fun b o hb q => hk b o (by simpa using hb) q
  refine h _ h' tk u (LCg.fr_but F hk' (Ne.symm hL.1) hL.2) ?_ (fun p hp => Heap.lt_size (N p hp).1)
  intro p hp
  rcases List.mem_cons.mp hp with rfl | hp
  · exact ⟨hx, hL⟩
  · rcases List.mem_cons.mp hp with rfl | hp
    · exact ⟨hD, Nat.ne_of_gt F.ns.lt, none_at_size F⟩
    · exact ⟨hk _ _ (hne p hp) (N p (.tail _ hp)).1, (N p (.tail _ hp)).2⟩
theorem my_exset1 {C2 D : Addr} {name : Str} {v : Value} {cd : ClassData} {es : List DictEntry} {n n' : Nat} {Q : Unit → Shared → Prop} (F : Fr h₀ L s.heap m) (X₀ : K.In h₀) (N : News h₀ L s.heap ((e, excO 45 t0 (some D)) :: (D, dictOf es n) :: news)) (hne : @Ne Nat e D) (hnn : ∀ p ∈ news, p.1 ≠ D) (hc : clsIn K 45 = some cd) (hm : cd.mro = [.ref 45, .ref C2, .type "Exception", .type "BaseException", .type "object"]) (ho : mroIn K 45 (.type "object") = some true) (ha : findIn K (.ref 45) name = some none)
    (hs : findIn K (.ref 45) "__setattr__" = some (some (.builtin "object.__setattr__"))) (hd : cd.hasDict = true) (hk : (!es.any (·.key.isStr name) && es.any (·.refKey)) = false) (he : ∀ u, (putL name (PyData.keyHash w.params name) (.str name u) v es, putN name es n) = (es ++ [⟨PyData.keyHash w.params name, .str name u, v⟩], n')) (hz : es.length ≤ 900)
    (h : ∀ h' tk u, Fr h₀ L h' m → News h₀ L h' ((e, excO 45 t0 (some D)) :: (D, dictOf (es ++ [⟨PyData.keyHash w.params name, .str name u, v⟩]) n') :: news) → Q () { s with heap := h', toks := tk }) :
    wpAny (model prog w) A (setAttr (.ref e) name v) Q E s := by
  have heh := (N _ (.head _)).1
  have hDh := (N _ (.tail _ (.head _))).1
  have hL := (N _ (.tail _ (.head _))).2
  obtain ⟨e1, e2⟩ := Prod.mk.inj (he (s.toks + 1))
  refine ex_set1 (X₀.keeps F.keep) heh hDh hc hm ho ha hs hd hk (by rw [e1, List.length_append, List.length_singleton]; omega) ?_
  rw [e1, e2]
  intro h' tk hsz hk' hD
  have hk2 : ∀ b o, b ∉ [D] → s.heap.get? b = some o → h'.get? b = some o := fun b o hb q => hk' b o (by simpa using hb) q
  refine h h' tk (s.toks + 1) (LCg.fr_but F hk2 (Ne.symm hL.1) hL.2) ?_
  intro p hp
  rcases List.mem_cons.mp hp with rfl | hp
  · exact ⟨hk' _ _ hne heh, (N _ (.head _)).2⟩
  · rcases List.mem_cons.mp hp with rfl | hp
    · exact ⟨hD, hL⟩
    · exact ⟨hk' _ _ (hnn p hp) (N p (.tail _ (.tail _ hp))).1, (N p (.tail _ (.tail _ hp))).2⟩
end
local macro_rules | `(tactic| walk_at "my:exne") => `(tactic| first | exact List.forall_mem_nil _ | (refine List.forall_mem_cons.mpr ⟨?_, ?_⟩; (· first | assumption | exact (show @Ne Nat _ _ from by omega)); (· walk_at "my:exne")) | (intro p9 hp9; exact Nat.ne_of_lt (tb_ltOf (by walk_at "my:lt") p9 hp9)))
noncomputable def FaultR (w : World) (sp : Int) (news : Led) (r : Value) (news' : Led) : Prop :=
  ∃ e t0 D u1 u2 t2 v, r = .ref e ∧ news' = (e, excO 45 t0 (some D)) :: (D, dictOf [⟨PyData.keyHash w.params (Str.ofString "message"), .str (Str.ofString "message") u1, v⟩, ⟨PyData.keyHash w.params (Str.ofString "spot"), .str (Str.ofString "spot") u2, .int sp t2⟩] 2) :: news ∧ AllLt e news ∧ @LT.lt Nat _ e D
theorem fault_end {w : World} {sp : Int} {news : Led} {h₀ h' : Heap} {L e t0 D : Addr} {m : Str → Option Value} {u1 u2 t2 : Tok} {v : Value} {p1 p2 : Addr × Obj} {s : Shared} {Q : Value → Shared → Prop} {tk' : Nat}
    (ret : ∀ r news' h' tk', Fr h₀ L h' m → News h₀ L h' news' → FaultR w sp news r news' → Q r { s with heap := h', toks := tk' }) (F : Fr h₀ L h' m)
    (N : News h₀ L h' ((e, excO 45 t0 (some D)) :: (D, dictOf [⟨PyData.keyHash w.params (Str.ofString "message"), .str (Str.ofString "message") u1, v⟩, ⟨PyData.keyHash w.params (Str.ofString "spot"), .str (Str.ofString "spot") u2, .int sp t2⟩] 2) :: p1 :: p2 :: news)) (h1 : AllLt e news) (h2 : @LT.lt Nat _ e D) : Q (.ref e) { s with heap := h', toks := tk' } := by
  refine ret (.ref e) _ h' tk' F (News.sub N ?_) ⟨e, t0, D, u1, u2, t2, v, rfl, rfl, h1, h2⟩
  intro p hp
  simp only [List.mem_cons] at hp ⊢
  grind
local macro_rules | `(tactic| walk_at "my:lt") => `(tactic| first | assumption | exact ltq3 (by assumption))
set_option maxHeartbeats 8000000 in
theorem fault_ok {w : World} {mean : ExcName → Option Value} {mg mb : Str → Option Value} {msg : Str} {sp : Int} {t1 t2 : Tok} {news : Led} :
    Con w mean mg mb 8 45 [.str msg t1, .int sp t2] news (FaultR w sp news) := by
  unfold Con
  intro dp un gd cn cs a ccd cl outer A₀ base h₀ L m s Q E Bw F X N T hk hdp hu ret
  revert X
  k_fill
  intro X
  obtain ⟨hp, g, d, t, os⟩ := s
  have hC45 : List.lookup 45 (kk.heap_1 w.params) = some (excClassObj (Str.ofString "GrammarFault") (Str.ofString "GrammarFault") 45 44 [.ref 32] [.ref 32, .type "Exception", .type "BaseException", .type "object"] true [] [] false none none (some (.ref 36)) none (some (.str (Str.ofString "GrammarFault") 221)) (some (.str (Str.ofString "GrammarFault") 229)) (some (.bool true)) "Exception.__new__") := by k_is
  refine ex_call (K := kk.heap_1 w.params) (C := 45) (fI := 29) PySem.F.excBase_Exception (by decide +kernel) (by decide +kernel) (by decide +kernel) (X.keeps F.keep) hC45 (by k_is) (by k_is) (by size_fits) ?_
  intro h' e t0 kp ht0 hee hg0 hge hsz
  have F1 : Fr h₀ L h' m := F.keeps kp
  have hLt := F.ns.lt
  have nnew : ∀ b, hp.objs.size ≤ b → h₀.get? b = none := fun b hb => by
    cases q : h₀.get? b with
    | none => rfl
    | some o => exact absurd (Heap.lt_size (F.keep b o q)) (Nat.not_lt.mpr hb)
  have N1 : News h₀ L h' ((e, excO 45 t0 none) :: (t0, ({ cls := .type "tuple", data := .seq [Value.str msg t1, Value.int sp t2].toArray } : Obj)) :: news) := by
    intro p hp'
    rcases List.mem_cons.mp hp' with rfl | hp'
    · exact ⟨hge, Nat.ne_of_gt (Nat.lt_of_lt_of_le hLt (Nat.le_trans ht0 (by omega))), nnew _ (Nat.le_trans ht0 (by omega))⟩
    · rcases List.mem_cons.mp hp' with rfl | hp'
      · exact ⟨hg0, Nat.ne_of_gt (Nat.lt_of_lt_of_le hLt ht0), nnew _ ht0⟩
      · exact ⟨kp _ _ (N p hp').1, (N p hp').2⟩
  have hlt : ∀ p ∈ news, @LT.lt Nat _ p.1 t0 := fun p hp' => Nat.lt_of_lt_of_le (Heap.lt_size (N p hp').1) ht0
  have hall : AllLt e news := allLt_of fun p hp' => Nat.lt_trans (hlt p hp') (by omega)
  have hte : @LT.lt Nat _ t0 e := by omega
  clear N F
  refine wpAny_call ?_
  (k_dflt (
    refine' code_def ?k1 ?k2 ?k3 ?k4 ?k5 ?kA ?kF ?kK ?k6 ?k7 ?k8 ?k9 ?kB ?_ ?c2 ?c3 ?c4 ?c5
    (case kA => exact rfl)
    (case kF => exact rfl)
    (case kK => first | exact rfl | assumption)
    (case k1 => k_asm)
    (case k2 => k_asm)
    (case k3 => k_asm)
    (case k4 => k_asm)
    (case k5 => k_asm)
    (case k6 => k_is)
    (case k7 => k_is)
    (case k8 => ktr_room)
    (case k9 => first | exact BindsTo.of_eq rfl | exact binds_K (by k_in) rfl (by k_is) rfl rfl rfl)
    (case c5 => decide)
    (case kB => exact locs rfl)
    (case c2 => exact rfl)
    (case c3 => exact rfl)
    (case c4 => exact rfl)
    k_whole
    (intro gq Lq hq FGq Fq Nq Bq Xq Tq; (try dsimp only); (try k_lift Bq); (try k_fold))))
  (repeat' (first | (k_unfold; (try dsimp only)) | (k_end; wrow_close) | (refine' method_type ?zF ?zX ?zm (by decide +kernel) ?ze ?zh ?_; (case zF => k_asm); (case zX => k_asm); (case zm => kernel_rfl); (case ze => k_dflt k_is); (case zh => k_handed)) | ((try dsimp only [List.cons_append, List.nil_append]); k_dflt (refine' my_exinit ?zF ?zX ?zN ?zn ?zC ?zB ?_; (case zF => k_asm); (case zX => k_asm); (case zN => k_asm); (case zC => k_is); (case zB => decide +kernel); (case zn => walk_at "my:exne"); k_whole; intro t' h' F' N' l1; (try k_lt l1); (try k_sweep))) | (k_dflt (refine' my_exset0 (C2 := 32) ?zF ?zX ?zN ?zn ?zc ?zm ?zo ?za ?zs ?zd ?_; (case zF => k_asm); (case zX => k_asm); (case zN => k_asm); (case zc => k_is); (case zm => exact rfl); (case zo => k_is); (case za => k_is); (case zs => k_is); (case zd => exact rfl); (case zn => walk_at "my:exne"); k_whole; intro D' h' tk' u' F' N' l1; (try k_lt l1); (try k_sweep))) | (k_dflt (refine' my_exset1 (C2 := 32) (n' := 2) ?zF ?zX ?zN ?ze ?zn ?zc ?zm ?zo ?za ?zs ?zd ?zk ?zp ?zz ?_; (case zF => k_asm); (case zX => k_asm); (case zN => k_asm); (case zc => k_is); (case zm => exact rfl); (case zo => k_is); (case za => k_is); (case zs => k_is); (case zd => exact rfl); (case ze => omega); (case zn => walk_at "my:exne"); (case zk => exact rfl); (case zp => (intro u9; exact rfl)); (case zz => exact Nat.le_of_ble_eq_true rfl); k_whole; intro h' tk' u' F' N'; (try dsimp only [List.cons_append, List.nil_append] at N'); (try k_sweep))) | ((with_reducible show wpAny _ _ (execs (_ :: _) _) _ _ _); k_here; (with_reducible refine wpAny_execs_cons (letQ ?_)); intro qs9) | walk1 | (dsimp only; walk1) | (leave1; walk_say "STEP leave1"; try dsimp only) | fail "no step"))
  exact fault_end ret (by assumption) (by assumption) hall (by omega)

-- from 29_fcon.lean
noncomputable def SpotAt (w : World) (D : Addr) (sp : Int) (nn : Led) : Prop := ∃ u1 u2 t2 v, (D, dictOf [⟨PyData.keyHash w.params (Str.ofString "message"), .str (Str.ofString "message") u1, v⟩, ⟨PyData.keyHash w.params (Str.ofString "spot"), .str (Str.ofString "spot") u2, .int sp t2⟩] 2) ∈ nn
theorem raise_end {prog : Program} {w : World} {E : Value → Shared → Prop} {s : Shared} {K : Frag} {h₀ : Heap} {L e t0 D : Addr} {m : Str → Option Value} {news : Led} (F : Fr h₀ L s.heap m) (X₀ : K.In h₀) (N : News h₀ L s.heap ((e, excO 45 t0 (some D)) :: news)) (h1 : mroIn K 45 (.type "BaseException") = some true) (h2 : typeIn K (.ref 45) = some (.type "type")) (h : E (.ref e) s) : RaiseEnd (model prog w) E (.ref e) s :=
  ⟨e, t0, D, rfl, (N _ (.head _)).1, looks_mroIn (X₀.keeps F.keep) h1, looks_typeIn (X₀.keeps F.keep) h2, h⟩
-- from 32_tcon.lean
section
open PySem.Spec
variable {prog : Program} {w : World} {A A₀ : Around} {s : Shared} {K : Frag} {L : Addr} {h₀ base g₀ : Heap} {m mg mb : Str → Option Value} {news : List (Addr × Obj)} {p : Program} {loose : List Str} {mean : ExcName → Option Value} {env : Env} {outer : List Env} {R : Result → Shared → Prop}
theorem kts_memX {b : Addr} (hf : env.frame = some L) (hm : b ∈ (env :: outer).filterMap (·.frame)) : b = L ∨ b ∈ outer.filterMap (·.frame) := by
  obtain ⟨e, he, hb⟩ := List.mem_filterMap.mp hm
  rcases List.mem_cons.mp he with rfl | he
  · exact .inl (Option.some.inj (hf.symm.trans hb)).symm
  · exact .inr (List.mem_filterMap.mpr ⟨e, he, hb⟩)
theorem groundXS (B : Below A₀ base outer h₀) (F : Fr h₀ L s.heap m) (N : News h₀ L s.heap news) (XB : K.In base) (TB : Top p loose mean mg mb base) (D : KtsDicts (outer.filterMap (·.frame)) h₀) (T0 : KtsTurn (outer.filterMap (·.frame)) g₀ h₀)
    (hA : A.frames = some (env :: outer)) (hf : env.frame = some L) (hke : env.scope.kind = .function) :
    Fr h₀ L (hideAll s.heap (news.map (·.1))) m ∧ Below A base (env :: outer) (hideAll s.heap (news.map (·.1))) ∧ h₀.StaysIn (hideAll s.heap (news.map (·.1))) ∧ KtsDicts ((env :: outer).filterMap (·.frame)) (hideAll s.heap (news.map (·.1))) ∧
      ∀ v s', LeaveS ((env :: outer).filterMap (·.frame)) A₀ base outer K p loose mean mg mb g₀ h₀ L m (hideAll s.heap (news.map (·.1))) R v s' → R (.ok (.ret v)) s' := by
  obtain ⟨FG, BG, st, lv⟩ := groundX (R := R) B F N hA hf hke
  obtain ⟨oL, es, ep, hLg, hLd, hLk, hLf⟩ := FG.ns
  refine ⟨FG, BG, st, fun b hb => ?_, fun v s' hl => ?_⟩
  · rcases kts_memX hf hb with rfl | hb
    · exact ⟨oL, es, ep, hLg, hLd⟩
    · obtain ⟨o, es', n', ho', hd'⟩ := D b hb
      exact ⟨o, es', n', st b o ho', hd'⟩
  · have nL₀ : h₀.get? L = none := kts_self F
    rcases hl with ⟨L', m', news', F', N', k⟩ | ⟨g', L', m', news', T', F', N', k⟩
    · exact lv v s' ⟨L', m', news', F', N', k⟩
    obtain ⟨sl, hs⟩ := T'.up hLg
    obtain ⟨T₁, S₁⟩ := kts_turn_at (h := s'.heap) (fs := outer.filterMap (·.frame)) (g := h₀)
      (fun b hb => by
        obtain ⟨_, o, ho', _⟩ := B.frames.mem hb
        exact ⟨o, ho'⟩)
      (fun b o e nmem => F'.keep b o (T'.other b o (st b o e) (fun q => by
        rcases kts_memX hf q with z | z
        · rw [z, nL₀] at e
          cases e
        · exact nmem z)))
      (fun b o e hm => by
        obtain ⟨sl', hs'⟩ := T'.up (st b o e)
        exact ⟨sl', F'.keep _ _ hs'⟩)
    have B₃ : Below A₀ base outer (ktsHeap s'.heap (outer.filterMap (·.frame)) h₀) := ⟨B.stack, fun b o e => T₁.other b o (B.stays b o e) (fun hm => by
      rw [(B.frames.mem hm).1] at e
      cases e), B.frames.of_keeps fun b o e _ => by
      obtain ⟨sl', hs'⟩ := T₁.up e
      exact ⟨_, hs', rfl⟩⟩
    refine k _ (T0.trans T₁) ⟨⟨_, es, ep, F'.keep _ _ hs, hLd, hLk, hLf⟩, S₁, by rw [T₁.size]; exact F.above⟩ (fun p hp => ⟨(N' p hp).1, fun q => ?_, ?_⟩) B₃ (XB.keeps B₃.stays) (TB.keeps B₃.stays) (D.turn T₁)
    · have := (N' p hp).2.2; rw [q, hs] at this; cases this
    · refine T₁.none_ _ ?_
      cases q : h₀.get? p.1 with
      | none => rfl
      | some o =>
        obtain ⟨sl', hs'⟩ := T'.up (st _ _ q)
        have := (N' p hp).2.2
        rw [hs'] at this
        cases this
variable {name qual : Str} {params : Arguments} {body : List Stmt} {scope : Scope} {dV kV doc pm cdv ct oc : Value} {an od : Option Addr} {osl : Array (Option Value)} {f : Addr} {args : Args} {binds : List (Str × Value)}
theorem code_defSX (B : Below A₀ base outer h₀) (F : Fr h₀ L s.heap m) (X₀ : K.In h₀) (N : News h₀ L s.heap news) (T : Top p loose mean mg mb h₀) (XB : K.In base) (TB : Top p loose mean mg mb base) (D : KtsDicts (outer.filterMap (·.frame)) h₀) (T0 : KtsTurn (outer.filterMap (·.frame)) g₀ h₀)
    (hA : A.frames = some (env :: outer)) (hf : env.frame = some L) (hke : env.scope.kind = .function)
    (ho : K.lookup f = some ⟨oc, od, .func (fnOf name qual params body scope dV kV doc pm an cdv ct), osl⟩) (hcd : codeIn K cdv qual = true) (hroom : A.depth < recursionLimit)
    (hbind : BindsTo s (fnOf name qual params body scope dV kV doc pm an cdv ct) args binds) (hloc : ∀ y ∈ binds, scope.names.lookup y.1 = some .local)
    (h : ∀ g L' h₁, Fr h₀ L g m → Fr g L' h₁ (fun y => binds.reverse.lookup y) → News g L' h₁ news → Below A base (env :: outer) g → K.In g → Top p loose mean mg mb g → KtsDicts ((env :: outer).filterMap (·.frame)) g →
      wpAny (model prog w) (A.deeper (envOf qual scope L' f cdv)) (execs body (envOf qual scope L' f cdv))
        (fun fl s' => LeaveS ((env :: outer).filterMap (·.frame)) A₀ base outer K p loose mean mg mb g₀ h₀ L m g R (match fl with | .ret v => v | _ => .none) s')
        (fun e s' => wpAny (model prog w) (A.deeper (envOf qual scope L' f cdv)) (leaving (envOf qual scope L' f cdv) e) (fun _ s'' => R (.error e) s'') (fun e' s'' => R (.error e') s'') s')
        { s with heap := h₁, toks := s.toks + binds.length })
    (hco : scope.isCoroutine = false) (hgen : scope.isGenerator = false) (hk : scope.kind = .function)
    (hcell : ∀ x ∈ scope.names, x.2 ≠ .cell) : codeAny (model prog w) A (.call (.ref f) args) R s := by
  obtain ⟨FG, BG, st, DG, lv⟩ := groundXS (R := R) B F N XB TB D T0 hA hf hke
  have X := X₀.keeps F.keep
  refine codeAny_call_def (fd := fnOf name qual params body scope dV kV doc pm an cdv ct) (body := body) (binds := binds) hroom (X _ _ ho) rfl (T.nolimit.keeps F.keep) (codeRec_of X hcd) rfl hbind hcell hloc (fun h₁ hns hk₁ => ?_) hco hgen hk
  exact wpAny_mono (h _ s.heap.objs.size h₁ FG ⟨hns, fun b o e => hk₁ b o (of_hideAll _ e), Nat.le_of_eq (hideAll_size _ _)⟩
    (fun p hp => ⟨hk₁ _ _ (N p hp).1, Nat.ne_of_lt (Heap.lt_size (N p hp).1), hideAll_none _ (List.mem_map_of_mem hp)⟩) BG (X₀.keeps st) (T.keeps st) DG) (fun fl s' hl => lv _ _ hl) fun _ _ y => y
theorem code_defSC (B : Below A₀ base outer h₀) (F : Fr h₀ L s.heap m) (X₀ : K.In h₀) (N : News h₀ L s.heap news) (T : Top p loose mean mg mb h₀) (XB : K.In base) (TB : Top p loose mean mg mb base) (D : KtsDicts (outer.filterMap (·.frame)) h₀) (T0 : KtsTurn (outer.filterMap (·.frame)) g₀ h₀)
    (hA : A.frames = some (env :: outer)) (hf : env.frame = some L) (hke : env.scope.kind = .function)
    (ho : K.lookup f = some ⟨oc, od, .func (fnOf name qual params body scope dV kV doc pm an cdv ct), osl⟩) (hcd : codeIn K cdv qual = true) (hroom : A.depth < recursionLimit)
    (hbind : BindsTo s (fnOf name qual params body scope dV kV doc pm an cdv ct) args binds) (hkind : (binds.all fun y => scope.names.lookup y.1 == some .local || scope.names.lookup y.1 == some .cell) = true)
    (hnd : ((cellsFrom 0 scope.names []).map (·.1)).Nodup)
    (h : ∀ g L' h₁ tk cells, Fr h₀ L g m → Fr g L' h₁ (bindL (envOfC qual scope L' f cdv).kindOf binds fun _ => none) → News g L' h₁ (cells ++ news) →
      CellsAre (bindC (envOfC qual scope L' f cdv).kindOf binds fun _ => none) (cellsFrom (L' + 1) scope.names []) cells → Below A base (env :: outer) g → K.In g → Top p loose mean mg mb g → KtsDicts ((env :: outer).filterMap (·.frame)) g → (∀ p ∈ news, p.1 < L') →
      wpAny (model prog w) (A.deeper (envOfC qual scope L' f cdv)) (execs body (envOfC qual scope L' f cdv))
        (fun fl s' => LeaveS ((env :: outer).filterMap (·.frame)) A₀ base outer K p loose mean mg mb g₀ h₀ L m g R (match fl with | .ret v => v | _ => .none) s')
        (fun e s' => wpAny (model prog w) (A.deeper (envOfC qual scope L' f cdv)) (leaving (envOfC qual scope L' f cdv) e) (fun _ s'' => R (.error e) s'') (fun e' s'' => R (.error e') s'') s')
        { s with heap := h₁, toks := tk })
    (hco : scope.isCoroutine = false) (hgen : scope.isGenerator = false) (hk : scope.kind = .function) : codeAny (model prog w) A (.call (.ref f) args) R s := by
  obtain ⟨FG, BG, st, DG, lv⟩ := groundXS (R := R) B F N XB TB D T0 hA hf hke
  have X := X₀.keeps F.keep
  refine codeAny_call_function hroom (X _ _ ho) rfl hco hgen rfl (codeRec_of X hcd) (hbind _ _ _ _ ?_)
  refine wpAny_newFunctionEnv_cells hk (kindsX hkind _) fun env' he s' x => ?_
  subst he
  refine ⟨(T.nolimit.keeps F.keep).keeps x.toInCall.keep, codeAny_func ?_⟩
  obtain ⟨h₁, tk, rfl, _⟩ := x.done
  have hk₁ := x.toInCall.keep
  obtain ⟨cells, NC, Y⟩ := Cl.news (h₀ := s.heap) (Nat.le_refl _) fun n c hm => ⟨x.cell n c (lookup_of_mem_nodup (cellsFrom_names scope.names 0 (s.heap.objs.size + 1) [] [] rfl ▸ hnd) hm), x.above n c hm⟩
  refine wpAny_mono (h _ s.heap.objs.size h₁ tk cells FG ⟨x.toInCall.ns, fun b o e => hk₁ b o (of_hideAll _ e), Nat.le_of_eq (hideAll_size _ _)⟩ (fun p hp => ?_) Y BG (X₀.keeps st) (T.keeps st) DG (fun p hp => Heap.lt_size (N p hp).1)) (fun fl s' hl => lv _ _ hl) fun _ _ y => y
  rcases List.mem_append.mp hp with hp | hp
  · refine ⟨(NC p hp).1, (NC p hp).2.1, ?_⟩
    cases q : (hideAll s.heap (news.map (·.1))).get? p.1 with
    | none => rfl
    | some o => have := of_hideAll _ q; rw [(NC p hp).2.2] at this; cases this
  · exact ⟨hk₁ _ _ (N p hp).1, Nat.ne_of_lt (Heap.lt_size (N p hp).1), hideAll_none _ (List.mem_map_of_mem hp)⟩
end
theorem my_exget {prog : Program} {w : World} {A : Around} {s : Shared} {K : Frag} {e D L : Addr} {h₀ : Heap} {m : Str → Option Value} {news : Led} {E : Value → Shared → Prop} {oe : Obj} {vs : Array Value} {sp : Int} {expr : Bool} {Q : Value → Shared → Prop}
    (F : Fr h₀ L s.heap m) (X₀ : K.In h₀) (N : News h₀ L s.heap ((e, oe) :: news)) (h1 : oe.cls = .ref 45) (h2 : oe.dict = some D) (h3 : oe.data = .fields vs) (S : SpotAt w D sp news)
    (hg : findIn K (.ref 45) "__getattribute__" = some (some (.builtin "BaseException.__getattribute__"))) (hng : findIn K (.ref 45) "__getattr__" = some none) (hb : mroIn K 45 (.type "BaseException") = some true)
    (hf : ∀ u1 u2 t2 v, findObj K 45 (some (dictOf [⟨PyData.keyHash w.params (Str.ofString "message"), .str (Str.ofString "message") u1, v⟩, ⟨PyData.keyHash w.params (Str.ofString "spot"), .str (Str.ofString "spot") u2, .int sp t2⟩] 2)) (Str.ofString "spot") = some (.value (.int sp t2))) (h : ∀ t2 tk, Q (.int sp t2) { s with toks := tk }) : wpAny (model prog w) A (getAttr (.ref e) (Str.ofString "spot") expr) Q E s := by
  obtain ⟨u1, u2, t2, v, hm⟩ := S
  have I : PySem.W.InstAt s.heap e oe 45 (some (dictOf [⟨PyData.keyHash w.params (Str.ofString "message"), .str (Str.ofString "message") u1, v⟩, ⟨PyData.keyHash w.params (Str.ofString "spot"), .str (Str.ofString "spot") u2, .int sp t2⟩] 2)) := by
    refine ⟨(N _ (.head _)).1, h1, ?_, ?_⟩
    · unfold notCls
      rw [h3]
    · rw [h2]
      exact (N _ (.tail _ hm)).1
  exact ex_get (X₀.keeps F.keep) I hg hng hb (hf u1 u2 t2 v) rfl (h t2 _)
theorem my_exget_t {w : World} {sp : Int} : ∀ (u1 u2 t2 : Tok) (v : Value), findObj (kk.heap_1 w.params) 45 (some (dictOf [⟨PyData.keyHash w.params (Str.ofString "message"), .str (Str.ofString "message") u1, v⟩, ⟨PyData.keyHash w.params (Str.ofString "spot"), .str (Str.ofString "spot") u2, .int sp t2⟩] 2)) (Str.ofString "spot") = some (.value (.int sp t2)) := by
  intro u1 u2 t2 v
  first | k_is | rfl | kernel_rfl
theorem hC45 {w : World} : List.lookup 45 (kk.heap_1 w.params) = some (excClassObj (Str.ofString "GrammarFault") (Str.ofString "GrammarFault") 45 44 [.ref 32] [.ref 32, .type "Exception", .type "BaseException", .type "object"] true [] [] false none none (some (.ref 36)) none (some (.str (Str.ofString "GrammarFault") 221)) (some (.str (Str.ofString "GrammarFault") 229)) (some (.bool true)) "Exception.__new__") := by
  first | rfl | kernel_rfl
-- from 36_toldw.lean
theorem my_join {prog : Program} {w : World} {A : Around} {E : Value → Shared → Prop} {s : Shared} {D : Addr} {items : Array Value} {y fig : Str} {t : Tok} {p : Str → Bool} {Q : Value → Shared → Prop} (hl : s.heap.IsList D items) (hc : CarriedAll items.toList ((List.filter p (signs y)).map PyData.str)) (hy : y.length ≤ 100) (e : Txt.join (Str.ofString "") (List.filter p (signs y)) = fig)
    (h : ∀ t' k, Q (.str fig t') { s with toks := k }) : wpAny (model prog w) A (call (.builtin "str.join") [.str (Str.ofString "") t, .ref D]) Q E s :=
  join_signsW hl (by rw [List.nil_append]; exact hc) (by omega) (by decide +kernel) (by rw [e]; exact h)
-- from 37_dat.lean
section
open PySem.Spec
variable {h₀ h : Heap} {L : Addr} {news : Led}
mutual
theorem d_in (N : News h₀ L h news) : ∀ {v : Value} {d : Dat} (n : Nat), DatIn news v d → dOk n d = true → ∃ as, Reads h v (kqdP d) as
  | _, _, _, .none, _ => ⟨_, Reads.none⟩
  | _, _, _, .bool b, _ => ⟨_, Reads.bool b⟩
  | _, _, _, .int i t, _ => ⟨_, Reads.int i t⟩
  | _, _, _, .str x t, _ => ⟨_, Reads.str x t⟩
  | _, _, n, .bytes _ _, hk => by cases n <;> simp [dOk] at hk
  | _, _, 0, .tuple _ _, hk => by simp [dOk] at hk
  | _, _, n, .list _ _, hk => by cases n <;> simp [dOk] at hk
  | _, _, n + 1, .tuple hm r, hk => by
    obtain ⟨as, q⟩ := d_all N n r (by simpa [dOk] using hk)
    rw [kqdP]
    exact ⟨as, reads_tuple_at (N.get hm) rfl rfl (by simpa using q)⟩
theorem d_all (N : News h₀ L h news) : ∀ {vs : List Value} {ds : List Dat} (n : Nat), DatAll news vs ds → (∀ d ∈ ds, dOk n d = true) → ∃ as, ReadsAll h vs (kqdPs ds) as
  | _, _, _, .nil, _ => ⟨_, ReadsAll.nil⟩
  | _, _, n, .cons hd r, hk => by
    obtain ⟨as, q⟩ := d_in N n hd (hk _ (.head _))
    obtain ⟨bs, p⟩ := d_all N n r fun d hm => hk d (.tail _ hm)
    rw [kqdPs]
    exact ⟨_, ReadsAll.cons q p⟩
end
theorem d_lay : ∀ (n : Nat) (d : Dat), dOk n d = true → (kqdP d).canLay0 = true ∧ (kqdP d).depth ≤ n ∧ PyData.eqv (kqdP d) (kqdP d) = true := by
  have all : ∀ (n : Nat), (∀ d, dOk n d = true → (kqdP d).canLay0 = true ∧ (kqdP d).depth ≤ n ∧ PyData.eqv (kqdP d) (kqdP d) = true) → ∀ ds : List Dat, (∀ d ∈ ds, dOk n d = true) → PyData.canLayAll0 (kqdPs ds) = true ∧ PyData.depthAll (kqdPs ds) ≤ n ∧ PyData.eqvAll (kqdPs ds) (kqdPs ds) = true := by
    intro n ih ds
    induction ds with
    | nil => intro _; simp [kqdPs, PyData.canLayAll0, PyData.depthAll, PyData.eqvAll]
    | cons d ds hi =>
      intro h
      have h1 := ih d (h d (.head _))
      have h2 := hi fun e he => h e (.tail _ he)
      simp only [kqdPs, PyData.canLayAll0, PyData.depthAll, PyData.eqvAll, h1.1, h2.1, h1.2.2, h2.2.2, Bool.and_self, true_and, and_true]
      have a1 := h1.2.1
      have a2 := h2.2.1
      omega
  intro n
  induction n with
  | zero =>
    intro d h
    cases d <;> simp_all [dOk, kqdP, PyData.canLay0, PyData.depth, PyData.eqv]
  | succ n ih =>
    intro d h
    cases d with
    | none => simp [kqdP, PyData.canLay0, PyData.depth, PyData.eqv]
    | bool b => simp [kqdP, PyData.canLay0, PyData.depth, PyData.eqv]
    | int i => simp [kqdP, PyData.canLay0, PyData.depth, PyData.eqv]
    | str x => simp [dOk] at h; simp [kqdP, PyData.canLay0, PyData.depth, PyData.eqv, h]
    | bytes b => simp [dOk] at h
    | tuple ds =>
      have q := all n ih ds (by simpa [dOk] using h)
      have q2 := q.2.1
      simp only [kqdP, PyData.canLay0, PyData.depth, PyData.eqv, q.1, q.2.2, true_and, and_true]
      omega
    | list ds => simp [dOk] at h
end
section
open PySem.Spec
variable {prog : Program} {w : World} {A : Around} {E : Value → Shared → Prop} {s : Shared} {h₀ : Heap} {L : Addr} {news : Led} {u v : Value} {d : Dat} {Q : Value → Shared → Prop}
theorem eq_dat (N : News h₀ L s.heap news) (hv : DatIn news v d) (hu : DatIn news u d) (hd : dOk 60 d = true) (hun : A.units + 64 < cLine) (h : Q (.bool true) s) : wpAny (model prog w) A (compareOp .Eq v u) Q E s := by
  obtain ⟨as, ra⟩ := d_in N 60 hv hd
  obtain ⟨bs, rb⟩ := d_in N 60 hu hd
  obtain ⟨l1, l2, l3⟩ := d_lay 60 d hd
  have sh : PySem.SeqAt.shaped (kqdP d) = true := by unfold PySem.SeqAt.shaped; rw [l1, Bool.true_and]; exact decide_eq_true (by omega)
  exact eq_dataH ra rb sh sh hun (by rw [l3]; exact h)
theorem ne_dat (N : News h₀ L s.heap news) (hv : DatIn news v d) (hu : DatIn news u d) (hd : dOk 60 d = true) (hun : A.units + 64 < cLine) (h : Q (.bool false) s) : wpAny (model prog w) A (compareOp .NotEq v u) Q E s := by
  obtain ⟨as, ra⟩ := d_in N 60 hv hd
  obtain ⟨bs, rb⟩ := d_in N 60 hu hd
  obtain ⟨l1, l2, l3⟩ := d_lay 60 d hd
  have sh : PySem.SeqAt.shaped (kqdP d) = true := by unfold PySem.SeqAt.shaped; rw [l1, Bool.true_and]; exact decide_eq_true (by omega)
  exact ne_dataH ra rb sh sh hun (by rw [l3]; exact h)
end

-- from 40_heardl.lean
section
open PySem.Spec
theorem leave_F2X {M : Model} {A : Around} {E : Value → Shared → Prop} {s' : Shared} {base g g₂ : Heap} {env : Env} {outer : List Env} {L e D : Addr} {m : Str → Option Value} {Q : Unit → Shared → Prop} {news : Led} (hf : env.frame = some L) (K : Below A base outer g) (F : Fr g L g₂ m) (R : RaisedF base g₂ (env :: outer) e D news s'.heap) (hsm : g₂.UpToSlots s'.heap)
    (hQ : ∀ h', RaisedF base g outer e D news h' → g.UpToSlots h' → Q () { s' with heap := h' }) :
    wpAny M (A.deeper env) (leaving env (.ref e)) Q E s' := by
  obtain ⟨B, a0, hB, hBG, hl, f1, f2, f3, f4⟩ := R
  unfold leaving
  refine wpAny_bind (note_next (Around.frames_deeper K.stack) f3 hf f4 f1 f2 fun h1 n1 => ?_)
  obtain ⟨x1, x2, x3, x4⟩ := n1
  refine flight_none (s := { s' with heap := h1 }) x1 x2 x3 fun h2 n2 => ?_
  obtain ⟨y1, ⟨_, _, y2⟩, y3, y4⟩ := n2
  exact hQ h2 ⟨B, a0, hB, fun b o q nm => hBG b o (F.keep b o q) (fun hm => by
    rcases kts_memX hf hm with z | z
    · rw [z, kts_self F] at q
      cases q
    · exact nm z), fun q hq => ⟨(hl q hq).1, kts_none F.keep (hl q hq).2.1, (hl q hq).2.2⟩, y1, f2, y2, y3⟩ ((Heap.UpToSlots.of_keeps F.keep).trans (hsm.trans (x4.trans y4)))
end
-- from 42_paths.lean
section
open PySem.Spec
theorem compT_ind {prog : Program} {w : World} {A : Around} {h₀ : Heap} {L : Addr} {m : Str → Option Value} {env : Env} {ct elt : Expr} {x : Str} {scope : Scope} {cl : List (Str × Addr)} {s : Shared} {S : Led → Prop} {P : Nat → Value → Prop} {Fin : List Value → Led → Prop} {n : Nat} {news : Led}
    (I : Nat → List Value → Led → Prop) (h0 : I 0 [] news)
    (step : ∀ i ys nw, i < n → I i ys nw → ∀ v K oK C oC D m₂ h tk (E' : Value → Shared → Prop), P i v → LCg.NsObj oC m₂ → m₂ x = some v → Fr h₀ L h m → News h₀ L h ((K, oK) :: (C, oC) :: (D, LCg.lst ys) :: nw) → LCg.Off3 K C D nw → ((@Ne Nat K C) ∧ (@Ne Nat K D) ∧ (@Ne Nat C D)) →
      wpAny (model prog w) A (isTrue ct (compEnvC scope cl C env) (eval ct (compEnvC scope cl C env))) (fun ok s' => if ok = true then
        wpAny (model prog w) A (eval elt (compEnvC scope cl C env)) (LCg.CompEnd h₀ L m { s with heap := h, toks := tk } K oK C oC D (LCg.lst ys) S (fun y news' => I (i + 1) (ys ++ [y]) news')) E' s'
        else LCg.CompEnd h₀ L m { s with heap := h, toks := tk } K oK C oC D (LCg.lst ys) S (fun _ news' => I (i + 1) ys news') Value.none s') E' { s with heap := h, toks := tk })
    (fin : ∀ ys nw, I n ys nw → Fin ys nw) : LCt.CompRestT prog w A h₀ L m env ct elt x scope cl s S P Fin n 0 [] news := by
  have key : ∀ k i ys nw, i + k = n → I i ys nw → LCt.CompRestT prog w A h₀ L m env ct elt x scope cl s S P Fin k i ys nw := by
    intro k
    induction k with
    | zero =>
      intro i ys nw e hI
      obtain rfl : i = n := (by omega)
      exact LCt.CompRestT.zero (fin _ _ hI)
    | succ k ih =>
      intro i ys nw e hI
      refine LCt.CompRestT.succ ?_
      intro v K oK C oC D m₂ h tk E' hv hC hx F N off ne
      refine wpAny_mono (step i ys nw (by omega) hI v K oK C oC D m₂ h tk E' hv hC hx F N off ne) (fun ok s' hce => ?_) fun _ _ e => e
      by_cases hk : ok = true
      · rw [if_pos hk] at hce ⊢
        refine wpAny_mono hce (fun y s'' hce => ?_) fun _ _ e => e
        obtain ⟨h', tk', news', e', F', N', off', hS, r⟩ := hce
        exact ⟨h', tk', news', e', F', N', off', hS, ih (i + 1) _ _ (by omega) r⟩
      · rw [if_neg hk] at hce ⊢
        obtain ⟨h', tk', news', e', F', N', off', hS, r⟩ := hce
        exact ⟨h', tk', news', e', F', N', off', hS, ih (i + 1) _ _ (by omega) r⟩
  exact key n 0 [] news (by omega) h0
end
/-! Pure values, a pure store, and a transformer for each construct of the text: what it makes of a pure state, with a continuation for its value and one for a fault. -/
inductive PV where
  | undef
  | d (x : Dat)
  | g (i : Nat)
  | fn (a : Addr)
  | lam (j : Nat) (x : Dat)
  | rows (i : Nat)
  | tabl (xs : List Str)
inductive PObj where
  | lst (ds : List Dat)
  | bk (rs : List (List Dat))
  | wd (rows : List Dat) (ix deep : Int)
  | cell (x : Option Dat)
  | tab (made : List Nat)
  | gone
structure St where
  m : List PV
  g : List PObj
inductive PFlow where
  | next | brk | cont
  | ret (v : PV)
noncomputable abbrev PK := PV → St → Prop
noncomputable abbrev XK := Int → List PObj → Prop
noncomputable abbrev CK := PV → List PObj → Prop
noncomputable abbrev CX := Int → List PObj → Prop
noncomputable abbrev CT := PV → List PV → List PObj → CK → CX → Prop
noncomputable abbrev ETr := CT → St → PK → XK → Prop
noncomputable abbrev EsTr := CT → St → (List PV → St → Prop) → XK → Prop
noncomputable abbrev TTr := CT → St → (Bool → St → Prop) → XK → Prop
noncomputable abbrev STr := CT → St → (PFlow → St → Prop) → XK → Prop
noncomputable abbrev FTr := CT → List PV → List PObj → CK → CX → Prop
noncomputable def onT (b : Bool) (k : Prop) : Prop := match b with
  | true => k
  | false => False
noncomputable def onSome {α : Type} : Option α → (α → Prop) → Prop
  | some x, k => k x
  | none, _ => False
noncomputable def asD : PV → (Dat → Prop) → Prop
  | .d x, k => k x
  | _, _ => False
noncomputable def asG : PV → (Nat → Prop) → Prop
  | .g i, k => k i
  | _, _ => False
noncomputable def dInt : Dat → (Int → Prop) → Prop
  | .int i, k => k i
  | _, _ => False
noncomputable def dStr : Dat → (Str → Prop) → Prop
  | .str i, k => k i
  | _, _ => False
noncomputable def dBool : Dat → (Bool → Prop) → Prop
  | .bool i, k => k i
  | _, _ => False
noncomputable def dTup : Dat → (List Dat → Prop) → Prop
  | .tuple i, k => k i
  | _, _ => False
noncomputable def dLst : Dat → (List Dat → Prop) → Prop
  | .list i, k => k i
  | _, _ => False
noncomputable abbrev asInt (v : PV) (k : Int → Prop) : Prop := asD v fun x => dInt x k
noncomputable abbrev asStr (v : PV) (k : Str → Prop) : Prop := asD v fun x => dStr x k
noncomputable abbrev asBool (v : PV) (k : Bool → Prop) : Prop := asD v fun x => dBool x k
noncomputable abbrev asTup (v : PV) (k : List Dat → Prop) : Prop := asD v fun x => dTup x k
noncomputable abbrev asLst (v : PV) (k : List Dat → Prop) : Prop := asD v fun x => dLst x k
noncomputable def oLst : PObj → (List Dat → Prop) → Prop
  | .lst ds, k => k ds
  | _, _ => False
noncomputable def oBk : PObj → (List (List Dat) → Prop) → Prop
  | .bk ds, k => k ds
  | _, _ => False
noncomputable def oWd : PObj → (List Dat → Int → Int → Prop) → Prop
  | .wd r i e, k => k r i e
  | _, _ => False
noncomputable def oCell : PObj → (Option Dat → Prop) → Prop
  | .cell x, k => k x
  | _, _ => False
noncomputable abbrev gLst (st : St) (i : Nat) (k : List Dat → Prop) : Prop := onSome st.g[i]? fun o => oLst o k
noncomputable abbrev gBk (st : St) (i : Nat) (k : List (List Dat) → Prop) : Prop := onSome st.g[i]? fun o => oBk o k
noncomputable abbrev gWd (st : St) (i : Nat) (k : List Dat → Int → Int → Prop) : Prop := onSome st.g[i]? fun o => oWd o k
noncomputable def allD : List PV → (List Dat → Prop) → Prop
  | [], k => k []
  | v :: r, k => asD v fun x => allD r fun xs => k (x :: xs)
noncomputable def allStr : List Dat → (List Str → Prop) → Prop
  | [], k => k []
  | v :: r, k => dStr v fun x => allStr r fun xs => k (x :: xs)
noncomputable def St.setM (st : St) (i : Nat) (v : PV) : St := { st with m := st.m.set i v }
noncomputable def St.setG (st : St) (i : Nat) (o : PObj) : St := { st with g := st.g.set i o }
noncomputable def St.new (st : St) (o : PObj) : St := { st with g := st.g ++ [o] }
noncomputable def St.setMs (st : St) : List Nat → List PV → St
  | i :: is, v :: vs => (st.setM i v).setMs is vs
  | _, _ => st
noncomputable def isDef : PV → Bool
  | .undef => false
  | _ => true
noncomputable def getM (m : List PV) (i : Nat) (k : PV → Prop) : Prop := onSome m[i]? fun v => onT (isDef v) (k v)
/-! equality of datas -/
mutual
noncomputable def deqb : Dat → Dat → Bool
  | .none, .none => true
  | .bool a, .bool b => a == b
  | .int a, .int b => a == b
  | .str a, .str b => a == b
  | .tuple a, .tuple b => deqbs a b
  | .list a, .list b => deqbs a b
  | _, _ => false
noncomputable def deqbs : List Dat → List Dat → Bool
  | [], [] => true
  | a :: as, b :: bs => deqb a b && deqbs as bs
  | _, _ => false
end
/-! calls: the objects that are handed over go first -/
noncomputable def selV : List PV → Nat → List Nat × List PV
  | [], _ => ([], [])
  | v :: r, n => match v with
    | .g i => let p := selV r (n + 1); (i :: p.1, .g n :: p.2)
    | v => let p := selV r n; (p.1, v :: p.2)
noncomputable def nodupB : List Nat → Bool
  | [] => true
  | a :: r => !(r.any fun b => Nat.beq a b) && nodupB r
noncomputable def getAll (g : List PObj) : List Nat → Option (List PObj)
  | [] => some []
  | i :: r => match g[i]? with
    | some o => match getAll g r with
      | some os => some (o :: os)
      | none => none
    | none => none
noncomputable def wback : List PObj → List Nat → List PObj → List PObj
  | g, [], _ => g
  | g, i :: is, os => match os with
    | o :: os => wback (g.set i o) is os
    | [] => g
termination_by structural _ is => is
noncomputable def backG (g : List PObj) (sel : List Nat) (P : PV → List PObj → Prop) (j : Nat) (g' : List PObj) : Option Nat → Prop
  | some i => P (.g i) (wback g sel g')
  | none => onSome g'[j]? fun o => P (.g g.length) (wback g sel g' ++ [o])
noncomputable def backK (g : List PObj) (sel : List Nat) (P : PV → List PObj → Prop) : CK
  | .d x, g' => P (.d x) (wback g sel g')
  | .g j, g' => backG g sel P j g' sel[j]?
  | _, _ => False
noncomputable def isArg : PV → Bool
  | .undef => false
  | .rows _ => false
  | .tabl _ => false
  | _ => true
noncomputable def fnB (a : Addr) : Bool := [55, 62, 69, 76, 83, 90, 96, 103, 110, 117, 124].any fun b => Nat.beq a b
noncomputable def isFn : PV → Bool
  | .fn a => fnB a
  | .lam _ _ => true
  | _ => false
noncomputable def callH (C : CT) (hid : List Nat) (F : PV) (vs : List PV) (st : St) (P : PK) (X : XK) : Prop :=
  let p := selV vs hid.length
  let sel := hid ++ p.1
  onT (nodupB sel && vs.all isArg) (onSome (getAll st.g sel) fun os => C F p.2 os (backK st.g sel fun v g' => P v ⟨st.m, g'⟩) fun sp g' => X sp (wback st.g sel g'))
noncomputable abbrev callK (C : CT) (F : PV) (vs : List PV) (st : St) (P : PK) (X : XK) : Prop := callH C [] F vs st P X
namespace Es
noncomputable def nil : EsTr := fun _ st P _ => P [] st
noncomputable def cons (t : ETr) (ts : EsTr) : EsTr := fun C st P X => t C st (fun v st => ts C st (fun vs st => P (v :: vs) st) X) X
end Es
/-! looks at a value's parts -/
noncomputable def itemK (ds : List Dat) (k : Int) (P : Dat → Prop) : Prop := onT (Nat.ble ds.length 1000) (onSome (seqIndex? k ds.length) fun j => onSome ds[j]? P)
noncomputable def seqD : Dat → (List Dat → Prop) → Prop
  | .list ds, k => k ds
  | _, _ => False
noncomputable def seqK (st : St) : PV → (List Dat → Prop) → Prop
  | .d x, k => seqD x k
  | .g i, k => gLst st i k
  | _, _ => False
noncomputable def subD : Dat → Int → (Dat → Prop) → Prop
  | .tuple ds, i, k => itemK ds i k
  | .list ds, i, k => itemK ds i k
  | .str s, i, k => onT (decide (-(s.length : Int) ≤ i) && decide (i < s.length) && Nat.ble s.length 1000) (k (.str (Txt.item s i)))
  | _, _, _ => False
noncomputable def subK (st : St) : PV → Int → (Dat → Prop) → Prop
  | .d x, i, k => subD x i k
  | .g j, i, k => gLst st j fun ds => itemK ds i k
  | .rows j, i, k => gWd st j fun ds _ _ => itemK ds i k
  | _, _, _ => False
noncomputable def eqTup (a b : List Dat) (k : Bool → Prop) : Prop := match b with
  | [] => k a.isEmpty
  | _ :: _ => onT (deqbs a b && dOk 60 (.tuple a)) (k true)
noncomputable def isStrB : Dat → Bool
  | .str x => PyData.strOk x
  | _ => false
noncomputable def eqLst (a b : List Dat) (k : Bool → Prop) : Prop := match b with
  | [] => k a.isEmpty
  | _ :: _ => match a.all isStrB && b.all isStrB with
    | true => k (deqbs a b)
    | false => onT (deqbs a b && a.all (dOk 60)) (k true)
noncomputable def eqD : Dat → Dat → (Bool → Prop) → Prop
  | .int a, y, k => dInt y fun b => k (a == b)
  | .str a, y, k => dStr y fun b => k (a == b)
  | .tuple a, y, k => dTup y fun b => eqTup a b k
  | .list a, y, k => dLst y fun b => eqLst a b k
  | _, _, _ => False
noncomputable def emptyO : PObj → (Bool → Prop) → Prop
  | .lst ds, k => k ds.isEmpty
  | .bk rs, k => k rs.isEmpty
  | _, _ => False
noncomputable def eqK (st : St) : PV → PV → (Bool → Prop) → Prop
  | .d x, y, k => asD y fun y => eqD x y k
  | .g i, y, k => asLst y fun b => onT b.isEmpty (onSome st.g[i]? fun o => emptyO o k)
  | _, _, _ => False
noncomputable def addD : Dat → Dat → (Dat → Prop) → Prop
  | .int a, y, k => dInt y fun b => k (.int (a + b))
  | .str a, y, k => dStr y fun b => onT (Nat.ble (a.length + b.length) 1000) (k (.str (a ++ b)))
  | .tuple a, y, k => dTup y fun b => onT (Nat.ble 1 a.length && Nat.ble 1 b.length && Nat.ble (a.length + b.length) 100) (k (.tuple (a ++ b)))
  | .list a, y, k => dLst y fun b => onT (Nat.ble (a.length + b.length) 1000) (k (.list (a ++ b)))
  | _, _, _ => False
noncomputable def addK (st : St) : PV → PV → (Dat → Prop) → Prop
  | .d x, y, k => asD y fun y => addD x y k
  | .g i, y, k => asLst y fun b => gLst st i fun a => onT (Nat.ble (a.length + b.length) 1000) (k (.list (a ++ b)))
  | _, _, _ => False
noncomputable def lenD : Dat → (Nat → Prop) → Prop
  | .tuple ds, k => onT (Nat.ble ds.length 1000) (k ds.length)
  | .list ds, k => onT (Nat.ble ds.length 1000) (k ds.length)
  | .str s, k => onT (Nat.ble s.length 1000) (k s.length)
  | _, _ => False
noncomputable def lenO : PObj → (Nat → Prop) → Prop
  | .lst ds, k => k ds.length
  | .bk rs, k => k rs.length
  | _, _ => False
noncomputable def lenK (st : St) : PV → (Nat → Prop) → Prop
  | .d x, k => lenD x k
  | .g i, k => onSome st.g[i]? fun o => lenO o k
  | .rows i, k => gWd st i fun ds _ _ => k ds.length
  | _, _ => False
noncomputable def inStr (x y : Str) : Bool := !(Builtin.Str.occurrences y x 0 y.length 1).isEmpty
noncomputable def flatD : Dat → Bool
  | .none => true
  | .str _ => true
  | _ => false
noncomputable def inDats (x : Dat) : List Dat → Bool
  | [] => false
  | y :: r => deqb y x || inDats x r
noncomputable def inY (x : Dat) : PV → (Bool → Prop) → Prop
  | .d t, k => dTup t fun ds => onT (flatD x && ds.all flatD) (k (inDats x ds))
  | .tabl xs, k => dStr x fun s => k (xs.any fun y => y == s)
  | _, _ => False
noncomputable def isNoD : Dat → (Bool → Prop) → Prop
  | .none, k => k true
  | .str _, k => k false
  | _, _ => False
noncomputable def takeD : Dat → Int → (Dat → Prop) → Prop
  | .list ds, i, k => onT (decide (0 ≤ i) && Nat.ble ds.length 9) (k (.list (ds.take i.toNat)))
  | .str s, i, k => onT (Nat.ble s.length 1000) (k (.str (Txt.slice s none (some i))))
  | _, _, _ => False
/-! expressions -/
namespace E
noncomputable def dat (x : Dat) : ETr := fun _ st P _ => P (.d x) st
noncomputable def val (v : PV) : ETr := fun _ st P _ => P v st
noncomputable def loc (i : Nat) : ETr := fun _ st P _ => getM st.m i fun v => P v st
noncomputable def cel (i : Nat) : ETr := fun _ st P _ => getM st.m i fun v => asG v fun j => onSome st.g[j]? fun o => oCell o fun x => onSome x fun x => P (.d x) st
noncomputable def callT (F : PV) (i : Nat) : ETr := fun C st P X => callH C [i] F [] st P X
noncomputable def callLam (F : PV) (j i : Nat) (t : ETr) : ETr := fun C st P X => cel i C st (fun v st => asD v fun x => t C st (fun u st => callK C F [.lam j x, u] st P X) X) X
noncomputable def tup (ts : EsTr) : ETr := fun C st P X => ts C st (fun vs st => allD vs fun ds => onT (Nat.ble ds.length 9) (P (.d (.tuple ds)) st)) X
noncomputable def lstF (ts : EsTr) : ETr := fun C st P X => ts C st (fun vs st => allD vs fun ds => onT (Nat.ble ds.length 30) (P (.d (.list ds)) st)) X
noncomputable def lstO (ts : EsTr) : ETr := fun C st P X => ts C st (fun vs st => allD vs fun ds => onT (Nat.ble ds.length 9) (P (.g st.g.length) (st.new (.lst ds)))) X
noncomputable def newBk : ETr := fun _ st P _ => P (.g st.g.length) (st.new (.bk []))
noncomputable def call (F : PV) (ts : EsTr) : ETr := fun C st P X => ts C st (fun vs st => callK C F vs st P X) X
noncomputable def callV (i : Nat) (ts : EsTr) : ETr := fun C st P X => getM st.m i fun F => onT (isFn F) (ts C st (fun vs st => callK C F vs st P X) X)
noncomputable def meth (i : Nat) (f : Addr) (ts : EsTr) : ETr := fun C st P X => getM st.m i fun o => asG o fun j => gWd st j fun _ _ _ => ts C st (fun vs st => callK C (.fn f) (o :: vs) st P X) X
noncomputable def ifx (t : TTr) (a b : ETr) : ETr := fun C st P X => t C st (fun c st => match c with | true => a C st P X | false => b C st P X) X
noncomputable def two (a b : ETr) (K : St → PV → PV → (Dat → Prop) → Prop) : ETr := fun C st P X => a C st (fun x st => b C st (fun y st => K st x y fun r => P (.d r) st) X) X
noncomputable def one (a : ETr) (K : St → PV → (Dat → Prop) → Prop) : ETr := fun C st P X => a C st (fun x st => K st x fun r => P (.d r) st) X
noncomputable def sub (a b : ETr) : ETr := two a b fun st x y k => asInt y fun i => subK st x i k
noncomputable def lastAt (a b : ETr) : ETr := two a b fun st x y k => asG x fun i => gBk st i fun rs => onSome rs.head? fun ds => asInt y fun j => itemK ds j k
noncomputable def lastTo (a : ETr) (n : Int) : ETr := one a fun st x k => asG x fun i => gBk st i fun rs => onSome rs.head? fun ds => onT (decide (0 ≤ n)) (k (.list (ds.take n.toNat)))
noncomputable def takeTo (a b : ETr) : ETr := two a b fun _ x y k => asInt y fun i => asD x fun x => takeD x i k
noncomputable def dropTo (a b : ETr) : ETr := two a b fun _ x y k => asInt y fun i => asStr x fun s => onT (Nat.ble s.length 1000) (k (.str (Txt.slice s (some i) none)))
noncomputable def add (a b : ETr) : ETr := two a b addK
noncomputable def minus (a b : ETr) : ETr := two a b fun _ x y k => asInt x fun i => asInt y fun j => k (.int (i - j))
noncomputable def mul (a b : ETr) : ETr := two a b fun _ x y k => asInt x fun i => asInt y fun j => ∃ _ : IntMulOk i j, k (.int (i * j))
noncomputable def fdiv (a b : ETr) : ETr := two a b fun _ x y k => asInt x fun i => asInt y fun j => onT (decide (0 < j) && decide (j < 1073741824)) (k (.int (Int.fdiv i j)))
noncomputable def fmod (a b : ETr) : ETr := two a b fun _ x y k => asInt x fun i => asInt y fun j => onT (decide (0 < j)) (k (.int (Int.fmod i j)))
noncomputable def eq (a b : ETr) : ETr := two a b fun st x y k => eqK st x y fun r => k (.bool r)
noncomputable def ne (a b : ETr) : ETr := two a b fun st x y k => eqK st x y fun r => k (.bool (!r))
noncomputable def lt (a b : ETr) : ETr := two a b fun _ x y k => asInt x fun i => asInt y fun j => k (.bool (decide (i < j)))
noncomputable def gt (a b : ETr) : ETr := two a b fun _ x y k => asInt x fun i => asInt y fun j => k (.bool (decide (j < i)))
noncomputable def ge (a b : ETr) : ETr := two a b fun _ x y k => asInt x fun i => asInt y fun j => k (.bool (decide (j ≤ i)))
noncomputable def isNo (a b : ETr) : ETr := two a b fun _ x y k => asD x fun x => asD y fun y => isNoD x fun b => match y with | .none => k (.bool b) | _ => False
noncomputable def isNot (a b : ETr) : ETr := two a b fun _ x y k => asD x fun x => asD y fun y => isNoD x fun b => match y with | .none => k (.bool (!b)) | _ => False
noncomputable def inT (a b : ETr) : ETr := two a b fun _ x y k => asD x fun x => inY x y fun r => k (.bool r)
noncomputable def ninT (a b : ETr) : ETr := two a b fun _ x y k => asD x fun x => inY x y fun r => k (.bool (!r))
noncomputable def inS (a b : ETr) : ETr := two a b fun _ x y k => asStr x fun x => asStr y fun y => k (.bool (inStr x y))
noncomputable def and (a b : ETr) : ETr := fun C st P X => a C st (fun v st => asBool v fun c => match c with | true => b C st P X | false => P (.d (.bool false)) st) X
noncomputable def or (a b : ETr) : ETr := fun C st P X => a C st (fun v st => asBool v fun c => match c with | true => P (.d (.bool true)) st | false => b C st P X) X
noncomputable def len (a : ETr) : ETr := one a fun st x k => lenK st x fun n => k (.int (n : Int))
noncomputable def min2 (a b : ETr) : ETr := two a b fun _ x y k => asInt x fun i => asInt y fun j => k (.int (if j < i then j else i))
noncomputable def max2 (a b : ETr) : ETr := two a b fun _ x y k => asInt x fun i => asInt y fun j => k (.int (if i < j then j else i))
noncomputable def intB (a : ETr) : ETr := one a fun _ x k => asBool x fun b => k (.int (if b then 1 else 0))
noncomputable def intS (a : ETr) : ETr := one a fun _ x k => asStr x fun s => onT (Nat.ble s.length 640) (onSome (PySem.intText? s) fun i => k (.int i))
noncomputable def strI (a : ETr) : ETr := one a fun _ x k => asInt x fun i => onT (decide (0 ≤ i) && decide (i ≤ 4096)) (k (.str (Str.ofString (toString i))))
noncomputable def isalpha (a : ETr) : ETr := one a fun _ x k => asStr x fun s => k (.bool (Txt.isalpha s))
noncomputable def tuple (a : ETr) : ETr := one a fun st x k => seqK st x fun ds => onT (Nat.ble ds.length 100) (k (.tuple ds))
noncomputable def figures (a : ETr) (t : Str) : ETr := one a fun _ x k => asStr x fun s => onT (Nat.ble s.length 100) (k (.str (Txt.join (Str.ofString "") (List.filter (fun c => inStr c t) (signs s)))))
noncomputable def heads : List Dat → (List Dat → Prop) → Prop
  | [], k => k []
  | r :: rs, k => dTup r fun ds => onSome ds.head? fun x => heads rs fun xs => k (x :: xs)
noncomputable def comp0 (a : ETr) : ETr := one a fun st x k => seqK st x fun ds => heads ds fun xs => onT (Nat.ble xs.length 100) (k (.list xs))
noncomputable def compGo (f g : Addr) (C : CT) : List Dat → (List Dat → Prop) → Prop
  | [], k => k []
  | x :: xs, k => callK C (.fn g) [.d (.list [x])] ⟨[], []⟩ (fun w st => callK C (.fn f) [w] st (fun v _ => asBool v fun b => match b with
    | true => compGo f g C xs fun ys => k (x :: ys)
    | false => compGo f g C xs k) fun _ _ => False) fun _ _ => False
noncomputable def comp (a : ETr) (f g : Addr) : ETr := fun C st P X => a C st (fun v st => asLst v fun ds => onT (Nat.ble ds.length 100) (compGo f g C ds fun ys => P (.d (.list ys)) st)) X
noncomputable def atOf (a : ETr) : ETr := one a fun st x k => asG x fun i => gWd st i fun _ n _ => k (.int n)
noncomputable def deepOf (a : ETr) : ETr := one a fun st x k => asG x fun i => gWd st i fun _ _ n => k (.int n)
noncomputable def rowsOf (a : ETr) : ETr := fun C st P X => a C st (fun x st => asG x fun i => gWd st i fun _ _ _ => P (.rows i) st) X
end E
/-! tests -/
namespace T
noncomputable def e (a : ETr) : TTr := fun C st P X => a C st (fun v st => asBool v fun b => P b st) X
noncomputable def not (a : TTr) : TTr := fun C st P X => a C st (fun b st => P (!b) st) X
noncomputable def and (a b : TTr) : TTr := fun C st P X => a C st (fun c st => match c with | true => b C st P X | false => P false st) X
noncomputable def or (a b : TTr) : TTr := fun C st P X => a C st (fun c st => match c with | true => P true st | false => b C st P X) X
noncomputable def tt : TTr := fun _ st P _ => P true st
noncomputable def ff : TTr := fun _ st P _ => P false st
end T
/-! statements -/
namespace S
noncomputable def nil : STr := fun _ st P _ => P .next st
noncomputable def cons (a b : STr) : STr := fun C st P X => a C st (fun f st => match f with
  | .next => b C st P X
  | .brk => P .brk st
  | .cont => P .cont st
  | .ret v => P (.ret v) st) X
noncomputable def never : STr := fun _ _ _ _ => False
noncomputable def asg (i : Nat) (a : ETr) : STr := fun C st P X => a C st (fun v st => P .next (st.setM i v)) X
noncomputable def asgs (is : List Nat) (ts : EsTr) : STr := fun C st P X => ts C st (fun vs st => onT (Nat.beq vs.length is.length) (P .next (st.setMs is.reverse vs.reverse))) X
noncomputable def expr (a : ETr) : STr := fun C st P X => a C st (fun _ st => P .next st) X
noncomputable def ret (a : ETr) : STr := fun C st P X => a C st (fun v st => P (.ret v) st) X
noncomputable def ifte (t : TTr) (a b : STr) : STr := fun C st P X => t C st (fun c st => match c with | true => a C st P X | false => b C st P X) X
noncomputable def brk : STr := fun _ st P _ => P .brk st
noncomputable def setI (e a : ETr) (k : Nat) : STr := fun C st P X => e C st (fun v st => a C st (fun x st => asD v fun v => asG x fun i => gLst st i fun ds => onT (Nat.blt k ds.length) (P .next (st.setG i (.lst (ds.set k v))))) X) X
noncomputable def setLast (e a : ETr) (k : Nat) : STr := fun C st P X => e C st (fun v st => a C st (fun x st => asD v fun v => asG x fun i => gBk st i fun rs => match rs with
  | r :: rs => onT (Nat.blt k r.length) (P .next (st.setG i (.bk (r.set k v :: rs))))
  | [] => False) X) X
noncomputable def setRow (e a : ETr) : STr := fun C st P X => e C st (fun v st => a C st (fun x st => asD v fun v => asG x fun i => gWd st i fun rs n dp => onT (decide (0 ≤ n) && decide (n < rs.length)) (P .next (st.setG i (.wd (rs.set n.toNat v) n dp)))) X) X
noncomputable def augAt (a : ETr) (k : Int) : STr := fun C st P X => a C st (fun x st => asG x fun i => gWd st i fun rs n dp => P .next (st.setG i (.wd rs (n + k) dp))) X
noncomputable def augDeep (a : ETr) (k : Int) : STr := fun C st P X => a C st (fun x st => asG x fun i => gWd st i fun rs n dp => P .next (st.setG i (.wd rs n (dp + k)))) X
noncomputable def app (a e : ETr) : STr := fun C st P X => a C st (fun x st => asG x fun i => gLst st i fun _ => e C st (fun v st => asD v fun v => gLst st i fun ds => onT (Nat.ble ds.length 99) (P .next (st.setG i (.lst (ds ++ [v]))))) X) X
noncomputable def appBk (a : ETr) (ts : EsTr) : STr := fun C st P X => a C st (fun x st => asG x fun i => gBk st i fun _ => ts C st (fun vs st => allD vs fun ds => gBk st i fun rs => onT (Nat.ble rs.length 999 && Nat.ble ds.length 9) (P .next (st.setG i (.bk (ds :: rs))))) X) X
noncomputable def fault (a b : ETr) : STr := fun C st P X => a C st (fun x st => b C st (fun y st => asStr x fun _ => asInt y fun sp => X sp st.g) X) X
noncomputable def turn (R : St → Prop) (P : PFlow → St → Prop) : PFlow → St → Prop
  | .next, st => R st
  | .cont, st => R st
  | .brk, st => P .next st
  | .ret v, st => P (.ret v) st
noncomputable def whlGo (t : TTr) (b : STr) (C : CT) (P : PFlow → St → Prop) (X : XK) : Nat → St → Prop
  | 0, _ => False
  | n + 1, st => t C st (fun c st => match c with | true => b C st (turn (whlGo t b C P X n) P) X | false => P .next st) X
noncomputable def whl (t : TTr) (b : STr) : STr := fun C st P X => whlGo t b C P X 9 st
noncomputable def forGo {α : Type} (set : St → α → (St → Prop) → Prop) (b : STr) (C : CT) (P : PFlow → St → Prop) (X : XK) : List α → St → Prop
  | [], st => P .next st
  | x :: xs, st => set st x fun st => b C st (turn (forGo set b C P X xs) P) X
noncomputable def upTo : Nat → List Int
  | 0 => []
  | n + 1 => upTo n ++ [(n : Int)]
noncomputable def forR (i : Nat) (a : ETr) (b : STr) : STr := fun C st P X => a C st (fun v st => asInt v fun n => onT (decide (0 ≤ n) && decide (n < 100)) (forGo (fun st x k => k (st.setM i (.d (.int x)))) b C P X (upTo n.toNat) st)) X
noncomputable def forL (i : Nat) (a : ETr) (b : STr) : STr := fun C st P X => a C st (fun v st => asLst v fun ds => onT (Nat.ble ds.length 100) (forGo (fun st x k => k (st.setM i (.d x))) b C P X ds st)) X
noncomputable def forT (set : St → List Dat → (St → Prop) → Prop) (a : ETr) (b : STr) : STr := fun C st P X => a C st (fun v st => asLst v fun ds => onT (Nat.ble ds.length 100) (forGo (fun st x k => dTup x fun xs => set st xs k) b C P X ds st)) X
noncomputable def numb : Nat → List Dat → List (Int × Dat)
  | _, [] => []
  | i, x :: xs => ((i : Int), x) :: numb (i + 1) xs
noncomputable def forE (i j : Nat) (a : ETr) (b : STr) : STr := fun C st P X => a C st (fun v st => asLst v fun ds => onT (Nat.ble ds.length 100) (forGo (fun st x k => k ((st.setM i (.d (.int x.1))).setM j (.d x.2))) b C P X (numb 0 ds) st)) X
end S
noncomputable def layT : List (Bool × Nat) → St → List Dat → (St → Prop) → Prop
  | [], st, [], k => k st
  | (false, i) :: is, st, x :: xs, k => layT is (st.setM i (.d x)) xs k
  | (true, i) :: is, st, x :: xs, k => getM st.m i fun v => asG v fun j => onSome st.g[j]? fun o => oCell o fun _ => layT is (st.setG j (.cell (some x))) xs k
  | _, _, _, _ => False
/-! functions -/
namespace F
noncomputable def frame (np : Nat) (defs : List PV) (more : Nat) (args : List PV) : Option (List PV) :=
  if Nat.ble args.length np && Nat.ble np (args.length + defs.length) then some (args ++ (defs.drop (args.length + defs.length - np) ++ List.replicate more .undef)) else none
noncomputable def fin (P : CK) : PFlow → St → Prop
  | .ret v, st => P v st.g
  | .next, st => P (.d .none) st.g
  | _, _ => False
noncomputable def body (np : Nat) (defs : List PV) (more : Nat) (b : STr) : FTr := fun C args g P X => onSome (frame np defs more args) fun m => b C ⟨m, g⟩ (fin P) X
noncomputable def lastSpot : List (List Dat) → Int
  | (_ :: _ :: .int i :: _) :: _ => i + 3
  | _ => 7
noncomputable def endRow (rs : List (List Dat)) : Dat := .tuple [.str (Str.ofString "end"), .str (Str.ofString ""), .int (lastSpot rs), .none, .none]
noncomputable def words : FTr := fun _ args g P _ => match args, g with
  | [.g 0], [.bk rs] => onT (Nat.ble rs.length 999) (P (.g 1) [.bk rs, .wd (rs.reverse.map .tuple ++ [endRow rs]) 0 0])
  | _, _ => False
noncomputable def heard : FTr := fun C args g P X => match args with
  | [f, .g i] => onT (isFn f) (callK C f [.g i] ⟨[], g⟩ (fun r st => asD r fun x => gWd st i fun _ n _ => P (.d (.tuple [x, .int n])) st.g) fun sp g' => P (.d (.tuple [.str (Str.ofString "fault"), .int sp])) g')
  | _ => False
end F
noncomputable def Cn (T : PV → Option FTr) : Nat → CT
  | 0, _, _, _, _, _ => False
  | n + 1, f, args, g, P, X => match T f with
    | some t => t (Cn T n) args g P X
    | none => False
/-! What pure states mean: addresses of the objects, cells of the ledger, the frame. -/
structure Wo where
  ga : List (List Addr)
  tl : Led
structure Wo.Le (a b : Wo) : Prop where
  ga : ∃ l, b.ga = a.ga ++ l
  tl : ∀ p ∈ a.tl, p ∈ b.tl
theorem Wo.Le.refl {a : Wo} : a.Le a := ⟨⟨[], (List.append_nil _).symm⟩, fun _ h => h⟩
theorem Wo.Le.trans {a b c : Wo} (h : a.Le b) (k : b.Le c) : a.Le c := by
  obtain ⟨⟨l, h1⟩, h2⟩ := h
  obtain ⟨⟨l', k1⟩, k2⟩ := k
  exact ⟨⟨l ++ l', by rw [k1, h1, List.append_assoc]⟩, fun p hp => k2 p (h2 p hp)⟩
theorem Wo.Le.at {a b : Wo} (h : a.Le b) {i : Nat} {as : List Addr} (e : a.ga[i]? = some as) : b.ga[i]? = some as := by
  obtain ⟨⟨l, h1⟩, _⟩ := h
  rw [h1, List.getElem?_append_left (List.getElem?_eq_some_iff.mp e).1, e]
structure Lam where
  name : Str
  qual : Str
  params : Arguments
  body : PySem.Expr
  scope : Scope
  x : Str
  pos : Pos
noncomputable def lamIn (q : Str) : Stmt → Option Lam
  | .For _ _ [.If (.Compare (.Call _ [.Lambda a b s p, _] _ _) _ _ _) _ _ _] _ _ => match s.names.filter fun y => y.2 = .free with
    | (x, _) :: _ => some ⟨Str.ofString "<lambda>", q, a, b, s, x, p⟩
    | [] => none
  | _ => none
noncomputable def lamsIn (K : Frag) : List Lam := match List.lookup 310 K with
  | some ⟨_, _, .func fd, _⟩ => match fd.body with
    | .stmts b => b.filterMap (lamIn (fd.qualname ++ Str.ofString ".<locals>.<lambda>"))
    | _ => []
  | _ => []
noncomputable def lamAt (w : World) (j : Nat) : Option Lam := (lamsIn (kk.heap_1 w.params))[j]?
noncomputable def CodeAt (L : Lam) (tl : Led) (c : Addr) : Prop := ∃ oc vs t, (c, oc) ∈ tl ∧ oc.data = .fields vs ∧ vs[1]? = some (.str L.qual t)
noncomputable def LamR (w : World) (j : Nat) (x : Dat) (tl : Led) (v : Value) : Prop :=
  ∃ L f pm c ctv ca o a, lamAt w j = some L ∧ v = .ref f ∧ (f, kla_obj L.name L.qual L.params L.body L.scope [(L.x, ca)] pm c ctv) ∈ tl ∧ CodeAt L tl c ∧ (ca, o) ∈ tl ∧ o.data = .cell (some a) ∧ DatIn tl a x
noncomputable def VR (w : World) (ω : Wo) : PV → Value → Prop
  | .undef, _ => False
  | .d x, v => DatIn ω.tl v x
  | .g i, v => ∃ a r, ω.ga[i]? = some (a :: r) ∧ v = .ref a
  | .fn a, v => v = .ref a
  | .lam j x, v => LamR w j x ω.tl v
  | .rows i, v => ∃ W D R, ω.ga[i]? = some [W, D, R] ∧ v = .ref R
  | .tabl xs, v => ∃ a dd vs n sl, v = .ref a ∧ List.lookup a (kk.heap_1 w.params) = some { cls := .type "tuple", dict := dd, data := .seq vs.toArray n, slots := sl } ∧ StrsAre vs xs
inductive VRs (w : World) (ω : Wo) : List PV → List Value → Prop
  | nil : VRs w ω [] []
  | cons {p : PV} {v : Value} {ps : List PV} {vs : List Value} : VR w ω p v → VRs w ω ps vs → VRs w ω (p :: ps) (v :: vs)
theorem LamR.mono {w : World} {j : Nat} {x : Dat} {tl tl' : Led} {v : Value} (k : ∀ p ∈ tl, p ∈ tl') (h : LamR w j x tl v) : LamR w j x tl' v := by
  obtain ⟨L, f, pm, c, ctv, ca, o, a, h1, h2, h3, ⟨oc, vs, t, h4, h5⟩, h6, h7, h8⟩ := h
  exact ⟨L, f, pm, c, ctv, ca, o, a, h1, h2, k _ h3, ⟨oc, vs, t, k _ h4, h5⟩, k _ h6, h7, h8.mono k⟩
theorem VR.mono {w : World} {ω ω' : Wo} (k : ω.Le ω') {p : PV} {v : Value} (h : VR w ω p v) : VR w ω' p v := by
  cases p with
  | undef => exact h
  | d x => exact DatIn.mono k.tl h
  | g i => obtain ⟨a, r, h1, h2⟩ := h; exact ⟨a, r, k.at h1, h2⟩
  | fn a => exact h
  | lam j x => exact LamR.mono k.tl h
  | rows i => obtain ⟨W, D, R, h1, h2⟩ := h; exact ⟨W, D, R, k.at h1, h2⟩
  | tabl xs => exact h
theorem VRs.mono {w : World} {ω ω' : Wo} (k : ω.Le ω') {ps : List PV} {vs : List Value} (h : VRs w ω ps vs) : VRs w ω' ps vs := by
  induction h with
  | nil => exact .nil
  | cons h1 _ ih => exact .cons (h1.mono k) ih
theorem VRs.length {w : World} {ω : Wo} {ps : List PV} {vs : List Value} (h : VRs w ω ps vs) : ps.length = vs.length := by
  induction h with
  | nil => rfl
  | cons _ _ ih => rw [List.length_cons, List.length_cons, ih]
inductive RowsR (tl : Led) : Led → List (List Dat) → Prop
  | nil : RowsR tl [] []
  | cons {a : Addr} {vs : List Value} {n : Nat} {ds : List Dat} {rl : Led} {rs : List (List Dat)} : DatAll tl vs ds → ds.length ≤ 9 → RowsR tl rl rs → RowsR tl ((a, listOf vs.toArray n) :: rl) (ds :: rs)
noncomputable def tabPs (w : World) : List (Nat × Addr) → List Value
  | [] => []
  | (j, c) :: r => match lamAt w j with
    | some L => rawInt L.pos.line :: rawInt L.pos.col :: .ref c :: tabPs w r
    | none => []
noncomputable def CodesAt (w : World) (tl : Led) (l : List (Nat × Addr)) : Prop := ∀ p ∈ l, ∃ L, lamAt w p.1 = some L ∧ CodeAt L tl p.2
noncomputable def ObjR (w : World) (tl : Led) : PObj → List Addr → Led → Prop
  | .lst ds, as, cs => ∃ a vs n, as = [a] ∧ cs = [(a, listOf vs.toArray n)] ∧ DatAll tl vs ds ∧ ds.length ≤ 1000
  | .bk rs, as, cs => ∃ a rl n, as = [a] ∧ cs = (a, listOf (refs rl).toArray n) :: rl ∧ RowsR tl rl rs.reverse ∧ rs.length ≤ 1000
  | .wd rows ix dp, as, cs => ∃ W D R t1 t2 t3 t4 t5 e vs n, as = [W, D, R] ∧ cs = [(W, instObj 200 D), (D, dictOf (esW w R ix dp t1 t2 t3 t4 t5) e), (R, listOf vs.toArray n)] ∧ DatAll tl vs rows ∧ rows.length ≤ 1000
  | .cell x, as, cs => ∃ a o u, as = [a] ∧ cs = [(a, o)] ∧ o.data = .cell u ∧ ∀ d, x = some d → ∃ v, u = some v ∧ DatIn tl v d
  | .tab made, as, cs => ∃ l, as = [307] ∧ cs = [(307, tabObj (tabPs w l).toArray)] ∧ l.map (·.1) = made ∧ CodesAt w tl l
  | .gone, _, cs => cs = []
theorem RowsR.mono {tl tl' : Led} (k : ∀ p ∈ tl, p ∈ tl') {rl : Led} {rs : List (List Dat)} (h : RowsR tl rl rs) : RowsR tl' rl rs := by
  induction h with
  | nil => exact .nil
  | cons h1 h2 _ ih => exact .cons (DatAll.mono k h1) h2 ih
theorem ObjR.mono {w : World} {tl tl' : Led} (k : ∀ p ∈ tl, p ∈ tl') {o : PObj} {as : List Addr} {cs : Led} (h : ObjR w tl o as cs) : ObjR w tl' o as cs := by
  cases o with
  | lst ds => obtain ⟨a, vs, n, h1, h2, h3, h4⟩ := h; exact ⟨a, vs, n, h1, h2, DatAll.mono k h3, h4⟩
  | bk rs => obtain ⟨a, rl, n, h1, h2, h3, h4⟩ := h; exact ⟨a, rl, n, h1, h2, h3.mono k, h4⟩
  | wd rows ix dp => obtain ⟨W, D, R, t1, t2, t3, t4, t5, e, vs, n, h1, h2, h3, h4⟩ := h; exact ⟨W, D, R, t1, t2, t3, t4, t5, e, vs, n, h1, h2, DatAll.mono k h3, h4⟩
  | cell x => obtain ⟨a, o, u, h1, h2, h3, h4⟩ := h; exact ⟨a, o, u, h1, h2, h3, fun d e => (h4 d e).imp fun v h => ⟨h.1, h.2.mono k⟩⟩
  | tab made =>
    obtain ⟨l, h1, h2, h3, h4⟩ := h
    refine ⟨l, h1, h2, h3, fun p hp => ?_⟩
    obtain ⟨L, e, oc, vs, t, h5, h6⟩ := h4 p hp
    exact ⟨L, e, oc, vs, t, k _ h5, h6⟩
  | gone => exact h
inductive ObjsR (w : World) (tl : Led) : List PObj → List (List Addr) → List Led → Prop
  | nil : ObjsR w tl [] [] []
  | cons {o : PObj} {as : List Addr} {cs : Led} {g : List PObj} {ga : List (List Addr)} {gl : List Led} : ObjR w tl o as cs → ObjsR w tl g ga gl → ObjsR w tl (o :: g) (as :: ga) (cs :: gl)
theorem ObjsR.mono {w : World} {tl tl' : Led} (k : ∀ p ∈ tl, p ∈ tl') {g : List PObj} {ga : List (List Addr)} {gl : List Led} (h : ObjsR w tl g ga gl) : ObjsR w tl' g ga gl := by
  induction h with
  | nil => exact .nil
  | cons h1 _ ih => exact .cons (h1.mono k) ih
theorem ObjsR.snoc {w : World} {tl : Led} {g : List PObj} {ga : List (List Addr)} {gl : List Led} (h : ObjsR w tl g ga gl) {o : PObj} {as : List Addr} {cs : Led} (k : ObjR w tl o as cs) : ObjsR w tl (g ++ [o]) (ga ++ [as]) (gl ++ [cs]) := by
  induction h with
  | nil => exact .cons k .nil
  | cons h1 _ ih => exact .cons h1 ih
theorem ObjsR.length {w : World} {tl : Led} {g : List PObj} {ga : List (List Addr)} {gl : List Led} (h : ObjsR w tl g ga gl) : ga.length = g.length := by
  induction h with
  | nil => rfl
  | cons _ _ ih => rw [List.length_cons, List.length_cons, ih]
theorem ObjsR.at {w : World} {tl : Led} {g : List PObj} {ga : List (List Addr)} {gl : List Led} (h : ObjsR w tl g ga gl) : ∀ {i : Nat} {o : PObj}, g[i]? = some o → ∃ as cs l1 l2, ga[i]? = some as ∧ gl = l1 ++ cs :: l2 ∧ ObjR w tl o as cs ∧ ∀ o' cs', ObjR w tl o' as cs' → ObjsR w tl (g.set i o') ga (l1 ++ cs' :: l2) := by
  induction h with
  | nil => intro i o e; simp at e
  | @cons o0 as0 cs0 g ga gl h1 h2 ih =>
    intro i o e
    cases i with
    | zero =>
      simp at e
      subst e
      exact ⟨as0, cs0, [], gl, rfl, rfl, h1, fun o' cs' k => .cons k h2⟩
    | succ i =>
      obtain ⟨as, cs, l1, l2, e1, e2, e3, e4⟩ := ih (by simpa using e)
      exact ⟨as, cs, cs0 :: l1, l2, by simpa using e1, by rw [e2]; rfl, e3, fun o' cs' k => .cons h1 (e4 o' cs' k)⟩
noncomputable def Dj (n : Led) : Prop := (n.map (·.1)).Nodup
theorem Dj.nil : Dj [] := List.nodup_nil
theorem Dj.cons {p : Addr × Obj} {n : Led} (h : ∀ q ∈ n, q.1 ≠ p.1) (k : Dj n) : Dj (p :: n) := by
  refine List.nodup_cons.mpr ⟨fun hm => ?_, k⟩
  obtain ⟨q, hq, e⟩ := List.mem_map.mp hm
  exact h q hq e
theorem Dj.perm {n n' : Led} (h : Dj n) (k : n.Perm n') : Dj n' := (List.Perm.nodup_iff (k.map _)).mp h
theorem Dj.subl {n n' : Led} (h : Dj n) (k : List.Sublist n' n) : Dj n' := List.Nodup.sublist (k.map _) h
theorem Dj.as {n n' : Led} (h : Dj n) (k : n'.map (·.1) = n.map (·.1)) : Dj n' := by unfold Dj; rw [k]; exact h
theorem Dj.mid {l1 l2 : Led} {p : Addr × Obj} (h : Dj (l1 ++ p :: l2)) : (∀ q ∈ l1, q.1 ≠ p.1) ∧ ∀ q ∈ l2, q.1 ≠ p.1 := by
  have k : Dj (p :: (l1 ++ l2)) := h.perm List.perm_middle
  have k1 := (List.nodup_cons.mp k).1
  exact ⟨fun q hq e => k1 (List.mem_map.mpr ⟨q, List.mem_append_left _ hq, e⟩), fun q hq e => k1 (List.mem_map.mpr ⟨q, List.mem_append_right _ hq, e⟩)⟩
theorem Dj.upd {l1 l2 : Led} {a : Addr} {o : Obj} (o' : Obj) (h : Dj (l1 ++ (a, o) :: l2)) : Upd a o o' (l1 ++ (a, o) :: l2) (l1 ++ (a, o') :: l2) := by
  obtain ⟨k1, k2⟩ := h.mid
  clear h
  induction l1 with
  | nil => exact .head k2
  | cons p l1 ih => exact .tail (k1 p (.head _)) (ih fun q hq => k1 q (.tail _ hq))
set_option genInjectivity false in
structure Fm (cs : Scope) (n : Nat) where
  w : World
  mean : ExcName → Option Value
  mg : Str → Option Value
  mb : Str → Option Value
  dp : Nat
  un : Nat
  gd : Option (List Code)
  cn : Str
  L : Addr
  a : Addr
  ccd : Value
  cl : List (Str × Addr)
  outer : List Env
  A₀ : Around
  base : Heap
  g₀ : Heap
  B : Below A₀ base outer g₀
  XB : (kk.heap_1 w.params).In base
  TB : Top topProg LT mean mg mb base
  D : KtsDicts (outer.filterMap (·.frame)) g₀
  nd : (outer.filterMap (·.frame)).Nodup
  hk : cs.kind = .function
  hd : dp + n + 12 < recursionLimit
  hu : un + 8 * n + 200 < cLine
  hcd : (cs.names.any fun y => decide (y.2 = .cell)) = true → ccd = .ref 309 ∧ cn = Str.ofString "_law_paths_told"
section
variable {cs : Scope} {n : Nat}
noncomputable abbrev Fm.A (φ : Fm cs n) : Around := ktrTop φ.dp φ.un φ.gd φ.cn cs φ.L φ.a φ.ccd φ.cl φ.outer
noncomputable abbrev Fm.env (φ : Fm cs n) : Env := envX φ.cn cs φ.L φ.a φ.ccd φ.cl
noncomputable abbrev Fm.fs (φ : Fm cs n) : List Addr := φ.outer.filterMap (·.frame)
noncomputable def Fm.H (φ : Fm cs n) : Heap := hideAll φ.g₀ φ.fs
noncomputable abbrev Mo (w : World) : Model := model PySem.Challenge.rw_xw0160_01.prog w
structure Gnd (φ : Fm cs n) (h₀ : Heap) : Prop where
  B : Below φ.A₀ φ.base φ.outer h₀
  K : KtsTurn φ.fs φ.g₀ h₀
theorem Gnd.X {φ : Fm cs n} {h₀ : Heap} (G : Gnd φ h₀) : (kk.heap_1 φ.w.params).In h₀ := φ.XB.keeps G.B.stays
theorem Gnd.T {φ : Fm cs n} {h₀ : Heap} (G : Gnd φ h₀) : Top topProg LT φ.mean φ.mg φ.mb h₀ := φ.TB.keeps G.B.stays
theorem Gnd.D {φ : Fm cs n} {h₀ : Heap} (G : Gnd φ h₀) : KtsDicts φ.fs h₀ := φ.D.turn G.K
inductive FL (g : Heap) : List Addr → Led → Prop
  | nil : FL g [] []
  | cons {b : Addr} {o : Obj} {sl : Array (Option Value)} {fs : List Addr} {fl : Led} : g.get? b = some o → FL g fs fl → FL g (b :: fs) ((b, { o with slots := sl }) :: fl)
theorem FL.map {g : Heap} {fs : List Addr} {fl : Led} (h : FL g fs fl) : fl.map (·.1) = fs := by
  induction h with
  | nil => rfl
  | cons _ _ ih => rw [List.map_cons, ih]
theorem FL.at {g : Heap} {fs : List Addr} {fl : Led} (h : FL g fs fl) {b : Addr} (hb : b ∈ fs) : ∃ o sl, g.get? b = some o ∧ (b, ({ o with slots := sl } : Obj)) ∈ fl := by
  induction h with
  | nil => cases hb
  | cons h1 _ ih =>
    cases hb with
    | head => exact ⟨_, _, h1, .head _⟩
    | tail _ hb => obtain ⟨o, sl, e, m⟩ := ih hb; exact ⟨o, sl, e, .tail _ m⟩
theorem FL.mk {g h : Heap} : ∀ {fs : List Addr}, (∀ b ∈ fs, ∃ o sl, g.get? b = some o ∧ h.get? b = some { o with slots := sl }) → ∃ fl, FL g fs fl ∧ ∀ p ∈ fl, h.get? p.1 = some p.2
  | [], _ => ⟨[], .nil, fun _ hp => nomatch hp⟩
  | b :: fs, k => by
    obtain ⟨o, sl, e1, e2⟩ := k b (.head _)
    obtain ⟨fl, h1, h2⟩ := FL.mk (fs := fs) fun b hb => k b (.tail _ hb)
    exact ⟨_, .cons (sl := sl) e1 h1, fun p hp => by
      cases hp with
      | head => exact e2
      | tail _ hp => exact h2 p hp⟩
theorem perm4 {α : Type} (a b c d : List α) : (a ++ (b ++ (c ++ d))).Perm (c ++ (a ++ (b ++ d))) := ((List.perm_append_comm_assoc b c d).append_left a).trans (List.perm_append_comm_assoc a c (b ++ d))
noncomputable abbrev lay (gl : List Led) (ω : Wo) (rest : Led) : Led := gl.flatten ++ (ω.tl ++ rest)
structure Ok (φ : Fm cs n) (rest : Led) (ω : Wo) (mv : Str → Option Value) (g : List PObj) (gl : List Led) (fl : Led) (h : Heap) : Prop where
  F : Fr φ.H φ.L h mv
  N : News φ.H φ.L h (lay gl ω (fl ++ rest))
  f : FL φ.g₀ φ.fs fl
  o : ObjsR φ.w ω.tl g ω.ga gl
  d : Dj (lay gl ω (fl ++ rest))
noncomputable def OkE (φ : Fm cs n) (rest : Led) (ω : Wo) (mv : Str → Option Value) (g : List PObj) (h : Heap) : Prop := ∃ gl fl, Ok φ rest ω mv g gl fl h
theorem Fm.stays (φ : Fm cs n) : φ.base.StaysIn φ.H := fun b o e => hideAll_get _ (φ.B.stays b o e) fun hm => by
  rw [(φ.B.frames.mem hm).1] at e
  cases e
theorem Fm.X (φ : Fm cs n) : (kk.heap_1 φ.w.params).In φ.H := φ.XB.keeps φ.stays
theorem Fm.T (φ : Fm cs n) : Top topProg LT φ.mean φ.mg φ.mb φ.H := φ.TB.keeps φ.stays
theorem Ok.real {φ : Fm cs n} {rest : Led} {ω : Wo} {mv : Str → Option Value} {g : List PObj} {gl : List Led} {fl : Led} {h : Heap} (K : Ok φ rest ω mv g gl fl h) : ∃ h₀, Gnd φ h₀ ∧ Fr h₀ φ.L h mv ∧ News h₀ φ.L h (lay gl ω rest) ∧ Dj (lay gl ω rest) := by
  have off : ∀ p ∈ lay gl ω rest, p.1 ∉ φ.fs := fun p hp hm => by
    rw [← K.f.map] at hm
    obtain ⟨q, hq, e⟩ := List.mem_map.mp hm
    have d : Dj (fl ++ lay gl ω rest) := K.d.perm (perm4 _ _ _ _)
    unfold Dj at d
    rw [List.map_append, List.nodup_append] at d
    exact d.2.2 q.1 (List.mem_map_of_mem hq) p.1 (List.mem_map_of_mem hp) e
  obtain ⟨T₁, S₁⟩ := kts_turn_at (h := h) (fs := φ.fs) (g := φ.g₀)
    (fun b hb => by
      obtain ⟨_, o, ho', _⟩ := φ.B.frames.mem hb
      exact ⟨o, ho'⟩)
    (fun b o e nm => K.F.keep b o (hideAll_get _ e nm))
    (fun b o e hm => by
      obtain ⟨o', sl, e', m⟩ := K.f.at hm
      rw [e] at e'
      cases e'
      exact ⟨sl, (K.N _ (by simp only [lay, List.mem_append]; exact .inr (.inr (.inl m)))).1⟩)
  refine ⟨_, ⟨⟨φ.B.stack, fun b o e => T₁.other b o (φ.B.stays b o e) (fun hm => by
      rw [(φ.B.frames.mem hm).1] at e
      cases e), φ.B.frames.of_keeps fun b o e _ => by
      obtain ⟨sl', hs'⟩ := T₁.up e
      exact ⟨_, hs', rfl⟩⟩, T₁⟩, ⟨K.F.ns, S₁, by rw [T₁.size]; have := K.F.above; unfold Fm.H at this; rwa [hideAll_size] at this⟩, fun p hp => ?_, ?_⟩
  · have k := K.N p (by simp only [lay, List.mem_append] at hp ⊢; grind)
    refine ⟨k.1, k.2.1, T₁.none_ _ ?_⟩
    cases q : φ.g₀.get? p.1 with
    | none => rfl
    | some o => have := hideAll_get φ.fs q (off p hp); rw [show hideAll φ.g₀ φ.fs = φ.H from rfl, k.2.2] at this; cases this
  · exact K.d.subl (by
      unfold lay
      exact List.Sublist.append (List.Sublist.refl _) (List.Sublist.append (List.Sublist.refl _) (List.sublist_append_right _ _)))
theorem Ok.of {φ : Fm cs n} {rest : Led} {ω : Wo} {mv : Str → Option Value} {g : List PObj} {gl : List Led} {h h₁ : Heap} (G : Gnd φ h₁) (F : Fr h₁ φ.L h mv) (N : News h₁ φ.L h (lay gl ω rest)) (o : ObjsR φ.w ω.tl g ω.ga gl) (d : Dj (lay gl ω rest)) : ∃ fl, Ok φ rest ω mv g gl fl h := by
  have fr : ∀ b ∈ φ.fs, ∃ o sl, φ.g₀.get? b = some o ∧ h₁.get? b = some { o with slots := sl } := fun b hb => by
    obtain ⟨_, o, ho', _⟩ := φ.B.frames.mem hb
    obtain ⟨sl, e⟩ := G.K.frame b o ho' hb
    exact ⟨o, sl, ho', e⟩
  obtain ⟨fl, h1, h2⟩ := FL.mk fr
  have nL := kts_self F
  have Nf : News φ.H φ.L h fl := fun p hp => by
    have hm : p.1 ∈ φ.fs := by rw [← h1.map]; exact List.mem_map_of_mem hp
    refine ⟨F.keep _ _ (h2 p hp), fun e => ?_, hideAll_none _ hm⟩
    have := h2 p hp
    rw [e, nL] at this
    cases this
  refine ⟨fl, ⟨F.ns, fun b o e => F.keep b o (G.K.other b o (of_hideAll _ e) fun hm => ?_), ?_⟩, ?_, h1, o, ?_⟩
  · have := hideAll_none φ.fs (h := φ.g₀) hm
    rw [show hideAll φ.g₀ φ.fs = φ.H from rfl, e] at this
    cases this
  · have := F.above
    unfold Fm.H
    rw [hideAll_size, ← G.K.size]
    exact this
  · intro p hp
    have hp' : p ∈ fl ∨ p ∈ lay gl ω rest := by simp only [lay, List.mem_append] at hp ⊢; grind
    rcases hp' with hp | hp
    · exact Nf p hp
    · have k := N p hp
      refine ⟨k.1, k.2.1, ?_⟩
      cases q : φ.H.get? p.1 with
      | none => rfl
      | some o =>
        obtain ⟨sl, e⟩ := G.K.up (of_hideAll _ q)
        rw [k.2.2] at e
        cases e
  · have d2 : Dj (fl ++ lay gl ω rest) := by
      unfold Dj
      rw [List.map_append, List.nodup_append, h1.map]
      refine ⟨φ.nd, d, fun a ha b hb e => ?_⟩
      obtain ⟨q, hq, rfl⟩ := List.mem_map.mp hb
      obtain ⟨o, sl, _, e2⟩ := fr a ha
      rw [e, (N q hq).2.2] at e2
      cases e2
    exact d2.perm (perm4 _ _ _ _).symm
theorem perm_mid (a b c : Led) (p : Addr × Obj) : (p :: (a ++ (b ++ c))).Perm (a ++ ((p :: b) ++ c)) := by
  rw [List.cons_append]
  exact List.perm_middle.symm
theorem Ok.keep {φ : Fm cs n} {rest : Led} {ω : Wo} {mv : Str → Option Value} {g : List PObj} {gl : List Led} {fl : Led} {h h' : Heap} {D : Addr} {o : Obj} {v : Value} {d : Dat} (K : Ok φ rest ω mv g gl fl h) (F : Fr φ.H φ.L h' mv) (N : News φ.H φ.L h' ((D, o) :: lay gl ω (fl ++ rest))) (lt : ∀ p ∈ lay gl ω (fl ++ rest), p.1 < D)
    (hd : ∀ tl', (D, o) ∈ tl' → (∀ p ∈ ω.tl, p ∈ tl') → DatIn tl' v d) : ω.Le ⟨ω.ga, (D, o) :: ω.tl⟩ ∧ OkE φ rest ⟨ω.ga, (D, o) :: ω.tl⟩ mv g h' ∧ DatIn ((D, o) :: ω.tl) v d := by
  have pm := perm_mid gl.flatten ω.tl (fl ++ rest) (D, o)
  refine ⟨⟨⟨[], by simp⟩, fun p hp => .tail _ hp⟩, ⟨gl, fl, F, News.sub N fun p hp => pm.mem_iff.mpr hp, K.f, K.o.mono fun p hp => .tail _ hp, ?_⟩, hd _ (.head _) fun p hp => .tail _ hp⟩
  exact (Dj.cons (fun q hq => Nat.ne_of_lt (lt q hq)) K.d).perm pm
theorem Ok.obj {φ : Fm cs n} {rest : Led} {ω : Wo} {mv : Str → Option Value} {g : List PObj} {gl : List Led} {fl : Led} {h h' : Heap} {D : Addr} {oh : Obj} {o : PObj} {as : List Addr} (K : Ok φ rest ω mv g gl fl h) (F : Fr φ.H φ.L h' mv) (N : News φ.H φ.L h' ((D, oh) :: lay gl ω (fl ++ rest))) (lt : ∀ p ∈ lay gl ω (fl ++ rest), p.1 < D)
    (ho : ObjR φ.w ω.tl o as [(D, oh)]) (ha : as = [D]) : ω.Le ⟨ω.ga ++ [as], ω.tl⟩ ∧ OkE φ rest ⟨ω.ga ++ [as], ω.tl⟩ mv (g ++ [o]) h' ∧ VR φ.w ⟨ω.ga ++ [as], ω.tl⟩ (.g g.length) (.ref D) := by
  have e : lay (gl ++ [[(D, oh)]]) ⟨ω.ga ++ [as], ω.tl⟩ (fl ++ rest) = gl.flatten ++ ([(D, oh)] ++ (ω.tl ++ (fl ++ rest))) := by
    unfold lay
    rw [List.flatten_append, List.append_assoc]
    rfl
  have pm : ((D, oh) :: lay gl ω (fl ++ rest)).Perm (lay (gl ++ [[(D, oh)]]) ⟨ω.ga ++ [as], ω.tl⟩ (fl ++ rest)) := by
    rw [e]
    exact List.perm_middle.symm
  refine ⟨⟨⟨_, rfl⟩, fun p hp => hp⟩, ⟨gl ++ [[(D, oh)]], fl, F, News.sub N fun p hp => pm.mem_iff.mpr hp, K.f, K.o.snoc ho, ?_⟩, D, [], ?_, rfl⟩
  · exact (Dj.cons (fun q hq => Nat.ne_of_lt (lt q hq)) K.d).perm pm
  · show (ω.ga ++ [as])[g.length]? = _
    rw [← K.o.length, List.getElem?_append_right (Nat.le_refl _), Nat.sub_self, ha]
    rfl
noncomputable def OkX2 (φ : Fm cs n) (rest : Led) (ω : Wo) (g : List PObj) (e : Addr) (sp : Int) (h : Heap) : Prop :=
  ∃ h₀ gl gg mv D nn, Gnd φ h₀ ∧ Fr h₀ φ.L gg mv ∧ gg.UpToSlots h ∧ RaisedF φ.base gg (φ.env :: φ.outer) e D nn h ∧ SpotAt φ.w D sp nn ∧ (∀ p ∈ lay gl ω rest, p ∈ nn) ∧ ObjsR φ.w ω.tl g ω.ga gl ∧ Dj (lay gl ω rest)
noncomputable def OkX1 (φ : Fm cs n) (rest : Led) (ω : Wo) (g : List PObj) (e : Addr) (sp : Int) (h : Heap) : Prop :=
  ∃ h₀ gl mv t0 D nn, Gnd φ h₀ ∧ Fr h₀ φ.L h mv ∧ News h₀ φ.L h ((e, excO 45 t0 (some D)) :: nn) ∧ (∀ p ∈ nn, p.1 ≠ e) ∧ SpotAt φ.w D sp nn ∧ (∀ p ∈ lay gl ω rest, p ∈ nn) ∧ ObjsR φ.w ω.tl g ω.ga gl ∧ Dj (lay gl ω rest)
noncomputable def OkX (φ : Fm cs n) (rest : Led) (ω : Wo) (g : List PObj) (e : Addr) (sp : Int) (h : Heap) : Prop := OkX1 φ rest ω g e sp h ∨ OkX2 φ rest ω g e sp h
end
noncomputable def slotGo (x : Str) : List (Str × NameKind) → Nat → Option (NameKind × Nat)
  | [], _ => none
  | (y, k) :: r, n => if y = x then some (k, n) else slotGo x r (n + 1)
noncomputable def slotOf (cs : Scope) (x : Str) : Option (NameKind × Nat) := if x = Str.ofString "__debug__" then none else slotGo x cs.names 0
noncomputable def SlotR (w : World) (ω : Wo) (cl : List (Str × Addr)) (mv : Str → Option Value) (x : Str) : NameKind → Option PV → Prop
  | .local, p => ∀ v, p = some v → isDef v = true → ∃ a, mv x = some a ∧ VR w ω v a
  | .free, p => ∀ v, p = some v → isDef v = true → ∃ ca o a, cl.lookup x = some ca ∧ (ca, o) ∈ ω.tl ∧ o.data = .cell (some a) ∧ VR w ω v a
  | .cell, p => ∃ j ca, p = some (.g j) ∧ ω.ga[j]? = some [ca] ∧ cl.lookup x = some ca
  | _, _ => True
noncomputable def EnvR {cs : Scope} {n : Nat} (φ : Fm cs n) (ω : Wo) (m : List PV) (mv : Str → Option Value) : Prop := ∀ x k i, slotOf cs x = some (k, i) → SlotR φ.w ω φ.cl mv x k m[i]?
theorem EnvR.mono {cs : Scope} {n : Nat} {φ : Fm cs n} {ω ω' : Wo} (k : ω.Le ω') {m : List PV} {mv : Str → Option Value} (h : EnvR φ ω m mv) : EnvR φ ω' m mv := by
  intro x kd i e
  have h1 := h x kd i e
  cases kd with
  | «local» => exact fun v hv hd => (h1 v hv hd).imp fun a h => ⟨h.1, h.2.mono k⟩
  | free =>
    intro v hv hd
    obtain ⟨ca, o, a, q1, q2, q3, q4⟩ := h1 v hv hd
    exact ⟨ca, o, a, q1, k.tl _ q2, q3, q4.mono k⟩
  | cell => obtain ⟨j, ca, q1, q2, q3⟩ := h1; exact ⟨j, ca, q1, k.at q2, q3⟩
  | globalExplicit => trivial
  | globalImplicit => trivial
noncomputable def Tr (cs : Scope) (n : Nat) {α β : Type} (R : World → Wo → α → β → Prop) (f : Env → Sem β) (st : St) (P : α → St → Prop) (X : XK) : Prop :=
  ∀ (φ : Fm cs n) (rest : Led) (ω : Wo) (mv : Str → Option Value) (s : Shared) (Q : β → Shared → Prop) (E : Value → Shared → Prop), PassesOwn (Mo φ.w) φ.A φ.env E → OkE φ rest ω mv st.g s.heap → EnvR φ ω st.m mv →
    (∀ a b st' ω' mv' h' tk', ω.Le ω' → OkE φ rest ω' mv' st'.g h' → EnvR φ ω' st'.m mv' → R φ.w ω' a b → P a st' → Q b { s with heap := h', toks := tk' }) →
    (∀ e sp g' ω' h' tk', ω.Le ω' → OkX φ rest ω' g' e sp h' → X sp g' → E (.ref e) { s with heap := h', toks := tk' }) →
    wpAny (Mo φ.w) φ.A (f φ.env) Q E s
noncomputable def SemC (n : Nat) : CT := fun F args g P X =>
  ∀ (cs : Scope) (φ : Fm cs n) (rest : Led) (ω : Wo) (mv : Str → Option Value) (s : Shared) (Q : Value → Shared → Prop) (E : Value → Shared → Prop) (f : Value) (vs : List Value), OkE φ rest ω mv g s.heap → VR φ.w ω F f → VRs φ.w ω args vs →
    (∀ a b g' ω' h' tk', ω.Le ω' → OkE φ rest ω' mv g' h' → VR φ.w ω' a b → P a g' → Q b { s with heap := h', toks := tk' }) →
    (∀ e sp g' ω' h' tk', ω.Le ω' → OkX2 φ rest ω' g' e sp h' → X sp g' → E (.ref e) { s with heap := h', toks := tk' }) →
    wpAny (Mo φ.w) φ.A (call f vs) Q E s
noncomputable def COk (n : Nat) (C : CT) : Prop := ∀ F args g P X, C F args g P X → SemC n F args g P X
noncomputable def FlowR (w : World) (ω : Wo) : PFlow → Flow → Prop
  | .next, .next => True
  | .brk, .brk => True
  | .cont, .cont => True
  | .ret v, .ret a => VR w ω v a
  | _, _ => False
noncomputable def SoundE (cs : Scope) (e : PySem.Expr) (t : ETr) : Prop := ∀ n C, COk n C → ∀ st P X, t C st P X → Tr cs n VR (eval e) st P X
noncomputable def PlainEs (es : List PySem.Expr) : Prop := ∀ env, starEach es env = es.map fun e => (false, eval e env)
structure SoundEs (cs : Scope) (es : List PySem.Expr) (t : EsTr) : Prop where
  pl : PlainEs es
  so : ∀ n C, COk n C → ∀ st P X pos, t C st P X → Tr cs n VRs (fun env => spliced (backTo pos (starEach es env))) st P X
noncomputable def SoundT (cs : Scope) (e : PySem.Expr) (t : TTr) : Prop := ∀ n C, COk n C → ∀ st P X, t C st P X → Tr cs n (fun _ _ a b => a = b) (fun env => PySem.isTrue e env (eval e env)) st P X
noncomputable def SoundS (cs : Scope) (s : Stmt) (t : STr) : Prop := ∀ n C, COk n C → ∀ st P X, t C st P X → Tr cs n FlowR (exec s) st P X
noncomputable def SoundSs (cs : Scope) (ss : List Stmt) (t : STr) : Prop := ∀ n C, COk n C → ∀ st P X, t C st P X → Tr cs n FlowR (execs ss) st P X
noncomputable def SoundF (f : PV) (t : FTr) : Prop := ∀ n C, COk n C → ∀ args g P X, t C args g P X → SemC (n + 1) f args g P X
theorem onT_e {b : Bool} {k : Prop} (h : onT b k) : b = true ∧ k := by
  cases b with
  | false => exact h.elim
  | true => exact ⟨rfl, h⟩
theorem onSome_e {α : Type} {o : Option α} {k : α → Prop} (h : onSome o k) : ∃ x, o = some x ∧ k x := by
  cases o with
  | none => exact h.elim
  | some x => exact ⟨x, rfl, h⟩
theorem set_ne {α : Type} {i j : Nat} {l : List α} {x : α} (h : i ≠ j) : (l.set i x)[j]? = l[j]? := List.getElem?_set_ne h
theorem ne_head {i j : Nat} {is : List Nat} (h : i ∉ j :: is) : i ≠ j := by
  rintro rfl
  exact h (.head _)
theorem wback_nil {g os : List PObj} : wback g [] os = g := by cases os <;> rfl
theorem wback_nil2 {g : List PObj} {is : List Nat} : wback g is [] = g := by cases is <;> rfl
theorem getAll_set {g : List PObj} {i : Nat} {x : PObj} : ∀ {is : List Nat}, i ∉ is → getAll (g.set i x) is = getAll g is
  | [], _ => rfl
  | j :: is, h => by
    have h1 : (g.set i x)[j]? = g[j]? := set_ne (ne_head h)
    have h2 := getAll_set (g := g) (x := x) (is := is) fun hm => h (.tail _ hm)
    unfold getAll
    rw [h1, h2]
theorem wback_at {i : Nat} : ∀ {is : List Nat} {g os : List PObj}, i ∉ is → (wback g is os)[i]? = g[i]?
  | [], g, os, _ => by rw [wback_nil]
  | j :: is, g, [], _ => by rw [wback_nil2]
  | j :: is, g, o :: os, h => by
    have e : wback g (j :: is) (o :: os) = wback (g.set j o) is os := rfl
    rw [e, wback_at fun hm => h (.tail _ hm), set_ne (ne_head h).symm]
theorem wback_set {i : Nat} {a b : PObj} : ∀ {is : List Nat} {g os : List PObj}, i ∉ is → wback (g.set i a) is os = (wback (g.set i b) is os).set i a
  | [], g, os, _ => by rw [wback_nil, wback_nil, List.set_set]
  | j :: is, g, [], _ => by rw [wback_nil2, wback_nil2, List.set_set]
  | j :: is, g, o :: os, h => by
    show wback ((g.set i a).set j o) is os = (wback ((g.set i b).set j o) is os).set i a
    have hj : i ≠ j := ne_head h
    rw [List.set_comm _ _ hj, List.set_comm _ _ hj]
    exact wback_set fun hm => h (.tail _ hm)
theorem wback_app {w : World} {tl : Led} : ∀ {sel : List Nat} {g g1 g2 : List PObj}, g1.length = sel.length → wback g sel (g1 ++ g2) = wback g sel g1
  | [], g, g1, g2, h => by
    cases g1 with
    | nil => cases g2 <;> rfl
    | cons _ _ => simp at h
  | i :: is, g, [], g2, h => by simp at h
  | i :: is, g, o :: g1, g2, h => by
    show wback (g.set i o) is (g1 ++ g2) = wback (g.set i o) is g1
    exact wback_app (w := w) (tl := tl) (by simpa using h)
theorem nodupB_e {a : Nat} {r : List Nat} (h : nodupB (a :: r) = true) : a ∉ r ∧ nodupB r = true := by
  unfold nodupB at h
  simp only [Bool.and_eq_true, Bool.not_eq_true', List.any_eq_false] at h
  exact ⟨fun hm => h.1 a hm (Nat.beq_refl a), h.2⟩
theorem flat_mid (l1 l2 : List Led) (c : Led) : (l1 ++ c :: l2).flatten.Perm (c ++ (l1 ++ [] :: l2).flatten) := by
  rw [List.flatten_append, List.flatten_cons, List.flatten_append, List.flatten_cons, List.nil_append]
  exact List.perm_append_comm_assoc _ _ _
theorem split_sel {w : World} : ∀ (sel : List Nat) {tl : Led} {g os : List PObj} {ga : List (List Addr)} {gl : List Led}, ObjsR w tl g ga gl → nodupB sel = true → getAll g sel = some os →
    ∃ gas gls gl0, ObjsR w tl os gas gls ∧ gl.flatten.Perm (gls.flatten ++ gl0) ∧ (∀ (k i : Nat), sel[k]? = some i → gas[k]? = ga[i]?) ∧ gas.length = sel.length ∧
      ∀ tl', (∀ p ∈ tl, p ∈ tl') → ∀ os' gls', ObjsR w tl' os' gas gls' → ∃ gl', ObjsR w tl' (wback g sel os') ga gl' ∧ gl'.flatten.Perm (gls'.flatten ++ gl0)
  | [], tl, g, os, ga, gl, h, _, e => by
    cases e
    refine ⟨[], [], gl.flatten, .nil, by simp, fun k i e => by simp at e, rfl, fun tl' k os' gls' h' => ?_⟩
    cases h'
    exact ⟨gl, by rw [wback_nil]; exact h.mono k, by simp⟩
  | i :: is, tl, g, os, ga, gl, h, hn, e => by
    obtain ⟨n1, n2⟩ := nodupB_e hn
    unfold getAll at e
    cases ho : g[i]? with
    | none => rw [ho] at e; cases e
    | some o =>
      rw [ho] at e
      dsimp only at e
      cases hos : getAll g is with
      | none => rw [hos] at e; cases e
      | some os1 =>
        rw [hos] at e
        cases e
        obtain ⟨as, cs, l1, l2, e1, rfl, hO, hset⟩ := h.at ho
        obtain ⟨gas1, gls1, gl0, s1, s2, s3, s4, s5⟩ := split_sel is (hset .gone [] rfl) n2 (by rw [getAll_set n1]; exact hos)
        refine ⟨as :: gas1, cs :: gls1, gl0, .cons hO s1, ?_, ?_, by simp [s4], fun tl' k os' gls' h' => ?_⟩
        · rw [List.flatten_cons, List.append_assoc]
          exact (flat_mid l1 l2 cs).trans (s2.append_left cs)
        · intro k j e
          cases k with
          | zero => simp at e; subst e; simpa using e1.symm
          | succ k => simpa using s3 k j (by simpa using e)
        · cases h' with
          | @cons o' _ cs' os'' _ gls'' h1 h2 =>
            obtain ⟨gl1, b1, b2⟩ := s5 tl' k os'' gls'' h2
            have hlen : i < g.length := (List.getElem?_eq_some_iff.mp ho).1
            have hg : (wback (g.set i .gone) is os'')[i]? = some .gone := by rw [wback_at n1, List.getElem?_set_self hlen]
            obtain ⟨as2, cs2, m1, m2, f1, rfl, f3, f4⟩ := b1.at hg
            obtain rfl : as = as2 := Option.some.inj (e1.symm.trans f1)
            obtain rfl : cs2 = [] := f3
            refine ⟨m1 ++ cs' :: m2, ?_, ?_⟩
            · show ObjsR w tl' (wback (g.set i o') is os'') ga _
              rw [wback_set (b := .gone) n1]
              exact f4 o' cs' h1
            · rw [List.flatten_cons, List.append_assoc]
              exact (flat_mid m1 m2 cs').trans (b2.append_left cs')
theorem ObjsR.split {w : World} {tl : Led} : ∀ {a l : List (List Addr)} {g : List PObj} {gl : List Led}, ObjsR w tl g (a ++ l) gl → ∃ g1 g2 gl1 gl2, g = g1 ++ g2 ∧ gl = gl1 ++ gl2 ∧ ObjsR w tl g1 a gl1 ∧ ObjsR w tl g2 l gl2
  | [], l, g, gl, h => ⟨[], g, [], gl, rfl, rfl, .nil, h⟩
  | as :: a, l, g, gl, h => by
    cases h with
    | cons h1 h2 =>
      obtain ⟨g1, g2, gl1, gl2, rfl, rfl, k1, k2⟩ := h2.split
      exact ⟨_ :: g1, g2, _ :: gl1, gl2, rfl, rfl, .cons h1 k1, k2⟩
theorem selV_ok {w : World} {ω ω1 : Wo} (ht : ω1.tl = ω.tl) : ∀ {vs : List PV} {as : List Value} {n : Nat}, VRs w ω vs as → vs.all isArg = true → (∀ k i, (selV vs n).1[k]? = some i → ω1.ga[n + k]? = ω.ga[i]?) → VRs w ω1 (selV vs n).2 as
  | [], _, n, h, _, _ => by cases h; exact .nil
  | v :: vs, _, n, h, ha, k => by
    cases h with
    | @cons _ a _ as h1 h2 =>
      obtain ⟨ha1, ha2⟩ : isArg v = true ∧ vs.all isArg = true := by simpa using ha
      cases v with
      | undef => cases ha1
      | rows i => cases ha1
      | tabl xs => cases ha1
      | d x => exact .cons (by show DatIn ω1.tl a x; rw [ht]; exact h1) (selV_ok ht h2 ha2 k)
      | fn x => exact .cons h1 (selV_ok ht h2 ha2 k)
      | lam j x => exact .cons (by show LamR w j x ω1.tl a; rw [ht]; exact h1) (selV_ok ht h2 ha2 k)
      | g i =>
        obtain ⟨b, r, e1, e2⟩ := h1
        refine .cons ⟨b, r, ?_, e2⟩ (selV_ok ht h2 ha2 fun q j e => ?_)
        · rw [show n = n + 0 from rfl, k 0 i rfl, e1]
        · rw [Nat.add_right_comm]
          exact k (q + 1) j (by show ((selV vs (n + 1)).1)[q]? = some j; exact e)
theorem perm_in (a b c d e : Led) : ((a ++ b) ++ (c ++ (d ++ e))).Perm (a ++ (c ++ (d ++ (b ++ e)))) := by
  rw [List.append_assoc]
  refine List.Perm.append_left a ?_
  refine (List.perm_append_comm_assoc b c (d ++ e)).trans (List.Perm.append_left c ?_)
  exact List.perm_append_comm_assoc b d e
theorem perm_in3 (a b c e : Led) : ((a ++ b) ++ (c ++ e)).Perm (a ++ (c ++ (b ++ e))) := by
  rw [List.append_assoc]
  refine List.Perm.append_left a ?_
  exact List.perm_append_comm_assoc b c e
theorem backK_e {g : List PObj} {sel : List Nat} {P : PV → List PObj → Prop} {a : PV} {g' : List PObj} (h : backK g sel P a g') :
    (∃ x, a = .d x ∧ P (.d x) (wback g sel g')) ∨ (∃ j i, a = .g j ∧ sel[j]? = some i ∧ P (.g i) (wback g sel g')) ∨ ∃ j o, a = .g j ∧ sel[j]? = none ∧ g'[j]? = some o ∧ P (.g g.length) (wback g sel g' ++ [o]) := by
  cases a with
  | d x => exact .inl ⟨x, rfl, h⟩
  | g j =>
    have h : backG g sel P j g' sel[j]? := h
    cases e : sel[j]? with
    | some i => rw [e] at h; exact .inr (.inl ⟨j, i, rfl, e, h⟩)
    | none =>
      rw [e] at h
      obtain ⟨o, e1, h⟩ := onSome_e h
      exact .inr (.inr ⟨j, o, rfl, e, e1, h⟩)
  | undef => exact h.elim
  | fn a => exact h.elim
  | lam j x => exact h.elim
  | rows i => exact h.elim
  | tabl xs => exact h.elim
theorem wback_len : ∀ {sel : List Nat} {g os : List PObj}, (wback g sel os).length = g.length
  | [], g, os => by rw [wback_nil]
  | i :: is, g, [] => by rw [wback_nil2]
  | i :: is, g, o :: os => by
    show (wback (g.set i o) is os).length = g.length
    rw [wback_len, List.length_set]
theorem callH_ok {n : Nat} {C : CT} (hC : COk n C) {hid : List Nat} {F : PV} {vs : List PV} {st : St} {P : PK} {X : XK} (h : callH C hid F vs st P X) {cs : Scope} {φ : Fm cs n} {rest : Led} {ω : Wo} {mv : Str → Option Value} {s : Shared} {Q : Value → Shared → Prop} {E : Value → Shared → Prop} {f : Value} {as : List Value}
    (H : OkE φ rest ω mv st.g s.heap) (hf : ∀ ga, VR φ.w ⟨ga, ω.tl⟩ F f) (hv : VRs φ.w ω vs as)
    (ret : ∀ a b g' ω' h' tk', ω.Le ω' → OkE φ rest ω' mv g' h' → VR φ.w ω' a b → P a ⟨st.m, g'⟩ → Q b { s with heap := h', toks := tk' })
    (exc : ∀ e sp g' ω' h' tk', ω.Le ω' → OkX2 φ rest ω' g' e sp h' → X sp g' → E (.ref e) { s with heap := h', toks := tk' }) : wpAny (Mo φ.w) φ.A (call f as) Q E s := by
  obtain ⟨hb, h⟩ := onT_e h
  obtain ⟨os, hos, h⟩ := onSome_e h
  obtain ⟨hnd, hall⟩ := Bool.and_eq_true_iff.mp hb
  obtain ⟨gl, fl, K⟩ := H
  generalize hsel : hid ++ (selV vs hid.length).1 = sel at *
  obtain ⟨gas, gls, gl0, s1, s2, s3, s4, s5⟩ := split_sel sel K.o hnd hos
  have hargs : VRs φ.w ⟨gas, ω.tl⟩ (selV vs hid.length).2 as := selV_ok (ω := ω) (ω1 := ⟨gas, ω.tl⟩) rfl hv hall fun k i e => s3 _ _ (by
    rw [← hsel, List.getElem?_append_right (Nat.le_add_right _ _), Nat.add_sub_cancel_left]
    exact e)
  have pm : (lay gl ω (fl ++ rest)).Perm (lay gls ⟨gas, ω.tl⟩ (fl ++ (gl0 ++ rest))) := (s2.append_right _).trans (perm_in _ _ _ _ _)
  refine hC _ _ _ _ _ h cs φ (gl0 ++ rest) ⟨gas, ω.tl⟩ mv s Q E f _ ⟨gls, fl, K.F, News.sub K.N fun p hp => pm.mem_iff.mpr hp, K.f, s1, K.d.perm pm⟩ (hf _) hargs ?_ ?_
  · rintro a b g' ω' h' tk' ⟨⟨l, hga⟩, htl⟩ ⟨gl', fl', K'⟩ hab hP
    have o' := K'.o
    rw [hga] at o'
    obtain ⟨g1, g2, gl1, gl2, rfl, rfl, o1, o2⟩ := o'.split
    have hl1 : g1.length = sel.length := by rw [← o1.length, s4]
    obtain ⟨gl3, b1, b2⟩ := s5 ω'.tl htl g1 gl1 o1
    have e1 : wback st.g sel (g1 ++ g2) = wback st.g sel g1 := wback_app (w := φ.w) (tl := []) hl1
    have dd : Dj ((gl3.flatten ++ gl2.flatten) ++ (ω'.tl ++ (fl' ++ rest))) := by
      refine K'.d.perm ?_
      unfold lay
      rw [List.flatten_append]
      refine List.Perm.trans ?_ ((b2.symm.append_right gl2.flatten).append_right _)
      refine (perm_in (gl1.flatten ++ gl2.flatten) gl0 ω'.tl fl' rest).symm.trans (List.Perm.append_right _ ?_)
      rw [List.append_assoc, List.append_assoc]
      exact List.Perm.append_left _ List.perm_append_comm
    have nn : News φ.H φ.L h' ((gl3.flatten ++ gl2.flatten) ++ (ω'.tl ++ (fl' ++ rest))) := News.sub K'.N fun p hp => by
      have := b2.mem_iff (a := p)
      simp only [lay, List.mem_append, List.flatten_append] at hp this ⊢
      grind
    have fin : ∀ gx ga3 glx, ObjsR φ.w ω'.tl gx ga3 glx → List.Sublist glx.flatten (gl3.flatten ++ gl2.flatten) → OkE φ rest ⟨ga3, ω'.tl⟩ mv gx h' := fun gx ga3 glx ox hs =>
      ⟨glx, fl', K'.F, News.sub nn fun p hp => (List.Sublist.append_right hs _).subset hp, K'.f, ox, dd.subl (List.Sublist.append_right hs _)⟩
    rcases backK_e hP with ⟨x, rfl, hq⟩ | ⟨j, i, rfl, hj, hq⟩ | ⟨j, o, rfl, hj, ho, hq⟩
    · rw [e1] at hq
      exact ret (.d x) b _ ⟨ω.ga, ω'.tl⟩ h' tk' ⟨⟨[], by simp⟩, htl⟩ (fin _ _ gl3 b1 (List.sublist_append_left _ _)) hab hq
    · rw [e1] at hq
      refine ret (.g i) b _ ⟨ω.ga, ω'.tl⟩ h' tk' ⟨⟨[], by simp⟩, htl⟩ (fin _ _ gl3 b1 (List.sublist_append_left _ _)) ?_ hq
      obtain ⟨a, r, q1, q2⟩ := hab
      refine ⟨a, r, ?_, q2⟩
      show ω.ga[i]? = _
      rw [← s3 j i hj, ← q1, hga, List.getElem?_append_left (by rw [s4]; exact (List.getElem?_eq_some_iff.mp hj).1)]
    · rw [e1] at hq
      have hlj : sel.length ≤ j := by
        by_cases q : j < sel.length
        · rw [List.getElem?_eq_getElem q] at hj; cases hj
        · omega
      have ho2 : g2[j - g1.length]? = some o := by rw [← ho, List.getElem?_append_right (by omega)]
      obtain ⟨as', cs', l1, l2, q1, rfl, q3, -⟩ := o2.at ho2
      refine ret (.g st.g.length) b _ ⟨ω.ga ++ [as'], ω'.tl⟩ h' tk' ⟨⟨_, rfl⟩, htl⟩ (fin _ _ (gl3 ++ [cs']) (b1.snoc q3) ?_) ?_ hq
      · rw [List.flatten_append, List.flatten_append, List.flatten_cons, List.flatten_cons, List.flatten_nil, List.append_nil]
        refine List.Sublist.append (List.Sublist.refl _) ?_
        exact (List.sublist_append_left _ _).trans (List.sublist_append_right _ _)
      · obtain ⟨a, r, q4, q5⟩ := hab
        refine ⟨a, r, ?_, q5⟩
        show (ω.ga ++ [as'])[st.g.length]? = _
        have e2 : as' = a :: r := by
          rw [hga, List.getElem?_append_right (by rw [s4]; exact hlj)] at q4
          rw [show gas.length = g1.length by rw [s4, hl1], q1] at q4
          exact Option.some.inj q4
        rw [e2, ← K.o.length, List.getElem?_append_right (Nat.le_refl _), Nat.sub_self]
        rfl
  · rintro e sp g' ω' h' tk' ⟨⟨l, hga⟩, htl⟩ ⟨h₀, gl', gg, mv', D, nn, x1, x2, x3, x4, x5, x6, x7, x8⟩ hX
    rw [hga] at x7
    obtain ⟨g1, g2, gl1, gl2, rfl, rfl, o1, o2⟩ := x7.split
    have hl1 : g1.length = sel.length := by rw [← o1.length, s4]
    obtain ⟨gl3, b1, b2⟩ := s5 ω'.tl htl g1 gl1 o1
    have e1 : wback st.g sel (g1 ++ g2) = wback st.g sel g1 := wback_app (w := φ.w) (tl := []) hl1
    rw [e1] at hX
    refine exc e sp _ ⟨ω.ga, ω'.tl⟩ h' tk' ⟨⟨[], by simp⟩, htl⟩ ⟨h₀, gl3, gg, mv', D, nn, x1, x2, x3, x4, x5, fun p hp => x6 p ?_, b1, ?_⟩ hX
    · have := b2.mem_iff (a := p)
      simp only [lay, List.mem_append, List.flatten_append] at hp this ⊢
      grind
    · have dd : Dj ((gl3.flatten ++ gl2.flatten) ++ (ω'.tl ++ rest)) := by
        refine x8.perm ?_
        unfold lay
        rw [List.flatten_append]
        refine List.Perm.trans ?_ ((b2.symm.append_right gl2.flatten).append_right _)
        refine (perm_in3 (gl1.flatten ++ gl2.flatten) gl0 ω'.tl rest).symm.trans (List.Perm.append_right _ ?_)
        rw [List.append_assoc, List.append_assoc]
        exact List.Perm.append_left _ List.perm_append_comm
      exact dd.subl (List.Sublist.append_right (List.sublist_append_left _ _) _)
theorem ground_up {cs : Scope} {n : Nat} {φ : Fm cs n} {h₀ g₁ g' : Heap} {mv : Str → Option Value} (G : Gnd φ h₀) (F : Fr h₀ φ.L g₁ mv) (T' : KtsTurn ((φ.env :: φ.outer).filterMap (·.frame)) g₁ g') : ∃ h₁, Gnd φ h₁ ∧ Fr h₁ φ.L g' mv := by
  obtain ⟨oL, es, ep, hLg, hLd, hLk, hLf⟩ := F.ns
  have nL₀ : h₀.get? φ.L = none := kts_self F
  obtain ⟨sl, hs⟩ := T'.up hLg
  obtain ⟨T₁, S₁⟩ := kts_turn_at (h := g') (fs := φ.fs) (g := h₀)
    (fun b hb => by
      obtain ⟨_, o, ho', _⟩ := G.B.frames.mem hb
      exact ⟨o, ho'⟩)
    (fun b o e nmem => T'.other b o (F.keep b o e) (fun q => by
        rcases kts_memX (env := φ.env) rfl q with z | z
        · rw [z, nL₀] at e
          cases e
        · exact nmem z))
    (fun b o e hm => T'.up (F.keep b o e))
  refine ⟨_, ⟨⟨G.B.stack, fun b o e => T₁.other b o (G.B.stays b o e) (fun hm => by
      rw [(G.B.frames.mem hm).1] at e
      cases e), G.B.frames.of_keeps fun b o e _ => by
      obtain ⟨sl, hs⟩ := T₁.up e
      exact ⟨_, hs, rfl⟩⟩, G.K.trans T₁⟩, ⟨⟨_, es, ep, hs, hLd, hLk, hLf⟩, S₁, by rw [T₁.size]; exact F.above⟩⟩
noncomputable def Fm.callee {cs : Scope} {n : Nat} (φ : Fm cs (n + 1)) (scope : Scope) (hk : scope.kind = .function) (qual : Str) (L f : Addr) (cdv : Value) (cl : List (Str × Addr)) (g : Heap) (B : Below φ.A φ.base (φ.env :: φ.outer) g) (D : KtsDicts ((φ.env :: φ.outer).filterMap (·.frame)) g) (nd : φ.L ∉ φ.fs) (hcd : (scope.names.any fun y => decide (y.2 = .cell)) = true → cdv = .ref 309 ∧ qual = Str.ofString "_law_paths_told") : Fm scope n :=
  { w := φ.w, mean := φ.mean, mg := φ.mg, mb := φ.mb, dp := φ.dp + 1, un := φ.un + 3, gd := φ.gd, cn := qual, L := L, a := f, ccd := cdv, cl := cl, outer := φ.env :: φ.outer, A₀ := φ.A, base := φ.base, g₀ := g, B := B, XB := φ.XB, TB := φ.TB, D := D,
    nd := List.nodup_cons.mpr ⟨nd, φ.nd⟩, hk := hk, hd := by have := φ.hd; omega, hu := by have := φ.hu; omega, hcd := hcd }
theorem Gnd.off {cs : Scope} {n : Nat} {φ : Fm cs n} {h₀ h : Heap} {mv : Str → Option Value} (G : Gnd φ h₀) (F : Fr h₀ φ.L h mv) : φ.L ∉ φ.fs := fun hm => by
  obtain ⟨_, o, ho', _⟩ := G.B.frames.mem hm
  rw [kts_self F] at ho'
  cases ho'
section
open PySem.Spec
theorem leave_X1 {M : Model} {A : Around} {E : Value → Shared → Prop} {s' : Shared} {base g : Heap} {outer : List Env} {L e t0 D : Addr} {m : Str → Option Value} {env : Env} {Q : Unit → Shared → Prop} {news : List (Addr × Obj)} (hf : env.frame = some L) (hke : env.scope.kind = .function) (K : Below A base outer g) (F : Fr g L s'.heap m) (N : News g L s'.heap ((e, excO 45 t0 (some D)) :: news)) (hne : ∀ q ∈ news, q.1 ≠ e)
    (hQ : ∀ h', RaisedF base g outer e D news h' → g.UpToSlots h' → Q () { s' with heap := h' }) :
    wpAny M (A.deeper env) (leaving env (.ref e)) Q E s' := by
  have K' := pushX K F hf hke
  generalize has : e :: (env :: outer).filterMap (·.frame) = as
  have hin : ∀ env' ∈ (env :: outer), ∀ b, env'.frame = some b → b ∈ as := fun env' he b hb => has ▸ .tail _ (List.mem_filterMap.mpr ⟨env', he, hb⟩)
  have hee : e ∈ as := has ▸ .head _
  have hEb : base.get? e = none := fresh_of_stays K.stays (N _ (.head _)).2.2
  have st : base.StaysIn (hideAll s'.heap as) := fun b o q => hideAll_get _ (K'.stays b o q) fun hm => by
    rw [← has] at hm
    rcases List.mem_cons.mp hm with rfl | hm
    · rw [hEb] at q; cases q
    · rw [(K'.frames.mem hm).1] at q; cases q
  have sg : ∀ b o, g.get? b = some o → b ∉ outer.filterMap (·.frame) → (hideAll s'.heap as).get? b = some o := fun b o q nm => hideAll_get _ (F.keep b o q) fun hm => by
    rw [← has] at hm
    rcases List.mem_cons.mp hm with rfl | hm
    · rw [(N _ (.head _)).2.2] at q; cases q
    · rcases kts_memX hf hm with z | z
      · rw [z, kts_self F] at q
        cases q
      · exact nm z
  have hl : ∀ q ∈ news, (hideAll s'.heap as).get? q.1 = some q.2 ∧ g.get? q.1 = none ∧ base.get? q.1 = none := fun q hq => by
    have nq := N q (.tail _ hq)
    refine ⟨hideAll_get _ nq.1 fun hm => ?_, nq.2.2, fresh_of_stays K.stays nq.2.2⟩
    rw [← has] at hm
    rcases List.mem_cons.mp hm with hm | hm
    · exact hne q hq hm
    · obtain ⟨env', he, hf'⟩ := List.mem_filterMap.mp hm
      rcases List.mem_cons.mp he with rfl | he
      · exact nq.2.1 (Option.some.inj (hf.symm.trans hf')).symm
      · obtain ⟨o, ho, _⟩ := (K.frames.mem (List.mem_filterMap.mpr ⟨env', he, hf'⟩)).2
        rw [nq.2.2] at ho; cases ho
  have hfr := Around.frames_deeper (env := env) K.stack
  have hkb : (hideAll s'.heap as).StaysIn s'.heap := fun b o q => of_hideAll _ q
  have hen : (hideAll s'.heap as).get? e = none := hideAll_none _ hee
  unfold leaving
  refine wpAny_bind (note_first (a0 := .ref t0) hfr (funFrames_hide K'.frames hin) hf (N _ (.head _)).1 hkb hen rfl rfl rfl rfl fun h1 n1 => ?_)
  obtain ⟨x1, x2, x3, x4⟩ := n1
  refine flight_none (s := { s' with heap := h1 }) x1 x2 x3 fun h2 n2 => ?_
  obtain ⟨y1, ⟨_, _, y2⟩, y3, y4⟩ := n2
  exact hQ h2 ⟨_, _, st, sg, hl, y1, hen, y2, y3⟩ ((Heap.UpToSlots.of_keeps F.keep).trans (x4.trans y4))
end
theorem leave_X {cs : Scope} {n : Nat} {φ : Fm cs (n + 1)} {scope : Scope} {hk : scope.kind = .function} {qual : Str} {L f : Addr} {cdv : Value} {cl : List (Str × Addr)} {g₁ : Heap} {B : Below φ.A φ.base (φ.env :: φ.outer) g₁} {D : KtsDicts ((φ.env :: φ.outer).filterMap (·.frame)) g₁} {nd : φ.L ∉ φ.fs} {hcd : (scope.names.any fun y => decide (y.2 = .cell)) = true → cdv = .ref 309 ∧ qual = Str.ofString "_law_paths_told"}
    {h₀ : Heap} {mv : Str → Option Value} (G : Gnd φ h₀) (FG : Fr h₀ φ.L g₁ mv) {rest : Led} {ω : Wo} {g : List PObj} {e : Addr} {sp : Int} {s : Shared} {Q : Unit → Shared → Prop} {E : Value → Shared → Prop} (X : OkX (φ.callee scope hk qual L f cdv cl g₁ B D nd hcd) rest ω g e sp s.heap)
    (h : ∀ h' tk', OkX2 φ rest ω g e sp h' → Q () { s with heap := h', toks := tk' }) : wpAny (Mo φ.w) (φ.A.deeper (envX qual scope L f cdv cl)) (leaving (envX qual scope L f cdv cl) (.ref e)) Q E s := by
  rcases X with ⟨h₁, gl, mv', t0, D', nn, G', F', N', x4, x5, x6, x7, x8⟩ | ⟨h₁, gl, gg, mv', D', nn, G', F', x3, x4, x5, x6, x7, x8⟩
  · obtain ⟨h₂, G2, F2⟩ := ground_up G FG G'.K
    exact leave_X1 (env := envX qual scope L f cdv cl) rfl hk G'.B F' N' x4 fun h' R U => h h' s.toks ⟨h₂, gl, h₁, mv, D', nn, G2, F2, U, R, x5, x6, x7, x8⟩
  · obtain ⟨h₂, G2, F2⟩ := ground_up G FG G'.K
    refine leave_F2X (env := envX qual scope L f cdv cl) rfl G'.B F' x4 x3 fun h' R U => ?_
    exact h h' s.toks ⟨h₂, gl, h₁, mv, D', nn, G2, F2, U, R, x5, x6, x7, x8⟩
theorem lkt {α : Type} {x y : Str} {v : α} {r : List (Str × α)} (h : (y == x) = true) : List.lookup y ((x, v) :: r) = some v := by
  show (match y == x with | true => some v | false => List.lookup y r) = _
  rw [h]
theorem lkf {α : Type} {x y : Str} {v : α} {r : List (Str × α)} (h : (y == x) = false) : List.lookup y ((x, v) :: r) = List.lookup y r := by
  show (match y == x with | true => some v | false => List.lookup y r) = _
  rw [h]
theorem slotGo_at {x : Str} : ∀ {l : List (Str × NameKind)} {n i : Nat} {k : NameKind}, slotGo x l n = some (k, i) → n ≤ i ∧ l[i - n]? = some (x, k)
  | [], n, i, k, h => by cases h
  | (y, k0) :: l, n, i, k, h => by
    unfold slotGo at h
    by_cases e : y = x
    · rw [if_pos e] at h
      cases h
      exact ⟨Nat.le_refl _, by rw [Nat.sub_self, e]; rfl⟩
    · rw [if_neg e] at h
      obtain ⟨h1, h2⟩ := slotGo_at h
      refine ⟨by omega, ?_⟩
      rw [show i - n = (i - (n + 1)) + 1 by omega]
      simpa using h2
theorem slotGo_lookup {x : Str} : ∀ {l : List (Str × NameKind)} {n i : Nat} {k : NameKind}, slotGo x l n = some (k, i) → l.lookup x = some k
  | [], n, i, k, h => by cases h
  | (y, k0) :: l, n, i, k, h => by
    unfold slotGo at h
    by_cases e : y = x
    · rw [if_pos e] at h
      cases h
      rw [e]
      exact lkt (by simp)
    · rw [if_neg e] at h
      rw [lkf (by simpa using fun q => e q.symm)]
      exact slotGo_lookup h
theorem lookup_rev {ps : List Str} {vs : List Value} : ∀ (_ : ps.Nodup) (_ : ps.length = vs.length) {i : Nat} {x : Str}, ps[i]? = some x → (ps.zip vs).reverse.lookup x = vs[i]? := by
  induction ps generalizing vs with
  | nil => intro _ _ i x e; simp at e
  | cons p ps ih =>
    intro hn hl i x e
    cases vs with
    | nil => simp at hl
    | cons v vs =>
      obtain ⟨n1, n2⟩ := List.nodup_cons.mp hn
      have hl' : ps.length = vs.length := by simpa using hl
      rw [List.zip_cons_cons, List.reverse_cons, List.lookup_append]
      cases i with
      | zero =>
        simp at e
        subst e
        have e0 : (ps.zip vs).reverse.lookup p = none := by
          rw [List.lookup_eq_none_iff]
          intro q hq
          have := (List.of_mem_zip (List.mem_reverse.mp hq)).1
          simpa using fun z : p = q.1 => n1 (z ▸ this)
        rw [e0, Option.none_or, lkt (by simp)]
        rfl
      | succ i =>
        have e' : ps[i]? = some x := by simpa using e
        rw [ih n2 hl' e']
        have : i < vs.length := hl' ▸ (List.getElem?_eq_some_iff.mp e').1
        simp [List.getElem?_eq_getElem this]
theorem VRs.at {w : World} {ω : Wo} {ps : List PV} {vs : List Value} (h : VRs w ω ps vs) : ∀ {i : Nat} {p : PV}, ps[i]? = some p → ∃ v, vs[i]? = some v ∧ VR w ω p v := by
  induction h with
  | nil => intro i p e; simp at e
  | cons h1 _ ih =>
    intro i p e
    cases i with
    | zero => simp at e; subst e; exact ⟨_, rfl, h1⟩
    | succ i => simpa using ih (by simpa using e)
theorem VRs.app {w : World} {ω : Wo} {ps qs : List PV} {vs us : List Value} (h : VRs w ω ps vs) (k : VRs w ω qs us) : VRs w ω (ps ++ qs) (vs ++ us) := by
  induction h with
  | nil => exact k
  | cons h1 _ ih => exact .cons h1 ih
noncomputable def paramsOk (scope : Scope) (ps : List Str) : Bool := decide (ps.Nodup) && decide (scope.names.take ps.length = ps.map fun x => (x, NameKind.local)) && scope.names.all fun x => decide (x.2 ≠ .cell)
theorem env_start {w : World} {ω : Wo} {scope : Scope} {ps : List Str} {cl : List (Str × Addr)} (hp : paramsOk scope ps = true) {args : List PV} {vs : List Value} {more : Nat} (hv : VRs w ω args vs) (hl : ps.length = vs.length) (x : Str) (k : NameKind) (i : Nat) (e : slotOf scope x = some (k, i)) :
    SlotR w ω cl (fun y => (ps.zip vs).reverse.lookup y) x k ((args ++ List.replicate more PV.undef)[i]?) := by
  unfold paramsOk at hp
  simp only [Bool.and_eq_true, decide_eq_true_eq, List.all_eq_true] at hp
  obtain ⟨⟨h1, h2⟩, h3⟩ := hp
  have e0 : slotGo x scope.names 0 = some (k, i) := by
    unfold slotOf at e
    by_cases q : x = Str.ofString "__debug__"
    · rw [if_pos q] at e; cases e
    · rwa [if_neg q] at e
  obtain ⟨-, e2⟩ := slotGo_at e0
  rw [Nat.sub_zero] at e2
  have hc := h3 _ (List.mem_of_getElem? e2)
  have late : args.length ≤ i → ∀ v, (args ++ List.replicate more PV.undef)[i]? = some v → isDef v = true → False := fun hi v hv' hd => by
    rw [List.getElem?_append_right hi] at hv'
    have := List.mem_of_getElem? hv'
    rw [List.eq_of_mem_replicate this] at hd
    cases hd
  have la : args.length = ps.length := by rw [hv.length, hl]
  have early : i < args.length → k = .local ∧ ps[i]? = some x := fun hi => by
    have e3 : (scope.names.take ps.length)[i]? = some (x, k) := by rw [List.getElem?_take_of_lt (by omega)]; exact e2
    rw [h2, List.getElem?_map] at e3
    cases q : ps[i]? with
    | none => rw [q] at e3; cases e3
    | some y => rw [q] at e3; cases e3; exact ⟨rfl, rfl⟩
  cases k with
  | «local» =>
    intro v hv' hd
    by_cases hi : i < args.length
    · rw [List.getElem?_append_left hi] at hv'
      obtain ⟨a, e4, e5⟩ := hv.at hv'
      refine ⟨a, ?_, e5⟩
      show (ps.zip vs).reverse.lookup x = some a
      rw [lookup_rev h1 hl (early hi).2, e4]
    · exact (late (by omega) v hv' hd).elim
  | free =>
    intro v hv' hd
    by_cases hi : i < args.length
    · cases (early hi).1
    · exact (late (by omega) v hv' hd).elim
  | cell => exact absurd rfl hc
  | globalExplicit => trivial
  | globalImplicit => trivial
theorem F_body {f : Addr} {name qual : Str} {params : Arguments} {body : List Stmt} {scope : Scope} {dV kV doc pm cdv ct oc : Value} {an odd : Option Addr} {osl : Array (Option Value)} {ps : List Str} {b : STr} {np more : Nat} {defs : List PV}
    (hl : ∀ p, List.lookup f (kk.heap_1 p) = some { cls := oc, dict := odd, data := Data.func (fnOf name qual params body scope dV kV doc pm an cdv ct), slots := osl }) (hc : ∀ p, codeIn (kk.heap_1 p) cdv qual = true)
    (hbind : ∀ (w : World) (ω : Wo) (vs : List Value) (args ds : List PV), VRs w ω args vs → F.frame np defs more args = some ds → ∃ us as, ds = as ++ List.replicate more .undef ∧ VRs w ω as us ∧ ps.length = us.length ∧ ∀ (s : Shared) (h₀ : Heap) (L : Addr) (m : Str → Option Value), (kk.heap_1 w.params).In h₀ → Fr h₀ L s.heap m → BindsTo s (fnOf name qual params body scope dV kV doc pm an cdv ct) { pos := vs, kw := [] } (ps.zip us))
    (hp : paramsOk scope ps = true) (c2 : scope.isCoroutine = false) (c3 : scope.isGenerator = false) (c4 : scope.kind = .function) (hb : SoundSs scope body b) : SoundF (.fn f) (F.body np defs more b) := by
  intro n C hC args g P X h cs φ rest ω mv s Q E fv vs ⟨gl, fl, K⟩ hf hv ret exc
  obtain rfl : fv = .ref f := hf
  obtain ⟨m, hm, h⟩ := onSome_e h
  obtain ⟨us, as, rfl, hus, hlen, hbd⟩ := hbind φ.w ω vs args m hv hm
  obtain ⟨h₀, G, F, N, d⟩ := K.real
  have hloc : ∀ y ∈ ps.zip us, scope.names.lookup y.1 = some .local := fun y hy => by
    have hy1 := (List.of_mem_zip hy).1
    unfold paramsOk at hp
    simp only [Bool.and_eq_true, decide_eq_true_eq, List.all_eq_true] at hp
    obtain ⟨⟨h1, h2⟩, h3⟩ := hp
    have key : ∀ (qs : List Str) (l : List (Str × NameKind)) (q : Str), q ∈ qs → l.take qs.length = qs.map (fun x => (x, NameKind.local)) → l.lookup q = some .local := by
      intro qs
      induction qs with
      | nil => intro l q hq; cases hq
      | cons z qs ih =>
        intro l q hq e
        cases l with
        | nil => simp at e
        | cons a l =>
          simp only [List.length_cons, List.take_succ_cons, List.map_cons, List.cons.injEq] at e
          obtain ⟨rfl, e⟩ := e
          by_cases eq : q = z
          · rw [eq]; exact lkt (by simp)
          · rw [lkf (by simpa using eq)]
            exact ih l q ((List.mem_cons.mp hq).resolve_left eq) e
    exact key ps _ _ hy1 h2
  have hcell : ∀ x ∈ scope.names, x.2 ≠ .cell := by
    unfold paramsOk at hp
    simp only [Bool.and_eq_true, decide_eq_true_eq, List.all_eq_true] at hp
    exact hp.2
  refine wpAny_call ?_
  refine code_defSX G.B F G.X N G.T φ.XB φ.TB G.D G.K rfl rfl φ.hk (hl _) (hc _) (by have := φ.hd; show φ.dp < _; omega) (hbd s h₀ φ.L mv G.X F) hloc ?_ c2 c3 c4 hcell
  intro g₁ L' h₁ FG F' N' B' X' T' D'
  have nd := G.off F
  let φ' : Fm scope n := φ.callee scope c4 qual L' f cdv [] g₁ B' D' nd fun hany => by
    obtain ⟨y, hy, hd⟩ := List.any_eq_true.mp hany
    exact absurd (of_decide_eq_true hd) (hcell y hy)
  obtain ⟨fl', K'⟩ := Ok.of (φ := φ') (rest := rest) (ω := ω) (g := g) (gl := gl) (h₁ := g₁) ⟨B', KtsTurn.refl⟩ F' N' K.o d
  refine hb n C hC _ _ _ h φ' rest ω _ _ _ _ PassesOwn.leaving ⟨gl, fl', K'⟩ (fun x k i e => env_start hp hus hlen x k i e) ?_ ?_
  · rintro a b' st' ω' mv' h' tk' hle ⟨gl2, fl2, K2⟩ hE hab hP
    obtain ⟨h₂, G2, F2, N2, d2⟩ := K2.real
    have fin : ∀ v u, VR φ.w ω' v u → P v st'.g → LeaveS ((φ.env :: φ.outer).filterMap (·.frame)) φ.A₀ φ.base φ.outer (kk.heap_1 φ.w.params) topProg LT φ.mean φ.mg φ.mb φ.g₀ h₀ φ.L mv g₁ (fun r s' => match r with | .ok (.ret v) => Q v s' | .ok _ => False | .error e => E e s') u { s with heap := h', toks := tk' } := fun v u hvu hPv =>
      leaveS_r F2 N2 G2.K fun h₃ T3 F3 N3 B3 X3 P3 D3 => ret v u _ ω' h' tk' hle (by
        obtain ⟨fl3, K3⟩ := Ok.of (φ := φ) (rest := rest) (ω := ω') (g := st'.g) (gl := gl2) ⟨B3, T3⟩ F3 N3 K2.o d2
        exact ⟨gl2, fl3, K3⟩) hvu hPv
    cases a with
    | ret v =>
      cases b' with
      | ret u => exact fin v u hab hP
      | _ => exact hab.elim
    | next =>
      cases b' with
      | next => exact fin (.d .none) .none .none hP
      | _ => exact hab.elim
    | brk => exact hP.elim
    | cont => exact hP.elim
  · intro e sp g' ω' h' tk' hle hX hXp
    exact leave_X (s := { s with heap := h', toks := tk' }) G FG hX fun h'' tk'' hX2 => exc e sp g' ω' h'' tk'' hle hX2 hXp
/-! rules for expressions -/
theorem asD_e {v : PV} {k : Dat → Prop} (h : asD v k) : ∃ x, v = .d x ∧ k x := by
  cases v with
  | d x => exact ⟨x, rfl, h⟩
  | _ => exact h.elim
theorem asG_e {v : PV} {k : Nat → Prop} (h : asG v k) : ∃ x, v = .g x ∧ k x := by
  cases v with
  | g x => exact ⟨x, rfl, h⟩
  | _ => exact h.elim
theorem dInt_e {v : Dat} {k : Int → Prop} (h : dInt v k) : ∃ x, v = .int x ∧ k x := by
  cases v with
  | int x => exact ⟨x, rfl, h⟩
  | _ => exact h.elim
theorem dStr_e {v : Dat} {k : Str → Prop} (h : dStr v k) : ∃ x, v = .str x ∧ k x := by
  cases v with
  | str x => exact ⟨x, rfl, h⟩
  | _ => exact h.elim
theorem dBool_e {v : Dat} {k : Bool → Prop} (h : dBool v k) : ∃ x, v = .bool x ∧ k x := by
  cases v with
  | bool x => exact ⟨x, rfl, h⟩
  | _ => exact h.elim
theorem dTup_e {v : Dat} {k : List Dat → Prop} (h : dTup v k) : ∃ x, v = .tuple x ∧ k x := by
  cases v with
  | tuple x => exact ⟨x, rfl, h⟩
  | _ => exact h.elim
theorem dLst_e {v : Dat} {k : List Dat → Prop} (h : dLst v k) : ∃ x, v = .list x ∧ k x := by
  cases v with
  | list x => exact ⟨x, rfl, h⟩
  | _ => exact h.elim
theorem asInt_e {v : PV} {k : Int → Prop} (h : asInt v k) : ∃ x, v = .d (.int x) ∧ k x := by
  obtain ⟨x, rfl, hh⟩ := asD_e h; replace h := hh; clear hh
  obtain ⟨y, rfl, hh⟩ := dInt_e h; replace h := hh; clear hh
  exact ⟨y, rfl, h⟩
theorem asStr_e {v : PV} {k : Str → Prop} (h : asStr v k) : ∃ x, v = .d (.str x) ∧ k x := by
  obtain ⟨x, rfl, hh⟩ := asD_e h; replace h := hh; clear hh
  obtain ⟨y, rfl, hh⟩ := dStr_e h; replace h := hh; clear hh
  exact ⟨y, rfl, h⟩
theorem asBool_e {v : PV} {k : Bool → Prop} (h : asBool v k) : ∃ x, v = .d (.bool x) ∧ k x := by
  obtain ⟨x, rfl, hh⟩ := asD_e h; replace h := hh; clear hh
  obtain ⟨y, rfl, hh⟩ := dBool_e h; replace h := hh; clear hh
  exact ⟨y, rfl, h⟩
theorem asTup_e {v : PV} {k : List Dat → Prop} (h : asTup v k) : ∃ x, v = .d (.tuple x) ∧ k x := by
  obtain ⟨x, rfl, hh⟩ := asD_e h; replace h := hh; clear hh
  obtain ⟨y, rfl, hh⟩ := dTup_e h; replace h := hh; clear hh
  exact ⟨y, rfl, h⟩
theorem asLst_e {v : PV} {k : List Dat → Prop} (h : asLst v k) : ∃ x, v = .d (.list x) ∧ k x := by
  obtain ⟨x, rfl, hh⟩ := asD_e h; replace h := hh; clear hh
  obtain ⟨y, rfl, hh⟩ := dLst_e h; replace h := hh; clear hh
  exact ⟨y, rfl, h⟩
theorem oLst_e {o : PObj} {k : List Dat → Prop} (h : oLst o k) : ∃ x, o = .lst x ∧ k x := by
  cases o with
  | lst x => exact ⟨x, rfl, h⟩
  | _ => exact h.elim
theorem oBk_e {o : PObj} {k : List (List Dat) → Prop} (h : oBk o k) : ∃ x, o = .bk x ∧ k x := by
  cases o with
  | bk x => exact ⟨x, rfl, h⟩
  | _ => exact h.elim
theorem oWd_e {o : PObj} {k : List Dat → Int → Int → Prop} (h : oWd o k) : ∃ r i d, o = .wd r i d ∧ k r i d := by
  cases o with
  | wd r i d => exact ⟨r, i, d, rfl, h⟩
  | _ => exact h.elim
theorem oCell_e {o : PObj} {k : Option Dat → Prop} (h : oCell o k) : ∃ x, o = .cell x ∧ k x := by
  cases o with
  | cell x => exact ⟨x, rfl, h⟩
  | _ => exact h.elim
theorem allD_e {w : World} {ω : Wo} : ∀ {vs : List PV} {as : List Value} {k : List Dat → Prop}, VRs w ω vs as → allD vs k → ∃ ds, vs = ds.map .d ∧ DatAll ω.tl as ds ∧ k ds
  | [], _, k, hv, h => by cases hv; exact ⟨[], rfl, .nil, h⟩
  | v :: vs, _, k, hv, h => by
    cases hv with
    | cons h1 h2 =>
      obtain ⟨x, rfl, hh⟩ := asD_e h; replace h := hh; clear hh
      obtain ⟨ds, rfl, h3, h4⟩ := allD_e h2 h
      exact ⟨x :: ds, rfl, .cons h1 h3, h4⟩
theorem slot_e {cs : Scope} {x : Str} {k : NameKind} {i : Nat} (h : slotOf cs x = some (k, i)) : cs.names.lookup x = some k ∧ (x == Str.ofString "__debug__") = false := by
  unfold slotOf at h
  by_cases e : x = Str.ofString "__debug__"
  · rw [if_pos e] at h; cases h
  · rw [if_neg e] at h
    exact ⟨slotGo_lookup h, by simpa using e⟩
section
variable {cs : Scope}
theorem R.name {x : Str} {p : Pos} {i : Nat} (hx : slotOf cs x = some (.local, i)) : SoundE cs (.Name x p) (E.loc i) := fun n C hC st P X h φ rest ω mv s Q E hE H V ret exc => by
  obtain ⟨v, e1, h⟩ := onSome_e h
  obtain ⟨hd, h⟩ := onT_e h
  obtain ⟨a, e2, hv⟩ := V x .local i hx v e1 hd
  obtain ⟨gl, fl, K⟩ := id H
  exact nameX_L K.F e2 (ret v a st ω mv _ _ .refl H V hv h) φ.hk (slot_e hx).1 (slot_e hx).2
theorem R.free {x : Str} {p : Pos} {i : Nat} (hx : slotOf cs x = some (.free, i)) (hn : (x == Str.ofString "__classdict__") = false) : SoundE cs (.Name x p) (E.loc i) := fun n C hC st P X h φ rest ω mv s Q E hE H V ret exc => by
  obtain ⟨v, e1, h⟩ := onSome_e h
  obtain ⟨hd, h⟩ := onT_e h
  obtain ⟨ca, o, a, e2, e3, e4, hv⟩ := V x .free i hx v e1 hd
  obtain ⟨gl, fl, K⟩ := id H
  exact nameX_F K.N e2 (List.mem_append_right _ (List.mem_append_left _ e3)) e4 (ret v a st ω mv _ _ .refl H V hv h) φ.hk (slot_e hx).1 (slot_e hx).2 hn
theorem R.str {x : Str} {k : Nat} {p : Pos} : SoundE cs (.Constant (.str x) k p) (E.dat (.str x)) := fun n C hC st P X h φ rest ω mv s Q E hE H V ret exc => Constant_str (ret (.d (.str x)) _ st ω mv _ _ .refl H V (DatIn.str x _) h)
theorem R.int {x : Int} {k : Nat} {p : Pos} : SoundE cs (.Constant (.int x) k p) (E.dat (.int x)) := fun n C hC st P X h φ rest ω mv s Q E hE H V ret exc => wpAny_Constant_int (ret (.d (.int x)) _ st ω mv _ _ .refl H V (DatIn.int x _) h)
theorem R.bool {x : Bool} {k : Nat} {p : Pos} : SoundE cs (.Constant (.bool x) k p) (E.dat (.bool x)) := fun n C hC st P X h φ rest ω mv s Q E hE H V ret exc => Constant_bool (ret (.d (.bool x)) _ st ω mv _ _ .refl H V (DatIn.bool x) h)
theorem R.nul {k : Nat} {p : Pos} : SoundE cs (.Constant .none k p) (E.dat .none) := fun n C hC st P X h φ rest ω mv s Q E hE H V ret exc => Constant_none (ret (.d .none) _ st ω mv _ _ .refl H V DatIn.none h)
theorem R.globI {x : Str} {i : Int} {t : Tok} {p : Pos} (h : ∀ p, nsIn (kk.heap_1 p) mainGlobals x = some (some (.int i t))) (hx : cs.names.lookup x = some .globalImplicit) (hd : (x == Str.ofString "__debug__") = false) : SoundE cs (.Name x p) (E.dat (.int i)) := fun n C hC st P X hP φ rest ω mv s Q E hE H V ret exc => by
  obtain ⟨gl, fl, K⟩ := id H
  exact nameX_K K.F φ.X (topRead_of φ.T) (h _) (ret (.d (.int i)) _ st ω mv _ _ .refl H V (DatIn.int i t) hP) φ.hk hx hd
theorem R.globF {x : Str} {a : Addr} {p : Pos} (h : ∀ p, nsIn (kk.heap_1 p) mainGlobals x = some (some (.ref a))) (hx : cs.names.lookup x = some .globalImplicit) (hd : (x == Str.ofString "__debug__") = false) : SoundE cs (.Name x p) (E.val (.fn a)) := fun n C hC st P X hP φ rest ω mv s Q E hE H V ret exc => by
  obtain ⟨gl, fl, K⟩ := id H
  exact nameX_K K.F φ.X (topRead_of φ.T) (h _) (ret (.fn a) _ st ω mv _ _ .refl H V rfl hP) φ.hk hx hd
theorem Rs.nil : SoundEs cs [] Es.nil := ⟨fun _ => rfl, fun n C hC st P X pos h φ rest ω mv s Q E hE H V ret exc => args_nil (ret [] [] st ω mv _ _ .refl H V .nil h)⟩
theorem Rs.cons {e : PySem.Expr} {es : List PySem.Expr} {t : ETr} {ts : EsTr} (h : SoundE cs e t) (hs : SoundEs cs es ts) (he : ∀ env rest, starEach (e :: rest) env = (false, eval e env) :: starEach rest env) : SoundEs cs (e :: es) (Es.cons t ts) :=
  ⟨fun env => by rw [he, hs.pl]; rfl, fun n C hC st P X pos hP φ rest ω mv s Q E hE H V ret exc =>
    args_cons (h n C hC st _ X hP φ rest ω mv s _ E hE H V (fun a b st' ω' mv' h' tk' hle H' V' hab hp =>
      hs.so n C hC st' _ X pos hp φ rest ω' mv' _ _ E hE H' V' (fun as bs st2 ω2 mv2 h2 tk2 hle2 H2 V2 hab2 hp2 => ret _ _ st2 ω2 mv2 _ _ (hle.trans hle2) H2 V2 (.cons (hab.mono hle2) hab2) hp2)
        fun e sp g' ω2 h2 tk2 hle2 => exc e sp g' ω2 h2 tk2 (hle.trans hle2)) exc) (he _ _)⟩
theorem plain_any {es : List PySem.Expr} (h : PlainEs es) (pos : Pos) (env : Env) : (backTo pos (starEach es env)).any (·.1) = false := by
  rw [h env]
  unfold backTo
  induction es with
  | nil => rfl
  | cons e es ih => simpa using ih
theorem plain_tail {e : PySem.Expr} {es : List PySem.Expr} (h : PlainEs (e :: es)) (h2 : PlainEs es) (env : Env) : starEach (e :: es) env = (false, eval e env) :: starEach es env := by rw [h env, h2 env]; rfl
theorem R.call {x : Str} {a : Addr} {p q : Pos} {e : PySem.Expr} {es : List PySem.Expr} {ts : EsTr} (hn : ∀ p, nsIn (kk.heap_1 p) mainGlobals x = some (some (.ref a))) (hk : ∀ p, keepIn (kk.heap_1 p) (.ref a) = true) (hx : cs.names.lookup x = some .globalImplicit) (hd : (x == Str.ofString "__debug__") = false)
    (hs : SoundEs cs (e :: es) ts) (h2 : PlainEs es) : SoundE cs (.Call (.Name x p) (e :: es) [] q) (E.call (.fn a) ts) := fun n C hC st P X hP φ rest ω mv s Q E hE H V ret exc => by
  obtain ⟨gl, fl, K⟩ := id H
  refine Call_ (nameX_K K.F φ.X (topRead_of φ.T) (hn _) ?_ φ.hk hx hd)
  refine callWith_K φ.X (hk _) (hs.so n C hC st _ X q hP φ rest ω mv s _ E hE H V (fun as bs st' ω' mv' h' tk' hle H' V' hab hp => ⟨?_, ?_⟩) exc) (plain_tail hs.pl h2 _) (plain_any h2 _ _)
  · obtain ⟨gl', fl', K'⟩ := H'
    exact φ.X.keeps K'.F.keep
  · exact callH_ok hC hp (s := { s with heap := h', toks := tk' }) H' (fun _ => rfl) hab (fun a b g' ω2 h2 tk2 hle2 H2 hv hP => ret a b ⟨st'.m, g'⟩ ω2 mv' h2 tk2 (hle.trans hle2) H2 (V'.mono hle2) hv hP) fun e sp g' ω2 h2 tk2 hle2 hX => exc e sp g' ω2 h2 tk2 (hle.trans hle2) (.inr hX)
theorem R.tup {es : List PySem.Expr} {ts : EsTr} {k : Nat} {p : Pos} (hs : SoundEs cs es ts) : SoundE cs (.Tuple es k p) (E.tup ts) := fun n C hC st P X hP φ rest ω mv s Q E hE H V ret exc =>
  Tuple_ (hs.so n C hC st _ X p hP φ rest ω mv s _ E hE H V (fun as bs st' ω' mv' h' tk' hle H' V' hab hp => by
    obtain ⟨ds, rfl, hd, hp⟩ := allD_e hab hp
    obtain ⟨hl, hp⟩ := onT_e hp
    obtain ⟨gl, fl, K⟩ := H'
    refine kup_newTuple (s := { s with heap := h', toks := tk' }) K.F K.N (fun D h2 F2 N2 lt => ?_) (by rw [hd.length, sizeLine_eq]; have := Nat.le_of_ble_eq_true hl; omega)
    obtain ⟨hle2, H2, hD⟩ := Ok.keep (v := .ref D) (d := .tuple ds) K F2 N2 lt fun tl' m k => .tuple m (DatAll.mono k hd)
    exact ret (.d (.tuple ds)) _ st' _ mv' h2 tk' (hle.trans hle2) H2 (V'.mono hle2) hD hp) exc)
theorem R.lstF {es : List PySem.Expr} {ts : EsTr} {p : Pos} (hs : SoundEs cs es ts) : SoundE cs (.List es p) (E.lstF ts) := fun n C hC st P X hP φ rest ω mv s Q E hE H V ret exc =>
  List_ (hs.so n C hC st _ X p hP φ rest ω mv s _ E hE H V (fun as bs st' ω' mv' h' tk' hle H' V' hab hp => by
    obtain ⟨ds, rfl, hd, hp⟩ := allD_e hab hp
    obtain ⟨hl, hp⟩ := onT_e hp
    obtain ⟨gl, fl, K⟩ := H'
    refine newList_K (s := { s with heap := h', toks := tk' }) K.F K.N (fun D h2 F2 N2 lt => ?_) (by rw [hd.length, sizeLine_eq]; have := Nat.le_of_ble_eq_true hl; omega)
    obtain ⟨hle2, H2, hD⟩ := Ok.keep (v := .ref D) (d := .list ds) K F2 N2 lt fun tl' m k => .list m (DatAll.mono k hd)
    exact ret (.d (.list ds)) _ st' _ mv' h2 tk' (hle.trans hle2) H2 (V'.mono hle2) hD hp) exc)
theorem R.lstO {es : List PySem.Expr} {ts : EsTr} {p : Pos} (hs : SoundEs cs es ts) : SoundE cs (.List es p) (E.lstO ts) := fun n C hC st P X hP φ rest ω mv s Q E hE H V ret exc =>
  List_ (hs.so n C hC st _ X p hP φ rest ω mv s _ E hE H V (fun as bs st' ω' mv' h' tk' hle H' V' hab hp => by
    obtain ⟨ds, rfl, hd, hp⟩ := allD_e hab hp
    obtain ⟨hl, hp⟩ := onT_e hp
    obtain ⟨gl, fl, K⟩ := H'
    refine newList_K (s := { s with heap := h', toks := tk' }) K.F K.N (fun D h2 F2 N2 lt => ?_) (by rw [hd.length, sizeLine_eq]; have := Nat.le_of_ble_eq_true hl; omega)
    obtain ⟨hle2, H2, hD⟩ := Ok.obj (as := [D]) (o := .lst ds) K F2 N2 lt ⟨D, bs, 0, rfl, rfl, hd, by have := Nat.le_of_ble_eq_true hl; omega⟩ rfl
    exact ret (.g st'.g.length) _ (st'.new (.lst ds)) _ mv' h2 tk' (hle.trans hle2) H2 (V'.mono hle2) hD hp) exc)
theorem R.newBk {p : Pos} : SoundE cs (.List [] p) E.newBk := fun n C hC st P X hP φ rest ω mv s Q E hE H V ret exc =>
  List_ (args_nil (by
    obtain ⟨gl, fl, K⟩ := H
    refine newList_K K.F K.N (fun D h2 F2 N2 lt => ?_) (Nat.zero_le _)
    obtain ⟨hle2, H2, hD⟩ := Ok.obj (as := [D]) (o := .bk []) K F2 N2 lt ⟨D, [], 0, rfl, rfl, .nil, Nat.zero_le _⟩ rfl
    exact ret (.g st.g.length) _ (st.new (.bk [])) _ mv h2 _ hle2 H2 (V.mono hle2) hD hP))
end
/-! operations -/
noncomputable def Op1 (f : Value → Sem Value) (K : St → PV → (Dat → Prop) → Prop) : Prop :=
  ∀ (cs : Scope) (n : Nat) (φ : Fm cs n) (rest : Led) (ω : Wo) (mv : Str → Option Value) (st : St) (s : Shared) (Q : Value → Shared → Prop) (E : Value → Shared → Prop) (x : PV) (a : Value) (k : Dat → Prop), OkE φ rest ω mv st.g s.heap → VR φ.w ω x a → K st x k →
    (∀ r v ω' h' tk', ω.Le ω' → OkE φ rest ω' mv st.g h' → DatIn ω'.tl v r → k r → Q v { s with heap := h', toks := tk' }) → wpAny (Mo φ.w) φ.A (f a) Q E s
noncomputable def Op2 (f : Value → Value → Sem Value) (K : St → PV → PV → (Dat → Prop) → Prop) : Prop :=
  ∀ (cs : Scope) (n : Nat) (φ : Fm cs n) (rest : Led) (ω : Wo) (mv : Str → Option Value) (st : St) (s : Shared) (Q : Value → Shared → Prop) (E : Value → Shared → Prop) (x y : PV) (a b : Value) (k : Dat → Prop), OkE φ rest ω mv st.g s.heap → VR φ.w ω x a → VR φ.w ω y b → K st x y k →
    (∀ r v ω' h' tk', ω.Le ω' → OkE φ rest ω' mv st.g h' → DatIn ω'.tl v r → k r → Q v { s with heap := h', toks := tk' }) → wpAny (Mo φ.w) φ.A (f a b) Q E s
section
variable {cs : Scope}
theorem R.bin {e u : PySem.Expr} {op : Operator} {t tu : ETr} {p : Pos} {K : St → PV → PV → (Dat → Prop) → Prop} (ho : Op2 (binaryOp op) K) (hs : SoundE cs e t) (hu : SoundE cs u tu) : SoundE cs (.BinOp e op u p) (E.two t tu K) := fun n C hC st P X hP φ rest ω mv s Q E hE H V ret exc =>
  wpAny_BinOp (hs n C hC st _ X hP φ rest ω mv s _ E hE H V (fun x a st1 ω1 mv1 h1 tk1 l1 H1 V1 hx hp => hu n C hC st1 _ X hp φ rest ω1 mv1 _ _ E hE H1 V1 (fun y b st2 ω2 mv2 h2 tk2 l2 H2 V2 hy hq =>
    ho cs n φ rest ω2 mv2 st2 { s with heap := h2, toks := tk2 } Q E x y a b _ H2 (hx.mono l2) hy hq fun r v ω3 h3 tk3 l3 H3 hv hr => ret (.d r) v st2 ω3 mv2 h3 tk3 (l1.trans (l2.trans l3)) H3 (V2.mono l3) hv hr)
    fun e sp g' ω2 h2 tk2 hle2 => exc e sp g' ω2 h2 tk2 (l1.trans hle2)) exc)
theorem R.cmp {e u : PySem.Expr} {op : CmpOp} {t tu : ETr} {p : Pos} {K : St → PV → PV → (Dat → Prop) → Prop} (ho : Op2 (compareOp op) K) (hb : behindInMarks op u = false) (hs : SoundE cs e t) (hu : SoundE cs u tu) : SoundE cs (.Compare e [op] [u] p) (E.two t tu K) := fun n C hC st P X hP φ rest ω mv s Q E hE H V ret exc =>
  wpAny_Compare1 (hs n C hC st _ X hP φ rest ω mv s _ E hE H V (fun x a st1 ω1 mv1 h1 tk1 l1 H1 V1 hx hp => hu n C hC st1 _ X hp φ rest ω1 mv1 _ _ E hE H1 V1 (fun y b st2 ω2 mv2 h2 tk2 l2 H2 V2 hy hq =>
    ho cs n φ rest ω2 mv2 st2 { s with heap := h2, toks := tk2 } Q E x y a b _ H2 (hx.mono l2) hy hq fun r v ω3 h3 tk3 l3 H3 hv hr => ret (.d r) v st2 ω3 mv2 h3 tk3 (l1.trans (l2.trans l3)) H3 (V2.mono l3) hv hr)
    fun e sp g' ω2 h2 tk2 hle2 => exc e sp g' ω2 h2 tk2 (l1.trans hle2)) exc) hb
theorem R.subs {e u : PySem.Expr} {t tu : ETr} {p : Pos} {K : St → PV → PV → (Dat → Prop) → Prop} (ho : Op2 (subscriptTail e u) K) (hs : SoundE cs e t) (hu : SoundE cs u tu) : SoundE cs (.Subscript e u p) (E.two t tu K) := fun n C hC st P X hP φ rest ω mv s Q E hE H V ret exc =>
  Subscript_ (hs n C hC st _ X hP φ rest ω mv s _ E hE H V (fun x a st1 ω1 mv1 h1 tk1 l1 H1 V1 hx hp => hu n C hC st1 _ X hp φ rest ω1 mv1 _ _ E hE H1 V1 (fun y b st2 ω2 mv2 h2 tk2 l2 H2 V2 hy hq =>
    ho cs n φ rest ω2 mv2 st2 { s with heap := h2, toks := tk2 } Q E x y a b _ H2 (hx.mono l2) hy hq fun r v ω3 h3 tk3 l3 H3 hv hr => ret (.d r) v st2 ω3 mv2 h3 tk3 (l1.trans (l2.trans l3)) H3 (V2.mono l3) hv hr)
    fun e sp g' ω2 h2 tk2 hle2 => exc e sp g' ω2 h2 tk2 (l1.trans hle2)) exc)
end
/-! what values of a kind are -/
section
variable {cs : Scope} {n : Nat} {φ : Fm cs n} {rest : Led} {ω : Wo} {mv : Str → Option Value} {g : List PObj} {gl : List Led} {fl : Led} {h : Heap} {a : Value} {i : Nat}
theorem Ok.lst {ds : List Dat} (K : Ok φ rest ω mv g gl fl h) (hv : VR φ.w ω (.g i) a) (e : g[i]? = some (.lst ds)) : ∃ l vs k, a = .ref l ∧ (l, listOf vs.toArray k) ∈ lay gl ω (fl ++ rest) ∧ DatAll ω.tl vs ds ∧ ds.length ≤ 1000 := by
  obtain ⟨as, cs', l1, l2, f1, rfl, ⟨l, vs, k, rfl, rfl, q3, q4⟩, -⟩ := K.o.at e
  obtain ⟨b, r, e1, rfl⟩ := hv
  rw [f1] at e1
  cases e1
  exact ⟨_, vs, k, rfl, by simp [lay], q3, q4⟩
theorem Ok.bk {rs : List (List Dat)} (K : Ok φ rest ω mv g gl fl h) (hv : VR φ.w ω (.g i) a) (e : g[i]? = some (.bk rs)) : ∃ l rl k, a = .ref l ∧ (l, listOf (refs rl).toArray k) ∈ lay gl ω (fl ++ rest) ∧ (∀ p ∈ rl, p ∈ lay gl ω (fl ++ rest)) ∧ RowsR ω.tl rl rs.reverse ∧ rs.length ≤ 1000 := by
  obtain ⟨as, cs', l1, l2, f1, rfl, ⟨l, rl, k, rfl, rfl, q3, q4⟩, -⟩ := K.o.at e
  obtain ⟨b, r, e1, rfl⟩ := hv
  rw [f1] at e1
  cases e1
  refine ⟨_, rl, k, rfl, by simp [lay], fun p hp => ?_, q3, q4⟩
  simp only [lay, List.flatten_append, List.flatten_cons, List.mem_append, List.mem_cons]
  exact .inl (.inr (.inl (.inr hp)))
theorem Ok.wdAt {rows : List Dat} {ix dp : Int} {as : List Addr} (K : Ok φ rest ω mv g gl fl h) (ha : ω.ga[i]? = some as) (e : g[i]? = some (.wd rows ix dp)) : ∃ W D R t1 t2 t3 t4 t5 e vs k, as = [W, D, R] ∧ (W, instObj 200 D) ∈ lay gl ω (fl ++ rest) ∧ (D, dictOf (esW φ.w R ix dp t1 t2 t3 t4 t5) e) ∈ lay gl ω (fl ++ rest) ∧ (R, listOf vs.toArray k) ∈ lay gl ω (fl ++ rest) ∧ DatAll ω.tl vs rows ∧ rows.length ≤ 1000 := by
  obtain ⟨as', cs', l1, l2, f1, rfl, ⟨W, D, R, t1, t2, t3, t4, t5, e, vs, k, q1, rfl, q3, q4⟩, -⟩ := K.o.at e
  obtain rfl : as = as' := Option.some.inj (ha.symm.trans f1)
  exact ⟨W, D, R, t1, t2, t3, t4, t5, e, vs, k, q1, by simp [lay], by simp [lay], by simp [lay], q3, q4⟩
theorem Ok.wd {rows : List Dat} {ix dp : Int} (K : Ok φ rest ω mv g gl fl h) (hv : VR φ.w ω (.g i) a) (e : g[i]? = some (.wd rows ix dp)) : ∃ W D R t1 t2 t3 t4 t5 e vs k, a = .ref W ∧ ω.ga[i]? = some [W, D, R] ∧ (W, instObj 200 D) ∈ lay gl ω (fl ++ rest) ∧ (D, dictOf (esW φ.w R ix dp t1 t2 t3 t4 t5) e) ∈ lay gl ω (fl ++ rest) ∧ (R, listOf vs.toArray k) ∈ lay gl ω (fl ++ rest) ∧ DatAll ω.tl vs rows ∧ rows.length ≤ 1000 := by
  obtain ⟨b, r, e1, rfl⟩ := hv
  obtain ⟨W, D, R, t1, t2, t3, t4, t5, e, vs, k, q1, q2, q3, q4, q5⟩ := K.wdAt e1 e
  cases q1
  exact ⟨b, D, R, t1, t2, t3, t4, t5, e, vs, k, rfl, e1, q2, q3, q4, q5⟩
theorem Ok.rows {rows : List Dat} {ix dp : Int} (K : Ok φ rest ω mv g gl fl h) (hv : VR φ.w ω (.rows i) a) (e : g[i]? = some (.wd rows ix dp)) : ∃ R vs k, a = .ref R ∧ (R, listOf vs.toArray k) ∈ lay gl ω (fl ++ rest) ∧ DatAll ω.tl vs rows ∧ rows.length ≤ 1000 := by
  obtain ⟨W', D', R', e1, rfl⟩ := hv
  obtain ⟨W, D, R, t1, t2, t3, t4, t5, e, vs, k, q1, q2, q3, q4, q5⟩ := K.wdAt e1 e
  cases q1
  exact ⟨_, vs, k, rfl, q4, q5⟩
theorem Ok.inTl (_ : Ok φ rest ω mv g gl fl h) {p : Addr × Obj} (hp : p ∈ ω.tl) : p ∈ lay gl ω (fl ++ rest) := List.mem_append_right _ (List.mem_append_left _ hp)
theorem VR.tup {ds : List Dat} (hv : VR φ.w ω (.d (.tuple ds)) a) : ∃ l vs k, a = .ref l ∧ (l, ({ cls := .type "tuple", data := .seq vs.toArray k } : Obj)) ∈ ω.tl ∧ DatAll ω.tl vs ds := by
  cases (show DatIn ω.tl a (.tuple ds) from hv) with
  | tuple h1 h2 => exact ⟨_, _, _, rfl, h1, h2⟩
theorem VR.lst {ds : List Dat} (hv : VR φ.w ω (.d (.list ds)) a) : ∃ l vs k, a = .ref l ∧ (l, listOf vs.toArray k) ∈ ω.tl ∧ DatAll ω.tl vs ds := by
  cases (show DatIn ω.tl a (.list ds) from hv) with
  | list h1 h2 => exact ⟨_, _, _, rfl, h1, h2⟩
theorem VR.int {i : Int} (hv : VR φ.w ω (.d (.int i)) a) : ∃ t, a = .int i t := by
  cases (show DatIn ω.tl a (.int i) from hv) with
  | int _ t => exact ⟨t, rfl⟩
theorem VR.str {i : Str} (hv : VR φ.w ω (.d (.str i)) a) : ∃ t, a = .str i t := by
  cases (show DatIn ω.tl a (.str i) from hv) with
  | str _ t => exact ⟨t, rfl⟩
theorem VR.bool {i : Bool} (hv : VR φ.w ω (.d (.bool i)) a) : a = .bool i := by
  cases (show DatIn ω.tl a (.bool i) from hv) with
  | bool _ => rfl
theorem VR.none (hv : VR φ.w ω (.d .none) a) : a = .none := by
  cases (show DatIn ω.tl a .none from hv) with
  | none => rfl
end
/-! ints -/
theorem Op2.minus : Op2 (binaryOp .Sub) fun _ x y k => asInt x fun i => asInt y fun j => k (.int (i - j)) := fun cs n φ rest ω mv st s Q E x y a b k H hx hy h ret => by
  obtain ⟨i, rfl, hh⟩ := asInt_e h; replace h := hh; clear hh
  obtain ⟨j, rfl, hh⟩ := asInt_e h; replace h := hh; clear hh
  obtain ⟨t, rfl⟩ := hx.int
  obtain ⟨u, rfl⟩ := hy.int
  exact PyProof.Rows.sub_int (ret _ _ ω _ _ .refl H (.int _ _) h)
theorem Op2.mul : Op2 (binaryOp .Mult) fun _ x y k => asInt x fun i => asInt y fun j => ∃ _ : IntMulOk i j, k (.int (i * j)) := fun cs n φ rest ω mv st s Q E x y a b k H hx hy h ret => by
  obtain ⟨i, rfl, hh⟩ := asInt_e h; replace h := hh; clear hh
  obtain ⟨j, rfl, hh⟩ := asInt_e h; replace h := hh; clear hh
  obtain ⟨t, rfl⟩ := hx.int
  obtain ⟨u, rfl⟩ := hy.int
  obtain ⟨hm, h⟩ := h
  exact PyProof.Rows.mul_int (ret _ _ ω _ _ .refl H (.int _ _) h) hm
theorem Op2.fdiv : Op2 (binaryOp .FloorDiv) fun _ x y k => asInt x fun i => asInt y fun j => onT (decide (0 < j) && decide (j < 1073741824)) (k (.int (Int.fdiv i j))) := fun cs n φ rest ω mv st s Q E x y a b k H hx hy h ret => by
  obtain ⟨i, rfl, hh⟩ := asInt_e h; replace h := hh; clear hh
  obtain ⟨j, rfl, hh⟩ := asInt_e h; replace h := hh; clear hh
  obtain ⟨t, rfl⟩ := hx.int
  obtain ⟨u, rfl⟩ := hy.int
  obtain ⟨hj, h⟩ := onT_e h
  simp only [Bool.and_eq_true, decide_eq_true_eq] at hj
  exact PyProof.Rows.floordiv_int (by omega) (ret _ _ ω _ _ .refl H (.int _ _) h) (.inl (PyProof.noPylong_small (by omega)))
theorem Op2.fmod : Op2 (binaryOp .Mod) fun _ x y k => asInt x fun i => asInt y fun j => onT (decide (0 < j)) (k (.int (Int.fmod i j))) := fun cs n φ rest ω mv st s Q E x y a b k H hx hy h ret => by
  obtain ⟨i, rfl, hh⟩ := asInt_e h; replace h := hh; clear hh
  obtain ⟨j, rfl, hh⟩ := asInt_e h; replace h := hh; clear hh
  obtain ⟨t, rfl⟩ := hx.int
  obtain ⟨u, rfl⟩ := hy.int
  obtain ⟨hj, h⟩ := onT_e h
  exact PyProof.Rows.mod_int (by have := of_decide_eq_true hj; omega) (ret _ _ ω _ _ .refl H (.int _ _) h)
theorem Op2.lt : Op2 (compareOp .Lt) fun _ x y k => asInt x fun i => asInt y fun j => k (.bool (decide (i < j))) := fun cs n φ rest ω mv st s Q E x y a b k H hx hy h ret => by
  obtain ⟨i, rfl, hh⟩ := asInt_e h; replace h := hh; clear hh
  obtain ⟨j, rfl, hh⟩ := asInt_e h; replace h := hh; clear hh
  obtain ⟨t, rfl⟩ := hx.int
  obtain ⟨u, rfl⟩ := hy.int
  exact PyProof.Rows.lt_int (ret _ _ ω _ _ .refl H (.bool _) h)
theorem Op2.gt : Op2 (compareOp .Gt) fun _ x y k => asInt x fun i => asInt y fun j => k (.bool (decide (j < i))) := fun cs n φ rest ω mv st s Q E x y a b k H hx hy h ret => by
  obtain ⟨i, rfl, hh⟩ := asInt_e h; replace h := hh; clear hh
  obtain ⟨j, rfl, hh⟩ := asInt_e h; replace h := hh; clear hh
  obtain ⟨t, rfl⟩ := hx.int
  obtain ⟨u, rfl⟩ := hy.int
  exact PyProof.Rows.gt_int (ret _ _ ω _ _ .refl H (.bool _) h)
theorem Op2.ge : Op2 (compareOp .GtE) fun _ x y k => asInt x fun i => asInt y fun j => k (.bool (decide (j ≤ i))) := fun cs n φ rest ω mv st s Q E x y a b k H hx hy h ret => by
  obtain ⟨i, rfl, hh⟩ := asInt_e h; replace h := hh; clear hh
  obtain ⟨j, rfl, hh⟩ := asInt_e h; replace h := hh; clear hh
  obtain ⟨t, rfl⟩ := hx.int
  obtain ⟨u, rfl⟩ := hy.int
  exact PyProof.Rows.ge_int (ret _ _ ω _ _ .refl H (.bool _) h)
/-! + -/
theorem Op2.add : Op2 (binaryOp .Add) addK := fun cs n φ rest ω mv st s Q E x y a b k H hx hy h ret => by
  obtain ⟨gl, fl, K⟩ := id H
  have lists : ∀ {l l' : Addr} {vs us : List Value} {n n' : Nat} {xs ys : List Dat}, (l, listOf vs.toArray n) ∈ lay gl ω (fl ++ rest) → (l', listOf us.toArray n') ∈ lay gl ω (fl ++ rest) → DatAll ω.tl vs xs → DatAll ω.tl us ys → xs.length + ys.length ≤ 1000 → k (.list (xs ++ ys)) → wpAny (Mo φ.w) φ.A (binaryOp .Add (.ref l) (.ref l')) Q E s := by
    intro l l' vs us n n' xs ys h1 h2 d1 d2 hl hk
    refine kmk_add_lit K.F K.N (News.isList K.N h1) (News.isList K.N h2) (zs := vs ++ us) rfl (fun D h' F' N' lt => ?_) (by rw [sizeLine_eq]; simp only [List.length_append, d1.length, d2.length]; omega)
    obtain ⟨hle2, H2, hD⟩ := Ok.keep (v := .ref D) (d := .list (xs ++ ys)) K F' N' lt fun tl' m k => .list m (DatAll.mono k (d1.append d2))
    exact ret _ _ _ h' _ hle2 H2 hD hk
  cases x with
  | d x =>
    obtain ⟨y, rfl, hh⟩ := asD_e h; replace h := hh; clear hh
    cases x with
    | int i =>
      obtain ⟨j, rfl, hh⟩ := dInt_e h; replace h := hh; clear hh
      obtain ⟨t, rfl⟩ := hx.int
      obtain ⟨u, rfl⟩ := hy.int
      exact PyProof.Rows.add_int (ret _ _ ω _ _ .refl H (.int _ _) h)
    | str i =>
      obtain ⟨j, rfl, hh⟩ := dStr_e h; replace h := hh; clear hh
      obtain ⟨t, rfl⟩ := hx.str
      obtain ⟨u, rfl⟩ := hy.str
      obtain ⟨hl, h⟩ := onT_e h
      exact PyProof.Rows.add_str (fun t' tk => ret _ _ ω _ _ .refl H (.str _ _) h) (by have := Nat.le_of_ble_eq_true hl; rw [sizeLine_eq]; omega)
    | tuple xs =>
      obtain ⟨ys, rfl, hh⟩ := dTup_e h; replace h := hh; clear hh
      obtain ⟨hl, h⟩ := onT_e h
      simp only [Bool.and_eq_true] at hl
      obtain ⟨⟨c1, c2⟩, c3⟩ := hl
      have c1 := Nat.le_of_ble_eq_true c1
      have c2 := Nat.le_of_ble_eq_true c2
      have c3 := Nat.le_of_ble_eq_true c3
      obtain ⟨l, vs, n, rfl, m1, d1⟩ := hx.tup
      obtain ⟨l', us, n', rfl, m2, d2⟩ := hy.tup
      have e1 := d1.length
      have e2 := d2.length
      refine kde_addT K.F K.N (K.N.isTup (K.inTl m1)) (K.N.isTup (K.inTl m2)) (zs := vs ++ us) ?_ ?_ ?_ rfl fun D h' F' N' lt => ?_
      · intro q
        have : vs.length = 0 := by rw [show vs = [] from by simpa using q]; rfl
        omega
      · intro q
        have : us.length = 0 := by rw [show us = [] from by simpa using q]; rfl
        omega
      · simp only [List.length_append]
        omega
      · obtain ⟨hle2, H2, hD⟩ := Ok.keep (v := .ref D) (d := .tuple (xs ++ ys)) K F' N' lt fun tl' m k => .tuple m (DatAll.mono k (d1.append d2))
        exact ret _ _ _ h' _ hle2 H2 hD h
    | list xs =>
      obtain ⟨ys, rfl, hh⟩ := dLst_e h; replace h := hh; clear hh
      obtain ⟨hl, h⟩ := onT_e h
      obtain ⟨l, vs, n, rfl, m1, d1⟩ := hx.lst
      obtain ⟨l', us, n', rfl, m2, d2⟩ := hy.lst
      exact lists (K.inTl m1) (K.inTl m2) d1 d2 (Nat.le_of_ble_eq_true hl) h
    | none => exact h.elim
    | bool _ => exact h.elim
    | bytes _ => exact h.elim
  | g i =>
    obtain ⟨ys, rfl, hh⟩ := asLst_e h; replace h := hh; clear hh
    obtain ⟨o, ho, h⟩ := onSome_e h
    obtain ⟨xs, rfl, hh⟩ := oLst_e h; replace h := hh; clear hh
    obtain ⟨hl, h⟩ := onT_e h
    obtain ⟨l, vs, n, rfl, m1, d1, -⟩ := K.lst hx ho
    obtain ⟨l', us, n', rfl, m2, d2⟩ := hy.lst
    exact lists m1 (K.inTl m2) d1 d2 (Nat.le_of_ble_eq_true hl) h
  | undef => exact h.elim
  | fn _ => exact h.elim
  | lam _ _ => exact h.elim
  | rows _ => exact h.elim
  | tabl _ => exact h.elim
/-! == and != -/
section
open PySem.Spec
mutual
theorem deqb_e : ∀ {a b : Dat}, deqb a b = true → a = b
  | .none, .none, _ => rfl
  | .bool a, .bool b, h => by simpa [deqb] using h
  | .int a, .int b, h => by simpa [deqb] using h
  | .str a, .str b, h => by simpa [deqb] using h
  | .tuple a, .tuple b, h => by rw [deqbs_e (show deqbs a b = true by simpa [deqb] using h)]
  | .list a, .list b, h => by rw [deqbs_e (show deqbs a b = true by simpa [deqb] using h)]
theorem deqbs_e : ∀ {a b : List Dat}, deqbs a b = true → a = b
  | [], [], _ => rfl
  | a :: as, b :: bs, h => by
    simp only [deqbs, Bool.and_eq_true] at h
    rw [deqb_e h.1, deqbs_e h.2]
end
variable {A : Around} {s : Shared} {l b : Addr} {vs : List Value}
theorem rc_nil (hl : s.heap.IsList l vs.toArray) (hb : s.heap.IsList b #[]) (hu : A.units < cLine) : PySem.SeqAt.RcAt A s (.ref l) (.ref b) vs.isEmpty := by
  cases vs with
  | nil => exact PySem.SeqAt.RcAt.lists (e := fun _ => true) hl hb rfl hu fun j h1 => absurd h1 (Nat.not_lt_zero _)
  | cons v vs => exact PySem.SeqAt.RcAt.lists_lengths hl hb rfl hu
theorem rcne_nil (hl : s.heap.IsList l vs.toArray) (hb : s.heap.IsList b #[]) (hu : A.units < cLine) : PySem.SeqAt.RcNeAt A s (.ref l) (.ref b) (!vs.isEmpty) := by
  cases vs with
  | nil => exact PySem.SeqAt.RcNeAt.lists (e := fun _ => true) hl hb rfl hu fun j h1 => absurd h1 (Nat.not_lt_zero _)
  | cons v vs => exact PySem.SeqAt.RcNeAt.lists_lengths hl hb rfl hu
theorem nil_all (n : Nat) : ((List.range (min n 0)).all (fun _ => true) && n == 0) = (n == 0) := by rw [Nat.min_zero]; rfl
theorem rct_nil (hl : s.heap.IsTuple l vs.toArray) (hb : s.heap.IsTuple b #[]) (hu : A.units < cLine) : PySem.SeqAt.RcAt A s (.ref l) (.ref b) vs.isEmpty := by
  have := PySem.SeqAt.RcAt.tuples (e := fun _ => true) hl hb hu fun j h1 h2 => absurd h2 (Nat.not_lt_zero _)
  rw [show #[].size = 0 from rfl, nil_all] at this
  cases vs <;> exact this
theorem rctne_nil (hl : s.heap.IsTuple l vs.toArray) (hb : s.heap.IsTuple b #[]) (hu : A.units < cLine) : PySem.SeqAt.RcNeAt A s (.ref l) (.ref b) (!vs.isEmpty) := by
  have := PySem.SeqAt.RcNeAt.tuples (e := fun _ => true) hl hb hu fun j h1 h2 => absurd h2 (Nat.not_lt_zero _)
  rw [show #[].size = 0 from rfl, nil_all] at this
  cases vs <;> exact this
theorem d_layL {ds : List Dat} (h : ∀ d ∈ ds, dOk 60 d = true) : PySem.SeqAt.shaped (.list (kqdPs ds)) = true ∧ PyData.eqv (.list (kqdPs ds)) (.list (kqdPs ds)) = true := by
  have key : ∀ ds : List Dat, (∀ d ∈ ds, dOk 60 d = true) → PyData.canLayAll0 (kqdPs ds) = true ∧ PyData.depthAll (kqdPs ds) ≤ 60 ∧ PyData.eqvAll (kqdPs ds) (kqdPs ds) = true := by
    intro ds
    induction ds with
    | nil => intro _; simp [kqdPs, PyData.canLayAll0, PyData.depthAll, PyData.eqvAll]
    | cons d ds hi =>
      intro h
      have h1 := d_lay 60 d (h d (.head _))
      have h2 := hi fun e he => h e (.tail _ he)
      simp only [kqdPs, PyData.canLayAll0, PyData.depthAll, PyData.eqvAll, h1.1, h2.1, h1.2.2, h2.2.2, Bool.and_self, true_and, and_true]
      have a1 := h1.2.1
      have a2 := h2.2.1
      omega
  obtain ⟨k1, k2, k3⟩ := key ds h
  refine ⟨?_, ?_⟩
  · unfold PySem.SeqAt.shaped
    simp only [PyData.canLay0, PyData.depth, k1, Bool.true_and]
    exact decide_eq_true (by omega)
  · simp only [PyData.eqv, k3]
end
section
variable {cs : Scope} {n : Nat} {φ : Fm cs n} {rest : Led} {ω : Wo} {mv : Str → Option Value} {g : List PObj} {gl : List Led} {fl : Led} {s : Shared} {Q : Value → Shared → Prop} {E : Value → Shared → Prop}
theorem Fm.u (φ : Fm cs n) : φ.A.units < cLine := by have := φ.hu; show φ.un < _; omega
theorem Fm.u64 (φ : Fm cs n) : φ.A.units + 64 < cLine := by have := φ.hu; show φ.un + 64 < _; omega
theorem empty_len {α β : Type} {a : List α} {b : List β} (h : a.length = b.length) : a.isEmpty = b.isEmpty := by
  cases a <;> cases b <;> first | rfl | simp at h
theorem strs_dOk {ds : List Dat} (h : ds.all isStrB = true) : ∀ d ∈ ds, dOk 60 d = true := fun d hd => by
  have := List.all_eq_true.mp h d hd
  cases d <;> first | exact this | cases this
theorem strs_eqvAll : ∀ {a b : List Dat}, a.all isStrB = true → b.all isStrB = true → PyData.eqvAll (kqdPs a) (kqdPs b) = deqbs a b
  | [], [], _, _ => by simp [kqdPs, PyData.eqvAll, deqbs]
  | [], _ :: _, _, _ => by simp [kqdPs, PyData.eqvAll, deqbs]
  | _ :: _, [], _, _ => by simp [kqdPs, PyData.eqvAll, deqbs]
  | x :: a, y :: b, ha, hb => by
    simp only [List.all_cons, Bool.and_eq_true] at ha hb
    have e : PyData.eqv (kqdP x) (kqdP y) = deqb x y := by
      cases x <;> first | (exact absurd ha.1 Bool.false_ne_true) | skip
      cases y <;> first | (exact absurd hb.1 Bool.false_ne_true) | skip
      simp [kqdP, PyData.eqv, deqb]
    simp only [kqdPs, PyData.eqvAll, deqbs, e, strs_eqvAll ha.2 hb.2]
theorem eqK_ok {st : St} {x y : PV} {a b : Value} {k : Bool → Prop} (K : Ok φ rest ω mv st.g gl fl s.heap) (hx : VR φ.w ω x a) (hy : VR φ.w ω y b) (h : eqK st x y k) :
    ∃ r, k r ∧ (∀ Q, Q (.bool r) s → wpAny (Mo φ.w) φ.A (compareOp .Eq a b) Q E s) ∧ ∀ Q, Q (.bool (!r)) s → wpAny (Mo φ.w) φ.A (compareOp .NotEq a b) Q E s := by
  have lists : ∀ {l l' : Addr} {vs : List Value} {n n' : Nat}, (l, listOf vs.toArray n) ∈ lay gl ω (fl ++ rest) → (l', listOf ([] : List Value).toArray n') ∈ lay gl ω (fl ++ rest) → (∀ Q, Q (.bool vs.isEmpty) s → wpAny (Mo φ.w) φ.A (compareOp .Eq (.ref l) (.ref l')) Q E s) ∧ ∀ Q, Q (.bool (!vs.isEmpty)) s → wpAny (Mo φ.w) φ.A (compareOp .NotEq (.ref l) (.ref l')) Q E s := fun h1 h2 =>
    ⟨fun Q hq => cmp_ofEq (rc_nil (News.isList K.N h1) (News.isList K.N h2) φ.u _ _ _ _ hq), fun Q hq => cmp_ofNotEq (rcne_nil (News.isList K.N h1) (News.isList K.N h2) φ.u _ _ _ _ hq)⟩
  cases x with
  | d x =>
    obtain ⟨y, rfl, hh⟩ := asD_e h; replace h := hh; clear hh
    cases x with
    | int i =>
      obtain ⟨j, rfl, hh⟩ := dInt_e h; replace h := hh; clear hh
      obtain ⟨t, rfl⟩ := hx.int
      obtain ⟨u, rfl⟩ := hy.int
      exact ⟨_, h, fun Q hq => PyProof.Rows.eq_int hq, fun Q hq => PyProof.Rows.ne_int hq⟩
    | str i =>
      obtain ⟨j, rfl, hh⟩ := dStr_e h; replace h := hh; clear hh
      obtain ⟨t, rfl⟩ := hx.str
      obtain ⟨u, rfl⟩ := hy.str
      exact ⟨_, h, fun Q hq => PyProof.Rows.eq_str hq, fun Q hq => PyProof.Rows.ne_str hq⟩
    | tuple xs =>
      obtain ⟨ys, rfl, hh⟩ := dTup_e h; replace h := hh; clear hh
      cases ys with
      | nil =>
        obtain ⟨l, vs, n, rfl, m1, d1⟩ := hx.tup
        obtain ⟨l', us, n', rfl, m2, d2⟩ := hy.tup
        cases d2
        refine ⟨xs.isEmpty, h, ?_⟩
        rw [← empty_len d1.length]
        exact ⟨fun Q hq => cmp_ofEq (rct_nil (K.N.isTup (K.inTl m1)) (K.N.isTup (K.inTl m2)) φ.u _ _ _ _ hq), fun Q hq => cmp_ofNotEq (rctne_nil (K.N.isTup (K.inTl m1)) (K.N.isTup (K.inTl m2)) φ.u _ _ _ _ hq)⟩
      | cons y ys =>
        obtain ⟨hb, hk⟩ := onT_e h
        simp only [Bool.and_eq_true] at hb
        obtain ⟨hb1, hb2⟩ := hb
        obtain rfl := deqbs_e hb1
        have D1 : DatIn (lay gl ω (fl ++ rest)) a (.tuple (y :: ys)) := DatIn.mono (fun p hp => K.inTl hp) hx
        have D2 : DatIn (lay gl ω (fl ++ rest)) b (.tuple (y :: ys)) := DatIn.mono (fun p hp => K.inTl hp) hy
        exact ⟨true, hk, fun Q hq => eq_dat K.N D1 D2 hb2 φ.u64 hq, fun Q hq => ne_dat K.N D1 D2 hb2 φ.u64 hq⟩
    | list xs =>
      obtain ⟨ys, rfl, hh⟩ := dLst_e h; replace h := hh; clear hh
      obtain ⟨l, vs, n, rfl, m1, d1⟩ := hx.lst
      obtain ⟨l', us, n', rfl, m2, d2⟩ := hy.lst
      cases ys with
      | nil =>
        cases d2
        refine ⟨xs.isEmpty, h, ?_⟩
        rw [← empty_len d1.length]
        exact lists (K.inTl m1) (K.inTl m2)
      | cons y ys =>
        cases hs : xs.all isStrB && (y :: ys).all isStrB with
        | true =>
          have hk : k (deqbs xs (y :: ys)) := by
            simp only [eqD, eqLst, hs] at h
            exact h
          simp only [Bool.and_eq_true] at hs
          obtain ⟨as, ra⟩ := d_all K.N 60 (DatAll.mono (fun p hp => K.inTl hp) d1) (strs_dOk hs.1)
          obtain ⟨bs, rb⟩ := d_all K.N 60 (DatAll.mono (fun p hp => K.inTl hp) d2) (strs_dOk hs.2)
          have r1 := reads_list_at (K.N.get (K.inTl m1)) rfl rfl (by simpa using ra)
          have r2 := reads_list_at (K.N.get (K.inTl m2)) rfl rfl (by simpa using rb)
          have ev : PyData.eqv (.list (kqdPs xs)) (.list (kqdPs (y :: ys))) = deqbs xs (y :: ys) := by
            rw [PyData.eqv]
            exact strs_eqvAll hs.1 hs.2
          exact ⟨_, hk, fun Q hq => eq_dataH r1 r2 (d_layL (strs_dOk hs.1)).1 (d_layL (strs_dOk hs.2)).1 φ.u64 (by rw [ev]; exact hq), fun Q hq => ne_dataH r1 r2 (d_layL (strs_dOk hs.1)).1 (d_layL (strs_dOk hs.2)).1 φ.u64 (by rw [ev]; exact hq)⟩
        | false =>
          simp only [eqD, eqLst, hs] at h
          obtain ⟨hb, hk⟩ := onT_e h
          simp only [Bool.and_eq_true, List.all_eq_true] at hb
          obtain ⟨hb1, hb2⟩ := hb
          obtain rfl := deqbs_e hb1
          obtain ⟨s1, s2⟩ := d_layL hb2
          obtain ⟨as, ra⟩ := d_all K.N 60 (DatAll.mono (fun p hp => K.inTl hp) d1) hb2
          obtain ⟨bs, rb⟩ := d_all K.N 60 (DatAll.mono (fun p hp => K.inTl hp) d2) hb2
          have r1 := reads_list_at (K.N.get (K.inTl m1)) rfl rfl (by simpa using ra)
          have r2 := reads_list_at (K.N.get (K.inTl m2)) rfl rfl (by simpa using rb)
          exact ⟨true, hk, fun Q hq => eq_dataH r1 r2 s1 s1 φ.u64 (by rw [s2]; exact hq), fun Q hq => ne_dataH r1 r2 s1 s1 φ.u64 (by rw [s2]; exact hq)⟩
    | none => exact h.elim
    | bool _ => exact h.elim
    | bytes _ => exact h.elim
  | g i =>
    obtain ⟨ys, rfl, hh⟩ := asLst_e h; replace h := hh; clear hh
    obtain ⟨he, h⟩ := onT_e h
    obtain ⟨o, ho, h⟩ := onSome_e h
    obtain ⟨l', us, n', rfl, m2, d2⟩ := hy.lst
    cases ys with
    | cons _ _ => cases he
    | nil =>
      cases d2
      cases o with
      | lst ds =>
        obtain ⟨l, vs, n, rfl, m1, d1, -⟩ := K.lst hx ho
        refine ⟨ds.isEmpty, h, ?_⟩
        rw [← empty_len d1.length]
        exact lists m1 (K.inTl m2)
      | bk rs =>
        obtain ⟨l, rl, n, rfl, m1, -, d1, -⟩ := K.bk hx ho
        refine ⟨rs.isEmpty, h, ?_⟩
        have e : (refs rl).isEmpty = rs.isEmpty := empty_len (by
          have e1 : rl.length = rs.reverse.length := by
            generalize rs.reverse = rr at d1
            clear m1 h ho
            induction d1 with
            | nil => rfl
            | cons _ _ _ ih => simp [ih]
          simp [refs, e1])
        rw [← e]
        exact lists m1 (K.inTl m2)
      | _ => exact h.elim
  | undef => exact h.elim
  | fn _ => exact h.elim
  | lam _ _ => exact h.elim
  | rows _ => exact h.elim
  | tabl _ => exact h.elim
end
theorem Op2.eq : Op2 (compareOp .Eq) fun st x y k => eqK st x y fun r => k (.bool r) := fun cs n φ rest ω mv st s Q E x y a b k H hx hy h ret => by
  obtain ⟨gl, fl, K⟩ := id H
  obtain ⟨r, hk, h1, -⟩ := eqK_ok (E := E) K hx hy h
  exact h1 _ (ret _ _ ω _ _ .refl H (.bool _) hk)
theorem Op2.ne : Op2 (compareOp .NotEq) fun st x y k => eqK st x y fun r => k (.bool (!r)) := fun cs n φ rest ω mv st s Q E x y a b k H hx hy h ret => by
  obtain ⟨gl, fl, K⟩ := id H
  obtain ⟨r, hk, -, h1⟩ := eqK_ok (E := E) K hx hy h
  exact h1 _ (ret _ _ ω _ _ .refl H (.bool _) hk)
/-! subscripts -/
theorem seqIx_b {k : Int} {n j : Nat} (h : seqIndex? k n = some j) (hn : n ≤ 1000) : -(2 ^ 63) ≤ k ∧ k < 2 ^ 63 ∧ (0 ≤ k → j = k.toNat) := by
  unfold seqIndex? at h
  by_cases h0 : k < 0
  · simp only [if_pos h0] at h
    split at h
    · rename_i q
      simp only [Bool.and_eq_true, decide_eq_true_eq] at q
      omega
    · cases h
  · simp only [if_neg h0] at h
    split at h
    · rename_i q
      simp only [Bool.and_eq_true, decide_eq_true_eq] at q
      cases h
      omega
    · cases h
noncomputable def PlainIx (e u : PySem.Expr) : Prop := (∀ o i, subscripted u false o i = operate [o, i] (getItem o i)) ∧ ∀ x t r, letTemporaryGo e (.str x t) r = pure ()
section
variable {cs : Scope} {n : Nat} {φ : Fm cs n} {s : Shared} {Q : Value → Shared → Prop} {E : Value → Shared → Prop}
theorem item_list {l : Addr} {vs : List Value} {k : Int} {t : Tok} {j : Nat} {v : Value} {e u : PySem.Expr} (hl : s.heap.IsList l vs.toArray) (hj : seqIndex? k vs.length = some j) (hn : vs.length ≤ 1000) (hv : vs[j]? = some v) (hp : PlainIx e u) (hq : Q v s) : wpAny (Mo φ.w) φ.A (subscriptTail e u (.ref l) (.int k t)) Q E s := by
  obtain ⟨b1, b2, b3⟩ := seqIx_b hj hn
  by_cases h0 : 0 ≤ k
  · obtain rfl := b3 h0
    exact tail_any hl.typeIs slot_list_getitem.lookup (wpAny_getItem_list hl h0 b2 (x := v) (by simpa using hv) hq) (hp.1 _ _)
  · exact kde_neg hl (by omega) b1 hj hv hq (hp.1 _ _)
theorem datAt {tl : Led} {vs : List Value} {ds : List Dat} (h : DatAll tl vs ds) {j : Nat} {d : Dat} (e : ds[j]? = some d) : ∃ v, vs[j]? = some v ∧ DatIn tl v d := by
  obtain ⟨hlt, he⟩ := List.getElem?_eq_some_iff.mp e
  obtain ⟨v, hv, hd⟩ := h.get hlt
  rw [he] at hd
  exact ⟨v, hv, hd⟩
theorem itemK_e {ds : List Dat} {k : Int} {P : Dat → Prop} (h : itemK ds k P) : ds.length ≤ 1000 ∧ ∃ j d, seqIndex? k ds.length = some j ∧ ds[j]? = some d ∧ P d := by
  obtain ⟨h1, h⟩ := onT_e h
  obtain ⟨j, h2, h⟩ := onSome_e h
  obtain ⟨d, h3, h⟩ := onSome_e h
  exact ⟨Nat.le_of_ble_eq_true h1, j, d, h2, h3, h⟩
end
theorem Op2.sub {e u : PySem.Expr} (hp : PlainIx e u) : Op2 (subscriptTail e u) fun st x y k => asInt y fun i => subK st x i k := fun cs n φ rest ω mv st s Q E x y a b k H hx hy h ret => by
  obtain ⟨i, rfl, hh⟩ := asInt_e h; replace h := hh; clear hh
  obtain ⟨t, rfl⟩ := hy.int
  obtain ⟨gl, fl, K⟩ := id H
  cases x with
  | d x =>
    cases x with
    | tuple ds =>
      obtain ⟨hl, j, d, e1, e2, hk⟩ := itemK_e h
      obtain ⟨l, vs, n, rfl, m1, d1⟩ := hx.tup
      obtain ⟨v, e3, hd⟩ := datAt d1 e2
      rw [← d1.length] at e1 hl
      obtain ⟨b1, b2, -⟩ := seqIx_b e1 hl
      have m2 := K.N _ (K.inTl m1)
      exact item_tupleT ⟨_, m2.1, rfl, _, rfl⟩ b1 b2 e1 e3 (ret _ _ ω _ _ .refl H hd hk) (hp.1 _ _)
    | list ds =>
      obtain ⟨hl, j, d, e1, e2, hk⟩ := itemK_e h
      obtain ⟨l, vs, n, rfl, m1, d1⟩ := hx.lst
      obtain ⟨v, e3, hd⟩ := datAt d1 e2
      rw [← d1.length] at e1 hl
      exact item_list (News.isList K.N (K.inTl m1)) e1 hl e3 hp (ret _ _ ω _ _ .refl H hd hk)
    | str x =>
      obtain ⟨t2, rfl⟩ := hx.str
      obtain ⟨hb, hk⟩ := onT_e h
      simp only [Bool.and_eq_true, decide_eq_true_eq] at hb
      obtain ⟨⟨b1, b2⟩, b3⟩ := hb
      have b3 := Nat.le_of_ble_eq_true b3
      refine item_str ?_ b1 b2 (fun _ => ret _ _ ω _ _ .refl H (.str _ _) hk) (hp.1 _ _) (hp.2 _ _)
      unfold fitsSsize
      rw [decide_eq_false (show ¬ i < -(2 ^ 63 : Int) by omega), decide_eq_false (show ¬ i ≥ 2 ^ 63 by omega)]
      rfl
    | _ => exact h.elim
  | g o =>
    obtain ⟨o', ho, h⟩ := onSome_e h
    obtain ⟨ds, rfl, hh⟩ := oLst_e h; replace h := hh; clear hh
    obtain ⟨hl, j, d, e1, e2, hk⟩ := itemK_e h
    obtain ⟨l, vs, n, rfl, m1, d1, -⟩ := K.lst hx ho
    obtain ⟨v, e3, hd⟩ := datAt d1 e2
    rw [← d1.length] at e1 hl
    exact item_list (News.isList K.N m1) e1 hl e3 hp (ret _ _ ω _ _ .refl H hd hk)
  | rows o =>
    obtain ⟨o', ho, h⟩ := onSome_e h
    obtain ⟨ds, ix, dp, rfl, hh⟩ := oWd_e h; replace h := hh; clear hh
    obtain ⟨hl, j, d, e1, e2, hk⟩ := itemK_e h
    obtain ⟨l, vs, n, rfl, m1, d1, -⟩ := K.rows hx ho
    obtain ⟨v, e3, hd⟩ := datAt d1 e2
    rw [← d1.length] at e1 hl
    exact item_list (News.isList K.N m1) e1 hl e3 hp (ret _ _ ω _ _ .refl H hd hk)
  | undef => exact h.elim
  | fn _ => exact h.elim
  | lam _ _ => exact h.elim
  | tabl _ => exact h.elim
/-! more operations -/
section
variable {cs : Scope} {n : Nat} {φ : Fm cs n} {rest : Led} {ω : Wo} {mv : Str → Option Value} {g : List PObj} {gl : List Led} {fl : Led} {h h' : Heap} {s : Shared} {Q : Value → Shared → Prop} {E : Value → Shared → Prop}
theorem Ok.keeps (K : Ok φ rest ω mv g gl fl h) (k : ∀ b o, h.get? b = some o → h'.get? b = some o) : Ok φ rest ω mv g gl fl h' := ⟨K.F.keeps k, fun p hp => ⟨k _ _ (K.N p hp).1, (K.N p hp).2⟩, K.f, K.o, K.d⟩
theorem OkE.keeps (K : OkE φ rest ω mv g h) (k : ∀ b o, h.get? b = some o → h'.get? b = some o) : OkE φ rest ω mv g h' := by
  obtain ⟨gl, fl, K⟩ := K
  exact ⟨gl, fl, K.keeps k⟩
noncomputable def vFlat (x : Dat) (v : Value) : Bool := match v, x with
  | .none, .none => true
  | .str a _, .str b => a == b
  | _, _ => false
theorem flat_eqAt {A : Around} {tl : Led} {x y : Dat} {a b : Value} (hx : flatD x = true) (hy : flatD y = true) (da : DatIn tl a x) (db : DatIn tl b y) : PySem.SeqAt.EqAt A s b a (vFlat x b) := by
  cases x <;> first | cases hx | skip
  all_goals cases y <;> first | cases hy | skip
  all_goals cases da <;> cases db
  · exact PySem.SeqAt.EqAt.same .none
  · exact PySem.SeqAt.EqAt.str_none _ _
  · exact PySem.SeqAt.EqAt.none_str _ _
  · exact PySem.SeqAt.EqAt.str_str _ _ _ _
theorem flat_deqb {tl : Led} {x y : Dat} {b : Value} (hx : flatD x = true) (hy : flatD y = true) (db : DatIn tl b y) : vFlat x b = deqb y x := by
  cases x <;> first | cases hx | skip
  all_goals cases y <;> first | cases hy | skip
  all_goals cases db
  all_goals rfl
theorem flat_any {tl : Led} {x : Dat} (hx : flatD x = true) : ∀ {vs : List Value} {ds : List Dat}, DatAll tl vs ds → ds.all flatD = true → vs.any (vFlat x) = inDats x ds
  | [], _, h, _ => by cases h; rfl
  | v :: vs, _, h, hd => by
    cases h with
    | cons h1 h2 =>
      simp only [List.all_cons, Bool.and_eq_true] at hd
      rw [List.any_cons, flat_any hx h2 hd.2, flat_deqb hx hd.1 h1]
      rfl
theorem inY_ok {x : Dat} {y : PV} {a b : Value} {k : Bool → Prop} (K : Ok φ rest ω mv g gl fl s.heap) (hx : DatIn ω.tl a x) (hy : VR φ.w ω y b) (h : inY x y k) :
    ∃ r, k r ∧ (∀ Q, Q (.bool r) s → wpAny (Mo φ.w) φ.A (compareOp .In a b) Q E s) ∧ ∀ Q, Q (.bool (!r)) s → wpAny (Mo φ.w) φ.A (compareOp .NotIn a b) Q E s := by
  cases y with
  | d t =>
    obtain ⟨ds, rfl, hh⟩ := dTup_e h; replace h := hh; clear hh
    obtain ⟨hb, hk⟩ := onT_e h
    simp only [Bool.and_eq_true] at hb
    obtain ⟨h1, h2⟩ := hb
    obtain ⟨l, vs, n, rfl, m1, d1⟩ := hy.tup
    have ht := K.N.isTup (K.inTl m1)
    have he : ∀ v ∈ vs.toArray, PySem.SeqAt.EqAt φ.A.in1 s v a (vFlat x v) := fun v hv => by
      have hv' : v ∈ vs := by simpa using hv
      obtain ⟨j, hj⟩ := List.getElem?_of_mem hv'
      have hlt : j < ds.length := by rw [← d1.length]; exact (List.getElem?_eq_some_iff.mp hj).1
      obtain ⟨v', e1, e2⟩ := d1.get hlt
      rw [hj] at e1
      cases e1
      exact (flat_eqAt h1 (List.all_eq_true.mp h2 _ (List.getElem_mem hlt)) hx e2)
    have ea : vs.toArray.any (vFlat x) = inDats x ds := by rw [← Array.any_toList]; exact flat_any h1 d1 h2
    exact ⟨_, hk, fun Q hq => PySem.SeqAt.in_tupleAt (vFlat x) ht he (by rw [ea]; exact hq), fun Q hq => PySem.SeqAt.notIn_tupleAt (vFlat x) ht he (by rw [ea]; exact hq)⟩
  | tabl xs =>
    obtain ⟨z, rfl, hh⟩ := dStr_e h; replace h := hh; clear hh
    obtain ⟨t, rfl⟩ := VR.str (φ := φ) (a := a) hx
    obtain ⟨l, dd, vs, n, sl, rfl, hl, hs⟩ := hy
    have ht := kun_topT K.F φ.X hl
    have he : ∀ v ∈ vs.toArray, PySem.SeqAt.EqAt φ.A.in1 s v (.str z t) (isStrOf z v) := fun v hv => strs_eqAt hs v (by simpa using hv)
    have ea : vs.toArray.any (isStrOf z) = xs.any (· == z) := by rw [← Array.any_toList]; exact any_isStrOf z hs
    exact ⟨_, h, fun Q hq => PySem.SeqAt.in_tupleAt (isStrOf z) ht he (by rw [ea]; exact hq), fun Q hq => PySem.SeqAt.notIn_tupleAt (isStrOf z) ht he (by rw [ea]; exact hq)⟩
  | undef => exact h.elim
  | g _ => exact h.elim
  | fn _ => exact h.elim
  | lam _ _ => exact h.elim
  | rows _ => exact h.elim
end
theorem Op2.inT : Op2 (compareOp .In) fun _ x y k => asD x fun x => inY x y fun r => k (.bool r) := fun cs n φ rest ω mv st s Q E x y a b k H hx hy h ret => by
  obtain ⟨x, rfl, hh⟩ := asD_e h; replace h := hh; clear hh
  obtain ⟨gl, fl, K⟩ := id H
  obtain ⟨r, hk, h1, -⟩ := inY_ok (E := E) K hx hy h
  exact h1 _ (ret _ _ ω _ _ .refl H (.bool _) hk)
theorem Op2.ninT : Op2 (compareOp .NotIn) fun _ x y k => asD x fun x => inY x y fun r => k (.bool (!r)) := fun cs n φ rest ω mv st s Q E x y a b k H hx hy h ret => by
  obtain ⟨x, rfl, hh⟩ := asD_e h; replace h := hh; clear hh
  obtain ⟨gl, fl, K⟩ := id H
  obtain ⟨r, hk, -, h1⟩ := inY_ok (E := E) K hx hy h
  exact h1 _ (ret _ _ ω _ _ .refl H (.bool _) hk)
theorem Op2.inS : Op2 (compareOp .In) fun _ x y k => asStr x fun x => asStr y fun y => k (.bool (inStr x y)) := fun cs n φ rest ω mv st s Q E x y a b k H hx hy h ret => by
  obtain ⟨i, rfl, hh⟩ := asStr_e h; replace h := hh; clear hh
  obtain ⟨j, rfl, hh⟩ := asStr_e h; replace h := hh; clear hh
  obtain ⟨t, rfl⟩ := hx.str
  obtain ⟨u, rfl⟩ := hy.str
  exact PyProof.Rows.in_str (ret _ _ ω _ _ .refl H (.bool _) h)
theorem isNoD_e {x : Dat} {k : Bool → Prop} {tl : Led} {a : Value} (h : isNoD x k) (hx : DatIn tl a x) : k (a == .none) := by
  cases x with
  | none => cases hx; exact h
  | str x => cases hx; exact h
  | _ => exact h.elim
theorem Op2.isNot : Op2 (compareOp .IsNot) fun _ x y k => asD x fun x => asD y fun y => isNoD x fun b => match y with | .none => k (.bool (!b)) | _ => False := fun cs n φ rest ω mv st s Q E x y a b k H hx hy h ret => by
  obtain ⟨x, rfl, hh⟩ := asD_e h; replace h := hh; clear hh
  obtain ⟨y, rfl, hh⟩ := asD_e h; replace h := hh; clear hh
  cases y with
  | none =>
    cases hy.none
    exact PyProof.Rows.isnot_none_gen (ret _ _ ω _ _ .refl H (.bool _) (isNoD_e h hx))
  | _ => cases x <;> exact h.elim
/-! builtins -/
theorem Op1.len : Op1 (fun v => call (.builtin "len") [v]) fun st x k => lenK st x fun n => k (.int (n : Int)) := fun cs n φ rest ω mv st s Q E x a k H hx h ret => by
  obtain ⟨gl, fl, K⟩ := id H
  have lists : ∀ {l : Addr} {vs : List Value} {n : Nat} {r : Nat}, (l, listOf vs.toArray n) ∈ lay gl ω (fl ++ rest) → vs.length = r → r ≤ 1000 → k (.int (r : Int)) → wpAny (Mo φ.w) φ.A (call (.builtin "len") [.ref l]) Q E s := fun m e hl hk => by
    subst e
    exact my_len K.N m (by omega) (ret _ _ ω _ _ .refl H (.int _ _) hk)
  cases x with
  | d x =>
    cases x with
    | tuple ds =>
      obtain ⟨hl, hk⟩ := onT_e h
      obtain ⟨l, vs, n, rfl, m1, d1⟩ := hx.tup
      have hl := Nat.le_of_ble_eq_true hl
      have e := d1.length
      refine PyProof.Rows.len_tuple (K.N.isTup (K.inTl m1)) (by rw [List.size_toArray]; omega) ?_
      rw [List.size_toArray, e]
      exact ret _ _ ω _ _ .refl H (.int _ _) hk
    | list ds =>
      obtain ⟨hl, hk⟩ := onT_e h
      obtain ⟨l, vs, n, rfl, m1, d1⟩ := hx.lst
      exact lists (K.inTl m1) d1.length (Nat.le_of_ble_eq_true hl) hk
    | str x =>
      obtain ⟨hl, hk⟩ := onT_e h
      obtain ⟨t, rfl⟩ := hx.str
      have hl := Nat.le_of_ble_eq_true hl
      exact PyProof.Rows.len_str (by omega) (ret _ _ ω _ _ .refl H (.int _ _) hk)
    | _ => exact h.elim
  | g i =>
    obtain ⟨o, ho, h⟩ := onSome_e h
    cases o with
    | lst ds =>
      obtain ⟨l, vs, n, rfl, m1, d1, hl⟩ := K.lst hx ho
      exact lists m1 d1.length hl h
    | bk rs =>
      obtain ⟨l, rl, n, rfl, m1, -, d1, hl⟩ := K.bk hx ho
      refine lists m1 (r := rs.length) ?_ hl h
      have e1 : rl.length = rs.reverse.length := by
        generalize rs.reverse = rr at d1
        clear m1 h ho
        induction d1 with
        | nil => rfl
        | cons _ _ _ ih => simp [ih]
      simp [refs, e1]
    | _ => exact h.elim
  | rows i =>
    obtain ⟨o, ho, h⟩ := onSome_e h
    obtain ⟨r, i', d', rfl, hh⟩ := oWd_e h; replace h := hh; clear hh
    obtain ⟨l, vs, n, rfl, m1, d1, hl⟩ := K.rows hx ho
    exact lists m1 d1.length hl h
  | undef => exact h.elim
  | fn _ => exact h.elim
  | lam _ _ => exact h.elim
  | tabl _ => exact h.elim
theorem Op1.intB : Op1 (fun v => call (.type "int") [v]) fun _ x k => asBool x fun b => k (.int (if b then 1 else 0)) := fun cs n φ rest ω mv st s Q E x a k H hx h ret => by
  obtain ⟨b, rfl, hh⟩ := asBool_e h; replace h := hh; clear hh
  cases hx.bool
  exact PySem.call_int_bool (ret _ _ ω _ _ .refl H (.int _ _) h)
theorem Op1.intS : Op1 (fun v => call (.type "int") [v]) fun _ x k => asStr x fun s => onT (Nat.ble s.length 640) (onSome (PySem.intText? s) fun i => k (.int i)) := fun cs n φ rest ω mv st s Q E x a k H hx h ret => by
  obtain ⟨b, rfl, hh⟩ := asStr_e h; replace h := hh; clear hh
  obtain ⟨t, rfl⟩ := hx.str
  obtain ⟨hl, h⟩ := onT_e h
  obtain ⟨i, hi, h⟩ := onSome_e h
  exact KIN.call_text hi (Nat.le_of_ble_eq_true hl) (ret _ _ ω _ _ .refl H (.int _ _) h)
theorem Op1.strI : Op1 (fun v => call (.type "str") [v]) fun _ x k => asInt x fun i => onT (decide (0 ≤ i) && decide (i ≤ 4096)) (k (.str (Str.ofString (toString i)))) := fun cs n φ rest ω mv st s Q E x a k H hx h ret => by
  obtain ⟨b, rfl, hh⟩ := asInt_e h; replace h := hh; clear hh
  obtain ⟨t, rfl⟩ := hx.int
  obtain ⟨hl, h⟩ := onT_e h
  simp only [Bool.and_eq_true, decide_eq_true_eq] at hl
  exact my_str hl.1 hl.2 (ret _ _ ω _ _ .refl H (.str _ _) h)
theorem Op2.max2 : Op2 (fun a b => call (.builtin "max") [a, b]) fun _ x y k => asInt x fun i => asInt y fun j => k (.int (if i < j then j else i)) := fun cs n φ rest ω mv st s Q E x y a b k H hx hy h ret => by
  obtain ⟨i, rfl, hh⟩ := asInt_e h; replace h := hh; clear hh
  obtain ⟨j, rfl, hh⟩ := asInt_e h; replace h := hh; clear hh
  obtain ⟨t, rfl⟩ := hx.int
  obtain ⟨u, rfl⟩ := hy.int
  refine max_two_ints rfl fun h' tk k' => ?_
  by_cases q : i < j
  · rw [if_pos q] at h; rw [if_pos (show j > i from q)]; exact ret _ _ ω _ _ .refl (H.keeps k') (.int _ _) h
  · rw [if_neg q] at h; rw [if_neg (show ¬ j > i from q)]; exact ret _ _ ω _ _ .refl (H.keeps k') (.int _ _) h
theorem Op2.min2 : Op2 (fun a b => call (.builtin "min") [a, b]) fun _ x y k => asInt x fun i => asInt y fun j => k (.int (if j < i then j else i)) := fun cs n φ rest ω mv st s Q E x y a b k H hx hy h ret => by
  obtain ⟨i, rfl, hh⟩ := asInt_e h; replace h := hh; clear hh
  obtain ⟨j, rfl, hh⟩ := asInt_e h; replace h := hh; clear hh
  obtain ⟨t, rfl⟩ := hx.int
  obtain ⟨u, rfl⟩ := hy.int
  refine min_two_ints rfl fun h' tk k' => ?_
  by_cases q : j < i
  · rw [if_pos q] at h ⊢; exact ret _ _ ω _ _ .refl (H.keeps k') (.int _ _) h
  · rw [if_neg q] at h ⊢; exact ret _ _ ω _ _ .refl (H.keeps k') (.int _ _) h
theorem tup_of {prog : Program} {w : World} {A : Around} {E : Value → Shared → Prop} {s : Shared} {h₀ : Heap} {L l : Addr} {m : Str → Option Value} {news : List (Addr × Obj)} {vs : List Value} {n : Nat} {Q : Value → Shared → Prop} (F : Fr h₀ L s.heap m) (N : News h₀ L s.heap news) (h1 : (l, listOf vs.toArray n) ∈ news) (hz : vs.length ≤ 1000)
    (h : ∀ D h', Fr h₀ L h' m → News h₀ L h' ((D, ({ cls := .type "tuple", data := .seq vs.toArray } : Obj)) :: news) → (∀ p ∈ news, p.1 < D) → Q (.ref D) { s with heap := h' }) : wpAny (model prog w) A (call (.type "tuple") [.ref l]) Q E s :=
  kde_tupleOf F N (News.isList N h1) (by simp; omega) (by simp) h
theorem Op1.tuple : Op1 (fun v => call (.type "tuple") [v]) fun st x k => seqK st x fun ds => onT (Nat.ble ds.length 100) (k (.tuple ds)) := fun cs n φ rest ω mv st s Q E x a k H hx h ret => by
  obtain ⟨gl, fl, K⟩ := id H
  have lists : ∀ {l : Addr} {vs : List Value} {n : Nat} {ds : List Dat}, (l, listOf vs.toArray n) ∈ lay gl ω (fl ++ rest) → DatAll ω.tl vs ds → onT (Nat.ble ds.length 100) (k (.tuple ds)) → wpAny (Mo φ.w) φ.A (call (.type "tuple") [.ref l]) Q E s := fun {l vs n ds} m d1 h => by
    obtain ⟨hl, hk⟩ := onT_e h
    have hl := Nat.le_of_ble_eq_true hl
    refine tup_of K.F K.N m (by rw [d1.length]; omega) fun D h' F' N' lt => ?_
    obtain ⟨hle2, H2, hD⟩ := Ok.keep (v := .ref D) (d := .tuple ds) K F' N' lt fun tl' m k => .tuple m (DatAll.mono k d1)
    exact ret _ _ _ h' _ hle2 H2 hD hk
  cases x with
  | d x =>
    cases x with
    | list ds =>
      obtain ⟨l, vs, n, rfl, m1, d1⟩ := hx.lst
      exact lists (K.inTl m1) d1 h
    | _ => exact h.elim
  | g i =>
    obtain ⟨o, ho, h⟩ := onSome_e h
    obtain ⟨ds, rfl, hh⟩ := oLst_e h; replace h := hh; clear hh
    obtain ⟨l, vs, n, rfl, m1, d1, -⟩ := K.lst hx ho
    exact lists m1 d1 h
  | undef => exact h.elim
  | fn _ => exact h.elim
  | lam _ _ => exact h.elim
  | rows _ => exact h.elim
  | tabl _ => exact h.elim
/-! tests -/
section
variable {cs : Scope}
theorem RT.e {e : PySem.Expr} {t : ETr} (h : SoundE cs e t) (he : ∀ env, PySem.isTrue e env (eval e env) = (do let v ← eval e env; standAt e.pos; holding [v] (truthy v))) : SoundT cs e (T.e t) := fun n C hC st P X hP φ rest ω mv s Q E hE H V ret exc =>
  isTrue_plain (h n C hC st _ X hP φ rest ω mv s _ E hE H V (fun v a st' ω' mv' h' tk' hle H' V' hv hp => by
    obtain ⟨b, rfl, hh⟩ := asBool_e hp; replace hp := hh; clear hh
    cases hv.bool
    exact wpAny_truthy_bool (ret b b st' ω' mv' h' tk' hle H' V' rfl hp)) exc) (he _)
theorem RT.cmp {e u : PySem.Expr} {op : CmpOp} {t tu : ETr} {p : Pos} {K : St → PV → PV → (Dat → Prop) → Prop} (ho : Op2 (compareOp op) K) (hb : behindInMarks op u = false) (hs : SoundE cs e t) (hu : SoundE cs u tu) : SoundT cs (.Compare e [op] [u] p) (T.e (E.two t tu K)) := fun n C hC st P X hP φ rest ω mv s Q E hE H V ret exc =>
  wpAny_isTrue_Compare1 (hs n C hC st _ X hP φ rest ω mv s _ E hE H V (fun x a st1 ω1 mv1 h1 tk1 l1 H1 V1 hx hp => hu n C hC st1 _ X hp φ rest ω1 mv1 _ _ E hE H1 V1 (fun y b st2 ω2 mv2 h2 tk2 l2 H2 V2 hy hq =>
    ho cs n φ rest ω2 mv2 st2 { s with heap := h2, toks := tk2 } _ E x y a b _ H2 (hx.mono l2) hy hq fun r v ω3 h3 tk3 l3 H3 hv hr => by
      obtain ⟨b, rfl, hh⟩ := dBool_e hr; replace hr := hh; clear hh
      cases VR.bool (φ := φ) (ω := ω3) hv
      exact wpAny_truthy_bool (ret b b st2 ω3 mv2 h3 tk3 (l1.trans (l2.trans l3)) H3 (V2.mono l3) rfl hr))
    fun e sp g' ω2 h2 tk2 hle2 => exc e sp g' ω2 h2 tk2 (l1.trans hle2)) exc) hb
theorem RT.not {e : PySem.Expr} {t : TTr} {p : Pos} (h : SoundT cs e t) : SoundT cs (.UnaryOp .Not e p) (T.not t) := fun n C hC st P X hP φ rest ω mv s Q E hE H V ret exc =>
  isTrue_not (h n C hC st _ X hP φ rest ω mv s _ E hE H V (fun b b' st' ω' mv' h' tk' hle H' V' hv hp => by
    subst hv
    exact ret _ _ st' ω' mv' h' tk' hle H' V' rfl hp) exc)
theorem RT.and {e : PySem.Expr} {es : List PySem.Expr} {t ts : TTr} {p : Pos} (h : SoundT cs e t) (hs : SoundT cs (.BoolOp .And es p) ts) : SoundT cs (.BoolOp .And (e :: es) p) (T.and t ts) := fun n C hC st P X hP φ rest ω mv s Q E hE H V ret exc =>
  isTrue_and (h n C hC st _ X hP φ rest ω mv s _ E hE H V (fun b b' st' ω' mv' h' tk' hle H' V' hv hp => by
    subst hv
    cases b with
    | false => exact ret false false st' ω' mv' h' tk' hle H' V' rfl hp
    | true => exact hs n C hC st' _ X hp φ rest ω' mv' _ _ E hE H' V' (fun b b' st2 ω2 mv2 h2 tk2 l2 => ret b b' st2 ω2 mv2 h2 tk2 (hle.trans l2)) fun e sp g' ω2 h2 tk2 hle2 => exc e sp g' ω2 h2 tk2 (hle.trans hle2)) exc)
theorem RT.or {e : PySem.Expr} {es : List PySem.Expr} {t ts : TTr} {p : Pos} (h : SoundT cs e t) (hs : SoundT cs (.BoolOp .Or es p) ts) : SoundT cs (.BoolOp .Or (e :: es) p) (T.or t ts) := fun n C hC st P X hP φ rest ω mv s Q E hE H V ret exc =>
  isTrue_or (h n C hC st _ X hP φ rest ω mv s _ E hE H V (fun b b' st' ω' mv' h' tk' hle H' V' hv hp => by
    subst hv
    cases b with
    | true => exact ret true true st' ω' mv' h' tk' hle H' V' rfl hp
    | false => exact hs n C hC st' _ X hp φ rest ω' mv' _ _ E hE H' V' (fun b b' st2 ω2 mv2 h2 tk2 l2 => ret b b' st2 ω2 mv2 h2 tk2 (hle.trans l2)) fun e sp g' ω2 h2 tk2 hle2 => exc e sp g' ω2 h2 tk2 (hle.trans hle2)) exc)
theorem RT.and0 {p : Pos} : SoundT cs (.BoolOp .And [] p) T.tt := fun n C hC st P X hP φ rest ω mv s Q E hE H V ret exc => isTrue_and_nil (ret true true st ω mv _ _ .refl H V rfl hP)
theorem RT.or0 {p : Pos} : SoundT cs (.BoolOp .Or [] p) T.ff := fun n C hC st P X hP φ rest ω mv s Q E hE H V ret exc => isTrue_or_nil (ret false false st ω mv _ _ .refl H V rfl hP)
theorem R.ifx {t a b : PySem.Expr} {tt : TTr} {ta tb : ETr} {p : Pos} (ht : SoundT cs t tt) (ha : SoundE cs a ta) (hb : SoundE cs b tb) : SoundE cs (.IfExp t a b p) (E.ifx tt ta tb) := fun n C hC st P X hP φ rest ω mv s Q E hE H V ret exc =>
  IfExp_ (ht n C hC st _ X hP φ rest ω mv s _ E hE H V (fun b b' st' ω' mv' h' tk' hle H' V' hv hp => by
    subst hv
    cases b with
    | true => exact ha n C hC st' _ X hp φ rest ω' mv' _ _ E hE H' V' (fun b b' st2 ω2 mv2 h2 tk2 l2 => ret b b' st2 ω2 mv2 h2 tk2 (hle.trans l2)) fun e sp g' ω2 h2 tk2 hle2 => exc e sp g' ω2 h2 tk2 (hle.trans hle2)
    | false => exact hb n C hC st' _ X hp φ rest ω' mv' _ _ E hE H' V' (fun b b' st2 ω2 mv2 h2 tk2 l2 => ret b b' st2 ω2 mv2 h2 tk2 (hle.trans l2)) fun e sp g' ω2 h2 tk2 hle2 => exc e sp g' ω2 h2 tk2 (hle.trans hle2)) exc)
theorem R.and {e u : PySem.Expr} {t tu : ETr} {p : Pos} (hs : SoundE cs e t) (hu : SoundE cs u tu) : SoundE cs (.BoolOp .And [e, u] p) (E.and t tu) := fun n C hC st P X hP φ rest ω mv s Q E hE H V ret exc =>
  wpAny_And2 (hs n C hC st _ X hP φ rest ω mv s _ E hE H V (fun v a st' ω' mv' h' tk' hle H' V' hv hp => by
    obtain ⟨b, rfl, hh⟩ := asBool_e hp; replace hp := hh; clear hh
    cases hv.bool
    refine wpAny_truthy_bool ?_
    cases b with
    | false => exact ret (.d (.bool false)) _ st' ω' mv' h' tk' hle H' V' hv hp
    | true => exact hu n C hC st' _ X hp φ rest ω' mv' _ _ E hE H' V' (fun b b' st2 ω2 mv2 h2 tk2 l2 => ret b b' st2 ω2 mv2 h2 tk2 (hle.trans l2)) fun e sp g' ω2 h2 tk2 hle2 => exc e sp g' ω2 h2 tk2 (hle.trans hle2)) exc)
/-! statements -/
theorem RS.nil : SoundSs cs [] S.nil := fun n C hC st P X hP φ rest ω mv s Q E hE H V ret exc => wpAny_execs_nil (ret .next .next st ω mv _ _ .refl H V trivial hP)
theorem FlowR.next {w : World} {ω : Wo} {f : Flow} (h : FlowR w ω .next f) : f = .next := by cases f <;> first | rfl | exact h.elim
theorem FlowR.brk {w : World} {ω : Wo} {f : Flow} (h : FlowR w ω .brk f) : f = .brk := by cases f <;> first | rfl | exact h.elim
theorem FlowR.cont {w : World} {ω : Wo} {f : Flow} (h : FlowR w ω .cont f) : f = .cont := by cases f <;> first | rfl | exact h.elim
theorem FlowR.ret {w : World} {ω : Wo} {f : Flow} {v : PV} (h : FlowR w ω (.ret v) f) : ∃ a, f = .ret a ∧ VR w ω v a := by
  cases f with
  | ret a => exact ⟨a, rfl, h⟩
  | _ => exact h.elim
theorem RS.cons {x : Stmt} {ss : List Stmt} {t ts : STr} (h : SoundS cs x t) (hs : SoundSs cs ss ts) : SoundSs cs (x :: ss) (S.cons t ts) := fun n C hC st P X hP φ rest ω mv s Q E hE H V ret exc =>
  wpAny_execs_cons (h n C hC st _ X hP φ rest ω mv s _ E hE H V (fun f f' st' ω' mv' h' tk' hle H' V' hf hp => by
    cases f with
    | next =>
      obtain rfl := hf.next
      exact hs n C hC st' _ X hp φ rest ω' mv' _ _ E hE H' V' (fun b b' st2 ω2 mv2 h2 tk2 l2 => ret b b' st2 ω2 mv2 h2 tk2 (hle.trans l2)) fun e sp g' ω2 h2 tk2 hle2 => exc e sp g' ω2 h2 tk2 (hle.trans hle2)
    | brk => obtain rfl := hf.brk; exact ret .brk .brk st' ω' mv' h' tk' hle H' V' trivial hp
    | cont => obtain rfl := hf.cont; exact ret .cont .cont st' ω' mv' h' tk' hle H' V' trivial hp
    | ret v => obtain ⟨a, rfl, hv⟩ := hf.ret; exact ret (.ret v) (.ret a) st' ω' mv' h' tk' hle H' V' hv hp) exc)
theorem slotGo_inj {x y : Str} {k k' : NameKind} {i : Nat} : ∀ {l : List (Str × NameKind)} {n : Nat}, slotGo x l n = some (k, i) → slotGo y l n = some (k', i) → x = y
  | [], n, h, _ => by cases h
  | (z, kz) :: r, n, h1, h2 => by
    have ge : ∀ {x : Str} {k : NameKind} {i : Nat} {l : List (Str × NameKind)} {n : Nat}, slotGo x l n = some (k, i) → n ≤ i := by
      intro x k i l
      induction l with
      | nil => intro n h; cases h
      | cons p r ih =>
        intro n h
        obtain ⟨z, kz⟩ := p
        unfold slotGo at h
        split at h
        · cases h; exact Nat.le_refl _
        · have := ih h; omega
    unfold slotGo at h1 h2
    by_cases e1 : z = x
    · by_cases e2 : z = y
      · exact e1.symm.trans e2
      · rw [if_pos e1] at h1
        rw [if_neg e2] at h2
        cases h1
        have := ge h2
        omega
    · by_cases e2 : z = y
      · rw [if_neg e1] at h1
        rw [if_pos e2] at h2
        cases h2
        have := ge h1
        omega
      · rw [if_neg e1] at h1
        rw [if_neg e2] at h2
        exact slotGo_inj h1 h2
theorem slotOf_inj {x y : Str} {k k' : NameKind} {i : Nat} (h1 : slotOf cs x = some (k, i)) (h2 : slotOf cs y = some (k', i)) : x = y := by
  unfold slotOf at h1 h2
  split at h1
  · cases h1
  · split at h2
    · cases h2
    · exact slotGo_inj h1 h2
theorem EnvR.set {n : Nat} {φ : Fm cs n} {ω : Wo} {m : List PV} {mv : Str → Option Value} (V : EnvR φ ω m mv) {x : Str} {i : Nat} (hx : slotOf cs x = some (.local, i)) {v : PV} {a : Value} (hv : VR φ.w ω v a) : EnvR φ ω (m.set i v) fun y => if y = x then some a else mv y := by
  intro y k j hy
  by_cases e : y = x
  · subst e
    rw [hx] at hy
    cases hy
    show ∀ u, (m.set i v)[i]? = some u → isDef u = true → ∃ a', (if y = y then some a else mv y) = some a' ∧ VR φ.w ω u a'
    intro u hu hd
    by_cases hl : i < m.length
    · rw [List.getElem?_set_self hl] at hu
      cases hu
      exact ⟨a, if_pos rfl, hv⟩
    · rw [List.getElem?_eq_none (by simpa using Nat.le_of_not_lt hl)] at hu
      cases hu
  · have ne : i ≠ j := fun q => e (slotOf_inj hy (q ▸ hx))
    have h1 := V y k j hy
    rw [List.getElem?_set_ne ne]
    cases k with
    | «local» => exact fun u hu hd => (h1 u hu hd).imp fun b h => ⟨(if_neg e).trans h.1, h.2⟩
    | free => exact h1
    | cell => exact h1
    | globalExplicit => trivial
    | globalImplicit => trivial
theorem store_ok {n : Nat} {φ : Fm cs n} {rest : Led} {ω : Wo} {mv : Str → Option Value} {st : St} {s : Shared} {Q : Unit → Shared → Prop} {E : Value → Shared → Prop} {x : Str} {i : Nat} {v : PV} {a : Value} (hx : slotOf cs x = some (.local, i)) (H : OkE φ rest ω mv st.g s.heap) (V : EnvR φ ω st.m mv) (hv : VR φ.w ω v a)
    (ret : ∀ mv' h' tk', OkE φ rest ω mv' (st.setM i v).g h' → EnvR φ ω (st.setM i v).m mv' → Q () { s with heap := h', toks := tk' }) : wpAny (Mo φ.w) φ.A (storeName φ.env x a) Q E s := by
  obtain ⟨gl, fl, K⟩ := H
  exact storeX_L K.F K.N (fun h' F' N' => ret _ h' _ ⟨gl, fl, F', N', K.f, K.o, K.d⟩ (V.set hx hv)) φ.hk (slot_e hx).1
theorem RS.asg {x : Str} {e : PySem.Expr} {i : Nat} {t : ETr} {p q : Pos} (hx : slotOf cs x = some (.local, i)) (h : SoundE cs e t) (hs : ∀ env, swapsWith e (some (.Name x p)) q.line env = pure false) : SoundS cs (.Assign [.Name x p] e q) (S.asg i t) := fun n C hC st P X hP φ rest ω mv s Q E hE H V ret exc =>
  wpAny_Assign_Name (h n C hC st _ X hP φ rest ω mv s _ E hE H V (fun v a st' ω' mv' h' tk' hle H' V' hv hp => store_ok hx H' V' hv fun mv2 h2 tk2 H2 V2 => ret .next .next _ ω' mv2 h2 tk2 hle H2 V2 trivial hp) exc) (hs _)
theorem RS.expr {e : PySem.Expr} {t : ETr} {p : Pos} (h : SoundE cs e t) (hs : ∀ env, swapsWith e none p.line env = pure false) : SoundS cs (.Expr e p) (S.expr t) := fun n C hC st P X hP φ rest ω mv s Q E hE H V ret exc =>
  wpAny_Expr_any (h n C hC st _ X hP φ rest ω mv s _ E hE H V (fun v a st' ω' mv' h' tk' hle H' V' hv hp => ret .next .next st' ω' mv' h' tk' hle H' V' trivial hp) exc) (by
    show interactive φ.env = false
    unfold interactive
    simp [φ.hk]) (hs _)
theorem RS.ret {e : PySem.Expr} {t : ETr} {p : Pos} (h : SoundE cs e t) : SoundS cs (.Return (some e) p) (S.ret t) := fun n C hC st P X hP φ rest ω mv s Q E hE H V ret exc =>
  wpAny_Return_some (h n C hC st _ X hP φ rest ω mv s _ E hE H V (fun v a st' ω' mv' h' tk' hle H' V' hv hp => ret (.ret v) (.ret a) st' ω' mv' h' tk' hle H' V' hv hp) exc)
theorem RS.ifte {t : PySem.Expr} {a b : List Stmt} {tt : TTr} {ta tb : STr} {p : Pos} (ht : SoundT cs t tt) (ha : SoundSs cs a ta) (hb : SoundSs cs b tb) : SoundS cs (.If t a b p) (S.ifte tt ta tb) := fun n C hC st P X hP φ rest ω mv s Q E hE H V ret exc =>
  wpAny_If (ht n C hC st _ X hP φ rest ω mv s _ E hE H V (fun b b' st' ω' mv' h' tk' hle H' V' hv hp => by
    subst hv
    cases b with
    | true => exact ha n C hC st' _ X hp φ rest ω' mv' _ _ E hE H' V' (fun b b' st2 ω2 mv2 h2 tk2 l2 => ret b b' st2 ω2 mv2 h2 tk2 (hle.trans l2)) fun e sp g' ω2 h2 tk2 hle2 => exc e sp g' ω2 h2 tk2 (hle.trans hle2)
    | false => exact hb n C hC st' _ X hp φ rest ω' mv' _ _ E hE H' V' (fun b b' st2 ω2 mv2 h2 tk2 l2 => ret b b' st2 ω2 mv2 h2 tk2 (hle.trans l2)) fun e sp g' ω2 h2 tk2 hle2 => exc e sp g' ω2 h2 tk2 (hle.trans hle2)) exc)
theorem RS.brk {p : Pos} : SoundS cs (.Break p) S.brk := fun n C hC st P X hP φ rest ω mv s Q E hE H V ret exc => by
  walk1
  exact ret .brk .brk st ω mv _ _ .refl H V trivial hP
theorem turn_flow {n : Nat} {φ : Fm cs n} {ω : Wo} {R : St → Prop} {P : PFlow → St → Prop} {f : PFlow} {f' : Flow} {st : St} (hf : FlowR φ.w ω f f') (h : S.turn R P f st) {G : Flow → Prop} (hn : R st → G .next) (hc : R st → G .cont) (hb : P .next st → G .brk) (hr : ∀ v a, VR φ.w ω v a → P (.ret v) st → G (.ret a)) : G f' := by
  cases f with
  | next => obtain rfl := hf.next; exact hn h
  | cont => obtain rfl := hf.cont; exact hc h
  | brk => obtain rfl := hf.brk; exact hb h
  | ret v => obtain ⟨a, rfl, hv⟩ := hf.ret; exact hr v a hv h
theorem whl_go {t : PySem.Expr} {b : List Stmt} {tt : TTr} {tb : STr} (ht : SoundT cs t tt) (hb : SoundSs cs b tb) {n : Nat} {C : CT} (hC : COk n C) {P : PFlow → St → Prop} {X : XK} : ∀ (k : Nat) (st : St), S.whlGo tt tb C P X k st →
    ∀ (φ : Fm cs n) (rest : Led) (ω : Wo) (mv : Str → Option Value) (s : Shared) (Q : Flow → Shared → Prop) (E : Value → Shared → Prop), PassesOwn (Mo φ.w) φ.A φ.env E → OkE φ rest ω mv st.g s.heap → EnvR φ ω st.m mv →
    (∀ a b st' ω' mv' h' tk', ω.Le ω' → OkE φ rest ω' mv' st'.g h' → EnvR φ ω' st'.m mv' → FlowR φ.w ω' a b → P a st' → Q b { s with heap := h', toks := tk' }) →
    (∀ e sp g' ω' h' tk', ω.Le ω' → OkX φ rest ω' g' e sp h' → X sp g' → E (.ref e) { s with heap := h', toks := tk' }) →
    WhlRest PySem.Challenge.rw_xw0160_01.prog φ.w φ.A E φ.env t b [] Q k s
  | 0, st, h => h.elim
  | k + 1, st, h => fun φ rest ω mv s Q E hE H V ret exc =>
    whl_turn hE (ht n C hC st _ X h φ rest ω mv s _ E hE H V (fun c c' st' ω' mv' h' tk' hle H' V' hv hp => by
      subst hv
      cases c with
      | false => exact WhlIf.no rfl (wpAny_execs_nil (ret .next .next st' ω' mv' h' tk' hle H' V' trivial hp))
      | true =>
        refine WhlIf.yes rfl (hb n C hC st' _ X hp φ rest ω' mv' _ _ E hE H' V' (fun f f' st2 ω2 mv2 h2 tk2 l2 H2 V2 hf hq => ?_) fun e sp g' ω2 h2 tk2 hle2 => exc e sp g' ω2 h2 tk2 (hle.trans hle2))
        have go : S.whlGo tt tb C P X k st2 → WhlRest PySem.Challenge.rw_xw0160_01.prog φ.w φ.A E φ.env t b [] Q k { s with heap := h2, toks := tk2 } := fun hr => whl_go ht hb hC k st2 hr φ rest ω2 mv2 _ Q E hE H2 V2 (fun a b st3 ω3 mv3 h3 tk3 l3 => ret a b st3 ω3 mv3 h3 tk3 (hle.trans (l2.trans l3))) fun e sp g' ω3 h3 tk3 l3 => exc e sp g' ω3 h3 tk3 (hle.trans (l2.trans l3))
        exact turn_flow (G := fun f' => WhlPost PySem.Challenge.rw_xw0160_01.prog φ.w φ.A E φ.env t b [] Q k f' { s with heap := h2, toks := tk2 }) hf hq go go
          (fun hp => ret .next .next st2 ω2 mv2 h2 tk2 (hle.trans l2) H2 V2 trivial hp) fun v a hv hp => ret (.ret v) (.ret a) st2 ω2 mv2 h2 tk2 (hle.trans l2) H2 V2 hv hp) exc)
theorem RS.whl {t : PySem.Expr} {b : List Stmt} {tt : TTr} {tb : STr} {p : Pos} (ht : SoundT cs t tt) (hb : SoundSs cs b tb) : SoundS cs (.While t b [] p) (S.whl tt tb) := fun n C hC st P X hP φ rest ω mv s Q E hE H V ret exc =>
  whl_start 9 (whl_go ht hb hC 9 st hP φ rest ω mv s Q E hE H V ret exc)
end
/-! builtins -/
section
variable {cs : Scope}
theorem R.bi1 {f : Str} {id' : String} {e : PySem.Expr} {t : ETr} {p q : Pos} {K : St → PV → (Dat → Prop) → Prop} (ho : Op1 (fun v => PySem.call (.builtin id') [v]) K) (hn : ∀ p, nsIn (kk.heap_1 p) mainGlobals f = some Option.none) (hb : bootBuiltins f = some (.builtin id')) (hx : cs.names.lookup f = some .globalImplicit) (hd : (f == Str.ofString "__debug__") = false) (hm : f ≠ Str.ofString "__name__")
    (hs : SoundE cs e t) (h1 : ∀ env, starEach [e] env = (false, eval e env) :: starEach [] env) : SoundE cs (.Call (.Name f p) [e] [] q) (E.one t K) := fun n C hC st P X hP φ rest ω mv s Q E hE H V ret exc => by
  obtain ⟨gl, fl, K0⟩ := id H
  exact Call_ (nameX_B K0.F φ.X (topRead_of φ.T) (hn _) hb hm (PyProof.Rows.callWith_builtin1 (args_cons (hs n C hC st _ X hP φ rest ω mv s _ E hE H V (fun x a st1 ω1 mv1 h1 tk1 l1 H1 V1 hx hp => args_nil
    (ho cs n φ rest ω1 mv1 st1 { s with heap := h1, toks := tk1 } Q E x a _ H1 hx hp fun r v ω3 h3 tk3 l3 H3 hv hr => ret (.d r) v st1 ω3 mv1 h3 tk3 (l1.trans l3) H3 (V1.mono l3) hv hr)) exc) (h1 _)) (h1 _) rfl) φ.hk hx hd)
theorem R.ty1 {f : Str} {id' : String} {e : PySem.Expr} {t : ETr} {p q : Pos} {K : St → PV → (Dat → Prop) → Prop} (ho : Op1 (fun v => PySem.call (.type id') [v]) K) (hn : ∀ p, nsIn (kk.heap_1 p) mainGlobals f = some Option.none) (hb : bootBuiltins f = some (.type id')) (hx : cs.names.lookup f = some .globalImplicit) (hd : (f == Str.ofString "__debug__") = false) (hm : f ≠ Str.ofString "__name__")
    (hs : SoundE cs e t) (h1 : ∀ env, starEach [e] env = (false, eval e env) :: starEach [] env) : SoundE cs (.Call (.Name f p) [e] [] q) (E.one t K) := fun n C hC st P X hP φ rest ω mv s Q E hE H V ret exc => by
  obtain ⟨gl, fl, K0⟩ := id H
  exact Call_ (nameX_B K0.F φ.X (topRead_of φ.T) (hn _) hb hm (PyProof.Rows.callWith_type1 (args_cons (hs n C hC st _ X hP φ rest ω mv s _ E hE H V (fun x a st1 ω1 mv1 h1 tk1 l1 H1 V1 hx hp => args_nil
    (ho cs n φ rest ω1 mv1 st1 { s with heap := h1, toks := tk1 } Q E x a _ H1 hx hp fun r v ω3 h3 tk3 l3 H3 hv hr => ret (.d r) v st1 ω3 mv1 h3 tk3 (l1.trans l3) H3 (V1.mono l3) hv hr)) exc) (h1 _)) (h1 _) rfl) φ.hk hx hd)
theorem R.bi2 {f : Str} {id' : String} {e u : PySem.Expr} {t tu : ETr} {p q : Pos} {K : St → PV → PV → (Dat → Prop) → Prop} (ho : Op2 (fun v w => PySem.call (.builtin id') [v, w]) K) (hn : ∀ p, nsIn (kk.heap_1 p) mainGlobals f = some Option.none) (hb : bootBuiltins f = some (.builtin id')) (hx : cs.names.lookup f = some .globalImplicit) (hd : (f == Str.ofString "__debug__") = false) (hm : f ≠ Str.ofString "__name__")
    (hs : SoundE cs e t) (hu : SoundE cs u tu) (h1 : ∀ env rest, starEach (e :: rest) env = (false, eval e env) :: starEach rest env) (h2 : ∀ env, starEach [u] env = (false, eval u env) :: starEach [] env) : SoundE cs (.Call (.Name f p) [e, u] [] q) (E.two t tu K) := fun n C hC st P X hP φ rest ω mv s Q E hE H V ret exc => by
  obtain ⟨gl, fl, K0⟩ := id H
  exact Call_ (nameX_B K0.F φ.X (topRead_of φ.T) (hn _) hb hm (PyProof.Rows.callWith_builtin1 (args_cons (hs n C hC st _ X hP φ rest ω mv s _ E hE H V (fun x a st1 ω1 mv1 g1 tk1 l1 H1 V1 hx hp => args_cons (hu n C hC st1 _ X hp φ rest ω1 mv1 _ _ E hE H1 V1 (fun y b st2 ω2 mv2 g2 tk2 l2 H2 V2 hy hq => args_nil
    (ho cs n φ rest ω2 mv2 st2 { s with heap := g2, toks := tk2 } Q E x y a b _ H2 (hx.mono l2) hy hq fun r v ω3 h3 tk3 l3 H3 hv hr => ret (.d r) v st2 ω3 mv2 h3 tk3 (l1.trans (l2.trans l3)) H3 (V2.mono l3) hv hr))
    fun e sp g' ω2 h2 tk2 hle2 => exc e sp g' ω2 h2 tk2 (l1.trans hle2)) (h2 _)) exc) (h1 _ _)) (h1 _ _) (by rw [h2]; rfl)) φ.hk hx hd)
end
/-! one more cell behind -/
section
variable {cs : Scope} {n : Nat} {φ : Fm cs n} {rest : Led} {ω : Wo} {mv : Str → Option Value} {g : List PObj} {gl : List Led} {fl : Led} {h : Heap} {p : Addr × Obj}
theorem lay_perm {gl : List Led} {ω : Wo} {fl rest : Led} {p : Addr × Obj} : (lay gl ω (fl ++ p :: rest)).Perm (p :: lay gl ω (fl ++ rest)) := by
  have e1 : lay gl ω (fl ++ p :: rest) = (gl.flatten ++ (ω.tl ++ fl)) ++ p :: rest := by simp [lay]
  have e2 : lay gl ω (fl ++ rest) = (gl.flatten ++ (ω.tl ++ fl)) ++ rest := by simp [lay]
  rw [e1, e2]
  exact List.perm_middle
theorem Ok.addR (K : Ok φ rest ω mv g gl fl h) (N : News φ.H φ.L h [p]) (off : ∀ q ∈ lay gl ω (fl ++ rest), q.1 ≠ p.1) : Ok φ (p :: rest) ω mv g gl fl h :=
  ⟨K.F, fun q hq => by
    rcases List.mem_cons.mp (lay_perm.mem_iff.mp hq) with rfl | hq
    · exact N _ (.head _)
    · exact K.N _ hq, K.f, K.o, (Dj.cons off K.d).perm lay_perm.symm⟩
theorem Ok.dropR (K : Ok φ (p :: rest) ω mv g gl fl h) : Ok φ rest ω mv g gl fl h ∧ News φ.H φ.L h [p] ∧ ∀ q ∈ lay gl ω (fl ++ rest), q.1 ≠ p.1 := by
  have d : Dj (p :: lay gl ω (fl ++ rest)) := K.d.perm lay_perm
  have d2 := List.nodup_cons.mp d
  refine ⟨⟨K.F, fun q hq => K.N q (lay_perm.mem_iff.mpr (.tail _ hq)), K.f, K.o, d2.2⟩, fun q hq => ?_, fun q hq e => d2.1 (List.mem_map.mpr ⟨q, hq, e⟩)⟩
  cases hq with
  | head => exact K.N p (lay_perm.mem_iff.mpr (.head _))
  | tail _ hq => cases hq
theorem OkE.dropR (K : OkE φ (p :: rest) ω mv g h) : OkE φ rest ω mv g h := by
  obtain ⟨gl, fl, K⟩ := K
  exact ⟨gl, fl, K.dropR.1⟩
theorem lay_sub {gl : List Led} {ω : Wo} {rest : Led} {p : Addr × Obj} : List.Sublist (lay gl ω rest) (lay gl ω (p :: rest)) := List.Sublist.append (List.Sublist.refl _) (List.Sublist.append (List.Sublist.refl _) (List.sublist_cons_self _ _))
theorem OkX.dropR {e : Addr} {sp : Int} (K : OkX φ (p :: rest) ω g e sp h) : OkX φ rest ω g e sp h := by
  rcases K with ⟨h₀, gl, mv, t0, D, nn, k1, k2, k3, k4, k5, k6, k7, k8⟩ | ⟨h₀, gl, gg, mv, D, nn, k1, k2, k3, k4, k5, k6, k7, k8⟩
  · exact .inl ⟨h₀, gl, mv, t0, D, nn, k1, k2, k3, k4, k5, fun q hq => k6 q (lay_sub.subset hq), k7, k8.subl lay_sub⟩
  · exact .inr ⟨h₀, gl, gg, mv, D, nn, k1, k2, k3, k4, k5, fun q hq => k6 q (lay_sub.subset hq), k7, k8.subl lay_sub⟩
end
/-! loops -/
section
variable {cs : Scope}
noncomputable def LpJ {n : Nat} (φ : Fm cs n) (rest : Led) (ω : Wo) (R : St → Prop) (m : Str → Option Value) (news : Led) : Prop :=
  ∃ st ω' gl fl, news = lay gl ω' (fl ++ rest) ∧ ω.Le ω' ∧ FL φ.g₀ φ.fs fl ∧ ObjsR φ.w ω'.tl st.g ω'.ga gl ∧ Dj news ∧ EnvR φ ω' st.m m ∧ R st
theorem loop_body {n : Nat} {φ : Fm cs n} {rest : Led} {ω : Wo} {mv : Str → Option Value} {s : Shared} {Q G : Flow → Shared → Prop} {E : Value → Shared → Prop} {b : List Stmt} {tb : STr} {C : CT} {st : St} {R : St → Prop} {P : PFlow → St → Prop} {X : XK} {p : Addr × Obj} (hb : SoundSs cs b tb) (hC : COk n C) (h : tb C st (S.turn R P) X)
    (hE : PassesOwn (Mo φ.w) φ.A φ.env E) (H : OkE φ (p :: rest) ω mv st.g s.heap) (V : EnvR φ ω st.m mv)
    (ret : ∀ a b st' ω' mv' h' tk', ω.Le ω' → OkE φ rest ω' mv' st'.g h' → EnvR φ ω' st'.m mv' → FlowR φ.w ω' a b → P a st' → Q b { s with heap := h', toks := tk' })
    (exc : ∀ e sp g' ω' h' tk', ω.Le ω' → OkX φ rest ω' g' e sp h' → X sp g' → E (.ref e) { s with heap := h', toks := tk' })
    (next : ∀ st' ω' mv' gl fl h' tk', ω.Le ω' → Ok φ (p :: rest) ω' mv' st'.g gl fl h' → EnvR φ ω' st'.m mv' → R st' → G .next { s with heap := h', toks := tk' } ∧ G .cont { s with heap := h', toks := tk' })
    (gb : ∀ s', Q .next s' → G .brk s') (gr : ∀ v s', Q (.ret v) s' → G (.ret v) s') : wpAny (Mo φ.w) φ.A (execs b φ.env) G E s :=
  hb n C hC st _ X h φ (p :: rest) ω mv s G E hE H V (fun f f' st2 ω2 mv2 h2 tk2 l2 H2 V2 hf hq => by
    obtain ⟨gl, fl, K⟩ := id H2
    exact turn_flow (G := fun f' => G f' { s with heap := h2, toks := tk2 }) hf hq (fun hr => (next st2 ω2 mv2 gl fl h2 tk2 l2 K V2 hr).1) (fun hr => (next st2 ω2 mv2 gl fl h2 tk2 l2 K V2 hr).2)
      (fun hp => gb _ (ret .next .next st2 ω2 mv2 h2 tk2 l2 H2.dropR V2 trivial hp)) fun v a hv hp => gr _ _ (ret (.ret v) (.ret a) st2 ω2 mv2 h2 tk2 l2 H2.dropR V2 hv hp)) fun e sp g' ω2 h2 tk2 l2 hx => exc e sp g' ω2 h2 tk2 l2 hx.dropR
theorem upTo_length : ∀ n, (S.upTo n).length = n
  | 0 => rfl
  | n + 1 => by simp [S.upTo, upTo_length n]
theorem upTo_get : ∀ {n i : Nat}, i < n → (S.upTo n)[i]? = some (i : Int)
  | 0, _, h => absurd h (Nat.not_lt_zero _)
  | n + 1, i, h => by
    unfold S.upTo
    by_cases e : i < n
    · rw [List.getElem?_append_left (by rw [upTo_length]; exact e)]
      exact upTo_get e
    · have : i = n := by omega
      subst this
      rw [List.getElem?_append_right (by rw [upTo_length]; exact Nat.le_refl _), upTo_length, Nat.sub_self]
      rfl
theorem dropCons {α : Type} {l : List α} {i : Nat} {x : α} (h : l[i]? = some x) : l.drop i = x :: l.drop (i + 1) := by
  obtain ⟨hl, he⟩ := List.getElem?_eq_some_iff.mp h
  rw [List.drop_eq_getElem_cons hl, he]
theorem RS.forR {x : Str} {e : PySem.Expr} {b : List Stmt} {i : Nat} {te : ETr} {tb : STr} {p1 p2 p3 p4 : Pos} (hn : ∀ p, nsIn (kk.heap_1 p) mainGlobals (Str.ofString "range") = some Option.none) (hr : cs.names.lookup (Str.ofString "range") = some .globalImplicit) (hx : slotOf cs x = some (.local, i)) (he : SoundE cs e te) (hb : SoundSs cs b tb)
    (h1 : ∀ env, starEach [e] env = (false, eval e env) :: starEach [] env) (hs : ∀ env x, foldedSetIterable (.Call (.Name (Str.ofString "range") p2) [e] [] p3) env x = pure x) : SoundS cs (.For (.Name x p1) (.Call (.Name (Str.ofString "range") p2) [e] [] p3) b [] p4) (S.forR i te tb) := fun nn C hC st P X hP φ rest ω mv s Q E hE H V ret exc => by
  have hB : bootBuiltins (Str.ofString "range") = some (.type "range") := by boot_by_name
  obtain ⟨gl0, fl0, K0⟩ := id H
  refine For_invV φ.H (slot_e hx).1 (by rw [show φ.env.scope.kind = .function from φ.hk]; rfl) ?_ (hs _) hE
  refine Call_ (nameX_B K0.F φ.X (topRead_of φ.T) (hn _) hB (by decide) (PyProof.Rows.callWith_type1 (args_cons (he nn C hC st _ X hP φ rest ω mv s _ E hE H V (fun v a st' ω' mv' h' tk' hle H' V' hv hp => args_nil ?_) exc) (h1 _)) (h1 _) rfl) φ.hk hr (by decide))
  obtain ⟨z, rfl, hh⟩ := asInt_e hp; replace hp := hh; clear hh
  obtain ⟨hz, hp⟩ := onT_e hp
  simp only [Bool.and_eq_true, decide_eq_true_eq] at hz
  obtain ⟨t, rfl⟩ := hv.int
  obtain ⟨k, rfl⟩ : ∃ k : Nat, z = (k : Int) := ⟨z.toNat, by omega⟩
  rw [Int.toNat_natCast] at hp
  have hk : k < 1000 := by omega
  refine call_range_1 ?_
  obtain ⟨gl, fl, K⟩ := H'
  have F := K.F
  have N := K.N
  have F1 := F.push { cls := .type "range", data := .fields #[.int 0 tk', .int (k : Int) t, .int 1 (tk' + 1)] }
  have N1 : News φ.H φ.L _ _ := News.pushKeep N { cls := .type "range", data := .fields #[.int 0 tk', .int (k : Int) t, .int 1 (tk' + 1)] }
  have hsz : Builtin.Range.rangeSize 0 (k : Int) 1 = (k : Int) := by
    unfold Builtin.Range.rangeSize
    rw [if_pos (by decide)]
    split <;> omega
  have hsm : Builtin.Range.small 0 (k : Int) 1 = true := by
    have fit : ∀ z : Int, 0 ≤ z → z ≤ 1000 → Builtin.Range.rangeFitsLong z = true := fun z a b => by
      unfold Builtin.Range.rangeFitsLong
      simp only [Bool.and_eq_true, decide_eq_true_eq]
      omega
    unfold Builtin.Range.small
    rw [hsz, fit 0 (by decide) (by decide), fit (k : Int) (by omega) (by omega), fit 1 (by decide) (by decide), if_pos (by decide), fit ((k : Int) + (1 - 1)) (by omega) (by omega)]
    simp
  refine wpAny_pyIter_range (Heap.get?_push_size _ rfl) hsm ?_
  rw [hsz]
  have F2 := F1.push { cls := .type "range_iterator", data := .fields #[rawInt 0, rawInt (k : Int), rawInt 1] }
  have N2 := News.pushKeep N1 { cls := .type "range_iterator", data := .fields #[rawInt 0, rawInt (k : Int), rawInt 1] }
  generalize hI : (h'.push { cls := .type "range", data := .fields #[.int 0 tk', .int (k : Int) t, .int 1 (tk' + 1)] }) = h1 at *
  have hlt : ∀ p ∈ lay gl ω' (fl ++ rest), p.1 ≠ h1.objs.size := fun p hp => Nat.ne_of_lt (Heap.lt_size (N1 p hp).1)
  have hnew := next_is_new F1
  have W : Walks PySem.Challenge.rw_xw0160_01.prog φ.w φ.A h1.objs.size [h1.objs.size] [h1.objs.size] k (fun i v => i < k ∧ ∃ t, v = .int (0 + (i : Int) * 1) t)
      (fun i h => IsRangeIter h h1.objs.size (0 + ((i : Nat) : Int) * 1) ((k : Int) - (i : Nat)) 1) := (Walks.range (prog := PySem.Challenge.rw_xw0160_01.prog) (w := φ.w) (A := φ.A) rfl _ 0 1 k).bound
  let J : Nat → (Str → Option Value) → List (Addr × Obj) → Prop := fun j m₁ n₁ => LpJ φ rest ω (S.forGo (fun st x k => k (st.setM i (.d (.int x)))) tb C P X ((S.upTo k).drop j)) m₁ n₁
  refine ⟨h1.objs.size, [h1.objs.size], [h1.objs.size], k, _, _, mv', lay gl ω' (fl ++ rest), J, rfl, W, ?_, ?_, ?_, (by show IsRangeIter _ _ _ _ _; simpa using Heap.get?_push_size _ rfl), F2, N2, ⟨st', ω', gl, fl, rfl, hle, K.f, K.o, K.d, V', hp⟩, ?_, ?_⟩
  · intro hm
    exact absurd F1.ns.lt ((List.mem_singleton.mp hm) ▸ Nat.lt_irrefl _)
  · intro y hy
    rw [List.mem_singleton.mp hy]
    exact hnew
  · intro p hp hI
    exact hlt p hp (List.mem_singleton.mp hI)
  · rintro j v m₁ n₁ s₁ own ⟨hh', tk1, rfl⟩ hin ⟨hjk, t1, rfl⟩ ⟨st1, ω1, gl1, fl1, rfl, le1, f1, o1, d1, V1, hR1⟩ hoff hown hget hall hst F3 N3
    obtain ⟨io, ho1⟩ : ∃ o1, hh'.get? h1.objs.size = some o1 := ⟨_, hst⟩
    have hmem := hall h1.objs.size (List.mem_singleton.mpr rfl) hnew _ ho1
    have hown1 : ∀ p ∈ own, p = (h1.objs.size, io) := fun p hp => by
      have e1 : p.1 = h1.objs.size := List.mem_singleton.mp (hown p hp)
      have e2 := hget p hp
      rw [e1, ho1] at e2
      exact Prod.ext e1 (Option.some.inj e2).symm
    rw [dropCons (upTo_get hjk)] at hR1
    have hv : (0 + (j : Int) * 1) = (j : Int) := by omega
    rw [hv] at F3
    have K3 : Ok φ rest ω1 _ (st1.setM i (.d (.int (j : Int)))).g gl1 fl1 hh' := ⟨F3, fun p hp => N3 p (List.mem_append_right _ hp), f1, o1, d1⟩
    have K4 : Ok φ ((h1.objs.size, io) :: rest) ω1 _ _ gl1 fl1 hh' := K3.addR (fun p hp => N3 p (List.mem_append_left _ (by
      cases hp with
      | head => exact hmem
      | tail _ hp => cases hp))) fun q hq e => hoff q hq (List.mem_singleton.mpr e)
    have V4 : EnvR φ ω1 (st1.setM i (.d (.int (j : Int)))).m _ := V1.set hx (v := .d (.int (j : Int))) (a := .int (j : Int) t1) (DatIn.int _ _)
    refine loop_body (G := LoopStepV φ.H φ.L [h1.objs.size] own (J (j + 1)) { s with heap := hh', toks := tk1 } (fun v s' => Q (.ret v) s') fun s' => Q .next s') (Q := Q) hb hC hR1 hE ⟨_, _, K4⟩ V4 (fun a b st' ω2 mv2 h2 tk2 l2 => ret a b st' ω2 mv2 h2 tk2 (le1.trans l2)) (fun e sp g' ω2 h2 tk2 l2 => exc e sp g' ω2 h2 tk2 (le1.trans l2)) ?_ (fun _ h => h) fun _ _ h => h
    intro st2 ω2 mv2 gl2 fl2 h2 tk2 l2 K5 V5 hr
    obtain ⟨K6, N6, off6⟩ := K5.dropR
    have fin : LoopStepU φ.H φ.L [h1.objs.size] own (J (j + 1)) { s with heap := hh', toks := tk1 } .next { s with heap := h2, toks := tk2 } := by
      refine ⟨rfl, h2, tk2, mv2, _, rfl, K6.F, fun p hp => ?_, fun p hp hI => off6 p hp (List.mem_singleton.mp hI), st2, ω2, gl2, fl2, rfl, le1.trans l2, K6.f, K6.o, K6.d, V5, hr⟩
      rcases List.mem_append.mp hp with hp | hp
      · rw [hown1 p hp]; exact N6 _ (.head _)
      · exact K6.N p hp
    exact ⟨fin, fin⟩
  · rintro h2 tk2 m2 n2 F3 N3 hoff ⟨st2, ω2, gl2, fl2, rfl, le2, f2, o2, d2, V2, hR2⟩
    rw [List.drop_eq_nil_of_le (by rw [upTo_length]; exact Nat.le_refl _)] at hR2
    exact ret .next .next st2 ω2 m2 h2 tk2 le2 ⟨gl2, fl2, F3, N3, f2, o2, d2⟩ V2 trivial hR2
end
/-! one object changed -/
section
variable {cs : Scope} {n : Nat} {φ : Fm cs n} {rest : Led} {ω : Wo} {mv : Str → Option Value} {g : List PObj} {gl : List Led} {fl : Led} {h h' : Heap} {p : Addr × Obj}
theorem lay_at {l1 l2 : List Led} {c1 c2 r : Led} {ω : Wo} {p : Addr × Obj} : lay (l1 ++ (c1 ++ p :: c2) :: l2) ω r = (l1.flatten ++ c1) ++ p :: (c2 ++ (l2.flatten ++ (ω.tl ++ r))) := by simp [lay]
theorem Dj.updF {l1 l2 : Led} {a : Addr} {o : Obj} (h : Dj (l1 ++ (a, o) :: l2)) : UpdF a o (l1 ++ (a, o) :: l2) (fun o' => l1 ++ (a, o') :: l2) := by
  obtain ⟨k1, k2⟩ := h.mid
  clear h
  induction l1 with
  | nil => exact .head k2
  | cons p l1 ih => exact .tail (k1 p (.head _)) (ih fun q hq => k1 q (.tail _ hq))
theorem Ok.chg {l1 l2 : List Led} {c1 c2 : Led} {a : Addr} {o o' : Obj} {g' : List PObj} (K : Ok φ rest ω mv g (l1 ++ (c1 ++ (a, o) :: c2) :: l2) fl h) (F' : Fr φ.H φ.L h' mv) (N' : News φ.H φ.L h' ((l1.flatten ++ c1) ++ (a, o') :: (c2 ++ (l2.flatten ++ (ω.tl ++ (fl ++ rest)))))) (ob : ObjsR φ.w ω.tl g' ω.ga (l1 ++ (c1 ++ (a, o') :: c2) :: l2)) : OkE φ rest ω mv g' h' := by
  refine ⟨_, fl, F', by rw [lay_at]; exact N', K.f, ob, ?_⟩
  have d := K.d
  rw [lay_at] at d ⊢
  exact d.as (by simp)
theorem store_cell {st : St} {s : Shared} {Q : Unit → Shared → Prop} {E : Value → Shared → Prop} {x : Str} {i j : Nat} {d : Dat} {a : Value} {u : Option Dat} (hx : slotOf cs x = some (.cell, i)) (H : OkE φ rest ω mv st.g s.heap) (V : EnvR φ ω st.m mv) (hi : st.m[i]? = some (.g j)) (hj : st.g[j]? = some (.cell u)) (hv : DatIn ω.tl a d)
    (ret : ∀ h' tk', OkE φ rest ω mv (st.setG j (.cell (some d))).g h' → Q () { s with heap := h', toks := tk' }) : wpAny (Mo φ.w) φ.A (storeName φ.env x a) Q E s := by
  obtain ⟨gl, fl, K⟩ := H
  obtain ⟨j', ca, e1, e2, e3⟩ := V x .cell i hx
  rw [hi] at e1
  cases e1
  obtain ⟨as, cl, l1, l2, f1, rfl, ⟨ca', o, v0, rfl, rfl, q3, q4⟩, f4⟩ := K.o.at hj
  rw [f1] at e2
  cases e2
  have K' : Ok φ rest ω mv st.g (l1 ++ ([] ++ (ca, o) :: []) :: l2) fl s.heap := K
  have d0 := K'.d
  have N0 := K'.N
  rw [lay_at] at d0 N0
  refine storeX_C K.F N0 e3 d0.updF q3 (fun h' o' F' N' hd' => ret h' _ (K'.chg F' N' ?_)) φ.hk (slot_e hx).1
  exact f4 _ _ ⟨ca, o', some a, rfl, rfl, hd', fun d' e => by cases e; exact ⟨a, rfl, hv⟩⟩
end
/-! loops over lists -/
section
variable {cs : Scope}
noncomputable def layOf (cs : Scope) : List PySem.Expr → Option (List (Bool × Nat))
  | [] => some []
  | .Name x _ :: r => match slotOf cs x with
    | some (.local, i) => match layOf cs r with
      | some is => some ((false, i) :: is)
      | none => none
    | some (.cell, i) => match layOf cs r with
      | some is => some ((true, i) :: is)
      | none => none
    | _ => none
  | _ => none
inductive LayR (cs : Scope) : List PySem.Expr → List (Bool × Nat) → Prop
  | nil : LayR cs [] []
  | loc {x : Str} {p : Pos} {i : Nat} {r : List PySem.Expr} {is : List (Bool × Nat)} : slotOf cs x = some (.local, i) → LayR cs r is → LayR cs (.Name x p :: r) ((false, i) :: is)
  | cel {x : Str} {p : Pos} {i : Nat} {r : List PySem.Expr} {is : List (Bool × Nat)} : slotOf cs x = some (.cell, i) → LayR cs r is → LayR cs (.Name x p :: r) ((true, i) :: is)
theorem layOf_r : ∀ {xs : List PySem.Expr} {is : List (Bool × Nat)}, layOf cs xs = some is → LayR cs xs is
  | [], _, h => by cases h; exact .nil
  | e :: r, is, h => by
    cases e with
    | Name x p =>
      unfold layOf at h
      split at h
      · rename_i i hx
        split at h
        · rename_i is' hr
          cases h
          exact .loc hx (layOf_r hr)
        · cases h
      · rename_i i hx
        split at h
        · rename_i is' hr
          cases h
          exact .cel hx (layOf_r hr)
        · cases h
      · cases h
    | _ => cases h
theorem layT_len : ∀ {is : List (Bool × Nat)} {st : St} {ds : List Dat} {k : St → Prop}, layT is st ds k → ds.length = is.length
  | [], st, [], k, _ => rfl
  | [], st, d :: ds, k, h => h.elim
  | (false, i) :: is, st, [], k, h => h.elim
  | (true, i) :: is, st, [], k, h => h.elim
  | (false, i) :: is, st, d :: ds, k, h => by
    have := layT_len (show layT is (st.setM i (.d d)) ds k from h)
    simp [this]
  | (true, i) :: is, st, d :: ds, k, h => by
    obtain ⟨v, -, h⟩ := onSome_e (show getM st.m i _ from h)
    obtain ⟨-, h⟩ := onT_e h
    obtain ⟨j, rfl, hh⟩ := asG_e h; replace h := hh; clear hh
    obtain ⟨o, -, h⟩ := onSome_e h
    obtain ⟨u, rfl, hh⟩ := oCell_e h; replace h := hh; clear hh
    have := layT_len h
    simp [this]
theorem each_len {env : Env} {xs : List PySem.Expr} {is : List (Bool × Nat)} (h : LayR cs xs is) : (assignEach xs env).length = is.length ∧ (assignEach xs env).findIdx? (·.1) = none := by
  induction h with
  | nil => exact ⟨rfl, rfl⟩
  | @loc x p i r is hx _ ih =>
    have e : assignEach (.Name x p :: r) env = (false, assign (.Name x p) env) :: assignEach r env := rfl
    rw [e]
    refine ⟨by simp [ih.1], ?_⟩
    simp [List.findIdx?_cons, ih.2]
  | @cel x p i r is hx _ ih =>
    have e : assignEach (.Name x p :: r) env = (false, assign (.Name x p) env) :: assignEach r env := rfl
    rw [e]
    refine ⟨by simp [ih.1], ?_⟩
    simp [List.findIdx?_cons, ih.2]
theorem layT_ok {n : Nat} {φ : Fm cs n} {rest : Led} {ω : Wo} {xs : List PySem.Expr} {is : List (Bool × Nat)} (hl : LayR cs xs is) : ∀ {st : St} {ds : List Dat} {vs : List Value} {mv : Str → Option Value} {s : Shared} {Q : Unit → Shared → Prop} {E : Value → Shared → Prop} {k : St → Prop}, DatAll ω.tl vs ds → layT is st ds k → OkE φ rest ω mv st.g s.heap → EnvR φ ω st.m mv →
    (∀ st' mv' h' tk', OkE φ rest ω mv' st'.g h' → EnvR φ ω st'.m mv' → k st' → Q () { s with heap := h', toks := tk' }) → wpAny (Mo φ.w) φ.A (assignInOrder ((assignEach xs φ.env).map (·.2)) vs) Q E s := by
  induction hl with
  | nil =>
    intro st ds vs mv s Q E k hd h H V ret
    cases ds with
    | nil =>
      cases hd
      exact assignInOrder_nil (ret st mv _ _ H V h)
    | cons _ _ => exact h.elim
  | @loc x p i r is hx _ ih =>
    intro st ds vs mv s Q E k hd h H V ret
    cases ds with
    | nil => exact h.elim
    | cons d ds =>
      cases hd with
      | cons h1 h2 =>
        show wpAny (Mo φ.w) φ.A (assignInOrder (assign (.Name x p) φ.env :: (assignEach r φ.env).map (·.2)) _) Q E s
        exact assignInOrder_cons (wpAny_assign_Name (store_ok hx (v := .d d) H V h1 fun mv' h' tk' H' V' => ih h2 h H' V' ret))
  | @cel x p i r is hx _ ih =>
    intro st ds vs mv s Q E k hd h H V ret
    cases ds with
    | nil => exact h.elim
    | cons d ds =>
      cases hd with
      | cons h1 h2 =>
        show wpAny (Mo φ.w) φ.A (assignInOrder (assign (.Name x p) φ.env :: (assignEach r φ.env).map (·.2)) _) Q E s
        obtain ⟨v, e1, h⟩ := onSome_e (show getM st.m i _ from h)
        obtain ⟨-, h⟩ := onT_e h
        obtain ⟨j, rfl, hh⟩ := asG_e h; replace h := hh; clear hh
        obtain ⟨o, e2, h⟩ := onSome_e h
        obtain ⟨u, rfl, hh⟩ := oCell_e h; replace h := hh; clear hh
        exact assignInOrder_cons (wpAny_assign_Name (store_cell hx H V e1 e2 h1 fun h' tk' H' => ih (st := st.setG j (.cell (some d))) h2 h H' V ret))
theorem let_pure {target : PySem.Expr} {it v : Value} (h : ∃ x p, target = .Name x p) : letOwnedTupleGo target it v = pure () := by
  obtain ⟨x, p, rfl⟩ := h
  rfl
theorem for_list {n : Nat} {φ : Fm cs n} {rest : Led} {ω : Wo} {mv : Str → Option Value} {s : Shared} {Q : Flow → Shared → Prop} {E : Value → Shared → Prop} {target iter : PySem.Expr} {b : List Stmt} {pos : Pos} {e : PySem.Expr} {te : ETr} {tb : STr} {C : CT} {st : St} {P : PFlow → St → Prop} {X : XK} {set : St → Dat → (St → Prop) → Prop}
    (he : SoundE cs iter te) (hb : SoundSs cs b tb) (hC : COk n C) (hP : te C st (fun v st => asLst v fun ds => onT (Nat.ble ds.length 100) (S.forGo set tb C P X ds st)) X)
    (hE : PassesOwn (Mo φ.w) φ.A φ.env E) (H : OkE φ rest ω mv st.g s.heap) (V : EnvR φ ω st.m mv)
    (ret : ∀ a b st' ω' mv' h' tk', ω.Le ω' → OkE φ rest ω' mv' st'.g h' → EnvR φ ω' st'.m mv' → FlowR φ.w ω' a b → P a st' → Q b { s with heap := h', toks := tk' })
    (exc : ∀ e sp g' ω' h' tk', ω.Le ω' → OkX φ rest ω' g' e sp h' → X sp g' → E (.ref e) { s with heap := h', toks := tk' })
    (hgo : ∀ (v : Value) (I l : Addr) (i : Nat) (s' : Shared) (Q' : Unit → Shared → Prop) (E' : Value → Shared → Prop), s'.heap.IsListIter I l i → Q' () s' → wpAny (Mo φ.w) φ.A (letOwnedTupleGo target (.ref I) v) Q' E' s')
    (hset : ∀ (rest : Led) (ω : Wo) (mv : Str → Option Value) (s : Shared) (Q : Unit → Shared → Prop) (st : St) (k : St → Prop) (d : Dat) (v : Value), set st d k → DatIn ω.tl v d → OkE φ rest ω mv st.g s.heap → EnvR φ ω st.m mv → (∀ st' mv' h' tk', OkE φ rest ω mv' st'.g h' → EnvR φ ω st'.m mv' → k st' → Q () { s with heap := h', toks := tk' }) → wpAny (Mo φ.w) φ.A (assign target φ.env v) Q E s)
    (hs : ∀ x, foldedSetIterable iter φ.env x = pure x) : wpAny (Mo φ.w) φ.A (exec (.For target iter b [] pos) φ.env) Q E s := by
  refine wpAny_For (he n C hC st _ X hP φ rest ω mv s _ E hE H V (fun v a st' ω' mv' h' tk' hle H' V' hv hp => ?_) exc) hs
  obtain ⟨ds, rfl, hh⟩ := asLst_e hp; replace hp := hh; clear hh
  obtain ⟨-, hp⟩ := onT_e hp
  obtain ⟨l, vs, k, rfl, m1, d1⟩ := hv.lst
  obtain ⟨gl, fl, K⟩ := H'
  have hl := News.isList K.N (K.inTl m1)
  refine wpAny_pyIter_list (s := { s with heap := h', toks := tk' }) hl ?_
  have hI : ∀ p ∈ lay gl ω' (fl ++ rest), p.1 ≠ h'.objs.size := fun p hp => Nat.ne_of_lt (Heap.lt_size (K.N p hp).1)
  let J : Nat → (Str → Option Value) → Led → Prop := fun j m₁ n₁ => LpJ φ rest ω' (S.forGo set tb C P X (ds.drop j)) m₁ n₁
  refine codeAny_forLoop_any (fun c s' => ∃ j h2 tk2 m2 n2 o, c = vs.length - j ∧ j ≤ vs.length ∧ s' = { s with heap := h2, toks := tk2 } ∧ Fr φ.H φ.L h2 m2 ∧ News φ.H φ.L h2 ((h'.objs.size, o) :: n2) ∧ (o.cls = .type "list_iterator" ∧ o.data = .fields #[.ref l, .int j 0]) ∧ (∀ p ∈ n2, p.1 ≠ h'.objs.size) ∧ J j m2 n2) ?_ (vs.length - 0)
    ⟨0, _, tk', mv', _, _, rfl, Nat.zero_le _, rfl, K.F.push _, K.N.push K.F _, ⟨rfl, rfl⟩, hI, st', ω', gl, fl, rfl, .refl, K.f, K.o, K.d, V', hp⟩
  rintro c s' ⟨j, h2, tk2, m2, n2, o, rfl, hj, rfl, F2, N2, ⟨ho1, ho2⟩, off, st1, ω1, gl1, fl1, rfl, le1, f1, o1, dj1, V1, hR⟩
  have hit : h2.IsListIter h'.objs.size l j := ⟨o, (N2 _ (.head _)).1, ho1, ho2⟩
  have m2' : (l, listOf vs.toArray k) ∈ lay gl1 ω1 (fl1 ++ rest) := List.mem_append_right _ (List.mem_append_left _ (le1.tl _ m1))
  have hls' : h2.IsList l vs.toArray := ⟨_, (N2 _ (.tail _ m2')).1, rfl, k, rfl⟩
  cases hv : vs[j]? with
  | none =>
    have hje : j = vs.length := by
      by_cases q : j < vs.length
      · rw [List.getElem?_eq_getElem q] at hv; cases hv
      · omega
    subst hje
    refine wpAny_pyNext_list_end (s := { s with heap := h2, toks := tk2 }) rfl hit hls' (by simpa using hv) fun h3 hx => ?_
    refine wpAny_execs_nil ?_
    have F3 : Fr φ.H φ.L h3 m2 := LCg.fr_but F2 (fun b o hb e => hx b o (by simpa using hb) e) (N2 _ (.head _)).2.1.symm (N2 _ (.head _)).2.2
    have N3 : News φ.H φ.L h3 (lay gl1 ω1 (fl1 ++ rest)) := fun p hp => ⟨hx _ _ (off p hp) (N2 p (.tail _ hp)).1, (N2 p (.tail _ hp)).2⟩
    rw [List.drop_eq_nil_of_le (by rw [d1.length]; exact Nat.le_refl _)] at hR
    exact ret .next .next st1 ω1 m2 h3 tk2 (hle.trans le1) ⟨gl1, fl1, F3, N3, f1, o1, dj1⟩ V1 trivial hR
  | some v =>
    have hlt : j < vs.length := by
      by_cases q : j < vs.length
      · exact q
      · rw [List.getElem?_eq_none (by omega)] at hv; cases hv
    refine wpAny_pyNext_list_item (s := { s with heap := h2, toks := tk2 }) hit hls' (by simpa using hv) fun h3 hit2 hsb => ?_
    have F3 : Fr φ.H φ.L h3 m2 := F2.change hsb (N2 _ (.head _)).2.1 (N2 _ (.head _)).2.2
    obtain ⟨o2, ho, hc2, hd2⟩ := id hit2
    have N3 : News φ.H φ.L h3 ((h'.objs.size, o2) :: lay gl1 ω1 (fl1 ++ rest)) := by
      intro p hp
      rcases List.mem_cons.mp hp with rfl | hp
      · exact ⟨ho, (N2 _ (.head _)).2⟩
      · exact ⟨(hsb.2 _ (off p hp)).trans (N2 p (.tail _ hp)).1, (N2 p (.tail _ hp)).2⟩
    have hltd : j < ds.length := by rw [← d1.length]; exact hlt
    obtain ⟨v', ev, dv⟩ := d1.get hltd
    rw [hv] at ev
    cases ev
    rw [dropCons (List.getElem?_eq_getElem hltd)] at hR
    have K3 : Ok φ rest ω1 m2 st1.g gl1 fl1 h3 := ⟨F3, fun p hp => N3 p (.tail _ hp), f1, o1, dj1⟩
    have K4 : Ok φ ((h'.objs.size, o2) :: rest) ω1 m2 st1.g gl1 fl1 h3 := K3.addR (fun p hp => N3 p (by
      cases hp with
      | head => exact .head _
      | tail _ hp => cases hp)) off
    dsimp only
    refine hgo v _ _ _ _ _ _ hit2 ?_
    refine wpAny_mono (hset ((h'.objs.size, o2) :: rest) ω1 m2 { s with heap := h3, toks := tk2 } (fun _ s₂ => wpAny (Mo φ.w) φ.A (execs b φ.env) (fun f s₃ => match f with
      | .next => ∃ m, m < vs.length - j ∧ _
      | .cont => ∃ m, m < vs.length - j ∧ _
      | .brk => Q .next s₃
      | .ret v => Q (.ret v) s₃) E s₂) st1 _ _ v hR (dv.mono le1.tl) ⟨_, _, K4⟩ V1 fun st2 mv2 h4 tk4 H4 V4 hR4 => ?_) (fun _ s₂ h₂ => wpAny_mono h₂ (fun _ _ h => h) hE) hE
    refine loop_body (Q := Q) hb hC hR4 hE H4 V4 (fun a b st' ω2 mv2 h2 tk2 l2 => ret a b st' ω2 mv2 h2 tk2 (hle.trans (le1.trans l2))) (fun e sp g' ω2 h2 tk2 l2 => exc e sp g' ω2 h2 tk2 (hle.trans (le1.trans l2))) ?_ (fun _ h => h) fun _ _ h => h
    intro st5 ω5 mv5 gl5 fl5 h5 tk5 l5 K5 V5 hr
    obtain ⟨K6, N6, off6⟩ := K5.dropR
    have fin : ∃ m, m < vs.length - j ∧ ∃ j h2 tk2 m2 n2 o, m = vs.length - j ∧ j ≤ vs.length ∧ ({ s with heap := h5, toks := tk5 } : Shared) = { s with heap := h2, toks := tk2 } ∧ Fr φ.H φ.L h2 m2 ∧ News φ.H φ.L h2 ((h'.objs.size, o) :: n2) ∧ (o.cls = .type "list_iterator" ∧ o.data = .fields #[.ref l, .int j 0]) ∧ (∀ p ∈ n2, p.1 ≠ h'.objs.size) ∧ J j m2 n2 := by
      refine ⟨vs.length - (j + 1), by omega, j + 1, h5, tk5, mv5, _, o2, rfl, hlt, rfl, K6.F, fun p hp => ?_, ⟨hc2, hd2⟩, off6, st5, ω5, gl5, fl5, rfl, le1.trans l5, K6.f, K6.o, K6.d, V5, hr⟩
      rcases List.mem_cons.mp hp with rfl | hp
      · exact N6 _ (.head _)
      · exact K6.N p hp
    exact ⟨fin, fin⟩
end
section
variable {cs : Scope}
theorem RS.forL {x : Str} {e : PySem.Expr} {b : List Stmt} {i : Nat} {te : ETr} {tb : STr} {p1 p4 : Pos} (hx : slotOf cs x = some (.local, i)) (he : SoundE cs e te) (hb : SoundSs cs b tb) (hs : ∀ env x, foldedSetIterable e env x = pure x) : SoundS cs (.For (.Name x p1) e b [] p4) (S.forL i te tb) := fun n C hC st P X hP φ rest ω mv s Q E hE H V ret exc =>
  for_list (e := e) he hb hC hP hE H V ret exc (fun _ _ _ _ _ _ _ _ h => wpAny_pure h) (fun rest ω mv s Q st k d v hset hd H V hq => wpAny_assign_Name (store_ok hx (v := .d d) H V hd fun mv' h' tk' H' V' => hq _ mv' h' tk' H' V' hset)) (hs _)
theorem RS.forT {xs : List PySem.Expr} {e : PySem.Expr} {b : List Stmt} {k : Nat} {is : List (Bool × Nat)} {te : ETr} {tb : STr} {p1 p4 : Pos} (hx : layOf cs xs = some is) (he : SoundE cs e te) (hb : SoundSs cs b tb) (hs : ∀ env x, foldedSetIterable e env x = pure x) : SoundS cs (.For (.Tuple xs k p1) e b [] p4) (S.forT (layT is) te tb) := fun n C hC st P X hP φ rest ω mv s Q E hE H V ret exc =>
  for_list (e := e) (set := fun st x k => dTup x fun xs => layT is st xs k) he hb hC hP hE H V ret exc (fun v I l i s' Q' E' hit h => by
    cases v with
    | ref T => exact wpAny_letOwnedTupleGo_listiter hit h
    | _ => exact wpAny_pure h) (fun rest ω mv s Q st k d v hset hd H V hq => by
    obtain ⟨ds, rfl, hh⟩ := dTup_e hset; replace hset := hh; clear hh
    obtain ⟨l, vs, k', rfl, m1, d1⟩ := VR.tup (φ := φ) (ω := ω) hd
    obtain ⟨gl, fl, K⟩ := H
    have hl := each_len (env := φ.env) (layOf_r hx)
    refine unpackN_ (items := vs.toArray) K.F K.N (K.N.isTup (K.inTl m1)) rfl (by rw [hl.1, List.size_toArray, d1.length, layT_len hset]) hl.2 fun h' F' N' => ?_
    exact layT_ok (layOf_r hx) d1 hset ⟨gl, fl, F', N', K.f, K.o, K.d⟩ V hq) (hs _)
noncomputable def slotsOf (cs : Scope) : List PySem.Expr → Option (List Nat)
  | [] => some []
  | .Name x _ :: r => match slotOf cs x with
    | some (.local, i) => match slotsOf cs r with
      | some is => some (i :: is)
      | none => none
    | _ => none
  | _ => none
inductive SlotsR (cs : Scope) : List Str → List Nat → Prop
  | nil : SlotsR cs [] []
  | cons {x : Str} {i : Nat} {r : List Str} {is : List Nat} : slotOf cs x = some (.local, i) → SlotsR cs r is → SlotsR cs (x :: r) (i :: is)
theorem SlotsR.length {xs : List Str} {is : List Nat} (h : SlotsR cs xs is) : xs.length = is.length := by
  induction h with
  | nil => rfl
  | cons _ _ ih => simp [ih]
theorem SlotsR.snoc {xs : List Str} {is : List Nat} (h : SlotsR cs xs is) {x : Str} {i : Nat} (k : slotOf cs x = some (.local, i)) : SlotsR cs (xs ++ [x]) (is ++ [i]) := by
  induction h with
  | nil => exact .cons k .nil
  | cons h1 _ ih => exact .cons h1 ih
theorem SlotsR.rev {xs : List Str} {is : List Nat} (h : SlotsR cs xs is) : SlotsR cs xs.reverse is.reverse := by
  induction h with
  | nil => exact .nil
  | cons h1 _ ih => rw [List.reverse_cons, List.reverse_cons]; exact ih.snoc h1
theorem VRs.snoc {w : World} {ω : Wo} {ps : List PV} {vs : List Value} (h : VRs w ω ps vs) {p : PV} {v : Value} (k : VR w ω p v) : VRs w ω (ps ++ [p]) (vs ++ [v]) := by
  induction h with
  | nil => exact .cons k .nil
  | cons h1 _ ih => exact .cons h1 ih
theorem VRs.rev {w : World} {ω : Wo} {ps : List PV} {vs : List Value} (h : VRs w ω ps vs) : VRs w ω ps.reverse vs.reverse := by
  induction h with
  | nil => exact .nil
  | cons h1 _ ih => rw [List.reverse_cons, List.reverse_cons]; exact ih.snoc h1
noncomputable def nms : List PySem.Expr → List Str
  | .Name x _ :: r => x :: nms r
  | _ => []
theorem slotsOf_r : ∀ {xs : List PySem.Expr} {is : List Nat}, slotsOf cs xs = some is → SlotsR cs (nms xs) is
  | [], _, h => by cases h; exact .nil
  | e :: r, is, h => by
    cases e with
    | Name x p =>
      unfold slotsOf at h
      split at h
      · rename_i i hx
        split at h
        · rename_i is' hr
          cases h
          exact .cons hx (slotsOf_r hr)
        · cases h
      · cases h
    | _ => cases h
theorem fold_ok {n : Nat} {φ : Fm cs n} {rest : Led} {ω : Wo} {xs : List Str} {is : List Nat} (hl : SlotsR cs xs is) : ∀ {st : St} {ps : List PV} {vs : List Value} {mv : Str → Option Value} {s : Shared} {Q : Unit → Shared → Prop} {E : Value → Shared → Prop}, VRs φ.w ω ps vs → ps.length = xs.length → OkE φ rest ω mv st.g s.heap → EnvR φ ω st.m mv →
    (∀ mv' h' tk', OkE φ rest ω mv' (st.setMs is ps).g h' → EnvR φ ω (st.setMs is ps).m mv' → Q () { s with heap := h', toks := tk' }) → wpAny (Mo φ.w) φ.A (assignInOrder (List.map (fun n => bindName φ.env n) xs) vs) Q E s := by
  induction hl with
  | nil =>
    intro st ps vs mv s Q E hd hn H V ret
    cases hd with
    | nil => exact assignInOrder_nil (ret mv _ _ H V)
    | cons _ _ => cases hn
  | @cons x i r is hx _ ih =>
    intro st ps vs mv s Q E hd hn H V ret
    cases hd with
    | nil => cases hn
    | cons h1 h2 => exact assignInOrder_cons (bindName_ (store_ok hx H V h1 fun mv' h' tk' H' V' => ih h2 (by simpa using hn) H' V' ret))
theorem RS.asgs {xs es : List PySem.Expr} {is : List Nat} {ts : EsTr} {k k' : Nat} {p q r : Pos} (hx : slotsOf cs xs = some is) (h : SoundEs cs es ts) (hn : ∀ n (φ : Fm cs n), swappedStores [.Tuple xs k p] (.Tuple es k' q) φ.env = pure (some (nms xs))) (hs : ∀ env, swapsWithSole [.Tuple xs k p] (.Tuple es k' q) r.line env = pure false) (hl9 : Nat.ble is.length 9 = true) : SoundS cs (.Assign [.Tuple xs k p] (.Tuple es k' q) r) (S.asgs is ts) := fun n C hC st P X hP φ rest ω mv s Q E hE H V ret exc =>
  Assign_Tuple_swapped (Tuple_ (h.so n C hC st _ X q hP φ rest ω mv s _ E hE H V (fun ps vs st' ω' mv' h' tk' hle H' V' hv hp => by
    obtain ⟨hl, hp⟩ := onT_e hp
    have hl := Nat.eq_of_beq_eq_true hl
    have R := slotsOf_r hx
    obtain ⟨gl, fl, K⟩ := H'
    have hvl := hv.length
    have h9 := Nat.le_of_ble_eq_true hl9
    have hR := R.length
    refine kup_newTuple (s := { s with heap := h', toks := tk' }) K.F K.N (fun D h2 F2 N2 l => ?_) (by rw [sizeLine_eq]; omega)
    refine unpackItemsN_ (prog := PySem.Challenge.rw_xw0160_01.prog) (items := vs.toArray) F2 N2 (News.isTup N2 (.head _)) rfl (by simp; omega) fun h3 F3 N3 => ?_
    have H3 : OkE φ rest ω' mv' st'.g h3 := ⟨gl, fl, F3, fun p hp => N3 p (.tail _ hp), K.f, K.o, K.d⟩
    refine fold_ok R.rev hv.rev (by simp; omega) H3 V' fun mv4 h4 tk4 H4 V4 => ret .next .next _ ω' mv4 h4 tk4 hle H4 V4 trivial hp) exc)) (hs _) (hn _ _)
end
section
variable {cs : Scope}
theorem enum_items {n : Nat} {φ : Fm cs n} {rest : Led} {ω : Wo} {s : Shared} {Q : Flow → Shared → Prop} {E : Value → Shared → Prop} {x y : Str} {i j kt : Nat} {xp yp tp : Pos} {b : List Stmt} {tb : STr} {C : CT} {P : PFlow → St → Prop} {X : XK} {a I : Addr} {vs : List Value} {k : Nat} (hb : SoundSs cs b tb) (hC : COk n C) (hx : slotOf cs x = some (.local, i)) (hy : slotOf cs y = some (.local, j))
    (hE : PassesOwn (Mo φ.w) φ.A φ.env E) (ha : (a, listOf vs.toArray k) ∈ ω.tl)
    (ret : ∀ a b st' ω' mv' h' tk', ω.Le ω' → OkE φ rest ω' mv' st'.g h' → EnvR φ ω' st'.m mv' → FlowR φ.w ω' a b → P a st' → Q b { s with heap := h', toks := tk' })
    (exc : ∀ e sp g' ω' h' tk', ω.Le ω' → OkX φ rest ω' g' e sp h' → X sp g' → E (.ref e) { s with heap := h', toks := tk' }) :
    ∀ (us : List Value) (ds : List Dat) (q : Nat) (st1 : St) (ω1 : Wo) (mv1 : Str → Option Value) (gl1 : List Led) (fl1 : Led), DatAll ω1.tl us ds → ω.Le ω1 → FL φ.g₀ φ.fs fl1 → ObjsR φ.w ω1.tl st1.g ω1.ga gl1 → Dj (lay gl1 ω1 (fl1 ++ rest)) → EnvR φ ω1 st1.m mv1 → (∀ p ∈ lay gl1 ω1 (fl1 ++ rest), p.1 ≠ I ∧ p.1 ≠ I + 1) →
      S.forGo (fun st x k => k ((st.setM i (.d (.int x.1))).setM j (.d x.2))) tb C P X (S.numb q ds) st1 →
      ItemsRest PySem.Challenge.rw_xw0160_01.prog φ.w φ.A E φ.H φ.env (.Tuple [.Name x xp, .Name y yp] kt tp) b Q s [(I + 1, "enumerate"), (I, "list_iterator")] [(a, listOf vs.toArray k)] (enumItems q us) mv1 (lay gl1 ω1 (fl1 ++ rest)) := by
  intro us
  induction us with
  | nil =>
    intro ds q st1 ω1 mv1 gl1 fl1 hd le1 f1 o1 d1 V1 hn hR
    cases hd
    exact ItemsRest.zero fun h2 tk2 F2 N2 => ret .next .next st1 ω1 mv1 h2 tk2 le1 ⟨gl1, fl1, F2, N2, f1, o1, d1⟩ V1 trivial hR
  | cons v us ih =>
    intro ds q st1 ω1 mv1 gl1 fl1 hd le1 f1 o1 d1 V1 hn hR
    obtain ⟨d, ds, rfl⟩ : ∃ d dr, ds = d :: dr := by
      cases ds with
      | nil => cases hd
      | cons d dr => exact ⟨d, dr, rfl⟩
    cases hd with
    | cons hd1 hd2 =>
      refine ItemsRest.pair fun T t h1 tk1 hT F1 => AllObj.cons fun u1 _ => AllObj.cons fun u2 _ => AllObj.nil fun N1 => ?_
      refine unpackN_ F1 N1 hT rfl rfl rfl fun h2 F2 N2 => ?_
      have K0 : Ok φ rest ω1 mv1 st1.g gl1 fl1 h2 := ⟨F2, fun p hp => N2 p (List.mem_append_right _ hp), f1, o1, d1⟩
      have K1 : Ok φ ((I, u2) :: rest) ω1 mv1 st1.g gl1 fl1 h2 := K0.addR (fun p hp => N2 p (by
        cases hp with
        | head => simp
        | tail _ hp => cases hp)) fun q hq => (hn q hq).1
      have K2 : Ok φ ((I + 1, u1) :: (I, u2) :: rest) ω1 mv1 st1.g gl1 fl1 h2 := K1.addR (fun p hp => N2 p (by
        cases hp with
        | head => simp
        | tail _ hp => cases hp)) fun q hq => by
          rcases List.mem_cons.mp (lay_perm.mem_iff.mp hq) with rfl | hq
          · exact Nat.ne_of_lt (Nat.lt_succ_self I)
          · exact (hn q hq).2
      show wpAny (Mo φ.w) φ.A (assignInOrder [assign (.Name x xp) φ.env, assign (.Name y yp) φ.env] [.int (q : Int) t, v]) _ _ _
      refine assignInOrder_cons (wpAny_assign_Name (store_ok hx (v := .d (.int (q : Int))) ⟨_, _, K2⟩ V1 (DatIn.int _ _) fun mv3 h3 tk3 H3 V3 => assignInOrder_cons (wpAny_assign_Name (store_ok hy (v := .d d) H3 V3 hd1 fun mv4 h4 tk4 H4 V4 => assignInOrder_nil ?_))))
      refine loop_body (Q := Q) hb hC (show tb C ((st1.setM i (.d (.int (q : Int)))).setM j (.d d)) _ X from hR) hE H4 V4 (fun a b st' ω2 mv2 h2 tk2 l2 H2 => ret a b st' ω2 mv2 h2 tk2 (le1.trans l2) H2.dropR) (fun e sp g' ω2 h2 tk2 l2 H2 => exc e sp g' ω2 h2 tk2 (le1.trans l2) H2.dropR) ?_ (fun _ h => h) fun _ _ h => h
      intro st5 ω5 mv5 gl5 fl5 h5 tk5 l5 K5 V5 hr
      obtain ⟨K6, N6, off6⟩ := K5.dropR
      obtain ⟨K7, N7, off7⟩ := K6.dropR
      have sub : ∀ p ∈ lay gl5 ω5 (fl5 ++ rest), p ∈ lay gl5 ω5 (fl5 ++ (I, u2) :: rest) := fun p hp => lay_perm.mem_iff.mpr (.tail _ hp)
      have hd5 : ∀ p ∈ lay gl5 ω5 (fl5 ++ rest), p.1 ≠ I ∧ p.1 ≠ I + 1 := fun p hp => ⟨off7 p hp, off6 p (sub p hp)⟩
      have fin : UnrEndW φ.H φ.L { s with heap := h1, toks := tk1 } [(I + 1, u1), (I, u2)] (fun m' n' => SubL [(a, listOf vs.toArray k)] n' ∧ ItemsRest PySem.Challenge.rw_xw0160_01.prog φ.w φ.A E φ.H φ.env (.Tuple [.Name x xp, .Name y yp] kt tp) b Q s [(I + 1, "enumerate"), (I, "list_iterator")] [(a, listOf vs.toArray k)] (enumItems (q + 1) us) m' n') { s with heap := h5, toks := tk5 } := by
        refine ⟨h5, tk5, mv5, _, rfl, K7.F, fun p hp => ?_, fun p hp q hq => ?_, ⟨List.mem_append_right _ (List.mem_append_left _ (l5.tl _ (le1.tl _ ha))), trivial⟩, ih ds (q + 1) st5 ω5 mv5 gl5 fl5 (hd2.mono l5.tl) (le1.trans l5) K7.f K7.o K7.d V5 hd5 hr⟩
        · rcases List.mem_append.mp hp with hp | hp
          · simp only [List.mem_cons, List.not_mem_nil, or_false] at hp
            rcases hp with rfl | rfl
            · exact N6 _ (.head _)
            · exact N7 _ (.head _)
          · exact K7.N p hp
        · have := hd5 p hp
          simp only [List.mem_cons, List.not_mem_nil, or_false] at hq
          rcases hq with rfl | rfl
          · exact this.2
          · exact this.1
      exact ⟨fin, fin⟩
theorem RS.forE {x y : Str} {e : PySem.Expr} {b : List Stmt} {i j k : Nat} {te : ETr} {tb : STr} {p1 p2 p3 p4 p5 p6 : Pos} (hn : ∀ p, nsIn (kk.heap_1 p) mainGlobals (Str.ofString "enumerate") = some Option.none) (hr : cs.names.lookup (Str.ofString "enumerate") = some .globalImplicit) (hx : slotOf cs x = some (.local, i)) (hy : slotOf cs y = some (.local, j)) (he : SoundE cs e te) (hb : SoundSs cs b tb)
    (h1 : ∀ env, starEach [e] env = (false, eval e env) :: starEach [] env) (hs : ∀ env x, foldedSetIterable (.Call (.Name (Str.ofString "enumerate") p4) [e] [] p5) env x = pure x) : SoundS cs (.For (.Tuple [.Name x p1, .Name y p2] k p3) (.Call (.Name (Str.ofString "enumerate") p4) [e] [] p5) b [] p6) (S.forE i j te tb) := fun nn C hC st P X hP φ rest ω mv s Q E hE H V ret exc => by
  have hB : bootBuiltins (Str.ofString "enumerate") = some (.type "enumerate") := by boot_by_name
  obtain ⟨gl0, fl0, K0⟩ := id H
  refine For_turns K0.F ?_ (hs _) hE
  refine Call_ (nameX_B K0.F φ.X (topRead_of φ.T) (hn _) hB (by decide) (PyProof.Rows.callWith_type1 (args_cons (he nn C hC st _ X hP φ rest ω mv s _ E hE H V (fun v a st' ω' mv' h' tk' hle H' V' hv hp => args_nil ?_) exc) (h1 _)) (h1 _) rfl) φ.hk hr (by decide))
  obtain ⟨ds, rfl, hh⟩ := asLst_e hp; replace hp := hh; clear hh
  obtain ⟨-, hp⟩ := onT_e hp
  obtain ⟨l, vs, k, rfl, m1, d1⟩ := hv.lst
  obtain ⟨gl, fl, K⟩ := H'
  refine ktu_enum (s := { s with heap := h', toks := tk' }) (lo := listOf vs.toArray k) rfl K.F K.N (K.inTl m1) rfl rfl rfl fun I lt => ?_
  exact enum_items (s := { s with heap := h', toks := tk' }) hb hC hx hy hE m1 (fun a b st2 ω2 mv2 h2 tk2 l2 => ret a b st2 ω2 mv2 h2 tk2 (hle.trans l2)) (fun e sp g' ω2 h2 tk2 l2 => exc e sp g' ω2 h2 tk2 (hle.trans l2)) vs ds 0 st' ω' mv' gl fl d1 .refl K.f K.o K.d V' (fun p hp => ⟨Nat.ne_of_lt (lt p hp), Nat.ne_of_lt (Nat.lt_succ_of_lt (lt p hp))⟩) hp
end
theorem dat_take {tl : Led} {vs : List Value} {ds : List Dat} (h : DatAll tl vs ds) (n : Nat) : DatAll tl (vs.take n) (ds.take n) := by
  induction n generalizing vs ds with
  | zero => exact .nil
  | succ n ih =>
    cases h with
    | nil => exact .nil
    | cons h1 h2 => exact .cons h1 (ih h2)
theorem pick_to {vs : List Value} {i : Int} (h : 0 ≤ i) : kms_pick vs none (some i) = vs.take i.toNat := by
  unfold kms_pick kms_lo kms_hi
  dsimp only
  rw [if_neg (by omega), Nat.sub_zero, List.drop_zero]
  by_cases e : i.toNat ≤ vs.length
  · rw [Nat.min_eq_left e]
  · rw [Nat.min_eq_right (by omega), List.take_of_length_le (Nat.le_refl _), List.take_of_length_le (by omega)]
theorem neg_ok {w : World} {A : Around} {env : Env} {x : Int} {k : Nat} {p q : Pos} {Q : Value → Shared → Prop} {E : Value → Shared → Prop} {s : Shared} (h : ∀ t tk, Q (.int (-x) t) { s with toks := tk }) : wpAny (Mo w) A (eval (.UnaryOp .USub (.Constant (.int x) k p) q) env) Q E s := by
  walk1
  walk1
  walk1
  exact h _ _
theorem item_list' {w : World} {A : Around} {s : Shared} {Q : Value → Shared → Prop} {E : Value → Shared → Prop} {l : Addr} {vs : List Value} {k : Int} {t : Tok} {j : Nat} {v : Value} {e u : PySem.Expr} (hl : s.heap.IsList l vs.toArray) (hj : seqIndex? k vs.length = some j) (hn : vs.length ≤ 1000) (hv : vs[j]? = some v) (hp : subscripted u false (.ref l) (.int k t) = operate [.ref l, .int k t] (getItem (.ref l) (.int k t))) (hq : Q v s) : wpAny (Mo w) A (subscriptTail e u (.ref l) (.int k t)) Q E s := by
  obtain ⟨b1, b2, b3⟩ := seqIx_b hj hn
  by_cases h0 : 0 ≤ k
  · obtain rfl := b3 h0
    exact tail_any hl.typeIs slot_list_getitem.lookup (wpAny_getItem_list hl h0 b2 (x := v) (by simpa using hv) hq) hp
  · exact kde_neg hl (by omega) b1 hj hv hq hp
section
variable {cs : Scope}
theorem R.neg {x : Int} {k : Nat} {p q : Pos} : SoundE cs (.UnaryOp .USub (.Constant (.int x) k p) q) (E.dat (.int (-x))) := fun n C hC st P X h φ rest ω mv s Q E hE H V ret exc => by
  walk1
  walk1
  walk1
  exact ret (.d (.int (-x))) _ st ω mv _ _ .refl H V (DatIn.int _ _) h
theorem R.pow {x y : Int} {k k' : Nat} {p q r : Pos} (hb : (decide (0 ≤ y) && decide (y ≤ 1000000) && Nat.blt x.natAbs 4294967296) = true) : SoundE cs (.BinOp (.Constant (.int x) k p) .Pow (.Constant (.int y) k' q) r) (E.dat (.int (x ^ y.toNat))) := fun n C hC st P X h φ rest ω mv s Q E hE H V ret exc => by
  simp only [Bool.and_eq_true, decide_eq_true_eq] at hb
  have hx := Nat.le_of_ble_eq_true hb.2
  exact wpAny_BinOp (wpAny_Constant_int (wpAny_Constant_int (PyProof.Rows.pow_int_small hb.1.1 hb.1.2 (by omega) (ret (.d (.int (x ^ y.toNat))) _ st ω mv _ _ .refl H V (DatIn.int _ _) h))))
/-! slices -/
noncomputable def PlainTo (e : PySem.Expr) (p : Pos) (u : PySem.Expr) : Prop := (∀ o i, subscripted (.Slice none (some u) none p) false o (.ref i) = operate [.ref i, o] (getItem o (.ref i))) ∧ ∀ o r, letTemporaryGo e o r = pure ()
noncomputable def PlainFrom (e : PySem.Expr) (p : Pos) (u : PySem.Expr) : Prop := (∀ o i, subscripted (.Slice (some u) none none p) false o (.ref i) = operate [.ref i, o] (getItem o (.ref i))) ∧ ∀ o r, letTemporaryGo e o r = pure ()
theorem R.takeTo {e u : PySem.Expr} {t tu : ETr} {p5 p6 : Pos} (hs : SoundE cs e t) (hu : SoundE cs u tu) (hp : ∀ o i, subscripted (.Slice none (some u) none p5) false o (.ref i) = operate [.ref i, o] (getItem o (.ref i))) (hl : ∀ x t r, letTemporaryGo e (.str x t) r = pure ()) : SoundE cs (.Subscript e (.Slice none (some u) none p5) p6) (E.takeTo t tu) := fun n C hC st P X hP φ rest ω mv s Q E hE H V ret exc =>
  Subscript_ (hs n C hC st _ X hP φ rest ω mv s _ E hE H V (fun x a st1 ω1 mv1 h1 tk1 l1 H1 V1 hx hq => wpAny_Slice (wpAny_evalPart_none (wpAny_evalPart_some (hu n C hC st1 _ X hq φ rest ω1 mv1 _ _ E hE H1 V1 (fun y b st2 ω2 mv2 h2 tk2 l2 H2 V2 hy hr => wpAny_evalPart_none (by
    obtain ⟨i, rfl, hh⟩ := asInt_e hr; replace hr := hh; clear hh
    obtain ⟨x, rfl, hh⟩ := asD_e hr; replace hr := hh; clear hh
    obtain ⟨ti, rfl⟩ := hy.int
    replace hx := hx.mono l2
    obtain ⟨gl, fl, K⟩ := H2
    cases x with
    | list ds =>
      obtain ⟨hb, hr⟩ := onT_e hr
      simp only [Bool.and_eq_true, decide_eq_true_eq] at hb
      have h9 := Nat.le_of_ble_eq_true hb.2
      obtain ⟨l, vs, k, rfl, m1, d1⟩ := hx.lst
      refine kba_turn (value' := PySem.Expr.Name (Str.ofString "_") ⟨0, 0, 0, 0⟩) (fun _ => rfl) ?_
      have ez : kms_pick vs none (some i) = vs.take i.toNat := pick_to hb.1
      refine kms_slice_lit (s := { s with heap := h2, toks := tk2 }) (its := vs.toArray) K.F K.N (News.isList K.N (K.inTl m1)) .none (.int i ti) ez (fun D h3 F3 N3 lt => ?_) (hp _ _) (fun _ => rfl) (by rw [List.size_toArray, sizeLine_eq, d1.length]; omega)
      obtain ⟨hle2, H3, hD⟩ := Ok.keep (v := .ref D) (d := .list (ds.take i.toNat)) K F3 N3 lt fun tl' m k => .list m (DatAll.mono k (dat_take d1 _))
      exact ret (.d (.list (ds.take i.toNat))) _ st2 _ mv2 h3 _ (l1.trans (l2.trans hle2)) H3 (V2.mono hle2) hD hr
    | str x =>
      obtain ⟨hb, hr⟩ := onT_e hr
      have hb := Nat.le_of_ble_eq_true hb
      obtain ⟨t, rfl⟩ := hx.str
      refine slice_strN_ns (s := { s with heap := h2, toks := tk2 }) K.F K.N (fun h3 t3 k3 F3 N3 => ?_) (hp _ _) (hl _ _) (by rw [sizeLine_eq]; omega)
      exact ret (.d (.str (Txt.slice x none (some i)))) _ st2 ω2 mv2 h3 k3 (l1.trans l2) ⟨gl, fl, F3, N3, K.f, K.o, K.d⟩ V2 (DatIn.str _ _) hr
    | _ => exact hr.elim)) fun e sp g' ω2 h2 tk2 hle2 => exc e sp g' ω2 h2 tk2 (l1.trans hle2))))) exc)
theorem R.dropTo {e u : PySem.Expr} {t tu : ETr} {p5 p6 : Pos} (hs : SoundE cs e t) (hu : SoundE cs u tu) (hp : ∀ o i, subscripted (.Slice (some u) none none p5) false o (.ref i) = operate [.ref i, o] (getItem o (.ref i))) (hl : ∀ x t r, letTemporaryGo e (.str x t) r = pure ()) : SoundE cs (.Subscript e (.Slice (some u) none none p5) p6) (E.dropTo t tu) := fun n C hC st P X hP φ rest ω mv s Q E hE H V ret exc =>
  Subscript_ (hs n C hC st _ X hP φ rest ω mv s _ E hE H V (fun x a st1 ω1 mv1 h1 tk1 l1 H1 V1 hx hq => wpAny_Slice (wpAny_evalPart_some (hu n C hC st1 _ X hq φ rest ω1 mv1 _ _ E hE H1 V1 (fun y b st2 ω2 mv2 h2 tk2 l2 H2 V2 hy hr => wpAny_evalPart_none (wpAny_evalPart_none (by
    obtain ⟨i, rfl, hh⟩ := asInt_e hr; replace hr := hh; clear hh
    obtain ⟨x, rfl, hh⟩ := asStr_e hr; replace hr := hh; clear hh
    obtain ⟨ti, rfl⟩ := hy.int
    replace hx := hx.mono l2
    obtain ⟨gl, fl, K⟩ := H2
    obtain ⟨hb, hr⟩ := onT_e hr
    have hb := Nat.le_of_ble_eq_true hb
    obtain ⟨t, rfl⟩ := hx.str
    refine slice_strN_sn (s := { s with heap := h2, toks := tk2 }) K.F K.N (fun h3 t3 k3 F3 N3 => ?_) (hp _ _) (hl _ _) (by rw [sizeLine_eq]; omega)
    exact ret (.d (.str (Txt.slice x (some i) none))) _ st2 ω2 mv2 h3 k3 (l1.trans l2) ⟨gl, fl, F3, N3, K.f, K.o, K.d⟩ V2 (DatIn.str _ _) hr))) fun e sp g' ω2 h2 tk2 hle2 => exc e sp g' ω2 h2 tk2 (l1.trans hle2)))) exc)
/-! the last row of a book -/
theorem rows_last {tl rl : Led} {rs : List (List Dat)} {r : List Dat} (h : RowsR tl rl (rs ++ [r])) : ∃ rl' q vs n, rl = rl' ++ [(q, listOf vs.toArray n)] ∧ RowsR tl rl' rs ∧ DatAll tl vs r ∧ r.length ≤ 9 := by
  induction rs generalizing rl with
  | nil =>
    cases h with
    | cons h1 h2 h3 =>
      cases h3
      exact ⟨[], _, _, _, rfl, .nil, h1, h2⟩
  | cons x rs ih =>
    cases h with
    | cons h1 h2 h3 =>
      obtain ⟨rl', q, vs, n, rfl, k1, k2, k3⟩ := ih h3
      exact ⟨_ :: rl', q, vs, n, rfl, .cons h1 h2 k1, k2, k3⟩
theorem rows_snoc {tl rl : Led} {rs : List (List Dat)} (h : RowsR tl rl rs) {q : Addr} {vs : List Value} {n : Nat} {r : List Dat} (h1 : DatAll tl vs r) (h2 : r.length ≤ 9) : RowsR tl (rl ++ [(q, listOf vs.toArray n)]) (rs ++ [r]) := by
  induction h with
  | nil => exact .cons h1 h2 .nil
  | cons k1 k2 _ ih => exact .cons k1 k2 ih
theorem rows_len {tl rl : Led} {rs : List (List Dat)} (h : RowsR tl rl rs) : rl.length = rs.length := by
  induction h with
  | nil => rfl
  | cons _ _ _ ih => simp [ih]
section
variable {cs : Scope} {n : Nat} {φ : Fm cs n} {rest : Led} {ω : Wo} {mv : Str → Option Value} {g : List PObj} {gl : List Led} {fl : Led} {h : Heap} {a : Value} {i : Nat}
theorem Ok.last {r : List Dat} {rs : List (List Dat)} (K : Ok φ rest ω mv g gl fl h) (hv : VR φ.w ω (.g i) a) (e : g[i]? = some (.bk (r :: rs))) : ∃ B l1 l2 rl q vs k k', a = .ref B ∧ gl = l1 ++ ((B, listOf (refs rl ++ [Value.ref q]).toArray k) :: (rl ++ [(q, listOf vs.toArray k')])) :: l2 ∧ RowsR ω.tl rl rs.reverse ∧ DatAll ω.tl vs r ∧ r.length ≤ 9 ∧ rs.length + 1 ≤ 1000 ∧ ∀ o' cs', ObjR φ.w ω.tl o' [B] cs' → ObjsR φ.w ω.tl (g.set i o') ω.ga (l1 ++ cs' :: l2) := by
  obtain ⟨as, cs', l1, l2, f1, f2, ⟨l, rl, k, rfl, rfl, q3, q4⟩, f4⟩ := K.o.at e
  obtain ⟨b, r', e1, rfl⟩ := hv
  rw [f1] at e1
  cases e1
  rw [List.reverse_cons] at q3
  obtain ⟨rl', q, vs, k', rfl, k1, k2, k3⟩ := rows_last q3
  exact ⟨_, l1, l2, rl', q, vs, k, k', rfl, by rw [f2, refs_snoc], k1, k2, k3, q4, f4⟩
theorem Ok.last_mem {l1 l2 : List Led} {B : Addr} {ob : Obj} {rl : Led} {p : Addr × Obj} (K : Ok φ rest ω mv g (l1 ++ ((B, ob) :: (rl ++ [p])) :: l2) fl h) : (B, ob) ∈ lay (l1 ++ ((B, ob) :: (rl ++ [p])) :: l2) ω (fl ++ rest) ∧ p ∈ lay (l1 ++ ((B, ob) :: (rl ++ [p])) :: l2) ω (fl ++ rest) := by
  constructor <;> simp [lay]
end
theorem seq_neg1 {α : Type} {vs : List α} {v : α} : (vs ++ [v])[vs.length]? = some v := by simp
theorem R.lastAt {e : PySem.Expr} {t : ETr} {j : Int} {k k' : Nat} {p1 p2 p3 p4 p5 : Pos} (hs : SoundE cs e t)
    (hp1 : ∀ o i t, subscripted (.UnaryOp .USub (.Constant (.int 1) k p1) p2) false o (.int i t) = operate [o, .int i t] (getItem o (.int i t))) (hp2 : ∀ o i t, subscripted (.Constant (.int j) k' p4) false o (.int i t) = operate [o, .int i t] (getItem o (.int i t))) :
    SoundE cs (.Subscript (.Subscript e (.UnaryOp .USub (.Constant (.int 1) k p1) p2) p3) (.Constant (.int j) k' p4) p5) (E.lastAt t (E.dat (.int j))) := fun n C hC st P X hP φ rest ω mv s Q E hE H V ret exc =>
  Subscript_ (Subscript_ (hs n C hC st _ X hP φ rest ω mv s _ E hE H V (fun x a st1 ω1 mv1 h1 tk1 l1 H1 V1 hx hq => by
    obtain ⟨i, rfl, hh⟩ := asG_e (show asG x _ from hq); replace hq := hh; clear hh
    obtain ⟨o, ho, hq⟩ := onSome_e hq
    obtain ⟨rs, rfl, hh⟩ := oBk_e hq; replace hq := hh; clear hh
    obtain ⟨r, hr, hq⟩ := onSome_e hq
    cases rs with
    | nil => cases hr
    | cons r0 rs =>
      obtain rfl : r0 = r := Option.some.inj hr
      obtain ⟨hl, jj, d, e1, e2, hq⟩ := itemK_e (show itemK r0 j _ from hq)
      obtain ⟨gl, fl, K⟩ := id H1
      obtain ⟨B, q1, q2, rl, q, vs, u, u', rfl, rfl, R1, d1, h9, hrs, -⟩ := K.last hx ho
      obtain ⟨m1, m2⟩ := K.last_mem
      obtain ⟨v, ev, dv⟩ := datAt d1 e2
      refine neg_ok fun t tk => my_last K.N m1 (by have := rows_len R1; simp [refs]; simp at this; omega) ?_ (hp1 _ _ _)
      refine wpAny_Constant_int (item_list' (News.isList K.N m2) (by rw [d1.length]; exact e1) (by rw [d1.length]; exact hl) ev (hp2 _ _ _) ?_)
      exact ret (.d d) v st1 ω1 mv1 h1 _ l1 ⟨_, fl, K⟩ V1 dv hq) exc))
end
section
variable {cs : Scope}
theorem R.lastTo {e : PySem.Expr} {t : ETr} {j : Int} {k k' : Nat} {p1 p2 p3 p4 p5 p6 : Pos} (hs : SoundE cs e t)
    (hp1 : ∀ o i t, subscripted (.UnaryOp .USub (.Constant (.int 1) k p1) p2) false o (.int i t) = operate [o, .int i t] (getItem o (.int i t))) (hp2 : ∀ o i, subscripted (.Slice none (some (.Constant (.int j) k' p4)) none p5) false o (.ref i) = operate [.ref i, o] (getItem o (.ref i))) :
    SoundE cs (.Subscript (.Subscript e (.UnaryOp .USub (.Constant (.int 1) k p1) p2) p3) (.Slice none (some (.Constant (.int j) k' p4)) none p5) p6) (E.lastTo t j) := fun n C hC st P X hP φ rest ω mv s Q E hE H V ret exc =>
  Subscript_ (Subscript_ (hs n C hC st _ X hP φ rest ω mv s _ E hE H V (fun x a st1 ω1 mv1 h1 tk1 l1 H1 V1 hx hq => by
    obtain ⟨i, rfl, hh⟩ := asG_e (show asG x _ from hq); replace hq := hh; clear hh
    obtain ⟨o, ho, hq⟩ := onSome_e hq
    obtain ⟨rs, rfl, hh⟩ := oBk_e hq; replace hq := hh; clear hh
    obtain ⟨r, hr, hq⟩ := onSome_e hq
    cases rs with
    | nil => cases hr
    | cons r0 rs =>
      obtain rfl : r0 = r := Option.some.inj hr
      obtain ⟨hj, hq⟩ := onT_e hq
      have hj := of_decide_eq_true hj
      obtain ⟨gl, fl, K⟩ := id H1
      obtain ⟨B, q1, q2, rl, q, vs, u, u', rfl, rfl, R1, d1, h9, hrs, -⟩ := K.last hx ho
      obtain ⟨m1, m2⟩ := K.last_mem
      refine neg_ok fun t tk => my_last K.N m1 (by have := rows_len R1; simp [refs]; simp at this; omega) ?_ (hp1 _ _ _)
      refine wpAny_Slice (wpAny_evalPart_none (wpAny_evalPart_some (wpAny_Constant_int (wpAny_evalPart_none ?_))))
      refine kba_turn (value' := PySem.Expr.Name (Str.ofString "_") ⟨0, 0, 0, 0⟩) (fun _ => rfl) ?_
      refine kms_slice_lit (s := ⟨h1, s.gens, s.drawn, _, s.os⟩) (its := vs.toArray) K.F K.N (News.isList K.N m2) .none (.int j _) (pick_to hj) (fun D h3 F3 N3 lt => ?_) (hp2 _ _) (fun _ => rfl) (by rw [List.size_toArray, sizeLine_eq, d1.length]; omega)
      obtain ⟨hle2, H3, hD⟩ := Ok.keep (v := .ref D) (d := .list (r0.take j.toNat)) K F3 N3 lt fun tl' m k => .list m (DatAll.mono k (dat_take d1 _))
      exact ret (.d (.list (r0.take j.toNat))) _ st1 _ mv1 h3 _ (l1.trans hle2) H3 (V1.mono hle2) hD hq) exc))
/-! stores into objects -/
theorem dat_set {tl : Led} {vs : List Value} {ds : List Dat} (h : DatAll tl vs ds) {v : Value} {d : Dat} (hd : DatIn tl v d) (n : Nat) : DatAll tl (vs.set n v) (ds.set n d) := by
  induction n generalizing vs ds with
  | zero =>
    cases h with
    | nil => exact .nil
    | cons h1 h2 => exact .cons hd h2
  | succ n ih =>
    cases h with
    | nil => exact .nil
    | cons h1 h2 => exact .cons h1 (ih h2)
theorem setrow_at {w : World} {A : Around} {E : Value → Shared → Prop} {s : Shared} {h₀ : Heap} {L q : Addr} {m : Str → Option Value} {n1 n2 : Led} {vs : List Value} {k : Nat} {j : Int} {t : Tok} {v : Value} {Q : Unit → Shared → Prop} (F : Fr h₀ L s.heap m) (N : News h₀ L s.heap (n1 ++ (q, listOf vs.toArray k) :: n2)) (d : Dj (n1 ++ (q, listOf vs.toArray k) :: n2)) (h0 : 0 ≤ j) (h1 : j < vs.length) (h2 : vs.length ≤ 1000)
    (h : ∀ h', Fr h₀ L h' m → News h₀ L h' (n1 ++ (q, listOf (vs.set j.toNat v).toArray k) :: n2) → Q () { s with heap := h' }) : wpAny (Mo w) A (setItem (.ref q) (.int j t) v) Q E s := by
  obtain ⟨k1, k2⟩ := d.mid
  refine my_setrow (n' := n1 ++ n2) F N (by simp) h0 h1 (by omega) (fun p hp => ?_) fun h' F' N' => h h' F' (News.sub N' fun p hp => List.perm_middle.mem_iff.mp hp)
  rcases List.mem_append.mp hp with hp | hp
  · exact ⟨List.mem_append_left _ hp, k1 p hp⟩
  · exact ⟨List.mem_append_right _ (.tail _ hp), k2 p hp⟩
theorem RS.setI {e a : PySem.Expr} {te ta : ETr} {j : Nat} {k : Nat} {p1 p2 p3 : Pos} (he : SoundE cs e te) (ha : SoundE cs a ta) (hs : ∀ env, swapsWith e (some (.Subscript a (.Constant (.int j) k p1) p2)) p3.line env = pure false) : SoundS cs (.Assign [.Subscript a (.Constant (.int j) k p1) p2] e p3) (S.setI te ta j) := fun n C hC st P X hP φ rest ω mv s Q E hE H V ret exc =>
  wpAny_Assign_Subscript (he n C hC st _ X hP φ rest ω mv s _ E hE H V (fun v x st1 ω1 mv1 h1 tk1 l1 H1 V1 hv hp => ha n C hC st1 _ X hp φ rest ω1 mv1 _ _ E hE H1 V1 (fun o y st2 ω2 mv2 h2 tk2 l2 H2 V2 ho hq => by
    obtain ⟨d, rfl, hh⟩ := asD_e hq; replace hq := hh; clear hh
    obtain ⟨i, rfl, hh⟩ := asG_e hq; replace hq := hh; clear hh
    obtain ⟨ob, hob, hq⟩ := onSome_e hq
    obtain ⟨ds, rfl, hh⟩ := oLst_e hq; replace hq := hh; clear hh
    obtain ⟨hj, hq⟩ := onT_e hq
    have hj := Nat.le_of_ble_eq_true hj
    obtain ⟨gl, fl, K⟩ := H2
    obtain ⟨as, cl, l1', l2', f1, rfl, ⟨l, vs, u, rfl, rfl, q3, q4⟩, f4⟩ := K.o.at hob
    obtain ⟨b, r', e1, rfl⟩ := ho
    rw [f1] at e1
    cases e1
    have K' : Ok φ rest ω2 mv2 st2.g (l1' ++ ([] ++ (l, listOf vs.toArray u) :: []) :: l2') fl h2 := K
    have N0 := K'.N
    have d0 := K'.d
    rw [lay_at] at N0 d0
    refine wpAny_Constant_int (setrow_at (s := ⟨h2, s.gens, s.drawn, _, s.os⟩) K.F N0 d0 (Int.natCast_nonneg j) (by rw [q3.length]; omega) (by rw [q3.length]; exact q4) fun h3 F3 N3 => ?_)
    exact ret .next .next (st2.setG i (.lst (ds.set j d))) ω2 mv2 h3 _ (l1.trans l2) (K'.chg F3 N3 (f4 _ _ ⟨l, _, u, rfl, rfl, dat_set q3 (DatIn.mono l2.tl hv) _, by simpa using q4⟩)) V2 trivial hq)
    fun e sp g' ω2 h2 tk2 hle2 => exc e sp g' ω2 h2 tk2 (l1.trans hle2)) exc) (hs _)
theorem RS.setLast {e a : PySem.Expr} {te ta : ETr} {j : Nat} {k k' : Nat} {p1 p2 p3 p4 p5 p6 : Pos} (he : SoundE cs e te) (ha : SoundE cs a ta) (hs : ∀ env, swapsWith e (some (.Subscript (.Subscript a (.UnaryOp .USub (.Constant (.int 1) k p1) p2) p3) (.Constant (.int j) k' p4) p5)) p6.line env = pure false)
    (hp1 : ∀ o i t, subscripted (.UnaryOp .USub (.Constant (.int 1) k p1) p2) false o (.int i t) = operate [o, .int i t] (getItem o (.int i t))) : SoundS cs (.Assign [.Subscript (.Subscript a (.UnaryOp .USub (.Constant (.int 1) k p1) p2) p3) (.Constant (.int j) k' p4) p5] e p6) (S.setLast te ta j) := fun n C hC st P X hP φ rest ω mv s Q E hE H V ret exc =>
  wpAny_Assign_Subscript (he n C hC st _ X hP φ rest ω mv s _ E hE H V (fun v x st1 ω1 mv1 h1 tk1 l1 H1 V1 hv hp => Subscript_ (ha n C hC st1 _ X hp φ rest ω1 mv1 _ _ E hE H1 V1 (fun o y st2 ω2 mv2 h2 tk2 l2 H2 V2 ho hq => by
    obtain ⟨d, rfl, hh⟩ := asD_e hq; replace hq := hh; clear hh
    obtain ⟨i, rfl, hh⟩ := asG_e hq; replace hq := hh; clear hh
    obtain ⟨ob, hob, hq⟩ := onSome_e hq
    obtain ⟨rs, rfl, hh⟩ := oBk_e hq; replace hq := hh; clear hh
    cases rs with
    | nil => exact hq.elim
    | cons r0 rs =>
      obtain ⟨hj, hq⟩ := onT_e hq
      have hj := Nat.le_of_ble_eq_true hj
      obtain ⟨gl, fl, K⟩ := H2
      obtain ⟨B, q1, q2, rl, q, vs, u, u', rfl, rfl, R1, d1, h9, hrs, f4⟩ := K.last ho hob
      obtain ⟨m1, m2⟩ := K.last_mem
      refine neg_ok fun t tk => my_last K.N m1 (by have := rows_len R1; simp [refs]; simp at this; omega) ?_ (hp1 _ _ _)
      have K' : Ok φ rest ω2 mv2 st2.g (q1 ++ (((B, listOf (refs rl ++ [Value.ref q]).toArray u) :: rl) ++ (q, listOf vs.toArray u') :: []) :: q2) fl h2 := K
      have N0 := K'.N
      have d0 := K'.d
      rw [lay_at] at N0 d0
      refine wpAny_Constant_int (setrow_at (s := ⟨h2, s.gens, s.drawn, _, s.os⟩) K.F N0 d0 (Int.natCast_nonneg j) (by rw [d1.length]; omega) (by rw [d1.length]; omega) fun h3 F3 N3 => ?_)
      refine ret .next .next (st2.setG i (.bk (r0.set j d :: rs))) ω2 mv2 h3 _ (l1.trans l2) (K'.chg F3 N3 (f4 _ _ ⟨B, rl ++ [(q, listOf (vs.set (j : Int).toNat x).toArray u')], u, rfl, by rw [refs_snoc]; rfl, ?_, by simpa using hrs⟩)) V2 trivial hq
      rw [List.reverse_cons]
      exact rows_snoc R1 (dat_set d1 (DatIn.mono l2.tl hv) _) (by simpa using h9))
    fun e sp g' ω2 h2 tk2 hle2 => exc e sp g' ω2 h2 tk2 (l1.trans hle2))) exc) (hs _)
end
structure AW (f : Str) : Prop where
  hg : ∀ p, plainGet (kk.heap_1 p) 200 f = true
  hd : ∀ p, hasDictIn (kk.heap_1 p) 200 = true
  hc : ∀ p, findIn (kk.heap_1 p) (.ref 200) f = some none
  hn : ∀ p, noGet (kk.heap_1 p) none = true
structure SW (f : Str) : Prop where
  hs : ∀ p, findIn (kk.heap_1 p) (.ref 200) (Str.ofString "__setattr__") = some (some (.builtin "object.__setattr__"))
  hp : ∀ p, plainOver (kk.heap_1 p) 200 = true
  ht : ∀ p, takerIn (kk.heap_1 p) 200 f = some none
  hd : ∀ p, hasDictIn (kk.heap_1 p) 200 = true
section
theorem fillH (h₀ : Heap) (w : World) (h : RowW.prog (OpenRow.toRowW PySem.Challenge.rw_xw0160_01.row) = RowW.prog (OpenRow.toRowW PySem.Challenge.rw_xw0160_01.row)) : (kk.heap_1 w.params).In h₀ → True := by
  revert h
  k_fill
  exact fun _ _ => trivial
theorem aw_rows : AW (Str.ofString "rows") := ⟨by intro p; k_is, by intro p; k_is, by intro p; k_is, by intro p; k_is⟩
theorem aw_at : AW (Str.ofString "at") := ⟨by intro p; k_is, by intro p; k_is, by intro p; k_is, by intro p; k_is⟩
theorem aw_deep : AW (Str.ofString "deep") := ⟨by intro p; k_is, by intro p; k_is, by intro p; k_is, by intro p; k_is⟩
theorem sw_at : SW (Str.ofString "at") := ⟨by intro p; k_is, by intro p; k_is, by intro p; k_is, by intro p; k_is⟩
theorem sw_deep : SW (Str.ofString "deep") := ⟨by intro p; k_is, by intro p; k_is, by intro p; k_is, by intro p; k_is⟩
end
section
variable {cs : Scope}
section
variable {n : Nat} {φ : Fm cs n} {rest : Led} {ω : Wo} {mv : Str → Option Value} {g : List PObj} {gl : List Led} {fl : Led} {st : St} {s : Shared} {E : Value → Shared → Prop} {Q : Value → Shared → Prop} {i : Nat} {rows : List Dat} {ix dp : Int} {a : Value}
theorem get_rows (K : Ok φ rest ω mv g gl fl s.heap) (hv : VR φ.w ω (.g i) a) (e : g[i]? = some (.wd rows ix dp)) (h : ∀ R tk, VR φ.w ω (.rows i) (.ref R) → Q (.ref R) { s with toks := tk }) : wpAny (Mo φ.w) φ.A (getAttr a (Str.ofString "rows") true) Q E s := by
  obtain ⟨W, D, R, t1, t2, t3, t4, t5, u, vs, k, rfl, e1, m1, m2, m3, d1, hl⟩ := K.wd hv e
  exact get_own K.F φ.X (InstAt.of_news K.N m1 m2) (aw_rows.hg _) (aw_rows.hd _) (aw_rows.hc _) (aw_rows.hn _) (v := .ref R) rfl rfl (h R _ ⟨W, D, R, e1, rfl⟩)
theorem get_at (K : Ok φ rest ω mv g gl fl s.heap) (hv : VR φ.w ω (.g i) a) (e : g[i]? = some (.wd rows ix dp)) (h : ∀ t tk, Q (.int ix t) { s with toks := tk }) : wpAny (Mo φ.w) φ.A (getAttr a (Str.ofString "at") true) Q E s := by
  obtain ⟨W, D, R, t1, t2, t3, t4, t5, u, vs, k, rfl, e1, m1, m2, m3, d1, hl⟩ := K.wd hv e
  exact get_own K.F φ.X (InstAt.of_news K.N m1 m2) (aw_at.hg _) (aw_at.hd _) (aw_at.hc _) (aw_at.hn _) (v := .int ix t3) rfl rfl (h t3 _)
theorem get_deep (K : Ok φ rest ω mv g gl fl s.heap) (hv : VR φ.w ω (.g i) a) (e : g[i]? = some (.wd rows ix dp)) (h : ∀ t tk, Q (.int dp t) { s with toks := tk }) : wpAny (Mo φ.w) φ.A (getAttr a (Str.ofString "deep") true) Q E s := by
  obtain ⟨W, D, R, t1, t2, t3, t4, t5, u, vs, k, rfl, e1, m1, m2, m3, d1, hl⟩ := K.wd hv e
  exact get_own K.F φ.X (InstAt.of_news K.N m1 m2) (aw_deep.hg _) (aw_deep.hd _) (aw_deep.hc _) (aw_deep.hn _) (v := .int dp t5) rfl rfl (h t5 _)
end
theorem R.atOf {x : Str} {t : ETr} {p q : Pos} (hs : SoundE cs (.Name x p) t) : SoundE cs (.Attribute (.Name x p) (Str.ofString "at") q) (E.atOf t) := fun n C hC st P X hP φ rest ω mv s Q E hE H V ret exc =>
  Attribute_name (hs n C hC st _ X hP φ rest ω mv s _ E hE H V (fun x a st1 ω1 mv1 h1 tk1 l1 H1 V1 hx hq => by
    obtain ⟨i, rfl, hh⟩ := asG_e hq; replace hq := hh; clear hh
    obtain ⟨o, ho, hq⟩ := onSome_e hq
    obtain ⟨r, ix, dp, rfl, hh⟩ := oWd_e hq; replace hq := hh; clear hh
    obtain ⟨gl, fl, K⟩ := id H1
    exact get_at (s := { s with heap := h1, toks := tk1 }) K hx ho fun t tk => ret (.d (.int ix)) _ st1 ω1 mv1 h1 tk l1 H1 V1 (DatIn.int _ _) hq) exc)
theorem R.deepOf {x : Str} {t : ETr} {p q : Pos} (hs : SoundE cs (.Name x p) t) : SoundE cs (.Attribute (.Name x p) (Str.ofString "deep") q) (E.deepOf t) := fun n C hC st P X hP φ rest ω mv s Q E hE H V ret exc =>
  Attribute_name (hs n C hC st _ X hP φ rest ω mv s _ E hE H V (fun x a st1 ω1 mv1 h1 tk1 l1 H1 V1 hx hq => by
    obtain ⟨i, rfl, hh⟩ := asG_e hq; replace hq := hh; clear hh
    obtain ⟨o, ho, hq⟩ := onSome_e hq
    obtain ⟨r, ix, dp, rfl, hh⟩ := oWd_e hq; replace hq := hh; clear hh
    obtain ⟨gl, fl, K⟩ := id H1
    exact get_deep (s := { s with heap := h1, toks := tk1 }) K hx ho fun t tk => ret (.d (.int dp)) _ st1 ω1 mv1 h1 tk l1 H1 V1 (DatIn.int _ _) hq) exc)
theorem R.rowsOf {x : Str} {t : ETr} {p q : Pos} (hs : SoundE cs (.Name x p) t) : SoundE cs (.Attribute (.Name x p) (Str.ofString "rows") q) (E.rowsOf t) := fun n C hC st P X hP φ rest ω mv s Q E hE H V ret exc =>
  Attribute_name (hs n C hC st _ X hP φ rest ω mv s _ E hE H V (fun x a st1 ω1 mv1 h1 tk1 l1 H1 V1 hx hq => by
    obtain ⟨i, rfl, hh⟩ := asG_e hq; replace hq := hh; clear hh
    obtain ⟨o, ho, hq⟩ := onSome_e hq
    obtain ⟨r, ix, dp, rfl, hh⟩ := oWd_e hq; replace hq := hh; clear hh
    obtain ⟨gl, fl, K⟩ := id H1
    exact get_rows (s := { s with heap := h1, toks := tk1 }) K hx ho fun R tk hR => ret (.rows i) _ st1 ω1 mv1 h1 tk l1 H1 V1 hR hq) exc)
theorem RS.setRow {e : PySem.Expr} {te : ETr} {x : Str} {i : Nat} {p1 p2 p3 p4 p5 p6 : Pos} (hx : slotOf cs x = some (.local, i)) (he : SoundE cs e te) (hs : ∀ env, swapsWith e (some (.Subscript (.Attribute (.Name x p1) (Str.ofString "rows") p2) (.Attribute (.Name x p3) (Str.ofString "at") p4) p5)) p6.line env = pure false) :
    SoundS cs (.Assign [.Subscript (.Attribute (.Name x p1) (Str.ofString "rows") p2) (.Attribute (.Name x p3) (Str.ofString "at") p4) p5] e p6) (S.setRow te (E.loc i)) := fun n C hC st P X hP φ rest ω mv s Q E hE H V ret exc =>
  wpAny_Assign_Subscript (he n C hC st _ X hP φ rest ω mv s _ E hE H V (fun v y st1 ω1 mv1 h1 tk1 l1 H1 V1 hv hq => by
    obtain ⟨o, e1, hq⟩ := onSome_e (show getM st1.m i _ from hq)
    obtain ⟨hd, hq⟩ := onT_e hq
    obtain ⟨d, rfl, hh⟩ := asD_e hq; replace hq := hh; clear hh
    obtain ⟨j, rfl, hh⟩ := asG_e hq; replace hq := hh; clear hh
    obtain ⟨ob, hob, hq⟩ := onSome_e hq
    obtain ⟨rs, ix, dp, rfl, hh⟩ := oWd_e hq; replace hq := hh; clear hh
    obtain ⟨hj, hq⟩ := onT_e hq
    simp only [Bool.and_eq_true, decide_eq_true_eq] at hj
    obtain ⟨gl, fl, K⟩ := H1
    obtain ⟨a, e2, ha⟩ := V1 x .local i hx _ e1 rfl
    refine Attribute_name (nameX_L K.F e2 (get_rows (s := ⟨h1, s.gens, s.drawn, _, s.os⟩) K ha hob fun R tk hR => ?_) φ.hk (slot_e hx).1 (slot_e hx).2)
    refine Attribute_name (nameX_L K.F e2 (get_at (s := ⟨h1, s.gens, s.drawn, _, s.os⟩) K ha hob fun t tk2 => ?_) φ.hk (slot_e hx).1 (slot_e hx).2)
    obtain ⟨as, cl, l1', l2', f1, rfl, ⟨W, D, R', t1, t2, t3, t4, t5, u, vs, k, rfl, rfl, q3, q4⟩, f4⟩ := K.o.at hob
    obtain ⟨W', D', R2, e3, e4⟩ := hR
    rw [f1] at e3
    cases e3
    cases e4
    have K' : Ok φ rest ω1 mv1 st1.g (l1' ++ ([(W, instObj 200 D), (D, dictOf (esW φ.w R ix dp t1 t2 t3 t4 t5) u)] ++ (R, listOf vs.toArray k) :: []) :: l2') fl h1 := K
    have N0 := K'.N
    have d0 := K'.d
    rw [lay_at] at N0 d0
    refine setrow_at (s := ⟨h1, s.gens, s.drawn, _, s.os⟩) K.F N0 d0 hj.1 (by rw [q3.length]; exact hj.2) (by rw [q3.length]; exact q4) fun h3 F3 N3 => ?_
    exact ret .next .next (st1.setG j (.wd (rs.set ix.toNat d) ix dp)) ω1 mv1 h3 _ l1 (K'.chg F3 N3 (f4 _ _ ⟨W, D, R, t1, t2, t3, t4, t5, u, _, k, rfl, rfl, dat_set q3 hv _, by simpa using q4⟩)) V1 trivial hq) exc) (hs _)
end
section
variable {cs : Scope}
theorem aug_ok {n : Nat} {φ : Fm cs n} {rest : Led} {ω : Wo} {mv : Str → Option Value} {s : Shared} {E : Value → Shared → Prop} {st : St} {x : Str} {i j : Nat} {op : Operator} {c k : Int} {kk' : Nat} {p1 p2 p3 p4 : Pos} {rs : List Dat} {ix dp : Int} {Q : Flow → Shared → Prop} (hx : slotOf cs x = some (.local, i)) (H : OkE φ rest ω mv st.g s.heap) (V : EnvR φ ω st.m mv) (e1 : st.m[i]? = some (.g j)) (hob : st.g[j]? = some (.wd rs ix dp))
    (hop : ∀ (a : Int) t u (s : Shared) (Q : Value → Shared → Prop), (∀ t tk, Q (.int (a + k) t) { s with toks := tk }) → wpAny (Mo φ.w) φ.A (inplaceOp op (.int a t) (.int c u)) Q E s)
    (ret : ∀ h' tk', OkE φ rest ω mv (st.setG j (.wd rs (ix + k) dp)).g h' → Q .next { s with heap := h', toks := tk' }) : wpAny (Mo φ.w) φ.A (exec (.AugAssign (.Attribute (.Name x p1) (Str.ofString "at") p2) op (.Constant (.int c) kk' p3) p4) φ.env) Q E s := by
  obtain ⟨gl, fl, K⟩ := H
  obtain ⟨a, e2, ha⟩ := V x .local i hx _ e1 rfl
  refine wpAny_AugAssign_AttributeAny (nameX_L K.F e2 (get_at K ha hob fun t tk => wpAny_Constant_int (hop _ _ _ _ _ fun t8 tk2 => ?_)) φ.hk (slot_e hx).1 (slot_e hx).2)
  obtain ⟨as, cl, l1, l2, f1, rfl, ⟨W, D, R, t1, t2, t3, t4, t5, u, vs, k', rfl, rfl, q3, q4⟩, f4⟩ := K.o.at hob
  obtain ⟨W', r, e3, rfl⟩ := ha
  rw [f1] at e3
  cases e3
  have K' : Ok φ rest ω mv st.g (l1 ++ ([(W, instObj 200 D)] ++ (D, dictOf (esW φ.w R ix dp t1 t2 t3 t4 t5) u) :: [(R, listOf vs.toArray k')]) :: l2) fl s.heap := K
  have N0 := K'.N
  have d0 := K'.d
  rw [lay_at] at N0 d0
  have m1 : (W, instObj 200 D) ∈ (l1.flatten ++ [(W, instObj 200 D)]) ++ (D, dictOf (esW φ.w R ix dp t1 t2 t3 t4 t5) u) :: ([(R, listOf vs.toArray k')] ++ (l2.flatten ++ (ω.tl ++ (fl ++ rest)))) := by simp
  have m2 : (D, dictOf (esW φ.w R ix dp t1 t2 t3 t4 t5) u) ∈ (l1.flatten ++ [(W, instObj 200 D)]) ++ (D, dictOf (esW φ.w R ix dp t1 t2 t3 t4 t5) u) :: ([(R, listOf vs.toArray k')] ++ (l2.flatten ++ (ω.tl ++ (fl ++ rest)))) := by simp
  refine set_dict (s := ⟨s.heap, s.gens, s.drawn, _, s.os⟩) K.F φ.X N0 (InstAt.of_news N0 m1 m2) rfl (sw_at.hs _) (sw_at.hp _) (sw_at.ht _) (sw_at.hd _) rfl (put_at (v := .int (ix + k) t8)) (Dj.upd (dictOf (esW φ.w R (ix + k) dp t1 t2 t8 t4 t5) u) d0) (Nat.le_of_ble_eq_true rfl) fun h' F' N' => ?_
  exact ret h' _ (K'.chg F' N' (f4 _ _ ⟨W, D, R, t1, t2, t8, t4, t5, u, vs, k', rfl, rfl, q3, q4⟩))
theorem RS.augAt {x : Str} {i : Nat} {k : Int} {kk' : Nat} {p1 p2 p3 p4 : Pos} (hx : slotOf cs x = some (.local, i)) : SoundS cs (.AugAssign (.Attribute (.Name x p1) (Str.ofString "at") p2) .Add (.Constant (.int k) kk' p3) p4) (S.augAt (E.loc i) k) := fun n C hC st P X hP φ rest ω mv s Q E hE H V ret exc => by
  obtain ⟨o, e1, hq⟩ := onSome_e (show getM st.m i _ from hP)
  obtain ⟨hd, hq⟩ := onT_e hq
  obtain ⟨j, rfl, hh⟩ := asG_e hq; replace hq := hh; clear hh
  obtain ⟨ob, hob, hq⟩ := onSome_e hq
  obtain ⟨rs, ix, dp, rfl, hh⟩ := oWd_e hq; replace hq := hh; clear hh
  exact aug_ok hx H V e1 hob (fun a t u s Q h => PyProof.Rows.iadd_int (h _ _)) fun h' tk' H' => ret .next .next (st.setG j (.wd rs (ix + k) dp)) ω mv h' tk' .refl H' V trivial hq
theorem augD_ok {n : Nat} {φ : Fm cs n} {rest : Led} {ω : Wo} {mv : Str → Option Value} {s : Shared} {E : Value → Shared → Prop} {st : St} {x : Str} {i j : Nat} {op : Operator} {c k : Int} {kk' : Nat} {p1 p2 p3 p4 : Pos} {rs : List Dat} {ix dp : Int} {Q : Flow → Shared → Prop} (hx : slotOf cs x = some (.local, i)) (H : OkE φ rest ω mv st.g s.heap) (V : EnvR φ ω st.m mv) (e1 : st.m[i]? = some (.g j)) (hob : st.g[j]? = some (.wd rs ix dp))
    (hop : ∀ (a : Int) t u (s : Shared) (Q : Value → Shared → Prop), (∀ t tk, Q (.int (a + k) t) { s with toks := tk }) → wpAny (Mo φ.w) φ.A (inplaceOp op (.int a t) (.int c u)) Q E s)
    (ret : ∀ h' tk', OkE φ rest ω mv (st.setG j (.wd rs ix (dp + k))).g h' → Q .next { s with heap := h', toks := tk' }) : wpAny (Mo φ.w) φ.A (exec (.AugAssign (.Attribute (.Name x p1) (Str.ofString "deep") p2) op (.Constant (.int c) kk' p3) p4) φ.env) Q E s := by
  obtain ⟨gl, fl, K⟩ := H
  obtain ⟨a, e2, ha⟩ := V x .local i hx _ e1 rfl
  refine wpAny_AugAssign_AttributeAny (nameX_L K.F e2 (get_deep K ha hob fun t tk => wpAny_Constant_int (hop _ _ _ _ _ fun t8 tk2 => ?_)) φ.hk (slot_e hx).1 (slot_e hx).2)
  obtain ⟨as, cl, l1, l2, f1, rfl, ⟨W, D, R, t1, t2, t3, t4, t5, u, vs, k', rfl, rfl, q3, q4⟩, f4⟩ := K.o.at hob
  obtain ⟨W', r, e3, rfl⟩ := ha
  rw [f1] at e3
  cases e3
  have K' : Ok φ rest ω mv st.g (l1 ++ ([(W, instObj 200 D)] ++ (D, dictOf (esW φ.w R ix dp t1 t2 t3 t4 t5) u) :: [(R, listOf vs.toArray k')]) :: l2) fl s.heap := K
  have N0 := K'.N
  have d0 := K'.d
  rw [lay_at] at N0 d0
  have m1 : (W, instObj 200 D) ∈ (l1.flatten ++ [(W, instObj 200 D)]) ++ (D, dictOf (esW φ.w R ix dp t1 t2 t3 t4 t5) u) :: ([(R, listOf vs.toArray k')] ++ (l2.flatten ++ (ω.tl ++ (fl ++ rest)))) := by simp
  have m2 : (D, dictOf (esW φ.w R ix dp t1 t2 t3 t4 t5) u) ∈ (l1.flatten ++ [(W, instObj 200 D)]) ++ (D, dictOf (esW φ.w R ix dp t1 t2 t3 t4 t5) u) :: ([(R, listOf vs.toArray k')] ++ (l2.flatten ++ (ω.tl ++ (fl ++ rest)))) := by simp
  refine set_dict (s := ⟨s.heap, s.gens, s.drawn, _, s.os⟩) K.F φ.X N0 (InstAt.of_news N0 m1 m2) rfl (sw_deep.hs _) (sw_deep.hp _) (sw_deep.ht _) (sw_deep.hd _) rfl (put_deep (v := .int (dp + k) t8)) (Dj.upd (dictOf (esW φ.w R ix (dp + k) t1 t2 t3 t4 t8) u) d0) (Nat.le_of_ble_eq_true rfl) fun h' F' N' => ?_
  exact ret h' _ (K'.chg F' N' (f4 _ _ ⟨W, D, R, t1, t2, t3, t4, t8, u, vs, k', rfl, rfl, q3, q4⟩))
theorem RS.augDeep {x : Str} {i : Nat} {k : Int} {kk' : Nat} {p1 p2 p3 p4 : Pos} (hx : slotOf cs x = some (.local, i)) : SoundS cs (.AugAssign (.Attribute (.Name x p1) (Str.ofString "deep") p2) .Add (.Constant (.int k) kk' p3) p4) (S.augDeep (E.loc i) k) := fun n C hC st P X hP φ rest ω mv s Q E hE H V ret exc => by
  obtain ⟨o, e1, hq⟩ := onSome_e (show getM st.m i _ from hP)
  obtain ⟨hd, hq⟩ := onT_e hq
  obtain ⟨j, rfl, hh⟩ := asG_e hq; replace hq := hh; clear hh
  obtain ⟨ob, hob, hq⟩ := onSome_e hq
  obtain ⟨rs, ix, dp, rfl, hh⟩ := oWd_e hq; replace hq := hh; clear hh
  exact augD_ok hx H V e1 hob (fun a t u s Q h => PyProof.Rows.iadd_int (h _ _)) fun h' tk' H' => ret .next .next (st.setG j (.wd rs ix (dp + k))) ω mv h' tk' .refl H' V trivial hq
theorem RS.augDeepS {x : Str} {i : Nat} {k : Int} {kk' : Nat} {p1 p2 p3 p4 : Pos} (hx : slotOf cs x = some (.local, i)) : SoundS cs (.AugAssign (.Attribute (.Name x p1) (Str.ofString "deep") p2) .Sub (.Constant (.int k) kk' p3) p4) (S.augDeep (E.loc i) (-k)) := fun n C hC st P X hP φ rest ω mv s Q E hE H V ret exc => by
  obtain ⟨o, e1, hq⟩ := onSome_e (show getM st.m i _ from hP)
  obtain ⟨hd, hq⟩ := onT_e hq
  obtain ⟨j, rfl, hh⟩ := asG_e hq; replace hq := hh; clear hh
  obtain ⟨ob, hob, hq⟩ := onSome_e hq
  obtain ⟨rs, ix, dp, rfl, hh⟩ := oWd_e hq; replace hq := hh; clear hh
  exact augD_ok hx H V e1 hob (fun a t u s Q h => PyProof.Rows.isub_int (by rw [Int.sub_eq_add_neg]; exact h _ _)) fun h' tk' H' => ret .next .next (st.setG j (.wd rs ix (dp + -k))) ω mv h' tk' .refl H' V trivial hq
noncomputable abbrev MCall (o : PySem.Expr) (f : Str) (ap pos : Pos) (es : List PySem.Expr) : Prop := ∃ pl : Env → Sem Bool, ∀ env, eval (.Call (.Attribute o f ap) es [] pos) env = (do
      let ov ← eval o env
      standAt ap.atName
      let (f, first) ← holding [ov] (getMethod ov f (pl env))
      callWith pos f first (backTo pos (starEach es env)) [])
theorem RS.app {x : Str} {e : PySem.Expr} {i : Nat} {te : ETr} {p1 p2 p4 p5 : Pos} (hx : slotOf cs x = some (.local, i)) (he : SoundE cs e te) (h1 : ∀ env, starEach [e] env = (false, eval e env) :: starEach [] env) (hm : MCall (.Name x p1) (Str.ofString "append") p2 p4 [e]) (hs : ∀ env, swapsWith (.Call (.Attribute (.Name x p1) (Str.ofString "append") p2) [e] [] p4) none p5.line env = pure false) :
    SoundS cs (.Expr (.Call (.Attribute (.Name x p1) (Str.ofString "append") p2) [e] [] p4) p5) (S.app (E.loc i) te) := fun n C hC st P X hP φ rest ω mv s Q E hE H V ret exc => by
  obtain ⟨o, e1, hq⟩ := onSome_e (show getM st.m i _ from hP)
  obtain ⟨hd, hq⟩ := onT_e hq
  obtain ⟨j, rfl, hh⟩ := asG_e hq; replace hq := hh; clear hh
  obtain ⟨ob, hob, hq⟩ := onSome_e hq
  obtain ⟨ds, rfl, hh⟩ := oLst_e hq; replace hq := hh; clear hh
  obtain ⟨gl, fl, K⟩ := id H
  obtain ⟨a, e2, ha⟩ := V x .local i hx _ e1 rfl
  obtain ⟨D, vs, k, rfl, m1, d1, hl⟩ := K.lst ha hob
  obtain ⟨pl, hm⟩ := hm
  refine wpAny_Expr_any (MethodCall_ (nameX_L K.F e2 (listMethod_K K.N m1 PySem.F.slot_list_append PySem.F.type_list_append ?_) φ.hk (slot_e hx).1 (slot_e hx).2) (hm _)) (by
    show interactive φ.env = false
    unfold interactive
    simp [φ.hk]) (hs _)
  refine callWith_method1 (args_cons (he n C hC st _ X hq φ rest ω mv s _ E hE H V (fun v y st1 ω1 mv1 h1 tk1 l1 H1 V1 hv hp => args_nil ?_) exc) (h1 _)) (h1 _)
  obtain ⟨d, rfl, hh⟩ := asD_e hp; replace hp := hh; clear hh
  obtain ⟨ob, hob, hp⟩ := onSome_e hp
  obtain ⟨ds, rfl, hh⟩ := oLst_e hp; replace hp := hh; clear hh
  obtain ⟨h99, hp⟩ := onT_e hp
  have h99 := Nat.le_of_ble_eq_true h99
  obtain ⟨gl, fl, K⟩ := H1
  obtain ⟨as, cl, l1', l2', f1, rfl, ⟨l, vs, u, rfl, rfl, q3, q4⟩, f4⟩ := K.o.at hob
  obtain ⟨b, r', e3, e4⟩ := VR.mono l1 ha
  cases e4
  rw [f1] at e3
  cases e3
  have K' : Ok φ rest ω1 mv1 st1.g (l1' ++ ([] ++ (D, listOf vs.toArray u) :: []) :: l2') fl h1 := K
  have N0 := K'.N
  have d0 := K'.d
  rw [lay_at] at N0 d0
  refine my_append (s := { s with heap := h1, toks := tk1 }) K.F N0 (Dj.upd (listOf (vs ++ [y]).toArray (u + 1)) d0) (by rw [q3.length]; omega) fun h2 F2 N2 => ?_
  exact ret .next .next (st1.setG j (.lst (ds ++ [d]))) ω1 mv1 h2 tk1 l1 (K'.chg F2 N2 (f4 _ _ ⟨D, vs ++ [y], _, rfl, rfl, q3.append (.cons hv .nil), by simp; omega⟩)) V1 trivial hp
end
theorem fillJ (h₀ : Heap) (w : World) (h : RowW.prog (OpenRow.toRowW PySem.Challenge.rw_xw0160_01.row) = RowW.prog (OpenRow.toRowW PySem.Challenge.rw_xw0160_01.row)) : (kk.heap_1 w.params).In h₀ → True := by
  revert h
  k_fill
  exact fun _ _ => trivial
theorem vr_fn {w : World} {ω : Wo} {F : PV} {v : Value} (h : isFn F = true) (k : VR w ω F v) (ga : List (List Addr)) : VR w ⟨ga, ω.tl⟩ F v := by
  cases F with
  | fn a => exact k
  | lam j x => exact k
  | _ => cases h
section
variable {cs : Scope}
theorem RS.appBk {x : Str} {es : List PySem.Expr} {i : Nat} {ts : EsTr} {p1 p2 p3 p4 p5 : Pos} (hx : slotOf cs x = some (.local, i)) (he : SoundEs cs es ts) (h1 : ∀ env, starEach [.List es p3] env = (false, eval (.List es p3) env) :: starEach [] env) (hm : MCall (.Name x p1) (Str.ofString "append") p2 p4 [.List es p3]) (hs : ∀ env, swapsWith (.Call (.Attribute (.Name x p1) (Str.ofString "append") p2) [.List es p3] [] p4) none p5.line env = pure false) :
    SoundS cs (.Expr (.Call (.Attribute (.Name x p1) (Str.ofString "append") p2) [.List es p3] [] p4) p5) (S.appBk (E.loc i) ts) := fun n C hC st P X hP φ rest ω mv s Q E hE H V ret exc => by
  obtain ⟨o, e1, hq⟩ := onSome_e (show getM st.m i _ from hP)
  obtain ⟨hd, hq⟩ := onT_e hq
  obtain ⟨j, rfl, hh⟩ := asG_e hq; replace hq := hh; clear hh
  obtain ⟨ob, hob, hq⟩ := onSome_e hq
  obtain ⟨rs, rfl, hh⟩ := oBk_e hq; replace hq := hh; clear hh
  obtain ⟨gl, fl, K⟩ := id H
  obtain ⟨a, e2, ha⟩ := V x .local i hx _ e1 rfl
  obtain ⟨D, rl, k, rfl, m1, -, d1, hl⟩ := K.bk ha hob
  obtain ⟨pl, hm⟩ := hm
  refine wpAny_Expr_any (MethodCall_ (nameX_L K.F e2 (listMethod_K K.N m1 PySem.F.slot_list_append PySem.F.type_list_append ?_) φ.hk (slot_e hx).1 (slot_e hx).2) (hm _)) (by
    show interactive φ.env = false
    unfold interactive
    simp [φ.hk]) (hs _)
  refine callWith_method1 (args_cons (List_ (he.so n C hC st _ X p3 hq φ rest ω mv s _ E hE H V (fun ps us st1 ω1 mv1 h1 tk1 l1 H1 V1 hv hp => ?_) exc)) (h1 _)) (h1 _)
  obtain ⟨ds, rfl, hd, hp⟩ := allD_e hv hp
  obtain ⟨ob, hob, hp⟩ := onSome_e hp
  obtain ⟨rs, rfl, hh⟩ := oBk_e hp; replace hp := hh; clear hh
  obtain ⟨h9, hp⟩ := onT_e hp
  simp only [Bool.and_eq_true] at h9
  have h99 := Nat.le_of_ble_eq_true h9.1
  have h9 := Nat.le_of_ble_eq_true h9.2
  obtain ⟨gl, fl, K⟩ := H1
  obtain ⟨as, cl, l1', l2', f1, rfl, ⟨l, rl, u, rfl, rfl, q3, q4⟩, f4⟩ := K.o.at hob
  obtain ⟨b, r', e3, e4⟩ := VR.mono l1 ha
  cases e4
  rw [f1] at e3
  cases e3
  have K' : Ok φ rest ω1 mv1 st1.g (l1' ++ ([] ++ (D, listOf (refs rl).toArray u) :: rl) :: l2') fl h1 := K
  have N0 := K'.N
  have d0 := K'.d
  rw [lay_at] at N0 d0
  refine newList_K (s := { s with heap := h1, toks := tk1 }) K.F N0 (fun q h2 F2 N2 lt => args_nil ?_) (by rw [hd.length, sizeLine_eq]; omega)
  have dq : Dj ((q, listOf us.toArray 0) :: ((l1'.flatten ++ []) ++ (D, listOf (refs rl).toArray u) :: (rl ++ (l2'.flatten ++ (ω1.tl ++ (fl ++ rest)))))) := Dj.cons (fun p hp => Nat.ne_of_lt (lt p hp)) d0
  have hu : Upd D (listOf (refs rl).toArray u) (listOf (refs rl ++ [Value.ref q]).toArray (u + 1)) ((q, listOf us.toArray 0) :: ((l1'.flatten ++ []) ++ (D, listOf (refs rl).toArray u) :: (rl ++ (l2'.flatten ++ (ω1.tl ++ (fl ++ rest)))))) ((q, listOf us.toArray 0) :: ((l1'.flatten ++ []) ++ (D, listOf (refs rl ++ [Value.ref q]).toArray (u + 1)) :: (rl ++ (l2'.flatten ++ (ω1.tl ++ (fl ++ rest)))))) :=
    .tail (fun e => Nat.lt_irrefl _ (lt (D, listOf (refs rl).toArray u) (by simp) |> fun h => e ▸ h)) (Dj.upd _ d0)
  have hrl := rows_len q3
  refine my_append (s := { s with heap := h2, toks := tk1 }) F2 N2 hu (by simp [refs]; simp at hrl; omega) fun h3 F3 N3 => ?_
  have eqL : lay (l1' ++ (((D, listOf (refs (rl ++ [(q, listOf us.toArray 0)])).toArray (u + 1)) :: rl) ++ (q, listOf us.toArray 0) :: []) :: l2') ω1 (fl ++ rest) = (l1'.flatten ++ ((D, listOf (refs rl ++ [Value.ref q]).toArray (u + 1)) :: rl)) ++ (q, listOf us.toArray 0) :: ([] ++ (l2'.flatten ++ (ω1.tl ++ (fl ++ rest)))) := by rw [lay_at, refs_snoc]
  have pm : ((q, listOf us.toArray 0) :: ((l1'.flatten ++ []) ++ (D, listOf (refs rl ++ [Value.ref q]).toArray (u + 1)) :: (rl ++ (l2'.flatten ++ (ω1.tl ++ (fl ++ rest)))))).Perm (lay (l1' ++ (((D, listOf (refs (rl ++ [(q, listOf us.toArray 0)])).toArray (u + 1)) :: rl) ++ (q, listOf us.toArray 0) :: []) :: l2') ω1 (fl ++ rest)) := by
    rw [eqL]
    refine List.Perm.trans ?_ List.perm_middle.symm
    simp
  have dq2 : Dj ((q, listOf us.toArray 0) :: ((l1'.flatten ++ []) ++ (D, listOf (refs rl ++ [Value.ref q]).toArray (u + 1)) :: (rl ++ (l2'.flatten ++ (ω1.tl ++ (fl ++ rest)))))) := dq.as (by simp)
  refine ret .next .next (st1.setG j (.bk (ds :: rs))) ω1 mv1 h3 tk1 l1 ⟨_, fl, F3, News.sub N3 fun p hp => pm.mem_iff.mpr hp, K.f, f4 _ _ ⟨D, rl ++ [(q, listOf us.toArray 0)], u + 1, rfl, rfl, ?_, by simp; omega⟩, dq2.perm pm⟩ V1 trivial hp
  rw [List.reverse_cons]
  exact rows_snoc q3 hd h9
structure MW (f : Str) (g : Addr) : Prop where
  hg : ∀ p, plainGet (kk.heap_1 p) 200 f = true
  hc : ∀ p, findIn (kk.heap_1 p) (.ref 200) f = some (some (.ref g))
  ht : ∀ p, PySem.W.isFn (kk.heap_1 p) (.ref g) = true
  hf : ∀ p, keepIn (kk.heap_1 p) (.ref g) = true
  hl : ∀ w R i d t1 t2 t3 t4 t5, getL f (esW w R i d t1 t2 t3 t4 t5) = some none
theorem R.meth {x f : Str} {i : Nat} {a : Addr} {p q r : Pos} {e : PySem.Expr} {es : List PySem.Expr} {ts : EsTr} (hx : slotOf cs x = some (.local, i)) (M : MW f a) (hs : SoundEs cs (e :: es) ts) (h2 : PlainEs es) (hm : MCall (.Name x p) f q r (e :: es)) : SoundE cs (.Call (.Attribute (.Name x p) f q) (e :: es) [] r) (E.meth i a ts) := fun n C hC st P X hP φ rest ω mv s Q E hE H V ret exc => by
  obtain ⟨o, e1, hq⟩ := onSome_e (show getM st.m i _ from hP)
  obtain ⟨hd, hq⟩ := onT_e hq
  obtain ⟨j, rfl, hh⟩ := asG_e hq; replace hq := hh; clear hh
  obtain ⟨ob, hob, hq⟩ := onSome_e hq
  obtain ⟨rs, ix, dp, rfl, hh⟩ := oWd_e hq; replace hq := hh; clear hh
  obtain ⟨gl, fl, K⟩ := id H
  obtain ⟨v, e2, ha⟩ := V x .local i hx _ e1 rfl
  obtain ⟨W, D, R, t1, t2, t3, t4, t5, u, vs, k, rfl, e3, m1, m2, m3, d1, hl⟩ := K.wd ha hob
  obtain ⟨pl, hm⟩ := hm
  refine MethodCall_ (nameX_L K.F e2 (method_inst K.F φ.X (InstAt.of_news K.N m1 m2) (M.hg _) (M.hc _) (M.ht _) (M.hl _ _ _ _ _ _ _ _ _) ?_) φ.hk (slot_e hx).1 (slot_e hx).2) (hm _)
  refine callWith_K φ.X (M.hf _) (hs.so n C hC st _ X r hq φ rest ω mv s _ E hE H V (fun as bs st' ω' mv' h' tk' hle H' V' hab hp => ⟨?_, ?_⟩) exc) (plain_tail hs.pl h2 _) (plain_any h2 _ _)
  · obtain ⟨gl', fl', K'⟩ := H'
    exact φ.X.keeps K'.F.keep
  · exact callH_ok hC hp (s := { s with heap := h', toks := tk' }) H' (fun _ => rfl) (.cons (ha.mono hle) hab) (fun a b g' ω2 h2 tk2 hle2 H2 hv hP => ret a b ⟨st'.m, g'⟩ ω2 mv' h2 tk2 (hle.trans hle2) H2 (V'.mono hle2) hv hP) fun e sp g' ω2 h2 tk2 hle2 hX => exc e sp g' ω2 h2 tk2 (hle.trans hle2) (.inr hX)
theorem R.meth0 {x f : Str} {i : Nat} {a : Addr} {p q r : Pos} (hx : slotOf cs x = some (.local, i)) (M : MW f a) (hm : MCall (.Name x p) f q r []) : SoundE cs (.Call (.Attribute (.Name x p) f q) [] [] r) (E.meth i a Es.nil) := fun n C hC st P X hP φ rest ω mv s Q E hE H V ret exc => by
  obtain ⟨o, e1, hq⟩ := onSome_e (show getM st.m i _ from hP)
  obtain ⟨hd, hq⟩ := onT_e hq
  obtain ⟨j, rfl, hh⟩ := asG_e hq; replace hq := hh; clear hh
  obtain ⟨ob, hob, hq⟩ := onSome_e hq
  obtain ⟨rs, ix, dp, rfl, hh⟩ := oWd_e hq; replace hq := hh; clear hh
  obtain ⟨gl, fl, K⟩ := id H
  obtain ⟨v, e2, ha⟩ := V x .local i hx _ e1 rfl
  obtain ⟨W, D, R, t1, t2, t3, t4, t5, u, vs, k, rfl, e3, m1, m2, m3, d1, hl⟩ := K.wd ha hob
  obtain ⟨pl, hm⟩ := hm
  refine MethodCall_ (nameX_L K.F e2 (method_inst K.F φ.X (InstAt.of_news K.N m1 m2) (M.hg _) (M.hc _) (M.ht _) (M.hl _ _ _ _ _ _ _ _ _) ?_) φ.hk (slot_e hx).1 (slot_e hx).2) (hm _)
  refine callWith_K0 (φ.X.keeps K.F.keep) (M.hf _) ?_
  exact callH_ok hC (show callH C [] (.fn a) [.g j] st P X from hq) H (fun _ => rfl) (.cons ha .nil) (fun a b g' ω2 h2 tk2 hle2 H2 hv hP => ret a b ⟨st.m, g'⟩ ω2 mv h2 tk2 hle2 H2 (V.mono hle2) hv hP) fun e sp g' ω2 h2 tk2 hle2 hX => exc e sp g' ω2 h2 tk2 hle2 (.inr hX)
theorem keep_fn (p : Params) {a : Addr} (h : fnB a = true) : keepIn (kk.heap_1 p) (.ref a) = true := by
  simp only [fnB, List.any_cons, List.any_nil, Bool.or_eq_true, Bool.or_false] at h
  rcases h with h | h | h | h | h | h | h | h | h | h | h <;> (obtain rfl := Nat.eq_of_beq_eq_true h; clear h; k_is)
theorem R.isalpha {e : PySem.Expr} {t : ETr} {q r : Pos} (hs : SoundE cs e t) (hm : MCall e (Str.ofString "isalpha") q r []) : SoundE cs (.Call (.Attribute e (Str.ofString "isalpha") q) [] [] r) (E.isalpha t) := fun n C hC st P X hP φ rest ω mv s Q E hE H V ret exc => by
  obtain ⟨pl, hm⟩ := hm
  refine MethodCall_ (hs n C hC st _ X hP φ rest ω mv s _ E hE H V (fun x a st1 ω1 mv1 h1 tk1 l1 H1 V1 hx hq => ?_) exc) (hm _)
  obtain ⟨x, rfl, hh⟩ := asStr_e hq; replace hq := hh; clear hh
  obtain ⟨t, rfl⟩ := hx.str
  exact PySem.GM.isalpha (callWith_method0 (KXw.isalpha rfl (ret (.d (.bool (Txt.isalpha x))) _ st1 ω1 mv1 h1 _ l1 H1 V1 (DatIn.bool _) hq)))
end
/-! comprehensions -/
theorem off1_all {D : Addr} : ∀ {n : Led}, LCg.Off1 D n → ∀ p ∈ n, p.1 ≠ D
  | [], _, _, hp => nomatch hp
  | q :: r, h, p, hp => by
    rcases List.mem_cons.mp hp with rfl | hp
    · exact h.1
    · exact off1_all h.2 p hp
theorem off3_all {I C D : Addr} : ∀ {n : Led}, LCg.Off3 I C D n → ∀ p ∈ n, p.1 ≠ I ∧ p.1 ≠ C ∧ p.1 ≠ D
  | [], _, _, hp => nomatch hp
  | q :: r, h, p, hp => by
    rcases List.mem_cons.mp hp with rfl | hp
    · exact h.1
    · exact off3_all h.2 p hp
theorem off3_of {I C D : Addr} : ∀ {n : Led}, (∀ p ∈ n, p.1 ≠ I ∧ p.1 ≠ C ∧ p.1 ≠ D) → LCg.Off3 I C D n
  | [], _ => trivial
  | q :: r, h => ⟨h q (.head _), off3_of fun p hp => h p (.tail _ hp)⟩
section
variable {cs : Scope} {n : Nat} {φ : Fm cs n} {rest : Led} {ω : Wo} {mv : Str → Option Value} {g : List PObj} {gl : List Led} {fl : Led} {h h' : Heap}
theorem Ok.keepN {D : Addr} {o : Obj} {v : Value} {d : Dat} (K : Ok φ rest ω mv g gl fl h) (F : Fr φ.H φ.L h' mv) (N : News φ.H φ.L h' ((D, o) :: lay gl ω (fl ++ rest))) (off : ∀ p ∈ lay gl ω (fl ++ rest), p.1 ≠ D)
    (hd : ∀ tl', (D, o) ∈ tl' → (∀ p ∈ ω.tl, p ∈ tl') → DatIn tl' v d) : ω.Le ⟨ω.ga, (D, o) :: ω.tl⟩ ∧ OkE φ rest ⟨ω.ga, (D, o) :: ω.tl⟩ mv g h' ∧ DatIn ((D, o) :: ω.tl) v d := by
  have pm := perm_mid gl.flatten ω.tl (fl ++ rest) (D, o)
  refine ⟨⟨⟨[], by simp⟩, fun p hp => .tail _ hp⟩, ⟨gl, fl, F, News.sub N fun p hp => pm.mem_iff.mpr hp, K.f, K.o.mono fun p hp => .tail _ hp, ?_⟩, hd _ (.head _) fun p hp => .tail _ hp⟩
  exact (Dj.cons off K.d).perm pm
end
structure CompSc (scope : Scope) (y : Str) : Prop where
  hc : ∀ env, closureFor scope env = pure []
  hcell : ∀ z ∈ scope.names, z.2 ≠ .cell
  hk : scope.kind = .function
  hn : ∀ z ∈ scope.names, z.2 = .local → scope.names.lookup z.1 = some .local
  hy : scope.names.lookup y = some .local
  hl : ∀ env C, (compEnvC scope [] C env).kindOf y = some .local
  hf : ∀ env C, (compEnvC scope [] C env).scope.kind = .function
  hd : (y == Str.ofString "__debug__") = false
theorem heads_e : ∀ {ds : List Dat} {k : List Dat → Prop}, E.heads ds k → ∃ xs : List Dat, xs.length = ds.length ∧ (∀ (i : Nat) (d : Dat), ds[i]? = some d → ∃ ts x, d = Dat.tuple ts ∧ List.head? ts = some x ∧ xs[i]? = some x) ∧ k xs
  | [], k, h => ⟨[], rfl, fun i d e => by simp at e, h⟩
  | r :: rs, k, h => by
    obtain ⟨ts, rfl, hh⟩ := dTup_e (show dTup r _ from h); replace h := hh; clear hh
    obtain ⟨x, hx, h⟩ := onSome_e h
    obtain ⟨xs, h1, h2, h3⟩ := heads_e h
    refine ⟨x :: xs, by simp [h1], fun i d e => ?_, h3⟩
    cases i with
    | zero => simp at e; subst e; exact ⟨ts, x, rfl, hx, rfl⟩
    | succ i => exact h2 i d (by simpa using e)
section
variable {cs : Scope}
noncomputable def SoundM (cs : Scope) (e : PySem.Expr) (t : ETr) : Prop := ∀ n C, COk n C → ∀ st P X, t C st P X → ∀ (φ : Fm cs n) (rest : Led) (ω : Wo) (mv : Str → Option Value) (s : Shared) (Q : Value → Shared → Prop) (E : Value → Shared → Prop), OkE φ rest ω mv st.g s.heap → EnvR φ ω st.m mv →
    (∀ a b st' ω' h' tk', ω.Le ω' → OkE φ rest ω' mv st'.g h' → EnvR φ ω' st'.m mv → VR φ.w ω' a b → P a st' → Q b { s with heap := h', toks := tk' }) → wpAny (Mo φ.w) φ.A (eval e φ.env) Q E s
theorem M.name {x : Str} {p : Pos} {i : Nat} (hx : slotOf cs x = some (.local, i)) : SoundM cs (.Name x p) (E.loc i) := fun n C hC st P X h φ rest ω mv s Q E H V ret => by
  obtain ⟨v, e1, h⟩ := onSome_e h
  obtain ⟨hd, h⟩ := onT_e h
  obtain ⟨a, e2, hv⟩ := V x .local i hx v e1 hd
  obtain ⟨gl, fl, K⟩ := id H
  exact nameX_L K.F e2 (ret v a st ω _ _ .refl H V hv h) φ.hk (slot_e hx).1 (slot_e hx).2
noncomputable def strsOf : List PySem.Expr → Option (List Str)
  | [] => some []
  | .Constant (.str x) _ _ :: r => match strsOf r with
    | some xs => some (x :: xs)
    | none => none
  | _ => none
theorem strs_args {w : World} {A : Around} {env : Env} {E : Value → Shared → Prop} {tl : Led} {p : Pos} : ∀ {es : List PySem.Expr} {xs : List Str} {s : Shared} {Q : List Value → Shared → Prop}, strsOf es = some xs → (∀ vs tk, DatAll tl vs (xs.map .str) → Q vs { s with toks := tk }) → wpAny (Mo w) A (spliced (backTo p (starEach es env))) Q E s
  | [], xs, s, Q, h, ret => by cases h; exact args_nil (ret [] _ .nil)
  | e :: r, xs, s, Q, h, ret => by
    unfold strsOf at h
    split at h
    · rename_i q
      cases q
    · rename_i x k p' r' he
      cases he
      split at h
      · rename_i xs' hr
        cases h
        exact args_cons (Constant_str (strs_args hr fun vs tk hd => ret (.str x _ :: vs) tk (.cons (.str x _) hd))) rfl
      · cases h
    · cases h
theorem M.strs {es : List PySem.Expr} {xs : List Str} {p : Pos} (hx : strsOf es = some xs) (hl : Nat.ble xs.length 100 = true) : SoundM cs (.List es p) (E.dat (.list (xs.map .str))) := fun n C hC st P X h φ rest ω mv s Q E H V ret =>
  List_ (strs_args (tl := ω.tl) hx fun vs tk hd => by
    obtain ⟨gl, fl, K⟩ := H
    refine newList_K (s := ⟨s.heap, s.gens, s.drawn, tk, s.os⟩) K.F K.N (fun D h2 F2 N2 lt => ?_) (by rw [hd.length, sizeLine_eq, List.length_map]; have := Nat.le_of_ble_eq_true hl; omega)
    obtain ⟨hle2, H2, hD⟩ := Ok.keep (v := .ref D) (d := .list (xs.map .str)) K F2 N2 lt fun tl' m k => .list m (DatAll.mono k hd)
    exact ret (.d (.list (xs.map .str))) _ st _ h2 _ hle2 H2 (V.mono hle2) hD h)
theorem seqK_e {n : Nat} {φ : Fm cs n} {rest : Led} {ω : Wo} {mv : Str → Option Value} {st : St} {gl : List Led} {fl : Led} {h : Heap} {v : PV} {b : Value} {k : List Dat → Prop} (K : Ok φ rest ω mv st.g gl fl h) (hv : VR φ.w ω v b) (hk : seqK st v k) : ∃ l vs c ds, b = .ref l ∧ (l, listOf vs.toArray c) ∈ lay gl ω (fl ++ rest) ∧ DatAll ω.tl vs ds ∧ k ds := by
  cases v with
  | d x =>
    cases x with
    | list ds =>
      obtain ⟨l, vs, c, rfl, m1, d1⟩ := hv.lst
      exact ⟨l, vs, c, ds, rfl, K.inTl m1, d1, hk⟩
    | _ => exact hk.elim
  | g i =>
    obtain ⟨o, ho, hk⟩ := onSome_e hk
    obtain ⟨ds, rfl, hh⟩ := oLst_e hk; replace hk := hh; clear hh
    obtain ⟨l, vs, c, rfl, m1, d1, -⟩ := K.lst hv ho
    exact ⟨l, vs, c, ds, rfl, m1, d1, hk⟩
  | undef => exact hk.elim
  | fn _ => exact hk.elim
  | lam _ _ => exact hk.elim
  | rows _ => exact hk.elim
  | tabl _ => exact hk.elim
theorem R.comp0 {e : PySem.Expr} {t : ETr} {y : Str} {k : Nat} {scope : Scope} {p1 p2 p3 p4 p5 : Pos} (hs : SoundM cs e t) (hC : CompSc scope y) (hf : ∀ env x, foldedSetIterable e env x = pure x) (hi : PlainIx (.Name y p1) (.Constant (.int 0) k p2)) : SoundE cs (.ListComp (.Subscript (.Name y p1) (.Constant (.int 0) k p2) p3) [⟨.Name y p4, e, [], 0⟩] scope p5) (E.comp0 t) := fun n C hCt st P X hP φ rest ω mv s Q E hE H V ret exc => by
  obtain ⟨gl0, fl0, K0⟩ := id H
  refine LCg.ListComp_U K0.F (hC.hc _) hC.hcell hC.hk hC.hn hC.hy (hs n C hCt st _ X hP φ rest ω mv s _ E H V fun v b st1 ω1 h1 tk1 l1 H1 V1 hv hp => ?_) (hf _)
  obtain ⟨gl, fl, K⟩ := H1
  obtain ⟨l, vs, c, ds, rfl, m1, d1, hp⟩ := seqK_e K hv hp
  obtain ⟨xs, x1, x2, hp⟩ := heads_e hp
  obtain ⟨hlen, hp⟩ := onT_e hp
  have hlen := Nat.le_of_ble_eq_true hlen
  have hvl := d1.length
  refine LCg.CompSrc.ledger rfl K.F K.N m1 (by rw [List.size_toArray, sizeLine_eq]; omega) fun g' => comp_ind (fun i ys nw => nw = lay gl ω1 (fl ++ rest) ∧ DatAll ω1.tl ys (xs.take i)) ⟨rfl, .nil⟩ ?_ ?_
  · rintro i ys nw hi' ⟨rfl, dy⟩ v K1 oK C1 oC D m₂ h tk E' hv' hNs hm F2 N2 off ne
    rw [List.size_toArray] at hi'
    have hv2 : vs[i]? = some v := by simpa using hv'
    obtain ⟨d, hd⟩ : ∃ d, ds[i]? = some d := ⟨_, List.getElem?_eq_getElem (by omega)⟩
    obtain ⟨v', e1, e2⟩ := datAt d1 hd
    rw [hv2] at e1
    cases e1
    obtain ⟨ts, x, rfl, hx1, hx2⟩ := x2 i d hd
    obtain ⟨lt, us, c2, rfl, m3, d3⟩ := VR.tup (φ := φ) (ω := ω1) e2
    obtain ⟨u0, hu0, hu1⟩ : ∃ u, us[0]? = some u ∧ DatIn ω1.tl u x := by
      cases ts with
      | nil => cases hx1
      | cons t0 ts =>
        cases hx1
        cases d3 with
        | cons q1 q2 => exact ⟨_, rfl, q1⟩
    have m4 := N2 _ (.tail _ (.tail _ (.tail _ (K.inTl m3))))
    refine Subscript_ (LCgL.ld_own (news := (K1, oK) :: (C1, oC) :: (D, LCg.lst ys) :: lay gl ω1 (fl ++ rest)) N2 (.tail _ (.head _)) hNs hm (wpAny_Constant_int (item_tupleT ⟨_, m4.1, rfl, _, rfl⟩ (by decide) (by decide) (j := 0) ?_ hu0 ?_ (hi.1 _ _))) (hC.hf _ _) (hC.hl _ _) hC.hd)
    · have : 0 < us.length := by
        cases us with
        | nil => cases hu0
        | cons _ _ => simp
      exact seqIndex_pos (Int.le_refl 0) this
    · refine LCg.CompEnd.intro F2 N2 _ (fun _ hp => hp) off (.inr ⟨_, m1, rfl, _, rfl⟩) ⟨rfl, ?_⟩
      have e3 : xs.take (i + 1) = xs.take i ++ [x] := by rw [List.take_add_one, hx2]; rfl
      rw [e3]
      exact dy.append (.cons hu1 .nil)
  · rintro ys nw ⟨rfl, dy⟩
    unfold LCg.FinE
    intro D h2 tk2 F2 N2 off
    rw [List.size_toArray, List.take_of_length_le (by omega)] at dy
    obtain ⟨hle2, H2, hD⟩ := Ok.keepN (v := .ref D) (d := .list xs) K F2 N2 (off1_all off) fun tl' m k => .list m (DatAll.mono k dy)
    exact ret (.d (.list xs)) _ st1 _ mv h2 tk2 (l1.trans hle2) H2 (V1.mono hle2) hD hp
end
section
variable {cs : Scope} {n : Nat} {φ : Fm cs n} {rest : Led} {ω : Wo} {mv : Str → Option Value} {g : List PObj} {gl : List Led} {fl : Led} {h h' : Heap}
theorem hide_perm {tl fl xs G rest : Led} : (tl ++ (fl ++ (xs ++ (G ++ rest)))).Perm (xs ++ (G ++ (tl ++ (fl ++ rest)))) := (perm4 tl fl xs (G ++ rest)).trans ((perm4 tl fl G rest).append_left xs)
theorem Ok.hide (K : Ok φ rest ω mv g gl fl h) {xs : Led} (N : News φ.H φ.L h xs) (d : Dj (xs ++ lay gl ω (fl ++ rest))) : Ok φ (xs ++ (gl.flatten ++ rest)) ⟨[], ω.tl⟩ mv [] [] fl h :=
  ⟨K.F, fun p hp => by
    have hp' := hide_perm.mem_iff.mp (show p ∈ ω.tl ++ (fl ++ (xs ++ (gl.flatten ++ rest))) from hp)
    rcases List.mem_append.mp hp' with hp | hp
    · exact N p hp
    · exact K.N p hp, K.f, .nil, d.perm (hide_perm (tl := ω.tl) (fl := fl) (xs := xs) (G := gl.flatten) (rest := rest)).symm⟩
theorem Ok.show {xs : Led} {g2 : List PObj} {gl2 : List Led} {fl2 : Led} {ω2 : Wo} {h2 : Heap} (K : Ok φ rest ω mv g gl fl h) (K2 : Ok φ (xs ++ (gl.flatten ++ rest)) ω2 mv g2 gl2 fl2 h2) (le : ∀ p ∈ ω.tl, p ∈ ω2.tl) : Ok φ rest ⟨ω.ga, ω2.tl⟩ mv g gl fl2 h2 ∧ News φ.H φ.L h2 xs ∧ Dj (xs ++ lay gl ⟨ω.ga, ω2.tl⟩ (fl2 ++ rest)) := by
  have pm : (lay gl2 ω2 (fl2 ++ (xs ++ (gl.flatten ++ rest)))).Perm (gl2.flatten ++ (xs ++ lay gl ⟨ω.ga, ω2.tl⟩ (fl2 ++ rest))) := (hide_perm (tl := ω2.tl) (fl := fl2) (xs := xs) (G := gl.flatten) (rest := rest)).append_left gl2.flatten
  have d := K2.d.perm pm
  have d2 : Dj (xs ++ lay gl ⟨ω.ga, ω2.tl⟩ (fl2 ++ rest)) := d.subl (List.sublist_append_right _ _)
  have N : ∀ p ∈ xs ++ lay gl ⟨ω.ga, ω2.tl⟩ (fl2 ++ rest), p ∈ lay gl2 ω2 (fl2 ++ (xs ++ (gl.flatten ++ rest))) := fun p hp => pm.mem_iff.mpr (List.mem_append_right _ hp)
  exact ⟨⟨K2.F, fun p hp => K2.N p (N p (List.mem_append_right _ hp)), K2.f, K.o.mono le, d2.subl (List.sublist_append_right _ _)⟩, fun p hp => K2.N p (N p (List.mem_append_left _ hp)), d2⟩
end
section
variable {cs : Scope}
structure GlobC (scope : Scope) (f : Str) (fa : Addr) : Prop where
  hn : ∀ p, nsIn (kk.heap_1 p) mainGlobals f = some (some (.ref fa))
  hk : ∀ p, keepIn (kk.heap_1 p) (.ref fa) = true
  hx : ∀ env C, (compEnvC scope [] C env).kindOf f = some .globalImplicit
  hd : (f == Str.ofString "__debug__") = false
end
structure CompSs (scope : Scope) (y : Str) : Prop where
  hfree : ∀ z ∈ scope.names, z.2 ≠ .free
  hcell : ∀ z ∈ scope.names, z.2 ≠ .cell
  hk : scope.kind = .function
  hn : ∀ z ∈ scope.names, z.2 = .local → scope.names.lookup z.1 = some .local
  hy : scope.names.lookup y = some .local
  hl : ∀ env C, (compEnv scope C env).kindOf y = some .local
  hf : ∀ env C, (compEnv scope C env).scope.kind = .function
  hd : (y == Str.ofString "__debug__") = false
section
variable {cs : Scope}
theorem keeps_self (s : Shared) : Keeps s s := ⟨s.heap, s.toks, rfl, fun _ _ h => h⟩
theorem R.figures {x : Str} {i : Nat} {y tt : Str} {k k' : Nat} {scope : Scope} {p1 p2 p3 p4 p5 p6 p7 p8 p9 px : Pos} (hx : slotOf cs x = some (.local, i)) (hS : CompSs scope y) (hf : ∀ env v, foldedSetIterable (.Name x px) env v = pure v)
    (hm : MCall (.Constant (.str (Str.ofString "")) k p1) (Str.ofString "join") p2 p9 [.ListComp (.Name y p3) [⟨.Name y p4, .Name x px, [.Compare (.Name y p5) [.In] [.Constant (.str tt) k' p6] p7], 0⟩] scope p8]) (hb : behindInMarks .In (.Constant (.str tt) k' p6) = false) :
    SoundE cs (.Call (.Attribute (.Constant (.str (Str.ofString "")) k p1) (Str.ofString "join") p2) [.ListComp (.Name y p3) [⟨.Name y p4, .Name x px, [.Compare (.Name y p5) [.In] [.Constant (.str tt) k' p6] p7], 0⟩] scope p8] [] p9) (E.figures (E.loc i) tt) := fun n C hC st P X hP φ rest ω mv s Q E hE H V ret exc => by
  obtain ⟨pl, hm⟩ := hm
  obtain ⟨u, e1, h⟩ := onSome_e (show getM st.m i _ from hP)
  obtain ⟨hd, h⟩ := onT_e h
  obtain ⟨z, rfl, hh⟩ := asStr_e h; replace h := hh; clear hh
  obtain ⟨hl, h⟩ := onT_e h
  have hl := Nat.le_of_ble_eq_true hl
  obtain ⟨a, e2, hv⟩ := V x .local i hx _ e1 hd
  obtain ⟨ta, rfl⟩ := hv.str
  obtain ⟨gl, fl, K⟩ := id H
  refine MethodCall_ (Constant_str (PySem.GM.join (callWith_method1 (args_cons (ListComp_signsD (h₀ := φ.H) (L := φ.L) (m := mv) (news := lay gl ω (fl ++ rest)) (pz := fun c => inStr c tt) (d := PyData.str) rfl hS.hfree hS.hcell hS.hk hS.hn hS.hy (nameX_L K.F e2 ⟨z, ta, rfl, by rw [sizeLine_eq]; omega, K.F, K.N, ?_, ?_, ?_⟩ φ.hk (slot_e hx).1 (slot_e hx).2) (hf _)) rfl) rfl))) (hm _)
  · rintro C a v s₂ m₂ E' ⟨u, rfl⟩ hns hm
    simp only [List.forIn_cons, List.forIn_nil, if_true]
    refine wpAny_bind (wpAny_bind (wpAny_isTrue_Compare1 (wpAny_Name (wpAny_loadName_local (hS.hf _ _) (hS.hl _ _) hns hm (Constant_str (PyProof.Rows.in_str (wpAny_truthy_bool (wpAny_pure ?_))))) hS.hd) hb))
    exact wpAny_pure ⟨rfl, _, _, rfl, fun _ _ h => h⟩
  · rintro C a v s₂ m₂ E' ⟨u, rfl⟩ ha hns hm
    exact wpAny_Name (wpAny_loadName_local (hS.hf _ _) (hS.hl _ _) hns hm ⟨.str _ _, _, _, rfl, fun _ _ h => h⟩) hS.hd
  · intro D ys h' tk F' N' hD hlist hnp hc
    refine args_nil (my_join hlist hc hl rfl fun t' k => ?_)
    exact ret (.d (.str (Txt.join (Str.ofString "") (List.filter (fun c => inStr c tt) (signs z))))) _ st ω mv h' k .refl ⟨gl, fl, F', N', K.f, K.o, K.d⟩ V (DatIn.str _ _) h
end
theorem fillN (h₀ : Heap) (w : World) (h : RowW.prog (OpenRow.toRowW PySem.Challenge.rw_xw0160_01.row) = RowW.prog (OpenRow.toRowW PySem.Challenge.rw_xw0160_01.row)) : (kk.heap_1 w.params).In h₀ → True := by
  revert h
  k_fill
  exact fun _ _ => trivial
theorem gf_name (p : Params) : nsIn (kk.heap_1 p) mainGlobals (Str.ofString "GrammarFault") = some (some (.ref 45)) := by k_is
theorem gf_keep (p : Params) : keepIn (kk.heap_1 p) (.ref 45) = true := by k_is
theorem gf_base (p : Params) : mroIn (kk.heap_1 p) 45 (.type "BaseException") = some true := by k_is
theorem gf_type (p : Params) : typeIn (kk.heap_1 p) (.ref 45) = some (.type "type") := by k_is
section
variable {cs : Scope}
theorem RS.fault {a b : PySem.Expr} {ta tb : ETr} {p1 p2 p3 : Pos} (ha : SoundE cs a ta) (hb : SoundE cs b tb) (hx : cs.names.lookup (Str.ofString "GrammarFault") = some .globalImplicit) (h1 : ∀ env rest, starEach (a :: rest) env = (false, eval a env) :: starEach rest env) (h2 : ∀ env, starEach [b] env = (false, eval b env) :: starEach [] env) : SoundS cs (.Raise (some (.Call (.Name (Str.ofString "GrammarFault") p1) [a, b] [] p2)) none p3) (S.fault ta tb) := fun n C hC st P X hP φ rest ω mv s Q E hE H V ret exc => by
  obtain ⟨gl0, fl0, K0⟩ := id H
  refine raise_exec rfl (Call_ (nameX_K K0.F φ.X (topRead_of φ.T) (gf_name _) ?_ φ.hk hx (by decide)))
  have excR : ∀ e sp g' ω' h' tk', ω.Le ω' → OkX φ rest ω' g' e sp h' → X sp g' → E (.ref e) { s with heap := h', toks := tk' } := exc
  refine callWith_K φ.X (gf_keep _) (args_cons (ha n C hC st _ X hP φ rest ω mv s _ E hE H V (fun x v st1 ω1 mv1 g1 tk1 l1 H1 V1 hv hp => args_cons (hb n C hC st1 _ X hp φ rest ω1 mv1 _ _ E hE H1 V1 (fun y u st2 ω2 mv2 g2 tk2 l2 H2 V2 hu hq => args_nil ?_) fun e sp g' ω2 h2 tk2 hle2 => exc e sp g' ω2 h2 tk2 (l1.trans hle2)) (h2 _)) exc) (h1 _ _)) (h1 _ _) (by rw [h2]; rfl)
  obtain ⟨msg, rfl, hh⟩ := asStr_e hq; replace hq := hh; clear hh
  obtain ⟨sp, rfl, hh⟩ := asInt_e hq; replace hq := hh; clear hh
  obtain ⟨t1, rfl⟩ := hv.str
  obtain ⟨t2, rfl⟩ := hu.int
  obtain ⟨gl, fl, K⟩ := H2
  obtain ⟨h₀, G, F, N, d⟩ := K.real
  refine ⟨φ.X.keeps K.F.keep, ?_⟩
  refine con_use (s := { s with heap := g2, toks := tk2 }) G.B F G.X N G.T φ.hk (fault_ok (msg := msg) (sp := sp) (t1 := t1) (t2 := t2) (news := lay gl ω2 rest)) (fun _ h => h) (by have := φ.hd; omega) (by have := φ.hu; omega) ?_
  rintro r news' h' tk' F' N' ⟨e, t0, D, u1, u2, t3, v, rfl, rfl, hlt, hlt2⟩
  refine raise_end F' G.X N' (gf_base _) (gf_type _) ?_
  have hl := tb_ltOf hlt
  refine exc e sp st2.g ω2 h' tk' (l1.trans l2) (.inl ⟨h₀, gl, mv2, t0, D, _, G, F', N', fun p hp => ?_, ⟨u1, u2, t3, v, .head _⟩, fun p hp => .tail _ hp, K.o, d⟩) hq
  rcases List.mem_cons.mp hp with rfl | hp
  · exact Nat.ne_of_gt hlt2
  · exact Nat.ne_of_lt (hl p hp)
noncomputable def strsGo : List Value → Option (List Str)
  | [] => some []
  | .str x _ :: r => match strsGo r with
    | some xs => some (x :: xs)
    | none => none
  | _ => none
noncomputable def tupIn (K : Frag) (a : Addr) : Option (List Str) := match List.lookup a K with
  | some o => match o.cls, o.data with
    | .type c, .seq vs _ => if c = "tuple" then strsGo vs.toList else none
    | _, _ => none
  | none => none
theorem strsGo_e : ∀ {vs : List Value} {xs : List Str}, strsGo vs = some xs → StrsAre vs xs
  | [], xs, h => by cases h; exact .nil
  | v :: r, xs, h => by
    cases v with
    | str x t =>
      unfold strsGo at h
      split at h
      · rename_i xs' hr
        cases h
        exact .cons x t (strsGo_e hr)
      · cases h
    | _ => cases h
theorem R.globT {x : Str} {a : Addr} {xs : List Str} {p : Pos} (h : ∀ p, nsIn (kk.heap_1 p) mainGlobals x = some (some (.ref a))) (ht : ∀ p, tupIn (kk.heap_1 p) a = some xs) (hx : cs.names.lookup x = some .globalImplicit) (hd : (x == Str.ofString "__debug__") = false) : SoundE cs (.Name x p) (E.val (.tabl xs)) := fun n C hC st P X hP φ rest ω mv s Q E hE H V ret exc => by
  obtain ⟨gl, fl, K⟩ := id H
  refine nameX_K K.F φ.X (topRead_of φ.T) (h _) (ret (.tabl xs) _ st ω mv _ _ .refl H V ?_ hP) φ.hk hx hd
  have e := ht φ.w.params
  unfold tupIn at e
  split at e
  · rename_i o ho
    obtain ⟨cls, dd, data, sl⟩ := o
    split at e
    · rename_i c vs n e1 e2
      dsimp only at e1 e2
      subst e1
      subst e2
      split at e
      · rename_i ec
        subst ec
        exact ⟨a, dd, vs.toList, n, sl, rfl, by simpa using ho, strsGo_e e⟩
      · cases e
    · cases e
  · cases e
end
theorem fillO (h₀ : Heap) (w : World) (h : RowW.prog (OpenRow.toRowW PySem.Challenge.rw_xw0160_01.row) = RowW.prog (OpenRow.toRowW PySem.Challenge.rw_xw0160_01.row)) : (kk.heap_1 w.params).In h₀ → True := by
  revert h
  k_fill
  exact fun _ _ => trivial
theorem n_len (p : Params) : nsIn (kk.heap_1 p) mainGlobals (Str.ofString "len") = some Option.none := by k_is
theorem n_min (p : Params) : nsIn (kk.heap_1 p) mainGlobals (Str.ofString "min") = some Option.none := by k_is
theorem n_max (p : Params) : nsIn (kk.heap_1 p) mainGlobals (Str.ofString "max") = some Option.none := by k_is
theorem n_int (p : Params) : nsIn (kk.heap_1 p) mainGlobals (Str.ofString "int") = some Option.none := by k_is
theorem n_str (p : Params) : nsIn (kk.heap_1 p) mainGlobals (Str.ofString "str") = some Option.none := by k_is
theorem n_tuple (p : Params) : nsIn (kk.heap_1 p) mainGlobals (Str.ofString "tuple") = some Option.none := by k_is
theorem n_range (p : Params) : nsIn (kk.heap_1 p) mainGlobals (Str.ofString "range") = some Option.none := by k_is
theorem n_enum (p : Params) : nsIn (kk.heap_1 p) mainGlobals (Str.ofString "enumerate") = some Option.none := by k_is
theorem b_len : bootBuiltins (Str.ofString "len") = some (.builtin "len") := by boot_by_name
theorem b_min : bootBuiltins (Str.ofString "min") = some (.builtin "min") := by boot_by_name
theorem b_max : bootBuiltins (Str.ofString "max") = some (.builtin "max") := by boot_by_name
theorem b_int : bootBuiltins (Str.ofString "int") = some (.type "int") := by boot_by_name
theorem b_str : bootBuiltins (Str.ofString "str") = some (.type "str") := by boot_by_name
theorem b_tuple : bootBuiltins (Str.ofString "tuple") = some (.type "tuple") := by boot_by_name
theorem mw_deeper : MW (Str.ofString "deeper") 146 := ⟨by intro p; k_is, by intro p; k_is, by intro p; k_is, by intro p; k_is, by intros; rfl⟩
theorem mw_shallower : MW (Str.ofString "shallower") 153 := ⟨by intro p; k_is, by intro p; k_is, by intro p; k_is, by intro p; k_is, by intros; rfl⟩
theorem mw_peek : MW (Str.ofString "peek") 161 := ⟨by intro p; k_is, by intro p; k_is, by intro p; k_is, by intro p; k_is, by intros; rfl⟩
theorem mw_take : MW (Str.ofString "take") 168 := ⟨by intro p; k_is, by intro p; k_is, by intro p; k_is, by intro p; k_is, by intros; rfl⟩
theorem mw_looks : MW (Str.ofString "looks") 176 := ⟨by intro p; k_is, by intro p; k_is, by intro p; k_is, by intro p; k_is, by intros; rfl⟩
theorem mw_expect : MW (Str.ofString "expect") 183 := ⟨by intro p; k_is, by intro p; k_is, by intro p; k_is, by intro p; k_is, by intros; rfl⟩
theorem mw_name : MW (Str.ofString "name") 190 := ⟨by intro p; k_is, by intro p; k_is, by intro p; k_is, by intro p; k_is, by intros; rfl⟩
theorem mw_split : MW (Str.ofString "split_close") 197 := ⟨by intro p; k_is, by intro p; k_is, by intro p; k_is, by intro p; k_is, by intros; rfl⟩
section
variable {cs : Scope}
noncomputable abbrev SE (e : PySem.Expr) : Prop := ∀ env, starEach [e] env = (false, eval e env) :: starEach [] env
noncomputable abbrev SF (e : PySem.Expr) : Prop := ∀ env rest, starEach (e :: rest) env = (false, eval e env) :: starEach rest env
theorem R.len {e : PySem.Expr} {t : ETr} {p q : Pos} (hx : cs.names.lookup (Str.ofString "len") = some .globalImplicit) (hs : SoundE cs e t) (h1 : SE e) : SoundE cs (.Call (.Name (Str.ofString "len") p) [e] [] q) (E.len t) := R.bi1 Op1.len n_len b_len hx (by decide) (by decide) hs h1
theorem R.min2 {e u : PySem.Expr} {t tu : ETr} {p q : Pos} (hx : cs.names.lookup (Str.ofString "min") = some .globalImplicit) (hs : SoundE cs e t) (hu : SoundE cs u tu) (h1 : SF e) (h2 : SE u) : SoundE cs (.Call (.Name (Str.ofString "min") p) [e, u] [] q) (E.min2 t tu) := R.bi2 Op2.min2 n_min b_min hx (by decide) (by decide) hs hu h1 h2
theorem R.max2 {e u : PySem.Expr} {t tu : ETr} {p q : Pos} (hx : cs.names.lookup (Str.ofString "max") = some .globalImplicit) (hs : SoundE cs e t) (hu : SoundE cs u tu) (h1 : SF e) (h2 : SE u) : SoundE cs (.Call (.Name (Str.ofString "max") p) [e, u] [] q) (E.max2 t tu) := R.bi2 Op2.max2 n_max b_max hx (by decide) (by decide) hs hu h1 h2
theorem R.intB {e : PySem.Expr} {t : ETr} {p q : Pos} (hx : cs.names.lookup (Str.ofString "int") = some .globalImplicit) (hs : SoundE cs e t) (h1 : SE e) : SoundE cs (.Call (.Name (Str.ofString "int") p) [e] [] q) (E.intB t) := R.ty1 Op1.intB n_int b_int hx (by decide) (by decide) hs h1
theorem R.intS {e : PySem.Expr} {t : ETr} {p q : Pos} (hx : cs.names.lookup (Str.ofString "int") = some .globalImplicit) (hs : SoundE cs e t) (h1 : SE e) : SoundE cs (.Call (.Name (Str.ofString "int") p) [e] [] q) (E.intS t) := R.ty1 Op1.intS n_int b_int hx (by decide) (by decide) hs h1
theorem R.strI {e : PySem.Expr} {t : ETr} {p q : Pos} (hx : cs.names.lookup (Str.ofString "str") = some .globalImplicit) (hs : SoundE cs e t) (h1 : SE e) : SoundE cs (.Call (.Name (Str.ofString "str") p) [e] [] q) (E.strI t) := R.ty1 Op1.strI n_str b_str hx (by decide) (by decide) hs h1
theorem R.tuple {e : PySem.Expr} {t : ETr} {p q : Pos} (hx : cs.names.lookup (Str.ofString "tuple") = some .globalImplicit) (hs : SoundE cs e t) (h1 : SE e) : SoundE cs (.Call (.Name (Str.ofString "tuple") p) [e] [] q) (E.tuple t) := R.ty1 Op1.tuple n_tuple b_tuple hx (by decide) (by decide) hs h1
theorem mcall_of {o : PySem.Expr} {f : Str} {ap pos : Pos} {es : List PySem.Expr} (h : ∀ env, eval (.Call (.Attribute o f ap) es [] pos) env = (do
      let ov ← eval o env
      standAt ap.atName
      let (f, first) ← holding [ov] (getMethod ov f (do return (← importBound o env).getD true))
      callWith pos f first (backTo pos (starEach es env)) [])) : MCall o f ap pos es := ⟨fun env => (do return (← importBound o env).getD true), h⟩
end
/-! entries -/
theorem frame0 {np more : Nat} {args ds : List PV} (h : F.frame np [] more args = some ds) : args.length = np ∧ ds = args ++ List.replicate more .undef := by
  unfold F.frame at h
  split at h
  · rename_i q
    cases h
    simp only [Bool.and_eq_true] at q
    have a := Nat.le_of_ble_eq_true q.1
    have b := Nat.le_of_ble_eq_true q.2
    simp only [List.length_nil, Nat.add_zero] at b
    exact ⟨Nat.le_antisymm a b, by simp⟩
  · cases h
theorem frame1 {np more : Nat} {d : PV} {args ds : List PV} (h : F.frame np [d] more args = some ds) (hn : 0 < np) : (args.length = np ∧ ds = args ++ List.replicate more .undef) ∨ (args.length + 1 = np ∧ ds = (args ++ [d]) ++ List.replicate more .undef) := by
  unfold F.frame at h
  split at h
  · rename_i q
    cases h
    simp only [Bool.and_eq_true] at q
    have a := Nat.le_of_ble_eq_true q.1
    have b := Nat.le_of_ble_eq_true q.2
    simp only [List.length_cons, List.length_nil, Nat.zero_add] at b
    by_cases e : args.length = np
    · left
      refine ⟨e, ?_⟩
      rw [List.length_singleton, show args.length + 1 - np = 1 by omega]
      simp
    · right
      have e1 : args.length + 1 = np := by omega
      refine ⟨e1, ?_⟩
      rw [List.length_singleton, e1, Nat.sub_self]
      simp
  · cases h
section
variable {name qual : Str} {params : Arguments} {body : List Stmt} {scope : Scope} {dV kV doc pm cdv ct : Value} {an : Option Addr} {ps : List Str} {more : Nat}
noncomputable def BindR (K : Params → Frag) (fd : FuncData) (np : Nat) (defs : List PV) (more : Nat) (ps : List Str) : Prop := ∀ (w : World) (ω : Wo) (vs : List Value) (args ds : List PV), VRs w ω args vs → F.frame np defs more args = some ds → ∃ us as, ds = as ++ List.replicate more .undef ∧ VRs w ω as us ∧ ps.length = us.length ∧ ∀ (s : Shared) (h₀ : Heap) (L : Addr) (m : Str → Option Value), (K w.params).In h₀ → Fr h₀ L s.heap m → BindsTo s fd { pos := vs, kw := [] } (ps.zip us)
variable {K : Params → Frag} {fd : FuncData}
theorem bind0 (hl : ps.length = 0) (h : ∀ s, BindsTo s fd { pos := [], kw := [] } (ps.zip [])) : BindR K fd 0 [] more ps := by
  intro w ω vs args ds hv hm
  obtain ⟨e1, rfl⟩ := frame0 hm
  have e2 := hv.length
  match vs, e2, hv with
  | [], _, hv => exact ⟨[], args, rfl, hv, hl, fun s _ _ _ _ _ => h s⟩
  | a :: _, e, _ => simp [e1] at e
theorem bind1 (hl : ps.length = 1) (h : ∀ a s, BindsTo s fd { pos := [a], kw := [] } (ps.zip [a])) : BindR K fd 1 [] more ps := by
  intro w ω vs args ds hv hm
  obtain ⟨e1, rfl⟩ := frame0 hm
  have e2 := hv.length
  match vs, e2, hv with
  | [a], _, hv => exact ⟨[a], args, rfl, hv, hl, fun s _ _ _ _ _ => h a s⟩
  | [], e, _ => simp [e1] at e
  | a :: b :: r, e, _ => simp [e1] at e
theorem bind2 (hl : ps.length = 2) (h : ∀ a b s, BindsTo s fd { pos := [a, b], kw := [] } (ps.zip [a, b])) : BindR K fd 2 [] more ps := by
  intro w ω vs args ds hv hm
  obtain ⟨e1, rfl⟩ := frame0 hm
  have e2 := hv.length
  match vs, e2, hv with
  | [a, b], _, hv => exact ⟨[a, b], args, rfl, hv, hl, fun s _ _ _ _ _ => h a b s⟩
  | [], e, _ => simp [e1] at e
  | [a], e, _ => simp [e1] at e
  | a :: b :: c :: r, e, _ => simp [e1] at e
theorem bind3 (hl : ps.length = 3) (h : ∀ a b c s, BindsTo s fd { pos := [a, b, c], kw := [] } (ps.zip [a, b, c])) : BindR K fd 3 [] more ps := by
  intro w ω vs args ds hv hm
  obtain ⟨e1, rfl⟩ := frame0 hm
  have e2 := hv.length
  match vs, e2, hv with
  | [a, b, c], _, hv => exact ⟨[a, b, c], args, rfl, hv, hl, fun s _ _ _ _ _ => h a b c s⟩
  | [], e, _ => simp [e1] at e
  | [a], e, _ => simp [e1] at e
  | [a, b], e, _ => simp [e1] at e
  | a :: b :: c :: d :: r, e, _ => simp [e1] at e
theorem bind5 (hl : ps.length = 5) (h : ∀ a b c d e s, BindsTo s fd { pos := [a, b, c, d, e], kw := [] } (ps.zip [a, b, c, d, e])) : BindR K fd 5 [] more ps := by
  intro w ω vs args ds hv hm
  obtain ⟨e1, rfl⟩ := frame0 hm
  have e2 := hv.length
  match vs, e2, hv with
  | [a, b, c, d, e], _, hv => exact ⟨[a, b, c, d, e], args, rfl, hv, hl, fun s _ _ _ _ _ => h a b c d e s⟩
  | [], e, _ => simp [e1] at e
  | [a], e, _ => simp [e1] at e
  | [a, b], e, _ => simp [e1] at e
  | [a, b, c], e, _ => simp [e1] at e
  | [a, b, c, d], e, _ => simp [e1] at e
  | a :: b :: c :: d :: f :: g :: r, e, _ => simp [e1] at e
theorem bindD2 {x : Dat} {v : Value} (hl : ps.length = 2) (hx : ∀ tl, DatIn tl v x) (h : ∀ (p : Params) a b (s : Shared) (h₀ : Heap) (L : Addr) (m : Str → Option Value), (K p).In h₀ → Fr h₀ L s.heap m → BindsTo s fd { pos := [a, b], kw := [] } (ps.zip [a, b])) (h1 : ∀ (p : Params) a (s : Shared) (h₀ : Heap) (L : Addr) (m : Str → Option Value), (K p).In h₀ → Fr h₀ L s.heap m → BindsTo s fd { pos := [a], kw := [] } (ps.zip [a, v])) : BindR K fd 2 [.d x] more ps := by
  intro w ω vs args ds hv hm
  have e2 := hv.length
  rcases frame1 hm (by decide) with ⟨e1, rfl⟩ | ⟨e1, rfl⟩
  · match vs, e2, hv with
    | [a, b], _, hv => exact ⟨[a, b], args, rfl, hv, hl, fun s h₀ L m X F => h _ a b s h₀ L m X F⟩
    | [], e, _ => simp [e1] at e
    | [a], e, _ => simp [e1] at e
    | a :: b :: c :: r, e, _ => simp [e1] at e
  · have e1 : args.length = 1 := by omega
    match vs, e2, hv with
    | [a], _, hv => exact ⟨[a, v], args ++ [.d x], rfl, hv.app (.cons (show VR w ω (.d x) v from hx _) .nil), hl, fun s h₀ L m X F => h1 _ a s h₀ L m X F⟩
    | [], e, _ => simp [e1] at e
    | a :: b :: r, e, _ => simp [e1] at e
theorem bindD3 {x : Dat} {v : Value} (hl : ps.length = 3) (hx : ∀ tl, DatIn tl v x) (h : ∀ (p : Params) a b c (s : Shared) (h₀ : Heap) (L : Addr) (m : Str → Option Value), (K p).In h₀ → Fr h₀ L s.heap m → BindsTo s fd { pos := [a, b, c], kw := [] } (ps.zip [a, b, c])) (h1 : ∀ (p : Params) a b (s : Shared) (h₀ : Heap) (L : Addr) (m : Str → Option Value), (K p).In h₀ → Fr h₀ L s.heap m → BindsTo s fd { pos := [a, b], kw := [] } (ps.zip [a, b, v])) : BindR K fd 3 [.d x] more ps := by
  intro w ω vs args ds hv hm
  have e2 := hv.length
  rcases frame1 hm (by decide) with ⟨e1, rfl⟩ | ⟨e1, rfl⟩
  · match vs, e2, hv with
    | [a, b, c], _, hv => exact ⟨[a, b, c], args, rfl, hv, hl, fun s h₀ L m X F => h _ a b c s h₀ L m X F⟩
    | [], e, _ => simp [e1] at e
    | [a], e, _ => simp [e1] at e
    | [a, b], e, _ => simp [e1] at e
    | a :: b :: c :: d :: r, e, _ => simp [e1] at e
  · have e1 : args.length = 2 := by omega
    match vs, e2, hv with
    | [a, b], _, hv => exact ⟨[a, b, v], args ++ [.d x], rfl, hv.app (.cons (show VR w ω (.d x) v from hx _) .nil), hl, fun s h₀ L m X F => h1 _ a b s h₀ L m X F⟩
    | [], e, _ => simp [e1] at e
    | [a], e, _ => simp [e1] at e
    | a :: b :: c :: r, e, _ => simp [e1] at e
end
theorem RF.def {f : Addr} {name qual : Str} {params : Arguments} {body : List Stmt} {scope : Scope} {dV kV doc pm cdv ct oc : Value} {an odd : Option Addr} {osl : Array (Option Value)} {b : STr} (np more : Nat) (defs : List PV) (ps : List Str)
    (hl : ∀ p, List.lookup f (kk.heap_1 p) = some { cls := oc, dict := odd, data := Data.func (fnOf name qual params body scope dV kV doc pm an cdv ct), slots := osl }) (hc : ∀ p, codeIn (kk.heap_1 p) cdv qual = true)
    (hbind : BindR kk.heap_1 (fnOf name qual params body scope dV kV doc pm an cdv ct) np defs more ps) (hp : paramsOk scope ps = true) (c2 : scope.isCoroutine = false) (c3 : scope.isGenerator = false) (c4 : scope.kind = .function) (hb : SoundSs scope body b) : SoundF (.fn f) (F.body np defs more b) :=
  F_body hl hc hbind hp c2 c3 c4 hb
section
variable {cs : Scope}
theorem setI_i {e a : PySem.Expr} {te ta : ETr} {n : Int} {j : Nat} {k : Nat} {p1 p2 p3 : Pos} (he : SoundE cs e te) (ha : SoundE cs a ta) (hs : ∀ env, swapsWith e (some (.Subscript a (.Constant (.int n) k p1) p2)) p3.line env = pure false) (hn : n = (j : Int)) : SoundS cs (.Assign [.Subscript a (.Constant (.int n) k p1) p2] e p3) (S.setI te ta j) := by
  subst hn
  exact RS.setI he ha hs
theorem setLast_i {e a : PySem.Expr} {te ta : ETr} {n : Int} {j : Nat} {k k' : Nat} {p1 p2 p3 p4 p5 p6 : Pos} (he : SoundE cs e te) (ha : SoundE cs a ta) (hs : ∀ env, swapsWith e (some (.Subscript (.Subscript a (.UnaryOp .USub (.Constant (.int 1) k p1) p2) p3) (.Constant (.int n) k' p4) p5)) p6.line env = pure false)
    (hp1 : ∀ o i t, subscripted (.UnaryOp .USub (.Constant (.int 1) k p1) p2) false o (.int i t) = operate [o, .int i t] (getItem o (.int i t))) (hn : n = (j : Int)) : SoundS cs (.Assign [.Subscript (.Subscript a (.UnaryOp .USub (.Constant (.int 1) k p1) p2) p3) (.Constant (.int n) k' p4) p5] e p6) (S.setLast te ta j) := by
  subst hn
  exact RS.setLast he ha hs hp1
end
noncomputable def psOf (scope : Scope) (n : Nat) : List Str := (scope.names.take n).map (·.1)
theorem RF.dd {f : Addr} {name qual : Str} {params : Arguments} {body : List Stmt} {scope : Scope} {dV kV doc pm cdv ct oc : Value} {an odd : Option Addr} {osl : Array (Option Value)} {b : STr} (np more : Nat) (defs : List PV)
    (hl : ∀ p, List.lookup f (kk.heap_1 p) = some { cls := oc, dict := odd, data := Data.func (fnOf name qual params body scope dV kV doc pm an cdv ct), slots := osl }) (hc : ∀ p, codeIn (kk.heap_1 p) cdv qual = true)
    (hbind : BindR kk.heap_1 (fnOf name qual params body scope dV kV doc pm an cdv ct) np defs more (psOf scope np)) (hp : paramsOk scope (psOf scope np) = true) (c2 : scope.isCoroutine = false) (c3 : scope.isGenerator = false) (c4 : scope.kind = .function) (hb : SoundSs scope body b) : SoundF (.fn f) (F.body np defs more b) :=
  RF.def np more defs (psOf scope np) hl hc hbind hp c2 c3 c4 hb
theorem pix_of {e u : PySem.Expr} (h1 : ∀ o i, subscripted u false o i = operate [o, i] (getItem o i)) (h2 : ∀ x t r, letTemporaryGo e (.str x t) r = pure ()) : PlainIx e u := ⟨h1, h2⟩
theorem plain_of {es : List PySem.Expr} (h : ∀ env, starEach es env = es.map fun e => (false, eval e env)) : PlainEs es := h
theorem fillR (h₀ : Heap) (w : World) (h : RowW.prog (OpenRow.toRowW PySem.Challenge.rw_xw0160_01.row) = RowW.prog (OpenRow.toRowW PySem.Challenge.rw_xw0160_01.row)) : (kk.heap_1 w.params).In h₀ → True := by
  revert h
  k_fill
  exact fun _ _ => trivial
theorem gf_get (p : Params) : findIn (kk.heap_1 p) (.ref 45) (Str.ofString "__getattribute__") = some (some (.builtin "BaseException.__getattribute__")) := by k_is
theorem gf_noget (p : Params) : findIn (kk.heap_1 p) (.ref 45) (Str.ofString "__getattr__") = some none := by k_is
noncomputable def SCalls (n : Nat) (i j : Nat) : STr := fun C st P X => getM st.m i fun F => onT (isFn F) (getM st.m j fun w => asG w fun g => callK C F [w] st (fun r st => asD r fun x => gWd st g fun _ n _ => P (.ret (.d (.tuple [x, .int n]))) st) fun sp g' => P (.ret (.d (.tuple [.str (Str.ofString "fault"), .int sp]))) ⟨List.replicate n .undef, g'⟩)
section
variable {cs : Scope} {n : Nat} {φ : Fm cs n} {rest : Led} {ω : Wo} {g : List PObj} {e : Addr} {sp : Int} {s' : Shared} {E : Value → Shared → Prop} {nm : Str} {b₀ : Stmt} {suite : List Stmt} {pos np : Pos} {hs : List ExceptHandler} {Q : Flow → Shared → Prop}
open PySem.Spec in
theorem caught_X (hX : OkX2 φ rest ω g e sp s'.heap) (hx : cs.names.lookup (Str.ofString "GrammarFault") = some .globalImplicit) (hn : cs.names.lookup nm = some .local)
    (k : ∀ h' g' gl mv oe vs D nn tk, Gnd φ g' → Fr g' φ.L h' mv → News g' φ.L h' ((e, oe) :: nn) → mv nm = some (.ref e) → oe.cls = .ref 45 → oe.dict = some D → oe.data = .fields vs → SpotAt φ.w D sp nn → (∀ p ∈ lay gl ω rest, p ∈ nn) → ObjsR φ.w ω.tl g ω.ga gl → Dj (lay gl ω rest) →
      wpAny (Mo φ.w) (φ.A.mark (some (.ref e))) (execs (b₀ :: suite) φ.env)
        (fun f s₄ => wpAny (Mo φ.w) φ.A (do bindName φ.env nm .none; unbindBehindTheSuite φ.env nm pos) (fun _ s₅ => Q f s₅) E s₄)
        (AsSuiteRaised (Mo φ.w) (φ.A.mark (some (.ref e))) φ.env nm pos (notedBy (Mo φ.w) (φ.A.mark (some (.ref e))) φ.env (cameBackBy (Mo φ.w) φ.A φ.env E)))
        { s' with heap := h', toks := tk }) :
    wpAny (Mo φ.w) φ.A (noteFrame (.ref e) φ.env)
      (fun _ s₂ => wpAny (Mo φ.w) φ.A (setFlight (.ref e) none) (fun _ s₃ =>
        wpAny (Mo φ.w) φ.A (handleBy (.ref e) φ.env (.ExceptHandler (some (.Name (Str.ofString "GrammarFault") np)) (some nm) (b₀ :: suite) pos :: hs)) Q E s₃) E s₂) E s' := by
  obtain ⟨h₀, gl, gg, mv, D, nn, G, F, hsm, R, S, sub, ho, dj⟩ := hX
  have K := G.B
  obtain ⟨B, a0, hB, hBG, hl, f1, f2, f3, f4⟩ := R
  have hL : B.get? φ.L = none := by
    obtain ⟨_, ⟨L', _, hf, hn', _⟩, _⟩ := f3
    obtain rfl : φ.L = L' := Option.some.inj hf
    exact hn'
  refine note_next (env := φ.env) (outer := φ.outer) rfl f3 rfl f4 f1 f2 fun h1 n1 => ?_
  obtain ⟨x1, x2, x3, x4⟩ := n1
  refine flight_none (s := { s' with heap := h1 }) x1 x2 x3 fun h2 n2 => ?_
  obtain ⟨y1, y2, y3, y4⟩ := n2
  obtain ⟨g₅, T₅, F₅, K₅⟩ := kts_ground (a := φ.a) (name := φ.cn) (scope := cs) (cd := φ.ccd) K F hBG y1 (hsm.trans (x4.trans y4))
  have X₅ : (kk.heap_1 φ.w.params).In g₅ := φ.XB.keeps K₅.stays
  have P₅ : TopRead topProg LT φ.mg φ.mb g₅ := topRead_of (φ.TB.keeps K₅.stays)
  obtain ⟨oe, vs, T', oT, ts, z1, ⟨z2, z3, z4⟩, z5, z6⟩ := id y3
  refine wpAny_handleBy_cons (codeAny_handlers_test (nameX_K F₅ X₅ P₅ (gf_name _) ?_ φ.hk hx (by decide))) (by intro q; cases q)
  refine wpAny_excMatches_sub_self (X₅.keeps F₅.keep _ _ hC45) z1 z2 (by decide +kernel) (codeAny_handlers_suite_as ?_)
  refine flight_none (s := { s' with heap := h2 }) y1 y2 y3 fun h3 n3 => ?_
  obtain ⟨u1, u2, u3, u4⟩ := n3
  have hsm₆ := (hsm.trans (x4.trans y4)).trans u4
  obtain ⟨g₆, T₆, F₆, K₆⟩ := kts_ground (a := φ.a) (name := φ.cn) (scope := cs) (cd := φ.ccd) K F hBG u1 hsm₆
  obtain ⟨oe, vs, T', oT, ts, z1, ⟨z2, z3, z4⟩, z5, z6⟩ := u3
  have ne₆ : g₆.get? e = none := T₆.none_ _ (kts_fresh (a := φ.a) (name := φ.cn) (scope := cs) (cd := φ.ccd) F hBG f2 fun o ho m => by
    obtain ⟨_, o', ho', hd⟩ := K.frames.mem m
    rw [ho] at ho'
    cases ho'
    obtain ⟨sl, hs⟩ := hsm₆ _ _ (F.keep _ _ ho) hd
    rw [z1] at hs
    cases hs
    exact hd _ z5)
  have N3 : News g₆ φ.L h3 ((e, oe) :: []) := News.more F₆ News.nil z1 (fun es n q => by rw [z5] at q; cases q) ne₆
  have Nl : News g₆ φ.L h3 nn := fun q hq => ⟨u1 _ _ (hl q hq).1, (fun z => by have := (hl q hq).1; rw [z, hL] at this; cases this), T₆.none_ _ (kts_none F.keep (hl q hq).2.1)⟩
  refine storeX_L F₆ (news := (e, oe) :: nn) (fun q hq => (List.mem_cons.mp hq).elim (fun z => z ▸ N3 _ (.head _)) (Nl q)) (fun h4 F4 N4 => ?_) φ.hk hn
  exact k h4 g₆ gl _ oe vs D nn _ ⟨K₆, G.K.trans T₆⟩ F4 N4 (if_pos rfl) z2 z3 z5 S sub ho dj
end
theorem slotGo_mem {x : Str} : ∀ {l : List (Str × NameKind)} {n i : Nat} {k : NameKind}, slotGo x l n = some (k, i) → (x, k) ∈ l
  | [], _, _, _, h => by cases h
  | (y, k0) :: r, n, i, k, h => by
    unfold slotGo at h
    split at h
    · rename_i e
      cases h
      subst e
      exact .head _
    · exact .tail _ (slotGo_mem h)
theorem env_none {cs : Scope} {n : Nat} {φ : Fm cs n} (hc : (cs.names.all fun x => decide (x.2 ≠ .cell)) = true) (ω : Wo) (k : Nat) (mv : Str → Option Value) : EnvR φ ω (List.replicate k .undef) mv := by
  intro x kd i e
  have no : ∀ v, (List.replicate k PV.undef)[i]? = some v → isDef v = true → False := fun v hv hd => by
    have := List.mem_of_getElem? hv
    rw [List.eq_of_mem_replicate this] at hd
    cases hd
  cases kd with
  | «local» => exact fun v hv hd => (no v hv hd).elim
  | free => exact fun v hv hd => (no v hv hd).elim
  | cell =>
    unfold slotOf at e
    split at e
    · cases e
    · have := List.all_eq_true.mp hc _ (slotGo_mem e)
      simp at this
  | globalExplicit => trivial
  | globalImplicit => trivial
section
variable {cs : Scope}
theorem Ok.ofX {n : Nat} {φ : Fm cs n} {rest : Led} {ω : Wo} {mv : Str → Option Value} {g : List PObj} {gl : List Led} {h5 g3 : Heap} {T e : Addr} {oT oe : Obj} {nn : Led} (G : Gnd φ g3) (F : Fr g3 φ.L h5 mv) (N : News g3 φ.L h5 ((T, oT) :: (e, oe) :: nn)) (sub : ∀ p ∈ lay gl ω rest, p ∈ nn) (lt : ∀ p ∈ (e, oe) :: nn, p.1 < T) (ho : ObjsR φ.w ω.tl g ω.ga gl) (dj : Dj (lay gl ω rest)) : OkE φ rest ⟨ω.ga, (T, oT) :: ω.tl⟩ mv g h5 := by
  have pm : ((T, oT) :: lay gl ω rest).Perm (lay gl ⟨ω.ga, (T, oT) :: ω.tl⟩ rest) := perm_mid gl.flatten ω.tl rest (T, oT)
  have dT : Dj ((T, oT) :: lay gl ω rest) := Dj.cons (fun q hq => Nat.ne_of_lt (lt q (.tail _ (sub q hq)))) dj
  obtain ⟨fl6, K6⟩ := Ok.of (φ := φ) (rest := rest) (ω := ⟨ω.ga, (T, oT) :: ω.tl⟩) (g := g) (gl := gl) G F (fun p hp => by
    rcases List.mem_cons.mp (pm.mem_iff.mpr hp) with rfl | hp
    · exact N _ (.head _)
    · exact N _ (.tail _ (.tail _ (sub p hp)))) (ho.mono fun p hp => .tail _ hp) (dT.perm pm)
  exact ⟨gl, fl6, K6⟩
theorem callWith_fn1 {n : Nat} {φ : Fm cs n} {rest : Led} {ω : Wo} {mv : Str → Option Value} {g : List PObj} {gl : List Led} {fl : Led} {s : Shared} {F : PV} {v wv : Value} {x : Str} {i : Nat} {p pos : Pos} {Q : Value → Shared → Prop} {E : Value → Shared → Prop} (K : Ok φ rest ω mv g gl fl s.heap) (hF : isFn F = true) (ha : VR φ.w ω F v) (hx : slotOf cs x = some (.local, i)) (e : mv x = some wv) (h : wpAny (Mo φ.w) φ.A (PySem.call v [wv]) Q E s) : wpAny (Mo φ.w) φ.A (callWith pos v [] (backTo pos (starEach [.Name x p] φ.env)) []) Q E s := by
  cases F with
  | fn a =>
    obtain rfl : v = .ref a := ha
    exact callWith_K φ.X (keep_fn _ hF) (args_cons (nameX_L K.F e (args_nil ⟨φ.X.keeps K.F.keep, h⟩) φ.hk (slot_e hx).1 (slot_e hx).2) rfl) rfl rfl
  | lam j x =>
    obtain ⟨L, f, pm, c, ctv, ca, o, a, q1, rfl, q3, q4⟩ := id ha
    exact callWith_F (FnAt.of K.N (K.inTl q3)) (args_cons (nameX_L K.F e (args_nil ⟨FnAt.of K.N (K.inTl q3), h⟩) φ.hk (slot_e hx).1 (slot_e hx).2) rfl) rfl rfl
  | _ => cases hF
theorem RS.heard {f x nm : Str} {i j n0 : Nat} {k k2 k3 : Nat} {p1 p2 p3 p4 p5 p6 p7 p8 p9 p10 p11 p12 p13 p14 p15 : Pos} (hf : slotOf cs f = some (.local, i)) (hx : slotOf cs x = some (.local, j)) (hn : slotOf cs nm = some (.local, n0)) (hg : cs.names.lookup (Str.ofString "GrammarFault") = some .globalImplicit) (hc : (cs.names.all fun x => decide (x.2 ≠ .cell)) = true) (m : Nat) :
    SoundS cs (.Try [.Return (some (.Tuple [.Call (.Name f p1) [.Name x p2] [] p3, .Attribute (.Name x p4) (Str.ofString "at") p5] k p6)) p7] [.ExceptHandler (some (.Name (Str.ofString "GrammarFault") p8)) (some nm) [.Return (some (.Tuple [.Constant (.str (Str.ofString "fault")) k2 p9, .Attribute (.Name nm p10) (Str.ofString "spot") p11] k3 p12)) p13] p14] [] [] p15) (SCalls m i j) := fun n C hC st P X hP φ rest ω mv s Q E hE H V ret exc => by
  obtain ⟨F, e1, hq⟩ := onSome_e (show getM st.m i _ from hP)
  obtain ⟨hd, hq⟩ := onT_e hq
  obtain ⟨hF, hq⟩ := onT_e hq
  obtain ⟨w, e3, hq⟩ := onSome_e (show getM st.m j _ from hq)
  obtain ⟨hd3, hq⟩ := onT_e hq
  obtain ⟨g, rfl, hh⟩ := asG_e hq; replace hq := hh; clear hh
  obtain ⟨gl, fl, K⟩ := id H
  obtain ⟨v, e2, ha⟩ := V f .local i hf _ e1 hd
  obtain ⟨wv, e4, hw⟩ := V x .local j hx _ e3 hd3
  refine wpAny_Try_except (wpAny_execs_cons (wpAny_Return_some (Tuple_ (args_cons (Call_ (nameX_L K.F e2 (callWith_fn1 K hF ha hx e4 ?_) φ.hk (slot_e hf).1 (slot_e hf).2)) rfl))))
  refine callH_ok hC hq H (fun ga => vr_fn hF ha ga) (.cons hw .nil) (fun a b g' ω2 h2 tk2 l2 H2 hv hP2 => ?_) fun e sp g' ω2 h2 tk2 l2 hX hXp => ?_
  · obtain ⟨d, rfl, hh⟩ := asD_e hP2; replace hP2 := hh; clear hh
    obtain ⟨ob, hob, hP2⟩ := onSome_e hP2
    obtain ⟨r, ix, dp, rfl, hh⟩ := oWd_e hP2; replace hP2 := hh; clear hh
    obtain ⟨gl2, fl2, K2⟩ := H2
    refine args_cons (Attribute_name (nameX_L K2.F e4 (get_at (s := ⟨h2, s.gens, s.drawn, _, s.os⟩) K2 (hw.mono l2) hob fun t tk => args_nil ?_) φ.hk (slot_e hx).1 (slot_e hx).2)) rfl
    refine kup_newTuple (s := ⟨h2, s.gens, s.drawn, tk, s.os⟩) K2.F K2.N (fun D h3 F3 N3 lt => ?_) (by rw [sizeLine_eq]; exact Nat.le_of_ble_eq_true rfl)
    obtain ⟨hle2, H3, hD⟩ := Ok.keep (v := .ref D) (d := .tuple [d, .int ix]) K2 F3 N3 lt fun tl' m k => .tuple m (.cons (DatIn.mono k hv) (.cons (.int _ _) .nil))
    exact ret (.ret (.d (.tuple [d, .int ix]))) (.ret (.ref D)) ⟨st.m, g'⟩ _ mv h3 _ (l2.trans hle2) H3 (V.mono (l2.trans hle2)) hD hP2
  · refine caught_X (s' := { s with heap := h2, toks := tk2 }) hX hg (slot_e hn).1 fun h3 g3 gl3 mv3 oe vs D nn tk3 G3 F3 N3 hm3 c1 c2 c3 S3 sub ho dj => ?_
    refine wpAny_execs_cons (wpAny_Return_some (Tuple_ (args_cons (Constant_str (args_cons (Attribute_name (nameX_L F3 hm3 (my_exget (s := ⟨h3, s.gens, s.drawn, _, s.os⟩) F3 G3.X N3 c1 c2 c3 S3 (gf_get _) (gf_noget _) (gf_base _) my_exget_t fun t4 tk4 => args_nil ?_) φ.hk (slot_e hn).1 (slot_e hn).2)) rfl)) rfl)))
    refine kup_newTuple (s := ⟨h3, s.gens, s.drawn, tk4, s.os⟩) F3 N3 (fun T h4 F4 N4 lt => ?_) (by rw [sizeLine_eq]; exact Nat.le_of_ble_eq_true rfl)
    refine wpAny_nameGoes_keeps (slot_e hn).1 F4.ns (by show (cs.kind == .class || (cs.kind == .module && φ.L != mainGlobals)) = false; rw [φ.hk]; rfl) fun h5 v5 hn5 hs5 => ?_
    have F5 := F4.set hn5 hs5
    have N5 := N4.set hs5
    have K6 := Ok.ofX G3 F5 N5 sub lt ho dj
    exact ret (.ret (.d (.tuple [.str (Str.ofString "fault"), .int sp]))) (.ret (.ref T)) ⟨List.replicate m .undef, g'⟩ _ _ h5 _ (l2.trans ⟨⟨[], by simp⟩, fun p hp => .tail _ hp⟩) K6 (env_none hc _ _ _) (.tuple (.head _) (.cons (.str _ _) (.cons (.int _ _) .nil))) hXp
end
set_option maxHeartbeats 8000000 in
theorem words_new {w : World} {mean : ExcName → Option Value} {mg mb : Str → Option Value} {l : Addr} {vs : List Value} {k : Nat} {news : Led} (hl : vs.length ≤ 1000) :
    Con w mean mg mb 6 200 [.ref l] ((l, listOf vs.toArray k) :: news) (fun r news' => ∃ W D R t1 t2 t3 t4 t5 e c, r = .ref W ∧ news' = (R, listOf vs.toArray c) :: (W, instObj 200 D) :: (D, dictOf (esW w R 0 0 t1 t2 t3 t4 t5) e) :: (l, listOf vs.toArray k) :: news ∧ (∀ p ∈ (l, listOf vs.toArray k) :: news, p.1 < D) ∧ D < W ∧ W < R) := by
  unfold Con
  intro dp un gd cn cs a ccd cl outer A₀ base h₀ L m s Q E Bw F X N T hk hd hu ret
  revert X
  k_fill
  intro X
  refine' call_cls ?k1 ?k2 ?k3 ?k4 ?k5 ?k6 ?_
  (case k1 => k_asm)
  (case k2 => k_asm)
  (case k3 => k_asm)
  (case k4 => k_is)
  (case k5 => k_is)
  (case k6 => k_is)
  intro x' d' h' F' N' l1 l2
  (try k_lt l1)
  (try k_lt2 l2)
  (try k_sweep)
  (k_dflt (
    refine' code_def ?k1 ?k2 ?k3 ?k4 ?k5 ?kA ?kF ?kK ?k6 ?k7 ?k8 ?k9 ?kB ?_ ?c2 ?c3 ?c4 ?c5
    (case kA => exact rfl)
    (case kF => exact rfl)
    (case kK => first | exact rfl | assumption)
    (case k1 => k_asm)
    (case k2 => k_asm)
    (case k3 => k_asm)
    (case k4 => k_asm)
    (case k5 => k_asm)
    (case k6 => k_is)
    (case k7 => k_is)
    (case k8 => ktr_room)
    (case k9 => first | exact BindsTo.of_eq rfl | exact binds_K (by k_in) rfl (by k_is) rfl rfl rfl)
    (case c5 => decide)
    (case kB => exact locs rfl)
    (case c2 => exact rfl)
    (case c3 => exact rfl)
    (case c4 => exact rfl)
    k_whole
    (intro gq Lq hq FGq Fq Nq Bq Xq Tq; (try dsimp only); (try k_lift Bq); (try k_fold))))
  k_steps
  refine ret (.ref x') _ _ _ (by assumption) (by assumption) ?_
  exact ⟨x', d', _, _, _, _, _, _, _, _, rfl, rfl, tb_ltOf l1, l2, (show @LT.lt Nat _ _ _ from by omega)⟩
namespace E
noncomputable def tupRows (i : Nat) : ETr := fun _ st P _ => getM st.m i fun v => asG v fun j => gBk st j fun rs => onT (Nat.ble rs.length 999) (P (.d (.list (rs.reverse.map .tuple))) st)
noncomputable def newWd (t : ETr) : ETr := fun C st P X => t C st (fun v st => asLst v fun ds => onT (Nat.ble ds.length 1000) (P (.g st.g.length) (st.new (.wd ds 0 0)))) X
end E
theorem fillU (h₀ : Heap) (w : World) (h : RowW.prog (OpenRow.toRowW PySem.Challenge.rw_xw0160_01.row) = RowW.prog (OpenRow.toRowW PySem.Challenge.rw_xw0160_01.row)) : (kk.heap_1 w.params).In h₀ → True := by
  revert h
  k_fill
  exact fun _ _ => trivial
theorem wd_name (p : Params) : nsIn (kk.heap_1 p) mainGlobals (Str.ofString "Words") = some (some (.ref 200)) := by k_is
theorem wd_keep (p : Params) : keepIn (kk.heap_1 p) (.ref 200) = true := by k_is
theorem rows_at {tl rl : Led} {rs : List (List Dat)} (h : RowsR tl rl rs) : ∀ {i : Nat} {v : Value}, (refs rl)[i]? = some v → ∃ q us k r, v = .ref q ∧ (q, listOf us.toArray k) ∈ rl ∧ rs[i]? = some r ∧ DatAll tl us r ∧ r.length ≤ 9 := by
  induction h with
  | nil => intro i v e; simp [refs] at e
  | @cons a vs n ds rl rs h1 h2 _ ih =>
    intro i v e
    cases i with
    | zero => simp [refs] at e; subst e; exact ⟨a, vs, n, ds, rfl, .head _, rfl, h1, h2⟩
    | succ i =>
      simp only [refs, List.map_cons, List.getElem?_cons_succ] at e
      obtain ⟨q, us, k, r, e1, e2, e3, e4, e5⟩ := ih e
      exact ⟨q, us, k, r, e1, .tail _ e2, by simpa using e3, e4, e5⟩
section
variable {cs : Scope}
theorem R.tupRows {x y : Str} {i : Nat} {scope : Scope} {p1 p2 p3 p4 p5 p6 : Pos} (hx : slotOf cs x = some (.local, i)) (hS : CompSc scope y) (ht : ∀ env C, (compEnvC scope [] C env).kindOf (Str.ofString "tuple") = some .globalImplicit) : SoundE cs (.ListComp (.Call (.Name (Str.ofString "tuple") p1) [.Name y p2] [] p3) [⟨.Name y p4, .Name x p5, [], 0⟩] scope p6) (E.tupRows i) := fun n C hCt st P X hP φ rest ω mv s Q E hE H V ret exc => by
  obtain ⟨u, e1, h⟩ := onSome_e (show getM st.m i _ from hP)
  obtain ⟨hd, h⟩ := onT_e h
  obtain ⟨j, rfl, hh⟩ := asG_e h; replace h := hh; clear hh
  obtain ⟨o, ho, h⟩ := onSome_e h
  obtain ⟨rs, rfl, hh⟩ := oBk_e h; replace h := hh; clear hh
  obtain ⟨hlen, h⟩ := onT_e h
  have hlen := Nat.le_of_ble_eq_true hlen
  obtain ⟨a, e2, hv⟩ := V x .local i hx _ e1 hd
  obtain ⟨gl, fl, K⟩ := id H
  obtain ⟨B, rl, k, rfl, m1, mr, R1, hl⟩ := K.bk hv ho
  have hrl : rl.length = rs.length := by have := rows_len R1; simpa using this
  have hsz : (refs rl).length = rs.length := by simp [refs, hrl]
  let J : Nat → List Value → Led → Prop := fun i ys nw => ∃ tl', nw = lay gl ⟨ω.ga, tl'⟩ (fl ++ rest) ∧ (∀ p ∈ ω.tl, p ∈ tl') ∧ Dj nw ∧ DatAll tl' ys ((rs.reverse.take i).map .tuple)
  refine LCg.ListComp_U K.F (hS.hc _) hS.hcell hS.hk hS.hn hS.hy (nameX_L K.F e2 ?_ φ.hk (slot_e hx).1 (slot_e hx).2) (fun _ => rfl)
  refine LCg.CompSrc.ledger rfl K.F K.N m1 (by rw [List.size_toArray, sizeLine_eq]; omega) fun g' => comp_ind J ⟨ω.tl, rfl, fun _ h => h, K.d, .nil⟩ ?_ ?_
  · rintro i ys nw hi' ⟨tl', rfl, le, dj, dy⟩ v K1 oK C1 oC D m₂ h2 tk E' hv' hNs hm F2 N2 off ne
    obtain ⟨q, us, k2, r, rfl, hq, hr, dr, h9⟩ := rows_at R1 (show (refs rl)[i]? = some v by simpa using hv')
    have off' := off3_all off
    have mem : ∀ p ∈ lay gl ω (fl ++ rest), p ∈ lay gl ⟨ω.ga, tl'⟩ (fl ++ rest) := fun p hp => by
      simp only [lay, List.mem_append] at hp ⊢
      rcases hp with hp | hp | hp
      · exact .inl hp
      · exact .inr (.inl (le p hp))
      · exact .inr (.inr hp)
    refine Call_ (LCgL.ld_built F2 φ.X φ.T (n_tuple _) b_tuple (by decide) ?_ rfl rfl (hS.hf _ _) (ht _ _) (by decide))
    refine PyProof.Rows.callWith_type1 (args_cons (LCgL.ld_own N2 (.tail _ (.head _)) hNs hm (args_nil ?_) (hS.hf _ _) (hS.hl _ _) hS.hd) rfl) rfl rfl
    refine tup_of (s := ⟨h2, s.gens, s.drawn, tk, s.os⟩) F2 N2 (.tail _ (.tail _ (.tail _ (mem _ (mr _ hq))))) (by rw [dr.length]; omega) fun T h3 F3 N3 lt => ?_
    have lt4 : ∀ p ∈ lay gl ⟨ω.ga, tl'⟩ (fl ++ rest), p.1 < T := fun p hp => lt p (.tail _ (.tail _ (.tail _ hp)))
    have pm := perm_mid gl.flatten tl' (fl ++ rest) (T, ({ cls := .type "tuple", data := .seq us.toArray } : Obj))
    refine LCg.CompEnd.intro F3 N3 (lay gl ⟨ω.ga, (T, { cls := .type "tuple", data := .seq us.toArray }) :: tl'⟩ (fl ++ rest)) (fun p hp => ?_) (off3_of fun p hp => ?_) (.inr ⟨_, pm.mem_iff.mp (.tail _ (mem _ m1)), rfl, _, rfl⟩) (show J (i + 1) (ys ++ [_]) _ from ⟨_, rfl, fun p hp => .tail _ (le p hp), (Dj.cons (fun q hq => Nat.ne_of_lt (lt4 q hq)) dj).perm pm, ?_⟩)
    · rcases List.mem_cons.mp hp with rfl | hp
      · exact .tail _ (.head _)
      · rcases List.mem_cons.mp hp with rfl | hp
        · exact .tail _ (.tail _ (.head _))
        · rcases List.mem_cons.mp hp with rfl | hp
          · exact .tail _ (.tail _ (.tail _ (.head _)))
          · rcases List.mem_cons.mp (pm.mem_iff.mpr hp) with rfl | hp
            · exact .head _
            · exact .tail _ (.tail _ (.tail _ (.tail _ hp)))
    · rcases List.mem_cons.mp (pm.mem_iff.mpr hp) with rfl | hp
      · exact ⟨Nat.ne_of_gt (lt _ (.head _)), Nat.ne_of_gt (lt _ (.tail _ (.head _))), Nat.ne_of_gt (lt _ (.tail _ (.tail _ (.head _))))⟩
      · exact off' p hp
    · have e3 : rs.reverse.take (i + 1) = rs.reverse.take i ++ [r] := by rw [List.take_add_one, hr]; rfl
      rw [e3, List.map_append]
      exact (dy.mono fun p hp => .tail _ hp).append (.cons (.tuple (.head _) (DatAll.mono (fun p hp => .tail _ (le p hp)) dr)) .nil)
  · rintro ys nw ⟨tl', rfl, le, dj, dy⟩
    unfold LCg.FinE
    intro D h2 tk2 F2 N2 off
    rw [List.size_toArray, List.take_of_length_le (by rw [hsz]; simp)] at dy
    have K2 : Ok φ rest ⟨ω.ga, tl'⟩ mv st.g gl fl h2 := ⟨F2, fun p hp => N2 p (.tail _ hp), K.f, K.o.mono le, dj⟩
    obtain ⟨hle2, H2, hD⟩ := Ok.keepN (v := .ref D) (d := .list (rs.reverse.map .tuple)) K2 F2 N2 (off1_all off) fun tl' m k => .list m (DatAll.mono k dy)
    have le2 : ω.Le ⟨ω.ga, tl'⟩ := ⟨⟨[], by simp⟩, le⟩
    exact ret (.d (.list (rs.reverse.map .tuple))) _ st _ mv h2 tk2 (le2.trans hle2) H2 (V.mono (le2.trans hle2)) hD h
end
section
variable {cs : Scope}
theorem R.newWd {e : PySem.Expr} {t : ETr} {p q : Pos} (hs : SoundE cs e t) (hx : cs.names.lookup (Str.ofString "Words") = some .globalImplicit) (h1 : ∀ env, starEach [e] env = (false, eval e env) :: starEach [] env) : SoundE cs (.Call (.Name (Str.ofString "Words") p) [e] [] q) (E.newWd t) := fun n C hC st P X hP φ rest ω mv s Q E hE H V ret exc => by
  obtain ⟨gl0, fl0, K0⟩ := id H
  refine Call_ (nameX_K K0.F φ.X (topRead_of φ.T) (wd_name _) ?_ φ.hk hx (by decide))
  refine callWith_K φ.X (wd_keep _) (args_cons (hs n C hC st _ X hP φ rest ω mv s _ E hE H V (fun v b st1 ω1 mv1 g1 tk1 l1 H1 V1 hv hp => args_nil ?_) exc) (h1 _)) (h1 _) rfl
  obtain ⟨ds, rfl, hh⟩ := asLst_e hp; replace hp := hh; clear hh
  obtain ⟨hlen, hp⟩ := onT_e hp
  have hlen := Nat.le_of_ble_eq_true hlen
  obtain ⟨gl, fl, K⟩ := H1
  refine ⟨φ.X.keeps K.F.keep, ?_⟩
  obtain ⟨l, vs, k, rfl, m1, d1⟩ := hv.lst
  obtain ⟨h₀, G, F, N, dj⟩ := K.real
  have m2 : (l, listOf vs.toArray k) ∈ lay gl ω1 rest := List.mem_append_right _ (List.mem_append_left _ m1)
  refine con_use (s := { s with heap := g1, toks := tk1 }) G.B F G.X N G.T φ.hk (words_new (vs := vs) (k := k) (news := lay gl ω1 rest) (by rw [d1.length]; exact hlen)) (fun p hp => by
    rcases List.mem_cons.mp hp with rfl | hp
    · exact m2
    · exact hp) (by have := φ.hd; omega) (by have := φ.hu; omega) ?_
  rintro r news' h' tk' F' N' ⟨W, D, R, t1, t2, t3, t4, t5, u, c, rfl, rfl, lt, lt2, lt3⟩
  have lt4 : ∀ p ∈ lay gl ω1 rest, p.1 < D := fun p hp => lt p (.tail _ hp)
  have e : lay (gl ++ [[(W, instObj 200 D), (D, dictOf (esW φ.w R 0 0 t1 t2 t3 t4 t5) u), (R, listOf vs.toArray c)]]) ⟨ω1.ga ++ [[W, D, R]], ω1.tl⟩ rest = gl.flatten ++ ([(W, instObj 200 D), (D, dictOf (esW φ.w R 0 0 t1 t2 t3 t4 t5) u), (R, listOf vs.toArray c)] ++ (ω1.tl ++ rest)) := by
    unfold lay
    rw [List.flatten_append, List.append_assoc]
    rfl
  have pm : ((R, listOf vs.toArray c) :: (W, instObj 200 D) :: (D, dictOf (esW φ.w R 0 0 t1 t2 t3 t4 t5) u) :: lay gl ω1 rest).Perm (lay (gl ++ [[(W, instObj 200 D), (D, dictOf (esW φ.w R 0 0 t1 t2 t3 t4 t5) u), (R, listOf vs.toArray c)]]) ⟨ω1.ga ++ [[W, D, R]], ω1.tl⟩ rest) := by
    rw [e]
    have a1 : ([(R, listOf vs.toArray c), (W, instObj 200 D), (D, dictOf (esW φ.w R 0 0 t1 t2 t3 t4 t5) u)] : Led).Perm [(W, instObj 200 D), (D, dictOf (esW φ.w R 0 0 t1 t2 t3 t4 t5) u), (R, listOf vs.toArray c)] := (List.Perm.swap _ _ _).trans (List.Perm.cons _ (List.Perm.swap _ _ _))
    have a2 := a1.append_right (gl.flatten ++ (ω1.tl ++ rest))
    exact a2.trans (List.perm_append_comm_assoc _ _ _)
  have hlt2 : D < W := lt2
  have hlt3 : W < R := lt3
  have dW : Dj ((R, listOf vs.toArray c) :: (W, instObj 200 D) :: (D, dictOf (esW φ.w R 0 0 t1 t2 t3 t4 t5) u) :: lay gl ω1 rest) := by
    refine Dj.cons (fun q hq => ?_) (Dj.cons (fun q hq => ?_) (Dj.cons (fun q hq => Nat.ne_of_lt (lt4 q hq)) dj))
    · rcases List.mem_cons.mp hq with rfl | hq
      · exact Nat.ne_of_lt hlt3
      · rcases List.mem_cons.mp hq with rfl | hq
        · exact Nat.ne_of_lt (Nat.lt_trans hlt2 hlt3)
        · exact Nat.ne_of_lt (Nat.lt_trans (lt4 q hq) (Nat.lt_trans hlt2 hlt3))
    · rcases List.mem_cons.mp hq with rfl | hq
      · exact Nat.ne_of_lt hlt2
      · exact Nat.ne_of_lt (Nat.lt_trans (lt4 q hq) hlt2)
  have ob : ObjR φ.w ω1.tl (.wd ds 0 0) [W, D, R] [(W, instObj 200 D), (D, dictOf (esW φ.w R 0 0 t1 t2 t3 t4 t5) u), (R, listOf vs.toArray c)] := ⟨W, D, R, t1, t2, t3, t4, t5, u, vs, c, rfl, rfl, d1, hlen⟩
  obtain ⟨fl6, K6⟩ := Ok.of (φ := φ) (rest := rest) (ω := ⟨ω1.ga ++ [[W, D, R]], ω1.tl⟩) (g := st1.g ++ [.wd ds 0 0]) (gl := gl ++ [[(W, instObj 200 D), (D, dictOf (esW φ.w R 0 0 t1 t2 t3 t4 t5) u), (R, listOf vs.toArray c)]]) G F' (fun p hp => N' p (by
    rcases List.mem_cons.mp (pm.mem_iff.mpr hp) with rfl | hp
    · exact .head _
    · rcases List.mem_cons.mp hp with rfl | hp
      · exact .tail _ (.head _)
      · rcases List.mem_cons.mp hp with rfl | hp
        · exact .tail _ (.tail _ (.head _))
        · exact .tail _ (.tail _ (.tail _ (.tail _ hp))))) (K.o.snoc ob) (dW.perm pm)
  have le2 : ω1.Le ⟨ω1.ga ++ [[W, D, R]], ω1.tl⟩ := ⟨⟨_, rfl⟩, fun _ h => h⟩
  refine ret (.g st1.g.length) (.ref W) (st1.new (.wd ds 0 0)) _ mv1 h' tk' (l1.trans le2) ⟨_, fl6, K6⟩ (V1.mono le2) ⟨W, [D, R], ?_, rfl⟩ hp
  show (ω1.ga ++ [[W, D, R]])[st1.g.length]? = _
  rw [← K.o.length, List.getElem?_append_right (Nat.le_refl _), Nat.sub_self]
  rfl
end
theorem Cn_ok {T : PV → Option FTr} (hT : ∀ f t, T f = some t → SoundF f t) : ∀ n, COk n (Cn T n)
  | 0 => fun _ _ _ _ _ h => h.elim
  | n + 1 => fun F args g P X h => by
    unfold Cn at h
    split at h
    · rename_i t ht
      exact hT F t ht n (Cn T n) (Cn_ok hT n) args g P X h
    · exact h.elim
/-! a cell is taken out of the ledger -/
section
variable {tl tl' : Led} (hs : ∀ p ∈ tl, (∀ u, p.2.data ≠ .cell u) → p ∈ tl')
include hs
mutual
theorem dat_less : ∀ {v : Value} {d : Dat}, DatIn tl v d → DatIn tl' v d
  | _, _, .none => .none
  | _, _, .bool b => .bool b
  | _, _, .int i t => .int i t
  | _, _, .str x t => .str x t
  | _, _, .bytes b t => .bytes b t
  | _, _, .tuple h r => .tuple (hs _ h fun u e => by cases e) (dats_less r)
  | _, _, .list h r => .list (hs _ h fun u e => by cases e) (dats_less r)
theorem dats_less : ∀ {vs : List Value} {ds : List Dat}, DatAll tl vs ds → DatAll tl' vs ds
  | _, _, .nil => .nil
  | _, _, .cons h r => .cons (dat_less h) (dats_less r)
end
theorem rows_less {rl : Led} {rs : List (List Dat)} (h : RowsR tl rl rs) : RowsR tl' rl rs := by
  induction h with
  | nil => exact .nil
  | cons h1 h2 _ ih => exact .cons (dats_less hs h1) h2 ih
theorem obj_less {w : World} {o : PObj} {as : List Addr} {cs : Led} (h : ObjR w tl o as cs) : ObjR w tl' o as cs := by
  cases o with
  | lst ds => obtain ⟨a, vs, n, h1, h2, h3, h4⟩ := h; exact ⟨a, vs, n, h1, h2, dats_less hs h3, h4⟩
  | bk rs => obtain ⟨a, rl, n, h1, h2, h3, h4⟩ := h; exact ⟨a, rl, n, h1, h2, rows_less hs h3, h4⟩
  | wd rows ix dp => obtain ⟨W, D, R, t1, t2, t3, t4, t5, e, vs, n, h1, h2, h3, h4⟩ := h; exact ⟨W, D, R, t1, t2, t3, t4, t5, e, vs, n, h1, h2, dats_less hs h3, h4⟩
  | cell x => obtain ⟨a, o, u, h1, h2, h3, h4⟩ := h; exact ⟨a, o, u, h1, h2, h3, fun d e => (h4 d e).imp fun v h => ⟨h.1, dat_less hs h.2⟩⟩
  | tab made =>
    obtain ⟨l, h1, h2, h3, h4⟩ := h
    refine ⟨l, h1, h2, h3, fun p hp => ?_⟩
    obtain ⟨L, e, oc, vs, t, h5, h6, h7⟩ := h4 p hp
    exact ⟨L, e, oc, vs, t, hs _ h5 (fun u e => by rw [h6] at e; cases e), h6, h7⟩
  | gone => exact h
theorem objs_less {w : World} {g : List PObj} {ga : List (List Addr)} {gl : List Led} (h : ObjsR w tl g ga gl) : ObjsR w tl' g ga gl := by
  induction h with
  | nil => exact .nil
  | cons h1 _ ih => exact .cons (obj_less hs h1) ih
end
noncomputable def oGone : PObj → Prop → Prop
  | .gone, k => k
  | _, _ => False
theorem oGone_e {o : PObj} {k : Prop} (h : oGone o k) : o = .gone ∧ k := by
  cases o with
  | gone => exact ⟨rfl, h⟩
  | _ => exact h.elim
section
variable {cs : Scope} {n : Nat} {φ : Fm cs n} {rest : Led} {ω : Wo} {mv : Str → Option Value} {g : List PObj} {gl : List Led} {fl : Led} {h : Heap} {jc : Nat} {x : Dat} {ca : Addr}
theorem Ok.freeze (K : Ok φ rest ω mv g gl fl h) (e : g[jc]? = some (.cell (some x))) (ea : ω.ga[jc]? = some [ca]) : ∃ o a, OkE φ rest ⟨ω.ga, (ca, o) :: ω.tl⟩ mv (g.set jc .gone) h ∧ o.data = .cell (some a) ∧ DatIn ω.tl a x ∧ (ca, o) ∉ ω.tl := by
  obtain ⟨as, cl, l1, l2, f1, rfl, ⟨ca', o, u, rfl, rfl, q3, q4⟩, f4⟩ := K.o.at e
  rw [ea] at f1
  cases f1
  obtain ⟨a, rfl, ha⟩ := q4 x rfl
  have pm : (lay (l1 ++ [(ca, o)] :: l2) ω (fl ++ rest)).Perm (lay (l1 ++ [] :: l2) ⟨ω.ga, (ca, o) :: ω.tl⟩ (fl ++ rest)) := by
    have e1 : lay (l1 ++ [(ca, o)] :: l2) ω (fl ++ rest) = l1.flatten ++ (ca, o) :: (l2.flatten ++ (ω.tl ++ (fl ++ rest))) := by simp [lay]
    have e2 : lay (l1 ++ [] :: l2) ⟨ω.ga, (ca, o) :: ω.tl⟩ (fl ++ rest) = (l1.flatten ++ l2.flatten) ++ (ca, o) :: (ω.tl ++ (fl ++ rest)) := by simp [lay]
    rw [e1, e2]
    refine List.perm_middle.trans ?_
    refine List.Perm.trans ?_ List.perm_middle.symm
    simp
  refine ⟨o, a, ⟨_, fl, K.F, fun p hp => K.N p (pm.mem_iff.mpr hp), K.f, (f4 .gone [] rfl).mono fun p hp => .tail _ hp, K.d.perm pm⟩, q3, ha, fun hm => ?_⟩
  have d := (K.d.perm pm)
  have e2 : lay (l1 ++ [] :: l2) ⟨ω.ga, (ca, o) :: ω.tl⟩ (fl ++ rest) = (l1.flatten ++ l2.flatten) ++ (ca, o) :: (ω.tl ++ (fl ++ rest)) := by simp [lay]
  rw [e2] at d
  exact d.mid.2 _ (List.mem_append_left _ hm) rfl
theorem Ok.thaw {tl0 : Led} {o : Obj} {a : Value} (K : Ok φ rest ω mv g gl fl h) (hm : (ca, o) ∈ ω.tl) (e : g[jc]? = some .gone) (ea : ω.ga[jc]? = some [ca]) (ho : o.data = .cell (some a)) (ha : DatIn tl0 a x) (le : ∀ p ∈ tl0, p ∈ ω.tl) (no : (ca, o) ∉ tl0) :
    ∃ tl, (∀ p ∈ tl0, p ∈ tl) ∧ OkE φ rest ⟨ω.ga, tl⟩ mv (g.set jc (.cell (some x))) h ∧ ∀ v d, DatIn ω.tl v d → DatIn tl v d := by
  obtain ⟨s1, s2, e1⟩ := List.append_of_mem hm
  obtain ⟨as, cl, l1, l2, f1, rfl, f3, f4⟩ := K.o.at e
  rw [ea] at f1
  cases f1
  obtain rfl : cl = [] := f3
  have le2 : ∀ p ∈ tl0, p ∈ s1 ++ s2 := fun p hp => by
    have := le p hp
    rw [e1] at this
    rcases List.mem_append.mp this with q | q
    · exact List.mem_append_left _ q
    · rcases List.mem_cons.mp q with rfl | q
      · exact absurd hp no
      · exact List.mem_append_right _ q
  have less : ∀ p ∈ ω.tl, (∀ u, p.2.data ≠ .cell u) → p ∈ s1 ++ s2 := fun p hp hc => by
    rw [e1] at hp
    rcases List.mem_append.mp hp with q | q
    · exact List.mem_append_left _ q
    · rcases List.mem_cons.mp q with rfl | q
      · exact absurd ho (hc _)
      · exact List.mem_append_right _ q
  have pm : (lay (l1 ++ [] :: l2) ω (fl ++ rest)).Perm (lay (l1 ++ [(ca, o)] :: l2) ⟨ω.ga, s1 ++ s2⟩ (fl ++ rest)) := by
    have q1 : lay (l1 ++ [] :: l2) ω (fl ++ rest) = ((l1.flatten ++ l2.flatten) ++ s1) ++ (ca, o) :: (s2 ++ (fl ++ rest)) := by simp [lay, e1]
    have q2 : lay (l1 ++ [(ca, o)] :: l2) ⟨ω.ga, s1 ++ s2⟩ (fl ++ rest) = l1.flatten ++ (ca, o) :: (l2.flatten ++ ((s1 ++ s2) ++ (fl ++ rest))) := by simp [lay]
    rw [q1, q2]
    refine List.perm_middle.trans ?_
    refine List.Perm.trans ?_ List.perm_middle.symm
    simp
  refine ⟨s1 ++ s2, le2, ⟨_, fl, K.F, fun p hp => K.N p (pm.mem_iff.mpr hp), K.f, objs_less less (f4 _ _ ⟨ca, o, some a, rfl, rfl, ho, fun d ed => ?_⟩), K.d.perm pm⟩, fun v d hd => dat_less less hd⟩
  cases ed
  exact ⟨a, rfl, DatIn.mono le ha⟩
end
theorem fillY (h₀ : Heap) (w : World) (h : RowW.prog (OpenRow.toRowW PySem.Challenge.rw_xw0160_01.row) = RowW.prog (OpenRow.toRowW PySem.Challenge.rw_xw0160_01.row)) : (kk.heap_1 w.params).In h₀ → True := by
  revert h
  k_fill
  exact fun _ _ => trivial
theorem hd309 (p : Params) : codeHdIn (kk.heap_1 p) 309 307 = true := by first | rfl | kernel_rfl
/-! the table of the lambdas' code -/
noncomputable def addLam (made : List Nat) (j : Nat) : List Nat := if made.any (Nat.beq j) then made else made ++ [j]
noncomputable def oTab : PObj → (List Nat → Prop) → Prop
  | .tab made, k => k made
  | _, _ => False
theorem oTab_e {o : PObj} {k : List Nat → Prop} (h : oTab o k) : ∃ made, o = .tab made ∧ k made := by
  cases o with
  | tab made => exact ⟨made, rfl, h⟩
  | _ => exact h.elim
noncomputable def LamOwn (w : World) (j : Nat) (L : Lam) : Prop := lamAt w j = some L ∧ ∀ k L', lamAt w k = some L' → L'.pos.line = L.pos.line → L'.pos.col = L.pos.col → k = j
theorem tab_look {w : World} {tl : Led} {j : Nat} {L : Lam} (hL : LamOwn w j L) : ∀ {l : List (Nat × Addr)}, CodesAt w tl l → TriplesOk (tabPs w l) ∧ ((∃ c, (j, c) ∈ l ∧ codeAmong L.pos (tabPs w l) = some (.ref c)) ∨ ((∀ p ∈ l, p.1 ≠ j) ∧ codeAmong L.pos (tabPs w l) = none))
  | [], _ => ⟨trivial, .inr ⟨fun _ h => (nomatch h), rfl⟩⟩
  | (k, c) :: r, h => by
    obtain ⟨L', e, -⟩ := h (k, c) (.head _)
    have e : lamAt w k = some L' := e
    obtain ⟨t1, t2⟩ := tab_look hL (l := r) fun p hp => h p (.tail _ hp)
    have et : tabPs w ((k, c) :: r) = rawInt L'.pos.line :: rawInt L'.pos.col :: .ref c :: tabPs w r := by
      show (match lamAt w k with
        | some L => rawInt L.pos.line :: rawInt L.pos.col :: .ref c :: tabPs w r
        | none => []) = _
      rw [e]
    rw [et]
    refine ⟨t1, ?_⟩
    show (∃ c', (j, c') ∈ (k, c) :: r ∧ (if ((L'.pos.line : Int) == (L.pos.line : Int) && (L'.pos.col : Int) == (L.pos.col : Int)) = true then some (Value.ref c) else codeAmong L.pos (tabPs w r)) = some (.ref c')) ∨ (∀ p ∈ (k, c) :: r, p.1 ≠ j) ∧ (if ((L'.pos.line : Int) == (L.pos.line : Int) && (L'.pos.col : Int) == (L.pos.col : Int)) = true then some (Value.ref c) else codeAmong L.pos (tabPs w r)) = none
    by_cases q : ((L'.pos.line : Int) == (L.pos.line : Int) && (L'.pos.col : Int) == (L.pos.col : Int)) = true
    · rw [if_pos q]
      simp only [Bool.and_eq_true, beq_iff_eq] at q
      obtain rfl : k = j := hL.2 k L' e (by omega) (by omega)
      exact .inl ⟨c, .head _, rfl⟩
    · rw [if_neg q]
      have kj : k ≠ j := fun z => by
        subst z
        rw [hL.1] at e
        cases e
        exact q (by simp)
      rcases t2 with ⟨c', m, e2⟩ | ⟨m, e2⟩
      · exact .inl ⟨c', .tail _ m, e2⟩
      · refine .inr ⟨fun p hp => ?_, e2⟩
        rcases List.mem_cons.mp hp with rfl | hp
        · exact kj
        · exact m p hp
theorem tab_snoc {w : World} {tl : Led} {j : Nat} {L : Lam} {c : Addr} (hL : lamAt w j = some L) : ∀ {l : List (Nat × Addr)}, CodesAt w tl l → tabPs w (l ++ [(j, c)]) = tabPs w l ++ [rawInt L.pos.line, rawInt L.pos.col, .ref c]
  | [], _ => by
    show tabPs w [(j, c)] = _
    unfold tabPs
    rw [hL]
    rfl
  | (k, c') :: r, h => by
    obtain ⟨L', e, -⟩ := h (k, c') (.head _)
    have e : lamAt w k = some L' := e
    have ih := tab_snoc hL (c := c) (l := r) fun p hp => h p (.tail _ hp)
    show (match lamAt w k with
      | some L => rawInt L.pos.line :: rawInt L.pos.col :: .ref c' :: tabPs w (r ++ [(j, c)])
      | none => []) = (match lamAt w k with
      | some L => rawInt L.pos.line :: rawInt L.pos.col :: .ref c' :: tabPs w r
      | none => []) ++ _
    rw [e, ih]
    rfl
theorem clos_t {sc : Scope} {a b c : Str} (hn : sc.names = [(a, .local), (c, .free), (b, .globalImplicit)]) : ∀ (env : Env) (ca : Addr), env.cells.lookup c = some ca → closureFor sc env = pure [(c, ca)] := by
  intro env ca h
  unfold closureFor cellOf
  rw [hn]
  simp [h]
namespace E
noncomputable def lamCall (F : PV) (j i : Nat) (t : ETr) : ETr := fun C st P X =>
  getM st.m i fun v => asG v fun jc => onSome st.g[0]? fun o => oTab o fun made =>
    t C (st.setG 0 (.tab (addLam made j))) (fun u st2 => onSome st2.g[jc]? fun o => oCell o fun x => onSome x fun x =>
      callK C F [.lam j x, u] (st2.setG jc .gone) (fun r st3 => asD r fun y => onSome st3.g[jc]? fun o => oGone o (P (.d y) (st3.setG jc (.cell (some x))))) fun _ _ => False) X
end E
section
variable {cs : Scope} {n : Nat} {φ : Fm cs n} {rest : Led} {ω : Wo} {mv : Str → Option Value} {st : St} {s : Shared} {Q : Value → Shared → Prop} {E : Value → Shared → Prop}
theorem ObjsR.at0 {w : World} {tl : Led} {g : List PObj} {ga : List (List Addr)} {gl : List Led} (h : ObjsR w tl g ga gl) {o : PObj} (e : g[0]? = some o) : ∃ as cs ga' gl' g', g = o :: g' ∧ ga = as :: ga' ∧ gl = cs :: gl' ∧ ObjR w tl o as cs ∧ ObjsR w tl g' ga' gl' := by
  cases h with
  | nil => simp at e
  | cons h1 h2 =>
    simp at e
    subst e
    exact ⟨_, _, _, _, _, rfl, rfl, rfl, h1, h2⟩
theorem lam_new {L : Lam} {j i jc : Nat} {made : List Nat} {x : Str} (hc : (cs.names.any fun y => decide (y.2 = .cell)) = true) (hL : ∀ w, LamOwn w j L) (hn : L.name = Str.ofString "<lambda>") (hq : L.qual = (Str.ofString "_law_paths_told" ++ Str.ofString ".<locals>.") ++ Str.ofString "<lambda>") (hx : slotOf cs x = some (.cell, i)) (hcl : ∀ (env : Env) (ca : Addr), env.cells.lookup x = some ca → closureFor L.scope env = pure [(x, ca)]) (hd : ∀ env, defaultsOf L.params env = ([], []))
    (H : OkE φ rest ω mv st.g s.heap) (V : EnvR φ ω st.m mv) (e1 : st.m[i]? = some (.g jc)) (e0 : st.g[0]? = some (.tab made))
    (ret : ∀ f ca ω' h' tk', ω.ga[jc]? = some [ca] → ω.Le ω' → OkE φ rest ω' mv (st.setG 0 (.tab (addLam made j))).g h' → (∃ pm c ctv, (f, kla_obj L.name L.qual L.params L.body L.scope [(x, ca)] pm c ctv) ∈ ω'.tl ∧ CodeAt L ω'.tl c) → Q (.ref f) { s with heap := h', toks := tk' }) :
    wpAny (Mo φ.w) φ.A (eval (.Lambda L.params L.body L.scope L.pos) φ.env) Q E s := by
  obtain ⟨gl, fl, K⟩ := H
  obtain ⟨hccd, hcn⟩ := φ.hcd hc
  obtain ⟨jc', ca, q1, q2, q3⟩ := V x .cell i hx
  rw [e1] at q1
  cases q1
  obtain ⟨as, cl, ga', l2, g', eg', ega, rfl, ⟨l, rfl, rfl, hmade, hcodes⟩, ho2⟩ := K.o.at0 e0
  obtain ⟨tok, tl⟩ := tab_look (hL φ.w) hcodes
  have C309 := codeHd_of_K φ.X (hd309 φ.w.params)
  have K' : Ok φ rest ω mv st.g (([] : List Led) ++ ([] ++ (307, tabObj (tabPs φ.w l).toArray) :: []) :: l2) fl s.heap := K
  have N0 := K'.N
  have d0 := K'.d
  rw [lay_at] at N0 d0
  have hqual : φ.env.qual ++ Str.ofString "<lambda>" = L.qual := by
    rw [hq]
    show (φ.cn ++ Str.ofString ".<locals>.") ++ Str.ofString "<lambda>" = _
    rw [hcn]
  refine kla_eval (hd _) ?_
  have hm : (∃ c, (j, c) ∈ l) ↔ made.any (Nat.beq j) = true := by
    rw [← hmade, List.any_eq_true]
    constructor
    · rintro ⟨c, m⟩
      exact ⟨j, List.mem_map.mpr ⟨_, m, rfl⟩, Nat.beq_refl j⟩
    · rintro ⟨k, m, e⟩
      obtain ⟨p, mp, rfl⟩ := List.mem_map.mp m
      exact ⟨p.2, by rw [Nat.eq_of_beq_eq_true e]; exact mp⟩
  show wpAny (Mo φ.w) φ.A (makeFunction (Str.ofString "<lambda>") (φ.env.qual ++ Str.ofString "<lambda>") L.params (.expr L.body) L.scope φ.env [] [] [] L.pos L.pos.line) Q E s
  rw [hqual, ← hn]
  rcases tl with ⟨c, m, ec⟩ | ⟨m, ec⟩
  · refine kla_hit (ps := (tabPs φ.w l).toArray) K.F N0 φ.T C309 hccd (by simp) (by simpa using tok) (by simpa using ec) (hcl _ _ q3) fun f ctv h' tk F' N' lt => ?_
    have lt' : ∀ p ∈ lay (([] : List Led) ++ ([] ++ (307, tabObj (tabPs φ.w l).toArray) :: []) :: l2) ω (fl ++ rest), p.1 < f := fun p hp => lt p (by rw [lay_at] at hp; exact hp)
    obtain ⟨hle, H2, -⟩ := Ok.keep (v := .none) (d := .none) K' F' (by rw [lay_at]; exact N') lt' fun _ _ _ => .none
    obtain ⟨L', e', hco⟩ := hcodes _ m
    rw [(hL φ.w).1] at e'
    cases e'
    have eg : (st.setG 0 (.tab (addLam made j))).g = st.g := by
      unfold addLam St.setG
      rw [if_pos (hm.mp ⟨c, m⟩)]
      obtain ⟨h0, h1⟩ := List.getElem?_eq_some_iff.mp e0
      rw [← h1]
      simp
    refine ret f ca _ h' tk q2 hle (by rw [eg]; exact H2) ⟨_, c, ctv, .head _, ?_⟩
    obtain ⟨oc, vs, t, h5, h6⟩ := hco
    exact ⟨oc, vs, t, .tail _ h5, h6⟩
  · refine kla_nest (ps := (tabPs φ.w l).toArray) K.F N0 φ.T C309 hccd d0.updF (by simpa using tok) (by simpa using ec) (hcl _ _ q3) fun f c' oc vs t ctv h' tk F' N' ho hv lt lt2 => ?_
    have hno : made.any (Nat.beq j) = false := by
      cases q : made.any (Nat.beq j) with
      | false => rfl
      | true => obtain ⟨c, hc⟩ := hm.mpr q; exact absurd rfl (m _ hc)
    have et : (tabPs φ.w l).toArray ++ #[rawInt L.pos.line, rawInt L.pos.col, Value.ref c'] = (tabPs φ.w (l ++ [(j, c')])).toArray := by
      rw [tab_snoc (hL φ.w).1 hcodes]
      simp
    rw [et] at N'
    generalize hfo : kla_obj L.name L.qual L.params L.body L.scope [(x, ca)] _ c' ctv = fo at N'
    have lt' : ∀ p ∈ lay (([] : List Led) ++ ([] ++ (307, tabObj (tabPs φ.w l).toArray) :: []) :: l2) ω (fl ++ rest), p.1 < c' := fun p hp => lt p (by rw [lay_at] at hp; exact hp)
    have eL : lay (([] : List Led) ++ ([] ++ (307, tabObj (tabPs φ.w (l ++ [(j, c')])).toArray) :: []) :: l2) ⟨ω.ga, (f, fo) :: (c', oc) :: ω.tl⟩ (fl ++ rest) = (307, tabObj (tabPs φ.w (l ++ [(j, c')])).toArray) :: (l2.flatten ++ ((f, fo) :: (c', oc) :: (ω.tl ++ (fl ++ rest)))) := by simp [lay]
    have pm : ((f, fo) :: (c', oc) :: (307, tabObj (tabPs φ.w (l ++ [(j, c')])).toArray) :: (l2.flatten ++ (ω.tl ++ (fl ++ rest)))).Perm (lay (([] : List Led) ++ ([] ++ (307, tabObj (tabPs φ.w (l ++ [(j, c')])).toArray) :: []) :: l2) ⟨ω.ga, (f, fo) :: (c', oc) :: ω.tl⟩ (fl ++ rest)) := by
      rw [eL]
      have a1 : ([(f, fo), (c', oc)] ++ ((307, tabObj (tabPs φ.w (l ++ [(j, c')])).toArray) :: l2.flatten ++ (ω.tl ++ (fl ++ rest)))).Perm (((307, tabObj (tabPs φ.w (l ++ [(j, c')])).toArray) :: l2.flatten) ++ ([(f, fo), (c', oc)] ++ (ω.tl ++ (fl ++ rest)))) := List.perm_append_comm_assoc _ _ _
      exact a1
    have d1 : Dj ((307, tabObj (tabPs φ.w (l ++ [(j, c')])).toArray) :: (l2.flatten ++ (ω.tl ++ (fl ++ rest)))) := by
      have := K.d
      exact this.as (by simp [lay])
    have c0 : ∀ p ∈ (307, tabObj (tabPs φ.w (l ++ [(j, c')])).toArray) :: (l2.flatten ++ (ω.tl ++ (fl ++ rest))), p.1 < c' := fun p hp => by
      rcases List.mem_cons.mp hp with rfl | hp
      · exact lt' (307, tabObj (tabPs φ.w l).toArray) (by simp [lay])
      · refine lt' p ?_
        simp only [lay, List.nil_append, List.flatten_cons, List.cons_append, List.mem_cons]
        exact .inr hp
    have d2 : Dj ((f, fo) :: (c', oc) :: (307, tabObj (tabPs φ.w (l ++ [(j, c')])).toArray) :: (l2.flatten ++ (ω.tl ++ (fl ++ rest)))) := by
      refine Dj.cons (fun q hq => ?_) (Dj.cons (fun q hq => Nat.ne_of_lt (c0 q hq)) d1)
      rcases List.mem_cons.mp hq with rfl | hq
      · exact Nat.ne_of_lt lt2
      · exact Nat.ne_of_lt (Nat.lt_trans (c0 q hq) lt2)
    have up : ∀ p ∈ ω.tl, p ∈ (f, fo) :: (c', oc) :: ω.tl := fun p hp => .tail _ (.tail _ hp)
    have hco : CodeAt L ((f, fo) :: (c', oc) :: ω.tl) c' := ⟨oc, vs, t, .tail _ (.head _), ho, hv⟩
    have ob : ObjR φ.w ((f, fo) :: (c', oc) :: ω.tl) (.tab (made ++ [j])) [307] [(307, tabObj (tabPs φ.w (l ++ [(j, c')])).toArray)] := by
      refine ⟨l ++ [(j, c')], rfl, rfl, by rw [List.map_append, hmade]; rfl, fun p hp => ?_⟩
      rcases List.mem_append.mp hp with hp | hp
      · obtain ⟨L', e', oc', vs', t', h5, h6⟩ := hcodes p hp
        exact ⟨L', e', oc', vs', t', up _ h5, h6⟩
      · obtain rfl := List.mem_singleton.mp hp
        exact ⟨L, (hL φ.w).1, hco⟩
    have eg : (st.setG 0 (.tab (addLam made j))).g = .tab (made ++ [j]) :: g' := by
      unfold addLam St.setG
      rw [hno, if_neg Bool.false_ne_true]
      show st.g.set 0 _ = _
      rw [eg']
      rfl
    have H2 : OkE φ rest ⟨ω.ga, (f, fo) :: (c', oc) :: ω.tl⟩ mv (st.setG 0 (.tab (addLam made j))).g h' := by
      rw [eg]
      refine ⟨_, fl, F', fun p hp => N' p ?_, K.f, ?_, d2.perm pm⟩
      · simpa using pm.mem_iff.mpr hp
      · show ObjsR φ.w _ _ ω.ga _
        rw [ega]
        exact .cons ob (ho2.mono up)
    refine ret f ca ⟨ω.ga, (f, fo) :: (c', oc) :: ω.tl⟩ h' tk q2 ⟨⟨[], by simp⟩, up⟩ H2 ⟨_, c', ctv, (hfo ▸ .head _ : (f, kla_obj L.name L.qual L.params L.body L.scope [(x, ca)] ((φ.mg (Str.ofString "__name__")).getD Value.none) c' ctv) ∈ (f, fo) :: (c', oc) :: ω.tl), hco⟩
end
section
variable {cs : Scope}
theorem R.lamCall {hf : Str} {a : Addr} {L : Lam} {e : PySem.Expr} {t : ETr} {j i : Nat} {x : Str} {p1 p2 : Pos} (hnm : ∀ p, nsIn (kk.heap_1 p) mainGlobals hf = some (some (.ref a))) (hk : ∀ p, keepIn (kk.heap_1 p) (.ref a) = true) (hg : cs.names.lookup hf = some .globalImplicit) (hdd : (hf == Str.ofString "__debug__") = false)
    (hc : (cs.names.any fun y => decide (y.2 = .cell)) = true) (hL : ∀ w, LamOwn w j L) (hn : L.name = Str.ofString "<lambda>") (hq : L.qual = (Str.ofString "_law_paths_told" ++ Str.ofString ".<locals>.") ++ Str.ofString "<lambda>") (hx : slotOf cs x = some (.cell, i)) (hLx : L.x = x) (hcl : ∀ (env : Env) (ca : Addr), env.cells.lookup x = some ca → closureFor L.scope env = pure [(x, ca)]) (hd : ∀ env, defaultsOf L.params env = ([], []))
    (hs : SoundE cs e t) (h1 : ∀ env, starEach [e] env = (false, eval e env) :: starEach [] env) : SoundE cs (.Call (.Name hf p1) [.Lambda L.params L.body L.scope L.pos, e] [] p2) (E.lamCall (.fn a) j i t) := fun n C hC st P X hP φ rest ω mv s Q E hE H V ret exc => by
  subst hLx
  obtain ⟨v, e1, h⟩ := onSome_e (show getM st.m i _ from hP)
  obtain ⟨-, h⟩ := onT_e h
  obtain ⟨jc, rfl, hh⟩ := asG_e h; replace h := hh; clear hh
  obtain ⟨ob, e0, h⟩ := onSome_e h
  obtain ⟨made, rfl, hh⟩ := oTab_e h; replace h := hh; clear hh
  obtain ⟨gl0, fl0, K0⟩ := id H
  refine Call_ (nameX_K K0.F φ.X (topRead_of φ.T) (hnm _) ?_ φ.hk hg hdd)
  refine callWith_K φ.X (hk _) (args_cons (lam_new hc hL hn hq hx hcl hd H V e1 e0 fun f ca ω1 g1 tk1 eca l1 H1 hf => ?_) rfl) rfl (by rw [h1]; rfl)
  obtain ⟨pm, c, ctv, mf, hco⟩ := hf
  refine args_cons (hs n C hC (st.setG 0 (.tab (addLam made j))) _ X h φ rest ω1 mv _ _ E hE H1 (V.mono l1) (fun u b st2 ω2 mv2 h2 tk2 l2 H2 V2 hu hp => args_nil ?_) fun e sp g' ω2 h2 tk2 l2 => exc e sp g' ω2 h2 tk2 (l1.trans l2)) (h1 _)
  obtain ⟨ob, hob, hp⟩ := onSome_e hp
  obtain ⟨xo, rfl, hh⟩ := oCell_e hp; replace hp := hh; clear hh
  obtain ⟨xd, rfl, hh⟩ := onSome_e hp; replace hp := hh; clear hh
  obtain ⟨gl2, fl2, K2⟩ := H2
  have ea2 : ω2.ga[jc]? = some [ca] := (l1.trans l2).at eca
  obtain ⟨o, av, Hf, ho, hav, no⟩ := K2.freeze hob ea2
  refine ⟨φ.X.keeps K2.F.keep, ?_⟩
  have up : ∀ p ∈ ω2.tl, p ∈ (ca, o) :: ω2.tl := fun p hp => .tail _ hp
  have hlam : VR φ.w ⟨ω2.ga, (ca, o) :: ω2.tl⟩ (.lam j xd) (.ref f) := by
    obtain ⟨oc, vs, tt, h5, h6⟩ := hco
    exact ⟨L, f, pm, c, ctv, ca, o, av, (hL φ.w).1, rfl, up _ (l2.tl _ mf), ⟨oc, vs, tt, up _ (l2.tl _ h5), h6⟩, .head _, ho, hav.mono up⟩
  have hu2 : VR φ.w ⟨ω2.ga, (ca, o) :: ω2.tl⟩ u b := VR.mono ⟨⟨[], by simp⟩, up⟩ hu
  refine callH_ok hC (st := st2.setG jc .gone) hp (s := { s with heap := h2, toks := tk2 }) Hf (fun _ => rfl) (.cons hlam (.cons hu2 .nil)) (fun r b' g' ω3 h3 tk3 l3 H3 hv hP3 => ?_) fun _ _ _ _ _ _ _ _ hF => hF.elim
  obtain ⟨y, rfl, hh⟩ := asD_e hP3; replace hP3 := hh; clear hh
  obtain ⟨og, hog, hP3⟩ := onSome_e hP3
  obtain ⟨rfl, hP3⟩ := oGone_e hP3
  obtain ⟨gl3, fl3, K3⟩ := H3
  obtain ⟨tl, le', H4, conv⟩ := K3.thaw (tl0 := ω2.tl) (l3.tl _ (.head _)) hog (l3.at ea2) ho hav (fun p hp => l3.tl _ (up p hp)) no
  have le4 : ω2.Le ⟨ω3.ga, tl⟩ := ⟨l3.ga, le'⟩
  exact ret (.d y) b' ((⟨st2.m, g'⟩ : St).setG jc (.cell (some xd))) ⟨ω3.ga, tl⟩ mv2 h3 tk3 (l1.trans (l2.trans le4)) H4 (V2.mono le4) (conv _ _ hv) hP3
end
noncomputable def F.lam1 (t : ETr) (x : Dat) : FTr := fun C args g P X => match args with
  | [w] => t C ⟨[w, .d x], g⟩ (fun v st => P v st.g) X
  | _ => False
section
open PySem.Spec
variable {prog : Program} {w : World} {A A₀ : Around} {s : Shared} {K : Frag} {L : Addr} {h₀ base g₀ : Heap} {m mg mb : Str → Option Value} {news : List (Addr × Obj)} {p : Program} {loose : List Str} {mean : ExcName → Option Value} {env : Env} {outer : List Env} {R : Result → Shared → Prop}
theorem kla_codeS {name qual : Str} {params : Arguments} {body : PySem.Expr} {scope : Scope} {cl : List (Str × Addr)} {pm ctv : Value} {c' : Addr} {f : Addr} {args : Args} {binds : List (Str × Value)}
    (B : Below A₀ base outer h₀) (F : Fr h₀ L s.heap m) (X₀ : K.In h₀) (N : News h₀ L s.heap news) (T : Top p loose mean mg mb h₀) (XB : K.In base) (TB : Top p loose mean mg mb base) (D : KtsDicts (outer.filterMap (·.frame)) h₀) (T0 : KtsTurn (outer.filterMap (·.frame)) g₀ h₀)
    (hA : A.frames = some (env :: outer)) (hf : env.frame = some L) (hke : env.scope.kind = .function)
    (ho : (f, kla_obj name qual params body scope cl pm c' ctv) ∈ news) (hcd : s.heap.CodeRec (.ref c') qual) (hroom : A.depth < recursionLimit)
    (hbind : bindArgs (kla_fn name qual params body scope cl pm (.ref c') ctv) args = pure binds) (hloc : ∀ y ∈ binds, scope.names.lookup y.1 = some .local)
    (h : ∀ g L' h₁, Fr h₀ L g m → Fr g L' h₁ (fun y => binds.reverse.lookup y) → News g L' h₁ news → Below A base (env :: outer) g → K.In g → Top p loose mean mg mb g → KtsDicts ((env :: outer).filterMap (·.frame)) g →
      wpAny (model prog w) (A.deeper (envX qual scope L' f (.ref c') cl)) (eval body (envX qual scope L' f (.ref c') cl))
        (fun v s' => LeaveS ((env :: outer).filterMap (·.frame)) A₀ base outer K p loose mean mg mb g₀ h₀ L m g R v s')
        (fun e s' => wpAny (model prog w) (A.deeper (envX qual scope L' f (.ref c') cl)) (leaving (envX qual scope L' f (.ref c') cl) e) (fun _ s'' => R (.error e) s'') (fun e' s'' => R (.error e') s'') s')
        { s with heap := h₁, toks := s.toks + binds.length })
    (hco : scope.isCoroutine = false) (hgen : scope.isGenerator = false) (hk : scope.kind = .function)
    (hcell : ∀ x ∈ scope.names, x.2 ≠ .cell) : codeAny (model prog w) A (.call (.ref f) args) R s := by
  obtain ⟨FG, BG, st, DG, lv⟩ := groundXS (R := R) B F N XB TB D T0 hA hf hke
  refine kla_callFunE hroom (N _ ho).1 rfl hco hgen rfl hcd ?_
  rw [hbind]
  refine wpAny_pure (wpAny_newFunctionEnv hcell hloc (fun h₁ hns hsb => ⟨((T.nolimit).keeps F.keep).fresh _ hsb, ?_⟩) hk)
  show codeAny _ _ (.expr body (envX qual scope s.heap.objs.size f (.ref c') cl)) _ _
  have hk₁ : ∀ b o, s.heap.get? b = some o → h₁.get? b = some o := fun b o e => hsb.extBut b o (Nat.ne_of_lt (Heap.lt_size e)) (Heap.get?_push_of_some _ e)
  exact kla_codeExpr (wpAny_mono (h _ s.heap.objs.size h₁ FG ⟨hns, fun b o e => hk₁ b o (of_hideAll _ e), Nat.le_of_eq (hideAll_size _ _)⟩
    (fun p hp => ⟨hk₁ _ _ (N p hp).1, Nat.ne_of_lt (Heap.lt_size (N p hp).1), hideAll_none _ (List.mem_map_of_mem hp)⟩) BG (X₀.keeps st) (T.keeps st) DG) (fun v s' hl => lv _ _ hl) fun _ _ y => y)
end
theorem RF.lam {L : Lam} {j : Nat} {t : ETr} {x : Dat} {a b c : Str} (hL : ∀ w, lamAt w j = some L) (hn : L.scope.names = [(a, .local), (c, .free), (b, .globalImplicit)]) (hx : L.x = c) (hac : (c == a) = false) (hb : ∀ cl pm cdv ctv v, bindArgs (kla_fn L.name L.qual L.params L.body L.scope cl pm cdv ctv) { pos := [v], kw := [] } = pure [(a, v)])
    (c2 : L.scope.isCoroutine = false) (c3 : L.scope.isGenerator = false) (c4 : L.scope.kind = .function) (ht : SoundE L.scope L.body t) : SoundF (.lam j x) (F.lam1 t x) := by
  intro n C hC args g P X h cs φ rest ω mv s Q E fv vs ⟨gl, fl, K⟩ hf hv ret exc
  obtain ⟨L', f, pm, c', ctv, ca, o, av, e1, rfl, mf, hco, mo, ho, hav⟩ := hf
  obtain rfl : L' = L := by rw [hL φ.w] at e1; cases e1; rfl
  match args, h, hv with
  | [wv], h, .cons hw .nil =>
  rename_i v
  obtain ⟨h₀, G, F, N, d⟩ := K.real
  have inl : ∀ p ∈ ω.tl, p ∈ lay gl ω rest := fun p hp => List.mem_append_right _ (List.mem_append_left _ hp)
  have hcell : ∀ x ∈ L'.scope.names, x.2 ≠ .cell := by
    rw [hn]
    intro y hy
    simp only [List.mem_cons, List.not_mem_nil, or_false] at hy
    rcases hy with rfl | rfl | rfl <;> (intro q; cases q)
  obtain ⟨oc, vs', tt, h5, h6, h7⟩ := hco
  refine wpAny_call ?_
  refine kla_codeS G.B F G.X N G.T φ.XB φ.TB G.D G.K rfl rfl φ.hk (inl _ mf) (codeRec_news N (inl _ h5) h6 h7) (by have := φ.hd; show φ.dp < _; omega) (hb _ _ _ _ v) (fun y hy => by
    obtain rfl := List.mem_singleton.mp hy
    rw [hn]
    exact lkt (by simp)) ?_ c2 c3 c4 hcell
  intro g₁ L1 h₁ FG F' N' B' X' T' D'
  have nd := G.off F
  let φ' : Fm L'.scope n := φ.callee L'.scope c4 L'.qual L1 f (.ref c') [(L'.x, ca)] g₁ B' D' nd fun hany => by
    obtain ⟨y, hy, hd⟩ := List.any_eq_true.mp hany
    exact absurd (of_decide_eq_true hd) (hcell y hy)
  obtain ⟨fl', K'⟩ := Ok.of (φ := φ') (rest := rest) (ω := ω) (g := g) (gl := gl) (h₁ := g₁) ⟨B', KtsTurn.refl⟩ F' N' K.o d
  have hV : EnvR φ' ω [wv, .d x] (fun y => List.lookup y [(a, v)].reverse) := by
    intro y k i e
    have e' : slotGo y L'.scope.names 0 = some (k, i) := by
      unfold slotOf at e
      split at e
      · cases e
      · exact e
    rw [hn] at e'
    unfold slotGo at e'
    split at e'
    · rename_i q
      cases e'
      subst q
      intro u hu hd
      simp at hu
      subst hu
      exact ⟨v, lkt (by simp), hw⟩
    · unfold slotGo at e'
      split at e'
      · rename_i q
        cases e'
        subst q
        intro u hu hd
        simp at hu
        subst hu
        refine ⟨ca, o, av, ?_, mo, ho, hav⟩
        show List.lookup c [(L'.x, ca)] = some ca
        rw [hx]
        exact lkt (by simp)
      · unfold slotGo at e'
        split at e'
        · cases e'
          trivial
        · cases e'
  refine ht n C hC _ _ _ h φ' rest ω _ _ _ _ PassesOwn.leaving ⟨gl, fl', K'⟩ hV ?_ ?_
  · rintro r b' st' ω' mv' h' tk' hle ⟨gl2, fl2, K2⟩ hE hab hP
    obtain ⟨h₂, G2, F2, N2, d2⟩ := K2.real
    exact leaveS_r F2 N2 G2.K fun h₃ T3 F3 N3 B3 X3 P3 D3 => ret r b' _ ω' h' tk' hle (by
      obtain ⟨fl3, K3⟩ := Ok.of (φ := φ) (rest := rest) (ω := ω') (g := st'.g) (gl := gl2) ⟨B3, T3⟩ F3 N3 K2.o d2
      exact ⟨gl2, fl3, K3⟩) hab hP
  · intro e sp g' ω' h' tk' hle hX hXp
    exact leave_X (s := { s with heap := h', toks := tk' }) G FG hX fun h'' tk'' hX2 => exc e sp g' ω' h'' tk'' hle hX2 hXp
noncomputable def F.cells2 (mm : List PV) (b : STr) : FTr := fun C args g P X => match args, g with
  | [], [.tab made] => b C ⟨mm, [.tab made, .cell none, .cell none]⟩ (F.fin P) X
  | _, _ => False
structure Cells2 (scope : Scope) (x1 x2 : Str) (mm : List PV) : Prop where
  hf : ∀ L, cellsFrom (L + 1) scope.names [] = [(x2, L + 1 + 1), (x1, L + 1)]
  hnd : ((cellsFrom 0 scope.names []).map (·.1)).Nodup
  ne : (x1 == x2) = false
  nofree : ∀ y ∈ scope.names, y.2 ≠ .free
  at1 : ∀ x i, slotOf scope x = some (.cell, i) → (x = x1 ∧ mm[i]? = some (.g 1)) ∨ (x = x2 ∧ mm[i]? = some (.g 2))
  loc : ∀ x i v, slotOf scope x = some (.local, i) → mm[i]? = some v → isDef v = false
theorem RF.cells {f : Addr} {qual : Str} {params : Arguments} {body : List Stmt} {scope : Scope} {dV kV doc pm cdv ct oc : Value} {an odd : Option Addr} {osl : Array (Option Value)} {b : STr} {x1 x2 : Str} {mm : List PV} {name : Str}
    (hl : ∀ p, List.lookup f (kk.heap_1 p) = some { cls := oc, dict := odd, data := Data.func (fnOf name qual params body scope dV kV doc pm an cdv ct), slots := osl }) (hc : ∀ p, codeIn (kk.heap_1 p) cdv qual = true) (hcd : cdv = .ref 309 ∧ qual = Str.ofString "_law_paths_told")
    (hbind : ∀ s, BindsTo s (fnOf name qual params body scope dV kV doc pm an cdv ct) { pos := [], kw := [] } []) (H2 : Cells2 scope x1 x2 mm) (c2 : scope.isCoroutine = false) (c3 : scope.isGenerator = false) (c4 : scope.kind = .function) (hb : SoundSs scope body b) : SoundF (.fn f) (F.cells2 mm b) := by
  intro n C hC args g P X h cs φ rest ω mv s Q E fv vs ⟨gl, fl, K⟩ hf hv ret exc
  obtain rfl : fv = .ref f := hf
  match args, g, h, hv with
  | [], [.tab made], h, .nil =>
  obtain ⟨h₀, G, F, N, d⟩ := K.real
  refine wpAny_call ?_
  refine code_defSC G.B F G.X N G.T φ.XB φ.TB G.D G.K rfl rfl φ.hk (hl _) (hc _) (by have := φ.hd; show φ.dp < _; omega) (hbind s) rfl H2.hnd ?_ c2 c3 c4
  intro g₁ L' h₁ tk cells FG F' N' Y B' X' T' D' ltL
  have eq2 := H2.hf L'
  have eenv : envOfC qual scope L' f cdv = envX qual scope L' f cdv [(x2, L' + 1 + 1), (x1, L' + 1)] := by
    show envX qual scope L' f cdv (cellsFrom (L' + 1) scope.names []) = _
    rw [eq2]
  rw [eq2] at Y
  rw [eenv]
  obtain ⟨o2, o1, rfl, ho2, ho1⟩ : ∃ o2 o1, cells = [(L' + 1 + 1, o2), (L' + 1, o1)] ∧ o2.data = .cell none ∧ o1.data = .cell none := by
    obtain ⟨o, o', e, h1, h2⟩ := CellsAre.two Y
    exact ⟨o, o', e, h1, h2⟩
  have nd := G.off F
  let φ' : Fm scope n := φ.callee scope c4 qual L' f cdv [(x2, L' + 1 + 1), (x1, L' + 1)] g₁ B' D' nd fun _ => hcd
  have pm : ([(L' + 1 + 1, o2), (L' + 1, o1)] ++ lay gl ω rest).Perm (lay (gl ++ [[(L' + 1, o1)], [(L' + 1 + 1, o2)]]) ⟨ω.ga ++ [[L' + 1], [L' + 1 + 1]], ω.tl⟩ rest) := by
    have e2 : lay (gl ++ [[(L' + 1, o1)], [(L' + 1 + 1, o2)]]) ⟨ω.ga ++ [[L' + 1], [L' + 1 + 1]], ω.tl⟩ rest = gl.flatten ++ ([(L' + 1, o1), (L' + 1 + 1, o2)] ++ (ω.tl ++ rest)) := by simp [lay]
    rw [e2]
    refine List.Perm.trans ?_ (List.perm_append_comm_assoc [(L' + 1, o1), (L' + 1 + 1, o2)] gl.flatten (ω.tl ++ rest))
    exact List.Perm.swap _ _ _
  have lt : ∀ p ∈ lay gl ω rest, p.1 < L' := ltL
  have dj : Dj ([(L' + 1 + 1, o2), (L' + 1, o1)] ++ lay gl ω rest) := by
    refine Dj.cons (fun q hq => ?_) (Dj.cons (fun q hq => ?_) d)
    · rcases List.mem_cons.mp (show q ∈ (L' + 1, o1) :: lay gl ω rest from hq) with rfl | hq
      · exact Nat.ne_of_lt (Nat.lt_succ_self _)
      · exact Nat.ne_of_lt (Nat.lt_succ_of_lt (Nat.lt_succ_of_lt (lt q hq)))
    · exact Nat.ne_of_lt (Nat.lt_succ_of_lt (lt q hq))
  have ob : ObjsR φ.w ω.tl [.tab made, .cell none, .cell none] (ω.ga ++ [[L' + 1], [L' + 1 + 1]]) (gl ++ [[(L' + 1, o1)], [(L' + 1 + 1, o2)]]) := by
    have a1 := (K.o.snoc (o := .cell none) (as := [L' + 1]) (cs := [(L' + 1, o1)]) ⟨L' + 1, o1, none, rfl, rfl, ho1, fun _ e => nomatch e⟩).snoc (o := .cell none) (as := [L' + 1 + 1]) (cs := [(L' + 1 + 1, o2)]) ⟨L' + 1 + 1, o2, none, rfl, rfl, ho2, fun _ e => nomatch e⟩
    simpa using a1
  have hga : ω.ga.length = 1 := K.o.length
  obtain ⟨fl', K'⟩ := Ok.of (φ := φ') (rest := rest) (ω := ⟨ω.ga ++ [[L' + 1], [L' + 1 + 1]], ω.tl⟩) (g := [.tab made, .cell none, .cell none]) (gl := gl ++ [[(L' + 1, o1)], [(L' + 1 + 1, o2)]]) (h₁ := g₁) ⟨B', KtsTurn.refl⟩ F' (fun p hp => N' p (pm.mem_iff.mpr hp)) ob (dj.perm pm)
  have le0 : ω.Le ⟨ω.ga ++ [[L' + 1], [L' + 1 + 1]], ω.tl⟩ := ⟨⟨_, rfl⟩, fun _ h => h⟩
  refine hb n C hC _ _ _ h φ' rest ⟨ω.ga ++ [[L' + 1], [L' + 1 + 1]], ω.tl⟩ _ _ _ _ PassesOwn.leaving ⟨_, fl', K'⟩ ?_ ?_ ?_
  · intro x k i e
    cases k with
    | «local» => exact fun v hv hd => by rw [H2.loc x i v e hv] at hd; cases hd
    | free =>
      refine absurd rfl (H2.nofree (x, .free) ?_)
      unfold slotOf at e
      split at e
      · cases e
      · exact slotGo_mem e
    | cell =>
      rcases H2.at1 x i e with ⟨rfl, e1⟩ | ⟨rfl, e1⟩
      · refine ⟨1, L' + 1, e1, ?_, ?_⟩
        · show (ω.ga ++ [[L' + 1], [L' + 1 + 1]])[1]? = _
          rw [List.getElem?_append_right (by omega), hga]
          rfl
        · show List.lookup x [(x2, L' + 1 + 1), (x, L' + 1)] = _
          rw [lkf H2.ne]
          exact lkt (by simp)
      · refine ⟨2, L' + 1 + 1, e1, ?_, ?_⟩
        · show (ω.ga ++ [[L' + 1], [L' + 1 + 1]])[2]? = _
          rw [List.getElem?_append_right (by omega), hga]
          rfl
        · exact lkt (by simp)
    | globalExplicit => trivial
    | globalImplicit => trivial
  · rintro a b' st' ω' mv' h' tk' hle ⟨gl2, fl2, K2⟩ hE hab hP
    obtain ⟨h₂, G2, F2, N2, d2⟩ := K2.real
    have fin : ∀ v u, VR φ.w ω' v u → P v st'.g → LeaveS ((φ.env :: φ.outer).filterMap (·.frame)) φ.A₀ φ.base φ.outer (kk.heap_1 φ.w.params) topProg LT φ.mean φ.mg φ.mb φ.g₀ h₀ φ.L mv g₁ (fun r s' => match r with | .ok (.ret v) => Q v s' | .ok _ => False | .error e => E e s') u { s with heap := h', toks := tk' } := fun v u hvu hPv =>
      leaveS_r F2 N2 G2.K fun h₃ T3 F3 N3 B3 X3 P3 D3 => ret v u _ ω' h' tk' (le0.trans hle) (by
        obtain ⟨fl3, K3⟩ := Ok.of (φ := φ) (rest := rest) (ω := ω') (g := st'.g) (gl := gl2) ⟨B3, T3⟩ F3 N3 K2.o d2
        exact ⟨gl2, fl3, K3⟩) hvu hPv
    cases a with
    | ret v =>
      cases b' with
      | ret u => exact fin v u hab hP
      | _ => exact hab.elim
    | next =>
      cases b' with
      | next => exact fin (.d .none) .none DatIn.none hP
      | _ => exact hab.elim
    | brk => exact hP.elim
    | cont => exact hP.elim
  · intro e sp g' ω' h' tk' hle hX hXp
    exact leave_X (s := { s with heap := h', toks := tk' }) G FG hX fun h'' tk'' hX2 => exc e sp g' ω' h'' tk'' (le0.trans hle) hX2 hXp
theorem fillC (h₀ : Heap) (w : World) (h : RowW.prog (OpenRow.toRowW PySem.Challenge.rw_xw0160_01.row) = RowW.prog (OpenRow.toRowW PySem.Challenge.rw_xw0160_01.row)) : (kk.heap_1 w.params).In h₀ → True := by
  revert h
  k_fill
  exact fun _ _ => trivial
noncomputable def o310 (p : Params) : { o : Obj // List.lookup 310 (kk.heap_1 p) = some o } := ⟨_, by k_is⟩
noncomputable def lams : { l : List Lam // ∀ p, lamsIn (kk.heap_1 p) = l } := ⟨_, fun p => by
  unfold lamsIn
  rw [(o310 p).2]
  unfold o310
  exact rfl⟩
theorem lams_two : lams.1.length = 2 := by with_unfolding_all rfl
noncomputable def L0 : { L : Lam // lams.1[0]? = some L } := ⟨_, by with_unfolding_all exact rfl⟩
noncomputable def L1 : { L : Lam // lams.1[1]? = some L } := ⟨_, by with_unfolding_all exact rfl⟩
theorem lam_at (w : World) (j : Nat) : lamAt w j = lams.1[j]? := by
  unfold lamAt
  rw [lams.2]
theorem own0 (w : World) : LamOwn w 0 L0.1 := by
  refine ⟨(lam_at w 0).trans L0.2, fun k L' h e1 e2 => ?_⟩
  rw [lam_at] at h
  have hk : k < lams.1.length := (List.getElem?_eq_some_iff.mp h).1
  rw [lams_two] at hk
  have : k = 0 ∨ k = 1 := by omega
  rcases this with rfl | rfl
  · rfl
  · rw [L1.2] at h
    cases h
    exact absurd e1 (by with_unfolding_all decide)
theorem own1 (w : World) : LamOwn w 1 L1.1 := by
  refine ⟨(lam_at w 1).trans L1.2, fun k L' h e1 e2 => ?_⟩
  rw [lam_at] at h
  have hk : k < lams.1.length := (List.getElem?_eq_some_iff.mp h).1
  rw [lams_two] at hk
  have : k = 0 ∨ k = 1 := by omega
  rcases this with rfl | rfl
  · rw [L0.2] at h
    cases h
    exact absurd e1 (by with_unfolding_all decide)
  · rfl
noncomputable def pvG : Option PV → Nat → Bool
  | some (.g k), n => Nat.beq k n
  | _, _ => false
noncomputable def pvDef : Option PV → Bool
  | some v => isDef v
  | none => false
noncomputable def cellChk (x1 x2 : Str) (mm : List PV) : List (Str × NameKind) → Nat → Bool
  | [], _ => true
  | (x, k) :: r, i => (match k with
    | .cell => (x == x1 && pvG mm[i]? 1) || (x == x2 && pvG mm[i]? 2)
    | .local => !(pvDef mm[i]?)
    | .free => false
    | _ => true) && cellChk x1 x2 mm r (i + 1)
theorem pvG_e {o : Option PV} {n : Nat} (h : pvG o n = true) : o = some (.g n) := by
  unfold pvG at h
  split at h
  · rename_i k
    rw [Nat.eq_of_beq_eq_true h]
  · cases h
theorem cellChk_e {x1 x2 : Str} {mm : List PV} : ∀ {l : List (Str × NameKind)} {n : Nat}, cellChk x1 x2 mm l n = true → (∀ y ∈ l, y.2 ≠ .free) ∧ (∀ x i, slotGo x l n = some (.cell, i) → (x = x1 ∧ mm[i]? = some (.g 1)) ∨ (x = x2 ∧ mm[i]? = some (.g 2))) ∧ ∀ x i v, slotGo x l n = some (.local, i) → mm[i]? = some v → isDef v = false
  | [], n, _ => ⟨fun _ h => (nomatch h), fun _ _ h => (by cases h), fun _ _ _ h => (by cases h)⟩
  | (y, k) :: r, n, h => by
    unfold cellChk at h
    obtain ⟨h1, h2⟩ := Bool.and_eq_true_iff.mp h
    obtain ⟨a1, a2, a3⟩ := cellChk_e h2
    refine ⟨fun z hz => ?_, fun x i e => ?_, fun x i v e hv => ?_⟩
    · rcases List.mem_cons.mp hz with rfl | hz
      · intro q
        have q : k = .free := q
        subst q
        cases h1
      · exact a1 z hz
    · unfold slotGo at e
      split at e
      · rename_i q
        cases e
        subst q
        simp only [Bool.or_eq_true, Bool.and_eq_true, beq_iff_eq] at h1
        rcases h1 with ⟨b1, b2⟩ | ⟨b1, b2⟩
        · exact .inl ⟨b1, pvG_e b2⟩
        · exact .inr ⟨b1, pvG_e b2⟩
      · exact a2 x i e
    · unfold slotGo at e
      split at e
      · rename_i q
        cases e
        subst q
        rw [hv] at h1
        simpa [pvDef] using h1
      · exact a3 x i v e hv
theorem cells2_of {scope : Scope} {x1 x2 : Str} {mm : List PV} (hf : ∀ L, cellsFrom (L + 1) scope.names [] = [(x2, L + 1 + 1), (x1, L + 1)]) (hnd : ((cellsFrom 0 scope.names []).map (·.1)).Nodup) (ne : (x1 == x2) = false) (hc : cellChk x1 x2 mm scope.names 0 = true) : Cells2 scope x1 x2 mm := by
  obtain ⟨a1, a2, a3⟩ := cellChk_e hc
  have go : ∀ {x k i}, slotOf scope x = some (k, i) → slotGo x scope.names 0 = some (k, i) := fun {x k i} e => by
    unfold slotOf at e
    split at e
    · cases e
    · exact e
  exact ⟨hf, hnd, ne, a1, fun x i e => a2 x i (go e), fun x i v e hv => a3 x i v (go e) hv⟩
section
variable {cs : Scope}
theorem RS.asgComp {e : PySem.Expr} {t : ETr} {z y f g : Str} {iz : Nat} {fa ga : Addr} {scope : Scope} {p1 p2 p3 p4 p5 p6 p7 p8 p9 pz q1 : Pos} (hz : slotOf cs z = some (.local, iz)) (hs : SoundM cs e t) (hS : CompSc scope y) (hf : ∀ env x, foldedSetIterable e env x = pure x) (gf : GlobC scope f fa) (gg : GlobC scope g ga)
    (hsw : ∀ n (φ : Fm cs n), swapsWith (.ListComp (.Name y p1) [⟨.Name y p2, e, [.Call (.Name f p4) [.Call (.Name g p5) [.List [.Name y p6] p7] [] p8] [] p9], 0⟩] scope p3) (some (.Name z pz)) q1.line φ.env = pure true) : SoundS cs (.Assign [.Name z pz] (.ListComp (.Name y p1) [⟨.Name y p2, e, [.Call (.Name f p4) [.Call (.Name g p5) [.List [.Name y p6] p7] [] p8] [] p9], 0⟩] scope p3) q1) (S.asg iz (E.comp t fa ga)) := fun n C hC st P X hP φ rest ω mv s Q E hE H V ret exc => by
  obtain ⟨gl0, fl0, K0⟩ := id H
  refine LCt.Assign_ListComp_T K0.F rfl (hsw _ φ) (hS.hc _) hS.hcell hS.hk hS.hn hS.hy (slot_e hz).1 (by show (cs.kind == .class || (cs.kind == .module && φ.L != mainGlobals)) = false; rw [φ.hk]; rfl) (hs n C hC st _ X hP φ rest ω mv s _ E H V fun v b st1 ω1 h1 tk1 l1 H1 V1 hv hp => ?_) (hf _)
  obtain ⟨gl, fl, K⟩ := H1
  obtain ⟨ds, rfl, hh⟩ := asLst_e hp; replace hp := hh; clear hh
  obtain ⟨hlen, hp⟩ := onT_e hp
  have hlen := Nat.le_of_ble_eq_true hlen
  obtain ⟨l, vs, c, rfl, m1, d1⟩ := hv.lst
  have hvl := d1.length
  let J : Nat → List Value → Led → Prop := fun i ys nw => ∃ tl' fl' acc, nw = lay gl ⟨ω1.ga, tl'⟩ (fl' ++ rest) ∧ (∀ p ∈ ω1.tl, p ∈ tl') ∧ FL φ.g₀ φ.fs fl' ∧ Dj nw ∧ DatAll tl' ys acc ∧ Mine.E.compGo fa ga C (ds.drop i) fun r => P .next (st1.setM iz (.d (.list (acc ++ r))))
  refine LCt.CompSrcT.ledger rfl K.F K.N (K.inTl m1) (by rw [List.size_toArray, sizeLine_eq]; omega) fun g' => compT_ind J ⟨ω1.tl, fl, [], rfl, fun _ h => h, K.f, K.d, .nil, hp⟩ ?_ ?_
  · rintro i ys nw hi' ⟨tl', fl', acc, rfl, le, f1, dj, dy, hgo⟩ v K1 oK C1 oC D m₂ h tk E' hv' hNs hm F2 N2 off ne
    rw [List.size_toArray] at hi'
    have hv2 : vs[i]? = some v := by simpa using hv'
    obtain ⟨x, hd⟩ : ∃ d, ds[i]? = some d := ⟨_, List.getElem?_eq_getElem (by omega)⟩
    obtain ⟨v', e1, e2⟩ := datAt d1 hd
    rw [hv2] at e1
    cases e1
    rw [dropCons hd] at hgo
    unfold Mine.E.compGo at hgo
    have off' := off3_all off
    have dx : Dj ([(K1, oK), (C1, oC), (D, LCg.lst ys)] ++ lay gl ⟨ω1.ga, tl'⟩ (fl' ++ rest)) := by
      refine Dj.cons (fun q hq => ?_) (Dj.cons (fun q hq => ?_) (Dj.cons (fun q hq => (off' q hq).2.2) dj))
      · rcases List.mem_cons.mp (show q ∈ (C1, oC) :: (D, LCg.lst ys) :: lay gl ⟨ω1.ga, tl'⟩ (fl' ++ rest) from hq) with rfl | hq
        · exact fun e => ne.1 e.symm
        · rcases List.mem_cons.mp hq with rfl | hq
          · exact fun e => ne.2.1 e.symm
          · exact (off' q hq).1
      · rcases List.mem_cons.mp (show q ∈ (D, LCg.lst ys) :: lay gl ⟨ω1.ga, tl'⟩ (fl' ++ rest) from hq) with rfl | hq
        · exact fun e => ne.2.2 e.symm
        · exact (off' q hq).2.1
    have K3 : Ok φ rest ⟨ω1.ga, tl'⟩ mv st1.g gl fl' h := ⟨F2, fun p hp => N2 p (.tail _ (.tail _ (.tail _ hp))), f1, K.o.mono le, dj⟩
    have N3 : News φ.H φ.L h [(K1, oK), (C1, oC), (D, LCg.lst ys)] := fun p hp => N2 p (by
      simp only [List.mem_cons, List.not_mem_nil, or_false] at hp ⊢
      rcases hp with h | h | h <;> simp [h])
    have K4 := K3.hide N3 dx
    refine isTrue_plain ?_ rfl
    refine Call_ (LCgL.ld_global F2 φ.X φ.T (gf.hn _) ?_ rfl (hS.hf _ _) (gf.hx _ _) gf.hd)
    refine callWith_K φ.X (gf.hk _) (args_cons (Call_ (LCgL.ld_global F2 φ.X φ.T (gg.hn _) ?_ rfl (hS.hf _ _) (gg.hx _ _) gg.hd)) rfl) rfl rfl
    refine callWith_K φ.X (gg.hk _) (args_cons (List_ (args_cons (LCgL.ld_own (news := (K1, oK) :: (C1, oC) :: (D, LCg.lst ys) :: lay gl ⟨ω1.ga, tl'⟩ (fl' ++ rest)) N2 (.tail _ (.head _)) hNs hm (args_nil ?_) (hS.hf _ _) (hS.hl _ _) hS.hd) rfl)) rfl) rfl rfl
    refine newList_K (s := ⟨h, s.gens, s.drawn, tk, s.os⟩) K4.F K4.N (fun T h2 F3 N5 lt => args_nil ⟨φ.X.keeps F3.keep, ?_⟩) (by rw [sizeLine_eq]; exact Nat.le_of_ble_eq_true rfl)
    obtain ⟨hle2, H2, hD⟩ := Ok.keep (v := .ref T) (d := .list [x]) K4 F3 N5 lt fun tl2 m k => .list m (.cons (DatIn.mono (fun p hp => k p (le p hp)) e2) .nil)
    refine callH_ok hC hgo (s := ⟨h2, s.gens, s.drawn, tk, s.os⟩) H2 (fun _ => rfl) (.cons hD .nil) (fun a b g6 ω6 h6 tk6 l6 H6 hv6 hP6 => args_nil ⟨?_, ?_⟩) fun _ _ _ _ _ _ _ _ hF => hF.elim
    · obtain ⟨_, _, K6⟩ := H6
      exact φ.X.keeps K6.F.keep
    refine callH_ok hC hP6 (s := ⟨h6, s.gens, s.drawn, tk6, s.os⟩) H6 (fun _ => rfl) (.cons hv6 .nil) (fun a7 b7 g7 ω7 h7 tk7 l7 H7 hv7 hP7 => ?_) fun _ _ _ _ _ _ _ _ hF => hF.elim
    obtain ⟨bb, rfl, hh⟩ := asBool_e hP7; replace hP7 := hh; clear hh
    cases hv7.bool
    refine wpAny_truthy_bool ?_
    obtain ⟨gl7, fl7, K7⟩ := H7
    have le7 : ∀ p ∈ tl', p ∈ ω7.tl := fun p hp => l7.tl p (l6.tl p (hle2.tl p hp))
    obtain ⟨K8, N8, d8⟩ := K3.show K7 le7
    have all8 : News φ.H φ.L h7 ((K1, oK) :: (C1, oC) :: (D, LCg.lst ys) :: lay gl ⟨ω1.ga, ω7.tl⟩ (fl7 ++ rest)) := fun p hp => by
      rcases List.mem_append.mp (show p ∈ [(K1, oK), (C1, oC), (D, LCg.lst ys)] ++ lay gl ⟨ω1.ga, ω7.tl⟩ (fl7 ++ rest) from hp) with hp | hp
      · exact N8 p hp
      · exact K8.N p hp
    have off8 : LCg.Off3 K1 C1 D (lay gl ⟨ω1.ga, ω7.tl⟩ (fl7 ++ rest)) := off3_of fun p hp => by
      have q1 := (List.nodup_cons.mp d8).1
      have q2 := (List.nodup_cons.mp (List.nodup_cons.mp d8).2).1
      have q3 := (List.nodup_cons.mp (List.nodup_cons.mp (List.nodup_cons.mp d8).2).2).1
      have mm : p.1 ∈ (lay gl ⟨ω1.ga, ω7.tl⟩ (fl7 ++ rest)).map (·.1) := List.mem_map_of_mem hp
      have mk : ∀ {a : Addr}, p.1 = a → a ∈ (lay gl ⟨ω1.ga, ω7.tl⟩ (fl7 ++ rest)).map (·.1) := fun e => by rw [← e]; exact mm
      exact ⟨fun e => q1 (List.Mem.tail _ (List.Mem.tail _ (mk e))), fun e => q2 (List.Mem.tail _ (mk e)), fun e => q3 (mk e)⟩
    have src : LCg.SrcAt φ.H l vs.toArray (lay gl ⟨ω1.ga, ω7.tl⟩ (fl7 ++ rest)) := .inr ⟨_, List.mem_append_right _ (List.mem_append_left _ (le7 _ (le _ m1))), rfl, _, rfl⟩
    cases bb with
    | true =>
      refine LCgL.ld_own (news := (K1, oK) :: (C1, oC) :: (D, LCg.lst ys) :: lay gl ⟨ω1.ga, ω7.tl⟩ (fl7 ++ rest)) all8 (.tail _ (.head _)) hNs hm ?_ (hS.hf _ _) (hS.hl _ _) hS.hd
      refine LCg.CompEnd.intro K8.F all8 _ (fun _ hp => hp) off8 src (show J (i + 1) (ys ++ [_]) _ from ⟨ω7.tl, fl7, acc ++ [x], rfl, fun p hp => le7 p (le p hp), K8.f, K8.d, (dy.mono le7).append (.cons (DatIn.mono (fun p hp => le7 p (le p hp)) e2) .nil), ?_⟩)
      simpa using hP7
    | false =>
      rw [if_neg Bool.false_ne_true]
      exact LCg.CompEnd.intro K8.F all8 _ (fun _ hp => hp) off8 src (show J (i + 1) ys _ from ⟨ω7.tl, fl7, acc, rfl, fun p hp => le7 p (le p hp), K8.f, K8.d, dy.mono le7, hP7⟩)
  · rintro ys nw ⟨tl', fl', acc, rfl, le, f1, dj, dy, hgo⟩
    unfold LCg.FinA
    intro D h2 tk2 F2 N2 off
    rw [List.size_toArray, List.drop_eq_nil_of_le (by omega)] at hgo
    have hgo : P .next (st1.setM iz (.d (.list (acc ++ [])))) := hgo
    rw [List.append_nil] at hgo
    have K2 : Ok φ rest ⟨ω1.ga, tl'⟩ _ st1.g gl fl' h2 := ⟨F2, fun p hp => N2 p (.tail _ hp), f1, K.o.mono le, dj⟩
    obtain ⟨hle2, H2, hD⟩ := Ok.keepN (v := .ref D) (d := .list acc) K2 F2 N2 (off1_all off) fun tl' m k => .list m (DatAll.mono k dy)
    have le2 : ω1.Le ⟨ω1.ga, tl'⟩ := ⟨⟨[], by simp⟩, le⟩
    exact ret .next .next (st1.setM iz (.d (.list acc))) _ _ h2 tk2 (l1.trans (le2.trans hle2)) H2 ((V1.mono (le2.trans hle2)).set hz (v := .d (.list acc)) hD) trivial hgo
end
theorem fillQ (h₀ : Heap) (w : World) (h : RowW.prog (OpenRow.toRowW PySem.Challenge.rw_xw0160_01.row) = RowW.prog (OpenRow.toRowW PySem.Challenge.rw_xw0160_01.row)) : (kk.heap_1 w.params).In h₀ → True := by
  revert h
  k_fill
  exact fun _ _ => trivial
local macro_rules | `(tactic| walk_at "cp:is") => `(tactic| with_unfolding_all first | (intro p; k_is) | ((repeat intro _); exact rfl))
local macro_rules | `(tactic| walk_at "cp:w") => `(tactic| with_unfolding_all first | ((repeat intro _); exact rfl) | decide)
local macro_rules | `(tactic| walk_at "cp:d") => `(tactic| with_unfolding_all decide)
set_option maxHeartbeats 4000000
noncomputable def d55 : { t : FTr // SoundF (.fn 55) t } := ⟨_, RF.dd 1 2 [] (by walk_at "cp:is") (by walk_at "cp:is") (by with_unfolding_all exact bind1 rfl (by intros; exact BindsTo.of_eq rfl)) (by walk_at "cp:d") rfl rfl rfl (by with_reducible exact RS.cons (RS.expr (R.meth0 (by walk_at "cp:w") mw_deeper (mcall_of (by walk_at "cp:w"))) (by walk_at "cp:w")) (RS.cons (RS.asg (by walk_at "cp:w") (R.call (by walk_at "cp:is") (by walk_at "cp:is") (by walk_at "cp:w") (by walk_at "cp:w") (Rs.cons (R.name (by walk_at "cp:w")) Rs.nil (by walk_at "cp:w")) (by walk_at "cp:w")) (by walk_at "cp:w")) (RS.cons (RS.expr (R.meth0 (by walk_at "cp:w") mw_shallower (mcall_of (by walk_at "cp:w"))) (by walk_at "cp:w")) (RS.cons (RS.ret (R.name (by walk_at "cp:w"))) RS.nil))))⟩
noncomputable def d62 : { t : FTr // SoundF (.fn 62) t } := ⟨_, RF.dd 1 6 [] (by walk_at "cp:is") (by walk_at "cp:is") (by with_unfolding_all exact bind1 rfl (by intros; exact BindsTo.of_eq rfl)) (by walk_at "cp:d") rfl rfl rfl (by with_reducible exact RS.cons (RS.asg (by walk_at "cp:w") (R.meth0 (by walk_at "cp:w") mw_peek (mcall_of (by walk_at "cp:w"))) (by walk_at "cp:w")) (RS.cons (RS.asg (by walk_at "cp:w") (R.subs (Op2.sub (pix_of (by walk_at "cp:w") (by walk_at "cp:w"))) (R.name (by walk_at "cp:w")) R.int) (by walk_at "cp:w")) (RS.cons (RS.ifte (RT.e (R.meth (by walk_at "cp:w") mw_looks (Rs.cons R.str Rs.nil (by walk_at "cp:w")) (by walk_at "cp:w") (mcall_of (by walk_at "cp:w"))) (by walk_at "cp:w")) (RS.cons (RS.ret (R.call (by walk_at "cp:is") (by walk_at "cp:is") (by walk_at "cp:w") (by walk_at "cp:w") (Rs.cons (R.name (by walk_at "cp:w")) Rs.nil (by walk_at "cp:w")) (by walk_at "cp:w"))) RS.nil) RS.nil) (RS.cons (RS.ifte (RT.or (RT.e (R.meth (by walk_at "cp:w") mw_looks (Rs.cons R.str Rs.nil (by walk_at "cp:w")) (by walk_at "cp:w") (mcall_of (by walk_at "cp:w"))) (by walk_at "cp:w")) (RT.or (RT.e (R.meth (by walk_at "cp:w") mw_looks (Rs.cons R.str Rs.nil (by walk_at "cp:w")) (by walk_at "cp:w") (mcall_of (by walk_at "cp:w"))) (by walk_at "cp:w")) RT.or0)) (RS.cons (RS.ret (R.call (by walk_at "cp:is") (by walk_at "cp:is") (by walk_at "cp:w") (by walk_at "cp:w") (Rs.cons (R.name (by walk_at "cp:w")) Rs.nil (by walk_at "cp:w")) (by walk_at "cp:w"))) RS.nil) RS.nil) (RS.cons (RS.ifte (RT.e (R.meth (by walk_at "cp:w") mw_looks (Rs.cons R.str Rs.nil (by walk_at "cp:w")) (by walk_at "cp:w") (mcall_of (by walk_at "cp:w"))) (by walk_at "cp:w")) (RS.cons (RS.ret (R.call (by walk_at "cp:is") (by walk_at "cp:is") (by walk_at "cp:w") (by walk_at "cp:w") (Rs.cons (R.name (by walk_at "cp:w")) Rs.nil (by walk_at "cp:w")) (by walk_at "cp:w"))) RS.nil) RS.nil) (RS.cons (RS.ifte (RT.e (R.meth (by walk_at "cp:w") mw_looks (Rs.cons R.str Rs.nil (by walk_at "cp:w")) (by walk_at "cp:w") (mcall_of (by walk_at "cp:w"))) (by walk_at "cp:w")) (RS.cons (RS.expr (R.meth0 (by walk_at "cp:w") mw_take (mcall_of (by walk_at "cp:w"))) (by walk_at "cp:w")) (RS.cons (RS.ret (R.tup (Rs.cons R.str (Rs.cons (R.name (by walk_at "cp:w")) Rs.nil (by walk_at "cp:w")) (by walk_at "cp:w")))) RS.nil)) RS.nil) (RS.cons (RS.ifte (RT.e (R.meth (by walk_at "cp:w") mw_looks (Rs.cons R.str Rs.nil (by walk_at "cp:w")) (by walk_at "cp:w") (mcall_of (by walk_at "cp:w"))) (by walk_at "cp:w")) (RS.cons (RS.expr (R.meth0 (by walk_at "cp:w") mw_take (mcall_of (by walk_at "cp:w"))) (by walk_at "cp:w")) (RS.cons (RS.ret (R.tup (Rs.cons R.str (Rs.cons (R.name (by walk_at "cp:w")) Rs.nil (by walk_at "cp:w")) (by walk_at "cp:w")))) RS.nil)) RS.nil) (RS.cons (RS.ret (R.tup (Rs.cons R.str (Rs.cons (R.name (by walk_at "cp:w")) (Rs.cons (R.call (by walk_at "cp:is") (by walk_at "cp:is") (by walk_at "cp:w") (by walk_at "cp:w") (Rs.cons (R.name (by walk_at "cp:w")) Rs.nil (by walk_at "cp:w")) (by walk_at "cp:w")) Rs.nil (by walk_at "cp:w")) (by walk_at "cp:w")) (by walk_at "cp:w")))) RS.nil))))))))⟩
noncomputable def d69 : { t : FTr // SoundF (.fn 69) t } := ⟨_, RF.dd 1 6 [] (by walk_at "cp:is") (by walk_at "cp:is") (by with_unfolding_all exact bind1 rfl (by intros; exact BindsTo.of_eq rfl)) (by walk_at "cp:d") rfl rfl rfl (by with_reducible exact RS.cons (RS.asg (by walk_at "cp:w") (R.subs (Op2.sub (pix_of (by walk_at "cp:w") (by walk_at "cp:w"))) (R.meth (by walk_at "cp:w") mw_expect (Rs.cons R.str Rs.nil (by walk_at "cp:w")) (by walk_at "cp:w") (mcall_of (by walk_at "cp:w"))) R.int) (by walk_at "cp:w")) (RS.cons (RS.asgs (by walk_at "cp:w") (Rs.cons (R.lstO Rs.nil) (Rs.cons R.bool Rs.nil (by walk_at "cp:w")) (by walk_at "cp:w")) (by walk_at "cp:w") (by walk_at "cp:w") (by walk_at "cp:w")) (RS.cons (RS.whl (RT.not (RT.e (R.meth (by walk_at "cp:w") mw_looks (Rs.cons R.str Rs.nil (by walk_at "cp:w")) (by walk_at "cp:w") (mcall_of (by walk_at "cp:w"))) (by walk_at "cp:w"))) (RS.cons (RS.app (by walk_at "cp:w") (R.call (by walk_at "cp:is") (by walk_at "cp:is") (by walk_at "cp:w") (by walk_at "cp:w") (Rs.cons (R.name (by walk_at "cp:w")) Rs.nil (by walk_at "cp:w")) (by walk_at "cp:w")) (by walk_at "cp:w") (mcall_of (by walk_at "cp:w")) (by walk_at "cp:w")) (RS.cons (RS.asg (by walk_at "cp:w") (R.meth (by walk_at "cp:w") mw_looks (Rs.cons R.str Rs.nil (by walk_at "cp:w")) (by walk_at "cp:w") (mcall_of (by walk_at "cp:w"))) (by walk_at "cp:w")) (RS.cons (RS.ifte (RT.not (RT.e (R.name (by walk_at "cp:w")) (by walk_at "cp:w"))) (RS.cons RS.brk RS.nil) RS.nil) (RS.cons (RS.expr (R.meth0 (by walk_at "cp:w") mw_take (mcall_of (by walk_at "cp:w"))) (by walk_at "cp:w")) RS.nil))))) (RS.cons (RS.expr (R.meth (by walk_at "cp:w") mw_expect (Rs.cons R.str Rs.nil (by walk_at "cp:w")) (by walk_at "cp:w") (mcall_of (by walk_at "cp:w"))) (by walk_at "cp:w")) (RS.cons (RS.ifte (RT.and (RT.cmp Op2.eq (by walk_at "cp:w") (R.len (by walk_at "cp:w") (R.name (by walk_at "cp:w")) (by walk_at "cp:w")) R.int) (RT.and (RT.not (RT.e (R.name (by walk_at "cp:w")) (by walk_at "cp:w"))) RT.and0)) (RS.cons (RS.ret (R.subs (Op2.sub (pix_of (by walk_at "cp:w") (by walk_at "cp:w"))) (R.name (by walk_at "cp:w")) R.int)) RS.nil) RS.nil) (RS.cons (RS.ret (R.tup (Rs.cons R.str (Rs.cons (R.name (by walk_at "cp:w")) (Rs.cons (R.tuple (by walk_at "cp:w") (R.name (by walk_at "cp:w")) (by walk_at "cp:w")) Rs.nil (by walk_at "cp:w")) (by walk_at "cp:w")) (by walk_at "cp:w")))) RS.nil))))))⟩
noncomputable def d76 : { t : FTr // SoundF (.fn 76) t } := ⟨_, RF.dd 1 7 [] (by walk_at "cp:is") (by walk_at "cp:is") (by with_unfolding_all exact bind1 rfl (by intros; exact BindsTo.of_eq rfl)) (by walk_at "cp:d") rfl rfl rfl (by with_reducible exact RS.cons (RS.asg (by walk_at "cp:w") (R.meth0 (by walk_at "cp:w") mw_take (mcall_of (by walk_at "cp:w"))) (by walk_at "cp:w")) (RS.cons (RS.asg (by walk_at "cp:w") (R.bin Op2.minus (R.bin Op2.add (R.subs (Op2.sub (pix_of (by walk_at "cp:w") (by walk_at "cp:w"))) (R.name (by walk_at "cp:w")) R.int) (R.len (by walk_at "cp:w") (R.subs (Op2.sub (pix_of (by walk_at "cp:w") (by walk_at "cp:w"))) (R.name (by walk_at "cp:w")) R.int) (by walk_at "cp:w"))) R.int) (by walk_at "cp:w")) (RS.cons (RS.asg (by walk_at "cp:w") R.nul (by walk_at "cp:w")) (RS.cons (RS.ifte (RT.cmp Op2.eq (by walk_at "cp:w") (R.subs (Op2.sub (pix_of (by walk_at "cp:w") (by walk_at "cp:w"))) (R.meth0 (by walk_at "cp:w") mw_peek (mcall_of (by walk_at "cp:w"))) R.int) R.str) (RS.cons (RS.asg (by walk_at "cp:w") (R.subs (Op2.sub (pix_of (by walk_at "cp:w") (by walk_at "cp:w"))) (R.meth0 (by walk_at "cp:w") mw_take (mcall_of (by walk_at "cp:w"))) R.int) (by walk_at "cp:w")) RS.nil) RS.nil) (RS.cons (RS.asg (by walk_at "cp:w") (R.meth (by walk_at "cp:w") mw_looks (Rs.cons R.str Rs.nil (by walk_at "cp:w")) (by walk_at "cp:w") (mcall_of (by walk_at "cp:w"))) (by walk_at "cp:w")) (RS.cons (RS.ifte (RT.e (R.name (by walk_at "cp:w")) (by walk_at "cp:w")) (RS.cons (RS.expr (R.meth0 (by walk_at "cp:w") mw_take (mcall_of (by walk_at "cp:w"))) (by walk_at "cp:w")) RS.nil) RS.nil) (RS.cons (RS.asg (by walk_at "cp:w") (R.tup (Rs.cons R.str (Rs.cons (R.name (by walk_at "cp:w")) (Rs.cons (R.name (by walk_at "cp:w")) (Rs.cons (R.name (by walk_at "cp:w")) (Rs.cons (R.call (by walk_at "cp:is") (by walk_at "cp:is") (by walk_at "cp:w") (by walk_at "cp:w") (Rs.cons (R.name (by walk_at "cp:w")) Rs.nil (by walk_at "cp:w")) (by walk_at "cp:w")) Rs.nil (by walk_at "cp:w")) (by walk_at "cp:w")) (by walk_at "cp:w")) (by walk_at "cp:w")) (by walk_at "cp:w"))) (by walk_at "cp:w")) (RS.cons (RS.ret (R.ifx (RT.cmp Op2.eq (by walk_at "cp:w") (R.subs (Op2.sub (pix_of (by walk_at "cp:w") (by walk_at "cp:w"))) (R.name (by walk_at "cp:w")) R.int) R.str) (R.name (by walk_at "cp:w")) (R.tup (Rs.cons R.str (Rs.cons (R.subs (Op2.sub (pix_of (by walk_at "cp:w") (by walk_at "cp:w"))) (R.name (by walk_at "cp:w")) R.int) (Rs.cons R.nul (Rs.cons R.bool (Rs.cons (R.name (by walk_at "cp:w")) Rs.nil (by walk_at "cp:w")) (by walk_at "cp:w")) (by walk_at "cp:w")) (by walk_at "cp:w")) (by walk_at "cp:w"))))) RS.nil))))))))⟩
noncomputable def d83 : { t : FTr // SoundF (.fn 83) t } := ⟨_, RF.dd 1 5 [] (by walk_at "cp:is") (by walk_at "cp:is") (by with_unfolding_all exact bind1 rfl (by intros; exact BindsTo.of_eq rfl)) (by walk_at "cp:d") rfl rfl rfl (by with_reducible exact RS.cons (RS.asg (by walk_at "cp:w") (R.subs (Op2.sub (pix_of (by walk_at "cp:w") (by walk_at "cp:w"))) (R.meth (by walk_at "cp:w") mw_expect (Rs.cons R.str Rs.nil (by walk_at "cp:w")) (by walk_at "cp:w") (mcall_of (by walk_at "cp:w"))) R.int) (by walk_at "cp:w")) (RS.cons (RS.asg (by walk_at "cp:w") (R.call (by walk_at "cp:is") (by walk_at "cp:is") (by walk_at "cp:w") (by walk_at "cp:w") (Rs.cons (R.name (by walk_at "cp:w")) Rs.nil (by walk_at "cp:w")) (by walk_at "cp:w")) (by walk_at "cp:w")) (RS.cons (RS.expr (R.meth (by walk_at "cp:w") mw_expect (Rs.cons R.str Rs.nil (by walk_at "cp:w")) (by walk_at "cp:w") (mcall_of (by walk_at "cp:w"))) (by walk_at "cp:w")) (RS.cons (RS.asg (by walk_at "cp:w") (R.call (by walk_at "cp:is") (by walk_at "cp:is") (by walk_at "cp:w") (by walk_at "cp:w") (Rs.cons (R.name (by walk_at "cp:w")) Rs.nil (by walk_at "cp:w")) (by walk_at "cp:w")) (by walk_at "cp:w")) (RS.cons (RS.expr (R.meth (by walk_at "cp:w") mw_expect (Rs.cons R.str Rs.nil (by walk_at "cp:w")) (by walk_at "cp:w") (mcall_of (by walk_at "cp:w"))) (by walk_at "cp:w")) (RS.cons (RS.ret (R.tup (Rs.cons R.str (Rs.cons (R.name (by walk_at "cp:w")) (Rs.cons (R.name (by walk_at "cp:w")) (Rs.cons (R.name (by walk_at "cp:w")) Rs.nil (by walk_at "cp:w")) (by walk_at "cp:w")) (by walk_at "cp:w")) (by walk_at "cp:w")))) RS.nil))))))⟩
noncomputable def d90 : { t : FTr // SoundF (.fn 90) t } := ⟨_, RF.dd 1 4 [] (by walk_at "cp:is") (by walk_at "cp:is") (by with_unfolding_all exact bind1 rfl (by intros; exact BindsTo.of_eq rfl)) (by walk_at "cp:d") rfl rfl rfl (by with_reducible exact RS.cons (RS.asg (by walk_at "cp:w") (R.meth0 (by walk_at "cp:w") mw_take (mcall_of (by walk_at "cp:w"))) (by walk_at "cp:w")) (RS.cons (RS.ifte (RT.or (RT.cmp Op2.ne (by walk_at "cp:w") (R.subs (Op2.sub (pix_of (by walk_at "cp:w") (by walk_at "cp:w"))) (R.name (by walk_at "cp:w")) R.int) R.str) (RT.or (RT.cmp Op2.ninT (by walk_at "cp:w") (R.subs (Op2.sub (pix_of (by walk_at "cp:w") (by walk_at "cp:w"))) (R.name (by walk_at "cp:w")) R.int) (R.tup (Rs.cons R.nul (Rs.cons R.str Rs.nil (by walk_at "cp:w")) (by walk_at "cp:w")))) RT.or0)) (RS.cons (RS.fault R.str (R.subs (Op2.sub (pix_of (by walk_at "cp:w") (by walk_at "cp:w"))) (R.name (by walk_at "cp:w")) R.int) (by walk_at "cp:w") (by walk_at "cp:w") (by walk_at "cp:w")) RS.nil) RS.nil) (RS.cons (RS.ifte (RT.cmp Op2.gt (by walk_at "cp:w") (R.subs (Op2.sub (pix_of (by walk_at "cp:w") (by walk_at "cp:w"))) (R.name (by walk_at "cp:w")) R.int) (R.globI (by walk_at "cp:is") (by walk_at "cp:w") (by walk_at "cp:w"))) (RS.cons (RS.fault (R.bin Op2.add (R.bin Op2.add R.str (R.strI (by walk_at "cp:w") (R.globI (by walk_at "cp:is") (by walk_at "cp:w") (by walk_at "cp:w")) (by walk_at "cp:w"))) R.str) (R.subs (Op2.sub (pix_of (by walk_at "cp:w") (by walk_at "cp:w"))) (R.name (by walk_at "cp:w")) R.int) (by walk_at "cp:w") (by walk_at "cp:w") (by walk_at "cp:w")) RS.nil) RS.nil) (RS.cons (RS.ret (R.subs (Op2.sub (pix_of (by walk_at "cp:w") (by walk_at "cp:w"))) (R.name (by walk_at "cp:w")) R.int)) RS.nil))))⟩
noncomputable def d96 : { t : FTr // SoundF (.fn 96) t } := ⟨_, RF.dd 2 3 [.d (.bool false)] (by walk_at "cp:is") (by walk_at "cp:is") (by with_unfolding_all (refine' bindD2 (v := ?v) rfl ?b ?c ?d; (case d => (intro p a s h₀ L m X F; refine' binds_K (X.keeps F.keep) rfl ?ho ?hs ?h1 ?h2; (case ho => k_is); (case hs => exact rfl); (case h1 => exact rfl); (case h2 => exact rfl))); (case c => (intro p a b s h₀ L m X F; refine' binds_K (X.keeps F.keep) rfl ?ho ?hs ?h1 ?h2; (case ho => k_is); (case hs => exact rfl); (case h1 => exact rfl); (case h2 => exact rfl))); (case b => (intro tl; first | exact .int _ _ | exact .bool _)))) (by walk_at "cp:d") rfl rfl rfl (by with_reducible exact RS.cons (RS.asg (by walk_at "cp:w") (R.lstO (Rs.cons (R.call (by walk_at "cp:is") (by walk_at "cp:is") (by walk_at "cp:w") (by walk_at "cp:w") (Rs.cons (R.name (by walk_at "cp:w")) (Rs.cons (R.tup Rs.nil) (Rs.cons (R.name (by walk_at "cp:w")) Rs.nil (by walk_at "cp:w")) (by walk_at "cp:w")) (by walk_at "cp:w")) (by walk_at "cp:w")) Rs.nil (by walk_at "cp:w"))) (by walk_at "cp:w")) (RS.cons (RS.whl (RT.e (R.meth (by walk_at "cp:w") mw_looks (Rs.cons R.str Rs.nil (by walk_at "cp:w")) (by walk_at "cp:w") (mcall_of (by walk_at "cp:w"))) (by walk_at "cp:w")) (RS.cons (RS.expr (R.meth0 (by walk_at "cp:w") mw_take (mcall_of (by walk_at "cp:w"))) (by walk_at "cp:w")) (RS.cons (RS.app (by walk_at "cp:w") (R.call (by walk_at "cp:is") (by walk_at "cp:is") (by walk_at "cp:w") (by walk_at "cp:w") (Rs.cons (R.name (by walk_at "cp:w")) (Rs.cons (R.tuple (by walk_at "cp:w") (R.comp0 (M.name (by walk_at "cp:w")) (CompSc.mk (by walk_at "cp:w") (by walk_at "cp:d") (by walk_at "cp:w") (by walk_at "cp:w") (by walk_at "cp:w") (by walk_at "cp:w") (by walk_at "cp:w") (by walk_at "cp:w")) (by walk_at "cp:w") (pix_of (by walk_at "cp:w") (by walk_at "cp:w"))) (by walk_at "cp:w")) (Rs.cons (R.name (by walk_at "cp:w")) Rs.nil (by walk_at "cp:w")) (by walk_at "cp:w")) (by walk_at "cp:w")) (by walk_at "cp:w")) (by walk_at "cp:w") (mcall_of (by walk_at "cp:w")) (by walk_at "cp:w")) RS.nil))) (RS.cons (RS.ret (R.tuple (by walk_at "cp:w") (R.name (by walk_at "cp:w")) (by walk_at "cp:w"))) RS.nil)))⟩
noncomputable def d103 : { t : FTr // SoundF (.fn 103) t } := ⟨_, RF.dd 3 3 [] (by walk_at "cp:is") (by walk_at "cp:is") (by with_unfolding_all exact bind3 rfl (by intros; exact BindsTo.of_eq rfl)) (by walk_at "cp:d") rfl rfl rfl (by with_reducible exact RS.cons (RS.asg (by walk_at "cp:w") (R.call (by walk_at "cp:is") (by walk_at "cp:is") (by walk_at "cp:w") (by walk_at "cp:w") (Rs.cons (R.name (by walk_at "cp:w")) (Rs.cons (R.name (by walk_at "cp:w")) Rs.nil (by walk_at "cp:w")) (by walk_at "cp:w")) (by walk_at "cp:w")) (by walk_at "cp:w")) (RS.cons (RS.ifte (RT.and (RT.e (R.meth (by walk_at "cp:w") mw_looks (Rs.cons R.str Rs.nil (by walk_at "cp:w")) (by walk_at "cp:w") (mcall_of (by walk_at "cp:w"))) (by walk_at "cp:w")) (RT.and (RT.e (R.meth (by walk_at "cp:w") mw_looks (Rs.cons R.str (Rs.cons R.int Rs.nil (by walk_at "cp:w")) (by walk_at "cp:w")) (by walk_at "cp:w") (mcall_of (by walk_at "cp:w"))) (by walk_at "cp:w")) RT.and0)) (RS.cons (RS.expr (R.meth0 (by walk_at "cp:w") mw_take (mcall_of (by walk_at "cp:w"))) (by walk_at "cp:w")) (RS.cons (RS.ret (R.bin Op2.add (R.tup (Rs.cons (R.name (by walk_at "cp:w")) Rs.nil (by walk_at "cp:w"))) (R.call (by walk_at "cp:is") (by walk_at "cp:is") (by walk_at "cp:w") (by walk_at "cp:w") (Rs.cons (R.name (by walk_at "cp:w")) Rs.nil (by walk_at "cp:w")) (by walk_at "cp:w")))) RS.nil)) RS.nil) (RS.cons (RS.ifte (RT.and (RT.not (RT.e (R.name (by walk_at "cp:w")) (by walk_at "cp:w"))) (RT.and (RT.e (R.meth (by walk_at "cp:w") mw_looks (Rs.cons R.str Rs.nil (by walk_at "cp:w")) (by walk_at "cp:w") (mcall_of (by walk_at "cp:w"))) (by walk_at "cp:w")) RT.and0)) (RS.cons (RS.ret (R.bin Op2.add (R.tup (Rs.cons (R.name (by walk_at "cp:w")) Rs.nil (by walk_at "cp:w"))) (R.call (by walk_at "cp:is") (by walk_at "cp:is") (by walk_at "cp:w") (by walk_at "cp:w") (Rs.cons (R.name (by walk_at "cp:w")) Rs.nil (by walk_at "cp:w")) (by walk_at "cp:w")))) RS.nil) RS.nil) (RS.cons (RS.ret (R.tup (Rs.cons (R.name (by walk_at "cp:w")) (Rs.cons (R.tup Rs.nil) (Rs.cons (R.tup Rs.nil) Rs.nil (by walk_at "cp:w")) (by walk_at "cp:w")) (by walk_at "cp:w")))) RS.nil))))⟩
noncomputable def d110 : { t : FTr // SoundF (.fn 110) t } := ⟨_, RF.dd 2 3 [] (by walk_at "cp:is") (by walk_at "cp:is") (by with_unfolding_all exact bind2 rfl (by intros; exact BindsTo.of_eq rfl)) (by walk_at "cp:d") rfl rfl rfl (by with_reducible exact RS.cons (RS.asg (by walk_at "cp:w") (R.meth0 (by walk_at "cp:w") mw_peek (mcall_of (by walk_at "cp:w"))) (by walk_at "cp:w")) (RS.cons (RS.ifte (RT.and (RT.cmp Op2.eq (by walk_at "cp:w") (R.subs (Op2.sub (pix_of (by walk_at "cp:w") (by walk_at "cp:w"))) (R.name (by walk_at "cp:w")) R.int) R.str) (RT.and (RT.cmp Op2.inT (by walk_at "cp:w") (R.subs (Op2.sub (pix_of (by walk_at "cp:w") (by walk_at "cp:w"))) (R.name (by walk_at "cp:w")) R.int) (R.globT (by walk_at "cp:is") (by walk_at "cp:is") (by walk_at "cp:w") (by walk_at "cp:w"))) RT.and0)) (RS.cons (RS.ifte (RT.or (RT.cmp Op2.eq (by walk_at "cp:w") (R.name (by walk_at "cp:w")) (R.tup Rs.nil)) (RT.or (RT.and (RT.cmp Op2.eq (by walk_at "cp:w") (R.subs (Op2.sub (pix_of (by walk_at "cp:w") (by walk_at "cp:w"))) (R.name (by walk_at "cp:w")) R.int) R.str) (RT.and (RT.cmp Op2.inT (by walk_at "cp:w") (R.subs (Op2.sub (pix_of (by walk_at "cp:w") (by walk_at "cp:w"))) (R.name (by walk_at "cp:w")) R.neg) (R.tup (Rs.cons R.str (Rs.cons R.str Rs.nil (by walk_at "cp:w")) (by walk_at "cp:w")))) RT.and0)) RT.or0)) (RS.cons (RS.expr (R.meth0 (by walk_at "cp:w") mw_take (mcall_of (by walk_at "cp:w"))) (by walk_at "cp:w")) (RS.cons (RS.ret (R.subs (Op2.sub (pix_of (by walk_at "cp:w") (by walk_at "cp:w"))) (R.name (by walk_at "cp:w")) R.int)) RS.nil)) RS.nil) (RS.cons (RS.fault (R.bin Op2.add (R.subs (Op2.sub (pix_of (by walk_at "cp:w") (by walk_at "cp:w"))) (R.name (by walk_at "cp:w")) R.int) R.str) (R.subs (Op2.sub (pix_of (by walk_at "cp:w") (by walk_at "cp:w"))) (R.name (by walk_at "cp:w")) R.int) (by walk_at "cp:w") (by walk_at "cp:w") (by walk_at "cp:w")) RS.nil)) RS.nil) (RS.cons (RS.ret (R.subs (Op2.sub (pix_of (by walk_at "cp:w") (by walk_at "cp:w"))) (R.meth0 (by walk_at "cp:w") mw_name (mcall_of (by walk_at "cp:w"))) R.int)) RS.nil)))⟩
noncomputable def d117 : { t : FTr // SoundF (.fn 117) t } := ⟨_, RF.dd 1 6 [] (by walk_at "cp:is") (by walk_at "cp:is") (by with_unfolding_all exact bind1 rfl (by intros; exact BindsTo.of_eq rfl)) (by walk_at "cp:d") rfl rfl rfl (by with_reducible exact RS.cons (RS.expr (R.meth (by walk_at "cp:w") mw_expect (Rs.cons R.str Rs.nil (by walk_at "cp:w")) (by walk_at "cp:w") (mcall_of (by walk_at "cp:w"))) (by walk_at "cp:w")) (RS.cons (RS.asgs (by walk_at "cp:w") (Rs.cons (R.lstO Rs.nil) (Rs.cons (R.lstO Rs.nil) Rs.nil (by walk_at "cp:w")) (by walk_at "cp:w")) (by walk_at "cp:w") (by walk_at "cp:w") (by walk_at "cp:w")) (RS.cons (RS.whl (RT.not (RT.e (R.call (by walk_at "cp:is") (by walk_at "cp:is") (by walk_at "cp:w") (by walk_at "cp:w") (Rs.cons (R.name (by walk_at "cp:w")) Rs.nil (by walk_at "cp:w")) (by walk_at "cp:w")) (by walk_at "cp:w"))) (RS.cons (RS.ifte (RT.cmp Op2.eq (by walk_at "cp:w") (R.subs (Op2.sub (pix_of (by walk_at "cp:w") (by walk_at "cp:w"))) (R.meth0 (by walk_at "cp:w") mw_peek (mcall_of (by walk_at "cp:w"))) R.int) R.str) (RS.cons (RS.ifte (RT.cmp Op2.ne (by walk_at "cp:w") (R.name (by walk_at "cp:w")) (R.lstF Rs.nil)) (RS.cons (RS.fault R.str (R.subs (Op2.sub (pix_of (by walk_at "cp:w") (by walk_at "cp:w"))) (R.meth0 (by walk_at "cp:w") mw_peek (mcall_of (by walk_at "cp:w"))) R.int) (by walk_at "cp:w") (by walk_at "cp:w") (by walk_at "cp:w")) RS.nil) RS.nil) (RS.cons (RS.app (by walk_at "cp:w") (R.subs (Op2.sub (pix_of (by walk_at "cp:w") (by walk_at "cp:w"))) (R.meth0 (by walk_at "cp:w") mw_take (mcall_of (by walk_at "cp:w"))) R.int) (by walk_at "cp:w") (mcall_of (by walk_at "cp:w")) (by walk_at "cp:w")) RS.nil)) (RS.cons (RS.app (by walk_at "cp:w") (R.call (by walk_at "cp:is") (by walk_at "cp:is") (by walk_at "cp:w") (by walk_at "cp:w") (Rs.cons (R.name (by walk_at "cp:w")) Rs.nil (by walk_at "cp:w")) (by walk_at "cp:w")) (by walk_at "cp:w") (mcall_of (by walk_at "cp:w")) (by walk_at "cp:w")) RS.nil)) (RS.cons (RS.ifte (RT.not (RT.e (R.meth (by walk_at "cp:w") mw_looks (Rs.cons R.str Rs.nil (by walk_at "cp:w")) (by walk_at "cp:w") (mcall_of (by walk_at "cp:w"))) (by walk_at "cp:w"))) (RS.cons RS.brk RS.nil) RS.nil) (RS.cons (RS.expr (R.meth0 (by walk_at "cp:w") mw_take (mcall_of (by walk_at "cp:w"))) (by walk_at "cp:w")) RS.nil)))) (RS.cons (RS.expr (R.meth0 (by walk_at "cp:w") mw_split (mcall_of (by walk_at "cp:w"))) (by walk_at "cp:w")) (RS.cons (RS.ret (R.tup (Rs.cons (R.tuple (by walk_at "cp:w") (R.name (by walk_at "cp:w")) (by walk_at "cp:w")) (Rs.cons (R.tuple (by walk_at "cp:w") (R.name (by walk_at "cp:w")) (by walk_at "cp:w")) Rs.nil (by walk_at "cp:w")) (by walk_at "cp:w")))) RS.nil)))))⟩
noncomputable def d124 : { t : FTr // SoundF (.fn 124) t } := ⟨_, RF.dd 1 1 [] (by walk_at "cp:is") (by walk_at "cp:is") (by with_unfolding_all exact bind1 rfl (by intros; exact BindsTo.of_eq rfl)) (by walk_at "cp:d") rfl rfl rfl (by with_reducible exact RS.cons (RS.asg (by walk_at "cp:w") (R.meth0 (by walk_at "cp:w") mw_peek (mcall_of (by walk_at "cp:w"))) (by walk_at "cp:w")) (RS.cons (RS.ret (R.and (R.cmp Op2.eq (by walk_at "cp:w") (R.subs (Op2.sub (pix_of (by walk_at "cp:w") (by walk_at "cp:w"))) (R.name (by walk_at "cp:w")) R.int) R.str) (R.cmp Op2.eq (by walk_at "cp:w") (R.takeTo (R.subs (Op2.sub (pix_of (by walk_at "cp:w") (by walk_at "cp:w"))) (R.name (by walk_at "cp:w")) R.int) R.int (by walk_at "cp:w") (by walk_at "cp:w")) R.str))) RS.nil))⟩
noncomputable def d146 : { t : FTr // SoundF (.fn 146) t } := ⟨_, RF.dd 1 2 [] (by walk_at "cp:is") (by walk_at "cp:is") (by with_unfolding_all exact bind1 rfl (by intros; exact BindsTo.of_eq rfl)) (by walk_at "cp:d") rfl rfl rfl (by with_reducible exact RS.cons (RS.augDeep (by walk_at "cp:w")) (RS.cons (RS.ifte (RT.cmp Op2.gt (by walk_at "cp:w") (R.deepOf (R.name (by walk_at "cp:w"))) (R.globI (by walk_at "cp:is") (by walk_at "cp:w") (by walk_at "cp:w"))) (RS.cons (RS.fault R.str (R.subs (Op2.sub (pix_of (by walk_at "cp:w") (by walk_at "cp:w"))) (R.meth0 (by walk_at "cp:w") mw_peek (mcall_of (by walk_at "cp:w"))) R.int) (by walk_at "cp:w") (by walk_at "cp:w") (by walk_at "cp:w")) RS.nil) RS.nil) RS.nil))⟩
noncomputable def d153 : { t : FTr // SoundF (.fn 153) t } := ⟨_, RF.dd 1 0 [] (by walk_at "cp:is") (by walk_at "cp:is") (by with_unfolding_all exact bind1 rfl (by intros; exact BindsTo.of_eq rfl)) (by walk_at "cp:d") rfl rfl rfl (by with_reducible exact RS.cons (RS.augDeepS (by walk_at "cp:w")) RS.nil)⟩
noncomputable def d161 : { t : FTr // SoundF (.fn 161) t } := ⟨_, RF.dd 2 2 [.d (.int 0)] (by walk_at "cp:is") (by walk_at "cp:is") (by with_unfolding_all (refine' bindD2 (v := ?v) rfl ?b ?c ?d; (case d => (intro p a s h₀ L m X F; refine' binds_K (X.keeps F.keep) rfl ?ho ?hs ?h1 ?h2; (case ho => k_is); (case hs => exact rfl); (case h1 => exact rfl); (case h2 => exact rfl))); (case c => (intro p a b s h₀ L m X F; refine' binds_K (X.keeps F.keep) rfl ?ho ?hs ?h1 ?h2; (case ho => k_is); (case hs => exact rfl); (case h1 => exact rfl); (case h2 => exact rfl))); (case b => (intro tl; first | exact .int _ _ | exact .bool _)))) (by walk_at "cp:d") rfl rfl rfl (by with_reducible exact RS.cons (RS.ret (R.subs (Op2.sub (pix_of (by walk_at "cp:w") (by walk_at "cp:w"))) (R.rowsOf (R.name (by walk_at "cp:w"))) (R.min2 (by walk_at "cp:w") (R.bin Op2.add (R.atOf (R.name (by walk_at "cp:w"))) (R.name (by walk_at "cp:w"))) (R.bin Op2.minus (R.len (by walk_at "cp:w") (R.rowsOf (R.name (by walk_at "cp:w"))) (by walk_at "cp:w")) R.int) (by walk_at "cp:w") (by walk_at "cp:w")))) RS.nil)⟩
noncomputable def d168 : { t : FTr // SoundF (.fn 168) t } := ⟨_, RF.dd 1 1 [] (by walk_at "cp:is") (by walk_at "cp:is") (by with_unfolding_all exact bind1 rfl (by intros; exact BindsTo.of_eq rfl)) (by walk_at "cp:d") rfl rfl rfl (by with_reducible exact RS.cons (RS.asg (by walk_at "cp:w") (R.meth0 (by walk_at "cp:w") mw_peek (mcall_of (by walk_at "cp:w"))) (by walk_at "cp:w")) (RS.cons (RS.ifte (RT.cmp Op2.ne (by walk_at "cp:w") (R.subs (Op2.sub (pix_of (by walk_at "cp:w") (by walk_at "cp:w"))) (R.name (by walk_at "cp:w")) R.int) R.str) (RS.cons (RS.augAt (by walk_at "cp:w")) RS.nil) RS.nil) (RS.cons (RS.ret (R.name (by walk_at "cp:w"))) RS.nil)))⟩
noncomputable def d176 : { t : FTr // SoundF (.fn 176) t } := ⟨_, RF.dd 3 1 [.d (.int 0)] (by walk_at "cp:is") (by walk_at "cp:is") (by with_unfolding_all (refine' bindD3 (v := ?v) rfl ?b ?c ?d; (case d => (intro p a b s h₀ L m X F; refine' binds_K (X.keeps F.keep) rfl ?ho ?hs ?h1 ?h2; (case ho => k_is); (case hs => exact rfl); (case h1 => exact rfl); (case h2 => exact rfl))); (case c => (intro p a b c s h₀ L m X F; refine' binds_K (X.keeps F.keep) rfl ?ho ?hs ?h1 ?h2; (case ho => k_is); (case hs => exact rfl); (case h1 => exact rfl); (case h2 => exact rfl))); (case b => (intro tl; first | exact .int _ _ | exact .bool _)))) (by walk_at "cp:d") rfl rfl rfl (by with_reducible exact RS.cons (RS.asg (by walk_at "cp:w") (R.meth (by walk_at "cp:w") mw_peek (Rs.cons (R.name (by walk_at "cp:w")) Rs.nil (by walk_at "cp:w")) (by walk_at "cp:w") (mcall_of (by walk_at "cp:w"))) (by walk_at "cp:w")) (RS.cons (RS.ret (R.and (R.cmp Op2.inT (by walk_at "cp:w") (R.subs (Op2.sub (pix_of (by walk_at "cp:w") (by walk_at "cp:w"))) (R.name (by walk_at "cp:w")) R.int) (R.tup (Rs.cons R.str (Rs.cons R.str Rs.nil (by walk_at "cp:w")) (by walk_at "cp:w")))) (R.cmp Op2.eq (by walk_at "cp:w") (R.subs (Op2.sub (pix_of (by walk_at "cp:w") (by walk_at "cp:w"))) (R.name (by walk_at "cp:w")) R.int) (R.name (by walk_at "cp:w"))))) RS.nil))⟩
noncomputable def d183 : { t : FTr // SoundF (.fn 183) t } := ⟨_, RF.dd 2 1 [] (by walk_at "cp:is") (by walk_at "cp:is") (by with_unfolding_all exact bind2 rfl (by intros; exact BindsTo.of_eq rfl)) (by walk_at "cp:d") rfl rfl rfl (by with_reducible exact RS.cons (RS.ifte (RT.not (RT.e (R.meth (by walk_at "cp:w") mw_looks (Rs.cons (R.name (by walk_at "cp:w")) Rs.nil (by walk_at "cp:w")) (by walk_at "cp:w") (mcall_of (by walk_at "cp:w"))) (by walk_at "cp:w"))) (RS.cons (RS.fault (R.bin Op2.add (R.name (by walk_at "cp:w")) R.str) (R.subs (Op2.sub (pix_of (by walk_at "cp:w") (by walk_at "cp:w"))) (R.meth0 (by walk_at "cp:w") mw_peek (mcall_of (by walk_at "cp:w"))) R.int) (by walk_at "cp:w") (by walk_at "cp:w") (by walk_at "cp:w")) RS.nil) RS.nil) (RS.cons (RS.ret (R.meth0 (by walk_at "cp:w") mw_take (mcall_of (by walk_at "cp:w")))) RS.nil))⟩
noncomputable def d190 : { t : FTr // SoundF (.fn 190) t } := ⟨_, RF.dd 1 3 [] (by walk_at "cp:is") (by walk_at "cp:is") (by with_unfolding_all exact bind1 rfl (by intros; exact BindsTo.of_eq rfl)) (by walk_at "cp:d") rfl rfl rfl (by with_reducible exact RS.cons (RS.asg (by walk_at "cp:w") (R.meth0 (by walk_at "cp:w") mw_peek (mcall_of (by walk_at "cp:w"))) (by walk_at "cp:w")) (RS.cons (RS.ifte (RT.or (RT.cmp Op2.ne (by walk_at "cp:w") (R.subs (Op2.sub (pix_of (by walk_at "cp:w") (by walk_at "cp:w"))) (R.name (by walk_at "cp:w")) R.int) R.str) (RT.or (RT.cmp Op2.inT (by walk_at "cp:w") (R.subs (Op2.sub (pix_of (by walk_at "cp:w") (by walk_at "cp:w"))) (R.name (by walk_at "cp:w")) R.int) (R.globT (by walk_at "cp:is") (by walk_at "cp:is") (by walk_at "cp:w") (by walk_at "cp:w"))) RT.or0)) (RS.cons (RS.fault R.str (R.subs (Op2.sub (pix_of (by walk_at "cp:w") (by walk_at "cp:w"))) (R.name (by walk_at "cp:w")) R.int) (by walk_at "cp:w") (by walk_at "cp:w") (by walk_at "cp:w")) RS.nil) RS.nil) (RS.cons (RS.augAt (by walk_at "cp:w")) (RS.cons (RS.ret (R.tup (Rs.cons (R.subs (Op2.sub (pix_of (by walk_at "cp:w") (by walk_at "cp:w"))) (R.name (by walk_at "cp:w")) R.int) (Rs.cons (R.subs (Op2.sub (pix_of (by walk_at "cp:w") (by walk_at "cp:w"))) (R.name (by walk_at "cp:w")) R.int) Rs.nil (by walk_at "cp:w")) (by walk_at "cp:w")))) RS.nil))))⟩
noncomputable def d197 : { t : FTr // SoundF (.fn 197) t } := ⟨_, RF.dd 1 2 [] (by walk_at "cp:is") (by walk_at "cp:is") (by with_unfolding_all exact bind1 rfl (by intros; exact BindsTo.of_eq rfl)) (by walk_at "cp:d") rfl rfl rfl (by with_reducible exact RS.cons (RS.asg (by walk_at "cp:w") (R.meth0 (by walk_at "cp:w") mw_peek (mcall_of (by walk_at "cp:w"))) (by walk_at "cp:w")) (RS.cons (RS.ifte (RT.or (RT.cmp Op2.ne (by walk_at "cp:w") (R.subs (Op2.sub (pix_of (by walk_at "cp:w") (by walk_at "cp:w"))) (R.name (by walk_at "cp:w")) R.int) R.str) (RT.or (RT.cmp Op2.ne (by walk_at "cp:w") (R.takeTo (R.subs (Op2.sub (pix_of (by walk_at "cp:w") (by walk_at "cp:w"))) (R.name (by walk_at "cp:w")) R.int) R.int (by walk_at "cp:w") (by walk_at "cp:w")) R.str) RT.or0)) (RS.cons (RS.fault R.str (R.subs (Op2.sub (pix_of (by walk_at "cp:w") (by walk_at "cp:w"))) (R.name (by walk_at "cp:w")) R.int) (by walk_at "cp:w") (by walk_at "cp:w") (by walk_at "cp:w")) RS.nil) RS.nil) (RS.cons (RS.ifte (RT.cmp Op2.eq (by walk_at "cp:w") (R.subs (Op2.sub (pix_of (by walk_at "cp:w") (by walk_at "cp:w"))) (R.name (by walk_at "cp:w")) R.int) R.str) (RS.cons (RS.augAt (by walk_at "cp:w")) RS.nil) (RS.cons (RS.setRow (by walk_at "cp:w") (R.tup (Rs.cons R.str (Rs.cons (R.dropTo (R.subs (Op2.sub (pix_of (by walk_at "cp:w") (by walk_at "cp:w"))) (R.name (by walk_at "cp:w")) R.int) R.int (by walk_at "cp:w") (by walk_at "cp:w")) (Rs.cons (R.bin Op2.add (R.subs (Op2.sub (pix_of (by walk_at "cp:w") (by walk_at "cp:w"))) (R.name (by walk_at "cp:w")) R.int) R.int) (Rs.cons R.nul (Rs.cons R.nul Rs.nil (by walk_at "cp:w")) (by walk_at "cp:w")) (by walk_at "cp:w")) (by walk_at "cp:w")) (by walk_at "cp:w"))) (by walk_at "cp:w")) RS.nil)) (RS.cons (RS.ret (R.tup (Rs.cons R.str (Rs.cons R.str (Rs.cons (R.subs (Op2.sub (pix_of (by walk_at "cp:w") (by walk_at "cp:w"))) (R.name (by walk_at "cp:w")) R.int) (Rs.cons R.nul (Rs.cons R.nul Rs.nil (by walk_at "cp:w")) (by walk_at "cp:w")) (by walk_at "cp:w")) (by walk_at "cp:w")) (by walk_at "cp:w")))) RS.nil))))⟩
noncomputable def d211 : { t : FTr // SoundF (.fn 211) t } := ⟨_, RF.dd 1 5 [] (by walk_at "cp:is") (by walk_at "cp:is") (by with_unfolding_all exact bind1 rfl (by intros; exact BindsTo.of_eq rfl)) (by walk_at "cp:d") rfl rfl rfl (by with_reducible exact RS.cons (RS.asg (by walk_at "cp:w") (R.ifx (RT.cmp Op2.gt (by walk_at "cp:w") (R.len (by walk_at "cp:w") (R.name (by walk_at "cp:w")) (by walk_at "cp:w")) R.int) (R.subs (Op2.sub (pix_of (by walk_at "cp:w") (by walk_at "cp:w"))) (R.name (by walk_at "cp:w")) R.int) R.int) (by walk_at "cp:w")) (RS.cons (RS.asg (by walk_at "cp:w") (R.max2 (by walk_at "cp:w") (R.name (by walk_at "cp:w")) (R.bin Op2.minus R.neg (R.name (by walk_at "cp:w"))) (by walk_at "cp:w") (by walk_at "cp:w")) (by walk_at "cp:w")) (RS.cons (RS.ret (R.lstO (Rs.cons (R.bin Op2.mul (R.name (by walk_at "cp:w")) (R.intB (by walk_at "cp:w") (R.cmp Op2.ge (by walk_at "cp:w") (R.name (by walk_at "cp:w")) (R.pow (by walk_at "cp:w"))) (by walk_at "cp:w"))) (Rs.cons (R.bin Op2.fmod (R.bin Op2.mul (R.bin Op2.add (R.bin Op2.fmod (R.name (by walk_at "cp:w")) R.int) R.int) R.int) R.int) Rs.nil (by walk_at "cp:w")) (by walk_at "cp:w")))) RS.nil)))⟩
noncomputable def d218 : { t : FTr // SoundF (.fn 218) t } := ⟨_, RF.dd 2 1 [] (by walk_at "cp:is") (by walk_at "cp:is") (by with_unfolding_all exact bind2 rfl (by intros; exact BindsTo.of_eq rfl)) (by walk_at "cp:d") rfl rfl rfl (by with_reducible exact RS.cons (RS.ifte (RT.cmp Op2.gt (by walk_at "cp:w") (R.subs (Op2.sub (pix_of (by walk_at "cp:w") (by walk_at "cp:w"))) (R.name (by walk_at "cp:w")) R.int) R.int) (RS.cons (RS.asg (by walk_at "cp:w") (R.bin Op2.fmod (R.subs (Op2.sub (pix_of (by walk_at "cp:w") (by walk_at "cp:w"))) (R.name (by walk_at "cp:w")) R.int) (R.name (by walk_at "cp:w"))) (by walk_at "cp:w")) (RS.cons (setI_i (R.bin Op2.fdiv (R.subs (Op2.sub (pix_of (by walk_at "cp:w") (by walk_at "cp:w"))) (R.name (by walk_at "cp:w")) R.int) (R.name (by walk_at "cp:w"))) (R.name (by walk_at "cp:w")) (by walk_at "cp:w") (by walk_at "cp:w")) (RS.cons (RS.ret (R.name (by walk_at "cp:w"))) RS.nil))) RS.nil) (RS.cons (setI_i (R.bin Op2.fmod (R.bin Op2.add (R.bin Op2.mul (R.subs (Op2.sub (pix_of (by walk_at "cp:w") (by walk_at "cp:w"))) (R.name (by walk_at "cp:w")) R.int) R.int) R.int) R.int) (R.name (by walk_at "cp:w")) (by walk_at "cp:w") (by walk_at "cp:w")) (RS.cons (RS.ret (R.bin Op2.fmod (R.bin Op2.fdiv (R.bin Op2.fmod (R.bin Op2.mul (R.subs (Op2.sub (pix_of (by walk_at "cp:w") (by walk_at "cp:w"))) (R.name (by walk_at "cp:w")) R.int) (R.subs (Op2.sub (pix_of (by walk_at "cp:w") (by walk_at "cp:w"))) (R.name (by walk_at "cp:w")) R.int)) R.int) R.int) (R.name (by walk_at "cp:w")))) RS.nil)))⟩
noncomputable def d225 : { t : FTr // SoundF (.fn 225) t } := ⟨_, RF.dd 2 2 [] (by walk_at "cp:is") (by walk_at "cp:is") (by with_unfolding_all exact bind2 rfl (by intros; exact BindsTo.of_eq rfl)) (by walk_at "cp:d") rfl rfl rfl (by with_reducible exact RS.cons (RS.ret (R.subs (Op2.sub (pix_of (by walk_at "cp:w") (by walk_at "cp:w"))) (R.name (by walk_at "cp:w")) (R.call (by walk_at "cp:is") (by walk_at "cp:is") (by walk_at "cp:w") (by walk_at "cp:w") (Rs.cons (R.name (by walk_at "cp:w")) (Rs.cons (R.len (by walk_at "cp:w") (R.name (by walk_at "cp:w")) (by walk_at "cp:w")) Rs.nil (by walk_at "cp:w")) (by walk_at "cp:w")) (by walk_at "cp:w")))) RS.nil)⟩
noncomputable def d232 : { t : FTr // SoundF (.fn 232) t } := ⟨_, RF.dd 5 1 [] (by walk_at "cp:is") (by walk_at "cp:is") (by with_unfolding_all exact bind5 rfl (by intros; exact BindsTo.of_eq rfl)) (by walk_at "cp:d") rfl rfl rfl (by with_reducible exact RS.cons (RS.asg (by walk_at "cp:w") (R.ifx (RT.cmp Op2.ne (by walk_at "cp:w") (R.name (by walk_at "cp:w")) (R.lstF Rs.nil)) (R.bin Op2.add (R.lastAt (R.name (by walk_at "cp:w")) (by walk_at "cp:w") (by walk_at "cp:w")) R.int) R.int) (by walk_at "cp:w")) (RS.cons (RS.appBk (by walk_at "cp:w") (Rs.cons (R.name (by walk_at "cp:w")) (Rs.cons (R.name (by walk_at "cp:w")) (Rs.cons (R.name (by walk_at "cp:w")) (Rs.cons (R.name (by walk_at "cp:w")) (Rs.cons (R.name (by walk_at "cp:w")) Rs.nil (by walk_at "cp:w")) (by walk_at "cp:w")) (by walk_at "cp:w")) (by walk_at "cp:w")) (by walk_at "cp:w")) (by walk_at "cp:w") (mcall_of (by walk_at "cp:w")) (by walk_at "cp:w")) (RS.cons (RS.ret (R.name (by walk_at "cp:w"))) RS.nil)))⟩
noncomputable def d239 : { t : FTr // SoundF (.fn 239) t } := ⟨_, RF.dd 2 1 [] (by walk_at "cp:is") (by walk_at "cp:is") (by with_unfolding_all exact bind2 rfl (by intros; exact BindsTo.of_eq rfl)) (by walk_at "cp:d") rfl rfl rfl (by with_reducible exact RS.cons (RS.ret (R.call (by walk_at "cp:is") (by walk_at "cp:is") (by walk_at "cp:w") (by walk_at "cp:w") (Rs.cons (R.name (by walk_at "cp:w")) (Rs.cons R.str (Rs.cons (R.name (by walk_at "cp:w")) (Rs.cons R.nul (Rs.cons R.nul Rs.nil (by walk_at "cp:w")) (by walk_at "cp:w")) (by walk_at "cp:w")) (by walk_at "cp:w")) (by walk_at "cp:w")) (by walk_at "cp:w"))) RS.nil)⟩
noncomputable def d246 : { t : FTr // SoundF (.fn 246) t } := ⟨_, RF.dd 2 1 [] (by walk_at "cp:is") (by walk_at "cp:is") (by with_unfolding_all exact bind2 rfl (by intros; exact BindsTo.of_eq rfl)) (by walk_at "cp:d") rfl rfl rfl (by with_reducible exact RS.cons (RS.ret (R.call (by walk_at "cp:is") (by walk_at "cp:is") (by walk_at "cp:w") (by walk_at "cp:w") (Rs.cons (R.name (by walk_at "cp:w")) (Rs.cons R.str (Rs.cons (R.name (by walk_at "cp:w")) (Rs.cons R.nul (Rs.cons R.nul Rs.nil (by walk_at "cp:w")) (by walk_at "cp:w")) (by walk_at "cp:w")) (by walk_at "cp:w")) (by walk_at "cp:w")) (by walk_at "cp:w"))) RS.nil)⟩
noncomputable def d251 : { t : FTr // SoundF (.fn 251) t } := ⟨_, RF.dd 1 8 [] (by walk_at "cp:is") (by walk_at "cp:is") (by with_unfolding_all exact bind1 rfl (by intros; exact BindsTo.of_eq rfl)) (by walk_at "cp:d") rfl rfl rfl (by with_reducible exact RS.cons (RS.asg (by walk_at "cp:w") R.newBk (by walk_at "cp:w")) (RS.cons (RS.forL (by walk_at "cp:w") (R.name (by walk_at "cp:w")) (RS.cons (RS.ifte (RT.cmp Op2.eq (by walk_at "cp:w") (R.subs (Op2.sub (pix_of (by walk_at "cp:w") (by walk_at "cp:w"))) (R.name (by walk_at "cp:w")) R.int) R.str) (RS.cons (RS.expr (R.call (by walk_at "cp:is") (by walk_at "cp:is") (by walk_at "cp:w") (by walk_at "cp:w") (Rs.cons (R.name (by walk_at "cp:w")) (Rs.cons R.str (Rs.cons (R.name (by walk_at "cp:w")) (Rs.cons R.nul (Rs.cons R.nul Rs.nil (by walk_at "cp:w")) (by walk_at "cp:w")) (by walk_at "cp:w")) (by walk_at "cp:w")) (by walk_at "cp:w")) (by walk_at "cp:w")) (by walk_at "cp:w")) RS.nil) (RS.cons (RS.ifte (RT.cmp Op2.inS (by walk_at "cp:w") (R.subs (Op2.sub (pix_of (by walk_at "cp:w") (by walk_at "cp:w"))) (R.name (by walk_at "cp:w")) R.int) R.str) (RS.cons (RS.asg (by walk_at "cp:w") (R.figures (by walk_at "cp:w") (CompSs.mk (by walk_at "cp:d") (by walk_at "cp:d") (by walk_at "cp:w") (by walk_at "cp:w") (by walk_at "cp:w") (by walk_at "cp:w") (by walk_at "cp:w") (by walk_at "cp:w")) (by walk_at "cp:w") (mcall_of (by walk_at "cp:w")) (by walk_at "cp:w")) (by walk_at "cp:w")) (RS.cons (RS.expr (R.call (by walk_at "cp:is") (by walk_at "cp:is") (by walk_at "cp:w") (by walk_at "cp:w") (Rs.cons (R.name (by walk_at "cp:w")) (Rs.cons R.str (Rs.cons (R.name (by walk_at "cp:w")) (Rs.cons (R.intS (by walk_at "cp:w") (R.name (by walk_at "cp:w")) (by walk_at "cp:w")) (Rs.cons (R.ifx (RT.cmp Op2.eq (by walk_at "cp:w") (R.name (by walk_at "cp:w")) (R.name (by walk_at "cp:w"))) R.nul (R.ifx (RT.cmp Op2.inS (by walk_at "cp:w") R.str (R.name (by walk_at "cp:w"))) R.str R.str)) Rs.nil (by walk_at "cp:w")) (by walk_at "cp:w")) (by walk_at "cp:w")) (by walk_at "cp:w")) (by walk_at "cp:w")) (by walk_at "cp:w")) (by walk_at "cp:w")) RS.nil)) (RS.cons (RS.ifte (RT.or (RT.e (R.isalpha (R.subs (Op2.sub (pix_of (by walk_at "cp:w") (by walk_at "cp:w"))) (R.name (by walk_at "cp:w")) R.int) (mcall_of (by walk_at "cp:w"))) (by walk_at "cp:w")) (RT.or (RT.cmp Op2.eq (by walk_at "cp:w") (R.name (by walk_at "cp:w")) R.str) RT.or0)) (RS.cons (RS.expr (R.call (by walk_at "cp:is") (by walk_at "cp:is") (by walk_at "cp:w") (by walk_at "cp:w") (Rs.cons (R.name (by walk_at "cp:w")) (Rs.cons (R.name (by walk_at "cp:w")) Rs.nil (by walk_at "cp:w")) (by walk_at "cp:w")) (by walk_at "cp:w")) (by walk_at "cp:w")) RS.nil) (RS.cons (RS.expr (R.call (by walk_at "cp:is") (by walk_at "cp:is") (by walk_at "cp:w") (by walk_at "cp:w") (Rs.cons (R.name (by walk_at "cp:w")) (Rs.cons (R.name (by walk_at "cp:w")) Rs.nil (by walk_at "cp:w")) (by walk_at "cp:w")) (by walk_at "cp:w")) (by walk_at "cp:w")) RS.nil)) RS.nil)) RS.nil)) RS.nil) (by walk_at "cp:w")) (RS.cons (RS.ret (R.call (by walk_at "cp:is") (by walk_at "cp:is") (by walk_at "cp:w") (by walk_at "cp:w") (Rs.cons (R.name (by walk_at "cp:w")) Rs.nil (by walk_at "cp:w")) (by walk_at "cp:w"))) RS.nil)))⟩
noncomputable def d256 : { t : FTr // SoundF (.fn 256) t } := ⟨_, RF.dd 1 3 [] (by walk_at "cp:is") (by walk_at "cp:is") (by with_unfolding_all exact bind1 rfl (by intros; exact BindsTo.of_eq rfl)) (by walk_at "cp:d") rfl rfl rfl (by with_reducible exact RS.cons (RS.asg (by walk_at "cp:w") (R.ifx (RT.cmp Op2.ne (by walk_at "cp:w") (R.name (by walk_at "cp:w")) (R.lstF Rs.nil)) (R.bin Op2.add (R.lastAt (R.name (by walk_at "cp:w")) (by walk_at "cp:w") (by walk_at "cp:w")) R.int) R.int) (by walk_at "cp:w")) (RS.cons (RS.ret (R.newWd (R.bin Op2.add (R.tupRows (by walk_at "cp:w") (CompSc.mk (by walk_at "cp:w") (by walk_at "cp:d") (by walk_at "cp:w") (by walk_at "cp:w") (by walk_at "cp:w") (by walk_at "cp:w") (by walk_at "cp:w") (by walk_at "cp:w")) (by walk_at "cp:w")) (R.lstF (Rs.cons (R.tup (Rs.cons R.str (Rs.cons R.str (Rs.cons (R.name (by walk_at "cp:w")) (Rs.cons R.nul (Rs.cons R.nul Rs.nil (by walk_at "cp:w")) (by walk_at "cp:w")) (by walk_at "cp:w")) (by walk_at "cp:w")) (by walk_at "cp:w"))) Rs.nil (by walk_at "cp:w")))) (by walk_at "cp:w") (by walk_at "cp:w"))) RS.nil))⟩
noncomputable def d298 : { t : FTr // SoundF (.fn 298) t } := ⟨_, RF.dd 2 1 [] (by walk_at "cp:is") (by walk_at "cp:is") (by with_unfolding_all exact bind2 rfl (by intros; exact BindsTo.of_eq rfl)) (by walk_at "cp:d") rfl rfl rfl (by with_reducible exact RS.cons (RS.heard (by walk_at "cp:w") (by walk_at "cp:w") (by walk_at "cp:w") (by walk_at "cp:w") (by walk_at "cp:w") (3)) RS.nil)⟩
noncomputable def d263 : { t : FTr // SoundF (.fn 263) t } := ⟨_, RF.dd 2 2 [] (by walk_at "cp:is") (by walk_at "cp:is") (by with_unfolding_all exact bind2 rfl (by intros; exact BindsTo.of_eq rfl)) (by walk_at "cp:d") rfl rfl rfl (by with_reducible exact RS.cons (RS.ifte (RT.and (RT.cmp Op2.eq (by walk_at "cp:w") (R.lastTo (R.name (by walk_at "cp:w")) (by walk_at "cp:w") (by walk_at "cp:w")) (R.lstF (Rs.cons R.str (Rs.cons R.str Rs.nil (by walk_at "cp:w")) (by walk_at "cp:w")))) (RT.and (RT.cmp Op2.eq (by walk_at "cp:w") (R.call (by walk_at "cp:is") (by walk_at "cp:is") (by walk_at "cp:w") (by walk_at "cp:w") (Rs.cons (R.name (by walk_at "cp:w")) (Rs.cons R.int Rs.nil (by walk_at "cp:w")) (by walk_at "cp:w")) (by walk_at "cp:w")) R.int) RT.and0)) (RS.cons (setLast_i R.str (R.name (by walk_at "cp:w")) (by walk_at "cp:w") (by walk_at "cp:w") (by walk_at "cp:w")) RS.nil) (RS.cons (RS.expr (R.call (by walk_at "cp:is") (by walk_at "cp:is") (by walk_at "cp:w") (by walk_at "cp:w") (Rs.cons (R.name (by walk_at "cp:w")) (Rs.cons R.str Rs.nil (by walk_at "cp:w")) (by walk_at "cp:w")) (by walk_at "cp:w")) (by walk_at "cp:w")) RS.nil)) RS.nil)⟩
noncomputable def d270 : { t : FTr // SoundF (.fn 270) t } := ⟨_, RF.dd 3 15 [] (by walk_at "cp:is") (by walk_at "cp:is") (by with_unfolding_all exact bind3 rfl (by intros; exact BindsTo.of_eq rfl)) (by walk_at "cp:d") rfl rfl rfl (by with_reducible exact RS.cons (RS.asg (by walk_at "cp:w") (R.ifx (RT.cmp Op2.gt (by walk_at "cp:w") (R.name (by walk_at "cp:w")) R.int) (R.call (by walk_at "cp:is") (by walk_at "cp:is") (by walk_at "cp:w") (by walk_at "cp:w") (Rs.cons (R.name (by walk_at "cp:w")) (Rs.cons R.int Rs.nil (by walk_at "cp:w")) (by walk_at "cp:w")) (by walk_at "cp:w")) (R.call (by walk_at "cp:is") (by walk_at "cp:is") (by walk_at "cp:w") (by walk_at "cp:w") (Rs.cons (R.name (by walk_at "cp:w")) (Rs.cons (R.lstF (Rs.cons R.int (Rs.cons R.int (Rs.cons R.int (Rs.cons R.int Rs.nil (by walk_at "cp:w")) (by walk_at "cp:w")) (by walk_at "cp:w")) (by walk_at "cp:w"))) Rs.nil (by walk_at "cp:w")) (by walk_at "cp:w")) (by walk_at "cp:w"))) (by walk_at "cp:w")) (RS.cons (RS.ifte (RT.cmp Op2.eq (by walk_at "cp:w") (R.name (by walk_at "cp:w")) R.int) (RS.cons (RS.ret (R.tup (Rs.cons R.str (Rs.cons (R.call (by walk_at "cp:is") (by walk_at "cp:is") (by walk_at "cp:w") (by walk_at "cp:w") (Rs.cons (R.name (by walk_at "cp:w")) (Rs.cons R.str Rs.nil (by walk_at "cp:w")) (by walk_at "cp:w")) (by walk_at "cp:w")) Rs.nil (by walk_at "cp:w")) (by walk_at "cp:w")))) RS.nil) RS.nil) (RS.cons (RS.ifte (RT.cmp Op2.eq (by walk_at "cp:w") (R.name (by walk_at "cp:w")) R.int) (RS.cons (RS.ret (R.tup (Rs.cons R.str (Rs.cons (R.call (by walk_at "cp:is") (by walk_at "cp:is") (by walk_at "cp:w") (by walk_at "cp:w") (Rs.cons (R.name (by walk_at "cp:w")) (Rs.cons R.str Rs.nil (by walk_at "cp:w")) (by walk_at "cp:w")) (by walk_at "cp:w")) Rs.nil (by walk_at "cp:w")) (by walk_at "cp:w")))) RS.nil) RS.nil) (RS.cons (RS.ifte (RT.cmp Op2.lt (by walk_at "cp:w") (R.name (by walk_at "cp:w")) R.int) (RS.cons (RS.ret (R.call (by walk_at "cp:is") (by walk_at "cp:is") (by walk_at "cp:w") (by walk_at "cp:w") (Rs.cons (R.name (by walk_at "cp:w")) (Rs.cons (R.name (by walk_at "cp:w")) (Rs.cons (R.name (by walk_at "cp:w")) Rs.nil (by walk_at "cp:w")) (by walk_at "cp:w")) (by walk_at "cp:w")) (by walk_at "cp:w"))) RS.nil) RS.nil) (RS.cons (RS.ifte (RT.cmp Op2.lt (by walk_at "cp:w") (R.name (by walk_at "cp:w")) R.int) (RS.cons (RS.ret (R.call (by walk_at "cp:is") (by walk_at "cp:is") (by walk_at "cp:w") (by walk_at "cp:w") (Rs.cons (R.name (by walk_at "cp:w")) (Rs.cons (R.name (by walk_at "cp:w")) (Rs.cons (R.name (by walk_at "cp:w")) Rs.nil (by walk_at "cp:w")) (by walk_at "cp:w")) (by walk_at "cp:w")) (by walk_at "cp:w"))) RS.nil) RS.nil) (RS.cons (RS.ifte (RT.cmp Op2.eq (by walk_at "cp:w") (R.name (by walk_at "cp:w")) R.int) (RS.cons (RS.asg (by walk_at "cp:w") (R.call (by walk_at "cp:is") (by walk_at "cp:is") (by walk_at "cp:w") (by walk_at "cp:w") (Rs.cons (R.name (by walk_at "cp:w")) (Rs.cons R.str Rs.nil (by walk_at "cp:w")) (by walk_at "cp:w")) (by walk_at "cp:w")) (by walk_at "cp:w")) (RS.cons (RS.asg (by walk_at "cp:w") (R.call (by walk_at "cp:is") (by walk_at "cp:is") (by walk_at "cp:w") (by walk_at "cp:w") (Rs.cons (R.name (by walk_at "cp:w")) (Rs.cons (R.name (by walk_at "cp:w")) (Rs.cons (R.bin Op2.minus (R.name (by walk_at "cp:w")) R.int) Rs.nil (by walk_at "cp:w")) (by walk_at "cp:w")) (by walk_at "cp:w")) (by walk_at "cp:w")) (by walk_at "cp:w")) (RS.cons (RS.expr (R.call (by walk_at "cp:is") (by walk_at "cp:is") (by walk_at "cp:w") (by walk_at "cp:w") (Rs.cons (R.name (by walk_at "cp:w")) (Rs.cons R.str Rs.nil (by walk_at "cp:w")) (by walk_at "cp:w")) (by walk_at "cp:w")) (by walk_at "cp:w")) (RS.cons (RS.asgs (by walk_at "cp:w") (Rs.cons (R.call (by walk_at "cp:is") (by walk_at "cp:is") (by walk_at "cp:w") (by walk_at "cp:w") (Rs.cons (R.name (by walk_at "cp:w")) (Rs.cons (R.lstF (Rs.cons R.int (Rs.cons R.int (Rs.cons (R.call (by walk_at "cp:is") (by walk_at "cp:is") (by walk_at "cp:w") (by walk_at "cp:w") (Rs.cons (R.name (by walk_at "cp:w")) (Rs.cons R.int Rs.nil (by walk_at "cp:w")) (by walk_at "cp:w")) (by walk_at "cp:w")) Rs.nil (by walk_at "cp:w")) (by walk_at "cp:w")) (by walk_at "cp:w"))) Rs.nil (by walk_at "cp:w")) (by walk_at "cp:w")) (by walk_at "cp:w")) (Rs.cons (R.call (by walk_at "cp:is") (by walk_at "cp:is") (by walk_at "cp:w") (by walk_at "cp:w") (Rs.cons (R.name (by walk_at "cp:w")) (Rs.cons (R.lstF (Rs.cons R.nul (Rs.cons R.str Rs.nil (by walk_at "cp:w")) (by walk_at "cp:w"))) Rs.nil (by walk_at "cp:w")) (by walk_at "cp:w")) (by walk_at "cp:w")) Rs.nil (by walk_at "cp:w")) (by walk_at "cp:w")) (by walk_at "cp:w") (by walk_at "cp:w") (by walk_at "cp:w")) (RS.cons (RS.expr (R.call (by walk_at "cp:is") (by walk_at "cp:is") (by walk_at "cp:w") (by walk_at "cp:w") (Rs.cons (R.name (by walk_at "cp:w")) (Rs.cons R.str (Rs.cons (R.strI (by walk_at "cp:w") (R.name (by walk_at "cp:w")) (by walk_at "cp:w")) (Rs.cons (R.name (by walk_at "cp:w")) (Rs.cons (R.name (by walk_at "cp:w")) Rs.nil (by walk_at "cp:w")) (by walk_at "cp:w")) (by walk_at "cp:w")) (by walk_at "cp:w")) (by walk_at "cp:w")) (by walk_at "cp:w")) (by walk_at "cp:w")) (RS.cons (RS.expr (R.call (by walk_at "cp:is") (by walk_at "cp:is") (by walk_at "cp:w") (by walk_at "cp:w") (Rs.cons (R.name (by walk_at "cp:w")) (Rs.cons R.str Rs.nil (by walk_at "cp:w")) (by walk_at "cp:w")) (by walk_at "cp:w")) (by walk_at "cp:w")) (RS.cons (RS.ret (R.tup (Rs.cons R.str (Rs.cons (R.name (by walk_at "cp:w")) (Rs.cons (R.name (by walk_at "cp:w")) (Rs.cons (R.name (by walk_at "cp:w")) Rs.nil (by walk_at "cp:w")) (by walk_at "cp:w")) (by walk_at "cp:w")) (by walk_at "cp:w")))) RS.nil))))))) RS.nil) (RS.cons (RS.ret (R.call (by walk_at "cp:is") (by walk_at "cp:is") (by walk_at "cp:w") (by walk_at "cp:w") (Rs.cons (R.name (by walk_at "cp:w")) (Rs.cons (R.name (by walk_at "cp:w")) (Rs.cons (R.name (by walk_at "cp:w")) Rs.nil (by walk_at "cp:w")) (by walk_at "cp:w")) (by walk_at "cp:w")) (by walk_at "cp:w"))) RS.nil)))))))⟩
noncomputable def d277 : { t : FTr // SoundF (.fn 277) t } := ⟨_, RF.dd 3 10 [] (by walk_at "cp:is") (by walk_at "cp:is") (by with_unfolding_all exact bind3 rfl (by intros; exact BindsTo.of_eq rfl)) (by walk_at "cp:d") rfl rfl rfl (by with_reducible exact RS.cons (RS.asgs (by walk_at "cp:w") (Rs.cons (R.call (by walk_at "cp:is") (by walk_at "cp:is") (by walk_at "cp:w") (by walk_at "cp:w") (Rs.cons (R.name (by walk_at "cp:w")) (Rs.cons R.str Rs.nil (by walk_at "cp:w")) (by walk_at "cp:w")) (by walk_at "cp:w")) (Rs.cons (R.lstO Rs.nil) (Rs.cons R.bool Rs.nil (by walk_at "cp:w")) (by walk_at "cp:w")) (by walk_at "cp:w")) (by walk_at "cp:w") (by walk_at "cp:w") (by walk_at "cp:w")) (RS.cons (RS.forR n_range (by walk_at "cp:w") (by walk_at "cp:w") (R.call (by walk_at "cp:is") (by walk_at "cp:is") (by walk_at "cp:w") (by walk_at "cp:w") (Rs.cons (R.name (by walk_at "cp:w")) (Rs.cons R.int Rs.nil (by walk_at "cp:w")) (by walk_at "cp:w")) (by walk_at "cp:w")) (RS.cons (RS.ifte (RT.cmp Op2.gt (by walk_at "cp:w") (R.name (by walk_at "cp:w")) R.int) (RS.cons (RS.expr (R.call (by walk_at "cp:is") (by walk_at "cp:is") (by walk_at "cp:w") (by walk_at "cp:w") (Rs.cons (R.name (by walk_at "cp:w")) (Rs.cons R.str Rs.nil (by walk_at "cp:w")) (by walk_at "cp:w")) (by walk_at "cp:w")) (by walk_at "cp:w")) RS.nil) RS.nil) (RS.cons (RS.app (by walk_at "cp:w") (R.call (by walk_at "cp:is") (by walk_at "cp:is") (by walk_at "cp:w") (by walk_at "cp:w") (Rs.cons (R.name (by walk_at "cp:w")) (Rs.cons (R.name (by walk_at "cp:w")) (Rs.cons (R.bin Op2.minus (R.name (by walk_at "cp:w")) R.int) Rs.nil (by walk_at "cp:w")) (by walk_at "cp:w")) (by walk_at "cp:w")) (by walk_at "cp:w")) (by walk_at "cp:w") (mcall_of (by walk_at "cp:w")) (by walk_at "cp:w")) RS.nil)) (by walk_at "cp:w") (by walk_at "cp:w")) (RS.cons (RS.ifte (RT.cmp Op2.ne (by walk_at "cp:w") (R.name (by walk_at "cp:w")) (R.lstF Rs.nil)) (RS.cons (RS.asg (by walk_at "cp:w") (R.cmp Op2.eq (by walk_at "cp:w") (R.call (by walk_at "cp:is") (by walk_at "cp:is") (by walk_at "cp:w") (by walk_at "cp:w") (Rs.cons (R.name (by walk_at "cp:w")) (Rs.cons R.int Rs.nil (by walk_at "cp:w")) (by walk_at "cp:w")) (by walk_at "cp:w")) R.int) (by walk_at "cp:w")) (RS.cons (RS.ifte (RT.e (R.name (by walk_at "cp:w")) (by walk_at "cp:w")) (RS.cons (RS.expr (R.call (by walk_at "cp:is") (by walk_at "cp:is") (by walk_at "cp:w") (by walk_at "cp:w") (Rs.cons (R.name (by walk_at "cp:w")) (Rs.cons R.str Rs.nil (by walk_at "cp:w")) (by walk_at "cp:w")) (by walk_at "cp:w")) (by walk_at "cp:w")) RS.nil) RS.nil) RS.nil)) RS.nil) (RS.cons (RS.expr (R.call (by walk_at "cp:is") (by walk_at "cp:is") (by walk_at "cp:w") (by walk_at "cp:w") (Rs.cons (R.name (by walk_at "cp:w")) (Rs.cons R.str Rs.nil (by walk_at "cp:w")) (by walk_at "cp:w")) (by walk_at "cp:w")) (by walk_at "cp:w")) (RS.cons (RS.ret (R.ifx (RT.and (RT.cmp Op2.eq (by walk_at "cp:w") (R.len (by walk_at "cp:w") (R.name (by walk_at "cp:w")) (by walk_at "cp:w")) R.int) (RT.and (RT.not (RT.e (R.name (by walk_at "cp:w")) (by walk_at "cp:w"))) RT.and0)) (R.subs (Op2.sub (pix_of (by walk_at "cp:w") (by walk_at "cp:w"))) (R.name (by walk_at "cp:w")) R.int) (R.tup (Rs.cons R.str (Rs.cons (R.name (by walk_at "cp:w")) (Rs.cons (R.tuple (by walk_at "cp:w") (R.name (by walk_at "cp:w")) (by walk_at "cp:w")) Rs.nil (by walk_at "cp:w")) (by walk_at "cp:w")) (by walk_at "cp:w"))))) RS.nil)))))⟩
noncomputable def d284 : { t : FTr // SoundF (.fn 284) t } := ⟨_, RF.dd 3 11 [] (by walk_at "cp:is") (by walk_at "cp:is") (by with_unfolding_all exact bind3 rfl (by intros; exact BindsTo.of_eq rfl)) (by walk_at "cp:d") rfl rfl rfl (by with_reducible exact RS.cons (RS.asgs (by walk_at "cp:w") (Rs.cons (R.cmp Op2.eq (by walk_at "cp:w") (R.call (by walk_at "cp:is") (by walk_at "cp:is") (by walk_at "cp:w") (by walk_at "cp:w") (Rs.cons (R.name (by walk_at "cp:w")) (Rs.cons R.int Rs.nil (by walk_at "cp:w")) (by walk_at "cp:w")) (by walk_at "cp:w")) R.int) (Rs.cons (R.call (by walk_at "cp:is") (by walk_at "cp:is") (by walk_at "cp:w") (by walk_at "cp:w") (Rs.cons (R.name (by walk_at "cp:w")) (Rs.cons (R.lstF (Rs.cons R.nul (Rs.cons R.str Rs.nil (by walk_at "cp:w")) (by walk_at "cp:w"))) Rs.nil (by walk_at "cp:w")) (by walk_at "cp:w")) (by walk_at "cp:w")) (Rs.cons (R.cmp Op2.eq (by walk_at "cp:w") (R.call (by walk_at "cp:is") (by walk_at "cp:is") (by walk_at "cp:w") (by walk_at "cp:w") (Rs.cons (R.name (by walk_at "cp:w")) (Rs.cons R.int Rs.nil (by walk_at "cp:w")) (by walk_at "cp:w")) (by walk_at "cp:w")) R.int) Rs.nil (by walk_at "cp:w")) (by walk_at "cp:w")) (by walk_at "cp:w")) (by walk_at "cp:w") (by walk_at "cp:w") (by walk_at "cp:w")) (RS.cons (RS.asg (by walk_at "cp:w") (R.call (by walk_at "cp:is") (by walk_at "cp:is") (by walk_at "cp:w") (by walk_at "cp:w") (Rs.cons (R.name (by walk_at "cp:w")) (Rs.cons (R.ifx (RT.e (R.name (by walk_at "cp:w")) (by walk_at "cp:w")) R.str R.str) Rs.nil (by walk_at "cp:w")) (by walk_at "cp:w")) (by walk_at "cp:w")) (by walk_at "cp:w")) (RS.cons (RS.ifte (RT.cmp Op2.isNot (by walk_at "cp:w") (R.name (by walk_at "cp:w")) R.nul) (RS.cons (RS.expr (R.call (by walk_at "cp:is") (by walk_at "cp:is") (by walk_at "cp:w") (by walk_at "cp:w") (Rs.cons (R.name (by walk_at "cp:w")) (Rs.cons R.str (Rs.cons (R.name (by walk_at "cp:w")) (Rs.cons R.nul (Rs.cons R.nul Rs.nil (by walk_at "cp:w")) (by walk_at "cp:w")) (by walk_at "cp:w")) (by walk_at "cp:w")) (by walk_at "cp:w")) (by walk_at "cp:w")) (by walk_at "cp:w")) RS.nil) RS.nil) (RS.cons (RS.ifte (RT.e (R.name (by walk_at "cp:w")) (by walk_at "cp:w")) (RS.cons (RS.expr (R.call (by walk_at "cp:is") (by walk_at "cp:is") (by walk_at "cp:w") (by walk_at "cp:w") (Rs.cons (R.name (by walk_at "cp:w")) (Rs.cons R.str Rs.nil (by walk_at "cp:w")) (by walk_at "cp:w")) (by walk_at "cp:w")) (by walk_at "cp:w")) RS.nil) RS.nil) (RS.cons (RS.asg (by walk_at "cp:w") (R.call (by walk_at "cp:is") (by walk_at "cp:is") (by walk_at "cp:w") (by walk_at "cp:w") (Rs.cons (R.name (by walk_at "cp:w")) (Rs.cons (R.name (by walk_at "cp:w")) (Rs.cons (R.bin Op2.minus (R.name (by walk_at "cp:w")) R.int) Rs.nil (by walk_at "cp:w")) (by walk_at "cp:w")) (by walk_at "cp:w")) (by walk_at "cp:w")) (by walk_at "cp:w")) (RS.cons (RS.ifte (RT.e (R.name (by walk_at "cp:w")) (by walk_at "cp:w")) (RS.cons (RS.ret (R.tup (Rs.cons R.str (Rs.cons (R.name (by walk_at "cp:w")) (Rs.cons R.nul (Rs.cons R.bool (Rs.cons (R.tup (Rs.cons R.str (Rs.cons (R.bin Op2.add (R.name (by walk_at "cp:w")) R.int) (Rs.cons (R.name (by walk_at "cp:w")) (Rs.cons (R.name (by walk_at "cp:w")) (Rs.cons (R.name (by walk_at "cp:w")) Rs.nil (by walk_at "cp:w")) (by walk_at "cp:w")) (by walk_at "cp:w")) (by walk_at "cp:w")) (by walk_at "cp:w"))) Rs.nil (by walk_at "cp:w")) (by walk_at "cp:w")) (by walk_at "cp:w")) (by walk_at "cp:w")) (by walk_at "cp:w")))) RS.nil) RS.nil) (RS.cons (RS.ret (R.tup (Rs.cons R.str (Rs.cons (R.name (by walk_at "cp:w")) (Rs.cons (R.name (by walk_at "cp:w")) (Rs.cons (R.name (by walk_at "cp:w")) (Rs.cons (R.name (by walk_at "cp:w")) Rs.nil (by walk_at "cp:w")) (by walk_at "cp:w")) (by walk_at "cp:w")) (by walk_at "cp:w")) (by walk_at "cp:w")))) RS.nil)))))))⟩
noncomputable def d291 : { t : FTr // SoundF (.fn 291) t } := ⟨_, RF.dd 3 18 [] (by walk_at "cp:is") (by walk_at "cp:is") (by with_unfolding_all exact bind3 rfl (by intros; exact BindsTo.of_eq rfl)) (by walk_at "cp:d") rfl rfl rfl (by with_reducible exact RS.cons (RS.asg (by walk_at "cp:w") (R.call (by walk_at "cp:is") (by walk_at "cp:is") (by walk_at "cp:w") (by walk_at "cp:w") (Rs.cons (R.name (by walk_at "cp:w")) (Rs.cons (R.lstF (Rs.cons R.str (Rs.cons R.str (Rs.cons R.str (Rs.cons R.str Rs.nil (by walk_at "cp:w")) (by walk_at "cp:w")) (by walk_at "cp:w")) (by walk_at "cp:w"))) Rs.nil (by walk_at "cp:w")) (by walk_at "cp:w")) (by walk_at "cp:w")) (by walk_at "cp:w")) (RS.cons (RS.asgs (by walk_at "cp:w") (Rs.cons (R.call (by walk_at "cp:is") (by walk_at "cp:is") (by walk_at "cp:w") (by walk_at "cp:w") (Rs.cons (R.name (by walk_at "cp:w")) (Rs.cons (R.name (by walk_at "cp:w")) Rs.nil (by walk_at "cp:w")) (by walk_at "cp:w")) (by walk_at "cp:w")) (Rs.cons (R.lstO Rs.nil) Rs.nil (by walk_at "cp:w")) (by walk_at "cp:w")) (by walk_at "cp:w") (by walk_at "cp:w") (by walk_at "cp:w")) (RS.cons (RS.ifte (RT.cmp Op2.eq (by walk_at "cp:w") (R.call (by walk_at "cp:is") (by walk_at "cp:is") (by walk_at "cp:w") (by walk_at "cp:w") (Rs.cons (R.name (by walk_at "cp:w")) (Rs.cons R.int Rs.nil (by walk_at "cp:w")) (by walk_at "cp:w")) (by walk_at "cp:w")) R.int) (RS.cons (RS.expr (R.call (by walk_at "cp:is") (by walk_at "cp:is") (by walk_at "cp:w") (by walk_at "cp:w") (Rs.cons (R.name (by walk_at "cp:w")) (Rs.cons R.str Rs.nil (by walk_at "cp:w")) (by walk_at "cp:w")) (by walk_at "cp:w")) (by walk_at "cp:w")) (RS.cons (RS.app (by walk_at "cp:w") (R.tup (Rs.cons (R.name (by walk_at "cp:w")) (Rs.cons (R.tup Rs.nil) (Rs.cons (R.tup Rs.nil) Rs.nil (by walk_at "cp:w")) (by walk_at "cp:w")) (by walk_at "cp:w"))) (by walk_at "cp:w") (mcall_of (by walk_at "cp:w")) (by walk_at "cp:w")) (RS.cons (RS.asg (by walk_at "cp:w") (R.call (by walk_at "cp:is") (by walk_at "cp:is") (by walk_at "cp:w") (by walk_at "cp:w") (Rs.cons (R.name (by walk_at "cp:w")) (Rs.cons (R.lstF (Rs.cons R.str (Rs.cons R.str Rs.nil (by walk_at "cp:w")) (by walk_at "cp:w"))) Rs.nil (by walk_at "cp:w")) (by walk_at "cp:w")) (by walk_at "cp:w")) (by walk_at "cp:w")) (RS.cons (RS.expr (R.call (by walk_at "cp:is") (by walk_at "cp:is") (by walk_at "cp:w") (by walk_at "cp:w") (Rs.cons (R.name (by walk_at "cp:w")) (Rs.cons (R.name (by walk_at "cp:w")) Rs.nil (by walk_at "cp:w")) (by walk_at "cp:w")) (by walk_at "cp:w")) (by walk_at "cp:w")) RS.nil)))) RS.nil) (RS.cons (RS.ifte (RT.or (RT.cmp Op2.eq (by walk_at "cp:w") (R.name (by walk_at "cp:w")) R.int) (RT.or (RT.cmp Op2.eq (by walk_at "cp:w") (R.call (by walk_at "cp:is") (by walk_at "cp:is") (by walk_at "cp:w") (by walk_at "cp:w") (Rs.cons (R.name (by walk_at "cp:w")) (Rs.cons R.int Rs.nil (by walk_at "cp:w")) (by walk_at "cp:w")) (by walk_at "cp:w")) R.int) RT.or0)) (RS.cons (RS.ret (R.tup (Rs.cons R.str (Rs.cons (R.name (by walk_at "cp:w")) (Rs.cons (R.tuple (by walk_at "cp:w") (R.bin Op2.add (R.name (by walk_at "cp:w")) (R.lstF (Rs.cons (R.tup (Rs.cons (R.name (by walk_at "cp:w")) (Rs.cons (R.tup Rs.nil) (Rs.cons (R.tup Rs.nil) Rs.nil (by walk_at "cp:w")) (by walk_at "cp:w")) (by walk_at "cp:w"))) Rs.nil (by walk_at "cp:w")))) (by walk_at "cp:w")) Rs.nil (by walk_at "cp:w")) (by walk_at "cp:w")) (by walk_at "cp:w")))) RS.nil) RS.nil) (RS.cons (RS.ifte (RT.cmp Op2.eq (by walk_at "cp:w") (R.call (by walk_at "cp:is") (by walk_at "cp:is") (by walk_at "cp:w") (by walk_at "cp:w") (Rs.cons (R.name (by walk_at "cp:w")) (Rs.cons R.int Rs.nil (by walk_at "cp:w")) (by walk_at "cp:w")) (by walk_at "cp:w")) R.int) (RS.cons (RS.expr (R.call (by walk_at "cp:is") (by walk_at "cp:is") (by walk_at "cp:w") (by walk_at "cp:w") (Rs.cons (R.name (by walk_at "cp:w")) (Rs.cons R.str Rs.nil (by walk_at "cp:w")) (by walk_at "cp:w")) (by walk_at "cp:w")) (by walk_at "cp:w")) RS.nil) RS.nil) (RS.cons (RS.expr (R.call (by walk_at "cp:is") (by walk_at "cp:is") (by walk_at "cp:w") (by walk_at "cp:w") (Rs.cons (R.name (by walk_at "cp:w")) (Rs.cons R.str Rs.nil (by walk_at "cp:w")) (by walk_at "cp:w")) (by walk_at "cp:w")) (by walk_at "cp:w")) (RS.cons (RS.asgs (by walk_at "cp:w") (Rs.cons (R.takeTo (R.lstF (Rs.cons R.str (Rs.cons R.str Rs.nil (by walk_at "cp:w")) (by walk_at "cp:w"))) (R.call (by walk_at "cp:is") (by walk_at "cp:is") (by walk_at "cp:w") (by walk_at "cp:w") (Rs.cons (R.name (by walk_at "cp:w")) (Rs.cons R.int Rs.nil (by walk_at "cp:w")) (by walk_at "cp:w")) (by walk_at "cp:w")) (by walk_at "cp:w") (by walk_at "cp:w")) (Rs.cons (R.lstO Rs.nil) Rs.nil (by walk_at "cp:w")) (by walk_at "cp:w")) (by walk_at "cp:w") (by walk_at "cp:w") (by walk_at "cp:w")) (RS.cons (RS.forE n_enum (by walk_at "cp:w") (by walk_at "cp:w") (by walk_at "cp:w") (R.name (by walk_at "cp:w")) (RS.cons (RS.ifte (RT.cmp Op2.gt (by walk_at "cp:w") (R.name (by walk_at "cp:w")) R.int) (RS.cons (RS.expr (R.call (by walk_at "cp:is") (by walk_at "cp:is") (by walk_at "cp:w") (by walk_at "cp:w") (Rs.cons (R.name (by walk_at "cp:w")) (Rs.cons R.str Rs.nil (by walk_at "cp:w")) (by walk_at "cp:w")) (by walk_at "cp:w")) (by walk_at "cp:w")) RS.nil) RS.nil) (RS.cons (RS.expr (R.call (by walk_at "cp:is") (by walk_at "cp:is") (by walk_at "cp:w") (by walk_at "cp:w") (Rs.cons (R.name (by walk_at "cp:w")) (Rs.cons R.str (Rs.cons (R.name (by walk_at "cp:w")) (Rs.cons R.nul (Rs.cons R.nul Rs.nil (by walk_at "cp:w")) (by walk_at "cp:w")) (by walk_at "cp:w")) (by walk_at "cp:w")) (by walk_at "cp:w")) (by walk_at "cp:w")) (by walk_at "cp:w")) RS.nil)) (by walk_at "cp:w") (by walk_at "cp:w")) (RS.cons (RS.forR n_range (by walk_at "cp:w") (by walk_at "cp:w") (R.call (by walk_at "cp:is") (by walk_at "cp:is") (by walk_at "cp:w") (by walk_at "cp:w") (Rs.cons (R.name (by walk_at "cp:w")) (Rs.cons R.int Rs.nil (by walk_at "cp:w")) (by walk_at "cp:w")) (by walk_at "cp:w")) (RS.cons (RS.ifte (RT.or (RT.cmp Op2.ne (by walk_at "cp:w") (R.name (by walk_at "cp:w")) (R.lstF Rs.nil)) (RT.or (RT.cmp Op2.ne (by walk_at "cp:w") (R.name (by walk_at "cp:w")) (R.lstF Rs.nil)) RT.or0)) (RS.cons (RS.expr (R.call (by walk_at "cp:is") (by walk_at "cp:is") (by walk_at "cp:w") (by walk_at "cp:w") (Rs.cons (R.name (by walk_at "cp:w")) (Rs.cons R.str Rs.nil (by walk_at "cp:w")) (by walk_at "cp:w")) (by walk_at "cp:w")) (by walk_at "cp:w")) RS.nil) RS.nil) (RS.cons (RS.app (by walk_at "cp:w") (R.call (by walk_at "cp:is") (by walk_at "cp:is") (by walk_at "cp:w") (by walk_at "cp:w") (Rs.cons (R.name (by walk_at "cp:w")) (Rs.cons (R.name (by walk_at "cp:w")) (Rs.cons (R.bin Op2.minus (R.name (by walk_at "cp:w")) R.int) Rs.nil (by walk_at "cp:w")) (by walk_at "cp:w")) (by walk_at "cp:w")) (by walk_at "cp:w")) (by walk_at "cp:w") (mcall_of (by walk_at "cp:w")) (by walk_at "cp:w")) RS.nil)) (by walk_at "cp:w") (by walk_at "cp:w")) (RS.cons (RS.expr (R.call (by walk_at "cp:is") (by walk_at "cp:is") (by walk_at "cp:w") (by walk_at "cp:w") (Rs.cons (R.name (by walk_at "cp:w")) (Rs.cons (R.name (by walk_at "cp:w")) Rs.nil (by walk_at "cp:w")) (by walk_at "cp:w")) (by walk_at "cp:w")) (by walk_at "cp:w")) (RS.cons (RS.ret (R.tup (Rs.cons R.str (Rs.cons (R.name (by walk_at "cp:w")) (Rs.cons (R.tuple (by walk_at "cp:w") (R.bin Op2.add (R.name (by walk_at "cp:w")) (R.lstF (Rs.cons (R.tup (Rs.cons (R.name (by walk_at "cp:w")) (Rs.cons (R.tuple (by walk_at "cp:w") (R.name (by walk_at "cp:w")) (by walk_at "cp:w")) (Rs.cons (R.tuple (by walk_at "cp:w") (R.name (by walk_at "cp:w")) (by walk_at "cp:w")) Rs.nil (by walk_at "cp:w")) (by walk_at "cp:w")) (by walk_at "cp:w"))) Rs.nil (by walk_at "cp:w")))) (by walk_at "cp:w")) Rs.nil (by walk_at "cp:w")) (by walk_at "cp:w")) (by walk_at "cp:w")))) RS.nil)))))))))))⟩
noncomputable def d305 : { t : FTr // SoundF (.fn 305) t } := ⟨_, RF.dd 0 8 [] (by walk_at "cp:is") (by walk_at "cp:is") (by with_unfolding_all exact bind0 rfl (by intros; exact BindsTo.of_eq rfl)) (by walk_at "cp:d") rfl rfl rfl (by with_reducible exact RS.cons (RS.asg (by walk_at "cp:w") (R.tup (Rs.cons (R.tup (Rs.cons R.str (Rs.cons (R.tup Rs.nil) (Rs.cons (R.tup Rs.nil) Rs.nil (by walk_at "cp:w")) (by walk_at "cp:w")) (by walk_at "cp:w"))) Rs.nil (by walk_at "cp:w"))) (by walk_at "cp:w")) (RS.cons (RS.asg (by walk_at "cp:w") (R.lstF (Rs.cons (R.tup (Rs.cons (R.lstF (Rs.cons R.str Rs.nil (by walk_at "cp:w"))) (Rs.cons (R.tup (Rs.cons (R.tup (Rs.cons R.str (Rs.cons R.int Rs.nil (by walk_at "cp:w")) (by walk_at "cp:w"))) (Rs.cons R.int Rs.nil (by walk_at "cp:w")) (by walk_at "cp:w"))) Rs.nil (by walk_at "cp:w")) (by walk_at "cp:w"))) (Rs.cons (R.tup (Rs.cons (R.lstF (Rs.cons R.str Rs.nil (by walk_at "cp:w"))) (Rs.cons (R.tup (Rs.cons (R.tup (Rs.cons R.str (Rs.cons R.int Rs.nil (by walk_at "cp:w")) (by walk_at "cp:w"))) (Rs.cons R.int Rs.nil (by walk_at "cp:w")) (by walk_at "cp:w"))) Rs.nil (by walk_at "cp:w")) (by walk_at "cp:w"))) (Rs.cons (R.tup (Rs.cons (R.lstF (Rs.cons R.str (Rs.cons R.str Rs.nil (by walk_at "cp:w")) (by walk_at "cp:w"))) (Rs.cons (R.tup (Rs.cons (R.tup (Rs.cons R.str (Rs.cons R.int (Rs.cons (R.tup Rs.nil) Rs.nil (by walk_at "cp:w")) (by walk_at "cp:w")) (by walk_at "cp:w"))) (Rs.cons R.int Rs.nil (by walk_at "cp:w")) (by walk_at "cp:w"))) Rs.nil (by walk_at "cp:w")) (by walk_at "cp:w"))) (Rs.cons (R.tup (Rs.cons (R.lstF (Rs.cons R.str (Rs.cons R.str (Rs.cons R.str Rs.nil (by walk_at "cp:w")) (by walk_at "cp:w")) (by walk_at "cp:w"))) (Rs.cons (R.tup (Rs.cons (R.tup (Rs.cons R.str (Rs.cons R.int Rs.nil (by walk_at "cp:w")) (by walk_at "cp:w"))) (Rs.cons R.int Rs.nil (by walk_at "cp:w")) (by walk_at "cp:w"))) Rs.nil (by walk_at "cp:w")) (by walk_at "cp:w"))) (Rs.cons (R.tup (Rs.cons (R.lstF (Rs.cons R.str (Rs.cons R.str (Rs.cons R.str (Rs.cons R.str Rs.nil (by walk_at "cp:w")) (by walk_at "cp:w")) (by walk_at "cp:w")) (by walk_at "cp:w"))) (Rs.cons (R.tup (Rs.cons (R.tup (Rs.cons R.str (Rs.cons R.int (Rs.cons (R.tup (Rs.cons (R.tup (Rs.cons R.str (Rs.cons R.int Rs.nil (by walk_at "cp:w")) (by walk_at "cp:w"))) Rs.nil (by walk_at "cp:w"))) Rs.nil (by walk_at "cp:w")) (by walk_at "cp:w")) (by walk_at "cp:w"))) (Rs.cons R.int Rs.nil (by walk_at "cp:w")) (by walk_at "cp:w"))) Rs.nil (by walk_at "cp:w")) (by walk_at "cp:w"))) (Rs.cons (R.tup (Rs.cons (R.lstF (Rs.cons R.str (Rs.cons R.str (Rs.cons R.str (Rs.cons R.str Rs.nil (by walk_at "cp:w")) (by walk_at "cp:w")) (by walk_at "cp:w")) (by walk_at "cp:w"))) (Rs.cons (R.tup (Rs.cons (R.tup (Rs.cons R.str (Rs.cons R.int (Rs.cons R.str (Rs.cons R.bool (Rs.cons (R.tup (Rs.cons R.str (Rs.cons R.int Rs.nil (by walk_at "cp:w")) (by walk_at "cp:w"))) Rs.nil (by walk_at "cp:w")) (by walk_at "cp:w")) (by walk_at "cp:w")) (by walk_at "cp:w")) (by walk_at "cp:w"))) (Rs.cons R.int Rs.nil (by walk_at "cp:w")) (by walk_at "cp:w"))) Rs.nil (by walk_at "cp:w")) (by walk_at "cp:w"))) (Rs.cons (R.tup (Rs.cons (R.lstF (Rs.cons R.str (Rs.cons R.str Rs.nil (by walk_at "cp:w")) (by walk_at "cp:w"))) (Rs.cons (R.tup (Rs.cons (R.tup (Rs.cons R.str (Rs.cons R.int (Rs.cons R.nul (Rs.cons R.bool (Rs.cons (R.tup (Rs.cons R.str (Rs.cons R.int (Rs.cons R.nul (Rs.cons R.bool (Rs.cons (R.tup (Rs.cons R.str (Rs.cons R.int Rs.nil (by walk_at "cp:w")) (by walk_at "cp:w"))) Rs.nil (by walk_at "cp:w")) (by walk_at "cp:w")) (by walk_at "cp:w")) (by walk_at "cp:w")) (by walk_at "cp:w"))) Rs.nil (by walk_at "cp:w")) (by walk_at "cp:w")) (by walk_at "cp:w")) (by walk_at "cp:w")) (by walk_at "cp:w"))) (Rs.cons R.int Rs.nil (by walk_at "cp:w")) (by walk_at "cp:w"))) Rs.nil (by walk_at "cp:w")) (by walk_at "cp:w"))) (Rs.cons (R.tup (Rs.cons (R.lstF (Rs.cons R.str (Rs.cons R.str (Rs.cons R.str (Rs.cons R.str (Rs.cons R.str Rs.nil (by walk_at "cp:w")) (by walk_at "cp:w")) (by walk_at "cp:w")) (by walk_at "cp:w")) (by walk_at "cp:w"))) (Rs.cons (R.tup (Rs.cons (R.tup (Rs.cons R.str (Rs.cons R.int (Rs.cons (R.tup (Rs.cons R.str (Rs.cons R.int Rs.nil (by walk_at "cp:w")) (by walk_at "cp:w"))) (Rs.cons R.int Rs.nil (by walk_at "cp:w")) (by walk_at "cp:w")) (by walk_at "cp:w")) (by walk_at "cp:w"))) (Rs.cons R.int Rs.nil (by walk_at "cp:w")) (by walk_at "cp:w"))) Rs.nil (by walk_at "cp:w")) (by walk_at "cp:w"))) (Rs.cons (R.tup (Rs.cons (R.lstF (Rs.cons R.str (Rs.cons R.str Rs.nil (by walk_at "cp:w")) (by walk_at "cp:w"))) (Rs.cons (R.tup (Rs.cons (R.tup (Rs.cons R.str (Rs.cons R.int (Rs.cons (R.name (by walk_at "cp:w")) Rs.nil (by walk_at "cp:w")) (by walk_at "cp:w")) (by walk_at "cp:w"))) (Rs.cons R.int Rs.nil (by walk_at "cp:w")) (by walk_at "cp:w"))) Rs.nil (by walk_at "cp:w")) (by walk_at "cp:w"))) (Rs.cons (R.tup (Rs.cons (R.lstF (Rs.cons R.str (Rs.cons R.str (Rs.cons R.str Rs.nil (by walk_at "cp:w")) (by walk_at "cp:w")) (by walk_at "cp:w"))) (Rs.cons (R.tup (Rs.cons (R.tup (Rs.cons R.str (Rs.cons R.int (Rs.cons (R.bin Op2.add (R.tup (Rs.cons (R.tup (Rs.cons R.str (Rs.cons (R.tup Rs.nil) (Rs.cons (R.tup Rs.nil) Rs.nil (by walk_at "cp:w")) (by walk_at "cp:w")) (by walk_at "cp:w"))) Rs.nil (by walk_at "cp:w"))) (R.name (by walk_at "cp:w"))) Rs.nil (by walk_at "cp:w")) (by walk_at "cp:w")) (by walk_at "cp:w"))) (Rs.cons R.int Rs.nil (by walk_at "cp:w")) (by walk_at "cp:w"))) Rs.nil (by walk_at "cp:w")) (by walk_at "cp:w"))) (Rs.cons (R.tup (Rs.cons (R.lstF (Rs.cons R.str (Rs.cons R.str (Rs.cons R.str Rs.nil (by walk_at "cp:w")) (by walk_at "cp:w")) (by walk_at "cp:w"))) (Rs.cons (R.tup (Rs.cons R.str (Rs.cons R.int Rs.nil (by walk_at "cp:w")) (by walk_at "cp:w"))) Rs.nil (by walk_at "cp:w")) (by walk_at "cp:w"))) (Rs.cons (R.tup (Rs.cons (R.lstF (Rs.cons R.str Rs.nil (by walk_at "cp:w"))) (Rs.cons (R.tup (Rs.cons R.str (Rs.cons R.int Rs.nil (by walk_at "cp:w")) (by walk_at "cp:w"))) Rs.nil (by walk_at "cp:w")) (by walk_at "cp:w"))) (Rs.cons (R.tup (Rs.cons (R.lstF (Rs.cons R.str Rs.nil (by walk_at "cp:w"))) (Rs.cons (R.tup (Rs.cons R.str (Rs.cons R.int Rs.nil (by walk_at "cp:w")) (by walk_at "cp:w"))) Rs.nil (by walk_at "cp:w")) (by walk_at "cp:w"))) Rs.nil (by walk_at "cp:w")) (by walk_at "cp:w")) (by walk_at "cp:w")) (by walk_at "cp:w")) (by walk_at "cp:w")) (by walk_at "cp:w")) (by walk_at "cp:w")) (by walk_at "cp:w")) (by walk_at "cp:w")) (by walk_at "cp:w")) (by walk_at "cp:w")) (by walk_at "cp:w")) (by walk_at "cp:w"))) (by walk_at "cp:w")) (RS.cons (RS.forT (by walk_at "cp:w") (R.name (by walk_at "cp:w")) (RS.cons (RS.ifte (RT.cmp Op2.ne (by walk_at "cp:w") (R.call (by walk_at "cp:is") (by walk_at "cp:is") (by walk_at "cp:w") (by walk_at "cp:w") (Rs.cons (R.globF (by walk_at "cp:is") (by walk_at "cp:w") (by walk_at "cp:w")) (Rs.cons (R.call (by walk_at "cp:is") (by walk_at "cp:is") (by walk_at "cp:w") (by walk_at "cp:w") (Rs.cons (R.name (by walk_at "cp:w")) Rs.nil (by walk_at "cp:w")) (by walk_at "cp:w")) Rs.nil (by walk_at "cp:w")) (by walk_at "cp:w")) (by walk_at "cp:w")) (R.name (by walk_at "cp:w"))) (RS.cons (RS.ret R.bool) RS.nil) RS.nil) RS.nil) (by walk_at "cp:w")) (RS.cons (RS.ret (R.cmp Op2.eq (by walk_at "cp:w") (R.call (by walk_at "cp:is") (by walk_at "cp:is") (by walk_at "cp:w") (by walk_at "cp:w") (Rs.cons (R.globF (by walk_at "cp:is") (by walk_at "cp:w") (by walk_at "cp:w")) (Rs.cons (R.call (by walk_at "cp:is") (by walk_at "cp:is") (by walk_at "cp:w") (by walk_at "cp:w") (Rs.cons (R.lstF (Rs.cons R.str (Rs.cons R.str (Rs.cons R.str (Rs.cons R.str (Rs.cons R.str (Rs.cons R.str Rs.nil (by walk_at "cp:w")) (by walk_at "cp:w")) (by walk_at "cp:w")) (by walk_at "cp:w")) (by walk_at "cp:w")) (by walk_at "cp:w"))) Rs.nil (by walk_at "cp:w")) (by walk_at "cp:w")) Rs.nil (by walk_at "cp:w")) (by walk_at "cp:w")) (by walk_at "cp:w")) (R.tup (Rs.cons (R.tup (Rs.cons R.str (Rs.cons R.int (Rs.cons (R.tup (Rs.cons (R.tup (Rs.cons R.str (Rs.cons R.int Rs.nil (by walk_at "cp:w")) (by walk_at "cp:w"))) (Rs.cons (R.tup (Rs.cons R.str (Rs.cons R.int Rs.nil (by walk_at "cp:w")) (by walk_at "cp:w"))) Rs.nil (by walk_at "cp:w")) (by walk_at "cp:w"))) Rs.nil (by walk_at "cp:w")) (by walk_at "cp:w")) (by walk_at "cp:w"))) (Rs.cons R.int Rs.nil (by walk_at "cp:w")) (by walk_at "cp:w"))))) RS.nil))))⟩
noncomputable def l0 : { t : ETr // SoundE L0.1.scope L0.1.body t } := ⟨_, by unfold L0; dsimp only; with_reducible exact R.call (by walk_at "cp:is") (by walk_at "cp:is") (by walk_at "cp:w") (by walk_at "cp:w") (Rs.cons (R.name (by walk_at "cp:w")) (Rs.cons (R.tup Rs.nil) (Rs.cons (R.free (by walk_at "cp:w") (by walk_at "cp:w")) Rs.nil (by walk_at "cp:w")) (by walk_at "cp:w")) (by walk_at "cp:w")) (by walk_at "cp:w")⟩
noncomputable def l1 : { t : ETr // SoundE L1.1.scope L1.1.body t } := ⟨_, by unfold L1; dsimp only; with_reducible exact R.call (by walk_at "cp:is") (by walk_at "cp:is") (by walk_at "cp:w") (by walk_at "cp:w") (Rs.cons (R.name (by walk_at "cp:w")) (Rs.cons (R.free (by walk_at "cp:w") (by walk_at "cp:w")) Rs.nil (by walk_at "cp:w")) (by walk_at "cp:w")) (by walk_at "cp:w")⟩
noncomputable def mm310 : List PV := List.replicate 8 .undef ++ [.g 1, .g 2] ++ List.replicate 3 .undef
noncomputable def d310 : { t : FTr // SoundF (.fn 310) t } := ⟨_, RF.cells (x1 := Str.ofString "ahead") (x2 := Str.ofString "is_expr") (mm := mm310) (by walk_at "cp:is") (by walk_at "cp:is") ⟨rfl, rfl⟩ (by intro s; exact BindsTo.of_eq rfl) (cells2_of (by with_unfolding_all (intro L; exact rfl)) (by with_unfolding_all decide) (by with_unfolding_all decide) (by with_unfolding_all exact rfl)) rfl rfl rfl (by with_reducible exact RS.cons (RS.asg (by walk_at "cp:w") (R.lstF (Rs.cons (R.tup (Rs.cons R.str (Rs.cons (R.tup (Rs.cons R.int (Rs.cons R.int Rs.nil (by walk_at "cp:w")) (by walk_at "cp:w"))) Rs.nil (by walk_at "cp:w")) (by walk_at "cp:w"))) (Rs.cons (R.tup (Rs.cons R.str (Rs.cons (R.tup (Rs.cons R.int (Rs.cons R.int Rs.nil (by walk_at "cp:w")) (by walk_at "cp:w"))) Rs.nil (by walk_at "cp:w")) (by walk_at "cp:w"))) (Rs.cons (R.tup (Rs.cons R.str (Rs.cons (R.tup (Rs.cons R.str (Rs.cons R.int Rs.nil (by walk_at "cp:w")) (by walk_at "cp:w"))) Rs.nil (by walk_at "cp:w")) (by walk_at "cp:w"))) (Rs.cons (R.tup (Rs.cons R.str (Rs.cons (R.tup (Rs.cons R.int (Rs.cons R.int Rs.nil (by walk_at "cp:w")) (by walk_at "cp:w"))) Rs.nil (by walk_at "cp:w")) (by walk_at "cp:w"))) (Rs.cons (R.tup (Rs.cons R.str (Rs.cons (R.tup (Rs.cons R.str (Rs.cons R.int Rs.nil (by walk_at "cp:w")) (by walk_at "cp:w"))) Rs.nil (by walk_at "cp:w")) (by walk_at "cp:w"))) (Rs.cons (R.tup (Rs.cons R.str (Rs.cons (R.tup (Rs.cons R.str (Rs.cons R.int Rs.nil (by walk_at "cp:w")) (by walk_at "cp:w"))) Rs.nil (by walk_at "cp:w")) (by walk_at "cp:w"))) (Rs.cons (R.tup (Rs.cons R.str (Rs.cons (R.tup (Rs.cons R.str (Rs.cons R.int Rs.nil (by walk_at "cp:w")) (by walk_at "cp:w"))) Rs.nil (by walk_at "cp:w")) (by walk_at "cp:w"))) Rs.nil (by walk_at "cp:w")) (by walk_at "cp:w")) (by walk_at "cp:w")) (by walk_at "cp:w")) (by walk_at "cp:w")) (by walk_at "cp:w")) (by walk_at "cp:w"))) (by walk_at "cp:w")) (RS.cons (RS.forT (by walk_at "cp:w") (R.name (by walk_at "cp:w")) (RS.cons (RS.ifte (RT.cmp Op2.ne (by walk_at "cp:w") (R.call (by walk_at "cp:is") (by walk_at "cp:is") (by walk_at "cp:w") (by walk_at "cp:w") (Rs.cons (R.globF (by walk_at "cp:is") (by walk_at "cp:w") (by walk_at "cp:w")) (Rs.cons (R.call (by walk_at "cp:is") (by walk_at "cp:is") (by walk_at "cp:w") (by walk_at "cp:w") (Rs.cons (R.lstF (Rs.cons (R.name (by walk_at "cp:w")) Rs.nil (by walk_at "cp:w"))) Rs.nil (by walk_at "cp:w")) (by walk_at "cp:w")) Rs.nil (by walk_at "cp:w")) (by walk_at "cp:w")) (by walk_at "cp:w")) (R.name (by walk_at "cp:w"))) (RS.cons (RS.ret R.bool) RS.nil) RS.nil) RS.nil) (by walk_at "cp:w")) (RS.cons (RS.asg (by walk_at "cp:w") (R.tup (Rs.cons (R.tup (Rs.cons R.str (Rs.cons R.int (Rs.cons (R.tup (Rs.cons (R.tup (Rs.cons R.str (Rs.cons (R.tup Rs.nil) (Rs.cons (R.tup Rs.nil) Rs.nil (by walk_at "cp:w")) (by walk_at "cp:w")) (by walk_at "cp:w"))) Rs.nil (by walk_at "cp:w"))) Rs.nil (by walk_at "cp:w")) (by walk_at "cp:w")) (by walk_at "cp:w"))) Rs.nil (by walk_at "cp:w"))) (by walk_at "cp:w")) (RS.cons (RS.asg (by walk_at "cp:w") (R.lstF (Rs.cons (R.tup (Rs.cons (R.lstF (Rs.cons R.str (Rs.cons R.str (Rs.cons R.str (Rs.cons R.str Rs.nil (by walk_at "cp:w")) (by walk_at "cp:w")) (by walk_at "cp:w")) (by walk_at "cp:w"))) (Rs.cons R.bool (Rs.cons (R.tup (Rs.cons (R.tup (Rs.cons R.str (Rs.cons (R.tup Rs.nil) (Rs.cons (R.name (by walk_at "cp:w")) Rs.nil (by walk_at "cp:w")) (by walk_at "cp:w")) (by walk_at "cp:w"))) (Rs.cons R.int Rs.nil (by walk_at "cp:w")) (by walk_at "cp:w"))) Rs.nil (by walk_at "cp:w")) (by walk_at "cp:w")) (by walk_at "cp:w"))) (Rs.cons (R.tup (Rs.cons (R.lstF (Rs.cons R.str (Rs.cons R.str (Rs.cons R.str (Rs.cons R.str Rs.nil (by walk_at "cp:w")) (by walk_at "cp:w")) (by walk_at "cp:w")) (by walk_at "cp:w"))) (Rs.cons R.bool (Rs.cons (R.tup (Rs.cons (R.tup (Rs.cons R.str (Rs.cons (R.tup Rs.nil) (Rs.cons (R.tup Rs.nil) Rs.nil (by walk_at "cp:w")) (by walk_at "cp:w")) (by walk_at "cp:w"))) (Rs.cons R.int Rs.nil (by walk_at "cp:w")) (by walk_at "cp:w"))) Rs.nil (by walk_at "cp:w")) (by walk_at "cp:w")) (by walk_at "cp:w"))) (Rs.cons (R.tup (Rs.cons (R.lstF (Rs.cons R.str (Rs.cons R.str (Rs.cons R.str (Rs.cons R.str (Rs.cons R.str Rs.nil (by walk_at "cp:w")) (by walk_at "cp:w")) (by walk_at "cp:w")) (by walk_at "cp:w")) (by walk_at "cp:w"))) (Rs.cons R.bool (Rs.cons (R.tup (Rs.cons (R.tup (Rs.cons R.str (Rs.cons (R.tup (Rs.cons R.str Rs.nil (by walk_at "cp:w"))) (Rs.cons (R.tup Rs.nil) Rs.nil (by walk_at "cp:w")) (by walk_at "cp:w")) (by walk_at "cp:w"))) (Rs.cons R.int Rs.nil (by walk_at "cp:w")) (by walk_at "cp:w"))) Rs.nil (by walk_at "cp:w")) (by walk_at "cp:w")) (by walk_at "cp:w"))) (Rs.cons (R.tup (Rs.cons (R.lstF (Rs.cons R.str (Rs.cons R.str (Rs.cons R.str Rs.nil (by walk_at "cp:w")) (by walk_at "cp:w")) (by walk_at "cp:w"))) (Rs.cons R.bool (Rs.cons (R.tup (Rs.cons (R.tup (Rs.cons R.str (Rs.cons (R.tup Rs.nil) (Rs.cons (R.tup Rs.nil) Rs.nil (by walk_at "cp:w")) (by walk_at "cp:w")) (by walk_at "cp:w"))) (Rs.cons R.int Rs.nil (by walk_at "cp:w")) (by walk_at "cp:w"))) Rs.nil (by walk_at "cp:w")) (by walk_at "cp:w")) (by walk_at "cp:w"))) Rs.nil (by walk_at "cp:w")) (by walk_at "cp:w")) (by walk_at "cp:w")) (by walk_at "cp:w"))) (by walk_at "cp:w")) (RS.cons (RS.forT (by walk_at "cp:w") (R.name (by walk_at "cp:w")) (RS.cons (RS.ifte (RT.cmp Op2.ne (by walk_at "cp:w") (by with_unfolding_all exact R.lamCall (L := L0.1) (x := L0.1.x) (j := 0) (by walk_at "cp:is") (by walk_at "cp:is") (by walk_at "cp:w") (by walk_at "cp:w") (by walk_at "cp:w") own0 (by walk_at "cp:w") (by walk_at "cp:w") (by walk_at "cp:w") (by walk_at "cp:w") (clos_t (by walk_at "cp:w")) (by walk_at "cp:w") (R.call (by walk_at "cp:is") (by walk_at "cp:is") (by walk_at "cp:w") (by walk_at "cp:w") (Rs.cons (R.name (by walk_at "cp:w")) Rs.nil (by walk_at "cp:w")) (by walk_at "cp:w")) (by walk_at "cp:w")) (R.name (by walk_at "cp:w"))) (RS.cons (RS.ret R.bool) RS.nil) RS.nil) RS.nil) (by walk_at "cp:w")) (RS.cons (RS.asg (by walk_at "cp:w") (R.lstF (Rs.cons (R.tup (Rs.cons R.str (Rs.cons (R.tup (Rs.cons R.str Rs.nil (by walk_at "cp:w"))) (Rs.cons (R.tup (Rs.cons R.str (Rs.cons R.int Rs.nil (by walk_at "cp:w")) (by walk_at "cp:w"))) Rs.nil (by walk_at "cp:w")) (by walk_at "cp:w")) (by walk_at "cp:w"))) (Rs.cons (R.tup (Rs.cons R.str (Rs.cons (R.tup Rs.nil) (Rs.cons (R.tup (Rs.cons R.str (Rs.cons R.int Rs.nil (by walk_at "cp:w")) (by walk_at "cp:w"))) Rs.nil (by walk_at "cp:w")) (by walk_at "cp:w")) (by walk_at "cp:w"))) (Rs.cons (R.tup (Rs.cons R.str (Rs.cons (R.tup (Rs.cons R.str Rs.nil (by walk_at "cp:w"))) (Rs.cons (R.tup (Rs.cons R.str (Rs.cons R.int Rs.nil (by walk_at "cp:w")) (by walk_at "cp:w"))) Rs.nil (by walk_at "cp:w")) (by walk_at "cp:w")) (by walk_at "cp:w"))) (Rs.cons (R.tup (Rs.cons R.str (Rs.cons (R.tup (Rs.cons R.str (Rs.cons R.str Rs.nil (by walk_at "cp:w")) (by walk_at "cp:w"))) (Rs.cons (R.tup (Rs.cons R.str (Rs.cons R.int Rs.nil (by walk_at "cp:w")) (by walk_at "cp:w"))) Rs.nil (by walk_at "cp:w")) (by walk_at "cp:w")) (by walk_at "cp:w"))) (Rs.cons (R.tup (Rs.cons R.str (Rs.cons (R.tup (Rs.cons R.str Rs.nil (by walk_at "cp:w"))) (Rs.cons (R.tup (Rs.cons R.str (Rs.cons R.int Rs.nil (by walk_at "cp:w")) (by walk_at "cp:w"))) Rs.nil (by walk_at "cp:w")) (by walk_at "cp:w")) (by walk_at "cp:w"))) (Rs.cons (R.tup (Rs.cons R.str (Rs.cons (R.tup Rs.nil) (Rs.cons (R.tup (Rs.cons R.str (Rs.cons R.int Rs.nil (by walk_at "cp:w")) (by walk_at "cp:w"))) Rs.nil (by walk_at "cp:w")) (by walk_at "cp:w")) (by walk_at "cp:w"))) (Rs.cons (R.tup (Rs.cons R.str (Rs.cons (R.tup (Rs.cons R.str Rs.nil (by walk_at "cp:w"))) (Rs.cons (R.tup (Rs.cons R.str (Rs.cons R.int Rs.nil (by walk_at "cp:w")) (by walk_at "cp:w"))) Rs.nil (by walk_at "cp:w")) (by walk_at "cp:w")) (by walk_at "cp:w"))) (Rs.cons (R.tup (Rs.cons R.str (Rs.cons (R.tup (Rs.cons R.str Rs.nil (by walk_at "cp:w"))) (Rs.cons (R.tup (Rs.cons R.str (Rs.cons R.int Rs.nil (by walk_at "cp:w")) (by walk_at "cp:w"))) Rs.nil (by walk_at "cp:w")) (by walk_at "cp:w")) (by walk_at "cp:w"))) (Rs.cons (R.tup (Rs.cons R.str (Rs.cons (R.tup Rs.nil) (Rs.cons (R.tup (Rs.cons R.str (Rs.cons R.int Rs.nil (by walk_at "cp:w")) (by walk_at "cp:w"))) Rs.nil (by walk_at "cp:w")) (by walk_at "cp:w")) (by walk_at "cp:w"))) Rs.nil (by walk_at "cp:w")) (by walk_at "cp:w")) (by walk_at "cp:w")) (by walk_at "cp:w")) (by walk_at "cp:w")) (by walk_at "cp:w")) (by walk_at "cp:w")) (by walk_at "cp:w")) (by walk_at "cp:w"))) (by walk_at "cp:w")) (RS.cons (RS.forT (by walk_at "cp:w") (R.name (by walk_at "cp:w")) (RS.cons (RS.ifte (RT.cmp Op2.ne (by walk_at "cp:w") (by with_unfolding_all exact R.lamCall (L := L1.1) (x := L1.1.x) (j := 1) (by walk_at "cp:is") (by walk_at "cp:is") (by walk_at "cp:w") (by walk_at "cp:w") (by walk_at "cp:w") own1 (by walk_at "cp:w") (by walk_at "cp:w") (by walk_at "cp:w") (by walk_at "cp:w") (clos_t (by walk_at "cp:w")) (by walk_at "cp:w") (R.call (by walk_at "cp:is") (by walk_at "cp:is") (by walk_at "cp:w") (by walk_at "cp:w") (Rs.cons (R.lstF (Rs.cons (R.name (by walk_at "cp:w")) Rs.nil (by walk_at "cp:w"))) Rs.nil (by walk_at "cp:w")) (by walk_at "cp:w")) (by walk_at "cp:w")) (R.name (by walk_at "cp:w"))) (RS.cons (RS.ret R.bool) RS.nil) RS.nil) RS.nil) (by walk_at "cp:w")) (RS.cons (RS.asgComp (by walk_at "cp:w") (M.strs (by walk_at "cp:w") (by walk_at "cp:w")) (CompSc.mk (by walk_at "cp:w") (by walk_at "cp:d") (by walk_at "cp:w") (by walk_at "cp:w") (by walk_at "cp:w") (by walk_at "cp:w") (by walk_at "cp:w") (by walk_at "cp:w")) (by walk_at "cp:w") (GlobC.mk (by walk_at "cp:is") (by walk_at "cp:is") (by walk_at "cp:w") (by walk_at "cp:w")) (GlobC.mk (by walk_at "cp:is") (by walk_at "cp:is") (by walk_at "cp:w") (by walk_at "cp:w")) (by walk_at "cp:w")) (RS.cons (RS.ret (R.cmp Op2.eq (by walk_at "cp:w") (R.name (by walk_at "cp:w")) (R.lstF (Rs.cons R.str (Rs.cons R.str (Rs.cons R.str (Rs.cons R.str Rs.nil (by walk_at "cp:w")) (by walk_at "cp:w")) (by walk_at "cp:w")) (by walk_at "cp:w"))))) RS.nil)))))))))⟩
noncomputable def tbl : List (Addr × FTr) := [(161, d161.1), (168, d168.1), (176, d176.1), (183, d183.1), (190, d190.1), (197, d197.1), (146, d146.1), (153, d153.1), (55, d55.1), (62, d62.1), (69, d69.1), (76, d76.1), (83, d83.1), (90, d90.1), (96, d96.1), (103, d103.1), (110, d110.1), (117, d117.1), (124, d124.1),
  (211, d211.1), (218, d218.1), (225, d225.1), (232, d232.1), (239, d239.1), (246, d246.1), (263, d263.1), (270, d270.1), (277, d277.1), (284, d284.1), (291, d291.1), (251, d251.1), (256, d256.1), (298, d298.1), (305, d305.1), (310, d310.1)]
noncomputable def TT : PV → Option FTr
  | .fn a => tbl.lookup a
  | .lam 0 x => some (F.lam1 l0.1 x)
  | .lam 1 x => some (F.lam1 l1.1 x)
  | _ => none
inductive AllS : List (Addr × FTr) → Prop
  | nil : AllS []
  | cons {a : Addr} {t : FTr} {l : List (Addr × FTr)} : SoundF (.fn a) t → AllS l → AllS ((a, t) :: l)
theorem AllS.at {l : List (Addr × FTr)} (h : AllS l) {a : Addr} {t : FTr} (e : l.lookup a = some t) : SoundF (.fn a) t := by
  induction h with
  | nil => cases e
  | @cons b u l h1 _ ih =>
    rw [List.lookup_cons] at e
    split at e
    · next q =>
      obtain rfl := eq_of_beq q
      cases e
      exact h1
    · exact ih e
theorem tbl_ok : AllS tbl := .cons d161.2 (.cons d168.2 (.cons d176.2 (.cons d183.2 (.cons d190.2 (.cons d197.2 (.cons d146.2 (.cons d153.2 (.cons d55.2 (.cons d62.2 (.cons d69.2 (.cons d76.2 (.cons d83.2 (.cons d90.2 (.cons d96.2 (.cons d103.2 (.cons d110.2 (.cons d117.2 (.cons d124.2 (.cons d211.2 (.cons d218.2 (.cons d225.2 (.cons d232.2 (.cons d239.2 (.cons d246.2 (.cons d263.2 (.cons d270.2 (.cons d277.2 (.cons d284.2 (.cons d291.2 (.cons d251.2 (.cons d256.2 (.cons d298.2 (.cons d305.2 (.cons d310.2 .nil))))))))))))))))))))))))))))))))))
noncomputable def isTru : PV → Prop
  | .d (.bool true) => True
  | _ => False
theorem told305 : Cn TT 60 (.fn 305) [] [] (fun v _ => isTru v) (fun _ _ => False) = True := by kernel_rfl
noncomputable def isTab : List PObj → Prop
  | .tab _ :: _ => True
  | _ => False
noncomputable def both (v : PV) (g : List PObj) : Prop := match v with
  | .d (.bool true) => isTab g
  | _ => False
theorem told310 : Cn TT 60 (.fn 310) [] [.tab []] both (fun _ _ => False) = True := by kernel_rfl
theorem hT : ∀ f t, TT f = some t → SoundF f t := fun f t e => by
  cases f with
  | fn a => exact tbl_ok.at e
  | lam j x =>
    match j, e with
    | 0, e =>
      cases e
      exact RF.lam (L := L0.1) (fun w => (lam_at w 0).trans L0.2) (by with_unfolding_all rfl) (by with_unfolding_all rfl) (by with_unfolding_all decide) (by with_unfolding_all (intros; rfl)) (by with_unfolding_all rfl) (by with_unfolding_all rfl) (by with_unfolding_all rfl) l0.2
    | 1, e =>
      cases e
      exact RF.lam (L := L1.1) (fun w => (lam_at w 1).trans L1.2) (by with_unfolding_all rfl) (by with_unfolding_all rfl) (by with_unfolding_all decide) (by with_unfolding_all (intros; rfl)) (by with_unfolding_all rfl) (by with_unfolding_all rfl) (by with_unfolding_all rfl) l1.2
  | _ => cases e
theorem cn_ok (n : Nat) : COk n (Cn TT n) := Cn_ok hT n
theorem sem_ok (n : Nat) : COk n (SemC n) := fun _ _ _ _ _ h => h
theorem SemC.mono {n : Nat} {F : PV} {args : List PV} {g : List PObj} {P P' : CK} {X X' : CX} (h : SemC n F args g P X) (k : ∀ v g, P v g → P' v g) (kx : ∀ sp g, X sp g → X' sp g) : SemC n F args g P' X' := fun cs φ rest ω mv s Q E f vs H hf hv ret exc => h cs φ rest ω mv s Q E f vs H hf hv (fun a b g' ω' h' tk' q1 q2 q3 q4 => ret a b g' ω' h' tk' q1 q2 q3 (k _ _ q4)) (fun e sp g' ω' h' tk' q1 q2 q3 => exc e sp g' ω' h' tk' q1 q2 (kx _ _ q3))
theorem sem305 {P : CK} {X : CX} (h : ∀ g, P (.d (.bool true)) g) : SemC 60 (.fn 305) [] [] P X := by
  refine (cn_ok 60 _ _ _ _ _ (told305 ▸ trivial)).mono (fun v g q => ?_) fun _ _ h => h.elim
  match v, q with
  | .d (.bool true), _ => exact h g
theorem sem310 {P : CK} {X : CX} (h : ∀ made g, P (.d (.bool true)) (.tab made :: g)) : SemC 60 (.fn 310) [] [.tab []] P X := by
  refine (cn_ok 60 _ _ _ _ _ (told310 ▸ trivial)).mono (fun v g q => ?_) fun _ _ h => h.elim
  match v, g, q with
  | .d (.bool true), .tab m :: g, _ => exact h m g
namespace Q
noncomputable abbrev reg (x : Str) (sp : Int) : Wd := ⟨Str.ofString "region", x, sp, none, none⟩
noncomputable abbrev gg (w : Wd) : Wd := ⟨w.kind, Str.ofString ">>", w.spot, w.val, w.told⟩
noncomputable def S' (x : String) : Str := Str.ofString x

noncomputable def tyStart (w : Wd) : Prop := (w.kind = Str.ofString "name" ∧ (w.text = Str.ofString "_" ∨ w.text = Str.ofString "T" ∨ w.text = Str.ofString "Vec" ∨ w.text = Str.ofString "crate" ∨ w.text = Str.ofString "Self" ∨ w.text = Str.ofString "U")) ∨
  (w.kind = Str.ofString "sign" ∧ (w.text = Str.ofString "!" ∨ w.text = Str.ofString "(" ∨ w.text = Str.ofString "&" ∨ w.text = Str.ofString "&&" ∨ w.text = Str.ofString "["))
noncomputable def okC (c : Wd) : Prop := c.kind = Str.ofString "sign" ∧ (c.text = Str.ofString "," ∨ c.text = Str.ofString ")" ∨ c.text = Str.ofString ";" ∨ c.text = Str.ofString "=" ∨ c.text = Str.ofString ">" ∨ c.text = Str.ofString ">>")
noncomputable def clo (c : Wd) : Prop := c.kind = Str.ofString "sign" ∧ (c.text = Str.ofString ">" ∨ c.text = Str.ofString ">>")
theorem clo.ok {c : Wd} (h : clo c) : okC c := ⟨h.1, by rcases h.2 with e | e <;> simp [e]⟩

inductive ArgsT (P : List Wd → Dat → List Wd → Prop) : List Wd → List Dat → List Wd → Prop
  | close {c : Wd} {rest : List Wd} : clo c → ArgsT P (c :: rest) [] (c :: rest)
  | last {w c : Wd} {ws rest : List Wd} {d : Dat} : tyStart w → P (w :: ws) d (c :: rest) → clo c → ArgsT P (w :: ws) [d] (c :: rest)
  | more {w : Wd} {sp : Int} {ws ws' rest : List Wd} {d : Dat} {ds : List Dat} : tyStart w → P (w :: ws) d (sgn (Str.ofString ",") sp :: ws') → ArgsT P ws' ds rest → ArgsT P (w :: ws) (d :: ds) rest
inductive ArgsR (P : List Wd → Dat → List Wd → Prop) : List Wd → List Str → List Dat → List Wd → Prop
  | types {ws rest : List Wd} {ds : List Dat} : ArgsT P ws ds rest → ArgsR P ws [] ds rest
  | last {x : Str} {sp : Int} {c : Wd} {rest : List Wd} : clo c → ArgsR P (reg x sp :: c :: rest) [x] [] (c :: rest)
  | more {x : Str} {sp sp' : Int} {ws rest : List Wd} {xs : List Str} {ds : List Dat} : ArgsR P ws xs ds rest → ArgsR P (reg x sp :: sgn (Str.ofString ",") sp' :: ws) (x :: xs) ds rest
inductive Closes : List Wd → List Wd → Prop
  | one {c : Wd} {rest : List Wd} : c.kind = Str.ofString "sign" → c.text = Str.ofString ">" → Closes (c :: rest) rest
  | two {c : Wd} {rest : List Wd} : c.kind = Str.ofString "sign" → c.text = Str.ofString ">>" → Closes (c :: rest) (sgn (Str.ofString ">") (c.spot + 1) :: rest)
inductive Tail (P : List Wd → Dat → List Wd → Prop) : List Wd → List Str → List Dat → List Wd → Prop
  | turbo {sp sp' : Int} {ws r1 rest : List Wd} {xs : List Str} {ds : List Dat} : ArgsR P ws xs ds r1 → xs.length + ds.length ≤ 8 → Closes r1 rest → Tail P (sgn (Str.ofString "::") sp :: sgn (Str.ofString "<") sp' :: ws) xs ds rest
  | plain {sp : Int} {ws r1 rest : List Wd} {xs : List Str} {ds : List Dat} : ArgsR P ws xs ds r1 → xs.length + ds.length ≤ 8 → Closes r1 rest → Tail P (sgn (Str.ofString "<") sp :: ws) xs ds rest
  | none {c : Wd} {rest : List Wd} : okC c → Tail P (c :: rest) [] [] (c :: rest)
noncomputable def segD (n : Str) (xs : List Str) (ds : List Dat) : Dat := .tuple [.str n, .tuple (xs.map .str), .tuple ds]
noncomputable def firstN (n : Str) : Prop := n = Str.ofString "T" ∨ n = Str.ofString "Vec" ∨ n = Str.ofString "crate" ∨ n = Str.ofString "Self" ∨ n = Str.ofString "U"
noncomputable def nextN (n : Str) : Prop := n = Str.ofString "a" ∨ n = Str.ofString "b"
inductive RefT : List Wd → Option Str → Bool → List Wd → Prop
  | plain {w : Wd} {ws : List Wd} : tyStart w → RefT (w :: ws) none false (w :: ws)
  | mt {sp : Int} {ws : List Wd} : RefT (nam (Str.ofString "mut") sp :: ws) none true ws
  | rg {x : Str} {sp : Int} {w : Wd} {ws : List Wd} : tyStart w → RefT (reg x sp :: w :: ws) (some x) false (w :: ws)
  | rgmt {x : Str} {sp sp' : Int} {ws : List Wd} : RefT (reg x sp :: nam (Str.ofString "mut") sp' :: ws) (some x) true ws
noncomputable def optD : Option Str → Dat
  | none => .none
  | some x => .str x
noncomputable def refD (sp : Int) (r : Option Str) (m : Bool) (d : Dat) : Dat := .tuple [.str (Str.ofString "ref"), .int sp, optD r, .bool m, d]
noncomputable def tupD (sp : Int) (ds : List Dat) : Dat := .tuple [.str (Str.ofString "tuple"), .int sp, .tuple ds]
noncomputable def pathD (sp : Int) (ds : List Dat) : Dat := .tuple [.str (Str.ofString "path"), .int sp, .tuple ds]

inductive Shallow (P : List Wd → Dat → List Wd → Prop) : List Wd → Dat → List Wd → Prop
  | never {sp : Int} {rest : List Wd} : Shallow P (sgn (Str.ofString "!") sp :: rest) (.tuple [.str (Str.ofString "never"), .int sp]) rest
  | infer {sp : Int} {rest : List Wd} : Shallow P (nam (Str.ofString "_") sp :: rest) (.tuple [.str (Str.ofString "infer"), .int sp]) rest
  | unit {sp sp2 : Int} {rest : List Wd} : Shallow P (sgn (Str.ofString "(") sp :: sgn (Str.ofString ")") sp2 :: rest) (tupD sp []) rest
  | paren {sp sp2 : Int} {w : Wd} {ws rest : List Wd} {d : Dat} : tyStart w → P (w :: ws) d (sgn (Str.ofString ")") sp2 :: rest) → Shallow P (sgn (Str.ofString "(") sp :: w :: ws) d rest
  | tup1 {sp sp2 sp3 : Int} {w : Wd} {ws rest : List Wd} {d : Dat} : tyStart w → P (w :: ws) d (sgn (Str.ofString ",") sp2 :: sgn (Str.ofString ")") sp3 :: rest) → Shallow P (sgn (Str.ofString "(") sp :: w :: ws) (tupD sp [d]) rest
  | tup2 {sp sp2 sp3 : Int} {w w2 : Wd} {ws ws2 rest : List Wd} {d d2 : Dat} : tyStart w → P (w :: ws) d (sgn (Str.ofString ",") sp2 :: w2 :: ws2) → tyStart w2 → P (w2 :: ws2) d2 (sgn (Str.ofString ")") sp3 :: rest) →
      Shallow P (sgn (Str.ofString "(") sp :: w :: ws) (tupD sp [d, d2]) rest
  | tup2c {sp sp2 sp3 sp4 : Int} {w w2 : Wd} {ws ws2 rest : List Wd} {d d2 : Dat} : tyStart w → P (w :: ws) d (sgn (Str.ofString ",") sp2 :: w2 :: ws2) → tyStart w2 → P (w2 :: ws2) d2 (sgn (Str.ofString ",") sp4 :: sgn (Str.ofString ")") sp3 :: rest) →
      Shallow P (sgn (Str.ofString "(") sp :: w :: ws) (tupD sp [d, d2]) rest
  | ref1 {sp : Int} {ws ws' rest : List Wd} {r : Option Str} {m : Bool} {d : Dat} : RefT ws r m ws' → P ws' d rest → Shallow P (sgn (Str.ofString "&") sp :: ws) (refD sp r m d) rest
  | ref2 {sp : Int} {ws ws' rest : List Wd} {r : Option Str} {m : Bool} {d : Dat} : RefT ws r m ws' → P ws' d rest → Shallow P (sgn (Str.ofString "&&") sp :: ws) (refD sp none false (refD (sp + 1) r m d)) rest
  | arr {sp sp2 sp3 sp4 n : Int} {tx : Str} {told : Option Str} {ws rest : List Wd} {d : Dat} : P ws d (sgn (Str.ofString ";") sp2 :: ⟨Str.ofString "int", tx, sp3, some n, told⟩ :: sgn (Str.ofString "]") sp4 :: rest) → told = none ∨ told = some (Str.ofString "usize") → n ≤ 4096 →
      Shallow P (sgn (Str.ofString "[") sp :: ws) (.tuple [.str (Str.ofString "array"), .int sp, d, .int n]) rest
  | path1 {sp : Int} {n : Str} {c : Wd} {ws rest : List Wd} {xs : List Str} {ds : List Dat} : firstN n → Tail P ws xs ds (c :: rest) → okC c → Shallow P (nam n sp :: ws) (pathD sp [segD n xs ds]) (c :: rest)
  | path2 {sp sp2 sp3 : Int} {n n2 : Str} {c : Wd} {ws rest : List Wd} {xs : List Str} {ds : List Dat} : firstN n → nextN n2 → Tail P ws xs ds (c :: rest) → okC c →
      Shallow P (nam n sp :: sgn (Str.ofString "::") sp2 :: nam n2 sp3 :: ws) (pathD sp [segD n [] [], segD n2 xs ds]) (c :: rest)
noncomputable def RT : Nat → List Wd → Dat → List Wd → Prop
  | 0 => fun _ _ _ => False
  | k + 1 => Shallow (RT k)

noncomputable def Good (k : Nat) (d : Dat) (ws : List Wd) : Prop :=
  (∃ w tl, ws = w :: tl ∧ tyStart w) ∧ (∀ c cont, okC c → RT k (ws ++ c :: cont) d (c :: cont)) ∧
  (∀ init wd, ws = init ++ [wd] → wd.kind = Str.ofString "sign" → wd.text = Str.ofString ">" → ∀ cont, RT k (init ++ gg wd :: cont) d (sgn (Str.ofString ">") (wd.spot + 1) :: cont)) ∧ dOk (4 * k) d = true

theorem ne_bang : (Str.ofString "!" == Str.ofString ">") = false := by decide +kernel
theorem ne_under : (Str.ofString "_" == Str.ofString ">") = false := by decide +kernel
theorem ne_par : (Str.ofString ")" == Str.ofString ">") = false := by decide +kernel
theorem ne_sq : (Str.ofString "]" == Str.ofString ">") = false := by decide +kernel
theorem ne_gg : (Str.ofString ">>" == Str.ofString ">") = false := by decide +kernel
theorem kind_reg : ¬ Str.ofString "region" = Str.ofString "sign" := by decide +kernel
theorem kind_nam : ¬ Str.ofString "name" = Str.ofString "sign" := by decide +kernel
theorem strOk_never : PyData.strOk (Str.ofString "never") = true := by decide +kernel
theorem strOk_infer : PyData.strOk (Str.ofString "infer") = true := by decide +kernel
theorem last_of {α : Type} {pre ws init : List α} {x : α} (h : pre ++ ws = init ++ [x]) (hn : ws ≠ []) : ∃ i, ws = i ++ [x] ∧ init = pre ++ i := by
  rcases snoc_cases ws with rfl | ⟨i, p, rfl⟩
  · exact absurd rfl hn
  · rw [← List.append_assoc] at h
    obtain ⟨a, b⟩ := List.append_inj' h rfl
    cases b
    exact ⟨i, rfl, a.symm⟩
theorem not_gt {α : Prop} {ws init : List Wd} {x wd : Wd} (h : ws ++ [x] = init ++ [wd]) (ht : wd.text = Str.ofString ">") (hx : (x.text == Str.ofString ">") = false) : α := by
  obtain ⟨_, b⟩ := List.append_inj' h rfl
  cases b
  rw [ht] at hx
  simp at hx
theorem Good.mono_ok {k : Nat} {d : Dat} {ws : List Wd} (h : Good k d ws) {m : Nat} (hm : 4 * k ≤ m) : dOk m d = true := dOk_mono _ _ _ hm h.2.2.2
theorem good_never {k : Nat} {sp : Int} : Good (k + 1) (.tuple [.str (Str.ofString "never"), .int sp]) [sgn (Str.ofString "!") sp] :=
  ⟨⟨_, _, rfl, .inr ⟨rfl, .inl rfl⟩⟩, fun _ _ _ => .never, fun init wd h _ ht => not_gt (ws := []) h ht ne_bang, dOk_mono 1 _ _ (by omega) (by simp [dOk, strOk_never])⟩
theorem good_infer {k : Nat} {sp : Int} : Good (k + 1) (.tuple [.str (Str.ofString "infer"), .int sp]) [nam (Str.ofString "_") sp] :=
  ⟨⟨_, _, rfl, .inl ⟨rfl, .inl rfl⟩⟩, fun _ _ _ => .infer, fun init wd h _ ht => not_gt (ws := []) h ht ne_under, dOk_mono 1 _ _ (by omega) (by simp [dOk, strOk_infer])⟩
theorem strOk_tuple : PyData.strOk (Str.ofString "tuple") = true := by decide +kernel
theorem good_unit {k : Nat} {sp sp2 : Int} : Good (k + 1) (tupD sp []) [sgn (Str.ofString "(") sp, sgn (Str.ofString ")") sp2] :=
  ⟨⟨_, _, rfl, .inr ⟨rfl, .inr (.inl rfl)⟩⟩, fun _ _ _ => .unit, fun init wd h _ ht => not_gt (ws := [sgn (Str.ofString "(") sp]) h ht ne_par, dOk_mono 2 _ _ (by omega) (by simp [tupD, dOk, strOk_tuple])⟩
theorem okC_comma {sp : Int} : okC (sgn (Str.ofString ",") sp) := ⟨rfl, .inl rfl⟩
theorem okC_par {sp : Int} : okC (sgn (Str.ofString ")") sp) := ⟨rfl, .inr (.inl rfl)⟩
theorem okC_semi {sp : Int} : okC (sgn (Str.ofString ";") sp) := ⟨rfl, .inr (.inr (.inl rfl))⟩
theorem strOk_ref : PyData.strOk (Str.ofString "ref") = true := by decide +kernel
theorem strOk_path : PyData.strOk (Str.ofString "path") = true := by decide +kernel
theorem strOk_array : PyData.strOk (Str.ofString "array") = true := by decide +kernel
theorem good_paren {k : Nat} {d : Dat} {ws : List Wd} {sp sp2 : Int} (h : Good k d ws) : Good (k + 1) d (sgn (Str.ofString "(") sp :: (ws ++ [sgn (Str.ofString ")") sp2])) := by
  obtain ⟨⟨w, tl, rfl, hw⟩, h1, _, h3⟩ := h
  refine ⟨⟨_, _, rfl, .inr ⟨rfl, .inr (.inl rfl)⟩⟩, fun c cont _ => ?_, fun init wd h _ ht => not_gt (ws := sgn (Str.ofString "(") sp :: (w :: tl)) h ht ne_par, dOk_mono _ _ _ (by omega) h3⟩
  have := h1 (sgn (Str.ofString ")") sp2) (c :: cont) okC_par
  show Shallow (RT k) _ _ _; simpa using Shallow.paren hw this
theorem tupD_ok {n : Nat} {sp : Int} {ds : List Dat} (h : ∀ d ∈ ds, dOk n d = true) : dOk (n + 2) (tupD sp ds) = true := by
  simp only [tupD, dOk, List.all_cons, List.all_nil, Bool.and_true, Bool.and_eq_true, Bool.true_and, strOk_tuple, List.all_eq_true]
  exact h
theorem good_tup1 {k : Nat} {d : Dat} {ws : List Wd} {sp sp2 sp3 : Int} (h : Good k d ws) : Good (k + 1) (tupD sp [d]) (sgn (Str.ofString "(") sp :: (ws ++ [sgn (Str.ofString ",") sp2] ++ [sgn (Str.ofString ")") sp3])) := by
  obtain ⟨⟨w, tl, rfl, hw⟩, h1, _, h3⟩ := h
  refine ⟨⟨_, _, rfl, .inr ⟨rfl, .inr (.inl rfl)⟩⟩, fun c cont _ => ?_, fun init wd h _ ht => not_gt (ws := sgn (Str.ofString "(") sp :: (w :: tl ++ [sgn (Str.ofString ",") sp2])) h ht ne_par, dOk_mono (4 * k + 2) _ _ (by omega) (tupD_ok (by simpa using h3))⟩
  have := h1 (sgn (Str.ofString ",") sp2) (sgn (Str.ofString ")") sp3 :: c :: cont) okC_comma
  show Shallow (RT k) _ _ _; simpa using Shallow.tup1 hw this
theorem good_tup2 {k : Nat} {d d2 : Dat} {ws ws2 : List Wd} {sp sp2 sp3 : Int} (h : Good k d ws) (g : Good k d2 ws2) : Good (k + 1) (tupD sp [d, d2]) (sgn (Str.ofString "(") sp :: (ws ++ [sgn (Str.ofString ",") sp2] ++ ws2 ++ [sgn (Str.ofString ")") sp3])) := by
  obtain ⟨⟨w, tl, rfl, hw⟩, h1, _, h3⟩ := h
  obtain ⟨⟨w2, tl2, rfl, hw2⟩, g1, _, g3⟩ := g
  refine ⟨⟨_, _, rfl, .inr ⟨rfl, .inr (.inl rfl)⟩⟩, fun c cont _ => ?_, fun init wd h _ ht => not_gt (ws := sgn (Str.ofString "(") sp :: (w :: tl ++ [sgn (Str.ofString ",") sp2] ++ (w2 :: tl2))) h ht ne_par, dOk_mono (4 * k + 2) _ _ (by omega) (tupD_ok (by simpa using ⟨h3, g3⟩))⟩
  have a := g1 (sgn (Str.ofString ")") sp3) (c :: cont) okC_par
  have b := h1 (sgn (Str.ofString ",") sp2) (w2 :: tl2 ++ sgn (Str.ofString ")") sp3 :: c :: cont) okC_comma
  show Shallow (RT k) _ _ _; simpa using Shallow.tup2 hw b hw2 a
theorem good_tup2c {k : Nat} {d d2 : Dat} {ws ws2 : List Wd} {sp sp2 sp3 sp4 : Int} (h : Good k d ws) (g : Good k d2 ws2) : Good (k + 1) (tupD sp [d, d2]) (sgn (Str.ofString "(") sp :: (ws ++ [sgn (Str.ofString ",") sp2] ++ ws2 ++ [sgn (Str.ofString ",") sp4] ++ [sgn (Str.ofString ")") sp3])) := by
  obtain ⟨⟨w, tl, rfl, hw⟩, h1, _, h3⟩ := h
  obtain ⟨⟨w2, tl2, rfl, hw2⟩, g1, _, g3⟩ := g
  refine ⟨⟨_, _, rfl, .inr ⟨rfl, .inr (.inl rfl)⟩⟩, fun c cont _ => ?_, fun init wd h _ ht => not_gt (ws := sgn (Str.ofString "(") sp :: (w :: tl ++ [sgn (Str.ofString ",") sp2] ++ (w2 :: tl2) ++ [sgn (Str.ofString ",") sp4])) h ht ne_par, dOk_mono (4 * k + 2) _ _ (by omega) (tupD_ok (by simpa using ⟨h3, g3⟩))⟩
  have a := g1 (sgn (Str.ofString ",") sp4) (sgn (Str.ofString ")") sp3 :: c :: cont) okC_comma
  have b := h1 (sgn (Str.ofString ",") sp2) (w2 :: tl2 ++ sgn (Str.ofString ",") sp4 :: sgn (Str.ofString ")") sp3 :: c :: cont) okC_comma
  show Shallow (RT k) _ _ _; simpa using Shallow.tup2c hw b hw2 a
theorem not_start {w : Wd} (hk : w.kind = Str.ofString "sign") (ht : w.text = Str.ofString ">") : ¬ tyStart w := by
  rintro (⟨e, _⟩ | ⟨_, e⟩)
  · rw [hk] at e; revert e; decide +kernel
  · rw [ht] at e; revert e; decide +kernel
theorem good_arr {k : Nat} {d : Dat} {ws : List Wd} {sp sp2 sp3 sp4 n : Int} {tx : Str} {told : Option Str} (h : Good k d ws) (ht : told = none ∨ told = some (Str.ofString "usize")) (hn : n ≤ 4096) :
    Good (k + 1) (.tuple [.str (Str.ofString "array"), .int sp, d, .int n]) (sgn (Str.ofString "[") sp :: (ws ++ [sgn (Str.ofString ";") sp2] ++ [⟨Str.ofString "int", tx, sp3, some n, told⟩] ++ [sgn (Str.ofString "]") sp4])) := by
  obtain ⟨⟨w, tl, rfl, hw⟩, h1, _, h3⟩ := h
  refine ⟨⟨_, _, rfl, .inr ⟨rfl, .inr (.inr (.inr (.inr rfl)))⟩⟩, fun c cont _ => ?_, fun init wd h _ ht => not_gt (ws := sgn (Str.ofString "[") sp :: (w :: tl ++ [sgn (Str.ofString ";") sp2] ++ [(⟨Str.ofString "int", tx, sp3, some n, told⟩ : Wd)])) (x := sgn (Str.ofString "]") sp4) (by simpa using h) ht ne_sq, dOk_mono (4 * k + 1) _ _ (by omega) ?_⟩
  · have := h1 (sgn (Str.ofString ";") sp2) (⟨Str.ofString "int", tx, sp3, some n, told⟩ :: sgn (Str.ofString "]") sp4 :: c :: cont) okC_semi
    show Shallow (RT k) _ _ _; simpa using Shallow.arr this ht hn
  · simp [dOk, strOk_array, h3]
inductive RefP : List Wd → Option Str → Bool → Prop
  | plain : RefP [] none false
  | mt {sp : Int} : RefP [nam (Str.ofString "mut") sp] none true
  | rg {x : Str} {sp : Int} : RefP [reg x sp] (some x) false
  | rgmt {x : Str} {sp sp' : Int} : RefP [reg x sp, nam (Str.ofString "mut") sp'] (some x) true
theorem RefP.refT {pre : List Wd} {r : Option Str} {m : Bool} (h : RefP pre r m) {w : Wd} {ws : List Wd} (hw : tyStart w) : RefT (pre ++ (w :: ws)) r m (w :: ws) := by
  cases h with
  | plain => exact .plain hw
  | mt => exact .mt
  | rg => exact .rg hw
  | rgmt => exact .rgmt
theorem refD_ok {n : Nat} {sp : Int} {r : Option Str} {m : Bool} {d : Dat} (h : dOk n d = true) (hr : ∀ x, r = some x → PyData.strOk x = true) : dOk (n + 1) (refD sp r m d) = true := by
  cases r with
  | none => simp [refD, optD, dOk, strOk_ref, h]
  | some x => simp [refD, optD, dOk, strOk_ref, h, hr x rfl]
theorem good_ref1 {k : Nat} {d : Dat} {ws pre : List Wd} {sp : Int} {r : Option Str} {m : Bool} (p : RefP pre r m) (hr : ∀ x, r = some x → PyData.strOk x = true) (h : Good k d ws) : Good (k + 1) (refD sp r m d) (sgn (Str.ofString "&") sp :: (pre ++ ws)) := by
  obtain ⟨⟨w, tl, rfl, hw⟩, h1, h2, h3⟩ := h
  refine ⟨⟨_, _, rfl, .inr ⟨rfl, .inr (.inr (.inl rfl))⟩⟩, fun c cont hc => ?_, fun init wd h hk ht cont => ?_, dOk_mono (4 * k + 1) _ _ (by omega) (refD_ok h3 hr)⟩
  · have := Shallow.ref1 (sp := sp) (p.refT (ws := tl ++ c :: cont) hw) (h1 c cont hc)
    show Shallow (RT k) _ _ _; simpa using this
  · obtain ⟨i, e1, rfl⟩ := last_of (pre := sgn (Str.ofString "&") sp :: pre) (ws := w :: tl) h (by simp)
    have q := h2 i wd e1 hk ht cont
    cases i with
    | nil =>
      simp at e1
      obtain ⟨rfl, rfl⟩ := e1
      exact absurd hw (not_start hk ht)
    | cons w' i =>
      simp at e1
      obtain ⟨rfl, rfl⟩ := e1
      have := Shallow.ref1 (sp := sp) (p.refT (ws := i ++ gg wd :: cont) hw) q
      show Shallow (RT k) _ _ _; simpa using this
theorem good_ref2 {k : Nat} {d : Dat} {ws pre : List Wd} {sp : Int} {r : Option Str} {m : Bool} (p : RefP pre r m) (hr : ∀ x, r = some x → PyData.strOk x = true) (h : Good k d ws) : Good (k + 1) (refD sp none false (refD (sp + 1) r m d)) (sgn (Str.ofString "&&") sp :: (pre ++ ws)) := by
  obtain ⟨⟨w, tl, rfl, hw⟩, h1, h2, h3⟩ := h
  refine ⟨⟨_, _, rfl, .inr ⟨rfl, .inr (.inr (.inr (.inl rfl)))⟩⟩, fun c cont hc => ?_, fun init wd h hk ht cont => ?_, dOk_mono (4 * k + 2) _ _ (by omega) (refD_ok (refD_ok h3 hr) (by simp))⟩
  · have := Shallow.ref2 (sp := sp) (p.refT (ws := tl ++ c :: cont) hw) (h1 c cont hc)
    show Shallow (RT k) _ _ _; simpa using this
  · obtain ⟨i, e1, rfl⟩ := last_of (pre := sgn (Str.ofString "&&") sp :: pre) (ws := w :: tl) h (by simp)
    have q := h2 i wd e1 hk ht cont
    cases i with
    | nil =>
      simp at e1
      obtain ⟨rfl, rfl⟩ := e1
      exact absurd hw (not_start hk ht)
    | cons w' i =>
      simp at e1
      obtain ⟨rfl, rfl⟩ := e1
      have := Shallow.ref2 (sp := sp) (p.refT (ws := i ++ gg wd :: cont) hw) q
      show Shallow (RT k) _ _ _; simpa using this

structure AG (k : Nat) (rs : List Str) (ts : List Dat) (aw : List Wd) : Prop where
  close : ∀ c cont, clo c → ArgsR (RT k) (aw ++ c :: cont) rs ts (c :: cont)
  ext : ∀ sp w tl ds rest, tyStart w → ArgsT (RT k) (w :: tl) ds rest → ArgsR (RT k) (aw ++ ((if aw = [] then [] else [sgn (Str.ofString ",") sp]) ++ w :: tl)) rs (ts ++ ds) rest
  merge : ∀ init wd, aw = init ++ [wd] → wd.kind = Str.ofString "sign" → wd.text = Str.ofString ">" → ∀ cont, ArgsR (RT k) (init ++ gg wd :: cont) rs ts (sgn (Str.ofString ">") (wd.spot + 1) :: cont)
  okr : ∀ x ∈ rs, PyData.strOk x = true
  okt : ∀ d ∈ ts, dOk (4 * k) d = true
theorem ag_nil {k : Nat} : AG k [] [] [] := ⟨fun c cont h => .types (.close h), fun sp w tl ds rest _ h => by simpa using ArgsR.types h, fun init wd h => by simp at h, by simp, by simp⟩
theorem ag_one {k : Nat} {x : Str} {sp : Int} (hx : PyData.strOk x = true) : AG k [x] [] [reg x sp] :=
  ⟨fun c cont h => .last h, fun sp' w tl ds rest _ h => by simpa using ArgsR.more (ArgsR.types h), fun init wd h hk => by
    obtain ⟨_, b⟩ := List.append_inj' (s₁ := []) h rfl
    cases b; exact absurd hk kind_reg, by simpa using hx, by simp⟩
theorem ag_two {k : Nat} {x y : Str} {sp sp2 sp3 : Int} (hx : PyData.strOk x = true) (hy : PyData.strOk y = true) : AG k [x, y] [] [reg x sp, sgn (Str.ofString ",") sp2, reg y sp3] :=
  ⟨fun c cont h => .more (.last h), fun sp' w tl ds rest _ h => by simpa using ArgsR.more (ArgsR.more (ArgsR.types h)), fun init wd h hk => by
    obtain ⟨_, b⟩ := List.append_inj' (s₁ := [reg x sp, sgn (Str.ofString ",") sp2]) h rfl
    cases b; exact absurd hk kind_reg, by simpa using ⟨hx, hy⟩, by simp⟩
theorem ag_ext {k : Nat} {rs : List Str} {ts : List Dat} {aw ws : List Wd} {d : Dat} {sp : Int} (a : AG k rs ts aw) (g : Good k d ws) : AG k rs (ts ++ [d]) (aw ++ ((if aw = [] then [] else [sgn (Str.ofString ",") sp]) ++ ws)) := by
  obtain ⟨⟨w, tl, rfl, hw⟩, h1, h2, h3⟩ := g
  refine ⟨?_, ?_, ?_, a.okr, ?_⟩
  · intro c cont hc
    have := a.ext sp w (tl ++ c :: cont) [d] (c :: cont) hw (.last hw (h1 c cont hc.ok) hc)
    simpa using this
  · intro sp' w' tl' ds rest hw' h
    have := a.ext sp w (tl ++ sgn (Str.ofString ",") sp' :: (w' :: tl')) (d :: ds) rest hw (.more hw (h1 _ _ okC_comma) h)
    simpa using this
  · intro init wd e hk ht cont
    rw [← List.append_assoc] at e
    obtain ⟨i, e1, rfl⟩ := last_of e (by simp)
    have q := h2 i wd e1 hk ht cont
    cases i with
    | nil =>
      simp at e1
      obtain ⟨rfl, rfl⟩ := e1
      exact absurd hw (not_start hk ht)
    | cons w' i =>
      simp at e1
      obtain ⟨rfl, rfl⟩ := e1
      have := a.ext sp w (i ++ gg wd :: cont) [d] _ hw (.last hw q ⟨rfl, .inl rfl⟩)
      simpa using this
  · intro x hx
    rcases List.mem_append.mp hx with hx | hx
    · exact a.okt x hx
    · rw [List.mem_singleton.mp hx]; exact h3

inductive Names : List Wd → List Dat → Str → Int → Prop
  | one {n : Str} {sp : Int} : firstN n → Names [nam n sp] [] n sp
  | two {n n2 : Str} {sp sp2 sp3 : Int} : firstN n → nextN n2 → Names [nam n sp, sgn (Str.ofString "::") sp2, nam n2 sp3] [segD n [] []] n2 sp
theorem Names.read {k : Nat} {pre : List Wd} {segs : List Dat} {n : Str} {sp : Int} (h : Names pre segs n sp) {c : Wd} {ws rest : List Wd} {xs : List Str} {ds : List Dat} (t : Tail (RT k) ws xs ds (c :: rest)) (hc : okC c) :
    RT (k + 1) (pre ++ ws) (pathD sp (segs ++ [segD n xs ds])) (c :: rest) := by
  cases h with
  | one h => exact Shallow.path1 h t hc
  | two h h2 => exact Shallow.path2 h h2 t hc
theorem firstN.ok {n : Str} (h : firstN n) : PyData.strOk n = true := by rcases h with rfl | rfl | rfl | rfl | rfl <;> decide +kernel
theorem nextN.ok {n : Str} (h : nextN n) : PyData.strOk n = true := by rcases h with rfl | rfl <;> decide +kernel
theorem segD_ok {k : Nat} {n : Str} {xs : List Str} {ds : List Dat} (hn : PyData.strOk n = true) (hx : ∀ x ∈ xs, PyData.strOk x = true) (hd : ∀ d ∈ ds, dOk k d = true) : dOk (k + 2) (segD n xs ds) = true := by
  simp only [segD, dOk, List.all_cons, List.all_nil, Bool.and_true, Bool.and_eq_true, hn, List.all_eq_true, true_and]
  refine ⟨?_, hd⟩
  intro x hx'
  obtain ⟨y, hy, rfl⟩ := List.mem_map.mp hx'
  cases k <;> exact hx y hy
theorem Names.okD {k : Nat} {pre : List Wd} {segs : List Dat} {n : Str} {sp : Int} (h : Names pre segs n sp) {xs : List Str} {ds : List Dat} (hx : ∀ x ∈ xs, PyData.strOk x = true) (hd : ∀ d ∈ ds, dOk k d = true) : dOk (k + 4) (pathD sp (segs ++ [segD n xs ds])) = true := by
  have key : ∀ l : List Dat, (∀ d ∈ l, dOk (k + 2) d = true) → dOk (k + 4) (pathD sp l) = true := by
    intro l hl
    simp only [pathD, dOk, List.all_cons, List.all_nil, Bool.and_true, Bool.true_and, strOk_path, List.all_eq_true]
    exact hl
  cases h with
  | one h => exact key _ (by simpa using segD_ok h.ok hx hd)
  | two h h2 =>
    refine key _ ?_
    intro d hd'
    simp only [List.cons_append, List.nil_append, List.mem_cons, List.not_mem_nil, or_false] at hd'
    rcases hd' with rfl | rfl
    · exact segD_ok h.ok (by simp) (by simp)
    · exact segD_ok h2.ok hx hd
theorem Names.start {pre : List Wd} {segs : List Dat} {n : Str} {sp : Int} (h : Names pre segs n sp) : ∃ w tl, pre = w :: tl ∧ tyStart w := by
  cases h with
  | one h => exact ⟨_, _, rfl, .inl ⟨rfl, .inr h⟩⟩
  | two h _ => exact ⟨_, _, rfl, .inl ⟨rfl, .inr h⟩⟩
theorem Names.ends {pre : List Wd} {segs : List Dat} {n : Str} {sp : Int} (h : Names pre segs n sp) : ∃ i x sp', pre = i ++ [nam x sp'] := by
  cases h with
  | one h => exact ⟨[], _, _, rfl⟩
  | two h _ => exact ⟨[_, _], _, _, rfl⟩
theorem good_path0 {k : Nat} {pre : List Wd} {segs : List Dat} {n : Str} {sp : Int} (h : Names pre segs n sp) : Good (k + 1) (pathD sp (segs ++ [segD n [] []])) pre := by
  refine ⟨h.start, fun c cont hc => h.read (.none hc) hc, fun init wd e hk ht => ?_, dOk_mono (0 + 4) _ _ (by omega) (h.okD (by simp) (by simp))⟩
  obtain ⟨i, x, sp', rfl⟩ := h.ends
  obtain ⟨_, b⟩ := List.append_inj' e rfl
  cases b
  exact absurd hk kind_nam
inductive OpenW : List Wd → Prop
  | plain {sp : Int} : OpenW [sgn (Str.ofString "<") sp]
  | turbo {sp sp' : Int} : OpenW [sgn (Str.ofString "::") sp, sgn (Str.ofString "<") sp']
theorem OpenW.tail {P : List Wd → Dat → List Wd → Prop} {op : List Wd} (h : OpenW op) {ws r1 rest : List Wd} {xs : List Str} {ds : List Dat} (a : ArgsR P ws xs ds r1) (hb : xs.length + ds.length ≤ 8) (c : Closes r1 rest) : Tail P (op ++ ws) xs ds rest := by
  cases h with
  | plain => exact .plain a hb c
  | turbo => exact .turbo a hb c
theorem good_path {k : Nat} {pre op aw : List Wd} {segs : List Dat} {n : Str} {sp sp2 : Int} {rs : List Str} {ts : List Dat} (h : Names pre segs n sp) (o : OpenW op) (a : AG k rs ts aw) (hb : rs.length + ts.length ≤ 8) :
    Good (k + 1) (pathD sp (segs ++ [segD n rs ts])) (pre ++ (op ++ (aw ++ [sgn (Str.ofString ">") sp2]))) := by
  refine ⟨?_, fun c cont hc => ?_, fun init wd e hk ht cont => ?_, dOk_mono (4 * k + 4) _ _ (by omega) (h.okD a.okr a.okt)⟩
  · obtain ⟨w, tl, rfl, hw⟩ := h.start
    exact ⟨w, _, rfl, hw⟩
  · have := h.read (o.tail (a.close (sgn (Str.ofString ">") sp2) (c :: cont) ⟨rfl, .inl rfl⟩) hb (.one rfl rfl)) hc
    simpa using this
  · rw [← List.append_assoc, ← List.append_assoc] at e
    obtain ⟨rfl, b⟩ := List.append_inj' e rfl
    cases b
    have := h.read (o.tail (a.close (gg (sgn (Str.ofString ">") sp2)) cont ⟨rfl, .inr rfl⟩) hb (.two rfl rfl)) (rest := cont) ⟨rfl, .inr (.inr (.inr (.inr (.inl rfl))))⟩
    simpa using this
theorem good_path2 {k : Nat} {pre op aw : List Wd} {segs : List Dat} {n : Str} {sp : Int} {wd : Wd} {rs : List Str} {ts : List Dat} (h : Names pre segs n sp) (o : OpenW op) (a : AG k rs ts (aw ++ [wd])) (hb : rs.length + ts.length ≤ 8) (hk : wd.kind = Str.ofString "sign") (ht : wd.text = Str.ofString ">") :
    Good (k + 1) (pathD sp (segs ++ [segD n rs ts])) (pre ++ (op ++ (aw ++ [gg wd]))) := by
  refine ⟨?_, fun c cont hc => ?_, fun init wd' e _ ht' => ?_, dOk_mono (4 * k + 4) _ _ (by omega) (h.okD a.okr a.okt)⟩
  · obtain ⟨w, tl, rfl, hw⟩ := h.start
    exact ⟨w, _, rfl, hw⟩
  · have := h.read (o.tail (a.merge aw wd rfl hk ht (c :: cont)) hb (.one rfl rfl)) hc
    simpa using this
  · rw [← List.append_assoc, ← List.append_assoc] at e
    exact not_gt e ht' ne_gg

end Q
/-! The drawn part: calls that run a table of functions, as a fact about C. -/
noncomputable def Cal (T : PV → Option FTr) : Nat → CT → Prop
  | 0, _ => True
  | n + 1, C => ∃ C', Cal T n C' ∧ ∀ f t, T f = some t → ∀ args g P X, t C' args g P X → C f args g P X
theorem Cal.of {T : PV → Option FTr} : ∀ n, Cal T n (Cn T n)
  | 0 => trivial
  | n + 1 => ⟨Cn T n, Cal.of n, fun f t e args g P X h => by
    show match T f with | some t => t (Cn T n) args g P X | none => False
    rw [e]
    exact h⟩
theorem Cal.le {T : PV → Option FTr} : ∀ {n m : Nat} {C : CT}, Cal T n C → m ≤ n → Cal T m C
  | _, 0, _, _, _ => trivial
  | n + 1, m + 1, _, ⟨C', h1, h2⟩, h => ⟨C', h1.le (Nat.le_of_succ_le_succ h), h2⟩
theorem Cal.go {T : PV → Option FTr} {n : Nat} {C : CT} (h : Cal T (n + 1) C) {f : PV} {t : FTr} (e : T f = some t) {args : List PV} {g : List PObj} {P : CK} {X : CX} (k : ∀ C', Cal T n C' → t C' args g P X) : C f args g P X := by
  obtain ⟨C', h1, h2⟩ := h
  exact h2 f t e _ _ _ _ (k C' h1)
theorem br {A B : Prop} {b v : Bool} : b = v → (match v with | true => A | false => B) → match b with | true => A | false => B := fun h k => h ▸ k
theorem onT_ok {b : Bool} {k : Prop} (h : b = true) (hk : k) : onT b k := by rw [h]; exact hk
noncomputable def optID : Option Int → Dat
  | some i => .int i
  | none => .none
noncomputable def optSD : Option Str → Dat
  | some i => .str i
  | none => .none
noncomputable def rowD (w : Wd) : List Dat := [.str w.kind, .str w.text, .int w.spot, optID w.val, optSD w.told]
noncomputable def wdD (w : Wd) : Dat := .tuple (rowD w)
structure At (N : Nat) (rows : List Dat) (ix : Int) (cur : List Wd) : Prop where
  le : N ≤ 1000
  ln : rows.length = N
  ex : ∃ pre, rows = pre ++ cur.map wdD ∧ ix = (pre.length : Int)
theorem item_ok {ds : List Dat} {k : Int} {P : Dat → Prop} (j : Nat) {x : Dat} (hk : k = (j : Int)) (hx : ds[j]? = some x) (hl : ds.length ≤ 1000) (h : P x) : itemK ds k P := by
  have hj := (List.getElem?_eq_some_iff.mp hx).1
  unfold itemK
  rw [Nat.ble_eq_true_of_le hl, hk]
  show onSome (seqIndex? (j : Int) ds.length) _
  have : seqIndex? (j : Int) ds.length = some j := by
    unfold seqIndex?
    grind
  rw [this]
  show onSome ds[j]? P
  rw [hx]
  exact h
theorem At.item {N : Nat} {rows : List Dat} {ix : Int} {w : Wd} {cur : List Wd} (a : At N rows ix (w :: cur)) : ∃ j : Nat, ix = (j : Int) ∧ rows[j]? = some (wdD w) ∧ j < rows.length := by
  obtain ⟨_, _, pre, rfl, rfl⟩ := a
  exact ⟨pre.length, rfl, by simp, by simp⟩
theorem At.item2 {N : Nat} {rows : List Dat} {ix : Int} {w w2 : Wd} {cur : List Wd} (a : At N rows ix (w :: w2 :: cur)) : ∃ j : Nat, ix + 1 = (j : Int) ∧ rows[j]? = some (wdD w2) ∧ j < rows.length := by
  obtain ⟨_, _, pre, rfl, rfl⟩ := a
  exact ⟨pre.length + 1, by simp, by simp, by simp⟩
theorem At.next {N : Nat} {rows : List Dat} {ix : Int} {w : Wd} {cur : List Wd} (a : At N rows ix (w :: cur)) : At N rows (ix + 1) cur := by
  obtain ⟨h1, h2, pre, rfl, rfl⟩ := a
  exact ⟨h1, h2, pre ++ [wdD w], by simp, by simp⟩
theorem At.put {N : Nat} {rows : List Dat} {ix : Int} {w : Wd} {cur : List Wd} (a : At N rows ix (w :: cur)) (w' : Wd) : At N (rows.set ix.toNat (wdD w')) ix (w' :: cur) := by
  obtain ⟨h1, h2, pre, rfl, rfl⟩ := a
  exact ⟨h1, by rw [List.length_set, h2], pre, by simp, rfl⟩
theorem At.lt {N : Nat} {rows : List Dat} {ix : Int} {w : Wd} {cur : List Wd} (a : At N rows ix (w :: cur)) : (decide (0 ≤ ix) && decide (ix < rows.length)) = true := by
  obtain ⟨j, rfl, _, h⟩ := a.item
  simp
  omega
theorem At.many {N : Nat} {rows : List Dat} {ix : Int} {cur : List Wd} (a : At N rows ix cur) : ix + cur.length = N := by
  obtain ⟨h1, h2, pre, rfl, rfl⟩ := a
  rw [← h2]
  simp
theorem ys_d {x : Dat} {r : List PV} {n : Nat} : selV (.d x :: r) n = ((selV r n).1, .d x :: (selV r n).2) := rfl
theorem ys_g {i : Nat} {r : List PV} {n : Nat} : selV (.g i :: r) n = (i :: (selV r (n + 1)).1, .g n :: (selV r (n + 1)).2) := rfl
theorem ys_f {i : Addr} {r : List PV} {n : Nat} : selV (.fn i :: r) n = ((selV r n).1, .fn i :: (selV r n).2) := rfl
theorem ys_n {n : Nat} : selV [] n = ([], []) := rfl
theorem yb_d {g : List PObj} {sel : List Nat} {P : PV → List PObj → Prop} {x : Dat} {g' : List PObj} : backK g sel P (.d x) g' = P (.d x) (wback g sel g') := rfl
theorem yw_c {g : List PObj} {i : Nat} {is : List Nat} {o : PObj} {os : List PObj} : wback g (i :: is) (o :: os) = wback (g.set i o) is os := rfl
theorem yw_n {g os : List PObj} : wback g [] os = g := rfl
theorem yms_c {st : St} {i : Nat} {is : List Nat} {v : PV} {vs : List PV} : st.setMs (i :: is) (v :: vs) = (st.setM i v).setMs is vs := rfl
theorem yms_n {st : St} {vs : List PV} : st.setMs [] vs = st := rfl
theorem ym {st : St} {i : Nat} {v : PV} : st.setM i v = ⟨st.m.set i v, st.g⟩ := rfl
theorem yg {st : St} {i : Nat} {v : PObj} : st.setG i v = ⟨st.m, st.g.set i v⟩ := rfl
theorem yn {st : St} {v : PObj} : st.new v = ⟨st.m, st.g ++ [v]⟩ := rfl
theorem yd0 {α : Type} {l : List α} : List.drop 0 l = l := rfl
theorem yasgs {is : List Nat} {ts : EsTr} {R : STr} {C : CT} {st : St} {P : PFlow → St → Prop} {X : XK} (h : ts C st (fun vs st => onT (Nat.beq vs.length is.length) (R C (st.setMs is.reverse vs.reverse) P X)) X) : S.cons (S.asgs is ts) R C st P X := by
  unfold S.cons S.asgs
  exact h
theorem ymm {st : St} {i : Nat} {v : PV} : (st.setM i v).m = st.m.set i v := rfl
theorem ymg {st : St} {i : Nat} {v : PV} : (st.setM i v).g = st.g := rfl
theorem two_ways {A B G : Prop} (h : A ∨ B) (hB : B → G) (hA : (B → G) → A → G) : G := h.elim (hA hB) hB
local macro_rules | `(tactic| walk_at "y") => `(tactic| try dsimp only [ys_d, ys_g, ys_f, ys_n, yb_d, yw_c, yw_n, yms_c, yms_n, ymm, ymg, ym, yg, yn, List.set_cons_zero, List.set_cons_succ, List.set_nil, List.cons_append, List.nil_append, List.append_nil, List.length_cons, List.length_nil, yd0, List.replicate_succ, List.replicate_zero, List.reverse_cons, List.reverse_nil, Nat.reduceAdd, Nat.reduceSub, Nat.zero_add])
/-! Looks at words, in plain terms. -/
namespace Q
noncomputable def lkS (k x t : Str) : Bool := inDats (.str k) [.str (Str.ofString "sign"), .str (Str.ofString "name")] && (x == t)
noncomputable def clS (k x : Str) : Bool := (k == Str.ofString "sign") && (Txt.slice x none (some 1) == Str.ofString ">")
noncomputable abbrev lk (w : Wd) (t : Str) : Bool := lkS w.kind w.text t
noncomputable abbrev cl (w : Wd) : Bool := clS w.kind w.text
noncomputable abbrev isReg (w : Wd) : Bool := w.kind == Str.ofString "region"
noncomputable abbrev isEnd (w : Wd) : Bool := w.kind == Str.ofString "end"
theorem tyStart.is {w : Wd} (h : tyStart w) : lk w (Str.ofString ")") = false ∧ lk w (Str.ofString "mut") = false ∧ cl w = false ∧ isReg w = false ∧ isEnd w = false := by
  obtain ⟨k, t, sp, v, u⟩ := w
  unfold tyStart at h
  dsimp only [lk, cl, isReg, isEnd] at h ⊢
  rcases h with ⟨rfl, h⟩ | ⟨rfl, h⟩
  · rcases h with rfl | rfl | rfl | rfl | rfl | rfl <;> decide +kernel
  · rcases h with rfl | rfl | rfl | rfl | rfl <;> decide +kernel
theorem okC.is {w : Wd} (h : okC w) : lk w (Str.ofString "::") = false ∧ lk w (Str.ofString "<") = false ∧ isEnd w = false := by
  obtain ⟨k, t, sp, v, u⟩ := w
  obtain ⟨h1, h⟩ := h
  dsimp only [lk, isEnd] at h1 h ⊢
  subst h1
  rcases h with rfl | rfl | rfl | rfl | rfl | rfl <;> decide +kernel
theorem clo.is {w : Wd} (h : clo w) : cl w = true ∧ lk w (Str.ofString ",") = false := by
  obtain ⟨k, t, sp, v, u⟩ := w
  obtain ⟨h1, h⟩ := h
  dsimp only [lk, cl] at h1 h ⊢
  subst h1
  rcases h with rfl | rfl <;> decide +kernel
end Q
/-! Words' methods. -/
namespace Q
section
variable {n : Nat} {C : CT} {N : Nat} {rows : List Dat} {ix dp : Int} {cur : List Wd} {w w2 : Wd} {P : CK} {X : CX} {t : Str} {v : Bool}
theorem peek_c (hC : Cal TT (n + 1) C) (a : At N rows ix (w :: cur)) (h : P (.d (wdD w)) [.wd rows ix dp]) : C (.fn 161) [.g 0] [.wd rows ix dp] P X := by
  refine hC.go rfl fun C' hC => ?_
  obtain ⟨j, rfl, e, hj⟩ := a.item
  refine item_ok j ?_ e (by rw [a.ln]; exact a.le) h
  split <;> omega
theorem peek1_c (hC : Cal TT (n + 1) C) (a : At N rows ix (w :: w2 :: cur)) (h : P (.d (wdD w2)) [.wd rows ix dp]) : C (.fn 161) [.g 0, .d (.int 1)] [.wd rows ix dp] P X := by
  refine hC.go rfl fun C' hC => ?_
  obtain ⟨j, e1, e, hj⟩ := a.item2
  refine item_ok j ?_ e (by rw [a.ln]; exact a.le) h
  split <;> omega
theorem peek0_c (hC : Cal TT (n + 1) C) (a : At N rows ix (w :: cur)) (h : P (.d (wdD w)) [.wd rows ix dp]) : C (.fn 161) [.g 0, .d (.int 0)] [.wd rows ix dp] P X := by
  refine hC.go rfl fun C' hC => ?_
  obtain ⟨j, rfl, e, hj⟩ := a.item
  refine item_ok j ?_ e (by rw [a.ln]; exact a.le) h
  split <;> omega
theorem take_c (hC : Cal TT (n + 2) C) (a : At N rows ix (w :: cur)) (hw : isEnd w = false) (h : At N rows (ix + 1) cur → P (.d (wdD w)) [.wd rows (ix + 1) dp]) : C (.fn 168) [.g 0] [.wd rows ix dp] P X := by
  refine hC.go rfl fun C' hC => ?_
  refine peek_c hC a ?_
  refine br (show (!(w.kind == Str.ofString "end")) = true by rw [show (w.kind == Str.ofString "end") = false from hw]; rfl) ?_
  exact h a.next
theorem looks_c (hC : Cal TT (n + 2) C) (a : At N rows ix (w :: cur)) (hv : lk w t = v) (h : P (.d (.bool v)) [.wd rows ix dp]) : C (.fn 176) [.g 0, .d (.str t)] [.wd rows ix dp] P X := by
  refine hC.go rfl fun C' hC => ?_
  refine peek0_c hC a ?_
  subst hv
  unfold lk lkS at h
  cases hk : inDats (.str w.kind) [.str (Str.ofString "sign"), .str (Str.ofString "name")] with
  | false =>
    rw [hk] at h
    refine br hk ?_
    exact h
  | true =>
    rw [hk] at h
    refine br hk ?_
    exact h
theorem looks1_c (hC : Cal TT (n + 2) C) (a : At N rows ix (w :: w2 :: cur)) (hv : lk w2 t = v) (h : P (.d (.bool v)) [.wd rows ix dp]) : C (.fn 176) [.g 0, .d (.str t), .d (.int 1)] [.wd rows ix dp] P X := by
  refine hC.go rfl fun C' hC => ?_
  refine peek1_c hC a ?_
  subst hv
  unfold lk lkS at h
  cases hk : inDats (.str w2.kind) [.str (Str.ofString "sign"), .str (Str.ofString "name")] with
  | false =>
    rw [hk] at h
    refine br hk ?_
    exact h
  | true =>
    rw [hk] at h
    refine br hk ?_
    exact h
theorem expect_c (hC : Cal TT (n + 3) C) (a : At N rows ix (w :: cur)) (hv : lk w t = true) (hw : isEnd w = false) (h : At N rows (ix + 1) cur → P (.d (wdD w)) [.wd rows (ix + 1) dp]) : C (.fn 183) [.g 0, .d (.str t)] [.wd rows ix dp] P X := by
  refine hC.go rfl fun C' hC => ?_
  refine looks_c hC a hv ?_
  exact take_c hC a hw h
theorem split1_c (hC : Cal TT (n + 2) C) (a : At N rows ix (w :: cur)) (h1 : w.kind = Str.ofString "sign") (h2 : w.text = Str.ofString ">") (h : ∀ v, At N rows (ix + 1) cur → P (.d v) [.wd rows (ix + 1) dp]) : C (.fn 197) [.g 0] [.wd rows ix dp] P X := by
  obtain ⟨k, x, sp, u1, u2⟩ := w
  dsimp only at h1 h2
  subst h1
  subst h2
  refine hC.go rfl fun C' hC => ?_
  refine peek_c hC a ?_
  exact h _ a.next
theorem split2_c (hC : Cal TT (n + 2) C) (a : At N rows ix (w :: cur)) (h1 : w.kind = Str.ofString "sign") (h2 : w.text = Str.ofString ">>") (h : ∀ v rows', At N rows' ix (sgn (Str.ofString ">") (w.spot + 1) :: cur) → P (.d v) [.wd rows' ix dp]) : C (.fn 197) [.g 0] [.wd rows ix dp] P X := by
  obtain ⟨k, x, sp, u1, u2⟩ := w
  dsimp only at h1 h2
  subst h1
  subst h2
  refine hC.go rfl fun C' hC => ?_
  refine peek_c hC a ?_
  refine onT_ok a.lt ?_
  have e : Txt.slice (Str.ofString ">>") (some 1) none = Str.ofString ">" := by decide +kernel
  have q := a.put ⟨Str.ofString "sign", Txt.slice (Str.ofString ">>") (some 1) none, sp + 1, none, none⟩
  refine h _ _ ?_
  rw [show sgn (Str.ofString ">") (sp + 1) = (⟨Str.ofString "sign", Txt.slice (Str.ofString ">>") (some 1) none, sp + 1, none, none⟩ : Wd) by rw [e]]
  with_unfolding_all exact q
theorem deeper_c (hC : Cal TT (n + 1) C) (hd : dp + 1 ≤ 60) (h : ∀ v, P (.d v) [.wd rows ix (dp + 1)]) : C (.fn 146) [.g 0] [.wd rows ix dp] P X := by
  refine hC.go rfl fun C' hC => ?_
  refine br (v := false) (b := decide (60 < dp + 1)) (decide_eq_false (by omega)) ?_
  exact h _
theorem shallower_c (hC : Cal TT (n + 1) C) (h : ∀ v, P (.d v) [.wd rows ix (dp - 1)]) : C (.fn 153) [.g 0] [.wd rows ix dp] P X := by
  refine hC.go rfl fun C' hC => ?_
  exact h _
end
end Q
/-! The parser's functions, but for the arguments. -/
namespace Q
theorem lkG {x t : Str} {sp : Int} {v : Bool} (h : lkS (Str.ofString "sign") x t = v) : lk (sgn x sp) t = v := h
theorem lkN {x t : Str} {sp : Int} {v : Bool} (h : lkS (Str.ofString "name") x t = v) : lk (nam x sp) t = v := h
theorem eG : (Str.ofString "sign" == Str.ofString "end") = false := by decide +kernel
theorem eN : (Str.ofString "name" == Str.ofString "end") = false := by decide +kernel
theorem eR : (Str.ofString "region" == Str.ofString "end") = false := by decide +kernel
theorem eI : (Str.ofString "int" == Str.ofString "end") = false := by decide +kernel
theorem lkR {x t : Str} {sp : Int} (h : lkS (Str.ofString "region") x t = false) : lk (reg x sp) t = false := h
theorem lkS_reg {x t : Str} : lkS (Str.ofString "region") x t = false := by
  unfold lkS
  rw [show inDats (.str (Str.ofString "region")) [.str (Str.ofString "sign"), .str (Str.ofString "name")] = false by decide +kernel]
  rfl
theorem firstN.is {x : Str} (h : firstN x) : lkS (Str.ofString "name") x (Str.ofString "(") = false ∧ lkS (Str.ofString "name") x (Str.ofString "&") = false ∧ lkS (Str.ofString "name") x (Str.ofString "&&") = false ∧ lkS (Str.ofString "name") x (Str.ofString "[") = false ∧
    lkS (Str.ofString "name") x (Str.ofString "!") = false ∧ lkS (Str.ofString "name") x (Str.ofString "_") = false := by
  rcases h with rfl | rfl | rfl | rfl | rfl <;> decide +kernel
section
variable {n k : Nat} {C : CT} {N : Nat} {rows : List Dat} {ix dp : Int} {cur ws rest : List Wd} {w w2 : Wd} {P : CK} {X : CX} {t : Str} {v : Bool} {sp : Int} {x : Str} {d : Dat}
noncomputable def TyC (k : Nat) : Prop := ∀ {C : CT} {N : Nat} {rows : List Dat} {ix dp : Int} {ws rest : List Wd} {d : Dat} {P : CK} {X : CX}, Cal TT (10 * k + 10) C → RT k ws d rest → At N rows ix ws → dp + k ≤ 60 → (∀ rows' ix', At N rows' ix' rest → P (.d d) [.wd rows' ix' dp]) → C (.fn 55) [.g 0] [.wd rows ix dp] P X
theorem length_c {i : Int} {told : Option Str} (hC : Cal TT (n + 3) C) (a : At N rows ix (⟨Str.ofString "int", x, sp, some i, told⟩ :: cur)) (ht : told = none ∨ told = some (Str.ofString "usize")) (hi : i ≤ 4096) (h : At N rows (ix + 1) cur → P (.d (.int i)) [.wd rows (ix + 1) dp]) : C (.fn 90) [.g 0] [.wd rows ix dp] P X := by
  rcases ht with rfl | rfl
  · refine hC.go rfl fun C' hC => ?_
    refine take_c hC a eI fun a => ?_
    walk_at "y"
    refine br (v := false) (b := decide (4096 < i)) (decide_eq_false (by omega)) ?_
    walk_at "y"
    exact h a
  · refine hC.go rfl fun C' hC => ?_
    refine take_c hC a eI fun a => ?_
    walk_at "y"
    refine br (v := false) (b := decide (4096 < i)) (decide_eq_false (by omega)) ?_
    walk_at "y"
    exact h a
theorem closed_c (hC : Cal TT (n + 2) C) (a : At N rows ix (w :: cur)) (hl : Nat.ble w.text.length 1000 = true) (hv : cl w = v) (h : P (.d (.bool v)) [.wd rows ix dp]) : C (.fn 124) [.g 0] [.wd rows ix dp] P X := by
  refine hC.go rfl fun C' hC => ?_
  refine peek_c hC a ?_
  walk_at "y"
  subst hv
  unfold cl clS at h
  cases hk : (w.kind == Str.ofString "sign") with
  | false =>
    rw [hk] at h
    refine br hk ?_
    walk_at "y"
    exact h
  | true =>
    rw [hk] at h
    refine br hk ?_
    walk_at "y"
    refine onT_ok hl ?_
    walk_at "y"
    exact h
theorem closedR_c (hC : Cal TT (n + 2) C) (a : At N rows ix (reg x sp :: cur)) (h : P (.d (.bool false)) [.wd rows ix dp]) : C (.fn 124) [.g 0] [.wd rows ix dp] P X := by
  refine hC.go rfl fun C' hC => ?_
  refine peek_c hC a ?_
  walk_at "y"
  exact h
theorem pname1_c (hC : Cal TT (n + 3) C) (a : At N rows ix (nam x sp :: cur)) (hx : firstN x) (h : At N rows (ix + 1) cur → P (.d (.str x)) [.wd rows (ix + 1) dp]) : C (.fn 110) [.g 0, .d (.tuple [])] [.wd rows ix dp] P X := by
  rcases hx with rfl | rfl | rfl | rfl | rfl
  all_goals
    refine hC.go rfl fun C' hC => ?_
    refine peek_c hC a ?_
    walk_at "y"
    first
    | (refine hC.go (f := .fn 190) rfl fun C' hC => ?_
       refine peek_c hC a ?_
       walk_at "y"
       exact h a.next)
    | (refine take_c hC a eN fun a => ?_
       exact h a)
theorem pname2_c {ds : List Dat} (hC : Cal TT (n + 3) C) (a : At N rows ix (nam x sp :: cur)) (hx : nextN x) (h : At N rows (ix + 1) cur → P (.d (.str x)) [.wd rows (ix + 1) dp]) : C (.fn 110) [.g 0, .d (.tuple ds)] [.wd rows ix dp] P X := by
  rcases hx with rfl | rfl
  all_goals
    refine hC.go rfl fun C' hC => ?_
    refine peek_c hC a ?_
    walk_at "y"
    refine hC.go (f := .fn 190) rfl fun C' hC => ?_
    refine peek_c hC a ?_
    walk_at "y"
    exact h a.next
theorem unit_c {sp2 : Int} (hC : Cal TT (n + 4) C) (a : At N rows ix (sgn (Str.ofString "(") sp :: sgn (Str.ofString ")") sp2 :: rest)) (h : ∀ rows' ix' j, At N rows' ix' rest → P (.d (tupD sp [])) (.wd rows' ix' dp :: j)) : C (.fn 69) [.g 0] [.wd rows ix dp] P X := by
  refine hC.go rfl fun C' hC => ?_
  refine expect_c hC a (lkG (by decide +kernel)) eG fun a => ?_
  walk_at "y"
  refine looks_c hC a (v := true) (lkG (by decide +kernel)) ?_
  walk_at "y"
  refine expect_c hC a (lkG (by decide +kernel)) eG fun a => ?_
  walk_at "y"
  exact h _ _ _ a
theorem paren_c {sp2 : Int} (ty : TyC k) (hC : Cal TT (10 * k + 11) C) (hw : tyStart w) (r : RT k (w :: ws) d (sgn (Str.ofString ")") sp2 :: rest)) (a : At N rows ix (sgn (Str.ofString "(") sp :: w :: ws)) (hd : dp + k ≤ 60) (h : ∀ rows' ix' j, At N rows' ix' rest → P (.d d) (.wd rows' ix' dp :: j)) : C (.fn 69) [.g 0] [.wd rows ix dp] P X := by
  refine hC.go rfl fun C' hC => ?_
  refine expect_c hC a (lkG (by decide +kernel)) eG fun a => ?_
  walk_at "y"
  refine looks_c hC a (v := false) hw.is.1 ?_
  walk_at "y"
  refine ty hC r a hd fun rows' ix' a => ?_
  walk_at "y"
  refine looks_c hC a (v := false) (lkG (by decide +kernel)) ?_
  walk_at "y"
  refine expect_c hC a (lkG (by decide +kernel)) eG fun a => ?_
  walk_at "y"
  exact h _ _ _ a
theorem tup1_c {sp2 sp3 : Int} (ty : TyC k) (hC : Cal TT (10 * k + 11) C) (hw : tyStart w) (r : RT k (w :: ws) d (sgn (Str.ofString ",") sp2 :: sgn (Str.ofString ")") sp3 :: rest)) (a : At N rows ix (sgn (Str.ofString "(") sp :: w :: ws)) (hd : dp + k ≤ 60) (h : ∀ rows' ix' j, At N rows' ix' rest → P (.d (tupD sp [d])) (.wd rows' ix' dp :: j)) : C (.fn 69) [.g 0] [.wd rows ix dp] P X := by
  refine hC.go rfl fun C' hC => ?_
  refine expect_c hC a (lkG (by decide +kernel)) eG fun a => ?_
  walk_at "y"
  refine looks_c hC a (v := false) hw.is.1 ?_
  walk_at "y"
  refine ty hC r a hd fun rows' ix' a => ?_
  walk_at "y"
  refine looks_c hC a (v := true) (lkG (by decide +kernel)) ?_
  walk_at "y"
  refine take_c hC a eG fun a => ?_
  walk_at "y"
  refine looks_c hC a (v := true) (lkG (by decide +kernel)) ?_
  walk_at "y"
  refine expect_c hC a (lkG (by decide +kernel)) eG fun a => ?_
  walk_at "y"
  exact h _ _ _ a
theorem tup2_c {sp2 sp3 : Int} {ws2 : List Wd} {d2 : Dat} (ty : TyC k) (hC : Cal TT (10 * k + 11) C) (hw : tyStart w) (r : RT k (w :: ws) d (sgn (Str.ofString ",") sp2 :: w2 :: ws2)) (hw2 : tyStart w2) (r2 : RT k (w2 :: ws2) d2 (sgn (Str.ofString ")") sp3 :: rest)) (a : At N rows ix (sgn (Str.ofString "(") sp :: w :: ws)) (hd : dp + k ≤ 60) (h : ∀ rows' ix' j, At N rows' ix' rest → P (.d (tupD sp [d, d2])) (.wd rows' ix' dp :: j)) : C (.fn 69) [.g 0] [.wd rows ix dp] P X := by
  refine hC.go rfl fun C' hC => ?_
  refine expect_c hC a (lkG (by decide +kernel)) eG fun a => ?_
  walk_at "y"
  refine looks_c hC a (v := false) hw.is.1 ?_
  walk_at "y"
  refine ty hC r a hd fun rows' ix' a => ?_
  walk_at "y"
  refine looks_c hC a (v := true) (lkG (by decide +kernel)) ?_
  walk_at "y"
  refine take_c hC a eG fun a => ?_
  walk_at "y"
  refine looks_c hC a (v := false) hw2.is.1 ?_
  walk_at "y"
  refine ty hC r2 a hd fun rows' ix' a => ?_
  walk_at "y"
  refine looks_c hC a (v := false) (lkG (by decide +kernel)) ?_
  walk_at "y"
  refine expect_c hC a (lkG (by decide +kernel)) eG fun a => ?_
  walk_at "y"
  exact h _ _ _ a
theorem tup2c_c {sp2 sp3 sp4 : Int} {ws2 : List Wd} {d2 : Dat} (ty : TyC k) (hC : Cal TT (10 * k + 11) C) (hw : tyStart w) (r : RT k (w :: ws) d (sgn (Str.ofString ",") sp2 :: w2 :: ws2)) (hw2 : tyStart w2) (r2 : RT k (w2 :: ws2) d2 (sgn (Str.ofString ",") sp4 :: sgn (Str.ofString ")") sp3 :: rest)) (a : At N rows ix (sgn (Str.ofString "(") sp :: w :: ws)) (hd : dp + k ≤ 60) (h : ∀ rows' ix' j, At N rows' ix' rest → P (.d (tupD sp [d, d2])) (.wd rows' ix' dp :: j)) : C (.fn 69) [.g 0] [.wd rows ix dp] P X := by
  refine hC.go rfl fun C' hC => ?_
  refine expect_c hC a (lkG (by decide +kernel)) eG fun a => ?_
  walk_at "y"
  refine looks_c hC a (v := false) hw.is.1 ?_
  walk_at "y"
  refine ty hC r a hd fun rows' ix' a => ?_
  walk_at "y"
  refine looks_c hC a (v := true) (lkG (by decide +kernel)) ?_
  walk_at "y"
  refine take_c hC a eG fun a => ?_
  walk_at "y"
  refine looks_c hC a (v := false) hw2.is.1 ?_
  walk_at "y"
  refine ty hC r2 a hd fun rows' ix' a => ?_
  walk_at "y"
  refine looks_c hC a (v := true) (lkG (by decide +kernel)) ?_
  walk_at "y"
  refine take_c hC a eG fun a => ?_
  walk_at "y"
  refine looks_c hC a (v := true) (lkG (by decide +kernel)) ?_
  walk_at "y"
  refine expect_c hC a (lkG (by decide +kernel)) eG fun a => ?_
  walk_at "y"
  exact h _ _ _ a
theorem ref1_c {r : Option Str} {m : Bool} {sv : Int} (ty : TyC k) (hC : Cal TT (10 * k + 11) C) (hr : RefT ws r m cur) (ht : RT k cur d rest) (hs : sv = sp) (a : At N rows ix (sgn (Str.ofString "&") sp :: ws)) (hd : dp + k ≤ 60) (h : ∀ rows' ix', At N rows' ix' rest → P (.d (refD sv r m d)) [.wd rows' ix' dp]) : C (.fn 76) [.g 0] [.wd rows ix dp] P X := by
  obtain rfl : sv = sp + ((1 : Nat) : Int) - 1 := by omega
  cases hr with
  | plain hw =>
    refine hC.go rfl fun C' hC => ?_
    refine take_c hC a eG fun a => ?_
    walk_at "y"
    refine peek_c hC a ?_
    walk_at "y"
    refine br hw.is.2.2.2.1 ?_
    walk_at "y"
    refine looks_c hC a (v := false) hw.is.2.1 ?_
    walk_at "y"
    refine ty hC ht a hd fun rows' ix' a => ?_
    walk_at "y"
    exact h _ _ a
  | mt =>
    refine hC.go rfl fun C' hC => ?_
    refine take_c hC a eG fun a => ?_
    walk_at "y"
    refine peek_c hC a ?_
    walk_at "y"
    refine looks_c hC a (v := true) (lkN (by decide +kernel)) ?_
    walk_at "y"
    refine take_c hC a eN fun a => ?_
    walk_at "y"
    refine ty hC ht a hd fun rows' ix' a => ?_
    walk_at "y"
    exact h _ _ a
  | rg hw =>
    refine hC.go rfl fun C' hC => ?_
    refine take_c hC a eG fun a => ?_
    walk_at "y"
    refine peek_c hC a ?_
    walk_at "y"
    refine take_c hC a eR fun a => ?_
    walk_at "y"
    refine looks_c hC a (v := false) hw.is.2.1 ?_
    walk_at "y"
    refine ty hC ht a hd fun rows' ix' a => ?_
    walk_at "y"
    exact h _ _ a
  | rgmt =>
    refine hC.go rfl fun C' hC => ?_
    refine take_c hC a eG fun a => ?_
    walk_at "y"
    refine peek_c hC a ?_
    walk_at "y"
    refine take_c hC a eR fun a => ?_
    walk_at "y"
    refine looks_c hC a (v := true) (lkN (by decide +kernel)) ?_
    walk_at "y"
    refine take_c hC a eN fun a => ?_
    walk_at "y"
    refine ty hC ht a hd fun rows' ix' a => ?_
    walk_at "y"
    exact h _ _ a
theorem ref2_c {r : Option Str} {m : Bool} {sv : Int} (ty : TyC k) (hC : Cal TT (10 * k + 11) C) (hr : RefT ws r m cur) (ht : RT k cur d rest) (hs : sv = sp + 1) (a : At N rows ix (sgn (Str.ofString "&&") sp :: ws)) (hd : dp + k ≤ 60) (h : ∀ rows' ix', At N rows' ix' rest → P (.d (refD sp none false (refD sv r m d))) [.wd rows' ix' dp]) : C (.fn 76) [.g 0] [.wd rows ix dp] P X := by
  obtain rfl : sv = sp + ((2 : Nat) : Int) - 1 := by omega
  cases hr with
  | plain hw =>
    refine hC.go rfl fun C' hC => ?_
    refine take_c hC a eG fun a => ?_
    walk_at "y"
    refine peek_c hC a ?_
    walk_at "y"
    refine br hw.is.2.2.2.1 ?_
    walk_at "y"
    refine looks_c hC a (v := false) hw.is.2.1 ?_
    walk_at "y"
    refine ty hC ht a hd fun rows' ix' a => ?_
    walk_at "y"
    exact h _ _ a
  | mt =>
    refine hC.go rfl fun C' hC => ?_
    refine take_c hC a eG fun a => ?_
    walk_at "y"
    refine peek_c hC a ?_
    walk_at "y"
    refine looks_c hC a (v := true) (lkN (by decide +kernel)) ?_
    walk_at "y"
    refine take_c hC a eN fun a => ?_
    walk_at "y"
    refine ty hC ht a hd fun rows' ix' a => ?_
    walk_at "y"
    exact h _ _ a
  | rg hw =>
    refine hC.go rfl fun C' hC => ?_
    refine take_c hC a eG fun a => ?_
    walk_at "y"
    refine peek_c hC a ?_
    walk_at "y"
    refine take_c hC a eR fun a => ?_
    walk_at "y"
    refine looks_c hC a (v := false) hw.is.2.1 ?_
    walk_at "y"
    refine ty hC ht a hd fun rows' ix' a => ?_
    walk_at "y"
    exact h _ _ a
  | rgmt =>
    refine hC.go rfl fun C' hC => ?_
    refine take_c hC a eG fun a => ?_
    walk_at "y"
    refine peek_c hC a ?_
    walk_at "y"
    refine take_c hC a eR fun a => ?_
    walk_at "y"
    refine looks_c hC a (v := true) (lkN (by decide +kernel)) ?_
    walk_at "y"
    refine take_c hC a eN fun a => ?_
    walk_at "y"
    refine ty hC ht a hd fun rows' ix' a => ?_
    walk_at "y"
    exact h _ _ a
theorem arr_c {sp2 sp3 sp4 i : Int} {told : Option Str} (ty : TyC k) (hC : Cal TT (10 * k + 11) C) (r : RT k ws d (sgn (Str.ofString ";") sp2 :: ⟨Str.ofString "int", x, sp3, some i, told⟩ :: sgn (Str.ofString "]") sp4 :: rest)) (ht : told = none ∨ told = some (Str.ofString "usize")) (hi : i ≤ 4096) (a : At N rows ix (sgn (Str.ofString "[") sp :: ws)) (hd : dp + k ≤ 60) (h : ∀ rows' ix', At N rows' ix' rest → P (.d (.tuple [.str (Str.ofString "array"), .int sp, d, .int i])) [.wd rows' ix' dp]) : C (.fn 83) [.g 0] [.wd rows ix dp] P X := by
  refine hC.go rfl fun C' hC => ?_
  refine expect_c hC a (lkG (by decide +kernel)) eG fun a => ?_
  walk_at "y"
  refine ty hC r a hd fun rows' ix' a => ?_
  walk_at "y"
  refine expect_c hC a (lkG (by decide +kernel)) eG fun a => ?_
  walk_at "y"
  refine length_c hC a ht hi fun a => ?_
  walk_at "y"
  refine expect_c hC a (lkG (by decide +kernel)) eG fun a => ?_
  walk_at "y"
  exact h _ _ a
end
end Q
/-! The parser: arguments, segments, paths, types. -/
namespace Q
theorem whl_g {t : TTr} {b R : STr} {C : CT} {P : PFlow → St → Prop} {X : XK} {m : List PV} {g : List PObj} (I : Nat → List PObj → Prop) (F : List PObj → Prop) (z : ∀ g, ¬ I 0 g) (fin : ∀ g, F g → R C ⟨m, g⟩ P X)
    (step : ∀ P', (∀ g, F g → P' .next ⟨m, g⟩) → ∀ j, (∀ g', I j g' → S.whlGo t b C P' X j ⟨m, g'⟩) → ∀ g', I (j + 1) g' → S.whlGo t b C P' X (j + 1) ⟨m, g'⟩) (h0 : I 9 g) : S.cons (S.whl t b) R C ⟨m, g⟩ P X := by
  have key : ∀ P' : PFlow → St → Prop, (∀ g, F g → P' .next ⟨m, g⟩) → ∀ j g', I j g' → S.whlGo t b C P' X j ⟨m, g'⟩ := by
    intro P' fin' j
    induction j with
    | zero => exact fun g' h => absurd h (z g')
    | succ j ih => exact fun g' h => step P' fin' j ih g' h
  exact key _ (fun g h => fin g h) 9 g h0
theorem tyStart.len {w : Wd} (h : tyStart w) : Nat.ble w.text.length 1000 = true := by
  rcases h with ⟨_, h⟩ | ⟨_, h⟩
  · rcases h with h | h | h | h | h | h <;> (rw [h]; decide +kernel)
  · rcases h with h | h | h | h | h <;> (rw [h]; decide +kernel)
theorem clo.len {w : Wd} (h : clo w) : Nat.ble w.text.length 1000 = true := by
  rcases h.2 with h | h <;> (rw [h]; decide +kernel)
section
variable {n k : Nat} {C : CT} {N : Nat} {rows : List Dat} {ix dp : Int} {cur ws rest r1 : List Wd} {w w2 c : Wd} {P : CK} {X : CX} {t : Str} {v : Bool} {sp sp2 sp3 : Int} {x y : Str} {d : Dat} {xs : List Str} {ds : List Dat}
theorem closes_c (hC : Cal TT (n + 2) C) (hc : Closes r1 rest) (a : At N rows ix r1) (h : ∀ v rows' ix', At N rows' ix' rest → P (.d v) [.wd rows' ix' dp]) : C (.fn 197) [.g 0] [.wd rows ix dp] P X := by
  cases hc with
  | one h1 h2 => exact split1_c hC a h1 h2 fun v a => h _ _ _ a
  | two h1 h2 => exact split2_c hC a h1 h2 fun v rows' a => h _ _ _ a
noncomputable def ArgI (N k : Nat) (dp : Int) (XS : List Str) (DS : List Dat) (r1 : List Wd) (j : Nat) (g : List PObj) : Prop := ∃ rows ix ws xs0 xs ds0 ds, g = [.wd rows ix dp, .lst (xs0.map .str), .lst ds0] ∧ At N rows ix ws ∧ ((ArgsR (RT k) ws xs ds r1 ∧ ds0 = []) ∨ (xs = [] ∧ ArgsT (RT k) ws ds r1)) ∧ XS = xs0 ++ xs ∧ DS = ds0 ++ ds ∧ xs.length + ds.length < j
theorem args_c (ty : TyC k) (hC : Cal TT (10 * k + 12) C) (hr : ArgsR (RT k) ws xs ds r1) (hb : xs.length + ds.length ≤ 8) (hc : Closes r1 rest) (a : At N rows ix (sgn (Str.ofString "<") sp :: ws)) (hd : dp + k ≤ 60) (h : ∀ rows' ix' j, At N rows' ix' rest → P (.d (.tuple [.tuple (xs.map .str), .tuple ds])) (.wd rows' ix' dp :: j)) : C (.fn 117) [.g 0] [.wd rows ix dp] P X := by
  refine hC.go rfl fun C' hC => ?_
  refine expect_c hC a (lkG (by decide +kernel)) eG fun a => ?_
  walk_at "y"
  refine yasgs ?_
  dsimp only [Es.cons, Es.nil, E.lstO, allD]
  refine onT_ok rfl ?_
  refine onT_ok rfl ?_
  refine onT_ok rfl ?_
  walk_at "y"
  refine whl_g (ArgI N k dp xs ds r1) (fun g => ∃ rows ix, g = [.wd rows ix dp, .lst (xs.map .str), .lst ds] ∧ At N rows ix r1) ?_ ?_ ?_ ?_
  · rintro g ⟨_, _, _, _, _, _, _, _, _, _, _, _, hl⟩
    omega
  · rintro g ⟨rows, ix, rfl, a⟩
    refine closes_c hC hc a fun v rows' ix' a => ?_
    walk_at "y"
    refine onT_ok (b := Nat.ble (xs.map Dat.str).length 100) (Nat.ble_eq_true_of_le (by simp; omega)) ?_
    walk_at "y"
    refine onT_ok (b := Nat.ble ds.length 100) (Nat.ble_eq_true_of_le (by omega)) ?_
    walk_at "y"
    exact h _ _ _ a
  · rintro P' fin j ih g ⟨rows, ix, ws, xs0, xs', ds0, ds', rfl, a, hh, rfl, rfl, hl⟩
    have hx0 : xs0.length ≤ 8 := by simp at hb; omega
    have hd0 : ds0.length ≤ 8 := by simp at hb; omega
    refine two_ways hh (fun ⟨e1, h1⟩ => ?_) fun typ ⟨h1, e⟩ => ?_
    · subst e1
      cases h1 with
      | close hk =>
        refine closed_c hC a hk.len hk.is.1 ?_
        walk_at "y"
        exact fin _ ⟨_, _, by simp, a⟩
      | last hw r hk =>
        refine closed_c hC a hw.len hw.is.2.2.1 ?_
        walk_at "y"
        refine peek_c hC a ?_
        walk_at "y"
        refine br hw.is.2.2.2.1 ?_
        walk_at "y"
        refine ty (hC.le (by omega)) r a hd fun rows' ix' a => ?_
        walk_at "y"
        refine onT_ok (b := Nat.ble ds0.length 99) (Nat.ble_eq_true_of_le (by omega)) ?_
        walk_at "y"
        refine looks_c hC a (v := false) hk.is.2 ?_
        walk_at "y"
        exact fin _ ⟨_, _, by simp, a⟩
      | more hw r h1 =>
        refine closed_c hC a hw.len hw.is.2.2.1 ?_
        walk_at "y"
        refine peek_c hC a ?_
        walk_at "y"
        refine br hw.is.2.2.2.1 ?_
        walk_at "y"
        refine ty (hC.le (by omega)) r a hd fun rows' ix' a => ?_
        walk_at "y"
        refine onT_ok (b := Nat.ble ds0.length 99) (Nat.ble_eq_true_of_le (by omega)) ?_
        walk_at "y"
        refine looks_c hC a (v := true) (lkG (by decide +kernel)) ?_
        walk_at "y"
        refine take_c hC a eG fun a => ?_
        walk_at "y"
        exact ih _ ⟨_, _, _, _, [], _, _, rfl, a, .inr ⟨rfl, h1⟩, rfl, by simp, by simp at hl ⊢; omega⟩
    · subst e
      cases h1 with
      | types h1 => exact typ ⟨rfl, h1⟩
      | last hk =>
        refine closedR_c hC a ?_
        walk_at "y"
        refine peek_c hC a ?_
        walk_at "y"
        refine take_c hC a eR fun a => ?_
        walk_at "y"
        refine onT_ok (b := Nat.ble (xs0.map Dat.str).length 99) (Nat.ble_eq_true_of_le (by simp; omega)) ?_
        walk_at "y"
        refine looks_c hC a (v := false) hk.is.2 ?_
        walk_at "y"
        exact fin _ ⟨_, _, by simp, a⟩
      | more h1 =>
        refine closedR_c hC a ?_
        walk_at "y"
        refine peek_c hC a ?_
        walk_at "y"
        refine take_c hC a eR fun a => ?_
        walk_at "y"
        refine onT_ok (b := Nat.ble (xs0.map Dat.str).length 99) (Nat.ble_eq_true_of_le (by simp; omega)) ?_
        walk_at "y"
        refine looks_c hC a (v := true) (lkG (by decide +kernel)) ?_
        walk_at "y"
        refine take_c hC a eG fun a => ?_
        walk_at "y"
        exact ih _ ⟨_, _, _, xs0 ++ [_], _, _, _, by rw [List.map_append]; rfl, a, .inl ⟨h1, rfl⟩, by simp, rfl, by simp at hl; omega⟩
  · exact ⟨_, _, _, [], _, [], _, rfl, a, .inl ⟨hr, rfl⟩, rfl, rfl, by omega⟩
noncomputable def NameA (x : Str) (ahead : List Dat) : Prop := (firstN x ∧ ahead = []) ∨ nextN x
theorem pname_c {ahead : List Dat} (hC : Cal TT (n + 3) C) (a : At N rows ix (nam x sp :: cur)) (hx : NameA x ahead) (h : At N rows (ix + 1) cur → P (.d (.str x)) [.wd rows (ix + 1) dp]) : C (.fn 110) [.g 0, .d (.tuple ahead)] [.wd rows ix dp] P X := by
  rcases hx with ⟨hx, rfl⟩ | hx
  · exact pname1_c hC a hx h
  · exact pname2_c hC a hx h
theorem seg_c {ahead : List Dat} (ty : TyC k) (hC : Cal TT (10 * k + 13) C) (hx : NameA x ahead) (ht : Tail (RT k) ws xs ds (c :: rest)) (hk : okC c) (a : At N rows ix (nam x sp :: ws)) (hd : dp + k ≤ 60) (h : ∀ rows' ix', At N rows' ix' (c :: rest) → P (.d (segD x xs ds)) [.wd rows' ix' dp]) : C (.fn 103) [.g 0, .d (.tuple ahead), .d (.bool false)] [.wd rows ix dp] P X := by
  refine hC.go rfl fun C' hC => ?_
  refine pname_c hC a hx fun a => ?_
  walk_at "y"
  cases ht with
  | turbo hr hb hc =>
    refine looks_c hC a (v := true) (lkG (by decide +kernel)) ?_
    walk_at "y"
    refine looks1_c hC a (v := true) (lkG (by decide +kernel)) ?_
    walk_at "y"
    refine take_c hC a eG fun a => ?_
    walk_at "y"
    refine args_c ty hC hr hb hc a hd fun rows' ix' _ a => ?_
    walk_at "y"
    exact h _ _ a
  | plain hr hb hc =>
    refine looks_c hC a (v := false) (lkG (by decide +kernel)) ?_
    walk_at "y"
    refine looks_c hC a (v := true) (lkG (by decide +kernel)) ?_
    walk_at "y"
    refine args_c ty hC hr hb hc a hd fun rows' ix' _ a => ?_
    walk_at "y"
    exact h _ _ a
  | none hc =>
    refine looks_c hC a (v := false) hc.is.1 ?_
    walk_at "y"
    refine looks_c hC a (v := false) hc.is.2.1 ?_
    walk_at "y"
    exact h _ _ a
theorem seg0_c (hC : Cal TT (n + 4) C) (hx : firstN x) (a : At N rows ix (nam x sp :: sgn (Str.ofString "::") sp2 :: nam y sp3 :: ws)) (hy : nextN y) (h : At N rows (ix + 1) (sgn (Str.ofString "::") sp2 :: nam y sp3 :: ws) → P (.d (segD x [] [])) [.wd rows (ix + 1) dp]) : C (.fn 103) [.g 0, .d (.tuple []), .d (.bool false)] [.wd rows ix dp] P X := by
  refine hC.go rfl fun C' hC => ?_
  refine pname_c hC a (.inl ⟨hx, rfl⟩) fun a => ?_
  walk_at "y"
  refine looks_c hC a (v := true) (lkG (by decide +kernel)) ?_
  walk_at "y"
  refine looks1_c hC a (v := false) (lkN (by rcases hy with rfl | rfl <;> decide +kernel)) ?_
  walk_at "y"
  refine looks_c hC a (v := false) (lkG (by decide +kernel)) ?_
  walk_at "y"
  exact h a
theorem path1_c (ty : TyC k) (hC : Cal TT (10 * k + 14) C) (hx : firstN x) (ht : Tail (RT k) ws xs ds (c :: rest)) (hk : okC c) (a : At N rows ix (nam x sp :: ws)) (hd : dp + k ≤ 60) (h : ∀ rows' ix' j, At N rows' ix' (c :: rest) → P (.d (.tuple [segD x xs ds])) (.wd rows' ix' dp :: j)) : C (.fn 96) [.g 0] [.wd rows ix dp] P X := by
  refine hC.go rfl fun C' hC => ?_
  refine seg_c ty hC (.inl ⟨hx, rfl⟩) ht hk a hd fun rows' ix' a => ?_
  walk_at "y"
  refine looks_c hC a (v := false) hk.is.1 ?_
  walk_at "y"
  exact h _ _ _ a
theorem path2_c (ty : TyC k) (hC : Cal TT (10 * k + 14) C) (hx : firstN x) (hy : nextN y) (ht : Tail (RT k) ws xs ds (c :: rest)) (hk : okC c) (a : At N rows ix (nam x sp :: sgn (Str.ofString "::") sp2 :: nam y sp3 :: ws)) (hd : dp + k ≤ 60) (h : ∀ rows' ix' j, At N rows' ix' (c :: rest) → P (.d (.tuple [segD x [] [], segD y xs ds])) (.wd rows' ix' dp :: j)) : C (.fn 96) [.g 0] [.wd rows ix dp] P X := by
  refine hC.go rfl fun C' hC => ?_
  refine seg0_c hC hx a hy fun a => ?_
  walk_at "y"
  refine looks_c hC a (v := true) (lkG (by decide +kernel)) ?_
  walk_at "y"
  refine take_c hC a eG fun a => ?_
  walk_at "y"
  refine seg_c ty hC (.inr hy) ht hk a hd fun rows' ix' a => ?_
  walk_at "y"
  refine looks_c hC a (v := false) hk.is.1 ?_
  walk_at "y"
  exact h _ _ _ a
theorem shallow_c (ty : TyC k) (hC : Cal TT (10 * k + 15) C) (hs : Shallow (RT k) ws d rest) (a : At N rows ix ws) (hd : dp + k ≤ 60) (h : ∀ rows' ix', At N rows' ix' rest → P (.d d) [.wd rows' ix' dp]) : C (.fn 62) [.g 0] [.wd rows ix dp] P X := by
  have t1 : lkS (Str.ofString "sign") (Str.ofString "(") (Str.ofString "(") = true := by decide +kernel
  cases hs with
  | never =>
    refine hC.go rfl fun C' hC => ?_
    refine peek_c hC a ?_
    walk_at "y"
    refine looks_c hC a (v := false) (lkG (by decide +kernel)) ?_
    walk_at "y"
    refine looks_c hC a (v := false) (lkG (by decide +kernel)) ?_
    walk_at "y"
    refine looks_c hC a (v := false) (lkG (by decide +kernel)) ?_
    walk_at "y"
    refine looks_c hC a (v := false) (lkG (by decide +kernel)) ?_
    walk_at "y"
    refine looks_c hC a (v := true) (lkG (by decide +kernel)) ?_
    walk_at "y"
    refine take_c hC a eG fun a => ?_
    walk_at "y"
    exact h _ _ a
  | infer =>
    refine hC.go rfl fun C' hC => ?_
    refine peek_c hC a ?_
    walk_at "y"
    refine looks_c hC a (v := false) (lkN (by decide +kernel)) ?_
    walk_at "y"
    refine looks_c hC a (v := false) (lkN (by decide +kernel)) ?_
    walk_at "y"
    refine looks_c hC a (v := false) (lkN (by decide +kernel)) ?_
    walk_at "y"
    refine looks_c hC a (v := false) (lkN (by decide +kernel)) ?_
    walk_at "y"
    refine looks_c hC a (v := false) (lkN (by decide +kernel)) ?_
    walk_at "y"
    refine looks_c hC a (v := true) (lkN (by decide +kernel)) ?_
    walk_at "y"
    refine take_c hC a eN fun a => ?_
    walk_at "y"
    exact h _ _ a
  | unit =>
    refine hC.go rfl fun C' hC => ?_
    refine peek_c hC a ?_
    walk_at "y"
    refine looks_c hC a (v := true) (lkG t1) ?_
    walk_at "y"
    exact unit_c hC a fun _ _ _ a => h _ _ a
  | paren hw r =>
    refine hC.go rfl fun C' hC => ?_
    refine peek_c hC a ?_
    walk_at "y"
    refine looks_c hC a (v := true) (lkG t1) ?_
    walk_at "y"
    exact paren_c ty (hC.le (by omega)) hw r a hd fun _ _ _ a => h _ _ a
  | tup1 hw r =>
    refine hC.go rfl fun C' hC => ?_
    refine peek_c hC a ?_
    walk_at "y"
    refine looks_c hC a (v := true) (lkG t1) ?_
    walk_at "y"
    exact tup1_c ty (hC.le (by omega)) hw r a hd fun _ _ _ a => h _ _ a
  | tup2 hw r hw2 r2 =>
    refine hC.go rfl fun C' hC => ?_
    refine peek_c hC a ?_
    walk_at "y"
    refine looks_c hC a (v := true) (lkG t1) ?_
    walk_at "y"
    exact tup2_c ty (hC.le (by omega)) hw r hw2 r2 a hd fun _ _ _ a => h _ _ a
  | tup2c hw r hw2 r2 =>
    refine hC.go rfl fun C' hC => ?_
    refine peek_c hC a ?_
    walk_at "y"
    refine looks_c hC a (v := true) (lkG t1) ?_
    walk_at "y"
    exact tup2c_c ty (hC.le (by omega)) hw r hw2 r2 a hd fun _ _ _ a => h _ _ a
  | ref1 hr r =>
    refine hC.go rfl fun C' hC => ?_
    refine peek_c hC a ?_
    walk_at "y"
    refine looks_c hC a (v := false) (lkG (by decide +kernel)) ?_
    walk_at "y"
    refine looks_c hC a (v := true) (lkG (by decide +kernel)) ?_
    walk_at "y"
    exact ref1_c ty (hC.le (by omega)) hr r rfl a hd h
  | ref2 hr r =>
    refine hC.go rfl fun C' hC => ?_
    refine peek_c hC a ?_
    walk_at "y"
    refine looks_c hC a (v := false) (lkG (by decide +kernel)) ?_
    walk_at "y"
    refine looks_c hC a (v := false) (lkG (by decide +kernel)) ?_
    walk_at "y"
    refine looks_c hC a (v := true) (lkG (by decide +kernel)) ?_
    walk_at "y"
    exact ref2_c ty (hC.le (by omega)) hr r rfl a hd h
  | arr r ht hi =>
    refine hC.go rfl fun C' hC => ?_
    refine peek_c hC a ?_
    walk_at "y"
    refine looks_c hC a (v := false) (lkG (by decide +kernel)) ?_
    walk_at "y"
    refine looks_c hC a (v := false) (lkG (by decide +kernel)) ?_
    walk_at "y"
    refine looks_c hC a (v := false) (lkG (by decide +kernel)) ?_
    walk_at "y"
    refine looks_c hC a (v := true) (lkG (by decide +kernel)) ?_
    walk_at "y"
    exact arr_c ty (hC.le (by omega)) r ht hi a hd h
  | path1 hx ht hk =>
    obtain ⟨f1, f2, f3, f4, f5, f6⟩ := hx.is
    refine hC.go rfl fun C' hC => ?_
    refine peek_c hC a ?_
    walk_at "y"
    refine looks_c hC a (v := false) (lkN f1) ?_
    walk_at "y"
    refine looks_c hC a (v := false) (lkN f2) ?_
    walk_at "y"
    refine looks_c hC a (v := false) (lkN f3) ?_
    walk_at "y"
    refine looks_c hC a (v := false) (lkN f4) ?_
    walk_at "y"
    refine looks_c hC a (v := false) (lkN f5) ?_
    walk_at "y"
    refine looks_c hC a (v := false) (lkN f6) ?_
    walk_at "y"
    refine path1_c ty hC hx ht hk a hd fun rows' ix' _ a => ?_
    walk_at "y"
    exact h _ _ a
  | path2 hx hy ht hk =>
    obtain ⟨f1, f2, f3, f4, f5, f6⟩ := hx.is
    refine hC.go rfl fun C' hC => ?_
    refine peek_c hC a ?_
    walk_at "y"
    refine looks_c hC a (v := false) (lkN f1) ?_
    walk_at "y"
    refine looks_c hC a (v := false) (lkN f2) ?_
    walk_at "y"
    refine looks_c hC a (v := false) (lkN f3) ?_
    walk_at "y"
    refine looks_c hC a (v := false) (lkN f4) ?_
    walk_at "y"
    refine looks_c hC a (v := false) (lkN f5) ?_
    walk_at "y"
    refine looks_c hC a (v := false) (lkN f6) ?_
    walk_at "y"
    refine path2_c ty hC hx hy ht hk a hd fun rows' ix' _ a => ?_
    walk_at "y"
    exact h _ _ a
end
theorem dp1 {P : CK} {d : Dat} {rows : List Dat} {ix dp : Int} (h : P (.d d) [.wd rows ix dp]) : P (.d d) [.wd rows ix (dp + 1 - 1)] := by
  rw [show dp + 1 - 1 = dp by omega]
  exact h
theorem ty_all : ∀ k, TyC k
  | 0 => by
    intro hC hr
    exact hr.elim
  | k + 1 => by
    intro hC hr a hd h
    refine (hC.le (m := 10 * k + 16) (by omega)).go rfl fun C' hC => ?_
    refine deeper_c hC (by omega) fun _ => ?_
    walk_at "y"
    refine shallow_c (ty_all k) hC hr a (by omega) fun rows' ix' a => ?_
    walk_at "y"
    refine shallower_c hC fun _ => ?_
    walk_at "y"
    exact dp1 (h rows' ix' a)
end Q
/-! The builder: what it draws, what it lays into the book. -/
namespace Q
noncomputable def SrcB (b : Int) : Prop := 0 ≤ b ∧ b < 2147483647
theorem srcB {x : Int} : SrcB (Int.fmod x 2147483647) := ⟨Int.fmod_nonneg_of_pos _ (by decide), Int.fmod_lt_of_pos _ (by decide)⟩
section
variable {n : Nat} {C : CT} {a b : Int} {bs : List Wd} {w : Wd} {P : CK} {X : CX} {tx : Str}
theorem draw_c {top : Int} (hC : Cal TT (n + 1) C) (hb : SrcB b) (h1 : 0 < top) (h2 : top < 1073741824) (h : ∀ a' b' r, SrcB b' → 0 ≤ r → r < top → P (.d (.int r)) [.lst [.int a', .int b']]) : C (.fn 218) [.g 0, .d (.int top)] [.lst [.int a, .int b]] P X := by
  refine hC.go rfl fun C' hC => ?_
  cases h0 : decide (0 < a) with
  | true =>
    refine br h0 ?_
    walk_at "y"
    refine onT_ok (b := decide (0 < top)) (decide_eq_true h1) ?_
    walk_at "y"
    refine onT_ok (b := decide (0 < top) && decide (top < 1073741824)) (by rw [decide_eq_true h1, decide_eq_true h2]; rfl) ?_
    walk_at "y"
    exact h _ _ _ hb (Int.fmod_nonneg_of_pos _ h1) (Int.fmod_lt_of_pos _ h1)
  | false =>
    refine br h0 ?_
    walk_at "y"
    refine ⟨.of_right (by decide), ?_⟩
    refine ⟨.of_left (intBits_le_64 (by have := (srcB (x := b * 39373 + 7)).1; omega) (by have := (srcB (x := b * 39373 + 7)).2; omega)), ?_⟩
    refine onT_ok (b := decide (0 < top)) (decide_eq_true h1) ?_
    walk_at "y"
    exact h _ _ _ srcB (Int.fmod_nonneg_of_pos _ h1) (Int.fmod_lt_of_pos _ h1)
theorem one_c {ds : List Dat} (hC : Cal TT (n + 2) C) (hb : SrcB b) (hl : 0 < ds.length) (hl2 : ds.length ≤ 1000) (h : ∀ a' b' x, SrcB b' → x ∈ ds → P (.d x) [.lst [.int a', .int b']]) : C (.fn 225) [.g 0, .d (.list ds)] [.lst [.int a, .int b]] P X := by
  refine hC.go rfl fun C' hC => ?_
  refine onT_ok (b := Nat.ble ds.length 1000) (Nat.ble_eq_true_of_le hl2) ?_
  walk_at "y"
  refine draw_c hC hb (by omega) (by omega) fun a' b' r hb' h0 h1 => ?_
  walk_at "y"
  have hr : r.toNat < ds.length := by omega
  refine item_ok r.toNat (by omega) (List.getElem?_eq_getElem hr) hl2 ?_
  exact h _ _ _ hb' (List.getElem_mem hr)
theorem put_c {kd : Str} {v : Option Int} {t : Option Str} (hC : Cal TT (n + 1) C) (hl : bs.length ≤ 998) (h : ∀ sp, P (.d (.int sp)) [.bk ((⟨kd, tx, sp, v, t⟩ :: bs).map rowD)]) : C (.fn 232) [.g 0, .d (.str kd), .d (.str tx), .d (optID v), .d (optSD t)] [.bk (bs.map rowD)] P X := by
  refine hC.go rfl fun C' hC => ?_
  cases bs with
  | nil => exact h _
  | cons w bs =>
    refine onT_ok (b := Nat.ble (rowD w :: bs.map rowD).length 999 && Nat.ble 5 9) ?_ ?_
    walk_at "y"
    · rw [Nat.ble_eq_true_of_le (by simp at hl ⊢; omega)]
      rfl
    · exact h _
theorem sign_c (hC : Cal TT (n + 2) C) (hl : bs.length ≤ 998) (h : ∀ sp, P (.d (.int sp)) [.bk ((sgn tx sp :: bs).map rowD)]) : C (.fn 239) [.g 0, .d (.str tx)] [.bk (bs.map rowD)] P X := by
  refine hC.go rfl fun C' hC => ?_
  exact put_c (v := none) (t := none) hC hl h
theorem nam_c (hC : Cal TT (n + 2) C) (hl : bs.length ≤ 998) (h : ∀ sp, P (.d (.int sp)) [.bk ((nam tx sp :: bs).map rowD)]) : C (.fn 246) [.g 0, .d (.str tx)] [.bk (bs.map rowD)] P X := by
  refine hC.go rfl fun C' hC => ?_
  exact put_c (v := none) (t := none) hC hl h
theorem close_c (hC : Cal TT (n + 3) C) (hb : SrcB b) (hw : wok w) (hl : bs.length ≤ 990) (h1 : ∀ a' b' sp v, SrcB b' → P (.d v) [.lst [.int a', .int b'], .bk ((sgn (Str.ofString ">") sp :: w :: bs).map rowD)])
    (h2 : w.kind = Str.ofString "sign" → w.text = Str.ofString ">" → ∀ a' b' v, SrcB b' → P (.d v) [.lst [.int a', .int b'], .bk ((gg w :: bs).map rowD)]) : C (.fn 263) [.g 0, .g 1] [.lst [.int a, .int b], .bk ((w :: bs).map rowD)] P X := by
  refine hC.go rfl fun C' hC => ?_
  refine br (b := ([Dat.str w.kind, Dat.str w.text].all isStrB && [Dat.str (Str.ofString "sign"), Dat.str (Str.ofString ">")].all isStrB)) (v := true) ?_ ?_
  walk_at "y"
  · have := hw.1
    have := hw.2
    simp only [List.all_cons, List.all_nil, isStrB, *]
    decide +kernel
  · cases hq : deqbs [Dat.str w.kind, Dat.str w.text] [Dat.str (Str.ofString "sign"), Dat.str (Str.ofString ">")] with
    | false =>
      refine br hq ?_
      walk_at "y"
      refine sign_c hC (by simp; omega) fun sp => ?_
      walk_at "y"
      exact h1 _ _ _ _ hb
    | true =>
      refine br hq ?_
      walk_at "y"
      have hq' : w.kind = Str.ofString "sign" ∧ w.text = Str.ofString ">" := by simpa [deqbs, deqb] using hq
      refine draw_c hC hb (by decide) (by decide) fun a' b' r hb' _ _ => ?_
      walk_at "y"
      cases hr : (r == 0) with
      | true =>
        refine br hr ?_
        walk_at "y"
        exact h2 hq'.1 hq'.2 _ _ _ hb'
      | false =>
        refine br hr ?_
        walk_at "y"
        refine sign_c hC (by simp; omega) fun sp => ?_
        walk_at "y"
        exact h1 _ _ _ _ hb'
end
end Q
/-! The builder's types. -/
namespace Q
noncomputable def cst : Nat → Nat
  | 0 => 4
  | k + 1 => 2 * cst k + 14
noncomputable def hdOk : List Wd → Prop
  | [] => True
  | w :: _ => wok w
noncomputable def GC (k : Nat) : Prop := ∀ {C : CT} {a b z : Int} {bs : List Wd} {P : CK} {X : CX}, Cal TT (2 * k + 8) C → SrcB b → z = (k : Int) → bs.length + cst k ≤ 900 →
  (∀ a' b' d ws bs', SrcB b' → ws.length ≤ cst k → hdOk bs' → Good (k + 1) d ws → bs' = ws.reverse ++ bs → P (.d d) [.lst [.int a', .int b'], .bk (bs'.map rowD)]) →
  C (.fn 270) [.g 0, .g 1, .d (.int z)] [.lst [.int a, .int b], .bk (bs.map rowD)] P X
noncomputable def GP (f : Addr) (k : Nat) : Prop := ∀ {C : CT} {a b z : Int} {bs : List Wd} {P : CK} {X : CX}, Cal TT (2 * k + 9) C → SrcB b → z = (k : Int) + 1 → bs.length + cst (k + 1) ≤ 900 →
  (∀ a' b' d ws bs' j, SrcB b' → ws.length ≤ cst (k + 1) → hdOk bs' → Good (k + 2) d ws → bs' = ws.reverse ++ bs → P (.d d) (.lst [.int a', .int b'] :: .bk (bs'.map rowD) :: j)) →
  C (.fn f) [.g 0, .g 1, .d (.int z)] [.lst [.int a, .int b], .bk (bs.map rowD)] P X
theorem wok_sgn {x : Str} {sp : Int} (h : PyData.strOk x = true) : wok (sgn x sp) := ⟨by show PyData.strOk (Str.ofString "sign") = true; decide +kernel, h⟩
theorem wok_nam {x : Str} {sp : Int} (h : PyData.strOk x = true) : wok (nam x sp) := ⟨by show PyData.strOk (Str.ofString "name") = true; decide +kernel, h⟩
theorem paren_b {k : Nat} (ih : GC k) : GP 277 k := by
  intro C a b z bs P X hC hb hz hl h
  subst hz
  have sp1 : PyData.strOk (Str.ofString ")") = true := by decide +kernel
  refine hC.go rfl fun C' hC => ?_
  have hl' : bs.length + (2 * cst k + 14) ≤ 900 := hl
  refine sign_c hC (by omega) fun sp => ?_
  walk_at "y"
  refine draw_c hC hb (by decide) (by decide) fun a1 b1 r hb1 h0 h1 => ?_
  walk_at "y"
  rcases (show r = 0 ∨ r = 1 ∨ r = 2 by omega) with rfl | rfl | rfl
  · refine sign_c hC (by simp; omega) fun sp' => ?_
    exact h _ _ _ [sgn _ sp, sgn _ sp'] _ _ hb1 (by simp [cst]) (wok_sgn sp1) good_unit rfl
  · refine ih hC hb1 (by omega) (by simp; omega) fun a2 b2 d ws bs2 hb2 hl2 hw2 hg e2 => ?_
    have hl3 : bs2.length ≤ bs.length + cst k + 1 := by rw [e2]; simp; omega
    refine draw_c hC hb2 (by decide) (by decide) fun a3 b3 r hb3 _ _ => ?_
    walk_at "y"
    cases hr : (r == 0) with
    | true =>
      refine br hr ?_
      walk_at "y"
      refine sign_c hC (by omega) fun sp' => ?_
      walk_at "y"
      refine sign_c hC (by simp; omega) fun sp'' => ?_
      walk_at "y"
      refine br (show (!(r == 0)) = false by rw [hr]; rfl) ?_
      walk_at "y"
      exact h _ _ _ (sgn _ sp :: (ws ++ [sgn _ sp'] ++ [sgn _ sp''])) _ _ hb3 (by simp [cst]; omega) (wok_sgn sp1) (good_tup1 hg) (by rw [e2]; simp)
    | false =>
      refine br hr ?_
      walk_at "y"
      refine sign_c hC (by omega) fun sp' => ?_
      walk_at "y"
      refine br (show (!(r == 0)) = true by rw [hr]; rfl) ?_
      walk_at "y"
      exact h _ _ _ (sgn _ sp :: (ws ++ [sgn _ sp'])) _ _ hb3 (by simp [cst]; omega) (wok_sgn sp1) (good_paren hg) (by rw [e2]; simp)
  · refine ih hC hb1 (by omega) (by simp; omega) fun a2 b2 d ws bs2 hb2 hl2 hw2 hg e2 => ?_
    have hl3 : bs2.length ≤ bs.length + cst k + 1 := by rw [e2]; simp; omega
    refine sign_c hC (by omega) fun spc => ?_
    walk_at "y"
    refine ih hC hb2 (by omega) (by simp; omega) fun a2 b2 d' ws' bs4 hb2 hl4 hw4 hg' e4 => ?_
    walk_at "y"
    have hl5 : bs4.length ≤ bs.length + cst k + cst k + 2 := by rw [e4]; simp; omega
    refine draw_c hC hb2 (by decide) (by decide) fun a3 b3 r hb3 _ _ => ?_
    walk_at "y"
    cases hr : (r == 0) with
    | true =>
      refine br hr ?_
      walk_at "y"
      refine sign_c hC (by omega) fun sp' => ?_
      walk_at "y"
      refine sign_c hC (by simp; omega) fun sp'' => ?_
      walk_at "y"
      exact h _ _ _ (sgn _ sp :: (ws ++ [sgn _ spc] ++ ws' ++ [sgn _ sp'] ++ [sgn _ sp''])) _ _ hb3 (by simp [cst]; omega) (wok_sgn sp1) (good_tup2c hg hg') (by rw [e4, e2]; simp)
    | false =>
      refine br hr ?_
      walk_at "y"
      refine sign_c hC (by omega) fun sp' => ?_
      walk_at "y"
      exact h _ _ _ (sgn _ sp :: (ws ++ [sgn _ spc] ++ ws' ++ [sgn _ sp'])) _ _ hb3 (by simp [cst]; omega) (wok_sgn sp1) (good_tup2 hg hg') (by rw [e4, e2]; simp)
theorem cut1 {A R : STr} {C : CT} {st : St} {P : PFlow → St → Prop} {X : XK} (I : St → Prop) (h : ∀ st', I st' → R C st' P X) (k : (∀ st', I st' → R C st' P X) → S.cons A R C st P X) : S.cons A R C st P X := k h
theorem cut2 {A B R : STr} {C : CT} {st : St} {P : PFlow → St → Prop} {X : XK} (I : St → Prop) (h : ∀ st', I st' → R C st' P X) (k : (∀ st', I st' → R C st' P X) → S.cons A (S.cons B R) C st P X) : S.cons A (S.cons B R) C st P X := k h
theorem refP_len {pre : List Wd} {r : Option Str} {m : Bool} (h : RefP pre r m) : pre.length ≤ 2 := by cases h <;> simp
theorem ref_b {k : Nat} (ih : GC k) : GP 284 k := by
  intro C a b z bs P X hC hb hz hl h
  refine hC.go rfl fun C' hC => ?_
  have hl' : bs.length + (2 * cst k + 14) ≤ 900 := hl
  refine draw_c hC hb (by decide) (by decide) fun a1 b1 r1 hb1 _ _ => ?_
  walk_at "y"
  refine one_c hC hb1 (by decide) (by decide) fun a2 b2 x hb2 hx => ?_
  walk_at "y"
  refine draw_c hC hb2 (by decide) (by decide) fun a3 b3 r2 hb3 _ _ => ?_
  walk_at "y"
  have hx' : ∃ reg, x = optD reg ∧ (reg = none ∨ reg = some (Str.ofString "'r")) := by
    simp only [List.mem_cons, List.not_mem_nil, or_false] at hx
    rcases hx with rfl | rfl
    · exact ⟨none, rfl, .inl rfl⟩
    · exact ⟨some _, rfl, .inr rfl⟩
  obtain ⟨reg, rfl, hreg⟩ := hx'
  have hok : ∀ x, reg = some x → PyData.strOk x = true := by
    rcases hreg with rfl | rfl
    · simp
    · intro x e
      cases e
      decide +kernel
  cases ht : (r1 == 0) with
  | false =>
    refine sign_c hC (by omega) fun sp => ?_
    walk_at "y"
    refine cut2 (I := fun st' => ∃ pre m, RefP pre reg m ∧ st' = ⟨[.g 0, .g 1, .d (.int z), .d (.bool false), .d (optD reg), .d (.bool m), .d (.int sp)] ++ List.replicate 7 .undef, [.lst [.int a3, .int b3], .bk ((pre.reverse ++ sgn (Str.ofString "&") sp :: bs).map rowD)]⟩) ?_ fun hk => ?_
    · rintro _ ⟨pre, m, hp, rfl⟩
      have hpl := refP_len hp
      refine ih hC hb3 (by omega) (by simp; omega) fun a4 b4 d ws bs2 hb4 hl2 hw2 hg e2 => ?_
      walk_at "y"
      exact h _ _ _ (sgn _ sp :: (pre ++ ws)) _ _ hb4 (by simp [cst]; omega) hw2 (good_ref1 hp hok hg) (by rw [e2]; simp)
    · rcases hreg with rfl | rfl
      · cases hm : (r2 == 0) with
        | false =>
          exact hk _ ⟨[], _, .plain, rfl⟩
        | true =>
          refine nam_c hC (by simp; omega) fun sp' => ?_
          exact hk _ ⟨[nam _ sp'], _, .mt, rfl⟩
      · refine put_c (v := none) (t := none) hC (by simp; omega) fun sp' => ?_
        walk_at "y"
        cases hm : (r2 == 0) with
        | false =>
          exact hk _ ⟨[reg _ sp'], _, .rg, rfl⟩
        | true =>
          refine nam_c hC (by simp; omega) fun sp'' => ?_
          exact hk _ ⟨[reg _ sp', nam _ sp''], _, .rgmt, rfl⟩
  | true =>
    refine sign_c hC (by omega) fun sp => ?_
    walk_at "y"
    refine cut2 (I := fun st' => ∃ pre m, RefP pre reg m ∧ st' = ⟨[.g 0, .g 1, .d (.int z), .d (.bool true), .d (optD reg), .d (.bool m), .d (.int sp)] ++ List.replicate 7 .undef, [.lst [.int a3, .int b3], .bk ((pre.reverse ++ sgn (Str.ofString "&&") sp :: bs).map rowD)]⟩) ?_ fun hk => ?_
    · rintro _ ⟨pre, m, hp, rfl⟩
      have hpl := refP_len hp
      refine ih hC hb3 (by omega) (by simp; omega) fun a4 b4 d ws bs2 hb4 hl2 hw2 hg e2 => ?_
      walk_at "y"
      exact h _ _ _ (sgn _ sp :: (pre ++ ws)) _ _ hb4 (by simp [cst]; omega) hw2 (good_ref2 hp hok hg) (by rw [e2]; simp)
    · rcases hreg with rfl | rfl
      · cases hm : (r2 == 0) with
        | false =>
          exact hk _ ⟨[], _, .plain, rfl⟩
        | true =>
          refine nam_c hC (by simp; omega) fun sp' => ?_
          exact hk _ ⟨[nam _ sp'], _, .mt, rfl⟩
      · refine put_c (v := none) (t := none) hC (by simp; omega) fun sp' => ?_
        walk_at "y"
        cases hm : (r2 == 0) with
        | false =>
          exact hk _ ⟨[reg _ sp'], _, .rg, rfl⟩
        | true =>
          refine nam_c hC (by simp; omega) fun sp'' => ?_
          exact hk _ ⟨[reg _ sp', nam _ sp''], _, .rgmt, rfl⟩
end Q
/-! The builder's paths; all types. -/
namespace Q
theorem for_cut {α : Type} {set : St → α → (St → Prop) → Prop} {b : STr} {C : CT} {P : PFlow → St → Prop} {X : XK} (I : Nat → St → Prop) (N : Nat) (fin : ∀ st, I N st → P .next st)
    (step : ∀ j x xs st, j < N → I j st → (∀ st', I (j + 1) st' → S.forGo set b C P X xs st') → S.forGo set b C P X (x :: xs) st) : ∀ (xs : List α) (j : Nat) (st : St), j + xs.length = N → I j st → S.forGo set b C P X xs st
  | [], j, st, e, h => fin st (by rw [← e]; exact h)
  | x :: xs, j, st, e, h => step j x xs st (by simp at e; omega) h fun st' h' => for_cut I N fin step xs (j + 1) st' (by simp at e; omega) h'
theorem yforE {i j k : Nat} {b R : STr} {C : CT} {st : St} {P : PFlow → St → Prop} {X : XK} {ds : List Dat} (hv : st.m[k]? = some (.d (.list ds))) (hl : ds.length ≤ 100)
    (h : S.forGo (fun st x k => k ((st.setM i (.d (.int x.1))).setM j (.d x.2))) b C (fun f st => match f with
      | .next => R C st P X
      | .brk => P .brk st
      | .cont => P .cont st
      | .ret v => P (.ret v) st) X (S.numb 0 ds) st) : S.cons (S.forE i j (E.loc k) b) R C st P X := by
  unfold S.cons S.forE E.loc getM
  rw [hv]
  refine onT_ok (b := Nat.ble ds.length 100) (Nat.ble_eq_true_of_le hl) ?_
  exact h
theorem good_ne {k : Nat} {d : Dat} {ws : List Wd} (h : Good k d ws) : ws ≠ [] := by
  obtain ⟨⟨w, tl, rfl, _⟩, _⟩ := h
  simp
theorem upTo_len : ∀ n, (S.upTo n).length = n
  | 0 => rfl
  | n + 1 => by rw [S.upTo, List.length_append, upTo_len n]; rfl
noncomputable def PC (k : Nat) : Prop := ∀ {C : CT} {a b z : Int} {bs : List Wd} {P : CK} {X : CX}, Cal TT (2 * k + 7) C → SrcB b → z = (k : Int) → bs.length + cst k ≤ 900 →
  (∀ a' b' d ws bs' j, SrcB b' → ws.length ≤ cst k → hdOk bs' → Good (k + 1) d ws → bs' = ws.reverse ++ bs → P (.d d) (.lst [.int a', .int b'] :: .bk (bs'.map rowD) :: j)) →
  C (.fn 291) [.g 0, .g 1, .d (.int z)] [.lst [.int a, .int b], .bk (bs.map rowD)] P X
theorem names_len {pre : List Wd} {segs : List Dat} {n : Str} {sp : Int} (h : Names pre segs n sp) : pre.length ≤ 3 ∧ segs.length ≤ 1 := by cases h <;> simp
theorem openW_len {op : List Wd} (h : OpenW op) : op.length ≤ 2 := by cases h <;> simp
theorem names_hd {pre : List Wd} {segs : List Dat} {n : Str} {sp : Int} (h : Names pre segs n sp) (bs : List Wd) : hdOk (pre.reverse ++ bs) := by
  cases h with
  | one h => exact wok_nam h.ok
  | two _ h => exact wok_nam h.ok
theorem openW_hd {op : List Wd} (h : OpenW op) : ∃ sp l, op = l ++ [sgn (Str.ofString "<") sp] := by
  cases h with
  | plain => exact ⟨_, [], rfl⟩
  | turbo => exact ⟨_, [_], rfl⟩
theorem close_cases {aw op pre bs L : List Wd} {w : Wd} (ho : OpenW op) (e : w :: L = aw.reverse ++ (op.reverse ++ (pre.reverse ++ bs))) (ht : w.text = Str.ofString ">") : ∃ aw', aw = aw' ++ [w] ∧ L = aw'.reverse ++ (op.reverse ++ (pre.reverse ++ bs)) := by
  rcases snoc_cases aw with rfl | ⟨i, p, rfl⟩
  · obtain ⟨sp, l, rfl⟩ := openW_hd ho
    simp at e
    rw [e.1] at ht
    exact absurd ht (show ¬ Str.ofString "<" = Str.ofString ">" by decide +kernel)
  · simp at e
    obtain ⟨rfl, rfl⟩ := e
    exact ⟨i, rfl, by simp⟩
section
variable {k : Nat} {C : CT} {a b z : Int} {bs : List Wd} {P : CK} {X : CX}
noncomputable abbrev pm (z : Int) (nm : Str) (sp : Int) : List PV := [.g 0, .g 1, .d (.int z), .d (.str nm), .d (.int sp), .g 2]
theorem cst_4 : ∀ k, 4 ≤ cst k
  | 0 => Nat.le_refl _
  | k + 1 => by
    show 4 ≤ 2 * cst k + 14
    omega
theorem path_b (ih : ∀ j, k = j + 1 → GC j) : PC k := by
  intro C a b z bs P X hC hb hz hl h
  refine hC.go rfl fun C' hC => ?_
  have hl4 := cst_4 k
  refine one_c hC hb (by decide) (by decide) fun a1 b1 x hb1 hx => ?_
  walk_at "y"
  obtain ⟨nm, rfl, hn⟩ : ∃ nm, x = .str nm ∧ firstN nm := by
    simp only [List.mem_cons, List.not_mem_nil, or_false] at hx
    rcases hx with rfl | rfl | rfl | rfl
    · exact ⟨_, rfl, .inl rfl⟩
    · exact ⟨_, rfl, .inr (.inl rfl)⟩
    · exact ⟨_, rfl, .inr (.inr (.inl rfl))⟩
    · exact ⟨_, rfl, .inr (.inr (.inr (.inl rfl)))⟩
  refine nam_c hC (by omega) fun sp => ?_
  dsimp only [Es.cons, Es.nil, E.lstO, allD]
  refine onT_ok rfl ?_
  refine onT_ok rfl ?_
  refine onT_ok rfl ?_
  walk_at "y"
  refine cut1 (I := fun st' => ∃ a b pre segs nm, SrcB b ∧ Names pre segs nm sp ∧ st' = ⟨pm z nm sp ++ List.replicate 15 .undef, [.lst [.int a, .int b], .bk ((pre.reverse ++ bs).map rowD), .lst segs]⟩) ?_ fun hk => ?_
  · rintro _ ⟨a, b, pre, segs, nm, hb, hp, rfl⟩
    obtain ⟨l1, l2⟩ := names_len hp
    cases k with
    | zero =>
      refine br (b := (z == 0)) (v := true) (by rw [hz]; rfl) ?_
      refine onT_ok (b := Nat.ble (segs.length + 1) 1000) (Nat.ble_eq_true_of_le (by omega)) ?_
      refine onT_ok (b := Nat.ble (segs ++ [segD nm [] []]).length 100) (Nat.ble_eq_true_of_le (by simp; omega)) ?_
      exact h _ _ _ pre _ _ hb (by simp [cst]; omega) (names_hd hp bs) (good_path0 hp) rfl
    | succ k =>
    replace ih := @ih k rfl
    replace hC : Cal TT (2 * k + 8) C' := hC
    have hl' : bs.length + (2 * cst k + 14) ≤ 900 := hl
    refine br (b := (z == 0)) (v := false) (by simp; omega) ?_
    refine draw_c hC hb (by decide) (by decide) fun a2 b2 r hb2 _ _ => ?_
    walk_at "y"
    cases hr : (r == 0) with
    | true =>
      refine br hr ?_
      refine onT_ok (b := Nat.ble (segs.length + 1) 1000) (Nat.ble_eq_true_of_le (by omega)) ?_
      refine onT_ok (b := Nat.ble (segs ++ [segD nm [] []]).length 100) (Nat.ble_eq_true_of_le (by simp; omega)) ?_
      exact h _ _ _ pre _ _ hb2 (by simp [cst]; omega) (names_hd hp bs) (good_path0 hp) rfl
    | false =>
      refine br hr ?_
      dsimp only [T.ff, S.nil]
      refine cut2 (I := fun st' => ∃ a b op, SrcB b ∧ OpenW op ∧ st' = ⟨pm z nm sp ++ List.replicate 15 .undef, [.lst [.int a, .int b], .bk ((op.reverse ++ (pre.reverse ++ bs)).map rowD), .lst segs]⟩) ?_ fun hk => ?_
      · rintro _ ⟨a, b, op, hb, ho, rfl⟩
        have l3 := openW_len ho
        refine cut2 (I := fun st' => ∃ a b rs aw x8 x9, SrcB b ∧ AG (k + 1) rs [] aw ∧ rs.length ≤ 2 ∧ aw.length ≤ 3 ∧ (aw = [] ↔ rs = []) ∧ hdOk (aw.reverse ++ (op.reverse ++ (pre.reverse ++ bs))) ∧ st' = ⟨pm z nm sp ++ [.d (.list (rs.map .str)), .g 3, x8, x9] ++ List.replicate 11 .undef, [.lst [.int a, .int b], .bk ((aw.reverse ++ (op.reverse ++ (pre.reverse ++ bs))).map rowD), .lst segs, .lst []]⟩) ?_ fun hk => ?_
        · rintro _ ⟨a, b, rs, aw, x8, x9, hb, ag, l4, l5, hz1, hh, rfl⟩
          refine cut1 (I := fun st' => ∃ a b ts aw x10, SrcB b ∧ AG (k + 1) rs ts aw ∧ ts.length ≤ 2 ∧ aw.length ≤ 3 + ts.length * (cst k + 1) ∧ hdOk (aw.reverse ++ (op.reverse ++ (pre.reverse ++ bs))) ∧ st' = ⟨pm z nm sp ++ [.d (.list (rs.map .str)), .g 3, x8, x9, x10] ++ List.replicate 10 .undef, [.lst [.int a, .int b], .bk ((aw.reverse ++ (op.reverse ++ (pre.reverse ++ bs))).map rowD), .lst segs, .lst ts]⟩) ?_ fun hk => ?_
          · rintro _ ⟨a, b, ts, aw, x10, hb, ag, l6, l7, hh, rfl⟩
            have l8 : ts.length * (cst k + 1) ≤ 2 * (cst k + 1) := Nat.mul_le_mul_right _ l6
            generalize hL : aw.reverse ++ (op.reverse ++ (pre.reverse ++ bs)) = L at hh
            cases L with
            | nil =>
              obtain ⟨_, _, rfl⟩ := openW_hd ho
              simp at hL
            | cons w L =>
              have hlL : L.length + 1 = aw.length + op.length + pre.length + bs.length := by
                have := congrArg List.length hL
                simp at this
                omega
              refine close_c hC hb hh (by omega) (fun a' b' spc v hb' => ?_) fun hk1 hk2 a' b' v hb' => ?_
              · walk_at "y"
                refine onT_ok (b := Nat.ble (rs.map Dat.str).length 100) (Nat.ble_eq_true_of_le (by simp; omega)) ?_
                refine onT_ok (b := Nat.ble ts.length 100) (Nat.ble_eq_true_of_le (by omega)) ?_
                refine onT_ok (b := Nat.ble (segs.length + 1) 1000) (Nat.ble_eq_true_of_le (by omega)) ?_
                refine onT_ok (b := Nat.ble (segs ++ [segD nm rs ts]).length 100) (Nat.ble_eq_true_of_le (by simp; omega)) ?_
                exact h _ _ _ (pre ++ (op ++ (aw ++ [sgn (Str.ofString ">") spc]))) _ _ hb' (by simp [cst]; omega) (wok_sgn (by decide +kernel)) (good_path hp ho ag (by omega)) (by rw [← hL]; simp)
              · obtain ⟨aw', rfl, eL⟩ := close_cases ho hL.symm hk2
                walk_at "y"
                refine onT_ok (b := Nat.ble (rs.map Dat.str).length 100) (Nat.ble_eq_true_of_le (by simp; omega)) ?_
                refine onT_ok (b := Nat.ble ts.length 100) (Nat.ble_eq_true_of_le (by omega)) ?_
                refine onT_ok (b := Nat.ble (segs.length + 1) 1000) (Nat.ble_eq_true_of_le (by omega)) ?_
                refine onT_ok (b := Nat.ble (segs ++ [segD nm rs ts]).length 100) (Nat.ble_eq_true_of_le (by simp; omega)) ?_
                exact h _ _ _ (pre ++ (op ++ (aw' ++ [gg w]))) _ _ hb' (by simp [cst] at l7 ⊢; omega) ⟨hh.1, by show PyData.strOk (Str.ofString ">>") = true; decide +kernel⟩ (good_path2 hp ho ag (by omega) hk1 hk2) (by rw [eL]; simp)
          · refine draw_c hC hb (by decide) (by decide) fun a2 b2 r hb2 h0 h1 => ?_
            walk_at "y"
            refine onT_ok (b := decide (0 ≤ r) && decide (r < 100)) (by simp; omega) ?_
            refine for_cut (fun j st' => ∃ a b ts aw x10, SrcB b ∧ AG (k + 1) rs ts aw ∧ ts.length = j ∧ (aw = [] ↔ rs = [] ∧ ts = []) ∧ aw.length ≤ 3 + ts.length * (cst k + 1) ∧ hdOk (aw.reverse ++ (op.reverse ++ (pre.reverse ++ bs))) ∧ st' = ⟨pm z nm sp ++ [.d (.list (rs.map .str)), .g 3, x8, x9, x10] ++ List.replicate 10 .undef, [.lst [.int a, .int b], .bk ((aw.reverse ++ (op.reverse ++ (pre.reverse ++ bs))).map rowD), .lst segs, .lst ts]⟩) r.toNat ?_ ?_ _ 0 _ ?_ ?_
            · rintro _ ⟨a, b, ts, aw, x10, hb, ag, l6, _, l7, hh, rfl⟩
              exact hk _ ⟨_, _, _, _, _, hb, ag, by omega, l7, hh, rfl⟩
            · rintro j x xs _ hj ⟨a, b, ts, aw, x10, hb, ag, l6, hz2, l7, hh, rfl⟩ hk
              have l8 : ts.length * (cst k + 1) ≤ 1 * (cst k + 1) := Nat.mul_le_mul_right _ (by omega)
              by_cases haw : aw = []
              · obtain ⟨rfl, rfl⟩ := hz2.mp haw
                subst haw
                refine ih hC hb (by omega) (by simp; omega) fun a4 b4 d ws bs2 hb4 hl2 hw2 hg e2 => ?_
                walk_at "y"
                subst e2
                exact hk _ ⟨_, _, [d], ws, _, hb4, by simpa using ag_ext (sp := 0) ag hg, by simp at l6 ⊢; omega, ⟨fun q => absurd q (good_ne hg), fun q => by cases q.2⟩, by simp; omega, hw2, rfl⟩
              · cases rs with
                | cons r0 rs =>
                  refine sign_c hC (by simp; omega) fun sp5 => ?_
                  walk_at "y"
                  refine ih hC hb (by omega) (by simp; omega) fun a4 b4 d ws bs2 hb4 hl2 hw2 hg e2 => ?_
                  walk_at "y"
                  refine onT_ok (b := Nat.ble ts.length 99) (Nat.ble_eq_true_of_le (by omega)) ?_
                  walk_at "y"
                  exact hk _ ⟨_, _, ts ++ [d], aw ++ ([sgn _ sp5] ++ ws), .d (.int x), hb4, by simpa [haw] using ag_ext (sp := sp5) ag hg, by simp; omega, by simp, by rw [List.length_append, List.length_append, List.length_append, Nat.add_mul]; simp; omega, by rw [e2] at hw2; simpa using hw2, by rw [show ∀ sp5 : Int, (aw ++ ([sgn (Str.ofString ",") sp5] ++ ws)).reverse ++ (op.reverse ++ (pre.reverse ++ bs)) = ws.reverse ++ (sgn (Str.ofString ",") sp5 :: (aw.reverse ++ (op.reverse ++ (pre.reverse ++ bs)))) by simp, ← e2]; rfl⟩
                | nil =>
                  cases ts with
                  | nil => exact absurd (hz2.mpr ⟨rfl, rfl⟩) haw
                  | cons t0 ts =>
                    refine sign_c hC (by simp; omega) fun sp5 => ?_
                    walk_at "y"
                    refine ih hC hb (by omega) (by simp; omega) fun a4 b4 d ws bs2 hb4 hl2 hw2 hg e2 => ?_
                    walk_at "y"
                    refine onT_ok (b := Nat.ble (t0 :: ts).length 99) (Nat.ble_eq_true_of_le (by omega)) ?_
                    walk_at "y"
                    exact hk _ ⟨_, _, t0 :: ts ++ [d], aw ++ ([sgn _ sp5] ++ ws), .d (.int x), hb4, by simpa [haw] using ag_ext (sp := sp5) ag hg, by simp at l6 ⊢; omega, by simp, by rw [List.length_append, List.length_append, List.length_append, Nat.add_mul]; simp at l6 l7 ⊢; omega, by rw [e2] at hw2; simpa using hw2, by rw [show ∀ sp5 : Int, (aw ++ ([sgn (Str.ofString ",") sp5] ++ ws)).reverse ++ (op.reverse ++ (pre.reverse ++ bs)) = ws.reverse ++ (sgn (Str.ofString ",") sp5 :: (aw.reverse ++ (op.reverse ++ (pre.reverse ++ bs)))) by simp, ← e2]; rfl⟩
            · rw [upTo_len]
              omega
            · exact ⟨_, _, [], _, _, hb2, ag, rfl, by simp [hz1], by simpa using l5, hh, rfl⟩
        · refine draw_c hC hb (by decide) (by decide) fun a2 b2 r hb2 h0 h1 => ?_
          walk_at "y"
          refine onT_ok (b := decide (0 ≤ r) && Nat.ble [Dat.str (Str.ofString "'q"), Dat.str (Str.ofString "'static")].length 9) (by rw [decide_eq_true h0]; rfl) ?_
          dsimp only [Es.cons, Es.nil, E.lstO, allD]
          refine onT_ok rfl ?_
          refine onT_ok rfl ?_
          walk_at "y"
          have ohd : hdOk (op.reverse ++ (pre.reverse ++ bs)) := by
            obtain ⟨_, _, rfl⟩ := openW_hd ho
            rw [List.reverse_append]
            exact wok_sgn (by decide +kernel)
          have oq : PyData.strOk (Str.ofString "'q") = true := by decide +kernel
          have os : PyData.strOk (Str.ofString "'static") = true := by decide +kernel
          have ok : PyData.strOk (Str.ofString "region") = true := by decide +kernel
          rcases (show r = 0 ∨ r = 1 ∨ r = 2 by omega) with rfl | rfl | rfl
          · refine yforE (ds := []) rfl (by decide) ?_
            exact hk _ ⟨_, _, [], [], _, _, hb2, ag_nil, by decide, by decide, by simp, ohd, rfl⟩
          · refine yforE (ds := [.str (Str.ofString "'q")]) rfl (by decide) ?_
            refine put_c (v := none) (t := none) hC (by simp; omega) fun sp5 => ?_
            walk_at "y"
            exact hk _ ⟨_, _, [_], [reg _ sp5], _, _, hb2, ag_one oq, by decide, by simp, by simp, ⟨ok, oq⟩, rfl⟩
          · refine yforE (ds := [.str (Str.ofString "'q"), .str (Str.ofString "'static")]) rfl (by decide) ?_
            refine put_c (v := none) (t := none) hC (by simp; omega) fun sp5 => ?_
            walk_at "y"
            refine sign_c hC (by simp; omega) fun sp6 => ?_
            walk_at "y"
            refine put_c (v := none) (t := none) hC (by simp; omega) fun sp7 => ?_
            walk_at "y"
            exact hk _ ⟨_, _, [_, _], [reg _ sp5, sgn _ sp6, reg _ sp7], _, _, hb2, ag_two oq os, by decide, by simp, by simp, ⟨ok, os⟩, rfl⟩
      · refine draw_c hC hb2 (by decide) (by decide) fun a3 b3 r hb3 _ _ => ?_
        walk_at "y"
        cases hr : (r == 0) with
        | false =>
          refine br hr ?_
          walk_at "y"
          refine sign_c hC (by simp; omega) fun sp3 => ?_
          exact hk _ ⟨_, _, [sgn _ sp3], hb3, .plain, rfl⟩
        | true =>
          refine br hr ?_
          walk_at "y"
          refine sign_c hC (by simp; omega) fun sp3 => ?_
          walk_at "y"
          refine sign_c hC (by simp; omega) fun sp4 => ?_
          exact hk _ ⟨_, _, [sgn _ sp3, sgn _ sp4], hb3, .turbo, rfl⟩
  · refine draw_c hC hb1 (by decide) (by decide) fun a2 b2 r hb2 _ _ => ?_
    walk_at "y"
    cases hr : (r == 0) with
    | false =>
      refine br hr ?_
      exact hk _ ⟨_, _, [nam nm sp], _, _, hb2, .one hn, rfl⟩
    | true =>
      refine br hr ?_
      walk_at "y"
      refine sign_c hC (by simp; omega) fun sp2 => ?_
      walk_at "y"
      refine one_c hC hb2 (by decide) (by decide) fun a3 b3 x hb3 hx => ?_
      walk_at "y"
      obtain ⟨nm2, rfl, hn2⟩ : ∃ nm, x = .str nm ∧ nextN nm := by
        simp only [List.mem_cons, List.not_mem_nil, or_false] at hx
        rcases hx with rfl | rfl
        · exact ⟨_, rfl, .inl rfl⟩
        · exact ⟨_, rfl, .inr rfl⟩
      refine nam_c hC (by simp; omega) fun sp3 => ?_
      walk_at "y"
      exact hk _ ⟨_, _, [nam nm sp, sgn _ sp2, nam nm2 sp3], _, _, hb3, .two hn hn2, rfl⟩
end
end Q
/-! All types that the builder builds. -/
namespace Q
theorem type0_b : GC 0 := by
  intro C a b z bs P X hC hb hz hl h
  subst hz
  refine hC.go rfl fun C' hC => ?_
  have hl' : bs.length + 4 ≤ 900 := hl
  have path : ∀ {a b : Int} {P' : CK} {X' : CX}, SrcB b → (∀ a' b' d ws bs' j, SrcB b' → ws.length ≤ cst 0 → hdOk bs' → Good (0 + 1) d ws → bs' = ws.reverse ++ bs → P' (.d d) (.lst [.int a', .int b'] :: .bk (bs'.map rowD) :: j)) →
      C' (.fn 291) [.g 0, .g 1, .d (.int ((0 : Nat) : Int))] [.lst [.int a, .int b], .bk (bs.map rowD)] P' X' := fun hb k => path_b (k := 0) (fun j e => by cases e) hC hb rfl hl k
  refine one_c hC hb (by decide) (by decide) fun a1 b1 x hb1 hx => ?_
  walk_at "y"
  simp only [List.mem_cons, List.not_mem_nil, or_false] at hx
  rcases hx with rfl | rfl | rfl | rfl
  · refine sign_c hC (by omega) fun sp => ?_
    exact h _ _ _ [sgn _ sp] _ hb1 (by simp [cst]) (wok_sgn (by decide +kernel)) good_never rfl
  · refine nam_c hC (by omega) fun sp => ?_
    exact h _ _ _ [nam _ sp] _ hb1 (by simp [cst]) (wok_nam (by decide +kernel)) good_infer rfl
  · exact path hb1 fun a' b' d ws bs' j q1 q2 q3 q4 q5 => h _ _ _ _ _ q1 q2 q3 q4 q5
  · exact path hb1 fun a' b' d ws bs' j q1 q2 q3 q4 q5 => h _ _ _ _ _ q1 q2 q3 q4 q5
theorem type_b {k : Nat} (ih : GC k) : GC (k + 1) := by
  intro C a b z bs P X hC hb hz hl h
  refine (hC.le (m := 2 * k + 10) (by omega)).go rfl fun C' hC => ?_
  have hl' : bs.length + (2 * cst k + 14) ≤ 900 := hl
  have hz' : z = (k : Int) + 1 := by rw [hz]; rfl
  refine br (b := decide (0 < z)) (v := true) (decide_eq_true (by omega)) ?_
  refine draw_c hC hb (by decide) (by decide) fun a1 b1 r hb1 h0 h1 => ?_
  walk_at "y"
  have hr : r = 0 ∨ r = 1 ∨ (r = 2 ∨ r = 3) ∨ (r = 4 ∨ r = 5) ∨ r = 6 ∨ (r = 7 ∨ r = 8) := by omega
  rcases hr with rfl | rfl | hr | hr | rfl | hr
  · refine sign_c hC (by omega) fun sp => ?_
    exact h _ _ _ [sgn _ sp] _ hb1 (by simp [cst]) (wok_sgn (by decide +kernel)) good_never rfl
  · refine nam_c hC (by omega) fun sp => ?_
    exact h _ _ _ [nam _ sp] _ hb1 (by simp [cst]) (wok_nam (by decide +kernel)) good_infer rfl
  · rcases hr with rfl | rfl <;> exact paren_b ih hC hb1 hz' hl fun a' b' d ws bs' j q1 q2 q3 q4 q5 => h _ _ _ _ _ q1 q2 q3 q4 q5
  · rcases hr with rfl | rfl <;> exact ref_b ih hC hb1 hz' hl fun a' b' d ws bs' j q1 q2 q3 q4 q5 => h _ _ _ _ _ q1 q2 q3 q4 q5
  · refine sign_c hC (by omega) fun sp => ?_
    walk_at "y"
    refine ih (hC.le (by omega)) hb1 (by omega) (by simp; omega) fun a2 b2 d ws bs2 hb2 hl2 hw2 hg e2 => ?_
    walk_at "y"
    have hl3 : bs2.length ≤ bs.length + cst k + 1 := by rw [e2]; simp; omega
    refine sign_c hC (by omega) fun sp2 => ?_
    walk_at "y"
    refine draw_c hC hb2 (by decide) (by decide) fun a3 b3 i hb3 i0 i1 => ?_
    walk_at "y"
    refine one_c hC hb3 (by simp) (by simp) fun a4 b4 x hb4 hx => ?_
    walk_at "y"
    refine one_c hC hb4 (by decide) (by decide) fun a5 b5 y hb5 hy => ?_
    walk_at "y"
    obtain ⟨m, rfl, m0, m1⟩ : ∃ m, x = .int m ∧ 0 ≤ m ∧ m ≤ 4096 := by
      simp only [List.mem_cons, List.not_mem_nil, or_false] at hx
      rcases hx with rfl | rfl | rfl
      · exact ⟨_, rfl, by decide, by decide⟩
      · exact ⟨_, rfl, by decide, by decide⟩
      · exact ⟨_, rfl, i0, by omega⟩
    obtain ⟨t, rfl, ht⟩ : ∃ t, y = optSD t ∧ (t = none ∨ t = some (Str.ofString "usize")) := by
      simp only [List.mem_cons, List.not_mem_nil, or_false] at hy
      rcases hy with rfl | rfl
      · exact ⟨none, rfl, .inl rfl⟩
      · exact ⟨some _, rfl, .inr rfl⟩
    refine onT_ok (b := decide (0 ≤ m) && decide (m ≤ 4096)) (by simp [m0, m1]) ?_
    refine put_c (v := some m) hC (by simp; omega) fun sp3 => ?_
    walk_at "y"
    refine sign_c hC (by simp; omega) fun sp4 => ?_
    exact h _ _ _ (sgn _ sp :: (ws ++ [sgn _ sp2] ++ [⟨Str.ofString "int", Str.ofString (toString m), sp3, some m, t⟩] ++ [sgn _ sp4])) _ hb5 (by simp [cst]; omega) (wok_sgn (by decide +kernel)) (good_arr hg ht m1) (by rw [e2]; simp)
  · rcases hr with rfl | rfl <;> exact path_b (k := k + 1) (fun j e => by cases e; exact ih) (hC.le (by omega)) hb1 hz hl fun a' b' d ws bs' j q1 q2 q3 q4 q5 => h _ _ _ _ _ q1 q2 q3 q4 q5
theorem gc_all : ∀ k, GC k
  | 0 => type0_b
  | k + 1 => type_b (gc_all k)
end Q
/-! The law's own function. -/
namespace Q
mutual
theorem deqb_self : ∀ {d : Dat} (n : Nat), dOk n d = true → deqb d d = true
  | .none, _, _ => rfl
  | .bool _, _, _ => by simp [deqb]
  | .int _, _, _ => by simp [deqb]
  | .str _, _, _ => by simp [deqb]
  | .bytes _, n, h => by cases n <;> simp [dOk] at h
  | .list _, n, h => by cases n <;> simp [dOk] at h
  | .tuple _, 0, h => by simp [dOk] at h
  | .tuple ds, n + 1, h => by
    rw [deqb]
    exact deqbs_self n (by simpa [dOk] using h)
theorem deqbs_self : ∀ {ds : List Dat} (n : Nat), (∀ d ∈ ds, dOk n d = true) → deqbs ds ds = true
  | [], _, _ => rfl
  | d :: ds, n, h => by
    rw [deqbs, deqb_self n (h d (.head _)), deqbs_self n fun e he => h e (.tail _ he)]
    rfl
end
section
variable {n : Nat} {C : CT} {P : CK} {X : CX}
noncomputable def endW (w : Wd) : Wd := ⟨Str.ofString "end", Str.ofString "", w.spot + 3, none, none⟩
theorem rows_at {w : Wd} {bs : List Wd} (hl : bs.length ≤ 990) : At (bs.length + 2) (((w :: bs).map rowD).reverse.map .tuple ++ [wdD (endW w)]) 0 ((w :: bs).reverse ++ [endW w]) :=
  ⟨by omega, by simp, [], by simp [wdD, Function.comp_def], rfl⟩
theorem words_c {w : Wd} {bs : List Wd} (hC : Cal TT (n + 1) C) (hl : bs.length ≤ 990) (h : ∀ rows, At (bs.length + 2) rows 0 ((w :: bs).reverse ++ [endW w]) → P (.g 1) [.bk ((w :: bs).map rowD), .wd rows 0 0]) : C (.fn 256) [.g 0] [.bk ((w :: bs).map rowD)] P X := by
  refine hC.go rfl fun C' hC => ?_
  refine onT_ok (b := Nat.ble ((w :: bs).map rowD).length 999) (Nat.ble_eq_true_of_le (by simp; omega)) ?_
  refine onT_ok (b := Nat.ble ((((w :: bs).map rowD).reverse.map Dat.tuple).length + 1) 1000) (Nat.ble_eq_true_of_le (by simp; omega)) ?_
  refine onT_ok (b := Nat.ble (((w :: bs).map rowD).reverse.map Dat.tuple ++ [wdD (endW w)]).length 1000) (Nat.ble_eq_true_of_le (by simp; omega)) ?_
  exact h _ (rows_at hl)
theorem heard_c {N k : Nat} {rows : List Dat} {ix dp : Int} {ws rest : List Wd} {d : Dat} (hC : Cal TT (10 * k + 16) C) (hs : Shallow (RT k) ws d rest) (a : At N rows ix ws) (hd : dp + k ≤ 60) (h : ∀ rows' ix', At N rows' ix' rest → P (.d (.tuple [d, .int ix'])) [.wd rows' ix' dp]) : C (.fn 298) [.fn 62, .g 0] [.wd rows ix dp] P X := by
  refine hC.go rfl fun C' hC => ?_
  refine shallow_c (ty_all k) hC hs a hd fun rows' ix' a => ?_
  exact h _ _ a
end
theorem tup34 {i k : Nat} {C : CT} {st : St} {K : PK} {X : XK} {x y : Dat} (h3 : st.m[i]? = some (.d x)) (h4 : st.m[k]? = some (.d y)) (h : K (.d (.tuple [x, y])) st) : E.tup (Es.cons (E.loc i) (Es.cons (E.loc k) Es.nil)) C st K X := by
  show onSome st.m[i]? _
  rw [h3]
  show onSome st.m[k]? _
  rw [h4]
  exact h
theorem eq_tt {st : St} {a b : List Dat} {x : Dat} {k : Bool → Prop} (h : (deqbs a (x :: b) && dOk 60 (.tuple a)) = true) (hk : k true) : eqK st (.d (.tuple a)) (.d (.tuple (x :: b))) k := by
  show onT (deqbs a (x :: b) && dOk 60 (.tuple a)) (k true)
  rw [h]
  exact hk
noncomputable def lawR : STr :=
  S.cons (S.asg 3 (E.call (PV.fn 270) (Es.cons (E.loc 1) (Es.cons (E.loc 2) (Es.cons (E.dat (Dat.int 3)) Es.nil)))))
    (S.cons (S.asg 4 (E.len (E.loc 2)))
      (S.cons (S.expr (E.call (PV.fn 239) (Es.cons (E.loc 2) (Es.cons (E.call (PV.fn 225) (Es.cons (E.loc 1) (Es.cons (E.lstF (Es.cons (E.dat (Dat.str (Str.ofString ","))) (Es.cons (E.dat (Dat.str (Str.ofString ")"))) (Es.cons (E.dat (Dat.str (Str.ofString ";"))) (Es.cons (E.dat (Dat.str (Str.ofString "="))) Es.nil))))) Es.nil))) Es.nil))))
        (S.cons (S.asg 5 (E.call (PV.fn 256) (Es.cons (E.loc 2) Es.nil)))
          (S.cons (S.ret (E.and (E.eq (E.call (PV.fn 298) (Es.cons (E.val (PV.fn 62)) (Es.cons (E.loc 5) Es.nil))) (E.tup (Es.cons (E.loc 3) (Es.cons (E.loc 4) Es.nil)))) (E.eq (E.deepOf (E.loc 5)) (E.dat (Dat.int 0))))) S.nil))))
theorem law_c {C : CT} {P : PFlow → St → Prop} {X : XK} {a b : Int} {m0 : PV} (hC : Cal TT (50 + 1) C) (hb : SrcB b) (h : ∀ st, P (.ret (.d (.bool true))) st) :
    lawR C ⟨[m0, .g 0, .g 1] ++ List.replicate 13 .undef, [.lst [.int a, .int b], .bk []]⟩ P X := by
  refine gc_all 3 (bs := []) (hC.le (by omega)) hb rfl (by decide) fun a1 b1 d ws bs hb1 hl1 hw hg e => ?_
  walk_at "y"
  rw [List.append_nil] at e
  have hl2 : bs.length ≤ 900 := by
    rw [e, List.length_reverse]
    exact Nat.le_trans hl1 (by decide)
  refine one_c hC hb1 (by decide) (by decide) fun a2 b2 x hb2 hx => ?_
  walk_at "y"
  obtain ⟨x, rfl, hx9⟩ : ∃ s, x = .str s ∧ ∀ sp, okC (sgn s sp) := by
    simp only [List.mem_cons, List.not_mem_nil, or_false] at hx
    rcases hx with rfl | rfl | rfl | rfl
    · exact ⟨_, rfl, fun _ => ⟨rfl, .inl rfl⟩⟩
    · exact ⟨_, rfl, fun _ => ⟨rfl, .inr (.inl rfl)⟩⟩
    · exact ⟨_, rfl, fun _ => ⟨rfl, .inr (.inr (.inl rfl))⟩⟩
    · exact ⟨_, rfl, fun _ => ⟨rfl, .inr (.inr (.inr (.inl rfl)))⟩⟩
  refine sign_c hC (by omega) fun sp => ?_
  walk_at "y"
  refine words_c hC (by omega) fun rows a => ?_
  walk_at "y"
  have hs := hg.2.1 (sgn x sp) [endW (sgn x sp)] (hx9 sp)
  rw [List.reverse_cons, show bs.reverse = ws by rw [e, List.reverse_reverse], List.append_assoc] at a
  refine heard_c (k := 3) (hC.le (by omega)) hs a (by decide) fun rows' ix' a' => ?_
  walk_at "y"
  have hm := a'.many
  have hd : dOk 60 (.tuple [d, .int ix']) = true := by
    have := hg.mono_ok (m := 59) (by decide)
    simp [dOk, this]
  refine tup34 rfl rfl ?_
  refine eq_tt ?_ ?_
  · have hi : ix' = ((bs.map rowD).length : Nat) := by
      simp at hm ⊢
      omega
    rw [hd, hi, deqbs, deqb_self 59 (hg.mono_ok (by decide)), deqbs, deqb, deqbs]
    simp
  · exact h _
end Q
/-! The top: the told parts called, and the law behind its source. -/
theorem cal_sem (n : Nat) : Cal TT (n + 1) (SemC (n + 1)) := ⟨Cn TT n, Cal.of n, fun f t e args g P X h => hT f t e n (Cn TT n) (cn_ok n) args g P X h⟩
section
variable {cs : Scope} {w : World} {mean : ExcName → Option Value} {mg mb : Str → Option Value} {dp un : Nat} {gd : Option (List Code)} {cn : Str} {L a : Addr} {ccd : Value} {cl : List (Str × Addr)} {A₀ : Around} {h₀ : Heap} {m : Str → Option Value} {s : Shared} {E : Value → Shared → Prop}
noncomputable abbrev topFm (B : Below A₀ h₀ [] h₀) (X : (kk.heap_1 w.params).In h₀) (T : Top topProg LT mean mg mb h₀) (hk : cs.kind = .function) (hd : dp + 60 + 12 < recursionLimit) (hu : un + 8 * 60 + 200 < cLine) (hc : (cs.names.any fun y => decide (y.2 = .cell)) = false)
    (gd : Option (List Code)) (cn : Str) (L a : Addr) (ccd : Value) (cl : List (Str × Addr)) : Fm cs 60 :=
  { w := w, mean := mean, mg := mg, mb := mb, dp := dp, un := un, gd := gd, cn := cn, L := L, a := a, ccd := ccd, cl := cl, outer := [], A₀ := A₀, base := h₀, g₀ := h₀, B := B, XB := X, TB := T, D := ktsDicts_nil, nd := List.nodup_nil, hk := hk, hd := hd, hu := hu, hcd := fun h => by rw [hc] at h; cases h }
theorem fl_nil {g : Heap} {fl : Led} (h : FL g [] fl) : fl = [] := by cases h; rfl
theorem top305 {Q : Value → Shared → Prop} {news : Led} (B : Below A₀ h₀ [] h₀) (F : Fr h₀ L s.heap m) (X : (kk.heap_1 w.params).In h₀) (N : News h₀ L s.heap news) (T : Top topProg LT mean mg mb h₀) (hk : cs.kind = .function) (hd : dp + 60 + 12 < recursionLimit) (hu : un + 8 * 60 + 200 < cLine)
    (hc : (cs.names.any fun y => decide (y.2 = .cell)) = false) (hj : Dj news) (ret : ∀ h' tk', Fr h₀ L h' m → News h₀ L h' news → Q (.bool true) { s with heap := h', toks := tk' }) :
    wpAny (model PySem.Challenge.rw_xw0160_01.prog w) (ktrTop dp un gd cn cs L a ccd cl []) (call (.ref 305) []) Q E s := by
  refine sem305 (P := fun v _ => v = .d (.bool true)) (X := fun _ _ => False) (fun _ => rfl) cs (topFm B X T hk hd hu hc gd cn L a ccd cl) news ⟨[], []⟩ m s Q E (.ref 305) [] ⟨[], [], F, N, .nil, .nil, hj⟩ rfl .nil ?_ fun _ _ _ _ _ _ _ _ h => h.elim
  rintro v b g' ω' h' tk' _ ⟨gl, fl, K⟩ hv rfl
  cases hv
  exact ret h' tk' K.F (News.sub K.N fun p hp => by simp only [lay, List.mem_append]; exact .inr (.inr (.inr hp)))
theorem top310 {Q : Value → Shared → Prop} (B : Below A₀ h₀ [] h₀) (F : Fr h₀ L s.heap m) (X : (kk.heap_1 w.params).In h₀) (N : News h₀ L s.heap [(307, tabObj #[])]) (T : Top topProg LT mean mg mb h₀) (hk : cs.kind = .function) (hd : dp + 60 + 12 < recursionLimit) (hu : un + 8 * 60 + 200 < cLine)
    (hc : (cs.names.any fun y => decide (y.2 = .cell)) = false) (ret : ∀ ps h' tk', Fr h₀ L h' m → News h₀ L h' [(307, tabObj ps)] → Q (.bool true) { s with heap := h', toks := tk' }) :
    wpAny (model PySem.Challenge.rw_xw0160_01.prog w) (ktrTop dp un gd cn cs L a ccd cl []) (call (.ref 310) []) Q E s := by
  refine sem310 (P := fun v g => v = .d (.bool true) ∧ ∃ made g', g = .tab made :: g') (X := fun _ _ => False) (fun made g => ⟨rfl, made, g, rfl⟩) cs (topFm B X T hk hd hu hc gd cn L a ccd cl) [] ⟨[[307]], []⟩ m s Q E (.ref 310) []
    ⟨[[(307, tabObj #[])]], [], F, N, .nil, .cons ⟨[], rfl, rfl, rfl, fun _ h => nomatch h⟩ .nil, Dj.cons (fun _ h => nomatch h) .nil⟩ rfl .nil ?_ fun _ _ _ _ _ _ _ _ h => h.elim
  rintro v b g' ω' h' tk' _ ⟨gl, fl, K⟩ hv ⟨rfl, made, g'', rfl⟩
  cases hv
  obtain ⟨ga, ω2⟩ := ω'
  have ho := K.o
  cases ho with
  | cons h1 _ =>
    obtain ⟨l, rfl, rfl, _, _⟩ := h1
    exact ret (tabPs w l).toArray h' tk' K.F (News.sub K.N fun p hp => by
      cases hp with
      | head => exact .head _
      | tail _ h => cases h)
theorem three_dj {g h : Heap} {S D : Addr} {x y : Int} {tx ty : Tok} {nB nS : Nat} {ps : Array Value} (N : News g L h [(S, listOf [Value.int x tx, Value.int y ty].toArray nS), (D, listOf #[] nB), (307, tabObj ps)]) : Dj [(S, listOf [Value.int x tx, Value.int y ty].toArray nS), (D, listOf #[] nB), (307, tabObj ps)] := by
  have eS := (N _ (.head _)).1
  have eB := (N _ (.tail _ (.head _))).1
  have eP := (N _ (.tail _ (.tail _ (.head _)))).1
  have sb : D ≠ S := fun q => by
    dsimp only at eB eS
    rw [← q, eB] at eS
    injection eS with eS
    injection eS with _ _ eS _
    injection eS with eS _
    have := congrArg Array.size eS
    simp at this
  have pS : (307 : Addr) ≠ S := fun q => by
    dsimp only at eP eS
    rw [q, eS] at eP
    injection eP with eP
    injection eP with eP
    cases eP
  have pB : (307 : Addr) ≠ D := fun q => by
    dsimp only at eP eB
    rw [q, eB] at eP
    injection eP with eP
    injection eP with eP
    cases eP
  refine .cons (fun q hq => ?_) (.cons (fun q hq => ?_) (.cons (fun q hq => nomatch hq) .nil))
  · cases hq with
    | head => exact sb
    | tail _ hq => cases hq with
      | head => exact pS
      | tail _ hq => cases hq
  · cases hq with
    | head => exact pB
    | tail _ hq => cases hq
theorem three_sub {g h : Heap} {L S B D : Addr} {oS oB oD : Obj} {ps : Array Value} (N : News g L h [(D, oD), (B, oB), (S, oS), (307, tabObj ps)]) : News g L h [(S, oS), (B, oB), (307, tabObj ps)] := by
  refine News.sub N fun p hp => ?_
  cases hp with
  | head => exact .tail _ (.tail _ (.head _))
  | tail _ hp => cases hp with
    | head => exact .tail _ (.head _)
    | tail _ hp => exact .tail _ (.tail _ (.tail _ hp))
theorem env_two {n : Nat} {φ : Fm cs n} {ω : Wo} {S D : Addr} (h1 : slotOf cs (Str.ofString "source") = some (.local, 1)) (h2 : slotOf cs (Str.ofString "book") = some (.local, 2)) (m1 : m (Str.ofString "source") = some (.ref S)) (m2 : m (Str.ofString "book") = some (.ref D)) (e1 : ω.ga[0]? = some [S]) (e2 : ω.ga[1]? = some [D])
    (hc : (cs.names.any fun y => decide (y.2 = .cell)) = false) : EnvR φ ω ([.undef, .g 0, .g 1] ++ List.replicate 13 .undef) m := by
  intro x k i e
  have hk : k ≠ .cell := fun q => by
    subst q
    have e0 : slotGo x cs.names 0 = some (.cell, i) := by
      unfold slotOf at e
      split at e
      · cases e
      · exact e
    have e2 := (slotGo_at e0).2
    have := List.any_eq_false.mp hc _ (List.mem_of_getElem? e2)
    simp at this
  by_cases i1 : i = 1
  · subst i1
    obtain rfl := slotOf_inj e h1
    rw [h1] at e
    cases e
    intro v hv _
    cases hv
    exact ⟨_, m1, S, [], e1, rfl⟩
  by_cases i2 : i = 2
  · subst i2
    obtain rfl := slotOf_inj e h2
    rw [h2] at e
    cases e
    intro v hv _
    cases hv
    exact ⟨_, m2, D, [], e2, rfl⟩
  have un : ∀ v, ([PV.undef, .g 0, .g 1] ++ List.replicate 13 .undef)[i]? = some v → isDef v = false := by
    intro v hv
    match i, i1, i2, hv with
    | 0, _, _, hv => cases hv; rfl
    | i + 3, _, _, hv =>
      have hv : (List.replicate 13 PV.undef)[i]? = some v := hv
      rw [List.getElem?_replicate] at hv
      split at hv
      · cases hv; rfl
      · cases hv
  cases k with
  | «local» => exact fun v hv hd => by rw [un v hv] at hd; cases hd
  | free => exact fun v hv hd => by rw [un v hv] at hd; cases hd
  | cell => exact absurd rfl hk
  | globalExplicit => trivial
  | globalImplicit => trivial
theorem top_rest {ss : List Stmt} {t : STr} {R : Flow → Shared → Prop} {S D : Addr} {x y : Int} {tx ty : Tok} {nB nS : Nat} {ps : Array Value} (hs : SoundSs cs ss t) (he : t = Mine.Q.lawR) (B : Below A₀ h₀ [] h₀) (F : Fr h₀ L s.heap m) (X : (kk.heap_1 w.params).In h₀) (N : News h₀ L s.heap [(S, listOf [Value.int x tx, Value.int y ty].toArray nS), (D, listOf #[] nB), (307, tabObj ps)]) (T : Top topProg LT mean mg mb h₀) (hk : cs.kind = .function) (hd : dp + 60 + 12 < recursionLimit) (hu : un + 8 * 60 + 200 < cLine)
    (hc : (cs.names.any fun y => decide (y.2 = .cell)) = false) (hb : Mine.Q.SrcB y) (h1 : slotOf cs (Str.ofString "source") = some (.local, 1)) (h2 : slotOf cs (Str.ofString "book") = some (.local, 2)) (m1 : m (Str.ofString "source") = some (.ref S)) (m2 : m (Str.ofString "book") = some (.ref D))
    (ret : ∀ h' tk' m', Fr h₀ L h' m' → News h₀ L h' [(307, tabObj ps)] → R (.ret (.bool true)) { s with heap := h', toks := tk' }) :
    wpAny (model PySem.Challenge.rw_xw0160_01.prog w) (ktrTop dp un gd cn cs L a ccd cl []) (execs ss (envX cn cs L a ccd cl)) R E s := by
  subst he
  refine wpAny_noRaise ?_
  refine hs 60 (SemC 60) (sem_ok 60) ⟨[.undef, .g 0, .g 1] ++ List.replicate 13 .undef, [.lst [.int x, .int y], .bk []]⟩ (fun f _ => f = .ret (.d (.bool true))) (fun _ _ => False) (Mine.Q.law_c ((cal_sem 59).le (by decide)) hb fun _ => rfl)
    (topFm B X T hk hd hu hc gd cn L a ccd cl) [(307, tabObj ps)] ⟨[[S], [D]], []⟩ m s R (fun _ _ => False) PassesOwn.never ⟨[[(S, listOf [Value.int x tx, Value.int y ty].toArray nS)], [(D, listOf #[] nB)]], [], F, N, .nil, ?_, three_dj N⟩ (env_two h1 h2 m1 m2 rfl rfl hc) ?_ fun _ _ _ _ _ _ _ _ h => h.elim
  · exact .cons ⟨S, _, nS, rfl, rfl, .cons (.int _ _) (.cons (.int _ _) .nil), by simp⟩ (.cons ⟨D, [], nB, rfl, rfl, .nil, by decide⟩ .nil)
  · rintro f b st' ω' mv' h' tk' _ ⟨gl, fl, K⟩ _ hf rfl
    cases b with
    | ret v =>
      have hv : DatIn ω'.tl v (.bool true) := hf
      cases hv
      exact ret h' tk' mv' K.F (News.sub K.N fun p hp => by simp only [lay, List.mem_append]; exact .inr (.inr (.inr hp)))
    | _ => exact hf.elim
end
noncomputable def restIn (K : Frag) : Option (Scope × List Stmt) := match List.lookup 317 K with
  | some ⟨_, _, .func fd, _⟩ => match fd.body with
    | .stmts b => some (fd.scope, b.drop 2)
    | _ => none
  | _ => none
noncomputable def o317 (p : Params) : { o : Obj // List.lookup 317 (kk.heap_1 p) = some o } := ⟨_, by k_is⟩
noncomputable def s317 : { q : Scope × List Stmt // ∀ p, restIn (kk.heap_1 p) = some q } := ⟨_, fun p => by
  unfold restIn
  rw [(o317 p).2]
  unfold o317
  exact rfl⟩
noncomputable def r317 : { t : STr // SoundSs s317.1.1 s317.1.2 t } := ⟨_, by unfold s317; dsimp only [List.drop]; with_reducible exact RS.cons (RS.asg (by walk_at "cp:w") (R.call (by walk_at "cp:is") (by walk_at "cp:is") (by walk_at "cp:w") (by walk_at "cp:w") (Rs.cons (R.name (by walk_at "cp:w")) (Rs.cons (R.name (by walk_at "cp:w")) (Rs.cons R.int Rs.nil (by walk_at "cp:w")) (by walk_at "cp:w")) (by walk_at "cp:w")) (by walk_at "cp:w")) (by walk_at "cp:w")) (RS.cons (RS.asg (by walk_at "cp:w") (R.len (by walk_at "cp:w") (R.name (by walk_at "cp:w")) (by walk_at "cp:w")) (by walk_at "cp:w")) (RS.cons (RS.expr (R.call (by walk_at "cp:is") (by walk_at "cp:is") (by walk_at "cp:w") (by walk_at "cp:w") (Rs.cons (R.name (by walk_at "cp:w")) (Rs.cons (R.call (by walk_at "cp:is") (by walk_at "cp:is") (by walk_at "cp:w") (by walk_at "cp:w") (Rs.cons (R.name (by walk_at "cp:w")) (Rs.cons (R.lstF (Rs.cons R.str (Rs.cons R.str (Rs.cons R.str (Rs.cons R.str Rs.nil (by walk_at "cp:w")) (by walk_at "cp:w")) (by walk_at "cp:w")) (by walk_at "cp:w"))) Rs.nil (by walk_at "cp:w")) (by walk_at "cp:w")) (by walk_at "cp:w")) Rs.nil (by walk_at "cp:w")) (by walk_at "cp:w")) (by walk_at "cp:w")) (by walk_at "cp:w")) (RS.cons (RS.asg (by walk_at "cp:w") (R.call (by walk_at "cp:is") (by walk_at "cp:is") (by walk_at "cp:w") (by walk_at "cp:w") (Rs.cons (R.name (by walk_at "cp:w")) Rs.nil (by walk_at "cp:w")) (by walk_at "cp:w")) (by walk_at "cp:w")) (RS.cons (RS.ret (R.and (R.cmp Op2.eq (by walk_at "cp:w") (R.call (by walk_at "cp:is") (by walk_at "cp:is") (by walk_at "cp:w") (by walk_at "cp:w") (Rs.cons (R.globF (by walk_at "cp:is") (by walk_at "cp:w") (by walk_at "cp:w")) (Rs.cons (R.name (by walk_at "cp:w")) Rs.nil (by walk_at "cp:w")) (by walk_at "cp:w")) (by walk_at "cp:w")) (R.tup (Rs.cons (R.name (by walk_at "cp:w")) (Rs.cons (R.name (by walk_at "cp:w")) Rs.nil (by walk_at "cp:w")) (by walk_at "cp:w")))) (R.cmp Op2.eq (by walk_at "cp:w") (R.deepOf (R.name (by walk_at "cp:w"))) R.int))) RS.nil))))⟩
theorem r317_law : r317.1 = Mine.Q.lawR := by with_unfolding_all exact rfl
/-! The law. -/
noncomputable def Halt (p : Prop) : Prop := p
theorem halt_here {p : Prop} (h : Halt p) : p := h
namespace last
theorem tw10036213838678013359 : True := trivial
theorem tw10049540362295309732 : True := trivial
theorem tw10219694654014636008 : True := trivial
theorem tw10235878646112008451 : True := trivial
theorem tw10381684540274744732 : True := trivial
theorem tw10401514254781416909 : True := trivial
theorem tw10472488738022451920 : True := trivial
theorem tw10751807176762323504 : True := trivial
theorem tw1082636312488409729 : True := trivial
theorem tw1094190718071270203 : True := trivial
theorem tw11016047005285413347 : True := trivial
theorem tw11023585240391856278 : True := trivial
theorem tw11079588468888394504 : True := trivial
theorem tw11241937290806639182 : True := trivial
theorem tw11339975457933402710 : True := trivial
theorem tw1149628671665379445 : True := trivial
theorem tw11568521871103137032 : True := trivial
theorem tw11848329299672374059 : True := trivial
theorem tw11920498307089448714 : True := trivial
theorem tw11992556816843477234 : True := trivial
theorem tw11997004402816573699 : True := trivial
theorem tw12004558190712323559 : True := trivial
theorem tw12011781822702142409 : True := trivial
theorem tw12170417928370797771 : True := trivial
theorem tw1221854003105350822 : True := trivial
theorem tw12309956747896231653 : True := trivial
theorem tw12434903278369279430 : True := trivial
theorem tw12486744124794355784 : True := trivial
theorem tw12487507602036965711 : True := trivial
theorem tw12493977528633311161 : True := trivial
theorem tw12501861227411782469 : True := trivial
theorem tw12654057440886062226 : True := trivial
theorem tw12683096919074755643 : True := trivial
theorem tw12724654853533153927 : True := trivial
theorem tw12746494404408685984 : True := trivial
theorem tw12841665278468786251 : True := trivial
theorem tw12856131672449065292 : True := trivial
theorem tw12869319488368732684 : True := trivial
theorem tw129532386007965233 : True := trivial
theorem tw12975012412654239124 : True := trivial
theorem tw13031813464085693990 : True := trivial
theorem tw13130085122435717420 : True := trivial
theorem tw13133621163018995705 : True := trivial
theorem tw13138307915528667139 : True := trivial
theorem tw13167338657747285182 : True := trivial
theorem tw13171133504219887434 : True := trivial
theorem tw13198638941560342604 : True := trivial
theorem tw13274423731595823077 : True := trivial
theorem tw13278624125249396748 : True := trivial
theorem tw13283179006050219827 : True := trivial
theorem tw13313652854246847894 : True := trivial
theorem tw13318692426241498829 : True := trivial
theorem tw13330317320642422689 : True := trivial
theorem tw13358561272884701979 : True := trivial
theorem tw13389830087100160626 : True := trivial
theorem tw13671237579712163722 : True := trivial
theorem tw13684274207376111020 : True := trivial
theorem tw13685251730323808739 : True := trivial
theorem tw13734007743788925610 : True := trivial
theorem tw13902718323717708578 : True := trivial
theorem tw13950271230492438643 : True := trivial
theorem tw13977215376614091327 : True := trivial
theorem tw14048405928732915232 : True := trivial
theorem tw14056343435507404497 : True := trivial
theorem tw14217942388574804470 : True := trivial
theorem tw14230606986095397497 : True := trivial
theorem tw14235346643120684273 : True := trivial
theorem tw14350432469891877763 : True := trivial
theorem tw14387767130258179911 : True := trivial
theorem tw14439579730067552879 : True := trivial
theorem tw14559609926986596833 : True := trivial
theorem tw14647238879576648493 : True := trivial
theorem tw14720728527791197199 : True := trivial
theorem tw14754281193170142041 : True := trivial
theorem tw14771539749480405786 : True := trivial
theorem tw14772470482741377309 : True := trivial
theorem tw14790304936980319160 : True := trivial
theorem tw14903080187773928035 : True := trivial
theorem tw1493444377685119254 : True := trivial
theorem tw15064278891599888695 : True := trivial
theorem tw15175467438380419727 : True := trivial
theorem tw15291290184386352572 : True := trivial
theorem tw15364600845916371484 : True := trivial
theorem tw15487935077704421740 : True := trivial
theorem tw15498797427756388165 : True := trivial
theorem tw15525421225283253981 : True := trivial
theorem tw15615557874378484071 : True := trivial
theorem tw15663174843190288308 : True := trivial
theorem tw15685272908095733914 : True := trivial
theorem tw15819516720255194342 : True := trivial
theorem tw15877036200097864516 : True := trivial
theorem tw15886706560791326134 : True := trivial
theorem tw15890854102939593665 : True := trivial
theorem tw15900117908192359413 : True := trivial
theorem tw15905890222628331748 : True := trivial
theorem tw16003534883148804572 : True := trivial
theorem tw16075806352652550793 : True := trivial
theorem tw16116571835920196258 : True := trivial
theorem tw16154746991269529222 : True := trivial
theorem tw16185524462421727957 : True := trivial
theorem tw16216612767372720683 : True := trivial
theorem tw16264023839439705432 : True := trivial
theorem tw16277073790526562624 : True := trivial
theorem tw16411260882645103857 : True := trivial
theorem tw16418049474194368045 : True := trivial
theorem tw16421063382542117464 : True := trivial
theorem tw16454679927855208784 : True := trivial
theorem tw16471663448801344786 : True := trivial
theorem tw1650130374653822322 : True := trivial
theorem tw16529340369173639415 : True := trivial
theorem tw16639841969683853643 : True := trivial
theorem tw16662831299301325292 : True := trivial
theorem tw16772655747136340128 : True := trivial
theorem tw16819904596368451949 : True := trivial
theorem tw1689478005225379811 : True := trivial
theorem tw17026823691341825916 : True := trivial
theorem tw1704064304099463678 : True := trivial
theorem tw17497016161025822992 : True := trivial
theorem tw17599301862248201723 : True := trivial
theorem tw17609839957989435337 : True := trivial
theorem tw17661896625262201600 : True := trivial
theorem tw17791125489795934460 : True := trivial
theorem tw17796619739987388356 : True := trivial
theorem tw17926344223305783461 : True := trivial
theorem tw17956314331050296058 : True := trivial
theorem tw17969045605780327671 : True := trivial
theorem tw18030279353805403494 : True := trivial
theorem tw18078287044538499519 : True := trivial
theorem tw18090787411957541592 : True := trivial
theorem tw1811566187687178862 : True := trivial
theorem tw18166490263639295988 : True := trivial
theorem tw18299012551539574976 : True := trivial
theorem tw18334461306110397300 : True := trivial
theorem tw18337302238760953989 : True := trivial
theorem tw18362963312988859102 : True := trivial
theorem tw1874098583795739689 : True := trivial
theorem tw1941793344125931350 : True := trivial
theorem tw1979625517691235824 : True := trivial
theorem tw2013088027881054015 : True := trivial
theorem tw2043747555595480416 : True := trivial
theorem tw206313297382067807 : True := trivial
theorem tw2103774424321490351 : True := trivial
theorem tw2105541812228323351 : True := trivial
theorem tw2173629279987259319 : True := trivial
theorem tw2174007423228486729 : True := trivial
theorem tw2278069659366037579 : True := trivial
theorem tw23081407857645265 : True := trivial
theorem tw2372717984251985466 : True := trivial
theorem tw2539279505023792067 : True := trivial
theorem tw2565904444421286011 : True := trivial
theorem tw2602124744087476535 : True := trivial
theorem tw2612893520911702818 : True := trivial
theorem tw2723262342485916564 : True := trivial
theorem tw274655733642614518 : True := trivial
theorem tw2747632623502637511 : True := trivial
theorem tw2889039737277059153 : True := trivial
theorem tw2929555312059897258 : True := trivial
theorem tw2963379206402279142 : True := trivial
theorem tw2988443891360346987 : True := trivial
theorem tw3064907047442757173 : True := trivial
theorem tw3090620361435822899 : True := trivial
theorem tw3138440427983220244 : True := trivial
theorem tw3235924454613261937 : True := trivial
theorem tw3256312409693975858 : True := trivial
theorem tw3259919350160413785 : True := trivial
theorem tw3277290926766449867 : True := trivial
theorem tw3283927832560789276 : True := trivial
theorem tw3463078086654843916 : True := trivial
theorem tw3503884929322110752 : True := trivial
theorem tw3554037869766791536 : True := trivial
theorem tw3568590529810720171 : True := trivial
theorem tw3642146877424279724 : True := trivial
theorem tw3753943079142717374 : True := trivial
theorem tw3772493106079137092 : True := trivial
theorem tw3773210507669116690 : True := trivial
theorem tw3808804766173103043 : True := trivial
theorem tw3815279006275133776 : True := trivial
theorem tw3872729858753437498 : True := trivial
theorem tw3884075511692762798 : True := trivial
theorem tw3916912713185794125 : True := trivial
theorem tw392186800250761748 : True := trivial
theorem tw3997622859499941364 : True := trivial
theorem tw4047037708281476023 : True := trivial
theorem tw4055019915741820758 : True := trivial
theorem tw4065699261675191273 : True := trivial
theorem tw411818212642816186 : True := trivial
theorem tw4154228887804261706 : True := trivial
theorem tw4212335981835010375 : True := trivial
theorem tw4275513446567537494 : True := trivial
theorem tw4465826498776508137 : True := trivial
theorem tw4527067458724910360 : True := trivial
theorem tw4548345346061211060 : True := trivial
theorem tw4549596831892082843 : True := trivial
theorem tw4652519663422326897 : True := trivial
theorem tw4690956147349219228 : True := trivial
theorem tw4759644671100168903 : True := trivial
theorem tw482859786049882620 : True := trivial
theorem tw4907898213526839045 : True := trivial
theorem tw491323296267545999 : True := trivial
theorem tw4994054547672046340 : True := trivial
theorem tw5278308409006462188 : True := trivial
theorem tw5320093344848087305 : True := trivial
theorem tw5343091459263445054 : True := trivial
theorem tw5381737047631703889 : True := trivial
theorem tw5425384072488922368 : True := trivial
theorem tw5463557292697768615 : True := trivial
theorem tw5609331490697025445 : True := trivial
theorem tw5619856447070439919 : True := trivial
theorem tw5694477398853684277 : True := trivial
theorem tw5723518895799063779 : True := trivial
theorem tw5725287709756559197 : True := trivial
theorem tw5894918470425236405 : True := trivial
theorem tw6031172015097272200 : True := trivial
theorem tw6186873291214041151 : True := trivial
theorem tw6323626918163941346 : True := trivial
theorem tw6357366562327059801 : True := trivial
theorem tw638584677652134651 : True := trivial
theorem tw6438550976138859957 : True := trivial
theorem tw6510343413975923470 : True := trivial
theorem tw6516329073118172554 : True := trivial
theorem tw6560393007594934781 : True := trivial
theorem tw6611619501981288541 : True := trivial
theorem tw6663614290117239359 : True := trivial
theorem tw6672445491115935045 : True := trivial
theorem tw6715594467305019285 : True := trivial
theorem tw6831306113955643827 : True := trivial
theorem tw6906892187455378461 : True := trivial
theorem tw6936808017305970416 : True := trivial
theorem tw7004745991758839774 : True := trivial
theorem tw7102502908492211588 : True := trivial
theorem tw7109867662074539341 : True := trivial
theorem tw7122741073828761301 : True := trivial
theorem tw716270746284104931 : True := trivial
theorem tw719256447186795362 : True := trivial
theorem tw7435024820341785728 : True := trivial
theorem tw7455406432348229132 : True := trivial
theorem tw7463305695202555387 : True := trivial
theorem tw7495479113714852103 : True := trivial
theorem tw7500009262359249075 : True := trivial
theorem tw7608848404174853502 : True := trivial
theorem tw7646824199852514207 : True := trivial
theorem tw7672566583100824233 : True := trivial
theorem tw7673447033451211930 : True := trivial
theorem tw7674500570193836077 : True := trivial
theorem tw768460133952231279 : True := trivial
theorem tw7717091953664130596 : True := trivial
theorem tw7721277722394976020 : True := trivial
theorem tw7750382757028754281 : True := trivial
theorem tw7949868770774071567 : True := trivial
theorem tw8020923024066813184 : True := trivial
theorem tw8037677939499180106 : True := trivial
theorem tw806186546232654810 : True := trivial
theorem tw8100242246156594897 : True := trivial
theorem tw8177592493227731309 : True := trivial
theorem tw8182877724362358176 : True := trivial
theorem tw8213566372167003705 : True := trivial
theorem tw8236545094436185799 : True := trivial
theorem tw8323716734498068969 : True := trivial
theorem tw8341209100969983845 : True := trivial
theorem tw8383290030278189531 : True := trivial
theorem tw842163824783303836 : True := trivial
theorem tw8538981378275722508 : True := trivial
theorem tw8589991491463250614 : True := trivial
theorem tw8610530730688597427 : True := trivial
theorem tw8614159640702707346 : True := trivial
theorem tw8672619157009590386 : True := trivial
theorem tw8688304572452216645 : True := trivial
theorem tw8735426274623292709 : True := trivial
theorem tw8743816605715451828 : True := trivial
theorem tw8766449316929055484 : True := trivial
theorem tw8770569147817646468 : True := trivial
theorem tw8780857599125482397 : True := trivial
theorem tw881293745290852171 : True := trivial
theorem tw8818849804988446275 : True := trivial
theorem tw8848700977156393181 : True := trivial
theorem tw9113940065345582952 : True := trivial
theorem tw9150935819152602319 : True := trivial
theorem tw9254556340950100518 : True := trivial
theorem tw9263630338283388706 : True := trivial
theorem tw9268643954350310968 : True := trivial
theorem tw929920880295355776 : True := trivial
theorem tw9382506655349747434 : True := trivial
theorem tw9428140006093398364 : True := trivial
theorem tw952037712343499867 : True := trivial
theorem tw9576433690032333941 : True := trivial
theorem tw9578589382325992482 : True := trivial
theorem tw9736257930838599554 : True := trivial
theorem tw9755285730956315117 : True := trivial
theorem tw9799358710424939372 : True := trivial
theorem tw9812708036469290079 : True := trivial
theorem tw9836451579784247346 : True := trivial
theorem tw9846957020989748425 : True := trivial
theorem tw9929307243222482580 : True := trivial
end last
set_option Elab.async true
set_option maxHeartbeats 8000000 in
theorem last : PySem.Challenge.rw_xw0160_01.Holds := by
  w_on; o_law; k_head; (case hw => w_witness2)
  (have offW : True := by (set_option rowWalk.seconds 0 in (first | row_walk | trivial))); clear offW
  k_go0
  all_goals (try k_fold)
  all_goals (
    rename Frag.In _ _ => X9
    replace X9 := (show (kk.heap_1 _).In _ from X9)
    revert X9
    k_fill
    intro X9
    rename Top _ _ _ _ _ _ => T9
    replace T9 := (show Top topProg LT _ _ _ _ from T9))
  (repeat' (first | (k_unfold; (try dsimp only)) | (k_end; wrow_close) | ((with_reducible show wpAny _ _ (call (Value.ref _) _) _ _ _); first | (k_here; (try dsimp only [List.cons_append, List.nil_append]); (with_reducible show wpAny _ _ (call (Value.ref 305) []) _ _ _); k_dflt (refine' top305 ?k1 ?k2 ?k3 ?k4 ?k5 ?kK ?kd ?ku ?kc ?kj ?_; (case k1 => k_asm); (case k2 => k_asm); (case k3 => k_asm); (case k4 => assumption); (case k5 => k_asm); (case kK => first | exact rfl | assumption); (case kd => exact Nat.le_of_ble_eq_true rfl); (case ku => exact Nat.le_of_ble_eq_true rfl); (case kc => with_unfolding_all exact rfl); (case kj => exact Dj.cons (fun _ h => nomatch h) .nil); (intro h9 tk9 F9 N8; (try dsimp only)))) | (k_here; (try dsimp only [List.cons_append, List.nil_append]); (with_reducible show wpAny _ _ (call (Value.ref 310) []) _ _ _); k_dflt (refine' top310 ?k1 ?k2 ?k3 ?k4 ?k5 ?kK ?kd ?ku ?kc ?_; (case k1 => k_asm); (case k2 => k_asm); (case k3 => k_asm); (case k4 => assumption); (case k5 => k_asm); (case kK => first | exact rfl | assumption); (case kd => exact Nat.le_of_ble_eq_true rfl); (case ku => exact Nat.le_of_ble_eq_true rfl); (case kc => with_unfolding_all exact rfl); (intro ps9 h9 tk9 F9 N8; (try dsimp only))))) | (k_here; (with_reducible show wpAny _ _ (execs (Stmt.Assign [Expr.Name (Str.ofString "due") _] _ _ :: _) _) _ _ _); refine halt_here ?_) | ((with_reducible show wpAny _ _ (execs (_ :: _) _) _ _ _); k_here; (with_reducible refine wpAny_execs_cons (letQ ?_)); intro qs9) | walk1 | (dsimp only; walk1) | (leave1; walk_say "STEP leave1"; try dsimp only) | fail "no step"))
  all_goals (
    refine (show wpAny _ _ _ _ _ _ from ?_ : Halt _)
    have N0 := (by assumption : News _ _ _ [(_, _), (_, W.listOf _ _), (_, W.listOf _ _), (307, tabObj _)])
    k_dflt (refine' top_rest (t := r317.1) ?zhs r317_law ?zB ?zF ?zX (three_sub N0) ?zT ?zkK ?zkd ?zku ?zkc ⟨(fmod_ok (by decide)).1, (fmod_ok (by decide)).2⟩ ?zh1 ?zh2 ?zm1 ?zm2 ?zret)
    case zhs => exact r317.2
    case zB => k_asm
    case zF => k_asm
    case zX => k_asm
    case zT => k_asm
    case zkK => first | exact rfl | assumption
    case zkd => exact Nat.le_of_ble_eq_true rfl
    case zku => exact Nat.le_of_ble_eq_true rfl
    case zkc => with_unfolding_all exact rfl
    case zh1 => with_unfolding_all exact rfl
    case zh2 => with_unfolding_all exact rfl
    case zm1 => with_unfolding_all exact rfl
    case zm2 => with_unfolding_all exact rfl
    case zret =>
      intro h8 tk8 m8 F8 N8
      (try dsimp only)
      k_steps)
set_option Elab.async false
end Mine
theorem PySem.Challenge.cw_xw0160_01_holds : PySem.Challenge.rw_xw0160_01.Holds := by
  exact Mine.last
