import PyProof.Rows.All
import Wide.All
import OpenK.AllK
import Wide.FinOn
import PySem.Challenge.RW_xm0054_01
open PySem PySem.W PyProof.Rows
set_option Elab.async false
set_option maxRecDepth 100000
set_option maxHeartbeats 8000000
set_option linter.all false
set_option linter.unusedVariables false

namespace Mine
abbrev Back (h₀ : Heap) (L : Addr) (m : Str → Option Value) (news : List (Addr × Obj)) (s : Shared) (Q : Value → Shared → Prop) (v : Value) : Prop :=
  ∀ (h' : Heap) (tk' : Nat), Fr h₀ L h' m → News h₀ L h' news → Q v { s with heap := h', toks := tk' }

/-- what a call of the def at `f` with the values `vs` gives back, wherever it is made -/
def Cl (w : World) (K : Params → Frag) (p : Program) (R : Nat) (f : Addr) (vs : List Value) (P : Value → Prop) : Prop :=
  ∀ (loose : List Str) (mean : ExcName → Option Value) (mg mb : Str → Option Value) (news : List (Addr × Obj)) (dp un : Nat) (gd : Option (List Code)) (cn : Str) (cs : Scope) (a : Addr) (ccd : Value) (cl : List (Str × Addr)) (outer : List Env) (A₀ : Around) (base h₀ : Heap) (L : Addr) (m : Str → Option Value) (s : Shared) (Q E : Value → Shared → Prop),
    Below A₀ base outer h₀ → Fr h₀ L s.heap m → (K w.params).In h₀ → News h₀ L s.heap news → Top p loose mean mg mb h₀ → cs.kind = .function →
    dp + R < recursionLimit → un + 8 * R < cLine →
    (∀ v, P v → Back h₀ L m news s Q v) →
    wpAny (model (PySem.Challenge.rw_xm0054_01.row.toRowW).prog w) (ktrTop dp un gd cn cs L a ccd cl outer) (call (.ref f) vs) Q E s
theorem Cl.use {w : World} {K : Params → Frag} {p : Program} {R : Nat} {f : Addr} {vs : List Value} {P : Value → Prop} (C : Cl w K p R f vs P)
    {loose : List Str} {mean : ExcName → Option Value} {mg mb : Str → Option Value} {news : List (Addr × Obj)} {dp un : Nat} {gd : Option (List Code)} {cn : Str} {cs : Scope} {a : Addr} {ccd : Value} {cl : List (Str × Addr)} {outer : List Env} {A₀ : Around} {base h₀ : Heap} {L : Addr} {m : Str → Option Value} {s : Shared} {Q E : Value → Shared → Prop}
    (B : Below A₀ base outer h₀) (F : Fr h₀ L s.heap m) (X : (K w.params).In h₀) (N : News h₀ L s.heap news) (T : Top p loose mean mg mb h₀) (hk : cs.kind = .function)
    (hd : dp + R < recursionLimit) (hu : un + 8 * R < cLine)
    (ret : ∀ v, P v → ∀ (h' : Heap) (tk' : Nat), Fr h₀ L h' m → News h₀ L h' news → Q v { s with heap := h', toks := tk' }) :
    wpAny (model (PySem.Challenge.rw_xm0054_01.row.toRowW).prog w) (ktrTop dp un gd cn cs L a ccd cl outer) (call (.ref f) vs) Q E s :=
  C loose mean mg mb news dp un gd cn cs a ccd cl outer A₀ base h₀ L m s Q E B F X N T hk hd hu ret
theorem Cl.mono {w : World} {K : Params → Frag} {p : Program} {R : Nat} {f : Addr} {vs : List Value} {P P' : Value → Prop} (C : Cl w K p R f vs P) (h : ∀ v, P v → P' v) : Cl w K p R f vs P' := by
  unfold Cl
  intro loose mean mg mb news dp un gd cn cs a ccd cl outer A₀ base h₀ L m s Q E B F X N T hk hd hu hret
  exact C loose mean mg mb news dp un gd cn cs a ccd cl outer A₀ base h₀ L m s Q E B F X N T hk hd hu fun v hv => hret v (h v hv)
theorem step {P Q : Prop} (hp : P) (h : P → Q) : Q := h hp
/-- the sign of the last figure -/
def cd (k : Int) : Nat := (48 + k.fmod 10).toNat
/-- the figures of a number below 10,000 -/
def figT (v : Int) : Str :=
  if v ≤ 9 then ⟨#[cd v]⟩
  else if v ≤ 99 then ⟨#[cd (v.fdiv 10)]⟩ ++ ⟨#[cd v]⟩
  else if v ≤ 999 then ⟨#[cd ((v.fdiv 10).fdiv 10)]⟩ ++ (⟨#[cd (v.fdiv 10)]⟩ ++ ⟨#[cd v]⟩)
  else ⟨#[cd (((v.fdiv 10).fdiv 10).fdiv 10)]⟩ ++ (⟨#[cd ((v.fdiv 10).fdiv 10)]⟩ ++ (⟨#[cd (v.fdiv 10)]⟩ ++ ⟨#[cd v]⟩))
theorem f10 (k : Int) : k.fdiv 10 = k / 10 := Int.fdiv_eq_ediv_of_nonneg _ (by decide)
end Mine

namespace Mine
open PySem.Builtin PySem.Builtin.Str PyProof

abbrev cs (x : Str) : List Nat := x.cps.toList
theorem cs_len (x : Str) : (cs x).length = x.length := Array.length_toList
theorem cs_ext {x y : Str} (h : cs x = cs y) : x = y := Str.ext' (Array.toList_inj.mp h)

section
variable {prog : Program} {w : World} {A : Around} {E : Value → Shared → Prop} {s : Shared} {x y : Str} {t u : Tok} {Q : Value → Shared → Prop} {h₀ : Heap} {L : Addr} {m : Str → Option Value} {news : List (Addr × Obj)}

theorem r_add (hs : x.length + y.length ≤ 1000) (h : ∀ z t' k, cs z = cs x ++ cs y → z.length = x.length + y.length → Q (.str z t') { s with toks := k }) :
    wpAny (model prog w) A (binaryOp .Add (.str x t) (.str y u)) Q E s := by
  refine KXadd.add (Nat.le_refl _) (Nat.le_refl _) (by omega) fun t' k _ => h _ t' k ?_ (Str.length_append x y)
  show (x ++ y).cps.toList = _
  rw [Str.cps_append, Array.toList_append]

theorem r_len (hs : x.length ≤ 1000) (h : ∀ k t' (n : Int), n = (x.length : Int) → Q (.int n t') { s with toks := k }) :
    wpAny (model prog w) A (call (.builtin "len") [.str x t]) Q E s :=
  P.len_str (by omega) (h _ _ _ rfl)

theorem r_from {value slice : PySem.Expr} {i : Int} {ui : Tok} (F : Fr h₀ L s.heap m) (N : News h₀ L s.heap news) (h0 : 0 ≤ i) (hi : i ≤ x.length) (hs : x.length ≤ 1000)
    (h : ∀ z h' t' k, Fr h₀ L h' m → News h₀ L h' news → cs z = (cs x).drop i.toNat → (z.length : Int) = x.length - i → Q (.str z t') { s with heap := h', toks := k })
    (hu : subscripted slice false (.str x t) (.ref s.heap.objs.size) = operate [.ref s.heap.objs.size, .str x t] (getItem (.str x t) (.ref s.heap.objs.size)) := by with_unfolding_all rfl)
    (ht : ∀ r, letTemporaryGo value (.str x t) r = pure () := by intro _; with_unfolding_all rfl) :
    wpAny (model prog w) A (subscriptTail value slice (.str x t) (.ref s.heap.objs.size)) Q E { s with heap := s.heap.push { cls := .type "slice", data := .fields #[.int i ui, .none, .none] } } := by
  refine slice_strN_sn F N (fun h' t' k F' N' => h _ h' t' k F' N' ?_ ?_) hu ht (by rw [sizeLine_eq]; omega)
  · rw [slice_from_eq h0 hi rfl]
    show ((x.cps.toList.drop i.toNat).take ((x.length : Int) - i).toNat).toArray.toList = _
    rw [List.toList_toArray]
    refine List.take_of_length_le ?_
    rw [List.length_drop, cs_len]; omega
  · rw [slice_from_eq h0 hi rfl]
    show ((((x.cps.toList.drop i.toNat).take ((x.length : Int) - i).toNat).toArray.size : Nat) : Int) = _
    have := cs_len x
    rw [List.size_toArray, List.length_take, List.length_drop, this]; omega

theorem r_rev {value slice : PySem.Expr} {uk : Tok} (F : Fr h₀ L s.heap m) (N : News h₀ L s.heap news) (hs : x.length ≤ 1000)
    (h : ∀ z h' t' k, Fr h₀ L h' m → News h₀ L h' news → cs z = (cs x).reverse → z.length = x.length → Q (.str z t') { s with heap := h', toks := k })
    (hu : subscripted slice false (.str x t) (.ref s.heap.objs.size) = operate [.ref s.heap.objs.size, .str x t] (getItem (.str x t) (.ref s.heap.objs.size)) := by with_unfolding_all rfl)
    (ht : ∀ r, letTemporaryGo value (.str x t) r = pure () := by intro _; with_unfolding_all rfl) :
    wpAny (model prog w) A (subscriptTail value slice (.str x t) (.ref s.heap.objs.size)) Q E { s with heap := s.heap.push { cls := .type "slice", data := .fields #[.none, .none, .int (-1) uk] } } := by
  refine slice_strK_nn F N (by decide) (fun h' t' k F' N' => h _ h' t' k F' N' ?_ (step_rev_len x uk)) hu ht (by rw [sizeLine_eq]; omega)
  show (Txt.sliceBy x none none (-1, uk)).cps.toList = _
  rw [step_rev_list]
  refine List.ext_getElem ?_ fun i h1 h2 => ?_
  · rw [List.length_map, List.length_range, List.length_reverse, cs_len]
  · have hl := cs_len x
    have h3 : x.length - 1 - i < x.cps.size := by
      have : i < x.length := by simpa using h1
      show x.length - 1 - i < x.length
      omega
    simp only [List.getElem_map, List.getElem_range, List.getElem_reverse, Array.getD, h3, dif_pos, hl, Array.getElem_toList]
    rfl
end
end Mine

namespace Mine
open PySem.Builtin PySem.Builtin.Str PyProof PySem.Spec

def one (n : Nat) : Str := ⟨#[n]⟩
theorem signs_one (x : Str) : signs x = (cs x).map one := rfl
def hd1 (x : Str) : Nat := x.cps.toList.headD 0
theorem one_hd1 (n : Nat) : hd1 (one n) = n := rfl

theorem rising_all : ∀ (l : List Nat) (p : Nat), risingS (one p) (l.map one) = true → (p :: l).Pairwise (· ≤ ·)
  | [], p, _ => List.pairwise_singleton _ _
  | a :: l, p, h => by
    have h' : (!ltCps [a] [p] && risingS (one a) (l.map one)) = true := h
    rw [Bool.and_eq_true] at h'
    obtain ⟨h1, h2⟩ := h'
    have ih := rising_all l a h2
    have hpa : p ≤ a := by
      rw [ltCps_eq] at h1
      have h3 : ¬ ([a] < [p]) := by simpa using h1
      refine Nat.le_of_not_lt fun hlt => h3 ?_
      exact List.Lex.rel hlt
    refine List.pairwise_cons.mpr ⟨fun b hb => ?_, ih⟩
    rcases List.mem_cons.mp hb with rfl | hb
    · exact hpa
    · exact Nat.le_trans hpa ((List.pairwise_cons.mp ih).1 b hb)
theorem sorted_all (l : List Nat) (h : sortedS (l.map one) = true) : l.Pairwise (· ≤ ·) := by
  cases l with
  | nil => exact List.Pairwise.nil
  | cons a l => exact rising_all l a h

theorem ones_of_perm {ss : List Str} {x : Str} (hp : ss.Perm (signs x)) : ∃ y : Str, ss = signs y ∧ (cs y).Perm (cs x) := by
  refine ⟨⟨(ss.map hd1).toArray⟩, ?_, ?_⟩
  · rw [signs_one]
    show ss = ((ss.map hd1).toArray.toList).map one
    rw [List.toList_toArray, List.map_map]
    have : ∀ a ∈ ss, (one ∘ hd1) a = a := fun a ha => by
      have h1 := hp.mem_iff.mp ha
      rw [signs_one] at h1
      obtain ⟨n, _, rfl⟩ := List.mem_map.mp h1
      rfl
    exact ((List.map_congr_left this).trans (List.map_id _)).symm
  · show ((ss.map hd1).toArray.toList).Perm _
    rw [List.toList_toArray]
    have h1 := hp.map hd1
    rw [signs_one, List.map_map] at h1
    have e : (cs x).map (hd1 ∘ one) = cs x := (List.map_congr_left (g := _root_.id) fun n _ => one_hd1 n).trans (List.map_id _)
    rwa [e] at h1

theorem strsAre_items {x : Str} {acc : Array Value} (h : ItemsOf (SignAt x) acc x.cps.size) : StrsAre acc.toList (signs x) := by
  refine StrsAre.of_carried (carriedAll_of_get _ _ (by simp [h.1, signs]) fun j v hv => ?_)
  obtain ⟨c, u, hc, rfl⟩ := h.2 j v (by simpa using hv)
  exact ⟨.str ⟨#[c]⟩, by simp [signs, hc], .str _ _⟩

section
variable {prog : Program} {w : World} {A : Around} {E : Value → Shared → Prop} {s : Shared} {x y : Str} {t u : Tok} {Q : Value → Shared → Prop} {h₀ : Heap} {L : Addr} {m : Str → Option Value} {news : List (Addr × Obj)}

theorem r_sorted (hh : A.handled = none) (F : Fr h₀ L s.heap m) (N : News h₀ L s.heap news) (h64 : x.length < 64)
    (h : ∀ (h' : Heap) (tk' : Nat) (D : Addr) (vs' : List Value) (z : Str) (e : Nat), Fr h₀ L h' m → News h₀ L h' ((D, seqObj "list" vs'.toArray e) :: news) → StrsAre vs' (signs z) →
      (cs z).Perm (cs x) → (cs z).Pairwise (· ≤ ·) → z.length = x.length → Q (.ref D) { s with heap := h', toks := tk' }) :
    wpAny (model prog w) A (call (.builtin "sorted") [.str x t]) Q E s := by
  refine Calls.call_function_entry kind_sorted plain_sorted entry_sorted (args_sorted1 _) ?_
  unfold Builtin.«sorted»
  refine wpAny_bind (m := checkCount "sorted" 1 1 _) (wpAny_pure ?_)
  refine wpAny_bind (wpAny_collect_str (A := A.in1) hh x t (hn := by rw [sizeLine_eq]; show x.length ≤ _; omega) fun s' acc hk hg hdr ho hacc => ?_)
  obtain ⟨hp', g', d', k', o'⟩ := s'
  cases hg; cases hdr; cases ho
  have hS := strsAre_items hacc
  have hlen : acc.toList.length < 64 := by
    rw [Array.length_toList, hacc.1]; exact h64
  refine wpAny_bind (wpAny_newList ?_)
  have hoL : (hp'.push (seqObj "list" acc.toList.toArray 0)).get? hp'.objs.size = some (seqObj "list" acc.toList.toArray 0) := Heap.get?_push_size _ rfl
  refine wpAny_bind (wpAny_holding (wpAny_call_entry slot_list_sort ⟨_, hoL, rfl⟩ entry_list_sort (list_sort_treeK strKind_oneLt hoL hS.keysOf (fun v₁ v₂ rest e => keyKind_strs (by rw [← e]; exact hS)) hlen fun st' hp hs => ⟨_, rfl, ?_⟩) (args_list_sort _)))
  refine wpAny_pure ⟨_, rfl, ?_⟩
  obtain ⟨ss', h1, h2, h3⟩ := sorted_out_str hS hp hs
  obtain ⟨z, rfl, hz⟩ := ones_of_perm h2
  have old : ∀ b ob, hp'.get? b = some ob → (sortedHeap (hp'.push (seqObj "list" acc.toList.toArray 0)) hp'.objs.size acc.toList ((arrOf st').map (·.2))).get? b = some ob := fun b ob e1 => by
    have hlt := Heap.lt_size e1
    rw [sortedHeap_old (Nat.ne_of_lt hlt) (by rw [size_push']; exact Nat.lt_succ_of_lt hlt), Heap.get?_push_ne _ _ _ (Nat.ne_of_lt hlt)]
    exact e1
  have F1 : Fr h₀ L hp' m := F.kept hk
  have N1 : News h₀ L hp' news := fun p hp => ⟨hk _ _ (N p hp).1, (N p hp).2⟩
  obtain ⟨e, he⟩ := sortedHeap_at (out := (arrOf st').map (·.2)) hoL
  refine h _ _ _ ((arrOf st').map (·.2)).toList z e (F1.kept old) (News.kept_cons F1 N1 old (Nat.le_refl _) he) h1 hz (sorted_all _ (by rw [← signs_one]; exact h3)) ?_
  rw [← cs_len, ← cs_len, hz.length_eq]

theorem r_join {D : Addr} {vs : List Value} {e : Nat} {z : Str} (N : News h₀ L s.heap news) (hm : (D, seqObj "list" vs.toArray e) ∈ news) (hS : StrsAre vs (signs z)) (hs : z.length ≤ 1000) (hx : x = Str.ofString "")
    (h : ∀ r t' k, cs r = cs z → r.length = z.length → Q (.str r t') { s with toks := k }) :
    wpAny (model prog w) A (call (.builtin "str.join") [.str x t, .ref D]) Q E s := by
  subst hx
  have hl : s.heap.IsList D vs.toArray := News.isList N hm
  have e1 : (signs z).map (fun a => a) = signs z := List.map_id _
  have e2 : Txt.join (Str.ofString "") (signs z) = z := by
    show Builtin.Str.glued (Str.ofString "") (signs z) = z
    rw [StrLaws.glued_eq_join]
    exact join_nil_signs z
  refine join_madeW (l := signs z) (g := fun a => a) 1 hl (by rw [e1]; exact hS.carried) (fun a ha => ?_) (by rw [signs_length]; omega) (by decide) fun t' k => ?_
  · rw [signs_one] at ha
    obtain ⟨n, _, rfl⟩ := List.mem_map.mp ha
    exact Nat.le_refl 1
  · rw [e1, e2]
    exact h z t' k rfl rfl
end
end Mine

namespace Mine

/-- the figures, noughts ahead -/
def pad (v z : Int) : List Nat :=
  if z = 4 then [cd (((v.fdiv 10).fdiv 10).fdiv 10), cd ((v.fdiv 10).fdiv 10), cd (v.fdiv 10), cd v] else [cd ((v.fdiv 10).fdiv 10), cd (v.fdiv 10), cd v]

theorem cs_app (x y : Str) : cs (x ++ y) = cs x ++ cs y := by
  show (x ++ y).cps.toList = _
  rw [Str.cps_append, Array.toList_append]
theorem cs_figT (v : Int) : cs (figT v) =
    if v ≤ 9 then [cd v] else if v ≤ 99 then [cd (v.fdiv 10), cd v] else if v ≤ 999 then [cd ((v.fdiv 10).fdiv 10), cd (v.fdiv 10), cd v]
    else [cd (((v.fdiv 10).fdiv 10).fdiv 10), cd ((v.fdiv 10).fdiv 10), cd (v.fdiv 10), cd v] := by
  unfold figT
  split
  · rfl
  split
  · rw [cs_app]; rfl
  split
  · rw [cs_app, cs_app]; rfl
  · rw [cs_app, cs_app, cs_app]; rfl
theorem cd_zero : cd 0 = 48 := by decide
theorem fd {v : Int} (h0 : 0 ≤ v) (h1 : v ≤ 9) : v.fdiv 10 = 0 := by rw [f10]; omega
theorem cs_sp : cs (Str.ofString " ") = [32] := by decide
theorem cs_000 : cs (Str.ofString "000") = [48, 48, 48] := by decide

theorem pad_end {v z n : Int} {a b c d : Str} (h0 : 0 ≤ v) (h1 : v ≤ 9999) (hz : z = 4 ∨ (z = 3 ∧ v ≤ 999))
    (hd : cs d = (cs c).drop (if 0 > n - z then 0 else n - z).toNat) (hn : n = (c.length : Int)) (hc : cs c = cs (Str.ofString "000") ++ cs b) (hb : cs b = (cs a).drop (Int.toNat 1)) (ha : cs a = cs (Str.ofString " ") ++ cs (figT v)) :
    cs d = pad v z := by
  have hcl := cs_len c
  rw [cs_sp, cs_figT] at ha
  rw [ha, show Int.toNat 1 = 1 from rfl] at hb
  rw [hb, cs_000] at hc
  rw [hc] at hcl hd
  simp only [f10] at hd hcl
  unfold pad
  simp only [f10]
  rcases (by omega : v ≤ 9 ∨ (9 < v ∧ v ≤ 99) ∨ (99 < v ∧ v ≤ 999) ∨ 999 < v) with hv | ⟨hv, hv'⟩ | ⟨hv, hv'⟩ | hv
  · rw [if_pos hv] at hd hcl
    have hn' : n = 4 := by rw [hn, ← hcl]; rfl
    have z1 : v / 10 = 0 := by omega
    rw [hd, hn', z1]
    rcases hz with rfl | ⟨rfl, _⟩ <;> rfl
  · rw [if_neg (show ¬ v ≤ 9 by omega), if_pos hv'] at hd hcl
    have hn' : n = 5 := by rw [hn, ← hcl]; rfl
    have z1 : v / 10 / 10 = 0 := by omega
    rw [hd, hn', z1]
    rcases hz with rfl | ⟨rfl, _⟩ <;> rfl
  · rw [if_neg (show ¬ v ≤ 9 by omega), if_neg (show ¬ v ≤ 99 by omega), if_pos hv'] at hd hcl
    have hn' : n = 6 := by rw [hn, ← hcl]; rfl
    have z1 : v / 10 / 10 / 10 = 0 := by omega
    rw [hd, hn', z1]
    rcases hz with rfl | ⟨rfl, _⟩ <;> rfl
  · rw [if_neg (show ¬ v ≤ 9 by omega), if_neg (show ¬ v ≤ 99 by omega), if_neg (show ¬ v ≤ 999 by omega)] at hd hcl
    have hn' : n = 7 := by rw [hn, ← hcl]; rfl
    rw [hd, hn']
    rcases hz with rfl | ⟨rfl, h⟩
    · rfl
    · omega

theorem fig_end {v z n : Int} {a b c d e r o : Str} (h0 : 0 ≤ v) (h1 : v ≤ 9999) (hz : z = 4 ∨ (z = 3 ∧ v ≤ 999))
    (ho : cs o = (cs r).reverse) (hr : cs r = cs e) (hs : (cs e).Pairwise (· ≤ ·)) (hp : (cs e).Perm (cs d))
    (hd : cs d = (cs c).drop (if 0 > n - z then 0 else n - z).toNat) (hn : n = (c.length : Int)) (hc : cs c = cs (Str.ofString "000") ++ cs b) (hb : cs b = (cs a).drop (Int.toNat 1)) (ha : cs a = cs (Str.ofString " ") ++ cs (figT v)) :
    (cs o).Perm (pad v z) ∧ (cs o).Pairwise (· ≥ ·) := by
  rw [ho, hr]
  refine ⟨(List.reverse_perm _).trans (hp.trans (pad_end h0 h1 hz hd hn hc hb ha ▸ List.Perm.refl _)), ?_⟩
  rw [List.pairwise_reverse]
  exact hs
end Mine

namespace Mine
theorem figT_len (v : Int) : 1 ≤ (figT v).length ∧ (figT v).length ≤ 4 := by
  unfold figT
  split
  · exact ⟨by show (1:Nat) ≤ 1; decide, by show (1:Nat) ≤ 4; decide⟩
  split
  · rw [Str.length_append]; exact ⟨by show 1 ≤ 1 + 1; decide, by show 1 + 1 ≤ 4; decide⟩
  split
  · rw [Str.length_append, Str.length_append]; exact ⟨by show 1 ≤ 1 + (1 + 1); decide, by show 1 + (1 + 1) ≤ 4; decide⟩
  · rw [Str.length_append, Str.length_append, Str.length_append]; exact ⟨by show 1 ≤ 1 + (1 + (1 + 1)); decide, by show 1 + (1 + (1 + 1)) ≤ 4; decide⟩
theorem abs_nn {v : Int} (h : 0 ≤ v) : (if v < 0 then -v else v) = v := if_neg (by omega)
theorem quot9 {v : Int} (h : 0 ≤ v) : (if v < 0 then -v else v).fdiv (if (9 : Int) < 0 then -9 else 9) = v / 9 := by
  rw [if_neg (by omega), if_neg (by decide)]
  exact Int.fdiv_eq_ediv_of_nonneg _ (by decide)
theorem quot_sign {v : Int} (h : 0 ≤ v) (e : (decide (v < 0) == decide ((9 : Int) < 0)) = false) : False := by
  rw [decide_eq_false (show ¬ v < 0 by omega), decide_eq_false (show ¬ (9 : Int) < 0 by decide)] at e
  cases e
def numZ (l : List Int) : Int := l.foldl (fun f c => f * 10 + (c - 48)) 0
theorem numZ_snoc (l : List Int) (c : Int) : numZ (l ++ [c]) = numZ l * 10 + (c - 48) := by
  unfold numZ; rw [List.foldl_append]; rfl

/-- a text of at most four figures -/
def Figs (x : Str) : Prop := x.length ≤ 4 ∧ ∀ c ∈ KStt.codes x, 48 ≤ c ∧ c ≤ 57
theorem numZ_bnd : ∀ (l : List Int), (∀ c ∈ l, 48 ≤ c ∧ c ≤ 57) → ∀ f : Int, 0 ≤ f → 0 ≤ l.foldl (fun f c => f * 10 + (c - 48)) f ∧ l.foldl (fun f c => f * 10 + (c - 48)) f < (f + 1) * 10 ^ l.length
  | [], _, f, h => by simp; omega
  | c :: l, hl, f, h => by
    have hc := hl c (.head _)
    have ih := numZ_bnd l (fun d hd => hl d (.tail _ hd)) (f * 10 + (c - 48)) (by omega)
    rw [List.foldl_cons]
    refine ⟨ih.1, Int.lt_of_lt_of_le ih.2 ?_⟩
    have hp : (0 : Int) ≤ 10 ^ l.length := Int.le_of_lt (Int.pow_pos (by decide))
    rw [List.length_cons, Int.pow_succ]
    have h2 : (f * 10 + (c - 48) + 1) ≤ (f + 1) * 10 := by omega
    calc (f * 10 + (c - 48) + 1) * 10 ^ l.length ≤ ((f + 1) * 10) * 10 ^ l.length := Int.mul_le_mul_of_nonneg_right h2 hp
      _ = (f + 1) * (10 ^ l.length * 10) := by rw [Int.mul_assoc, Int.mul_comm 10]
theorem num_turn {x : Str} (hx : Figs x) {pre post : List Int} {n : Nat} (e : KStt.codes x = pre ++ (n : Int) :: post) : 0 ≤ numZ pre ∧ numZ pre ≤ 999 ∧ 48 ≤ n ∧ n ≤ 57 := by
  have hl : (KStt.codes x).length = x.length := KStt.codes_length x
  rw [e, List.length_append, List.length_cons] at hl
  have h4 := hx.1
  have hb := numZ_bnd pre (fun c hc => hx.2 c (by rw [e]; exact List.mem_append_left _ hc)) 0 (by decide)
  have hn := hx.2 (n : Int) (by rw [e]; exact List.mem_append_right _ (.head _))
  have hp : (10 : Int) ^ pre.length ≤ 10 ^ 3 := by
    have : (10 : Nat) ^ pre.length ≤ 10 ^ 3 := Nat.pow_le_pow_right (by decide) (by omega)
    exact_mod_cast this
  refine ⟨hb.1, ?_, by omega, by omega⟩
  have := hb.2
  show List.foldl _ 0 pre ≤ 999
  have e3 : (10 : Int) ^ 3 = 1000 := by decide
  rw [e3] at hp
  omega
end Mine

namespace Mine

theorem cd_bnd (k : Int) : 48 ≤ cd k ∧ cd k ≤ 57 := by
  unfold cd
  have h1 := Int.fmod_nonneg_of_pos k (show (0 : Int) < 10 by decide)
  have h2 := Int.fmod_lt_of_pos k (show (0 : Int) < 10 by decide)
  omega
theorem pad_bnd {v z : Int} : ∀ c ∈ pad v z, 48 ≤ c ∧ c ≤ 57 := by
  intro c hc
  unfold pad at hc
  split at hc
  · simp only [List.mem_cons, List.not_mem_nil, or_false] at hc
    rcases hc with rfl | rfl | rfl | rfl <;> exact cd_bnd _
  · simp only [List.mem_cons, List.not_mem_nil, or_false] at hc
    rcases hc with rfl | rfl | rfl <;> exact cd_bnd _

theorem mk_of {x : Str} {l : List Nat} (h : cs x = l) : x = ⟨l.toArray⟩ := cs_ext (by rw [h])
theorem four {x : Str} {v : Int} (hp : (cs x).Perm (pad v 4)) (hs : (cs x).Pairwise (· ≥ ·)) :
    ∃ a b c d : Nat, x = ⟨#[a, b, c, d]⟩ ∧ [a, b, c, d].Perm (pad v 4) ∧ b ≤ a ∧ c ≤ b ∧ d ≤ c ∧ 48 ≤ d ∧ a ≤ 57 := by
  have hl : (cs x).length = 4 := hp.length_eq
  have hb : ∀ n ∈ cs x, 48 ≤ n ∧ n ≤ 57 := fun n hn => pad_bnd n (hp.mem_iff.mp hn)
  match e : cs x, hl with
  | [a, b, c, d], _ =>
    rw [e] at hp hs hb
    simp only [List.pairwise_cons, List.mem_cons, List.not_mem_nil, or_false, forall_eq_or_imp, forall_eq, ge_iff_le] at hs hb
    exact ⟨a, b, c, d, mk_of e, hp, hs.1.1, hs.2.1.1, hs.2.2.1, hb.2.2.2.1, hb.1.2⟩
theorem three {x : Str} {v : Int} (hp : (cs x).Perm (pad v 3)) (hs : (cs x).Pairwise (· ≥ ·)) :
    ∃ a b c : Nat, x = ⟨#[a, b, c]⟩ ∧ [a, b, c].Perm (pad v 3) ∧ b ≤ a ∧ c ≤ b ∧ 48 ≤ c ∧ a ≤ 57 := by
  have hl : (cs x).length = 3 := hp.length_eq
  have hb : ∀ n ∈ cs x, 48 ≤ n ∧ n ≤ 57 := fun n hn => pad_bnd n (hp.mem_iff.mp hn)
  match e : cs x, hl with
  | [a, b, c], _ =>
    rw [e] at hp hs hb
    simp only [List.pairwise_cons, List.mem_cons, List.not_mem_nil, or_false, forall_eq_or_imp, forall_eq, ge_iff_le] at hs hb
    exact ⟨a, b, c, mk_of e, hp, hs.1.1, hs.2.1, hb.2.2.1, hb.1.2⟩

theorem figs4 {a b c d : Nat} (ha : 48 ≤ a ∧ a ≤ 57) (hb : 48 ≤ b ∧ b ≤ 57) (hc : 48 ≤ c ∧ c ≤ 57) (hd : 48 ≤ d ∧ d ≤ 57) : Figs ⟨#[a, b, c, d]⟩ := by
  refine ⟨Nat.le_refl 4, fun k hk => ?_⟩
  have : k ∈ [(a : Int), b, c, d] := hk
  simp only [List.mem_cons, List.not_mem_nil, or_false] at this
  rcases this with rfl | rfl | rfl | rfl <;> omega
theorem figs3 {a b c : Nat} (ha : 48 ≤ a ∧ a ≤ 57) (hb : 48 ≤ b ∧ b ≤ 57) (hc : 48 ≤ c ∧ c ≤ 57) : Figs ⟨#[a, b, c]⟩ := by
  refine ⟨by show 3 ≤ 4; decide, fun k hk => ?_⟩
  have : k ∈ [(a : Int), b, c] := hk
  simp only [List.mem_cons, List.not_mem_nil, or_false] at this
  rcases this with rfl | rfl | rfl <;> omega
theorem num4 (a b c d : Nat) : numZ (KStt.codes ⟨#[a, b, c, d]⟩) = 1000 * ((a : Int) - 48) + 100 * ((b : Int) - 48) + 10 * ((c : Int) - 48) + ((d : Int) - 48) := by
  show numZ [(a : Int), b, c, d] = _
  unfold numZ
  simp only [List.foldl_cons, List.foldl_nil]
  omega
theorem num3 (a b c : Nat) : numZ (KStt.codes ⟨#[a, b, c]⟩) = 100 * ((a : Int) - 48) + 10 * ((b : Int) - 48) + ((c : Int) - 48) := by
  show numZ [(a : Int), b, c] = _
  unfold numZ
  simp only [List.foldl_cons, List.foldl_nil]
  omega
theorem rev4 {x : Str} {a b c d : Nat} (h : cs x = (cs ⟨#[a, b, c, d]⟩).reverse) : x = ⟨#[d, c, b, a]⟩ := mk_of h
theorem rev3 {x : Str} {a b c : Nat} (h : cs x = (cs ⟨#[a, b, c]⟩).reverse) : x = ⟨#[c, b, a]⟩ := mk_of h
end Mine

namespace Mine
open PySem.Builtin PySem.Builtin.Str PyProof
def pk4 (a b c d : Nat) (i : Int) : Nat := if i = 0 then a else if i = 1 then b else if i = 2 then c else d
def pk3 (a b c : Nat) (i : Int) : Nat := if i = 0 then a else if i = 1 then b else c
section
variable {prog : Program} {w : World} {A : Around} {E : Value → Shared → Prop} {s : Shared} {x y : Str} {t u : Tok} {Q : Value → Shared → Prop}
theorem fits_small {i : Int} (h0 : 0 ≤ i) (h1 : i < 4) : fitsSsize i = true := fitsSsize_of (N := 9223372036854775808) (by omega) (by omega) (Int.le_refl _)
theorem r_item4 {value slice : PySem.Expr} {i : Int} {a b c d : Nat} (h0 : 0 ≤ i) (h1 : i < 4)
    (h : ∀ t' k, Q (.str ⟨#[pk4 a b c d i]⟩ t') { s with toks := k })
    (hs : subscripted slice false (.str ⟨#[a, b, c, d]⟩ t) (.int i u) = operate [.str ⟨#[a, b, c, d]⟩ t, .int i u] (getItem (.str ⟨#[a, b, c, d]⟩ t) (.int i u)) := by with_unfolding_all rfl)
    (ht : ∀ r, letTemporaryGo value (.str ⟨#[a, b, c, d]⟩ t) r = pure () := by intro _; with_unfolding_all rfl) :
    wpAny (model prog w) A (subscriptTail value slice (.str ⟨#[a, b, c, d]⟩ t) (.int i u)) Q E s := by
  refine item_str (fits_small h0 h1) (by show -(4 : Int) ≤ i; omega) (by show i < (4 : Int); omega) (fun _ => ?_) hs ht
  have e : Txt.item ⟨#[a, b, c, d]⟩ i = ⟨#[pk4 a b c d i]⟩ := by
    rcases (by omega : i = 0 ∨ i = 1 ∨ i = 2 ∨ i = 3) with rfl | rfl | rfl | rfl <;> rfl
  rw [e]
  exact h _ _
theorem r_item3 {value slice : PySem.Expr} {i : Int} {a b c : Nat} (h0 : 0 ≤ i) (h1 : i < 3)
    (h : ∀ t' k, Q (.str ⟨#[pk3 a b c i]⟩ t') { s with toks := k })
    (hs : subscripted slice false (.str ⟨#[a, b, c]⟩ t) (.int i u) = operate [.str ⟨#[a, b, c]⟩ t, .int i u] (getItem (.str ⟨#[a, b, c]⟩ t) (.int i u)) := by with_unfolding_all rfl)
    (ht : ∀ r, letTemporaryGo value (.str ⟨#[a, b, c]⟩ t) r = pure () := by intro _; with_unfolding_all rfl) :
    wpAny (model prog w) A (subscriptTail value slice (.str ⟨#[a, b, c]⟩ t) (.int i u)) Q E s := by
  refine item_str (fits_small h0 (by omega)) (by show -(3 : Int) ≤ i; omega) (by show i < (3 : Int); omega) (fun _ => ?_) hs ht
  have e : Txt.item ⟨#[a, b, c]⟩ i = ⟨#[pk3 a b c i]⟩ := by
    rcases (by omega : i = 0 ∨ i = 1 ∨ i = 2) with rfl | rfl | rfl <;> rfl
  rw [e]
  exact h _ _
end
end Mine

namespace Mine
theorem sum4 (a b c d : Nat) : 1000 * ((a : Int) - 48) + 100 * ((b : Int) - 48) + 10 * ((c : Int) - 48) + ((d : Int) - 48) - (1000 * ((d : Int) - 48) + 100 * ((c : Int) - 48) + 10 * ((b : Int) - 48) + ((a : Int) - 48)) = 999 * ((a : Int) - d) + 90 * ((b : Int) - c) := by omega
theorem bad_mod4 {a b c d : Nat} (e : 1000 * ((a : Int) - 48) + 100 * ((b : Int) - 48) + 10 * ((c : Int) - 48) + ((d : Int) - 48) - (1000 * ((d : Int) - 48) + 100 * ((c : Int) - 48) + 10 * ((b : Int) - 48) + ((a : Int) - 48)) - 9 * ((1000 * ((a : Int) - 48) + 100 * ((b : Int) - 48) + 10 * ((c : Int) - 48) + ((d : Int) - 48) - (1000 * ((d : Int) - 48) + 100 * ((c : Int) - 48) + 10 * ((b : Int) - 48) + ((a : Int) - 48))) / 9) ≠ 0) : False := by
  rw [sum4] at e
  omega
theorem bad_due4 {a b c d : Nat} (e : 1000 * ((a : Int) - 48) + 100 * ((b : Int) - 48) + 10 * ((c : Int) - 48) + ((d : Int) - 48) - (1000 * ((d : Int) - 48) + 100 * ((c : Int) - 48) + 10 * ((b : Int) - 48) + ((a : Int) - 48)) ≠
    999 * ((pk4 a b c d (0 + 0) : Int) - (pk4 a b c d (4 - 1 - (0 + 0)) : Int)) + 90 * ((pk4 a b c d (0 + 1) : Int) - (pk4 a b c d (4 - 1 - (0 + 1)) : Int))) : False := e (sum4 a b c d)
theorem ne_all {news : List (Addr × Obj)} {d e : Nat} (l1 : ∀ p ∈ news, p.1 < d) (h : d ≤ e) : ∀ p ∈ news, p.1 ≠ e := fun p hp => Nat.ne_of_lt (Nat.lt_of_lt_of_le (l1 p hp) h)
theorem sum3 (a b c : Nat) : 100 * ((a : Int) - 48) + 10 * ((b : Int) - 48) + ((c : Int) - 48) - (100 * ((c : Int) - 48) + 10 * ((b : Int) - 48) + ((a : Int) - 48)) = 99 * ((a : Int) - c) := by omega
theorem bad_mod3 {a b c : Nat} (e : 100 * ((a : Int) - 48) + 10 * ((b : Int) - 48) + ((c : Int) - 48) - (100 * ((c : Int) - 48) + 10 * ((b : Int) - 48) + ((a : Int) - 48)) - 9 * ((100 * ((a : Int) - 48) + 10 * ((b : Int) - 48) + ((c : Int) - 48) - (100 * ((c : Int) - 48) + 10 * ((b : Int) - 48) + ((a : Int) - 48))) / 9) ≠ 0) : False := by
  rw [sum3] at e
  omega
theorem bad_due3 {a b c : Nat} (e : 100 * ((a : Int) - 48) + 10 * ((b : Int) - 48) + ((c : Int) - 48) - (100 * ((c : Int) - 48) + 10 * ((b : Int) - 48) + ((a : Int) - 48)) ≠
    99 * ((pk3 a b c (0 + 0) : Int) - (pk3 a b c (3 - 1 - (0 + 0)) : Int))) : False := e (sum3 a b c)
end Mine

namespace Mine

def ins (a : Nat) : List Nat → List Nat
  | [] => [a]
  | b :: l => if b ≤ a then a :: b :: l else b :: ins a l
def srt : List Nat → List Nat
  | [] => []
  | a :: l => ins a (srt l)
theorem ins_perm (a : Nat) : ∀ l, (ins a l).Perm (a :: l)
  | [] => .refl _
  | b :: l => by
    unfold ins
    split
    · exact .refl _
    · exact ((ins_perm a l).cons b).trans (.swap a b l)
theorem srt_perm : ∀ l, (srt l).Perm l
  | [] => .refl _
  | a :: l => (ins_perm a (srt l)).trans ((srt_perm l).cons a)
theorem ins_sorted (a : Nat) : ∀ l : List Nat, l.Pairwise (· ≥ ·) → (ins a l).Pairwise (· ≥ ·)
  | [], _ => List.pairwise_singleton _ _
  | b :: l, h => by
    unfold ins
    split
    · rename_i hb
      refine List.pairwise_cons.mpr ⟨fun c hc => ?_, h⟩
      rcases List.mem_cons.mp hc with rfl | hc
      · exact hb
      · exact Nat.le_trans ((List.pairwise_cons.mp h).1 c hc) hb
    · rename_i hb
      refine List.pairwise_cons.mpr ⟨fun c hc => ?_, ins_sorted a l (List.pairwise_cons.mp h).2⟩
      rcases List.mem_cons.mp ((ins_perm a l).mem_iff.mp hc) with rfl | hc
      · show c ≤ b
        omega
      · exact (List.pairwise_cons.mp h).1 c hc
theorem srt_sorted : ∀ l : List Nat, (srt l).Pairwise (· ≥ ·)
  | [] => .nil
  | a :: l => ins_sorted a _ (srt_sorted l)
theorem srt_eq {l k : List Nat} (hp : l.Perm k) (hs : l.Pairwise (· ≥ ·)) : l = srt k :=
  List.Perm.eq_of_pairwise (le := (· ≥ ·)) (fun _ _ _ _ h1 h2 => Nat.le_antisymm h2 h1) hs (srt_sorted k) (hp.trans (srt_perm k).symm)

def nxt4 (v : Int) : Int := match srt (pad v 4) with
  | [a, b, c, d] => 999 * ((a : Int) - d) + 90 * ((b : Int) - c)
  | _ => 0
def nxt3 (v : Int) : Int := match srt (pad v 3) with
  | [a, _, c] => 99 * ((a : Int) - c)
  | _ => 0
theorem nxt4_eq {v : Int} {a b c d : Nat} (hp : [a, b, c, d].Perm (pad v 4)) (h1 : b ≤ a) (h2 : c ≤ b) (h3 : d ≤ c) : 999 * ((a : Int) - d) + 90 * ((b : Int) - c) = nxt4 v ∧ 0 ≤ nxt4 v ∧ nxt4 v ≤ 9999 := by
  have e := srt_eq hp (by simp only [List.pairwise_cons, List.mem_cons, List.not_mem_nil, or_false, forall_eq_or_imp, forall_eq, false_implies, implies_true, List.Pairwise.nil, and_true, ge_iff_le]; omega)
  have hb : ∀ n ∈ [a, b, c, d], 48 ≤ n ∧ n ≤ 57 := fun n hn => pad_bnd n (hp.mem_iff.mp hn)
  have ha := hb a (by simp)
  have hd := hb d (by simp)
  have e2 : nxt4 v = 999 * ((a : Int) - d) + 90 * ((b : Int) - c) := by unfold nxt4; rw [← e]
  rw [e2]
  omega
theorem nxt3_eq {v : Int} {a b c : Nat} (hp : [a, b, c].Perm (pad v 3)) (h1 : b ≤ a) (h2 : c ≤ b) : 99 * ((a : Int) - c) = nxt3 v ∧ 0 ≤ nxt3 v ∧ nxt3 v ≤ 999 := by
  have e := srt_eq hp (by simp only [List.pairwise_cons, List.mem_cons, List.not_mem_nil, or_false, forall_eq_or_imp, forall_eq, false_implies, implies_true, List.Pairwise.nil, and_true, ge_iff_le]; omega)
  have hb : ∀ n ∈ [a, b, c], 48 ≤ n ∧ n ≤ 57 := fun n hn => pad_bnd n (hp.mem_iff.mp hn)
  have ha := hb a (by simp)
  have hd := hb c (by simp)
  have e2 : nxt3 v = 99 * ((a : Int) - c) := by unfold nxt3; rw [← e]
  rw [e2]
  omega

/-- the goal is met in at most k steps -/
def meets (f : Int → Int) (g : Int) : Nat → Int → Bool
  | 0, v => v == g
  | k + 1, v => v == g || meets f g k (f v)

theorem small4 : ∀ p : Fin 10, ∀ q : Fin 10, 1 ≤ p.val → q.val ≤ p.val → meets nxt4 6174 6 (999 * (p.val : Int) + 90 * (q.val : Int)) = true := by decide +kernel
theorem small3 : ∀ p : Fin 10, 1 ≤ p.val → meets nxt3 495 5 (99 * (p.val : Int)) = true := by decide +kernel
theorem stays4 : nxt4 6174 = 6174 := by decide +kernel
theorem stays3 : nxt3 495 = 495 := by decide +kernel

theorem cd_inj {x : Int} : ((cd x : Nat) : Int) = 48 + x.fmod 10 := by
  unfold cd
  have h1 := Int.fmod_nonneg_of_pos x (show (0 : Int) < 10 by decide)
  omega
theorem m10 (k : Int) : k.fmod 10 = k % 10 := Int.fmod_eq_emod_of_nonneg _ (by decide)

theorem law4 {v : Int} (h0 : 0 ≤ v) (h1 : v ≤ 9999) (hv : v % 1111 ≠ 0) : meets nxt4 6174 7 v = true := by
  have hs := srt_sorted (pad v 4)
  have hp := srt_perm (pad v 4)
  have hl : (srt (pad v 4)).length = 4 := hp.length_eq
  match e : srt (pad v 4), hl with
  | [a, b, c, d], _ =>
    rw [e] at hs hp
    simp only [List.pairwise_cons, List.mem_cons, List.not_mem_nil, or_false, forall_eq_or_imp, forall_eq, ge_iff_le] at hs
    have hb : ∀ n ∈ [a, b, c, d], 48 ≤ n ∧ n ≤ 57 := fun n hn => pad_bnd n (hp.mem_iff.mp hn)
    have ha := hb a (by simp)
    have hd := hb d (by simp)
    have e2 := (nxt4_eq hp hs.1.1 hs.2.1.1 hs.2.2.1).1
    have had : a ≠ d := by
      intro had
      have all : ∀ n ∈ pad v 4, n = a := fun n hn => by
        have hn := hp.mem_iff.mpr hn
        simp only [List.mem_cons, List.not_mem_nil, or_false] at hn
        rcases hn with rfl | rfl | rfl | rfl <;> omega
      have e3 := all (cd (((v.fdiv 10).fdiv 10).fdiv 10)) (by unfold pad; rw [if_pos rfl]; simp)
      have e4 := all (cd ((v.fdiv 10).fdiv 10)) (by unfold pad; rw [if_pos rfl]; simp)
      have e5 := all (cd (v.fdiv 10)) (by unfold pad; rw [if_pos rfl]; simp)
      have e6 := all (cd v) (by unfold pad; rw [if_pos rfl]; simp)
      have c3 := cd_inj (x := ((v.fdiv 10).fdiv 10).fdiv 10)
      have c4 := cd_inj (x := (v.fdiv 10).fdiv 10)
      have c5 := cd_inj (x := v.fdiv 10)
      have c6 := cd_inj (x := v)
      simp only [f10, m10] at *
      have q4 : v / 10 / 10 / 10 / 10 = 0 := by omega
      omega
    have h := small4 ⟨a - d, by omega⟩ ⟨b - c, by omega⟩ (by show 1 ≤ a - d; omega) (by show b - c ≤ a - d; omega)
    have e3 : 999 * (((a - d : Nat)) : Int) + 90 * (((b - c : Nat)) : Int) = nxt4 v := by rw [← e2]; omega
    rw [e3] at h
    show (v == 6174 || meets nxt4 6174 6 (nxt4 v)) = true
    rw [h, Bool.or_true]
theorem law3 {v : Int} (h0 : 0 ≤ v) (h1 : v ≤ 999) (hv : v % 111 ≠ 0) : meets nxt3 495 6 v = true := by
  have hs := srt_sorted (pad v 3)
  have hp := srt_perm (pad v 3)
  have hl : (srt (pad v 3)).length = 3 := hp.length_eq
  match e : srt (pad v 3), hl with
  | [a, b, c], _ =>
    rw [e] at hs hp
    simp only [List.pairwise_cons, List.mem_cons, List.not_mem_nil, or_false, forall_eq_or_imp, forall_eq, ge_iff_le] at hs
    have hb : ∀ n ∈ [a, b, c], 48 ≤ n ∧ n ≤ 57 := fun n hn => pad_bnd n (hp.mem_iff.mp hn)
    have ha := hb a (by simp)
    have hd := hb c (by simp)
    have e2 := (nxt3_eq hp hs.1.1 hs.2.1).1
    have had : a ≠ c := by
      intro had
      have all : ∀ n ∈ pad v 3, n = a := fun n hn => by
        have hn := hp.mem_iff.mpr hn
        simp only [List.mem_cons, List.not_mem_nil, or_false] at hn
        rcases hn with rfl | rfl | rfl <;> omega
      have e4 := all (cd ((v.fdiv 10).fdiv 10)) (by unfold pad; rw [if_neg (by decide)]; simp)
      have e5 := all (cd (v.fdiv 10)) (by unfold pad; rw [if_neg (by decide)]; simp)
      have e6 := all (cd v) (by unfold pad; rw [if_neg (by decide)]; simp)
      have c4 := cd_inj (x := (v.fdiv 10).fdiv 10)
      have c5 := cd_inj (x := v.fdiv 10)
      have c6 := cd_inj (x := v)
      simp only [f10, m10] at *
      have q4 : v / 10 / 10 / 10 = 0 := by omega
      omega
    have h := small3 ⟨a - c, by omega⟩ (by show 1 ≤ a - c; omega)
    have e3 : 99 * (((a - c : Nat)) : Int) = nxt3 v := by rw [← e2]; omega
    rw [e3] at h
    show (v == 495 || meets nxt3 495 5 (nxt3 v)) = true
    rw [h, Bool.or_true]
end Mine

namespace Mine
section
variable {prog : Program} {w : World} {A : Around} {E : Value → Shared → Prop} {x : Str} {t : Tok} {Q : Value → Shared → Prop} {h₀ hp : Heap} {L : Addr} {m : Str → Option Value} {news : List (Addr × Obj)} {gs : Array GenState} {dr : Drawn} {tk : Nat} {os : OsState}
theorem r_from2 {value slice : PySem.Expr} {i : Int} {ui : Tok} (F : Fr h₀ L hp m) (N : News h₀ L hp news) (h0 : 0 ≤ i) (hi : i ≤ x.length) (hs : x.length ≤ 1000)
    (h : ∀ z h' t' k, Fr h₀ L h' m → News h₀ L h' news → cs z = (cs x).drop i.toNat → (z.length : Int) = x.length - i → Q (.str z t') { heap := h', gens := gs, drawn := dr, toks := k, os := os })
    (hu : subscripted slice false (.str x t) (.ref hp.objs.size) = operate [.ref hp.objs.size, .str x t] (getItem (.str x t) (.ref hp.objs.size)) := by with_unfolding_all rfl)
    (ht : ∀ r, letTemporaryGo value (.str x t) r = pure () := by intro _; with_unfolding_all rfl) :
    wpAny (model prog w) A (subscriptTail value slice (.str x t) (.ref hp.objs.size)) Q E { heap := hp.push { cls := .type "slice", data := .fields #[.int i ui, .none, .none] }, gens := gs, drawn := dr, toks := tk, os := os } :=
  r_from (s := { heap := hp, gens := gs, drawn := dr, toks := tk, os := os }) F N h0 hi hs h hu ht
theorem r_rev2 {value slice : PySem.Expr} {uk : Tok} (F : Fr h₀ L hp m) (N : News h₀ L hp news) (hs : x.length ≤ 1000)
    (h : ∀ z h' t' k, Fr h₀ L h' m → News h₀ L h' news → cs z = (cs x).reverse → z.length = x.length → Q (.str z t') { heap := h', gens := gs, drawn := dr, toks := k, os := os })
    (hu : subscripted slice false (.str x t) (.ref hp.objs.size) = operate [.ref hp.objs.size, .str x t] (getItem (.str x t) (.ref hp.objs.size)) := by with_unfolding_all rfl)
    (ht : ∀ r, letTemporaryGo value (.str x t) r = pure () := by intro _; with_unfolding_all rfl) :
    wpAny (model prog w) A (subscriptTail value slice (.str x t) (.ref hp.objs.size)) Q E { heap := hp.push { cls := .type "slice", data := .fields #[.none, .none, .int (-1) uk] }, gens := gs, drawn := dr, toks := tk, os := os } :=
  r_rev (s := { heap := hp, gens := gs, drawn := dr, toks := tk, os := os }) F N hs h hu ht
end
section
variable {prog : Program} {w : World} {A : Around} {E : Value → Shared → Prop} {s : Shared} {t u : Tok} {Q : Value → Shared → Prop}
theorem r_shl (h : ∀ t' k, Q (.int 32768 t') { s with toks := k }) : wpAny (model prog w) A (binaryOp .LShift (.int 1 t) (.int (16 - 1) u)) Q E s :=
  lshift_int_small (by decide) (by decide) (by decide) (h _ _)
end
theorem meets_step {f : Int → Int} {g v n : Int} {k : Nat} (H : meets f g (k + 1) v = true) (e : v ≠ g) (h : n = f v) : meets f g k n = true := by
  subst h
  have H' : (v == g || meets f g k (f v)) = true := H
  rw [beq_false_of_ne e, Bool.false_or] at H'
  exact H'
theorem meets_zero {f : Int → Int} {g v : Int} (H : meets f g 0 v = true) : v = g := beq_iff_eq.mp H
theorem meets_no {f : Int → Int} {g v : Int} {k : Nat} (H : meets f g (k + 1) v = true) (e : v ≠ g) : meets f g k (f v) = true := meets_step H e rfl
theorem comes_step {f : Int → Int} {g v n : Int} {pre : List Int} {k : Int} {m : Nat} (H : meets f g (m - pre.length) v = true) (hl : pre.length < m) (e : v ≠ g) (h : n = f v) : meets f g (m - (pre ++ [k]).length) n = true := by
  have e1 : m - pre.length = (m - (pre ++ [k]).length) + 1 := by rw [List.length_append]; show _ = m - (pre.length + 1) + 1; omega
  rw [e1] at H
  exact meets_step H e h
theorem comes_last {f : Int → Int} {g v : Int} {m : Nat} {l : List Int} (H : meets f g (m - l.length) v = true) (hl : m ≤ l.length) : v = g := by
  rw [Nat.sub_eq_zero_of_le hl] at H
  exact meets_zero H
theorem m9998 (k : Int) : k.fmod 9998 = k % 9998 := Int.fmod_eq_emod_of_nonneg _ (by decide)
theorem m998 (k : Int) : k.fmod 998 = k % 998 := Int.fmod_eq_emod_of_nonneg _ (by decide)
theorem m1111 (k : Int) : k.fmod 1111 = k % 1111 := Int.fmod_eq_emod_of_nonneg _ (by decide)
theorem m111 (k : Int) : k.fmod 111 = k % 111 := Int.fmod_eq_emod_of_nonneg _ (by decide)
theorem draw4 (X : Int) : 0 ≤ 1 + X.fmod 9998 + (if ((1 + X.fmod 9998).fmod 1111 == 0) = true then 1 else 0) ∧ 1 + X.fmod 9998 + (if ((1 + X.fmod 9998).fmod 1111 == 0) = true then 1 else 0) ≤ 9999 ∧
    meets nxt4 6174 7 (1 + X.fmod 9998 + (if ((1 + X.fmod 9998).fmod 1111 == 0) = true then 1 else 0)) = true := by
  rw [m9998, m1111]
  have h0 := Int.emod_nonneg X (show (9998 : Int) ≠ 0 by decide)
  have h1 := Int.emod_lt_of_pos X (show (0 : Int) < 9998 by decide)
  generalize X % 9998 = n at h0 h1
  simp only [beq_iff_eq]
  split
  · exact ⟨by omega, by omega, law4 (by omega) (by omega) (by omega)⟩
  · exact ⟨by omega, by omega, law4 (by omega) (by omega) (by omega)⟩
theorem draw3 (X : Int) : 0 ≤ 1 + X.fmod 998 + (if ((1 + X.fmod 998).fmod 111 == 0) = true then 1 else 0) ∧ 1 + X.fmod 998 + (if ((1 + X.fmod 998).fmod 111 == 0) = true then 1 else 0) ≤ 999 ∧
    meets nxt3 495 6 (1 + X.fmod 998 + (if ((1 + X.fmod 998).fmod 111 == 0) = true then 1 else 0)) = true := by
  rw [m998, m111]
  have h0 := Int.emod_nonneg X (show (998 : Int) ≠ 0 by decide)
  have h1 := Int.emod_lt_of_pos X (show (0 : Int) < 998 by decide)
  generalize X % 998 = n at h0 h1
  simp only [beq_iff_eq]
  split
  · exact ⟨by omega, by omega, law3 (by omega) (by omega) (by omega)⟩
  · exact ⟨by omega, by omega, law3 (by omega) (by omega) (by omega)⟩
end Mine

namespace Mine
def Figs171 (w : World) (K : Params → Frag) (pr : Program) : Prop := ∀ (v : Int) (t : Tok), 0 ≤ v → v ≤ 9999 → Cl w K pr 10 171 [.int v t] (fun r => ∃ t, r = .str (figT v) t)
theorem Figs171.at {w : World} {K : Params → Frag} {pr : Program} (C : Figs171 w K pr) (v : Int) (t : Tok) (g0 : 0 ≤ v) (g1 : v ≤ 9999) : Cl w K pr 10 171 [.int v t] (fun r => ∃ t, r = .str (figT v) t) := C v t g0 g1
def Whole234 (w : World) (K : Params → Frag) (pr : Program) : Prop := ∀ (v : Int) (t : Tok), Cl w K pr 5 234 [.int v t] (fun r => r = .bool true)
theorem Whole234.at {w : World} {K : Params → Frag} {pr : Program} (C : Whole234 w K pr) (v : Int) (t : Tok)  : Cl w K pr 5 234 [.int v t] (fun r => r = .bool true) := C v t 
def Fits72 (w : World) (K : Params → Frag) (pr : Program) : Prop := ∀ (v : Int) (t u : Tok), -32768 ≤ v → v < 32768 → Cl w K pr 5 72 [.int v t, .int 16 u] (fun r => r = .bool true)
theorem Fits72.at {w : World} {K : Params → Frag} {pr : Program} (C : Fits72 w K pr) (v : Int) (t u : Tok) (g0 : -32768 ≤ v) (g1 : v < 32768) : Cl w K pr 5 72 [.int v t, .int 16 u] (fun r => r = .bool true) := C v t u g0 g1
def Times290 (w : World) (K : Params → Frag) (pr : Program) : Prop := ∀ (v : Int) (o t u p q : Tok), 0 ≤ v → v ≤ 999 → Cl w K pr 15 290 [.str (Str.ofString "*") o, .int v t, .int 10 u, .int 16 p, .int 9 q] (fun r => ∃ t, r = .int (v * 10) t)
theorem Times290.at {w : World} {K : Params → Frag} {pr : Program} (C : Times290 w K pr) (v : Int) (o t u p q : Tok) (g0 : 0 ≤ v) (g1 : v ≤ 999) : Cl w K pr 15 290 [.str (Str.ofString "*") o, .int v t, .int 10 u, .int 16 p, .int 9 q] (fun r => ∃ t, r = .int (v * 10) t) := C v o t u p q g0 g1
def Plus290 (w : World) (K : Params → Frag) (pr : Program) : Prop := ∀ (v c : Int) (o t u p q : Tok), 0 ≤ v → v ≤ 9990 → 0 ≤ c → c ≤ 9 → Cl w K pr 15 290 [.str (Str.ofString "+") o, .int v t, .int c u, .int 16 p, .int 9 q] (fun r => ∃ t, r = .int (v + c) t)
theorem Plus290.at {w : World} {K : Params → Frag} {pr : Program} (C : Plus290 w K pr) (v c : Int) (o t u p q : Tok) (g0 : 0 ≤ v) (g1 : v ≤ 9990) (g2 : 0 ≤ c) (g3 : c ≤ 9) : Cl w K pr 15 290 [.str (Str.ofString "+") o, .int v t, .int c u, .int 16 p, .int 9 q] (fun r => ∃ t, r = .int (v + c) t) := C v c o t u p q g0 g1 g2 g3
def Less290 (w : World) (K : Params → Frag) (pr : Program) : Prop := ∀ (v c : Int) (o t u p q : Tok), 0 ≤ v → v ≤ 9999 → 0 ≤ c → c ≤ 9999 → Cl w K pr 15 290 [.str (Str.ofString "-") o, .int v t, .int c u, .int 16 p, .int 9 q] (fun r => ∃ t, r = .int (v - c) t)
theorem Less290.at {w : World} {K : Params → Frag} {pr : Program} (C : Less290 w K pr) (v c : Int) (o t u p q : Tok) (g0 : 0 ≤ v) (g1 : v ≤ 9999) (g2 : 0 ≤ c) (g3 : c ≤ 9999) : Cl w K pr 15 290 [.str (Str.ofString "-") o, .int v t, .int c u, .int 16 p, .int 9 q] (fun r => ∃ t, r = .int (v - c) t) := C v c o t u p q g0 g1 g2 g3
def WholeOf79 (w : World) (K : Params → Frag) (pr : Program) : Prop := ∀ (v : Int) (t u : Tok), 0 ≤ v → v ≤ 9999 → Cl w K pr 10 79 [.int v t, .int 16 u] (fun r => ∃ t, r = .int v t)
theorem WholeOf79.at {w : World} {K : Params → Frag} {pr : Program} (C : WholeOf79 w K pr) (v : Int) (t u : Tok) (g0 : 0 ≤ v) (g1 : v ≤ 9999) : Cl w K pr 10 79 [.int v t, .int 16 u] (fun r => ∃ t, r = .int v t) := C v t u g0 g1
def Quot255 (w : World) (K : Params → Frag) (pr : Program) : Prop := ∀ (v : Int) (t u : Tok), 0 ≤ v → v ≤ 9999 → Cl w K pr 10 255 [.int v t, .int 9 u] (fun r => ∃ t, r = .int (v / 9) t)
theorem Quot255.at {w : World} {K : Params → Frag} {pr : Program} (C : Quot255 w K pr) (v : Int) (t u : Tok) (g0 : 0 ≤ v) (g1 : v ≤ 9999) : Cl w K pr 10 255 [.int v t, .int 9 u] (fun r => ∃ t, r = .int (v / 9) t) := C v t u g0 g1
def Rest262 (w : World) (K : Params → Frag) (pr : Program) : Prop := ∀ (v : Int) (t u : Tok), 0 ≤ v → v ≤ 9999 → Cl w K pr 12 262 [.int v t, .int 9 u] (fun r => ∃ t, r = .int (v - 9 * (v / 9)) t)
theorem Rest262.at {w : World} {K : Params → Frag} {pr : Program} (C : Rest262 w K pr) (v : Int) (t u : Tok) (g0 : 0 ≤ v) (g1 : v ≤ 9999) : Cl w K pr 12 262 [.int v t, .int 9 u] (fun r => ∃ t, r = .int (v - 9 * (v / 9)) t) := C v t u g0 g1
def Mod290 (w : World) (K : Params → Frag) (pr : Program) : Prop := ∀ (v : Int) (o t u p q : Tok), 0 ≤ v → v ≤ 9999 → Cl w K pr 15 290 [.str (Str.ofString "MOD") o, .int v t, .int 9 u, .int 16 p, .int 9 q] (fun r => ∃ t, r = .int (v - 9 * (v / 9)) t)
theorem Mod290.at {w : World} {K : Params → Frag} {pr : Program} (C : Mod290 w K pr) (v : Int) (o t u p q : Tok) (g0 : 0 ≤ v) (g1 : v ≤ 9999) : Cl w K pr 15 290 [.str (Str.ofString "MOD") o, .int v t, .int 9 u, .int 16 p, .int 9 q] (fun r => ∃ t, r = .int (v - 9 * (v / 9)) t) := C v o t u p q g0 g1
def Number311 (w : World) (K : Params → Frag) (pr : Program) : Prop := ∀ (x : Str) (t : Tok), Figs x → Cl w K pr 25 311 [.str x t] (fun r => ∃ t, r = .int (numZ (KStt.codes x)) t)
theorem Number311.at {w : World} {K : Params → Frag} {pr : Program} (C : Number311 w K pr) (x : Str) (t : Tok) (g0 : Figs x) : Cl w K pr 25 311 [.str x t] (fun r => ∃ t, r = .int (numZ (KStt.codes x)) t) := C x t g0
def TextOf93 (w : World) (K : Params → Frag) (pr : Program) : Prop := ∀ (x : Str) (t : Tok), Cl w K pr 5 93 [.str x t] (fun r => ∃ t, r = .str x t)
theorem TextOf93.at {w : World} {K : Params → Frag} {pr : Program} (C : TextOf93 w K pr) (x : Str) (t : Tok)  : Cl w K pr 5 93 [.str x t] (fun r => ∃ t, r = .str x t) := C x t 
def Told206 (w : World) (K : Params → Frag) (pr : Program) : Prop := ∀ (z : Int) (t : Tok), 0 ≤ z → z ≤ 255 → Cl w K pr 5 206 [.int z t] (fun r => ∃ t, r = .int z t)
theorem Told206.at {w : World} {K : Params → Frag} {pr : Program} (C : Told206 w K pr) (z : Int) (t : Tok) (g0 : 0 ≤ z) (g1 : z ≤ 255) : Cl w K pr 5 206 [.int z t] (fun r => ∃ t, r = .int z t) := C z t g0 g1
def Joined227 (w : World) (K : Params → Frag) (pr : Program) : Prop := ∀ (x y : Str) (t u : Tok), x.length + y.length ≤ 200 → Cl w K pr 12 227 [.str x t, .str y u] (fun r => ∃ z t, r = .str z t ∧ Mine.cs z = Mine.cs x ++ Mine.cs y ∧ z.length = x.length + y.length)
theorem Joined227.at {w : World} {K : Params → Frag} {pr : Program} (C : Joined227 w K pr) (x y : Str) (t u : Tok) (g0 : x.length + y.length ≤ 200) : Cl w K pr 12 227 [.str x t, .str y u] (fun r => ∃ z t, r = .str z t ∧ Mine.cs z = Mine.cs x ++ Mine.cs y ∧ z.length = x.length + y.length) := C x y t u g0
def NumText213 (w : World) (K : Params → Frag) (pr : Program) : Prop := ∀ (v : Int) (t u : Tok), 0 ≤ v → v ≤ 9999 → Cl w K pr 15 213 [.int v t, .int 9 u] (fun r => ∃ z t, r = .str z t ∧ Mine.cs z = Mine.cs (Str.ofString " ") ++ Mine.cs (figT v) ∧ z.length = (Str.ofString " ").length + (figT v).length)
theorem NumText213.at {w : World} {K : Params → Frag} {pr : Program} (C : NumText213 w K pr) (v : Int) (t u : Tok) (g0 : 0 ≤ v) (g1 : v ≤ 9999) : Cl w K pr 15 213 [.int v t, .int 9 u] (fun r => ∃ z t, r = .str z t ∧ Mine.cs z = Mine.cs (Str.ofString " ") ++ Mine.cs (figT v) ∧ z.length = (Str.ofString " ").length + (figT v).length) := C v t u g0 g1
def Figures304 (w : World) (K : Params → Frag) (pr : Program) : Prop := ∀ (v z : Int) (t u : Tok), 0 ≤ v → v ≤ 9999 → (z = 4 ∨ (z = 3 ∧ v ≤ 999)) → Cl w K pr 20 304 [.int v t, .int z u] (fun r => ∃ x t, r = .str x t ∧ (Mine.cs x).Perm (pad v z) ∧ (Mine.cs x).Pairwise (· ≥ ·))
theorem Figures304.at {w : World} {K : Params → Frag} {pr : Program} (C : Figures304 w K pr) (v z : Int) (t u : Tok) (g0 : 0 ≤ v) (g1 : v ≤ 9999) (g2 : (z = 4 ∨ (z = 3 ∧ v ≤ 999))) : Cl w K pr 20 304 [.int v t, .int z u] (fun r => ∃ x t, r = .str x t ∧ (Mine.cs x).Perm (pad v z) ∧ (Mine.cs x).Pairwise (· ≥ ·)) := C v z t u g0 g1 g2
def Raw4 (w : World) (K : Params → Frag) (pr : Program) : Prop := ∀ (v : Int) (t u : Tok), 0 ≤ v → v ≤ 9999 → Cl w K pr 35 316 [.int v t, .int 4 u] (fun r => ∃ (a b c d : Nat) (t : Tok), r = .int (999 * ((a : Int) - d) + 90 * ((b : Int) - c)) t ∧ [a, b, c, d].Perm (pad v 4) ∧ b ≤ a ∧ c ≤ b ∧ d ≤ c)
theorem Raw4.at {w : World} {K : Params → Frag} {pr : Program} (C : Raw4 w K pr) (v : Int) (t u : Tok) (g0 : 0 ≤ v) (g1 : v ≤ 9999) : Cl w K pr 35 316 [.int v t, .int 4 u] (fun r => ∃ (a b c d : Nat) (t : Tok), r = .int (999 * ((a : Int) - d) + 90 * ((b : Int) - c)) t ∧ [a, b, c, d].Perm (pad v 4) ∧ b ≤ a ∧ c ≤ b ∧ d ≤ c) := C v t u g0 g1
def Raw3 (w : World) (K : Params → Frag) (pr : Program) : Prop := ∀ (v : Int) (t u : Tok), 0 ≤ v → v ≤ 999 → Cl w K pr 35 316 [.int v t, .int 3 u] (fun r => ∃ (a b c : Nat) (t : Tok), r = .int (99 * ((a : Int) - c)) t ∧ [a, b, c].Perm (pad v 3) ∧ b ≤ a ∧ c ≤ b)
theorem Raw3.at {w : World} {K : Params → Frag} {pr : Program} (C : Raw3 w K pr) (v : Int) (t u : Tok) (g0 : 0 ≤ v) (g1 : v ≤ 999) : Cl w K pr 35 316 [.int v t, .int 3 u] (fun r => ∃ (a b c : Nat) (t : Tok), r = .int (99 * ((a : Int) - c)) t ∧ [a, b, c].Perm (pad v 3) ∧ b ≤ a ∧ c ≤ b) := C v t u g0 g1
def Next4 (w : World) (K : Params → Frag) (pr : Program) : Prop := ∀ (v : Int) (t u : Tok), 0 ≤ v → v ≤ 9999 → Cl w K pr 35 316 [.int v t, .int 4 u] (fun r => ∃ n t, r = .int n t ∧ n = nxt4 v ∧ 0 ≤ n ∧ n ≤ 9999)
theorem Next4.at {w : World} {K : Params → Frag} {pr : Program} (C : Next4 w K pr) (v : Int) (t u : Tok) (g0 : 0 ≤ v) (g1 : v ≤ 9999) : Cl w K pr 35 316 [.int v t, .int 4 u] (fun r => ∃ n t, r = .int n t ∧ n = nxt4 v ∧ 0 ≤ n ∧ n ≤ 9999) := C v t u g0 g1
def Next3 (w : World) (K : Params → Frag) (pr : Program) : Prop := ∀ (v : Int) (t u : Tok), 0 ≤ v → v ≤ 999 → Cl w K pr 35 316 [.int v t, .int 3 u] (fun r => ∃ n t, r = .int n t ∧ n = nxt3 v ∧ 0 ≤ n ∧ n ≤ 999)
theorem Next3.at {w : World} {K : Params → Frag} {pr : Program} (C : Next3 w K pr) (v : Int) (t u : Tok) (g0 : 0 ≤ v) (g1 : v ≤ 999) : Cl w K pr 35 316 [.int v t, .int 3 u] (fun r => ∃ n t, r = .int n t ∧ n = nxt3 v ∧ 0 ≤ n ∧ n ≤ 999) := C v t u g0 g1
def Comes4 (w : World) (K : Params → Frag) (pr : Program) : Prop := ∀ (v z : Int) (t u p q : Tok), 0 ≤ v → v ≤ 9999 → meets nxt4 6174 7 v = true → z = 7 → Cl w K pr 45 323 [.int v t, .int 4 u, .int 6174 p, .int z q] (fun r => r = .bool true)
theorem Comes4.at {w : World} {K : Params → Frag} {pr : Program} (C : Comes4 w K pr) (v z : Int) (t u p q : Tok) (g0 : 0 ≤ v) (g1 : v ≤ 9999) (g2 : meets nxt4 6174 7 v = true) (g3 : z = 7) : Cl w K pr 45 323 [.int v t, .int 4 u, .int 6174 p, .int z q] (fun r => r = .bool true) := C v z t u p q g0 g1 g2 g3
def Comes3 (w : World) (K : Params → Frag) (pr : Program) : Prop := ∀ (v z : Int) (t u p q : Tok), 0 ≤ v → v ≤ 999 → meets nxt3 495 6 v = true → z = 6 → Cl w K pr 45 323 [.int v t, .int 3 u, .int 495 p, .int z q] (fun r => r = .bool true)
theorem Comes3.at {w : World} {K : Params → Frag} {pr : Program} (C : Comes3 w K pr) (v z : Int) (t u p q : Tok) (g0 : 0 ≤ v) (g1 : v ≤ 999) (g2 : meets nxt3 495 6 v = true) (g3 : z = 6) : Cl w K pr 45 323 [.int v t, .int 3 u, .int 495 p, .int z q] (fun r => r = .bool true) := C v z t u p q g0 g1 g2 g3
end Mine

namespace Mine
-- names that the head's maker would give to its largest helper theorems: taken, so that it goes on without these (the compiled file's lid)
def main.tw615813265759865734 : Unit := ()
def main.tw418385165871502715 : Unit := ()
def main.tw7991365701116552721 : Unit := ()
def main.tw2167601570988920834 : Unit := ()
def main.tw748011227583169745 : Unit := ()
def main.tw3890979946229291994 : Unit := ()
def main.tw11156056980113079860 : Unit := ()
def main.tw16826212616301561204 : Unit := ()
def main.tw4820350779013001298 : Unit := ()
local macro_rules | `(tactic| walk_at "call ref") => `(tactic| (k_here; k_dflt ((refine wpAny_call ?_); (refine' code_def ?k1 ?k2 ?k3 ?k4 ?k5 ?kA ?kF ?kK ?k6 ?k7 ?k8 ?k9 ?kB ?_ ?c2 ?c3 ?c4 ?c5); (case kA => exact rfl); (case kF => exact rfl); (case kK => first | exact rfl | assumption); (case k1 => k_asm); (case k2 => k_asm); (case k3 => k_asm); (case k4 => k_asm); (case k5 => k_asm); (case k6 => k_is); (case k7 => k_is); (case k8 => ktr_room); (case k9 => exact BindsTo.of_eq rfl); (case c5 => decide); (case kB => exact locs rfl); (case c2 => exact rfl); (case c3 => exact rfl); (case c4 => exact rfl); k_whole; intro g' L' h' FG' F' N' B' X' T'; (try dsimp only); (try k_lift B'); (try k_fold))))
local macro_rules | `(tactic| walk_at "call ref") => `(tactic| (k_here; (with_reducible show wpAny _ _ (call (Value.ref 171) _) _ _ _); k_dflt (refine' Cl.use (Figs171.at ?c9 _ _ ?g0 ?g1) ?k1 ?k2 ?k3 ?k4 ?k5 ?kK ?kd ?ku ?_; (case c9 => assumption); (case k1 => k_asm); (case k2 => k_asm); (case k3 => k_asm); (case k4 => k_asm); (case k5 => k_asm); (case kK => first | exact rfl | assumption); (case g0 => omega); (case g1 => omega); (case kd => ktr_room); (case ku => ktr_units)); intro v9 hv9 h9 tk9 F9 N9; obtain ⟨t9, hE9⟩ := hv9; subst hE9; (try rw [abs_nn (by omega)]); (try dsimp only); (try k_sweep); (try k_fold)))
local macro_rules | `(tactic| walk_at "call ref") => `(tactic| (k_here; (with_reducible show wpAny _ _ (call (Value.ref 234) _) _ _ _); k_dflt (refine' Cl.use (Whole234.at ?c9 _ _) ?k1 ?k2 ?k3 ?k4 ?k5 ?kK ?kd ?ku ?_; (case c9 => assumption); (case k1 => k_asm); (case k2 => k_asm); (case k3 => k_asm); (case k4 => k_asm); (case k5 => k_asm); (case kK => first | exact rfl | assumption); (case kd => ktr_room); (case ku => ktr_units)); intro v9 hv9 h9 tk9 F9 N9; have hE9 := hv9; subst hE9; (try dsimp only); (try k_sweep); (try k_fold)))
local macro_rules | `(tactic| walk_at "call ref") => `(tactic| (k_here; (with_reducible show wpAny _ _ (call (Value.ref 72) _) _ _ _); k_dflt (refine' Cl.use (Fits72.at ?c9 _ _ _ ?g0 ?g1) ?k1 ?k2 ?k3 ?k4 ?k5 ?kK ?kd ?ku ?_; (case c9 => assumption); (case k1 => k_asm); (case k2 => k_asm); (case k3 => k_asm); (case k4 => k_asm); (case k5 => k_asm); (case kK => first | exact rfl | assumption); (case g0 => omega); (case g1 => omega); (case kd => ktr_room); (case ku => ktr_units)); intro v9 hv9 h9 tk9 F9 N9; have hE9 := hv9; subst hE9; (try dsimp only); (try k_sweep); (try k_fold)))
local macro_rules | `(tactic| walk_at "call ref") => `(tactic| (k_here; (with_reducible show wpAny _ _ (call (Value.ref 290) _) _ _ _); k_dflt (refine' Cl.use (Times290.at ?c9 _ _ _ _ _ _ ?g0 ?g1) ?k1 ?k2 ?k3 ?k4 ?k5 ?kK ?kd ?ku ?_; (case c9 => assumption); (case k1 => k_asm); (case k2 => k_asm); (case k3 => k_asm); (case k4 => k_asm); (case k5 => k_asm); (case kK => first | exact rfl | assumption); (case g0 => omega); (case g1 => omega); (case kd => ktr_room); (case ku => ktr_units)); intro v9 hv9 h9 tk9 F9 N9; obtain ⟨t9, hE9⟩ := hv9; subst hE9; (try dsimp only); (try k_sweep); (try k_fold)))
local macro_rules | `(tactic| walk_at "call ref") => `(tactic| (k_here; (with_reducible show wpAny _ _ (call (Value.ref 290) _) _ _ _); k_dflt (refine' Cl.use (Plus290.at ?c9 _ _ _ _ _ _ _ ?g0 ?g1 ?g2 ?g3) ?k1 ?k2 ?k3 ?k4 ?k5 ?kK ?kd ?ku ?_; (case c9 => assumption); (case k1 => k_asm); (case k2 => k_asm); (case k3 => k_asm); (case k4 => k_asm); (case k5 => k_asm); (case kK => first | exact rfl | assumption); (case g0 => omega); (case g1 => omega); (case g2 => omega); (case g3 => omega); (case kd => ktr_room); (case ku => ktr_units)); intro v9 hv9 h9 tk9 F9 N9; obtain ⟨t9, hE9⟩ := hv9; subst hE9; (try dsimp only); (try k_sweep); (try k_fold)))
local macro_rules | `(tactic| walk_at "call ref") => `(tactic| (k_here; (with_reducible show wpAny _ _ (call (Value.ref 290) _) _ _ _); k_dflt (refine' Cl.use (Less290.at ?c9 _ _ _ _ _ _ _ ?g0 ?g1 ?g2 ?g3) ?k1 ?k2 ?k3 ?k4 ?k5 ?kK ?kd ?ku ?_; (case c9 => assumption); (case k1 => k_asm); (case k2 => k_asm); (case k3 => k_asm); (case k4 => k_asm); (case k5 => k_asm); (case kK => first | exact rfl | assumption); (case g0 => omega); (case g1 => omega); (case g2 => omega); (case g3 => omega); (case kd => ktr_room); (case ku => ktr_units)); intro v9 hv9 h9 tk9 F9 N9; obtain ⟨t9, hE9⟩ := hv9; subst hE9; (try dsimp only); (try k_sweep); (try k_fold)))
local macro_rules | `(tactic| walk_at "call ref") => `(tactic| (k_here; (with_reducible show wpAny _ _ (call (Value.ref 79) _) _ _ _); k_dflt (refine' Cl.use (WholeOf79.at ?c9 _ _ _ ?g0 ?g1) ?k1 ?k2 ?k3 ?k4 ?k5 ?kK ?kd ?ku ?_; (case c9 => assumption); (case k1 => k_asm); (case k2 => k_asm); (case k3 => k_asm); (case k4 => k_asm); (case k5 => k_asm); (case kK => first | exact rfl | assumption); (case g0 => omega); (case g1 => omega); (case kd => ktr_room); (case ku => ktr_units)); intro v9 hv9 h9 tk9 F9 N9; obtain ⟨t9, hE9⟩ := hv9; subst hE9; (try dsimp only); (try k_sweep); (try k_fold)))
local macro_rules | `(tactic| walk_at "call ref") => `(tactic| (k_here; (with_reducible show wpAny _ _ (call (Value.ref 255) _) _ _ _); k_dflt (refine' Cl.use (Quot255.at ?c9 _ _ _ ?g0 ?g1) ?k1 ?k2 ?k3 ?k4 ?k5 ?kK ?kd ?ku ?_; (case c9 => assumption); (case k1 => k_asm); (case k2 => k_asm); (case k3 => k_asm); (case k4 => k_asm); (case k5 => k_asm); (case kK => first | exact rfl | assumption); (case g0 => omega); (case g1 => omega); (case kd => ktr_room); (case ku => ktr_units)); intro v9 hv9 h9 tk9 F9 N9; obtain ⟨t9, hE9⟩ := hv9; subst hE9; (try dsimp only); (try k_sweep); (try k_fold)))
local macro_rules | `(tactic| walk_at "call ref") => `(tactic| (k_here; (with_reducible show wpAny _ _ (call (Value.ref 262) _) _ _ _); k_dflt (refine' Cl.use (Rest262.at ?c9 _ _ _ ?g0 ?g1) ?k1 ?k2 ?k3 ?k4 ?k5 ?kK ?kd ?ku ?_; (case c9 => assumption); (case k1 => k_asm); (case k2 => k_asm); (case k3 => k_asm); (case k4 => k_asm); (case k5 => k_asm); (case kK => first | exact rfl | assumption); (case g0 => omega); (case g1 => omega); (case kd => ktr_room); (case ku => ktr_units)); intro v9 hv9 h9 tk9 F9 N9; obtain ⟨t9, hE9⟩ := hv9; subst hE9; (try dsimp only); (try k_sweep); (try k_fold)))
local macro_rules | `(tactic| walk_at "call ref") => `(tactic| (k_here; (with_reducible show wpAny _ _ (call (Value.ref 290) _) _ _ _); k_dflt (refine' Cl.use (Mod290.at ?c9 _ _ _ _ _ _ ?g0 ?g1) ?k1 ?k2 ?k3 ?k4 ?k5 ?kK ?kd ?ku ?_; (case c9 => assumption); (case k1 => k_asm); (case k2 => k_asm); (case k3 => k_asm); (case k4 => k_asm); (case k5 => k_asm); (case kK => first | exact rfl | assumption); (case g0 => omega); (case g1 => omega); (case kd => ktr_room); (case ku => ktr_units)); intro v9 hv9 h9 tk9 F9 N9; obtain ⟨t9, hE9⟩ := hv9; subst hE9; (try dsimp only); (try k_sweep); (try k_fold)))
local macro_rules | `(tactic| walk_at "call ref") => `(tactic| (k_here; (with_reducible show wpAny _ _ (call (Value.ref 311) [Value.str (PySem.Str.mk #[_, _, _]) _]) _ _ _); k_dflt (refine' Cl.use (Number311.at ?c9 _ _ ?g0) ?k1 ?k2 ?k3 ?k4 ?k5 ?kK ?kd ?ku ?_; (case c9 => assumption); (case k1 => k_asm); (case k2 => k_asm); (case k3 => k_asm); (case k4 => k_asm); (case k5 => k_asm); (case kK => first | exact rfl | assumption); (case g0 => exact figs3 (by omega) (by omega) (by omega) ); (case kd => ktr_room); (case ku => ktr_units)); intro v9 hv9 h9 tk9 F9 N9; obtain ⟨t9, hE9⟩ := hv9; subst hE9; rw [num3]; (try dsimp only); (try k_sweep); (try k_fold)))
local macro_rules | `(tactic| walk_at "call ref") => `(tactic| (k_here; (with_reducible show wpAny _ _ (call (Value.ref 311) [Value.str (PySem.Str.mk #[_, _, _, _]) _]) _ _ _); k_dflt (refine' Cl.use (Number311.at ?c9 _ _ ?g0) ?k1 ?k2 ?k3 ?k4 ?k5 ?kK ?kd ?ku ?_; (case c9 => assumption); (case k1 => k_asm); (case k2 => k_asm); (case k3 => k_asm); (case k4 => k_asm); (case k5 => k_asm); (case kK => first | exact rfl | assumption); (case g0 => exact figs4 (by omega) (by omega) (by omega) (by omega) ); (case kd => ktr_room); (case ku => ktr_units)); intro v9 hv9 h9 tk9 F9 N9; obtain ⟨t9, hE9⟩ := hv9; subst hE9; rw [num4]; (try dsimp only); (try k_sweep); (try k_fold)))
local macro_rules | `(tactic| walk_at "call ref") => `(tactic| (k_here; (with_reducible show wpAny _ _ (call (Value.ref 93) _) _ _ _); k_dflt (refine' Cl.use (TextOf93.at ?c9 _ _) ?k1 ?k2 ?k3 ?k4 ?k5 ?kK ?kd ?ku ?_; (case c9 => assumption); (case k1 => k_asm); (case k2 => k_asm); (case k3 => k_asm); (case k4 => k_asm); (case k5 => k_asm); (case kK => first | exact rfl | assumption); (case kd => ktr_room); (case ku => ktr_units)); intro v9 hv9 h9 tk9 F9 N9; obtain ⟨t9, hE9⟩ := hv9; subst hE9; (try dsimp only); (try k_sweep); (try k_fold)))
local macro_rules | `(tactic| walk_at "call ref") => `(tactic| (k_here; (with_reducible show wpAny _ _ (call (Value.ref 206) _) _ _ _); k_dflt (refine' Cl.use (Told206.at ?c9 _ _ ?g0 ?g1) ?k1 ?k2 ?k3 ?k4 ?k5 ?kK ?kd ?ku ?_; (case c9 => assumption); (case k1 => k_asm); (case k2 => k_asm); (case k3 => k_asm); (case k4 => k_asm); (case k5 => k_asm); (case kK => first | exact rfl | assumption); (case g0 => omega); (case g1 => omega); (case kd => ktr_room); (case ku => ktr_units)); intro v9 hv9 h9 tk9 F9 N9; obtain ⟨t9, hE9⟩ := hv9; subst hE9; (try dsimp only); (try k_sweep); (try k_fold)))
local macro_rules | `(tactic| walk_at "call ref") => `(tactic| (k_here; (with_reducible show wpAny _ _ (call (Value.ref 227) _) _ _ _); k_dflt (refine' Cl.use (Joined227.at ?c9 _ _ _ _ ?g0) ?k1 ?k2 ?k3 ?k4 ?k5 ?kK ?kd ?ku ?_; (case c9 => assumption); (case k1 => k_asm); (case k2 => k_asm); (case k3 => k_asm); (case k4 => k_asm); (case k5 => k_asm); (case kK => first | exact rfl | assumption); (case g0 => omega); (case kd => ktr_room); (case ku => ktr_units)); intro v9 hv9 h9 tk9 F9 N9; obtain ⟨z9, t9, hE9, hz9, hl9⟩ := hv9; subst hE9; (try dsimp only); (try k_sweep); (try k_fold)))
local macro_rules | `(tactic| walk_at "call ref") => `(tactic| (k_here; (with_reducible show wpAny _ _ (call (Value.ref 213) _) _ _ _); k_dflt (refine' Cl.use (NumText213.at ?c9 _ _ _ ?g0 ?g1) ?k1 ?k2 ?k3 ?k4 ?k5 ?kK ?kd ?ku ?_; (case c9 => assumption); (case k1 => k_asm); (case k2 => k_asm); (case k3 => k_asm); (case k4 => k_asm); (case k5 => k_asm); (case kK => first | exact rfl | assumption); (case g0 => omega); (case g1 => omega); (case kd => ktr_room); (case ku => ktr_units)); intro v9 hv9 h9 tk9 F9 N9; obtain ⟨z9, t9, hE9, hz9, hl9⟩ := hv9; subst hE9; (try dsimp only); (try k_sweep); (try k_fold)))
local macro_rules | `(tactic| walk_at "call ref") => `(tactic| (k_here; (with_reducible show wpAny _ _ (call (Value.ref 304) [_, Value.int 3 _]) _ _ _); k_dflt (refine' Cl.use (Figures304.at ?c9 _ _ _ _ ?g0 ?g1 ?g2) ?k1 ?k2 ?k3 ?k4 ?k5 ?kK ?kd ?ku ?_; (case c9 => assumption); (case k1 => k_asm); (case k2 => k_asm); (case k3 => k_asm); (case k4 => k_asm); (case k5 => k_asm); (case kK => first | exact rfl | assumption); (case g0 => omega); (case g1 => omega); (case g2 => omega); (case kd => ktr_room); (case ku => ktr_units)); intro v9 hv9 h9 tk9 F9 N9; obtain ⟨x9, t9, hE9, hp9, hs9⟩ := hv9; subst hE9; obtain ⟨a9, b9, c9, hx9, hq9, hb9⟩ := three hp9 hs9; subst hx9; clear hp9 hs9; (try dsimp only); (try k_sweep); (try k_fold)))
local macro_rules | `(tactic| walk_at "call ref") => `(tactic| (k_here; (with_reducible show wpAny _ _ (call (Value.ref 304) [_, Value.int 4 _]) _ _ _); k_dflt (refine' Cl.use (Figures304.at ?c9 _ _ _ _ ?g0 ?g1 ?g2) ?k1 ?k2 ?k3 ?k4 ?k5 ?kK ?kd ?ku ?_; (case c9 => assumption); (case k1 => k_asm); (case k2 => k_asm); (case k3 => k_asm); (case k4 => k_asm); (case k5 => k_asm); (case kK => first | exact rfl | assumption); (case g0 => omega); (case g1 => omega); (case g2 => omega); (case kd => ktr_room); (case ku => ktr_units)); intro v9 hv9 h9 tk9 F9 N9; obtain ⟨x9, t9, hE9, hp9, hs9⟩ := hv9; subst hE9; obtain ⟨a9, b9, c9, d9, hx9, hq9, hb9⟩ := four hp9 hs9; subst hx9; clear hp9 hs9; (try dsimp only); (try k_sweep); (try k_fold)))
local macro_rules | `(tactic| walk_at "call ref") => `(tactic| (k_here; (with_reducible show wpAny _ _ (call (Value.ref 316) _) _ _ _); k_dflt (refine' Cl.use (Next4.at ?c9 _ _ _ ?g0 ?g1) ?k1 ?k2 ?k3 ?k4 ?k5 ?kK ?kd ?ku ?_; (case c9 => assumption); (case k1 => k_asm); (case k2 => k_asm); (case k3 => k_asm); (case k4 => k_asm); (case k5 => k_asm); (case kK => first | exact rfl | assumption); (case g0 => omega); (case g1 => omega); (case kd => ktr_room); (case ku => ktr_units)); intro v9 hv9 h9 tk9 F9 N9; obtain ⟨n9, t9, hE9, hn9, lo9, hi9⟩ := hv9; subst hE9; (try dsimp only); (try k_sweep); (try k_fold)))
local macro_rules | `(tactic| walk_at "call ref") => `(tactic| (k_here; (with_reducible show wpAny _ _ (call (Value.ref 316) _) _ _ _); k_dflt (refine' Cl.use (Next3.at ?c9 _ _ _ ?g0 ?g1) ?k1 ?k2 ?k3 ?k4 ?k5 ?kK ?kd ?ku ?_; (case c9 => assumption); (case k1 => k_asm); (case k2 => k_asm); (case k3 => k_asm); (case k4 => k_asm); (case k5 => k_asm); (case kK => first | exact rfl | assumption); (case g0 => omega); (case g1 => omega); (case kd => ktr_room); (case ku => ktr_units)); intro v9 hv9 h9 tk9 F9 N9; obtain ⟨n9, t9, hE9, hn9, lo9, hi9⟩ := hv9; subst hE9; (try dsimp only); (try k_sweep); (try k_fold)))
local macro_rules | `(tactic| walk_at "call ref") => `(tactic| (k_here; (with_reducible show wpAny _ _ (call (Value.ref 323) _) _ _ _); k_dflt (refine' Cl.use (Comes4.at ?c9 _ _ _ _ _ _ ?g0 ?g1 ?g2 ?g3) ?k1 ?k2 ?k3 ?k4 ?k5 ?kK ?kd ?ku ?_; (case c9 => assumption); (case k1 => k_asm); (case k2 => k_asm); (case k3 => k_asm); (case k4 => k_asm); (case k5 => k_asm); (case kK => first | exact rfl | assumption); (case g0 => exact (draw4 _).1); (case g1 => exact (draw4 _).2.1); (case g2 => exact (draw4 _).2.2); (case g3 => rfl); (case kd => ktr_room); (case ku => ktr_units)); intro v9 hv9 h9 tk9 F9 N9; have hE9 := hv9; subst hE9; (try dsimp only); (try k_sweep); (try k_fold)))
local macro_rules | `(tactic| walk_at "call ref") => `(tactic| (k_here; (with_reducible show wpAny _ _ (call (Value.ref 323) _) _ _ _); k_dflt (refine' Cl.use (Comes3.at ?c9 _ _ _ _ _ _ ?g0 ?g1 ?g2 ?g3) ?k1 ?k2 ?k3 ?k4 ?k5 ?kK ?kd ?ku ?_; (case c9 => assumption); (case k1 => k_asm); (case k2 => k_asm); (case k3 => k_asm); (case k4 => k_asm); (case k5 => k_asm); (case kK => first | exact rfl | assumption); (case g0 => exact (draw3 _).1); (case g1 => exact (draw3 _).2.1); (case g2 => exact (draw3 _).2.2); (case g3 => rfl); (case kd => ktr_room); (case ku => ktr_units)); intro v9 hv9 h9 tk9 F9 N9; have hE9 := hv9; subst hE9; (try dsimp only); (try k_sweep); (try k_fold)))
local macro_rules | `(tactic| walk_at "binaryOp LShift int int") => `(tactic| (k_here; k_dflt (refine r_shl ?_); intro tA kA))
local macro_rules | `(tactic| walk_at "binaryOp Add str str") => `(tactic| (k_here; (with_reducible show wpAny _ _ (binaryOp Operator.Add (Value.str _ _) (Value.str _ _)) _ _ _); (refine' r_add ?g1 ?_; (case g1 => omega)); intro zA tA kA hzA hlA))
local macro_rules | `(tactic| walk_at "call builtin:len") => `(tactic| (k_here; (with_reducible show wpAny _ _ (call (Value.builtin "len") [Value.str _ _]) _ _ _); (refine' r_len ?g1 ?_; (case g1 => omega)); intro kA tA nA hnA))
local macro_rules | `(tactic| walk_at "subscriptTail Call") => `(tactic| (k_here; (with_reducible show wpAny _ _ (subscriptTail _ _ (Value.str _ _) (Value.ref _)) _ _ _); (with_unfolding_all first | (refine' r_rev2 ?g1 ?g2 ?g3 ?_; (case g1 => k_asm); (case g2 => k_asm); (case g3 => omega)) | (refine' r_from2 ?g1 ?g2 ?g3 ?g4 ?g5 ?_; (case g1 => k_asm); (case g2 => k_asm); (case g3 => omega); (case g4 => omega); (case g5 => omega))); intro zA hA tA kA FA NA hzA hlA; (try k_sweep)))
local macro_rules | `(tactic| walk_at "subscriptTail Name") => `(tactic| (k_here; (with_reducible show wpAny _ _ (subscriptTail _ _ (Value.str _ _) (Value.ref _)) _ _ _); (with_unfolding_all first | (refine' r_rev2 ?g1 ?g2 ?g3 ?_; (case g1 => k_asm); (case g2 => k_asm); (case g3 => omega)) | (refine' r_from2 ?g1 ?g2 ?g3 ?g4 ?g5 ?_; (case g1 => k_asm); (case g2 => k_asm); (case g3 => omega); (case g4 => omega); (case g5 => omega))); intro zA hA tA kA FA NA hzA hlA; (try k_sweep)))
local macro_rules | `(tactic| walk_at "subscriptTail Name Slice str ref") => `(tactic| (k_here; (with_reducible show wpAny _ _ (subscriptTail _ _ (Value.str _ _) (Value.ref _)) _ _ _); (with_unfolding_all first | (refine' r_rev2 ?g1 ?g2 ?g3 ?_; (case g1 => k_asm); (case g2 => k_asm); (case g3 => omega)) | (refine' r_from2 ?g1 ?g2 ?g3 ?g4 ?g5 ?_; (case g1 => k_asm); (case g2 => k_asm); (case g3 => omega); (case g4 => omega); (case g5 => omega))); intro zA hA tA kA FA NA hzA hlA; (try k_sweep)))
local macro_rules | `(tactic| walk_at "subscriptTail Name") => `(tactic| (k_here; (with_reducible show wpAny _ _ (subscriptTail _ _ (Value.str (PySem.Str.mk #[_, _, _]) _) (Value.ref _)) _ _ _); (with_unfolding_all (refine' r_rev2 ?g1 ?g2 ?g3 ?_; (case g1 => k_asm); (case g2 => k_asm); (case g3 => exact Nat.le_of_ble_eq_true rfl))); intro zA hA tA kA FA NA hzA hlA; (have hzB := rev3 hzA); subst hzB; clear hzA hlA; (try k_sweep)))
local macro_rules | `(tactic| walk_at "subscriptTail Name Slice str ref") => `(tactic| (k_here; (with_reducible show wpAny _ _ (subscriptTail _ _ (Value.str (PySem.Str.mk #[_, _, _]) _) (Value.ref _)) _ _ _); (with_unfolding_all (refine' r_rev2 ?g1 ?g2 ?g3 ?_; (case g1 => k_asm); (case g2 => k_asm); (case g3 => exact Nat.le_of_ble_eq_true rfl))); intro zA hA tA kA FA NA hzA hlA; (have hzB := rev3 hzA); subst hzB; clear hzA hlA; (try k_sweep)))
local macro_rules | `(tactic| walk_at "subscriptTail Name") => `(tactic| (k_here; (with_reducible show wpAny _ _ (subscriptTail _ _ (Value.str (PySem.Str.mk #[_, _, _, _]) _) (Value.ref _)) _ _ _); (with_unfolding_all (refine' r_rev2 ?g1 ?g2 ?g3 ?_; (case g1 => k_asm); (case g2 => k_asm); (case g3 => exact Nat.le_of_ble_eq_true rfl))); intro zA hA tA kA FA NA hzA hlA; (have hzB := rev4 hzA); subst hzB; clear hzA hlA; (try k_sweep)))
local macro_rules | `(tactic| walk_at "subscriptTail Name Slice str ref") => `(tactic| (k_here; (with_reducible show wpAny _ _ (subscriptTail _ _ (Value.str (PySem.Str.mk #[_, _, _, _]) _) (Value.ref _)) _ _ _); (with_unfolding_all (refine' r_rev2 ?g1 ?g2 ?g3 ?_; (case g1 => k_asm); (case g2 => k_asm); (case g3 => exact Nat.le_of_ble_eq_true rfl))); intro zA hA tA kA FA NA hzA hlA; (have hzB := rev4 hzA); subst hzB; clear hzA hlA; (try k_sweep)))
local macro_rules | `(tactic| walk_at "subscriptTail Name Name str int") => `(tactic| (k_here; (with_reducible show wpAny _ _ (subscriptTail _ _ (Value.str (PySem.Str.mk #[_, _, _]) _) (Value.int _ _)) _ _ _); (with_unfolding_all (refine' r_item3 ?g1 ?g2 ?_; (case g1 => omega); (case g2 => omega))); intro tA kA))
local macro_rules | `(tactic| walk_at "subscriptTail Name BinOp str int") => `(tactic| (k_here; (with_reducible show wpAny _ _ (subscriptTail _ _ (Value.str (PySem.Str.mk #[_, _, _]) _) (Value.int _ _)) _ _ _); (with_unfolding_all (refine' r_item3 ?g1 ?g2 ?_; (case g1 => omega); (case g2 => omega))); intro tA kA))
local macro_rules | `(tactic| walk_at "subscriptTail Name Name str int") => `(tactic| (k_here; (with_reducible show wpAny _ _ (subscriptTail _ _ (Value.str (PySem.Str.mk #[_, _, _, _]) _) (Value.int _ _)) _ _ _); (with_unfolding_all (refine' r_item4 ?g1 ?g2 ?_; (case g1 => omega); (case g2 => omega))); intro tA kA))
local macro_rules | `(tactic| walk_at "subscriptTail Name BinOp str int") => `(tactic| (k_here; (with_reducible show wpAny _ _ (subscriptTail _ _ (Value.str (PySem.Str.mk #[_, _, _, _]) _) (Value.int _ _)) _ _ _); (with_unfolding_all (refine' r_item4 ?g1 ?g2 ?_; (case g1 => omega); (case g2 => omega))); intro tA kA))
local macro_rules | `(tactic| walk_at "call builtin:sorted") => `(tactic| (k_here; (with_reducible show wpAny _ _ (call (Value.builtin "sorted") [Value.str _ _]) _ _ _); (refine' r_sorted ?g0 ?g1 ?g2 ?g3 ?_; (case g0 => exact rfl); (case g1 => k_asm); (case g2 => k_asm); (case g3 => omega)); intro hA tA DA vA zA eA FA NA SA hpA hsA hlA; (try k_sweep)))
local macro_rules | `(tactic| walk_at "call builtin:str.join") => `(tactic| (k_here; (with_reducible show wpAny _ _ (call (Value.builtin "str.join") [Value.str _ _, Value.ref _]) _ _ _); (refine' r_join ?g1 ?g2 ?g3 ?g4 ?g5 ?_; (case g1 => k_asm); (case g2 => k_mem); (case g3 => assumption); (case g4 => omega); (case g5 => rfl)); intro rA tA kA hzA hlA))
local macro_rules | `(tactic| walk_at "exec While Compare") => `(tactic| (k_here; k_dflt (refine whl_start 6 ?_)))
local macro_rules | `(tactic| walk_at "WhlIf") => `(tactic| (first | (refine WhlIf.yes (decide_eq_true (by (try simp only [f10]); omega)) ?_) | (refine WhlIf.no (decide_eq_false (by (try simp only [f10]); omega)) ?_)))
local macro_rules | `(tactic| k_all) => `(tactic| (refine' ne_all ?l9 ?h9; (case l9 => assumption); (case h9 => omega)))

set_option Elab.async true in
theorem main : PySem.Challenge.rw_xm0054_01.Holds := by
  w_on
  o_law
  k_head
  case hw => w_witness2
  intro w
  w_top off
  refine step (P := Figs171 w Mine.main.heap_1_39 Mine.main.view_1_40) ?_ fun cFigs171 => ?_
  · unfold Figs171
    intro v t h0 h1
    unfold Cl
    intro loose mean mg mb news dp un gd cn cs a ccd cl outer A₀ base h₀ L m s Q E B F X N T hk hd hu hret
    refine wpAny_call ?_
    k_dflt cell_enter
    have hv : v ≤ 9 ∨ (9 < v ∧ v ≤ 99) ∨ (99 < v ∧ v ≤ 999) ∨ 999 < v := by omega
    rcases hv with hv | ⟨hv, hv'⟩ | ⟨hv, hv'⟩ | hv
    all_goals k_steps
    · exact hret _ ⟨_, by rw [figT, if_pos hv]; rfl⟩ _ _ (by k_asm) (by k_asm)
    · exact hret _ ⟨_, by rw [figT, if_neg (by omega), if_pos (by omega)]; rfl⟩ _ _ (by k_asm) (by k_asm)
    · exact hret _ ⟨_, by rw [figT, if_neg (by omega), if_neg (by omega), if_pos (by omega)]; rfl⟩ _ _ (by k_asm) (by k_asm)
    · exact hret _ ⟨_, by rw [figT, if_neg (by omega), if_neg (by omega), if_neg (by omega)]; rfl⟩ _ _ (by k_asm) (by k_asm)
  refine step (P := Whole234 w Mine.main.heap_1_39 Mine.main.view_1_40) ?_ fun cWhole234 => ?_
  · unfold Whole234
    intro v t 
    unfold Cl
    intro loose mean mg mb news dp un gd cn cs a ccd cl outer A₀ base h₀ L m s Q E B F X N T hk hd hu hret
    refine wpAny_call ?_
    k_dflt cell_enter
    k_steps
    exact hret _ rfl _ _ (by k_asm) (by first | k_asm | (refine' cb_drop ?cbN ?cbS; (case cbN => assumption); (case cbS => kcj_all)))
  refine step (P := Fits72 w Mine.main.heap_1_39 Mine.main.view_1_40) ?_ fun cFits72 => ?_
  · unfold Fits72
    intro v t u h0 h1
    unfold Cl
    intro loose mean mg mb news dp un gd cn cs a ccd cl outer A₀ base h₀ L m s Q E B F X N T hk hd hu hret
    refine wpAny_call ?_
    k_dflt cell_enter
    k_steps
    exact hret _ (congrArg Value.bool (decide_eq_true (by omega))) _ _ (by k_asm) (by k_asm)
  refine step (P := Times290 w Mine.main.heap_1_39 Mine.main.view_1_40) ?_ fun cTimes290 => ?_
  · unfold Times290
    intro v o t u p q h0 h1
    unfold Cl
    intro loose mean mg mb news dp un gd cn cs a ccd cl outer A₀ base h₀ L m s Q E B F X N T hk hd hu hret
    refine wpAny_call ?_
    k_dflt cell_enter
    k_steps
    exact hret _ ⟨_, rfl⟩ _ _ (by k_asm) (by first | k_asm | (refine' cb_drop ?cbN ?cbS; (case cbN => assumption); (case cbS => kcj_all)))
  refine step (P := Plus290 w Mine.main.heap_1_39 Mine.main.view_1_40) ?_ fun cPlus290 => ?_
  · unfold Plus290
    intro v c o t u p q h0 h1 h2 h3
    unfold Cl
    intro loose mean mg mb news dp un gd cn cs a ccd cl outer A₀ base h₀ L m s Q E B F X N T hk hd hu hret
    refine wpAny_call ?_
    k_dflt cell_enter
    k_steps
    exact hret _ ⟨_, rfl⟩ _ _ (by k_asm) (by first | k_asm | (refine' cb_drop ?cbN ?cbS; (case cbN => assumption); (case cbS => kcj_all)))
  refine step (P := Less290 w Mine.main.heap_1_39 Mine.main.view_1_40) ?_ fun cLess290 => ?_
  · unfold Less290
    intro v c o t u p q h0 h1 h2 h3
    unfold Cl
    intro loose mean mg mb news dp un gd cn cs a ccd cl outer A₀ base h₀ L m s Q E B F X N T hk hd hu hret
    refine wpAny_call ?_
    k_dflt cell_enter
    k_steps
    exact hret _ ⟨_, rfl⟩ _ _ (by k_asm) (by first | k_asm | (refine' cb_drop ?cbN ?cbS; (case cbN => assumption); (case cbS => kcj_all)))
  refine step (P := WholeOf79 w Mine.main.heap_1_39 Mine.main.view_1_40) ?_ fun cWholeOf79 => ?_
  · unfold WholeOf79
    intro v t u h0 h1
    unfold Cl
    intro loose mean mg mb news dp un gd cn cs a ccd cl outer A₀ base h₀ L m s Q E B F X N T hk hd hu hret
    refine wpAny_call ?_
    k_dflt cell_enter
    k_steps
    exact hret _ ⟨_, rfl⟩ _ _ (by k_asm) (by first | k_asm | (refine' cb_drop ?cbN ?cbS; (case cbN => assumption); (case cbS => kcj_all)))
  refine step (P := Quot255 w Mine.main.heap_1_39 Mine.main.view_1_40) ?_ fun cQuot255 => ?_
  · unfold Quot255
    intro v t u h0 h1
    unfold Cl
    intro loose mean mg mb news dp un gd cn cs a ccd cl outer A₀ base h₀ L m s Q E B F X N T hk hd hu hret
    refine wpAny_call ?_
    k_dflt cell_enter
    k_steps
    rotate_left
    · exact (quot_sign h0 (by assumption)).elim
    exact hret _ ⟨_, congrArg (Value.int · _) (quot9 h0)⟩ _ _ (by k_asm) (by first | k_asm | (refine' cb_drop ?cbN ?cbS; (case cbN => assumption); (case cbS => kcj_all)))
  refine step (P := Rest262 w Mine.main.heap_1_39 Mine.main.view_1_40) ?_ fun cRest262 => ?_
  · unfold Rest262
    intro v t u h0 h1
    unfold Cl
    intro loose mean mg mb news dp un gd cn cs a ccd cl outer A₀ base h₀ L m s Q E B F X N T hk hd hu hret
    refine wpAny_call ?_
    k_dflt cell_enter
    k_steps
    exact hret _ ⟨_, rfl⟩ _ _ (by k_asm) (by first | k_asm | (refine' cb_drop ?cbN ?cbS; (case cbN => assumption); (case cbS => kcj_all)))
  refine step (P := Mod290 w Mine.main.heap_1_39 Mine.main.view_1_40) ?_ fun cMod290 => ?_
  · unfold Mod290
    intro v o t u p q h0 h1
    unfold Cl
    intro loose mean mg mb news dp un gd cn cs a ccd cl outer A₀ base h₀ L m s Q E B F X N T hk hd hu hret
    refine wpAny_call ?_
    k_dflt cell_enter
    k_steps
    exact hret _ ⟨_, rfl⟩ _ _ (by k_asm) (by first | k_asm | (refine' cb_drop ?cbN ?cbS; (case cbN => assumption); (case cbS => kcj_all)))
  k_with "pyIter str" => (k_state (fun pre f => f = numZ pre) "found"; all_goals (try have kB := num_turn (by assumption) kEq))
  k_with "state" => (first | rfl | (simp only [numZ_snoc]; omega))
  refine step (P := Number311 w Mine.main.heap_1_39 Mine.main.view_1_40) ?_ fun cNumber311 => ?_
  · unfold Number311
    intro x t h0
    unfold Cl
    intro loose mean mg mb news dp un gd cn cs a ccd cl outer A₀ base h₀ L m s Q E B F X N T hk hd hu hret
    refine wpAny_call ?_
    k_dflt cell_enter
    k_steps
    exact hret _ ⟨_, congrArg (Value.int · _) kInv⟩ _ _ (by k_asm) (by first | k_asm | (refine' cb_drop ?cbN ?cbS; (case cbN => assumption); (case cbS => kcj_all)))
  k_with_none
  refine step (P := TextOf93 w Mine.main.heap_1_39 Mine.main.view_1_40) ?_ fun cTextOf93 => ?_
  · unfold TextOf93
    intro x t 
    unfold Cl
    intro loose mean mg mb news dp un gd cn cs a ccd cl outer A₀ base h₀ L m s Q E B F X N T hk hd hu hret
    refine wpAny_call ?_
    k_dflt cell_enter
    k_steps
    exact hret _ ⟨_, rfl⟩ _ _ (by k_asm) (by first | k_asm | (refine' cb_drop ?cbN ?cbS; (case cbN => assumption); (case cbS => kcj_all)))
  refine step (P := Told206 w Mine.main.heap_1_39 Mine.main.view_1_40) ?_ fun cTold206 => ?_
  · unfold Told206
    intro z t h0 h1
    unfold Cl
    intro loose mean mg mb news dp un gd cn cs a ccd cl outer A₀ base h₀ L m s Q E B F X N T hk hd hu hret
    refine wpAny_call ?_
    k_dflt cell_enter
    k_steps
    exact hret _ ⟨_, rfl⟩ _ _ (by k_asm) (by first | k_asm | (refine' cb_drop ?cbN ?cbS; (case cbN => assumption); (case cbS => kcj_all)))
  refine step (P := Joined227 w Mine.main.heap_1_39 Mine.main.view_1_40) ?_ fun cJoined227 => ?_
  · unfold Joined227
    intro x y t u h0
    unfold Cl
    intro loose mean mg mb news dp un gd cn cs a ccd cl outer A₀ base h₀ L m s Q E B F X N T hk hd hu hret
    refine wpAny_call ?_
    k_dflt cell_enter
    k_steps
    exact hret _ ⟨_, _, rfl, by assumption, by assumption⟩ _ _ (by k_asm) (by first | k_asm | (refine' cb_drop ?cbN ?cbS; (case cbN => assumption); (case cbS => kcj_all)))
  refine step (P := NumText213 w Mine.main.heap_1_39 Mine.main.view_1_40) ?_ fun cNumText213 => ?_
  · unfold NumText213
    intro v t u h0 h1
    unfold Cl
    intro loose mean mg mb news dp un gd cn cs a ccd cl outer A₀ base h₀ L m s Q E B F X N T hk hd hu hret
    have l1 : (Str.ofString " ").length = 1 := by decide
    have lf := figT_len v
    refine wpAny_call ?_
    k_dflt cell_enter
    k_steps
    exact hret _ ⟨_, _, rfl, by assumption, by assumption⟩ _ _ (by k_asm) (by first | k_asm | (refine' cb_drop ?cbN ?cbS; (case cbN => assumption); (case cbS => kcj_all)))
  refine step (P := Figures304 w Mine.main.heap_1_39 Mine.main.view_1_40) ?_ fun cFigures304 => ?_
  · unfold Figures304
    intro v z t u h0 h1 h2
    unfold Cl
    intro loose mean mg mb news dp un gd cn cs a ccd cl outer A₀ base h₀ L m s Q E B F X N T hk hd hu hret
    have l1 : (Str.ofString " ").length = 1 := by decide
    have l3 : (Str.ofString "000").length = 3 := by decide
    have lf := figT_len v
    refine wpAny_call ?_
    k_dflt cell_enter
    k_steps
    exact hret _ ⟨_, _, rfl, fig_end h0 h1 h2 (by assumption) (by assumption) (by assumption) (by assumption) (by assumption) (by assumption) (by assumption) (by assumption) (by assumption)⟩ _ _ (by k_asm) (by first | k_asm | (refine' cb_drop ?cbN ?cbS; (case cbN => assumption); (case cbS => kcj_all)))
  refine step (P := Raw4 w Mine.main.heap_1_39 Mine.main.view_1_40) ?_ fun cRaw4 => ?_
  · unfold Raw4
    intro v t u h0 h1
    unfold Cl
    intro loose mean mg mb news dp un gd cn cs a ccd cl outer A₀ base h₀ L m s Q E B F X N T hk hd hu hret
    refine wpAny_call ?_
    k_dflt (refine' code_defC ?k1 ?k2 ?k3 ?k4 ?k5 ?kA ?kF ?kK ?k6 ?k7 ?k8 ?k9 ?kB ?kD ?_ ?c2 ?c3 ?c4; (case kA => exact rfl); (case kF => exact rfl); (case kK => assumption); (case k1 => k_asm); (case k2 => k_asm); (case k3 => k_asm); (case k4 => k_asm); (case k5 => k_asm); (case k6 => k_is); (case k7 => k_is); (case k8 => ktr_room); (case k9 => exact BindsTo.of_eq rfl); (case kB => exact rfl); (case kD => decide +kernel); (case c2 => exact rfl); (case c3 => exact rfl); (case c4 => exact rfl); k_whole; intro g' L' h' tk' cells' FG' F' N' Y' B' X' T' l1; k_cells Y'; (try simp only [List.cons_append, List.nil_append] at N'); (try dsimp only); (try k_lift B'); (try k_fold))
    k_steps
    all_goals first
      | exact (bad_mod4 (by assumption)).elim
      | exact (bad_due4 (by assumption)).elim
      | exact hret _ ⟨_, _, _, _, _, congrArg (Value.int · _) (sum4 _ _ _ _), by assumption, by omega, by omega, by omega⟩ _ _ (by k_asm) (by first | k_asm | (refine' cb_drop ?cbN ?cbS; (case cbN => assumption); (case cbS => kcj_all)))
  refine step (P := Raw3 w Mine.main.heap_1_39 Mine.main.view_1_40) ?_ fun cRaw3 => ?_
  · unfold Raw3
    intro v t u h0 h1
    unfold Cl
    intro loose mean mg mb news dp un gd cn cs a ccd cl outer A₀ base h₀ L m s Q E B F X N T hk hd hu hret
    refine wpAny_call ?_
    k_dflt (refine' code_defC ?k1 ?k2 ?k3 ?k4 ?k5 ?kA ?kF ?kK ?k6 ?k7 ?k8 ?k9 ?kB ?kD ?_ ?c2 ?c3 ?c4; (case kA => exact rfl); (case kF => exact rfl); (case kK => assumption); (case k1 => k_asm); (case k2 => k_asm); (case k3 => k_asm); (case k4 => k_asm); (case k5 => k_asm); (case k6 => k_is); (case k7 => k_is); (case k8 => ktr_room); (case k9 => exact BindsTo.of_eq rfl); (case kB => exact rfl); (case kD => decide +kernel); (case c2 => exact rfl); (case c3 => exact rfl); (case c4 => exact rfl); k_whole; intro g' L' h' tk' cells' FG' F' N' Y' B' X' T' l1; k_cells Y'; (try simp only [List.cons_append, List.nil_append] at N'); (try dsimp only); (try k_lift B'); (try k_fold))
    k_steps
    all_goals first
      | exact (bad_mod3 (by assumption)).elim
      | exact (bad_due3 (by assumption)).elim
      | exact hret _ ⟨_, _, _, _, congrArg (Value.int · _) (sum3 _ _ _), by assumption, by omega, by omega⟩ _ _ (by k_asm) (by first | k_asm | (refine' cb_drop ?cbN ?cbS; (case cbN => assumption); (case cbS => kcj_all)))
  refine step (P := Next4 w Mine.main.heap_1_39 Mine.main.view_1_40) ?_ fun cNext4 => ?_
  · exact fun v t u h0 h1 => (cRaw4 v t u h0 h1).mono fun r ⟨a, b, c, d, t, e, hp, g1, g2, g3⟩ => by
      have q := nxt4_eq hp g1 g2 g3
      exact ⟨_, t, e, q.1, by rw [q.1]; exact q.2.1, by rw [q.1]; exact q.2.2⟩
  refine step (P := Next3 w Mine.main.heap_1_39 Mine.main.view_1_40) ?_ fun cNext3 => ?_
  · exact fun v t u h0 h1 => (cRaw3 v t u h0 h1).mono fun r ⟨a, b, c, t, e, hp, g1, g2⟩ => by
      have q := nxt3_eq hp g1 g2
      exact ⟨_, t, e, q.1, by rw [q.1]; exact q.2.1, by rw [q.1]; exact q.2.2⟩
  k_with_none
  k_with "pyIter ref" => k_state (fun pre n => meets nxt4 6174 (7 - pre.length) n = true ∧ 0 ≤ n ∧ n ≤ 9999) "number"
  k_with "state" => (first | exact ⟨h2, h0, h1⟩ | exact ⟨comes_step (by assumption) (by omega) (by assumption) (by assumption), by assumption, by assumption⟩)
  refine step (P := Comes4 w Mine.main.heap_1_39 Mine.main.view_1_40) ?_ fun cComes4 => ?_
  · unfold Comes4
    intro v z t u p q h0 h1 h2 h3
    unfold Cl
    intro loose mean mg mb news dp un gd cn cs a ccd cl outer A₀ base h₀ L m s Q E B F X N T hk hd hu hret
    refine wpAny_call ?_
    k_dflt cell_enter
    k_steps
    all_goals first
      | exact hret _ (congrArg Value.bool (beq_iff_eq.mpr (Eq.trans (by assumption) stays4))) _ _ (by k_asm) (by first | k_asm | exact cb_drop (by assumption) (fun _ hp => List.mem_append_left _ hp) | exact cb_drop (by assumption) (fun _ hp => List.mem_cons_of_mem _ hp))
      | (exfalso; contradiction)
      | (exfalso; exact absurd (comes_last (by assumption) (by rw [rangeKs_length]; omega)) (by assumption))
  k_with_none
  k_with "pyIter ref" => k_state (fun pre n => meets nxt3 495 (6 - pre.length) n = true ∧ 0 ≤ n ∧ n ≤ 999) "number"
  k_with "state" => (first | exact ⟨h2, h0, h1⟩ | exact ⟨comes_step (by assumption) (by omega) (by assumption) (by assumption), by assumption, by assumption⟩)
  refine step (P := Comes3 w Mine.main.heap_1_39 Mine.main.view_1_40) ?_ fun cComes3 => ?_
  · unfold Comes3
    intro v z t u p q h0 h1 h2 h3
    unfold Cl
    intro loose mean mg mb news dp un gd cn cs a ccd cl outer A₀ base h₀ L m s Q E B F X N T hk hd hu hret
    refine wpAny_call ?_
    k_dflt cell_enter
    k_steps
    all_goals first
      | exact hret _ (congrArg Value.bool (beq_iff_eq.mpr (Eq.trans (by assumption) stays3))) _ _ (by k_asm) (by first | k_asm | exact cb_drop (by assumption) (fun _ hp => List.mem_append_left _ hp) | exact cb_drop (by assumption) (fun _ hp => List.mem_cons_of_mem _ hp))
      | (exfalso; contradiction)
      | (exfalso; exact absurd (comes_last (by assumption) (by rw [rangeKs_length]; omega)) (by assumption))
  k_with_none
  w_strict (
    k_fill
    intro s₀ s₁ mg mb G Y fa o pm cd doc dV kV ho hd hcd hD hmg hg args vals as hpre hlay hrd hwl hlo
    have KX := kIn_of Y
    k_behind G ho hd hcd hD hmg hpre hlay hrd hwl hlo cd
    (all_goals try k_fold)
    k_steps
    (all_goals (try k_data))
    all_goals w_report)
end Mine

theorem PySem.Challenge.cw_xm0054_01_holds : PySem.Challenge.rw_xm0054_01.Holds := by
  exact Mine.main
