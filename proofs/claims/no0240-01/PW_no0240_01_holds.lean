import PyProof.Rows.All
import Wide.All
import OpenK.AllK
import Wide.FinOn
import PySem.Challenge.RW_no0240_01
set_option Elab.async false
namespace Mine

open PySem PySem.W PyProof.Rows
set_option maxRecDepth 100000
set_option maxHeartbeats 8000000
/-- the text without its three lines that set __name__ -/
noncomputable def lawView : Program := { PySem.Challenge.pw_no0240_01 with main := { PySem.Challenge.pw_no0240_01.main with body := ((PySem.Challenge.pw_no0240_01.main.body.eraseIdx 26).eraseIdx 3).eraseIdx 0 } }
/-- the top from the plain start-up, which the library has run; the run and the looks by the library's own quick forms -/
theorem boot_ns (P : Params) (os : OsState) : (match (⟨boot_heap P, Array.mk [], boot_drawn, boot_toks, os⟩ : Shared) with | s => s.heap.isNs mainGlobals && s.gens.size == 0) = true := by kernel_rfl
/-- the top's run, by the library's quick form -/
noncomputable def quickTop (p : Program) (N : Nat) (w : World) (os : OsState) : Option Shared :=
  PySem.W.Fast.tw14082659384304107361 PySem.W.Fast.tw14364793385576792824 p w (boot_heap w.params).objs.size ((boot_heap w.params).nsMap mainGlobals "__annotations__") N ⟨boot_heap w.params, Array.mk [], boot_drawn, boot_toks, os⟩ (topStub p)
theorem left_boot {p q : Program} {loose : List Str} {Xt : Shared → Bool} {α : Type} {Yf : Shared → α} {Ya : World → α} {N : Nat} (e : opening p = plainProg p.main.scope.names) (hN : Nat.ble 600 N = true) (f : ∀ s, fenceModules? p s = some s)
    (h1 : ∀ (w : World) (os : OsState), (quickTop p N w os).map (fun s => staticsOk (importedModules p.main.body) (boot_heap w.params) s.heap && namesBound p s.heap && gensDone s && laidKept (boot_heap w.params) s.heap) = some true)
    (h2 : ∀ (w : World) (os : OsState), (quickTop p N w os).map (fun s => PySem.W.Fast.tw4187177175401517315 q loose (importedModules p.main.body) Xt true s) = some (openGood q loose))
    (h3 : ∀ (w : World) (os : OsState), (quickTop p N w os).map Yf = some (Ya w)) : LeftO p q loose Xt Yf Ya N := fun w => by
  obtain ⟨⟨h0, gs, d, k, os⟩, e1, e2⟩ := Option.map_eq_some_iff.mp (boot_open e hN f w)
  obtain ⟨rfl, rfl, rfl, rfl⟩ : h0 = boot_heap w.params ∧ gs = Array.mk [] ∧ d = boot_drawn ∧ k = boot_toks := by simpa using e2
  obtain ⟨s, hr, k1⟩ := Option.map_eq_some_iff.mp (h1 w os)
  have k2 := h2 w os
  have k3 := h3 w os
  rw [hr] at k2 k3
  replace k2 := Option.some.inj k2
  replace k3 := Option.some.inj k3
  rw [← PySem.W.Fast.te4187177175401517315] at k2
  unfold quickTop at hr
  rw [← PySem.W.Fast.te14082659384304107361, ← PySem.W.Fast.te14364793385576792824] at hr
  have ht : topFrom treeTable p w N ⟨boot_heap w.params, Array.mk [], boot_drawn, boot_toks, os⟩ = some s := by
    unfold topFrom
    rw [show ((⟨boot_heap w.params, Array.mk [], boot_drawn, boot_toks, os⟩ : Shared).heap.isNs mainGlobals && (⟨boot_heap w.params, Array.mk [], boot_drawn, boot_toks, os⟩ : Shared).gens.size == 0) = true from boot_ns w.params os]
    show (topRun treeTable p w _ _ N _ (topStub p)).bind _ = some s
    rw [hr]
    show (match _ with | true => some s | false => none) = some s
    rw [k1]
  unfold openEnds
  rw [e1]
  show (topFrom treeTable p w N ⟨boot_heap w.params, Array.mk [], boot_drawn, boot_toks, os⟩).map _ = _
  rw [ht]
  exact congrArg some (Prod.ext k2 k3)
theorem law_ends (w : World) (os : OsState) : (quickTop PySem.Challenge.pw_no0240_01 2896 w os).map (fun s => staticsOk (importedModules PySem.Challenge.pw_no0240_01.main.body) (boot_heap w.params) s.heap && namesBound PySem.Challenge.pw_no0240_01 s.heap && gensDone s && laidKept (boot_heap w.params) s.heap) = some true := by kernel_rfl
theorem law_seen (w : World) (os : OsState) : (quickTop PySem.Challenge.pw_no0240_01 2896 w os).map (fun s => PySem.W.Fast.tw4187177175401517315 lawView [] (importedModules PySem.Challenge.pw_no0240_01.main.body) (fun s => xlAt lawView [] s && recOk (RowW.records (OpenRow.toRowW (OpenLaw.row PySem.Challenge.rw_no0240_01))) s) true s) = some (openGood lawView []) := by kernel_rfl
/-- the law's looks, in one kernel check -/
theorem law_said : PySem.Challenge.rw_no0240_01.wellSaid = true := (congrFun PySem.W.Fast.te9446332074065402090 PySem.Challenge.rw_no0240_01).trans (by kernel_rfl)
set_option hygiene false in
local macro_rules | `(tactic| o_law) => `(tactic| refine holds_law law_said fun said => ?_)
set_option hygiene false in
local macro_rules | `(tactic| o_head $H) => `(tactic| refine holds_open (q := lawView) (loose := []) (Xt := fun s => xlAt lawView [] s && recOk (RowW.records (OpenRow.toRowW (OpenLaw.row PySem.Challenge.rw_no0240_01))) s) (XP := XL lawView []) (Yf := Hook.obs $H) (Ya := Hook.val $H) (YP := Hook.says $H) (N := 2896) (left_boot (by kernel_rfl) (by decide) (fun s => by kernel_rfl) law_ends law_seen (fun w os => by kernel_rfl)) (Hook.of $H) (Hook.keeps $H) (fun s e => xl_of s (Bool.and_eq_true_iff.mp e).1) XL.keeps (by rfl) (by rfl) (by rfl) (fun s e => recFacts_of (Bool.and_eq_true_iff.mp e).2) (by rfl) (by first | assumption | decide +kernel) (by decide +kernel) ⟨rfl, rfl, rfl, rfl, rfl, by decide +kernel⟩ ?hw ?hc)
open_top hd for PySem.Challenge.rw_no0240_01
end Mine
namespace Mine
open PySem PySem.W PyProof.Rows
set_option maxRecDepth 100000

/-- every object of the ledger's part is a tuple -/
noncomputable def Tups (tl : List (Addr × Obj)) : Prop := ∀ p ∈ tl, p.2.cls = .type "tuple"

/-- a call of the text's def f at vs gives back the datum d; nothing that stood is turned -/
noncomputable def Gives (w : World) (f : Addr) (vs : List Value) (dd uu : Nat) (d : Dat) : Prop :=
  ∀ (mean : ExcName → Option Value) (mg mb : Str → Option Value) (dp un : Nat) (gd : Option (List Code)) (cn : Str) (cs : Scope) (a : Addr) (ccd : Value) (cl : List (Str × Addr)) (outer : List Env) (A₀ : Around) (base h₀ : Heap) (L : Addr)
    (m : Str → Option Value) (rest : List (Addr × Obj)) (s : Shared) (Q E : Value → Shared → Prop),
    Below A₀ base outer h₀ → Fr h₀ L s.heap m → (hd.heap_1 w.params).In h₀ → News h₀ L s.heap rest → Top lawView (looseW lawView []) mean mg mb h₀ → cs.kind = .function → dp + dd < recursionLimit → un + uu < cLine →
    (∀ r tl h' tk', Fr h₀ L h' m → News h₀ L h' (tl ++ rest) → Tups tl → DatIn tl r d → Q r { s with heap := h', toks := tk' }) →
    wpAny (model PySem.Challenge.rw_no0240_01.row.prog w) (ktrTop dp un gd cn cs L a ccd cl outer) (call (.ref f) vs) Q E s

theorem Gives.use {w : World} {f : Addr} {vs : List Value} {dd uu : Nat} {d : Dat} (G : Gives w f vs dd uu d) {mean : ExcName → Option Value} {mg mb : Str → Option Value} {dp un : Nat} {gd : Option (List Code)} {cn : Str} {cs : Scope} {a : Addr} {ccd : Value} {cl : List (Str × Addr)} {outer : List Env} {A₀ : Around} {base h₀ : Heap} {L : Addr}
    {m : Str → Option Value} {rest : List (Addr × Obj)} {s : Shared} {Q E : Value → Shared → Prop}
    (B : Below A₀ base outer h₀) (F : Fr h₀ L s.heap m) (X : (hd.heap_1 w.params).In h₀) (N : News h₀ L s.heap rest) (T : Top lawView (looseW lawView []) mean mg mb h₀) (hk : cs.kind = .function) (h1 : dp + dd < recursionLimit) (h2 : un + uu < cLine)
    (k : ∀ r tl h' tk', Fr h₀ L h' m → News h₀ L h' (tl ++ rest) → Tups tl → DatIn tl r d → Q r { s with heap := h', toks := tk' }) :
    wpAny (model PySem.Challenge.rw_no0240_01.row.prog w) (ktrTop dp un gd cn cs L a ccd cl outer) (call (.ref f) vs) Q E s :=
  G mean mg mb dp un gd cn cs a ccd cl outer A₀ base h₀ L m rest s Q E B F X N T hk h1 h2 k


theorem News.right {h₀ h : Heap} {L : Addr} {tl rest : List (Addr × Obj)} (N : News h₀ L h (tl ++ rest)) : News h₀ L h rest := fun p hp => N p (List.mem_append.mpr (.inr hp))

section
variable {w : World} {f : Addr} {vs : List Value} {dd uu : Nat} {mean : ExcName → Option Value} {mg mb : Str → Option Value} {dp un : Nat} {gd : Option (List Code)} {cn : Str} {cs : Scope} {a : Addr} {ccd : Value} {cl : List (Str × Addr)} {outer : List Env} {A₀ : Around} {base h₀ : Heap} {L : Addr}
    {m : Str → Option Value} {rest : List (Addr × Obj)} {s : Shared} {Q E : Value → Shared → Prop}
theorem Gives.useI {i : Int} (G : Gives w f vs dd uu (.int i))
    (B : Below A₀ base outer h₀) (F : Fr h₀ L s.heap m) (X : (hd.heap_1 w.params).In h₀) (N : News h₀ L s.heap rest) (T : Top lawView (looseW lawView []) mean mg mb h₀) (hk : cs.kind = .function) (h1 : dp + dd < recursionLimit) (h2 : un + uu < cLine)
    (k : ∀ t h' tk', Fr h₀ L h' m → News h₀ L h' rest → Q (.int i t) { s with heap := h', toks := tk' }) :
    wpAny (model PySem.Challenge.rw_no0240_01.row.prog w) (ktrTop dp un gd cn cs L a ccd cl outer) (call (.ref f) vs) Q E s :=
  G.use B F X N T hk h1 h2 fun _ _ h' tk' F' N' _ D => by cases D; exact k _ h' tk' F' N'.right
theorem Gives.useS {x : Str} (G : Gives w f vs dd uu (.str x))
    (B : Below A₀ base outer h₀) (F : Fr h₀ L s.heap m) (X : (hd.heap_1 w.params).In h₀) (N : News h₀ L s.heap rest) (T : Top lawView (looseW lawView []) mean mg mb h₀) (hk : cs.kind = .function) (h1 : dp + dd < recursionLimit) (h2 : un + uu < cLine)
    (k : ∀ t h' tk', Fr h₀ L h' m → News h₀ L h' rest → Q (.str x t) { s with heap := h', toks := tk' }) :
    wpAny (model PySem.Challenge.rw_no0240_01.row.prog w) (ktrTop dp un gd cn cs L a ccd cl outer) (call (.ref f) vs) Q E s :=
  G.use B F X N T hk h1 h2 fun _ _ h' tk' F' N' _ D => by cases D; exact k _ h' tk' F' N'.right
end

/-- the place behind the run of signs of p that begins at n -/
noncomputable def runAt (l : List Nat) (n : Nat) (p : List Nat) : Nat := n + ((l.drop n).takeWhile p.contains).length


theorem item_at {x : Str} {j : Nat} (h : j < x.cps.toList.length) : Txt.item x (j : Int) = ⟨#[x.cps.toList[j]]⟩ := by
  have hlt : (j : Int) < (x.length : Nat) := by have : x.length = x.cps.toList.length := by simp [Str.length]
                                                omega
  have hc : Txt.charAt x (j : Int) = some (x.cps.toList[j]) := by
    refine StrLaws.at_nonneg (by omega) ?_
    simp at h ⊢
  unfold Txt.item
  rw [hc]; rfl

theorem runAt_stop {l : List Nat} {n : Nat} {p : List Nat} (h : l.length ≤ n) : runAt l n p = n := by
  simp [runAt, List.drop_eq_nil_of_le h]
theorem runAt_out {l : List Nat} {n : Nat} {p : List Nat} (h : n < l.length) (hp : l[n] ∉ p) : runAt l n p = n := by
  rw [runAt, List.drop_eq_getElem_cons h, List.takeWhile_cons_of_neg (by simpa using hp)]; simp
theorem runAt_in {l : List Nat} {n : Nat} {p : List Nat} (h : n < l.length) (hp : l[n] ∈ p) : runAt l (n + 1) p = runAt l n p := by
  rw [runAt, runAt, List.drop_eq_getElem_cons h, List.takeWhile_cons_of_pos (by simpa using hp)]
  simp only [List.length_cons]; omega
theorem len_eq (x : Str) : x.length = x.cps.toList.length := by simp [Str.length]
theorem upd_twice {m : Str → Option Value} {x : Str} {v u : Value} : (fun y => if y = x then some v else if y = x then some u else m y) = fun y => if y = x then some v else m y := by
  funext y; by_cases h : y = x <;> simp [h]
theorem tups_nil : Tups [] := fun _ h => nomatch h

noncomputable def letters : List Nat := [65,66,67,68,69,70,71,72,73,74,75,76,77,78,79,80,81,82,83,84,85,86,87,88,89,90]
noncomputable def digs : List Nat := [48,49,50,51,52,53,54,55,56,57]
/-- the words between points -/
noncomputable def dotteds : List (List Nat) := [[46,69,81,46],[46,78,69,46],[46,76,84,46],[46,76,69,46],[46,71,84,46],[46,71,69,46],[46,78,79,84,46],[46,65,78,68,46],[46,79,82,46],[46,69,81,86,46],[46,78,69,81,86,46]]
noncomputable def truths : List (List Nat) := [[46,84,82,85,69,46],[46,70,65,76,83,69,46]]
/-- the text from a to below b -/
noncomputable def cut (l : List Nat) (a b : Nat) : List Nat := (l.drop a).take (b - a)
noncomputable def wordAt (l : List Nat) (n : Nat) : List Nat := cut l n (runAt l (n + 1) letters + 1)
noncomputable def dottedAt (l : List Nat) (n : Nat) : List Nat := if wordAt l n ∈ dotteds ∨ wordAt l n ∈ truths then wordAt l n else []
noncomputable def str (l : List Nat) : Str := ⟨l.toArray⟩
theorem letters_is : (Str.ofString "ABCDEFGHIJKLMNOPQRSTUVWXYZ").cps.toList = letters := by decide +kernel
theorem digs_is : (Str.ofString "0123456789").cps.toList = digs := by decide +kernel

theorem dotted_tup {w : World} {h : Heap} (X : (hd.heap_1 w.params).In h) : ∃ items, IsTup h 54 items ∧ StrsAre items.toList [Str.ofString ".EQ.", Str.ofString ".NE.", Str.ofString ".LT.", Str.ofString ".LE.", Str.ofString ".GT.", Str.ofString ".GE.", Str.ofString ".NOT.", Str.ofString ".AND.", Str.ofString ".OR.", Str.ofString ".EQV.", Str.ofString ".NEQV."] :=
  ⟨_, ⟨_, X 54 _ rfl, rfl, _, rfl⟩, (.cons _ _ (.cons _ _ (.cons _ _ (.cons _ _ (.cons _ _ (.cons _ _ (.cons _ _ (.cons _ _ (.cons _ _ (.cons _ _ (.cons _ _ .nil)))))))))))⟩
theorem truth_tup {w : World} {h : Heap} (X : (hd.heap_1 w.params).In h) : ∃ items, IsTup h 55 items ∧ StrsAre items.toList [Str.ofString ".TRUE.", Str.ofString ".FALSE."] :=
  ⟨_, ⟨_, X 55 _ rfl, rfl, _, rfl⟩, (.cons _ _ (.cons _ _ .nil))⟩
theorem str_beq (l : List Nat) (x : Str) : (str l == x) = decide (x.cps.toList = l) := by
  obtain ⟨⟨c⟩⟩ := x
  rw [Bool.eq_iff_iff]
  simp [str]
  exact eq_comm
theorem any_strs (x : Str) : ∀ ls : List (List Nat), (ls.map str).any (· == x) = decide (x.cps.toList ∈ ls)
  | [] => by simp
  | l :: ls => by
    rw [List.map_cons, List.any_cons, str_beq, any_strs x ls, Bool.eq_iff_iff]
    simp
theorem dotteds_is : [Str.ofString ".EQ.", Str.ofString ".NE.", Str.ofString ".LT.", Str.ofString ".LE.", Str.ofString ".GT.", Str.ofString ".GE.", Str.ofString ".NOT.", Str.ofString ".AND.", Str.ofString ".OR.", Str.ofString ".EQV.", Str.ofString ".NEQV."] = dotteds.map str := by decide +kernel
theorem truths_is : [Str.ofString ".TRUE.", Str.ofString ".FALSE."] = truths.map str := by decide +kernel
section
variable {prog : Program} {w : World} {A : Around} {E : Value → Shared → Prop} {s : Shared} {g : Heap} {L : Addr} {m : Str → Option Value} {x : Str} {u : Tok} {Q : Value → Shared → Prop}
theorem in_dotted (X : (hd.heap_1 w.params).In g) (F : Fr g L s.heap m) (h : Q (.bool (decide (x.cps.toList ∈ dotteds))) s) : wpAny (model prog w) A (compareOp .In (.str x u) (.ref 54)) Q E s := by
  obtain ⟨items, ht, hi⟩ := dotted_tup (X.keeps F.keep)
  rw [dotteds_is] at hi
  exact in_tuple_strs ht hi (by rw [any_strs]; exact h)
theorem in_truths (X : (hd.heap_1 w.params).In g) (F : Fr g L s.heap m) (h : Q (.bool (decide (x.cps.toList ∈ truths))) s) : wpAny (model prog w) A (compareOp .In (.str x u) (.ref 55)) Q E s := by
  obtain ⟨items, ht, hi⟩ := truth_tup (X.keeps F.keep)
  rw [truths_is] at hi
  exact in_tuple_strs ht hi (by rw [any_strs]; exact h)
end

/-- where a cut's end i falls in a text of n signs -/
noncomputable def clp (i : Int) (n : Nat) : Nat := (max 0 (min (if i < 0 then i + n else i) (n : Int))).toNat
theorem clp_le (i : Int) (n : Nat) : clp i n ≤ n := by unfold clp; split <;> omega
theorem clp_nat (a n : Nat) : clp (a : Int) n = min a n := by unfold clp; split <;> omega
theorem idx_clip (i j : Int) (n : Nat) : Builtin.Str.strSliceIndices (some i) (some j) 1 n = Builtin.Str.strSliceIndices (some (clp i n : Int)) (some (clp j n : Int)) 1 n := by
  have h1 : max (0 : Int) (min (if i < 0 then i + n else i) (n : Int)) = (clp i n : Int) := by unfold clp; split <;> omega
  have h2 : max (0 : Int) (min (if j < 0 then j + n else j) (n : Int)) = (clp j n : Int) := by unfold clp; split <;> omega
  have a1 : ¬ ((clp i n : Int) < 0) := by omega
  have a2 : ¬ ((clp j n : Int) < 0) := by omega
  have l1 := clp_le i n
  have l2 := clp_le j n
  have e1 : max (0 : Int) (min (clp i n : Int) (n : Int)) = (clp i n : Int) := by omega
  have e2 : max (0 : Int) (min (clp j n : Int) (n : Int)) = (clp j n : Int) := by omega
  simp only [Builtin.Str.strSliceIndices, show (1 : Int) > 0 from by decide, if_true, h1, h2, if_neg a1, if_neg a2, e1, e2]
theorem slice_gen (x : Str) (i j : Int) : (Txt.slice x (some i) (some j)).cps.toList = cut x.cps.toList (clp i x.length) (clp j x.length) := by
  have e0 : Txt.slice x (some i) (some j) = StrLaws.sliceText x (some (clp i x.length : Int)) (some (clp j x.length : Int)) := by
    unfold Txt.slice StrLaws.sliceText
    rw [idx_clip]
  rw [e0]
  by_cases h : clp i x.length ≤ clp j x.length
  · rw [StrLaws.sliceText_nat x h (clp_le _ _)]
    rfl
  · have hr : Builtin.Str.strSliceIndices (some (clp i x.length : Int)) (some (clp j x.length : Int)) 1 x.length = [] := by
      have a1 : ¬ ((clp i x.length : Int) < 0) := by omega
      have a2 : ¬ ((clp j x.length : Int) < 0) := by omega
      have l1 := clp_le i x.length
      have l2 := clp_le j x.length
      have e1 : max (0 : Int) (min (clp i x.length : Int) (x.length : Int)) = (clp i x.length : Int) := by omega
      have e2 : max (0 : Int) (min (clp j x.length : Int) (x.length : Int)) = (clp j x.length : Int) := by omega
      have lt : ¬ ((clp i x.length : Int) < (clp j x.length : Int)) := by omega
      simp [Builtin.Str.strSliceIndices, if_neg a1, if_neg a2, e1, e2, sliceRange]
      split <;> omega
    have hc : cut x.cps.toList (clp i x.length) (clp j x.length) = [] := by
      unfold cut
      rw [show clp j x.length - clp i x.length = 0 from by omega, List.take_zero]
    rw [hc]
    unfold StrLaws.sliceText
    rw [hr]
    split
    · rename_i h9
      have : x.cps.toList.length = 0 := by
        have h8 : 0 = x.length := by simpa using h9
        rw [← len_eq]; exact h8.symm
      exact List.eq_nil_of_length_eq_zero this
    · rfl
theorem cut_min (l : List Nat) (a b : Nat) : cut l (min a l.length) (min b l.length) = cut l a b := by
  unfold cut
  by_cases h : l.length ≤ a
  · rw [List.drop_eq_nil_of_le h, List.drop_eq_nil_of_le (by omega)]; simp
  · rw [show min a l.length = a from by omega]
    by_cases hb : b ≤ l.length
    · rw [show min b l.length = b from by omega]
    · rw [show min b l.length = l.length from by omega, List.take_of_length_le (by rw [List.length_drop]; omega), List.take_of_length_le (by rw [List.length_drop]; omega)]
theorem slice_cut (x : Str) {i j : Int} (a b : Nat) (hi : i = a) (hj : j = b) : (Txt.slice x (some i) (some j)).cps.toList = cut x.cps.toList a b := by
  rw [slice_gen, hi, hj, clp_nat, clp_nat, len_eq, cut_min]
theorem str_of {x : Str} {l : List Nat} (h : x.cps.toList = l) : x = str l := by
  obtain ⟨⟨c⟩⟩ := x
  simp at h
  rw [h]; rfl
theorem toList_str (l : List Nat) : (str l).cps.toList = l := by simp [str]
theorem len_str (l : List Nat) : (str l).length = l.length := by simp [str, Str.length]

theorem upd_two {m : Str → Option Value} {a b : Str} {v1 v2 u1 u2 : Value} : (fun y => if y = a then some v1 else if y = b then some v2 else if y = a then some u1 else if y = b then some u2 else m y) = fun y => if y = a then some v1 else if y = b then some v2 else m y := by
  funext y; by_cases h : y = a <;> by_cases h2 : y = b <;> simp [h, h2]
theorem upd_pre {m : Str → Option Value} {a b : Str} {v u : Value} (h : m a = some v) (hab : a ≠ b) : (fun y => if y = b then some u else m y) = fun y => if y = a then some v else if y = b then some u else m y := by
  funext y
  by_cases h1 : y = a
  · subst h1; simp [hab, h]
  · simp [h1]
/-- the noughts at a number's end, struck -/
noncomputable def stripF : Nat → Nat → Int → Nat × Int
  | 0, m, p => (m, p)
  | f + 1, m, p => if m ≠ 0 ∧ m % 10 = 0 then stripF f (m / 10) (p + 1) else (m, p)
noncomputable def strip10 (m : Nat) (p : Int) : Nat × Int := stripF m m p
theorem stripF_off {f m : Nat} {p : Int} (h : ¬ (m ≠ 0 ∧ m % 10 = 0)) : stripF f m p = (m, p) := by
  cases f with
  | zero => rfl
  | succ f => rw [stripF, if_neg h]
theorem div10_le {f m : Nat} (h : m ≤ f + 1) (h0 : m ≠ 0) : m / 10 ≤ f := by omega
theorem stripF_more : ∀ (f m : Nat) (p : Int), m ≤ f → ∀ g, m ≤ g → stripF f m p = stripF g m p
  | 0, m, p, h, g, _ => by
    obtain rfl : m = 0 := Nat.le_zero.mp h
    exact (stripF_off (fun z => z.1 rfl)).symm
  | f + 1, m, p, h, g, hg => by
    by_cases c : m ≠ 0 ∧ m % 10 = 0
    · cases g with
      | zero => exact absurd (Nat.le_zero.mp hg) c.1
      | succ g => rw [stripF, stripF, if_pos c, if_pos c, stripF_more f (m / 10) (p + 1) (div10_le h c.1) g (div10_le hg c.1)]
    · rw [stripF_off c, stripF_off c]
noncomputable def toldP (m : Nat) (p : Int) : Nat × Int := if m = 0 then (0, 0) else strip10 m p
noncomputable def pairD (q : Nat × Int) : Dat := .tuple [.int q.1, .int q.2]

theorem tups_cons {a : Addr} {d : Data} {tl : List (Addr × Obj)} (h : Tups tl) : Tups ((a, { cls := .type "tuple", data := d }) :: tl) := fun p hp => (List.mem_cons.mp hp).elim (fun e => by rw [e]) (h p)
theorem tups_app {t1 t2 : List (Addr × Obj)} (h : Tups t1) (h' : Tups t2) : Tups (t1 ++ t2) := fun p hp => (List.mem_append.mp hp).elim (h p) (h' p)
theorem strip10_of {m : Nat} {p : Int} (h : ¬ (m ≠ 0 ∧ m % 10 = 0)) : strip10 m p = (m, p) := stripF_off h
theorem strip10_on {m : Nat} {p : Int} (h : m ≠ 0) (h2 : m % 10 = 0) : strip10 (m / 10) (p + 1) = strip10 m p := by
  cases m with
  | zero => exact absurd rfl h
  | succ k =>
    show stripF _ _ _ = stripF (k + 1) (k + 1) p
    rw [stripF, if_pos ⟨h, h2⟩]
    exact stripF_more _ _ _ (Nat.le_refl _) k (div10_le (Nat.le_refl _) h)
/-- below n + 1: below n, or n -/
theorem upto {P : Nat → Prop} {n : Nat} (h : ∀ j, j < n → P j) (hn : P n) (j : Nat) (hj : j < n + 1) : P j :=
  (Nat.lt_or_ge j n).elim (h j) fun g => Nat.le_antisymm (Nat.le_of_lt_succ hj) g ▸ hn
theorem upto_none {P : Nat → Prop} (j : Nat) (hj : j < 0) : P j := absurd hj (Nat.not_lt_zero j)
theorem fmod10 (j : Nat) : Int.fmod (j : Int) 10 = ((j % 10 : Nat) : Int) := by rw [Int.fmod_eq_emod_of_nonneg _ (by decide)]; rfl
theorem fdiv10 (j : Nat) : Int.fdiv (j : Int) 10 = ((j / 10 : Nat) : Int) := by rw [Int.fdiv_eq_ediv_of_nonneg _ (by decide)]; rfl

theorem runAt_ge (l : List Nat) (n : Nat) (p : List Nat) : n ≤ runAt l n p := Nat.le_add_right _ _
theorem runAt_le (l : List Nat) (n : Nat) (p : List Nat) : runAt l n p ≤ max n l.length := by
  unfold runAt
  have h1 : ((l.drop n).takeWhile p.contains).length ≤ (l.drop n).length := (List.takeWhile_sublist _).length_le
  rw [List.length_drop] at h1
  omega
theorem cut_run (l : List Nat) (n : Nat) (p : List Nat) : cut l n (runAt l n p) = (l.drop n).takeWhile p.contains := by
  unfold cut runAt
  rw [Nat.add_sub_cancel_left]
  exact (List.prefix_iff_eq_take.mp (List.takeWhile_prefix _)).symm
theorem digs_all : digs.all (fun c => decide (48 ≤ c ∧ c ≤ 57)) = true := by decide +kernel
theorem digs_mem {c : Nat} (h : c ∈ digs) : 48 ≤ c ∧ c ≤ 57 := of_decide_eq_true (List.all_eq_true.mp digs_all c h)
theorem letters_all : letters.all (fun c => decide (57 < c)) = true := by decide +kernel
theorem num_letters {c : Nat} (h : 48 ≤ c ∧ c ≤ 57) : c ∉ letters := fun h2 => Nat.not_le.mpr (of_decide_eq_true (List.all_eq_true.mp letters_all c h2)) h.2
theorem allDigits_run (l : List Nat) (n : Nat) : PySem.NumText.AllDigits (cut l n (runAt l n digs)) := by
  rw [cut_run]
  intro c hc
  have := List.all_takeWhile (p := digs.contains) (l := l.drop n)
  exact digs_mem (by simpa using List.all_eq_true.mp this c hc)
theorem cut_length (l : List Nat) (a b : Nat) : (cut l a b).length = min (b - a) (l.length - a) := by
  simp [cut]

section
variable {prog : Program} {w : World} {A : Around} {E : Value → Shared → Prop} {s : Shared} {x : Str} {t : Tok} {Q : Value → Shared → Prop}
theorem int_slice {i j : Int} (a b : Nat) (hi : i = a) (hj : j = b) (had : PySem.NumText.AllDigits (cut x.cps.toList a b)) (hne : cut x.cps.toList a b ≠ []) (hx : x.length ≤ 640)
    (h : Q (.int (PySem.NumText.digitsVal (cut x.cps.toList a b) : Nat) s.toks) { s with toks := s.toks + 1 }) : wpAny (model prog w) A (call (.type "int") [.str (Txt.slice x (some i) (some j)) t]) Q E s := by
  have hs := slice_cut x a b hi hj
  have hl : (Txt.slice x (some i) (some j)).length ≤ x.length := Txt.slice_le _ _ _
  rw [← hs] at had hne h
  exact PySem.W.KIN.call_text (PySem.intText_digits had hne (by omega)) (by omega) h

theorem sign_at {x : Str} {n : Nat} (h : n < x.length) : ∃ c, x.cps.toList[n]? = some c := by
  rw [len_eq] at h
  exact ⟨_, List.getElem?_eq_getElem h⟩
theorem item_some {x : Str} {i : Int} {j c : Nat} (hi : i = (j : Int)) (h : x.cps.toList[j]? = some c) : Txt.item x i = ⟨#[c]⟩ := by
  obtain ⟨h1, h2⟩ := List.getElem?_eq_some_iff.mp h
  rw [hi, item_at h1, h2]
theorem isIn_at {x sg : Str} {sl : List Nat} {i : Int} {j c : Nat} (hs : sg.cps.toList = sl) (hi : i = (j : Int)) (h : x.cps.toList[j]? = some c) : (Builtin.Str.occurrences sg (Txt.item x i) 0 sg.length 1).isEmpty = !decide (c ∈ sl) := by
  rw [item_some hi h, empty_one, hs]
theorem isIn_yes {x sg : Str} {sl : List Nat} {i : Int} {j c : Nat} (hs : sg.cps.toList = sl) (hi : i = (j : Int)) (h : x.cps.toList[j]? = some c) (e : (Builtin.Str.occurrences sg (Txt.item x i) 0 sg.length 1).isEmpty = false) : c ∈ sl := by
  rw [isIn_at hs hi h] at e; exact of_decide_eq_true (by simpa using e)
theorem isIn_no {x sg : Str} {sl : List Nat} {i : Int} {j c : Nat} (hs : sg.cps.toList = sl) (hi : i = (j : Int)) (h : x.cps.toList[j]? = some c) (e : (Builtin.Str.occurrences sg (Txt.item x i) 0 sg.length 1).isEmpty = true) : c ∉ sl := by
  rw [isIn_at hs hi h] at e; exact of_decide_eq_false (by simpa using e)
theorem item_beq {x : Str} {y : Str} {d : Nat} {i : Int} {j c : Nat} (hy : y = ⟨#[d]⟩) (hi : i = (j : Int)) (h : x.cps.toList[j]? = some c) : (Txt.item x i == y) = decide (c = d) := by
  rw [item_some hi h, hy]
  show decide ((⟨#[c]⟩ : Str) = ⟨#[d]⟩) = decide (c = d)
  simp
theorem ED_is : (Str.ofString "ED").cps.toList = [69, 68] := by decide +kernel
theorem pm_is : (Str.ofString "+-").cps.toList = [43, 45] := by decide +kernel
theorem minus_is : Str.ofString "-" = ⟨#[45]⟩ := by decide +kernel
theorem empty_is : Str.ofString "" = str [] := by decide +kernel
/-- a word that the walk leaves as it stands -/
noncomputable def Here (P : Prop) : Prop := P
/-- an assertion between -/
theorem amid {α : Type} {M : Model} {T : Sem α} {R : α → Shared → Prop} (Mid : α → Shared → Prop) (h1 : wpAny M A T Mid E s) (h2 : ∀ f s', Mid f s' → R f s') : wpAny M A T R E s := wpAny_mono h1 h2 fun _ _ x => x
end
/-- where an exponent's digits begin -/
noncomputable def begunAt (l : List Nat) (n : Nat) : Nat := match l[n + 1]? with
  | some d => if d ∈ [43, 45] then n + 2 else n + 1
  | none => n + 1
theorem begunAt_le (l : List Nat) (n : Nat) : n + 1 ≤ begunAt l n ∧ begunAt l n ≤ n + 2 := by
  unfold begunAt; split <;> (try split) <;> omega
/-- the exponent that begins at n: its letter, its power, the place behind it -/
noncomputable def powerAt (l : List Nat) (n : Nat) : List Nat × Int × Nat :=
  match l[n]? with
  | none => ([], 0, n)
  | some c =>
    if c ∈ [69, 68] then
      let b := begunAt l n
      let e := runAt l b digs
      if e = b then ([], 0, n)
      else ([c], if l[n + 1]? = some 45 then -((PySem.NumText.digitsVal (cut l b e) : Nat) : Int) else ((PySem.NumText.digitsVal (cut l b e) : Nat) : Int), e)
    else ([], 0, n)
noncomputable def powD (q : List Nat × Int × Nat) : Dat := .tuple [.str (str q.1), .int q.2.1, .int q.2.2]

end Mine
namespace Mine
open PySem PySem.W PyProof.Rows PySem.NumText
set_option maxRecDepth 100000

section
variable {w : World} {f : Addr} {vs : List Value} {dd uu : Nat} {mean : ExcName → Option Value} {mg mb : Str → Option Value} {dp un : Nat} {gd : Option (List Code)} {cn : Str} {cs : Scope} {a : Addr} {ccd : Value} {cl : List (Str × Addr)} {outer : List Env} {A₀ : Around} {base h₀ : Heap} {L : Addr}
    {m : Str → Option Value} {rest : List (Addr × Obj)} {s : Shared} {Q E : Value → Shared → Prop}
theorem news_hd {h₀ h : Heap} {L : Addr} {p : Addr × Obj} {tl rest : List (Addr × Obj)} (N : News h₀ L h (tl ++ rest)) (hp : p ∈ tl) : News h₀ L h (p :: rest) := fun q hq =>
  (List.mem_cons.mp hq).elim (fun e => N q (List.mem_append.mpr (.inl (e ▸ hp)))) fun hq => N q (List.mem_append.mpr (.inr hq))
theorem Gives.usePow {x : List Nat} {p : Int} {e : Nat} (G : Gives w f vs dd uu (powD (x, p, e)))
    (B : Below A₀ base outer h₀) (F : Fr h₀ L s.heap m) (X : (hd.heap_1 w.params).In h₀) (N : News h₀ L s.heap rest) (T : Top lawView (looseW lawView []) mean mg mb h₀) (hk : cs.kind = .function) (h1 : dp + dd < recursionLimit) (h2 : un + uu < cLine)
    (k : ∀ b t1 t2 t3 nn h' tk', Fr h₀ L h' m → News h₀ L h' ((b, { cls := .type "tuple", data := .seq #[.str (str x) t1, .int p t2, .int e t3] nn }) :: rest) → Q (.ref b) { s with heap := h', toks := tk' }) :
    wpAny (model PySem.Challenge.rw_no0240_01.row.prog w) (ktrTop dp un gd cn cs L a ccd cl outer) (call (.ref f) vs) Q E s :=
  G.use B F X N T hk h1 h2 fun _ _ h' tk' F' N' _ D => by
    cases D with
    | tuple hm hA =>
      cases hA with | cons d1 hA => cases hA with | cons d2 hA => cases hA with | cons d3 hA =>
      cases hA; cases d1; cases d2; cases d3
      exact k _ _ _ _ _ h' tk' F' (news_hd N' hm)
theorem Gives.usePair {q : Nat × Int} (G : Gives w f vs dd uu (pairD q))
    (B : Below A₀ base outer h₀) (F : Fr h₀ L s.heap m) (X : (hd.heap_1 w.params).In h₀) (N : News h₀ L s.heap rest) (T : Top lawView (looseW lawView []) mean mg mb h₀) (hk : cs.kind = .function) (h1 : dp + dd < recursionLimit) (h2 : un + uu < cLine)
    (k : ∀ b t1 t2 nn h' tk', Fr h₀ L h' m → News h₀ L h' ((b, { cls := .type "tuple", data := .seq #[.int q.1 t1, .int q.2 t2] nn }) :: rest) → Q (.ref b) { s with heap := h', toks := tk' }) :
    wpAny (model PySem.Challenge.rw_no0240_01.row.prog w) (ktrTop dp un gd cn cs L a ccd cl outer) (call (.ref f) vs) Q E s :=
  G.use B F X N T hk h1 h2 fun _ _ h' tk' F' N' _ D => by
    cases D with
    | tuple hm hA =>
      cases hA with | cons d1 hA => cases hA with | cons d2 hA =>
      cases hA; cases d1; cases d2
      exact k _ _ _ _ h' tk' F' (news_hd N' hm)
end
theorem powerAt_le (l : List Nat) (n : Nat) : n ≤ (powerAt l n).2.2 ∧ (powerAt l n).2.2 ≤ max n l.length := by
  unfold powerAt
  split
  · simp only; omega
  · rename_i c hc
    have h4 := (List.getElem?_eq_some_iff.mp hc).1
    have h1 := runAt_ge l (begunAt l n) digs
    have h2 := runAt_le l (begunAt l n) digs
    have h3 := begunAt_le l n
    split
    · simp only
      split
      · simp only; omega
      · rename_i hne
        have h5 : begunAt l n ≤ l.length := by
          unfold begunAt
          split
          · rename_i d hd
            have h6 := (List.getElem?_eq_some_iff.mp hd).1
            split <;> omega
          · omega
        simp only; omega
    · simp only; omega
/-- does a point of the number stand at e -/
noncomputable def hasPoint (l : List Nat) (e : Nat) : Bool := decide (l[e]? = some 46) && decide (dottedAt l e = [])
noncomputable def fracAt (l : List Nat) (e : Nat) : List Nat := if hasPoint l e = true then cut l (e + 1) (runAt l (e + 1) digs) else []
noncomputable def numEnd (l : List Nat) (e : Nat) : Nat := if hasPoint l e = true then runAt l (e + 1) digs else e
noncomputable def numDigits (l : List Nat) (n : Nat) : List Nat := cut l n (runAt l n digs) ++ fracAt l (runAt l n digs)
noncomputable def kINT : List Nat := [73, 78, 84]
noncomputable def kREAL : List Nat := [82, 69, 65, 76]
noncomputable def kDBLE : List Nat := [68, 66, 76, 69]
noncomputable def kNAME : List Nat := [78, 65, 77, 69]
noncomputable def kCHAR : List Nat := [67, 72, 65, 82]
noncomputable def kLOG : List Nat := [76, 79, 71]
noncomputable def kOP : List Nat := [79, 80]
/-- the number that begins at n: its kind, its value, the place behind it -/
noncomputable def numberAt (l : List Nat) (n : Nat) : List Nat × Dat × Nat :=
  let e := runAt l n digs
  let q := powerAt l (numEnd l e)
  if hasPoint l e = false ∧ q.1 = [] then (kINT, .int (digitsVal (cut l n e) : Nat), q.2.2)
  else (if q.1 = [68] then kDBLE else kREAL, pairD (toldP (digitsVal (numDigits l n)) (q.2.1 - ((fracAt l e).length : Int))), q.2.2)
noncomputable def tokD (q : List Nat × Dat × Nat) (n : Nat) : Dat := .tuple [.tuple [.str (str q.1), q.2.1, .int n], .int q.2.2]
theorem numEnd_le (l : List Nat) (e : Nat) : e ≤ numEnd l e ∧ numEnd l e ≤ max e l.length := by
  unfold numEnd hasPoint
  split
  · rename_i h
    have h1 := runAt_ge l (e + 1) digs
    have h2 := runAt_le l (e + 1) digs
    have h3 : l[e]? = some 46 := by simp at h; exact h.1
    have h4 := (List.getElem?_eq_some_iff.mp h3).1
    omega
  · omega
theorem INT_is : Str.ofString "INT" = str kINT := by decide +kernel
theorem REAL_is : Str.ofString "REAL" = str kREAL := by decide +kernel
theorem DBLE_is : Str.ofString "DBLE" = str kDBLE := by decide +kernel
theorem NAME_is : Str.ofString "NAME" = str kNAME := by decide +kernel
theorem CHAR_is : Str.ofString "CHAR" = str kCHAR := by decide +kernel
theorem LOG_is : Str.ofString "LOG" = str kLOG := by decide +kernel
theorem OP_is : Str.ofString "OP" = str kOP := by decide +kernel
theorem point_is : Str.ofString "." = ⟨#[46]⟩ := by decide +kernel
theorem quote_is : Str.ofString "'" = ⟨#[39]⟩ := by decide +kernel
theorem str_beq' (l m : List Nat) : (str l == str m) = decide (l = m) := by rw [str_beq, toList_str, Bool.eq_iff_iff]; simp; exact eq_comm

theorem cat_list (x y : Str) : (x ++ y).cps.toList = x.cps.toList ++ y.cps.toList := by
  show (x.cps ++ y.cps).toList = _
  simp
theorem cat_len (x y : Str) : (x ++ y).length = x.length + y.length := by
  rw [len_eq, cat_list, List.length_append, ← len_eq, ← len_eq]
theorem fracAt_le (l : List Nat) (e : Nat) : (fracAt l e).length ≤ l.length := by
  unfold fracAt
  split
  · rw [cut_length]; omega
  · simp
theorem allDigits_app {a b : List Nat} (h1 : AllDigits a) (h2 : AllDigits b) : AllDigits (a ++ b) := fun c hc => (List.mem_append.mp hc).elim (h1 c) (h2 c)
theorem allDigits_num (l : List Nat) (n : Nat) : AllDigits (numDigits l n) := by
  unfold numDigits
  refine allDigits_app (allDigits_run _ _) ?_
  unfold fracAt
  split
  · exact allDigits_run _ _
  · exact fun c hc => nomatch hc

theorem tok_end {kind : List Nat} {v : Value} {d : Dat} {tl : List (Addr × Obj)} {a b : Addr} {t t' t'' : Tok} {n1 n2 en n : Nat} (h1 : (a, ({ cls := .type "tuple", data := .seq #[.ref b, .int (en : Int) t] n1 } : Obj)) ∈ tl)
    (h2 : (b, ({ cls := .type "tuple", data := .seq #[.str (str kind) t', v, .int (n : Int) t''] n2 } : Obj)) ∈ tl) (hv : DatIn tl v d) : DatIn tl (.ref a) (tokD (kind, d, en) n) :=
  .tuple (vs := [_, _]) h1 (.cons (.tuple (vs := [_, _, _]) h2 (.cons (.str _ _) (.cons hv (.cons (.int _ _) .nil)))) (.cons (.int _ _) .nil))
theorem D_is : Str.ofString "D" = str [68] := by decide +kernel
theorem numberAt_pair {l : List Nat} {n e en : Nat} {lt : List Nat} {pw : Int} (hE : runAt l n digs = e) (hq : powerAt l (numEnd l e) = (lt, pw, en)) (h : ¬ (hasPoint l e = false ∧ lt = [])) :
    numberAt l n = (if lt = [68] then kDBLE else kREAL, pairD (toldP (digitsVal (numDigits l n)) (pw - ((fracAt l e).length : Int))), en) := by
  unfold numberAt
  simp only [hE, hq]
  rw [if_neg h]
theorem numberAt_int {l : List Nat} {n e en : Nat} {lt : List Nat} {pw : Int} (hE : runAt l n digs = e) (hq : powerAt l (numEnd l e) = (lt, pw, en)) (h : hasPoint l e = false) (h2 : lt = []) :
    numberAt l n = (kINT, .int (digitsVal (cut l n e) : Nat), en) := by
  unfold numberAt
  simp only [hE, hq]
  rw [if_pos ⟨h, h2⟩]
end Mine
namespace Mine
open PySem PySem.W PyProof.Rows
set_option maxRecDepth 100000
set_option maxHeartbeats 8000000
theorem run_of_gives (w : World) (x sg : Str) (sl : List Nat) (hs : sg.cps.toList = sl) (i0 : Int) (n : Nat) (t1 t2 t3 : Tok) (hi0 : i0 = (n : Int)) (hn : n < 2 ^ 21) (hx : x.length < 2 ^ 20) : Gives w 62 [.str x t1, .int i0 t2, .str sg t3] 1 16 (.int (runAt x.cps.toList n sl)) := by
  subst hi0 hs
  unfold Gives
  k_fill
  intro mean mg mb dp un gd cn cs a ccd cl outer A₀ base h₀ L m rest s Q E B F X N T hk h1 h2 hret
  refine wpAny_call ?_
  k_dflt (refine' code_def (binds := [(Str.ofString "text", .str x t1), (Str.ofString "at", .int n t2), (Str.ofString "signs", .str sg t3)]) ?k1 ?k2 ?k3 ?k4 ?k5 ?kA ?kF ?kK ?k6 ?k7 ?k8 ?k9 ?kB ?_ ?c2 ?c3 ?c4 ?c5; (case kA => exact rfl); (case kF => exact rfl); (case kK => assumption); (case k1 => k_asm); (case k2 => k_asm); (case k3 => k_asm); (case k4 => k_asm); (case k5 => k_asm); (case k6 => k_is); (case k7 => k_is); (case k8 => ktr_room); (case k9 => exact BindsTo.of_eq rfl); (case c5 => decide); (case kB => exact locs rfl); (case c2 => exact rfl); (case c3 => exact rfl); (case c4 => exact rfl))
  intro g' L' h' FG' F' N' B' X' T'
  (try k_fold)
  k_with_none
  k_with "exec While BoolOp cons nil" => (
    (rename Fr _ _ _ _ => kF)
    (rename News _ _ _ _ => kN)
    (refine While_inv2 (fun k m nx => ∃ (j : Nat) (i : Int) (t : Tok), i = (j : Int) ∧ m = (fun y => if y = Str.ofString "end" then some (Value.int i t) else List.lookup y [(Str.ofString "text", Value.str x t1), (Str.ofString "at", Value.int (↑n) t2), (Str.ofString "signs", Value.str sg t3)].reverse) ∧ nx = rest ∧ k = x.length - j ∧ n ≤ j ∧ j ≤ 2 ^ 21 ∧ runAt x.cps.toList j sg.cps.toList = runAt x.cps.toList n sg.cps.toList) kF kN ⟨n, _, _, rfl, rfl, rfl, rfl, Nat.le_refl _, Nat.le_of_lt hn, rfl⟩ ?_)
    (clear kF kN)
    (rintro k m₁ nx h tk kF kN ⟨j, i, t, hi, rfl, rfl, rfl, hj, hj2, hJ⟩)
    (try k_fold))
  k_steps
  · have c1 : i < (x.length : Nat) := by assumption
    have c3 : (Builtin.Str.occurrences sg (Txt.item x i) 0 sg.length 1).isEmpty = true := by assumption
    rename Fr h₀ _ _ _ => kF
    rename News h₀ _ _ _ => kN
    rw [len_eq] at c1
    have hj1 : j < x.cps.toList.length := by omega
    rw [hi, item_at hj1, empty_one] at c3
    rw [runAt_out hj1 (by simpa using c3)] at hJ
    exact hret _ [] _ _ kF kN tups_nil (by rw [← hJ, ← hi]; exact DatIn.int _ _)
  · have c1 : i < (x.length : Nat) := by assumption
    have c3 : (Builtin.Str.occurrences sg (Txt.item x i) 0 sg.length 1).isEmpty = false := by assumption
    rename Fr g' _ _ _ => kF
    rename News g' _ _ _ => kN
    rw [len_eq] at c1
    have hj1 : j < x.cps.toList.length := by omega
    rw [hi, item_at hj1, empty_one] at c3
    have hxl := len_eq x
    refine ⟨_, _, _, _, _, rfl, kF, kN, ?_, j + 1, _, _, ?_, upd_twice, rfl, rfl, by omega, by omega, ?_⟩
    · omega
    · omega
    · rw [runAt_in hj1 (by simpa using c3), hJ]
  · have c1 : ¬ i < (x.length : Nat) := by assumption
    rename Fr h₀ _ _ _ => kF
    rename News h₀ _ _ _ => kN
    rw [len_eq] at c1
    rw [runAt_stop (by omega)] at hJ
    exact hret _ [] _ _ kF kN tups_nil (by rw [← hJ, ← hi]; exact DatIn.int _ _)
end Mine
namespace Mine
open PySem PySem.W PyProof.Rows
set_option maxRecDepth 100000
set_option maxHeartbeats 8000000
theorem dotted_at_gives (w : World) (x : Str) (i0 : Int) (n : Nat) (t1 t2 : Tok) (hi0 : i0 = (n : Int)) (hn : n ≤ 300) (hx : x.length ≤ 300) : Gives w 69 [.str x t1, .int i0 t2] 3 32 (.str (str (dottedAt x.cps.toList n))) := by
  subst hi0
  unfold Gives
  k_fill
  intro mean mg mb dp un gd cn cs a ccd cl outer A₀ base h₀ L m rest s Q E B F X N T hk h1 h2 hret
  refine wpAny_call ?_
  k_dflt (refine' code_def (binds := [(Str.ofString "text", .str x t1), (Str.ofString "at", .int n t2)]) ?k1 ?k2 ?k3 ?k4 ?k5 ?kA ?kF ?kK ?k6 ?k7 ?k8 ?k9 ?kB ?_ ?c2 ?c3 ?c4 ?c5; (case kA => exact rfl); (case kF => exact rfl); (case kK => assumption); (case k1 => k_asm); (case k2 => k_asm); (case k3 => k_asm); (case k4 => k_asm); (case k5 => k_asm); (case k6 => k_is); (case k7 => k_is); (case k8 => ktr_room); (case k9 => exact BindsTo.of_eq rfl); (case c5 => decide); (case kB => exact locs rfl); (case c2 => exact rfl); (case c3 => exact rfl); (case c4 => exact rfl))
  intro g' L' h' FG' F' N' B' X' T'
  (try k_fold)
  k_with_none
  k_with "call ref cons nil" => (
    (k_dflt (refine' Gives.useI (run_of_gives w _ _ _ letters_is _ (n + 1) _ _ _ (by omega) (by omega) (by omega)) ?k1 ?k2 ?k3 ?k4 ?k5 ?k6 ?k7 ?k8 ?_; (case k1 => k_asm); (case k2 => k_asm); (case k3 => k_asm); (case k4 => k_asm); (case k5 => k_asm); (case k6 => exact rfl); (case k7 => ktr_room); (case k8 => ktr_units)))
    (intro kt kh ktk kF kN)
    (try k_fold))
  k_with "compareOp In str ref" => first
    | (k_dflt (refine' in_dotted ?k1 ?k2 ?_; (case k1 => k_asm); (case k2 => k_asm)))
    | (k_dflt (refine' in_truths ?k1 ?k2 ?_; (case k1 => k_asm); (case k2 => k_asm)))
  k_steps
  all_goals (rename Fr h₀ _ _ _ => kF; rename News h₀ _ _ _ => kN)
  all_goals (have hw : (Txt.slice x (some (n : Int)) (some ((runAt x.cps.toList (n + 1) letters : Nat) + 1 : Int))).cps.toList = wordAt x.cps.toList n := slice_cut x n (runAt x.cps.toList (n + 1) letters + 1) rfl rfl)
  all_goals (have hs := str_of hw; clear hw)
  all_goals (simp only [hs, toList_str] at *)
  · have c1 : wordAt x.cps.toList n ∈ dotteds := by assumption
    refine hret _ [] _ _ kF kN tups_nil ?_
    rw [dottedAt, if_pos (.inl c1)]
    exact DatIn.str _ _
  · have c1 : wordAt x.cps.toList n ∈ truths := by assumption
    refine hret _ [] _ _ kF kN tups_nil ?_
    rw [dottedAt, if_pos (.inr c1)]
    exact DatIn.str _ _
  · have c1 : wordAt x.cps.toList n ∉ dotteds := by assumption
    have c2 : wordAt x.cps.toList n ∉ truths := by assumption
    refine hret _ [] _ _ kF kN tups_nil ?_
    rw [dottedAt, if_neg (not_or.mpr ⟨c1, c2⟩)]
    exact DatIn.str _ _
end Mine
namespace Mine
open PySem PySem.W PyProof.Rows PySem.NumText
set_option maxRecDepth 100000
set_option maxHeartbeats 8000000
theorem told_pair_gives (w : World) (x : Str) (p : Int) (t1 t2 : Tok) (q : Nat × Int) (hq : toldP (digitsVal x.cps.toList) p = q) (ha : AllDigits x.cps.toList) (hne : x.cps.toList ≠ []) (hx : x.length ≤ 640) : Gives w 76 [.str x t1, .int p t2] 1 16 (pairD q) := by
  subst hq
  unfold Gives
  k_fill
  intro mean mg mb dp un gd cn cs a ccd cl outer A₀ base h₀ L m rest s Q E B F X N T hk h1 h2 hret
  refine wpAny_call ?_
  k_dflt (refine' code_def (binds := [(Str.ofString "digits", .str x t1), (Str.ofString "power", .int p t2)]) ?k1 ?k2 ?k3 ?k4 ?k5 ?kA ?kF ?kK ?k6 ?k7 ?k8 ?k9 ?kB ?_ ?c2 ?c3 ?c4 ?c5; (case kA => exact rfl); (case kF => exact rfl); (case kK => assumption); (case k1 => k_asm); (case k2 => k_asm); (case k3 => k_asm); (case k4 => k_asm); (case k5 => k_asm); (case k6 => k_is); (case k7 => k_is); (case k8 => ktr_room); (case k9 => exact BindsTo.of_eq rfl); (case c5 => decide); (case kB => exact locs rfl); (case c2 => exact rfl); (case c3 => exact rfl); (case c4 => exact rfl))
  intro g' L' h' FG' F' N' B' X' T'
  (try k_fold)
  k_with_none
  k_with "call type:int" => (
    (refine PySem.W.KIN.call_text (intText_digits ha hne (by omega)) hx ?_))
  k_with "exec While Compare cons nil" => (
    (rename Fr _ _ _ _ => kF)
    (rename News _ _ _ _ => kN)
    (rw [upd_pre (a := Str.ofString "power") (v := .int p t2) rfl (by decide)] at kF)
    (refine While_inv2 (fun k m nx => ∃ (j : Nat) (i q : Int) (tp tm : Tok), i = (j : Int) ∧ m = (fun y => if y = Str.ofString "power" then some (Value.int q tp) else if y = Str.ofString "m" then some (Value.int i tm) else List.lookup y [(Str.ofString "digits", Value.str x t1), (Str.ofString "power", Value.int p t2)].reverse) ∧ nx = rest ∧ k = j ∧ j ≠ 0 ∧ strip10 j q = strip10 (digitsVal x.cps.toList) p) kF kN ⟨digitsVal x.cps.toList, _, _, _, _, rfl, rfl, rfl, rfl, ?hz, rfl⟩ ?_)
    (case hz => (intro hz; simp [hz] at *))
    (clear kF kN)
    (rintro k m₁ nx h tk kF kN ⟨j, i, q, tp, tm, hi, rfl, rfl, rfl, hj, hJ⟩)
    (try k_fold))
  k_steps
  · have c1 : ((digitsVal x.cps.toList : Nat) : Int) = 0 := by assumption
    rename Fr h₀ _ _ _ => kF
    rename News h₀ _ _ _ => kN
    have e : toldP (digitsVal x.cps.toList) p = (0, 0) := by rw [toldP, if_pos (by omega)]
    refine hret _ [_] _ _ kF kN (tups_cons tups_nil) ?_
    rw [e]
    exact DatIn.tuple (.head _) (.cons (.int _ _) (.cons (.int _ _) .nil))
  · have c1 : i.fmod 10 = 0 := by assumption
    rename Fr g' _ _ _ => kF
    rename News g' _ _ _ => kN
    rw [hi, fmod10] at c1
    have c2 : k % 10 = 0 := by omega
    refine ⟨_, _, _, _, _, rfl, kF, kN, ?_, k / 10, _, _, _, _, ?_, upd_two, rfl, rfl, by omega, ?_⟩
    · omega
    · rw [hi, fdiv10]
    · rw [strip10_on hj c2, hJ]
  · have c1 : i.fmod 10 ≠ 0 := by assumption
    rename Fr h₀ _ _ _ => kF
    rename News h₀ _ _ _ => kN
    rw [hi, fmod10] at c1
    have c0 : digitsVal x.cps.toList ≠ 0 := by
      intro hz
      have : ¬ ((digitsVal x.cps.toList : Nat) : Int) = 0 := by assumption
      omega
    have e : toldP (digitsVal x.cps.toList) p = (k, q) := by
      rw [toldP, if_neg c0, ← hJ, strip10_of (by omega)]
    refine hret _ [_] _ _ kF kN (tups_cons tups_nil) ?_
    rw [e, hi]
    exact DatIn.tuple (.head _) (.cons (.int _ _) (.cons (.int _ _) .nil))
end Mine
namespace Mine
open PySem PySem.W PyProof.Rows PySem.NumText
set_option maxRecDepth 100000
set_option maxHeartbeats 8000000
theorem power_at_gives (w : World) (x : Str) (i0 : Int) (n : Nat) (t1 t2 : Tok) (hi0 : i0 = (n : Int)) (hn : n ≤ 300) (hx : x.length ≤ 300) (q : List Nat × Int × Nat) (hq : powerAt x.cps.toList n = q) : Gives w 83 [.str x t1, .int i0 t2] 3 32 (powD q) := by
  subst hi0 hq
  unfold Gives
  k_fill
  intro mean mg mb dp un gd cn cs a ccd cl outer A₀ base h₀ L m rest s Q E B F X N T hk h1 h2 hret
  refine wpAny_call ?_
  k_dflt (refine' code_def (binds := [(Str.ofString "text", .str x t1), (Str.ofString "at", .int n t2)]) ?k1 ?k2 ?k3 ?k4 ?k5 ?kA ?kF ?kK ?k6 ?k7 ?k8 ?k9 ?kB ?_ ?c2 ?c3 ?c4 ?c5; (case kA => exact rfl); (case kF => exact rfl); (case kK => assumption); (case k1 => k_asm); (case k2 => k_asm); (case k3 => k_asm); (case k4 => k_asm); (case k5 => k_asm); (case k6 => k_is); (case k7 => k_is); (case k8 => ktr_room); (case k9 => exact BindsTo.of_eq rfl); (case c5 => decide); (case kB => exact locs rfl); (case c2 => exact rfl); (case c3 => exact rfl); (case c4 => exact rfl))
  intro g' L' h' FG' F' N' B' X' T'
  (try k_fold)
  k_with_none
  k_with "exec If BoolOp cons nil" => (
    (with_reducible show wpAny _ _ (exec (Stmt.If (PySem.Expr.BoolOp PySem.BoolOp.And _ _) _ _ _) _) _ _ _)
    (rename Fr _ _ _ _ => kF)
    (rename News _ _ _ _ => kN)
    (refine amid (fun f s' => Here (f = .next ∧ ∃ (b : Nat) (i : Int) (t : Tok) (h' : Heap) (tk' : Nat), i = (b : Int) ∧ b = begunAt x.cps.toList n ∧ s' = { s with heap := h', toks := tk' } ∧ Fr g' L' h' (fun y => if y = Str.ofString "begun" then some (.int i t) else List.lookup y [(Str.ofString "text", Value.str x t1), (Str.ofString "at", Value.int (↑n) t2)].reverse) ∧ News g' L' h' rest)) ?mid ?_); (case' mid => (try k_fold)); rotate_left; (rintro _ _ ⟨rfl, b, i, t, h', tk', hi, hb, rfl, kF, kN⟩); (have hb2 := begunAt_le x.cps.toList n); (rw [← hb] at hb2); dsimp only; (try k_fold))
  k_with "call ref cons nil" => (
    (have hr1 := runAt_le x.cps.toList b digs)
    (have hr2 := runAt_ge x.cps.toList b digs)
    (have hr3 := len_eq x)
    (k_dflt (refine' Gives.useI (run_of_gives w _ _ _ digs_is _ b _ _ _ hi (by omega) (by omega)) ?k1 ?k2 ?k3 ?k4 ?k5 ?k6 ?k7 ?k8 ?_; (case k1 => k_asm); (case k2 => k_asm); (case k3 => k_asm); (case k4 => k_asm); (case k5 => k_asm); (case k6 => exact rfl); (case k7 => ktr_room); (case k8 => ktr_units)))
    (intro kt kh ktk kF kN)
    (generalize hE : runAt x.cps.toList b digs = e at *)
    (try k_fold))
  k_with "call type:int" => (
    (refine int_slice b e hi rfl (hE ▸ allDigits_run _ _) ?hne (by omega) ?_)
    (case hne => (intro hz; have hl := cut_length x.cps.toList b e; rw [hz, List.length_nil] at hl; omega)))
  k_steps
  · have c1 : (x.length : Int) ≤ (n : Int) := by assumption
    rename Fr h₀ _ _ _ => kF
    rename News h₀ _ _ _ => kN
    have e0 : powerAt x.cps.toList n = ([], 0, n) := by
      have : x.cps.toList[n]? = none := List.getElem?_eq_none (by rw [← len_eq]; omega)
      rw [powerAt, this]
    refine hret _ [_] _ _ kF kN (tups_cons tups_nil) ?_
    rw [e0]
    exact DatIn.tuple (.head _) (.cons (empty_is ▸ DatIn.str _ _) (.cons (.int _ _) (.cons (DatIn.int _ _) .nil)))
  · have c1 : ¬ (x.length : Int) ≤ (n : Int) := by assumption
    have c2 : (Builtin.Str.occurrences (Str.ofString "ED") (Txt.item x ↑n) 0 (Str.ofString "ED").length 1).isEmpty = true := by assumption
    rename Fr h₀ _ _ _ => kF
    rename News h₀ _ _ _ => kN
    obtain ⟨c, hc⟩ := sign_at (x := x) (n := n) (by omega)
    replace c2 := isIn_no ED_is rfl hc c2
    have e0 : powerAt x.cps.toList n = ([], 0, n) := by
      rw [powerAt, hc]
      simp only
      rw [if_neg c2]
    refine hret _ [_] _ _ kF kN (tups_cons tups_nil) ?_
    rw [e0]
    exact DatIn.tuple (.head _) (.cons (empty_is ▸ DatIn.str _ _) (.cons (.int _ _) (.cons (DatIn.int _ _) .nil)))
  · have c1 : ¬ (x.length : Int) ≤ (n : Int) := by assumption
    have c2 : (Builtin.Str.occurrences (Str.ofString "ED") (Txt.item x ↑n) 0 (Str.ofString "ED").length 1).isEmpty = false := by assumption
    have c3 : (e : Int) = i := by assumption
    rename Fr h₀ _ _ _ => kF
    rename News h₀ _ _ _ => kN
    obtain ⟨c, hc⟩ := sign_at (x := x) (n := n) (by omega)
    replace c2 := isIn_yes ED_is rfl hc c2
    have e0 : powerAt x.cps.toList n = ([], 0, n) := by
      rw [powerAt, hc]
      simp only
      rw [if_pos c2, ← hb, hE, if_pos (by omega)]
    refine hret _ [_] _ _ kF kN (tups_cons tups_nil) ?_
    rw [e0]
    exact DatIn.tuple (.head _) (.cons (empty_is ▸ DatIn.str _ _) (.cons (.int _ _) (.cons (DatIn.int _ _) .nil)))
  · have c1 : ¬ (x.length : Int) ≤ (n : Int) := by assumption
    have c2 : (Builtin.Str.occurrences (Str.ofString "ED") (Txt.item x ↑n) 0 (Str.ofString "ED").length 1).isEmpty = false := by assumption
    have c3 : (e : Int) ≠ i := by assumption
    have c4 : (Txt.item x (↑n + 1) == Str.ofString "-") = true := by assumption
    rename Fr h₀ _ _ _ => kF
    rename News h₀ _ _ _ => kN
    obtain ⟨c, hc⟩ := sign_at (x := x) (n := n) (by omega)
    obtain ⟨d, hd⟩ := sign_at (x := x) (n := n + 1) (by omega)
    replace c2 := isIn_yes ED_is rfl hc c2
    rw [item_beq minus_is (by omega) hd] at c4
    have hd' : d = 45 := by simpa using c4
    have e0 : powerAt x.cps.toList n = ([c], -((digitsVal (cut x.cps.toList b e) : Nat) : Int), e) := by
      rw [powerAt, hc]
      simp only
      rw [if_pos c2, ← hb, hE, if_neg (by omega), if_pos (by rw [hd, hd'])]
    refine hret _ [_] _ _ kF kN (tups_cons tups_nil) ?_
    rw [e0]
    exact DatIn.tuple (.head _) (.cons ((item_some rfl hc) ▸ DatIn.str _ _) (.cons (.int _ _) (.cons (DatIn.int _ _) .nil)))
  · have c1 : ¬ (x.length : Int) ≤ (n : Int) := by assumption
    have c2 : (Builtin.Str.occurrences (Str.ofString "ED") (Txt.item x ↑n) 0 (Str.ofString "ED").length 1).isEmpty = false := by assumption
    have c3 : (e : Int) ≠ i := by assumption
    have c4 : (Txt.item x (↑n + 1) == Str.ofString "-") = false := by assumption
    rename Fr h₀ _ _ _ => kF
    rename News h₀ _ _ _ => kN
    obtain ⟨c, hc⟩ := sign_at (x := x) (n := n) (by omega)
    obtain ⟨d, hd⟩ := sign_at (x := x) (n := n + 1) (by omega)
    replace c2 := isIn_yes ED_is rfl hc c2
    rw [item_beq minus_is (by omega) hd] at c4
    have hd' : d ≠ 45 := by simpa using c4
    have e0 : powerAt x.cps.toList n = ([c], ((digitsVal (cut x.cps.toList b e) : Nat) : Int), e) := by
      rw [powerAt, hc]
      simp only
      rw [if_pos c2, ← hb, hE, if_neg (by omega), if_neg (by rw [hd]; simpa using hd')]
    refine hret _ [_] _ _ kF kN (tups_cons tups_nil) ?_
    rw [e0]
    exact DatIn.tuple (.head _) (.cons ((item_some rfl hc) ▸ DatIn.str _ _) (.cons (.int _ _) (.cons (DatIn.int _ _) .nil)))
  · have c2 : (Builtin.Str.occurrences (Str.ofString "+-") (Txt.item x (↑n + 1)) 0 (Str.ofString "+-").length 1).isEmpty = true := by assumption
    obtain ⟨d, hd⟩ := sign_at (x := x) (n := n + 1) (by omega)
    replace c2 := isIn_no pm_is (by omega) hd c2
    refine ⟨rfl, n + 1, _, _, _, _, ?_, ?_, rfl, kF, kN⟩
    · omega
    · rw [begunAt, hd]; simp only; rw [if_neg c2]
  · have c2 : (Builtin.Str.occurrences (Str.ofString "+-") (Txt.item x (↑n + 1)) 0 (Str.ofString "+-").length 1).isEmpty = false := by assumption
    rename Fr g' _ _ _ => kF
    rename News g' _ _ _ => kN
    obtain ⟨d, hd⟩ := sign_at (x := x) (n := n + 1) (by omega)
    replace c2 := isIn_yes pm_is (by omega) hd c2
    rw [upd_twice] at kF
    refine ⟨rfl, n + 2, _, _, _, _, ?_, ?_, rfl, kF, kN⟩
    · omega
    · rw [begunAt, hd]; simp only; rw [if_pos c2]
  · have c2 : ¬ (n : Int) + 1 < (x.length : Int) := by assumption
    refine ⟨rfl, n + 1, _, _, _, _, ?_, ?_, rfl, kF, kN⟩
    · omega
    · have : x.cps.toList[n + 1]? = none := List.getElem?_eq_none (by rw [← len_eq]; omega)
      rw [begunAt, this]
end Mine
namespace Mine
open PySem PySem.W PyProof.Rows PySem.NumText
set_option maxRecDepth 100000
set_option maxHeartbeats 8000000
theorem number_at_gives (w : World) (x : Str) (i0 : Int) (n : Nat) (t1 t2 : Tok) (hi0 : i0 = (n : Int)) (hn : n ≤ 300) (hx : x.length ≤ 300) (hnd : numDigits x.cps.toList n ≠ []) : Gives w 90 [.str x t1, .int i0 t2] 5 64 (tokD (numberAt x.cps.toList n) n) := by
  subst hi0
  unfold Gives
  k_fill
  intro mean mg mb dp un gd cn cs a ccd cl outer A₀ base h₀ L m rest s Q E B F X N T hk h1 h2 hret
  refine wpAny_call ?_
  k_dflt (refine' code_def (binds := [(Str.ofString "text", .str x t1), (Str.ofString "at", .int n t2)]) ?k1 ?k2 ?k3 ?k4 ?k5 ?kA ?kF ?kK ?k6 ?k7 ?k8 ?k9 ?kB ?_ ?c2 ?c3 ?c4 ?c5; (case kA => exact rfl); (case kF => exact rfl); (case kK => assumption); (case k1 => k_asm); (case k2 => k_asm); (case k3 => k_asm); (case k4 => k_asm); (case k5 => k_asm); (case k6 => k_is); (case k7 => k_is); (case k8 => ktr_room); (case k9 => exact BindsTo.of_eq rfl); (case c5 => decide); (case kB => exact locs rfl); (case c2 => exact rfl); (case c3 => exact rfl); (case c4 => exact rfl))
  intro g' L' h' FG' F' N' B' X' T'
  (try k_fold)
  k_with_none
  obtain ⟨e, hE⟩ : ∃ e, runAt x.cps.toList n digs = e := ⟨_, rfl⟩
  have hr1 := runAt_le x.cps.toList n digs
  have hr2 := runAt_ge x.cps.toList n digs
  have hr3 := len_eq x
  rw [hE] at hr1 hr2
  obtain ⟨⟨lt, pw, en⟩, hq⟩ : ∃ q, powerAt x.cps.toList (numEnd x.cps.toList e) = q := ⟨_, rfl⟩
  have hq1 := powerAt_le x.cps.toList (numEnd x.cps.toList e)
  have hq2 := numEnd_le x.cps.toList e
  rw [hq] at hq1
  dsimp only at hq1
  have hen : (en : Int) - (n : Int) ≤ 1000 := by omega
  k_with "exec Assign cons BoolOp" => (
    (rename Fr _ _ _ _ => kF)
    (rename News _ _ _ _ => kN)
    (refine amid (fun f s' => Here (f = .next ∧ ∃ (hp : Bool) (td te tf : Tok) (h' : Heap) (tk' : Nat), hp = hasPoint x.cps.toList e ∧ s' = { s with heap := h', toks := tk' } ∧ Fr g' L' h' (fun y => (if y = Str.ofString "has_point" then some (.bool hp) else if y = Str.ofString "fraction" then some (.str (Str.ofString "") tf) else if y = Str.ofString "digits" then some (.str (Txt.slice x (some (n : Int)) (some (e : Int))) td) else if y = Str.ofString "end" then some (.int (e : Int) te) else List.lookup y [(Str.ofString "text", Value.str x t1), (Str.ofString "at", Value.int (↑n) t2)].reverse)) ∧ News g' L' h' rest)) ?mid ?_); (case' mid => (try k_fold)); rotate_left; (rintro _ _ ⟨rfl, hp, td, te, tf, h', tk', hhp, rfl, kF, kN⟩); dsimp only; (try k_fold))
  k_with "exec If Name cons nil" => (
    (rename Fr _ _ _ _ => kF)
    (rename News _ _ _ _ => kN)
    (refine amid (fun f s' => Here (f = .next ∧ ∃ (fr : Str) (i : Int) (ti tf : Tok) (bv : Option Value) (h' : Heap) (tk' : Nat), i = (numEnd x.cps.toList e : Int) ∧ fr.cps.toList = fracAt x.cps.toList e ∧ s' = { s with heap := h', toks := tk' } ∧ Fr g' L' h' (fun y => (if y = Str.ofString "end" then some (.int i ti) else if y = Str.ofString "fraction" then some (.str fr tf) else if y = Str.ofString "behind" then bv else if y = Str.ofString "has_point" then some (.bool hp) else if y = Str.ofString "digits" then some (.str (Txt.slice x (some (n : Int)) (some (e : Int))) td) else List.lookup y [(Str.ofString "text", Value.str x t1), (Str.ofString "at", Value.int (↑n) t2)].reverse)) ∧ News g' L' h' rest)) ?mid2 ?_); (case' mid2 => (try k_fold)); rotate_left; (rintro _ _ ⟨rfl, fr, i, ti, tf, bv, h', tk', hi, hfr, rfl, kF, kN⟩); (have hcat : (Txt.slice x (some (n : Int)) (some (e : Int)) ++ fr).cps.toList = numDigits x.cps.toList n := by rw [cat_list, slice_cut x n e rfl rfl, hfr, numDigits, hE]); (have hfl : fr.length = (fracAt x.cps.toList e).length := by rw [len_eq, hfr]); (have hfl2 := fracAt_le x.cps.toList e); (have hcl := Txt.slice_le x (some (n : Int)) (some (e : Int))); dsimp only; (try k_fold))
  k_with "call ref cons nil" => first
   | ((k_dflt (refine' Gives.useI (run_of_gives w _ _ _ digs_is _ n _ _ _ rfl (by omega) (by omega)) ?k1 ?k2 ?k3 ?k4 ?k5 ?k6 ?k7 ?k8 ?_; (case k1 => k_asm); (case k2 => k_asm); (case k3 => k_asm); (case k4 => k_asm); (case k5 => k_asm); (case k6 => exact rfl); (case k7 => ktr_room); (case k8 => ktr_units))); (intro kt kh ktk kF kN); (rw [hE]); (try k_fold))
   | ((k_dflt (refine' Gives.useS (dotted_at_gives w _ _ e _ _ rfl (by omega) (by omega)) ?k1 ?k2 ?k3 ?k4 ?k5 ?k6 ?k7 ?k8 ?_; (case k1 => k_asm); (case k2 => k_asm); (case k3 => k_asm); (case k4 => k_asm); (case k5 => k_asm); (case k6 => exact rfl); (case k7 => ktr_room); (case k8 => ktr_units))); (intro kt kh ktk kF kN); (try k_fold))
   | ((k_dflt (refine' Gives.useI (run_of_gives w _ _ _ digs_is _ (e + 1) _ _ _ rfl (by omega) (by omega)) ?k1 ?k2 ?k3 ?k4 ?k5 ?k6 ?k7 ?k8 ?_; (case k1 => k_asm); (case k2 => k_asm); (case k3 => k_asm); (case k4 => k_asm); (case k5 => k_asm); (case k6 => exact rfl); (case k7 => ktr_room); (case k8 => ktr_units))); (intro kt kh ktk kF kN); (have hs1 := runAt_le x.cps.toList (e + 1) digs); (have hs2 := runAt_ge x.cps.toList (e + 1) digs); (try k_fold))
   | ((k_dflt (refine' Gives.usePow (power_at_gives w _ _ (numEnd x.cps.toList e) _ _ hi (by omega) (by omega) (lt, pw, en) hq) ?k1 ?k2 ?k3 ?k4 ?k5 ?k6 ?k7 ?k8 ?_; (case k1 => k_asm); (case k2 => k_asm); (case k3 => k_asm); (case k4 => k_asm); (case k5 => k_asm); (case k6 => exact rfl); (case k7 => ktr_room); (case k8 => ktr_units))); (intro pb pt1 pt2 pt3 pn kh ktk kF kN); (try k_fold))
   | ((k_dflt (refine' Gives.usePair (told_pair_gives w _ _ _ _ (toldP (digitsVal (numDigits x.cps.toList n)) (pw - ((fracAt x.cps.toList e).length : Int))) (by rw [hcat, hfl]) (hcat ▸ allDigits_num _ _) (by rw [hcat]; exact hnd) (by rw [cat_len]; omega)) ?k1 ?k2 ?k3 ?k4 ?k5 ?k6 ?k7 ?k8 ?_; (case k1 => k_asm); (case k2 => k_asm); (case k3 => k_asm); (case k4 => k_asm); (case k5 => k_asm); (case k6 => exact rfl); (case k7 => ktr_room); (case k8 => ktr_units))); (intro pb2 pt4 pt5 pn2 kh ktk kF kN); (try k_fold))
  k_with "binaryOp Add str str" => ((refine PyProof.Rows.add_str ?_ ?hsz); (case hsz => (rw [show sizeLine = 16777216 from rfl]; omega)); (intro ct ctk))
  k_with "call type:int" => (
    (refine int_slice n e rfl rfl (hE ▸ allDigits_run _ _) ?hne (by omega) ?_)
    (case hne => (intro hz; apply hnd; have hpf : hp = false := (by assumption); rw [numDigits, hE, hz, fracAt, if_neg (by rw [← hhp, hpf]; decide), List.append_nil])))
  k_steps
  · rename Fr h₀ _ _ _ => kF
    rename News h₀ _ _ _ => kN
    have c1 : hp = true := by assumption
    have c3 : (str lt == Str.ofString "D") = true := by assumption
    rw [D_is, str_beq'] at c3
    rw [DBLE_is] at kN
    refine hret _ [_, _, _, _] _ _ kF kN (tups_cons (tups_cons (tups_cons (tups_cons tups_nil)))) ?_
    rw [numberAt_pair hE hq (fun z => by rw [← hhp, c1] at z; cases z.1), if_pos (of_decide_eq_true c3)]
    exact tok_end (.head _) (.tail _ (.head _)) (DatIn.tuple (.tail _ (.tail _ (.head _))) (.cons (.int _ _) (.cons (.int _ _) .nil)))
  · rename Fr h₀ _ _ _ => kF
    rename News h₀ _ _ _ => kN
    have c1 : hp = true := by assumption
    have c3 : (str lt == Str.ofString "D") = false := by assumption
    rw [D_is, str_beq'] at c3
    rw [REAL_is] at kN
    refine hret _ [_, _, _, _] _ _ kF kN (tups_cons (tups_cons (tups_cons (tups_cons tups_nil)))) ?_
    rw [numberAt_pair hE hq (fun z => by rw [← hhp, c1] at z; cases z.1), if_neg (of_decide_eq_false c3)]
    exact tok_end (.head _) (.tail _ (.head _)) (DatIn.tuple (.tail _ (.tail _ (.head _))) (.cons (.int _ _) (.cons (.int _ _) .nil)))
  · rename Fr h₀ _ _ _ => kF
    rename News h₀ _ _ _ => kN
    have c1 : hp = false := by assumption
    have c2 : (str lt == Str.ofString "") = true := by assumption
    rw [empty_is, str_beq'] at c2
    rw [INT_is] at kN
    refine hret _ [_, _, _] _ _ kF kN (tups_cons (tups_cons (tups_cons tups_nil))) ?_
    rw [numberAt_int hE hq (by rw [← hhp, c1]) (of_decide_eq_true c2)]
    exact tok_end (.head _) (.tail _ (.head _)) (DatIn.int _ _)
  · rename Fr h₀ _ _ _ => kF
    rename News h₀ _ _ _ => kN
    have c1 : hp = false := by assumption
    have c2 : (str lt == Str.ofString "") = false := by assumption
    rw [empty_is, str_beq'] at c2
    have c3 : (str lt == Str.ofString "D") = true := by assumption
    rw [D_is, str_beq'] at c3
    rw [DBLE_is] at kN
    refine hret _ [_, _, _, _] _ _ kF kN (tups_cons (tups_cons (tups_cons (tups_cons tups_nil)))) ?_
    rw [numberAt_pair hE hq (fun z => of_decide_eq_false c2 z.2), if_pos (of_decide_eq_true c3)]
    exact tok_end (.head _) (.tail _ (.head _)) (DatIn.tuple (.tail _ (.tail _ (.head _))) (.cons (.int _ _) (.cons (.int _ _) .nil)))
  · rename Fr h₀ _ _ _ => kF
    rename News h₀ _ _ _ => kN
    have c1 : hp = false := by assumption
    have c2 : (str lt == Str.ofString "") = false := by assumption
    rw [empty_is, str_beq'] at c2
    have c3 : (str lt == Str.ofString "D") = false := by assumption
    rw [D_is, str_beq'] at c3
    rw [REAL_is] at kN
    refine hret _ [_, _, _, _] _ _ kF kN (tups_cons (tups_cons (tups_cons (tups_cons tups_nil)))) ?_
    rw [numberAt_pair hE hq (fun z => of_decide_eq_false c2 z.2), if_neg (of_decide_eq_false c3)]
    exact tok_end (.head _) (.tail _ (.head _)) (DatIn.tuple (.tail _ (.tail _ (.head _))) (.cons (.int _ _) (.cons (.int _ _) .nil)))
  · rename Fr g' _ _ _ => kF
    rename News g' _ _ _ => kN
    have c1 : hp = true := by assumption
    have hpp : hasPoint x.cps.toList e = true := by rw [← hhp, c1]
    refine ⟨rfl, Txt.slice x (some ((e : Int) + 1)) (some ((runAt x.cps.toList (e + 1) digs : Nat) : Int)), ((runAt x.cps.toList (e + 1) digs : Nat) : Int), ?t1, ?t2, some (.int ((runAt x.cps.toList (e + 1) digs : Nat) : Int) ?t3), _, _, ?_, ?_, rfl, (congrArg (Fr g' L' _) ?fe).mp kF, kN⟩
    case fe => (funext y; (by_cases hy0 : y = Str.ofString "end"; · (subst hy0; rfl)); (by_cases hy1 : y = Str.ofString "fraction"; · (subst hy1; rfl)); (by_cases hy2 : y = Str.ofString "behind"; · (subst hy2; rfl)); (by_cases hy3 : y = Str.ofString "has_point"; · (subst hy3; rfl)); (by_cases hy4 : y = Str.ofString "digits"; · (subst hy4; rfl)); simp [hy0, hy1, hy2, hy3, hy4])
    · rw [numEnd, if_pos hpp]
    · rw [fracAt, if_pos hpp]; exact slice_cut x (e + 1) _ rfl rfl
  · have c1 : hp = false := by assumption
    have hpp : ¬ hasPoint x.cps.toList e = true := by rw [← hhp, c1]; decide
    refine ⟨rfl, Str.ofString "", (e : Int), te, tf, none, _, _, ?_, ?_, rfl, ?_, kN⟩
    · rw [numEnd, if_neg hpp]
    · rw [fracAt, if_neg hpp, empty_is, toList_str]
    · refine (congrArg (Fr g' L' _) ?_).mp kF
      (funext y; (by_cases hy0 : y = Str.ofString "end"; · (subst hy0; rfl)); (by_cases hy1 : y = Str.ofString "fraction"; · (subst hy1; rfl)); (by_cases hy2 : y = Str.ofString "behind"; · (subst hy2; rfl)); (by_cases hy3 : y = Str.ofString "has_point"; · (subst hy3; rfl)); (by_cases hy4 : y = Str.ofString "digits"; · (subst hy4; rfl)); simp [hy0, hy1, hy2, hy3, hy4])
  · rename Fr g' _ _ _ => kF
    rename News g' _ _ _ => kN
    have c1 : (e : Int) < (x.length : Int) := by assumption
    have c2 : (Txt.item x ↑e == Str.ofString ".") = true := by assumption
    obtain ⟨c, hc⟩ := sign_at (x := x) (n := e) (by omega)
    rw [item_beq point_is rfl hc] at c2
    refine ⟨rfl, _, _, _, _, _, _, ?_, rfl, kF, kN⟩
    rw [hasPoint, hc, of_decide_eq_true c2, empty_is, str_beq']; simp
  · rename Fr g' _ _ _ => kF
    rename News g' _ _ _ => kN
    have c1 : (e : Int) < (x.length : Int) := by assumption
    have c2 : (Txt.item x ↑e == Str.ofString ".") = false := by assumption
    obtain ⟨c, hc⟩ := sign_at (x := x) (n := e) (by omega)
    rw [c2] at kF
    rw [item_beq point_is rfl hc] at c2
    refine ⟨rfl, _, _, _, _, _, _, ?_, rfl, kF, kN⟩
    have c3 := of_decide_eq_false c2
    rw [hasPoint, hc]; simp [c3]
  · rename Fr g' _ _ _ => kF
    rename News g' _ _ _ => kN
    have c1 : ¬ (e : Int) < (x.length : Int) := by assumption
    rw [decide_eq_false c1] at kF
    have hc : x.cps.toList[e]? = none := List.getElem?_eq_none (by rw [← len_eq]; omega)
    refine ⟨rfl, _, _, _, _, _, _, ?_, rfl, kF, kN⟩
    rw [hasPoint, hc]; simp
end Mine
namespace Mine
open PySem
set_option maxRecDepth 100000
set_option maxHeartbeats 8000000
/-- what stands behind LexFault in its own line of classes -/
noncomputable abbrev lexTail : List Value := [.ref 31, .type "Exception", .type "BaseException", .type "object"]
section
variable {prog : Program} {w : World} {M : Model} {A : Around} {E : Value → Shared → Prop} {h : Heap} {g : Array GenState} {d : Drawn} {t : Nat} {os : OsState}
variable {nm q : Str} {N : Addr} {bs : List Value} {hdct : Bool} {sn : List Str} {sub : List Value} {ab : Bool} {col : Option Bool} {dd : Option Addr} {k0 k1 k2 k3 k5 : Option Value}

theorem lex_check_new {rest : List Value} {Q : Unit → Shared → Prop} (hC : h.get? 51 = some (excClassObj nm q 51 N bs lexTail hdct sn sub ab col dd k0 k1 k2 k3 k5 "Exception.__new__"))
    (hq : Q () ⟨h, g, d, t, os⟩) : wpAny M A (checkBuiltinCall "Exception.__new__" ⟨.ref 51 :: rest, []⟩) Q E ⟨h, g, d, t, os⟩ := by
  have F := PySem.F.excBase_Exception
  have hcont : (Value.ref 51 :: lexTail).contains (.type "Exception") = true := by decide
  have hstar := F.noStar
  simp only [checkBuiltinCall, F.newKind, F.newSplit, F.newRow]
  repeat (first | refine wpAny_loadPart_at hC ?_ | (refine wpAny_isSubtype_exc hC ?_; rw [hcont]) | refine wpAny_staticBase_exc hC ?_ | refine wpAny_madeBy_exc hC ?_ | simp only [bne_self_eq_false, Bool.false_eq_true, if_false] | wp_step)
  exact hq

theorem lex_new {R : Result → Shared → Prop} {rest : List Value} (hC : h.get? 51 = some (excClassObj nm q 51 N bs lexTail hdct sn sub ab col dd k0 k1 k2 k3 k5 "Exception.__new__"))
    (hq : R (.ok (.ret (.ref (h.objs.size + 1)))) ⟨(h.push { cls := .type "tuple", data := .seq rest.toArray }).push
      { cls := .ref 51, data := .fields #[.ref h.objs.size, .none, .none, .none, .bool false, .none] }, g, d, t, os⟩) (hrest : rest.length ≤ sizeLine) :
    codeAny (model prog w) A (.builtin "Exception.__new__" ⟨.ref 51 :: rest, []⟩) R ⟨h, g, d, t, os⟩ := by
  have F := PySem.F.excBase_Exception
  have hends := F.ends
  have hcB : (Value.ref 51 :: lexTail).contains (.type "Exception") = true := by decide
  have hcA : (Value.ref 51 :: lexTail).contains (.type "AttributeError") = false := by decide
  have hcN : (Value.ref 51 :: lexTail).contains (.type "NameError") = false := by decide
  refine codeAny_builtinAt F.entry ?_
  unfold Builtin.«BaseException.__new__»
  refine wpAt_bind ?_
  show wpAt _ _ _ (stack >>= _) _ _ _
  refine wpAt_bind (wpAt_stack fun p below => wpAt_of_wpAny ?_)
  wp_walk
  refine wpAt_of_wpAny ?_
  rw [F.owner]
  repeat (first | with_reducible refine wpAny_madeHere_exc F.canon hC ?_ | with_reducible refine wpAny_loadPart_at hC ?_ | (with_reducible refine wpAny_isSubtype_exc hC ?_; first | rw [hcB] | rw [hcA] | rw [hcN]) | wp_step)
  show R _ _
  rw [Heap.size_push]
  exact hq

theorem lex_type_call {mN : Str → Option Value} {rest : List Value} {oI : Obj} {Q : Fin → Shared → Prop}
    (hC : h.get? 51 = some (excClassObj nm q 51 N bs lexTail hdct sn sub ab col dd k0 k1 k2 k3 k5 "Exception.__new__")) (hn : h.Ns N mN) (hi : mN "__init__" = some (.ref 48))
    (hfI : h.get? 48 = some oI) (hfc : oI.cls = .type "function")
    (hq : ∀ h' e, Heap.MadeExcOf h h' e (.ref 51) rest →
      wpAny (model prog w) A (call (.ref 48) (.ref e :: rest)) (fun r s' => r = .none ∧ Q (.done (.ret (.ref e))) s') E ⟨h', g, d, t, os⟩) (hrest : rest.length ≤ sizeLine) :
    wpAny (model prog w) A (Builtin.«type.__call__» ⟨.ref 51 :: rest, []⟩) Q E ⟨h, g, d, t, os⟩ := by
  repeat (first | with_reducible refine wpAny_loadPart_at hC ?_ | with_reducible refine wpAny_madeBy_exc hC ?_ | wp_step)
  refine codeAny_call_builtin_code (Code.quiet_builtin _ PySem.F.excBase_Exception.quiet) (lex_check_new hC ?_)
  refine lex_new hC ?_ hrest
  show wpAny _ _ _ _ _ _
  have hC₁ := Heap.get?_push_of_some { cls := .ref 51, data := .fields #[.ref h.objs.size, .none, .none, .none, .bool false, .none] }
    (Heap.get?_push_of_some { cls := .type "tuple", data := .seq rest.toArray } hC)
  have hfI₁ := Heap.get?_push_of_some { cls := .ref 51, data := .fields #[.ref h.objs.size, .none, .none, .none, .bool false, .none] }
    (Heap.get?_push_of_some { cls := .type "tuple", data := .seq rest.toArray } hfI)
  have hn₁ : ((h.push { cls := .type "tuple", data := .seq rest.toArray }).push { cls := .ref 51, data := .fields #[.ref h.objs.size, .none, .none, .none, .bool false, .none] }).Ns N mN :=
    let ⟨o, es, ep, e, r⟩ := hn; ⟨o, es, ep, Heap.get?_push_of_some _ (Heap.get?_push_of_some _ e), r⟩
  have hget : ((h.push { cls := .type "tuple", data := .seq rest.toArray }).push
      { cls := .ref 51, data := .fields #[.ref h.objs.size, .none, .none, .none, .bool false, .none] }).get? (h.objs.size + 1) = some
      { cls := .ref 51, data := .fields #[.ref h.objs.size, .none, .none, .none, .bool false, .none] } := by heap_get
  have hcC : (Value.ref 51 :: lexTail).contains (.ref 51) = true := by decide
  unfold isInstance
  repeat (first | with_reducible refine wpAny_loadPart_at hget ?_ | (with_reducible refine wpAny_isSubtype_exc hC₁ ?_; rw [hcC]) | wp_step)
  show wpAny _ _ (typeLookup (.ref 51) _) _ _ _
  rw [typeLookup_eq]
  refine wpAny_bind (wpAny_mroOf_exc hC₁ ?_)
  rw [lookupAlong_cons]
  refine wpAny_bind (wpAny_classOwn_exc hC₁ hn₁ ?_)
  rw [hi]
  refine wpAny_pure (wpAny_holding (wpAny_bind ?_))
  unfold bindSpecial
  refine wpAny_bind (wpAny_typeOf (T := "function") ⟨_, hfI₁, hfc⟩ ?_)
  rw [if_pos (by decide)]
  refine wpAny_pure (wpAny_bind (wpAny_mono (hq _ (h.objs.size + 1) ⟨fun b o hb => Heap.get?_push_of_some _ (Heap.get?_push_of_some _ hb), Heap.get?_none_of_le (Nat.le_succ _), h.objs.size, hget, Heap.get?_none_of_le (Nat.le_refl _), ?_⟩) (fun r s' hr => ?_) fun _ _ x => x))
  · exact Heap.get?_push_of_some _ (Heap.get?_push_at rfl rfl)
  · obtain ⟨rfl, hQ⟩ := hr
    wp_walk
    exact hQ

theorem lex_call {mN : Str → Option Value} {rest : List Value} {oI : Obj} {Q : Value → Shared → Prop}
    (hC : h.get? 51 = some (excClassObj nm q 51 N bs lexTail hdct sn sub ab col dd k0 k1 k2 k3 k5 "Exception.__new__")) (hn : h.Ns N mN) (hi : mN "__init__" = some (.ref 48))
    (hfI : h.get? 48 = some oI) (hfc : oI.cls = .type "function")
    (hq : ∀ h' e, Heap.MadeExcOf h h' e (.ref 51) rest →
      wpAny (model prog w) (A.under (.builtin "type.__call__" ⟨.ref 51 :: rest, []⟩)) (call (.ref 48) (.ref e :: rest)) (fun r s' => r = .none ∧ Q (.ref e) s') E ⟨h', g, d, t, os⟩) (hrest : rest.length ≤ sizeLine) :
    wpAny (model prog w) A (call (.ref 51) rest) Q E ⟨h, g, d, t, os⟩ := by
  have f1 := tc_lookup
  have f2 := tc_bind (.ref 51)
  have hT : (⟨h, g, d, t, os⟩ : Shared).TypeIs (.ref 51) "type" := ⟨_, hC, rfl⟩
  refine wpAny_call (codeAny_of_tree ?_)
  show wpAny _ _ (callAny (.ref 51) _) _ _ _
  repeat (any_goals (first | assumption | with_reducible refine wpAny_loadPart_at hC ?_ | wp_step))
  refine ⟨rfl, ?_⟩
  refine codeAny_call_builtin_at (Code.quiet_builtin _ (by decide +kernel)) entry_typeCall (wpAny_check_type_call_sub hC (lex_type_call (hrest := hrest) hC hn hi hfI hfc fun h' e hm => ?_))
  exact hq h' e hm

/-- a LexFault: its dict, its arguments at tt -/
noncomputable abbrev lexObj (od : Option Addr) (tt : Addr) : Obj := { cls := .ref 51, dict := od, data := .fields #[.ref tt, .none, .none, .none, .bool false, .none] }

theorem lex_check_init {e : Addr} {oe : Obj} {rest : List Value} {Q : Unit → Shared → Prop}
    (hC : h.get? 51 = some (excClassObj nm q 51 N bs lexTail hdct sn sub ab col dd k0 k1 k2 k3 k5 "Exception.__new__")) (he : h.get? e = some oe) (hcls : oe.cls = .ref 51) (hq : Q () ⟨h, g, d, t, os⟩) :
    wpAny M A (checkBuiltinCall "Exception.__init__" ⟨.ref e :: rest, []⟩) Q E ⟨h, g, d, t, os⟩ := by
  have F := PySem.F.excBase_Exception
  have hcB : (Value.ref 51 :: lexTail).contains (.type "Exception") = true := by decide
  have hshort := F.noStar
  simp only [checkBuiltinCall, F.initKind, F.initSplit, F.initRow]
  repeat (first | (with_reducible refine wpAny_loadPart_at he ?_; rw [hcls]) | with_reducible refine wpAny_loadPart_at hC ?_ | (with_reducible refine wpAny_isSubtype_exc hC ?_; rw [hcB]) | wp_step)
  refine wpAny_onRaise ?_
  rw [show ∀ (a b : String) (n : Nat), Bind.check ⟨.positional, "*", "Exception", .self, [⟨"args", .varPos, false⟩]⟩ a b n (List.map (fun x => x.fst) ({ pos := Value.ref e :: rest } : Args).kw) = pure () from
    fun a b n => check_star_args _ _ _ _ _ _]
  exact wpAny_pure hq

theorem lex_base_init {e t0 : Addr} {msg : Value} {Q : Value → Shared → Prop}
    (hC : h.get? 51 = some (excClassObj nm q 51 N bs lexTail hdct sn sub ab col dd k0 k1 k2 k3 k5 "Exception.__new__")) (he : h.get? e = some (lexObj none t0))
    (hq : ∀ h' tt, (∀ b o, b ≠ e → h.get? b = some o → h'.get? b = some o) → h'.get? e = some (lexObj none tt) → h.get? tt = none → tt ≠ e → h'.get? tt = some { cls := .type "tuple", data := .seq #[msg] } → Q .none ⟨h', g, d, t, os⟩) :
    wpAny (model prog w) A (call (.builtin "Exception.__init__") [.ref e, msg]) Q E ⟨h, g, d, t, os⟩ := by
  have F := PySem.F.excBase_Exception
  refine wpAny_call (codeAny_call_builtin F.init.plain F.initEntry (lex_check_init hC he rfl ?_))
  wp_walk
  refine hq _ h.objs.size (fun b o hb hbo => ?_) ?_ (Heap.get?_none_of_le (Nat.le_refl _)) (Nat.ne_of_gt (Heap.lt_size he)) ?_
  · rw [Heap.get?_update_other _ _ (Ne.symm hb)]
    exact Heap.get?_push_of_some _ hbo
  · rw [Heap.get?_update_self _ (Heap.get?_push_of_some _ he) rfl]
    rfl
  · rw [Heap.get?_update_other _ _ (Nat.ne_of_lt (Heap.lt_size he))]
    exact Heap.get?_push_at rfl rfl
end
end Mine
namespace Mine
open PySem PySem.W PyProof.Rows PySem.Calls Builtin.ObjectAttr
set_option maxRecDepth 100000
set_option maxHeartbeats 8000000
section
variable {prog : Program} {w : World} {A : Around} {R : Result → Shared → Prop} {E : Value → Shared → Prop} {s : Shared} {K : Frag} {h₀ : Heap} {L : Addr} {m : Str → Option Value} {rest : List (Addr × Obj)}
theorem refuse_lex (self : Value) : refuseLoop self "__setattr__" (.ref 51 :: lexTail) = pure () := by
  rw [refuseLoop_ref, refuseLoop_ref]
  kernel_rfl

theorem lex_osa_open {ox : Obj} {od : Option Obj} {x : Addr} {name : Str} {tk : Tok} {v : Value} (X : K.In s.heap) (I : InstAt s.heap x ox 51 od) (hc : (clsIn K 51).map (·.mro) = some (.ref 51 :: lexTail)) (ht : takerIn K 51 name = some none)
    (h : ∀ b, wpAny (model prog w) A.in1 (storeInOwnDict (.ref x) (.ref 51) (.str name tk) name v b)
      (fun fin s' => match fin with | .done f => R (.ok f) s' | .again c' => c'.quiet = true ∧ codeAny (model prog w) A c' R s') (fun e s' => R (.error e) s') s) :
    codeAny (model prog w) A (.call (.builtin "object.__setattr__") ⟨[.ref x, .str name tk, v], []⟩) R s := by
  have SF := PySem.F.store_object
  obtain ⟨cd, hc, hm0⟩ := Option.map_eq_some_iff.mp hc
  have sub : Looks (model prog w) s.heap (isInstance (.ref x) (.type "object")) true := I.type.andThen (looks_mroIn X (by unfold mroIn; rw [hc, Option.bind_some, hm0]; rfl))
  refine codeAny_call_builtin SF.slot.plain SF.entry (@check_slot (model prog w) _ _ s "object.__setattr__" "object" "__setattr__" (.ref x) [.str name tk, v] [] _ SF.kind SF.split sub (SF.args (.ref x) (.str name tk) v) ?_)
  obtain ⟨attr, ha, hr⟩ := Option.bind_eq_some_iff.mp ht
  have hm : Looks (model prog w) s.heap (mroOf (.ref 51)) cd.mro := (looks_clsIn X hc).andThen .now
  have L3 : Looks (model prog w) s.heap (storeTaker? attr) none := by
    cases attr with
    | none => exact .now
    | some a =>
      obtain ⟨b, hb, e⟩ := Option.map_eq_some_iff.mp hr
      refine (looks_takesIn X hb).andThen ?_
      cases b
      · exact .now
      · cases e
  rw [osa_eq, refuse_eq]
  refine wpAny_bind (wpAny_bind (I.type.here (wpAny_bind (hm.here ?_))))
  rw [hm0, refuse_lex]
  refine wpAny_pure (wpAny_bind (I.type.here (wpAny_bind ((looks_findIn X ha).here (wpAny_bind (L3.here ?_))))))
  exact h _

theorem putL_len (name : Str) (hsh : Int) (key v : Value) : ∀ es : List DictEntry, (putL name hsh key v es).length ≤ es.length + 1
  | [] => Nat.le_refl _
  | e :: r => by
    unfold putL
    split
    · simp
    · have := putL_len name hsh key v r
      simp only [List.length_cons]
      omega

theorem lex_in_dict {d : Addr} {es : List DictEntry} {n : Nat} {name : Str} {tk : Tok} {v : Value} {pre post : List (Addr × Obj)} {Q : PySem.Fin → Shared → Prop} (F : Fr h₀ L s.heap m) (N : News h₀ L s.heap (pre ++ (d, dictOf es n) :: post)) (hl : (getL name es).isSome = true)
    (h1 : ∀ p ∈ pre, p.1 ≠ d) (h2 : ∀ p ∈ post, p.1 ≠ d) (hz : es.length ≤ 100)
    (h : ∀ h', Fr h₀ L h' m → News h₀ L h' (pre ++ (d, dictOf (putL name (PyData.keyHash w.params name) (.str name s.toks) v es) (putN name es n)) :: post) → Q (.done (.ret .none)) { s with heap := h', toks := s.toks + 1 }) :
    wpAny (model prog w) A (storeInDict d (.str name tk) name v) Q E s := by
  obtain ⟨U1, U2⟩ := news_upd (f := Obj.putName name (PyData.keyHash w.params name) (.str name s.toks) v) F N h1 h2 (putName_dict _ _ _ _ _ _) rfl
  have D := (N (d, dictOf es n) (by simp)).1
  have D' := (U2 (d, dictOf (putL name (PyData.keyHash w.params name) (.str name s.toks) v es) (putN name es n)) (by simp)).1
  refine wpAny_bind (wpAny_pure (wpAny_bind ?_))
  unfold nsSet
  refine wpAny_bind (wpAny_bind (wpAny_askSetting (wpAny_pure (wpAny_bind (wpAny_mkText (wpAny_bind (wpAny_loadPart D ?_)))))))
  dsimp only
  have c : (!es.any (·.key.isStr name) && es.any (·.refKey)) = false := by
    unfold getL at hl
    split at hl
    · rename_i en he
      rw [List.any_eq_true.mpr ⟨en, List.mem_of_find?_eq_some he, List.find?_some he⟩]; rfl
    · split at hl
      · cases hl
      · rename_i z; rw [Bool.not_eq_true] at z; rw [z, Bool.and_false]
  rw [aRefKeyMayBeTheName_at]
  simp only [List.any_toArray, c]
  refine wpAny_updatePart D ?_
  refine wpAny_bind (wpAny_lookBehind D' (pastItsLine_dict (by have := putL_len name (PyData.keyHash w.params name) (.str name s.toks) v es; rw [List.size_toArray, sizeLine_eq]; omega)) ?_)
  exact wpAny_pure (h _ U1 U2)

theorem lex_osa_new {e tt : Addr} {name : Str} {tk : Tok} {v : Value} (F : Fr h₀ L s.heap m) (X₀ : K.In h₀) (N : News h₀ L s.heap ((e, lexObj none tt) :: rest)) (hoff : ∀ p ∈ rest, p.1 ≠ e)
    (hc : (clsIn K 51).map (·.mro) = some (.ref 51 :: lexTail)) (hh : hasDictIn K 51 = true) (ht : takerIn K 51 name = some none)
    (h : ∀ h', Fr h₀ L h' m → News h₀ L h' ((e, lexObj (some s.heap.objs.size) tt) :: (s.heap.objs.size, dictOf [⟨PyData.keyHash w.params name, .str name s.toks, v⟩] 1) :: rest) → R (.ok (.ret .none)) { s with heap := h', toks := s.toks + 1 }) :
    codeAny (model prog w) A (.call (.builtin "object.__setattr__") ⟨[.ref e, .str name tk, v], []⟩) R s := by
  have X := X₀.keeps F.keep
  have hx : s.heap.get? e = some (lexObj none tt) := N.get (.head _)
  have I : PySem.W.InstAt s.heap e (lexObj none tt) 51 none := ⟨hx, rfl, rfl, trivial⟩
  refine lex_osa_open X I hc ht fun b => ?_
  obtain ⟨cd, hcd, hd'⟩ := any_some hh
  have hne : e ≠ s.heap.objs.size := Nat.ne_of_lt (Heap.lt_size hx)
  have hx₁ : (s.heap.push { cls := .type "dict", data := .dict #[] }).get? e = some (lexObj none tt) := Heap.get?_push_of_some _ hx
  refine wpAny_bind (wpAny_pure (wpAny_bind (wpAny_bind (wpAny_loadPart hx (wpAny_bind ((looks_clsIn X hcd).here ?_))))))
  rw [hd']
  have N₁ := N.push F { cls := .type "dict", data := .dict #[] }
  have F₁ := F.push { cls := .type "dict", data := .dict #[] }
  obtain ⟨U1, U2⟩ := news_upd (pre := [(s.heap.objs.size, { cls := .type "dict", data := .dict #[] })]) (f := fun o => { o with dict := some s.heap.objs.size }) (o' := lexObj (some s.heap.objs.size) tt) F₁ N₁
    (fun p hp => by rw [List.mem_singleton.mp hp]; exact Ne.symm hne) hoff rfl rfl
  refine wpAny_bind (wpAny_alloc ?_)
  refine wpAny_bind (wpAny_update hx₁ ?_)
  refine wpAny_bind (wpAny_pure (wpAny_pure ?_))
  refine lex_in_dict (s := { s with heap := _ }) (pre := []) (es := []) (n := 0) U1 U2 rfl (fun _ hp => nomatch hp) (fun p hp => ?_) (Nat.zero_le _) fun h' F' N' => ?_
  · rcases List.mem_cons.mp hp with rfl | hp
    · exact hne
    · exact Nat.ne_of_lt (Heap.lt_size (N p (.tail _ hp)).1)
  · refine h h' F' fun p hp => ?_
    rcases List.mem_cons.mp hp with rfl | hp
    · exact N' _ (.tail _ (.head _))
    · rcases List.mem_cons.mp hp with rfl | hp
      · exact N' _ (.head _)
      · exact N' _ (.tail _ (.tail _ hp))

theorem lex_osa_old {e tt dx : Addr} {es : List DictEntry} {n : Nat} {name : Str} {tk : Tok} {v : Value} (F : Fr h₀ L s.heap m) (X₀ : K.In h₀) (N : News h₀ L s.heap ((e, lexObj (some dx) tt) :: (dx, dictOf es n) :: rest)) (hne : e ≠ dx) (hoff : ∀ p ∈ rest, p.1 ≠ dx)
    (hc : (clsIn K 51).map (·.mro) = some (.ref 51 :: lexTail)) (hh : hasDictIn K 51 = true) (ht : takerIn K 51 name = some none) (hl : (getL name es).isSome = true) (hz : es.length ≤ 100)
    (h : ∀ h', Fr h₀ L h' m → News h₀ L h' ((e, lexObj (some dx) tt) :: (dx, dictOf (putL name (PyData.keyHash w.params name) (.str name s.toks) v es) (putN name es n)) :: rest) → R (.ok (.ret .none)) { s with heap := h', toks := s.toks + 1 }) :
    codeAny (model prog w) A (.call (.builtin "object.__setattr__") ⟨[.ref e, .str name tk, v], []⟩) R s := by
  have X := X₀.keeps F.keep
  have hx : s.heap.get? e = some (lexObj (some dx) tt) := N.get (.head _)
  have I : PySem.W.InstAt s.heap e (lexObj (some dx) tt) 51 (some (dictOf es n)) := ⟨hx, rfl, rfl, N.get (.tail _ (.head _))⟩
  refine lex_osa_open X I hc ht fun b => ?_
  obtain ⟨cd, hcd, hd'⟩ := any_some hh
  refine wpAny_bind (wpAny_pure (wpAny_bind (wpAny_bind (wpAny_loadPart hx (wpAny_bind ((looks_clsIn X hcd).here ?_))))))
  rw [hd']
  refine wpAny_pure (a := some dx) ?_
  exact lex_in_dict (pre := [(e, lexObj (some dx) tt)]) F N hl (fun p hp => by rw [List.mem_singleton.mp hp]; exact hne) hoff hz fun h' F' N' => h h' F' N'

theorem lex_set_new {e tt : Addr} {name : Str} {v : Value} {Q : Unit → Shared → Prop} (F : Fr h₀ L s.heap m) (X₀ : K.In h₀) (N : News h₀ L s.heap ((e, lexObj none tt) :: rest)) (hoff : ∀ p ∈ rest, p.1 ≠ e)
    (hs : findIn K (.ref 51) "__setattr__" = some (some (.builtin "object.__setattr__"))) (hc : (clsIn K 51).map (·.mro) = some (.ref 51 :: lexTail)) (hh : hasDictIn K 51 = true) (ht : takerIn K 51 name = some none)
    (h : ∀ dx t h' tk', Fr h₀ L h' m → News h₀ L h' ((e, lexObj (some dx) tt) :: (dx, dictOf [⟨PyData.keyHash w.params name, .str name t, v⟩] 1) :: rest) → e ≠ dx → (∀ p ∈ rest, p.1 ≠ dx) → Q () { s with heap := h', toks := tk' }) :
    wpAny (model prog w) A (setAttr (.ref e) name v) Q E s := by
  have hx : s.heap.get? e = some (lexObj none tt) := N.get (.head _)
  refine set_plain (X₀.keeps F.keep) (⟨hx, rfl, rfl, trivial⟩ : PySem.W.InstAt s.heap e (lexObj none tt) 51 none) hs (lex_osa_new (s := { s with toks := s.toks + 1 }) F X₀ N hoff hc hh ht fun h' F' N' => ?_)
  exact h _ _ h' _ F' N' (Nat.ne_of_lt (Heap.lt_size hx)) fun p hp => Nat.ne_of_lt (Heap.lt_size (N p (.tail _ hp)).1)
theorem lex_set_old {e tt dx : Addr} {es : List DictEntry} {n : Nat} {name : Str} {v : Value} {Q : Unit → Shared → Prop} (F : Fr h₀ L s.heap m) (X₀ : K.In h₀) (N : News h₀ L s.heap ((e, lexObj (some dx) tt) :: (dx, dictOf es n) :: rest)) (hne : e ≠ dx) (hoff : ∀ p ∈ rest, p.1 ≠ dx)
    (hs : findIn K (.ref 51) "__setattr__" = some (some (.builtin "object.__setattr__"))) (hc : (clsIn K 51).map (·.mro) = some (.ref 51 :: lexTail)) (hh : hasDictIn K 51 = true) (ht : takerIn K 51 name = some none) (hl : (getL name es).isSome = true) (hz : es.length ≤ 100)
    (h : ∀ t h' tk', Fr h₀ L h' m → News h₀ L h' ((e, lexObj (some dx) tt) :: (dx, dictOf (putL name (PyData.keyHash w.params name) (.str name t) v es) (putN name es n)) :: rest) → Q () { s with heap := h', toks := tk' }) :
    wpAny (model prog w) A (setAttr (.ref e) name v) Q E s := by
  have hx : s.heap.get? e = some (lexObj (some dx) tt) := N.get (.head _)
  exact set_plain (X₀.keeps F.keep) (⟨hx, rfl, rfl, N.get (.tail _ (.head _))⟩ : PySem.W.InstAt s.heap e (lexObj (some dx) tt) 51 (some (dictOf es n))) hs (lex_osa_old (s := { s with toks := s.toks + 1 }) F X₀ N hne hoff hc hh ht hl hz fun h' F' N' => h _ h' _ F' N')
end
end Mine
namespace Mine
open PySem PySem.W PyProof.Rows PySem.NumText
set_option maxRecDepth 100000
set_option maxHeartbeats 8000000
theorem lex_cls {w : World} {h : Heap} (X : (hd.heap_1 w.params).In h) : ∃ nm q bs hdct sn sub ab col dd k0 k1 k2 k3 k5, h.get? 51 = some (excClassObj nm q 51 50 bs lexTail hdct sn sub ab col dd k0 k1 k2 k3 k5 "Exception.__new__") :=
  ⟨_, _, _, _, _, _, _, _, _, _, _, _, _, _, X 51 _ rfl⟩
theorem lex_base_does {prog : Program} {w : World} {A : Around} {E : Value → Shared → Prop} {s : Shared} {h₀ : Heap} {L : Addr} {m : Str → Option Value} {rest : List (Addr × Obj)} {e t0 : Addr} {msg : Value} {Q : Value → Shared → Prop}
    (F : Fr h₀ L s.heap m) (X₀ : (hd.heap_1 w.params).In h₀) (N : News h₀ L s.heap ((e, lexObj none t0) :: rest)) (hoff : ∀ p ∈ rest, p.1 ≠ e)
    (h : ∀ tt h', Fr h₀ L h' m → News h₀ L h' ((e, lexObj none tt) :: (tt, { cls := .type "tuple", data := .seq #[msg] }) :: rest) → tt ≠ e → (∀ p ∈ rest, p.1 ≠ tt) → Q .none { s with heap := h' }) :
    wpAny (model prog w) A (call (.builtin "Exception.__init__") [.ref e, msg]) Q E s := by
  obtain ⟨nm, q, bs, hdct, sn, sub, ab, col, dd, k0, k1, k2, k3, k5, hC⟩ := lex_cls (X₀.keeps F.keep)
  have hx := N.get (.head _)
  have hf := N.fresh (.head _)
  obtain ⟨hp, g, d, t, os⟩ := s
  refine lex_base_init hC hx fun h' tt k1 k2 k3 k4 k5 => ?_
  have hLe : L ≠ e := fun z => (N _ (.head _)).2.1 z.symm
  refine h tt h' ?_ ?_ k4 fun p hp z => ?_
  · obtain ⟨oL, a1, a2, hL, a3⟩ := F.ns
    refine ⟨⟨oL, a1, a2, k1 _ _ hLe hL, a3⟩, fun b o hb => k1 b o (fun z => ?_) (F.keep b o hb), F.above⟩
    rw [z, hf] at hb; cases hb
  · have nt : tt ≠ L := fun z => by obtain ⟨oL, a1, a2, hL, a3⟩ := F.ns; rw [z, hL] at k3; cases k3
    have nt0 : h₀.get? tt = none := by
      cases z : h₀.get? tt with
      | none => rfl
      | some o => have := F.keep _ _ z; rw [k3] at this; cases this
    intro p hp
    rcases List.mem_cons.mp hp with rfl | hp
    · exact ⟨k2, fun z => hLe z.symm, hf⟩
    · rcases List.mem_cons.mp hp with rfl | hp
      · exact ⟨k5, nt, nt0⟩
      · have P := N p (.tail _ hp)
        exact ⟨k1 _ _ (hoff p hp) P.1, P.2⟩
  · have P := (N p (.tail _ hp)).1
    rw [z] at P
    dsimp only at P k3
    rw [k3] at P; cases P

theorem f77_init_does (w : World) (msg : Str) (t2 : Tok) (mean : ExcName → Option Value) (mg mb : Str → Option Value) (dp un : Nat) (gd : Option (List Code)) (cn : Str) (cs : Scope) (a : Addr) (ccd : Value) (cl : List (Str × Addr)) (outer : List Env) (A₀ : Around) (base h₀ : Heap) (L : Addr)
    (m : Str → Option Value) (rest : List (Addr × Obj)) (s : Shared) (Q E : Value → Shared → Prop) (e t0 : Addr)
    (B : Below A₀ base outer h₀) (F : Fr h₀ L s.heap m) (N : News h₀ L s.heap ((e, lexObj none t0) :: rest)) (hoff : ∀ p ∈ rest, p.1 ≠ e) (T : Top lawView (looseW lawView []) mean mg mb h₀) (hk : cs.kind = .function) (h1 : dp + 4 < recursionLimit) (h2 : un + 64 < cLine)
    (hret : ∀ dx tt tk h' tk', Fr h₀ L h' m → News h₀ L h' ((e, lexObj (some dx) tt) :: (dx, dictOf [⟨PyData.keyHash w.params "text", .str "text" tk, .str msg t2⟩] 1) :: (tt, { cls := .type "tuple", data := .seq #[.str msg t2] }) :: rest) → e ≠ dx → (∀ p ∈ rest, p.1 ≠ dx) → tt ≠ dx → tt ≠ e → (∀ p ∈ rest, p.1 ≠ tt) → Q .none { s with heap := h', toks := tk' }) :
    (hd.heap_1 w.params).In h₀ → wpAny (model PySem.Challenge.rw_no0240_01.row.prog w) (ktrTop dp un gd cn cs L a ccd cl outer) (call (.ref 28) [.ref e, .str msg t2]) Q E s := by
  k_fill
  intro X
  refine wpAny_call ?_
  k_dflt (refine' code_def (binds := [(Str.ofString "self", .ref e), (Str.ofString "text", .str msg t2)]) ?k1 ?k2 ?k3 ?k4 ?k5 ?kA ?kF ?kK ?k6 ?k7 ?k8 ?k9 ?kB ?_ ?c2 ?c3 ?c4 ?c5; (case kA => exact rfl); (case kF => exact rfl); (case kK => assumption); (case k1 => k_asm); (case k2 => k_asm); (case k3 => k_asm); (case k4 => k_asm); (case k5 => k_asm); (case k6 => k_is); (case k7 => k_is); (case k8 => ktr_room); (case k9 => exact BindsTo.of_eq rfl); (case c5 => decide); (case kB => exact locs rfl); (case c2 => exact rfl); (case c3 => exact rfl); (case c4 => exact rfl))
  intro g' L' h' FG' F' N' B' X' T'
  (try k_fold)
  k_with_none
  k_with "getMethod type:Exception" => (k_dflt (refine' method_type ?F ?X ?m (by decide +kernel) ?e ?h ?_; (case F => k_asm); (case X => k_asm); (case m => kernel_rfl); (case e => k_is); (case h => k_handed)))
  k_with "call builtin:Exception.__init__" => ((k_dflt (refine' lex_base_does ?F ?X ?N ?o ?_; (case F => k_asm); (case X => k_asm); (case N => k_asm); (case o => assumption))); (intro tt kh kF kN ktt koff); (try k_fold))
  k_with "setAttr ref" => ((k_dflt (refine' lex_set_new ?F ?X ?N ?o ?hs ?hc ?hh ?ht ?_; (case F => k_asm); (case X => k_asm); (case N => k_asm); (case o => exact List.forall_mem_cons.mpr ⟨by assumption, hoff⟩); (case hs => k_is); (case hc => kernel_rfl); (case hh => k_is); (case ht => k_is))); (intro dx kt kh ktk kF kN ke koff2); (try k_fold))
  k_steps
  rename Fr h₀ _ _ _ => kF9
  rename News h₀ _ _ _ => kN9
  exact hret _ _ _ _ _ kF9 kN9 ke (fun p hp => koff2 p (.tail _ hp)) (koff2 _ (.head _)) ktt koff

theorem lex_init_does (w : World) (n : Int) (msg : Str) (t1 t2 : Tok) (mean : ExcName → Option Value) (mg mb : Str → Option Value) (dp un : Nat) (gd : Option (List Code)) (cn : Str) (cs : Scope) (a : Addr) (ccd : Value) (cl : List (Str × Addr)) (outer : List Env) (A₀ : Around) (base h₀ : Heap) (L : Addr)
    (m : Str → Option Value) (rest : List (Addr × Obj)) (s : Shared) (Q E : Value → Shared → Prop) (e t0 : Addr)
    (B : Below A₀ base outer h₀) (F : Fr h₀ L s.heap m) (N : News h₀ L s.heap ((e, lexObj none t0) :: rest)) (hoff : ∀ p ∈ rest, p.1 ≠ e) (T : Top lawView (looseW lawView []) mean mg mb h₀) (hk : cs.kind = .function) (h1 : dp + 6 < recursionLimit) (h2 : un + 96 < cLine)
    (hret : ∀ dx tt tk1 tk2 h' tk', Fr h₀ L h' m → News h₀ L h' ((e, lexObj (some dx) tt) :: (dx, dictOf [⟨PyData.keyHash w.params "text", .str "text" tk1, .str msg t2⟩, ⟨PyData.keyHash w.params "at", .str "at" tk2, .int n t1⟩] 2) :: (tt, { cls := .type "tuple", data := .seq #[.str msg t2] }) :: rest) → e ≠ dx → (∀ p ∈ rest, p.1 ≠ dx) → tt ≠ dx → tt ≠ e → (∀ p ∈ rest, p.1 ≠ tt) → Q .none { s with heap := h', toks := tk' }) :
    (hd.heap_1 w.params).In h₀ → wpAny (model PySem.Challenge.rw_no0240_01.row.prog w) (ktrTop dp un gd cn cs L a ccd cl outer) (call (.ref 48) [.ref e, .int n t1, .str msg t2]) Q E s := by
  k_fill
  intro X
  refine wpAny_call ?_
  k_dflt (refine' code_def (binds := [(Str.ofString "self", .ref e), (Str.ofString "at", .int n t1), (Str.ofString "text", .str msg t2)]) ?k1 ?k2 ?k3 ?k4 ?k5 ?kA ?kF ?kK ?k6 ?k7 ?k8 ?k9 ?kB ?_ ?c2 ?c3 ?c4 ?c5; (case kA => exact rfl); (case kF => exact rfl); (case kK => assumption); (case k1 => k_asm); (case k2 => k_asm); (case k3 => k_asm); (case k4 => k_asm); (case k5 => k_asm); (case k6 => k_is); (case k7 => k_is); (case k8 => ktr_room); (case k9 => exact BindsTo.of_eq rfl); (case c5 => decide); (case kB => exact locs rfl); (case c2 => exact rfl); (case c3 => exact rfl); (case c4 => exact rfl))
  intro g' L' h' FG' F' N' B' X' T'
  (try k_fold)
  k_with_none
  k_with "call ref cons nil" => ((k_dflt (refine' f77_init_does w _ _ _ _ _ _ _ _ _ _ _ _ _ _ _ _ _ _ _ _ _ _ _ _ _ ?k1 ?k2 ?k3 ?k4 ?k5 ?k6 ?k7 ?k8 ?_ ?k9; (case k1 => k_asm); (case k2 => k_asm); (case k3 => k_asm); (case k4 => assumption); (case k5 => k_asm); (case k6 => exact rfl); (case k7 => ktr_room); (case k8 => ktr_units); (case k9 => k_asm))); (intro dx tt kt kh ktk kF kN ke koff ktt ktte kofft); (try k_fold))
  k_with "setAttr ref" => ((k_dflt (refine' lex_set_old ?F ?X ?N ?ne ?o ?hs ?hc ?hh ?ht ?hl ?hz ?_; (case F => k_asm); (case X => k_asm); (case N => k_asm); (case ne => assumption); (case o => exact List.forall_mem_cons.mpr ⟨ktt, koff⟩); (case hs => k_is); (case hc => kernel_rfl); (case hh => k_is); (case ht => k_is); (case hl => exact rfl); (case hz => exact Nat.le_of_ble_eq_true rfl))); (intro kt2 kh ktk kF kN); (try k_fold))
  k_steps
  rename Fr h₀ _ _ _ => kF9
  rename News h₀ _ _ _ => kN9
  exact hret _ _ _ _ _ _ kF9 kN9 ke koff ktt ktte kofft
end Mine
namespace Mine
open PySem PySem.W PyProof.Rows PySem.NumText
set_option maxRecDepth 100000
set_option maxHeartbeats 8000000
/-- a LexFault's own dict -/
noncomputable abbrev lexDict (w : World) (msg : Str) (t2 : Tok) (n : Int) (t1 tk1 tk2 : Tok) : Obj := dictOf [⟨PyData.keyHash w.params "text", .str "text" tk1, .str msg t2⟩, ⟨PyData.keyHash w.params "at", .str "at" tk2, .int n t1⟩] 2
theorem lex_ns {w : World} {h : Heap} (X : (hd.heap_1 w.params).In h) : ∃ mN oI, h.Ns 50 mN ∧ mN "__init__" = some (.ref 48) ∧ h.get? 48 = some oI ∧ oI.cls = .type "function" := by
  refine ⟨_, _, ⟨_, _, _, X 50 _ rfl, rfl, ?_, fun _ => rfl⟩, ?_, X 48 _ rfl, rfl⟩
  · intro e he
    simp only [List.mem_toArray, List.mem_cons, List.not_mem_nil, or_false] at he
    rcases he with rfl | rfl | rfl | rfl | rfl <;> exact ⟨_, _, rfl⟩
  · kernel_rfl
theorem lex_made (w : World) (n : Int) (msg : Str) (t1 t2 : Tok) {mean : ExcName → Option Value} {mg mb : Str → Option Value} {dp un : Nat} {gd : Option (List Code)} {cn : Str} {cs : Scope} {a : Addr} {ccd : Value} {cl : List (Str × Addr)} {outer : List Env} {A₀ : Around} {base h₀ : Heap} {L : Addr}
    {m : Str → Option Value} {rest : List (Addr × Obj)} {s : Shared} {Q E : Value → Shared → Prop}
    (B : Below A₀ base outer h₀) (F : Fr h₀ L s.heap m) (X : (hd.heap_1 w.params).In h₀) (N : News h₀ L s.heap rest) (T : Top lawView (looseW lawView []) mean mg mb h₀) (hk : cs.kind = .function) (h1 : dp + 8 < recursionLimit) (h2 : un + 128 < cLine)
    (hret : ∀ e dx tt tk1 tk2 h' tk', Fr h₀ L h' m → News h₀ L h' ((e, lexObj (some dx) tt) :: (dx, lexDict w msg t2 n t1 tk1 tk2) :: (tt, { cls := .type "tuple", data := .seq #[.str msg t2] }) :: rest) → e ≠ dx → tt ≠ dx → tt ≠ e → (∀ p ∈ rest, p.1 ≠ e) → (∀ p ∈ rest, p.1 ≠ tt) → Q (.ref e) { s with heap := h', toks := tk' }) :
    wpAny (model PySem.Challenge.rw_no0240_01.row.prog w) (ktrTop dp un gd cn cs L a ccd cl outer) (call (.ref 51) [.int n t1, .str msg t2]) Q E s := by
  have XH := X.keeps F.keep
  obtain ⟨nm, q, bs, hdct, sn, sub, ab, col, dd, k0, k1, k2, k3, k5, hC⟩ := lex_cls XH
  obtain ⟨mN, oI, hn, hi, hfI, hfc⟩ := lex_ns XH
  obtain ⟨hp, g, d, t, os⟩ := s
  refine lex_call hC hn hi hfI hfc (fun h' e hm => ?_) (by rw [show sizeLine = 16777216 from rfl]; simp only [List.length_cons, List.length_nil]; omega)
  obtain ⟨t0, k1, k2, k3⟩ := hm.there
  have F' := F.keptAll hm.keeps
  have nl : ∀ b, hp.get? b = none → b ≠ L ∧ h₀.get? b = none := fun b hb => by
    refine ⟨fun z => ?_, ?_⟩
    · obtain ⟨oL, a1, a2, hL, a3⟩ := F.ns
      rw [z, hL] at hb; cases hb
    · cases z : h₀.get? b with
      | none => rfl
      | some o => have := F.keep _ _ z; rw [hb] at this; cases this
  have N' : News h₀ L h' ((e, lexObj none t0) :: rest) := fun p hq => by
    rcases List.mem_cons.mp hq with rfl | hq
    · exact ⟨k1, nl e hm.new⟩
    · exact ⟨hm.keeps _ _ (N p hq).1, (N p hq).2⟩
  refine lex_init_does w n msg t1 t2 mean mg mb _ _ _ cn cs a ccd cl outer A₀ base h₀ L m rest _ _ _ e t0 B F' N' (fun p hq z => ?_) T hk ?_ ?_ (fun dx tt tk1 tk2 h'' tk' F'' N'' k1 _ k2 k3 k4 => ⟨rfl, hret e dx tt tk1 tk2 h'' tk' F'' N'' k1 k2 k3 (fun p hp z => by have P := (N p hp).1; dsimp only at P; rw [z, hm.new] at P; cases P) k4⟩) X
  · have P := (N p hq).1
    dsimp only at P
    rw [z, hm.new] at P; cases P
  · show dp + 1 + 6 < recursionLimit
    omega
  · show un + 1 + 96 < cLine
    omega
end Mine
namespace Mine
open PySem
set_option maxRecDepth 100000
set_option maxHeartbeats 8000000
section
variable {M : Model} {A : Around} {E : Value → Shared → Prop} {env : Env}
theorem lex_raiseStmt {w : World} {s : Shared} {x : Sem Value} {Q : Flow → Shared → Prop} (hh : A.handled = none)
    (h : wpAny M A x (fun v s₁ => ∃ e od t, v = .ref e ∧ (hd.heap_1 w.params).In s₁.heap ∧ s₁.heap.get? e = some (lexObj od t) ∧ E (.ref e) s₁) E s) :
    wpAny M A (raiseStmt env (some x) none) Q E s := by
  have hcB : (Value.ref 51 :: lexTail).contains (.type "BaseException") = true := by decide
  unfold raiseStmt
  refine wpAny_bind (wpAny_mono h (fun v s₁ h₁ => ?_) fun _ _ x => x)
  obtain ⟨e, od, t, rfl, X, he, hE⟩ := h₁
  obtain ⟨nm, q, bs, hdct, sn, sub, ab, col, dd, k0, k1, k2, k3, k5, hC⟩ := lex_cls X
  obtain ⟨hp, g, d, tk, os⟩ := s₁
  repeat (first | with_reducible refine wpAny_loadPart_at he ?_ | with_reducible refine wpAny_loadPart_at hC ?_ | (with_reducible refine wpAny_isSubtype_exc hC ?_; rw [hcB]) | wp_step)
  exact wpAny_raiseNew_none hh hE
theorem lex_raise {w : World} {s : Shared} {x : Expr} {pos : Pos} {Q : Flow → Shared → Prop} (hh : A.handled = none)
    (h : wpAny M A (eval x env) (fun v s₁ => ∃ e od t, v = .ref e ∧ (hd.heap_1 w.params).In s₁.heap ∧ s₁.heap.get? e = some (lexObj od t) ∧ E (.ref e) s₁) E s) :
    wpAny M A (exec (.Raise (some x) none pos) env) Q E s := by
  rw [arm_exec_Raise]
  simp only [evalOpt, Option.map]
  refine wpAny_bind (wpAny_standAt (lex_raiseStmt (w := w) hh ?_))
  exact wpAny_bind (wpAny_mono h (fun v s₃ h₃ => wpAny_bind (wpAny_standAt (wpAny_pure h₃))) fun _ _ x => x)
end
end Mine
namespace Mine
open PySem
set_option maxRecDepth 100000
set_option maxHeartbeats 8000000
/-- the tree leaves every object's dict where it is, and calls nothing -/
noncomputable def Kd {α : Type} : Sem α → Prop
  | .pure _ => True
  | .raise _ => True
  | .unsupported _ => True
  | .finish _ => True
  | .rule _ k => Kd (k ())
  | .at _ k => Kd (k ())
  | .load _ _ k => ∀ o, Kd (k o)
  | .update _ _ f k => (∀ o, (f o).dict = o.dict ∧ (f o).isFreed = o.isFreed) ∧ Kd (k ())
  | .alloc _ k => ∀ a, Kd (k a)
  | .point _ k => Kd (k ())
  | .fresh k => ∀ t, Kd (k t)
  | .ask k => ∀ t, Kd (k t)
  | .stack k => ∀ t, Kd (k t)
  | .handled _ k => ∀ t, Kd (k t)
  | _ => False
theorem Kd.bind {α β : Type} {m : Sem α} {f : α → Sem β} (hm : Kd m) (hf : ∀ a, Kd (f a)) : Kd (m >>= f) := by
  show Kd (m.bind f)
  induction m with
  | pure a => exact hf a
  | raise _ => trivial
  | unsupported _ => trivial
  | finish _ => trivial
  | rule _ k ih => exact ih () hm
  | «at» _ k ih => exact ih () hm
  | load _ _ k ih => exact fun o => ih o (hm o)
  | update _ _ f' k ih => exact ⟨hm.1, ih () hm.2⟩
  | alloc _ k ih => exact fun o => ih o (hm o)
  | point _ k ih => exact ih () hm
  | fresh k ih => exact fun o => ih o (hm o)
  | ask k ih => exact fun o => ih o (hm o)
  | stack k ih => exact fun o => ih o (hm o)
  | handled _ k ih => exact fun o => ih o (hm o)
  | loadIfAlive _ _ _ => exact hm.elim
  | register _ _ _ => exact hm.elim
  | choose _ _ _ _ => exact hm.elim
  | os _ _ _ _ => exact hm.elim
  | call _ _ _ _ _ _ => exact hm.elim
  | newGen _ _ _ => exact hm.elim
  | genState _ _ _ => exact hm.elim
  | resume _ _ _ _ _ => exact hm.elim
  | yield _ _ _ _ _ => exact hm.elim
  | fork _ _ _ => exact hm.elim
  | thread _ _ => exact hm.elim
  | await _ _ _ _ _ _ => exact hm.elim
noncomputable def DictAt (e : Addr) (d : Option Addr) (h : Heap) : Prop := ∃ o, h.get? e = some o ∧ o.dict = d
theorem DictAt.update {e : Addr} {d : Option Addr} {h : Heap} (D : DictAt e d h) (a : Addr) {f : Obj → Obj} (hf : ∀ o, (f o).dict = o.dict ∧ (f o).isFreed = o.isFreed) : DictAt e d (h.update a f) := by
  obtain ⟨o, ho, hd⟩ := D
  by_cases z : a = e
  · subst z
    exact ⟨f o, Heap.get?_update_self _ ho ((hf o).2.trans (Heap.get?_some_iff.mp ho).2), (hf o).1.trans hd⟩
  · exact ⟨o, (Heap.get?_update_other _ _ z).trans ho, hd⟩
theorem wp_kd {α : Type} {M : Model} {Γ : Ctx} {e : Addr} {d : Option Addr} {t : Sem α} {Q : α → Pos → Shared → Prop} {E : Value → Pos → Shared → Prop} (hk : Kd t) : ∀ {p : Pos} {s : Shared}, DictAt e d s.heap → Sem.wp M Γ t Q E p s →
    Sem.wp M Γ t (fun a p' s' => Q a p' s' ∧ DictAt e d s'.heap) (fun v p' s' => E v p' s' ∧ DictAt e d s'.heap) p s := by
  induction t with
  | pure a => intro p s D h; rw [Sem.wp] at h ⊢; exact ⟨h, D⟩
  | raise _ => intro p s D h; rw [Sem.wp] at h ⊢; exact ⟨h, D⟩
  | unsupported _ => intro p s D h; rw [Sem.wp] at h; exact h.elim
  | finish _ => intro p s D h; rw [Sem.wp] at h; exact h.elim
  | rule _ k ih => intro p s D h; rw [Sem.wp] at h ⊢; exact ih () hk D h
  | «at» _ k ih => intro p s D h; rw [Sem.wp] at h ⊢; exact ih () hk D h
  | load _ _ k ih => intro p s D h; rw [Sem.wp] at h ⊢; obtain ⟨o, ho, h⟩ := h; exact ⟨o, ho, ih o (hk o) D h⟩
  | update a _ f' k ih => intro p s D h; rw [Sem.wp] at h ⊢; exact ⟨h.1, ih () hk.2 (D.update a hk.1) h.2⟩
  | alloc ob k ih =>
    intro p s D h
    rw [Sem.wp] at h ⊢
    obtain ⟨o, ho, hd⟩ := D
    exact ih _ (hk _) ⟨o, Heap.get?_push_of_some _ ho, hd⟩ h
  | point _ k ih => intro p s D h; rw [Sem.wp] at h ⊢; exact ih () hk D h
  | fresh k ih => intro p s D h; rw [Sem.wp] at h ⊢; exact ih _ (hk _) D h
  | ask k ih => intro p s D h; rw [Sem.wp] at h ⊢; exact ih _ (hk _) D h
  | stack k ih => intro p s D h; rw [Sem.wp] at h ⊢; exact ih _ (hk _) D h
  | handled _ k ih => intro p s D h; rw [Sem.wp] at h ⊢; exact ih _ (hk _) D h
  | loadIfAlive _ _ _ => exact hk.elim
  | register _ _ _ => exact hk.elim
  | choose _ _ _ _ => exact hk.elim
  | os _ _ _ _ => exact hk.elim
  | call _ _ _ _ _ _ => exact hk.elim
  | newGen _ _ _ => exact hk.elim
  | genState _ _ _ => exact hk.elim
  | resume _ _ _ _ _ => exact hk.elim
  | yield _ _ _ _ _ => exact hk.elim
  | fork _ _ _ => exact hk.elim
  | thread _ _ => exact hk.elim
  | await _ _ _ _ _ _ => exact hk.elim
theorem wpAny_kd {α : Type} {M : Model} {A : Around} {e : Addr} {d : Option Addr} {t : Sem α} {Q : α → Shared → Prop} {E : Value → Shared → Prop} {s : Shared} (hk : Kd t) (D : DictAt e d s.heap) (h : wpAny M A t Q E s) :
    wpAny M A t (fun a s' => Q a s' ∧ DictAt e d s'.heap) (fun v s' => E v s' ∧ DictAt e d s'.heap) s := fun Γ p hΓ => wp_kd hk D (h Γ p hΓ)

theorem kd_pure {α : Type} (a : α) : Kd (pure a : Sem α) := trivial
theorem kd_unsup {α : Type} (w : String) : Kd (unsupported w : Sem α) := trivial
theorem kd_fieldsOf (v : Value) : Kd (fieldsOf v) := by
  unfold fieldsOf
  split
  · refine .bind (fun o => trivial) fun o => ?_
    split <;> trivial
  · trivial
theorem kd_field (v : Value) (i : Nat) : Kd (field v i) := by
  unfold field
  refine .bind (kd_fieldsOf v) fun vs => ?_
  split <;> trivial
theorem mapFields_dict (f : Array Value → Array Value) (o : Obj) : (Obj.mapFields f o).dict = o.dict ∧ (Obj.mapFields f o).isFreed = o.isFreed := by
  obtain ⟨c, d, dt, sl⟩ := o
  cases dt <;> exact ⟨rfl, rfl⟩
theorem kd_setField (v : Value) (i : Nat) (x : Value) : Kd (setField v i x) := by
  unfold setField
  split
  · unfold updateField
    refine .bind (fun o => trivial) fun o => ?_
    split
    · split
      · exact ⟨mapFields_dict _, trivial⟩
      · trivial
    · trivial
  · trivial
theorem kd_setFlight (v : Value) (f : Option Addr) : Kd (setFlight v f) := by
  unfold setFlight
  refine .bind (kd_field _ _) fun tb => ?_
  split
  · exact kd_setField _ _ _
  · trivial
theorem kd_readyFrames : ∀ l : List Env, Kd (readyFrames l)
  | [] => trivial
  | env :: outer => by
    unfold readyFrames
    split
    · refine .bind (fun o => trivial) fun o => ?_
      split
      · trivial
      · refine .bind ?_ fun im => .bind ?_ fun bk => .bind ⟨fun o => ⟨rfl, by cases o with | mk c d dt sl => cases dt <;> rfl⟩, trivial⟩ fun _ => kd_readyFrames outer
        · unfold behindIsImport
          split
          · trivial
          · split
            · trivial
            · exact .bind (kd_field _ _) fun _ => trivial
        · cases outer with
          | nil =>
            unfold keptBack
            split
            · split
              · trivial
              · unfold underTheClaimsCaller
                exact .bind (.bind (fun _ => trivial) fun _ => trivial) fun _ => trivial
            · trivial
          | cons _ _ => trivial
    · trivial
theorem kd_frameOf (env : Env) : Kd (frameOf env) := by
  unfold frameOf
  refine .bind (.bind (fun _ => trivial) fun _ => trivial) fun l => .bind ?_ fun r => ?_
  · unfold frameObject
    split
    · trivial
    · exact .bind (kd_readyFrames _) fun _ => trivial
  · split <;> trivial
theorem kd_entryPlaceOf (f : Addr) (b : Bool) : Kd (entryPlaceOf f b) := by
  unfold entryPlaceOf
  refine .bind (fun _ => trivial) fun acts => ?_
  split <;> trivial
theorem kd_newEntry (a b c d e : Value) (l : List Value) : Kd (EntryCells.newEntry a b c d e l) := by
  unfold EntryCells.newEntry newFields newObj newObjAsIs
  dsimp only
  (repeat' split) <;> first
    | exact .bind trivial fun _ => .bind (fun _ => trivial) fun _ => trivial
    | exact .bind (fun _ => trivial) fun _ => trivial
theorem kd_noteFrame (v : Value) (env : Env) : Kd (noteFrame v env) := by
  unfold noteFrame
  have tail : ∀ head : Value, Kd (do setField v 1 (← EntryCells.newEntry head (← frameOf env) .none (rawInt (env.frame.getD 0)) .none (← entryPlaceOf (env.frame.getD 0) (head != .none)))) := fun head =>
    .bind (kd_frameOf env) fun a => .bind (kd_entryPlaceOf _ _) fun pl => .bind (kd_newEntry _ _ _ _ _ _) fun b => kd_setField _ _ _
  split
  · rename_i f hf
    rw [hf] at tail
    refine .bind (kd_field _ _) fun head => ?_
    dsimp only
    split
    · refine .bind (kd_field _ _) fun x => ?_
      split
      · trivial
      · exact .bind (kd_setField _ _ _) fun _ => tail head
    · exact tail head
  · trivial
theorem kd_leaving (env : Env) (v : Value) : Kd (leaving env v) := by
  unfold leaving
  exact .bind (kd_noteFrame _ _) fun _ => kd_setFlight _ _
end Mine
namespace Mine
open PySem PySem.W PyProof.Rows PySem.Spec PySem.Calls
set_option maxRecDepth 100000
set_option maxHeartbeats 8000000
/-- a LexFault at n is on its way -/
noncomputable def Flew (w : World) (base G : Heap) (l : List Env) (e : Addr) (n : Int) (news : List (Addr × Obj)) (h : Heap) : Prop :=
  ∃ dx t vs msg t2 t1 tk1 tk2, RaisedS base G l e (.ref 51) t vs ((dx, lexDict w msg t2 n t1 tk1 tk2) :: news) h ∧ DictAt e (some dx) h ∧ G.UpToSlots h
theorem RaisedS.sub {base G : Heap} {l : List Env} {e t : Addr} {cls : Value} {vs : List Value} {news news' : List (Addr × Obj)} {h : Heap} (R : RaisedS base G l e cls t vs news h) (hs : ∀ p ∈ news', p ∈ news) : RaisedS base G l e cls t vs news' h := by
  obtain ⟨⟨B, h1, h2, h3, h4⟩, h5⟩ := R
  exact ⟨⟨B, h1, h2, fun q hq => h3 q (hs q hq), h4⟩, h5⟩
theorem Flew.sub {w : World} {base G : Heap} {l : List Env} {e : Addr} {n : Int} {news news' : List (Addr × Obj)} {h : Heap} (R : Flew w base G l e n news h) (hs : ∀ p ∈ news', p ∈ news) : Flew w base G l e n news' h := by
  obtain ⟨dx, t, vs, msg, t2, t1, tk1, tk2, R, D, U⟩ := R
  refine ⟨dx, t, vs, msg, t2, t1, tk1, tk2, RaisedS.sub R (fun p hp => ?_), D, U⟩
  rcases List.mem_cons.mp hp with rfl | hp
  · exact .head _
  · exact .tail _ (hs p hp)
section
variable {w : World} {M : Model} {A : Around} {E : Value → Shared → Prop} {s' : Shared} {base g G : Heap} {outer : List Env} {L a e : Addr} {m : Str → Option Value} {name : Str} {scope : Scope} {cd : Value} {Q : Unit → Shared → Prop} {news news' : List (Addr × Obj)} {n : Int}
theorem flew_on (K : Below A base outer g) (F : Fr g L G m) (R : Flew w base G (envOf name scope L a cd :: outer) e n news s'.heap) (hs : ∀ p ∈ news', p ∈ news)
    (hQ : ∀ h', Flew w base g outer e n news' h' → Q () { s' with heap := h' }) :
    wpAny M (A.deeper (envOf name scope L a cd)) (leaving (envOf name scope L a cd) (.ref e)) Q E s' := by
  obtain ⟨dx, t, vs, msg, t2, t1, tk1, tk2, R, D, U⟩ := R.sub hs
  refine wpAny_mono (wpAny_kd (kd_leaving _ _) D (leave_onS (Q := fun _ s'' => DictAt e (some dx) s''.heap → Q () s'') K F R U fun h' R' _ U' => fun D' => ?_)) (fun _ _ x => x.1 x.2) fun _ _ x => x.1
  exact hQ h' ⟨dx, t, vs, msg, t2, t1, tk1, tk2, R', D', U'⟩
theorem leave_lex {dx tt : Addr} {msg : Str} {t1 t2 tk1 tk2 : Tok} (K : Below A base outer g) (F : Fr g L s'.heap m)
    (N : News g L s'.heap ((e, lexObj (some dx) tt) :: (dx, lexDict w msg t2 n t1 tk1 tk2) :: (tt, { cls := .type "tuple", data := .seq #[.str msg t2] }) :: news))
    (k1 : e ≠ dx) (k2 : tt ≠ dx) (k3 : tt ≠ e) (k4 : ∀ p ∈ news, p.1 ≠ e) (k5 : ∀ p ∈ news, p.1 ≠ tt)
    (hQ : ∀ h', Flew w base g outer e n news h' → Q () { s' with heap := h' }) (hk : scope.kind = .function) :
    wpAny M (A.deeper (envOf name scope L a cd)) (leaving (envOf name scope L a cd) (.ref e)) Q E s' := by
  have K' := K.push (name := name) (a := a) (cd := cd) F hk
  have Ne := N _ (.head _)
  have Nt := N (tt, { cls := .type "tuple", data := .seq #[.str msg t2] }) (.tail _ (.tail _ (.head _)))
  dsimp only at Ne Nt
  have fre : ∀ {b : Addr}, g.get? b = none → base.get? b = none := fun hb => fresh_of_stays K.stays hb
  have hin : ∀ env ∈ (envOf name scope L a cd :: outer), ∀ b, env.frame = some b → b ∈ (envOf name scope L a cd :: outer).filterMap (·.frame) ++ [e, tt] := fun env he b hb => List.mem_append.mpr (.inl (List.mem_filterMap.mpr ⟨env, he, hb⟩))
  have two : ∀ {b : Addr}, b ∈ [e, tt] → b = e ∨ b = tt := fun hb => by simpa using hb
  have st : base.StaysIn (hideAll s'.heap ((envOf name scope L a cd :: outer).filterMap (·.frame) ++ [e, tt])) := fun b o q => hideAll_get _ (K'.stays b o q) fun hm => by
    rcases List.mem_append.mp hm with hm | hm
    · rw [(K'.frames.mem hm).1] at q; cases q
    · rcases two hm with z | z
      · rw [z, fre Ne.2.2] at q; cases q
      · rw [z, fre Nt.2.2] at q; cases q
  have sg : ∀ b o, g.get? b = some o → b ∉ outer.filterMap (·.frame) → (hideAll s'.heap ((envOf name scope L a cd :: outer).filterMap (·.frame) ++ [e, tt])).get? b = some o := fun b o q nm => hideAll_get _ (F.keep b o q) fun hm => by
    rcases List.mem_append.mp hm with hm | hm
    · rcases kts_mem hm with z | z
      · rw [z, kts_self F] at q
        cases q
      · exact nm z
    · rcases two hm with z | z
      · rw [z, Ne.2.2] at q; cases q
      · rw [z, Nt.2.2] at q; cases q
  have hl : ∀ q ∈ (dx, lexDict w msg t2 n t1 tk1 tk2) :: news, (hideAll s'.heap ((envOf name scope L a cd :: outer).filterMap (·.frame) ++ [e, tt])).get? q.1 = some q.2 ∧ g.get? q.1 = none ∧ base.get? q.1 = none := fun q hq => by
    have P := N q (by
      rcases List.mem_cons.mp hq with rfl | hq
      · exact .tail _ (.head _)
      · exact .tail _ (.tail _ (.tail _ hq)))
    refine ⟨hideAll_get _ P.1 fun hm => ?_, P.2.2, fre P.2.2⟩
    rcases List.mem_append.mp hm with hm | hm
    · obtain ⟨env, he, hf⟩ := List.mem_filterMap.mp hm
      rcases List.mem_cons.mp he with rfl | he
      · exact P.2.1 (Option.some.inj hf).symm
      · obtain ⟨o, ho, _⟩ := (K.frames.mem (List.mem_filterMap.mpr ⟨env, he, hf⟩)).2
        rw [P.2.2] at ho; cases ho
    · rcases List.mem_cons.mp hq with rfl | hq
      · rcases two hm with z | z
        · exact k1 z.symm
        · exact k2 z.symm
      · rcases two hm with z | z
        · exact k4 q hq z
        · exact k5 q hq z
  have he0 : (hideAll s'.heap ((envOf name scope L a cd :: outer).filterMap (·.frame) ++ [e, tt])).get? e = none := hideAll_none _ (by simp)
  have ht0 : (hideAll s'.heap ((envOf name scope L a cd :: outer).filterMap (·.frame) ++ [e, tt])).get? tt = none := hideAll_none _ (by simp)
  refine wpAny_mono (wpAny_kd (d := some dx) (kd_leaving _ _) ⟨_, Ne.1, rfl⟩ (wpAny_leaving_firstW (Q := fun _ s'' => DictAt e (some dx) s''.heap → Q () s'') (a0 := .ref tt) K'.stack (funFrames_hide K'.frames hin) rfl Ne.1 (fun b o q => of_hideAll _ q) he0 rfl rfl rfl fun h' hL => fun D => ?_)) (fun _ _ x => x.1 x.2) fun _ _ x => x.1
  obtain ⟨k1, ⟨_, _, k2⟩, k3, k4⟩ := hL
  exact hQ h' ⟨dx, tt, [.str msg t2], msg, t2, t1, tk1, tk2, ⟨⟨_, st, sg, hl, ⟨k1, he0, k2, k3⟩, ht0⟩, Heap.TupAt.of_slots ⟨_, _, Nt.1, rfl, rfl⟩ k4⟩, D, (Heap.UpToSlots.of_keeps F.keep).trans k4⟩
end
/-- a call of the text's def f at vs: it gives back a datum, or a LexFault at a place leaves it -/
noncomputable def Does (w : World) (f : Addr) (vs : List Value) (dd uu : Nat) (o : Except Nat Dat) : Prop :=
  ∀ (mean : ExcName → Option Value) (mg mb : Str → Option Value) (dp un : Nat) (gd : Option (List Code)) (cn : Str) (cs : Scope) (a : Addr) (ccd : Value) (cl : List (Str × Addr)) (outer : List Env) (A₀ : Around) (base h₀ : Heap) (L : Addr)
    (m : Str → Option Value) (rest : List (Addr × Obj)) (s : Shared) (Q E : Value → Shared → Prop),
    Below A₀ base outer h₀ → Fr h₀ L s.heap m → (hd.heap_1 w.params).In h₀ → News h₀ L s.heap rest → Top lawView (looseW lawView []) mean mg mb h₀ → cs.kind = .function → dp + dd < recursionLimit → un + uu < cLine →
    (∀ d, o = .ok d → ∀ r tl h' tk', Fr h₀ L h' m → News h₀ L h' (tl ++ rest) → Tups tl → DatIn tl r d → Q r { s with heap := h', toks := tk' }) →
    (∀ n : Nat, o = .error n → ∀ e G h' tk', Fr h₀ L G m → Flew w base G (envX cn cs L a ccd cl :: outer) e n rest h' → E (.ref e) { s with heap := h', toks := tk' }) →
    wpAny (model PySem.Challenge.rw_no0240_01.row.prog w) (ktrTop dp un gd cn cs L a ccd cl outer) (call (.ref f) vs) Q E s
theorem Does.use {w : World} {f : Addr} {vs : List Value} {dd uu : Nat} {o : Except Nat Dat} (G : Does w f vs dd uu o) {mean : ExcName → Option Value} {mg mb : Str → Option Value} {dp un : Nat} {gd : Option (List Code)} {cn : Str} {cs : Scope} {a : Addr} {ccd : Value} {cl : List (Str × Addr)} {outer : List Env} {A₀ : Around} {base h₀ : Heap} {L : Addr}
    {m : Str → Option Value} {rest : List (Addr × Obj)} {s : Shared} {Q E : Value → Shared → Prop}
    (B : Below A₀ base outer h₀) (F : Fr h₀ L s.heap m) (X : (hd.heap_1 w.params).In h₀) (N : News h₀ L s.heap rest) (T : Top lawView (looseW lawView []) mean mg mb h₀) (hk : cs.kind = .function) (h1 : dp + dd < recursionLimit) (h2 : un + uu < cLine)
    (x : ∀ n : Nat, o = .error n → ∀ e G h' tk', Fr h₀ L G m → Flew w base G (envX cn cs L a ccd cl :: outer) e n rest h' → E (.ref e) { s with heap := h', toks := tk' })
    (k : ∀ d, o = .ok d → ∀ r tl h' tk', Fr h₀ L h' m → News h₀ L h' (tl ++ rest) → Tups tl → DatIn tl r d → Q r { s with heap := h', toks := tk' }) :
    wpAny (model PySem.Challenge.rw_no0240_01.row.prog w) (ktrTop dp un gd cn cs L a ccd cl outer) (call (.ref f) vs) Q E s :=
  G mean mg mb dp un gd cn cs a ccd cl outer A₀ base h₀ L m rest s Q E B F X N T hk h1 h2 k x
theorem Gives.does {w : World} {f : Addr} {vs : List Value} {dd uu : Nat} {d : Dat} (G : Gives w f vs dd uu d) : Does w f vs dd uu (.ok d) := by
  intro mean mg mb dp un gd cn cs a ccd cl outer A₀ base h₀ L m rest s Q E B F X N T hk h1 h2 k x
  exact G mean mg mb dp un gd cn cs a ccd cl outer A₀ base h₀ L m rest s Q E B F X N T hk h1 h2 (k d rfl)
end Mine
namespace Mine
open PySem PySem.W PyProof.Rows PySem.NumText
set_option maxRecDepth 100000
set_option maxHeartbeats 8000000
noncomputable def alnum : List Nat := letters ++ digs
theorem alnum_is : (Str.ofString "ABCDEFGHIJKLMNOPQRSTUVWXYZ" ++ Str.ofString "0123456789").cps.toList = alnum := by decide +kernel
noncomputable def nameAt (l : List Nat) (n : Nat) : Except Nat (List Nat × Dat × Nat) :=
  if runAt l n alnum - n > 6 then .error n else .ok (kNAME, .str (str (cut l n (runAt l n alnum))), runAt l n alnum)
theorem name_at_does (w : World) (x : Str) (i0 : Int) (n : Nat) (t1 t2 : Tok) (hi0 : i0 = (n : Int)) (hn : n ≤ 300) (hx : x.length ≤ 300) : Does w 104 [.str x t1, .int i0 t2] 12 256 ((nameAt x.cps.toList n).map fun q => tokD q n) := by
  subst hi0
  unfold Does
  k_fill
  intro mean mg mb dp un gd cn cs a ccd cl outer A₀ base h₀ L m rest s Q E B F X N T hk h1 h2 hret hfl
  refine wpAny_call ?_
  k_dflt (refine' code_def (binds := [(Str.ofString "text", .str x t1), (Str.ofString "at", .int n t2)]) ?k1 ?k2 ?k3 ?k4 ?k5 ?kA ?kF ?kK ?k6 ?k7 ?k8 ?k9 ?kB ?_ ?c2 ?c3 ?c4 ?c5; (case kA => exact rfl); (case kF => exact rfl); (case kK => assumption); (case k1 => k_asm); (case k2 => k_asm); (case k3 => k_asm); (case k4 => k_asm); (case k5 => k_asm); (case k6 => k_is); (case k7 => k_is); (case k8 => ktr_room); (case k9 => exact BindsTo.of_eq rfl); (case c5 => decide); (case kB => exact locs rfl); (case c2 => exact rfl); (case c3 => exact rfl); (case c4 => exact rfl))
  intro g' L' h' FG' F' N' B' X' T'
  (try k_fold)
  k_with_none
  obtain ⟨e, hE⟩ : ∃ e, runAt x.cps.toList n alnum = e := ⟨_, rfl⟩
  have hr1 := runAt_le x.cps.toList n alnum
  have hr2 := runAt_ge x.cps.toList n alnum
  have hr3 := len_eq x
  rw [hE] at hr1 hr2
  k_with "exec Raise some none" => (refine lex_raise (w := w) rfl ?_)
  k_with "call ref cons nil" => first
   | ((k_dflt (refine' Gives.useI (run_of_gives w _ _ _ alnum_is _ n _ _ _ rfl (by omega) (by omega)) ?k1 ?k2 ?k3 ?k4 ?k5 ?k6 ?k7 ?k8 ?_; (case k1 => k_asm); (case k2 => k_asm); (case k3 => k_asm); (case k4 => k_asm); (case k5 => k_asm); (case k6 => exact rfl); (case k7 => ktr_room); (case k8 => ktr_units))); (intro kt kh ktk kF kN); (rw [hE]); (try k_fold))
   | ((k_dflt (refine' lex_made w _ _ _ _ ?k1 ?k2 ?k3 ?k4 ?k5 ?k6 ?k7 ?k8 ?_; (case k1 => k_asm); (case k2 => k_asm); (case k3 => k_asm); (case k4 => k_asm); (case k5 => k_asm); (case k6 => exact rfl); (case k7 => ktr_room); (case k8 => ktr_units))); (intro xe xdx xtt xt1 xt2 kh ktk kF kN q1 q2 q3 q4 q5); (refine ⟨xe, _, _, rfl, (by k_asm : (hd.heap_1 w.params).In g').keeps kF.keep, kN.get (.head _), ?_⟩); (k_dflt (refine' leave_lex (by k_asm) kF kN q1 q2 q3 q4 q5 ?_ rfl)); (intro xh xR); (refine hfl _ ?_ _ _ _ _ FG' xR))
  k_steps
  · have c1 : (6 : Int) < (e : Int) - (n : Int) := by assumption
    rw [nameAt, hE, if_pos (by omega)]
    rfl
  · have c1 : ¬ (6 : Int) < (e : Int) - (n : Int) := by assumption
    rename Fr h₀ _ _ _ => kF
    rename News h₀ _ _ _ => kN
    rw [NAME_is, str_of (slice_cut x n e rfl rfl)] at kN
    have e0 : nameAt x.cps.toList n = .ok (kNAME, .str (str (cut x.cps.toList n e)), e) := by rw [nameAt, hE, if_neg (by omega)]
    refine hret _ (by rw [e0]; rfl) _ [_, _] _ _ kF kN (tups_cons (tups_cons tups_nil)) ?_
    exact tok_end (.head _) (.tail _ (.head _)) (.str _ _)
end Mine
namespace Mine
open PySem PySem.W PyProof.Rows PySem.NumText
set_option maxRecDepth 100000
set_option maxHeartbeats 8000000
/-- the rest of a quoted text: its signs so far, the place -/
noncomputable def qGo : List Nat → List Nat → Nat → Option (List Nat × Nat)
  | [], _, _ => none
  | [c], acc, k => if c = 39 then some (acc, k + 1) else none
  | c :: d :: r, acc, k => if c = 39 then (if d = 39 then qGo r (acc ++ [39]) (k + 2) else some (acc, k + 1)) else qGo (d :: r) (acc ++ [c]) (k + 1)
noncomputable def quotedAt (l : List Nat) (n : Nat) : Except Nat (List Nat × Dat × Nat) :=
  match qGo (l.drop (n + 1)) [] (n + 1) with
  | none => .error n
  | some (s, k) => .ok (kCHAR, .str (str s), k)
theorem quote_is' : Str.ofString "'" = str [39] := by decide +kernel
theorem qGo_end {l acc : List Nat} {j k : Nat} (h : l.length ≤ j) : qGo (l.drop j) acc k = none := by
  rw [List.drop_eq_nil_of_le h]; rfl
theorem qGo_sign {l acc : List Nat} {j c k : Nat} (h : l[j]? = some c) (hc : c ≠ 39) : qGo (l.drop j) acc k = qGo (l.drop (j + 1)) (acc ++ [c]) (k + 1) := by
  obtain ⟨hj, e⟩ := List.getElem?_eq_some_iff.mp h
  rw [List.drop_eq_getElem_cons hj, e]
  cases hd : l.drop (j + 1) with
  | nil => simp [qGo, hc]
  | cons d r => rw [qGo, if_neg hc]
theorem qGo_two {l acc : List Nat} {j k : Nat} (h : l[j]? = some 39) (h2 : l[j + 1]? = some 39) : qGo (l.drop j) acc k = qGo (l.drop (j + 2)) (acc ++ [39]) (k + 2) := by
  obtain ⟨hj, e⟩ := List.getElem?_eq_some_iff.mp h
  obtain ⟨hj2, e2⟩ := List.getElem?_eq_some_iff.mp h2
  rw [List.drop_eq_getElem_cons hj, e, List.drop_eq_getElem_cons hj2, e2, qGo, if_pos rfl, if_pos rfl]
theorem qGo_stop {l acc : List Nat} {j k : Nat} (h : l[j]? = some 39) (h2 : l[j + 1]? ≠ some 39) : qGo (l.drop j) acc k = some (acc, k + 1) := by
  obtain ⟨hj, e⟩ := List.getElem?_eq_some_iff.mp h
  rw [List.drop_eq_getElem_cons hj, e]
  cases hd : l.drop (j + 1) with
  | nil => simp [qGo]
  | cons d r =>
    have : l[j + 1]? = some d := by rw [← List.head?_drop, hd]; rfl
    rw [this] at h2
    rw [qGo, if_pos rfl, if_neg (fun z => h2 (by rw [z]))]
theorem cut_one {l : List Nat} {j : Nat} : (cut l (j + 1) (j + 2) = [39]) ↔ l[j + 1]? = some 39 := by
  unfold cut
  rw [show j + 2 - (j + 1) = 1 from by omega, ← List.head?_drop]
  cases l.drop (j + 1) with
  | nil => simp
  | cons a r => simp
theorem quoted_at_does (w : World) (x : Str) (i0 : Int) (n : Nat) (t1 t2 : Tok) (hi0 : i0 = (n : Int)) (hn : n ≤ 300) (hx : x.length ≤ 300) : Does w 97 [.str x t1, .int i0 t2] 12 256 ((quotedAt x.cps.toList n).map fun q => tokD q n) := by
  subst hi0
  unfold Does
  k_fill
  intro mean mg mb dp un gd cn cs a ccd cl outer A₀ base h₀ L m rest s Q E B F X N T hk h1 h2 hret hfl
  refine wpAny_call ?_
  k_dflt (refine' code_def (binds := [(Str.ofString "text", .str x t1), (Str.ofString "at", .int n t2)]) ?k1 ?k2 ?k3 ?k4 ?k5 ?kA ?kF ?kK ?k6 ?k7 ?k8 ?k9 ?kB ?_ ?c2 ?c3 ?c4 ?c5; (case kA => exact rfl); (case kF => exact rfl); (case kK => assumption); (case k1 => k_asm); (case k2 => k_asm); (case k3 => k_asm); (case k4 => k_asm); (case k5 => k_asm); (case k6 => k_is); (case k7 => k_is); (case k8 => ktr_room); (case k9 => exact BindsTo.of_eq rfl); (case c5 => decide); (case kB => exact locs rfl); (case c2 => exact rfl); (case c3 => exact rfl); (case c4 => exact rfl))
  intro g' L' h' FG' F' N' B' X' T'
  (try k_fold)
  k_with_none
  have hr3 := len_eq x
  k_with "exec While Compare cons nil" => (
    (rename Fr _ _ _ _ => kF)
    (rename News _ _ _ _ => kN)
    (refine While_inv2 (fun k m nx => ∃ (j : Nat) (i : Int) (acc : Str) (ti ta : Tok), i = (j : Int) ∧ m = (fun y => if y = Str.ofString "here" then some (Value.int i ti) else if y = Str.ofString "signs" then some (Value.str acc ta) else List.lookup y [(Str.ofString "text", Value.str x t1), (Str.ofString "at", Value.int (↑n) t2)].reverse) ∧ rest = nx ∧ k = x.length - j ∧ j ≤ 310 ∧ acc.length ≤ j ∧ qGo (x.cps.toList.drop j) acc.cps.toList j = qGo (x.cps.toList.drop (n + 1)) [] (n + 1)) kF kN ⟨n + 1, _, _, _, _, rfl, rfl, rfl, rfl, by omega, by (rw [empty_is, len_str]; exact Nat.zero_le _), by rw [empty_is, toList_str]⟩ ?_)
    (clear kF kN)
    (rintro k m₁ nx h tk kF kN ⟨j, i, acc, ti, ta, hi, rfl, rfl, rfl, hj, ha, hJ⟩)
    (try k_fold))
  k_with "exec Raise some none" => (refine lex_raise (w := w) rfl ?_)
  k_with "call ref cons nil" => ((k_dflt (refine' lex_made w _ _ _ _ ?k1 ?k2 ?k3 ?k4 ?k5 ?k6 ?k7 ?k8 ?_; (case k1 => k_asm); (case k2 => k_asm); (case k3 => k_asm); (case k4 => k_asm); (case k5 => k_asm); (case k6 => exact rfl); (case k7 => ktr_room); (case k8 => ktr_units))); (intro xe xdx xtt xt1 xt2 kh ktk kF kN q1 q2 q3 q4 q5); (refine ⟨xe, _, _, rfl, (by k_asm : (hd.heap_1 w.params).In g').keeps kF.keep, kN.get (.head _), ?_⟩); (k_dflt (refine' leave_lex (by k_asm) kF kN q1 q2 q3 q4 q5 ?_ rfl)); (intro xh xR); (refine hfl _ ?_ _ _ _ _ FG' xR))
  k_with "binaryOp Add str str" => ((refine PyProof.Rows.add_str ?_ ?hsz); (case hsz => (rw [show sizeLine = 16777216 from rfl]; first | (have := Txt.item_le x i; omega) | (rw [show (Str.ofString "'").length = 1 from rfl]; omega) | omega)); (intro ct ctk))
  k_steps
  · have c1 : i < (x.length : Nat) := by assumption
    have c2 : (Txt.item x i != Str.ofString "'") = true := by assumption
    rename Fr g' _ _ _ => kF
    rename News g' _ _ _ => kN
    obtain ⟨c, hc⟩ := sign_at (x := x) (n := j) (by omega)
    rw [bne, item_beq quote_is hi hc] at c2
    have hc' : c ≠ 39 := by simpa using c2
    have hit : (Txt.item x i).cps.toList = [c] := by rw [item_some hi hc]
    refine ⟨_, _, _, _, _, rfl, kF, kN, ?_, j + 1, _, _, _, _, ?_, upd_two, rfl, rfl, by omega, ?_, ?_⟩
    · omega
    · omega
    · rw [cat_len, len_eq (Txt.item x i), hit]; simp only [List.length_cons, List.length_nil]; omega
    · rw [cat_list, hit, ← qGo_sign hc hc', hJ]
  · have c1 : i < (x.length : Nat) := by assumption
    have c2 : (Txt.item x i != Str.ofString "'") = false := by assumption
    have c3 : (Txt.slice x (some (i + 1)) (some (i + 2)) == Str.ofString "'") = true := by assumption
    rename Fr g' _ _ _ => kF
    rename News g' _ _ _ => kN
    obtain ⟨c, hc⟩ := sign_at (x := x) (n := j) (by omega)
    rw [bne, item_beq quote_is hi hc] at c2
    have hc' : c = 39 := by simpa using c2
    subst hc'
    rw [str_of (slice_cut x (j + 1) (j + 2) (by omega) (by omega)), quote_is', str_beq'] at c3
    have h2 := cut_one.mp (of_decide_eq_true c3)
    have hlt := (List.getElem?_eq_some_iff.mp h2).1
    refine ⟨_, _, _, _, _, rfl, kF, kN, ?_, j + 2, _, _, _, _, ?_, upd_two, rfl, rfl, by omega, ?_, ?_⟩
    · omega
    · omega
    · rw [cat_len, quote_is', len_str]; simp only [List.length_cons, List.length_nil]; omega
    · rw [cat_list, quote_is', toList_str, ← qGo_two hc h2, hJ]
  · dsimp only [WhileStep2]
    k_steps
    have c1 : i < (x.length : Nat) := by assumption
    have c2 : (Txt.item x i != Str.ofString "'") = false := by assumption
    have c3 : (Txt.slice x (some (i + 1)) (some (i + 2)) == Str.ofString "'") = false := by assumption
    rename Fr h₀ _ _ _ => kF
    rename News h₀ _ _ _ => kN
    obtain ⟨c, hc⟩ := sign_at (x := x) (n := j) (by omega)
    rw [bne, item_beq quote_is hi hc] at c2
    have hc' : c = 39 := by simpa using c2
    subst hc'
    rw [str_of (slice_cut x (j + 1) (j + 2) (by omega) (by omega)), quote_is', str_beq'] at c3
    have h2 : x.cps.toList[j + 1]? ≠ some 39 := fun z => of_decide_eq_false c3 (cut_one.mpr z)
    rw [qGo_stop hc h2] at hJ
    have e0 : quotedAt x.cps.toList n = .ok (kCHAR, .str acc, j + 1) := by
      rw [quotedAt, ← hJ]
      simp only
      rw [← str_of rfl]
    rw [CHAR_is, show i + 1 = ((j + 1 : Nat) : Int) from by omega] at kN
    refine hret _ (by rw [e0]; rfl) _ [_, _] _ _ kF kN (tups_cons (tups_cons tups_nil)) ?_
    exact tok_end (.head _) (.tail _ (.head _)) (.str _ _)
  · have c1 : ¬ i < (x.length : Nat) := by assumption
    rw [qGo_end (by omega)] at hJ
    rw [quotedAt, ← hJ]
    rfl
end Mine
namespace Mine
open PySem PySem.W PyProof.Rows PySem.NumText
set_option maxRecDepth 100000
set_option maxHeartbeats 8000000
theorem mem_sign {x : Str} {j c : Nat} (h : x.cps.toList[j]? = some c) : j < x.length := by
  have := (List.getElem?_eq_some_iff.mp h).1
  rw [len_eq]; exact this
theorem runAt_gt {l : List Nat} {n c : Nat} {p : List Nat} (h : l[n]? = some c) (hp : c ∈ p) : n < runAt l n p := by
  obtain ⟨h1, h2⟩ := List.getElem?_eq_some_iff.mp h
  have := runAt_ge l (n + 1) p
  rw [← runAt_in h1 (by rw [h2]; exact hp)]
  omega
theorem runAt_no {l : List Nat} {n c : Nat} {p : List Nat} (h : l[n]? = some c) (hp : c ∉ p) : runAt l n p = n := by
  obtain ⟨h1, h2⟩ := List.getElem?_eq_some_iff.mp h
  exact runAt_out h1 (by rw [h2]; exact hp)
theorem cut_ne {l : List Nat} {a b : Nat} (h : a < b) (h2 : a < l.length) : cut l a b ≠ [] := by
  intro z
  have := cut_length l a b
  rw [z, List.length_nil] at this
  omega
theorem numDigits_digit {l : List Nat} {n c : Nat} (h : l[n]? = some c) (hc : c ∈ digs) : numDigits l n ≠ [] := by
  intro z
  unfold numDigits at z
  exact cut_ne (runAt_gt h hc) (List.getElem?_eq_some_iff.mp h).1 (List.append_eq_nil_iff.mp z).1
theorem dotted_short {a b : Nat} : [a, b] ∉ dotteds ∧ [a, b] ∉ truths := by simp [dotteds, truths]
theorem dotted_short1 {a : Nat} : [a] ∉ dotteds ∧ [a] ∉ truths := by simp [dotteds, truths]
theorem wordAt_no {l : List Nat} {n c d : Nat} (h : l[n]? = some c) (h2 : l[n + 1]? = some d) (hd : d ∉ letters) : wordAt l n = [c, d] := by
  obtain ⟨h1, e1⟩ := List.getElem?_eq_some_iff.mp h
  obtain ⟨h3, e3⟩ := List.getElem?_eq_some_iff.mp h2
  rw [wordAt, runAt_no h2 hd, cut, List.drop_eq_getElem_cons h1, List.drop_eq_getElem_cons h3, e1, e3, show n + 1 + 1 - n = 2 from by omega]
  rfl
theorem dottedAt_no {l : List Nat} {n c d : Nat} (h : l[n]? = some c) (h2 : l[n + 1]? = some d) (hd : d ∉ letters) : dottedAt l n = [] := by
  rw [dottedAt, wordAt_no h h2 hd, if_neg]
  exact fun z => z.elim dotted_short.1 dotted_short.2
theorem dotteds_len : (∀ w ∈ dotteds, w.length ≤ 7) ∧ ∀ w ∈ truths, w.length ≤ 7 := by decide +kernel
theorem dottedAt_len (l : List Nat) (n : Nat) : (dottedAt l n).length ≤ 7 := by
  unfold dottedAt
  split
  · rename_i h
    exact h.elim (dotteds_len.1 _) (dotteds_len.2 _)
  · exact Nat.zero_le _
theorem digs_letters {c : Nat} (h : c ∈ digs) : c ∉ letters := num_letters (digs_mem h)
theorem numDigits_point {l : List Nat} {n c : Nat} (h : l[n]? = some 46) (h2 : l[n + 1]? = some c) (hc : c ∈ digs) : numDigits l n ≠ [] := by
  intro z
  have hr : runAt l n digs = n := runAt_no h (by decide)
  have hp : hasPoint l n = true := by
    rw [hasPoint, h, dottedAt_no h h2 (digs_letters hc)]; rfl
  rw [numDigits, hr, fracAt, if_pos hp] at z
  exact cut_ne (runAt_gt h2 hc) (List.getElem?_eq_some_iff.mp h2).1 (List.append_eq_nil_iff.mp z).2
theorem digit_ind (l : List Nat) (n : Nat) : (∃ c, l[n]? = some c ∧ c ∈ digs) ∨ ∀ c, l[n]? = some c → c ∉ digs := by
  cases h : l[n]? with
  | none => exact .inr fun _ z => nomatch z
  | some c =>
    by_cases hc : c ∈ digs
    · exact .inl ⟨c, rfl, hc⟩
    · exact .inr fun d z => by cases z; exact hc
noncomputable def wordTok (l : List Nat) (n : Nat) : Except Nat (List Nat × Dat × Nat) :=
  if dottedAt l n = [] then .error n
  else if dottedAt l n ∈ truths then .ok (kLOG, .bool (decide (dottedAt l n = [46, 84, 82, 85, 69, 46])), n + (dottedAt l n).length)
  else .ok (kOP, .str (str (dottedAt l n)), n + (dottedAt l n).length)
noncomputable def pointAt (l : List Nat) (n : Nat) : Except Nat (List Nat × Dat × Nat) :=
  match l[n + 1]? with
  | some c => if c ∈ digs then .ok (numberAt l n) else wordTok l n
  | none => wordTok l n
theorem pointAt_dig {l : List Nat} {n c : Nat} (h : l[n + 1]? = some c) (hc : c ∈ digs) : pointAt l n = .ok (numberAt l n) := by rw [pointAt, h]; simp only; rw [if_pos hc]
theorem pointAt_no {l : List Nat} {n c : Nat} (h : l[n + 1]? = some c) (hc : c ∉ digs) : pointAt l n = wordTok l n := by rw [pointAt, h]; simp only; rw [if_neg hc]
theorem pointAt_end {l : List Nat} {n : Nat} (h : l[n + 1]? = none) : pointAt l n = wordTok l n := by rw [pointAt, h]
theorem TRUE_is : Str.ofString ".TRUE." = str [46, 84, 82, 85, 69, 46] := by decide +kernel
theorem wordTok_err {l : List Nat} {n : Nat} (h : dottedAt l n = []) : wordTok l n = .error n := by rw [wordTok, if_pos h]
theorem wordTok_log {l : List Nat} {n : Nat} (h : dottedAt l n ≠ []) (h2 : dottedAt l n ∈ truths) : wordTok l n = .ok (kLOG, .bool (decide (dottedAt l n = [46, 84, 82, 85, 69, 46])), n + (dottedAt l n).length) := by rw [wordTok, if_neg h, if_pos h2]
theorem wordTok_op {l : List Nat} {n : Nat} (h : dottedAt l n ≠ []) (h2 : dottedAt l n ∉ truths) : wordTok l n = .ok (kOP, .str (str (dottedAt l n)), n + (dottedAt l n).length) := by rw [wordTok, if_neg h, if_neg h2]
theorem point_at_does (w : World) (x : Str) (i0 : Int) (n : Nat) (t1 t2 : Tok) (hi0 : i0 = (n : Int)) (hn : n ≤ 300) (hx : x.length ≤ 300) (hp : x.cps.toList[n]? = some 46) : Does w 111 [.str x t1, .int i0 t2] 12 256 ((pointAt x.cps.toList n).map fun q => tokD q n) := by
  subst hi0
  unfold Does
  k_fill
  intro mean mg mb dp un gd cn cs a ccd cl outer A₀ base h₀ L m rest s Q E B F X N T hk h1 h2 hret hfl
  refine wpAny_call ?_
  k_dflt (refine' code_def (binds := [(Str.ofString "text", .str x t1), (Str.ofString "at", .int n t2)]) ?k1 ?k2 ?k3 ?k4 ?k5 ?kA ?kF ?kK ?k6 ?k7 ?k8 ?k9 ?kB ?_ ?c2 ?c3 ?c4 ?c5; (case kA => exact rfl); (case kF => exact rfl); (case kK => assumption); (case k1 => k_asm); (case k2 => k_asm); (case k3 => k_asm); (case k4 => k_asm); (case k5 => k_asm); (case k6 => k_is); (case k7 => k_is); (case k8 => ktr_room); (case k9 => exact BindsTo.of_eq rfl); (case c5 => decide); (case kB => exact locs rfl); (case c2 => exact rfl); (case c3 => exact rfl); (case c4 => exact rfl))
  intro g' L' h' FG' F' N' B' X' T'
  (try k_fold)
  k_with_none
  have hr3 := len_eq x
  have hwl := dottedAt_len x.cps.toList n
  obtain ⟨wd, hw⟩ : ∃ wd, dottedAt x.cps.toList n = wd := ⟨_, rfl⟩
  rw [hw] at hwl
  k_with "exec Raise some none" => (refine lex_raise (w := w) rfl ?_)
  k_with "compareOp In str ref" => (k_dflt (refine' in_truths ?k1 ?k2 ?_; (case k1 => k_asm); (case k2 => k_asm)))
  k_with "call ref cons nil" => first
   | ((k_dflt (refine' Gives.useS (dotted_at_gives w _ _ n _ _ rfl (by omega) (by omega)) ?k1 ?k2 ?k3 ?k4 ?k5 ?k6 ?k7 ?k8 ?_; (case k1 => k_asm); (case k2 => k_asm); (case k3 => k_asm); (case k4 => k_asm); (case k5 => k_asm); (case k6 => exact rfl); (case k7 => ktr_room); (case k8 => ktr_units))); (intro kt kh ktk kF kN); (rw [hw]); (try k_fold))
   | ((k_dflt (refine' Gives.use (number_at_gives w _ _ n _ _ rfl (by omega) (by omega) (by (obtain ⟨c, hc⟩ := sign_at (x := x) (n := n + 1) (by omega)); exact numDigits_point hp hc (isIn_yes digs_is rfl hc (by assumption)))) ?k1 ?k2 ?k3 ?k4 ?k5 ?k6 ?k7 ?k8 ?_; (case k1 => k_asm); (case k2 => k_asm); (case k3 => k_asm); (case k4 => k_asm); (case k5 => k_asm); (case k6 => exact rfl); (case k7 => ktr_room); (case k8 => ktr_units))); (intro kr kl kh ktk kF kN kT kD); (try k_fold))
   | ((k_dflt (refine' lex_made w _ _ _ _ ?k1 ?k2 ?k3 ?k4 ?k5 ?k6 ?k7 ?k8 ?_; (case k1 => k_asm); (case k2 => k_asm); (case k3 => k_asm); (case k4 => k_asm); (case k5 => k_asm); (case k6 => exact rfl); (case k7 => ktr_room); (case k8 => ktr_units))); (intro xe xdx xtt xt1 xt2 kh ktk kF kN q1 q2 q3 q4 q5); (refine ⟨xe, _, _, rfl, (by k_asm : (hd.heap_1 w.params).In g').keeps kF.keep, kN.get (.head _), ?_⟩); (k_dflt (refine' leave_lex (by k_asm) kF kN q1 q2 q3 q4 q5 ?_ rfl)); (intro xh xR); (refine hfl _ ?_ _ _ _ _ FG' xR))
  k_with "call builtin:len" => ((with_reducible show wpAny _ _ (call (Value.builtin "len") [Value.str (str wd) _]) _ _ _); (refine PyProof.Rows.len_str (by rw [Mine.len_str]; omega) ?_))
  k_steps
  · have c1 : (str wd == Str.ofString "") = true := by assumption
    obtain ⟨c, hc⟩ := sign_at (x := x) (n := n + 1) (by omega)
    rw [empty_is, str_beq'] at c1
    rw [pointAt_no hc (isIn_no digs_is rfl hc (by assumption)), wordTok_err (hw.trans (of_decide_eq_true c1))]
    rfl
  · have c1 : (str wd == Str.ofString "") = false := by assumption
    have c2 : (str wd).cps.toList ∈ truths := by assumption
    obtain ⟨c, hc⟩ := sign_at (x := x) (n := n + 1) (by omega)
    have c0 := isIn_no digs_is rfl hc (by assumption)
    rename Fr h₀ _ _ _ => kF
    rename News h₀ _ _ _ => kN
    rw [empty_is, str_beq'] at c1
    rw [toList_str] at c2
    rw [LOG_is, TRUE_is, str_beq', len_str, show (n : Int) + (wd.length : Int) = ((n + wd.length : Nat) : Int) from by omega] at kN
    refine hret _ (by rw [pointAt_no hc c0, wordTok_log (by rw [hw]; exact of_decide_eq_false c1) (by rw [hw]; exact c2), hw]; rfl) _ [_, _] _ _ kF kN (tups_cons (tups_cons tups_nil)) ?_
    exact tok_end (.head _) (.tail _ (.head _)) (.bool _)
  · have c1 : (str wd == Str.ofString "") = false := by assumption
    have c2 : (str wd).cps.toList ∉ truths := by assumption
    obtain ⟨c, hc⟩ := sign_at (x := x) (n := n + 1) (by omega)
    have c0 := isIn_no digs_is rfl hc (by assumption)
    rename Fr h₀ _ _ _ => kF
    rename News h₀ _ _ _ => kN
    rw [empty_is, str_beq'] at c1
    rw [toList_str] at c2
    rw [OP_is, len_str, show (n : Int) + (wd.length : Int) = ((n + wd.length : Nat) : Int) from by omega] at kN
    refine hret _ (by rw [pointAt_no hc c0, wordTok_op (by rw [hw]; exact of_decide_eq_false c1) (by rw [hw]; exact c2), hw]; rfl) _ [_, _] _ _ kF kN (tups_cons (tups_cons tups_nil)) ?_
    exact tok_end (.head _) (.tail _ (.head _)) (.str _ _)
  · obtain ⟨c, hc⟩ := sign_at (x := x) (n := n + 1) (by omega)
    have c0 := isIn_yes digs_is rfl hc (by assumption)
    rename Fr h₀ _ _ _ => kF
    rename News h₀ _ _ _ => kN
    exact hret _ (by rw [pointAt_dig hc c0]; rfl) _ _ _ _ kF kN kT kD
  · have c1 : (str wd == Str.ofString "") = true := by assumption
    have hc : x.cps.toList[n + 1]? = none := List.getElem?_eq_none (by rw [← len_eq]; omega)
    rw [empty_is, str_beq'] at c1
    rw [pointAt_end hc, wordTok_err (hw.trans (of_decide_eq_true c1))]
    rfl
  · have c1 : (str wd == Str.ofString "") = false := by assumption
    have c2 : (str wd).cps.toList ∈ truths := by assumption
    have hc : x.cps.toList[n + 1]? = none := List.getElem?_eq_none (by rw [← len_eq]; omega)
    rename Fr h₀ _ _ _ => kF
    rename News h₀ _ _ _ => kN
    rw [empty_is, str_beq'] at c1
    rw [toList_str] at c2
    rw [LOG_is, TRUE_is, str_beq', len_str, show (n : Int) + (wd.length : Int) = ((n + wd.length : Nat) : Int) from by omega] at kN
    refine hret _ (by rw [pointAt_end hc, wordTok_log (by rw [hw]; exact of_decide_eq_false c1) (by rw [hw]; exact c2), hw]; rfl) _ [_, _] _ _ kF kN (tups_cons (tups_cons tups_nil)) ?_
    exact tok_end (.head _) (.tail _ (.head _)) (.bool _)
  · have c1 : (str wd == Str.ofString "") = false := by assumption
    have c2 : (str wd).cps.toList ∉ truths := by assumption
    have hc : x.cps.toList[n + 1]? = none := List.getElem?_eq_none (by rw [← len_eq]; omega)
    rename Fr h₀ _ _ _ => kF
    rename News h₀ _ _ _ => kN
    rw [empty_is, str_beq'] at c1
    rw [toList_str] at c2
    rw [OP_is, len_str, show (n : Int) + (wd.length : Int) = ((n + wd.length : Nat) : Int) from by omega] at kN
    refine hret _ (by rw [pointAt_end hc, wordTok_op (by rw [hw]; exact of_decide_eq_false c1) (by rw [hw]; exact c2), hw]; rfl) _ [_, _] _ _ kF kN (tups_cons (tups_cons tups_nil)) ?_
    exact tok_end (.head _) (.tail _ (.head _)) (.str _ _)
end Mine
namespace Mine
open PySem PySem.W PyProof.Rows PySem.NumText
set_option maxRecDepth 100000
set_option maxHeartbeats 8000000
noncomputable def signs9 : List Nat := [43, 45, 42, 47, 40, 41, 44, 61, 58]
theorem signs9_is : (Str.ofString "+-*/(),=:").cps.toList = signs9 := by decide +kernel
theorem starslash_is : (Str.ofString "*/").cps.toList = [42, 47] := by decide +kernel
/-- the token that begins at n with the sign c -/
noncomputable def tokenAt (l : List Nat) (n c : Nat) : Except Nat (List Nat × Dat × Nat) :=
  if c ∈ letters then nameAt l n
  else if c ∈ digs then .ok (numberAt l n)
  else if c = 46 then pointAt l n
  else if c = 39 then quotedAt l n
  else if c ∉ signs9 then .error n
  else if c ∈ [42, 47] ∧ l[n + 1]? = some c then .ok (kOP, .str (str [c, c]), n + 2)
  else .ok (kOP, .str (str [c]), n + 1)
section
variable {l : List Nat} {n c : Nat}
theorem tokenAt_name (h : c ∈ letters) : tokenAt l n c = nameAt l n := by rw [tokenAt, if_pos h]
theorem tokenAt_num (h : c ∉ letters) (h2 : c ∈ digs) : tokenAt l n c = .ok (numberAt l n) := by rw [tokenAt, if_neg h, if_pos h2]
theorem tokenAt_point (h : c ∉ letters) (h2 : c ∉ digs) (h3 : c = 46) : tokenAt l n c = pointAt l n := by rw [tokenAt, if_neg h, if_neg h2, if_pos h3]
theorem tokenAt_quote (h : c ∉ letters) (h2 : c ∉ digs) (h3 : c ≠ 46) (h4 : c = 39) : tokenAt l n c = quotedAt l n := by rw [tokenAt, if_neg h, if_neg h2, if_neg h3, if_pos h4]
theorem tokenAt_bad (h : c ∉ letters) (h2 : c ∉ digs) (h3 : c ≠ 46) (h4 : c ≠ 39) (h5 : c ∉ signs9) : tokenAt l n c = .error n := by rw [tokenAt, if_neg h, if_neg h2, if_neg h3, if_neg h4, if_pos h5]
theorem tokenAt_two (h : c ∉ letters) (h2 : c ∉ digs) (h3 : c ≠ 46) (h4 : c ≠ 39) (h5 : c ∈ signs9) (h6 : c ∈ [42, 47]) (h7 : l[n + 1]? = some c) : tokenAt l n c = .ok (kOP, .str (str [c, c]), n + 2) := by
  rw [tokenAt, if_neg h, if_neg h2, if_neg h3, if_neg h4, if_neg (fun z => z h5), if_pos ⟨h6, h7⟩]
theorem tokenAt_one (h : c ∉ letters) (h2 : c ∉ digs) (h3 : c ≠ 46) (h4 : c ≠ 39) (h5 : c ∈ signs9) (h6 : ¬ (c ∈ [42, 47] ∧ l[n + 1]? = some c)) : tokenAt l n c = .ok (kOP, .str (str [c]), n + 1) := by
  rw [tokenAt, if_neg h, if_neg h2, if_neg h3, if_neg h4, if_neg (fun z => z h5), if_neg h6]
theorem cut_at {l : List Nat} {j c : Nat} : (cut l j (j + 1) = [c]) ↔ l[j]? = some c := by
  unfold cut
  rw [show j + 1 - j = 1 from by omega, ← List.head?_drop]
  cases l.drop j with
  | nil => simp
  | cons a r => simp
theorem cut_at2 {l : List Nat} {j c d : Nat} (h : l[j]? = some c) (h2 : l[j + 1]? = some d) : cut l j (j + 2) = [c, d] := by
  obtain ⟨h1, e1⟩ := List.getElem?_eq_some_iff.mp h
  obtain ⟨h3, e3⟩ := List.getElem?_eq_some_iff.mp h2
  rw [cut, List.drop_eq_getElem_cons h1, List.drop_eq_getElem_cons h3, e1, e3, show j + 2 - j = 2 from by omega]
  rfl
end
theorem one_is {c : Nat} : (⟨#[c]⟩ : Str) = str [c] := rfl
set_option maxHeartbeats 16000000 in
theorem token_at_does (w : World) (x : Str) (i0 : Int) (n c : Nat) (t1 t2 : Tok) (hi0 : i0 = (n : Int)) (hn : n ≤ 300) (hx : x.length ≤ 300) (hc : x.cps.toList[n]? = some c) : Does w 118 [.str x t1, .int i0 t2] 16 320 ((tokenAt x.cps.toList n c).map fun q => tokD q n) := by
  subst hi0
  unfold Does
  k_fill
  intro mean mg mb dp un gd cn cs a ccd cl outer A₀ base h₀ L m rest s Q E B F X N T hk h1 h2 hret hfl
  refine wpAny_call ?_
  k_dflt (refine' code_def (binds := [(Str.ofString "text", .str x t1), (Str.ofString "at", .int n t2)]) ?k1 ?k2 ?k3 ?k4 ?k5 ?kA ?kF ?kK ?k6 ?k7 ?k8 ?k9 ?kB ?_ ?c2 ?c3 ?c4 ?c5; (case kA => exact rfl); (case kF => exact rfl); (case kK => assumption); (case k1 => k_asm); (case k2 => k_asm); (case k3 => k_asm); (case k4 => k_asm); (case k5 => k_asm); (case k6 => k_is); (case k7 => k_is); (case k8 => ktr_room); (case k9 => exact BindsTo.of_eq rfl); (case c5 => decide); (case kB => exact locs rfl); (case c2 => exact rfl); (case c3 => exact rfl); (case c4 => exact rfl))
  intro g' L' h' FG' F' N' B' X' T'
  (try k_fold)
  k_with_none
  have hr3 := len_eq x
  have hlt := mem_sign hc
  k_with "exec Raise some none" => (refine lex_raise (w := w) rfl ?_)
  k_with "call ref cons nil" => first
   | ((k_dflt (refine' Does.use (name_at_does w _ _ n _ _ rfl (by omega) (by omega)) ?k1 ?k2 ?k3 ?k4 ?k5 ?k6 ?k7 ?k8 ?kx ?_; (case k1 => k_asm); (case k2 => k_asm); (case k3 => k_asm); (case k4 => k_asm); (case k5 => k_asm); (case k6 => exact rfl); (case k7 => ktr_room); (case k8 => ktr_units); (case kx => ((intro xn xq xe xG xh xtk xF xR); (k_dflt (refine' flew_on (by k_asm) xF xR (fun _ hp => hp) ?_)); (intro xh2 xR2); (refine hfl _ ?_ _ _ _ _ FG' xR2); (rw [tokenAt_name (isIn_yes letters_is rfl hc (by assumption))]; exact xq))))); (intro kd kq kr kl kh ktk kF kN kT kD); (try k_fold))
   | ((k_dflt (refine' Gives.use (number_at_gives w _ _ n _ _ rfl (by omega) (by omega) (numDigits_digit hc (isIn_yes digs_is rfl hc (by assumption)))) ?k1 ?k2 ?k3 ?k4 ?k5 ?k6 ?k7 ?k8 ?_; (case k1 => k_asm); (case k2 => k_asm); (case k3 => k_asm); (case k4 => k_asm); (case k5 => k_asm); (case k6 => exact rfl); (case k7 => ktr_room); (case k8 => ktr_units))); (intro kr kl kh ktk kF kN kT kD); (try k_fold))
   | ((k_dflt (refine' Does.use (point_at_does w _ _ n _ _ rfl (by omega) (by omega) (hc.trans (congrArg some (of_decide_eq_true ((item_beq point_is rfl hc).symm.trans (by assumption)))))) ?k1 ?k2 ?k3 ?k4 ?k5 ?k6 ?k7 ?k8 ?kx ?_; (case k1 => k_asm); (case k2 => k_asm); (case k3 => k_asm); (case k4 => k_asm); (case k5 => k_asm); (case k6 => exact rfl); (case k7 => ktr_room); (case k8 => ktr_units); (case kx => ((intro xn xq xe xG xh xtk xF xR); (k_dflt (refine' flew_on (by k_asm) xF xR (fun _ hp => hp) ?_)); (intro xh2 xR2); (refine hfl _ ?_ _ _ _ _ FG' xR2); (rw [tokenAt_point (isIn_no letters_is rfl hc (by assumption)) (isIn_no digs_is rfl hc (by assumption)) (of_decide_eq_true ((item_beq point_is rfl hc).symm.trans (by assumption)))]; exact xq))))); (intro kd kq kr kl kh ktk kF kN kT kD); (try k_fold))
   | ((k_dflt (refine' Does.use (quoted_at_does w _ _ n _ _ rfl (by omega) (by omega)) ?k1 ?k2 ?k3 ?k4 ?k5 ?k6 ?k7 ?k8 ?kx ?_; (case k1 => k_asm); (case k2 => k_asm); (case k3 => k_asm); (case k4 => k_asm); (case k5 => k_asm); (case k6 => exact rfl); (case k7 => ktr_room); (case k8 => ktr_units); (case kx => ((intro xn xq xe xG xh xtk xF xR); (k_dflt (refine' flew_on (by k_asm) xF xR (fun _ hp => hp) ?_)); (intro xh2 xR2); (refine hfl _ ?_ _ _ _ _ FG' xR2); (rw [tokenAt_quote (isIn_no letters_is rfl hc (by assumption)) (isIn_no digs_is rfl hc (by assumption)) (of_decide_eq_false ((item_beq point_is rfl hc).symm.trans (by assumption))) (of_decide_eq_true ((item_beq quote_is rfl hc).symm.trans (by assumption)))]; exact xq))))); (intro kd kq kr kl kh ktk kF kN kT kD); (try k_fold))
   | ((k_dflt (refine' lex_made w _ _ _ _ ?k1 ?k2 ?k3 ?k4 ?k5 ?k6 ?k7 ?k8 ?_; (case k1 => k_asm); (case k2 => k_asm); (case k3 => k_asm); (case k4 => k_asm); (case k5 => k_asm); (case k6 => exact rfl); (case k7 => ktr_room); (case k8 => ktr_units))); (intro xe xdx xtt xt1 xt2 kh ktk kF kN q1 q2 q3 q4 q5); (refine ⟨xe, _, _, rfl, (by k_asm : (hd.heap_1 w.params).In g').keeps kF.keep, kN.get (.head _), ?_⟩); (k_dflt (refine' leave_lex (by k_asm) kF kN q1 q2 q3 q4 q5 ?_ rfl)); (intro xh xR); (refine hfl _ ?_ _ _ _ _ FG' xR))
  k_steps
  · have c1 := isIn_no letters_is rfl hc (by assumption)
    have c2 := isIn_no digs_is rfl hc (by assumption)
    have c3 : c = 46 := of_decide_eq_true ((item_beq point_is rfl hc).symm.trans (by assumption))
    rename Fr h₀ _ _ _ => kF
    rename News h₀ _ _ _ => kN
    exact hret _ (by rw [tokenAt_point c1 c2 c3]; exact kq) _ _ _ _ kF kN kT kD
  · have c1 := isIn_no letters_is rfl hc (by assumption)
    have c2 := isIn_no digs_is rfl hc (by assumption)
    have c3 : c ≠ 46 := of_decide_eq_false ((item_beq point_is rfl hc).symm.trans (by assumption))
    have c4 : c = 39 := of_decide_eq_true ((item_beq quote_is rfl hc).symm.trans (by assumption))
    rename Fr h₀ _ _ _ => kF
    rename News h₀ _ _ _ => kN
    exact hret _ (by rw [tokenAt_quote c1 c2 c3 c4]; exact kq) _ _ _ _ kF kN kT kD
  · have c1 := isIn_no letters_is rfl hc (by assumption)
    have c2 := isIn_no digs_is rfl hc (by assumption)
    have c3 : c ≠ 46 := of_decide_eq_false ((item_beq point_is rfl hc).symm.trans (by assumption))
    have c4 : c ≠ 39 := of_decide_eq_false ((item_beq quote_is rfl hc).symm.trans (by assumption))
    have c5 := isIn_no signs9_is rfl hc (by assumption)
    rw [tokenAt_bad c1 c2 c3 c4 c5]
    rfl
  · have c1 := isIn_no letters_is rfl hc (by assumption)
    have c2 := isIn_no digs_is rfl hc (by assumption)
    have c3 : c ≠ 46 := of_decide_eq_false ((item_beq point_is rfl hc).symm.trans (by assumption))
    have c4 : c ≠ 39 := of_decide_eq_false ((item_beq quote_is rfl hc).symm.trans (by assumption))
    have c5 := isIn_yes signs9_is rfl hc (by assumption)
    have c6 := isIn_no starslash_is rfl hc (by assumption)
    rename Fr h₀ _ _ _ => kF
    rename News h₀ _ _ _ => kN
    rw [OP_is, str_of (slice_cut x n (n + 1) rfl (by omega)), cut_at.mpr hc, show (n : Int) + 1 = ((n + 1 : Nat) : Int) from by omega] at kN
    refine hret _ (by rw [tokenAt_one c1 c2 c3 c4 c5 (fun z => c6 z.1)]; rfl) _ [_, _] _ _ kF kN (tups_cons (tups_cons tups_nil)) ?_
    exact tok_end (.head _) (.tail _ (.head _)) (.str _ _)
  · have c1 := isIn_no letters_is rfl hc (by assumption)
    have c2 := isIn_no digs_is rfl hc (by assumption)
    have c3 : c ≠ 46 := of_decide_eq_false ((item_beq point_is rfl hc).symm.trans (by assumption))
    have c4 : c ≠ 39 := of_decide_eq_false ((item_beq quote_is rfl hc).symm.trans (by assumption))
    have c5 := isIn_yes signs9_is rfl hc (by assumption)
    have c6 := isIn_yes starslash_is rfl hc (by assumption)
    have c7 : (Txt.slice x (some ((n : Int) + 1)) (some ((n : Int) + 1 + 1)) == Txt.item x n) = true := by assumption
    rw [item_some rfl hc, one_is, str_of (slice_cut x (n + 1) (n + 2) (by omega) (by omega)), str_beq'] at c7
    have c8 : x.cps.toList[n + 1]? = some c := cut_at.mp (of_decide_eq_true c7)
    rename Fr h₀ _ _ _ => kF
    rename News h₀ _ _ _ => kN
    rw [OP_is, str_of (slice_cut x n (n + 2) rfl (by omega)), cut_at2 hc c8, show (n : Int) + 1 + 1 = ((n + 2 : Nat) : Int) from by omega] at kN
    refine hret _ (by rw [tokenAt_two c1 c2 c3 c4 c5 c6 c8]; rfl) _ [_, _] _ _ kF kN (tups_cons (tups_cons tups_nil)) ?_
    exact tok_end (.head _) (.tail _ (.head _)) (.str _ _)
  · have c1 := isIn_no letters_is rfl hc (by assumption)
    have c2 := isIn_no digs_is rfl hc (by assumption)
    have c3 : c ≠ 46 := of_decide_eq_false ((item_beq point_is rfl hc).symm.trans (by assumption))
    have c4 : c ≠ 39 := of_decide_eq_false ((item_beq quote_is rfl hc).symm.trans (by assumption))
    have c5 := isIn_yes signs9_is rfl hc (by assumption)
    have c7 : (Txt.slice x (some ((n : Int) + 1)) (some ((n : Int) + 1 + 1)) == Txt.item x n) = false := by assumption
    rw [item_some rfl hc, one_is, str_of (slice_cut x (n + 1) (n + 2) (by omega) (by omega)), str_beq'] at c7
    have c8 : x.cps.toList[n + 1]? ≠ some c := fun z => of_decide_eq_false c7 (cut_at.mpr z)
    rename Fr h₀ _ _ _ => kF
    rename News h₀ _ _ _ => kN
    rw [OP_is, str_of (slice_cut x n (n + 1) rfl (by omega)), cut_at.mpr hc, show (n : Int) + 1 = ((n + 1 : Nat) : Int) from by omega] at kN
    refine hret _ (by rw [tokenAt_one c1 c2 c3 c4 c5 (fun z => c8 z.2)]; rfl) _ [_, _] _ _ kF kN (tups_cons (tups_cons tups_nil)) ?_
    exact tok_end (.head _) (.tail _ (.head _)) (.str _ _)
  · have c1 := isIn_no letters_is rfl hc (by assumption)
    have c2 := isIn_yes digs_is rfl hc (by assumption)
    rename Fr h₀ _ _ _ => kF
    rename News h₀ _ _ _ => kN
    exact hret _ (by rw [tokenAt_num c1 c2]; rfl) _ _ _ _ kF kN kT kD
  · have c1 := isIn_yes letters_is rfl hc (by assumption)
    rename Fr h₀ _ _ _ => kF
    rename News h₀ _ _ _ => kN
    exact hret _ (by rw [tokenAt_name c1]; exact kq) _ _ _ _ kF kN kT kD
end Mine
namespace Mine
open PySem PySem.W PyProof.Rows PySem.NumText
set_option maxRecDepth 100000
set_option maxHeartbeats 8000000
theorem qGo_gt : ∀ (l acc : List Nat) (k : Nat) {s : List Nat} {e : Nat}, qGo l acc k = some (s, e) → k < e
  | [], _, _, _, _, h => by rw [qGo] at h; cases h
  | [c], acc, k, s, e, h => by
    rw [qGo] at h
    split at h
    · cases h; omega
    · cases h
  | c :: d :: r, acc, k, s, e, h => by
    rw [qGo] at h
    split at h
    · split at h
      · have := qGo_gt r _ _ h; omega
      · cases h; omega
    · have := qGo_gt (d :: r) _ _ h; omega
theorem numberAt_ge (l : List Nat) (n : Nat) : numEnd l (runAt l n digs) ≤ (numberAt l n).2.2 := by
  have h := (powerAt_le l (numEnd l (runAt l n digs))).1
  unfold numberAt
  dsimp only
  split <;> exact h
theorem wordTok_gt {l : List Nat} {n : Nat} {q : List Nat × Dat × Nat} (h : wordTok l n = .ok q) : n < q.2.2 := by
  unfold wordTok at h
  split at h
  · cases h
  · rename_i h0
    have : 0 < (dottedAt l n).length := List.length_pos_iff.mpr h0
    split at h <;> (cases h; dsimp only; omega)
theorem tokenAt_gt {l : List Nat} {n c : Nat} {q : List Nat × Dat × Nat} (hc : l[n]? = some c) (h : tokenAt l n c = .ok q) : n < q.2.2 := by
  unfold tokenAt at h
  split at h
  · rename_i h1
    unfold nameAt at h
    split at h
    · cases h
    · cases h
      exact runAt_gt hc (List.mem_append.mpr (.inl h1))
  · split at h
    · rename_i h1
      cases h
      have a1 := runAt_gt hc h1
      have a2 := (numEnd_le l (runAt l n digs)).1
      have a3 := numberAt_ge l n
      omega
    · split at h
      · rename_i h0 _ h1
        subst h1
        rcases digit_ind l (n + 1) with ⟨d, hd, hdd⟩ | hno
        · rw [pointAt_dig hd hdd] at h
          cases h
          have a1 : runAt l n digs = n := runAt_no hc (by decide)
          have a2 := runAt_gt hd hdd
          have a3 := numberAt_ge l n
          have hp : hasPoint l n = true := by
            rw [hasPoint, hc, dottedAt_no hc hd (digs_letters hdd)]; rfl
          rw [a1, numEnd, if_pos hp] at a3
          omega
        · have : pointAt l n = wordTok l n := by
            cases hd : l[n + 1]? with
            | none => exact pointAt_end hd
            | some d => exact pointAt_no hd (hno d hd)
          rw [this] at h
          exact wordTok_gt h
      · split at h
        · unfold quotedAt at h
          split at h
          · cases h
          · rename_i s k hq
            cases h
            have := qGo_gt _ _ _ hq
            dsimp only
            omega
        · split at h
          · cases h
          · split at h <;> (cases h; dsimp only; omega)
theorem frame_opt {m : Str → Option Value} {a b c : Str} {v u : Value} {bv : Option Value} (h : m b = bv) (h1 : b ≠ a) (h2 : b ≠ c) : (fun y => if y = a then some v else if y = c then some u else m y) = fun y => if y = a then some v else if y = b then bv else if y = c then some u else m y := by
  funext y
  by_cases e1 : y = a
  · simp [e1]
  · by_cases e2 : y = b
    · subst e2; simp [e1, h2, h]
    · simp [e1, e2]
theorem news_front {h₀ h : Heap} {L : Addr} {p q : Addr × Obj} {A B : List (Addr × Obj)} (N : News h₀ L h (p :: (A ++ q :: B))) : News h₀ L h (q :: p :: (A ++ B)) := fun r hr => N r (by
  rcases List.mem_cons.mp hr with rfl | hr
  · exact .tail _ (List.mem_append.mpr (.inr (.head _)))
  · rcases List.mem_cons.mp hr with rfl | hr
    · exact .head _
    · exact .tail _ ((List.mem_append.mp hr).elim (fun x => List.mem_append.mpr (.inl x)) fun x => List.mem_append.mpr (.inr (.tail _ x))))
theorem upd_two' {m : Str → Option Value} {a b : Str} {v1 v2 u1 u2 : Option Value} : (fun y => if y = a then v1 else if y = b then v2 else if y = a then u1 else if y = b then u2 else m y) = fun y => if y = a then v1 else if y = b then v2 else m y := by
  funext y; by_cases h : y = a <;> by_cases h2 : y = b <;> simp [h, h2]
theorem tups_off {h₀ h : Heap} {L b : Addr} {its : Array Value} {n : Nat} {X tl : List (Addr × Obj)} (N : News h₀ L h ((b, PySem.W.listOf its n) :: X)) (hs : ∀ p ∈ tl, p ∈ X) (T : Tups tl) : ∀ p ∈ tl, p.1 ≠ b := by
  intro p hp e
  have h1 := (N _ (.head _)).1
  have h2 := (N p (.tail _ (hs p hp))).1
  dsimp only at h1
  rw [e, h1] at h2
  have h3 := T p hp
  rw [← Option.some.inj h2] at h3
  exact absurd (show Value.type "list" = Value.type "tuple" from h3) (by decide)
noncomputable def tokDat (q : List Nat × Dat × Nat) (n : Nat) : Dat := .tuple [.str (str q.1), q.2.1, .int n]
/-- the tokens from n on, f of them at most -/
noncomputable def lexF (l : List Nat) : Nat → Nat → Except Nat (List Dat)
  | 0, _ => .ok []
  | f + 1, n => match l[n]? with
    | none => .ok []
    | some c => match tokenAt l n c with
      | .error k => .error k
      | .ok q => (lexF l f q.2.2).map (tokDat q n :: ·)
noncomputable def lexAll (l : List Nat) : Except Nat (List Dat) := lexF l (l.length + 1) 0
section
variable {w : World} {f : Addr} {vs : List Value} {dd uu : Nat} {mean : ExcName → Option Value} {mg mb : Str → Option Value} {dp un : Nat} {gd : Option (List Code)} {cn : Str} {cs : Scope} {a : Addr} {ccd : Value} {cl : List (Str × Addr)} {outer : List Env} {A₀ : Around} {base h₀ : Heap} {L : Addr}
    {m : Str → Option Value} {rest : List (Addr × Obj)} {s : Shared} {Q E : Value → Shared → Prop}
theorem Does.useTok {o : Except Nat (List Nat × Dat × Nat)} {j : Nat} (G : Does w f vs dd uu (o.map fun q => tokD q j))
    (B : Below A₀ base outer h₀) (F : Fr h₀ L s.heap m) (X : (hd.heap_1 w.params).In h₀) (N : News h₀ L s.heap rest) (T : Top lawView (looseW lawView []) mean mg mb h₀) (hk : cs.kind = .function) (h1 : dp + dd < recursionLimit) (h2 : un + uu < cLine)
    (x : ∀ n : Nat, o = .error n → ∀ e G h' tk', Fr h₀ L G m → Flew w base G (envX cn cs L a ccd cl :: outer) e n rest h' → E (.ref e) { s with heap := h', toks := tk' })
    (k : ∀ q, o = .ok q → ∀ b d t nn tl h' tk', Fr h₀ L h' m → News h₀ L h' ((b, { cls := .type "tuple", data := .seq #[.ref d, .int q.2.2 t] nn }) :: (tl ++ rest)) → Tups tl → DatIn tl (.ref d) (tokDat q j) → Q (.ref b) { s with heap := h', toks := tk' }) :
    wpAny (model PySem.Challenge.rw_no0240_01.row.prog w) (ktrTop dp un gd cn cs L a ccd cl outer) (call (.ref f) vs) Q E s := by
  refine G.use B F X N T hk h1 h2 (fun n hn => x n ?_) fun d hd r tl h' tk' F' N' Tl D => ?_
  · cases o with
    | error e => rw [Except.map] at hn; cases hn; rfl
    | ok q => rw [Except.map] at hn; cases hn
  · cases o with
    | error e => rw [Except.map] at hd; cases hd
    | ok q =>
      rw [Except.map] at hd
      cases hd
      unfold tokD at D
      cases D with
      | tuple hm hA =>
        cases hA with | cons d1 hA => cases hA with | cons d2 hA =>
        cases hA; cases d2
        cases d1 with
        | tuple hm2 hA2 => exact k q rfl _ _ _ _ tl h' tk' F' (fun p hp => (List.mem_cons.mp hp).elim (fun e => N' p (List.mem_append.mpr (.inl (e ▸ hm)))) (N' p)) Tl (.tuple hm2 hA2)
end
theorem lexF_end {l : List Nat} {f n : Nat} (h : l.length ≤ n) : lexF l f n = .ok [] := by
  cases f with
  | zero => rfl
  | succ f => rw [lexF, List.getElem?_eq_none h]
theorem lexF_err {l : List Nat} {f n c k : Nat} (hc : l[n]? = some c) (h : tokenAt l n c = .error k) : lexF l (f + 1) n = .error k := by
  rw [lexF, hc]; simp only [h]
theorem lexF_ok {l : List Nat} {f n c : Nat} {q : List Nat × Dat × Nat} (hc : l[n]? = some c) (h : tokenAt l n c = .ok q) : lexF l (f + 1) n = (lexF l f q.2.2).map (tokDat q n :: ·) := by
  rw [lexF, hc]; simp only [h]
theorem map_app {ds : List Dat} {d : Dat} {o : Except Nat (List Dat)} : (o.map (d :: ·)).map (ds ++ ·) = o.map ((ds ++ [d]) ++ ·) := by
  cases o <;> simp [Except.map]
/-- a call that gives back a new list of data, or is left by a LexFault -/
noncomputable def DoesL (w : World) (f : Addr) (vs : List Value) (dd uu : Nat) (o : Except Nat (List Dat)) : Prop :=
  ∀ (mean : ExcName → Option Value) (mg mb : Str → Option Value) (dp un : Nat) (gd : Option (List Code)) (cn : Str) (cs : Scope) (a : Addr) (ccd : Value) (cl : List (Str × Addr)) (outer : List Env) (A₀ : Around) (base h₀ : Heap) (L : Addr)
    (m : Str → Option Value) (rest : List (Addr × Obj)) (s : Shared) (Q E : Value → Shared → Prop),
    Below A₀ base outer h₀ → Fr h₀ L s.heap m → (hd.heap_1 w.params).In h₀ → News h₀ L s.heap rest → Top lawView (looseW lawView []) mean mg mb h₀ → cs.kind = .function → dp + dd < recursionLimit → un + uu < cLine →
    (∀ ds, o = .ok ds → ∀ b us nn tl h' tk', Fr h₀ L h' m → News h₀ L h' ((b, PySem.W.listOf us.toArray nn) :: (tl ++ rest)) → Tups tl → DatAll tl us ds → (∀ p ∈ rest, p.1 ≠ b) → Q (.ref b) { s with heap := h', toks := tk' }) →
    (∀ n : Nat, o = .error n → ∀ e G h' tk', Fr h₀ L G m → Flew w base G (envX cn cs L a ccd cl :: outer) e n rest h' → E (.ref e) { s with heap := h', toks := tk' }) →
    wpAny (model PySem.Challenge.rw_no0240_01.row.prog w) (ktrTop dp un gd cn cs L a ccd cl outer) (call (.ref f) vs) Q E s
end Mine
namespace Mine
open PySem PySem.W PyProof.Rows PySem.NumText
set_option maxRecDepth 100000
set_option maxHeartbeats 8000000

set_option maxHeartbeats 16000000 in
theorem tokens_of_does (w : World) (x : Str) (t1 : Tok) (hx : x.length ≤ 300) : DoesL w 125 [.str x t1] 20 400 (lexAll x.cps.toList) := by
  unfold DoesL
  k_fill
  intro mean mg mb dp un gd cn cs a ccd cl outer A₀ base h₀ L m rest s Q E B F X N T hk h1 h2 hret hfl
  refine wpAny_call ?_
  k_dflt (refine' code_def (binds := [(Str.ofString "squeezed", .str x t1)]) ?k1 ?k2 ?k3 ?k4 ?k5 ?kA ?kF ?kK ?k6 ?k7 ?k8 ?k9 ?kB ?_ ?c2 ?c3 ?c4 ?c5; (case kA => exact rfl); (case kF => exact rfl); (case kK => assumption); (case k1 => k_asm); (case k2 => k_asm); (case k3 => k_asm); (case k4 => k_asm); (case k5 => k_asm); (case k6 => k_is); (case k7 => k_is); (case k8 => ktr_room); (case k9 => exact BindsTo.of_eq rfl); (case c5 => decide); (case kB => exact locs rfl); (case c2 => exact rfl); (case c3 => exact rfl); (case c4 => exact rfl))
  intro g' L' h' FG' F' N' B' X' T'
  (try k_fold)
  k_with_none
  have hr3 := len_eq x
  k_with "exec While Compare cons nil" => (
    (rename Fr _ _ _ _ => kF)
    (rename News _ _ _ _ => kN)
    (refine While_inv2 (fun k m nx => ∃ (j f : Nat) (i : Int) (b : Addr) (us : List Value) (ds : List Dat) (nn : Nat) (tl : List (Addr × Obj)) (ti : Tok) (bv : Option Value), i = (j : Int) ∧ m = (fun y => if y = Str.ofString "at" then some (Value.int i ti) else if y = Str.ofString "token" then bv else if y = Str.ofString "out" then some (Value.ref b) else List.lookup y [(Str.ofString "squeezed", Value.str x t1)].reverse) ∧ nx = (b, PySem.W.listOf us.toArray nn) :: (tl ++ rest) ∧ k = x.length - j ∧ Tups tl ∧ DatAll tl us ds ∧ (∀ p ∈ rest, p.1 ≠ b) ∧ x.length + 1 ≤ j + f ∧ us.length ≤ j ∧ (lexF x.cps.toList f j).map (ds ++ ·) = lexAll x.cps.toList) kF kN ⟨0, x.length + 1, _, _, [], [], _, [], _, none, rfl, frame_opt rfl (by decide) (by decide), rfl, rfl, tups_nil, .nil, ?hoff, by omega, Nat.le_refl _, ?hlx⟩ ?_)
    (case hoff => (intro p hp; exact Nat.ne_of_lt (by first | exact (by assumption : ∀ p ∈ rest, p.1 < _) p hp | exact ktn_ltOf (by assumption) p hp)))
    (case hlx => (rw [lexAll, ← hr3]; cases lexF x.cps.toList (x.length + 1) 0 <;> simp [Except.map]))
    (clear kF kN)
    (rintro k m₁ nx h tk kF kN ⟨j, f, i, b, us, ds, nn, tl, ti, bv, hi, rfl, rfl, rfl, hT, hD, hoff, hf, hus, hJ⟩)
    (try k_fold))
  k_with "call ref cons nil" => 
   ((k_dflt (refine' Does.useTok (token_at_does w _ _ j _ _ _ hi (by omega) (by omega) (List.getElem?_eq_getElem (by omega))) ?k1 ?k2 ?k3 ?k4 ?k5 ?k6 ?k7 ?k8 ?kx ?_; (case k1 => k_asm); (case k2 => k_asm); (case k3 => k_asm); (case k4 => k_asm); (case k5 => k_asm); (case k6 => exact rfl); (case k7 => ktr_room); (case k8 => ktr_units); (case kx => ((intro xn xq xe xG xh xtk xF xR); (k_dflt (refine' flew_on (by k_asm) xF xR (fun p hp => List.mem_cons_of_mem _ (List.mem_append_right _ hp)) ?_)); (intro xh2 xR2); (refine hfl _ ?_ _ _ _ _ FG' xR2); (rw [← hJ, show f = (f - 1) + 1 from by omega, lexF_err (List.getElem?_eq_getElem (by omega)) xq]; rfl))))); (intro kq kqe ka kd kt kn kl kh ktk kF kN kT kD); (replace kN := news_front kN); (try k_fold))
  k_with "call builtin:list.append" => (
    (rename Fr _ _ _ _ => kF)
    (rename News _ _ _ _ => kN)
    (have hs1 : (us.toArray).size ≤ sizeLine := by (rw [List.size_toArray, show sizeLine = 16777216 from rfl]; omega))
    (refine append_head kF kN ?hap ?_ hs1)
    (case hap => (intro p hp; (rcases List.mem_cons.mp hp with rfl | hp; · exact tups_off kN (tl := [_]) (fun p hp => by rw [List.mem_singleton.mp hp]; exact .head _) (tups_cons tups_nil) _ (.head _)); (rcases List.mem_append.mp hp with hp | hp; · exact tups_off kN (fun p hp => .tail _ (List.mem_append_left _ hp)) kT p hp); (rcases List.mem_append.mp hp with hp | hp; · exact tups_off kN (fun p hp => .tail _ (List.mem_append_right _ (List.mem_append_left _ hp))) hT p hp); exact hoff p hp))
    (clear kF kN)
    (intro kh kF kN)
    (rw [List.push_toArray] at kN)
    (try k_fold))
  k_steps
  · have c1 : i < (x.length : Nat) := by assumption
    rename Fr g' _ _ _ => kF9
    rename News g' _ _ _ => kN9
    have hgt := tokenAt_gt (List.getElem?_eq_getElem (by omega)) kqe
    refine ⟨_, _, _, _, _, rfl, kF9, kN9, ?_, kq.2.2, f - 1, _, b, us ++ [.ref kd], ds ++ [tokDat kq j], nn + 1, (ka, { cls := .type "tuple", data := .seq #[.ref kd, .int kq.2.2 kt] kn }) :: (kl ++ tl), kt, _, rfl, upd_two', ?_, rfl, ?_, ?_, hoff, ?_, ?_, ?_⟩
    · omega
    · simp only [List.cons_append, List.append_assoc]
    · exact tups_cons (tups_app kT hT)
    · exact (hD.mono fun p hp => .tail _ (List.mem_append_right _ hp)).append (.one (kD.mono fun p hp => .tail _ (List.mem_append_left _ hp)))
    · omega
    · rw [List.length_append]; simp only [List.length_cons, List.length_nil]; omega
    · rw [← hJ, show f = (f - 1) + 1 from by omega, lexF_ok (List.getElem?_eq_getElem (by omega)) kqe, map_app]; rfl
  · have c1 : ¬ i < (x.length : Nat) := by assumption
    rename Fr h₀ _ _ _ => kF9
    rename News h₀ _ _ _ => kN9
    rw [lexF_end (by omega)] at hJ
    exact hret ds (by rw [← hJ]; simp [Except.map]) _ _ _ _ _ _ kF9 kN9 hT hD hoff
end Mine
namespace Mine
open PySem PySem.W PyProof.Rows PySem.Spec PySem.Calls
set_option maxRecDepth 100000
set_option maxHeartbeats 8000000
theorem wp_with {α : Type} {M : Model} {A : Around} {e : Addr} {d : Option Addr} {t : Sem α} {Q : α → Shared → Prop} {E : Value → Shared → Prop} {s : Shared} (hk : Kd t) (D : DictAt e d s.heap) (h : wpAny M A t (fun a s' => DictAt e d s'.heap → Q a s') E s) : wpAny M A t Q E s :=
  wpAny_mono (wpAny_kd hk D h) (fun _ _ x => x.1 x.2) fun _ _ x => x.1
section
variable {prog : Program} {w : World} {A₀ : Around} {E : Value → Shared → Prop} {s' : Shared} {base g G : Heap} {outer : List Env} {L a e : Addr} {m : Str → Option Value} {name : Str} {scope : Scope} {cd : Value}
  {n : Str} {b₀ : Stmt} {suite : List Stmt} {pos np : Pos} {rest : List ExceptHandler} {Q : Flow → Shared → Prop} {news : List (Addr × Obj)} {mean : ExcName → Option Value} {mg mb : Str → Option Value} {at_ : Int}
theorem caught_lex (R : Flew w base G (envOf name scope L a cd :: outer) e at_ news s'.heap) (F : Fr g L G m) (K : Below A₀ base outer g) (XB : (hd.heap_1 w.params).In base) (TB : Top lawView (looseW lawView []) mean mg mb base)
    (D : KtsDicts (outer.filterMap (·.frame)) g)
    (k : ∀ h' g' tk dx oe msg t2 t1 tk1 tk2, KtsTurn (outer.filterMap (·.frame)) g g' → Fr g' L h' (fun y => if y = n then some (.ref e) else m y) → News g' L h' news → Below A₀ base outer g' → (hd.heap_1 w.params).In g' → Top lawView (looseW lawView []) mean mg mb g' →
      PySem.W.InstAt h' e oe 51 (some (lexDict w msg t2 at_ t1 tk1 tk2)) → oe.dict = some dx →
      wpAny (model prog w) ((A₀.deeper (envOf name scope L a cd)).mark (some (.ref e))) (execs (b₀ :: suite) (envOf name scope L a cd))
        (fun f s₄ => wpAny (model prog w) (A₀.deeper (envOf name scope L a cd)) (do bindName (envOf name scope L a cd) n .none; unbindBehindTheSuite (envOf name scope L a cd) n pos) (fun _ s₅ => Q f s₅) E s₄)
        (AsSuiteRaised (model prog w) ((A₀.deeper (envOf name scope L a cd)).mark (some (.ref e))) (envOf name scope L a cd) n pos (notedBy (model prog w) ((A₀.deeper (envOf name scope L a cd)).mark (some (.ref e))) (envOf name scope L a cd) (cameBackBy (model prog w) (A₀.deeper (envOf name scope L a cd)) (envOf name scope L a cd) E)))
        { s' with heap := h', toks := tk })
    (hk : scope.kind = .function) (hlo : (envOf name scope L a cd).kindOf n = some .local) (hx : (envOf name scope L a cd).kindOf (Str.ofString "LexFault") = some .globalImplicit) :
    wpAny (model prog w) (A₀.deeper (envOf name scope L a cd)) (noteFrame (.ref e) (envOf name scope L a cd))
      (fun _ s₂ => wpAny (model prog w) (A₀.deeper (envOf name scope L a cd)) (setFlight (.ref e) none) (fun _ s₃ =>
        wpAny (model prog w) (A₀.deeper (envOf name scope L a cd)) (handleBy (.ref e) (envOf name scope L a cd) (.ExceptHandler (some (.Name (Str.ofString "LexFault") np)) (some n) (b₀ :: suite) pos :: rest)) Q E s₃) E s₂) E s' := by
  obtain ⟨dx, t, vs, msg, t2, t1, tk1, tk2, ⟨⟨B, hB, hBG, hl, hfl, hnew⟩, htup⟩, DA, hsm⟩ := R
  have hL : B.get? L = none := by
    obtain ⟨_, ⟨L', _, hf, hn', _⟩, _⟩ := hfl.2.2.1
    obtain rfl : L = L' := Option.some.inj hf
    exact hn'
  refine wp_with (kd_noteFrame _ _) DA (wpAny_looks_onW (Around.frames_deeper K.stack) rfl hfl fun h₄ hheld₄ hsm₄ DA₄ => ?_)
  refine wp_with (kd_setFlight _ _) DA₄ (wpAny_landsW hheld₄ fun h₅ hheld hsm₅' DA₅ => ?_)
  have hsm₅ := hsm₄.trans hsm₅'
  obtain ⟨g₅, T₅, F₅, K₅⟩ := kts_ground K F hBG hheld.1 (hsm.trans hsm₅)
  have X₅ : (hd.heap_1 w.params).In g₅ := XB.keeps K₅.stays
  have P₅ := topRead_of (TB.keeps K₅.stays)
  obtain ⟨ob, hob, hobc⟩ := hheld.there
  obtain ⟨nm, q', bs, hdct, sn, sub, ab, col, dd, k0, k1, k2, k3, k5, hC⟩ := lex_cls X₅
  have hC₅ := F₅.keep _ _ hC
  have hbase : lexTail.contains (.type "BaseException") = true := by decide
  refine wpAny_handleBy_cons (codeAny_handlers_test (name_K F₅ X₅ P₅ (v := .ref 51) (by kernel_rfl) ?_ hk hx (by decide))) (by intro q; cases q)
  refine wpAny_excMatches_sub_self hC₅ hob hobc hbase (codeAny_handlers_suite_as ?_)
  refine wp_with (kd_setFlight _ _) DA₅ (lands_againW hheld fun h₆ hfl₆ hsm₆ DA₆ => ?_)
  obtain ⟨g₆, T₆, F₆, K₆⟩ := kts_ground K F hBG hfl₆.1 ((hsm.trans hsm₅).trans hsm₆)
  obtain ⟨oe, ws, hoe, hoec, hoed, hoe0⟩ := hfl₆.first
  obtain ⟨oe', hoe', hdx⟩ := DA₆
  have hee : oe' = oe := Option.some.inj (hoe'.symm.trans hoe)
  subst hee
  have ne₆ : g₆.get? e = none := T₆.none_ _ (kts_fresh F hBG hfl₆.2.1 fun o ho m => by
    obtain ⟨_, o', ho', hd⟩ := K.frames.mem m
    rw [ho] at ho'
    cases ho'
    obtain ⟨sl, hs⟩ := ((hsm.trans hsm₅).trans hsm₆) _ _ (F.keep _ _ ho) hd
    rw [hoe] at hs
    cases hs
    exact hd _ hoed)
  have N₆ : News g₆ L h₆ [(e, oe')] := News.more F₆ News.nil hoe (fun es n q => by rw [hoed] at q; cases q) ne₆
  have Nl : News g₆ L h₆ ((dx, lexDict w msg t2 at_ t1 tk1 tk2) :: news) := fun q hq => ⟨hfl₆.1 _ _ (hl q hq).1, (fun z => by have := (hl q hq).1; rw [z, hL] at this; cases this), T₆.none_ _ (kts_none F.keep (hl q hq).2.1)⟩
  have X₆ : (hd.heap_1 w.params).In g₆ := XB.keeps K₆.stays
  have P₆ : Top lawView (looseW lawView []) mean mg mb g₆ := TB.keeps K₆.stays
  refine stN F₆ (news := _ ++ ((dx, lexDict w msg t2 at_ t1 tk1 tk2) :: news)) (fun q hq => (List.mem_append.mp hq).elim (N₆ q) (Nl q)) (fun h₇ F₇ N₇ => ?_) hk hlo
  refine k h₇ g₆ _ dx oe' msg t2 t1 tk1 tk2 T₆ F₇ (fun q hq => N₇ q (List.mem_append_right _ (.tail _ hq))) K₆ X₆ P₆ ⟨(N₇ (e, oe') (List.mem_append_left _ (.head _))).1, hoec, ?_, ?_⟩ hdx
  · unfold notCls; rw [hoed]
  · rw [hdx]
    exact (N₇ (dx, _) (List.mem_append_right _ (.head _))).1
end
end Mine
namespace Mine
open PySem PySem.W PyProof.Rows PySem.Spec PySem.Calls Builtin.ObjectAttr
set_option maxRecDepth 100000
set_option maxHeartbeats 8000000
section
variable {prog : Program} {w : World} {M : Model} {A : Around} {E : Value → Shared → Prop} {h : Heap} {g : Array GenState} {d : Drawn} {t : Nat} {os : OsState} {x : Addr} {ox : Obj} {es : List DictEntry} {n : Nat} {v : Value} {name : Str}
theorem lex_check_ga {nameV : Value} {Q : Unit → Shared → Prop} (X : (hd.heap_1 w.params).In h) (hx : h.get? x = some ox) (hc : ox.cls = .ref 51) (hq : Q () ⟨h, g, d, t, os⟩) : wpAny M A (checkBuiltinCall "BaseException.__getattribute__" ⟨[.ref x, nameV], []⟩) Q E ⟨h, g, d, t, os⟩ := by
  have hk : builtinKind "BaseException.__getattribute__" = some .slot := by decide +kernel
  have hsplit : splitId "BaseException.__getattribute__" = some ("BaseException", "__getattribute__") := by decide +kernel
  have hcB : (Value.ref 51 :: lexTail).contains (.type "BaseException") = true := by decide
  have ha := F.args_bexc_ga (.ref x) nameV
  obtain ⟨nm, q, bs, hdct, sn, sub, ab, col, dd, k0, k1, k2, k3, k5, hC⟩ := lex_cls X
  simp only [checkBuiltinCall, hk, hsplit]
  refine wpAny_bind ?_
  · unfold isInstance
    repeat (first | (with_reducible refine wpAny_loadPart_at hx ?_; rw [hc]) | (with_reducible refine wpAny_isSubtype_exc hC ?_; rw [hcB]) | wp_step)
    exact hq
theorem lex_ga {R : Result → Shared → Prop} {tk : Tok} (X : (hd.heap_1 w.params).In h) (I : PySem.W.InstAt h x ox 51 (some (dictOf es n))) (hf : findObj (hd.heap_1 w.params) 51 (some (dictOf es n)) name = some (.value v)) (hq : R (.ok (.ret v)) ⟨h, g, d, t, os⟩) :
    codeAny (model prog w) A (.call (.builtin "BaseException.__getattribute__") ⟨[.ref x, .str name tk], []⟩) R ⟨h, g, d, t, os⟩ := by
  refine codeAny_call_builtin PySem.F.attrBase_Exception.ga.plain F.entry_bexc_ga (lex_check_ga X I.at_ I.cls ?_)
  have L0 := I.type (M := model prog w)
  have L1 := looks_find (M := model prog w) X I hf
  unfold Builtin.«object.__getattribute__»
  refine wpAny_bind (wpAny_pure (wpAny_bind (wpAny_pure (wpAny_bind (L0.at (wpAny_bind (L1.at ?_)))))))
  exact wpAny_pure hq
theorem lex_get {expr : Bool} {Q : Value → Shared → Prop} (X : (hd.heap_1 w.params).In h) (I : PySem.W.InstAt h x ox 51 (some (dictOf es n))) (hf : findObj (hd.heap_1 w.params) 51 (some (dictOf es n)) name = some (.value v)) (hv : handedIn v = true) (hq : Q v ⟨h, g, d, t + 1, os⟩) :
    wpAny (model prog w) A (getAttr (.ref x) name expr) Q E ⟨h, g, d, t, os⟩ := by
  have L0 := I.type (M := model prog w)
  have L1 := looks_findIn (M := model prog w) (name := "__getattribute__") (t := .ref 51) (r := some (.builtin "BaseException.__getattribute__")) X (by kernel_rfl)
  have L2 := looks_findIn (M := model prog w) (name := "__getattr__") (t := .ref 51) (r := none) X (by kernel_rfl)
  have hx2 : (Value.builtin "BaseException.__getattribute__" == Value.builtin "object.__getattribute__") = false := by decide +kernel
  have f3 := PySem.F.attrBase_Exception.ga.bind (.ref x)
  have hx0 : (expr && onTheHeap (Value.builtin "BaseException.__getattribute__")) = false := by cases expr <;> rfl
  unfold getAttr getAttrBy
  refine wpAny_bind (wpAny_mkText (wpAny_holding (wpAny_bind (L0.at (wpAny_bind (L1.at ?_))))))
  dsimp only
  rw [hx2, Bool.and_false, if_neg (by decide)]
  unfold getAttrByItsOwn hookBefore
  refine wpAny_bind (L2.at ?_)
  repeat (any_goals (first | assumption | wp_step))
  refine lex_ga X I hf ?_
  show wpAny _ _ (handedOut v) _ _ _
  exact handed_on hv hq
end
end Mine
namespace Mine
open PySem PySem.W PyProof.Rows PySem.NumText
set_option maxRecDepth 100000
set_option maxHeartbeats 8000000

/-- what _law_heard gives at a call from the law's own frame: the list, or the fault's place -/
noncomputable def Heard (w : World) (f : Addr) (vs : List Value) (dd uu : Nat) (o : Except Nat (List Dat)) : Prop :=
  ∀ (mean : ExcName → Option Value) (mg mb : Str → Option Value) (dp un : Nat) (gd : Option (List Code)) (cn : Str) (cs : Scope) (a : Addr) (ccd : Value) (A₀ : Around) (base h₀ : Heap) (L : Addr)
    (m : Str → Option Value) (rest : List (Addr × Obj)) (s : Shared) (Q E : Value → Shared → Prop),
    Below A₀ base [] h₀ → Fr h₀ L s.heap m → (hd.heap_1 w.params).In h₀ → News h₀ L s.heap rest → Top lawView (looseW lawView []) mean mg mb h₀ → (hd.heap_1 w.params).In base → Top lawView (looseW lawView []) mean mg mb base → cs.kind = .function → dp + dd < recursionLimit → un + uu < cLine →
    (∀ ds, o = .ok ds → ∀ b us nn tl h' tk', Fr h₀ L h' m → News h₀ L h' ((b, PySem.W.listOf us.toArray nn) :: (tl ++ rest)) → Tups tl → DatAll tl us ds → (∀ p ∈ rest, p.1 ≠ b) → Q (.ref b) { s with heap := h', toks := tk' }) →
    (∀ n : Nat, o = .error n → ∀ t h' tk', Fr h₀ L h' m → News h₀ L h' rest → Q (.int n t) { s with heap := h', toks := tk' }) →
    wpAny (model PySem.Challenge.rw_no0240_01.row.prog w) (ktrTop dp un gd cn cs L a ccd [] []) (call (.ref f) vs) Q E s
theorem heard_does (w : World) (x : Str) (t1 : Tok) (hx : x.length ≤ 300) : Heard w 228 [.str x t1] 24 500 (lexAll x.cps.toList) := by
  unfold Heard
  k_fill
  intro mean mg mb dp un gd cn cs a ccd A₀ base h₀ L m rest s Q E B F X N T XB TB hk h1 h2 hret hfl
  refine wpAny_call ?_
  k_dflt (refine' code_defS0 (binds := [(Str.ofString "text", .str x t1)]) ?k1 ?k2 ?k3 ?k4 ?k5 ?kA ?k6 ?k7 ?k8 ?k9 ?kB ?_ ?kK ?c2 ?c3 ?c4 ?c5; (case kA => exact rfl); (case kK => assumption); (case k1 => k_asm); (case k2 => k_asm); (case k3 => k_asm); (case k4 => k_asm); (case k5 => k_asm); (case k6 => k_is); (case k7 => k_is); (case k8 => ktr_room); (case k9 => exact BindsTo.of_eq rfl); (case c5 => decide); (case kB => exact locs rfl); (case c2 => exact rfl); (case c3 => exact rfl); (case c4 => exact rfl))
  intro g' L' h' FG' F' N' B' X' T' D'
  (try k_fold)
  k_with_none

  k_with "call ref cons nil" => ((k_dflt (refine' (tokens_of_does w _ _ hx) _ _ _ _ _ _ _ _ _ _ _ _ _ _ _ _ _ _ _ _ _ ?k1 ?k2 ?k3 ?k4 ?k5 ?k6 ?k7 ?k8 ?kr ?ke; (case k1 => k_asm); (case k2 => k_asm); (case k3 => k_asm); (case k4 => k_asm); (case k5 => k_asm); (case k6 => exact rfl); (case k7 => ktr_room); (case k8 => ktr_units))); (case' kr => (intro ds hds kb us nn tl kh ktk kF kN kT kD koff; (try k_fold))); (case' ke => (intro xn hxn xe xG xh xtk xF xR)))
  k_steps
  · k_dflt (refine' caught_lex xR xF B' XB TB D' ?_ rfl rfl rfl)
    intro h9 g9 tk9 dx oe msg t2 t9 tk1 tk2 T9 kF9 kN9 B9 X9 P9 hI hdx
    (try k_fold)
    k_with "getAttr ref" => ((k_dflt (refine' lex_get (v := .int xn t9) (X9.keeps kF9.keep) hI ?hf rfl ?_; (case hf => exact findObj_own (attr := none) (by kernel_rfl) (by kernel_rfl) rfl rfl))))
    k_steps
    rename Fr h₀ _ _ _ => kF8
    rename News h₀ _ _ _ => kN8
    exact hfl xn hxn _ _ _ kF8 kN8
  · rename Fr h₀ _ _ _ => kF9
    rename News h₀ _ _ _ => kN9
    exact hret ds hds _ _ _ _ _ _ kF9 kN9 kT kD koff
end Mine
namespace Mine
open PySem PySem.W PyProof.Rows PySem.NumText
set_option maxRecDepth 100000
set_option maxHeartbeats 8000000
/-- the tape: the script's part, the place -/
noncomputable abbrev tapeO (sc : Addr) (i : Nat) (t : Tok) (n : Nat) : Obj := PySem.W.listOf #[.ref sc, .int (i : Int) t] n
/-- the script's part stands in the ledger -/
structure Scr (sc : Addr) (rest : List (Addr × Obj)) : Prop where
  ex : ∃ xs k ns, (sc, PySem.W.listOf xs.toArray k) ∈ rest ∧ IntsAre xs ns ∧ ns.length ≤ 63
/-- a call that draws from the tape tp, c numbers at most, and gives back a datum of which P holds -/
noncomputable def Draws (w : World) (f : Addr) (vs : List Value) (tp sc : Addr) (dd uu c : Nat) (P : Dat → Prop) : Prop :=
  ∀ (mean : ExcName → Option Value) (mg mb : Str → Option Value) (dp un : Nat) (gd : Option (List Code)) (cn : Str) (cs : Scope) (a : Addr) (ccd : Value) (cl : List (Str × Addr)) (outer : List Env) (A₀ : Around) (base h₀ : Heap) (L : Addr)
    (m : Str → Option Value) (rest : List (Addr × Obj)) (s : Shared) (Q E : Value → Shared → Prop) (i : Nat) (t : Tok) (nn : Nat),
    Below A₀ base outer h₀ → Fr h₀ L s.heap m → (hd.heap_1 w.params).In h₀ → Top lawView (looseW lawView []) mean mg mb h₀ → cs.kind = .function → dp + dd < recursionLimit → un + uu < cLine → News h₀ L s.heap ((tp, tapeO sc i t nn) :: rest) → (∀ p ∈ rest, p.1 ≠ tp) → Scr sc rest → i + c ≤ 1000 →
    (∀ d, P d → ∀ r tl i' t' nn' h' tk', i' ≤ i + c → Fr h₀ L h' m → News h₀ L h' ((tp, tapeO sc i' t' nn') :: (tl ++ rest)) → Tups tl → DatIn tl r d → Q r { s with heap := h', toks := tk' }) →
    wpAny (model PySem.Challenge.rw_no0240_01.row.prog w) (ktrTop dp un gd cn cs L a ccd cl outer) (call (.ref f) vs) Q E s
theorem fmod_nat (x : Int) {n : Nat} (hn : 0 < n) : ∃ k : Nat, k < n ∧ Int.fmod x n = k := by
  have h1 : (0 : Int) < (n : Int) := by omega
  rw [Int.fmod_eq_emod_of_nonneg _ (Int.le_of_lt h1)]
  have h2 := Int.emod_nonneg x (Int.ne_of_gt h1)
  have h3 := Int.emod_lt_of_pos x h1
  exact ⟨(x % n).toNat, by omega, by omega⟩
section
variable {prog : Program} {w : World} {A : Around} {E : Value → Shared → Prop} {s : Shared} {h₀ : Heap} {L : Addr} {m : Str → Option Value} {rest : List (Addr × Obj)}
theorem set_head {D : Addr} {its its' : Array Value} {n : Nat} {k : Int} {t : Tok} {v : Value} {Q : Unit → Shared → Prop} (F : Fr h₀ L s.heap m) (N : News h₀ L s.heap ((D, PySem.W.listOf its n) :: rest)) (hoff : ∀ p ∈ rest, p.1 ≠ D) (h0 : 0 ≤ k) (h1 : k < 2 ^ 63) (h2 : k < its.size)
    (he : its.setIfInBounds k.toNat v = its') (hz : its'.size = its.size) (h : ∀ h', Fr h₀ L h' m → News h₀ L h' ((D, PySem.W.listOf its' n) :: rest) → Q () { s with heap := h' }) : wpAny (model prog w) A (setItem (.ref D) (.int k t) v) Q E s := by
  have z := N _ (.head _)
  refine ki_setAt z.1 h0 h1 h2 (h _ (F.change (Heap.SameBut.update ..) z.2.1 z.2.2) (ki_turn (pre := []) _ N (fun _ hp => nomatch hp) hoff he ?_))
  rw [hz]; simp
theorem item_head {value slice : Expr} {D : Addr} {its : Array Value} {n : Nat} {k : Int} {t : Tok} {v : Value} {Q : Value → Shared → Prop} (N : News h₀ L s.heap ((D, PySem.W.listOf its n) :: rest)) (h0 : 0 ≤ k) (h1 : k < 2 ^ 63) (hx : its[k.toNat]? = some v) (h : Q v s)
    (hs : subscripted slice false (.ref D) (.int k t) = operate [.ref D, .int k t] (getItem (.ref D) (.int k t))) : wpAny (model prog w) A (subscriptTail value slice (.ref D) (.int k t)) Q E s :=
  tail_any (PySem.IsL.isList (n := n) (N _ (.head _)).1).typeIs slot_list_getitem.lookup (wpAny_getItem_list (PySem.IsL.isList (n := n) (N _ (.head _)).1) h0 h1 hx h) hs
end
theorem take_draws (w : World) (tp sc : Addr) (n : Nat) (t1 : Tok) (hn : 0 < n) (hn2 : n ≤ 2 ^ 40) : Draws w 193 [.ref tp, .int n t1] tp sc 2 16 1 (fun d => ∃ k : Nat, k < n ∧ d = .int k) := by
  unfold Draws
  k_fill
  intro mean mg mb dp un gd cn cs a ccd cl outer A₀ base h₀ L m rest s Q E i t nn B F X T hk h1 h2 N hoff hS hi hret
  obtain ⟨xs, k2, ns, hsc, hI, hns⟩ := hS.ex
  refine wpAny_call ?_
  k_dflt (refine' code_def (binds := [(Str.ofString "tape", .ref tp), (Str.ofString "n", .int n t1)]) ?k1 ?k2 ?k3 ?k4 ?k5 ?kA ?kF ?kK ?k6 ?k7 ?k8 ?k9 ?kB ?_ ?c2 ?c3 ?c4 ?c5; (case kA => exact rfl); (case kF => exact rfl); (case kK => assumption); (case k1 => k_asm); (case k2 => k_asm); (case k3 => k_asm); (case k4 => k_asm); (case k5 => k_asm); (case k6 => k_is); (case k7 => k_is); (case k8 => ktr_room); (case k9 => exact BindsTo.of_eq rfl); (case c5 => decide); (case kB => exact locs rfl); (case c2 => exact rfl); (case c3 => exact rfl); (case c4 => exact rfl))
  intro g' L' h' FG' F' N' B' X' T'
  (try k_fold)
  k_with_none
  k_with "setItem ref int" => ((rename Fr _ _ _ _ => kF); (rename News _ _ _ _ => kN); (refine set_head kF kN hoff (by decide) (by decide) (by simp) (its' := #[.ref sc, .int ((i + 1 : Nat) : Int) _]) rfl rfl ?_); (clear kF kN); (intro kh kF kN); (try k_fold))
  k_with "call builtin:len" => ((rename Fr _ _ _ _ => kF); (rename News _ _ _ _ => kN); (refine PyProof.Rows.len_list (PySem.IsL.isList (n := k2) (kN _ (.tail _ hsc)).1) ?hfit ?_); (case hfit => (rw [List.size_toArray, hI.length]; omega)); (rw [List.size_toArray, hI.length]); (try k_fold))
  k_with "subscriptTail" => ((with_reducible show wpAny _ _ (subscriptTail _ _ (Value.ref sc) (Value.int _ _)) _ _ _); (rename News _ _ _ _ => kN); (k_dflt (refine' item_anyK (PySem.IsL.isList (n := k2) (kN _ (.tail _ hsc)).1) hI (by omega) (by omega) (by omega) ?_ (by with_unfolding_all rfl))); (intro kt2))
  k_steps
  all_goals (
    rename Fr h₀ _ _ _ => kF9
    rename News h₀ _ _ _ => kN9)
  · obtain ⟨k, hk9, hk8⟩ := fmod_nat (ns.getD (i : Int).toNat 0) hn
    rw [hk8]
    exact hret _ ⟨k, hk9, rfl⟩ _ [] _ _ _ _ _ (by omega) kF9 kN9 tups_nil (.int _ _)
  · obtain ⟨k, hk9, hk8⟩ := fmod_nat ((i : Int) * i + 3 * i + 5) hn
    rw [hk8]
    exact hret _ ⟨k, hk9, rfl⟩ _ [] _ _ _ _ _ (by omega) kF9 kN9 tups_nil (.int _ _)
end Mine
namespace Mine
open PySem PySem.W PyProof.Rows PySem.NumText
set_option maxRecDepth 100000
set_option maxHeartbeats 8000000
section
variable {w : World} {f : Addr} {vs : List Value} {dd uu : Nat} {mean : ExcName → Option Value} {mg mb : Str → Option Value} {dp un : Nat} {gd : Option (List Code)} {cn : Str} {cs : Scope} {a : Addr} {ccd : Value} {cl : List (Str × Addr)} {outer : List Env} {A₀ : Around} {base h₀ : Heap} {L : Addr}
    {m : Str → Option Value} {rest : List (Addr × Obj)} {s : Shared} {Q E : Value → Shared → Prop}
theorem Draws.use {tp sc : Addr} {c : Nat} {P : Dat → Prop} {i : Nat} {t : Tok} {nn : Nat} (D : Draws w f vs tp sc dd uu c P) (B : Below A₀ base outer h₀) (F : Fr h₀ L s.heap m) (X : (hd.heap_1 w.params).In h₀) (T : Top lawView (looseW lawView []) mean mg mb h₀) (hk : cs.kind = .function) (h1 : dp + dd < recursionLimit) (h2 : un + uu < cLine)
    (N : News h₀ L s.heap ((tp, tapeO sc i t nn) :: rest)) (ho : ∀ p ∈ rest, p.1 ≠ tp) (hs : Scr sc rest) (hi : i + c ≤ 1000)
    (k : ∀ d, P d → ∀ r tl i' t' nn' h' tk', i' ≤ i + c → Fr h₀ L h' m → News h₀ L h' ((tp, tapeO sc i' t' nn') :: (tl ++ rest)) → Tups tl → DatIn tl r d → Q r { s with heap := h', toks := tk' }) : wpAny (model PySem.Challenge.rw_no0240_01.row.prog w) (ktrTop dp un gd cn cs L a ccd cl outer) (call (.ref f) vs) Q E s :=
  D mean mg mb dp un gd cn cs a ccd cl outer A₀ base h₀ L m rest s Q E i t nn B F X T hk h1 h2 N ho hs hi k
theorem news_drop {h₀ h : Heap} {L : Addr} {p : Addr × Obj} {A B : List (Addr × Obj)} (N : News h₀ L h (p :: (A ++ B))) : News h₀ L h (p :: B) := fun q hq => (List.mem_cons.mp hq).elim (fun e => N q (e ▸ .head _)) fun hq => N q (.tail _ (List.mem_append_right _ hq))
theorem Draws.useK {tp sc : Addr} {c n : Nat} {i : Nat} {t : Tok} {nn : Nat} (D : Draws w f vs tp sc dd uu c (fun d => ∃ k : Nat, k < n ∧ d = .int k)) (B : Below A₀ base outer h₀) (F : Fr h₀ L s.heap m) (X : (hd.heap_1 w.params).In h₀) (T : Top lawView (looseW lawView []) mean mg mb h₀) (hk : cs.kind = .function) (h1 : dp + dd < recursionLimit) (h2 : un + uu < cLine)
    (N : News h₀ L s.heap ((tp, tapeO sc i t nn) :: rest)) (ho : ∀ p ∈ rest, p.1 ≠ tp) (hs : Scr sc rest) (hi : i + c ≤ 1000)
    (k : ∀ j : Nat, j < n → ∀ u i' t' nn' h' tk', i' ≤ i + c → Fr h₀ L h' m → News h₀ L h' ((tp, tapeO sc i' t' nn') :: rest) → Q (.int j u) { s with heap := h', toks := tk' }) : wpAny (model PySem.Challenge.rw_no0240_01.row.prog w) (ktrTop dp un gd cn cs L a ccd cl outer) (call (.ref f) vs) Q E s :=
  D.use B F X T hk h1 h2 N ho hs hi fun d ⟨j, hj, e⟩ r tl i' t' nn' h' tk' hi' F' N' _ D' => by subst e; cases D'; exact k j hj _ i' t' nn' h' tk' hi' F' (news_drop N')
theorem Draws.useS {tp sc : Addr} {c : Nat} {P : List Nat → Prop} {i : Nat} {t : Tok} {nn : Nat} (D : Draws w f vs tp sc dd uu c (fun d => ∃ l, d = .str (str l) ∧ P l)) (B : Below A₀ base outer h₀) (F : Fr h₀ L s.heap m) (X : (hd.heap_1 w.params).In h₀) (T : Top lawView (looseW lawView []) mean mg mb h₀) (hk : cs.kind = .function) (h1 : dp + dd < recursionLimit) (h2 : un + uu < cLine)
    (N : News h₀ L s.heap ((tp, tapeO sc i t nn) :: rest)) (ho : ∀ p ∈ rest, p.1 ≠ tp) (hs : Scr sc rest) (hi : i + c ≤ 1000)
    (k : ∀ l, P l → ∀ u i' t' nn' h' tk', i' ≤ i + c → Fr h₀ L h' m → News h₀ L h' ((tp, tapeO sc i' t' nn') :: rest) → Q (.str (str l) u) { s with heap := h', toks := tk' }) : wpAny (model PySem.Challenge.rw_no0240_01.row.prog w) (ktrTop dp un gd cn cs L a ccd cl outer) (call (.ref f) vs) Q E s :=
  D.use B F X T hk h1 h2 N ho hs hi fun d ⟨l, e, hl⟩ r tl i' t' nn' h' tk' hi' F' N' _ D' => by subst e; cases D'; exact k l hl _ i' t' nn' h' tk' hi' F' (news_drop N')
theorem news_swap {h₀ h : Heap} {L : Addr} {p q : Addr × Obj} {B : List (Addr × Obj)} (N : News h₀ L h (p :: q :: B)) : News h₀ L h (q :: p :: B) := fun r hr => N r (by
  rcases List.mem_cons.mp hr with rfl | hr
  · exact .tail _ (.head _)
  · rcases List.mem_cons.mp hr with rfl | hr
    · exact .head _
    · exact .tail _ (.tail _ hr))
theorem news_tail {h₀ h : Heap} {L : Addr} {p : Addr × Obj} {B : List (Addr × Obj)} (N : News h₀ L h (p :: B)) : News h₀ L h B := fun q hq => N q (.tail _ hq)
theorem fr_cast {h₀ h : Heap} {L : Addr} {m m' : Str → Option Value} (F : Fr h₀ L h m) (e : m = m') : Fr h₀ L h m' := e ▸ F
theorem news_pull {h₀ h : Heap} {L : Addr} {p : Addr × Obj} {A B : List (Addr × Obj)} (N : News h₀ L h (A ++ p :: B)) : News h₀ L h (p :: (A ++ B)) := fun q hq => N q (by
  rcases List.mem_cons.mp hq with rfl | hq
  · exact List.mem_append.mpr (.inr (.head _))
  · exact (List.mem_append.mp hq).elim (fun x => List.mem_append.mpr (.inl x)) fun x => List.mem_append.mpr (.inr (.tail _ x)))
theorem Scr.more {sc : Addr} {rest rest' : List (Addr × Obj)} (S : Scr sc rest) (h : ∀ p ∈ rest, p ∈ rest') : Scr sc rest' := by
  obtain ⟨xs, k, ns, h1, h2⟩ := S.ex
  exact ⟨xs, k, ns, h _ h1, h2⟩
theorem Scr.cons {sc : Addr} {p : Addr × Obj} {rest : List (Addr × Obj)} (S : Scr sc rest) : Scr sc (p :: rest) := S.more fun _ h => .tail _ h
end
noncomputable def natText (k : Nat) : List Nat := (Nat.toDigits 10 k).map Char.toNat
theorem natText_is (k : Nat) : Str.ofString (toString (k : Int)) = str (natText k) := str_of (KIN.signs_num k)
theorem natText_val (k : Nat) : digitsVal (natText k) = k := KIN.val_back k
theorem natText_digits (k : Nat) : AllDigits (natText k) := by
  intro c hc
  obtain ⟨ch, hch, e⟩ := List.mem_map.mp hc
  have r := digit_range (Nat.isDigit_of_mem_toDigits (by decide) (by decide) hch)
  rw [← e]
  exact r
theorem natText_len {k n : Nat} (hn : 0 < n) (h : k < 10 ^ n) : (natText k).length ≤ n := by
  rw [natText, List.length_map]
  induction n generalizing k with
  | zero => omega
  | succ n ih =>
    by_cases hk : k < 10
    · rw [Nat.toDigits_of_lt_base hk]; simp
    · have hm : k % 10 < 10 := Nat.mod_lt k (by decide)
      have t : Nat.toDigits 10 (k / 10) ++ Nat.toDigits 10 (k % 10) = Nat.toDigits 10 (10 * (k / 10) + k % 10) := Nat.toDigits_append_toDigits (by decide) (by omega) hm
      rw [Nat.div_add_mod] at t
      rw [← t, List.length_append, Nat.toDigits_of_lt_base hm]
      have : n ≠ 0 := by
        rintro rfl
        simp at h; omega
      have := ih (k := k / 10) (by omega) (by rw [Nat.pow_succ] at h; omega)
      simp only [List.length_cons, List.length_nil]
      omega
theorem natText_ne (k : Nat) : natText k ≠ [] := by
  intro e
  have h := toDigits_len_ge 10 k
  rw [natText, List.map_eq_nil_iff] at e
  rw [e] at h
  exact absurd h (by decide)
theorem zero_is : Str.ofString "0" = str [48] := by decide +kernel
theorem zeros2_is : Str.ofString "00" = str [48, 48] := by decide +kernel
theorem str_cat (l m : List Nat) : str l ++ str m = str (l ++ m) := str_of (by rw [cat_list, toList_str, toList_str])
noncomputable abbrev Digs8 (l : List Nat) : Prop := AllDigits l ∧ l.length ≤ 8
theorem allDigits_zero : AllDigits [48] := by intro c hc; simp at hc; omega
theorem digits_draws (w : World) (tp sc : Addr) : Draws w 200 [.ref tp] tp sc 4 32 2 (fun d => ∃ l, d = .str (str l) ∧ Digs8 l) := by
  unfold Draws
  k_fill
  intro mean mg mb dp un gd cn cs a ccd cl outer A₀ base h₀ L m rest s Q E i t nn B F X T hk h1 h2 N hoff hS hi hret
  refine wpAny_call ?_
  k_dflt (refine' code_def (binds := [(Str.ofString "tape", .ref tp)]) ?k1 ?k2 ?k3 ?k4 ?k5 ?kA ?kF ?kK ?k6 ?k7 ?k8 ?k9 ?kB ?_ ?c2 ?c3 ?c4 ?c5; (case kA => exact rfl); (case kF => exact rfl); (case kK => assumption); (case k1 => k_asm); (case k2 => k_asm); (case k3 => k_asm); (case k4 => k_asm); (case k5 => k_asm); (case k6 => k_is); (case k7 => k_is); (case k8 => ktr_room); (case k9 => exact BindsTo.of_eq rfl); (case c5 => decide); (case kB => exact locs rfl); (case c2 => exact rfl); (case c3 => exact rfl); (case c4 => exact rfl))
  intro g' L' h' FG' F' N' B' X' T'
  (try k_fold)
  k_with_none
  k_with "call ref" => first
   | ((k_dflt (refine' Draws.useK (take_draws w tp sc 1000000 _ (by decide) (by decide)) ?k1 ?k2 ?k3 ?k5 ?k6 ?k7 ?k8 ?k4 ?ko ?ks ?ki ?_; (case k1 => k_asm); (case k2 => k_asm); (case k3 => k_asm); (case k4 => k_asm); (case k5 => k_asm); (case k6 => exact rfl); (case k7 => ktr_room); (case k8 => ktr_units); (case ko => assumption); (case ks => assumption); (case ki => omega))); (intro j1 hj1 u1 i1 t1 n1 kh ktk hi1 kF kN); (rw [show (10 : Int) ^ 6 = 1000000 from rfl] at *); (try k_fold))
   | ((k_dflt (refine' Draws.useK (take_draws w tp sc 1000000 _ (by decide) (by decide)) ?k1 ?k2 ?k3 ?k5 ?k6 ?k7 ?k8 ?k4 ?ko ?ks ?ki ?_; (case k1 => k_asm); (case k2 => k_asm); (case k3 => k_asm); (case k4 => k_asm); (case k5 => k_asm); (case k6 => exact rfl); (case k7 => ktr_room); (case k8 => ktr_units); (case ko => assumption); (case ks => assumption); (case ki => omega))); (intro j1 hj1 u1 i1 t1 n1 kh ktk hi1 kF kN); (try k_fold))
   | ((k_dflt (refine' Draws.useK (take_draws w tp sc 4 _ (by decide) (by decide)) ?k1 ?k2 ?k3 ?k5 ?k6 ?k7 ?k8 ?k4 ?ko ?ks ?ki ?_; (case k1 => k_asm); (case k2 => k_asm); (case k3 => k_asm); (case k4 => exact news_swap (by k_asm)); (case k5 => k_asm); (case k6 => exact rfl); (case k7 => ktr_room); (case k8 => ktr_units); (case ko => exact List.forall_mem_cons.mpr ⟨by k_ne, hoff⟩); (case ks => exact hS.cons); (case ki => omega))); (intro j2 hj2 u2 i2 t2 n2 kh ktk hi2 kF kN); (replace kN := news_swap kN); (try k_fold))
  k_with "subscriptTail" => ((rename News _ _ _ _ => kN); (have hj4 : j2 = 0 ∨ j2 = 1 ∨ j2 = 2 ∨ j2 = 3 := by omega); (rcases hj4 with rfl | rfl | rfl | rfl <;> (k_dflt (refine' item_head ?n (by decide) (by decide) ?hx ?_ (by with_unfolding_all rfl); (case n => exact kN); (case hx => exact rfl)))))
  k_steps
  all_goals (
    rename Fr h₀ _ _ _ => kF9
    rename News h₀ _ _ _ => kN9
    have hl := natText_len (k := j1) (n := 6) (by decide) (by omega)
    have ha := natText_digits j1)
  · rw [natText_is]
    exact hret _ ⟨natText j1, rfl, ha, by omega⟩ _ [] _ _ _ _ _ (by omega) kF9 (fun p hp => kN9 p (.tail _ hp)) tups_nil (.str _ _)
  · rw [empty_is]
    exact hret _ ⟨[], rfl, (fun _ h => nomatch h), Nat.zero_le _⟩ _ [] _ _ _ _ _ (by omega) kF9 (fun p hp => kN9 p (.tail _ hp)) tups_nil (.str _ _)
  · rw [natText_is, zero_is, str_cat]
    exact hret _ ⟨[48] ++ natText j1, rfl, allDigits_app allDigits_zero ha, by simp; omega⟩ _ [] _ _ _ _ _ (by omega) kF9 (fun p hp => kN9 p (.tail _ hp)) tups_nil (.str _ _)
  · rw [natText_is, zeros2_is, str_cat]
    exact hret _ ⟨natText j1 ++ [48, 48], rfl, allDigits_app ha (allDigits_app allDigits_zero allDigits_zero), by simp; omega⟩ _ [] _ _ _ _ _ (by omega) kF9 (fun p hp => kN9 p (.tail _ hp)) tups_nil (.str _ _)
end Mine
namespace Mine
open PySem PySem.W PyProof.Rows PySem.NumText
set_option maxRecDepth 100000
set_option maxHeartbeats 8000000
noncomputable def sgT : Nat → List Nat
  | 0 => []
  | 1 => [43]
  | _ => [45]
noncomputable def zT : Nat → List Nat
  | 0 => []
  | _ => [48]
noncomputable def expT (c : Nat) : Option (Nat × Nat × Nat) → List Nat
  | none => []
  | some (k, sg, z) => c :: (sgT sg ++ zT z ++ natText k)
noncomputable def expP : Option (Nat × Nat × Nat) → Int
  | none => 0
  | some (k, sg, _) => if sg = 2 then -(k : Int) else (k : Int)
noncomputable def ptT (b : Bool) : List Nat := if b then [46] else []
/-- a spelling of a real: its text, its pair -/
structure RealOf (c : Nat) (must : Bool) (tx : List Nat) (q : Nat × Int) : Prop where
  ex : ∃ (wh fr : List Nat) (pt : Bool) (ex : Option (Nat × Nat × Nat)), Digs8 wh ∧ Digs8 fr ∧ wh ++ fr ≠ [] ∧ (fr ≠ [] → pt = true) ∧ (must = true → ex ≠ none) ∧ (pt = false → ex ≠ none) ∧
    (∀ k sg z, ex = some (k, sg, z) → k < 40 ∧ sg < 3 ∧ z < 2) ∧ tx = wh ++ ptT pt ++ fr ++ expT c ex ∧ q = toldP (digitsVal (wh ++ fr)) (expP ex - (fr.length : Int))
theorem seven_is : Str.ofString "7" = str [55] := by decide +kernel
theorem point_is' : Str.ofString "." = str [46] := by decide +kernel
theorem plus_is' : Str.ofString "+" = str [43] := by decide +kernel
theorem minus_is' : Str.ofString "-" = str [45] := by decide +kernel
theorem digs8_seven : Digs8 [55] := ⟨by intro c hc; simp at hc; omega, by decide⟩
section
variable {prog : Program} {w : World} {A : Around} {E : Value → Shared → Prop} {s : Shared}
theorem add_eq {x y : Str} {a b : List Nat} {t u : Tok} {Q : Value → Shared → Prop} (hx : x = str a) (hy : y = str b) (hz : a.length + b.length ≤ 5000) (h : ∀ t k, Q (.str (str (a ++ b)) t) { s with toks := k }) : wpAny (model prog w) A (binaryOp .Add (.str x t) (.str y u)) Q E s := by
  subst hx hy
  refine PyProof.Rows.add_str ?_ ?_
  · intro t k
    rw [str_cat]
    exact h t k
  · rw [show sizeLine = 16777216 from rfl, Mine.len_str, Mine.len_str]; omega
theorem iadd_eq {x y : Str} {a b : List Nat} {t u : Tok} {Q : Value → Shared → Prop} (hx : x = str a) (hy : y = str b) (hz : a.length + b.length ≤ 5000) (h : ∀ t k, Q (.str (str (a ++ b)) t) { s with toks := k }) : wpAny (model prog w) A (inplaceOp .Add (.str x t) (.str y u)) Q E s := by
  subst hx hy
  refine PyProof.Rows.iadd_str ?_ ?_
  · intro t k
    rw [str_cat]
    exact h t k
  · rw [show sizeLine = 16777216 from rfl, Mine.len_str, Mine.len_str]; omega
theorem item_tab {h₀ : Heap} {L D : Addr} {its : Array Value} {n : Nat} {rest : List (Addr × Obj)} {value slice : Expr} {k : Nat} {f : Nat → List Nat} {u : Tok} {Q : Value → Shared → Prop} (N : News h₀ L s.heap ((D, PySem.W.listOf its n) :: rest)) (hk : k < its.size) (hz : its.size ≤ 100)
    (hf : ∀ j, j < its.size → ∃ t, its[j]? = some (.str (str (f j)) t)) (h : ∀ t, Q (.str (str (f k)) t) s)
    (hs : subscripted slice false (.ref D) (.int k u) = operate [.ref D, .int k u] (getItem (.ref D) (.int k u))) : wpAny (model prog w) A (subscriptTail value slice (.ref D) (.int k u)) Q E s := by
  obtain ⟨t, ht⟩ := hf k hk
  exact item_head N (by omega) (by omega) ht (h t) hs
end
theorem ptT_len (b : Bool) : (ptT b).length ≤ 1 := by cases b <;> decide
theorem zT_len (n : Nat) : (zT n).length ≤ 1 := by unfold zT; split <;> decide
theorem sgT_len (n : Nat) : (sgT n).length ≤ 1 := by unfold sgT; split <;> decide
end Mine
namespace Mine
open PySem PySem.W PyProof.Rows PySem.NumText
set_option maxRecDepth 100000
set_option maxHeartbeats 8000000
theorem here_out {P : Prop} (h : Here P) : P := h
set_option maxHeartbeats 32000000 in
theorem real_draws (w : World) (tp sc : Addr) (c : Nat) (must : Bool) (t1 : Tok) : Draws w 207 [.ref tp, .str (str [c]) t1, .bool must] tp sc 8 64 10 (fun d => ∃ tx q, d = .tuple [.str (str tx), pairD q] ∧ RealOf c must tx q) := by
  unfold Draws
  k_fill
  intro mean mg mb dp un gd cn cs a ccd cl outer A₀ base h₀ L m rest s Q E i t nn B F X T hk h1 h2 N hoff hS hi hret
  refine wpAny_call ?_
  k_dflt (refine' code_def (binds := [(Str.ofString "tape", .ref tp), (Str.ofString "letter", .str (str [c]) t1), (Str.ofString "must", .bool must)]) ?k1 ?k2 ?k3 ?k4 ?k5 ?kA ?kF ?kK ?k6 ?k7 ?k8 ?k9 ?kB ?_ ?c2 ?c3 ?c4 ?c5; (case kA => exact rfl); (case kF => exact rfl); (case kK => assumption); (case k1 => k_asm); (case k2 => k_asm); (case k3 => k_asm); (case k4 => k_asm); (case k5 => k_asm); (case k6 => k_is); (case k7 => k_is); (case k8 => ktr_room); (case k9 => exact BindsTo.of_eq rfl); (case c5 => decide); (case kB => exact locs rfl); (case c2 => exact rfl); (case c3 => exact rfl); (case c4 => exact rfl))
  intro g' L' h' FG' F' N' B' X' T'
  (try k_fold)
  k_with_none
  k_with "exec If Compare cons nil" => (
    (with_reducible show wpAny _ _ (exec (Stmt.If (PySem.Expr.Compare (PySem.Expr.BinOp _ _ _ _) _ _ _) _ _ _) _) _ _ _)
    (rename Fr _ _ _ _ => kF)
    (rename News _ _ _ _ => kN)
    (refine amid (fun f s' => Here (f = .next ∧ ∃ (wh : List Nat) (ta tb : Tok) (i' : Nat) (t' : Tok) (nn' : Nat) (h' : Heap) (tk' : Nat), Digs8 wh ∧ wh ++ fr ≠ [] ∧ i' ≤ i + 4 ∧ s' = { s with heap := h', toks := tk' } ∧ Fr g' L' h' (fun y => if y = Str.ofString "whole" then some (Value.str (str wh) ta) else if y = Str.ofString "fraction" then some (Value.str (str fr) tb) else List.lookup y [(Str.ofString "tape", Value.ref tp), (Str.ofString "letter", Value.str (str [c]) t1), (Str.ofString "must", Value.bool must)].reverse) ∧ News g' L' h' ((tp, tapeO sc i' t' nn') :: rest))) ?mid1 ?_)
    (case' mid1 => (try k_fold)); rotate_left
    (rintro _ _ ⟨rfl, wh, ta, tb, i9, t9, n9, kh9, ktk9, hwh, hne, hi9, rfl, kF, kN⟩)
    (have whl := hwh.2)
    dsimp only
    (try k_fold))
  k_with "exec Assign cons BoolOp" => (
    (rename Fr _ _ _ _ => kF)
    (rename News _ _ _ _ => kN)
    (refine amid (fun f s' => Here (f = .next ∧ ∃ (pt : Bool) (ta tb : Tok) (i' : Nat) (t' : Tok) (nn' : Nat) (h' : Heap) (tk' : Nat), (fr ≠ [] → pt = true) ∧ i' ≤ i + 5 ∧ s' = { s with heap := h', toks := tk' } ∧ Fr g' L' h' (fun y => if y = Str.ofString "has_point" then some (Value.bool pt) else if y = Str.ofString "whole" then some (Value.str (str wh) ta) else if y = Str.ofString "fraction" then some (Value.str (str fr) tb) else List.lookup y [(Str.ofString "tape", Value.ref tp), (Str.ofString "letter", Value.str (str [c]) t1), (Str.ofString "must", Value.bool must)].reverse) ∧ News g' L' h' ((tp, tapeO sc i' t' nn') :: rest))) ?mid2 ?_)
    (case' mid2 => (try k_fold)); rotate_left
    (rintro _ _ ⟨rfl, pt, ta, tb, i8, t8, n8, kh8, ktk8, hpt, hi8, rfl, kF, kN⟩)
    (have ptl := ptT_len pt)
    dsimp only
    (try k_fold))
  k_with "exec Assign cons BinOp" => (
    (rename Fr _ _ _ _ => kF)
    (rename News _ _ _ _ => kN)
    (refine amid (fun f s' => Here (f = .next ∧ ∃ (ta tb tc td : Tok) (i' : Nat) (t' : Tok) (nn' : Nat) (h' : Heap) (tk' : Nat), i' ≤ i + 5 ∧ s' = { s with heap := h', toks := tk' } ∧ Fr g' L' h' (fun y => if y = Str.ofString "text" then some (Value.str (str (wh ++ ptT pt ++ fr)) tc) else if y = Str.ofString "power" then some (Value.int 0 td) else if y = Str.ofString "has_point" then some (Value.bool pt) else if y = Str.ofString "whole" then some (Value.str (str wh) ta) else if y = Str.ofString "fraction" then some (Value.str (str fr) tb) else List.lookup y [(Str.ofString "tape", Value.ref tp), (Str.ofString "letter", Value.str (str [c]) t1), (Str.ofString "must", Value.bool must)].reverse) ∧ News g' L' h' ((tp, tapeO sc i' t' nn') :: rest))) ?mid3 ?_)
    (case' mid3 => (try k_fold)); rotate_left
    (rintro _ _ ⟨rfl, ta, tb, tc, td, i7, t7, n7, kh7, ktk7, hi7, rfl, kF, kN⟩)
    dsimp only
    (try k_fold))
  k_with "isTrue BoolOp" => (
    (rename Fr _ _ _ _ => kF)
    (rename News _ _ _ _ => kN)
    (refine amid (fun b s' => Here ((b = false → must = false ∧ pt = true) ∧ ∃ (i' : Nat) (t' : Tok) (nn' : Nat) (h' : Heap) (tk' : Nat), i' ≤ i + 6 ∧ s' = { s with heap := h', toks := tk' } ∧ Fr g' L' h' (fun y => if y = Str.ofString "text" then some (Value.str (str (wh ++ ptT pt ++ fr)) tc) else if y = Str.ofString "power" then some (Value.int 0 td) else if y = Str.ofString "has_point" then some (Value.bool pt) else if y = Str.ofString "whole" then some (Value.str (str wh) ta) else if y = Str.ofString "fraction" then some (Value.str (str fr) tb) else List.lookup y [(Str.ofString "tape", Value.ref tp), (Str.ofString "letter", Value.str (str [c]) t1), (Str.ofString "must", Value.bool must)].reverse) ∧ News g' L' h' ((tp, tapeO sc i' t' nn') :: rest))) ?mid5 ?_)
    (case' mid5 => (try k_fold)); rotate_left
    (intro b5 s5 H5)
    (obtain ⟨hb5, i5, t5, n5, kh5, ktk5, hi5, rfl, kF, kN⟩ := here_out H5)
    (clear H5)
    (cases b5 <;> (try dsimp only) <;> (try k_fold)))
  k_with "exec If BoolOp" => (
    (rename Fr _ _ _ _ => kF)
    (rename News _ _ _ _ => kN)
    (refine amid (fun f s' => Here (f = .next ∧ ∃ (sv : Option Value) (ex : Option (Nat × Nat × Nat)) (ta tb tc td : Tok) (i' : Nat) (t' : Tok) (nn' : Nat) (h' : Heap) (tk' : Nat), (must = true → ex ≠ none) ∧ (pt = false → ex ≠ none) ∧ (∀ k sg z, ex = some (k, sg, z) → k < 40 ∧ sg < 3 ∧ z < 2) ∧ i' ≤ i + 10 ∧ s' = { s with heap := h', toks := tk' } ∧ Fr g' L' h' (fun y => if y = Str.ofString "text" then some (Value.str (str (wh ++ ptT pt ++ fr ++ expT c ex)) tc) else if y = Str.ofString "power" then some (Value.int (expP ex) td) else if y = Str.ofString "has_point" then some (Value.bool pt) else if y = Str.ofString "whole" then some (Value.str (str wh) ta) else if y = Str.ofString "fraction" then some (Value.str (str fr) tb) else if y = Str.ofString "sign" then sv else List.lookup y [(Str.ofString "tape", Value.ref tp), (Str.ofString "letter", Value.str (str [c]) t1), (Str.ofString "must", Value.bool must)].reverse) ∧ News g' L' h' ((tp, tapeO sc i' t' nn') :: rest))) ?mid4 ?_)
    (case' mid4 => (try k_fold)); rotate_left
    (rintro _ _ ⟨rfl, sv, ex, ta, tb, tc, td, i6, t6, n6, kh6, ktk6, hx1, hx2, hx3, hi6, rfl, kF, kN⟩)
    dsimp only
    (try k_fold))
  k_with "binaryOp Add str str" => ((refine add_eq (by first | exact rfl | exact empty_is | exact point_is' | exact zero_is | exact natText_is _ | exact plus_is' | exact minus_is' | exact zeros2_is | exact seven_is) (by first | exact rfl | exact empty_is | exact point_is' | exact zero_is | exact natText_is _ | exact plus_is' | exact minus_is' | exact zeros2_is | exact seven_is) ?hz ?_); (case hz => ((try simp only [List.length_append, List.length_cons, List.length_nil]); omega)); (intro ct ctk))
  k_with "inplaceOp Add str str" => ((refine iadd_eq (by first | exact rfl | exact empty_is | exact point_is' | exact zero_is | exact natText_is _ | exact plus_is' | exact minus_is' | exact zeros2_is | exact seven_is) (by first | exact rfl | exact empty_is | exact point_is' | exact zero_is | exact natText_is _ | exact plus_is' | exact minus_is' | exact zeros2_is | exact seven_is) ?hz ?_); (case hz => ((try simp only [List.length_append, List.length_cons, List.length_nil]); omega)); (intro ct ctk))
  k_with "subscriptTail" => first
   | ((have hz9 := hz); (rename News _ _ _ _ => kN); (k_dflt (refine' item_tab (f := zT) ?n ?hk ?hz9 ?hf ?_ (by with_unfolding_all rfl); (case n => exact kN); (case hk => exact hz); (case hz9 => (simp only [List.size_toArray, List.length_cons, List.length_nil]; omega)); (case hf => (intro j hj; have hj3 : j = 0 ∨ j = 1 := (by simp at hj; omega); rcases hj3 with rfl | rfl <;> first | exact ⟨_, congrArg (fun y => some (Value.str y _)) empty_is⟩ | exact ⟨_, congrArg (fun y => some (Value.str y _)) zero_is⟩)))); (replace kN := news_tail kN); (intro vt); (have zl := zT_len z); (try k_fold))
   | ((rename News _ _ _ _ => kN); (k_dflt (refine' item_tab (f := sgT) ?n ?hk ?hz9 ?hf ?_ (by with_unfolding_all rfl); (case n => exact kN); (case hk => exact hsg); (case hz9 => (simp only [List.size_toArray, List.length_cons, List.length_nil]; omega)); (case hf => (intro j hj; have hj3 : j = 0 ∨ j = 1 ∨ j = 2 := (by simp at hj; omega); rcases hj3 with rfl | rfl | rfl <;> first | exact ⟨_, congrArg (fun y => some (Value.str y _)) empty_is⟩ | exact ⟨_, congrArg (fun y => some (Value.str y _)) plus_is'⟩ | exact ⟨_, congrArg (fun y => some (Value.str y _)) minus_is'⟩)))); (replace kN := news_tail kN); (intro vt); (have sgl := sgT_len sg); (try k_fold))
  k_with "call type:int" => ((refine KIN.call_text (intText_digits ?a ?b ?c9) ?d ?_); (case a => (rw [toList_str]; exact allDigits_app hwh.1 hfr.1)); (case b => (rw [toList_str]; exact hne)); (case c9 => (rw [Mine.len_str, List.length_append]; omega)); (case d => (rw [Mine.len_str, List.length_append]; omega)); (rw [toList_str]); (try k_fold))
  k_with "exec While Compare cons nil" => (
    (rename Fr _ _ _ _ => kF)
    (rename News _ _ _ _ => kN)
    (refine' While_inv2 (fun k m nx => ∃ (j : Nat) (jm q : Int) (ta tb tc td tm : Tok), jm = (j : Int) ∧ m = (fun y => if y = Str.ofString "power" then some (Value.int q td) else if y = Str.ofString "m" then some (Value.int jm tm) else if y = Str.ofString "text" then some (Value.str (str (wh ++ ptT pt ++ fr ++ expT c ex)) tc) else if y = Str.ofString "has_point" then some (Value.bool pt) else if y = Str.ofString "whole" then some (Value.str (str wh) ta) else if y = Str.ofString "fraction" then some (Value.str (str fr) tb) else if y = Str.ofString "sign" then sv else List.lookup y [(Str.ofString "tape", Value.ref tp), (Str.ofString "letter", Value.str (str [c]) t1), (Str.ofString "must", Value.bool must)].reverse) ∧ (tp, tapeO sc i6 t6 n6) :: rest = nx ∧ k = j ∧ j ≠ 0 ∧ strip10 j q = strip10 (digitsVal (wh ++ fr)) (expP ex - (fr.length : Int))) kF kN ⟨digitsVal (wh ++ fr), ((digitsVal (wh ++ fr) : Nat) : Int), expP ex - (fr.length : Int), ta, tb, tc, _, _, rfl, ?hm, rfl, rfl, ?hz0, rfl⟩ ?mn)
    (case hm => (funext y; (by_cases hy0 : y = Str.ofString "power"; · (subst hy0; rfl)); (by_cases hy1 : y = Str.ofString "m"; · (subst hy1; rfl)); (by_cases hy2 : y = Str.ofString "text"; · (subst hy2; rfl)); (by_cases hy3 : y = Str.ofString "has_point"; · (subst hy3; rfl)); (by_cases hy4 : y = Str.ofString "whole"; · (subst hy4; rfl)); (by_cases hy5 : y = Str.ofString "fraction"; · (subst hy5; rfl)); (by_cases hy6 : y = Str.ofString "sign"; · (subst hy6; rfl)); simp [hy0, hy1, hy2, hy3, hy4, hy5, hy6]))
    (case hz0 => (intro hz; simp [hz] at *))
    (clear kF kN)
    (rintro k m₁ nx h tk kF kN ⟨j, jm, q, ta, tb, tc, td, tm, hjm, rfl, rfl, rfl, hj, hJ⟩)
    (try k_fold))
  k_with "call ref" => first
   | ((k_dflt (refine' Draws.useS (digits_draws w tp sc) ?k1 ?k2 ?k3 ?k5 ?k6 ?k7 ?k8 ?k4 ?ko ?ks ?ki ?_; (case k1 => k_asm); (case k2 => k_asm); (case k3 => k_asm); (case k4 => k_asm); (case k5 => k_asm); (case k6 => exact rfl); (case k7 => ktr_room); (case k8 => ktr_units); (case ko => assumption); (case ks => assumption); (case ki => omega))); (intro fr hfr u2 i2 t2 n2 kh ktk hi2 kF kN); (have frl := hfr.2); (try k_fold))
   | ((k_dflt (refine' Draws.useK (take_draws w tp sc 40 _ (by decide) (by decide)) ?k1 ?k2 ?k3 ?k5 ?k6 ?k7 ?k8 ?k4 ?ko ?ks ?ki ?_; (case k1 => k_asm); (case k2 => k_asm); (case k3 => k_asm); (case k4 => k_asm); (case k5 => k_asm); (case k6 => exact rfl); (case k7 => ktr_room); (case k8 => ktr_units); (case ko => assumption); (case ks => assumption); (case ki => omega))); (intro kk hkk u3 i3 t3 n3 kh ktk hi3 kF kN); (have kkl := natText_len (k := kk) (n := 2) (by decide) (by omega)); (try k_fold))
   | ((k_dflt (refine' Draws.useK (take_draws w tp sc 3 _ (by decide) (by decide)) ?k1 ?k2 ?k3 ?k5 ?k6 ?k7 ?k8 ?k4 ?ko ?ks ?ki ?_; (case k1 => k_asm); (case k2 => k_asm); (case k3 => k_asm); (case k4 => first | k_asm | exact news_swap (by k_asm)); (case k5 => k_asm); (case k6 => exact rfl); (case k7 => ktr_room); (case k8 => ktr_units); (case ko => first | exact hoff | exact List.forall_mem_cons.mpr ⟨by k_ne, hoff⟩); (case ks => first | exact hS | exact hS.cons); (case ki => omega))); (intro sg hsg u4 i4 t4 n4 kh ktk hi4 kF kN); (try k_fold))
   | ((have hsg9 := hsg); ((k_dflt (refine' Draws.useK (take_draws w tp sc 2 _ (by decide) (by decide)) ?k1 ?k2 ?k3 ?k5 ?k6 ?k7 ?k8 ?k4 ?ko ?ks ?ki ?_; (case k1 => k_asm); (case k2 => k_asm); (case k3 => k_asm); (case k4 => exact news_swap (by k_asm)); (case k5 => k_asm); (case k6 => exact rfl); (case k7 => ktr_room); (case k8 => ktr_units); (case ko => exact List.forall_mem_cons.mpr ⟨by k_ne, hoff⟩); (case ks => exact hS.cons); (case ki => omega))); (intro z hz u5 i5 t5 n5 kh ktk hi5 kF kN); (replace kN := news_swap kN); (try k_fold)))
   | ((k_dflt (refine' Draws.useK (take_draws w tp sc 2 _ (by decide) (by decide)) ?k1 ?k2 ?k3 ?k5 ?k6 ?k7 ?k8 ?k4 ?ko ?ks ?ki ?_; (case k1 => k_asm); (case k2 => k_asm); (case k3 => k_asm); (case k4 => k_asm); (case k5 => k_asm); (case k6 => exact rfl); (case k7 => ktr_room); (case k8 => ktr_units); (case ko => assumption); (case ks => assumption); (case ki => omega))); (intro j2 hj2 u3 i3 t3 n3 kh ktk hi3 kF kN); (try k_fold))
  k_with "call ref cons nil" => ((fail_if_success (rename Digs8 _ => hz9)); ((k_dflt (refine' Draws.useS (digits_draws w tp sc) ?k1 ?k2 ?k3 ?k5 ?k6 ?k7 ?k8 ?k4 ?ko ?ks ?ki ?_; (case k1 => k_asm); (case k2 => k_asm); (case k3 => k_asm); (case k4 => k_asm); (case k5 => k_asm); (case k6 => exact rfl); (case k7 => ktr_room); (case k8 => ktr_units); (case ko => assumption); (case ks => assumption); (case ki => omega))); (intro wh0 hwh0 u1 i1 t1' n1 kh ktk hi1 kF kN); (have wl0 := hwh0.2); (try k_fold)))
  k_with "call builtin:len" => ((refine PyProof.Rows.len_str (by rw [Mine.len_str]; omega) ?_); (rw [Mine.len_str]); (try k_fold))
  k_steps
  · have c1 : ((digitsVal (wh ++ fr) : Nat) : Int) = 0 := by assumption
    rename Fr h₀ _ _ _ => kF9
    rename News h₀ _ _ _ => kN9
    have e : toldP (digitsVal (wh ++ fr)) (expP ex - (fr.length : Int)) = (0, 0) := by rw [toldP, if_pos (by omega)]
    refine hret _ ⟨_, (0, 0), rfl, ⟨wh, fr, pt, ex, hwh, hfr, hne, hpt, hx1, hx2, hx3, rfl, e.symm⟩⟩ _ [_, _] _ _ _ _ _ hi6 kF9 (news_pull (A := [_, _]) kN9) (tups_cons (tups_cons tups_nil)) ?_
    exact DatIn.tuple (.head _) (.cons (.str _ _) (.cons (DatIn.tuple (.tail _ (.head _)) (.cons (.int _ _) (.cons (.int _ _) .nil))) .nil))
  · have c1 : jm.fmod 10 = 0 := by assumption
    rename Fr g' _ _ _ => kF9
    rename News g' _ _ _ => kN9
    rw [hjm, fmod10] at c1
    have c2 : k % 10 = 0 := by omega
    refine' ⟨_, _, _, _, _, rfl, kF9, kN9, ?f1, k / 10, ((k / 10 : Nat) : Int), q + 1, ta, tb, tc, _, _, rfl, ?fe, rfl, rfl, ?f2, ?f3⟩
    case fe => (rw [hjm, fdiv10]; (funext y; (by_cases hy0 : y = Str.ofString "power"; · (subst hy0; rfl)); (by_cases hy1 : y = Str.ofString "m"; · (subst hy1; rfl)); (by_cases hy2 : y = Str.ofString "text"; · (subst hy2; rfl)); (by_cases hy3 : y = Str.ofString "has_point"; · (subst hy3; rfl)); (by_cases hy4 : y = Str.ofString "whole"; · (subst hy4; rfl)); (by_cases hy5 : y = Str.ofString "fraction"; · (subst hy5; rfl)); (by_cases hy6 : y = Str.ofString "sign"; · (subst hy6; rfl)); simp [hy0, hy1, hy2, hy3, hy4, hy5, hy6]))
    case f1 => omega
    case f2 => omega
    case f3 => rw [strip10_on hj c2, hJ]
  · have c1 : jm.fmod 10 ≠ 0 := by assumption
    rename Fr h₀ _ _ _ => kF9
    rename News h₀ _ _ _ => kN9
    rw [hjm, fmod10] at c1
    have c0 : digitsVal (wh ++ fr) ≠ 0 := by
      intro hz
      have : ¬ ((digitsVal (wh ++ fr) : Nat) : Int) = 0 := by assumption
      omega
    have e : toldP (digitsVal (wh ++ fr)) (expP ex - (fr.length : Int)) = (k, q) := by
      rw [toldP, if_neg c0, ← hJ, strip10_of (by omega)]
    rw [hjm] at kN9
    refine hret _ ⟨_, (k, q), rfl, ⟨wh, fr, pt, ex, hwh, hfr, hne, hpt, hx1, hx2, hx3, rfl, e.symm⟩⟩ _ [_, _] _ _ _ _ _ hi6 kF9 (news_pull (A := [_, _]) kN9) (tups_cons (tups_cons tups_nil)) ?_
    exact DatIn.tuple (.head _) (.cons (.str _ _) (.cons (DatIn.tuple (.tail _ (.head _)) (.cons (.int _ _) (.cons (.int _ _) .nil))) .nil))
  · rename Fr g' _ _ _ => kF9
    rename News g' _ _ _ => kN9
    obtain ⟨c1, c2⟩ := hb5 rfl
    refine' ⟨rfl, none, none, _, _, _, _, _, _, _, _, _, ?f1, ?f2, ?f3, ?f4, rfl, fr_cast kF9 ?fe, kN9⟩
    case f1 => intro h; rw [c1] at h; cases h
    case f2 => intro h; rw [c2] at h; cases h
    case f3 => intro _ _ _ h; cases h
    case f4 => omega
    case fe => (rw [show expT c none = [] from rfl, List.append_nil]; (funext y; (by_cases hy0 : y = Str.ofString "text"; · (subst hy0; rfl)); (by_cases hy1 : y = Str.ofString "power"; · (subst hy1; rfl)); (by_cases hy2 : y = Str.ofString "has_point"; · (subst hy2; rfl)); (by_cases hy3 : y = Str.ofString "whole"; · (subst hy3; rfl)); (by_cases hy4 : y = Str.ofString "fraction"; · (subst hy4; rfl)); (by_cases hy5 : y = Str.ofString "sign"; · (subst hy5; rfl)); simp [hy0, hy1, hy2, hy3, hy4, hy5]))
  · rename Fr g' _ _ _ => kF9
    rename News g' _ _ _ => kN9
    have c1 : (sg : Int) = 2 := by assumption
    have c2 : sg = 2 := by omega
    have hp : -(kk : Int) = expP (some (kk, sg, z)) := by simp [expP, c2]
    rw [hp] at kF9
    refine' ⟨rfl, _, some (kk, sg, z), _, _, _, _, _, _, _, _, _, ?f1, ?f2, ?f3, ?f4, rfl, fr_cast kF9 ?fe, kN9⟩
    case f1 => intro _ h; cases h
    case f2 => intro _ h; cases h
    case f3 => intro _ _ _ h; cases h; exact ⟨hkk, hsg, hz⟩
    case f4 => omega
    case fe => (funext y; (by_cases hy0 : y = Str.ofString "text"; · (subst hy0; rfl)); (by_cases hy1 : y = Str.ofString "power"; · (subst hy1; rfl)); (by_cases hy2 : y = Str.ofString "has_point"; · (subst hy2; rfl)); (by_cases hy3 : y = Str.ofString "whole"; · (subst hy3; rfl)); (by_cases hy4 : y = Str.ofString "fraction"; · (subst hy4; rfl)); (by_cases hy5 : y = Str.ofString "sign"; · (subst hy5; rfl)); simp [hy0, hy1, hy2, hy3, hy4, hy5])
  · rename Fr g' _ _ _ => kF9
    rename News g' _ _ _ => kN9
    have c1 : (sg : Int) ≠ 2 := by assumption
    have c2 : sg ≠ 2 := by omega
    have hp : (kk : Int) = expP (some (kk, sg, z)) := by simp [expP, c2]
    rw [hp] at kF9
    refine' ⟨rfl, _, some (kk, sg, z), _, _, _, _, _, _, _, _, _, ?f1, ?f2, ?f3, ?f4, rfl, fr_cast kF9 ?fe, kN9⟩
    case f1 => intro _ h; cases h
    case f2 => intro _ h; cases h
    case f3 => intro _ _ _ h; cases h; exact ⟨hkk, hsg, hz⟩
    case f4 => omega
    case fe => (funext y; (by_cases hy0 : y = Str.ofString "text"; · (subst hy0; rfl)); (by_cases hy1 : y = Str.ofString "power"; · (subst hy1; rfl)); (by_cases hy2 : y = Str.ofString "has_point"; · (subst hy2; rfl)); (by_cases hy3 : y = Str.ofString "whole"; · (subst hy3; rfl)); (by_cases hy4 : y = Str.ofString "fraction"; · (subst hy4; rfl)); (by_cases hy5 : y = Str.ofString "sign"; · (subst hy5; rfl)); simp [hy0, hy1, hy2, hy3, hy4, hy5])
  · rename Fr g' _ _ _ => kF9
    rename News g' _ _ _ => kN9
    exact ⟨fun h => Bool.noConfusion h, _, _, _, _, _, by omega, rfl, kF9, kN9⟩
  · rename Fr g' _ _ _ => kF9
    rename News g' _ _ _ => kN9
    exact ⟨fun h => Bool.noConfusion h, _, _, _, _, _, by omega, rfl, kF9, kN9⟩
  · rename Fr g' _ _ _ => kF9
    rename News g' _ _ _ => kN9
    exact ⟨fun _ => ⟨by assumption, by assumption⟩, _, _, _, _, _, by omega, rfl, kF9, kN9⟩
  · rename Fr g' _ _ _ => kF9
    rename News g' _ _ _ => kN9
    exact ⟨fun h => Bool.noConfusion h, _, _, _, _, _, by omega, rfl, kF9, kN9⟩
  · rename Fr g' _ _ _ => kF9
    rename News g' _ _ _ => kN9
    have c1 : pt = true := by assumption
    subst c1
    refine' ⟨rfl, _, _, _, _, _, _, _, _, _, ?f4, rfl, fr_cast kF9 ?fe, kN9⟩
    case f4 => omega
    case fe => (funext y; (by_cases hy0 : y = Str.ofString "text"; · (subst hy0; rfl)); (by_cases hy1 : y = Str.ofString "power"; · (subst hy1; rfl)); (by_cases hy2 : y = Str.ofString "has_point"; · (subst hy2; rfl)); (by_cases hy3 : y = Str.ofString "whole"; · (subst hy3; rfl)); (by_cases hy4 : y = Str.ofString "fraction"; · (subst hy4; rfl)); simp [hy0, hy1, hy2, hy3, hy4])
  · rename Fr g' _ _ _ => kF9
    rename News g' _ _ _ => kN9
    have c1 : pt = false := by assumption
    subst c1
    refine' ⟨rfl, _, _, _, _, _, _, _, _, _, ?f4, rfl, fr_cast kF9 ?fe, kN9⟩
    case f4 => omega
    case fe => (funext y; (by_cases hy0 : y = Str.ofString "text"; · (subst hy0; rfl)); (by_cases hy1 : y = Str.ofString "power"; · (subst hy1; rfl)); (by_cases hy2 : y = Str.ofString "has_point"; · (subst hy2; rfl)); (by_cases hy3 : y = Str.ofString "whole"; · (subst hy3; rfl)); (by_cases hy4 : y = Str.ofString "fraction"; · (subst hy4; rfl)); simp [hy0, hy1, hy2, hy3, hy4])
  · rename Fr g' _ _ _ => kF9
    rename News g' _ _ _ => kN9
    refine' ⟨rfl, _, _, _, _, _, _, _, _, ?f0, ?f4, rfl, fr_cast kF9 ?fe, kN9⟩
    case f4 => omega
    case fe => (funext y; (by_cases hy0 : y = Str.ofString "has_point"; · (subst hy0; rfl)); (by_cases hy1 : y = Str.ofString "whole"; · (subst hy1; rfl)); (by_cases hy2 : y = Str.ofString "fraction"; · (subst hy2; rfl)); simp [hy0, hy1, hy2])
    case f0 => (intro _; assumption)
  · rename Fr g' _ _ _ => kF9
    rename News g' _ _ _ => kN9
    have c1 : (str fr != Str.ofString "") = false := by assumption
    rw [bne, empty_is, str_beq'] at c1
    have c2 : fr = [] := by simpa using c1
    refine' ⟨rfl, _, _, _, _, _, _, _, _, (fun h => absurd c2 h), ?f4, rfl, fr_cast kF9 ?fe, kN9⟩
    case f4 => omega
    case fe => (funext y; (by_cases hy0 : y = Str.ofString "has_point"; · (subst hy0; rfl)); (by_cases hy1 : y = Str.ofString "whole"; · (subst hy1; rfl)); (by_cases hy2 : y = Str.ofString "fraction"; · (subst hy2; rfl)); simp [hy0, hy1, hy2])
  · rename Fr g' _ _ _ => kF9
    rename News g' _ _ _ => kN9
    rw [seven_is] at kF9
    refine' ⟨rfl, [55], _, _, _, _, _, _, _, digs8_seven, (by simp), ?f4, rfl, fr_cast kF9 ?fe, kN9⟩
    case f4 => omega
    case fe => (funext y; (by_cases hy0 : y = Str.ofString "whole"; · (subst hy0; rfl)); (by_cases hy1 : y = Str.ofString "fraction"; · (subst hy1; rfl)); simp [hy0, hy1])
  · rename Fr g' _ _ _ => kF9
    rename News g' _ _ _ => kN9
    have c1 : (str (wh0 ++ fr) == Str.ofString "") = false := by assumption
    rw [empty_is, str_beq'] at c1
    refine' ⟨rfl, wh0, _, _, _, _, _, _, _, hwh0, (of_decide_eq_false c1), ?f4, rfl, fr_cast kF9 ?fe, kN9⟩
    case f4 => omega
    case fe => (funext y; (by_cases hy0 : y = Str.ofString "whole"; · (subst hy0; rfl)); (by_cases hy1 : y = Str.ofString "fraction"; · (subst hy1; rfl)); simp [hy0, hy1])
end Mine
namespace Mine
open PySem PySem.W PyProof.Rows PySem.NumText
set_option maxRecDepth 100000
set_option maxHeartbeats 8000000
noncomputable def nameL (j : Nat) : List Nat := ([[65], [69, 53], [68, 50], [69, 81], [90, 69, 66, 82, 65, 57], [84, 82, 85, 69], [69], [88, 49]] : List (List Nat)).getD j []
noncomputable def textL (j : Nat) : List Nat := ([[], [65], [73, 84, 39, 83], [39, 39], [32, 66, 32], [46, 69, 81, 46], [49, 46, 53], [40, 44, 61]] : List (List Nat)).getD j []
noncomputable def markL (j : Nat) : List Nat := ([[43], [45], [42], [47], [42, 42], [47, 47], [40], [41], [44], [61], [58], [46, 69, 81, 46], [46, 78, 69, 46], [46, 76, 84, 46], [46, 71, 69, 46], [46, 65, 78, 68, 46], [46, 79, 82, 46], [46, 69, 81, 86, 46], [46, 78, 69, 81, 86, 46], [46, 69, 81, 46], [46, 76, 69, 46], [46, 71, 84, 46], [46, 69, 81, 86, 46], [46, 69, 81, 46]] : List (List Nat)).getD j []
theorem nameL_0 : Str.ofString "A" = str (nameL 0) := by decide +kernel
theorem nameL_1 : Str.ofString "E5" = str (nameL 1) := by decide +kernel
theorem nameL_2 : Str.ofString "D2" = str (nameL 2) := by decide +kernel
theorem nameL_3 : Str.ofString "EQ" = str (nameL 3) := by decide +kernel
theorem nameL_4 : Str.ofString "ZEBRA9" = str (nameL 4) := by decide +kernel
theorem nameL_5 : Str.ofString "TRUE" = str (nameL 5) := by decide +kernel
theorem nameL_6 : Str.ofString "E" = str (nameL 6) := by decide +kernel
theorem nameL_7 : Str.ofString "X1" = str (nameL 7) := by decide +kernel
theorem textL_0 : Str.ofString "" = str (textL 0) := by decide +kernel
theorem textL_1 : Str.ofString "A" = str (textL 1) := by decide +kernel
theorem textL_2 : Str.ofString "IT'S" = str (textL 2) := by decide +kernel
theorem textL_3 : Str.ofString "''" = str (textL 3) := by decide +kernel
theorem textL_4 : Str.ofString " B " = str (textL 4) := by decide +kernel
theorem textL_5 : Str.ofString ".EQ." = str (textL 5) := by decide +kernel
theorem textL_6 : Str.ofString "1.5" = str (textL 6) := by decide +kernel
theorem textL_7 : Str.ofString "(,=" = str (textL 7) := by decide +kernel
theorem markL_0 : Str.ofString "+" = str (markL 0) := by decide +kernel
theorem markL_1 : Str.ofString "-" = str (markL 1) := by decide +kernel
theorem markL_2 : Str.ofString "*" = str (markL 2) := by decide +kernel
theorem markL_3 : Str.ofString "/" = str (markL 3) := by decide +kernel
theorem markL_4 : Str.ofString "**" = str (markL 4) := by decide +kernel
theorem markL_5 : Str.ofString "//" = str (markL 5) := by decide +kernel
theorem markL_6 : Str.ofString "(" = str (markL 6) := by decide +kernel
theorem markL_7 : Str.ofString ")" = str (markL 7) := by decide +kernel
theorem markL_8 : Str.ofString "," = str (markL 8) := by decide +kernel
theorem markL_9 : Str.ofString "=" = str (markL 9) := by decide +kernel
theorem markL_10 : Str.ofString ":" = str (markL 10) := by decide +kernel
theorem markL_11 : Str.ofString ".EQ." = str (markL 11) := by decide +kernel
theorem markL_12 : Str.ofString ".NE." = str (markL 12) := by decide +kernel
theorem markL_13 : Str.ofString ".LT." = str (markL 13) := by decide +kernel
theorem markL_14 : Str.ofString ".GE." = str (markL 14) := by decide +kernel
theorem markL_15 : Str.ofString ".AND." = str (markL 15) := by decide +kernel
theorem markL_16 : Str.ofString ".OR." = str (markL 16) := by decide +kernel
theorem markL_17 : Str.ofString ".EQV." = str (markL 17) := by decide +kernel
theorem markL_18 : Str.ofString ".NEQV." = str (markL 18) := by decide +kernel
theorem markL_19 : Str.ofString ".EQ." = str (markL 19) := by decide +kernel
theorem markL_20 : Str.ofString ".LE." = str (markL 20) := by decide +kernel
theorem markL_21 : Str.ofString ".GT." = str (markL 21) := by decide +kernel
theorem markL_22 : Str.ofString ".EQV." = str (markL 22) := by decide +kernel
theorem markL_23 : Str.ofString ".EQ." = str (markL 23) := by decide +kernel
noncomputable def signL (j : Nat) : List Nat := ([[40], [46, 78, 79, 84, 46], [45]] : List (List Nat)).getD j []
theorem signL_0 : Str.ofString "(" = str (signL 0) := by decide +kernel
theorem signL_1 : Str.ofString ".NOT." = str (signL 1) := by decide +kernel
theorem signL_2 : Str.ofString "-" = str (signL 2) := by decide +kernel
noncomputable def zzL (j : Nat) : List Nat := ([[], [48, 48]] : List (List Nat)).getD j []
theorem zzL_0 : Str.ofString "" = str (zzL 0) := by decide +kernel
theorem zzL_1 : Str.ofString "00" = str (zzL 1) := by decide +kernel
noncomputable def truL (j : Nat) : List Nat := ([[46, 70, 65, 76, 83, 69, 46], [46, 84, 82, 85, 69, 46]] : List (List Nat)).getD j []
theorem truL_0 : Str.ofString ".FALSE." = str (truL 0) := by decide +kernel
theorem truL_1 : Str.ofString ".TRUE." = str (truL 1) := by decide +kernel
theorem quote1_is : Str.ofString "'" = str [39] := by decide +kernel
/-- every quote twice -/
noncomputable def dbl (l : List Nat) : List Nat := l.flatMap fun c => if c = 39 then [39, 39] else [c]
theorem textL_len : ∀ j, j < 8 → (textL j).length ≤ 4 ∧ (dbl (textL j)).length ≤ 5 := by decide +kernel
theorem textL_rep : ∀ j, j < 8 → Txt.replace (str (textL j)) (Str.ofString "'") (Str.ofString "''") = str (dbl (textL j)) := by decide +kernel
/-- a token without its place -/
inductive Pc where
  | name (s : List Nat)
  | int (n : Nat)
  | real (q : Nat × Int)
  | dble (q : Nat × Int)
  | char (s : List Nat)
  | log (b : Bool)
  | op (s : List Nat)
noncomputable def Pc.kind : Pc → List Nat
  | .name _ => kNAME
  | .int _ => kINT
  | .real _ => kREAL
  | .dble _ => kDBLE
  | .char _ => kCHAR
  | .log _ => kLOG
  | .op _ => kOP
noncomputable def Pc.val : Pc → Dat
  | .name s => .str (str s)
  | .int n => .int n
  | .real q => pairD q
  | .dble q => pairD q
  | .char s => .str (str s)
  | .log b => .bool b
  | .op s => .str (str s)
/-- an operand: what is written, what it is -/
inductive Opnd : List Nat → Pc → Prop
  | name (j : Nat) : j < 8 → Opnd (nameL j) (.name (nameL j))
  | int (z n : Nat) : z < 2 → n < 10 ^ 9 → Opnd (zzL z ++ natText n) (.int n)
  | real {tx : List Nat} {q : Nat × Int} : RealOf 69 false tx q → Opnd tx (.real q)
  | dble {tx : List Nat} {q : Nat × Int} : RealOf 68 true tx q → Opnd tx (.dble q)
  | char (j : Nat) : j < 8 → Opnd ([39] ++ dbl (textL j) ++ [39]) (.char (textL j))
  | log (j : Nat) : j < 2 → Opnd (truL j) (.log (decide (j = 1)))
noncomputable def opD (tx : List Nat) (pc : Pc) : Dat := .tuple [.str (str tx), .str (str pc.kind), pc.val]
theorem news_pick {h₀ h : Heap} {L : Addr} {d l p : Addr × Obj} {B : List (Addr × Obj)} (N : News h₀ L h (d :: l :: p :: B)) : News h₀ L h (p :: ([d] ++ B)) := fun q hq => by
  rcases List.mem_cons.mp hq with rfl | hq
  · exact N _ (.tail _ (.tail _ (.head _)))
  · rcases List.mem_cons.mp hq with rfl | hq
    · exact N _ (.head _)
    · exact N _ (.tail _ (.tail _ (.tail _ hq)))
theorem news3 {h₀ h : Heap} {L : Addr} {p q1 q2 : Addr × Obj} {A B : List (Addr × Obj)} (N : News h₀ L h (p :: (A ++ B))) (h1 : q1 ∈ A) (h2 : q2 ∈ A) : News h₀ L h (p :: q1 :: q2 :: B) := fun r hr => by
  rcases List.mem_cons.mp hr with rfl | hr
  · exact N _ (.head _)
  · rcases List.mem_cons.mp hr with rfl | hr
    · exact N _ (.tail _ (List.mem_append_left _ h1))
    · rcases List.mem_cons.mp hr with rfl | hr
      · exact N _ (.tail _ (List.mem_append_left _ h2))
      · exact N _ (.tail _ (List.mem_append_right _ hr))
section
variable {w : World} {f : Addr} {vs : List Value} {dd uu : Nat} {mean : ExcName → Option Value} {mg mb : Str → Option Value} {dp un : Nat} {gd : Option (List Code)} {cn : Str} {cs : Scope} {a : Addr} {ccd : Value} {cl : List (Str × Addr)} {outer : List Env} {A₀ : Around} {base h₀ : Heap} {L : Addr}
    {m : Str → Option Value} {rest : List (Addr × Obj)} {s : Shared} {Q E : Value → Shared → Prop}
theorem Draws.useR {tp sc : Addr} {c : Nat} {R : List Nat → Nat × Int → Prop} {i : Nat} {t : Tok} {nn : Nat} (D : Draws w f vs tp sc dd uu c (fun d => ∃ tx q, d = .tuple [.str (str tx), pairD q] ∧ R tx q)) (B : Below A₀ base outer h₀) (F : Fr h₀ L s.heap m) (X : (hd.heap_1 w.params).In h₀) (T : Top lawView (looseW lawView []) mean mg mb h₀) (hk : cs.kind = .function) (h1 : dp + dd < recursionLimit) (h2 : un + uu < cLine)
    (N : News h₀ L s.heap ((tp, tapeO sc i t nn) :: rest)) (ho : ∀ p ∈ rest, p.1 ≠ tp) (hs : Scr sc rest) (hi : i + c ≤ 1000)
    (k : ∀ tx q, R tx q → ∀ b1 b2 u1 u2 u3 n1 n2 i' t' nn' h' tk', i' ≤ i + c → Fr h₀ L h' m →
      News h₀ L h' ((tp, tapeO sc i' t' nn') :: (b1, { cls := .type "tuple", data := .seq #[.str (str tx) u1, .ref b2] n1 }) :: (b2, { cls := .type "tuple", data := .seq #[.int q.1 u2, .int q.2 u3] n2 }) :: rest) → Q (.ref b1) { s with heap := h', toks := tk' }) : wpAny (model PySem.Challenge.rw_no0240_01.row.prog w) (ktrTop dp un gd cn cs L a ccd cl outer) (call (.ref f) vs) Q E s :=
  D.use B F X T hk h1 h2 N ho hs hi fun d ⟨tx, q, e, hr⟩ r tl i' t' nn' h' tk' hi' F' N' _ D' => by
    subst e
    cases D' with
    | tuple hm hA =>
      cases hA with | cons d1 hA => cases hA with | cons d2 hA =>
      cases hA; cases d1
      unfold pairD at d2
      cases d2 with
      | tuple hm2 hA2 =>
        cases hA2 with | cons e1 hA2 => cases hA2 with | cons e2 hA2 =>
        cases hA2; cases e1; cases e2
        exact k tx q hr _ _ _ _ _ _ _ i' t' nn' h' tk' hi' F' (news3 N' hm hm2)
end
end Mine
namespace Mine
open PySem PySem.W PyProof.Rows PySem.NumText
set_option maxRecDepth 100000
set_option maxHeartbeats 8000000
/-- a call that gives back a new list of texts -/
noncomputable def TabOf (w : World) (f : Addr) (n : Nat) (g : Nat → List Nat) : Prop :=
  ∀ (mean : ExcName → Option Value) (mg mb : Str → Option Value) (dp un : Nat) (gd : Option (List Code)) (cn : Str) (cs : Scope) (a : Addr) (ccd : Value) (cl : List (Str × Addr)) (outer : List Env) (A₀ : Around) (base h₀ : Heap) (L : Addr)
    (m : Str → Option Value) (rest : List (Addr × Obj)) (s : Shared) (Q E : Value → Shared → Prop),
    Below A₀ base outer h₀ → Fr h₀ L s.heap m → (hd.heap_1 w.params).In h₀ → Top lawView (looseW lawView []) mean mg mb h₀ → cs.kind = .function → dp + 2 < recursionLimit → un + 16 < cLine → News h₀ L s.heap rest →
    (∀ b its k h' tk', its.size = n → (∀ j, j < n → ∃ t, its[j]? = some (.str (str (g j)) t)) → Fr h₀ L h' m → News h₀ L h' ((b, PySem.W.listOf its k) :: rest) → (∀ p ∈ rest, p.1 < b) → Q (.ref b) { s with heap := h', toks := tk' }) →
    wpAny (model PySem.Challenge.rw_no0240_01.row.prog w) (ktrTop dp un gd cn cs L a ccd cl outer) (call (.ref f) ([] ++ [])) Q E s
theorem names_tab (w : World) : TabOf w 172 8 nameL := by
  unfold TabOf
  k_fill
  intro mean mg mb dp un gd cn cs a ccd cl outer A₀ base h₀ L m rest s Q E B F X T hk h1 h2 N hret
  refine wpAny_call ?_
  k_dflt (refine' code_def (binds := []) ?k1 ?k2 ?k3 ?k4 ?k5 ?kA ?kF ?kK ?k6 ?k7 ?k8 ?k9 ?kB ?_ ?c2 ?c3 ?c4 ?c5; (case kA => exact rfl); (case kF => exact rfl); (case kK => assumption); (case k1 => k_asm); (case k2 => k_asm); (case k3 => k_asm); (case k4 => k_asm); (case k5 => k_asm); (case k6 => k_is); (case k7 => k_is); (case k8 => ktr_room); (case k9 => exact BindsTo.of_eq rfl); (case c5 => decide); (case kB => exact locs rfl); (case c2 => exact rfl); (case c3 => exact rfl); (case c4 => exact rfl))
  intro g' L' h' FG' F' N' B' X' T'
  (try k_fold)
  k_with_none
  k_steps
  rename Fr h₀ _ _ _ => kF9
  rename News h₀ _ _ _ => kN9
  refine hret _ _ _ _ _ (by simp) ?_ kF9 kN9 (by first | assumption | exact ktn_ltOf (by assumption))
  exact (upto (upto (upto (upto (upto (upto (upto (upto upto_none ⟨_, congrArg (fun y => some (Value.str y _)) nameL_0⟩) ⟨_, congrArg (fun y => some (Value.str y _)) nameL_1⟩) ⟨_, congrArg (fun y => some (Value.str y _)) nameL_2⟩) ⟨_, congrArg (fun y => some (Value.str y _)) nameL_3⟩) ⟨_, congrArg (fun y => some (Value.str y _)) nameL_4⟩) ⟨_, congrArg (fun y => some (Value.str y _)) nameL_5⟩) ⟨_, congrArg (fun y => some (Value.str y _)) nameL_6⟩) ⟨_, congrArg (fun y => some (Value.str y _)) nameL_7⟩)
theorem texts_tab (w : World) : TabOf w 179 8 textL := by
  unfold TabOf
  k_fill
  intro mean mg mb dp un gd cn cs a ccd cl outer A₀ base h₀ L m rest s Q E B F X T hk h1 h2 N hret
  refine wpAny_call ?_
  k_dflt (refine' code_def (binds := []) ?k1 ?k2 ?k3 ?k4 ?k5 ?kA ?kF ?kK ?k6 ?k7 ?k8 ?k9 ?kB ?_ ?c2 ?c3 ?c4 ?c5; (case kA => exact rfl); (case kF => exact rfl); (case kK => assumption); (case k1 => k_asm); (case k2 => k_asm); (case k3 => k_asm); (case k4 => k_asm); (case k5 => k_asm); (case k6 => k_is); (case k7 => k_is); (case k8 => ktr_room); (case k9 => exact BindsTo.of_eq rfl); (case c5 => decide); (case kB => exact locs rfl); (case c2 => exact rfl); (case c3 => exact rfl); (case c4 => exact rfl))
  intro g' L' h' FG' F' N' B' X' T'
  (try k_fold)
  k_with_none
  k_steps
  rename Fr h₀ _ _ _ => kF9
  rename News h₀ _ _ _ => kN9
  refine hret _ _ _ _ _ (by simp) ?_ kF9 kN9 (by first | assumption | exact ktn_ltOf (by assumption))
  exact (upto (upto (upto (upto (upto (upto (upto (upto upto_none ⟨_, congrArg (fun y => some (Value.str y _)) textL_0⟩) ⟨_, congrArg (fun y => some (Value.str y _)) textL_1⟩) ⟨_, congrArg (fun y => some (Value.str y _)) textL_2⟩) ⟨_, congrArg (fun y => some (Value.str y _)) textL_3⟩) ⟨_, congrArg (fun y => some (Value.str y _)) textL_4⟩) ⟨_, congrArg (fun y => some (Value.str y _)) textL_5⟩) ⟨_, congrArg (fun y => some (Value.str y _)) textL_6⟩) ⟨_, congrArg (fun y => some (Value.str y _)) textL_7⟩)
theorem marks_tab (w : World) : TabOf w 165 24 markL := by
  unfold TabOf
  k_fill
  intro mean mg mb dp un gd cn cs a ccd cl outer A₀ base h₀ L m rest s Q E B F X T hk h1 h2 N hret
  refine wpAny_call ?_
  k_dflt (refine' code_def (binds := []) ?k1 ?k2 ?k3 ?k4 ?k5 ?kA ?kF ?kK ?k6 ?k7 ?k8 ?k9 ?kB ?_ ?c2 ?c3 ?c4 ?c5; (case kA => exact rfl); (case kF => exact rfl); (case kK => assumption); (case k1 => k_asm); (case k2 => k_asm); (case k3 => k_asm); (case k4 => k_asm); (case k5 => k_asm); (case k6 => k_is); (case k7 => k_is); (case k8 => ktr_room); (case k9 => exact BindsTo.of_eq rfl); (case c5 => decide); (case kB => exact locs rfl); (case c2 => exact rfl); (case c3 => exact rfl); (case c4 => exact rfl))
  intro g' L' h' FG' F' N' B' X' T'
  (try k_fold)
  k_with_none
  k_steps
  rename Fr h₀ _ _ _ => kF9
  rename News h₀ _ _ _ => kN9
  refine hret _ _ _ _ _ (by simp) ?_ kF9 kN9 (by first | assumption | exact ktn_ltOf (by assumption))
  exact (upto (upto (upto (upto (upto (upto (upto (upto (upto (upto (upto (upto (upto (upto (upto (upto (upto (upto (upto (upto (upto (upto (upto (upto upto_none ⟨_, congrArg (fun y => some (Value.str y _)) markL_0⟩) ⟨_, congrArg (fun y => some (Value.str y _)) markL_1⟩) ⟨_, congrArg (fun y => some (Value.str y _)) markL_2⟩) ⟨_, congrArg (fun y => some (Value.str y _)) markL_3⟩) ⟨_, congrArg (fun y => some (Value.str y _)) markL_4⟩) ⟨_, congrArg (fun y => some (Value.str y _)) markL_5⟩) ⟨_, congrArg (fun y => some (Value.str y _)) markL_6⟩) ⟨_, congrArg (fun y => some (Value.str y _)) markL_7⟩) ⟨_, congrArg (fun y => some (Value.str y _)) markL_8⟩) ⟨_, congrArg (fun y => some (Value.str y _)) markL_9⟩) ⟨_, congrArg (fun y => some (Value.str y _)) markL_10⟩) ⟨_, congrArg (fun y => some (Value.str y _)) markL_11⟩) ⟨_, congrArg (fun y => some (Value.str y _)) markL_12⟩) ⟨_, congrArg (fun y => some (Value.str y _)) markL_13⟩) ⟨_, congrArg (fun y => some (Value.str y _)) markL_14⟩) ⟨_, congrArg (fun y => some (Value.str y _)) markL_15⟩) ⟨_, congrArg (fun y => some (Value.str y _)) markL_16⟩) ⟨_, congrArg (fun y => some (Value.str y _)) markL_17⟩) ⟨_, congrArg (fun y => some (Value.str y _)) markL_18⟩) ⟨_, congrArg (fun y => some (Value.str y _)) markL_19⟩) ⟨_, congrArg (fun y => some (Value.str y _)) markL_20⟩) ⟨_, congrArg (fun y => some (Value.str y _)) markL_21⟩) ⟨_, congrArg (fun y => some (Value.str y _)) markL_22⟩) ⟨_, congrArg (fun y => some (Value.str y _)) markL_23⟩)
section
variable {w : World} {f : Addr} {mean : ExcName → Option Value} {mg mb : Str → Option Value} {dp un : Nat} {gd : Option (List Code)} {cn : Str} {cs : Scope} {a : Addr} {ccd : Value} {cl : List (Str × Addr)} {outer : List Env} {A₀ : Around} {base h₀ : Heap} {L : Addr}
    {m : Str → Option Value} {rest : List (Addr × Obj)} {s : Shared} {Q E : Value → Shared → Prop}
theorem TabOf.use {n : Nat} {g : Nat → List Nat} (D : TabOf w f n g) (B : Below A₀ base outer h₀) (F : Fr h₀ L s.heap m) (X : (hd.heap_1 w.params).In h₀) (T : Top lawView (looseW lawView []) mean mg mb h₀) (hk : cs.kind = .function) (h1 : dp + 2 < recursionLimit) (h2 : un + 16 < cLine) (N : News h₀ L s.heap rest)
    (k : ∀ b its k h' tk', its.size = n → (∀ j, j < n → ∃ t, its[j]? = some (.str (str (g j)) t)) → Fr h₀ L h' m → News h₀ L h' ((b, PySem.W.listOf its k) :: rest) → (∀ p ∈ rest, p.1 < b) → Q (.ref b) { s with heap := h', toks := tk' }) : wpAny (model PySem.Challenge.rw_no0240_01.row.prog w) (ktrTop dp un gd cn cs L a ccd cl outer) (call (.ref f) ([] ++ [])) Q E s :=
  D mean mg mb dp un gd cn cs a ccd cl outer A₀ base h₀ L m rest s Q E B F X T hk h1 h2 N k
end
end Mine
namespace Mine
open PySem PySem.W PyProof.Rows PySem.NumText
set_option maxRecDepth 100000
set_option maxHeartbeats 8000000
set_option maxHeartbeats 32000000 in
theorem operand_draws (w : World) (tp sc : Addr) : Draws w 214 [.ref tp] tp sc 12 128 12 (fun d => ∃ tx pc, d = opD tx pc ∧ Opnd tx pc) := by
  unfold Draws
  k_fill
  intro mean mg mb dp un gd cn cs a ccd cl outer A₀ base h₀ L m rest s Q E i t nn B F X T hk h1 h2 N hoff hS hi hret
  refine wpAny_call ?_
  k_dflt (refine' code_def (binds := [(Str.ofString "tape", .ref tp)]) ?k1 ?k2 ?k3 ?k4 ?k5 ?kA ?kF ?kK ?k6 ?k7 ?k8 ?k9 ?kB ?_ ?c2 ?c3 ?c4 ?c5; (case kA => exact rfl); (case kF => exact rfl); (case kK => assumption); (case k1 => k_asm); (case k2 => k_asm); (case k3 => k_asm); (case k4 => k_asm); (case k5 => k_asm); (case k6 => k_is); (case k7 => k_is); (case k8 => ktr_room); (case k9 => exact BindsTo.of_eq rfl); (case c5 => decide); (case kB => exact locs rfl); (case c2 => exact rfl); (case c3 => exact rfl); (case c4 => exact rfl))
  intro g' L' h' FG' F' N' B' X' T'
  (try k_fold)
  k_with_none
  k_with "binaryOp Add str str" => ((refine add_eq (by first | exact rfl | exact quote1_is | exact empty_is | exact natText_is _ | exact textL_rep _ (by assumption)) (by first | exact rfl | exact quote1_is | exact empty_is | exact natText_is _ | exact textL_rep _ (by assumption)) ?hz ?_); (case hz => ((try simp only [List.length_append, List.length_cons, List.length_nil]); omega)); (intro ct ctk))
  k_with "subscriptTail" => first
   | ((have hz9 := hjn); ((rename News _ _ _ _ => kN); (k_dflt (refine' item_tab (f := nameL) ?n ?hk ?hz9 ?hf ?_ (by with_unfolding_all rfl); (case n => exact kN); (case hk => (rw [hsz]; exact hjn)); (case hz9 => (rw [hsz]; decide)); (case hf => (intro j hj; exact htab j (hsz ▸ hj))))); (replace kN := news_tail kN); (intro vt); (try k_fold)))
   | ((have hz9 := hjt); ((rename News _ _ _ _ => kN); (k_dflt (refine' item_tab (f := textL) ?n ?hk ?hz9 ?hf ?_ (by with_unfolding_all rfl); (case n => exact kN); (case hk => (rw [hsz]; exact hjt)); (case hz9 => (rw [hsz]; decide)); (case hf => (intro j hj; exact htab j (hsz ▸ hj))))); (replace kN := news_tail kN); (intro vt); (have hjl := textL_len jt hjt); (try k_fold)))
   | ((have hz9 := hjz); ((rename News _ _ _ _ => kN); (k_dflt (refine' item_tab (f := zzL) ?n ?hk ?hz9 ?hf ?_ (by with_unfolding_all rfl); (case n => exact kN); (case hk => exact hjz); (case hz9 => (simp only [List.size_toArray, List.length_cons, List.length_nil]; omega)); (case hf => (intro j hj; have hj3 : j = 0 ∨ j = 1 := (by simp at hj; omega); rcases hj3 with rfl | rfl <;> first | exact ⟨_, congrArg (fun y => some (Value.str y _)) zzL_0⟩ | exact ⟨_, congrArg (fun y => some (Value.str y _)) zzL_1⟩)))); (replace kN := news_tail kN); (intro vt); (have hjzl : (zzL jz).length ≤ 2 := (by rcases (show jz = 0 ∨ jz = 1 by omega) with rfl | rfl <;> decide)); (try k_fold)))
  k_with "call ref" => first
   | ((k_dflt (refine' TabOf.use (names_tab w) ?k1 ?k2 ?k3 ?k5 ?k6 ?k7 ?k8 ?k4 ?_; (case k1 => k_asm); (case k2 => k_asm); (case k3 => k_asm); (case k4 => k_asm); (case k5 => k_asm); (case k6 => exact rfl); (case k7 => ktr_room); (case k8 => ktr_units))); (intro bb its kk9 kh ktk hsz htab kF kN hlt); (try k_fold))
   | ((k_dflt (refine' TabOf.use (texts_tab w) ?k1 ?k2 ?k3 ?k5 ?k6 ?k7 ?k8 ?k4 ?_; (case k1 => k_asm); (case k2 => k_asm); (case k3 => k_asm); (case k4 => k_asm); (case k5 => k_asm); (case k6 => exact rfl); (case k7 => ktr_room); (case k8 => ktr_units))); (intro bb its kk9 kh ktk hsz htab kF kN hlt); (try k_fold))
   | ((fail_if_success (have hz9 := hway)); ((k_dflt (refine' Draws.useK (take_draws w tp sc 8 _ (by decide) (by decide)) ?k1 ?k2 ?k3 ?k5 ?k6 ?k7 ?k8 ?k4 ?ko ?ks ?ki ?_; (case k1 => k_asm); (case k2 => k_asm); (case k3 => k_asm); (case k4 => k_asm); (case k5 => k_asm); (case k6 => exact rfl); (case k7 => ktr_room); (case k8 => ktr_units); (case ko => assumption); (case ks => assumption); (case ki => omega))); (intro way hway u1 i1 t1 n1 kh ktk hi1 kF kN); (try k_fold)))
   | ((k_dflt (refine' Draws.useR (real_draws w tp sc 69 false _) ?k1 ?k2 ?k3 ?k5 ?k6 ?k7 ?k8 ?k4 ?ko ?ks ?ki ?_; (case k1 => k_asm); (case k2 => k_asm); (case k3 => k_asm); (case k4 => k_asm); (case k5 => k_asm); (case k6 => exact rfl); (case k7 => ktr_room); (case k8 => ktr_units); (case ko => assumption); (case ks => assumption); (case ki => omega))); (intro tx q hR b1 b2 u2 u3 u4 n2 n3 i2 t2 nn2 kh ktk hi2 kF kN); (try k_fold))
   | ((k_dflt (refine' Draws.useR (real_draws w tp sc 68 true _) ?k1 ?k2 ?k3 ?k5 ?k6 ?k7 ?k8 ?k4 ?ko ?ks ?ki ?_; (case k1 => k_asm); (case k2 => k_asm); (case k3 => k_asm); (case k4 => k_asm); (case k5 => k_asm); (case k6 => exact rfl); (case k7 => ktr_room); (case k8 => ktr_units); (case ko => assumption); (case ks => assumption); (case ki => omega))); (intro tx q hR b1 b2 u2 u3 u4 n2 n3 i2 t2 nn2 kh ktk hi2 kF kN); (try k_fold))
   | ((k_dflt (refine' Draws.useK (take_draws w tp sc 1000000000 _ (by decide) (by decide)) ?k1 ?k2 ?k3 ?k5 ?k6 ?k7 ?k8 ?k4 ?ko ?ks ?ki ?_; (case k1 => k_asm); (case k2 => k_asm); (case k3 => k_asm); (case k4 => k_asm); (case k5 => k_asm); (case k6 => exact rfl); (case k7 => ktr_room); (case k8 => ktr_units); (case ko => assumption); (case ks => assumption); (case ki => omega))); (intro num hnum u2 i2 t2 n2 kh ktk hi2 kF kN); (have numl := natText_len (k := num) (n := 9) (by decide) (by omega)); (try k_fold))
   | ((have hz9 : way = 5 := (by omega)); ((k_dflt (refine' Draws.useK (take_draws w tp sc 8 _ (by decide) (by decide)) ?k1 ?k2 ?k3 ?k5 ?k6 ?k7 ?k8 ?k4 ?ko ?ks ?ki ?_; (case k1 => k_asm); (case k2 => k_asm); (case k3 => k_asm); (case k4 => exact news_swap (by k_asm)); (case k5 => k_asm); (case k6 => exact rfl); (case k7 => ktr_room); (case k8 => ktr_units); (case ko => exact List.forall_mem_cons.mpr ⟨Nat.ne_of_gt (hlt _ (.head _)), hoff⟩); (case ks => exact hS.cons); (case ki => omega))); (intro jt hjt u2 i2 t2 n2 kh ktk hi2 kF kN); (replace kN := news_swap kN); (try k_fold)))
   | ((k_dflt (refine' Draws.useK (take_draws w tp sc 8 _ (by decide) (by decide)) ?k1 ?k2 ?k3 ?k5 ?k6 ?k7 ?k8 ?k4 ?ko ?ks ?ki ?_; (case k1 => k_asm); (case k2 => k_asm); (case k3 => k_asm); (case k4 => exact news_swap (by k_asm)); (case k5 => k_asm); (case k6 => exact rfl); (case k7 => ktr_room); (case k8 => ktr_units); (case ko => exact List.forall_mem_cons.mpr ⟨Nat.ne_of_gt (hlt _ (.head _)), hoff⟩); (case ks => exact hS.cons); (case ki => omega))); (intro jn hjn u2 i2 t2 n2 kh ktk hi2 kF kN); (replace kN := news_swap kN); (try k_fold))
   | ((have hz9 := hnum); ((k_dflt (refine' Draws.useK (take_draws w tp sc 2 _ (by decide) (by decide)) ?k1 ?k2 ?k3 ?k5 ?k6 ?k7 ?k8 ?k4 ?ko ?ks ?ki ?_; (case k1 => k_asm); (case k2 => k_asm); (case k3 => k_asm); (case k4 => exact news_swap (by k_asm)); (case k5 => k_asm); (case k6 => exact rfl); (case k7 => ktr_room); (case k8 => ktr_units); (case ko => exact List.forall_mem_cons.mpr ⟨by k_ne, hoff⟩); (case ks => exact hS.cons); (case ki => omega))); (intro jz hjz u3 i3 t3 n3 kh ktk hi3 kF kN); (replace kN := news_swap kN); (try k_fold)))
   | (((k_dflt (refine' Draws.useK (take_draws w tp sc 2 _ (by decide) (by decide)) ?k1 ?k2 ?k3 ?k5 ?k6 ?k7 ?k8 ?k4 ?ko ?ks ?ki ?_; (case k1 => k_asm); (case k2 => k_asm); (case k3 => k_asm); (case k4 => k_asm); (case k5 => k_asm); (case k6 => exact rfl); (case k7 => ktr_room); (case k8 => ktr_units); (case ko => assumption); (case ks => assumption); (case ki => omega))); (intro jb hjb u3 i3 t3 n3 kh ktk hi3 kF kN); (rcases (show jb = 0 ∨ jb = 1 by omega) with rfl | rfl); (all_goals (try k_fold)); (try k_fold)))
  k_with "call builtin:str.replace" => ((refine PySem.SC.replaceW (Nat.succ_ne_zero _) (Nat.succ_ne_zero _) (Nat.ne_of_lt (Nat.lt_succ_self _)) (by decide) (by rw [Mine.len_str]; omega) (by decide) ?_); (intro rt rk); (try k_fold))
  k_steps
  all_goals (
    rename Fr h₀ _ _ _ => kF9
    rename News h₀ _ _ _ => kN9)
  iterate 2 (
    · rw [NAME_is] at kN9
      exact hret _ ⟨_, .name (nameL jn), rfl, .name jn hjn⟩ _ [_] _ _ _ _ _ (by omega) kF9 (news_pull (A := [_]) kN9) (tups_cons tups_nil) (DatIn.tuple (.head _) (.cons (.str _ _) (.cons (.str _ _) (.cons (.str _ _) .nil)))))
  · rw [INT_is] at kN9
    exact hret _ ⟨_, .int num, rfl, .int jz num hjz hnum⟩ _ [_] _ _ _ _ _ (by omega) kF9 (news_pull (A := [_]) kN9) (tups_cons tups_nil) (DatIn.tuple (.head _) (.cons (.str _ _) (.cons (.str _ _) (.cons (.int _ _) .nil))))
  iterate 2 (
    · rw [REAL_is] at kN9
      exact hret _ ⟨_, .real q, rfl, .real hR⟩ _ [_, _, _] _ _ _ _ _ (by omega) kF9 (news_pull (A := [_]) kN9) (tups_cons (tups_cons (tups_cons tups_nil))) (DatIn.tuple (.head _) (.cons (.str _ _) (.cons (.str _ _) (.cons (DatIn.tuple (.tail _ (.tail _ (.head _))) (.cons (.int _ _) (.cons (.int _ _) .nil))) .nil)))))
  · rw [DBLE_is] at kN9
    exact hret _ ⟨_, .dble q, rfl, .dble hR⟩ _ [_, _, _] _ _ _ _ _ (by omega) kF9 (news_pull (A := [_]) kN9) (tups_cons (tups_cons (tups_cons tups_nil))) (DatIn.tuple (.head _) (.cons (.str _ _) (.cons (.str _ _) (.cons (DatIn.tuple (.tail _ (.tail _ (.head _))) (.cons (.int _ _) (.cons (.int _ _) .nil))) .nil))))
  · rw [CHAR_is] at kN9
    exact hret _ ⟨_, .char (textL jt), rfl, .char jt hjt⟩ _ [_] _ _ _ _ _ (by omega) kF9 (news_pull (A := [_]) kN9) (tups_cons tups_nil) (DatIn.tuple (.head _) (.cons (.str _ _) (.cons (.str _ _) (.cons (.str _ _) .nil))))
  all_goals (rw [LOG_is] at kN9)
  · rw [truL_0] at kN9
    exact hret _ ⟨_, .log false, rfl, .log 0 (by decide)⟩ _ [_] _ _ _ _ _ (by omega) kF9 (news_pick kN9) (tups_cons tups_nil) (DatIn.tuple (.head _) (.cons (.str _ _) (.cons (.str _ _) (.cons (.bool _) .nil))))
  · rw [truL_1] at kN9
    exact hret _ ⟨_, .log true, rfl, .log 1 (by decide)⟩ _ [_] _ _ _ _ _ (by omega) kF9 (news_pick kN9) (tups_cons tups_nil) (DatIn.tuple (.head _) (.cons (.str _ _) (.cons (.str _ _) (.cons (.bool _) .nil))))
end Mine
namespace Mine
open PySem PySem.W PyProof.Rows PySem.NumText
set_option maxRecDepth 100000
set_option maxHeartbeats 8000000
/-- the row: its text, its tokens' list -/
noncomputable abbrev rowO (x : List Nat) (t : Tok) (ls : Addr) (n : Nat) : Obj := PySem.W.listOf #[.str (str x) t, .ref ls] n
theorem off_cons {p : Addr × Obj} {B : List (Addr × Obj)} {b : Addr} (h : p.1 ≠ b) (h2 : ∀ q ∈ B, q.1 ≠ b) : ∀ q ∈ p :: B, q.1 ≠ b := fun q hq => (List.mem_cons.mp hq).elim (fun e => e ▸ h) (h2 q)
theorem put_does (w : World) (rw_ ls : Addr) (x tx kd : List Nat) (v : Value) (us : List Value) (t1 t2 t3 : Tok) (n1 n2 : Nat) (mean : ExcName → Option Value) (mg mb : Str → Option Value) (dp un : Nat) (gd : Option (List Code)) (cn : Str) (cs : Scope) (a : Addr) (ccd : Value) (cl : List (Str × Addr)) (outer : List Env) (A₀ : Around) (base h₀ : Heap) (L : Addr)
    (m : Str → Option Value) (rest : List (Addr × Obj)) (s : Shared) (Q E : Value → Shared → Prop) (B : Below A₀ base outer h₀) (F : Fr h₀ L s.heap m) (T : Top lawView (looseW lawView []) mean mg mb h₀) (hk : cs.kind = .function) (h1 : dp + 2 < recursionLimit) (h2 : un + 16 < cLine)
    (N : News h₀ L s.heap ((rw_, rowO x t1 ls n1) :: (ls, PySem.W.listOf us.toArray n2) :: rest)) (hne : ls ≠ rw_) (ho1 : ∀ p ∈ rest, p.1 ≠ rw_) (ho2 : ∀ p ∈ rest, p.1 ≠ ls) (hx : x.length ≤ 300) (htx : tx.length ≤ 300) (hus : us.length ≤ 1000)
    (hret : ∀ b t4 t5 h' tk', Fr h₀ L h' m → News h₀ L h' ((rw_, rowO (x ++ tx) t4 ls n1) :: (ls, PySem.W.listOf (us ++ [Value.ref b]).toArray (n2 + 1)) :: (b, { cls := .type "tuple", data := .seq #[.str (str kd) t3, v, .int (x.length : Int) t5] }) :: rest) → (∀ p ∈ rest, p.1 < b) → rw_ < b → ls < b → Q .none { s with heap := h', toks := tk' }) :
    (hd.heap_1 w.params).In h₀ → wpAny (model PySem.Challenge.rw_no0240_01.row.prog w) (ktrTop dp un gd cn cs L a ccd cl outer) (call (.ref 221) [.ref rw_, .str (str tx) t2, .str (str kd) t3, v]) Q E s := by
  k_fill
  intro X
  refine wpAny_call ?_
  k_dflt (refine' code_def (binds := [(Str.ofString "row", .ref rw_), (Str.ofString "text", .str (str tx) t2), (Str.ofString "kind", .str (str kd) t3), (Str.ofString "value", v)]) ?k1 ?k2 ?k3 ?k4 ?k5 ?kA ?kF ?kK ?k6 ?k7 ?k8 ?k9 ?kB ?_ ?c2 ?c3 ?c4 ?c5; (case kA => exact rfl); (case kF => exact rfl); (case kK => assumption); (case k1 => k_asm); (case k2 => k_asm); (case k3 => k_asm); (case k4 => k_asm); (case k5 => k_asm); (case k6 => k_is); (case k7 => k_is); (case k8 => ktr_room); (case k9 => exact BindsTo.of_eq rfl); (case c5 => decide); (case kB => exact locs rfl); (case c2 => exact rfl); (case c3 => exact rfl); (case c4 => exact rfl))
  intro g' L' h' FG' F' N' B' X' T'
  (try k_fold)
  k_with_none
  k_with "call builtin:len" => ((refine PyProof.Rows.len_str (by rw [Mine.len_str]; omega) ?_); (rw [Mine.len_str]); (try k_fold))
  k_with "call builtin:list.append" => (
    (rename Fr _ _ _ _ => kF)
    (rename News _ _ _ _ => kN)
    (rename (rw_ < _ ∧ ls < _ ∧ AllLt _ rest) => hlt)
    (replace kN := news_front (A := [_]) kN); (simp only [List.cons_append, List.nil_append] at kN)
    (have hs1 : (us.toArray).size ≤ sizeLine := by (rw [List.size_toArray, show sizeLine = 16777216 from rfl]; omega))
    (refine append_head kF kN ?hap ?_ hs1)
    (case hap => exact off_cons (Nat.ne_of_gt hlt.2.1) (off_cons hne.symm ho2))
    (clear kF kN)
    (intro kh kF kN)
    (rw [List.push_toArray] at kN)
    (replace kN := news_front (A := [_]) kN); (simp only [List.cons_append, List.nil_append] at kN)
    (try k_fold))
  k_with "setItem ref int" => ((rename Fr _ _ _ _ => kF); (rename News _ _ _ _ => kN); (refine set_head kF kN (off_cons hne (off_cons (Nat.ne_of_gt hlt.1) ho1)) (by decide) (by decide) (by simp) (its' := #[.str (str (x ++ tx)) _, .ref ls]) rfl rfl ?_); (clear kF kN); (intro kh kF kN); (try k_fold))
  k_with "binaryOp Add str str" => ((refine add_eq rfl rfl (by omega) ?_); (intro ct ctk))
  k_steps
  rename Fr h₀ _ _ _ => kF9
  rename News h₀ _ _ _ => kN9
  rename (rw_ < _ ∧ ls < _ ∧ AllLt _ rest) => hlt
  exact hret _ _ _ _ _ kF9 kN9 (ktn_ltOf hlt.2.2) hlt.1 hlt.2.1
end Mine
namespace Mine
open PySem PySem.W PyProof.Rows PySem.NumText
set_option maxRecDepth 100000
set_option maxHeartbeats 8000000
noncomputable def badL (j : Nat) : List Nat := ([[39, 65, 66], [65, 66, 67, 68, 69, 70, 71], [46, 81, 69, 68, 46], [46], [35], [46, 69, 81], [49, 46, 53, 69, 53, 46, 84, 82, 85], [65, 66, 39], [97], [88, 49, 50, 51, 52, 53, 54, 55], [49, 46, 69, 43, 35], [39, 73, 84, 39, 39, 83], [50, 46, 46, 88, 46], [46, 84, 82, 85, 69, 46, 46]] : List (List Nat)).getD j []
noncomputable def badN (j : Nat) : Nat := ([0, 0, 0, 0, 0, 0, 5, 2, 0, 0, 4, 0, 2, 6] : List Nat).getD j 0
theorem badL_0 : Str.ofString "'AB" = str (badL 0) := by decide +kernel
theorem badL_1 : Str.ofString "ABCDEFG" = str (badL 1) := by decide +kernel
theorem badL_2 : Str.ofString ".QED." = str (badL 2) := by decide +kernel
theorem badL_3 : Str.ofString "." = str (badL 3) := by decide +kernel
theorem badL_4 : Str.ofString "#" = str (badL 4) := by decide +kernel
theorem badL_5 : Str.ofString ".EQ" = str (badL 5) := by decide +kernel
theorem badL_6 : Str.ofString "1.5E5.TRU" = str (badL 6) := by decide +kernel
theorem badL_7 : Str.ofString "AB'" = str (badL 7) := by decide +kernel
theorem badL_8 : Str.ofString "a" = str (badL 8) := by decide +kernel
theorem badL_9 : Str.ofString "X1234567" = str (badL 9) := by decide +kernel
theorem badL_10 : Str.ofString "1.E+#" = str (badL 10) := by decide +kernel
theorem badL_11 : Str.ofString "'IT''S" = str (badL 11) := by decide +kernel
theorem badL_12 : Str.ofString "2..X." = str (badL 12) := by decide +kernel
theorem badL_13 : Str.ofString ".TRUE.." = str (badL 13) := by decide +kernel
/-- an item of the table of bad pieces -/
noncomputable def BadAt (its : Array Value) (tl : List (Addr × Obj)) (j : Nat) : Prop := ∃ b t1 t2 k, its[j]? = some (.ref b) ∧ (b, ({ cls := .type "tuple", data := .seq #[.str (str (badL j)) t1, .int (badN j : Int) t2] k } : Obj)) ∈ tl
theorem bad_does (w : World) (mean : ExcName → Option Value) (mg mb : Str → Option Value) (dp un : Nat) (gd : Option (List Code)) (cn : Str) (cs : Scope) (a : Addr) (ccd : Value) (cl : List (Str × Addr)) (outer : List Env) (A₀ : Around) (base h₀ : Heap) (L : Addr)
    (m : Str → Option Value) (rest : List (Addr × Obj)) (s : Shared) (Q E : Value → Shared → Prop) (B : Below A₀ base outer h₀) (F : Fr h₀ L s.heap m) (T : Top lawView (looseW lawView []) mean mg mb h₀) (hk : cs.kind = .function) (h1 : dp + 2 < recursionLimit) (h2 : un + 16 < cLine) (N : News h₀ L s.heap rest)
    (hret : ∀ b its k tl h' tk', its.size = 14 → (∀ j, j < 14 → BadAt its tl j) → Tups tl → Fr h₀ L h' m → News h₀ L h' ((b, PySem.W.listOf its k) :: (tl ++ rest)) → (∀ p ∈ rest, p.1 < b) → Q (.ref b) { s with heap := h', toks := tk' }) :
    (hd.heap_1 w.params).In h₀ → wpAny (model PySem.Challenge.rw_no0240_01.row.prog w) (ktrTop dp un gd cn cs L a ccd cl outer) (call (.ref 186) ([] ++ [])) Q E s := by
  k_fill
  intro X
  refine wpAny_call ?_
  k_dflt (refine' code_def (binds := []) ?k1 ?k2 ?k3 ?k4 ?k5 ?kA ?kF ?kK ?k6 ?k7 ?k8 ?k9 ?kB ?_ ?c2 ?c3 ?c4 ?c5; (case kA => exact rfl); (case kF => exact rfl); (case kK => assumption); (case k1 => k_asm); (case k2 => k_asm); (case k3 => k_asm); (case k4 => k_asm); (case k5 => k_asm); (case k6 => k_is); (case k7 => k_is); (case k8 => ktr_room); (case k9 => exact BindsTo.of_eq rfl); (case c5 => decide); (case kB => exact locs rfl); (case c2 => exact rfl); (case c3 => exact rfl); (case c4 => exact rfl))
  intro g' L' h' FG' F' N' B' X' T'
  (try k_fold)
  k_with_none
  k_steps
  rename Fr h₀ _ _ _ => kF9
  rename News h₀ _ _ _ => kN9
  simp only [badL_0, badL_1, badL_2, badL_3, badL_4, badL_5, badL_6, badL_7, badL_8, badL_9, badL_10, badL_11, badL_12, badL_13] at kN9
  refine hret _ _ _ [_, _, _, _, _, _, _, _, _, _, _, _, _, _] _ _ (by simp) ?_ ?_ kF9 kN9 ?_
  · exact (upto (upto (upto (upto (upto (upto (upto (upto (upto (upto (upto (upto (upto (upto upto_none ⟨_, _, _, _, rfl, .tail _ (.tail _ (.tail _ (.tail _ (.tail _ (.tail _ (.tail _ (.tail _ (.tail _ (.tail _ (.tail _ (.tail _ (.tail _ (.head _)))))))))))))⟩) ⟨_, _, _, _, rfl, .tail _ (.tail _ (.tail _ (.tail _ (.tail _ (.tail _ (.tail _ (.tail _ (.tail _ (.tail _ (.tail _ (.tail _ (.head _))))))))))))⟩) ⟨_, _, _, _, rfl, .tail _ (.tail _ (.tail _ (.tail _ (.tail _ (.tail _ (.tail _ (.tail _ (.tail _ (.tail _ (.tail _ (.head _)))))))))))⟩) ⟨_, _, _, _, rfl, .tail _ (.tail _ (.tail _ (.tail _ (.tail _ (.tail _ (.tail _ (.tail _ (.tail _ (.tail _ (.head _))))))))))⟩) ⟨_, _, _, _, rfl, .tail _ (.tail _ (.tail _ (.tail _ (.tail _ (.tail _ (.tail _ (.tail _ (.tail _ (.head _)))))))))⟩) ⟨_, _, _, _, rfl, .tail _ (.tail _ (.tail _ (.tail _ (.tail _ (.tail _ (.tail _ (.tail _ (.head _))))))))⟩) ⟨_, _, _, _, rfl, .tail _ (.tail _ (.tail _ (.tail _ (.tail _ (.tail _ (.tail _ (.head _)))))))⟩) ⟨_, _, _, _, rfl, .tail _ (.tail _ (.tail _ (.tail _ (.tail _ (.tail _ (.head _))))))⟩) ⟨_, _, _, _, rfl, .tail _ (.tail _ (.tail _ (.tail _ (.tail _ (.head _)))))⟩) ⟨_, _, _, _, rfl, .tail _ (.tail _ (.tail _ (.tail _ (.head _))))⟩) ⟨_, _, _, _, rfl, .tail _ (.tail _ (.tail _ (.head _)))⟩) ⟨_, _, _, _, rfl, .tail _ (.tail _ (.head _))⟩) ⟨_, _, _, _, rfl, .tail _ (.head _)⟩) ⟨_, _, _, _, rfl, .head _⟩)
  · exact tups_cons (tups_cons (tups_cons (tups_cons (tups_cons (tups_cons (tups_cons (tups_cons (tups_cons (tups_cons (tups_cons (tups_cons (tups_cons (tups_cons tups_nil)))))))))))))
  · rename (_ < _ ∧ _ < _ ∧ _ < _ ∧ _ < _ ∧ _ < _ ∧ _ < _ ∧ _ < _ ∧ _ < _ ∧ _ < _ ∧ _ < _ ∧ _ < _ ∧ _ < _ ∧ _ < _ ∧ _ < _ ∧ AllLt _ rest) => hlt
    exact ktn_ltOf hlt.2.2.2.2.2.2.2.2.2.2.2.2.2.2
end Mine
namespace Mine
open PySem PySem.W PyProof.Rows PySem.NumText
set_option maxRecDepth 100000
set_option maxHeartbeats 8000000
noncomputable def intText (e : Int) : List Nat := if e < 0 then 45 :: natText e.natAbs else natText e.natAbs
theorem intText_is (e : Int) : Str.ofString (toString e) = str (intText e) := by
  unfold intText
  cases e with
  | ofNat k =>
    rw [if_neg (by have := Int.natCast_nonneg k; exact Int.not_lt.mpr this)]
    exact natText_is k
  | negSucc k =>
    rw [if_pos (by omega)]
    refine str_of ?_
    rw [signs_ofString]
    show (("-" ++ Nat.repr (k + 1) : String)).toList.map Char.toNat = _
    rw [String.toList_append, List.map_append]
    have h := KIN.signs_num (k + 1)
    rw [signs_ofString] at h
    exact congrArg (fun z => [45] ++ z) h
theorem intText_len {e : Int} (h : -100 ≤ e) (h2 : e ≤ 100) : (intText e).length ≤ 4 := by
  have hl := natText_len (k := e.natAbs) (n := 3) (by decide) (by omega)
  unfold intText
  split
  · simp only [List.length_cons]; omega
  · omega
noncomputable def showPair (c : Nat) (q : Nat × Int) : List Nat :=
  if c = 68 ∨ q.2 > 0 ∨ q.2 < -12 then natText q.1 ++ [46] ++ [c] ++ intText q.2
  else if q.2 = 0 then natText q.1 ++ [46]
  else if ((natText q.1).length : Int) ≤ -q.2 then [46] ++ List.replicate (-q.2 - (natText q.1).length).toNat 48 ++ natText q.1
  else (natText q.1).take ((natText q.1).length - (-q.2).toNat) ++ [46] ++ (natText q.1).drop ((natText q.1).length - (-q.2).toNat)
theorem idx_hi (i : Int) (n : Nat) : Builtin.Str.strSliceIndices (some i) none 1 n = Builtin.Str.strSliceIndices (some i) (some (n : Int)) 1 n := by
  have a : ¬ ((n : Int) < 0) := by omega
  have b : max (0 : Int) (min (n : Int) (n : Int)) = n := by omega
  simp only [Builtin.Str.strSliceIndices, show (1 : Int) > 0 from by decide, if_true, if_neg a, b]
theorem slice_hi (x : Str) (i : Int) : Txt.slice x (some i) none = Txt.slice x (some i) (some (x.length : Int)) := by
  unfold Txt.slice
  rw [idx_hi]
theorem idx_lo (i : Int) (n : Nat) : Builtin.Str.strSliceIndices none (some i) 1 n = Builtin.Str.strSliceIndices (some 0) (some i) 1 n := by
  have b : max (0 : Int) (min (0 : Int) (n : Int)) = 0 := by omega
  simp only [Builtin.Str.strSliceIndices, show (1 : Int) > 0 from by decide, if_true, show ¬ ((0 : Int) < 0) from by decide, if_false, b]
theorem slice_lo (x : Str) (j : Int) : Txt.slice x none (some j) = Txt.slice x (some 0) (some j) := by
  unfold Txt.slice
  rw [idx_lo]
theorem take_neg {d : List Nat} {e : Int} (h0 : e < 0) (h : ¬ (d.length : Int) ≤ -e) : Txt.slice (str d) none (some e) = str (d.take (d.length - (-e).toNat)) := by
  rw [slice_lo]
  refine str_of ?_
  rw [slice_gen, toList_str, Mine.len_str]
  unfold cut clp
  rw [if_pos h0, if_neg (by decide)]
  have e1 : (max (0 : Int) (min (e + (d.length : Int)) (d.length : Int))).toNat = d.length - (-e).toNat := by omega
  have e2 : (max (0 : Int) (min 0 (d.length : Int))).toNat = 0 := by omega
  rw [e1, e2, List.drop_zero, Nat.sub_zero]
theorem drop_neg {d : List Nat} {e : Int} (h0 : e < 0) (h : ¬ (d.length : Int) ≤ -e) : Txt.slice (str d) (some e) none = str (d.drop (d.length - (-e).toNat)) := by
  rw [slice_hi]
  refine str_of ?_
  rw [slice_gen, toList_str, Mine.len_str]
  unfold cut clp
  rw [if_pos h0, if_neg (by omega)]
  have e1 : (max (0 : Int) (min (e + (d.length : Int)) (d.length : Int))).toNat = d.length - (-e).toNat := by omega
  have e2 : (max (0 : Int) (min (d.length : Int) (d.length : Int))).toNat = d.length := by omega
  rw [e1, e2, List.take_of_length_le]
  rw [List.length_drop]
  exact Nat.le_refl _
theorem zero_one : Str.ofString "0" = ⟨#[48]⟩ := by decide +kernel
theorem zeros_is (n : Int) : Txt.mul (Str.ofString "0") (if 0 > n then 0 else n) = str (List.replicate n.toNat 48) := by
  refine str_of ?_
  rw [zero_one, mul_one_list]
  congr 1
  split <;> omega
theorem zeros_gives (w : World) (n : Int) (t1 : Tok) (hn : n ≤ 100) (hn2 : -1000 ≤ n) : Gives w 132 [.int n t1] 2 16 (.str (str (List.replicate n.toNat 48))) := by
  unfold Gives
  k_fill
  intro mean mg mb dp un gd cn cs a ccd cl outer A₀ base h₀ L m rest s Q E B F X N T hk h1 h2 hret
  refine wpAny_call ?_
  k_dflt (refine' code_def (binds := [(Str.ofString "count", .int n t1)]) ?k1 ?k2 ?k3 ?k4 ?k5 ?kA ?kF ?kK ?k6 ?k7 ?k8 ?k9 ?kB ?_ ?c2 ?c3 ?c4 ?c5; (case kA => exact rfl); (case kF => exact rfl); (case kK => assumption); (case k1 => k_asm); (case k2 => k_asm); (case k3 => k_asm); (case k4 => k_asm); (case k5 => k_asm); (case k6 => k_is); (case k7 => k_is); (case k8 => ktr_room); (case k9 => exact BindsTo.of_eq rfl); (case c5 => decide); (case kB => exact locs rfl); (case c2 => exact rfl); (case c3 => exact rfl); (case c4 => exact rfl))
  intro g' L' h' FG' F' N' B' X' T'
  (try k_fold)
  k_with_none
  k_steps
  rename Fr h₀ _ _ _ => kF9
  rename News h₀ _ _ _ => kN9
  refine hret _ [] _ _ kF9 kN9 tups_nil ?_
  rw [zeros_is]
  exact .str _ _
end Mine
namespace Mine
open PySem PySem.W PyProof.Rows PySem.NumText
set_option maxRecDepth 100000
set_option maxHeartbeats 8000000

theorem show_pair_does (w : World) (p : Addr) (c : Nat) (q : Nat × Int) (t1 t2 t3 : Tok) (n2 : Nat) (mean : ExcName → Option Value) (mg mb : Str → Option Value) (dp un : Nat) (gd : Option (List Code)) (cn : Str) (cs : Scope) (a : Addr) (ccd : Value) (cl : List (Str × Addr)) (outer : List Env) (A₀ : Around) (base h₀ : Heap) (L : Addr)
    (m : Str → Option Value) (rest : List (Addr × Obj)) (s : Shared) (Q E : Value → Shared → Prop) (B : Below A₀ base outer h₀) (F : Fr h₀ L s.heap m) (T : Top lawView (looseW lawView []) mean mg mb h₀) (hk : cs.kind = .function) (h1 : dp + 6 < recursionLimit) (h2 : un + 48 < cLine)
    (N : News h₀ L s.heap ((p, { cls := .type "tuple", data := .seq #[.int q.1 t2, .int q.2 t3] n2 }) :: rest)) (hm : q.1 < 10 ^ 17) (he : -100 ≤ q.2) (he2 : q.2 ≤ 100)
    (hret : ∀ t h' tk', Fr h₀ L h' m → News h₀ L h' rest → Q (.str (str (showPair c q)) t) { s with heap := h', toks := tk' }) :
    (hd.heap_1 w.params).In h₀ → wpAny (model PySem.Challenge.rw_no0240_01.row.prog w) (ktrTop dp un gd cn cs L a ccd cl outer) (call (.ref 139) [.ref p, .str (str [c]) t1]) Q E s := by
  obtain ⟨mm, ee⟩ := q
  dsimp only at N hm he he2
  have hml := natText_len (k := mm) (n := 17) (by decide) hm
  have hel := intText_len (e := ee) he he2
  k_fill
  intro X
  refine wpAny_call ?_
  k_dflt (refine' code_def (binds := [(Str.ofString "pair", .ref p), (Str.ofString "letter", .str (str [c]) t1)]) ?k1 ?k2 ?k3 ?k4 ?k5 ?kA ?kF ?kK ?k6 ?k7 ?k8 ?k9 ?kB ?_ ?c2 ?c3 ?c4 ?c5; (case kA => exact rfl); (case kF => exact rfl); (case kK => assumption); (case k1 => k_asm); (case k2 => k_asm); (case k3 => k_asm); (case k4 => k_asm); (case k5 => k_asm); (case k6 => k_is); (case k7 => k_is); (case k8 => ktr_room); (case k9 => exact BindsTo.of_eq rfl); (case c5 => decide); (case kB => exact locs rfl); (case c2 => exact rfl); (case c3 => exact rfl); (case c4 => exact rfl))
  intro g' L' h' FG' F' N' B' X' T'
  (try k_fold)
  k_with_none
  k_with "call builtin:len" => ((refine PyProof.Rows.len_str (by rw [natText_is, Mine.len_str]; omega) ?_); (rw [natText_is, Mine.len_str]); (try k_fold))
  k_with "binaryOp Add str str" => ((refine add_eq (by first | exact rfl | exact point_is' | exact (natText_is _) | exact intText_is _ | (rw [natText_is]; exact take_neg (by omega) (by assumption)) | (rw [natText_is]; exact drop_neg (by omega) (by assumption))) (by first | exact rfl | exact point_is' | exact (natText_is _) | exact intText_is _ | (rw [natText_is]; exact take_neg (by omega) (by assumption)) | (rw [natText_is]; exact drop_neg (by omega) (by assumption))) ?hz ?_); (case hz => ((try simp only [List.length_append, List.length_cons, List.length_nil, List.length_replicate, List.length_take, List.length_drop]); omega)); (intro ct ctk))
  k_with "call ref cons nil" => ((k_dflt (refine' Gives.useS (zeros_gives w _ _ (by omega) (by omega)) ?k1 ?k2 ?k3 ?k4 ?k5 ?k6 ?k7 ?k8 ?_; (case k1 => k_asm); (case k2 => k_asm); (case k3 => k_asm); (case k4 => k_asm); (case k5 => k_asm); (case k6 => exact rfl); (case k7 => ktr_room); (case k8 => ktr_units))); (intro kt kh ktk kF kN); (try k_fold))
  k_steps
  all_goals (
    rename Fr h₀ _ _ _ => kF9
    rename News h₀ _ _ _ => kN9
    replace kN9 := news_tail kN9)
  · have c1 : (str [c] == Str.ofString "D") = true := by assumption
    rw [D_is, str_beq'] at c1
    have c2 : c = 68 := by simpa using c1
    rw [show natText mm ++ [46] ++ [c] ++ intText ee = showPair c (mm, ee) from by rw [showPair, if_pos (.inl c2)]]
    exact hret _ _ _ kF9 kN9
  · rw [show natText mm ++ [46] ++ [c] ++ intText ee = showPair c (mm, ee) from by rw [showPair, if_pos (.inr (.inl (by assumption)))]]
    exact hret _ _ _ kF9 kN9
  · rw [show natText mm ++ [46] ++ [c] ++ intText ee = showPair c (mm, ee) from by rw [showPair, if_pos (.inr (.inr (by assumption)))]]
    exact hret _ _ _ kF9 kN9
  all_goals (
    have c1 : (str [c] == Str.ofString "D") = false := by assumption
    rw [D_is, str_beq'] at c1
    have c2 : c ≠ 68 := by simpa using c1
    have c3 : ¬ (0 : Int) < ee := by assumption
    have c4 : ¬ ee < -12 := by assumption
    have c5 : ¬ (c = 68 ∨ ee > 0 ∨ ee < -12) := fun z => z.elim c2 fun z => z.elim c3 c4)
  · rw [show natText mm ++ [46] = showPair c (mm, ee) from by rw [showPair, if_neg c5, if_pos (by assumption)]]
    exact hret _ _ _ kF9 kN9
  · rw [show [46] ++ List.replicate (-ee - ↑(natText mm).length).toNat 48 ++ natText mm = showPair c (mm, ee) from by rw [showPair, if_neg c5, if_neg (by assumption), if_pos (by assumption)]]
    exact hret _ _ _ kF9 kN9
  · rw [show (natText mm).take ((natText mm).length - (-ee).toNat) ++ [46] ++ (natText mm).drop ((natText mm).length - (-ee).toNat) = showPair c (mm, ee) from by rw [showPair, if_neg c5, if_neg (by assumption), if_neg (by assumption)]]
    exact hret _ _ _ kF9 kN9
end Mine
namespace Mine
open PySem PySem.W PyProof.Rows PySem.NumText
set_option maxRecDepth 100000
set_option maxHeartbeats 8000000
noncomputable def PcOk : Pc → Prop
  | .name _ => True
  | .int n => n < 10 ^ 9
  | .real q => q.1 < 10 ^ 17 ∧ -100 ≤ q.2 ∧ q.2 ≤ 100
  | .dble q => q.1 < 10 ^ 17 ∧ -100 ≤ q.2 ∧ q.2 ≤ 100
  | .char s => ∃ j, j < 8 ∧ s = textL j
  | .log _ => True
  | .op _ => True
noncomputable def showP : Pc → List Nat
  | .name s => s
  | .int n => natText n
  | .real q => showPair 69 q
  | .dble q => showPair 68 q
  | .char s => [39] ++ dbl s ++ [39]
  | .log b => if b then truL 1 else truL 0
  | .op s => s
theorem E_is : Str.ofString "E" = str [69] := by decide +kernel
theorem show_text_gives (w : World) (j : Nat) (t1 : Tok) (hj : j < 8) : Gives w 146 [.str (str (textL j)) t1] 2 16 (.str (str ([39] ++ dbl (textL j) ++ [39]))) := by
  unfold Gives
  k_fill
  intro mean mg mb dp un gd cn cs a ccd cl outer A₀ base h₀ L m rest s Q E B F X N T hk h1 h2 hret
  refine wpAny_call ?_
  k_dflt (refine' code_def (binds := [(Str.ofString "signs", .str (str (textL j)) t1)]) ?k1 ?k2 ?k3 ?k4 ?k5 ?kA ?kF ?kK ?k6 ?k7 ?k8 ?k9 ?kB ?_ ?c2 ?c3 ?c4 ?c5; (case kA => exact rfl); (case kF => exact rfl); (case kK => assumption); (case k1 => k_asm); (case k2 => k_asm); (case k3 => k_asm); (case k4 => k_asm); (case k5 => k_asm); (case k6 => k_is); (case k7 => k_is); (case k8 => ktr_room); (case k9 => exact BindsTo.of_eq rfl); (case c5 => decide); (case kB => exact locs rfl); (case c2 => exact rfl); (case c3 => exact rfl); (case c4 => exact rfl))
  intro g' L' h' FG' F' N' B' X' T'
  (try k_fold)
  k_with_none
  have hjl := textL_len j hj
  k_with "call builtin:str.replace" => ((refine PySem.SC.replaceW (Nat.succ_ne_zero _) (Nat.succ_ne_zero _) (Nat.ne_of_lt (Nat.lt_succ_self _)) (by decide) (by rw [Mine.len_str]; omega) (by decide) ?_); (intro rt rk); (try k_fold))
  k_with "binaryOp Add str str" => ((refine add_eq (by first | exact rfl | exact quote1_is | exact textL_rep _ hj) (by first | exact rfl | exact quote1_is | exact textL_rep _ hj) ?hz ?_); (case hz => ((try simp only [List.length_append, List.length_cons, List.length_nil]); omega)); (intro ct ctk))
  k_steps
  rename Fr h₀ _ _ _ => kF9
  rename News h₀ _ _ _ => kN9
  exact hret _ [] _ _ kF9 kN9 tups_nil (.str _ _)
theorem show_token_name (w : World) (l : List Nat) (tv : Tok) (b : Addr) (t1 t2 : Tok) (i : Int) (n2 : Nat)  (mean : ExcName → Option Value) (mg mb : Str → Option Value) (dp un : Nat) (gd : Option (List Code)) (cn : Str) (cs : Scope) (a : Addr) (ccd : Value) (cl : List (Str × Addr)) (outer : List Env) (A₀ : Around) (base h₀ : Heap) (L : Addr)
    (m : Str → Option Value) (rest : List (Addr × Obj)) (s : Shared) (Q E : Value → Shared → Prop) (B : Below A₀ base outer h₀) (F : Fr h₀ L s.heap m) (T : Top lawView (looseW lawView []) mean mg mb h₀) (hk : cs.kind = .function) (h1 : dp + 10 < recursionLimit) (h2 : un + 80 < cLine)
    (N : News h₀ L s.heap ((b, { cls := .type "tuple", data := .seq #[.str (str kNAME) t1, (.str (str l) tv), .int i t2] n2 }) :: rest))
    (hret : ∀ t h' tk', Fr h₀ L h' m → News h₀ L h' rest → Q (.str (str (showP (.name l))) t) { s with heap := h', toks := tk' }) :
    (hd.heap_1 w.params).In h₀ → wpAny (model PySem.Challenge.rw_no0240_01.row.prog w) (ktrTop dp un gd cn cs L a ccd cl outer) (call (.ref 153) [.ref b]) Q E s := by
  rw [← NAME_is] at N
  k_fill
  intro X
  refine wpAny_call ?_
  k_dflt (refine' code_def (binds := [(Str.ofString "token", .ref b)]) ?k1 ?k2 ?k3 ?k4 ?k5 ?kA ?kF ?kK ?k6 ?k7 ?k8 ?k9 ?kB ?_ ?c2 ?c3 ?c4 ?c5; (case kA => exact rfl); (case kF => exact rfl); (case kK => assumption); (case k1 => k_asm); (case k2 => k_asm); (case k3 => k_asm); (case k4 => k_asm); (case k5 => k_asm); (case k6 => k_is); (case k7 => k_is); (case k8 => ktr_room); (case k9 => exact BindsTo.of_eq rfl); (case c5 => decide); (case kB => exact locs rfl); (case c2 => exact rfl); (case c3 => exact rfl); (case c4 => exact rfl))
  intro g' L' h' FG' F' N' B' X' T'
  (try k_fold)
  k_with_none
  k_steps
  rename Fr h₀ _ _ _ => kF9
  rename News h₀ _ _ _ => kN9
  exact hret _ _ _ kF9 (news_tail kN9)
theorem show_token_op (w : World) (l : List Nat) (tv : Tok) (b : Addr) (t1 t2 : Tok) (i : Int) (n2 : Nat)  (mean : ExcName → Option Value) (mg mb : Str → Option Value) (dp un : Nat) (gd : Option (List Code)) (cn : Str) (cs : Scope) (a : Addr) (ccd : Value) (cl : List (Str × Addr)) (outer : List Env) (A₀ : Around) (base h₀ : Heap) (L : Addr)
    (m : Str → Option Value) (rest : List (Addr × Obj)) (s : Shared) (Q E : Value → Shared → Prop) (B : Below A₀ base outer h₀) (F : Fr h₀ L s.heap m) (T : Top lawView (looseW lawView []) mean mg mb h₀) (hk : cs.kind = .function) (h1 : dp + 10 < recursionLimit) (h2 : un + 80 < cLine)
    (N : News h₀ L s.heap ((b, { cls := .type "tuple", data := .seq #[.str (str kOP) t1, (.str (str l) tv), .int i t2] n2 }) :: rest))
    (hret : ∀ t h' tk', Fr h₀ L h' m → News h₀ L h' rest → Q (.str (str (showP (.op l))) t) { s with heap := h', toks := tk' }) :
    (hd.heap_1 w.params).In h₀ → wpAny (model PySem.Challenge.rw_no0240_01.row.prog w) (ktrTop dp un gd cn cs L a ccd cl outer) (call (.ref 153) [.ref b]) Q E s := by
  rw [← OP_is] at N
  k_fill
  intro X
  refine wpAny_call ?_
  k_dflt (refine' code_def (binds := [(Str.ofString "token", .ref b)]) ?k1 ?k2 ?k3 ?k4 ?k5 ?kA ?kF ?kK ?k6 ?k7 ?k8 ?k9 ?kB ?_ ?c2 ?c3 ?c4 ?c5; (case kA => exact rfl); (case kF => exact rfl); (case kK => assumption); (case k1 => k_asm); (case k2 => k_asm); (case k3 => k_asm); (case k4 => k_asm); (case k5 => k_asm); (case k6 => k_is); (case k7 => k_is); (case k8 => ktr_room); (case k9 => exact BindsTo.of_eq rfl); (case c5 => decide); (case kB => exact locs rfl); (case c2 => exact rfl); (case c3 => exact rfl); (case c4 => exact rfl))
  intro g' L' h' FG' F' N' B' X' T'
  (try k_fold)
  k_with_none
  k_steps
  rename Fr h₀ _ _ _ => kF9
  rename News h₀ _ _ _ => kN9
  exact hret _ _ _ kF9 (news_tail kN9)
theorem show_token_int (w : World) (k : Nat) (tv : Tok) (b : Addr) (t1 t2 : Tok) (i : Int) (n2 : Nat) (hk9 : k < 10 ^ 9) (mean : ExcName → Option Value) (mg mb : Str → Option Value) (dp un : Nat) (gd : Option (List Code)) (cn : Str) (cs : Scope) (a : Addr) (ccd : Value) (cl : List (Str × Addr)) (outer : List Env) (A₀ : Around) (base h₀ : Heap) (L : Addr)
    (m : Str → Option Value) (rest : List (Addr × Obj)) (s : Shared) (Q E : Value → Shared → Prop) (B : Below A₀ base outer h₀) (F : Fr h₀ L s.heap m) (T : Top lawView (looseW lawView []) mean mg mb h₀) (hk : cs.kind = .function) (h1 : dp + 10 < recursionLimit) (h2 : un + 80 < cLine)
    (N : News h₀ L s.heap ((b, { cls := .type "tuple", data := .seq #[.str (str kINT) t1, (.int (k : Int) tv), .int i t2] n2 }) :: rest))
    (hret : ∀ t h' tk', Fr h₀ L h' m → News h₀ L h' rest → Q (.str (str (showP (.int k))) t) { s with heap := h', toks := tk' }) :
    (hd.heap_1 w.params).In h₀ → wpAny (model PySem.Challenge.rw_no0240_01.row.prog w) (ktrTop dp un gd cn cs L a ccd cl outer) (call (.ref 153) [.ref b]) Q E s := by
  rw [← INT_is] at N
  k_fill
  intro X
  refine wpAny_call ?_
  k_dflt (refine' code_def (binds := [(Str.ofString "token", .ref b)]) ?k1 ?k2 ?k3 ?k4 ?k5 ?kA ?kF ?kK ?k6 ?k7 ?k8 ?k9 ?kB ?_ ?c2 ?c3 ?c4 ?c5; (case kA => exact rfl); (case kF => exact rfl); (case kK => assumption); (case k1 => k_asm); (case k2 => k_asm); (case k3 => k_asm); (case k4 => k_asm); (case k5 => k_asm); (case k6 => k_is); (case k7 => k_is); (case k8 => ktr_room); (case k9 => exact BindsTo.of_eq rfl); (case c5 => decide); (case kB => exact locs rfl); (case c2 => exact rfl); (case c3 => exact rfl); (case c4 => exact rfl))
  intro g' L' h' FG' F' N' B' X' T'
  (try k_fold)
  k_with_none
  k_steps
  rename Fr h₀ _ _ _ => kF9
  rename News h₀ _ _ _ => kN9
  rw [natText_is]
  exact hret _ _ _ kF9 (news_tail kN9)
theorem show_token_char (w : World) (j : Nat) (tv : Tok) (b : Addr) (t1 t2 : Tok) (i : Int) (n2 : Nat) (hj : j < 8) (mean : ExcName → Option Value) (mg mb : Str → Option Value) (dp un : Nat) (gd : Option (List Code)) (cn : Str) (cs : Scope) (a : Addr) (ccd : Value) (cl : List (Str × Addr)) (outer : List Env) (A₀ : Around) (base h₀ : Heap) (L : Addr)
    (m : Str → Option Value) (rest : List (Addr × Obj)) (s : Shared) (Q E : Value → Shared → Prop) (B : Below A₀ base outer h₀) (F : Fr h₀ L s.heap m) (T : Top lawView (looseW lawView []) mean mg mb h₀) (hk : cs.kind = .function) (h1 : dp + 10 < recursionLimit) (h2 : un + 80 < cLine)
    (N : News h₀ L s.heap ((b, { cls := .type "tuple", data := .seq #[.str (str kCHAR) t1, (.str (str (textL j)) tv), .int i t2] n2 }) :: rest))
    (hret : ∀ t h' tk', Fr h₀ L h' m → News h₀ L h' rest → Q (.str (str (showP (.char (textL j)))) t) { s with heap := h', toks := tk' }) :
    (hd.heap_1 w.params).In h₀ → wpAny (model PySem.Challenge.rw_no0240_01.row.prog w) (ktrTop dp un gd cn cs L a ccd cl outer) (call (.ref 153) [.ref b]) Q E s := by
  rw [← CHAR_is] at N
  k_fill
  intro X
  refine wpAny_call ?_
  k_dflt (refine' code_def (binds := [(Str.ofString "token", .ref b)]) ?k1 ?k2 ?k3 ?k4 ?k5 ?kA ?kF ?kK ?k6 ?k7 ?k8 ?k9 ?kB ?_ ?c2 ?c3 ?c4 ?c5; (case kA => exact rfl); (case kF => exact rfl); (case kK => assumption); (case k1 => k_asm); (case k2 => k_asm); (case k3 => k_asm); (case k4 => k_asm); (case k5 => k_asm); (case k6 => k_is); (case k7 => k_is); (case k8 => ktr_room); (case k9 => exact BindsTo.of_eq rfl); (case c5 => decide); (case kB => exact locs rfl); (case c2 => exact rfl); (case c3 => exact rfl); (case c4 => exact rfl))
  intro g' L' h' FG' F' N' B' X' T'
  (try k_fold)
  k_with_none
  k_with "call ref cons nil" => ((k_dflt (refine' Gives.useS (show_text_gives w j _ hj) ?k1 ?k2 ?k3 ?k4 ?k5 ?k6 ?k7 ?k8 ?_; (case k1 => k_asm); (case k2 => k_asm); (case k3 => k_asm); (case k4 => k_asm); (case k5 => k_asm); (case k6 => exact rfl); (case k7 => ktr_room); (case k8 => ktr_units))); (intro kt kh ktk kF kN); (try k_fold))
  k_steps
  rename Fr h₀ _ _ _ => kF9
  rename News h₀ _ _ _ => kN9
  exact hret _ _ _ kF9 (news_tail kN9)
theorem show_token_log (w : World) (bb : Bool) (b : Addr) (t1 t2 : Tok) (i : Int) (n2 : Nat)  (mean : ExcName → Option Value) (mg mb : Str → Option Value) (dp un : Nat) (gd : Option (List Code)) (cn : Str) (cs : Scope) (a : Addr) (ccd : Value) (cl : List (Str × Addr)) (outer : List Env) (A₀ : Around) (base h₀ : Heap) (L : Addr)
    (m : Str → Option Value) (rest : List (Addr × Obj)) (s : Shared) (Q E : Value → Shared → Prop) (B : Below A₀ base outer h₀) (F : Fr h₀ L s.heap m) (T : Top lawView (looseW lawView []) mean mg mb h₀) (hk : cs.kind = .function) (h1 : dp + 10 < recursionLimit) (h2 : un + 80 < cLine)
    (N : News h₀ L s.heap ((b, { cls := .type "tuple", data := .seq #[.str (str kLOG) t1, (.bool bb), .int i t2] n2 }) :: rest))
    (hret : ∀ t h' tk', Fr h₀ L h' m → News h₀ L h' rest → Q (.str (str (showP (.log bb))) t) { s with heap := h', toks := tk' }) :
    (hd.heap_1 w.params).In h₀ → wpAny (model PySem.Challenge.rw_no0240_01.row.prog w) (ktrTop dp un gd cn cs L a ccd cl outer) (call (.ref 153) [.ref b]) Q E s := by
  rw [← LOG_is] at N
  k_fill
  intro X
  refine wpAny_call ?_
  k_dflt (refine' code_def (binds := [(Str.ofString "token", .ref b)]) ?k1 ?k2 ?k3 ?k4 ?k5 ?kA ?kF ?kK ?k6 ?k7 ?k8 ?k9 ?kB ?_ ?c2 ?c3 ?c4 ?c5; (case kA => exact rfl); (case kF => exact rfl); (case kK => assumption); (case k1 => k_asm); (case k2 => k_asm); (case k3 => k_asm); (case k4 => k_asm); (case k5 => k_asm); (case k6 => k_is); (case k7 => k_is); (case k8 => ktr_room); (case k9 => exact BindsTo.of_eq rfl); (case c5 => decide); (case kB => exact locs rfl); (case c2 => exact rfl); (case c3 => exact rfl); (case c4 => exact rfl))
  intro g' L' h' FG' F' N' B' X' T'
  (try k_fold)
  k_with_none
  k_steps
  all_goals (
    rename Fr h₀ _ _ _ => kF9
    rename News h₀ _ _ _ => kN9)
  · have c1 : bb = true := by assumption
    subst c1
    rw [truL_1]
    exact hret _ _ _ kF9 (news_tail kN9)
  · have c1 : bb = false := by assumption
    subst c1
    rw [truL_0]
    exact hret _ _ _ kF9 (news_tail kN9)
theorem show_token_real (w : World) (q : Nat × Int) (p : Addr) (u1 u2 : Tok) (n3 : Nat) (b : Addr) (t1 t2 : Tok) (i : Int) (n2 : Nat) (hm : q.1 < 10 ^ 17) (he : -100 ≤ q.2) (he2 : q.2 ≤ 100) (mean : ExcName → Option Value) (mg mb : Str → Option Value) (dp un : Nat) (gd : Option (List Code)) (cn : Str) (cs : Scope) (a : Addr) (ccd : Value) (cl : List (Str × Addr)) (outer : List Env) (A₀ : Around) (base h₀ : Heap) (L : Addr)
    (m : Str → Option Value) (rest : List (Addr × Obj)) (s : Shared) (Q E : Value → Shared → Prop) (B : Below A₀ base outer h₀) (F : Fr h₀ L s.heap m) (T : Top lawView (looseW lawView []) mean mg mb h₀) (hk : cs.kind = .function) (h1 : dp + 10 < recursionLimit) (h2 : un + 80 < cLine)
    (N : News h₀ L s.heap ((b, { cls := .type "tuple", data := .seq #[.str (str kREAL) t1, (.ref p), .int i t2] n2 }) :: (p, { cls := .type "tuple", data := .seq #[.int q.1 u1, .int q.2 u2] n3 }) :: rest))
    (hret : ∀ t h' tk', Fr h₀ L h' m → News h₀ L h' rest → Q (.str (str (showP (.real q))) t) { s with heap := h', toks := tk' }) :
    (hd.heap_1 w.params).In h₀ → wpAny (model PySem.Challenge.rw_no0240_01.row.prog w) (ktrTop dp un gd cn cs L a ccd cl outer) (call (.ref 153) [.ref b]) Q E s := by
  rw [← REAL_is] at N
  k_fill
  intro X
  refine wpAny_call ?_
  k_dflt (refine' code_def (binds := [(Str.ofString "token", .ref b)]) ?k1 ?k2 ?k3 ?k4 ?k5 ?kA ?kF ?kK ?k6 ?k7 ?k8 ?k9 ?kB ?_ ?c2 ?c3 ?c4 ?c5; (case kA => exact rfl); (case kF => exact rfl); (case kK => assumption); (case k1 => k_asm); (case k2 => k_asm); (case k3 => k_asm); (case k4 => k_asm); (case k5 => k_asm); (case k6 => k_is); (case k7 => k_is); (case k8 => ktr_room); (case k9 => exact BindsTo.of_eq rfl); (case c5 => decide); (case kB => exact locs rfl); (case c2 => exact rfl); (case c3 => exact rfl); (case c4 => exact rfl))
  intro g' L' h' FG' F' N' B' X' T'
  (try k_fold)
  k_with_none
  k_with "call ref cons nil" => ((rw [E_is]); ((k_dflt (refine' show_pair_does w p 69 q _ u1 u2 n3 _ _ _ _ _ _ _ _ _ _ _ _ _ _ _ _ _ _ _ _ _ ?k1 ?k2 ?k5 ?k6 ?k7 ?k8 ?k4 hm he he2 ?kr ?k3; (case k1 => k_asm); (case k2 => k_asm); (case k3 => k_asm); (case k4 => first | k_asm | exact news_swap (by k_asm)); (case k5 => k_asm); (case k6 => exact rfl); (case k7 => ktr_room); (case k8 => ktr_units))); (intro kt kh ktk kF kN); (try k_fold)))
  k_steps
  rename Fr h₀ _ _ _ => kF9
  rename News h₀ _ _ _ => kN9
  exact hret _ _ _ kF9 (news_tail kN9)
theorem show_token_dble (w : World) (q : Nat × Int) (p : Addr) (u1 u2 : Tok) (n3 : Nat) (b : Addr) (t1 t2 : Tok) (i : Int) (n2 : Nat) (hm : q.1 < 10 ^ 17) (he : -100 ≤ q.2) (he2 : q.2 ≤ 100) (mean : ExcName → Option Value) (mg mb : Str → Option Value) (dp un : Nat) (gd : Option (List Code)) (cn : Str) (cs : Scope) (a : Addr) (ccd : Value) (cl : List (Str × Addr)) (outer : List Env) (A₀ : Around) (base h₀ : Heap) (L : Addr)
    (m : Str → Option Value) (rest : List (Addr × Obj)) (s : Shared) (Q E : Value → Shared → Prop) (B : Below A₀ base outer h₀) (F : Fr h₀ L s.heap m) (T : Top lawView (looseW lawView []) mean mg mb h₀) (hk : cs.kind = .function) (h1 : dp + 10 < recursionLimit) (h2 : un + 80 < cLine)
    (N : News h₀ L s.heap ((b, { cls := .type "tuple", data := .seq #[.str (str kDBLE) t1, (.ref p), .int i t2] n2 }) :: (p, { cls := .type "tuple", data := .seq #[.int q.1 u1, .int q.2 u2] n3 }) :: rest))
    (hret : ∀ t h' tk', Fr h₀ L h' m → News h₀ L h' rest → Q (.str (str (showP (.dble q))) t) { s with heap := h', toks := tk' }) :
    (hd.heap_1 w.params).In h₀ → wpAny (model PySem.Challenge.rw_no0240_01.row.prog w) (ktrTop dp un gd cn cs L a ccd cl outer) (call (.ref 153) [.ref b]) Q E s := by
  rw [← DBLE_is] at N
  k_fill
  intro X
  refine wpAny_call ?_
  k_dflt (refine' code_def (binds := [(Str.ofString "token", .ref b)]) ?k1 ?k2 ?k3 ?k4 ?k5 ?kA ?kF ?kK ?k6 ?k7 ?k8 ?k9 ?kB ?_ ?c2 ?c3 ?c4 ?c5; (case kA => exact rfl); (case kF => exact rfl); (case kK => assumption); (case k1 => k_asm); (case k2 => k_asm); (case k3 => k_asm); (case k4 => k_asm); (case k5 => k_asm); (case k6 => k_is); (case k7 => k_is); (case k8 => ktr_room); (case k9 => exact BindsTo.of_eq rfl); (case c5 => decide); (case kB => exact locs rfl); (case c2 => exact rfl); (case c3 => exact rfl); (case c4 => exact rfl))
  intro g' L' h' FG' F' N' B' X' T'
  (try k_fold)
  k_with_none
  k_with "call ref cons nil" => ((rw [D_is]); ((k_dflt (refine' show_pair_does w p 68 q _ u1 u2 n3 _ _ _ _ _ _ _ _ _ _ _ _ _ _ _ _ _ _ _ _ _ ?k1 ?k2 ?k5 ?k6 ?k7 ?k8 ?k4 hm he he2 ?kr ?k3; (case k1 => k_asm); (case k2 => k_asm); (case k3 => k_asm); (case k4 => first | k_asm | exact news_swap (by k_asm)); (case k5 => k_asm); (case k6 => exact rfl); (case k7 => ktr_room); (case k8 => ktr_units))); (intro kt kh ktk kF kN); (try k_fold)))
  k_steps
  rename Fr h₀ _ _ _ => kF9
  rename News h₀ _ _ _ => kN9
  exact hret _ _ _ kF9 (news_tail kN9)
end Mine
namespace Mine
open PySem PySem.W PyProof.Rows PySem.NumText
set_option maxRecDepth 100000
set_option maxHeartbeats 8000000
/-- a token in the ledger -/
noncomputable def TokAt (X : List (Addr × Obj)) (v : Value) (pc : Pc) : Prop := ∃ b t1 t2 i k v', v = .ref b ∧ (b, ({ cls := .type "tuple", data := .seq #[.str (str pc.kind) t1, v', .int i t2] k } : Obj)) ∈ X ∧ DatIn X v' pc.val
theorem TokAt.mono {X X' : List (Addr × Obj)} {v : Value} {pc : Pc} (h : TokAt X v pc) (hs : ∀ p ∈ X, p ∈ X') : TokAt X' v pc := by
  obtain ⟨b, t1, t2, i, k, v', e, hm, hd⟩ := h
  exact ⟨b, t1, t2, i, k, v', e, hs _ hm, hd.mono hs⟩
/-- a token's datum -/
noncomputable def pcD (pc : Pc) (i : Nat) : Dat := .tuple [.str (str pc.kind), pc.val, .int i]
theorem tokAt_of {X : List (Addr × Obj)} {v : Value} {pc : Pc} {i : Nat} (h : DatIn X v (pcD pc i)) : TokAt X v pc := by
  unfold pcD at h
  cases h with
  | tuple hm hA =>
    cases hA with | cons d1 hA => cases hA with | cons d2 hA => cases hA with | cons d3 hA =>
    cases hA; cases d1; cases d3
    exact ⟨_, _, _, _, _, _, rfl, hm, d2⟩
theorem show_token_does (w : World) (pc : Pc) (hok : PcOk pc) (v : Value) (mean : ExcName → Option Value) (mg mb : Str → Option Value) (dp un : Nat) (gd : Option (List Code)) (cn : Str) (cs : Scope) (a : Addr) (ccd : Value) (cl : List (Str × Addr)) (outer : List Env) (A₀ : Around) (base h₀ : Heap) (L : Addr)
    (m : Str → Option Value) (rest : List (Addr × Obj)) (s : Shared) (Q E : Value → Shared → Prop) (B : Below A₀ base outer h₀) (F : Fr h₀ L s.heap m) (T : Top lawView (looseW lawView []) mean mg mb h₀) (hk : cs.kind = .function) (h1 : dp + 10 < recursionLimit) (h2 : un + 80 < cLine) (N : News h₀ L s.heap rest) (hv : TokAt rest v pc)
    (hret : ∀ t h' tk', Fr h₀ L h' m → News h₀ L h' rest → Q (.str (str (showP pc)) t) { s with heap := h', toks := tk' })
    (X : (hd.heap_1 w.params).In h₀) : wpAny (model PySem.Challenge.rw_no0240_01.row.prog w) (ktrTop dp un gd cn cs L a ccd cl outer) (call (.ref 153) [v]) Q E s := by
  obtain ⟨b, t1, t2, i, k, v', rfl, hm, hD⟩ := hv
  have N1 : News h₀ L s.heap ((b, { cls := .type "tuple", data := .seq #[.str (str pc.kind) t1, v', .int i t2] k }) :: rest) := fun p hp => (List.mem_cons.mp hp).elim (fun e => N p (e ▸ hm)) (N p)
  cases pc with
  | name l => cases hD; exact show_token_name w l _ b t1 t2 i k mean mg mb dp un gd cn cs a ccd cl outer A₀ base h₀ L m rest s Q E B F T hk h1 h2 N1 hret X
  | op l => cases hD; exact show_token_op w l _ b t1 t2 i k mean mg mb dp un gd cn cs a ccd cl outer A₀ base h₀ L m rest s Q E B F T hk h1 h2 N1 hret X
  | int n => cases hD; exact show_token_int w n _ b t1 t2 i k hok mean mg mb dp un gd cn cs a ccd cl outer A₀ base h₀ L m rest s Q E B F T hk h1 h2 N1 hret X
  | char l =>
    obtain ⟨j, hj, rfl⟩ := hok
    cases hD
    exact show_token_char w j _ b t1 t2 i k hj mean mg mb dp un gd cn cs a ccd cl outer A₀ base h₀ L m rest s Q E B F T hk h1 h2 N1 hret X
  | log bb => cases hD; exact show_token_log w bb b t1 t2 i k mean mg mb dp un gd cn cs a ccd cl outer A₀ base h₀ L m rest s Q E B F T hk h1 h2 N1 hret X
  | real q =>
    unfold Pc.val pairD at hD
    cases hD with
    | tuple hm2 hA =>
      cases hA with | cons d1 hA => cases hA with | cons d2 hA =>
      cases hA; cases d1; cases d2
      exact show_token_real w q _ _ _ _ b t1 t2 i k hok.1 hok.2.1 hok.2.2 mean mg mb dp un gd cn cs a ccd cl outer A₀ base h₀ L m rest s Q E B F T hk h1 h2 (fun p hp => by
        rcases List.mem_cons.mp hp with rfl | hp
        · exact N1 _ (.head _)
        · rcases List.mem_cons.mp hp with rfl | hp
          · exact N _ hm2
          · exact N _ hp) hret X
  | dble q =>
    unfold Pc.val pairD at hD
    cases hD with
    | tuple hm2 hA =>
      cases hA with | cons d1 hA => cases hA with | cons d2 hA =>
      cases hA; cases d1; cases d2
      exact show_token_dble w q _ _ _ _ b t1 t2 i k hok.1 hok.2.1 hok.2.2 mean mg mb dp un gd cn cs a ccd cl outer A₀ base h₀ L m rest s Q E B F T hk h1 h2 (fun p hp => by
        rcases List.mem_cons.mp hp with rfl | hp
        · exact N1 _ (.head _)
        · rcases List.mem_cons.mp hp with rfl | hp
          · exact N _ hm2
          · exact N _ hp) hret X
open LCg in
theorem rest_texts {prog : Program} {w : World} {A : Around} {h₀ : Heap} {L : Addr} {m : Str → Option Value} {env : Env} {elt : Expr} {x : Str} {scope : Scope} {cl : List (Str × Addr)} {s : Shared} {S : List (Addr × Obj) → Prop} {Fin : List Value → List (Addr × Obj) → Prop} {news : List (Addr × Obj)}
    {us : List Value} {ls : List (List Nat)} (hlen : us.length = ls.length)
    (turn : ∀ i v l I oI C oC D m₂ ys h tk (E' : Value → Shared → Prop), us[i]? = some v → ls[i]? = some l → NsObj oC m₂ → m₂ x = some v → Fr h₀ L h m → News h₀ L h ((I, oI) :: (C, oC) :: (D, lst ys) :: news) → Off3 I C D news → ((@Ne Nat I C) ∧ (@Ne Nat I D) ∧ (@Ne Nat C D)) → ys.length = i →
      wpAny (model prog w) A (eval elt (compEnvC scope cl C env)) (CompEnd h₀ L m { s with heap := h, toks := tk } I oI C oC D (lst ys) S (fun y news' => news' = news ∧ ∃ t : Tok, y = .str (str l) t)) E' { s with heap := h, toks := tk })
    (fin : ∀ ys, StrsAre ys (ls.map str) → Fin ys news) : CompRest prog w A h₀ L m env elt x scope cl s S (fun i v => us.toArray[i]? = some v) Fin us.toArray.size 0 [] news := by
  have key : ∀ (j i : Nat) (ys : List Value), i + j = us.length → ys.length = i → StrsAre ys ((ls.take i).map str) → CompRest prog w A h₀ L m env elt x scope cl s S (fun i v => us.toArray[i]? = some v) Fin j i ys news := by
    intro j
    induction j with
    | zero =>
      intro i ys hi _ hy
      rw [List.take_of_length_le (by omega)] at hy
      exact CompRest.zero (fin ys hy)
    | succ j ih =>
      intro i ys hi hl hy
      refine CompRest.succ ?_
      intro v I oI C oC D m₂ h tk E' hv hC hx F N off ne
      have hv' : us[i]? = some v := by simpa using hv
      have hi' : i < ls.length := by omega
      refine wpAny_mono (turn i v ls[i] I oI C oC D m₂ ys h tk E' hv' (List.getElem?_eq_getElem hi') hC hx F N off ne hl) (fun y s₂ hq => ?_) fun _ _ e => e
      obtain ⟨h', tk', nw, e, F', N', off', hS, hn, t', hy'⟩ := hq
      rw [hn] at N' off' hS
      refine ⟨h', tk', news, e, F', N', off', hS, ?_⟩
      rw [hy']
      refine ih (i + 1) _ (by omega) (by rw [List.length_append, hl]; rfl) ?_
      rw [List.take_add_one, List.getElem?_eq_getElem hi', List.map_append]
      exact kct_snoc (t := t') hy
  rw [List.size_toArray]
  exact key us.length 0 [] (by omega) rfl (by simp only [List.take_zero, List.map_nil]; exact .nil)
theorem srcAt_hd {h₀ : Heap} {a : Addr} {its : Array Value} {n : Nat} {rest : List (Addr × Obj)} : LCg.SrcAt h₀ a its ((a, PySem.W.listOf its n) :: rest) := Or.inr ⟨_, List.mem_cons_self .., rfl, _, rfl⟩
theorem show_sum (pcs : List Pc) : ((((pcs.map showP).map str)).map Str.length).sum = ((pcs.map showP).map List.length).sum := by
  rw [List.map_map]
  exact congrArg List.sum (List.map_congr_left fun l _ => Mine.len_str l)
theorem join_empty : ∀ ls : List (List Nat), Str.join (str []) (ls.map str) = str ls.flatten
  | [] => rfl
  | [l] => by simp [Str.join]
  | l :: l2 :: r => by
    have ih := join_empty (l2 :: r)
    show str l ++ str [] ++ Str.join (str []) ((l2 :: r).map str) = _
    rw [ih, str_cat, str_cat]
    simp
theorem txt_join (ls : List (List Nat)) : Txt.join (Str.ofString "") (ls.map str) = str ls.flatten := by
  rw [Txt.join, StrLaws.glued_eq_join, empty_is, join_empty]
end Mine
namespace Mine
open PySem PySem.W PyProof.Rows PySem.NumText
set_option maxRecDepth 100000
set_option maxHeartbeats 8000000
set_option maxHeartbeats 32000000 in
theorem show_tokens_does (w : World) (ls : Addr) (us : List Value) (n : Nat) (pcs : List Pc) (mean : ExcName → Option Value) (mg mb : Str → Option Value) (dp un : Nat) (gd : Option (List Code)) (cn : Str) (cs : Scope) (a : Addr) (ccd : Value) (cl : List (Str × Addr)) (outer : List Env) (A₀ : Around) (base h₀ : Heap) (L : Addr)
    (m : Str → Option Value) (rest : List (Addr × Obj)) (s : Shared) (Q E : Value → Shared → Prop) (B : Below A₀ base outer h₀) (F : Fr h₀ L s.heap m) (T : Top lawView (looseW lawView []) mean mg mb h₀) (hk : cs.kind = .function) (h1 : dp + 16 < recursionLimit) (h2 : un + 160 < cLine)
    (N : News h₀ L s.heap ((ls, PySem.W.listOf us.toArray n) :: rest)) (hlen : us.length = pcs.length) (hl : us.length ≤ 100) (hv : ∀ (i : Nat) (v : Value) (pc : Pc), us[i]? = some v → pcs[i]? = some pc → TokAt rest v pc) (hok : ∀ pc ∈ pcs, PcOk pc) (hz : ((pcs.map showP).map List.length).sum ≤ 10000)
    (hret : ∀ t h' tk', Fr h₀ L h' m → News h₀ L h' ((ls, PySem.W.listOf us.toArray n) :: rest) → Q (.str (str (pcs.map showP).flatten) t) { s with heap := h', toks := tk' }) :
    (hd.heap_1 w.params).In h₀ → wpAny (model PySem.Challenge.rw_no0240_01.row.prog w) (ktrTop dp un gd cn cs L a ccd cl outer) (call (.ref 158) [.ref ls]) Q E s := by
  k_fill
  intro X
  refine wpAny_call ?_
  k_dflt (refine' code_def (binds := [(Str.ofString "tokens", .ref ls)]) ?k1 ?k2 ?k3 ?k4 ?k5 ?kA ?kF ?kK ?k6 ?k7 ?k8 ?k9 ?kB ?_ ?c2 ?c3 ?c4 ?c5; (case kA => exact rfl); (case kF => exact rfl); (case kK => assumption); (case k1 => k_asm); (case k2 => k_asm); (case k3 => k_asm); (case k4 => k_asm); (case k5 => k_asm); (case k6 => k_is); (case k7 => k_is); (case k8 => ktr_room); (case k9 => exact BindsTo.of_eq rfl); (case c5 => decide); (case kB => exact locs rfl); (case c2 => exact rfl); (case c3 => exact rfl); (case c4 => exact rfl))
  intro g' L' h' FG' F' N' B' X' T'
  (try k_fold)
  k_with_none
  k_with "eval ListComp" => ((k_dflt (refine LCg.ListComp_U (F₀ := by k_asm) (by rfl) (by decide) (by rfl) (by decide) (by rfl) ?_)); (k_dflt lcg_toSrc))
  k_with "CompSrc" => (
    (rename Fr _ _ _ _ => kF)
    (rename News _ _ _ _ => kN)
    (refine LCg.CompSrc.ledger (by rfl) kF kN (List.mem_cons_self ..) (by rw [List.size_toArray, show sizeLine = 16777216 from rfl]; omega) ?_)
    (intro g9)
    (refine rest_texts (ls := pcs.map showP) (by rw [List.length_map]; exact hlen) ?turn ?fin)
    (case' turn => ((intro i9 v9 l9 I9 oI9 C9 oC9 D9 m9 ys9 h9 tk9 E9 hvi hli hC9 hx9 F9 N9 off9 ne9 hys9); (obtain ⟨pc, hpc, rfl⟩ : ∃ pc, pcs[i9]? = some pc ∧ showP pc = l9 := (by simpa using hli)); (try k_fold)))
    (case' fin => ((intro ys9 hys9); (try k_fold))))
  k_with "call ref" => ((k_dflt (refine' show_token_does w pc (hok pc (List.mem_of_getElem? hpc)) v9 _ _ _ _ _ _ _ _ _ _ _ _ _ _ _ _ _ _ _ _ _ ?k1 ?k2 ?k5 ?k6 ?k7 ?k8 ?k4 ?kv ?kr ?k3; (case k1 => k_asm); (case k2 => exact F9); (case k3 => k_asm); (case k4 => exact N9); (case k5 => k_asm); (case k6 => exact rfl); (case k7 => ktr_room); (case k8 => ktr_units); (case kv => exact (hv i9 v9 pc hvi hpc).mono fun p hp => List.mem_cons_of_mem _ (List.mem_cons_of_mem _ (List.mem_cons_of_mem _ (List.mem_cons_of_mem _ hp)))))); (intro kt kh ktk kF kN); (try k_fold))
  k_with "CompEnd" => ((refine LCg.CompEnd.intro kF kN ((ls, PySem.W.listOf us.toArray n) :: rest) (fun p hp => hp) off9 srcAt_hd ⟨rfl, kt, rfl⟩))
  k_with "call builtin:str.join" => ((rename Fr _ _ _ _ => kF); (rename News _ _ _ _ => kN); (refine PyProof.Rows.join_list (PySem.IsL.isList (kN.get (List.mem_cons_self ..))) (ys := (pcs.map showP).map str) hys9 ?hok9 ?_); (case hok9 => (rw [empty_is, Mine.len_str, show_sum, List.length_nil, Nat.mul_zero, Nat.add_zero]; omega)); (intro jt jk); (rw [txt_join]); (try k_fold))
  k_steps
  rename Fr h₀ _ _ _ => kF9
  rename News h₀ _ _ _ => kN9
  exact hret _ _ _ kF9 (news_tail kN9)
end Mine
namespace Mine
open PySem PySem.W PyProof.Rows PySem.NumText
set_option maxRecDepth 100000
theorem drop_app {l a r : List Nat} {n : Nat} (h : l.drop n = a ++ r) : l.drop (n + a.length) = r := by
  rw [← List.drop_drop, h, List.drop_left]
theorem drop_one {l r : List Nat} {n c : Nat} (h : l.drop n = c :: r) : l.drop (n + 1) = r := drop_app (a := [c]) h
theorem get_hd {l r : List Nat} {n c : Nat} (h : l.drop n = c :: r) : l[n]? = some c := by
  have := List.getElem?_drop (xs := l) (i := n) (j := 0)
  rw [h] at this
  simpa using this.symm
theorem get_end {l : List Nat} {n : Nat} (h : l.drop n = []) : l[n]? = none := List.getElem?_eq_none (List.drop_eq_nil_iff.mp h)
/-- what follows begins with no sign of p -/
noncomputable def Stop (p r : List Nat) : Prop := ∀ c r', r = c :: r' → c ∉ p
theorem run_all {p r : List Nat} (hr : Stop p r) : ∀ a : List Nat, (∀ c ∈ a, c ∈ p) → (a ++ r).takeWhile p.contains = a
  | [], _ => by
    cases r with
    | nil => rfl
    | cons c r' => exact List.takeWhile_cons_of_neg (by simpa using hr c r' rfl)
  | c :: a, h => by
    rw [List.cons_append, List.takeWhile_cons_of_pos (by simpa using h c (.head _)), run_all hr a fun d hd => h d (.tail _ hd)]
theorem runAt_app {l a r p : List Nat} {n : Nat} (h : l.drop n = a ++ r) (ha : ∀ c ∈ a, c ∈ p) (hr : Stop p r) : runAt l n p = n + a.length := by
  rw [runAt, h, run_all hr a ha]
theorem cut_app {l a r : List Nat} {n : Nat} (h : l.drop n = a ++ r) : cut l n (n + a.length) = a := by
  rw [cut, h, Nat.add_sub_cancel_left, List.take_left]
/-- what may stand behind an operand -/
inductive SepO : List Nat → Prop
  | nil : SepO []
  | sign (c : Nat) (r : List Nat) : c ∈ signs9 → SepO (c :: r)
  | word (d r : List Nat) : d ∈ dotteds → SepO (d ++ r)
/-- what may stand behind a mark -/
noncomputable def SepM (r : List Nat) : Prop := ∀ c r', r = c :: r' → c ≠ 42 ∧ c ≠ 47
theorem words_form : ∀ d ∈ dotteds ++ truths, d = 46 :: ((d.drop 1).dropLast ++ [46]) ∧ (∀ c ∈ (d.drop 1).dropLast, c ∈ letters) ∧ 4 ≤ d.length ∧ 2 ≤ (d.drop 1).dropLast.length := by decide +kernel
theorem SepO.hd {r : List Nat} (h : SepO r) {c : Nat} {r' : List Nat} (e : r = c :: r') : c ∈ 46 :: signs9 := by
  cases h with
  | nil => cases e
  | sign d r hd => cases e; exact .tail _ hd
  | word d r hd =>
    have := (words_form d (List.mem_append_left _ hd)).1
    rw [this] at e
    cases e
    exact .head _
theorem SepO.stop {r p : List Nat} (h : SepO r) (hp : ∀ c ∈ 46 :: signs9, c ∉ p) : Stop p r := fun _ _ e => hp _ (h.hd e)
theorem sep_digs : ∀ c ∈ 46 :: signs9, c ∉ digs := by decide +kernel
theorem sep_alnum : ∀ c ∈ 46 :: signs9, c ∉ alnum := by decide +kernel
theorem sep_letters : ∀ c ∈ 46 :: signs9, c ∉ letters := by decide +kernel
theorem sep_quote : ∀ c ∈ 46 :: signs9, c ∉ [39] := by decide +kernel
theorem sep_ED : ∀ c ∈ 46 :: signs9, c ∉ [69, 68] := by decide +kernel
theorem dot_word {l w r : List Nat} {n : Nat} (hw : ∀ c ∈ w, c ∈ letters) (h : l.drop n = 46 :: (w ++ 46 :: r)) : wordAt l n = 46 :: (w ++ [46]) := by
  unfold wordAt
  rw [runAt_app (drop_one h) hw (fun c r' e => by cases e; decide)]
  have := cut_app (a := 46 :: (w ++ [46])) (r := r) (l := l) (n := n) (by rw [h]; simp)
  rw [← this]
  congr 1
  simp; omega
theorem dot_yes {l d r : List Nat} {n : Nat} (hd : d ∈ dotteds ++ truths) (h : l.drop n = d ++ r) : dottedAt l n = d := by
  obtain ⟨e, hw, _, _⟩ := words_form d hd
  have hW : wordAt l n = d := by
    rw [e]
    refine dot_word (r := r) hw ?_
    rw [h]
    conv => lhs; rw [e]
    simp
  unfold dottedAt
  rw [hW, if_pos (List.mem_append.mp hd)]
theorem dot_no {l : List Nat} {n : Nat} (h : runAt l (n + 1) letters ≤ n + 2) : dottedAt l n = [] := by
  unfold dottedAt
  rw [if_neg]
  intro hm
  have h1 := (words_form _ (List.mem_append.mpr hm)).2.2.1
  unfold wordAt at h1
  rw [cut_length] at h1
  omega
theorem digs_of {c : Nat} (h : 48 ≤ c ∧ c ≤ 57) : c ∈ digs := by
  simp [digs]; omega
theorem all_digs {a : List Nat} (h : AllDigits a) : ∀ c ∈ a, c ∈ digs := fun c hc => digs_of (h c hc)
theorem AllDigits.app {a b : List Nat} (h1 : AllDigits a) (h2 : AllDigits b) : AllDigits (a ++ b) := allDigits_app h1 h2
theorem digitsVal_app (a b : List Nat) : digitsVal (a ++ b) = b.foldl (fun acc c => acc * 10 + (c - 48)) (digitsVal a) := by unfold digitsVal; rw [List.foldl_append]
theorem val_zz (z n : Nat) : digitsVal (zzL z ++ natText n) = n := by
  have h : digitsVal (zzL z) = 0 := by
    unfold zzL
    match z with
    | 0 => rfl
    | 1 => rfl
    | _ + 2 => rfl
  rw [digitsVal_app, h]
  exact natText_val n
theorem val_z (z n : Nat) : digitsVal (zT z ++ natText n) = n := by
  have h : digitsVal (zT z) = 0 := by unfold zT; split <;> rfl
  rw [digitsVal_app, h]
  exact natText_val n
theorem z_digits (z : Nat) : AllDigits (zT z) := by
  unfold zT
  split
  · exact fun c hc => nomatch hc
  · exact allDigits_zero
theorem zz_digits (z : Nat) : AllDigits (zzL z) := by
  unfold zzL
  match z with
  | 0 => exact fun c hc => nomatch hc
  | 1 => intro c hc; simp at hc; omega
  | _ + 2 => intro c hc; simp at hc
/-- the exponent -/
theorem power_none {l r : List Nat} {n : Nat} (h : l.drop n = r) (hr : SepO r) : powerAt l n = ([], 0, n) := by
  unfold powerAt
  cases r with
  | nil => rw [get_end h]
  | cons c r' => rw [get_hd h]; simp only; rw [if_neg (sep_ED c (hr.hd rfl))]
theorem power_some {l r : List Nat} {n c k sg z : Nat} (hc : c ∈ [69, 68]) (hsg : sg < 3) (h : l.drop n = expT c (some (k, sg, z)) ++ r) (hr : Stop digs r) :
    powerAt l n = ([c], expP (some (k, sg, z)), n + (expT c (some (k, sg, z))).length) := by
  have hA : AllDigits (zT z ++ natText k) := AllDigits.app (z_digits z) (natText_digits k)
  have hne : zT z ++ natText k ≠ [] := fun e => natText_ne k (List.append_eq_nil_iff.mp e).2
  have h0 : l.drop (n + 1) = sgT sg ++ ((zT z ++ natText k) ++ r) := by
    refine drop_one (c := c) ?_
    rw [h]; simp [expT]
  have h1 := drop_app h0
  have h2 := runAt_app h1 (all_digs hA) hr
  have hb : begunAt l n = n + 1 + (sgT sg).length := by
    unfold begunAt
    match sg, hsg with
    | 0, _ =>
      cases hd : zT z ++ natText k with
      | nil => exact absurd hd hne
      | cons d ds =>
        rw [hd] at h0
        rw [get_hd h0]
        have h4 := hA d (by rw [hd]; exact .head _)
        simp only
        rw [if_neg (by simp; omega)]
        rfl
    | 1, _ => rw [get_hd h0]; simp [sgT]
    | 2, _ => rw [get_hd h0]; simp [sgT]
  have hs : (l[n + 1]? = some 45) ↔ sg = 2 := by
    match sg, hsg with
    | 0, _ =>
      cases hd : zT z ++ natText k with
      | nil => exact absurd hd hne
      | cons d ds =>
        rw [hd] at h0
        rw [get_hd h0]
        have h4 := hA d (by rw [hd]; exact .head _)
        simp; omega
    | 1, _ => rw [get_hd h0]; simp
    | 2, _ => rw [get_hd h0]; simp
  have hh : l[n]? = some c := get_hd (r := sgT sg ++ ((zT z ++ natText k) ++ r)) (by rw [h]; simp [expT])
  unfold powerAt
  rw [hh]
  simp only
  rw [if_pos hc, hb, h2, if_neg (by
    have := List.length_pos_iff.mpr hne
    omega), cut_app h1, val_z]
  refine congrArg _ ?_
  rw [Prod.mk.injEq]
  constructor
  · unfold expP
    simp only [hs]
  · simp only [expT, List.length_cons, List.length_append]; omega
/-- a number with a point or an exponent -/
structure RealTx (c : Nat) (tx : List Nat) (q : Nat × Int) : Prop where
  ex : ∃ (wh fr : List Nat) (pt : Bool) (ex : Option (Nat × Nat × Nat)), AllDigits wh ∧ AllDigits fr ∧ wh ++ fr ≠ [] ∧ (fr ≠ [] → pt = true) ∧ (c = 68 → ex ≠ none) ∧ (pt = false → ex ≠ none) ∧
    (∀ k sg z, ex = some (k, sg, z) → sg < 3) ∧ tx = wh ++ ptT pt ++ fr ++ expT c ex ∧ q = toldP (digitsVal (wh ++ fr)) (expP ex - (fr.length : Int))
theorem RealOf.tx {c : Nat} {tx : List Nat} {q : Nat × Int} {must : Bool} (h : RealOf c must tx q) (hm : c = 68 → must = true) : RealTx c tx q := by
  obtain ⟨wh, fr, pt, ex, h1, h2, h3, h4, h5, h6, h7, h8, h9⟩ := h.ex
  exact ⟨wh, fr, pt, ex, h1.1, h2.1, h3, h4, fun e => h5 (hm e), h6, fun k sg z e => (h7 k sg z e).2.1, h8, h9⟩
theorem stop_exp {c : Nat} {ex : Option (Nat × Nat × Nat)} {r p : List Nat} (hc : c ∉ p) (hr : SepO r) (hp : ∀ c ∈ 46 :: signs9, c ∉ p) : Stop p (expT c ex ++ r) := by
  cases ex with
  | none => exact hr.stop hp
  | some q => intro d r' e; simp [expT] at e; rw [← e.1]; exact hc
theorem ED_digs {c : Nat} (h : c ∈ [69, 68]) : c ∉ digs := by
  simp at h
  rcases h with rfl | rfl <;> decide
theorem num_real {l r tx : List Nat} {n c : Nat} {q : Nat × Int} (hc : c ∈ [69, 68]) (hT : RealTx c tx q) (hr : SepO r) (h : l.drop n = tx ++ r) :
    numberAt l n = (if c = 68 then kDBLE else kREAL, pairD q, n + tx.length) := by
  obtain ⟨wh, fr, pt, ex, h1, h2, h3, h4, h5, h6, h7, rfl, rfl⟩ := hT.ex
  have hsd : Stop digs (expT c ex ++ r) := stop_exp (ED_digs hc) hr sep_digs
  have ha : l.drop n = wh ++ (ptT pt ++ (fr ++ (expT c ex ++ r))) := by rw [h]; simp
  have hb := drop_app ha
  have hE : runAt l n digs = n + wh.length := by
    refine runAt_app ha (all_digs h1) ?_
    cases pt with
    | true => intro d r' e; simp [ptT] at e; rw [← e.1]; decide
    | false =>
      have : fr = [] := Classical.byContradiction fun z => Bool.noConfusion (h4 z)
      subst this
      exact hsd
  -- the point
  have key : hasPoint l (n + wh.length) = pt ∧ numEnd l (n + wh.length) = n + wh.length + (ptT pt).length + fr.length ∧ fracAt l (n + wh.length) = fr := by
    cases pt with
    | true =>
      have h46 : l.drop (n + wh.length) = 46 :: (fr ++ (expT c ex ++ r)) := hb
      have hP : hasPoint l (n + wh.length) = true := by
        unfold hasPoint
        rw [get_hd h46, dot_no]
        · simp
        · cases fr with
          | cons d ds =>
            have hd1 : runAt l (n + wh.length + 1) letters = n + wh.length + 1 + ([] : List Nat).length := by
              refine runAt_app (a := []) (drop_one h46) (fun c hc => nomatch hc) ?_
              intro e r' he
              cases he
              exact num_letters (h2 d (.head _))
            rw [hd1]; simp
          | nil =>
            cases hex : ex with
            | none =>
              rw [hex] at h46
              have hd1 : runAt l (n + wh.length + 1) letters = n + wh.length + 1 + ([] : List Nat).length := runAt_app (a := []) (drop_one h46) (fun c hc => nomatch hc) (hr.stop sep_letters)
              rw [hd1]; simp
            | some e =>
              obtain ⟨k, sg, z⟩ := e
              rw [hex] at h46
              have h8 : l.drop (n + wh.length + 1) = [c] ++ (sgT sg ++ (zT z ++ natText k) ++ r) := by
                rw [drop_one h46]; simp [expT]
              have hd1 : runAt l (n + wh.length + 1) letters = n + wh.length + 1 + ([c] : List Nat).length := by
                refine runAt_app (a := [c]) h8 ?_ ?_
                · intro d hd
                  simp at hd
                  subst hd
                  simp at hc
                  rcases hc with rfl | rfl <;> decide
                · intro d r' e
                  match sg, h7 k sg z hex with
                  | 0, _ =>
                    cases hd : zT z ++ natText k with
                    | nil => exact absurd (List.append_eq_nil_iff.mp hd).2 (natText_ne k)
                    | cons d2 ds2 =>
                      have h9 := (AllDigits.app (z_digits z) (natText_digits k)) d2 (by rw [hd]; exact .head _)
                      rw [hd] at e
                      simp [sgT] at e
                      rw [← e.1]
                      exact num_letters h9
                  | 1, _ => simp [sgT] at e; rw [← e.1]; decide
                  | 2, _ => simp [sgT] at e; rw [← e.1]; decide
              rw [hd1]; simp
      have hR := runAt_app (drop_one h46) (all_digs h2) hsd
      refine ⟨hP, ?_, ?_⟩
      · unfold numEnd; rw [if_pos hP, hR]; simp [ptT]
      · unfold fracAt; rw [if_pos hP, hR, cut_app (drop_one h46)]
    | false =>
      have hfr : fr = [] := Classical.byContradiction fun z => Bool.noConfusion (h4 z)
      subst hfr
      have hP : hasPoint l (n + wh.length) = false := by
        cases hex : ex with
        | none => exact absurd hex (h6 rfl)
        | some e =>
          obtain ⟨k, sg, z⟩ := e
          rw [hex] at hb
          have h8 : l.drop (n + wh.length) = c :: (sgT sg ++ (zT z ++ natText k) ++ r) := by rw [hb]; simp [expT, ptT]
          unfold hasPoint
          rw [get_hd h8]
          have : c ≠ 46 := by rintro rfl; revert hc; decide
          simp [this]
      refine ⟨hP, ?_, ?_⟩
      · unfold numEnd; rw [hP]; simp [ptT]
      · unfold fracAt; rw [hP]; simp
  obtain ⟨kP, kN, kF⟩ := key
  have hp : l.drop (n + wh.length + (ptT pt).length + fr.length) = expT c ex ++ r := drop_app (drop_app hb)
  have hq : powerAt l (n + wh.length + (ptT pt).length + fr.length) = ((if ex = none then [] else [c]), expP ex, n + wh.length + (ptT pt).length + fr.length + (expT c ex).length) := by
    cases hex : ex with
    | none => rw [hex] at hp; rw [power_none hp hr]; rfl
    | some e =>
      obtain ⟨k, sg, z⟩ := e
      rw [hex] at hp
      rw [power_some hc (h7 k sg z hex) hp (hr.stop sep_digs)]; rfl
  have hnot : ¬ (hasPoint l (n + wh.length) = false ∧ (if ex = none then [] else [c] : List Nat) = []) := by
    rintro ⟨z1, z2⟩
    rw [kP] at z1
    rw [if_neg (h6 z1)] at z2
    cases z2
  rw [numberAt_pair hE (by rw [kN]; exact hq) hnot, kF]
  have hD : numDigits l n = wh ++ fr := by unfold numDigits; rw [hE, kF, cut_app ha]
  rw [hD]
  refine Prod.ext ?_ (Prod.ext rfl ?_)
  · simp at hc
    rcases hc with rfl | rfl
    · rw [if_neg (by decide : ¬ (69 : Nat) = 68), if_neg]
      split <;> simp
    · rw [if_neg (h5 rfl)]; rfl
  · simp only [List.length_append]; omega
theorem num_int {l r ds : List Nat} {n : Nat} (hd : AllDigits ds) (hr : SepO r) (h : l.drop n = ds ++ r) : numberAt l n = (kINT, .int (digitsVal ds : Nat), n + ds.length) := by
  have hE : runAt l n digs = n + ds.length := runAt_app h (all_digs hd) (hr.stop sep_digs)
  have hb := drop_app h
  have hP : hasPoint l (n + ds.length) = false := by
    unfold hasPoint
    cases hr with
    | nil => rw [get_end hb]; simp
    | sign c r hc =>
      rw [get_hd hb]
      have : c ≠ 46 := by rintro rfl; revert hc; decide
      simp [this]
    | word d r hd =>
      rw [dot_yes (List.mem_append_left _ hd) hb]
      have : d ≠ [] := by
        intro e
        have := (words_form d (List.mem_append_left _ hd)).2.2.1
        rw [e] at this
        exact absurd this (by decide)
      simp [this]
  have hN : numEnd l (n + ds.length) = n + ds.length := by unfold numEnd; rw [hP]; simp
  rw [numberAt_int hE (by rw [hN]; exact power_none hb hr) hP rfl, cut_app h]
end Mine
namespace Mine
open PySem PySem.W PyProof.Rows PySem.NumText
set_option maxRecDepth 100000
/-- an operand in any spelling -/
inductive Opn : List Nat → Pc → Prop
  | name (j : Nat) : j < 8 → Opn (nameL j) (.name (nameL j))
  | int {ds : List Nat} : AllDigits ds → ds ≠ [] → Opn ds (.int (digitsVal ds))
  | real {tx : List Nat} {q : Nat × Int} : RealTx 69 tx q → Opn tx (.real q)
  | dble {tx : List Nat} {q : Nat × Int} : RealTx 68 tx q → Opn tx (.dble q)
  | char (j : Nat) : j < 8 → Opn ([39] ++ dbl (textL j) ++ [39]) (.char (textL j))
  | log (j : Nat) : j < 2 → Opn (truL j) (.log (decide (j = 1)))
theorem Opnd.opn {tx : List Nat} {pc : Pc} (h : Opnd tx pc) : Opn tx pc := by
  cases h with
  | name j hj => exact .name j hj
  | int z n _ _ =>
    have := Opn.int (AllDigits.app (zz_digits z) (natText_digits n)) (fun e => natText_ne n (List.append_eq_nil_iff.mp e).2)
    rw [val_zz] at this
    exact this
  | real h => exact .real (h.tx (fun e => by cases e))
  | dble h => exact .dble (h.tx fun _ => rfl)
  | char j hj => exact .char j hj
  | log j hj => exact .log j hj
theorem qGo_dbl : ∀ (s acc r : List Nat) (k : Nat), Stop [39] r → qGo (dbl s ++ 39 :: r) acc k = some (acc ++ s, k + (dbl s).length + 1)
  | [], acc, r, k, hr => by
    cases r with
    | nil => simp [dbl, qGo]
    | cons d r' =>
      have : d ≠ 39 := fun e => hr d r' rfl (by simp [e])
      simp [dbl, qGo, this]
  | c :: s, acc, r, k, hr => by
    by_cases hc : c = 39
    · subst hc
      have : dbl (39 :: s) = 39 :: 39 :: dbl s := by simp [dbl]
      rw [this, List.cons_append, List.cons_append, qGo, if_pos rfl, if_pos rfl, qGo_dbl s _ r _ hr]
      simp
      omega
    · have : dbl (c :: s) = c :: dbl s := by simp [dbl, hc]
      rw [this, List.cons_append]
      have ih := qGo_dbl s (acc ++ [c]) r (k + 1) hr
      cases hd : dbl s ++ 39 :: r with
      | nil => simp at hd
      | cons d r' =>
        rw [qGo, if_neg hc, ← hd, ih]
        simp
        omega
theorem names_form : ∀ j, j < 8 → (nameL j).length ≤ 6 ∧ (∀ c ∈ nameL j, c ∈ alnum) ∧ ∃ c, (nameL j).head? = some c ∧ c ∈ letters := by
  have : ∀ j, j < 8 → (nameL j).length ≤ 6 ∧ (∀ c ∈ nameL j, c ∈ alnum) ∧ ((nameL j).headD 0) ∈ letters ∧ nameL j ≠ [] := by decide +kernel
  intro j hj
  obtain ⟨h1, h2, h3, h4⟩ := this j hj
  refine ⟨h1, h2, ?_⟩
  cases hn : nameL j with
  | nil => exact absurd hn h4
  | cons c cs => rw [hn] at h3; exact ⟨c, rfl, h3⟩
theorem log_form : ∀ j, j < 2 → truL j ∈ dotteds ++ truths ∧ truL j ∈ truths ∧ truL j ≠ [] ∧ (truL j).take 1 = [46] ∧ ((truL j).getD 1 0) ∈ letters ∧ 2 < (truL j).length ∧ decide (truL j = [46, 84, 82, 85, 69, 46]) = decide (j = 1) := by decide +kernel
theorem letters_digs {c : Nat} (h : c ∈ letters) : c ∉ digs := fun h2 => digs_letters h2 h
theorem RealTx.head {c : Nat} {tx : List Nat} {q : Nat × Int} (h : RealTx c tx q) : (∃ d r, tx = d :: r ∧ d ∈ digs) ∨ ∃ d r, tx = 46 :: d :: r ∧ d ∈ digs := by
  obtain ⟨wh, fr, pt, ex, h1, h2, h3, h4, h5, h6, h7, h8, h9⟩ := h.ex
  subst h8
  cases wh with
  | cons d ds => exact .inl ⟨d, _, rfl, digs_of (h1 d (.head _))⟩
  | nil =>
    cases fr with
    | nil => exact absurd rfl h3
    | cons d ds =>
      rw [h4 (by simp)]
      exact .inr ⟨d, _, rfl, digs_of (h2 d (.head _))⟩
theorem real_lex {l r tx : List Nat} {n c : Nat} {q : Nat × Int} (hc : c ∈ [69, 68]) (hT : RealTx c tx q) (hr : SepO r) (h : l.drop n = tx ++ r) :
    ∃ d, l[n]? = some d ∧ tokenAt l n d = .ok (if c = 68 then kDBLE else kREAL, pairD q, n + tx.length) := by
  have hN := num_real hc hT hr h
  rcases hT.head with ⟨d, r', e, hd⟩ | ⟨d, r', e, hd⟩
  · have h0 : l[n]? = some d := get_hd (r := r' ++ r) (by rw [h, e]; rfl)
    exact ⟨d, h0, by rw [tokenAt_num (digs_letters hd) hd, hN]⟩
  · have h0 : l.drop n = 46 :: (d :: (r' ++ r)) := by rw [h, e]; rfl
    have h1 : l[n + 1]? = some d := get_hd (drop_one h0)
    exact ⟨46, get_hd h0, by rw [tokenAt_point (by decide) (by decide) rfl, pointAt_dig h1 hd, hN]⟩
theorem opn_lex {l r tx : List Nat} {n : Nat} {pc : Pc} (ho : Opn tx pc) (hr : SepO r) (h : l.drop n = tx ++ r) :
    ∃ d, l[n]? = some d ∧ tokenAt l n d = .ok (pc.kind, pc.val, n + tx.length) := by
  cases ho with
  | name j hj =>
    obtain ⟨h1, h2, c, h3, h4⟩ := names_form j hj
    have h0 : l[n]? = some c := by
      cases hn : nameL j with
      | nil => rw [hn] at h3; cases h3
      | cons d ds => rw [hn] at h3 h; cases h3; exact get_hd (r := ds ++ r) h
    refine ⟨c, h0, ?_⟩
    rw [tokenAt_name h4]
    unfold nameAt
    rw [runAt_app h h2 (hr.stop sep_alnum), if_neg (by omega), cut_app h]
    rfl
  | int hd hne =>
    cases tx with
    | nil => exact absurd rfl hne
    | cons d ds =>
      have hdd : d ∈ digs := digs_of (hd d (.head _))
      exact ⟨d, get_hd (r := ds ++ r) h, by rw [tokenAt_num (digs_letters hdd) hdd, num_int hd hr h]; rfl⟩
  | real hT => exact real_lex (by decide) hT hr h
  | dble hT => exact real_lex (by decide) hT hr h
  | char j hj =>
    have h0 : l.drop n = 39 :: (dbl (textL j) ++ 39 :: r) := by rw [h]; simp
    refine ⟨39, get_hd h0, ?_⟩
    rw [tokenAt_quote (by decide) (by decide) (by decide) rfl]
    unfold quotedAt
    rw [drop_one h0, qGo_dbl _ _ _ _ (hr.stop sep_quote)]
    simp only [List.nil_append, Pc.kind, Pc.val]
    refine congrArg _ (Prod.ext rfl (Prod.ext rfl ?_))
    simp
    omega
  | log j hj =>
    obtain ⟨h1, h2, h3, h4, h5, h6, h7⟩ := log_form j hj
    match ht : truL j, h6 with
    | a :: b :: t, _ =>
      rw [ht] at h4 h5
      have ha : a = 46 := by simpa using h4
      have hb : b ∈ letters := h5
      subst ha
      have h0 : l.drop n = 46 :: (b :: (t ++ r)) := by rw [h, ht]; rfl
      refine ⟨46, get_hd h0, ?_⟩
      have hdy := dot_yes h1 h
      rw [tokenAt_point (by decide) (by decide) rfl, pointAt_no (get_hd (drop_one h0)) (letters_digs hb), wordTok_log (by rw [hdy]; exact h3) (by rw [hdy]; exact h2), hdy, h7, ht]
      rfl
/-- a text that is a mark or a sign -/
noncomputable def OpTx (tx : List Nat) : Prop := tx ∈ dotteds ∨ (∃ c ∈ signs9, tx = [c]) ∨ tx = [42, 42] ∨ tx = [47, 47]
theorem ops_form : ∀ d ∈ dotteds, d ∉ truths ∧ d ≠ [] ∧ d.take 1 = [46] ∧ d.getD 1 0 ∈ letters ∧ 2 < d.length := by decide +kernel
theorem signs_form : ∀ c ∈ signs9, c ∉ letters ∧ c ∉ digs ∧ c ≠ 46 ∧ c ≠ 39 := by decide +kernel
theorem op_lex {l r tx : List Nat} {n : Nat} (ho : OpTx tx) (hr : SepM r) (h : l.drop n = tx ++ r) :
    ∃ d, l[n]? = some d ∧ tokenAt l n d = .ok (kOP, .str (str tx), n + tx.length) := by
  rcases ho with hd | ⟨c, hc, rfl⟩ | rfl | rfl
  · obtain ⟨h2, h3, h4, h5, h6⟩ := ops_form tx hd
    match ht : tx, h6 with
    | a :: b :: t, _ =>
      have ha : a = 46 := by simpa using h4
      have hb : b ∈ letters := h5
      subst ha
      have h0 : l.drop n = 46 :: (b :: (t ++ r)) := h
      refine ⟨46, get_hd h0, ?_⟩
      have hdy := dot_yes (List.mem_append_left _ hd) h
      rw [tokenAt_point (by decide) (by decide) rfl, pointAt_no (get_hd (drop_one h0)) (letters_digs hb), wordTok_op (by rw [hdy]; exact h3) (by rw [hdy]; exact h2), hdy]
  · have h0 : l.drop n = c :: r := h
    obtain ⟨h1, h2, h3, h4⟩ := signs_form c hc
    refine ⟨c, get_hd h0, ?_⟩
    rw [tokenAt_one h1 h2 h3 h4 hc]
    · rfl
    · rintro ⟨h5, h6⟩
      cases r with
      | nil => rw [get_end (drop_one h0)] at h6; cases h6
      | cons e r' =>
        rw [get_hd (drop_one h0)] at h6
        have := hr e r' rfl
        cases h6
        simp at h5
        omega
  · have h0 : l.drop n = 42 :: (42 :: r) := h
    exact ⟨42, get_hd h0, by rw [tokenAt_two (by decide) (by decide) (by decide) (by decide) (by decide) (by decide) (get_hd (drop_one h0))]; rfl⟩
  · have h0 : l.drop n = 47 :: (47 :: r) := h
    exact ⟨47, get_hd h0, by rw [tokenAt_two (by decide) (by decide) (by decide) (by decide) (by decide) (by decide) (get_hd (drop_one h0))]; rfl⟩
theorem marks_form : ∀ j, j < 24 → (markL j ∈ dotteds ∨ (markL j).length = 1 ∧ (markL j).headD 0 ∈ signs9 ∨ markL j = [42, 42] ∨ markL j = [47, 47]) ∧ (markL j).length ≤ 6 ∧ markL j ≠ [] ∧ (markL j ∈ dotteds ∨ (markL j).headD 0 ∈ signs9) := by decide +kernel
theorem signsL_form : ∀ j, j < 3 → (signL j ∈ dotteds ∨ (signL j).length = 1 ∧ (signL j).headD 0 ∈ signs9) ∧ (signL j).length ≤ 5 ∧ signL j ≠ [] ∧ (signL j).headD 0 ≠ 42 ∧ (signL j).headD 0 ≠ 47 := by decide +kernel
theorem one_of {l : List Nat} (h : l.length = 1) : l = [l.headD 0] := by
  match l, h with
  | [a], _ => rfl
theorem mark_op {j : Nat} (hj : j < 24) : OpTx (markL j) := by
  rcases (marks_form j hj).1 with h | ⟨h, h2⟩ | h | h
  · exact .inl h
  · exact .inr (.inl ⟨_, h2, one_of h⟩)
  · exact .inr (.inr (.inl h))
  · exact .inr (.inr (.inr h))
theorem sign_op {j : Nat} (hj : j < 3) : OpTx (signL j) := by
  rcases (signsL_form j hj).1 with h | ⟨h, h2⟩
  · exact .inl h
  · exact .inr (.inl ⟨_, h2, one_of h⟩)
theorem mark_sep {j : Nat} (hj : j < 24) (r : List Nat) : SepO (markL j ++ r) := by
  obtain ⟨_, _, h3, h4⟩ := marks_form j hj
  rcases h4 with h4 | h4
  · exact .word _ _ h4
  · cases hm : markL j with
    | nil => exact absurd hm h3
    | cons c cs => rw [hm] at h4; exact .sign c _ h4
theorem sign_sep {j : Nat} (hj : j < 3) (r : List Nat) : SepM (signL j ++ r) := by
  obtain ⟨_, _, h3, h4, h5⟩ := signsL_form j hj
  intro c r' e
  cases hm : signL j with
  | nil => exact absurd hm h3
  | cons d ds => rw [hm] at e h4 h5; cases e; exact ⟨h4, h5⟩
theorem Opn.hd {tx : List Nat} {pc : Pc} (h : Opn tx pc) : ∃ c r, tx = c :: r ∧ c ≠ 42 ∧ c ≠ 47 := by
  have dg : ∀ {c : Nat}, c ∈ digs → c ≠ 42 ∧ c ≠ 47 := fun {c} h => by simp [digs] at h; omega
  have re : ∀ {c : Nat} {tx : List Nat} {q : Nat × Int}, RealTx c tx q → ∃ c r, tx = c :: r ∧ c ≠ 42 ∧ c ≠ 47 := fun h => by
    rcases h.head with ⟨d, r, e, hd⟩ | ⟨d, r, e, hd⟩
    · exact ⟨d, r, e, dg hd⟩
    · exact ⟨46, _, e, by decide, by decide⟩
  cases h with
  | name j hj =>
    obtain ⟨_, _, c, h3, h4⟩ := names_form j hj
    cases hn : nameL j with
    | nil => rw [hn] at h3; cases h3
    | cons d ds => rw [hn] at h3; cases h3; exact ⟨c, ds, rfl, by simp [letters] at h4; omega⟩
  | int hd hne =>
    cases tx with
    | nil => exact absurd rfl hne
    | cons d ds => exact ⟨d, ds, rfl, dg (digs_of (hd d (.head _)))⟩
  | real h => exact re h
  | dble h => exact re h
  | char j hj => exact ⟨39, _, rfl, by decide, by decide⟩
  | log j hj =>
    match j, hj with
    | 0, _ => exact ⟨46, _, rfl, by decide, by decide⟩
    | 1, _ => exact ⟨46, _, rfl, by decide, by decide⟩
theorem opn_sep {tx : List Nat} {pc : Pc} (h : Opn tx pc) (r : List Nat) : SepM (tx ++ r) := by
  obtain ⟨c, s, rfl, h1, h2⟩ := h.hd
  intro d r' e
  cases e
  exact ⟨h1, h2⟩
/-- what is written, piece by piece; the flag: an operand stands last -/
inductive Seq (O : List Nat → Pc → Prop) : Bool → List (List Nat × Pc) → Prop
  | nil : Seq O false []
  | sign {ps : List (List Nat × Pc)} {j : Nat} : Seq O false ps → j < 3 → Seq O false (ps ++ [(signL j, .op (signL j))])
  | opnd {ps : List (List Nat × Pc)} {tx : List Nat} {pc : Pc} : Seq O false ps → O tx pc → Seq O true (ps ++ [(tx, pc)])
  | mark {ps : List (List Nat × Pc)} {j : Nat} : Seq O true ps → j < 24 → Seq O false (ps ++ [(markL j, .op (markL j))])
noncomputable def textOf (ps : List (List Nat × Pc)) : List Nat := (ps.map (·.1)).flatten
/-- the tokens, with their places -/
noncomputable def toksOf : Nat → List (List Nat × Pc) → List Dat
  | _, [] => []
  | n, p :: ps => .tuple [.str (str p.2.kind), p.2.val, .int n] :: toksOf (n + p.1.length) ps
theorem textOf_app (a b : List (List Nat × Pc)) : textOf (a ++ b) = textOf a ++ textOf b := by simp [textOf]
theorem textOf_one (p : List Nat × Pc) : textOf [p] = p.1 := by simp [textOf]
theorem toksOf_app : ∀ (a b : List (List Nat × Pc)) (n : Nat), toksOf n (a ++ b) = toksOf n a ++ toksOf (n + (textOf a).length) b
  | [], b, n => by simp [toksOf, textOf]
  | p :: a, b, n => by
    rw [List.cons_append, toksOf, toksOf_app a b, toksOf, List.cons_append]
    congr 2
    simp [textOf, Nat.add_assoc]
theorem toksOf_len : ∀ (a : List (List Nat × Pc)) (n : Nat), (toksOf n a).length = a.length
  | [], _ => rfl
  | _ :: a, n => congrArg (· + 1) (toksOf_len a _)
noncomputable def Lexes (ps : List (List Nat × Pc)) (r : List Nat) : Prop := ∀ (l : List Nat) (n f : Nat), l.drop n = textOf ps ++ r → lexF l (ps.length + f) n = (lexF l f (n + (textOf ps).length)).map (toksOf n ps ++ ·)
theorem map_map {a b : List Dat} {o : Except Nat (List Dat)} : (o.map (a ++ ·)).map (b ++ ·) = o.map ((b ++ a) ++ ·) := by
  cases o <;> simp [Except.map]
theorem lexes_nil (r : List Nat) : Lexes [] r := by
  intro l n f _
  simp only [List.length_nil, Nat.zero_add, textOf, List.map_nil, List.flatten_nil, toksOf, Nat.add_zero]
  cases lexF l f n <;> rfl
theorem lexes_snoc {ps : List (List Nat × Pc)} {tx r : List Nat} {pc : Pc} (h : Lexes ps (tx ++ r))
    (ht : ∀ (l : List Nat) (n : Nat), l.drop n = tx ++ r → ∃ d, l[n]? = some d ∧ tokenAt l n d = .ok (pc.kind, pc.val, n + tx.length)) : Lexes (ps ++ [(tx, pc)]) r := by
  intro l n f hl
  rw [textOf_app, textOf_one] at hl ⊢
  rw [List.append_assoc] at hl
  obtain ⟨d, h1, h2⟩ := ht l _ (drop_app hl)
  rw [List.length_append, show ps.length + [(tx, pc)].length + f = ps.length + (f + 1) from by simp; omega, h l n (f + 1) hl, lexF_ok h1 h2, toksOf_app, map_app, List.length_append]
  show _ = Except.map _ (lexF l f (n + ((textOf ps).length + tx.length)))
  rw [← Nat.add_assoc]
  rfl
theorem seq_lex {b : Bool} {ps : List (List Nat × Pc)} (h : Seq Opn b ps) : ∀ r : List Nat, (if b then SepO r else SepM r) → Lexes ps r := by
  induction h with
  | nil => exact fun r _ => lexes_nil r
  | sign _ hj ih => exact fun r hr => lexes_snoc (ih _ (sign_sep hj r)) fun l n hl => op_lex (sign_op hj) hr hl
  | opnd _ ho ih => exact fun r hr => lexes_snoc (ih _ (opn_sep ho r)) fun l n hl => opn_lex ho hr hl
  | mark _ hj ih => exact fun r hr => lexes_snoc (ih _ (mark_sep hj r)) fun l n hl => op_lex (mark_op hj) hr hl
theorem seq_ne {O : List Nat → Pc → Prop} (hO : ∀ tx pc, O tx pc → tx ≠ []) {b : Bool} {ps : List (List Nat × Pc)} (h : Seq O b ps) : ps.length ≤ (textOf ps).length := by
  have one : ∀ {tx : List Nat}, tx ≠ [] → 1 ≤ tx.length := fun h => List.length_pos_iff.mpr h
  induction h with
  | nil => exact Nat.le_refl _
  | sign _ hj ih => rw [textOf_app, textOf_one, List.length_append, List.length_append]; have := one (signsL_form _ hj).2.2.1; simp only [List.length_cons, List.length_nil]; omega
  | opnd _ ho ih => rw [textOf_app, textOf_one, List.length_append, List.length_append]; have := one (hO _ _ ho); simp only [List.length_cons, List.length_nil]; omega
  | mark _ hj ih => rw [textOf_app, textOf_one, List.length_append, List.length_append]; have := one (marks_form _ hj).2.2.1; simp only [List.length_cons, List.length_nil]; omega
theorem opn_ne (tx : List Nat) (pc : Pc) (h : Opn tx pc) : tx ≠ [] := by
  obtain ⟨c, r, rfl, _⟩ := h.hd
  exact List.cons_ne_nil _ _
/-- the whole text gives just the tokens -/
theorem lex_seq {b : Bool} {ps : List (List Nat × Pc)} (h : Seq Opn b ps) : lexAll (textOf ps) = .ok (toksOf 0 ps) := by
  have hl := seq_ne opn_ne h
  have := seq_lex h [] (by cases b; exact (fun c r e => nomatch e); exact .nil) (textOf ps) 0 ((textOf ps).length + 1 - ps.length) (by simp)
  rw [show ps.length + ((textOf ps).length + 1 - ps.length) = (textOf ps).length + 1 from by omega] at this
  rw [lexAll, this, lexF_end (by omega)]
  simp [Except.map]
end Mine
namespace Mine
open PySem PySem.W PyProof.Rows PySem.NumText
set_option maxRecDepth 100000
set_option maxHeartbeats 8000000
theorem news_sub {h₀ h : Heap} {L : Addr} {A B : List (Addr × Obj)} (N : News h₀ L h A) (hs : ∀ p ∈ B, p ∈ A) : News h₀ L h B := fun p hp => N p (hs p hp)
/-- every object of the part is a range's iterator -/
noncomputable def Runs (own : List (Addr × Obj)) : Prop := ∀ p ∈ own, p.2.cls = .type "range_iterator"
theorem news_cls {h₀ h : Heap} {L : Addr} {A : List (Addr × Obj)} (N : News h₀ L h A) {p q : Addr × Obj} (hp : p ∈ A) (hq : q ∈ A) (hc : p.2.cls ≠ q.2.cls) : p.1 ≠ q.1 := by
  intro e
  have h1 := (N p hp).1
  have h2 := (N q hq).1
  rw [e, h2] at h1
  exact hc (congrArg Obj.cls (Option.some.inj h1).symm)
/-- nothing of a list's address among tuples and iterators -/
theorem list_off {h₀ h : Heap} {L b : Addr} {its : Array Value} {n : Nat} {A T : List (Addr × Obj)} (N : News h₀ L h A) (hb : (b, PySem.W.listOf its n) ∈ A) (hs : ∀ p ∈ T, p ∈ A) (hT : ∀ p ∈ T, p.2.cls = .type "tuple" ∨ p.2.cls = .type "range_iterator") : ∀ p ∈ T, p.1 ≠ b := by
  intro p hp
  refine news_cls N (q := (b, PySem.W.listOf its n)) (hs p hp) hb ?_
  rcases hT p hp with h | h
  · rw [h]; exact (by decide : (Value.type "tuple") ≠ .type "list")
  · rw [h]; exact (by decide : (Value.type "range_iterator") ≠ .type "list")
theorem own_off {h₀ h : Heap} {L : Addr} {A nx own : List (Addr × Obj)} (N : News h₀ L h A) (h1 : ∀ p ∈ nx, p ∈ A) (h2 : ∀ p ∈ own, p ∈ A) (hn : ∀ p ∈ nx, p.2.cls = .type "tuple" ∨ p.2.cls = .type "list") (ho : Runs own) : OwnOff own (nx.map (·.1)) := by
  intro p hp b hb
  obtain ⟨q, hq, rfl⟩ := List.mem_map.mp hb
  refine news_cls N (h2 p hp) (h1 q hq) ?_
  rw [ho p hp]
  rcases hn q hq with h | h
  · rw [h]; exact (by decide : (Value.type "range_iterator") ≠ .type "tuple")
  · rw [h]; exact (by decide : (Value.type "range_iterator") ≠ .type "list")
section
variable {prog : Program} {w : World} {A : Around} {E : Value → Shared → Prop} {s : Shared} {env : Env} {h₀ : Heap} {x : Str} {body : List Stmt} {Q : Flow → Shared → Prop}
/-- a loop over a range, by what holds ahead of the i-th turn -/
theorem range_loop {r : Addr} {a₀ b₀ : Int} {t₀ u₀ v₀ : Tok} {n : Nat} {m₀ : Str → Option Value} {news : List (Addr × Obj)} (J : Nat → (Str → Option Value) → List (Addr × Obj) → Prop)
    (hh : A.handled = none) (hr : IsRange s.heap r a₀ b₀ 1 t₀ u₀ v₀) (hsmall : Builtin.Range.small a₀ b₀ 1 = true) (hsz : Builtin.Range.rangeSize a₀ b₀ 1 = (n : Int))
    (F : Fr h₀ env.locals s.heap m₀) (N : News h₀ env.locals s.heap news) (hj : J 0 m₀ news)
    (turn : ∀ i t m₁ nx h tk own, i < n → Runs own → J i m₁ nx → Fr h₀ env.locals h (fun y => if y = x then some (.int (a₀ + (i : Int)) t) else m₁ y) → News h₀ env.locals h (nx ++ own) →
      wpAny (model prog w) A (execs body env) (InvPostG h₀ env.locals (J (i + 1)) own { s with heap := h, toks := tk } Q) E { s with heap := h, toks := tk })
    (done : ∀ m₁ nx h tk, J n m₁ nx → Fr h₀ env.locals h m₁ → News h₀ env.locals h nx → Q .next { s with heap := h, toks := tk }) :
    wpAny (model prog w) A (pyIter (.ref r)) (fun it s₂ => LoopAtV prog w A h₀ env x body Q E it s₂) E s := by
  refine wpAny_pyIter_range hr hsmall ?_
  have hnew : h₀.get? s.heap.objs.size = none := next_is_new F
  have hlt : ∀ p ∈ news, p.1 < s.heap.objs.size := fun p hp => Heap.lt_size (N p hp).1
  refine ⟨_, [s.heap.objs.size], [s.heap.objs.size], n, _, _, m₀, news, J, rfl, Walks.range hh _ a₀ 1 n, ?_, ?_, ?_, ?_, F.push _, fun p hp => ⟨Heap.get?_push_of_some _ (N p hp).1, (N p hp).2⟩, hj, ?_, ?_⟩
  · exact fun hm => absurd F.ns.lt ((List.mem_singleton.mp hm) ▸ Nat.lt_irrefl _)
  · exact fun b hb => (List.mem_singleton.mp hb) ▸ hnew
  · exact fun p hp hI => Nat.ne_of_lt (hlt p hp) (List.mem_singleton.mp hI)
  · show IsRangeIter _ _ _ _ _
    rw [hsz]
    simpa using Heap.get?_push_size _ rfl
  · rintro i v m₁ nx s₁ own ⟨h', tk', rfl⟩ hi ⟨t, rfl⟩ hJ _ hown hget hall hst F₁ N₁
    have hmem : (s.heap.objs.size, _) ∈ own := hall _ (List.mem_singleton.mpr rfl) hnew _ hst
    have hruns : Runs own := fun p hp => by
      have h1 := hget p hp
      rw [List.mem_singleton.mp (hown p hp), hst] at h1
      rw [← Option.some.inj h1]
    rw [show a₀ + (i : Int) * 1 = a₀ + (i : Int) from by omega] at F₁
    refine wpAny_mono (turn i t m₁ nx h' tk' own hi hruns hJ F₁ (news_sub N₁ (by grind))) (fun f s₂ p => ?_) fun _ _ e => e
    have key : InvEndG h₀ env.locals (J (i + 1)) own { s with heap := h', toks := tk' } s₂ → LoopStepU h₀ env.locals [s.heap.objs.size] own (J (i + 1)) { s with heap := h', toks := tk' } .next s₂ := by
      rintro ⟨h2, tk2, m2, nw, nx2, e, F2, N2, hn, ho, ha, hm⟩
      refine ⟨rfl, h2, tk2, m2, nx2, e, F2, news_sub N2 (by grind), fun p hp hq => ?_, hm⟩
      exact ha _ hmem p.1 (List.mem_map.mpr ⟨p, hp, rfl⟩) (List.mem_singleton.mp hq).symm
    cases f with
    | ret v => exact .ret p
    | brk => exact .brk p
    | next => exact .next (key p)
    | cont => exact .cont (key p)
  · exact fun h' tk m' nx F' N' _ hJ => done m' nx h' tk hJ F' N'
end
/-- what holds between the turns of the law's loop -/
noncomputable def RowJ (tp rw_ ls sc : Addr) (xs : List Value) (k0 : Nat) (m₀ : Str → Option Value) (c i : Nat) (m : Str → Option Value) (nx : List (Addr × Obj)) : Prop :=
  ∃ (o1 o2 o3 o4 o5 o6 o7 : Option Value) (ti nn n1 n2 : Nat) (t t1 : Tok) (us : List Value) (ps : List (List Nat × Pc)) (tl : List (Addr × Obj)) (b : Bool),
    m = (fun y => if y = Str.ofString "turn" then o1 else if y = Str.ofString "ahead" then o2 else if y = Str.ofString "sign" then o3 else if y = Str.ofString "text" then o4 else if y = Str.ofString "kind" then o5 else if y = Str.ofString "value" then o6 else if y = Str.ofString "mark" then o7 else m₀ y) ∧
    nx = (tp, tapeO sc ti t nn) :: (rw_, rowO (textOf ps) t1 ls n1) :: (ls, PySem.W.listOf us.toArray n2) :: (sc, PySem.W.listOf xs.toArray k0) :: tl ∧
    Tups tl ∧ DatAll tl us (toksOf 0 ps) ∧ Seq Opnd b ps ∧ (i < c → b = false) ∧ ti ≤ 1 + 14 * i ∧ (textOf ps).length ≤ 33 * i ∧ ps.length ≤ 3 * i
theorem rowJ_start {tp rw_ ls sc : Addr} {xs : List Value} {k0 : Nat} {m₀ : Str → Option Value} {c ti nn : Nat} {t t1 : Tok} (hi : ti ≤ 0 + 1) :
    RowJ tp rw_ ls sc xs k0 m₀ c 0 (fun y => if y = Str.ofString "turn" then m₀ (Str.ofString "turn") else if y = Str.ofString "ahead" then m₀ (Str.ofString "ahead") else if y = Str.ofString "sign" then m₀ (Str.ofString "sign") else if y = Str.ofString "text" then m₀ (Str.ofString "text") else if y = Str.ofString "kind" then m₀ (Str.ofString "kind") else if y = Str.ofString "value" then m₀ (Str.ofString "value") else if y = Str.ofString "mark" then m₀ (Str.ofString "mark") else m₀ y)
      ((tp, tapeO sc ti t nn) :: (rw_, rowO (textOf []) t1 ls 0) :: (ls, PySem.W.listOf ([] : List Value).toArray 0) :: (sc, PySem.W.listOf xs.toArray k0) :: []) :=
  ⟨_, _, _, _, _, _, _, ti, nn, 0, 0, t, t1, [], [], [], false, rfl, rfl, fun _ h => (nomatch h), .nil, .nil, fun _ => rfl, by omega, by decide, by decide⟩
theorem rowJ_start' {tp rw_ ls sc : Addr} {xs : List Value} {k0 : Nat} {m₀ : Str → Option Value} {c ti nn : Nat} {t t1 : Tok} (hi : ti ≤ 0 + 1) : RowJ tp rw_ ls sc xs k0 m₀ c 0 m₀
      ((tp, tapeO sc ti t nn) :: (rw_, rowO (textOf []) t1 ls 0) :: (ls, PySem.W.listOf ([] : List Value).toArray 0) :: (sc, PySem.W.listOf xs.toArray k0) :: []) := by
  have := rowJ_start (tp := tp) (rw_ := rw_) (ls := ls) (sc := sc) (xs := xs) (k0 := k0) (m₀ := m₀) (c := c) (nn := nn) (t := t) (t1 := t1) hi
  have e : (fun y => if y = Str.ofString "turn" then m₀ (Str.ofString "turn") else if y = Str.ofString "ahead" then m₀ (Str.ofString "ahead") else if y = Str.ofString "sign" then m₀ (Str.ofString "sign") else if y = Str.ofString "text" then m₀ (Str.ofString "text") else if y = Str.ofString "kind" then m₀ (Str.ofString "kind") else if y = Str.ofString "value" then m₀ (Str.ofString "value") else if y = Str.ofString "mark" then m₀ (Str.ofString "mark") else m₀ y) = m₀ := by
    funext y
    (repeat' split) <;> simp_all
  rw [e] at this
  exact this
theorem toks_snoc {tl : List (Addr × Obj)} {us : List Value} {ps : List (List Nat × Pc)} (h : DatAll tl us (toksOf 0 ps)) {tx : List Nat} {pc : Pc} {b : Addr} {t3 t5 : Tok} {k : Nat} {v : Value} {tl' : List (Addr × Obj)} (hv : DatIn tl' v pc.val)
    (hs : ∀ p ∈ tl, p ∈ tl') (hb : (b, ({ cls := .type "tuple", data := .seq #[.str (str pc.kind) t3, v, .int ((textOf ps).length : Int) t5] k } : Obj)) ∈ tl') : DatAll tl' (us ++ [.ref b]) (toksOf 0 (ps ++ [(tx, pc)])) := by
  rw [toksOf_app]
  refine (h.mono hs).append (.cons ?_ .nil)
  rw [Nat.zero_add]
  exact .tuple (vs := [_, _, _]) hb (.cons (.str _ _) (.cons hv (.cons (.int _ _) .nil)))
theorem named {h₀ h : Heap} {L : Addr} {a b c d : Addr} {o1 o2 o3 o4 : Obj} (_ : News h₀ L h [(a, o1), (b, o2), (c, o3), (d, o4)]) : ∃ rw_ ls tp sc, rw_ = a ∧ ls = b ∧ tp = c ∧ sc = d := ⟨_, _, _, _, rfl, rfl, rfl, rfl⟩
theorem named2 {us : List Value} {ns : List Int} (_ : IntsAre us ns) : ∃ ws, ws = us := ⟨_, rfl⟩
theorem led_start {h₀ h : Heap} {L : Addr} {rw_ ls tp sc : Addr} {tk t : Tok} {ws : List Value} {k : Nat} (N : News h₀ L h [(rw_, PySem.W.listOf #[.str (Str.ofString "") tk, .ref ls] 0), (ls, PySem.W.listOf #[] 0), (tp, PySem.W.listOf #[.ref sc, .int 0 t] 0), (sc, PySem.W.listOf ws.toArray k)]) :
    News h₀ L h ((tp, tapeO sc 0 t 0) :: (rw_, rowO (textOf []) tk ls 0) :: (ls, PySem.W.listOf ([] : List Value).toArray 0) :: (sc, PySem.W.listOf ws.toArray k) :: []) := by
  have e : Str.ofString "" = str (textOf []) := by decide +kernel
  rw [e] at N
  exact news_sub N (by grind)
theorem scr_of {sc : Addr} {ws : List Value} {ns : List Int} {k : Nat} {A : List (Addr × Obj)} (h : (sc, PySem.W.listOf ws.toArray k) ∈ A) (hi : IntsAre ws ns) (hl : ns.length ≤ 63) : Scr sc A := ⟨⟨ws, k, ns, h, hi, hl⟩⟩
theorem scr_take {sc : Addr} {ws : List Value} {ns : List Int} {k : Nat} {A : List (Addr × Obj)} (hi : IntsAre ws (List.take 60 ns)) (h : (sc, PySem.W.listOf ws.toArray k) ∈ A) : Scr sc A := scr_of h hi (Nat.le_trans (List.length_take_le _ _) (by decide))
theorem off3 {a b c d : Addr} {o1 o2 o3 : Obj} (h1 : a ≠ d) (h2 : b ≠ d) (h3 : c ≠ d) : ∀ p ∈ (a, o1) :: (b, o2) :: (c, o3) :: [], p.1 ≠ d := off_cons h1 (off_cons h2 (off_cons h3 (List.forall_mem_nil _)))
theorem range_facts {cnt : Nat} (h : cnt < 7) : Builtin.Range.small 0 (1 + (cnt : Int)) 1 = true ∧ Builtin.Range.rangeSize 0 (1 + (cnt : Int)) 1 = ((1 + cnt : Nat) : Int) := by
  have : cnt = 0 ∨ cnt = 1 ∨ cnt = 2 ∨ cnt = 3 ∨ cnt = 4 ∨ cnt = 5 ∨ cnt = 6 := by omega
  rcases this with rfl | rfl | rfl | rfl | rfl | rfl | rfl <;> exact ⟨by decide +kernel, by decide +kernel⟩
theorem off_all {h₀ h : Heap} {L b : Addr} {its : Array Value} {n : Nat} {A : List (Addr × Obj)} (N : News h₀ L h ((b, PySem.W.listOf its n) :: A)) (h : ∀ p ∈ A, p.2.cls = .type "tuple" ∨ p.2.cls = .type "range_iterator" ∨ p.1 ≠ b) : ∀ p ∈ A, p.1 ≠ b := by
  intro p hp
  rcases h p hp with c | c | c
  · exact list_off (T := [p]) N (.head _) (fun q hq => by rw [List.mem_singleton.mp hq]; exact .tail _ hp) (fun q hq => by rw [List.mem_singleton.mp hq]; exact .inl c) p (.head _)
  · exact list_off (T := [p]) N (.head _) (fun q hq => by rw [List.mem_singleton.mp hq]; exact .tail _ hp) (fun q hq => by rw [List.mem_singleton.mp hq]; exact .inr c) p (.head _)
  · exact c
theorem digs8_len {l : List Nat} (h : Digs8 l) : l.length ≤ 8 := h.2
theorem real_len {c : Nat} {must : Bool} {tx : List Nat} {q : Nat × Int} (h : RealOf c must tx q) : tx.length ≤ 22 := by
  obtain ⟨wh, fr, pt, ex, h1, h2, h3, h4, h5, h6, h7, rfl, h9⟩ := h.ex
  have a1 := h1.2
  have a2 := h2.2
  have a3 := ptT_len pt
  have a4 : (expT c ex).length ≤ 5 := by
    cases ex with
    | none => exact Nat.zero_le _
    | some e =>
      obtain ⟨k, sg, z⟩ := e
      have b1 := sgT_len sg
      have b2 := zT_len z
      have b3 := natText_len (k := k) (n := 2) (by decide) (by have := (h7 k sg z rfl).1; omega)
      simp only [expT, List.length_cons, List.length_append]
      omega
  simp only [List.length_append]
  omega
theorem Opnd.len {tx : List Nat} {pc : Pc} (h : Opnd tx pc) : tx.length ≤ 22 := by
  cases h with
  | name j hj => have := (names_form j hj).1; omega
  | int z n hz hn =>
    have a1 := natText_len (k := n) (n := 9) (by decide) hn
    have a2 : (zzL z).length ≤ 2 := by rcases (show z = 0 ∨ z = 1 by omega) with rfl | rfl <;> decide
    rw [List.length_append]; omega
  | real h => exact real_len h
  | dble h => exact real_len h
  | char j hj => have := textL_len j hj; simp only [List.length_append, List.length_cons, List.length_nil]; omega
  | log j hj => rcases (show j = 0 ∨ j = 1 by omega) with rfl | rfl <;> decide

structure Dist (tp rw_ ls sc : Addr) : Prop where
  rt : rw_ ≠ tp
  lt : ls ≠ tp
  st : sc ≠ tp
  lr : ls ≠ rw_
  sr : sc ≠ rw_
  sl : sc ≠ ls
section
variable {h₀ h : Heap} {L : Addr} {tp rw_ ls sc : Addr} {ti nn n1 n2 k0 : Nat} {t t1 : Tok} {x : List Nat} {us ws : List Value} {tl own : List (Addr × Obj)}
theorem led_mem (hT : Tups tl) (hR : Runs own) : ∀ p ∈ tl ++ own, p.2.cls = .type "tuple" ∨ p.2.cls = .type "range_iterator" := fun p hp => (List.mem_append.mp hp).elim (fun h => .inl (hT p h)) fun h => .inr (hR p h)
theorem led_off (N : News h₀ L h ((tp, tapeO sc ti t nn) :: (rw_, rowO x t1 ls n1) :: (ls, PySem.W.listOf us.toArray n2) :: (sc, PySem.W.listOf ws.toArray k0) :: (tl ++ own))) (d : Dist tp rw_ ls sc) (hT : Tups tl) (hR : Runs own) :
    ∀ p ∈ (rw_, rowO x t1 ls n1) :: (ls, PySem.W.listOf us.toArray n2) :: (sc, PySem.W.listOf ws.toArray k0) :: (tl ++ own), p.1 ≠ tp :=
  off_cons d.rt (off_cons d.lt (off_cons d.st (list_off N (.head _) (fun p hp => .tail _ (.tail _ (.tail _ (.tail _ hp)))) (led_mem hT hR))))
end
theorem textOf_snoc (ps : List (List Nat × Pc)) (tx : List Nat) (pc : Pc) : textOf (ps ++ [(tx, pc)]) = textOf ps ++ tx := by rw [textOf_app, textOf_one]
section
variable {w : World} {f : Addr} {vs : List Value} {mean : ExcName → Option Value} {mg mb : Str → Option Value} {dp un : Nat} {gd : Option (List Code)} {cn : Str} {cs : Scope} {a : Addr} {ccd : Value} {cl : List (Str × Addr)} {outer : List Env} {A₀ : Around} {base h₀ : Heap} {L : Addr}
    {m : Str → Option Value} {rest : List (Addr × Obj)} {s : Shared} {Q E : Value → Shared → Prop}
theorem put_led {tp rw_ ls sc : Addr} {ti nn n1 n2 k0 : Nat} {t t1 t2 t3 : Tok} {us ws : List Value} {tl own : List (Addr × Obj)} {ps : List (List Nat × Pc)} {tx : List Nat} (pc : Pc) {v : Value} (B : Below A₀ base outer h₀) (F : Fr h₀ L s.heap m) (X : (hd.heap_1 w.params).In h₀) (T : Top lawView (looseW lawView []) mean mg mb h₀) (hk : cs.kind = .function) (h1 : dp + 2 < recursionLimit) (h2 : un + 16 < cLine)
    (N : News h₀ L s.heap ((tp, tapeO sc ti t nn) :: (rw_, rowO (textOf ps) t1 ls n1) :: (ls, PySem.W.listOf us.toArray n2) :: (sc, PySem.W.listOf ws.toArray k0) :: (tl ++ own))) (d : Dist tp rw_ ls sc) (hT : Tups tl) (hR : Runs own) (hD : DatAll tl us (toksOf 0 ps)) (hv : DatIn tl v pc.val)
    (hx : (textOf ps).length ≤ 300) (htx : tx.length ≤ 300) (hps : ps.length ≤ 1000)
    (k : ∀ us' tl' t1' n2' h' tk', Fr h₀ L h' m → News h₀ L h' ((tp, tapeO sc ti t nn) :: (rw_, rowO (textOf (ps ++ [(tx, pc)])) t1' ls n1) :: (ls, PySem.W.listOf us'.toArray n2') :: (sc, PySem.W.listOf ws.toArray k0) :: (tl' ++ own)) → Tups tl' → DatAll tl' us' (toksOf 0 (ps ++ [(tx, pc)])) → (∀ v d, DatIn tl v d → DatIn tl' v d) → Q .none { s with heap := h', toks := tk' }) :
    wpAny (model PySem.Challenge.rw_no0240_01.row.prog w) (ktrTop dp un gd cn cs L a ccd cl outer) (call (.ref 221) [.ref rw_, .str (str tx) t2, .str (str pc.kind) t3, v]) Q E s := by
  have N1 : News h₀ L s.heap ((rw_, rowO (textOf ps) t1 ls n1) :: (ls, PySem.W.listOf us.toArray n2) :: (tp, tapeO sc ti t nn) :: (sc, PySem.W.listOf ws.toArray k0) :: (tl ++ own)) := news_sub N (by grind)
  have N2 : News h₀ L s.heap ((ls, PySem.W.listOf us.toArray n2) :: (tp, tapeO sc ti t nn) :: (sc, PySem.W.listOf ws.toArray k0) :: (tl ++ own)) := news_tail N1
  have hus : us.length ≤ 1000 := by rw [hD.length, toksOf_len]; exact hps
  refine put_does w rw_ ls (textOf ps) tx pc.kind v us t1 t2 t3 n1 n2 mean mg mb dp un gd cn cs a ccd cl outer A₀ base h₀ L m _ s Q E B F T hk h1 h2 N1 d.lr ?_ ?_ hx htx hus ?_ X
  · exact off_cons d.rt.symm (off_cons d.sr (list_off N1 (.head _) (fun p hp => .tail _ (.tail _ (.tail _ (.tail _ hp)))) (led_mem hT hR)))
  · exact off_cons d.lt.symm (off_cons d.sl (list_off N2 (.head _) (fun p hp => .tail _ (.tail _ (.tail _ hp))) (led_mem hT hR)))
  · intro b t4 t5 h' tk' F' N' _ _ _
    refine k (us ++ [.ref b]) ((b, { cls := .type "tuple", data := .seq #[.str (str pc.kind) t3, v, .int ((textOf ps).length : Int) t5] }) :: tl) t4 (n2 + 1) h' tk' F' ?_ (tups_cons hT) ?_ fun v' d' h => h.mono fun p hp => .tail _ hp
    · rw [textOf_snoc]
      exact news_sub N' (by grind)
    · exact toks_snoc hD (hv.mono fun p hp => .tail _ hp) (fun p hp => .tail _ hp) (.head _)
theorem operand_led {tp sc : Addr} {ti nn : Nat} {t : Tok} (B : Below A₀ base outer h₀) (F : Fr h₀ L s.heap m) (X : (hd.heap_1 w.params).In h₀) (T : Top lawView (looseW lawView []) mean mg mb h₀) (hk : cs.kind = .function) (h1 : dp + 12 < recursionLimit) (h2 : un + 128 < cLine)
    (N : News h₀ L s.heap ((tp, tapeO sc ti t nn) :: rest)) (ho : ∀ p ∈ rest, p.1 ≠ tp) (hs : Scr sc rest) (hi : ti + 12 ≤ 1000)
    (k : ∀ tx pc, Opnd tx pc → ∀ b v u1 u2 n1 tl i' t' nn' h' tk', i' ≤ ti + 12 → Fr h₀ L h' m → News h₀ L h' ((b, { cls := .type "tuple", data := .seq #[.str (str tx) u1, .str (str pc.kind) u2, v] n1 }) :: (tp, tapeO sc i' t' nn') :: (tl ++ rest)) → Tups tl → DatIn tl v pc.val → Q (.ref b) { s with heap := h', toks := tk' }) :
    wpAny (model PySem.Challenge.rw_no0240_01.row.prog w) (ktrTop dp un gd cn cs L a ccd cl outer) (call (.ref 214) [.ref tp]) Q E s := by
  refine (operand_draws w tp sc).use B F X T hk h1 h2 N ho hs hi ?_
  rintro _ ⟨tx, pc, rfl, hO⟩ r tl i' t' nn' h' tk' hi' F' N' hT D
  unfold opD at D
  cases D with
  | tuple hm hA =>
    cases hA with | cons d1 hA => cases hA with | cons d2 hA => cases hA with | cons d3 hA =>
    cases hA; cases d1; cases d2
    exact k tx pc hO _ _ _ _ _ tl i' t' nn' h' tk' hi' F' (fun p hp => N' p ((List.mem_cons.mp hp).elim (fun e => e ▸ .tail _ (List.mem_append_left _ hm)) id)) hT d3
end

section
variable {h₀ h : Heap} {L : Addr} {tp rw_ ls sc : Addr} {ti nn n1 n2 k0 : Nat} {t t1 : Tok} {us ws : List Value} {tl own : List (Addr × Obj)} {ps : List (List Nat × Pc)}
theorem led_mix {q : Addr × Obj} {o1 o2 o3 o4 : Obj} {tl' : List (Addr × Obj)} (N : News h₀ L h (q :: (tp, o1) :: (tl' ++ ((rw_, o2) :: (ls, o3) :: (sc, o4) :: (tl ++ own))))) : News h₀ L h (q :: (tp, o1) :: (rw_, o2) :: (ls, o3) :: (sc, o4) :: ((tl' ++ tl) ++ own)) := news_sub N (by grind)
theorem snoc_len (ps : List (List Nat × Pc)) (tx : List Nat) (pc : Pc) : (textOf (ps ++ [(tx, pc)])).length = (textOf ps).length + tx.length ∧ (ps ++ [(tx, pc)]).length = ps.length + 1 := by
  rw [textOf_snoc, List.length_append, List.length_append]; exact ⟨rfl, rfl⟩
theorem seq_lens {O : List Nat → Pc → Prop} {b : Bool} {tx : List Nat} {pc : Pc} (_ : Seq O b (ps ++ [(tx, pc)])) : (textOf (ps ++ [(tx, pc)])).length = (textOf ps).length + tx.length ∧ (ps ++ [(tx, pc)]).length = ps.length + 1 := snoc_len ps tx pc
theorem turn_end {m' m₀ : Str → Option Value} {c i : Nat} {b : Bool} {s₁ : Shared} {tk : Nat} (F : Fr h₀ L h m')
    (N : News h₀ L h ((tp, tapeO sc ti t nn) :: (rw_, rowO (textOf ps) t1 ls n1) :: (ls, PySem.W.listOf us.toArray n2) :: (sc, PySem.W.listOf ws.toArray k0) :: (tl ++ own)))
    (hT : Tups tl) (hR : Runs own) (hD : DatAll tl us (toksOf 0 ps)) (hSeq : Seq Opnd b ps) (hb : i + 1 < c → b = false) (hti : ti ≤ 1 + 14 * (i + 1)) (hx : (textOf ps).length ≤ 33 * (i + 1)) (hps : ps.length ≤ 3 * (i + 1))
    (hm : ∀ y, y ≠ Str.ofString "turn" → y ≠ Str.ofString "ahead" → y ≠ Str.ofString "sign" → y ≠ Str.ofString "text" → y ≠ Str.ofString "kind" → y ≠ Str.ofString "value" → y ≠ Str.ofString "mark" → m' y = m₀ y) :
    InvEndG h₀ L (RowJ tp rw_ ls sc ws k0 m₀ c (i + 1)) own s₁ { s₁ with heap := h, toks := tk } := by
  refine InvEndG.intro (nx := (tp, tapeO sc ti t nn) :: (rw_, rowO (textOf ps) t1 ls n1) :: (ls, PySem.W.listOf us.toArray n2) :: (sc, PySem.W.listOf ws.toArray k0) :: tl) F N ?_ (own_off N ?_ ?_ ?_ hR) ?_ ?_
  · refine ⟨m' (Str.ofString "turn"), m' (Str.ofString "ahead"), m' (Str.ofString "sign"), m' (Str.ofString "text"), m' (Str.ofString "kind"), m' (Str.ofString "value"), m' (Str.ofString "mark"), ti, nn, n1, n2, t, t1, us, ps, tl, b, ?_, rfl, hT, hD, hSeq, hb, hti, hx, hps⟩
    funext y
    repeat' split
    all_goals first | (subst_vars; rfl) | (apply hm <;> assumption)
  · grind
  · grind
  · intro p hp
    simp only [List.mem_cons] at hp
    rcases hp with rfl | rfl | rfl | rfl | hp
    · exact .inr rfl
    · exact .inr rfl
    · exact .inr rfl
    · exact .inr rfl
    · exact .inl (hT p hp)
  · grind
  · grind
end
end Mine
namespace Mine
open PySem PySem.W PyProof.Rows PySem.NumText
set_option maxRecDepth 100000
/-- a small datum: no list, short texts, numbers of few digits -/
noncomputable def dOk : Nat → Dat → Bool
  | _, .bool _ => true
  | _, .int i => decide (i.natAbs < 10 ^ 18)
  | _, .str x => decide (x.cps.size ≤ 10) && x.cps.toList.all fun c => decide (c < 256)
  | n + 1, .tuple ds => decide (ds.length ≤ 3) && ds.all (dOk n)
  | _, _ => false
noncomputable def dBulk : Nat → Nat
  | 0 => 10
  | n + 1 => 3 * (dBulk n + 1)
theorem intText_len18 {i : Int} (h : i.natAbs < 10 ^ 18) : (intText i).length ≤ 19 := by
  have := natText_len (k := i.natAbs) (n := 18) (by decide) h
  unfold intText
  split
  · simp only [List.length_cons]; omega
  · omega
theorem shown_int_len {i : Int} (h : i.natAbs < 10 ^ 18) : (PyData.shown (.int i)).length ≤ 30 := by
  have e : (PyData.shown (.int i)) = str (intText i) := by
    rw [PyData.shown]
    exact intText_is i
  rw [e, Mine.len_str]
  have := intText_len18 h
  omega
theorem int_showable {i : Int} (h : i.natAbs < 10 ^ 18) : (PyData.int i).showable = true := by
  simp only [PyData.showable, decide_eq_true_eq]
  by_cases hz : i.natAbs = 0
  · rw [hz]; decide
  · have : i.natAbs.log2 < 64 := (Nat.log2_lt hz).mpr (Nat.lt_of_lt_of_le h (by decide))
    omega
structure DFacts (p : PyData) (n B : Nat) : Prop where
  lay : p.canLay0 = true
  dep : p.depth ≤ n
  shw : p.showable = true
  leaf : p.leavesShort 30 = true
  eqv : PyData.eqv p p = true
  bulk : p.bulk ≤ B
structure DFactsAll (ps : List PyData) (n B : Nat) : Prop where
  lay : PyData.canLayAll0 ps = true
  dep : PyData.depthAll ps ≤ n
  shw : PyData.showableAll ps = true
  leaf : PyData.leavesShortAll 30 ps = true
  eqv : PyData.eqvAll ps ps = true
  bulk : PyData.bulkAll ps ≤ ps.length * (B + 1)
theorem dOk_all {n B : Nat} (ih : ∀ d, dOk n d = true → DFacts (kqdP d) n B) : ∀ ds : List Dat, (∀ d ∈ ds, dOk n d = true) → DFactsAll (kqdPs ds) n B
  | [], _ => by
    constructor <;> simp [kqdPs, PyData.canLayAll0, PyData.depthAll, PyData.showableAll, PyData.leavesShortAll, PyData.eqvAll, PyData.bulkAll]
  | d :: ds, h => by
    have h1 := ih d (h d (.head _))
    have h2 := dOk_all ih ds fun e he => h e (.tail _ he)
    constructor
    · simp only [kqdPs, PyData.canLayAll0, h1.lay, h2.lay, Bool.and_self]
    · simp only [kqdPs, PyData.depthAll]
      have := h1.dep
      have := h2.dep
      omega
    · simp only [kqdPs, PyData.showableAll, h1.shw, h2.shw, Bool.and_self]
    · simp only [kqdPs, PyData.leavesShortAll, h1.leaf, h2.leaf, Bool.and_self]
    · simp only [kqdPs, PyData.eqvAll, h1.eqv, h2.eqv, Bool.and_self]
    · simp only [kqdPs, PyData.bulkAll, List.length_cons, Nat.add_mul, Nat.one_mul]
      have := h1.bulk
      have := h2.bulk
      omega
theorem kqdPs_len : ∀ ds : List Dat, (kqdPs ds).length = ds.length
  | [] => rfl
  | _ :: ds => congrArg (· + 1) (kqdPs_len ds)
theorem dOk_str {n : Nat} {x : Str} (h : x.cps.size ≤ 10 ∧ ∀ c ∈ x.cps.toList, c < 256) (B : Nat) (hB : 10 ≤ B) : DFacts (kqdP (.str x)) n B := by
  constructor
  · simp only [kqdP, PyData.canLay0, PyData.strOk]
    rw [← Array.all_toList]
    simp only [List.all_eq_true, decide_eq_true_eq]
    intro c hc
    have := h.2 c hc
    omega
  · simp [kqdP, PyData.depth]
  · simp [kqdP, PyData.showable]
  · simp only [kqdP, PyData.leavesShort, List.all_eq_true, decide_eq_true_eq]
    intro c hc
    have := h.2 c hc
    omega
  · simp [kqdP, PyData.eqv]
  · simp only [kqdP, PyData.bulk]; omega
theorem dOk_int {n B : Nat} {i : Int} (h : i.natAbs < 10 ^ 18) : DFacts (kqdP (.int i)) n B := by
  constructor
  · simp [kqdP, PyData.canLay0]
  · simp [kqdP, PyData.depth]
  · simpa only [kqdP] using int_showable h
  · simp only [kqdP, PyData.leavesShort, decide_eq_true_eq]; exact shown_int_len h
  · simp [kqdP, PyData.eqv]
  · simp [kqdP, PyData.bulk]
theorem dOk_bool {n B : Nat} (b : Bool) : DFacts (kqdP (.bool b)) n B := by
  constructor <;> simp [kqdP, PyData.canLay0, PyData.depth, PyData.showable, PyData.leavesShort, PyData.eqv, PyData.bulk]
theorem dBulk_ge : ∀ n, 10 ≤ dBulk n
  | 0 => Nat.le_refl _
  | n + 1 => by have := dBulk_ge n; rw [dBulk]; omega
theorem dOk_facts : ∀ (n : Nat) (d : Dat), dOk n d = true → DFacts (kqdP d) n (dBulk n) := by
  intro n
  induction n with
  | zero =>
    intro d h
    cases d with
    | bool b => exact dOk_bool b
    | int i => exact dOk_int (by simpa [dOk] using h)
    | str x =>
      rw [dOk, Bool.and_eq_true, List.all_eq_true] at h
      exact dOk_str ⟨of_decide_eq_true h.1, fun c hc => of_decide_eq_true (h.2 c hc)⟩ _ (dBulk_ge _)
    | none => simp [dOk] at h
    | bytes b => simp [dOk] at h
    | tuple ds => simp [dOk] at h
    | list ds => simp [dOk] at h
  | succ n ih =>
    intro d h
    cases d with
    | bool b => exact dOk_bool b
    | int i => exact dOk_int (by simpa [dOk] using h)
    | str x =>
      rw [dOk, Bool.and_eq_true, List.all_eq_true] at h
      exact dOk_str ⟨of_decide_eq_true h.1, fun c hc => of_decide_eq_true (h.2 c hc)⟩ _ (dBulk_ge _)
    | none => simp [dOk] at h
    | bytes b => simp [dOk] at h
    | list ds => simp [dOk] at h
    | tuple ds =>
      have h' : ds.length ≤ 3 ∧ ∀ d ∈ ds, dOk n d = true := by simpa [dOk] using h
      have A := dOk_all ih ds h'.2
      constructor
      · simpa only [kqdP, PyData.canLay0] using A.lay
      · simp only [kqdP, PyData.depth]; have := A.dep; omega
      · simpa only [kqdP, PyData.showable] using A.shw
      · simpa only [kqdP, PyData.leavesShort] using A.leaf
      · simpa only [kqdP, PyData.eqv] using A.eqv
      · simp only [kqdP, PyData.bulk, dBulk]
        refine Nat.le_trans A.bulk ?_
        rw [kqdPs_len]
        exact Nat.mul_le_mul_right _ h'.1
section
variable {h₀ h : Heap} {L : Addr} {news : List (Addr × Obj)}
mutual
theorem dReads (N : News h₀ L h news) : ∀ {v : Value} {d : Dat} (n : Nat), DatIn news v d → dOk n d = true → ∃ as, Reads h v (kqdP d) as
  | _, _, n, .none, hk => by cases n <;> simp [dOk] at hk
  | _, _, _, .bool b, _ => ⟨_, Reads.bool b⟩
  | _, _, _, .int i t, _ => ⟨_, Reads.int i t⟩
  | _, _, _, .str x t, _ => ⟨_, Reads.str x t⟩
  | _, _, n, .bytes _ _, hk => by cases n <;> simp [dOk] at hk
  | _, _, 0, .tuple _ _, hk => by simp [dOk] at hk
  | _, _, n, .list _ _, hk => by cases n <;> simp [dOk] at hk
  | _, _, n + 1, .tuple hm r, hk => by
    have hk' := hk
    simp only [dOk, Bool.and_eq_true, List.all_eq_true] at hk'
    obtain ⟨as, q⟩ := dReadsAll N n r hk'.2
    rw [kqdP]
    exact ⟨as, reads_tuple_at (N.get hm) rfl rfl (by simpa using q)⟩
theorem dReadsAll (N : News h₀ L h news) : ∀ {vs : List Value} {ds : List Dat} (n : Nat), DatAll news vs ds → (∀ d ∈ ds, dOk n d = true) → ∃ as, ReadsAll h vs (kqdPs ds) as
  | _, _, _, .nil, _ => ⟨_, ReadsAll.nil⟩
  | _, _, n, .cons hd r, hk => by
    obtain ⟨as, q⟩ := dReads N n hd (hk _ (.head _))
    obtain ⟨bs, p⟩ := dReadsAll N n r fun d hm => hk d (.tail _ hm)
    rw [kqdPs]
    exact ⟨_, ReadsAll.cons q p⟩
end
theorem list_reads (N : News h₀ L h news) {b : Addr} {us : List Value} {nn : Nat} (hb : (b, PySem.W.listOf us.toArray nn) ∈ news) {ds : List Dat} (n : Nat) (hD : DatAll news us ds) (hk : ∀ d ∈ ds, dOk n d = true) :
    ∃ as, Reads h (.ref b) (.list (kqdPs ds)) as := by
  obtain ⟨as, q⟩ := dReadsAll N n hD hk
  exact ⟨_, reads_list_at (N.get hb) rfl rfl (by simpa [PySem.W.listOf] using q)⟩
theorem list_facts {ds : List Dat} (n : Nat) (hn : n ≤ 3) (hk : ∀ d ∈ ds, dOk n d = true) (hl : ds.length ≤ 100) :
    PySem.SeqAt.shaped (.list (kqdPs ds)) = true ∧ PyData.eqv (.list (kqdPs ds)) (.list (kqdPs ds)) = true ∧ (PyData.list (kqdPs ds)).hasDict = false ∧ (PyData.list (kqdPs ds)).showable = true ∧ (PyData.list (kqdPs ds)).depth ≤ 4 ∧ (PyData.list (kqdPs ds)).shown.length ≤ sizeLine := by
  have A := dOk_all (dOk_facts n) ds hk
  have hlay : (PyData.list (kqdPs ds)).canLay0 = true := by simpa only [PyData.canLay0] using A.lay
  have hdep : (PyData.list (kqdPs ds)).depth ≤ 4 := by simp only [PyData.depth]; have := A.dep; omega
  refine ⟨?_, by simpa only [PyData.eqv] using A.eqv, PyData.hasDict_of_canLay _ hlay, by simpa only [PyData.showable] using A.shw, hdep, ?_⟩
  · rw [PySem.SeqAt.shaped, hlay]
    simp only [Bool.true_and, decide_eq_true_eq]
    omega
  · have h1 := PyData.shown_le_bulk 30 (by decide) (.list (kqdPs ds)) (by simpa only [PyData.leavesShort] using A.leaf)
    have h2 : (PyData.list (kqdPs ds)).bulk ≤ 100 * 400 := by
      simp only [PyData.bulk]
      refine Nat.le_trans A.bulk ?_
      rw [kqdPs_len]
      have h3 : dBulk n + 1 ≤ 400 := by
        have : n = 0 ∨ n = 1 ∨ n = 2 ∨ n = 3 := by omega
        rcases this with rfl | rfl | rfl | rfl <;> decide
      exact Nat.mul_le_mul hl h3
    have h4 : (30 + 2) * (PyData.list (kqdPs ds)).bulk + 30 ≤ sizeLine := by
      rw [show sizeLine = 16777216 from rfl]
      omega
    omega
end
section
variable {prog : Program} {w : World} {A : Around} {E : Value → Shared → Prop} {s : Shared} {h₀ : Heap} {L : Addr} {m : Str → Option Value} {news : List (Addr × Obj)} {Q : Value → Shared → Prop}
theorem lists_same {a b : Addr} {us vs : List Value} {na nb n : Nat} {ds : List Dat} (N : News h₀ L s.heap news) (ha : (a, PySem.W.listOf us.toArray na) ∈ news) (hb : (b, PySem.W.listOf vs.toArray nb) ∈ news)
    (hu : DatAll news us ds) (hv : DatAll news vs ds) (hn : n ≤ 3) (hk : ∀ d ∈ ds, dOk n d = true) (hl : ds.length ≤ 100) (hun : A.units + 64 < cLine) (h : Q (.bool false) s) :
    wpAny (model prog w) A (compareOp .NotEq (.ref a) (.ref b)) Q E s := by
  obtain ⟨_, ra⟩ := list_reads N ha n hu hk
  obtain ⟨_, rb⟩ := list_reads N hb n hv hk
  obtain ⟨f1, f2, _⟩ := list_facts n hn hk hl
  exact ne_dataH ra rb f1 f1 hun (by rw [f2]; exact h)
theorem list_repr {a : Addr} {us : List Value} {na n : Nat} {ds : List Dat} (F : Fr h₀ L s.heap m) (N : News h₀ L s.heap news) (ha : (a, PySem.W.listOf us.toArray na) ∈ news) (hu : DatAll news us ds) (hn : n ≤ 3) (hk : ∀ d ∈ ds, dOk n d = true) (hl : ds.length ≤ 100)
    (hg : A.guards = some []) (hun : A.units + 64 < cLine) (h : ∀ h' u tk, Fr h₀ L h' m → News h₀ L h' news → Q (.str (PyData.list (kqdPs ds)).shown u) { s with heap := h', toks := tk }) :
    wpAny (model prog w) A (call (.builtin "repr") [.ref a]) Q E s := by
  obtain ⟨_, ra⟩ := list_reads N ha n hu hk
  obtain ⟨_, _, f3, f4, f5, f6⟩ := list_facts n hn hk hl
  exact repr_HN F N ra f3 f4 hg (by omega) h f6
end

section
variable {w : World} {mean : ExcName → Option Value} {mg mb : Str → Option Value} {dp un : Nat} {gd : Option (List Code)} {cn : Str} {cs : Scope} {a : Addr} {ccd : Value} {A₀ : Around} {base h₀ : Heap} {L : Addr}
    {m : Str → Option Value} {rest : List (Addr × Obj)} {s : Shared} {Q E : Value → Shared → Prop}
theorem heard_ok {x : List Nat} {t1 : Tok} {ds : List Dat} (hl : lexAll x = .ok ds) (hx : x.length ≤ 300) (B : Below A₀ base [] h₀) (F : Fr h₀ L s.heap m) (X : (hd.heap_1 w.params).In h₀) (N : News h₀ L s.heap rest) (T : Top lawView (looseW lawView []) mean mg mb h₀)
    (X₀ : (hd.heap_1 w.params).In base) (T₀ : Top lawView (looseW lawView []) mean mg mb base) (hk : cs.kind = .function) (h1 : dp + 24 < recursionLimit) (h2 : un + 500 < cLine)
    (k : ∀ b us nn tl h' tk', Fr h₀ L h' m → News h₀ L h' ((b, PySem.W.listOf us.toArray nn) :: (tl ++ rest)) → Tups tl → DatAll tl us ds → (∀ p ∈ rest, p.1 ≠ b) → Q (.ref b) { s with heap := h', toks := tk' }) :
    wpAny (model PySem.Challenge.rw_no0240_01.row.prog w) (ktrTop dp un gd cn cs L a ccd [] []) (call (.ref 228) [.str (str x) t1]) Q E s := by
  refine heard_does w (str x) t1 (by rw [Mine.len_str]; exact hx) mean mg mb dp un gd cn cs a ccd A₀ base h₀ L m rest s Q E B F X N T X₀ T₀ hk h1 h2 ?_ ?_
  · rw [toList_str, hl]
    rintro _ ⟨⟩
    exact k
  · rw [toList_str, hl]
    rintro _ ⟨⟩
theorem heard_err {x : List Nat} {t1 : Tok} {n : Nat} (hl : lexAll x = .error n) (hx : x.length ≤ 300) (B : Below A₀ base [] h₀) (F : Fr h₀ L s.heap m) (X : (hd.heap_1 w.params).In h₀) (N : News h₀ L s.heap rest) (T : Top lawView (looseW lawView []) mean mg mb h₀)
    (X₀ : (hd.heap_1 w.params).In base) (T₀ : Top lawView (looseW lawView []) mean mg mb base) (hk : cs.kind = .function) (h1 : dp + 24 < recursionLimit) (h2 : un + 500 < cLine)
    (k : ∀ t h' tk', Fr h₀ L h' m → News h₀ L h' rest → Q (.int n t) { s with heap := h', toks := tk' }) :
    wpAny (model PySem.Challenge.rw_no0240_01.row.prog w) (ktrTop dp un gd cn cs L a ccd [] []) (call (.ref 228) [.str (str x) t1]) Q E s := by
  refine heard_does w (str x) t1 (by rw [Mine.len_str]; exact hx) mean mg mb dp un gd cn cs a ccd A₀ base h₀ L m rest s Q E B F X N T X₀ T₀ hk h1 h2 ?_ ?_
  · rw [toList_str, hl]
    rintro _ ⟨⟩
  · rw [toList_str, hl]
    rintro _ ⟨⟩
    exact k
end
theorem Seq.mono {O P : List Nat → Pc → Prop} (h : ∀ tx pc, O tx pc → P tx pc) {b : Bool} {ps : List (List Nat × Pc)} (S : Seq O b ps) : Seq P b ps := by
  induction S with
  | nil => exact .nil
  | sign _ hj ih => exact .sign ih hj
  | opnd _ ho ih => exact .opnd ih (h _ _ ho)
  | mark _ hj ih => exact .mark ih hj
theorem led_mix2 {h₀ h : Heap} {L : Addr} {q a b c d : Addr × Obj} {tl' tl : List (Addr × Obj)} (N : News h₀ L h (q :: (tl' ++ (a :: b :: c :: d :: tl)))) : News h₀ L h (q :: a :: b :: c :: d :: (tl' ++ tl)) := news_sub N (by grind)
theorem lex_row {b : Bool} {ps : List (List Nat × Pc)} (S : Seq Opnd b ps) : lexAll (textOf ps) = .ok (toksOf 0 ps) := lex_seq (S.mono fun _ _ => Opnd.opn)
end Mine
namespace Mine
open PySem PySem.W PyProof.Rows PySem.NumText
set_option maxRecDepth 100000
theorem digitsVal_lt : ∀ l : List Nat, AllDigits l → digitsVal l < 10 ^ l.length := by
  have key : ∀ (l : List Nat) (acc : Nat), AllDigits l → l.foldl (fun a c => a * 10 + (c - 48)) acc + 1 ≤ (acc + 1) * 10 ^ l.length := by
    intro l
    induction l with
    | nil => intro acc _; simp
    | cons c l ih =>
      intro acc h
      have hc := h c (.head _)
      have := ih (acc * 10 + (c - 48)) fun d hd => h d (.tail _ hd)
      rw [List.foldl_cons, List.length_cons, Nat.pow_succ]
      refine Nat.le_trans this ?_
      rw [Nat.mul_comm (10 ^ l.length) 10, ← Nat.mul_assoc]
      exact Nat.mul_le_mul_right _ (by omega)
  intro l h
  have := key l 0 h
  unfold digitsVal
  omega
theorem strip10_facts (k : Nat) : ∀ (m : Nat) (p : Int), m ≠ 0 → m < 10 ^ k → (strip10 m p).1 ≤ m ∧ p ≤ (strip10 m p).2 ∧ (strip10 m p).2 ≤ p + k ∧ (strip10 m p).1 % 10 ≠ 0 := by
  induction k with
  | zero => intro m p h0 h; simp at h; omega
  | succ k ih =>
    intro m p h0 h
    by_cases hm : m % 10 = 0
    · rw [← strip10_on h0 hm]
      rw [Nat.pow_succ] at h
      have := ih (m / 10) (p + 1) (by omega) (by omega)
      omega
    · rw [strip10_of (fun z => hm z.2)]
      refine ⟨Nat.le_refl _, Int.le_refl _, ?_, hm⟩
      dsimp only
      omega
/-- a pair without noughts at its end -/
noncomputable def Norm (q : Nat × Int) : Prop := q = (0, 0) ∨ q.1 % 10 ≠ 0
theorem toldP_norm {q : Nat × Int} (h : Norm q) : toldP q.1 q.2 = q := by
  rcases h with rfl | h
  · rfl
  · rw [toldP, if_neg (by rintro z; rw [z] at h; exact h rfl), strip10_of (fun z => h z.2)]
theorem RealOf.facts {c : Nat} {must : Bool} {tx : List Nat} {q : Nat × Int} (h : RealOf c must tx q) : Norm q ∧ q.1 < 10 ^ 16 ∧ -60 ≤ q.2 ∧ q.2 ≤ 60 := by
  obtain ⟨wh, fr, pt, ex, h1, h2, h3, h4, h5, h6, h7, h8, rfl⟩ := h.ex
  have hd := digitsVal_lt _ (AllDigits.app h1.1 h2.1)
  have hl : (wh ++ fr).length ≤ 16 := by rw [List.length_append]; have := h1.2; have := h2.2; omega
  have hlt : digitsVal (wh ++ fr) < 10 ^ 16 := Nat.lt_of_lt_of_le hd (Nat.pow_le_pow_right (by decide) hl)
  have hx : -39 ≤ expP ex ∧ expP ex ≤ 39 := by
    cases ex with
    | none => exact ⟨by decide, by decide⟩
    | some e =>
      obtain ⟨k, sg, z⟩ := e
      have := (h7 k sg z rfl).1
      unfold expP
      dsimp only
      split <;> omega
  have hf := h2.2
  unfold toldP
  split
  · exact ⟨.inl rfl, by decide, by decide, by decide⟩
  · rename_i h0
    have := strip10_facts 16 (digitsVal (wh ++ fr)) (expP ex - (fr.length : Int)) h0 hlt
    refine ⟨.inr this.2.2.2, ?_, ?_, ?_⟩ <;> omega
theorem intText_len3 {e : Int} (h : -99 ≤ e) (h2 : e ≤ 99) : (intText e).length ≤ 3 := by
  have hl := natText_len (k := e.natAbs) (n := 2) (by decide) (by omega)
  unfold intText
  split
  · simp only [List.length_cons]; omega
  · omega
theorem showPair_len {c : Nat} {q : Nat × Int} (h1 : q.1 < 10 ^ 16) (h2 : -99 ≤ q.2) (h3 : q.2 ≤ 99) : (showPair c q).length ≤ 21 := by
  have a := natText_len (k := q.1) (n := 16) (by decide) h1
  have b := intText_len3 h2 h3
  unfold showPair
  split
  · simp only [List.length_append, List.length_cons, List.length_nil]; omega
  · split
    · simp only [List.length_append, List.length_cons, List.length_nil]; omega
    · split
      · simp only [List.length_append, List.length_cons, List.length_nil, List.length_replicate]; omega
      · simp only [List.length_append, List.length_cons, List.length_nil, List.length_take, List.length_drop]; omega
theorem val_zeros (z : Nat) (l : List Nat) : digitsVal (List.replicate z 48 ++ l) = digitsVal l := by
  induction z with
  | zero => rfl
  | succ z ih => rw [List.replicate_succ, List.cons_append, digitsVal_zero, ih]
theorem zeros_digits (z : Nat) : AllDigits (List.replicate z 48) := by
  intro c hc
  rw [(List.mem_replicate.mp hc).2]; omega
theorem showPair_tx {c : Nat} {q : Nat × Int} (hc : c ∈ [69, 68]) (hn : Norm q) : RealTx c (showPair c q) q := by
  have hne := natText_ne q.1
  have hd := natText_digits q.1
  have hv := natText_val q.1
  have ht := toldP_norm hn
  refine ⟨?_⟩
  unfold showPair
  split
  · refine ⟨natText q.1, [], true, some (q.2.natAbs, if q.2 < 0 then 2 else 0, 0), hd, fun c hc => (nomatch hc), by simpa using hne, fun h => absurd rfl h, fun _ h => (nomatch h), fun h => (nomatch h), ?_, ?_, ?_⟩
    · intro k sg z e
      simp only [Option.some.injEq, Prod.mk.injEq] at e
      rw [← e.2.1]
      split <;> decide
    · unfold intText expT
      split <;> simp [ptT, sgT, zT]
    · rw [List.append_nil, hv, List.length_nil]
      unfold expP
      dsimp only
      have : (if (if q.2 < 0 then 2 else 0) = 2 then -((q.2.natAbs : Nat) : Int) else ((q.2.natAbs : Nat) : Int)) - ((0 : Nat) : Int) = q.2 := by
        split
        · rw [if_pos rfl]; omega
        · rw [if_neg (by decide)]; omega
      rw [this, ht]
  · rename_i h1
    have hc69 : c ≠ 68 := fun z => h1 (.inl z)
    split
    · rename_i h2
      refine ⟨natText q.1, [], true, none, hd, fun c hc => (nomatch hc), by simpa using hne, fun h => absurd rfl h, fun z => absurd z hc69, fun h => (nomatch h), fun k sg z e => (nomatch e), by simp [ptT, expT], ?_⟩
      rw [List.append_nil, hv, List.length_nil]
      have : expP none - ((0 : Nat) : Int) = q.2 := by rw [h2]; rfl
      rw [this, ht]
    · rename_i h2
      split
      · rename_i h3
        refine ⟨[], List.replicate (-q.2 - (natText q.1).length).toNat 48 ++ natText q.1, true, none, fun c hc => (nomatch hc), AllDigits.app (zeros_digits _) hd, by simpa using fun _ => hne, fun h => rfl, fun z => absurd z hc69, fun h => (nomatch h), fun k sg z e => (nomatch e), by simp [ptT, expT], ?_⟩
        rw [List.nil_append, val_zeros, hv, List.length_append, List.length_replicate]
        have : expP none - (((-q.2 - (natText q.1).length).toNat + (natText q.1).length : Nat) : Int) = q.2 := by
          show (0 : Int) - _ = _
          omega
        rw [this, ht]
      · rename_i h3
        refine ⟨(natText q.1).take ((natText q.1).length - (-q.2).toNat), (natText q.1).drop ((natText q.1).length - (-q.2).toNat), true, none, fun c hc => hd c (List.mem_of_mem_take hc), fun c hc => hd c (List.mem_of_mem_drop hc), by rw [List.take_append_drop]; exact hne, fun h => rfl, fun z => absurd z hc69, fun h => (nomatch h), fun k sg z e => (nomatch e), by simp [ptT, expT], ?_⟩
        rw [List.take_append_drop, hv, List.length_drop]
        have : expP none - (((natText q.1).length - ((natText q.1).length - (-q.2).toNat) : Nat) : Int) = q.2 := by
          show (0 : Int) - _ = _
          omega
        rw [this, ht]
theorem dOk_str_of (n : Nat) {l : List Nat} (h : l.length ≤ 10 ∧ ∀ c ∈ l, c < 256) : dOk n (.str (str l)) = true := by
  have : (decide ((str l).cps.size ≤ 10) && (str l).cps.toList.all fun c => decide (c < 256)) = true := by
    rw [Bool.and_eq_true, List.all_eq_true, toList_str]
    exact ⟨decide_eq_true (by simpa [str] using h.1), fun c hc => decide_eq_true (h.2 c hc)⟩
  cases n <;> exact this
theorem dOk_int_of (n : Nat) {i : Int} (h : i.natAbs < 10 ^ 18) : dOk n (.int i) = true := by
  cases n <;> exact decide_eq_true h
theorem dOk_bool_of (n : Nat) (b : Bool) : dOk n (.bool b) = true := by cases n <;> rfl
theorem dOk_pair (n : Nat) {q : Nat × Int} (h1 : q.1 < 10 ^ 16) (h2 : -60 ≤ q.2) (h3 : q.2 ≤ 60) : dOk (n + 1) (pairD q) = true := by
  have a := dOk_int_of n (i := (q.1 : Int)) (by omega)
  have b := dOk_int_of n (i := q.2) (by omega)
  simp [pairD, dOk, a, b]
/-- what is so of a written piece -/
structure PcFacts (tx : List Nat) (pc : Pc) : Prop where
  opn : Opn (showP pc) pc
  len : (showP pc).length ≤ 21
  ok : PcOk pc
  dok : dOk 1 pc.val = true
theorem names_ok : ∀ j, j < 8 → (nameL j).length ≤ 10 ∧ ∀ c ∈ nameL j, c < 256 := by decide +kernel
theorem texts_ok : ∀ j, j < 8 → (textL j).length ≤ 10 ∧ (∀ c ∈ textL j, c < 256) ∧ ([39] ++ dbl (textL j) ++ [39]).length ≤ 21 := by decide +kernel
theorem signs_ok : ∀ j, j < 3 → (signL j).length ≤ 5 ∧ ∀ c ∈ signL j, c < 256 := by decide +kernel
theorem marks_ok : ∀ j, j < 24 → (markL j).length ≤ 6 ∧ ∀ c ∈ markL j, c < 256 := by decide +kernel
theorem kinds_ok (pc : Pc) : pc.kind.length ≤ 10 ∧ ∀ c ∈ pc.kind, c < 256 := by
  have : ∀ k ∈ [kNAME, kINT, kREAL, kDBLE, kCHAR, kLOG, kOP], k.length ≤ 10 ∧ ∀ c ∈ k, c < 256 := by decide
  refine this _ ?_
  cases pc <;> simp [Pc.kind]
theorem real_facts {c : Nat} {must : Bool} {tx : List Nat} {q : Nat × Int} (h : RealOf c must tx q) (hc : c ∈ [69, 68]) : RealTx c (showPair c q) q ∧ (showPair c q).length ≤ 21 ∧ (q.1 < 10 ^ 17 ∧ -100 ≤ q.2 ∧ q.2 ≤ 100) ∧ dOk 1 (pairD q) = true := by
  obtain ⟨f1, f2, f3, f4⟩ := h.facts
  exact ⟨showPair_tx hc f1, showPair_len f2 (by omega) (by omega), ⟨by omega, by omega, by omega⟩, dOk_pair 0 f2 f3 f4⟩
theorem Opnd.facts {tx : List Nat} {pc : Pc} (h : Opnd tx pc) : PcFacts tx pc := by
  cases h with
  | name j hj => exact ⟨.name j hj, by have := (names_form j hj).1; show (nameL j).length ≤ 21; omega, trivial, dOk_str_of _ (names_ok j hj)⟩
  | int z n hz hn =>
    refine ⟨?_, ?_, hn, dOk_int_of _ (by omega)⟩
    · have := Opn.int (natText_digits n) (natText_ne n)
      rw [natText_val] at this
      exact this
    · have := natText_len (k := n) (n := 9) (by decide) hn
      show (natText n).length ≤ 21
      omega
  | real h => have f := real_facts h (by decide); exact ⟨.real f.1, f.2.1, f.2.2.1, f.2.2.2⟩
  | dble h => have f := real_facts h (by decide); exact ⟨.dble f.1, f.2.1, f.2.2.1, f.2.2.2⟩
  | char j hj => exact ⟨.char j hj, (texts_ok j hj).2.2, ⟨j, hj, rfl⟩, dOk_str_of _ ⟨(texts_ok j hj).1, (texts_ok j hj).2.1⟩⟩
  | log j hj =>
    refine ⟨?_, ?_, trivial, dOk_bool_of _ _⟩
    · rcases (show j = 0 ∨ j = 1 by omega) with rfl | rfl
      · exact Opn.log 0 (by decide)
      · exact Opn.log 1 (by decide)
    · rcases (show j = 0 ∨ j = 1 by omega) with rfl | rfl <;> decide
/-- the same tokens, as they are shown -/
noncomputable def shownPs (ps : List (List Nat × Pc)) : List (List Nat × Pc) := ps.map fun p => (showP p.2, p.2)
theorem shownPs_app (a b : List (List Nat × Pc)) : shownPs (a ++ b) = shownPs a ++ shownPs b := List.map_append
theorem seq_shown {b : Bool} {ps : List (List Nat × Pc)} (S : Seq Opnd b ps) : Seq Opn b (shownPs ps) := by
  induction S with
  | nil => exact .nil
  | sign _ hj ih => rw [shownPs_app]; exact .sign ih hj
  | opnd _ ho ih => rw [shownPs_app]; exact .opnd ih ho.facts.opn
  | mark _ hj ih => rw [shownPs_app]; exact .mark ih hj
theorem textOf_shown (ps : List (List Nat × Pc)) : textOf (shownPs ps) = ((ps.map (·.2)).map showP).flatten := by
  simp [textOf, shownPs, List.map_map, Function.comp_def]
theorem lex_shown {b : Bool} {ps : List (List Nat × Pc)} (S : Seq Opnd b ps) : lexAll ((ps.map (·.2)).map showP).flatten = .ok (toksOf 0 (shownPs ps)) := by
  rw [← textOf_shown]
  exact lex_seq (seq_shown S)
theorem textOf_snoc_len (ps : List (List Nat × Pc)) (p : List Nat × Pc) : (textOf (shownPs (ps ++ [p]))).length = (textOf (shownPs ps)).length + (showP p.2).length := by
  rw [shownPs_app, textOf_app, List.length_append]
  simp [shownPs, textOf]
theorem shown_len' {b : Bool} {ps : List (List Nat × Pc)} (S : Seq Opnd b ps) : 2 * (textOf (shownPs ps)).length ≤ 27 * ps.length + (if b then 15 else 0) := by
  induction S with
  | nil => decide
  | sign _ hj ih =>
    rw [textOf_snoc_len, List.length_append]
    have : (showP (.op (signL _))).length ≤ 5 := (signs_ok _ hj).1
    simp only [List.length_cons, List.length_nil, Bool.false_eq_true, if_false] at ih ⊢
    omega
  | opnd _ ho ih =>
    rw [textOf_snoc_len, List.length_append]
    have := ho.facts.len
    simp only [List.length_cons, List.length_nil, Bool.false_eq_true, if_false, if_true] at ih ⊢
    omega
  | mark _ hj ih =>
    rw [textOf_snoc_len, List.length_append]
    have : (showP (.op (markL _))).length ≤ 6 := (marks_ok _ hj).1
    simp only [List.length_cons, List.length_nil, Bool.false_eq_true, if_false, if_true] at ih ⊢
    omega
theorem shown_len {b : Bool} {ps : List (List Nat × Pc)} (S : Seq Opnd b ps) (h : ps.length ≤ 21) : (((ps.map (·.2)).map showP).flatten).length ≤ 300 := by
  have := shown_len' S
  rw [textOf_shown] at this
  split at this <;> omega
theorem pcs_facts {b : Bool} {ps : List (List Nat × Pc)} (S : Seq Opnd b ps) : ∀ p ∈ ps, PcOk p.2 ∧ dOk 1 p.2.val = true := by
  induction S with
  | nil => exact fun p h => nomatch h
  | sign _ hj ih =>
    intro p hp
    rcases List.mem_append.mp hp with hp | hp
    · exact ih p hp
    · rw [List.mem_singleton.mp hp]
      exact ⟨trivial, dOk_str_of _ ⟨by have := (signs_ok _ hj).1; omega, (signs_ok _ hj).2⟩⟩
  | opnd _ ho ih =>
    intro p hp
    rcases List.mem_append.mp hp with hp | hp
    · exact ih p hp
    · rw [List.mem_singleton.mp hp]
      exact ⟨ho.facts.ok, ho.facts.dok⟩
  | mark _ hj ih =>
    intro p hp
    rcases List.mem_append.mp hp with hp | hp
    · exact ih p hp
    · rw [List.mem_singleton.mp hp]
      exact ⟨trivial, dOk_str_of _ ⟨by have := (marks_ok _ hj).1; omega, (marks_ok _ hj).2⟩⟩
theorem pcs_ok {b : Bool} {ps : List (List Nat × Pc)} (S : Seq Opnd b ps) : ∀ pc ∈ ps.map (·.2), PcOk pc := by
  intro pc h
  obtain ⟨p, hp, rfl⟩ := List.mem_map.mp h
  exact (pcs_facts S p hp).1
theorem dOk_tok {pc : Pc} {n : Nat} (h : dOk 1 pc.val = true) (hn : n ≤ 10 ^ 6) : dOk 2 (.tuple [.str (str pc.kind), pc.val, .int n]) = true := by
  have a := dOk_str_of 1 (kinds_ok pc)
  have b := dOk_int_of 1 (i := (n : Int)) (by omega)
  simp [dOk.eq_4, a, b, h]
theorem dOk_tok2 {pc : Pc} (h : dOk 1 pc.val = true) : dOk 2 (.tuple [.str (str pc.kind), pc.val]) = true := by
  have a := dOk_str_of 1 (kinds_ok pc)
  simp [dOk.eq_4, a, h]
theorem toks_ok_at : ∀ (ps : List (List Nat × Pc)) (n : Nat), (∀ p ∈ ps, dOk 1 p.2.val = true) → n + (textOf ps).length ≤ 10 ^ 6 → ∀ d ∈ toksOf n ps, dOk 2 d = true
  | [], _, _, _, d, hd => nomatch hd
  | p :: ps, n, h, hn, d, hd => by
    have e : (textOf (p :: ps)).length = p.1.length + (textOf ps).length := by simp [textOf]
    rw [e] at hn
    rw [toksOf] at hd
    rcases List.mem_cons.mp hd with rfl | hd
    · exact dOk_tok (h p (.head _)) (by omega)
    · exact toks_ok_at ps _ (fun q hq => h q (.tail _ hq)) (by omega) d hd
theorem toks_ok {b : Bool} {ps : List (List Nat × Pc)} (S : Seq Opnd b ps) (h : (textOf ps).length ≤ 300) : ∀ d ∈ toksOf 0 ps, dOk 2 d = true :=
  toks_ok_at ps 0 (fun p hp => (pcs_facts S p hp).2) (by omega)
/-- the tokens without their places -/
noncomputable def toks2 (ps : List (List Nat × Pc)) : List Dat := ps.map fun p => .tuple [.str (str p.2.kind), p.2.val]
theorem toks2_ok {b : Bool} {ps : List (List Nat × Pc)} (S : Seq Opnd b ps) : ∀ d ∈ toks2 ps, dOk 2 d = true := by
  intro d hd
  obtain ⟨p, hp, rfl⟩ := List.mem_map.mp hd
  exact dOk_tok2 (pcs_facts S p hp).2
theorem toks2_shown (ps : List (List Nat × Pc)) : toks2 (shownPs ps) = toks2 ps := by
  simp [toks2, shownPs, List.map_map, Function.comp_def]
end Mine
namespace Mine
open PySem PySem.W PyProof.Rows PySem.NumText
set_option maxRecDepth 100000
section
variable (l : List Nat) (n : Nat)
theorem runAt_sh (k : Nat) (p : List Nat) : runAt l (n + k) p = n + runAt (l.drop n) k p := by
  unfold runAt
  rw [List.drop_drop, Nat.add_assoc]
theorem cut_sh (a b : Nat) : cut l (n + a) (n + b) = cut (l.drop n) a b := by
  unfold cut
  rw [List.drop_drop, Nat.add_sub_add_left]
theorem get_sh (k : Nat) : l[n + k]? = (l.drop n)[k]? := by rw [List.getElem?_drop]
theorem wordAt_sh (k : Nat) : wordAt l (n + k) = wordAt (l.drop n) k := by
  unfold wordAt
  rw [Nat.add_assoc, runAt_sh, Nat.add_assoc, cut_sh]
theorem dottedAt_sh (k : Nat) : dottedAt l (n + k) = dottedAt (l.drop n) k := by
  unfold dottedAt
  rw [wordAt_sh]
theorem begunAt_sh (k : Nat) : begunAt l (n + k) = n + begunAt (l.drop n) k := by
  unfold begunAt
  rw [Nat.add_assoc, get_sh]
  split
  · split <;> omega
  · omega
theorem powerAt_sh (k : Nat) : powerAt l (n + k) = ((powerAt (l.drop n) k).1, (powerAt (l.drop n) k).2.1, n + (powerAt (l.drop n) k).2.2) := by
  unfold powerAt
  dsimp only
  rw [get_sh, begunAt_sh, runAt_sh, Nat.add_assoc, get_sh, cut_sh]
  split
  · rfl
  · split
    · have : (n + runAt (List.drop n l) (begunAt (List.drop n l) k) digs = n + begunAt (List.drop n l) k) = (runAt (List.drop n l) (begunAt (List.drop n l) k) digs = begunAt (List.drop n l) k) := propext (by omega)
      simp only [this]
      split <;> rfl
    · rfl
theorem hasPoint_sh (k : Nat) : hasPoint l (n + k) = hasPoint (l.drop n) k := by
  unfold hasPoint
  rw [get_sh, dottedAt_sh]
theorem fracAt_sh (k : Nat) : fracAt l (n + k) = fracAt (l.drop n) k := by
  unfold fracAt
  rw [hasPoint_sh, Nat.add_assoc, runAt_sh, cut_sh]
theorem numEnd_sh (k : Nat) : numEnd l (n + k) = n + numEnd (l.drop n) k := by
  unfold numEnd
  rw [hasPoint_sh, Nat.add_assoc, runAt_sh]
  split <;> rfl
theorem numDigits_sh (k : Nat) : numDigits l (n + k) = numDigits (l.drop n) k := by
  unfold numDigits
  rw [runAt_sh, cut_sh, fracAt_sh]
noncomputable def shQ (q : List Nat × Dat × Nat) : List Nat × Dat × Nat := (q.1, q.2.1, n + q.2.2)
noncomputable def shE (o : Except Nat (List Nat × Dat × Nat)) : Except Nat (List Nat × Dat × Nat) := match o with
  | .error k => .error (n + k)
  | .ok q => .ok (shQ n q)
theorem numberAt_sh (k : Nat) : numberAt l (n + k) = shQ n (numberAt (l.drop n) k) := by
  unfold numberAt
  simp only [runAt_sh, numEnd_sh, powerAt_sh, hasPoint_sh, cut_sh, numDigits_sh, fracAt_sh]
  split <;> rfl
theorem nameAt_sh (k : Nat) : nameAt l (n + k) = shE n (nameAt (l.drop n) k) := by
  unfold nameAt
  rw [runAt_sh, cut_sh, Nat.add_sub_add_left]
  split <;> rfl
theorem wordTok_sh (k : Nat) : wordTok l (n + k) = shE n (wordTok (l.drop n) k) := by
  unfold wordTok
  rw [dottedAt_sh]
  split
  · rfl
  · split <;> simp [shE, shQ, Nat.add_assoc]
theorem pointAt_sh (k : Nat) : pointAt l (n + k) = shE n (pointAt (l.drop n) k) := by
  unfold pointAt
  rw [Nat.add_assoc, get_sh, numberAt_sh, wordTok_sh]
  split
  · split <;> rfl
  · rfl
theorem qGo_sh : ∀ (x acc : List Nat) (k : Nat), qGo x acc (n + k) = (qGo x acc k).map fun q => (q.1, n + q.2)
  | [], _, _ => rfl
  | [c], acc, k => by
    rw [qGo, qGo]
    split <;> rfl
  | c :: d :: r, acc, k => by
    rw [qGo, qGo, Nat.add_assoc, Nat.add_assoc, qGo_sh r, qGo_sh (d :: r)]
    split
    · split <;> rfl
    · rfl
theorem quotedAt_sh (k : Nat) : quotedAt l (n + k) = shE n (quotedAt (l.drop n) k) := by
  unfold quotedAt
  rw [Nat.add_assoc, List.drop_drop, qGo_sh]
  cases qGo (List.drop (n + (k + 1)) l) [] (k + 1) <;> rfl
theorem tokenAt_sh (k c : Nat) : tokenAt l (n + k) c = shE n (tokenAt (l.drop n) k c) := by
  unfold tokenAt
  rw [nameAt_sh, numberAt_sh, pointAt_sh, quotedAt_sh, Nat.add_assoc, get_sh]
  split
  · rfl
  · split
    · rfl
    · split
      · rfl
      · split
        · rfl
        · split
          · rfl
          · split <;> rfl
theorem lexF_sh : ∀ (f k e : Nat), lexF (l.drop n) f k = .error e → lexF l f (n + k) = .error (n + e)
  | 0, _, _, h => by rw [lexF] at h; cases h
  | f + 1, k, e, h => by
    rw [lexF] at h ⊢
    rw [get_sh]
    split at h
    · cases h
    · rename_i c hc
      rw [tokenAt_sh]
      split at h
      · rename_i k2 h2
        rw [h2]
        cases h
        rfl
      · rename_i q h2
        rw [h2]
        show Except.map _ (lexF l f (n + q.2.2)) = _
        cases h3 : lexF (l.drop n) f q.2.2 with
        | ok ds => rw [h3] at h; cases h
        | error e2 =>
          rw [h3] at h
          cases h
          rw [lexF_sh f _ _ h3]
          rfl
end
theorem lexF_mono (l : List Nat) (g : Nat) : ∀ (f k e : Nat), lexF l f k = .error e → lexF l (f + g) k = .error e
  | 0, _, _, h => by rw [lexF] at h; cases h
  | f + 1, k, e, h => by
    rw [Nat.add_right_comm, lexF]
    rw [lexF] at h
    split at h
    · cases h
    · rename_i c hc
      try dsimp only
      split at h
      · exact h
      · rename_i q h2
        cases h3 : lexF l f q.2.2 with
        | ok ds => rw [h3] at h; cases h
        | error e2 =>
          rw [h3] at h
          rw [lexF_mono l g f _ _ h3]
          exact h
noncomputable def errOf (o : Except Nat (List Dat)) : Option Nat := match o with
  | .error k => some k
  | .ok _ => none
theorem errOf_is {o : Except Nat (List Dat)} {k : Nat} (h : errOf o = some k) : o = .error k := by
  cases o with
  | error e => cases h; rfl
  | ok ds => cases h
theorem bad_each : ∀ j, j < 14 → errOf (lexAll (badL j)) = some (badN j) := by decide +kernel
theorem bad_form : ∀ j, j < 14 → (badL j).length ≤ 9 ∧ badN j ≤ 9 ∧ (badL j).headD 0 ≠ 42 ∧ (badL j).headD 0 ≠ 47 := by decide +kernel
theorem bad_sep {j : Nat} (hj : j < 14) : SepM (badL j) := by
  intro c r e
  obtain ⟨_, _, h1, h2⟩ := bad_form j hj
  rw [e] at h1 h2
  exact ⟨h1, h2⟩
/-- behind a comma a bad piece is a fault at its place -/
theorem lex_bad {b : Bool} {ps : List (List Nat × Pc)} (S : Seq Opn b ps) {j : Nat} (hj : j < 14) : lexAll (textOf ps ++ [44] ++ badL j) = .error ((textOf ps).length + 1 + badN j) := by
  have hl := seq_ne opn_ne S
  have h1 : Lexes ps ([44] ++ badL j) := seq_lex S _ (by
    cases b
    · intro c r e
      cases e
      exact ⟨by decide, by decide⟩
    · exact SepO.sign 44 _ (by decide))
  have h2 : Lexes (ps ++ [([44], .op [44])]) (badL j) := lexes_snoc h1 fun l n hl => op_lex (.inr (.inl ⟨44, by decide, rfl⟩)) (bad_sep hj) hl
  have e0 : textOf (ps ++ [([44], .op [44])]) = textOf ps ++ [44] := by rw [textOf_app, textOf_one]
  have h3 := h2 (textOf ps ++ [44] ++ badL j) 0 ((badL j).length + 1 + ((textOf ps).length - ps.length)) (by rw [e0]; rfl)
  have e1 : (ps ++ [(([44] : List Nat), Pc.op [44])]).length + ((badL j).length + 1 + ((textOf ps).length - ps.length)) = (textOf ps ++ [44] ++ badL j).length + 1 := by
    simp only [List.length_append, List.length_cons, List.length_nil]
    omega
  rw [e1] at h3
  unfold lexAll
  rw [h3, e0, Nat.zero_add]
  have h4 : lexF (badL j) ((badL j).length + 1) 0 = .error (badN j) := errOf_is (bad_each j hj)
  have h5 : (textOf ps ++ [44] ++ badL j).drop (textOf ps ++ [44]).length = badL j := List.drop_left
  have h6 : lexF (textOf ps ++ [44] ++ badL j) ((badL j).length + 1) (textOf ps ++ [44]).length = .error ((textOf ps ++ [44]).length + badN j) := lexF_sh (textOf ps ++ [44] ++ badL j) (textOf ps ++ [44]).length ((badL j).length + 1) 0 (badN j) (by rw [h5]; exact h4)
  rw [lexF_mono _ _ _ _ _ h6]
  simp [Except.map]
end Mine
namespace Mine
open PySem PySem.W PyProof.Rows PySem.NumText
set_option maxRecDepth 100000
section
variable {prog : Program} {w : World} {A : Around} {E : Value → Shared → Prop} {s : Shared} {h₀ : Heap} {L : Addr} {m : Str → Option Value} {news : List (Addr × Obj)}
theorem item_mem {value slice : Expr} {D : Addr} {its : Array Value} {n : Nat} {k : Int} {t : Tok} {v : Value} {Q : Value → Shared → Prop} (N : News h₀ L s.heap news) (hm : (D, PySem.W.listOf its n) ∈ news) (h0 : 0 ≤ k) (h1 : k < 2 ^ 63) (hx : its[k.toNat]? = some v) (h : Q v s)
    (hs : subscripted slice false (.ref D) (.int k t) = operate [.ref D, .int k t] (getItem (.ref D) (.int k t))) : wpAny (model prog w) A (subscriptTail value slice (.ref D) (.int k t)) Q E s :=
  item_head (rest := news) (fun p hp => (List.mem_cons.mp hp).elim (fun e => e ▸ N _ hm) (N p)) h0 h1 hx h hs
theorem row_one {value slice : Expr} {D : Addr} {x y : Value} {n : Nat} {t : Tok} {Q : Value → Shared → Prop} (N : News h₀ L s.heap news) (hm : (D, PySem.W.listOf #[x, y] n) ∈ news) (h : Q x s)
    (hs : subscripted slice false (.ref D) (.int 0 t) = operate [.ref D, .int 0 t] (getItem (.ref D) (.int 0 t))) : wpAny (model prog w) A (subscriptTail value slice (.ref D) (.int 0 t)) Q E s := item_mem N hm (by decide) (by decide) rfl h hs
theorem row_two {value slice : Expr} {D : Addr} {x y : Value} {n : Nat} {t : Tok} {Q : Value → Shared → Prop} (N : News h₀ L s.heap news) (hm : (D, PySem.W.listOf #[x, y] n) ∈ news) (h : Q y s)
    (hs : subscripted slice false (.ref D) (.int 1 t) = operate [.ref D, .int 1 t] (getItem (.ref D) (.int 1 t))) : wpAny (model prog w) A (subscriptTail value slice (.ref D) (.int 1 t)) Q E s := item_mem N hm (by decide) (by decide) rfl h hs
theorem str_same {x : Str} {t u : Tok} {Q : Value → Shared → Prop} (h : Q (.bool false) s) : wpAny (model prog w) A (compareOp .NotEq (.str x t) (.str x u)) Q E s :=
  ne_str (by simpa using h)
theorem cut_two {sl : Addr} {u : Tok} {Q : Int × Int × Nat → Shared → Prop} (hs : s.heap.IsSliceOf sl .none (.int 2 u) .none) (h : Q (0, 1, 2) s) : wpAny (model prog w) A (Builtin.Slice.sliceApplied (.ref sl) (pure (3 : Int))) Q E s := by
  obtain ⟨os, hos, hcs, hds⟩ := id hs
  unfold Builtin.Slice.sliceApplied Builtin.Slice.sliceFields
  refine wpAny_bind (wpAny_bind (wpAny_field hos hds (x := .none) rfl (wpAny_bind (wpAny_field hos hds (x := .int 2 u) rfl (wpAny_bind (wpAny_field hos hds (x := .none) rfl (wpAny_pure ?_)))))))
  refine wpAny_bind (slicePart_none ?_)
  show wpAny _ _ (if ((1 : Int) == 0) = true then _ else _) _ _ s
  rw [if_neg (by decide)]
  refine wpAny_bind (slicePart_none (wpAny_bind (slicePart_int (wpAny_bind (wpAny_pure ?_)))))
  exact wpAny_pure h
/-- the first two of a tuple's three -/
theorem item_two {t sl : Addr} {x y z : Value} {nn : Nat} {u : Tok} {Q : Value → Shared → Prop} (ht : s.heap.get? t = some { cls := .type "tuple", data := .seq #[x, y, z] nn }) (hs : s.heap.IsSliceOf sl .none (.int 2 u) .none)
    (h : Q (.ref s.heap.objs.size) { s with heap := s.heap.push { cls := .type "tuple", data := .seq #[x, y] } }) : wpAny (model prog w) A (getItem (.ref t) (.ref sl)) Q E s := by
  have hT : IsTup s.heap t #[x, y, z] := ⟨_, ht, rfl, _, rfl⟩
  have hfit : sizeOk (.seq #[x, y]) := by show (2 : Nat) ≤ sizeLine; rw [show sizeLine = 16777216 from rfl]; omega
  obtain ⟨os, hos, hcs, hds⟩ := id hs
  have hTs : s.TypeIs (.ref sl) "slice" := ⟨os, hos, hcs⟩
  unfold getItem
  try with_reducible refine wpAny_holding ?_
  first | refine wpAny_bind (wpAny_pure ?_) | skip
  refine wpAny_bind (wpAny_sequenceKey hT.typeIs (by decide) ?_)
  refine wpAny_bind (wpAny_callSpecial?_slot (name := Str.ofString "__getitem__") hT.typeIs slot_tuple_getitem
    (wpAny_call_entry slot_tuple_getitem hT.typeIs entry_tuple_getitem ?_ (args_tuple_getitem _ _)))
  show wpAny _ _ (Builtin.Tuple.tupleItemsOf (.ref t) >>= _) _ _ s
  refine wpAny_bind (tupleItemsOf_ hT ?_)
  refine wpAny_bind (wpAny_typeOf hTs ?_)
  rw [if_pos (by decide)]
  refine wpAny_bind (cut_two hs ?_)
  show wpAny _ _ (if ((0 : Int) == 0 && (1 : Int) == 1 && (2 : Nat) == 3) = true then _ else _) _ _ s
  rw [if_neg (by decide)]
  first
    | exact wpAny_bind (m := Builtin.Tuple.tupleExact _) (wpAny_newObj_type (wpAny_pure ⟨_, rfl, wpAny_pure h⟩) hfit)
    | exact wpAny_bind (m := Builtin.Tuple.tupleExact _) (wpAny_newObj_type (wpAny_bind (wpAny_pure (wpAny_pure ⟨_, rfl, wpAny_pure h⟩))) hfit)
    | exact wpAny_bind (wpAny_bind (m := Builtin.Tuple.tupleExact _) (wpAny_newObj_type (wpAny_pure (wpAny_pure ⟨_, rfl, wpAny_pure h⟩)) hfit))
    | exact wpAny_bind (wpAny_bind (m := Builtin.Tuple.tupleExact _) (wpAny_newObj_type (wpAny_pure ⟨_, rfl, wpAny_pure h⟩) hfit))
theorem two_of {value slice : Expr} {t : Addr} {x y z : Value} {nn : Nat} {u : Tok} {Q : Value → Shared → Prop} (F : Fr h₀ L s.heap m) (N : News h₀ L s.heap news) (hm : (t, ({ cls := .type "tuple", data := .seq #[x, y, z] nn } : Obj)) ∈ news)
    (h : ∀ D h', Fr h₀ L h' m → News h₀ L h' ((D, { cls := .type "tuple", data := .seq #[x, y] }) :: news) → (∀ p ∈ news, p.1 < D) → Q (.ref D) { s with heap := h' })
    (hs : subscripted slice false (.ref t) (.ref s.heap.objs.size) = operate [.ref s.heap.objs.size, .ref t] (getItem (.ref t) (.ref s.heap.objs.size)))
    (hg : ∀ r, letTemporaryGo value (.ref t) r = pure ()) :
    wpAny (model prog w) A (subscriptTail value slice (.ref t) (.ref s.heap.objs.size)) Q E { s with heap := s.heap.push { cls := .type "slice", data := .fields #[.none, .int 2 u, .none] } } := by
  have ht := Heap.get?_push_of_some { cls := .type "slice", data := .fields #[.none, .int 2 u, .none] } (N _ hm).1
  have hT : IsTup (s.heap.push { cls := .type "slice", data := .fields #[.none, .int 2 u, .none] }) t #[x, y, z] := ⟨_, ht, rfl, _, rfl⟩
  refine subscriptTail_ops (s := { s with heap := s.heap.push { cls := .type "slice", data := .fields #[.none, .int 2 u, .none] } }) hT.typeIs slot_tuple_getitem.lookup
    (item_two ht (Heap.IsSliceOf.new ..) ?_) hs hg
  have N1 := News.push (F.push { cls := .type "slice", data := .fields #[.none, .int 2 u, .none] }) (N.grown fun _ _ e => Heap.get?_push_of_some _ e) { cls := .type "tuple", data := .seq #[x, y] }
  rw [Heap.size_push] at N1
  show Q (.ref (s.heap.push _).objs.size) _
  rw [Heap.size_push]
  exact h _ _ ((F.push _).push _) N1 fun p hp => Nat.lt_succ_of_lt (Heap.lt_size (N p hp).1)
end
open LCg in
theorem rest_tups {prog : Program} {w : World} {A : Around} {h₀ : Heap} {L : Addr} {m : Str → Option Value} {env : Env} {elt : Expr} {x : Str} {scope : Scope} {cl : List (Str × Addr)} {s : Shared} {S : List (Addr × Obj) → Prop} {Fin : List Value → List (Addr × Obj) → Prop} {news : List (Addr × Obj)}
    {us : List Value} {es : List Dat} (hlen : us.length = es.length)
    (turn : ∀ (i : Nat) (v : Value) (d : Dat) I oI C oC D m₂ ys h tk tl (E' : Value → Shared → Prop), us[i]? = some v → es[i]? = some d → NsObj oC m₂ → m₂ x = some v → Fr h₀ L h m → News h₀ L h ((I, oI) :: (C, oC) :: (D, lst ys) :: (tl ++ news)) → Off3 I C D (tl ++ news) → ((@Ne Nat I C) ∧ (@Ne Nat I D) ∧ (@Ne Nat C D)) →
      wpAny (model prog w) A (eval elt (compEnvC scope cl C env)) (CompEnd h₀ L m { s with heap := h, toks := tk } I oI C oC D (lst ys) S (fun y news' => ∃ p, news' = p :: (tl ++ news) ∧ p.2.cls = .type "tuple" ∧ DatIn news' y d)) E' { s with heap := h, toks := tk })
    (fin : ∀ ys tl, Tups tl → DatAll (tl ++ news) ys es → Fin ys (tl ++ news)) : CompRest prog w A h₀ L m env elt x scope cl s S (fun i v => us.toArray[i]? = some v) Fin us.toArray.size 0 [] news := by
  have key : ∀ (j i : Nat) (ys : List Value) (tl : List (Addr × Obj)), i + j = us.length → Tups tl → DatAll (tl ++ news) ys (es.take i) → CompRest prog w A h₀ L m env elt x scope cl s S (fun i v => us.toArray[i]? = some v) Fin j i ys (tl ++ news) := by
    intro j
    induction j with
    | zero =>
      intro i ys tl hi hT hy
      rw [List.take_of_length_le (by omega)] at hy
      exact CompRest.zero (fin ys tl hT hy)
    | succ j ih =>
      intro i ys tl hi hT hy
      refine CompRest.succ ?_
      intro v I oI C oC D m₂ h tk E' hv hC hx F N off ne
      have hv' : us[i]? = some v := by simpa using hv
      have hi' : i < es.length := by omega
      refine wpAny_mono (turn i v es[i] I oI C oC D m₂ ys h tk tl E' hv' (List.getElem?_eq_getElem hi') hC hx F N off ne) (fun y s₂ hq => ?_) fun _ _ e => e
      obtain ⟨h', tk', nw, e, F', N', off', hS, p, hn, hc, hd⟩ := hq
      subst hn
      refine ⟨h', tk', (p :: tl) ++ news, e, F', N', off', hS, ?_⟩
      refine ih (i + 1) _ (p :: tl) (by omega) (fun q hq => (List.mem_cons.mp hq).elim (fun e => e ▸ hc) (hT q)) ?_
      rw [List.take_add_one, List.getElem?_eq_getElem hi']
      exact (hy.mono fun q hq => .tail _ hq).append (.one hd)
  rw [List.size_toArray]
  exact key us.length 0 [] [] (by omega) tups_nil .nil
end Mine
namespace Mine
open PySem PySem.W PyProof.Rows PySem.NumText
set_option maxRecDepth 100000
theorem datAll_get {X : List (Addr × Obj)} : ∀ {us : List Value} {ds : List Dat} {i : Nat} {v : Value} {d : Dat}, DatAll X us ds → us[i]? = some v → ds[i]? = some d → DatIn X v d
  | _, _, i, _, _, .nil, h, _ => by simp at h
  | _, _, 0, _, _, .cons hd _, h, h2 => by simp at h h2; subst h h2; exact hd
  | _, _, i + 1, _, _, .cons _ r, h, h2 => datAll_get (i := i) r (by simpa using h) (by simpa using h2)
theorem toksOf_get : ∀ (ps : List (List Nat × Pc)) (n i : Nat) (p : List Nat × Pc), ps[i]? = some p → ∃ j : Nat, (toksOf n ps)[i]? = some (pcD p.2 j)
  | [], _, _, _, h => by simp at h
  | q :: ps, n, 0, p, h => by simp at h; subst h; exact ⟨n, rfl⟩
  | q :: ps, n, i + 1, p, h => by
    obtain ⟨j, hj⟩ := toksOf_get ps (n + q.1.length) i p (by simpa using h)
    exact ⟨j, by rw [toksOf]; simpa using hj⟩
theorem toks_at {X : List (Addr × Obj)} {us : List Value} {ps : List (List Nat × Pc)} (h : DatAll X us (toksOf 0 ps)) : ∀ (i : Nat) (v : Value) (pc : Pc), us[i]? = some v → (ps.map (·.2))[i]? = some pc → TokAt X v pc := by
  intro i v pc hv hp
  rw [List.getElem?_map] at hp
  cases hq : ps[i]? with
  | none => rw [hq] at hp; cases hp
  | some p =>
    rw [hq] at hp
    cases hp
    obtain ⟨j, hj⟩ := toksOf_get ps 0 i p hq
    exact tokAt_of (datAll_get h hv hj)
theorem toks_two {X : List (Addr × Obj)} {us : List Value} {ps : List (List Nat × Pc)} (h : DatAll X us (toksOf 0 ps)) {i : Nat} {v : Value} {d : Dat} (hv : us[i]? = some v) (hd : (toks2 ps)[i]? = some d) :
    ∃ (pc : Pc) (b : Addr) (t1 t2 : Tok) (j : Int) (k : Nat) (v' : Value), d = .tuple [.str (str pc.kind), pc.val] ∧ v = .ref b ∧ (b, ({ cls := .type "tuple", data := .seq #[.str (str pc.kind) t1, v', .int j t2] k } : Obj)) ∈ X ∧ DatIn X v' pc.val := by
  unfold toks2 at hd
  rw [List.getElem?_map] at hd
  cases hq : ps[i]? with
  | none => rw [hq] at hd; cases hd
  | some p =>
    rw [hq] at hd
    cases hd
    obtain ⟨b, t1, t2, j, k, v', e, hm, hD⟩ := toks_at h i v p.2 hv (by rw [List.getElem?_map, hq]; rfl)
    exact ⟨p.2, b, t1, t2, j, k, v', rfl, e, hm, hD⟩
theorem toks_lens {X : List (Addr × Obj)} {us : List Value} {ps : List (List Nat × Pc)} (h : DatAll X us (toksOf 0 ps)) : us.length = ps.length ∧ us.length = (toks2 ps).length := by
  have := h.length
  rw [toksOf_len] at this
  exact ⟨this, by rw [this]; simp [toks2]⟩
theorem shown_sum {b : Bool} {ps : List (List Nat × Pc)} (S : Seq Opnd b ps) (h : ps.length ≤ 21) : (((ps.map (·.2)).map showP).map List.length).sum ≤ 10000 := by
  have := shown_len S h
  rw [List.length_flatten] at this
  omega
section
variable {h₀ h : Heap} {L : Addr}
theorem led_mix3 {q a b c d e : Addr × Obj} {tl' tl : List (Addr × Obj)} (N : News h₀ L h (q :: (tl' ++ (a :: b :: c :: d :: e :: tl)))) : News h₀ L h (q :: a :: b :: c :: d :: e :: (tl' ++ tl)) := news_sub N (by grind)
theorem news_put {A : List (Addr × Obj)} {p : Addr × Obj} (N : News h₀ L h A) (hm : p ∈ A) : News h₀ L h (p :: A) := fun q hq => (List.mem_cons.mp hq).elim (fun e => e ▸ N _ hm) (N q)
theorem pack1 {D : Addr} {ys us1 : List Value} {es ds : List Dat} {tl9 T : List (Addr × Obj)} {b2 b1 a b c d : Addr × Obj} (N : News h₀ L h ((D, LCg.lst ys) :: (tl9 ++ (b2 :: b1 :: a :: b :: c :: d :: T)))) (hY : DatAll (tl9 ++ (b2 :: b1 :: a :: b :: c :: d :: T)) ys es) (h1 : DatAll T us1 ds) :
    ∃ X, News h₀ L h ((D, PySem.W.listOf ys.toArray ys.length) :: b1 :: a :: b :: d :: X) ∧ DatAll X ys es ∧ DatAll X us1 ds :=
  ⟨_, news_sub (B := (D, PySem.W.listOf ys.toArray ys.length) :: b1 :: a :: b :: d :: (tl9 ++ (b2 :: b1 :: a :: b :: c :: d :: T))) N (by grind), hY, h1.mono (by grind)⟩
theorem pack2 {D : Addr} {ysB ysA : List Value} {es ds : List Dat} {tl9 X : List (Addr × Obj)} {da b1 a b d : Addr × Obj} (N : News h₀ L h ((D, LCg.lst ysB) :: (tl9 ++ (da :: b1 :: a :: b :: d :: X)))) (hY : DatAll (tl9 ++ (da :: b1 :: a :: b :: d :: X)) ysB es) (h1 : DatAll X ysA ds) :
    ∃ Y, News h₀ L h ((D, PySem.W.listOf ysB.toArray ysB.length) :: da :: a :: b :: d :: Y) ∧ DatAll Y ysB es ∧ DatAll Y ysA ds :=
  ⟨_, news_sub (B := (D, PySem.W.listOf ysB.toArray ysB.length) :: da :: a :: b :: d :: (tl9 ++ (da :: b1 :: a :: b :: d :: X))) N (by grind), hY, h1.mono (by grind)⟩
theorem pack3 {bb tp rw_ ls sc : Addr} {its : Array Value} {kk ti nn n1 k0 : Nat} {t t1 : Tok} {x : List Nat} {ws : List Value} {tlb Y : List (Addr × Obj)} {d1 d2 : Addr × Obj}
    (N : News h₀ L h ((bb, PySem.W.listOf its kk) :: (tlb ++ (d1 :: d2 :: (tp, tapeO sc ti t nn) :: (rw_, rowO x t1 ls n1) :: (sc, PySem.W.listOf ws.toArray k0) :: Y)))) (hT : Tups tlb)
    (hlt : ∀ p ∈ d1 :: d2 :: (tp, tapeO sc ti t nn) :: (rw_, rowO x t1 ls n1) :: (sc, PySem.W.listOf ws.toArray k0) :: Y, p.1 < bb) (d : Dist tp rw_ ls sc) :
    News h₀ L h ((tp, tapeO sc ti t nn) :: (bb, PySem.W.listOf its kk) :: (rw_, rowO x t1 ls n1) :: (sc, PySem.W.listOf ws.toArray k0) :: tlb) ∧ ∀ p ∈ (bb, PySem.W.listOf its kk) :: (rw_, rowO x t1 ls n1) :: (sc, PySem.W.listOf ws.toArray k0) :: tlb, p.1 ≠ tp := by
  have N1 : News h₀ L h ((tp, tapeO sc ti t nn) :: (bb, PySem.W.listOf its kk) :: (rw_, rowO x t1 ls n1) :: (sc, PySem.W.listOf ws.toArray k0) :: tlb) := news_sub N (by grind)
  have h1 := hlt (tp, tapeO sc ti t nn) (.tail _ (.tail _ (.head _)))
  exact ⟨N1, off_cons (Nat.ne_of_gt h1) (off_cons d.rt (off_cons d.st (list_off N1 (.head _) (fun p hp => .tail _ (.tail _ (.tail _ (.tail _ hp)))) (fun p hp => .inl (hT p hp)))))⟩
end
theorem comma_is : Str.ofString "," = str [44] := by decide +kernel
theorem lex_row_bad {b : Bool} {ps : List (List Nat × Pc)} (S : Seq Opnd b ps) {j : Nat} (hj : j < 14) : lexAll (textOf ps ++ [44] ++ badL j) = .error ((textOf ps).length + 1 + badN j) := lex_bad (S.mono fun _ _ => Opnd.opn) hj
theorem shownPs_len (ps : List (List Nat × Pc)) : (shownPs ps).length = ps.length := List.length_map _
theorem toks2_len (ps : List (List Nat × Pc)) : (toks2 ps).length = ps.length := List.length_map _
end Mine
namespace Mine
open PySem PySem.W PyProof.Rows PySem.NumText
set_option maxRecDepth 100000
set_option maxHeartbeats 8000000
local macro_rules | `(tactic| walk_at "compareOp NotEq ref ref") => `(tactic| k_extra "compareOp NotEq ref ref")
local macro_rules | `(tactic| walk_at "call builtin:repr") => `(tactic| k_extra "call builtin:repr")
local macro_rules | `(tactic| walk_at "compareOp NotEq str str") => `(tactic| k_extra "compareOp NotEq str str")
local macro_rules | `(tactic| walk_at "eval ListComp") => `(tactic| k_extra "eval ListComp")
local macro_rules | `(tactic| walk_at "CompSrc") => `(tactic| k_extra "CompSrc")
local macro_rules | `(tactic| walk_at "CompEnd") => `(tactic| k_extra "CompEnd")
local macro_rules | `(tactic| walk_at "subscriptTail Name Slice ref ref") => `(tactic| k_extra "subscriptTail Name Slice ref ref")
local macro_rules | `(tactic| walk_at "binaryOp Add str str") => `(tactic| k_extra "binaryOp Add str str")
local macro_rules | `(tactic| walk_at "call builtin:len") => `(tactic| k_extra "call builtin:len")
local macro_rules | `(tactic| walk_at "subscriptTail") => `(tactic| k_extra "subscriptTail")
local macro_rules | `(tactic| walk_at "call ref") => `(tactic| k_extra "call ref")
set_option hygiene false in
local macro_rules | `(tactic| k_qdec) => `(tactic| decide +kernel)
set_option maxHeartbeats 32000000 in
theorem law_holds : PySem.Challenge.rw_no0240_01.Holds :=
  hd (by
    k_go0
    (all_goals try k_fold)
    k_with_none
    k_with "subscriptTail" => first
     | ((with_reducible show wpAny _ _ (subscriptTail _ _ (Value.ref rw_) (Value.int _ _)) _ _ _); (rename News _ _ _ _ => kN); (first | ((with_reducible show wpAny _ _ (subscriptTail _ _ (Value.ref rw_) (Value.int 0 _)) _ _ _); k_dflt (refine' row_one kN ?hm ?_ ?hs; (case hm => first | exact (.head _) | exact (.tail _ (.head _)) | exact (.tail _ (.tail _ (.head _))) | exact (.tail _ (.tail _ (.tail _ (.head _)))) | exact (.tail _ (.tail _ (.tail _ (.tail _ (.head _))))) | exact (.tail _ (.tail _ (.tail _ (.tail _ (.tail _ (.head _)))))) | exact (.tail _ (.tail _ (.tail _ (.tail _ (.tail _ (.tail _ (.head _))))))) | exact (.tail _ (.tail _ (.tail _ (.tail _ (.tail _ (.tail _ (.tail _ (.head _))))))))); (case hs => with_unfolding_all rfl))) | ((with_reducible show wpAny _ _ (subscriptTail _ _ (Value.ref rw_) (Value.int 1 _)) _ _ _); k_dflt (refine' row_two kN ?hm ?_ ?hs; (case hm => first | exact (.head _) | exact (.tail _ (.head _)) | exact (.tail _ (.tail _ (.head _))) | exact (.tail _ (.tail _ (.tail _ (.head _)))) | exact (.tail _ (.tail _ (.tail _ (.tail _ (.head _))))) | exact (.tail _ (.tail _ (.tail _ (.tail _ (.tail _ (.head _)))))) | exact (.tail _ (.tail _ (.tail _ (.tail _ (.tail _ (.tail _ (.head _))))))) | exact (.tail _ (.tail _ (.tail _ (.tail _ (.tail _ (.tail _ (.tail _ (.head _))))))))); (case hs => with_unfolding_all rfl)))); (try k_fold))
     | ((with_reducible show wpAny _ _ (subscriptTail _ _ (Value.ref bb) (Value.int _ _)) _ _ _); (have hz9 := hbj); ((obtain ⟨bt, bt1, bt2, btk, hit, hbm⟩ := hbad bj hbj); (rename News _ _ _ _ => kN); (k_dflt (refine' item_mem kN (D := bb) ?hm ?h0 ?h1 ?hx ?_ ?hs; (case hm => first | exact (.head _) | exact (.tail _ (.head _)) | exact (.tail _ (.tail _ (.head _))) | exact (.tail _ (.tail _ (.tail _ (.head _)))) | exact (.tail _ (.tail _ (.tail _ (.tail _ (.head _))))) | exact (.tail _ (.tail _ (.tail _ (.tail _ (.tail _ (.head _)))))) | exact (.tail _ (.tail _ (.tail _ (.tail _ (.tail _ (.tail _ (.head _))))))) | exact (.tail _ (.tail _ (.tail _ (.tail _ (.tail _ (.tail _ (.tail _ (.head _))))))))); (case h0 => omega); (case h1 => omega); (case hx => exact hit); (case hs => with_unfolding_all rfl))); (replace kN := news_put kN (p := (bt, _)) (.tail _ (.tail _ (.tail _ (.tail _ hbm))))); (try k_fold)))
     | ((have hz9 := hmk); ((rename News _ _ _ _ => kN); (k_dflt (refine' item_tab (f := markL) ?sbn ?sbk ?sbz ?sbf ?_ (by with_unfolding_all rfl); (case sbn => exact kN); (case sbk => (rw [hsz]; exact hmk)); (case sbz => (rw [hsz]; decide)); (case sbf => (intro j hj; exact htab j (hsz ▸ hj))))); (replace kN := news_tail kN); (intro vt); (have hmkl := (marks_form mk hmk).2.1); (try k_fold)))
     | ((have hz9 := hah); (obtain ⟨sg, rfl⟩ : ∃ sg, ahead = sg + 1 := ⟨ahead - 1, by omega⟩); (rw [show ((sg + 1 : Nat) : Int) - 1 = (sg : Int) from by omega]); ((rename News _ _ _ _ => kN); (k_dflt (refine' item_tab (f := signL) ?sbn ?sbk ?sbz ?sbf ?_ (by with_unfolding_all rfl); (case sbn => exact kN); (case sbk => exact (show sg < _ from by simp; omega)); (case sbz => (simp only [List.size_toArray, List.length_cons, List.length_nil]; omega)); (case sbf => (intro j hj; have hj3 : j = 0 ∨ j = 1 ∨ j = 2 := (by simp at hj; omega); rcases hj3 with rfl | rfl | rfl <;> first | exact ⟨_, congrArg (fun y => some (Value.str y _)) signL_0⟩ | exact ⟨_, congrArg (fun y => some (Value.str y _)) signL_1⟩ | exact ⟨_, congrArg (fun y => some (Value.str y _)) signL_2⟩)))); (replace kN := news_tail kN); (intro vt); (have hsg : sg < 3 := (by omega)); (have hsgl := (signsL_form sg hsg).2.1); (try k_fold)))
    k_with "InvEndG" => ((rename Fr _ _ _ _ => kF); (rename News _ _ _ _ => kN); (k_dflt (refine' turn_end kF kN hTl hR hD hSeq ?hb ?hti ?hx ?hps ?hm; (case hb => first | exact fun _ => rfl | (intro z9; exfalso; omega)); (case hti => omega); (case hx => omega); (case hps => omega); (case hm => (intro y z1 z2 z3 z4 z5 z6 z7; simp only [z1, z2, z3, z4, z5, z6, z7, if_false])))))
    k_with "call ref" => first
     | ((fail_if_success (have hz9 := dst)); ((rename News _ _ _ _ => kN); (obtain ⟨rw_, ls, tp, sc, rfl, rfl, rfl, rfl⟩ := named kN); (rename IntsAre _ (List.take 60 _) => hI60); (obtain ⟨ws, rfl⟩ := named2 hI60); (replace kN := led_start kN); (have dst : Dist tp rw_ ls sc := ⟨by k_ne, by k_ne, by k_ne, by k_ne, by k_ne, by k_ne⟩); ((k_dflt (refine' Draws.useK (take_draws _ tp sc 7 _ (by decide) (by decide)) ?k1 ?k2 ?k3 ?k5 ?k6 ?k7 ?k8 ?k4 ?ko ?ks ?ki ?_; (case k1 => k_asm); (case k2 => k_asm); (case k3 => k_asm); (case k4 => exact kN); (case k5 => k_asm); (case k6 => exact rfl); (case k7 => ktr_room); (case k8 => ktr_units); (case ko => exact off3 dst.rt dst.lt dst.st); (case ks => exact scr_take hI60 (.tail _ (.tail _ (.head _)))); (case ki => omega))); (intro cnt hcnt u1 i1 t1 n1 kh ktk hi1 kF kN); (try k_fold))))
     | ((rename News _ _ _ _ => kN); (k_dflt (refine' Draws.useK (take_draws _ tp sc 4 _ (by decide) (by decide)) ?k1 ?k2 ?k3 ?k5 ?k6 ?k7 ?k8 ?k4 ?ko ?ks ?ki ?_; (case k4 => exact kN); (case k1 => k_asm); (case k2 => k_asm); (case k3 => k_asm); (case k5 => k_asm); (case k6 => exact rfl); (case k7 => ktr_room); (case k8 => ktr_units); (case ko => exact led_off kN dst hTl hR); (case ks => (refine scr_take (ws := ws) (k := 0) hI60 ?_; exact List.mem_cons_of_mem _ (List.mem_cons_of_mem _ (List.mem_cons_self ..)))); (case ki => omega))); (clear kN); (intro ahead hah ua ti t nn kh ktk hti2 kF kN); (try k_fold))
     | ((have hz9 := hmk); ((rename News _ _ _ _ => kN); (try rw [OP_is]); (k_dflt (refine' put_led (.op (markL mk)) ?k1 ?k2 ?k3 ?k5 ?k6 ?k7 ?k8 ?k4 dst hTl hR hD ?hv ?hx ?htx ?hps ?_; (case k4 => exact kN); (case k1 => k_asm); (case k2 => k_asm); (case k3 => k_asm); (case k5 => k_asm); (case k6 => exact rfl); (case k7 => ktr_room); (case k8 => ktr_units); (case hv => exact .str _ _); (case hx => omega); (case htx => omega); (case hps => omega))); (clear kN hTl hD); (intro us tl t1 n2 kh ktk kF kN hTl hD hmono); (replace hSeq := Seq.mark hSeq hmk); (have hxl := seq_lens hSeq); (try k_fold)))
     | ((fail_if_success (have hz9 := hO)); ((rename News _ _ _ _ => kN); (try rw [OP_is]); (k_dflt (refine' put_led (.op (signL sg)) ?k1 ?k2 ?k3 ?k5 ?k6 ?k7 ?k8 ?k4 dst hTl hR hD ?hv ?hx ?htx ?hps ?_; (case k4 => exact kN); (case k1 => k_asm); (case k2 => k_asm); (case k3 => k_asm); (case k5 => k_asm); (case k6 => exact rfl); (case k7 => ktr_room); (case k8 => ktr_units); (case hv => exact .str _ _); (case hx => omega); (case htx => omega); (case hps => omega))); (clear kN hTl hD); (intro us tl t1 n2 kh ktk kF kN hTl hD hmono); (replace hSeq := Seq.sign hSeq hsg); (have hxl1 := seq_lens hSeq); (try k_fold)))
     | ((rename News _ _ _ _ => kN); (k_dflt (refine' operand_led (sc := sc) ?k1 ?k2 ?k3 ?k5 ?k6 ?k7 ?k8 ?k4 ?ko ?ks ?ki ?_; (case k4 => exact kN); (case k1 => k_asm); (case k2 => k_asm); (case k3 => k_asm); (case k5 => k_asm); (case k6 => exact rfl); (case k7 => ktr_room); (case k8 => ktr_units); (case ko => exact led_off kN dst hTl hR); (case ks => (refine scr_take (ws := ws) (k := 0) hI60 ?_; exact List.mem_cons_of_mem _ (List.mem_cons_of_mem _ (List.mem_cons_self ..)))); (case ki => omega))); (clear kN); (intro tx pc hO bo v uo1 uo2 no tl2 ti t nn kh ktk hti3 kF kN hT2 hv); (replace kN := led_mix kN); (replace hD := hD.mono (fun p hp => List.mem_append_right tl2 hp)); (replace hTl := tups_app hT2 hTl); (replace hv := hv.mono (fun p hp => List.mem_append_left tl hp)); (have hOl := hO.len); (try k_fold))
     | ((fail_if_success (have hz9 := hd1)); (rename News _ _ _ _ => kN); (k_dflt (refine' heard_ok hlx ?kx ?k1 ?k2 ?k3 ?k4 ?k5 ?k9 ?k10 ?k6 ?k7 ?k8 ?_; (case k4 => exact kN); (case k1 => k_asm); (case k2 => k_asm); (case k3 => k_asm); (case k5 => k_asm); (case k6 => exact rfl); (case k7 => ktr_room); (case k8 => ktr_units); (case k9 => k_asm); (case k10 => k_asm); (case kx => omega))); (clear kN); (intro b1 us1 nn1 tl1 kh ktk kF kN hT1 hd1 hof1); (replace kN := led_mix2 kN); (replace hD := hD.mono (fun p hp => List.mem_append_right tl1 hp)); (replace hd1 := hd1.mono (fun p hp => List.mem_append_left tl hp)); (replace hTl := tups_app hT1 hTl); (try k_fold))
     | ((fail_if_success (have hz9 := hopd)); ((rename News _ _ _ _ => kN); (replace kN := news_tail kN); (k_dflt (refine' put_led (pc) ?k1 ?k2 ?k3 ?k5 ?k6 ?k7 ?k8 ?k4 dst hTl hR hD ?hv ?hx ?htx ?hps ?_; (case k4 => exact kN); (case k1 => k_asm); (case k2 => k_asm); (case k3 => k_asm); (case k5 => k_asm); (case k6 => exact rfl); (case k7 => ktr_room); (case k8 => ktr_units); (case hv => exact hv); (case hx => omega); (case htx => omega); (case hps => omega))); (clear kN hTl hD); (intro us tl t1 n2 kh ktk kF kN hTl hD hmono); (have hopd := hv); (replace hSeq := Seq.opnd hSeq hO); (have hxl2 := seq_lens hSeq); (try k_fold)))
     | ((k_dflt (refine' TabOf.use (marks_tab _) ?k1 ?k2 ?k3 ?k5 ?k6 ?k7 ?k8 ?k4 ?_; (case k1 => k_asm); (case k2 => k_asm); (case k3 => k_asm); (case k4 => k_asm); (case k5 => k_asm); (case k6 => exact rfl); (case k7 => ktr_room); (case k8 => ktr_units))); (intro bb its kk9 kh ktk hsz htab kF kN hlt); (try k_fold))
     | ((rename News _ _ _ _ => kN); (replace kN := news_swap kN); (k_dflt (refine' Draws.useK (take_draws _ tp sc 24 _ (by decide) (by decide)) ?k1 ?k2 ?k3 ?k5 ?k6 ?k7 ?k8 ?k4 ?ko ?ks ?ki ?_; (case k4 => exact kN); (case k1 => k_asm); (case k2 => k_asm); (case k3 => k_asm); (case k5 => k_asm); (case k6 => exact rfl); (case k7 => ktr_room); (case k8 => ktr_units); (case ko => exact off_cons (Nat.ne_of_gt (hlt _ (.head _))) (led_off (news_sub kN (fun p hp => (List.mem_cons.mp hp).elim (fun e => e ▸ .head _) (fun h => .tail _ (.tail _ h)))) dst hTl hR)); (case ks => (refine scr_take (ws := ws) (k := 0) hI60 ?_; exact List.mem_cons_of_mem _ (List.mem_cons_of_mem _ (List.mem_cons_of_mem _ (List.mem_cons_self ..))))); (case ki => omega))); (clear kN); (intro mk hmk um ti t nn kh ktk hti4 kF kN); (replace kN := news_swap kN); (try k_fold))
     | ((rename Fr _ _ _ _ => kF); (rename News _ _ _ _ => kN); (k_dflt (refine' show_tokens_does _ _ _ _ (ps.map (·.2)) _ _ _ _ _ _ _ _ _ _ _ _ _ _ _ _ _ _ _ _ _ ?k1 ?k2 ?k5 ?k6 ?k7 ?k8 ?k4 ?hlen ?hl ?hv hpk ?hz ?_ ?k3; (case k1 => k_asm); (case k2 => k_asm); (case k3 => k_asm); (case k4 => exact kN); (case k5 => k_asm); (case k6 => exact rfl); (case k7 => ktr_room); (case k8 => ktr_units); (case hlen => (rw [List.length_map]; exact (toks_lens hd1).1)); (case hl => (rw [(toks_lens hd1).1]; omega)); (case hv => exact toks_at (hd1.mono (by intro p hp; repeat (first | exact hp | refine List.mem_cons_of_mem _ ?_)))); (case hz => exact shown_sum hSeq (by omega)))); (clear kF kN); (intro st9 kh ktk kF kN); (try k_fold))
     | ((have hz9 := hne1); ((fail_if_success (have hz9 := hd2)); (rename News _ _ _ _ => kN); (k_dflt (refine' heard_ok hsh hshl ?k1 ?k2 ?k3 ?k4 ?k5 ?k9 ?k10 ?k6 ?k7 ?k8 ?_; (case k4 => exact kN); (case k1 => k_asm); (case k2 => k_asm); (case k3 => k_asm); (case k5 => k_asm); (case k6 => exact rfl); (case k7 => ktr_room); (case k8 => ktr_units); (case k9 => k_asm); (case k10 => k_asm))); (clear kN); (intro b2 us2 nn2 tl2 kh ktk kF kN hT2 hd2 hof2); (replace kN := led_mix3 kN); (replace hd2 := hd2.mono (fun p hp => List.mem_append_left (tl1 ++ tl) hp)); (replace hd1 := hd1.mono (fun p hp => List.mem_append_right tl2 hp)); (clear hof1 hof2 hD); (generalize tl2 ++ (tl1 ++ tl) = T at *); (try k_fold)))
     | ((rename Fr _ _ _ _ => kF); (rename News _ _ _ _ => kN); (k_dflt (refine' bad_does _ _ _ _ _ _ _ _ _ _ _ _ _ _ _ _ _ _ _ _ _ _ ?k1 ?k2 ?k5 ?k6 ?k7 ?k8 ?k4 ?_ ?k3; (case k1 => k_asm); (case k2 => k_asm); (case k3 => k_asm); (case k4 => exact kN); (case k5 => k_asm); (case k6 => exact rfl); (case k7 => ktr_room); (case k8 => ktr_units))); (clear kF kN); (intro bb its kkb tlb kh ktk hsz9 hbad hTb kF kN hltb); (obtain ⟨kN3, hoff3⟩ := pack3 kN hTb hltb dst); (clear kN hltb); (try k_fold))
     | ((have hz9 := hoff3); ((rename News _ _ _ _ => kN); (k_dflt (refine' Draws.useK (take_draws _ tp sc 14 _ (by decide) (by decide)) ?k1 ?k2 ?k3 ?k5 ?k6 ?k7 ?k8 ?k4 ?ko ?ks ?ki ?_; (case k4 => exact kN); (case k1 => k_asm); (case k2 => k_asm); (case k3 => k_asm); (case k5 => k_asm); (case k6 => exact rfl); (case k7 => ktr_room); (case k8 => ktr_units); (case ko => exact hoff3); (case ks => exact scr_take (ws := ws) (k := 0) hI60 (.tail _ (.tail _ (.head _)))); (case ki => omega))); (clear kN); (intro bj hbj ub ti5 t5 nn5 kh ktk hti5 kF kN); (try k_fold)))
     | ((have hz9 := hbj); ((rename News _ _ _ _ => kN); (k_dflt (refine' heard_err (lex_row_bad hSeq hbj) ?kx ?k1 ?k2 ?k3 ?k4 ?k5 ?k9 ?k10 ?k6 ?k7 ?k8 ?_; (case k4 => exact kN); (case k1 => k_asm); (case k2 => k_asm); (case k3 => k_asm); (case k5 => k_asm); (case k6 => exact rfl); (case k7 => ktr_room); (case k8 => ktr_units); (case k9 => k_asm); (case k10 => k_asm); (case kx => ((simp only [List.length_append, List.length_cons, List.length_nil]); (have hz9 := (bad_form bj hbj).1); omega)))); (clear kN); (intro et9 kh ktk kF kN); (try k_fold)))
    k_with "compareOp NotEq ref ref" => first
     | ((fail_if_success (have hz9 := hne1)); (rename Fr _ _ _ _ => kF); (rename News _ _ _ _ => kN); (k_dflt (refine' lists_same (n := 2) kN ?ha ?hb ?hu ?hv (by decide) hok ?hl ?hun ?_; (case ha => first | exact (.head _) | exact (.tail _ (.head _)) | exact (.tail _ (.tail _ (.head _))) | exact (.tail _ (.tail _ (.tail _ (.head _)))) | exact (.tail _ (.tail _ (.tail _ (.tail _ (.head _))))) | exact (.tail _ (.tail _ (.tail _ (.tail _ (.tail _ (.head _)))))) | exact (.tail _ (.tail _ (.tail _ (.tail _ (.tail _ (.tail _ (.head _))))))) | exact (.tail _ (.tail _ (.tail _ (.tail _ (.tail _ (.tail _ (.tail _ (.head _))))))))); (case hb => first | exact (.head _) | exact (.tail _ (.head _)) | exact (.tail _ (.tail _ (.head _))) | exact (.tail _ (.tail _ (.tail _ (.head _)))) | exact (.tail _ (.tail _ (.tail _ (.tail _ (.head _))))) | exact (.tail _ (.tail _ (.tail _ (.tail _ (.tail _ (.head _)))))) | exact (.tail _ (.tail _ (.tail _ (.tail _ (.tail _ (.tail _ (.head _))))))) | exact (.tail _ (.tail _ (.tail _ (.tail _ (.tail _ (.tail _ (.tail _ (.head _))))))))); (case hu => exact hd1.mono (by intro p hp; repeat (first | exact hp | refine List.mem_cons_of_mem _ ?_))); (case hv => exact hD.mono (by intro p hp; repeat (first | exact hp | refine List.mem_cons_of_mem _ ?_))); (case hl => (rw [toksOf_len]; omega)); (case hun => k_units))); (have hne1 := trivial); (try k_fold))
     | ((rename Fr _ _ _ _ => kF); (rename News _ _ _ _ => kN); (k_dflt (refine' lists_same (n := 2) kN ?ha ?hb ?hu ?hv (by decide) (toks2_ok hSeq) ?hl ?hun ?_; (case ha => first | exact (.head _) | exact (.tail _ (.head _)) | exact (.tail _ (.tail _ (.head _))) | exact (.tail _ (.tail _ (.tail _ (.head _)))) | exact (.tail _ (.tail _ (.tail _ (.tail _ (.head _))))) | exact (.tail _ (.tail _ (.tail _ (.tail _ (.tail _ (.head _)))))) | exact (.tail _ (.tail _ (.tail _ (.tail _ (.tail _ (.tail _ (.head _))))))) | exact (.tail _ (.tail _ (.tail _ (.tail _ (.tail _ (.tail _ (.tail _ (.head _))))))))); (case hb => first | exact (.head _) | exact (.tail _ (.head _)) | exact (.tail _ (.tail _ (.head _))) | exact (.tail _ (.tail _ (.tail _ (.head _)))) | exact (.tail _ (.tail _ (.tail _ (.tail _ (.head _))))) | exact (.tail _ (.tail _ (.tail _ (.tail _ (.tail _ (.head _)))))) | exact (.tail _ (.tail _ (.tail _ (.tail _ (.tail _ (.tail _ (.head _))))))) | exact (.tail _ (.tail _ (.tail _ (.tail _ (.tail _ (.tail _ (.tail _ (.head _))))))))); (case hu => exact hYA.mono (by intro p hp; repeat (first | exact hp | refine List.mem_cons_of_mem _ ?_))); (case hv => exact hYB.mono (by intro p hp; repeat (first | exact hp | refine List.mem_cons_of_mem _ ?_))); (case hl => (rw [toks2_len]; omega)); (case hun => k_units))); (try k_fold))
    k_with "call builtin:repr" => ((rename Fr _ _ _ _ => kF); (rename News _ _ _ _ => kN); (k_dflt (refine' list_repr (n := 2) (ds := toksOf 0 ps) kF kN ?ha ?hu (by decide) hok ?hl ?hg ?hun ?_; (case ha => first | exact (.head _) | exact (.tail _ (.head _)) | exact (.tail _ (.tail _ (.head _))) | exact (.tail _ (.tail _ (.tail _ (.head _)))) | exact (.tail _ (.tail _ (.tail _ (.tail _ (.head _))))) | exact (.tail _ (.tail _ (.tail _ (.tail _ (.tail _ (.head _)))))) | exact (.tail _ (.tail _ (.tail _ (.tail _ (.tail _ (.tail _ (.head _))))))) | exact (.tail _ (.tail _ (.tail _ (.tail _ (.tail _ (.tail _ (.tail _ (.head _))))))))); (case hu => first | exact hd1.mono (by intro p hp; repeat (first | exact hp | refine List.mem_cons_of_mem _ ?_)) | exact hD.mono (by intro p hp; repeat (first | exact hp | refine List.mem_cons_of_mem _ ?_))); (case hl => (rw [toksOf_len]; omega)); (case hg => exact rfl); (case hun => k_units))); (clear kF kN); (intro kh ku ktk kF kN); (try k_fold))
    k_with "compareOp NotEq str str" => (refine str_same ?_)
    k_with "eval ListComp" => ((k_dflt (refine LCg.ListComp_U (F₀ := by k_asm) (by rfl) (by decide) (by rfl) (by decide) (by rfl) ?_)); (k_dflt lcg_toSrc))
    k_with "CompSrc" => first
     | ((have hz9 := hd2); ((rename Fr _ _ _ _ => kF); (rename News _ _ _ _ => kN); (k_dflt (refine' LCg.CompSrc.ledger ?hh kF kN ?hm ?hsz ?_; (case hh => exact rfl); (case hm => first | exact (.head _) | exact (.tail _ (.head _)) | exact (.tail _ (.tail _ (.head _))) | exact (.tail _ (.tail _ (.tail _ (.head _)))) | exact (.tail _ (.tail _ (.tail _ (.tail _ (.head _))))) | exact (.tail _ (.tail _ (.tail _ (.tail _ (.tail _ (.head _)))))) | exact (.tail _ (.tail _ (.tail _ (.tail _ (.tail _ (.tail _ (.head _))))))) | exact (.tail _ (.tail _ (.tail _ (.tail _ (.tail _ (.tail _ (.tail _ (.head _))))))))); (case hsz => (rw [List.size_toArray, (toks_lens hd2).1, show sizeLine = 16777216 from rfl]; (try rw [shownPs_len]); omega)))); (intro g9); (refine rest_tups (es := toks2 (shownPs ps)) (toks_lens hd2).2 ?cta ?cfa); (case' cta => ((clear kF kN); (intro i9 v9 d9 I9 oI9 C9 oC9 D9 m9 ys9 h9 tk9 tl9 E9 hvi hdi hC9 hx9 F9 N9 off9 ne9); (obtain ⟨pc9, b9, t91, t92, j9, k9, v92, rfl, rfl, hm9, hv9⟩ := toks_two hd2 hvi hdi); (try k_fold))); (case' cfa => ((clear kF kN); ((intro ysA tlA hTA hYA); (try dsimp only); (unfold LCg.FinE); (intro DA hA tkA kF NA oA); (obtain ⟨X9, kN, hYX, hdX⟩ := pack1 NA hYA hd1); (clear NA hYA hd1 hd2 oA); (replace hd1 := hdX); (clear hdX); (have hYA := hYX); (clear hYX); (try k_fold))))))
     | ((rename Fr _ _ _ _ => kF); (rename News _ _ _ _ => kN); (k_dflt (refine' LCg.CompSrc.ledger ?hh kF kN ?hm ?hsz ?_; (case hh => exact rfl); (case hm => first | exact (.head _) | exact (.tail _ (.head _)) | exact (.tail _ (.tail _ (.head _))) | exact (.tail _ (.tail _ (.tail _ (.head _)))) | exact (.tail _ (.tail _ (.tail _ (.tail _ (.head _))))) | exact (.tail _ (.tail _ (.tail _ (.tail _ (.tail _ (.head _)))))) | exact (.tail _ (.tail _ (.tail _ (.tail _ (.tail _ (.tail _ (.head _))))))) | exact (.tail _ (.tail _ (.tail _ (.tail _ (.tail _ (.tail _ (.tail _ (.head _))))))))); (case hsz => (rw [List.size_toArray, (toks_lens hd1).1, show sizeLine = 16777216 from rfl]; (try rw [shownPs_len]); omega)))); (intro g9); (refine rest_tups (es := toks2 ps) (toks_lens hd1).2 ?ctb ?cfb); (case' ctb => ((clear kF kN); (intro i9 v9 d9 I9 oI9 C9 oC9 D9 m9 ys9 h9 tk9 tl9 E9 hvi hdi hC9 hx9 F9 N9 off9 ne9); (obtain ⟨pc9, b9, t91, t92, j9, k9, v92, rfl, rfl, hm9, hv9⟩ := toks_two hd1 hvi hdi); (try k_fold))); (case' cfb => ((clear kF kN); ((intro ysB tlB hTB hYB); (try dsimp only); (unfold LCg.FinE); (intro DB hB tkB kF NB oB); (obtain ⟨Y9, kN, hYX, hYZ⟩ := pack2 NB hYB hYA); (clear NB hYB oB hd1 hYA); (have hYB := hYX); (have hYA := hYZ); (rw [toks2_shown] at hYA); (clear hYX hYZ); (try k_fold)))))
    k_with "subscriptTail Name Slice ref ref" => ((have hz9 := hm9); ((rename Fr _ _ _ _ => kF); (rename News _ _ _ _ => kN); (k_dflt (refine' two_of kF kN ?hm ?_ ?hs ?hg; (case hm => (refine (.tail _ (.tail _ (.tail _ (List.mem_append_right _ ?_)))); (repeat (first | exact hm9 | refine List.mem_cons_of_mem _ ?_)))); (case hs => with_unfolding_all rfl); (case hg => (intro zr; with_unfolding_all rfl)))); (clear kF kN); (intro D8 h8 F8 N8 l8); (try k_fold)))
    k_with "CompEnd" => ((refine LCg.CompEnd.intro F8 N8 ((D8, { cls := .type "tuple", data := .seq #[.str (str pc9.kind) t91, v92] }) :: (tl9 ++ _)) ?sub ?off ?src ⟨_, rfl, rfl, ?dat⟩); (case dat => exact DatIn.tuple (vs := [_, _]) (.head _) (.cons (.str _ _) (.cons (hv9.mono (fun p hp => .tail _ (List.mem_append_right _ (by repeat (first | exact hp | refine List.mem_cons_of_mem _ ?_))))) .nil))); (case sub => grind); (case off => exact ⟨⟨Nat.ne_of_gt (l8 _ (.head _)), Nat.ne_of_gt (l8 _ (.tail _ (.head _))), Nat.ne_of_gt (l8 _ (.tail _ (.tail _ (.head _))))⟩, off9⟩); (case src => exact Or.inr ⟨_, .tail _ (List.mem_append_right _ (by first | exact (.head _) | exact (.tail _ (.head _)) | exact (.tail _ (.tail _ (.head _))) | exact (.tail _ (.tail _ (.tail _ (.head _)))) | exact (.tail _ (.tail _ (.tail _ (.tail _ (.head _))))) | exact (.tail _ (.tail _ (.tail _ (.tail _ (.tail _ (.head _)))))) | exact (.tail _ (.tail _ (.tail _ (.tail _ (.tail _ (.tail _ (.head _))))))) | exact (.tail _ (.tail _ (.tail _ (.tail _ (.tail _ (.tail _ (.tail _ (.head _)))))))))), rfl, _, rfl⟩))
    k_with "binaryOp Add str str" => ((refine add_eq (by exact rfl) (by first | exact rfl | exact comma_is) ?hz ?_); (case hz => ((try simp only [List.length_append, List.length_cons, List.length_nil]); (have hz9 := (bad_form bj hbj).1); omega)); (intro ct ctk))
    k_with "call builtin:len" => ((refine PyProof.Rows.len_str (by rw [Mine.len_str]; omega) ?_); (rw [Mine.len_str]); (try k_fold))
    k_with "pyIter ref" => ((rename IsRange _ _ _ _ _ _ _ _ => rgX); (rename Fr _ _ _ _ => kF); (rename News _ _ _ _ => kN); (k_dflt (refine' range_loop (n := 1 + cnt) (RowJ tp rw_ ls sc ws 0 _ (1 + cnt)) ?hh rgX (range_facts hcnt).1 (range_facts hcnt).2 kF kN ?hj ?turn ?done; (case hh => rfl); (case hj => exact rowJ_start' hi1))); (case' turn => (clear kF kN); (intro i tt9 m9 nx9 kh ktk own hi9 hR hJ kF kN); (unfold RowJ at hJ); (obtain ⟨o1, o2, o3, o4, o5, o6, o7, ti, nn, n1, n2, t, t1, us, ps, tl, b, rfl, rfl, hTl, hD, hSeq, hb, hti, hx, hps⟩ := hJ); (obtain rfl := hb hi9); (simp only [List.cons_append] at kN); (dsimp only [envOf] at kF kN); (try k_fold)); (case' done => (clear kF kN); (intro m9 nx9 kh ktk hJ kF kN); (unfold RowJ at hJ); (obtain ⟨o1, o2, o3, o4, o5, o6, o7, ti, nn, n1, n2, t, t1, us, ps, tl, b, rfl, rfl, hTl, hD, hSeq, hb, hti, hx, hps⟩ := hJ); (dsimp only [envOf] at kF kN); (have hlx := lex_row hSeq); (have hok := toks_ok hSeq (by omega)); (have hpk := pcs_ok hSeq); (have hsh := lex_shown hSeq); (have hshl := shown_len hSeq (by omega)); (try k_fold)))
    k_steps)
end Mine
set_option maxHeartbeats 8000000 in
theorem PySem.Challenge.cw_no0240_01_holds : PySem.Challenge.rw_no0240_01.Holds := by
  exact Mine.law_holds
