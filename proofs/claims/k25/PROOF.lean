import PyProof.Rows.All
import Wide.All
import OpenK.AllK
import Wide.FinOn
import KE.KStateDown
import HandS.ForMost
import HandS.Defaults
import HandS.Head0
import HandS.Head1
import HandS.Head2
import HandS.HeadEnd
import HandS.HeadHook1
import HandS.HeadHook2
import PySem.Challenge.RW_neverjoin_k25_whole_the_reading_of_a_pla
import KE.SortData
import KE.LtData
import KE.KDictPairs
import HandS.Conv
import HandS.Deep
import HandS.DictComp
import HandS.SetKeys
import HandS.IsInst
import HandS.Zip
import HandS.More
import PyProof.Draws
import PyProof.EnumMake
import KE.GoesMore
import HandS.Walk
set_option Elab.async false
set_option linter.all false
set_option maxRecDepth 100000
set_option maxHeartbeats 0
namespace L2.NJ
open PySem PySem.Spec PyProof.Rows
def top (i : Nat) : Stmt := PySem.Challenge.pw_neverjoin_k25_whole_the_reading_of_a_pla.main.body.getD i (.Pass ⟨0, 0, 0, 0⟩)
def dd0 : He.DefD := ⟨("is_integer", none), "is_integer", "is_integer", defArgs (top 8), defBody (top 8), defScope (top 8), [], []⟩
def dd1 : He.DefD := ⟨("is_within", none), "is_within", "is_within", defArgs (top 9), defBody (top 9), defScope (top 9), [], []⟩
def dd2 : He.DefD := ⟨("is_letter", none), "is_letter", "is_letter", defArgs (top 10), defBody (top 10), defScope (top 10), [], []⟩
def dd3 : He.DefD := ⟨("is_text", none), "is_text", "is_text", defArgs (top 11), defBody (top 11), defScope (top 11), [], []⟩
def dd4 : He.DefD := ⟨("is_filled_text", none), "is_filled_text", "is_filled_text", defArgs (top 12), defBody (top 12), defScope (top 12), [], []⟩
def dd5 : He.DefD := ⟨("are_ascending", none), "are_ascending", "are_ascending", defArgs (top 13), defBody (top 13), defScope (top 13), [], []⟩
def dd6 : He.DefD := ⟨("is_arrow", none), "is_arrow", "is_arrow", defArgs (top 17), defBody (top 17), defScope (top 17), [], []⟩
def dd7 : He.DefD := ⟨("are_arrows", none), "are_arrows", "are_arrows", defArgs (top 18), defBody (top 18), defScope (top 18), [], []⟩
def dd8 : He.DefD := ⟨("reached", none), "reached", "reached", defArgs (top 19), defBody (top 19), defScope (top 19), [], []⟩
def dd9 : He.DefD := ⟨("hangs", none), "hangs", "hangs", defArgs (top 20), defBody (top 20), defScope (top 20), [], []⟩
def dd10 : He.DefD := ⟨("Web", some "__init__"), "__init__", "Web.__init__", defArgs (inClass (top 21) 0), defBody (inClass (top 21) 0), defScope (inClass (top 21) 0), [], []⟩
def dd11 : He.DefD := ⟨("Web", some "keep"), "keep", "Web.keep", defArgs (inClass (top 21) 1), defBody (inClass (top 21) 1), defScope (inClass (top 21) 1), [], []⟩
def dd12 : He.DefD := ⟨("all_points", none), "all_points", "all_points", defArgs (top 22), defBody (top 22), defScope (top 22), [], []⟩
def dd13 : He.DefD := ⟨("stepped", none), "stepped", "stepped", defArgs (top 23), defBody (top 23), defScope (top 23), [], []⟩
def dd14 : He.DefD := ⟨("ends_from", none), "ends_from", "ends_from", defArgs (top 24), defBody (top 24), defScope (top 24), [], []⟩
def dd15 : He.DefD := ⟨("ends_of", none), "ends_of", "ends_of", defArgs (top 25), defBody (top 25), defScope (top 25), [], []⟩
def dd16 : He.DefD := ⟨("stretch_there", none), "stretch_there", "stretch_there", defArgs (top 26), defBody (top 26), defScope (top 26), [], []⟩
def dd17 : He.DefD := ⟨("is_stretch", none), "is_stretch", "is_stretch", defArgs (top 27), defBody (top 27), defScope (top 27), [], []⟩
def dd18 : He.DefD := ⟨("check_stretch", none), "check_stretch", "check_stretch", defArgs (top 28), defBody (top 28), defScope (top 28), [], []⟩
def dd19 : He.DefD := ⟨("word_at", none), "word_at", "word_at", defArgs (top 30), defBody (top 30), defScope (top 30), [], []⟩
def dd20 : He.DefD := ⟨("word_ending", none), "word_ending", "word_ending", defArgs (top 31), defBody (top 31), defScope (top 31), [], []⟩
def dd21 : He.DefD := ⟨("comings_of", none), "comings_of", "comings_of", defArgs (top 32), defBody (top 32), defScope (top 32), [], []⟩
def dd22 : He.DefD := ⟨("first_cuts", none), "first_cuts", "first_cuts", defArgs (top 33), defBody (top 33), defScope (top 33), [], []⟩
def dd23 : He.DefD := ⟨("reading_from", none), "reading_from", "reading_from", defArgs (top 34), defBody (top 34), defScope (top 34), [], []⟩
def dd24 : He.DefD := ⟨("reading_with", none), "reading_with", "reading_with", defArgs (top 35), defBody (top 35), defScope (top 35), [], []⟩
def dd25 : He.DefD := ⟨("readings_of", none), "readings_of", "readings_of", defArgs (top 36), defBody (top 36), defScope (top 36), [], []⟩
def dd26 : He.DefD := ⟨("readings", none), "readings", "readings", defArgs (top 37), defBody (top 37), defScope (top 37), [], []⟩
def dd27 : He.DefD := ⟨("reading_at", none), "reading_at", "reading_at", defArgs (top 38), defBody (top 38), defScope (top 38), [], []⟩
def dd28 : He.DefD := ⟨("beginnings", none), "beginnings", "beginnings", defArgs (top 42), defBody (top 42), defScope (top 42), [], []⟩
def dd29 : He.DefD := ⟨("endings", none), "endings", "endings", defArgs (top 43), defBody (top 43), defScope (top 43), [], []⟩
def dd30 : He.DefD := ⟨("clash_of", none), "clash_of", "clash_of", defArgs (top 44), defBody (top 44), defScope (top 44), [], []⟩
def dd31 : He.DefD := ⟨("are_words", none), "are_words", "are_words", defArgs (top 45), defBody (top 45), defScope (top 45), [], []⟩
def dd32 : He.DefD := ⟨("Book", some "__init__"), "__init__", "Book.__init__", defArgs (inClass (top 46) 0), defBody (inClass (top 46) 0), defScope (inClass (top 46) 0), [], []⟩
def dd33 : He.DefD := ⟨("Book", some "keep"), "keep", "Book.keep", defArgs (inClass (top 46) 1), defBody (inClass (top 46) 1), defScope (inClass (top 46) 1), [], []⟩
def dd34 : He.DefD := ⟨("_law_hand", none), "_law_hand", "_law_hand", defArgs (top 48), defBody (top 48), defScope (top 48), [], []⟩
def dd35 : He.DefD := ⟨("_law_draw", none), "_law_draw", "_law_draw", defArgs (top 49), defBody (top 49), defScope (top 49), [], []⟩
def dd36 : He.DefD := ⟨("_law_is", none), "_law_is", "_law_is", defArgs (top 50), defBody (top 50), defScope (top 50), [], []⟩
def dd37 : He.DefD := ⟨("_law_some", none), "_law_some", "_law_some", defArgs (top 51), defBody (top 51), defScope (top 51), [], []⟩
def dd38 : He.DefD := ⟨("_law_shuffled", none), "_law_shuffled", "_law_shuffled", defArgs (top 52), defBody (top 52), defScope (top 52), [], []⟩
def dd39 : He.DefD := ⟨("_law_web", none), "_law_web", "_law_web", defArgs (top 53), defBody (top 53), defScope (top 53), [], []⟩
def dd40 : He.DefD := ⟨("_law_ends", none), "_law_ends", "_law_ends", defArgs (top 54), defBody (top 54), defScope (top 54), [], []⟩
def dd41 : He.DefD := ⟨("_law_signs", none), "_law_signs", "_law_signs", defArgs (top 55), defBody (top 55), defScope (top 55), [], []⟩
def dd42 : He.DefD := ⟨("_law_longer", none), "_law_longer", "_law_longer", defArgs (top 56), defBody (top 56), defScope (top 56), [], []⟩
def dd43 : He.DefD := ⟨("_law_stretches", none), "_law_stretches", "_law_stretches", defArgs (top 57), defBody (top 57), defScope (top 57), [], []⟩
def dd44 : He.DefD := ⟨("_law_clashing", none), "_law_clashing", "_law_clashing", defArgs (top 58), defBody (top 58), defScope (top 58), [], []⟩
def dd45 : He.DefD := ⟨("_law_fits", none), "_law_fits", "_law_fits", defArgs (top 59), defBody (top 59), defScope (top 59), [], []⟩
def dd46 : He.DefD := ⟨("_law_comings", none), "_law_comings", "_law_comings", defArgs (top 60), defBody (top 60), defScope (top 60), [], []⟩
def dd47 : He.DefD := ⟨("_law_count", none), "_law_count", "_law_count", defArgs (top 61), defBody (top 61), defScope (top 61), [], []⟩
def dd48 : He.DefD := ⟨("_law_made", none), "_law_made", "_law_made", defArgs (top 62), defBody (top 62), defScope (top 62), [], []⟩
def dd49 : He.DefD := ⟨("_law_is_last", none), "_law_is_last", "_law_is_last", defArgs (top 63), defBody (top 63), defScope (top 63), [], []⟩
def dd50 : He.DefD := ⟨("_law_lot", none), "_law_lot", "_law_lot", defArgs (top 64), defBody (top 64), defScope (top 64), [], []⟩
def dd51 : He.DefD := ⟨("_law_full", none), "_law_full", "_law_full", defArgs (top 65), defBody (top 65), defScope (top 65), [], []⟩
def dd52 : He.DefD := ⟨("_law_words", none), "_law_words", "_law_words", defArgs (top 66), defBody (top 66), defScope (top 66), [], []⟩
def dd53 : He.DefD := ⟨("_law_walk", none), "_law_walk", "_law_walk", defArgs (top 67), defBody (top 67), defScope (top 67), [], []⟩
def dd54 : He.DefD := ⟨("_law_readings", none), "_law_readings", "_law_readings", defArgs (top 68), defBody (top 68), defScope (top 68), [], []⟩
def dd55 : He.DefD := ⟨("law", none), "law", "law", defArgs (top 69), defBody (top 69), defScope (top 69), [], []⟩
def fnD : List He.DefD := [dd0, dd1, dd2, dd3, dd4, dd5, dd6, dd7, dd8, dd9, dd10, dd11, dd12, dd13, dd14, dd15, dd16, dd17, dd18, dd19, dd20, dd21, dd22, dd23, dd24, dd25, dd26, dd27, dd28, dd29, dd30, dd31, dd32, dd33, dd34, dd35, dd36, dd37, dd38, dd39, dd40, dd41, dd42, dd43, dd44, dd45, dd46, dd47, dd48, dd49, dd50, dd51, dd52, dd53, dd54, dd55]
def fa0 : List He.Fa := [.glo "is_integer", .glo "is_within", .glo "is_letter", .glo "is_text", .glo "is_filled_text", .glo "are_ascending", .glo "is_arrow", .glo "are_arrows", .glo "reached", .glo "hangs", .glo "all_points", .glo "stepped", .glo "ends_from", .glo "ends_of", .glo "stretch_there", .glo "is_stretch", .glo "check_stretch", .glo "word_at", .glo "word_ending", .glo "comings_of", .glo "first_cuts", .glo "reading_from", .glo "reading_with", .glo "readings_of", .glo "readings"]
def fa1 : List He.Fa := [.glo "reading_at", .glo "beginnings", .glo "endings", .glo "clash_of", .glo "are_words", .glo "_law_hand", .glo "_law_draw", .glo "_law_is", .glo "_law_some", .glo "_law_shuffled", .glo "_law_web", .glo "_law_ends", .glo "_law_signs", .glo "_law_longer", .glo "_law_stretches", .glo "_law_clashing", .glo "_law_fits", .glo "_law_comings", .glo "_law_count", .glo "_law_made", .glo "_law_is_last", .glo "_law_lot", .glo "_law_full", .glo "_law_words", .glo "_law_walk"]
def fa2 : List He.Fa := [.glo "_law_readings", .glo "law", .free "isinstance", .free "int", .free "bool", .free "str", .free "tuple", .free "list", .free "len", .free "all", .free "any", .free "range", .free "sorted", .free "dict", .free "min", .free "max", .free "abs", .free "enumerate", .free "zip", .str "LETTERS" "abcdefghijklmnopqrstuvwxyz", .int "MOST_POINTS" 12, .int "MOST_ARROWS" 60, .int "MOST_WORDS" 400, .int "MOST_LETTERS" 60, .glo "Web"]
def fa3 : List He.Fa := [.cls "Web", .mkr "Web", .meth "Web" "keep", .glo "Book", .cls "Book", .mkr "Book", .meth "Book" "keep", .noat "Web" "points", .noat "Web" "arrows", .noat "Web" "kept_letters", .noat "Web" "kept_steps", .noat "Book" "web", .noat "Book" "words", .noat "Book" "kept_words", .noat "Book" "kept_begins", .noat "Book" "kept_ends", .noat "Book" "kept_longest", .noat "Book" "kept_ways"]
def faD : List He.Fa := fa0 ++ fa1 ++ fa2 ++ fa3
def lo0 : List PySem.Str := ["JoinError", "BadWeb", "NoStretch", "BadBook", "NoPlace", "LETTERS", "is_integer", "is_within", "is_letter", "is_text", "is_filled_text", "are_ascending", "MOST_POINTS", "MOST_ARROWS", "is_arrow", "are_arrows", "reached", "hangs", "Web", "all_points", "stepped", "ends_from", "ends_of", "stretch_there", "is_stretch"]
def lo1 : List PySem.Str := ["check_stretch", "word_at", "word_ending", "comings_of", "first_cuts", "reading_from", "reading_with", "readings_of", "readings", "reading_at", "MOST_WORDS", "MOST_LETTERS", "beginnings", "endings", "clash_of", "are_words", "Book", "_law_hand", "_law_draw", "_law_is", "_law_some", "_law_shuffled", "_law_web", "_law_ends", "_law_signs"]
def lo2 : List PySem.Str := ["_law_longer", "_law_stretches", "_law_clashing", "_law_fits", "_law_comings", "_law_count", "_law_made", "_law_is_last", "_law_lot", "_law_full", "_law_words", "_law_walk", "_law_readings"]
def looseD : List PySem.Str := lo0 ++ lo1 ++ lo2
abbrev RR : PySem.W.OpenRow := PySem.W.OpenLaw.row PySem.Challenge.rw_neverjoin_k25_whole_the_reading_of_a_pla
abbrev hkD : PySem.W.Hook := He.hookD 4 faD fnD
def obD (s : PySem.W.SharedT) : He.AlD := He.obsDG 4 faD fnD (HandSHeadRun.getT s)
theorem obD_eq (s : PySem.W.SharedT) : obD s = hkD.obs s.abs := He.obsDG_eq (HandSHeadRun.getT_eq s)
theorem runD (w : World) : HandSHeadRun.RunEq RR (PySem.W.view RR.prog [69]) hkD obD 30000 looseD w := by
  intro os
  kernel_rfl
end L2.NJ
set_option Elab.async false
set_option linter.all false
set_option maxRecDepth 100000
set_option maxHeartbeats 4000000
/-! rules that the hand layer does not have -/
namespace L2.NJ
open PySem PySem.Spec PyProof.Rows PySem.W
section
variable {X : Cx}
/-- x < y of data that can be compared place by place -/
def rLtX (K : PySem.W.Frag) : R2 := fun x y H Q => ∃ d e, Dp K H x d ∧ Dp K H y e ∧ alike d e = true ∧ d ≠ PyData.none ∧ min d.depth e.depth ≤ 60 ∧ Q (.bl (dataLt d e)) H
theorem opX (hu : X.A.units + 64 < cLine) : OpR X (compareOp .Lt) (rLtX X.K) := by
  intro pins s σ H x y xv yv Q inv rx ry ⟨d, e, hd, he, hal, hn, hdep, q⟩
  obtain ⟨as1, h1⟩ := Dp.reads inv d x xv hd rx
  obtain ⟨as2, h2⟩ := Dp.reads inv e y yv he ry
  exact rcLt_alike d e X.A s xv yv as1 as2 h1 h2 hal hn (by omega) X.prog X.w _ _ ⟨.bl _, H, inv, rfl, q⟩
/-- x in t, t a tuple of data of any depth -/
def rInU (K : PySem.W.Frag) : R2 := fun x y H Q => ∃ d ds, Dp K H x d ∧ Dp K H y (.tuple ds) ∧ SeqAt.shaped d = true ∧ SeqAt.shaped (.tuple ds) = true ∧ Q (.bl (ds.any fun z => PyData.eqv z d)) H
theorem op_inU (hu : X.A.units + 65 < cLine) : OpR X (compareOp .In) (rInU X.K) := by
  intro pins s σ H x y xv yv Q inv rx ry ⟨d, ds, hd, hds, sh1, sh2, q⟩
  obtain ⟨as1, h1⟩ := Dp.reads inv d x xv hd rx
  obtain ⟨as2, h2⟩ := Dp.reads inv (.tuple ds) y yv hds ry
  exact SeqAt.in_tuple_reads h2 h1 (SeqAt.canLay_of_shaped sh2) (SeqAt.canLay_of_shaped sh1) (room_in_shaped sh1 hu) ⟨.bl _, H, inv, rfl, q⟩

/-! ### sorted of any data, any length -/
theorem each_of {α β : Type} {R : α → β → Prop} : ∀ {xs : List α} {ys : List β}, xs.length = ys.length → (∀ (i : Nat) (x : α) (y : β), xs[i]? = some x → ys[i]? = some y → R x y) → EachIs R xs ys
  | [], [], _, _ => .nil
  | [], _ :: _, h, _ => absurd h (by simp)
  | _ :: _, [], h, _ => absurd h (by simp)
  | x :: xs, y :: ys, h, f => .cons (f 0 x y rfl rfl) (each_of (by simpa using h) fun i a b e1 e2 => f (i + 1) a b (by simpa using e1) (by simpa using e2))
theorem vals_each {β : Type} {f : β → V} : ∀ {us : List Value} {bs : List β}, EachIs (fun u b => RelV (f b) u) us bs → Vals (bs.map f) us
  | _, _, .nil => .nil
  | _, _, .cons h t => .cons h (vals_each t)
theorem each_vals {β : Type} {f : β → V} : ∀ {us : List Value} {bs : List β}, Vals (bs.map f) us → EachIs (fun u b => RelV (f b) u) us bs
  | us, [], r => by
    rw [List.map_nil] at r
    cases r
    exact .nil
  | us, b :: bs, r => by
    rw [List.map_cons] at r
    cases r with
    | cons h t => exact .cons h (each_vals t)
def rSortedX (K : PySem.W.Frag) : List V → Hp → VK → Prop := fun vs H Q => ∃ (a : Addr) (xs : List (V × PyData)), vs = [V.ref a] ∧ SqL K H a (xs.map Prod.fst) ∧ (∀ p ∈ xs, Dp K H p.1 p.2) ∧
  AllAlike (xs.map Prod.snd) ∧ Sortable (xs.map Prod.snd) ∧ (∀ p ∈ xs, p.2.depth ≤ 60) ∧
  ∀ (ys : List (V × PyData)) (p : Addr), ys = xs.mergeSort (dataLe false Prod.snd) → H p = none → Q (.ref p) (upd H p (.lst (ys.map Prod.fst)))
theorem cr_sortedX (hu : X.A.units + 64 < cLine) : CallR X (.builtin "sorted") (rSortedX X.K) := by
  intro pins s σ H vs us Q inv r ⟨a, xs, ev, hs, hd, hal, hk, hdep, q⟩
  subst ev
  obtain ⟨its, rv, pl, hz⟩ := inv.list hs
  rw [Vals.ref1 r]
  have eR : EachIs (fun (u : Value) (b : V × PyData) => RelV b.1 u) its xs := each_vals (f := Prod.fst) rv
  have eM : EachIs (fun (u : Value) (b : V × PyData) => ∃ as, Reads s.heap u b.2 as) its xs :=
    (each_mem eR).mono fun u b h => Dp.reads inv b.2 b.1 u (hd b h.2) h.1
  rw [List.length_map] at hz
  refine sorted_data (R := fun (u : Value) (b : V × PyData) => RelV b.1 u) (enc := Prod.snd) pl.isList eR eM hal hk hz (fun b hb => by have := hdep b hb; omega) fun out ho eo => ?_
  obtain ⟨ep, he'⟩ := PyProof.Rows.sortedAll_at s.heap its out.toArray
  have hv := vals_each (f := Prod.fst) eo
  refine ⟨.ref _, upd H (s.heap.objs.size + 1) (.lst ((xs.mergeSort (dataLe false Prod.snd)).map Prod.fst)), inv.laid (t' := s.toks) (fun _ _ => PyProof.Rows.sortedAll_old) (Nat.le_succ _) ⟨?_, out, ep, hv, he'⟩, rfl, q _ _ rfl (inv.hok.fresh (Nat.le_succ _))⟩
  rw [List.length_map, List.length_mergeSort]
  exact hz
end
end L2.NJ
set_option Elab.async false
set_option linter.all false
set_option maxRecDepth 100000
set_option maxHeartbeats 4000000
namespace L2.NJ
open PySem PySem.Spec PyProof.Rows PySem.W
/-! ### d.setdefault(t, x), keys that are tuples -/
def tDSetdT (td ty tx : TE) : TE := fun σ H Q => td σ H fun x H1 => ∃ a, x = .ref a ∧ IsD H1 a ∧ ty σ H1 fun y H2 => tx σ H2 fun z H3 => ∃ (kvs : List (List Key × V)) (k : List Key) (b : Addr),
  H3 a = some (.dT kvs) ∧ y = .ref b ∧ H3 b = some (.tup (k.map kV)) ∧ kvs.length < sizeLine ∧ (∀ v, valV kvs k = some v → Q v H3) ∧ (valV kvs k = none → Q z (upd H3 a (.dT (putK kvs k z))))
section
variable {X : Cx} {o e f : Expr} {td ty tx : TE} {apos cpos : Pos}
theorem setdT_run {pins : List (Addr × Obj)} {σ : St} {H : Hp} {s : Shared} {a b : Addr} {dv : V} {r : Value} {k : List Key} {kvs : List (List Key × V)} {A : Around} {E : Value → Shared → Prop} {Q : Value → Shared → Prop}
    (hu : A.units + 1 < cLine) (inv : Inv X pins σ H s) (ha : H a = some (.dT kvs)) (hb : H b = some (.tup (k.map kV))) (rd : RelV dv r) (hl : kvs.length < sizeLine)
    (h1 : ∀ v, valV kvs k = some v → ∀ (w' : Value) (s' : Shared), Inv X pins σ H s' → RelV v w' → Q w' s')
    (h2 : valV kvs k = none → ∀ (w' : Value) (s' : Shared), Inv X pins σ (upd H a (.dT (putK kvs k dv))) s' → RelV dv w' → Q w' s') :
    wpAny (model X.prog X.w) A (call (.builtin "dict.setdefault") [.ref a, .ref b, r]) Q E s := by
  obtain ⟨z, nsm, xs, rel, dd⟩ := dt_of inv.hok ha
  have zz : xs.length ≤ sizeLine := by
    rw [← Paired.length rel]
    exact z
  refine call_setdefault_heap (hsz := zz) (tupleKind_room_in1 hu) (key_of inv.hok hb) nsm dd (fun p hp => ?_) (fun hn h' dd' hs => ?_)
  · have rv := rel.val k
    rw [hp] at rv
    cases ev : valV kvs k with
    | none =>
      rw [ev] at rv
      exact (show False from rv).elim
    | some v0 =>
      rw [ev] at rv
      exact h1 v0 ev _ _ (inv.tok _) rv
  · have rv := rel.val k
    rw [hn] at rv
    cases ev : valV kvs k with
    | some v0 =>
      rw [ev] at rv
      exact (show False from rv).elim
    | none =>
      have len2 : (putK kvs k dv).length ≤ sizeLine := by
        have := length_putK kvs k dv
        omega
      obtain ⟨qo, es, ep, g1, g2, g3, g4, g5, g6⟩ := dd'
      refine h2 ev _ _ (d_write (t' := s.toks + _) inv (by rw [ha]; exact True.intro) hs ⟨qo, g1⟩ ⟨len2, nsm, _, KT.keeps (rel.put k hb rd) (fun c ys ec => ?_), qo, es, ep, g1, g2, g3, g4, g6⟩) rd
      rw [upd_ne (ne_of ec ha (fun z => nomatch z))]
      exact ec
theorem pe_dsetdT (hu : X.A.units + 1 < cLine) (po : PE X o td) (pk : PE X e ty) (pd : PE X f tx) (m : M2 X o "setdefault" apos e f cpos) : PE X (.Call (.Attribute o "setdefault" apos) [e, f] [] cpos) (tDSetdT td ty tx) := by
  refine ⟨fun pins s σ H Q inv hq => ?_⟩
  refine wpAny_Call_method m.base m.few m.line PySem.F.plainAttrs_dict PySem.F.slot_dict_setdefault PySem.F.type_dict_setdefault (thn (po.run pins s σ H _ inv hq) fun ov s1 ⟨x, H1, inv1, rx, a, ea, isd, q1⟩ => ?_)
  subst ea
  obtain rfl : ov = Value.ref a := rx
  obtain ⟨g1, g2, _⟩ := isD_at inv1 isd
  refine ⟨g1, g2, ?_⟩
  rw [m.trees]
  refine Calls.callWith_builtin rfl (Calls.evalArgs_plain (Calls.spliced_cons (thn (pk.run pins s1 σ H1 _ inv1 q1) fun kv s2 ⟨y, H2, inv2, ry, q2⟩ => Calls.spliced_cons (thn (pd.run pins s2 σ H2 _ inv2 q2) fun dv s3 ⟨z, H3, inv3, rz, q3⟩ => Calls.spliced_nil ?_))))
  obtain ⟨kvs, k, b, ha, ey, hb, hl, q4, q5⟩ := q3
  subst ey
  obtain rfl : kv = Value.ref b := ry
  have fin := setdT_run (Q := EP X pins σ Q) (E := X.xe) hu inv3 ha hb rz hl (fun v hv w' s4 i4 rw' => ⟨v, _, i4, rw', q4 v hv⟩) fun hn w' s4 i4 rw' => ⟨z, _, i4, rw', q5 hn⟩
  exact fin
end
/-! ### enumerate(t), t a tuple -/
set_option maxHeartbeats 8000000 in
theorem meets_enumU (t : Addr) (items : Array Value) :
    Meets (Builtin.«enumerate.__new__» ⟨[.type "enumerate", .ref t], []⟩) (fun _ R s => s.heap.IsTuple t items ∧
      R (.ok (.ret (.ref (s.heap.push { cls := .type "tuple_iterator", data := .fields #[.ref t, .int 0 0] }).objs.size)))
        { s with heap := (s.heap.push { cls := .type "tuple_iterator", data := .fields #[.ref t, .int 0 0] }).push { cls := .type "enumerate", data := .fields #[.none, .bool false, .ref s.heap.objs.size, rawInt 0, .none, .none] } }) :=
  .of_wp fun prog w A R s hh => by
    obtain ⟨hp, g, d, tk, os⟩ := s
    obtain ⟨ht, hR⟩ := hh
    have sube := sub_enumerate
    have step1 : ∀ {A' : Around} {E : Value → Shared → Prop} {Q : Value → Shared → Prop}, Q (.ref hp.objs.size) ⟨hp.push { cls := .type "tuple_iterator", data := .fields #[.ref t, .int 0 0] }, g, d, tk, os⟩ →
        wpAny (model prog w) A' (pyIter (.ref t)) Q E ⟨hp, g, d, tk, os⟩ := fun q => wpAny_pyIter_tuple ht q
    wp_walk using step1
    refine wpAny_stack_any fun st => wpAny_pure ?_
    split
    · rename_i c _ _ _ _ _
      cases (c == Value.type "enumerate")
      · wp_walk using step1
        exact ⟨_, rfl, hR⟩
      · wp_walk using step1
        exact ⟨_, rfl, hR⟩
    · wp_walk using step1
      exact ⟨_, rfl, hR⟩
end L2.NJ
set_option Elab.async false
set_option linter.all false
set_option maxRecDepth 100000
set_option maxHeartbeats 4000000
namespace L2.NJ
open PySem PySem.Spec PyProof.Rows PySem.W
theorem call_enumU {prog : Program} {w : World} {A : Around} {E : Value → Shared → Prop} {s : Shared} {t : Addr} {items : Array Value} {Q : Value → Shared → Prop} (ht : s.heap.IsTuple t items)
    (h : ∀ h', IsEnum h' (s.heap.objs.size + 1) s.heap.objs.size 0 .none → h'.IsTupleIter s.heap.objs.size t 0 → h'.objs.size = s.heap.objs.size + 2 →
      (∀ b o, s.heap.get? b = some o → h'.get? b = some o) → Q (.ref (s.heap.objs.size + 1)) { s with heap := h' }) :
    wpAny (model prog w) A (call (.type "enumerate") [.ref t]) Q E s := by
  refine callType_new F.called_enumerate (by decide) (F.typeCall_enumerate_1 _) (F.newCall_enumerate_1 _) (fun obj => F.args_object_init_2 obj _) F.entry_enumerate_new (meets_enumU t items) ⟨ht, ?_⟩
  have sz1 : (s.heap.push { cls := .type "tuple_iterator", data := .fields #[.ref t, .int 0 0] }).objs.size = s.heap.objs.size + 1 := Heap.size_push ..
  show _ ∧ _
  rw [sz1]
  have hE : IsEnum ((s.heap.push { cls := .type "tuple_iterator", data := .fields #[.ref t, .int 0 0] }).push { cls := .type "enumerate", data := .fields #[.none, .bool false, .ref s.heap.objs.size, rawInt 0, .none, .none] }) (s.heap.objs.size + 1) s.heap.objs.size 0 .none := by
    have at1 := Heap.get?_push_size (s.heap.push { cls := .type "tuple_iterator", data := .fields #[.ref t, .int 0 0] }) (o := { cls := .type "enumerate", data := .fields #[.none, .bool false, .ref s.heap.objs.size, rawInt 0, .none, .none] }) rfl
    rw [sz1] at at1
    exact at1
  refine ⟨⟨_, hE, rfl⟩, ?_⟩
  refine h _ hE ?_ ?_ ?_
  · exact ⟨_, Heap.get?_push_of_some _ (Heap.get?_push_size _ rfl), rfl, rfl⟩
  · rw [Heap.size_push, sz1]
  · intro b o e
    exact Heap.get?_push_of_some _ (Heap.get?_push_of_some _ e)
/-- the tuple at a as it stands, each item in a new pair with its number -/
def IteU (K : PySem.W.Frag) (a : Addr) : It :=
  ⟨fun i H => ∃ (xs : List V) (x : V), SqT K H a xs ∧ xs[i]? = some x, fun i H v H' => ∃ T x, v = .ref T ∧ H T = none ∧ H' = upd H T (.tup [.int (i : Nat), x]) ∧ ∀ xs, SqT K H a xs → xs[i]? = some x, fun i H => ∃ xs : List V, SqT K H a xs ∧ xs.length = i⟩
theorem turn_enumU {P : Program} {w : World} {K : PySem.W.Frag} {elts : List Expr} {kk : Nat} {tpos : Pos} (a e it : Addr) :
    Turn P w K (.Tuple elts kk tpos) (IteU K a) [e, it] e (fun i h => (∃ old, IsEnum h e it ((i : Nat) : Int) old) ∧ h.IsTupleIter it a i ∧ e ≠ it) where
  mem := List.mem_cons_self
  obj := fun i h ⟨⟨old, he⟩, ⟨o, ho, hcl, hda⟩, _⟩ b hb => by
    rcases List.mem_cons.mp hb with z | hb
    · rw [z]
      exact ⟨_, he, fun v q => nomatch q⟩
    · rw [List.mem_singleton.mp hb]
      exact ⟨o, ho, fun v q => by rw [hda] at q; cases q⟩
  keep := fun i h h' ⟨⟨old, he⟩, hi, hne⟩ kp => ⟨⟨old, kp e List.mem_cons_self _ he⟩, hi.at fun o q => kp it (List.mem_cons_of_mem _ List.mem_cons_self) o q, hne⟩
  item := by
    intro X e1 e2 e3 hc i pins s σ H E inv hf ⟨⟨old, he⟩, hit, hne⟩ ⟨xs, x, hq, hx⟩
    subst e1 e2 e3
    obtain ⟨its, rv, pt, hz⟩ := inv.tuple hq
    obtain ⟨u, hu, ru⟩ := rv.get hx
    have lt1 : e < s.heap.objs.size := Heap.lt_size he
    have lt2 : it < s.heap.objs.size := by
      obtain ⟨_, q, _⟩ := hit
      exact Heap.lt_size q
    obtain ⟨ot, hot, hct, nt, hdt⟩ := id pt
    have nia : a ≠ it := fun z => by
      obtain ⟨o2, q, hc2, _⟩ := hit
      rw [← z, hot] at q
      have z2 : ot = o2 := Option.some.inj q
      rw [z2, hc2] at hct
      exact absurd (Value.type.inj hct) (by decide)
    have nea : e ≠ a := fun z => by
      have q : s.heap.get? e = some _ := he
      rw [z, hot] at q
      have z2 := Option.some.inj q
      rw [z2] at hct
      exact absurd (Value.type.inj hct) (by decide)
    have D : Draws X.prog X.w X.A.in1 it [it, a] its.toArray.size (fun i v => its.toArray[i]? = some v) (fun i h => h.IsTupleIter it a i ∧ h.IsTuple a its.toArray) := Draws.tuple (A := X.A.in1) (inv.ok.hd hc) it a nia its.toArray
    have hsz : i < its.toArray.size := by
      have := (List.getElem?_eq_some_iff.mp hu).1
      simpa using this
    refine wpAny_pyNext_enum_itemD D he ⟨hit, pt⟩ hsz hne (by simp [hne, nea]) fun x0 h' tk hx0 ho hst hT hs2 hk => ?_
    have ex0 : x0 = u := by
      have q : its[i]? = some x0 := by simpa using hx0
      rw [hu] at q
      exact (Option.some.inj q).symm
    subst ex0
    refine ⟨_, rfl, wpAny_letOwnedTupleGo_enum (s := { s with heap := h', toks := tk + 1 }) ho fun h'' he' sb => ?_⟩
    have hT2 : h''.get? s.heap.objs.size = some { cls := .type "tuple", data := .seq #[.int i tk, x0] } := (sb.2 _ (Nat.ne_of_gt lt1)).trans hT
    have nw : ObjOk X.prog X.w (upd H s.heap.objs.size (.tup [.int (i : Nat), x])) h'' s.heap.objs.size (.tup [.int (i : Nat), x]) :=
      ⟨(by decide : 2 ≤ sizeLine), [.int i tk, x0], .cons ⟨_, rfl⟩ (.cons ru .nil), ⟨_, hT2, rfl, _, rfl⟩⟩
    have inv2 : Inv X pins σ (upd H s.heap.objs.size (.tup [.int (i : Nat), x])) { s with heap := h'', toks := tk + 1 } :=
      inv.turnedNew (ch := [e, it]) (fun b ob hb q => (sb.2 b (fun z => hb (z ▸ List.mem_cons_self))).trans (hk b ob (fun z => hb (z ▸ List.mem_cons_self)) (fun z => hb (z ▸ List.mem_cons_of_mem _ List.mem_cons_self)) q)) hf (Nat.le_refl _) nw
    refine ⟨.ref s.heap.objs.size, _, inv2, rfl, ⟨_, x, rfl, inv.hok.fresh (Nat.le_refl _), rfl, fun ys hy => by rw [inv.tuple_inj hy hq]; exact hx⟩, ⟨⟨x0, ?_⟩, hst.1.at fun o q => (sb.2 it (Ne.symm hne)).trans q, hne⟩, fun b hb => ?_⟩
    · have ei : ((i + 1 : Nat) : Int) = (i : Int) + 1 := by omega
      rw [ei]
      exact he'
    · have ltb : b < s.heap.objs.size := by
        rcases List.mem_cons.mp hb with z | hb
        · rw [z]; exact lt1
        · rw [List.mem_singleton.mp hb]; exact lt2
      rw [upd_ne (Nat.ne_of_lt ltb)]
      exact (hf b hb).1
  done := by
    intro X e1 e2 e3 hc i pins s σ H E inv hf ⟨⟨old, he⟩, hit, hne⟩ ⟨xs, hq, hx⟩
    subst e1 e2 e3
    obtain ⟨its, rv, pt, hz⟩ := inv.tuple hq
    obtain ⟨f0, f1, f2, f3, f4, f5⟩ := hf it (List.mem_cons_of_mem _ List.mem_cons_self)
    have len : its.toArray.size = i := by
      have := rv.length
      simp
      omega
    obtain ⟨ot, hot, hct, nt, hdt⟩ := id pt
    have nia : a ≠ it := fun z => by
      obtain ⟨o2, q, hc2, _⟩ := hit
      rw [← z, hot] at q
      rw [Option.some.inj q, hc2] at hct
      exact absurd (Value.type.inj hct) (by decide)
    have D : Draws X.prog X.w X.A.in1 it [it, a] its.toArray.size (fun i v => its.toArray[i]? = some v) (fun i h => h.IsTupleIter it a i ∧ h.IsTuple a its.toArray) := Draws.tuple (A := X.A.in1) (inv.ok.hd hc) it a nia its.toArray
    exact wpAny_pyNext_enum_endD D he (by rw [len]; exact ⟨hit, pt⟩) fun h' eb => ⟨rfl, inv.turned (t' := s.toks) (fun b o hb q => eb b o hb q) f0 f1 f3 f4 f5⟩
  self := fun A i s Q E ⟨⟨_, he⟩, _⟩ h => wpAny_pyIter_enum he h
def iEnumU (K : PySem.W.Frag) (ta : TA) : TI := fun σ H R => ta σ H fun vs H1 => ∃ a xs, vs = [.ref a] ∧ SqT K H1 a xs ∧ R (IteU K a) H1
theorem pi_enumU {X : Cx} {e : Expr} {ta : TA} {p pos tpos : Pos} {elts : List Expr} {kk : Nat} (hg : Gl X "enumerate") (hm : X.mg "enumerate" = none) (ha : PA X [e] ta) (hs : starEach [e] X.env = [(false, eval e X.env)] := by rfl) :
    PI X (.Tuple elts kk tpos) (.Call (.Name "enumerate" p) [e] [] pos) (iEnumU X.K ta) := by
  refine ⟨fun pins s σ H R inv h => ?_⟩
  refine Call_ (ld_blt inv hg hm boot_enumerate (PyProof.Rows.callWith_type1 (thn (ha.run pos pins s σ H _ inv h) fun us s1 ⟨vs, H1, inv1, r1, a, xs, ex, hq, q⟩ => ?_) hs rfl))
  subst ex
  rw [Vals.ref1 r1]
  obtain ⟨its, rv, pt, hz⟩ := inv1.tuple hq
  refine call_enumU pt fun h' he hit hsz hk => wpAny_pyIter_enum he ?_
  have inv2 : Inv X pins σ H1 { s1 with heap := h' } := inv1.kept (t' := s1.toks) hk
  refine ⟨s1.heap.objs.size + 1, [s1.heap.objs.size + 1, s1.heap.objs.size], _, _, H1, rfl, inv2, turn_enumU a (s1.heap.objs.size + 1) s1.heap.objs.size, ⟨⟨.none, he⟩, hit, Nat.succ_ne_self _⟩, fun b hb => ?_, q⟩
  have le : s1.heap.objs.size ≤ b := by
    rcases List.mem_cons.mp hb with z | hb
    · rw [z]; exact Nat.le_succ _
    · rw [List.mem_singleton.mp hb]; exact Nat.le_refl _
  exact inv1.fpOk le (inv1.hok.fresh le)
end L2.NJ
set_option Elab.async false
set_option linter.all false
set_option maxRecDepth 100000
set_option maxHeartbeats 4000000
namespace L2.NJ
open PySem PySem.Spec PyProof.Rows PySem.W
section
variable {X : Cx}
/-- D[t] = v by a comprehension, t a tuple -/
theorem dictSetT {pins : List (Addr × Obj)} {σ : St} {H : Hp} {s : Shared} {E : Value → Shared → Prop} {D b : Addr} {kvs : List (List Key × V)} {k : List Key} {v : V} {r : Value} {Q : Unit → Shared → Prop} (hu : X.A.units + 1 < cLine) (inv : Inv X pins σ H s)
    (hD : H D = some (.dT kvs)) (hb : H b = some (.tup (k.map kV))) (hz : kvs.length < sizeLine) (rv : RelV v r) (h : ∀ s', Inv X pins σ (upd H D (.dT (putK kvs k v))) s' → Q () s') : wpAny (model X.prog X.w) X.A (dictSet D (.ref b) r) Q E s := by
  obtain ⟨z, nsm, xs, rel, dd⟩ := dt_of inv.hok hD
  have zz : xs.length ≤ sizeLine := by
    rw [← Paired.length rel]
    exact z
  have len2 : (putK kvs k v).length ≤ sizeLine := by
    have := length_putK kvs k v
    omega
  refine wpAny_dictSet_heap (hsz := zz) (Nat.lt_of_succ_lt hu) (key_of inv.hok hb) dd fun h' dd' hs => h _ ?_
  obtain ⟨qo, es, ep, g1, g2, g3, g4, _, g6⟩ := dd'
  refine d_write inv (by rw [hD]; exact True.intro) hs ⟨qo, g1⟩ ⟨len2, nsm, _, KT.keeps (rel.put k hb rv) (fun c ys ec => ?_), qo, es, ep, g1, g2, g3, g4, g6⟩
  rw [upd_ne (ne_of ec hD (fun z => nomatch z))]
  exact ec
/-- {t: v for target in iter if ..}, keys tuples: D the new dict -/
def tDcT (wi : TI) (g : TG) (tt : TT) (tk tv : TE) (vs : List Nat) : TE := fun σ H Q => wi σ H fun J H1 => ∀ D, H1 D = none → ∃ W : Nat → Nat → Hp → Prop, (∃ m, W 0 m (upd H1 D (.dT []))) ∧ ∀ i m H, W i m H →
  (J.stop i H ∧ Q (.ref D) H) ∨ (J.go i H ∧ ∃ Nx : Hp → Prop, (∀ H', Nx H' → ∃ m', m' < m ∧ W (i + 1) m' H') ∧ ∀ x H', J.yld i H x H' → g x (wipe σ vs) H' fun σ2 H2 => wipe σ2 vs = wipe σ vs ∧ tt σ2 H2 fun c H3 =>
    if c = true then tk σ2 H3 fun y H4 => tv σ2 H4 fun z H5 => ∃ kvs k b, y = .ref b ∧ H5 b = some (.tup (k.map kV)) ∧ H5 D = some (.dT kvs) ∧ kvs.length < sizeLine ∧ Nx (upd H5 D (.dT (putK kvs k z))) else Nx H3)
abbrev newEnvD : Obj := { cls := .type "dict", data := .dict #[] }
theorem pe_dcT {kx vx tg iter : Expr} {ifs : List Expr} {scope : Scope} {own : List (Str × Nat)} {pos : Pos} {wi : TI} {g : TG} {tt : TT} {tk tv : TE} (hu : X.A.units + 1 < cLine) (calm : X.calm = true) (nod : X.N.Nodup) (hi : PI X tg iter wi) (ok : BlkOk X.N X.env.scope scope own)
    (bg : ∀ (s : Shared) (H : Hp) (C : Addr) (cl : List (Str × Addr)) (fp : List Addr), PG (X.blk s H scope (compEnvC scope cl C X.env) fp) tg g)
    (bt : ∀ (s : Shared) (H : Hp) (C : Addr) (cl : List (Str × Addr)) (fp : List Addr), PTs (X.blk s H scope (compEnvC scope cl C X.env) fp) ifs tt)
    (bk : ∀ (s : Shared) (H : Hp) (C : Addr) (cl : List (Str × Addr)) (fp : List Addr), PE (X.blk s H scope (compEnvC scope cl C X.env) fp) kx tk)
    (bv : ∀ (s : Shared) (H : Hp) (C : Addr) (cl : List (Str × Addr)) (fp : List Addr), PE (X.blk s H scope (compEnvC scope cl C X.env) fp) vx tv) (fold : ∀ x, foldedSetIterable iter X.env x = pure x := by intro _; rfl) :
    PE X (.DictComp kx vx [⟨tg, iter, ifs, 0⟩] scope pos) (tDcT wi g tt tk tv (own.map (·.2))) := by
  refine ⟨fun pins z0 σ H Q inv0 hrd => ?_⟩
  rw [arm_eval_DictComp]
  have free : ∀ y ∈ scope.names, y.2 = .free → ∃ c, X.env.cells.lookup y.1 = some c := fun y hy e =>
    (ok.free y hy e).elim (fun k => inv0.ok.has _ (.inl k)) fun k => inv0.ok.has _ (.inr k)
  refine wpAny_comprehension_free (use := none) rfl fold (closure_ok free) ok.kind (fun y hy e => by rw [ok.uniq y hy, e]) (thn (hi.run pins z0 σ H _ inv0 hrd) fun _ z1 w1 => thn w1 fun _ z2 ⟨it, fp, tn, J, Ha, ev, inva, tr, sta, fpa, rd⟩ => ?_)
  subst ev
  refine wpAny_newObj_type (newEnv_comp ?_)
  generalize eD : z2.heap.objs.size = D
  have noD : Ha D = none := inva.hok.fresh (Nat.le_of_eq eD)
  obtain ⟨W, ⟨m0, w0⟩, turn⟩ := rd D noD
  generalize ez : ({ z2 with heap := z2.heap.push newEnvD } : Shared) = z3
  have invb : Inv X pins σ (upd Ha D (.dT [])) z3 := by
    subst ez
    refine inva.laid (t' := z2.toks) (fun b o e => Heap.get?_push_of_some _ e) (Nat.le_of_eq eD) ?_
    subst eD
    exact dt_empty z2.heap inva.big
  have hz3 : z3.heap = z2.heap.push newEnvD := by rw [← ez]
  have below : ∀ b ∈ fp, b < z2.heap.objs.size := fun b hb => Heap.lt_size (tr.obj _ _ sta b hb).choose_spec.1
  have fpb : ∀ b ∈ fp, FpOk X pins (upd Ha D (.dT [])) b ∧ b < z3.heap.objs.size := fun b hb =>
    ⟨⟨by rw [upd_ne (by rw [← eD]; exact Nat.ne_of_lt (below b hb))]; exact (fpa b hb).1, (fpa b hb).2⟩, by rw [hz3, Heap.size_push]; exact Nat.lt_succ_of_lt (below b hb)⟩
  have stb : tn 0 z3.heap := tr.keep _ _ _ sta fun b _ o e => by
    rw [hz3]
    exact Heap.get?_push_of_some _ e
  have invc := block_start invb ok nod fpb
  show codeAny _ _ (.compStart (.DictComp kx vx [⟨tg, iter, ifs, 0⟩] scope pos) 0 (.ref it) (.ref D) (compEnvC scope (cellsFrom (z3.heap.objs.size + 1) scope.names (cloFrom X.env.cells scope.names [])) z3.heap.objs.size X.env)) (compPost (model X.prog X.w) X.A X.xe none (EP X pins σ Q) (.ref D) z3.heap.objs.size) { z3 with heap := pushCells (z3.heap.push newEnvD) scope.names }
  generalize eC : z3.heap.objs.size = C at invc ⊢
  generalize ecl : cellsFrom (C + 1) scope.names (cloFrom X.env.cells scope.names []) = cl at invc ⊢
  have jg := bg z3 (upd Ha D (.dT [])) C cl fp
  have jt := bt z3 (upd Ha D (.dT [])) C cl fp
  have jk := bk z3 (upd Ha D (.dT [])) C cl fp
  have jv := bv z3 (upd Ha D (.dT [])) C cl fp
  have nofp : ∀ b ∈ fp, (upd Ha D (.dT [])) b = none := fun b hb => (fpb b hb).1.1
  generalize ece : compEnvC scope cl C X.env = ce at invc jg jt jk jv ⊢
  have ceL : ce.locals = C := by
    subst ece
    rfl
  generalize eHb : upd Ha D (.dT []) = Hb at invb invc jg jt jk jv w0 nofp fpb
  generalize ez4 : ({ z3 with heap := pushCells (z3.heap.push newEnvD) scope.names } : Shared) = z4 at invc ⊢
  have stc : tn 0 z4.heap := tr.keep _ _ _ stb fun b _ o e => by
    rw [← ez4]
    exact pushCells_keeps _ _ _ _ (Heap.get?_push_of_some _ e)
  have stat : ∀ {σ' : L2.St} {H' : Hp} {s' : Shared}, Inv (X.blk z3 Hb scope ce fp) [] σ' H' s' → (∀ b ∈ fp, H' b = none) → ∀ b ∈ fp, FpOk (X.blk z3 Hb scope ce fp) [] H' b := fun {σ' H' s'} iv hn b hb =>
    ⟨hn b hb, (iv.ok.exf b hb).1, iv.ok.exfs b hb, .inl hb, fun x c e => (iv.ok.exf b hb).2 x c e, fun p hp => absurd (show p ∈ ([] : List (Addr × Obj)) ++ [] from hp) (by simp)⟩
  have loop : codeAny (model X.prog X.w) X.A (.compLoop (.DictComp kx vx [⟨tg, iter, ifs, 0⟩] scope pos) 0 (.ref it) (.ref D) ce) (compPost (model X.prog X.w) X.A X.xe none (EP X pins σ Q) (.ref D) C) z4 := by
    refine compLoop_anyD (fun n s' => ∃ i H', Inv (X.blk z3 Hb scope ce fp) [] (wipe σ (own.map (·.2))) H' s' ∧ tn i s'.heap ∧ (∀ b ∈ fp, H' b = none) ∧ W i n H') ?_ m0 ⟨0, Hb, invc, stc, nofp, w0⟩
    rintro n z5 ⟨i, Hc, ivc, stcc, nc, wc⟩
    rcases turn i n Hc wc with ⟨halt, fin⟩ | ⟨go, Nx, onw, step⟩
    · refine thnF (tr.done (X.blk z3 Hb scope ce fp) rfl rfl rfl calm i [] z5 _ Hc (fun _ _ => False) ivc (stat ivc nc) stcc halt) fun r z6 ⟨er, ivd⟩ => ?_
      subst er
      have back : Inv X pins σ Hc z6 := invb.call' (ch := fp) ivd.os ivd.base ivd.hok ivd.bare fun b hb => ⟨(fpb b hb).1.2.2.2.1, (fpb b hb).1.2.1, (fpb b hb).1.2.2.2.2.1, (fpb b hb).1.2.2.2.2.2⟩
      have noC : Hc C = none := by
        have q : Hc ce.locals = none := ivd.free
        rw [ceL] at q
        exact q
      obtain ⟨mm, hns, _⟩ := ivd.loc
      have hns2 : z6.heap.Ns ce.locals mm := hns
      rw [ceL] at hns2
      refine ⟨mm, hns2, fun hh sb => ?_⟩
      obtain ⟨f0, f1, f2, f3, f4, f5⟩ := invb.fpOk (Nat.le_of_eq eC) noC
      exact ⟨.ref D, Hc, back.turned (t' := z6.toks) (fun b o hb e => (sb.2 b hb).trans e) f0 f1 f3 f4 f5, rfl, fin⟩
    · refine thnF (tr.item (X.blk z3 Hb scope ce fp) rfl rfl rfl calm i [] z5 _ Hc (fun _ _ => False) ivc (stat ivc nc) stcc go) fun r z6 ⟨u, er, w6⟩ => ?_
      subst er
      refine thnF w6 fun _ z7 ⟨x, Hd, ivd, rx, yd, std, nd⟩ => ?_
      have ivp := ivd.pinned (stat ivd nd) (tr.obj _ _ std)
      refine thnF (jg.run _ z7 _ Hd x u _ ivp rx (step x Hd yd)) fun _ z8 ⟨σe, He, ive, wpe, qe⟩ => ?_
      refine thnF (jt.run _ z8 σe He _ ive qe) fun c z9 ⟨Hf, ivf, qf⟩ => ?_
      have close : ∀ {s' : Shared} {H' : Hp}, Inv (X.blk z3 Hb scope ce fp) ([] ++ pinsAt fp z7.heap) σe H' s' → Nx H' → ∃ m, m < n ∧ ∃ i H', Inv (X.blk z3 Hb scope ce fp) [] (wipe σ (own.map (·.2))) H' s' ∧ tn i s'.heap ∧ (∀ b ∈ fp, H' b = none) ∧ W i m H' := fun {s' H'} iv nx => by
        obtain ⟨m', lt, w'⟩ := onw H' nx
        have pin : ∀ b ∈ fp, ∀ o, z7.heap.get? b = some o → s'.heap.get? b = some o ∧ H' b = none := fun b hb o e =>
          let q := iv.pin (b, o) (List.mem_append_right _ (List.mem_append_right _ (mem_pinsAt hb e)))
          ⟨q.1, q.2.1⟩
        have hlen : (wipe σ (own.map (·.2))).length = σe.length := by rw [← wpe, wipe_length]
        refine ⟨m', lt, i + 1, H', (iv.unpinned (pins := [])).weak hlen (fun j v e => ?_), tr.keep _ _ _ std fun b hb o e => (pin b hb o e).1, fun b hb => ?_, w'⟩
        · rw [← wpe] at e
          exact (wipe_some e).1
        · obtain ⟨o, e, _⟩ := tr.obj _ _ std b hb
          exact (pin b hb o e).2
      cases c with
      | false =>
        simp only [Bool.false_eq_true, if_false] at qf ⊢
        exact close ivf qf
      | true =>
        simp only [if_true] at qf ⊢
        refine thnF (jk.run _ z9 σe Hf _ ivf qf) fun kv zA ⟨yk, Hg, ivg, rk, qg⟩ => ?_
        refine thnF (jv.run _ zA σe Hg _ ivg qg) fun vv zB ⟨yv, Hh, ivh, rvv, kvs, k, b, ek, hb, hD, hz, nx⟩ => ?_
        subst ek
        obtain rfl : kv = Value.ref b := rk
        exact dictSetT (X := X.blk z3 Hb scope ce fp) hu ivh hD hb hz rvv fun zC ivi => close ivi nx
  exact codeAny_compStart_dict loop (tr.self X.A 0 _ _ _ stc loop)
end
end L2.NJ
set_option Elab.async false
set_option linter.all false
set_option maxRecDepth 100000
set_option maxHeartbeats 4000000
namespace L2.NJ
open PySem PySem.Spec PyProof.Rows PySem.W
theorem atKey_none {α : Type} [DecidableEq α] {k : α} : ∀ {xs : List (α × Addr × Value)}, k ∉ xs.map (·.1) → atKey xs k = none
  | [], _ => rfl
  | x :: xs, h => by
    rw [List.map_cons, List.mem_cons, not_or] at h
    have ih := atKey_none h.2
    unfold atKey at ih ⊢
    rw [List.find?_cons, decide_eq_false (fun e => h.1 e.symm)]
    exact ih
theorem storedAll_nodup {α : Type} [DecidableEq α] : ∀ (qs acc : List (α × Addr × Value)), ((acc ++ qs).map (·.1)).Nodup → storedAllH acc qs = acc ++ qs
  | [], acc, _ => (List.append_nil _).symm
  | q :: qs, acc, h => by
    have hq : q.1 ∉ acc.map (·.1) := fun m => by
      rw [List.map_append, List.nodup_append] at h
      exact h.2.2 _ m _ (List.mem_cons_self) rfl
    show storedAllH (storedH acc q.1 q.2.1 q.2.2) qs = _
    rw [storedH_new (atKey_none hq)]
    have e : acc ++ [(q.1, q.2.1, q.2.2)] ++ qs = acc ++ q :: qs := by rw [List.append_assoc]; rfl
    rw [storedAll_nodup qs _ (by rw [e]; exact h), e]
section
variable {X : Cx}
abbrev PairT (H : Hp) (p : Addr) (e : List Key × Addr × V) : Prop := H p = some (.tup [.ref e.2.1, e.2.2]) ∧ H e.2.1 = some (.tup (e.1.map kV))
theorem pairT_of {pins : List (Addr × Obj)} {σ : L2.St} {H : Hp} {s : Shared} (inv : Inv X pins σ H s) : ∀ {ps : List Addr} {L : List (List Key × Addr × V)}, Paired (PairT H) ps L →
    ∃ qs : List (List Key × Addr × Value), qs.length = ps.length ∧ KT H (L.map fun e => (e.1, e.2.2)) qs ∧ qs.map (·.1) = L.map (·.1) ∧ ∀ (j : Nat) (q : List Key × Addr × Value), qs[j]? = some q →
      (tupleKind (mixKind X.prog X.w)).is s.heap q.1 q.2.1 ∧ ∃ p, ps[j]? = some p ∧ IsTup s.heap p #[.ref q.2.1, q.2.2]
  | _, _, .nil => ⟨[], rfl, .nil, rfl, fun j q e => by simp at e⟩
  | _, _, .cons (a := p) (b := e) h t => by
    obtain ⟨qs, hl, kt, km, hq⟩ := pairT_of inv t
    obtain ⟨_, its, rv, tp⟩ := (show ObjOk X.prog X.w H s.heap p (.tup [.ref e.2.1, e.2.2]) from inv.hok p _ h.1)
    obtain ⟨u, y, ei, ru, ry⟩ := vals2 rv
    subst ei
    obtain rfl : u = Value.ref e.2.1 := ru
    refine ⟨(e.1, e.2.1, y) :: qs, by rw [List.length_cons, List.length_cons, hl], .cons ⟨rfl, h.2, ry⟩ kt, by rw [List.map_cons, List.map_cons, km], fun j q ej => ?_⟩
    cases j with
    | zero =>
      have e' : (e.1, e.2.1, y) = q := Option.some.inj ej
      subst e'
      exact ⟨key_of inv.hok h.2, p, rfl, tp⟩
    | succ j =>
      obtain ⟨g1, p2, g2, g3⟩ := hq j q (by simpa using ej)
      exact ⟨g1, p2, by simpa using g2, g3⟩
/-- dict(xs), xs a list of pairs (t, v), the t tuples, no two alike -/
theorem call_dictT (hu : X.A.units + 64 < cLine) (calm : X.calm = true) : CallR X (.type "dict") (fun xs H Q => ∃ (a : Addr) (ps : List Addr) (L : List (List Key × Addr × V)), xs = [.ref a] ∧ SqL X.K H a (ps.map V.ref) ∧ Paired (PairT H) ps L ∧ (L.map (·.1)).Nodup ∧
    ∀ p, H p = none → Q (.ref p) (upd H p (.dT (L.map fun e => (e.1, e.2.2))))) := by
  intro pins s σ H xs us Q inv r ⟨a, ps, L, ex, hs, hp, nd, q⟩
  subst ex
  rw [Vals.ref1 r]
  obtain ⟨its, rv, pl, hz⟩ := inv.list hs
  have ei := refs_at rv
  subst ei
  rw [List.length_map] at hz
  obtain ⟨qs, hl, kt, km, hq⟩ := pairT_of inv hp
  obtain ⟨o, n, ho, hc, hd, hda⟩ := pl
  have items : PairItems s.heap (ps.map Value.ref).toArray (fun j => ps.getD j 0) (qs.map fun q => (Value.ref q.2.1, q.2.2)) := by
    refine ⟨by simp [hl], fun j k v e => ?_⟩
    rw [List.getElem?_map, Option.map_eq_some_iff] at e
    obtain ⟨q0, e1, e2⟩ := e
    obtain ⟨_, p, g2, g3⟩ := hq j q0 e1
    have e3 := congrArg Prod.fst e2
    have e4 := congrArg Prod.snd e2
    dsimp only at e3 e4
    subst e3 e4
    refine ⟨by simp [g2], .inl ?_⟩
    have e5 : ps.getD j 0 = p := by simp [g2]
    show s.heap.IsTuple (ps.getD j 0) _
    rw [e5]
    exact g3
  have P := PairArg.list (prog := X.prog) (w := X.w) a (ps.map Value.ref).toArray (fun j => ps.getD j 0) (qs.map fun q => (Value.ref q.2.1, q.2.2))
  have ndq : (qs.map (·.1)).Nodup := by rw [km]; exact nd
  refine call_dict_pairsH (knd := tupleKind (mixKind X.prog X.w)) (ps := qs) P (inv.ok.hd calm) (show X.A.in1.in1.units < cLine from (by show X.A.units + 1 + 1 < cLine; omega)) ⟨⟨o, n, ho, hc, hd, hda⟩, items⟩ ⟨by simp, fun i key v e => ?_⟩ (fun h' hk x hx => ?_) (by simp [hl]; exact hz) fun h' tk hd' hk => ?_
  · have e' : (qs.map fun q => (Value.ref q.2.1, q.2.2))[i]? = some (key, v) := e
    rw [List.getElem?_map, Option.map_eq_some_iff] at e'
    obtain ⟨q0, e1, e2⟩ := e'
    have e3 := congrArg Prod.fst e2
    have e4 := congrArg Prod.snd e2
    dsimp only at e3 e4
    subst e3 e4
    exact ⟨q0.1, q0.2.1, e1, rfl⟩
  · obtain ⟨j, e1⟩ := List.mem_iff_getElem?.mp hx
    obtain ⟨o1, it1, n1, g1, g2, g3, g4⟩ := (hq j x e1).1
    exact ⟨o1, it1, n1, hk _ _ (Nat.ne_of_lt (Heap.lt_size g1)) (fun z => nomatch z) g1, g2, g3, g4⟩
  · rw [storedAll_nodup qs [] (by simpa using ndq)] at hd'
    have nsm : (s.heap.objs.size == sysModules) = false := beq_eq_false_iff_ne.mpr (Nat.ne_of_gt inv.big)
    have fresh := inv.hok.fresh (Nat.le_refl s.heap.objs.size)
    obtain ⟨qo, es, ep, g1, g2, g3, g4, _, g6⟩ := hd'
    refine ⟨.ref s.heap.objs.size, upd H s.heap.objs.size (.dT (L.map fun e => (e.1, e.2.2))), inv.laid (t' := tk) (fun b o e => hk b o (fun z => nomatch z) e) (Nat.le_refl _) ⟨?_, nsm, qs, KT.keeps kt (fun c ys ec => ?_), qo, es, ep, g1, g2, g3, g4, g6⟩, rfl, q _ fresh⟩
    · rw [List.length_map, ← Paired.length hp]
      exact hz
    · rw [upd_ne (ne_of_none ec fresh)]
      exact ec
end
end L2.NJ
set_option Elab.async false
set_option linter.all false
set_option maxRecDepth 100000
set_option maxHeartbeats 4000000
namespace L2.NJ
open PySem PySem.Spec PyProof.Rows
/-! ### what the top has written -/
structure Fx (K : PySem.W.Frag) (mg : Str → Option Value) : Prop where
  says : He.SaysD faD fnD K
  at_ : ∃ h : Heap, K.In h ∧ h.Ns mainGlobals mg
section
variable {P : Program} {w : World} {K : PySem.W.Frag} {mg : Str → Option Value} {base : Heap}
theorem Fx.glo (T : Fx K mg) {x : Str} (i : Nat) (h : faD[i]? = some (.glo x)) : mg x = some (.ref (He.ga K x)) := let ⟨_, X, G⟩ := T.at_; He.glo_ok X G (T.says.fact i h)
theorem Fx.free (T : Fx K mg) {x : Str} (i : Nat) (h : faD[i]? = some (.free x)) : mg x = none := let ⟨_, X, G⟩ := T.at_; He.free_ok X G (T.says.fact i h)
theorem Fx.str (T : Fx K mg) {x z : Str} (i : Nat) (h : faD[i]? = some (.str x z)) : ∃ t, mg x = some (.str z t) := let ⟨_, X, G⟩ := T.at_; He.str_ok X G (T.says.fact i h)
theorem Fx.int (T : Fx K mg) {x : Str} {z : Int} (i : Nat) (h : faD[i]? = some (.int x z)) : ∃ t, mg x = some (.int z t) := let ⟨_, X, G⟩ := T.at_; He.int_ok X G (T.says.fact i h)
theorem Fx.g_is_integer (T : Fx K mg) : mg "is_integer" = some (.ref (He.ga K "is_integer")) := T.glo 0 rfl
theorem Fx.g_is_within (T : Fx K mg) : mg "is_within" = some (.ref (He.ga K "is_within")) := T.glo 1 rfl
theorem Fx.g_is_letter (T : Fx K mg) : mg "is_letter" = some (.ref (He.ga K "is_letter")) := T.glo 2 rfl
theorem Fx.g_is_text (T : Fx K mg) : mg "is_text" = some (.ref (He.ga K "is_text")) := T.glo 3 rfl
theorem Fx.g_is_filled_text (T : Fx K mg) : mg "is_filled_text" = some (.ref (He.ga K "is_filled_text")) := T.glo 4 rfl
theorem Fx.g_are_ascending (T : Fx K mg) : mg "are_ascending" = some (.ref (He.ga K "are_ascending")) := T.glo 5 rfl
theorem Fx.g_is_arrow (T : Fx K mg) : mg "is_arrow" = some (.ref (He.ga K "is_arrow")) := T.glo 6 rfl
theorem Fx.g_are_arrows (T : Fx K mg) : mg "are_arrows" = some (.ref (He.ga K "are_arrows")) := T.glo 7 rfl
theorem Fx.g_reached (T : Fx K mg) : mg "reached" = some (.ref (He.ga K "reached")) := T.glo 8 rfl
theorem Fx.g_hangs (T : Fx K mg) : mg "hangs" = some (.ref (He.ga K "hangs")) := T.glo 9 rfl
theorem Fx.g_all_points (T : Fx K mg) : mg "all_points" = some (.ref (He.ga K "all_points")) := T.glo 10 rfl
theorem Fx.g_stepped (T : Fx K mg) : mg "stepped" = some (.ref (He.ga K "stepped")) := T.glo 11 rfl
theorem Fx.g_ends_from (T : Fx K mg) : mg "ends_from" = some (.ref (He.ga K "ends_from")) := T.glo 12 rfl
theorem Fx.g_ends_of (T : Fx K mg) : mg "ends_of" = some (.ref (He.ga K "ends_of")) := T.glo 13 rfl
theorem Fx.g_stretch_there (T : Fx K mg) : mg "stretch_there" = some (.ref (He.ga K "stretch_there")) := T.glo 14 rfl
theorem Fx.g_is_stretch (T : Fx K mg) : mg "is_stretch" = some (.ref (He.ga K "is_stretch")) := T.glo 15 rfl
theorem Fx.g_check_stretch (T : Fx K mg) : mg "check_stretch" = some (.ref (He.ga K "check_stretch")) := T.glo 16 rfl
theorem Fx.g_word_at (T : Fx K mg) : mg "word_at" = some (.ref (He.ga K "word_at")) := T.glo 17 rfl
theorem Fx.g_word_ending (T : Fx K mg) : mg "word_ending" = some (.ref (He.ga K "word_ending")) := T.glo 18 rfl
theorem Fx.g_comings_of (T : Fx K mg) : mg "comings_of" = some (.ref (He.ga K "comings_of")) := T.glo 19 rfl
theorem Fx.g_first_cuts (T : Fx K mg) : mg "first_cuts" = some (.ref (He.ga K "first_cuts")) := T.glo 20 rfl
theorem Fx.g_reading_from (T : Fx K mg) : mg "reading_from" = some (.ref (He.ga K "reading_from")) := T.glo 21 rfl
theorem Fx.g_reading_with (T : Fx K mg) : mg "reading_with" = some (.ref (He.ga K "reading_with")) := T.glo 22 rfl
theorem Fx.g_readings_of (T : Fx K mg) : mg "readings_of" = some (.ref (He.ga K "readings_of")) := T.glo 23 rfl
theorem Fx.g_readings (T : Fx K mg) : mg "readings" = some (.ref (He.ga K "readings")) := T.glo 24 rfl
theorem Fx.g_reading_at (T : Fx K mg) : mg "reading_at" = some (.ref (He.ga K "reading_at")) := T.glo 25 rfl
theorem Fx.g_beginnings (T : Fx K mg) : mg "beginnings" = some (.ref (He.ga K "beginnings")) := T.glo 26 rfl
theorem Fx.g_endings (T : Fx K mg) : mg "endings" = some (.ref (He.ga K "endings")) := T.glo 27 rfl
theorem Fx.g_clash_of (T : Fx K mg) : mg "clash_of" = some (.ref (He.ga K "clash_of")) := T.glo 28 rfl
theorem Fx.g_are_words (T : Fx K mg) : mg "are_words" = some (.ref (He.ga K "are_words")) := T.glo 29 rfl
theorem Fx.g__law_hand (T : Fx K mg) : mg "_law_hand" = some (.ref (He.ga K "_law_hand")) := T.glo 30 rfl
theorem Fx.g__law_draw (T : Fx K mg) : mg "_law_draw" = some (.ref (He.ga K "_law_draw")) := T.glo 31 rfl
theorem Fx.g__law_is (T : Fx K mg) : mg "_law_is" = some (.ref (He.ga K "_law_is")) := T.glo 32 rfl
theorem Fx.g__law_some (T : Fx K mg) : mg "_law_some" = some (.ref (He.ga K "_law_some")) := T.glo 33 rfl
theorem Fx.g__law_shuffled (T : Fx K mg) : mg "_law_shuffled" = some (.ref (He.ga K "_law_shuffled")) := T.glo 34 rfl
theorem Fx.g__law_web (T : Fx K mg) : mg "_law_web" = some (.ref (He.ga K "_law_web")) := T.glo 35 rfl
theorem Fx.g__law_ends (T : Fx K mg) : mg "_law_ends" = some (.ref (He.ga K "_law_ends")) := T.glo 36 rfl
theorem Fx.g__law_signs (T : Fx K mg) : mg "_law_signs" = some (.ref (He.ga K "_law_signs")) := T.glo 37 rfl
theorem Fx.g__law_longer (T : Fx K mg) : mg "_law_longer" = some (.ref (He.ga K "_law_longer")) := T.glo 38 rfl
theorem Fx.g__law_stretches (T : Fx K mg) : mg "_law_stretches" = some (.ref (He.ga K "_law_stretches")) := T.glo 39 rfl
theorem Fx.g__law_clashing (T : Fx K mg) : mg "_law_clashing" = some (.ref (He.ga K "_law_clashing")) := T.glo 40 rfl
theorem Fx.g__law_fits (T : Fx K mg) : mg "_law_fits" = some (.ref (He.ga K "_law_fits")) := T.glo 41 rfl
theorem Fx.g__law_comings (T : Fx K mg) : mg "_law_comings" = some (.ref (He.ga K "_law_comings")) := T.glo 42 rfl
theorem Fx.g__law_count (T : Fx K mg) : mg "_law_count" = some (.ref (He.ga K "_law_count")) := T.glo 43 rfl
theorem Fx.g__law_made (T : Fx K mg) : mg "_law_made" = some (.ref (He.ga K "_law_made")) := T.glo 44 rfl
theorem Fx.g__law_is_last (T : Fx K mg) : mg "_law_is_last" = some (.ref (He.ga K "_law_is_last")) := T.glo 45 rfl
theorem Fx.g__law_lot (T : Fx K mg) : mg "_law_lot" = some (.ref (He.ga K "_law_lot")) := T.glo 46 rfl
theorem Fx.g__law_full (T : Fx K mg) : mg "_law_full" = some (.ref (He.ga K "_law_full")) := T.glo 47 rfl
theorem Fx.g__law_words (T : Fx K mg) : mg "_law_words" = some (.ref (He.ga K "_law_words")) := T.glo 48 rfl
theorem Fx.g__law_walk (T : Fx K mg) : mg "_law_walk" = some (.ref (He.ga K "_law_walk")) := T.glo 49 rfl
theorem Fx.g__law_readings (T : Fx K mg) : mg "_law_readings" = some (.ref (He.ga K "_law_readings")) := T.glo 50 rfl
theorem Fx.g_law (T : Fx K mg) : mg "law" = some (.ref (He.ga K "law")) := T.glo 51 rfl
theorem Fx.f_isinstance (T : Fx K mg) : mg "isinstance" = none := T.free 52 rfl
theorem Fx.f_int (T : Fx K mg) : mg "int" = none := T.free 53 rfl
theorem Fx.f_bool (T : Fx K mg) : mg "bool" = none := T.free 54 rfl
theorem Fx.f_str (T : Fx K mg) : mg "str" = none := T.free 55 rfl
theorem Fx.f_tuple (T : Fx K mg) : mg "tuple" = none := T.free 56 rfl
theorem Fx.f_list (T : Fx K mg) : mg "list" = none := T.free 57 rfl
theorem Fx.f_len (T : Fx K mg) : mg "len" = none := T.free 58 rfl
theorem Fx.f_all (T : Fx K mg) : mg "all" = none := T.free 59 rfl
theorem Fx.f_any (T : Fx K mg) : mg "any" = none := T.free 60 rfl
theorem Fx.f_range (T : Fx K mg) : mg "range" = none := T.free 61 rfl
theorem Fx.f_sorted (T : Fx K mg) : mg "sorted" = none := T.free 62 rfl
theorem Fx.f_dict (T : Fx K mg) : mg "dict" = none := T.free 63 rfl
theorem Fx.f_min (T : Fx K mg) : mg "min" = none := T.free 64 rfl
theorem Fx.f_max (T : Fx K mg) : mg "max" = none := T.free 65 rfl
theorem Fx.f_abs (T : Fx K mg) : mg "abs" = none := T.free 66 rfl
theorem Fx.f_enumerate (T : Fx K mg) : mg "enumerate" = none := T.free 67 rfl
theorem Fx.f_zip (T : Fx K mg) : mg "zip" = none := T.free 68 rfl
theorem Fx.v_LETTERS (T : Fx K mg) : ∃ t, mg "LETTERS" = some (.str "abcdefghijklmnopqrstuvwxyz" t) := T.str 69 rfl
theorem Fx.v_MOST_POINTS (T : Fx K mg) : ∃ t, mg "MOST_POINTS" = some (.int 12 t) := T.int 70 rfl
theorem Fx.v_MOST_ARROWS (T : Fx K mg) : ∃ t, mg "MOST_ARROWS" = some (.int 60 t) := T.int 71 rfl
theorem Fx.v_MOST_WORDS (T : Fx K mg) : ∃ t, mg "MOST_WORDS" = some (.int 400 t) := T.int 72 rfl
theorem Fx.v_MOST_LETTERS (T : Fx K mg) : ∃ t, mg "MOST_LETTERS" = some (.int 60 t) := T.int 73 rfl
theorem Fx.g_Web (T : Fx K mg) : mg "Web" = some (.ref (He.ga K "Web")) := T.glo 74 rfl
theorem Fx.c_Web (T : Fx K mg) : Cls K (He.ga K "Web") := He.cls_ok (T.says.fact 75)
theorem Fx.mk_Web (T : Fx K mg) : Mk K (He.ga K "Web") (He.ma K (He.ga K "Web") "__init__") := He.mkr_ok (T.says.fact 76)
theorem Fx.m_Web (T : Fx K mg) : Meth K (He.ga K "Web") "keep" (He.ma K (He.ga K "Web") "keep") := He.meth_ok (T.says.fact 77)
theorem Fx.g_Book (T : Fx K mg) : mg "Book" = some (.ref (He.ga K "Book")) := T.glo 78 rfl
theorem Fx.c_Book (T : Fx K mg) : Cls K (He.ga K "Book") := He.cls_ok (T.says.fact 79)
theorem Fx.mk_Book (T : Fx K mg) : Mk K (He.ga K "Book") (He.ma K (He.ga K "Book") "__init__") := He.mkr_ok (T.says.fact 80)
theorem Fx.m_Book (T : Fx K mg) : Meth K (He.ga K "Book") "keep" (He.ma K (He.ga K "Book") "keep") := He.meth_ok (T.says.fact 81)
theorem Fx.n_Web_points (T : Fx K mg) : NoAttr K (He.ga K "Web") "points" := He.noat_ok (T.says.fact 82)
theorem Fx.n_Web_arrows (T : Fx K mg) : NoAttr K (He.ga K "Web") "arrows" := He.noat_ok (T.says.fact 83)
theorem Fx.n_Web_kept_letters (T : Fx K mg) : NoAttr K (He.ga K "Web") "kept_letters" := He.noat_ok (T.says.fact 84)
theorem Fx.n_Web_kept_steps (T : Fx K mg) : NoAttr K (He.ga K "Web") "kept_steps" := He.noat_ok (T.says.fact 85)
theorem Fx.n_Book_web (T : Fx K mg) : NoAttr K (He.ga K "Book") "web" := He.noat_ok (T.says.fact 86)
theorem Fx.n_Book_words (T : Fx K mg) : NoAttr K (He.ga K "Book") "words" := He.noat_ok (T.says.fact 87)
theorem Fx.n_Book_kept_words (T : Fx K mg) : NoAttr K (He.ga K "Book") "kept_words" := He.noat_ok (T.says.fact 88)
theorem Fx.n_Book_kept_begins (T : Fx K mg) : NoAttr K (He.ga K "Book") "kept_begins" := He.noat_ok (T.says.fact 89)
theorem Fx.n_Book_kept_ends (T : Fx K mg) : NoAttr K (He.ga K "Book") "kept_ends" := He.noat_ok (T.says.fact 90)
theorem Fx.n_Book_kept_longest (T : Fx K mg) : NoAttr K (He.ga K "Book") "kept_longest" := He.noat_ok (T.says.fact 91)
theorem Fx.n_Book_kept_ways (T : Fx K mg) : NoAttr K (He.ga K "Book") "kept_ways" := He.noat_ok (T.says.fact 92)
/-! ### a def that keeps its promise, whatever its function object -/
structure DOk (P : Program) (w : World) (K : PySem.W.Frag) (mg : Str → Option Value) (base : Heap) (k : Nat) (f : Addr) (ps : List Str) (sp : Sp) : Prop where
  ex : ∃ fd, FnOk P w K mg base CX0 k f fd ps sp ∧ Binds K fd ps []
  kp : PySem.W.keepIn K (.ref f) = true
theorem DOk.of (T : Fx K mg) (i : Nat) {d : He.DefD} (hd : fnD[i]? = some d) (h0 : d.dfl = []) {N ps : List Str} {k : Nat} {sp : Sp} (S : FnScope N ps d.scope)
    (hb : ∀ (kV doc pm : Value) (an : Option Addr) (cdv ct : Value) (us : List Value), us.length = ps.length → bindArgs (PySem.W.fnOf d.name d.qual d.params d.body d.scope .none kV doc pm an cdv ct) ⟨us, []⟩ = pure (ps.zip us))
    (len : ∀ vs H Q E, sp vs H Q E → vs.length = ps.length)
    (body : ∀ (f : Addr) (cdv : Value) (A : Around) (outer : List Env) (s : Shared) (H : Hp) (vs : List V) (Q : VK) (E : XK), Room k (A.deeper (envOfC d.qual d.scope s.heap.objs.size f cdv)) → sp vs H Q E →
      ∃ t, PSs (cxOf CX0 P w K mg base N d.qual d.scope f cdv A outer s H E).nox d.body t ∧ t { nx := fun _ H' => Q .non H', rt := Q } (start N vs) H) : DOk P w K mg base (k + 1) (He.fAd K d.at_) ps sp := by
  obtain ⟨fd, F⟩ := T.says.def_ i hd
  have F' : FunD K d.name d.qual d.params d.body d.scope [] (d.kws K) (He.fAd K d.at_) fd := by
    have e : d.dvs K = [] := by unfold He.DefD.dvs; rw [h0]; rfl
    rw [e] at F
    exact F
  refine ⟨⟨fd, F.ok S len fun cdv A outer s H vs Q E hr h => ?_, F'.bindsN hb⟩, F.kp⟩
  obtain ⟨t, p, q⟩ := body _ cdv A outer s H vs Q E hr h
  exact ⟨t, p.nox, q⟩
theorem DOk.imp {k : Nat} {f : Addr} {ps : List Str} {sp sp' : Sp} (D : DOk P w K mg base k f ps sp) (h : ∀ vs H Q E, sp' vs H Q E → sp vs H Q E) : DOk P w K mg base k f ps sp' := by
  obtain ⟨fd, F, b⟩ := D.ex
  exact ⟨⟨fd, F.imp h, b⟩, D.kp⟩
end
section
variable {X : Cx}
/-- f(e, ..) -/
theorem pe_c {j k : Nat} {f : Addr} {ps : List Str} {sp : Sp} {x : Str} {p pos : Pos} {e : Expr} {es : List Expr} {t : TA} (D : DOk X.prog X.w X.K X.mg X.base k f ps sp) (hr : Room j X.A) (hm : X.mg x = some (.ref f)) (hg : Gl X x) (ha : PA X (e :: es) t)
    (hj : k ≤ j := by decide) (hdb : (x == ("__debug__" : Str)) = false := by decide)
    (h1 : starEach (e :: es) X.env = (false, eval e X.env) :: starEach es X.env := by rfl) (h2 : (backTo pos (starEach es X.env)).any (·.1) = false := by rfl) : PE X (.Call (.Name x p) (e :: es) [] pos) (tCall sp [] E0 t) := by
  obtain ⟨fd, F, b⟩ := D.ex
  exact pe_call F (hr.mono hj) hg hm D.kp b .nil pass0 ha hdb h1 h2
end
theorem hu65 {k : Nat} {A : Around} (hr : Room k A) : A.units + 65 < cLine := by have := hr.un; omega
/-! ### heaps, texts -/
theorem same_upd {H : Hp} {p : Addr} {o : HO} (h : H p = none) : Same H (upd H p o) := fun b x e => by
  rw [upd_ne (ne_of_none e h)]
  exact e
/-- a text by its code points -/
def tx (l : List Nat) : V := .str ⟨l.toArray⟩
def sx (l : List Nat) : Str := ⟨l.toArray⟩
theorem sx_inj {a b : List Nat} (h : sx a = sx b) : a = b := by
  have : (sx a).cps = (sx b).cps := congrArg _ h
  simpa [sx] using this
theorem sx_iff {a b : List Nat} : sx a = sx b ↔ a = b := ⟨sx_inj, fun e => by rw [e]⟩
theorem tx_inj {a b : List Nat} (h : tx a = tx b) : a = b := sx_inj (V.str.inj h)
theorem sx_len (l : List Nat) : (sx l).length = l.length := by
  show (l.toArray).size = l.length
  simp
end L2.NJ
set_option Elab.async false
set_option linter.all false
set_option maxRecDepth 100000
set_option maxHeartbeats 4000000
namespace L2.NJ
open PySem PySem.Spec PyProof.Rows
theorem Walk.len {J : It} {n m : Nat} {G : Hp → Prop} {Y : Nat → Hp → V → Hp → Prop} (w : Walk J n G Y) (e : n = m) : Walk J m G Y := e ▸ w
/-! ### comprehensions whose turns leave what stands -/
section
variable {J : It} {n : Nat} {G : Hp → Prop} {Y : Nat → Hp → V → Hp → Prop} {g : TG} {tt : TT} {te : TE} {vs : List Nat} {σ : L2.St} {H1 : Hp} {D : Addr} {Qd : Hp → Prop}
/-- the goal of a comprehension's reading, from the new list's place on -/
def LcGoal (J : It) (g : TG) (tt : TT) (te : TE) (vs : List Nat) (σ : L2.St) (H1 : Hp) (D : Addr) (Qd : Hp → Prop) : Prop :=
  ∃ W : Nat → Nat → Hp → Prop, (∃ m, W 0 m (upd H1 D (.lst []))) ∧ ∀ i m H, W i m H →
      (J.stop i H ∧ Qd H) ∨ (J.go i H ∧ ∃ Nx : Hp → Prop, (∀ H', Nx H' → ∃ m', m' < m ∧ W (i + 1) m' H') ∧ ∀ x H', J.yld i H x H' → g x (wipe σ vs) H' fun σ2 H2 => wipe σ2 vs = wipe σ vs ∧ tt σ2 H2 fun b H3 =>
        if b = true then te σ2 H3 fun y H4 => ∃ acc, H4 D = some (.lst acc) ∧ acc.length < sizeLine ∧ Nx (upd H4 D (.lst (acc ++ [y]))) else Nx H3)
theorem lc_gen (w : Walk J n G Y) (hn : n ≤ 1000000) (hD : H1 D = none) (hG : ∀ H, Same H1 H → G H) (R : Nat → List V → Hp → Prop) (h0 : R 0 [] (upd H1 D (.lst [])))
    (hR : ∀ i acc H zs ys, H D = some (.lst zs) → R i acc H → R i acc (upd H D (.lst ys)))
    (turn : ∀ (i : Nat) (x : V) (H H' : Hp) (acc : List V) (N : Hp → Prop), i < n → Same H1 H → H D = some (.lst acc) → acc.length ≤ i → R i acc H →
      (∀ y H4, Same H H4 → R (i + 1) (acc ++ [y]) H4 → ∃ acc', H4 D = some (.lst acc') ∧ acc'.length < sizeLine ∧ N (upd H4 D (.lst (acc' ++ [y])))) → (∀ H3, Same H H3 → R (i + 1) acc H3 → N H3) →
      Y i H x H' → g x (wipe σ vs) H' fun σ2 H2 => wipe σ2 vs = wipe σ vs ∧ tt σ2 H2 fun b H3 =>
        if b = true then te σ2 H3 fun y H4 => ∃ acc, H4 D = some (.lst acc) ∧ acc.length < sizeLine ∧ N (upd H4 D (.lst (acc ++ [y]))) else N H3)
    (done : ∀ H acc, Same H1 H → H D = some (.lst acc) → acc.length ≤ n → R n acc H → Qd H) : LcGoal J g tt te vs σ H1 D Qd := by
  refine lc_it w (fun i H => Same H1 H ∧ ∃ acc, H D = some (.lst acc) ∧ acc.length ≤ i ∧ R i acc H) ⟨same_upd hD, [], upd_same, Nat.zero_le _, h0⟩ (fun i H _ p => hG H p.1) (fun i x H H' hi ⟨sm, acc, ha, hl, hr⟩ y => ?_) fun H ⟨sm, acc, ha, hl, hr⟩ => done H acc sm ha hl hr
  refine turn i x H H' acc _ hi sm ha hl hr (fun v H4 s4 r4 => ?_) (fun H3 s3 r3 => ⟨sm.trans s3, acc, s3 _ _ ha, Nat.le_succ_of_le hl, r3⟩) y
  have h4 := s4 _ _ ha
  refine ⟨acc, h4, Nat.lt_of_lt_of_le (Nat.lt_of_le_of_lt hl hi) (Nat.le_trans hn (by decide)), fun b o e => ?_, acc ++ [v], upd_same, by rw [List.length_append]; exact Nat.succ_le_succ hl, hR _ _ _ _ _ h4 r4⟩
  rw [upd_ne (ne_of_none e hD)]
  exact s4 _ _ (sm _ _ e)
/-- the plain kind: over zs, those with p, F of each -/
theorem lc_fm {α : Type} (zs : List α) (w : Walk J zs.length G Y) (hn : zs.length ≤ 1000000) (hD : H1 D = none) (hG : ∀ H, Same H1 H → G H) (p : α → Bool) (F : α → V)
    (turn : ∀ (i : Nat) (z : α) (x : V) (H H' : Hp) (Ny : V → Hp → Prop) (Nn : Hp → Prop), zs[i]? = some z → Same H1 H → (∀ H4, Same H H4 → p z = true → Ny (F z) H4) → (∀ H3, Same H H3 → p z = false → Nn H3) →
      Y i H x H' → g x (wipe σ vs) H' fun σ2 H2 => wipe σ2 vs = wipe σ vs ∧ tt σ2 H2 fun b H3 => if b = true then te σ2 H3 Ny else Nn H3)
    (done : ∀ H, Same H1 H → H D = some (.lst ((zs.filter p).map F)) → Qd H) : LcGoal J g tt te vs σ H1 D Qd := by
  refine lc_gen w hn hD hG (fun i acc _ => acc = ((zs.take i).filter p).map F) rfl (fun _ _ _ _ _ _ h => h) (fun i x H H' acc N hi sm ha hl hr add skip y => ?_) fun H acc sm ha _ e => done H sm (by rw [ha, e, List.take_length])
  have ez : zs[i]? = some zs[i] := List.getElem?_eq_getElem hi
  refine turn i zs[i] x H H' _ _ ez sm (fun H4 s4 pz => add _ H4 s4 ?_) (fun H3 s3 pz => skip H3 s3 ?_) y
  · rw [hr, List.take_add_one, ez, List.filter_append, List.map_append]
    simp [pz]
  · rw [hr, List.take_add_one, ez, List.filter_append, List.map_append]
    simp [pz]
/-- without a test -/
theorem lc_map {α : Type} (zs : List α) (w : Walk J zs.length G Y) (hn : zs.length ≤ 1000000) (hD : H1 D = none) (hG : ∀ H, Same H1 H → G H) (F : α → V)
    (turn : ∀ (i : Nat) (z : α) (x : V) (H H' : Hp) (Ny : V → Hp → Prop), zs[i]? = some z → Same H1 H → (∀ H4, Same H H4 → Ny (F z) H4) → Y i H x H' → g x (wipe σ vs) H' fun σ2 H2 => wipe σ2 vs = wipe σ vs ∧ te σ2 H2 Ny)
    (done : ∀ H, Same H1 H → H D = some (.lst (zs.map F)) → Qd H) : LcGoal J g tYes te vs σ H1 D Qd := by
  refine lc_gen w hn hD hG (fun i acc _ => acc = (zs.take i).map F) rfl (fun _ _ _ _ _ _ h => h) (fun i x H H' acc N hi sm ha hl hr add skip y => ?_) fun H acc sm ha _ e => done H sm (by rw [ha, e, List.take_length])
  have ez : zs[i]? = some zs[i] := List.getElem?_eq_getElem hi
  exact turn i zs[i] x H H' _ ez sm (fun H4 s4 => add _ H4 s4 (by rw [hr, List.take_add_one, ez, List.map_append]; rfl)) y
end
section
variable {X : Cx}
theorem pe_gs {x z : Str} {pos : Pos} (hg : Gl X x) (h : ∃ t, X.mg x = some (.str z t)) (hd : (x == ("__debug__" : Str)) = false := by decide) : PE X (.Name x pos) (tC (.str z)) := let ⟨t, e⟩ := h; pe_glob hg e ⟨t, rfl⟩ hd
theorem pe_gi {x : Str} {z : Int} {pos : Pos} (hg : Gl X x) (h : ∃ t, X.mg x = some (.int z t)) (hd : (x == ("__debug__" : Str)) = false := by decide) : PE X (.Name x pos) (tC (.int z)) := let ⟨t, e⟩ := h; pe_glob hg e ⟨t, rfl⟩ hd
end
section
variable {X : Cx}
/-! the rules whose readings name the written part, with it told (in a comprehension's block the context is another, the part the same) -/
theorem ixT (K : PySem.W.Frag) (h : X.K = K := by rfl) : IxR X (rIxT K) := by subst h; exact ix_tup
theorem ixL (K : PySem.W.Frag) (h : X.K = K := by rfl) : IxR X (rIxL K) := by subst h; exact ix_list
theorem crAll (K : PySem.W.Frag) (hc : X.calm = true := by rfl) (h : X.K = K := by rfl) : CallR X (.builtin "all") (rAll K) := by subst h; exact cr_all hc
theorem crAny (K : PySem.W.Frag) (hc : X.calm = true := by rfl) (h : X.K = K := by rfl) : CallR X (.builtin "any") (rAny K) := by subst h; exact cr_any hc
def rLenS (K : PySem.W.Frag) : List V → Hp → VK → Prop := fun xs H Q => ∃ p ys, xs = [.ref p] ∧ (SqL K H p ys ∨ SqT K H p ys) ∧ Q (.int (ys.length : Nat)) H
theorem clenS (K : PySem.W.Frag) (h : X.K = K := by rfl) : CallR X (.builtin "len") (rLenS K) := by subst h; exact call_len_seq
def rTupOf (K : PySem.W.Frag) : List V → Hp → VK → Prop := fun xs H Q => ∃ p ys, xs = [.ref p] ∧ ((SqL K H p ys ∧ ∀ l, H l = none → Q (.ref l) (upd H l (.tup ys))) ∨ (SqT K H p ys ∧ Q (.ref p) H))
theorem ctupOf (K : PySem.W.Frag) (h : X.K = K := by rfl) : CallR X (.type "tuple") (rTupOf K) := by subst h; exact call_tuple_of
theorem opIn (K : PySem.W.Frag) (h : X.K = K := by rfl) : OpR X (compareOp .In) (rIn K false) := by subst h; exact op_in_seq
theorem opNotIn (K : PySem.W.Frag) (h : X.K = K := by rfl) : OpR X (compareOp .NotIn) (rIn K true) := by subst h; exact op_notIn_seq
theorem opInU (K : PySem.W.Frag) (hu : X.A.units + 65 < cLine) (h : X.K = K := by rfl) : OpR X (compareOp .In) (rInU K) := by subst h; exact op_inU hu
theorem opLtX (K : PySem.W.Frag) (hu : X.A.units + 64 < cLine) (h : X.K = K := by rfl) : OpR X (compareOp .Lt) (rLtX K) := by subst h; exact opX hu
theorem cisi (K : PySem.W.Frag) (h : X.K = K := by rfl) : CallR X (.builtin "isinstance") (rIsi K) := by subst h; exact call_isi
theorem pgTup (K : PySem.W.Frag) {es : List Expr} {k : Nat} {t : TGs} {n : Nat} {pos : Pos} (hp : PGs X es t) (hc : X.calm = true := by rfl) (h : X.K = K := by rfl)
    (hn : (assignEach es X.env).length = n := by rfl) (hst : (assignEach es X.env).findIdx? (·.1) = none := by rfl) : PG X (.Tuple es k pos) (gTup K n t) := by subst h; exact pg_tup hc hp hn hst
theorem peFld (K : PySem.W.Frag) {e : Expr} {f : Str} {pos : Pos} {ta : TE} (he : PE X e ta) (h : X.K = K := by rfl) (hb : attributeBase e f X.env (eval e X.env) = eval e X.env := by rfl) : PE X (.Attribute e f pos) (tFld K ta f) := by subst h; exact pe_fld he hb
theorem piL (K : PySem.W.Frag) {tg l : Expr} {tl : TE} (hl : PE X l tl) (h : X.K = K := by rfl) : PI X tg l (iList K tl) := by subst h; exact pi_list hl
theorem piT (K : PySem.W.Frag) {tg l : Expr} {tl : TE} (hl : PE X l tl) (h : X.K = K := by rfl) : PI X tg l (iTup K tl) := by subst h; exact pi_tup hl
end
theorem walk_tx {t : List Nat} : Walk (Its (sx t)) t.length (fun _ => True) (fun i H v H' => H' = H ∧ ∃ c, t[i]? = some c ∧ v = tx [c]) :=
  walk_str.mono (fun _ h => h) fun i H x H' _ _ ⟨e, c, hc, ex⟩ => ⟨e, c, by simpa [sx] using hc, ex⟩
/-- the letters -/
def Lt (c : Nat) : Prop := 97 ≤ c ∧ c ≤ 122
theorem letters_eq : (Str.ofString "abcdefghijklmnopqrstuvwxyz").cps.toList = List.range' 97 26 := by decide +kernel
theorem letters_mem {c : Nat} : c ∈ (Str.ofString "abcdefghijklmnopqrstuvwxyz").cps.toList ↔ Lt c := by
  rw [letters_eq, List.mem_range'_1]
  unfold Lt
  omega
theorem all_true {α : Type} (l : List α) : (l.map fun _ => true).all id = true := List.all_eq_true.mpr fun x hx => by
  obtain ⟨y, _, rfl⟩ := List.mem_map.mp hx
  rfl
theorem q_bl {Q : VK} {p : Prop} [Decidable p] {H : Hp} (hp : p) (h : Q (.bl true) H) : Q (.bl (decide p)) H := by
  rw [decide_eq_true hp]
  exact h
theorem q_bf {Q : VK} {p : Prop} [Decidable p] {H : Hp} (hp : ¬ p) (h : Q (.bl false) H) : Q (.bl (decide p)) H := by
  rw [decide_eq_false hp]
  exact h
theorem bl_t {p : Prop} [Decidable p] (hp : p) : V.bl (decide p) = V.bl true := by rw [decide_eq_true hp]
theorem bl_f {p : Prop} [Decidable p] (hp : ¬ p) : V.bl (decide p) = V.bl false := by rw [decide_eq_false hp]
theorem sx_fits {t : List Nat} (h : t.length ≤ 100000) : (sx t).length ≤ sizeLine := by
  rw [sx_len]
  exact Nat.le_trans h (by decide)
theorem fits {n : Nat} (h : n ≤ 100000) : n ≤ sizeLine := Nat.le_trans h (by decide)
theorem fits1 {n : Nat} (h : n ≤ 100000) : n < sizeLine := Nat.lt_of_le_of_lt h (by decide)
/-- enumerate over a tuple -/
theorem walk_enumU {K : PySem.W.Frag} {a : Addr} {xs : List V} : Walk (IteU K a) xs.length (fun H => SqT K H a xs) (YPair (fun i => some (.int (i : Nat))) (fun i => xs[i]?)) :=
  ⟨fun i _ hi q => ⟨xs, xs[i], q, by simp [hi]⟩, fun _ q => ⟨xs, q, rfl⟩, fun i H v H' _ q ⟨T, x, h1, h2, h3, h4⟩ => ⟨T, .int (i : Nat), x, h1, h2, h3, rfl, h4 xs q⟩⟩
theorem sameT {K : PySem.W.Frag} {H H' : Hp} {a : Addr} {xs : List V} (e : Same H H') (h : SqT K H a xs) : SqT K H' a xs := by
  rcases h with (h | ⟨o, h⟩) | h
  · exact .inl (.inl (e _ _ h))
  · exact .inl (.inr ⟨o, e _ _ h⟩)
  · exact .inr h
end L2.NJ
set_option Elab.async false
set_option linter.all false
set_option maxRecDepth 100000
set_option maxHeartbeats 4000000
namespace L2.NJ
open PySem PySem.Spec PyProof.Rows
section
variable {P : Program} {w : World} {K : PySem.W.Frag} {mg : Str → Option Value} {base : Heap}
def spInteger : Sp := fun vs H Q _ => ∃ i, vs = [.int i] ∧ Q (.bl true) H
theorem sc_is_integer : FnScope ["thing"] ["thing"] dd0.scope := ⟨rfl, rfl, rfl, by decide +kernel, rfl, by decide +kernel, by decide +kernel⟩
theorem ok_is_integer (T : Fx K mg) : DOk P w K mg base 1 (He.ga K "is_integer") ["thing"] spInteger := by
  refine DOk.of (d := dd0) T 0 rfl rfl sc_is_integer (fun _ _ _ _ _ _ us hl => match us, hl with | [_], _ => rfl) (fun vs H Q E h => ?_) (fun f cdv A outer s H vs Q E hr h => ?_)
  · obtain ⟨_, rfl, _⟩ := h
    rfl
  · have nd := sc_is_integer.nd
    have hu := hu_of hr
    obtain ⟨i, rfl, q⟩ := h
    refine ⟨_, (pss_one (ps_ret (pe_and (pe_callB (cisi K) (by rfl) T.f_isinstance (by decide +kernel) (pa_cons (pv 0) (pa_cons (pe_bltn (v := .ty "int") (by rfl) T.f_int (by decide +kernel) rfl) pa_nil))) (pe_one (pe_not (pe_callB (cisi K) (by rfl) T.f_isinstance (by decide +kernel) (pa_cons (pv 0) (pa_cons (pe_bltn (v := .ty "bool") (by rfl) T.f_bool (by decide +kernel) rfl) pa_nil)))))))), ?_⟩
    refine ⟨_, rfl, _, _, _, _, _, rfl, .ty _, .base (.int i), kit_ty (by decide +kernel : kitB "int" "int" = some true), true, rfl, iteT ?_⟩
    exact ⟨_, rfl, _, _, _, _, _, rfl, .ty _, .base (.int i), kit_ty (by decide +kernel : kitB "int" "bool" = some false), false, rfl, q⟩
def spWithin : Sp := fun vs H Q _ => ∃ i a b, vs = [.int i, .int a, .int b] ∧ Q (.bl (decide (a ≤ i) && decide (i ≤ b))) H
theorem sc_is_within : FnScope ["thing", "least", "most"] ["thing", "least", "most"] dd1.scope := ⟨rfl, rfl, rfl, by decide +kernel, rfl, by decide +kernel, by decide +kernel⟩
theorem ok_is_within (T : Fx K mg) : DOk P w K mg base 2 (He.ga K "is_within") ["thing", "least", "most"] spWithin := by
  refine DOk.of (d := dd1) T 1 rfl rfl sc_is_within (fun _ _ _ _ _ _ us hl => match us, hl with | [_, _, _], _ => rfl) (fun vs H Q E h => ?_) (fun f cdv A outer s H vs Q E hr h => ?_)
  · obtain ⟨_, _, _, rfl, _⟩ := h
    rfl
  · have nd := sc_is_within.nd
    have hu := hu_of hr
    obtain ⟨i, a, b, rfl, q⟩ := h
    refine ⟨_, (pss_one (ps_ret (pe_and (pe_c (ok_is_integer T) hr T.g_is_integer (by rfl) (pa_cons (pv 0) pa_nil)) (pe_one (pe_chain op_le op_le (pv 1) (pv 0) (pv 2)))))), ?_⟩
    refine ⟨_, rfl, i, rfl, true, rfl, iteT ?_⟩
    refine ⟨_, rfl, _, rfl, _, _, rfl, rfl, decide (a ≤ i), rfl, ?_⟩
    cases e : decide (a ≤ i) with
    | false =>
      refine iteF ?_
      rw [e] at q
      exact q
    | true =>
      rw [e] at q
      exact iteT ⟨_, rfl, _, _, rfl, rfl, q⟩
def spLetter : Sp := fun vs H Q _ => ∃ c, vs = [tx [c]] ∧ Lt c ∧ Q (.bl true) H
theorem sc_is_letter : FnScope ["thing"] ["thing"] dd2.scope := ⟨rfl, rfl, rfl, by decide +kernel, rfl, by decide +kernel, by decide +kernel⟩
theorem ok_is_letter (T : Fx K mg) : DOk P w K mg base 1 (He.ga K "is_letter") ["thing"] spLetter := by
  refine DOk.of (d := dd2) T 2 rfl rfl sc_is_letter (fun _ _ _ _ _ _ us hl => match us, hl with | [_], _ => rfl) (fun vs H Q E h => ?_) (fun f cdv A outer s H vs Q E hr h => ?_)
  · obtain ⟨_, rfl, _⟩ := h
    rfl
  · have nd := sc_is_letter.nd
    have hu := hu_of hr
    obtain ⟨c, rfl, hc, q⟩ := h
    refine ⟨_, (pss_one (ps_ret (pe_and (pe_callB (cisi K) (by rfl) T.f_isinstance (by decide +kernel) (pa_cons (pv 0) (pa_cons (pe_bltn (v := .ty "str") (by rfl) T.f_str (by decide +kernel) rfl) pa_nil))) (pe_and (pe_cmpR op_eq (pe_callB call_len_str (by rfl) T.f_len (by decide +kernel) (pa_cons (pv 0) pa_nil)) (pe_int) (nomark _)) (pe_one (pe_cmpR op_in_sign (pv 0) (pe_gs (by rfl) T.v_LETTERS) rfl)))))), ?_⟩
    refine ⟨_, rfl, _, _, _, _, _, rfl, .ty _, .base (.str _), kit_ty (by decide +kernel : kitB "str" "str" = some true), true, rfl, iteT ?_⟩
    refine ⟨_, rfl, sx [c], rfl, sx_fits (by simp), rfl, true, rfl, iteT ?_⟩
    refine ⟨_, rfl, c, _, rfl, rfl, ?_⟩
    rw [decide_eq_true (letters_mem.mpr hc)]
    exact q
def spText : Sp := fun vs H Q _ => ∃ t, vs = [tx t] ∧ t.length ≤ 1000 ∧ (∀ c ∈ t, Lt c) ∧ ∀ H', Same H H' → Q (.bl true) H'
theorem sc_is_text : FnScope ["thing", "sign"] ["thing"] dd3.scope := ⟨rfl, rfl, rfl, by decide +kernel, rfl, by decide +kernel, by decide +kernel⟩
theorem ok_is_text (T : Fx K mg) : DOk P w K mg base 1 (He.ga K "is_text") ["thing"] spText := by
  refine DOk.of (d := dd3) T 3 rfl rfl sc_is_text (fun _ _ _ _ _ _ us hl => match us, hl with | [_], _ => rfl) (fun vs H Q E h => ?_) (fun f cdv A outer s H vs Q E hr h => ?_)
  · obtain ⟨_, rfl, _⟩ := h
    rfl
  · have nd := sc_is_text.nd
    have hu := hu_of hr
    obtain ⟨t, rfl, hl, ht, q⟩ := h
    refine ⟨_, (pss_one (ps_ret (pe_and (pe_callB (cisi K) (by rfl) T.f_isinstance (by decide +kernel) (pa_cons (pv 0) (pa_cons (pe_bltn (v := .ty "str") (by rfl) T.f_str (by decide +kernel) rfl) pa_nil))) (pe_one (pe_callB (crAll K) (by rfl) T.f_all (by decide +kernel) (pa_cons (pe_lc (own := [("sign", 1)]) rfl nd (pi_str (pv 0)) (blkOk_by (N := ["thing", "sign"]) (sc := dd3.scope) (by decide +kernel)) (fun _ _ _ _ _ => (pg_name (i := 1) nd rfl (Or.inl rfl))) (fun _ _ _ _ _ => pts_nil) (fun _ _ _ _ _ => (pe_cmpR op_in_sign (pv 1) (pe_gs (by rfl) T.v_LETTERS) rfl))) pa_nil)))))), ?_⟩
    refine ⟨_, rfl, _, _, _, _, _, rfl, .ty _, .base (.str _), kit_ty (by decide +kernel : kitB "str" "str" = some true), true, rfl, iteT ?_⟩
    refine ⟨_, rfl, sx t, rfl, fun D hD => ?_⟩
    refine lc_map t walk_tx (by omega) hD (fun _ _ => trivial) (fun _ => .bl true) (fun i z x H1 H' Ny hz sm ny y => ?_) (fun H1 sm hd => ?_)
    · obtain ⟨rfl, c, hc, rfl⟩ := y
      rw [hz] at hc
      cases hc
      refine ⟨rfl, _, rfl, z, _, rfl, rfl, ?_⟩
      rw [decide_eq_true (letters_mem.mpr (ht z (List.mem_of_getElem? hz)))]
      exact ny _ (Same.refl _)
    · refine ⟨D, t.map fun _ => true, rfl, .inl (.inl ?_), ?_⟩
      · rw [hd, List.map_map]
        rfl
      · have e : (t.map fun _ => true).all id = true := by simp
        rw [e]
        exact q _ sm
def spFilled : Sp := fun vs H Q _ => ∃ t m, vs = [tx t, .int m] ∧ t.length ≤ 1000 ∧ (∀ c ∈ t, Lt c) ∧ 1 ≤ t.length ∧ (t.length : Int) ≤ m ∧ ∀ H', Same H H' → Q (.bl true) H'
theorem sc_is_filled_text : FnScope ["thing", "most"] ["thing", "most"] dd4.scope := ⟨rfl, rfl, rfl, by decide +kernel, rfl, by decide +kernel, by decide +kernel⟩
theorem ok_is_filled_text (T : Fx K mg) : DOk P w K mg base 2 (He.ga K "is_filled_text") ["thing", "most"] spFilled := by
  refine DOk.of (d := dd4) T 4 rfl rfl sc_is_filled_text (fun _ _ _ _ _ _ us hl => match us, hl with | [_, _], _ => rfl) (fun vs H Q E h => ?_) (fun f cdv A outer s H vs Q E hr h => ?_)
  · obtain ⟨_, _, rfl, _⟩ := h
    rfl
  · have nd := sc_is_filled_text.nd
    have hu := hu_of hr
    obtain ⟨t, m, rfl, hl, ht, h1, h2, q⟩ := h
    refine ⟨_, (pss_one (ps_ret (pe_and (pe_c (ok_is_text T) hr T.g_is_text (by rfl) (pa_cons (pv 0) pa_nil)) (pe_one (pe_chain op_le op_le (pe_int) (pe_callB call_len_str (by rfl) T.f_len (by decide +kernel) (pa_cons (pv 0) pa_nil)) (pv 1)))))), ?_⟩
    refine ⟨_, rfl, t, rfl, hl, ht, fun H1 sm => ⟨true, rfl, iteT ?_⟩⟩
    refine ⟨_, rfl, sx t, rfl, sx_fits (by omega), _, _, rfl, rfl, true, bl_t (by rw [sx_len]; omega), iteT ⟨_, rfl, _, _, rfl, rfl, q_bl (Q := Q) (by rw [sx_len]; exact h2) (q _ sm)⟩⟩
end
end L2.NJ
set_option Elab.async false
set_option linter.all false
set_option maxRecDepth 100000
set_option maxHeartbeats 4000000
namespace L2.NJ
open PySem PySem.Spec PyProof.Rows PySem.W
mutual
theorem dp_same {K : PySem.W.Frag} {H H' : Hp} (e : Same H H') : ∀ {v : V} {d : PyData}, Dp K H v d → Dp K H' v d
  | _, _, .non => .non
  | _, _, .bl b => .bl b
  | _, _, .int i => .int i
  | _, _, .str x => .str x
  | _, _, .lst h t => .lst (e.seq h) (dps_same e t)
  | _, _, .tup h t => .tup (sameT e h) (dps_same e t)
theorem dps_same {K : PySem.W.Frag} {H H' : Hp} (e : Same H H') : ∀ {vs : List V} {ds : List PyData}, DpAll K H vs ds → DpAll K H' vs ds
  | _, _, .nil => .nil
  | _, _, .cons h t => .cons (dp_same e h) (dps_same e t)
end
/-- an arrow: point, letter, point -/
abbrev Ar := Nat × Nat × Nat
def arV (a : Ar) : List V := [.int (a.1 : Nat), tx [a.2.1], .int (a.2.2 : Nat)]
def arD (a : Ar) : PyData := .tuple [.int (a.1 : Nat), .str (sx [a.2.1]), .int (a.2.2 : Nat)]
/-- arrows stand at A, each with its tuple's address -/
def ArAt (H : Hp) (A : Addr) (zs : List (Addr × Ar)) : Prop := H A = some (.tup (zs.map fun z => .ref z.1)) ∧ ∀ z ∈ zs, H z.1 = some (.tup (arV z.2))
theorem ArAt.same {H H' : Hp} {A : Addr} {zs : List (Addr × Ar)} (e : Same H H') (h : ArAt H A zs) : ArAt H' A zs := ⟨e _ _ h.1, fun z hz => e _ _ (h.2 z hz)⟩
theorem arD_dp {K : PySem.W.Frag} {H : Hp} {a : Addr} {x : Ar} (h : H a = some (.tup (arV x))) : Dp K H (.ref a) (arD x) :=
  .tup (SqT.of h) (.cons (.int _) (.cons (.str _) (.cons (.int _) .nil)))
theorem arD_alike (x y : Ar) : alike (arD x) (arD y) = true := by simp [arD, alike, alikeAll]
theorem arD_depth (x : Ar) : (arD x).depth ≤ 60 := by
  have : (arD x).depth = 1 := by simp [arD, PyData.depth, PyData.depthAll]
  omega
theorem tup_at {xs : List V} {i : Nat} {v : V} (h : xs[i]? = some v) : atI xs (i : Int) = some v := atI_nat h
section
variable {P : Program} {w : World} {K : PySem.W.Frag} {mg : Str → Option Value} {base : Heap}
def spAsc (K : PySem.W.Frag) : Sp := fun vs H Q _ => ∃ (a : Addr) (zs : List (V × PyData)), vs = [.ref a] ∧ zs.length ≤ 1000 ∧ H a = some (.tup (zs.map Prod.fst)) ∧ (∀ z ∈ zs, Dp K H z.1 z.2 ∧ z.2.depth ≤ 60 ∧ z.2 ≠ PyData.none) ∧
  (∀ y ∈ zs, ∀ z ∈ zs, alike y.2 z.2 = true) ∧ (∀ i y z, zs[i]? = some y → zs[i + 1]? = some z → dataLt y.2 z.2 = true) ∧ ∀ H', Same H H' → Q (.bl true) H'
theorem sc_are_ascending : FnScope ["things", "at"] ["things"] dd5.scope := ⟨rfl, rfl, rfl, by decide +kernel, rfl, by decide +kernel, by decide +kernel⟩
theorem ok_are_ascending (T : Fx K mg) : DOk P w K mg base 1 (He.ga K "are_ascending") ["things"] (spAsc K) := by
  refine DOk.of (d := dd5) T 5 rfl rfl sc_are_ascending (fun _ _ _ _ _ _ us hl => match us, hl with | [_], _ => rfl) (fun vs H Q E h => ?_) (fun f cdv A outer s H vs Q E hr h => ?_)
  · obtain ⟨_, _, rfl, _⟩ := h
    rfl
  · have nd := sc_are_ascending.nd
    have hu := hu_of hr
    obtain ⟨a, zs, rfl, hl, ha, hd, hal, hlt, q⟩ := h
    refine ⟨_, (pss_one (ps_ret (pe_callB (crAll K) (by rfl) T.f_all (by decide +kernel) (pa_cons (pe_lc (own := [("at", 1)]) rfl nd (pi_range2 (by rfl) T.f_range (pa_cons (pe_int) (pa_cons (pe_callB (clenS K) (by rfl) T.f_len (by decide +kernel) (pa_cons (pv 0) pa_nil)) pa_nil))) (blkOk_by (N := ["things", "at"]) (sc := dd5.scope) (by decide +kernel)) (fun _ _ _ _ _ => (pg_name (i := 1) nd rfl (Or.inl rfl))) (fun _ _ _ _ _ => pts_nil) (fun _ _ _ _ _ => (pe_cmpR (opLtX K hr.units) (pe_ix (ixT K) (pv 0) (pe_op op_sub (pv 1) (pe_int)) (fun _ _ => rfl)) (pe_ix (ixT K) (pv 0) (pv 1) (fun _ _ => rfl)) (nomark _)))) pa_nil)))), ?_⟩
    refine ⟨.ref a, rfl, a, _, rfl, .inr (SqT.of ha), _, _, rfl, ⟨by decide, by decide, ?_, ?_⟩, fun D hD => ?_⟩
    · rw [List.length_map]; omega
    · rw [List.length_map]; omega
    rw [List.length_map]
    have el : ((zs.length : Int) - 1).toNat = (zs.drop 1).length := by rw [List.length_drop]; omega
    rw [el]
    refine lc_map (zs.drop 1) walk_range (by rw [List.length_drop]; omega) hD (fun _ _ => trivial) (fun _ => .bl true) (fun i z x H1 H' Ny hz sm ny y => ?_) (fun H1 sm hd1 => ?_)
    · obtain ⟨rfl, rfl⟩ := y
      rw [List.getElem?_drop] at hz
      have hi : i < zs.length := by
        have := (List.getElem?_eq_some_iff.mp hz).1
        omega
      have e1 : zs[i]? = some zs[i] := List.getElem?_eq_getElem hi
      have e2 : zs[i + 1]? = some z := by rw [Nat.add_comm]; exact hz
      have ha1 := sm _ _ ha
      have d1 := hd zs[i] (List.getElem_mem hi)
      have d2 := hd z (List.mem_of_getElem? e2)
      have j1 : (0 : Int) + 1 + (i : Int) - 1 = (i : Int) := by omega
      have j2 : (0 : Int) + 1 + (i : Int) = ((i + 1 : Nat) : Int) := by omega
      refine ⟨rfl, .ref a, rfl, _, rfl, _, _, rfl, rfl, a, _, (i : Int), zs[i].1, rfl, congrArg V.int (by omega), SqT.of ha1, tup_at (by rw [List.getElem?_map, e1]; rfl), ?_⟩
      refine ⟨.ref a, rfl, _, rfl, a, _, ((i + 1 : Nat) : Int), z.1, rfl, congrArg V.int (by omega), SqT.of ha1, tup_at (by rw [List.getElem?_map, e2]; rfl), ?_⟩
      refine ⟨zs[i].2, z.2, dp_same sm d1.1, dp_same sm d2.1, hal _ (List.getElem_mem hi) _ (List.mem_of_getElem? e2), d1.2.2, ?_, ?_⟩
      · have := d1.2.1
        have := d2.2.1
        omega
      · rw [hlt i _ _ e1 e2]
        exact ny _ (Same.refl _)
    · refine ⟨D, (zs.drop 1).map fun _ => true, rfl, .inl (.inl ?_), ?_⟩
      · rw [hd1, List.map_map]
        rfl
      · rw [all_true]
        exact q _ sm
def spArrow : Sp := fun vs H Q _ => ∃ (t : Addr) (x : Ar) (p : Int), vs = [.ref t, .int p] ∧ H t = some (.tup (arV x)) ∧ (x.1 : Int) < p ∧ (x.2.2 : Int) < p ∧ Lt x.2.1 ∧ Q (.bl true) H
theorem sc_is_arrow : FnScope ["thing", "points"] ["thing", "points"] dd6.scope := ⟨rfl, rfl, rfl, by decide +kernel, rfl, by decide +kernel, by decide +kernel⟩
theorem ok_is_arrow (T : Fx K mg) : DOk P w K mg base 3 (He.ga K "is_arrow") ["thing", "points"] spArrow := by
  refine DOk.of (d := dd6) T 6 rfl rfl sc_is_arrow (fun _ _ _ _ _ _ us hl => match us, hl with | [_, _], _ => rfl) (fun vs H Q E h => ?_) (fun f cdv A outer s H vs Q E hr h => ?_)
  · obtain ⟨_, _, _, rfl, _⟩ := h
    rfl
  · have nd := sc_is_arrow.nd
    have hu := hu_of hr
    obtain ⟨t, x, p, rfl, ht, h1, h2, h3, q⟩ := h
    refine ⟨_, (pss_cons (ps_if (PW.pt (pw_or (pt_not (pt_val (pe_callB (cisi K) (by rfl) T.f_isinstance (by decide +kernel) (pa_cons (pv 0) (pa_cons (pe_bltn (v := .ty "tuple") (by rfl) T.f_tuple (by decide +kernel) rfl) pa_nil))))) (pw_or1 (pt_cmpR op_ne (pe_callB (clenS K) (by rfl) T.f_len (by decide +kernel) (pa_cons (pv 0) pa_nil)) (pe_int) (nomark _)))))
        (pss_one (ps_ret (pe_bl)))
        pss_nil)
      (pss_one (ps_ret (pe_and (pe_c (ok_is_within T) hr T.g_is_within (by rfl) (pa_cons (pe_ix (ixT K) (pv 0) (pe_int) (fun _ _ => rfl)) (pa_cons (pe_int) (pa_cons (pe_op op_sub (pv 1) (pe_int)) pa_nil)))) (pe_and (pe_c (ok_is_letter T) hr T.g_is_letter (by rfl) (pa_cons (pe_ix (ixT K) (pv 0) (pe_int) (fun _ _ => rfl)) pa_nil)) (pe_one (pe_c (ok_is_within T) hr T.g_is_within (by rfl) (pa_cons (pe_ix (ixT K) (pv 0) (pe_int) (fun _ _ => rfl)) (pa_cons (pe_int) (pa_cons (pe_op op_sub (pv 1) (pe_int)) pa_nil)))))))))), ?_⟩
    refine ⟨_, rfl, _, _, _, _, _, rfl, .ty _, .base (.tup ht), kit_ty (by decide +kernel : kitB "tuple" "tuple" = some true), true, rfl, iteF ?_⟩
    refine ⟨_, rfl, t, _, rfl, .inr (SqT.of ht), rfl, false, rfl, iteF ?_⟩
    refine ⟨_, rfl, t, _, (0 : Nat), _, rfl, rfl, SqT.of ht, tup_at rfl, _, rfl, p, 1, rfl, rfl, _, _, _, rfl, ?_⟩
    refine ⟨_, rfl, ?_⟩
    have e1 : (decide ((0 : Int) ≤ (x.1 : Int)) && decide ((x.1 : Int) ≤ p - 1)) = true := by
      rw [decide_eq_true (by omega), decide_eq_true (by omega)]
      rfl
    rw [e1]
    refine iteT ⟨_, rfl, t, _, (1 : Nat), _, rfl, rfl, SqT.of ht, tup_at rfl, x.2.1, rfl, h3, true, rfl, iteT ?_⟩
    refine ⟨_, rfl, t, _, (2 : Nat), _, rfl, rfl, SqT.of ht, tup_at rfl, _, rfl, p, 1, rfl, rfl, _, _, _, rfl, ?_⟩
    have e2 : (decide ((0 : Int) ≤ (x.2.2 : Int)) && decide ((x.2.2 : Int) ≤ p - 1)) = true := by
      rw [decide_eq_true (by omega), decide_eq_true (by omega)]
      rfl
    rw [e2]
    exact q
def spArrows : Sp := fun vs H Q _ => ∃ (A : Addr) (zs : List (Addr × Ar)) (p : Int), vs = [.ref A, .int p] ∧ ArAt H A zs ∧ 1 ≤ zs.length ∧ zs.length ≤ 60 ∧ (∀ z ∈ zs, (z.2.1 : Int) < p ∧ (z.2.2.2 : Int) < p ∧ Lt z.2.2.1) ∧
  (∀ i y z, zs[i]? = some y → zs[i + 1]? = some z → dataLt (arD y.2) (arD z.2) = true) ∧ ∀ H', Same H H' → Q (.bl true) H'
theorem sc_are_arrows : FnScope ["thing", "points", "arrow"] ["thing", "points"] dd7.scope := ⟨rfl, rfl, rfl, by decide +kernel, rfl, by decide +kernel, by decide +kernel⟩
theorem ok_are_arrows (T : Fx K mg) : DOk P w K mg base 4 (He.ga K "are_arrows") ["thing", "points"] spArrows := by
  refine DOk.of (d := dd7) T 7 rfl rfl sc_are_arrows (fun _ _ _ _ _ _ us hl => match us, hl with | [_, _], _ => rfl) (fun vs H Q E h => ?_) (fun f cdv A outer s H vs Q E hr h => ?_)
  · obtain ⟨_, _, _, rfl, _⟩ := h
    rfl
  · have nd := sc_are_arrows.nd
    have hu := hu_of hr
    obtain ⟨A, zs, p, rfl, ha, h1, h2, hz, hlt, q⟩ := h
    refine ⟨_, (pss_cons (ps_if (PW.pt (pw_or (pt_not (pt_val (pe_callB (cisi K) (by rfl) T.f_isinstance (by decide +kernel) (pa_cons (pv 0) (pa_cons (pe_bltn (v := .ty "tuple") (by rfl) T.f_tuple (by decide +kernel) rfl) pa_nil))))) (pw_or1 (pt_not (pt_chain op_le op_le (pe_int) (pe_callB (clenS K) (by rfl) T.f_len (by decide +kernel) (pa_cons (pv 0) pa_nil)) (pe_gi (by rfl) T.v_MOST_ARROWS))))))
        (pss_one (ps_ret (pe_bl)))
        pss_nil)
      (pss_one (ps_ret (pe_and (pe_callB (crAll K) (by rfl) T.f_all (by decide +kernel) (pa_cons (pe_lc (own := [("arrow", 2)]) rfl nd (piT K (pv 0)) (blkOk_by (N := ["thing", "points", "arrow"]) (sc := dd7.scope) (by decide +kernel)) (fun _ _ _ _ _ => (pg_name (i := 2) nd rfl (Or.inl rfl))) (fun _ _ _ _ _ => pts_nil) (fun _ _ _ _ _ => (pe_c (ok_is_arrow T) hr T.g_is_arrow (by rfl) (pa_cons (pv 2) (pa_cons (pv 1) pa_nil))))) pa_nil)) (pe_one (pe_c (ok_are_ascending T) hr T.g_are_ascending (by rfl) (pa_cons (pv 0) pa_nil))))))), ?_⟩
    have sq := SqT.of (K := K) ha.1
    refine ⟨_, rfl, _, _, _, _, _, rfl, .ty _, .base (.tup ha.1), kit_ty (by decide +kernel : kitB "tuple" "tuple" = some true), true, rfl, iteF ?_⟩
    refine ⟨_, rfl, A, _, rfl, .inr sq, _, _, rfl, rfl, true, bl_t (by rw [List.length_map]; omega), iteT ⟨_, _, rfl, rfl, true, bl_t (by rw [List.length_map]; omega), iteF ?_⟩⟩
    refine ⟨_, rfl, A, rfl, ⟨_, sq⟩, fun D hD => ?_⟩
    refine lc_map zs (Walk.len (walk_tup (xs := zs.map fun z => V.ref z.1)) (by rw [List.length_map])) (by omega) hD (fun H1 sm => sameT sm sq) (fun _ => .bl true) (fun i z x H1 H' Ny ez sm ny y => ?_) (fun H1 sm hd => ?_)
    · obtain ⟨rfl, ex⟩ := y
      rw [List.getElem?_map, ez] at ex
      obtain rfl := Option.some.inj ex
      have hm := List.mem_of_getElem? ez
      refine ⟨rfl, _, rfl, _, rfl, z.1, z.2, p, rfl, sm _ _ (ha.2 z hm), (hz z hm).1, (hz z hm).2.1, (hz z hm).2.2, ny _ (Same.refl _)⟩
    · refine ⟨D, zs.map fun _ => true, rfl, .inl (.inl ?_), ?_⟩
      · rw [hd, List.map_map]
        rfl
      · rw [all_true]
        refine ⟨true, rfl, iteT ?_⟩
        refine ⟨_, rfl, A, zs.map fun z => (V.ref z.1, arD z.2), rfl, by rw [List.length_map]; omega, ?_, fun y hy => ?_, fun y hy z hz2 => ?_, fun i y z e1 e2 => ?_, fun H' s2 => q _ (sm.trans s2)⟩
        · rw [List.map_map]
          exact sm _ _ ha.1
        · obtain ⟨z, hm, rfl⟩ := List.mem_map.mp hy
          exact ⟨arD_dp (sm _ _ (ha.2 z hm)), arD_depth _, fun e => nomatch e⟩
        · obtain ⟨y', _, rfl⟩ := List.mem_map.mp hy
          obtain ⟨z', _, rfl⟩ := List.mem_map.mp hz2
          exact arD_alike _ _
        · rw [List.getElem?_map, Option.map_eq_some_iff] at e1 e2
          obtain ⟨y', f1, rfl⟩ := e1
          obtain ⟨z', f2, rfl⟩ := e2
          exact hlt i y' z' f1 f2
end
end L2.NJ
set_option Elab.async false
set_option linter.all false
set_option maxRecDepth 100000
set_option maxHeartbeats 4000000
namespace L2.NJ
open PySem PySem.Spec PyProof.Rows
theorem while_m {c : L2.TT} {tb : TS} {D : Ends} {σ : L2.St} {H : Hp} (Wm : Nat → L2.St → Hp → Prop) (h0 : ∃ m, Wm m σ H)
    (hs : ∀ m σ H, Wm m σ H → c σ H fun b H1 => if b = true then ∃ N : L2.St → Hp → Prop, (∀ σ' H', N σ' H' → ∃ m', m' < m ∧ Wm m' σ' H') ∧ tb { D with nx := N, ct := N, bk := D.nx } σ H1 else D.nx σ H1) : tWhile c tb D σ H := ⟨Wm, h0, hs⟩
/-! ### dicts of lists that grow -/
structure MM {κ : Type} [DecidableEq κ] (H0 H : Hp) (kvs : List (κ × V)) (m : κ → List V) : Prop where
  val : ∀ k v, valV kvs k = some v → ∃ l, v = .ref l ∧ H0 l = none ∧ H l = some (.lst (m k))
  non : ∀ k, valV kvs k = none → m k = []
  inj : ∀ j k l, valV kvs j = some (.ref l) → valV kvs k = some (.ref l) → j = k
section
variable {κ : Type} [DecidableEq κ] {H0 H H' : Hp} {kvs : List (κ × V)} {m : κ → List V}
theorem MM.same (h : MM H0 H kvs m) (e : Same H H') : MM H0 H' kvs m := ⟨fun k v q => let ⟨l, a, b, c⟩ := h.val k v q; ⟨l, a, b, e _ _ c⟩, h.non, h.inj⟩
theorem MM.other (h : MM H0 H kvs m) {d : Addr} {o u : HO} (hd : H d = some u) (hu : ∀ xs, u ≠ .lst xs) : MM H0 (upd H d o) kvs m :=
  ⟨fun k v q => let ⟨l, a, b, c⟩ := h.val k v q; ⟨l, a, b, by rw [upd_ne (ne_of c hd fun z => hu _ z.symm)]; exact c⟩, h.non, h.inj⟩
theorem MM.nil : MM H0 H ([] : List (κ × V)) (fun _ => []) := ⟨fun _ _ q => (nomatch q), fun _ _ => rfl, fun _ _ _ q => (nomatch q)⟩
theorem MM.old (h : MM H0 H kvs m) {k : κ} {l : Addr} {v : V} (hl : valV kvs k = some (.ref l)) : MM H0 (upd H l (.lst (m k ++ [v]))) kvs (fun j => if j = k then m k ++ [v] else m j) := by
  refine ⟨fun j u q => ?_, fun j q => ?_, h.inj⟩
  · obtain ⟨l2, a, b, c⟩ := h.val j u q
    subst a
    refine ⟨l2, rfl, b, ?_⟩
    by_cases e : j = k
    · subst e
      rw [if_pos rfl]
      have : l2 = l := V.ref.inj (Option.some.inj (q.symm.trans hl))
      rw [this, upd_same]
    · rw [if_neg e, upd_ne (fun z => e (h.inj j k l (by rw [← z]; exact q) hl))]
      exact c
  · have e : j ≠ k := fun z => by
      subst z
      rw [hl] at q
      cases q
    rw [if_neg e]
    exact h.non j q
theorem MM.new (h : MM H0 H kvs m) {k : κ} {z : Addr} {v : V} (hk : valV kvs k = none) (hz : H z = none) (h0 : H0 z = none) (e : ∀ b o, b ≠ z → (∃ xs, o = .lst xs) → H b = some o → H' b = some o) (hz' : H' z = some (.lst [v])) :
    MM H0 H' (putK kvs k (.ref z)) (fun j => if j = k then m k ++ [v] else m j) := by
  have notz : ∀ j, valV kvs j ≠ some (.ref z) := fun j q => by
    obtain ⟨l2, a, b, c⟩ := h.val j _ q
    cases a
    rw [hz] at c
    cases c
  refine ⟨fun j u q => ?_, fun j q => ?_, fun i j l q1 q2 => ?_⟩
  · rw [valV_put] at q
    by_cases ej : j = k
    · rw [if_pos ej] at q
      cases q
      refine ⟨z, rfl, h0, ?_⟩
      rw [if_pos ej, h.non k hk]
      exact hz'
    · rw [if_neg ej] at q
      obtain ⟨l2, a, b, c⟩ := h.val j u q
      refine ⟨l2, a, b, ?_⟩
      rw [if_neg ej]
      exact e l2 _ (fun w => by rw [w, hz] at c; cases c) ⟨_, rfl⟩ c
  · rw [valV_put] at q
    by_cases ej : j = k
    · rw [if_pos ej] at q
      cases q
    · rw [if_neg ej] at q
      rw [if_neg ej]
      exact h.non j q
  · rw [valV_put] at q1 q2
    by_cases ei : i = k
    · by_cases ej : j = k
      · rw [ei, ej]
      · rw [if_pos ei] at q1
        rw [if_neg ej] at q2
        cases q1
        exact absurd q2 (notz j)
    · by_cases ej : j = k
      · rw [if_neg ei] at q1
        rw [if_pos ej] at q2
        cases q2
        exact absurd q1 (notz i)
      · rw [if_neg ei] at q1
        rw [if_neg ej] at q2
        exact h.inj i j l q1 q2
end
/-! ### a dict of numbers, all True -/
def marks (fs : List Nat) : List (Key × V) := fs.map fun (n : Nat) => ((Sum.inl (n : Int) : Key), V.bl true)
theorem marks_val (fs : List Nat) (g : Nat) : valV (marks fs) (Sum.inl (g : Int)) = if g ∈ fs then some (.bl true) else none := by
  induction fs with
  | nil => rfl
  | cons a r ih =>
    show valV ((Sum.inl (a : Int), V.bl true) :: marks r) _ = _
    by_cases e : a = g
    · subst e
      rw [valV_pos rfl, if_pos List.mem_cons_self]
    · rw [valV_neg (fun z => e (by have := Sum.inl.inj z; omega)), ih]
      by_cases m : g ∈ r
      · rw [if_pos m, if_pos (List.mem_cons_of_mem _ m)]
      · rw [if_neg m, if_neg (by rw [List.mem_cons, not_or]; exact ⟨fun z => e z.symm, m⟩)]
theorem marks_put {fs : List Nat} {g : Nat} (h : g ∉ fs) : putK (marks fs) (Sum.inl (g : Int)) (.bl true) = marks (fs ++ [g]) := by
  rw [putK_new _ (by rw [marks_val, if_neg h])]
  unfold marks
  rw [List.map_append]
  rfl
theorem marks_old {fs : List Nat} {g : Nat} (h : g ∈ fs) : putK (marks fs) (Sum.inl (g : Int)) (.bl true) = marks fs := by
  unfold putK
  rw [valV_any, marks_val, if_pos h]
  rw [if_pos (show (some (V.bl true)).isSome = true from rfl)]
  unfold marks
  rw [List.map_map]
  refine List.map_congr_left fun a _ => ?_
  show (if (Sum.inl (a : Int) : Key) = Sum.inl (g : Int) then ((Sum.inl (a : Int) : Key), V.bl true) else (Sum.inl (a : Int), V.bl true)) = _
  split <;> rfl
theorem marks_len (fs : List Nat) : (marks fs).length = fs.length := by unfold marks; rw [List.length_map]
/-- a list without repetition within another one is no longer -/
theorem nodup_sub {α : Type} [DecidableEq α] : ∀ {l m : List α}, l.Nodup → (∀ x ∈ l, x ∈ m) → l.length ≤ m.length
  | [], _, _, _ => Nat.zero_le _
  | a :: r, m, h, s => by
    have ha : a ∈ m := s a List.mem_cons_self
    have hn := List.nodup_cons.mp h
    have ih := nodup_sub (l := r) (m := m.erase a) hn.2 fun x hx => (List.mem_erase_of_ne (fun e : x = a => hn.1 (by rw [← e]; exact hx))).mpr (s x (List.mem_cons_of_mem _ hx))
    rw [List.length_erase_of_mem ha] at ih
    have := List.length_pos_of_mem ha
    rw [List.length_cons]
    omega
theorem nodup_le {fs : List Nat} {n : Nat} (h : fs.Nodup) (hb : ∀ x ∈ fs, x < n) : fs.length ≤ n := by
  have q := nodup_sub h fun x hx => List.mem_range.mpr (hb x hx)
  rwa [List.length_range] at q
theorem nodup_all {fs : List Nat} {n : Nat} (h : fs.Nodup) (hb : ∀ x ∈ fs, x < n) (ha : ∀ x, x < n → x ∈ fs) : fs.length = n := by
  refine Nat.le_antisymm (nodup_le h hb) ?_
  have q := nodup_sub (List.nodup_range (n := n)) fun x hx => ha x (List.mem_range.mp hx)
  rwa [List.length_range] at q
end L2.NJ
set_option Elab.async false
set_option linter.all false
set_option maxRecDepth 100000
set_option maxHeartbeats 8000000
namespace L2.NJ
open PySem PySem.Spec PyProof.Rows PySem.W
/-- pairs of numbers stand in the list at a, each with its tuple's address -/
def PrAt (H : Hp) (a : Addr) (ps : List (Addr × Nat × Nat)) : Prop := H a = some (.lst (ps.map fun z => .ref z.1)) ∧ ∀ z ∈ ps, H z.1 = some (.tup [.int (z.2.1 : Nat), .int (z.2.2 : Nat)])
/-- from 0 the pairs lead everywhere below n -/
def Cover (ps : List (Nat × Nat)) (n : Nat) : Prop := ∀ S : Nat → Prop, S 0 → (∀ q ∈ ps, S q.1 → S q.2) → ∀ x, x < n → S x
/-- what the list for a point holds behind i pairs -/
def grp (ps : List (Addr × Nat × Nat)) (k : Key) : List V := (ps.filter fun z => decide ((Sum.inl (z.2.1 : Int) : Key) = k)).map fun z => V.int (z.2.2 : Nat)
section
variable {P : Program} {w : World} {K : PySem.W.Frag} {mg : Str → Option Value} {base : Heap}
def spReached : Sp := fun vs H Q _ => ∃ (a : Addr) (ps : List (Addr × Nat × Nat)) (n : Nat), vs = [.ref a, .int 0] ∧ PrAt H a ps ∧ ps.length ≤ 1000 ∧ 0 < n ∧ n ≤ 1000 ∧ (∀ z ∈ ps, z.2.1 < n ∧ z.2.2 < n) ∧ Cover (ps.map (·.2)) n ∧
  ∀ H' f kvs, Same H H' → H f = none → H' f = some (.dK kvs) → kvs.length = n → Q (.ref f) H'
theorem sc_reached : FnScope ["pairs", "start", "steps", "one", "other", "found", "todo", "goal"] ["pairs", "start"] dd8.scope := ⟨rfl, rfl, rfl, by decide +kernel, rfl, by decide +kernel, by decide +kernel⟩
theorem ok_reached (T : Fx K mg) : DOk P w K mg base 1 (He.ga K "reached") ["pairs", "start"] spReached := by
  refine DOk.of (d := dd8) T 8 rfl rfl sc_reached (fun _ _ _ _ _ _ us hl => match us, hl with | [_, _], _ => rfl) (fun vs H Q E h => ?_) (fun f cdv A outer s H vs Q E hr h => ?_)
  · obtain ⟨_, _, _, rfl, _⟩ := h
    rfl
  · have nd := sc_reached.nd
    have hu := hu_of hr
    obtain ⟨a, ps, n, rfl, hp, hl, hn0, hn1, hlt, cov, q⟩ := h
    refine ⟨_, (pss_cons (ps_set (i := 2) nd rfl (Or.inl rfl) (pe_dnewK))
      (pss_cons (ps_for PassesOwn.never rfl (piL K (pv 0)) (pgTup K (pgs_cons (pg_name (i := 3) nd rfl (Or.inl rfl)) (pgs_cons (pg_name (i := 4) nd rfl (Or.inl rfl)) pgs_nil)))
        (pss_one (ps_expr (pe_bm PySem.F.plainAttrs_list PySem.F.slot_list_append PySem.F.type_list_append mt_append (pe_dsetd (pv 2) (pv 3) (pe_lst pa_nil) ⟨rfl, rfl, rfl, rfl⟩) (pa_cons (pv 4) pa_nil)))))
      (pss_cons (ps_set (i := 5) nd rfl (Or.inl rfl) (pe_disp (pps_cons (pv 1) (pe_bl) pps_nil) (by rfl) (by rfl) (fun z => by cases z) (by decide)))
      (pss_cons (ps_set (i := 6) nd rfl (Or.inl rfl) (pe_lst (pa_cons (pv 1) pa_nil)))
      (pss_cons (ps_while PassesOwn.never (pt_cmpR op_gt (pe_callB (clenS K) (by rfl) T.f_len (by decide +kernel) (pa_cons (pv 6) pa_nil)) (pe_int) (nomark _))
        (pss_one (ps_for PassesOwn.never rfl (piL K (pe_dget2 hu (pv 2) (pe_bm0 PySem.F.plainAttrs_list PySem.F.slot_list_pop PySem.F.type_list_pop mt_pop (pv 6)) (pe_lst pa_nil) ⟨rfl, rfl, rfl, rfl⟩)) (pg_name (i := 7) nd rfl (Or.inl rfl))
          (pss_one (ps_if (pt_cmp (pc_dnotin hu (pv 7) (pv 5)) rfl)
            (pss_cons (ps_dput hu (pv 5) (pv 7) (pe_bl) rfl)
            (pss_one (ps_expr (pe_bm PySem.F.plainAttrs_list PySem.F.slot_list_append PySem.F.type_list_append mt_append (pv 6) (pa_cons (pv 7) pa_nil)))))
            pss_nil)))))
      (pss_one (ps_ret (pv 5)))))))), ?_⟩
    -- steps = {}
    intro d nd0
    have s0 : Same H (upd H d (.dK [])) := same_upd nd0
    -- the pairs
    refine ⟨.ref a, rfl, a, rfl, ⟨_, SqL.of (s0 _ _ hp.1)⟩, ?_⟩
    refine for_list (xs := ps.map fun z => V.ref z.1) (fun i σ H2 => ∃ kvs y3 y4, σ = [some (.ref a), some (.int 0), some (.ref d), y3, y4, none, none, none] ∧ Same H H2 ∧ H2 d = some (.dK kvs) ∧ kvs.length ≤ i ∧ MM H H2 kvs (grp (ps.take i)))
      ⟨[], none, none, rfl, s0, upd_same, Nat.le_refl _, MM.nil⟩ (fun i σ H2 _ ⟨kvs, y3, y4, _, s2, _⟩ => SqL.of (s2 _ _ hp.1)) (fun i x σ H2 ex ⟨kvs, y3, y4, es, s2, hd, hk, mm⟩ => ?_) (fun σ H2 ⟨kvs, y3, y4, es, s2, hd, hk, mm⟩ => ?_)
    · subst es
      rw [List.getElem?_map, Option.map_eq_some_iff] at ex
      obtain ⟨z, ez, rfl⟩ := ex
      have hz := hp.2 z (List.mem_of_getElem? ez)
      have hil : i < ps.length := (List.getElem?_eq_some_iff.mp ez).1
      refine ⟨z.1, _, rfl, SqT.of (s2 _ _ hz), rfl, _, _, rfl, _, _, rfl, rfl, ?_⟩
      -- steps.setdefault(one, []).append(other)
      refine ⟨.ref d, rfl, d, rfl, .inl ⟨kvs, .inl hd⟩, _, rfl, Nat.zero_le _, fun l hl0 => ?_⟩
      have s3 : Same H2 (upd H2 l (.lst [])) := same_upd hl0
      have nld : l ≠ d := fun e => by rw [e, hd] at hl0; cases hl0
      have gstep : grp (ps.take (i + 1)) = fun j => if j = Sum.inl (z.2.1 : Int) then grp (ps.take i) (Sum.inl (z.2.1 : Int)) ++ [V.int (z.2.2 : Nat)] else grp (ps.take i) j := by
        funext j
        unfold grp
        rw [List.take_add_one, ez, List.filter_append, List.map_append]
        by_cases ej : j = Sum.inl (z.2.1 : Int)
        · rw [if_pos ej, ej]
          simp
        · rw [if_neg ej]
          have : ¬ (Sum.inl (z.2.1 : Int) : Key) = j := fun e => ej e.symm
          simp [this]
      refine ⟨kvs, Sum.inl (z.2.1 : Int), s3 _ _ hd, rfl, fits1 (by omega), fun v hv => ?_, fun hv => ?_⟩
      · obtain ⟨l2, rfl, h0l, hl2⟩ := mm.val _ _ hv
        have hl2' := s3 _ _ hl2
        refine ⟨.inl ⟨rfl, _, .inl (.inl hl2')⟩, _, rfl, l2, _, _, rfl, rfl, hl2', ?_, kvs, _, _, rfl, fun b o e => ?_, ?_, by omega, ?_⟩
        · refine fits1 ?_
          unfold grp
          rw [List.length_map]
          have := List.length_filter_le (fun z' : Addr × Nat × Nat => decide ((Sum.inl (z'.2.1 : Int) : Key) = Sum.inl (z.2.1 : Int))) (ps.take i)
          rw [List.length_take] at this
          omega
        · rw [upd_ne (ne_of_none e h0l)]
          exact s3 _ _ (s2 _ _ e)
        · rw [upd_ne (ne_of (s3 _ _ hd) hl2' (fun z => nomatch z))]
          exact s3 _ _ hd
        · rw [gstep]
          exact (mm.same s3).old hv
      · refine ⟨.inl ⟨rfl, _, .inl (.inl (by rw [upd_ne nld]; exact upd_same))⟩, _, rfl, l, _, _, rfl, rfl, by rw [upd_ne nld]; exact upd_same, fits1 (by simp), putK kvs (Sum.inl (z.2.1 : Int)) (.ref l), _, _, rfl, fun b o e => ?_, ?_, ?_, ?_⟩
        · rw [upd_ne (ne_of_none (s2 _ _ e) hl0), upd_ne (ne_of_none e nd0)]
          exact s3 _ _ (s2 _ _ e)
        · rw [upd_ne nld.symm]
          exact upd_same
        · have := length_putK kvs (Sum.inl (z.2.1 : Int)) (.ref l)
          omega
        · rw [gstep]
          refine mm.new (H' := upd (upd (upd H2 l (.lst [])) d (.dK (putK kvs (Sum.inl (z.2.1 : Int)) (.ref l)))) l (.lst ([] ++ [.int (z.2.2 : Nat)]))) hv hl0 (s2.free hl0) (fun b o hb ho e => ?_) upd_same
          obtain ⟨xs, rfl⟩ := ho
          rw [upd_ne hb, upd_ne (ne_of e hd (fun z => nomatch z))]
          exact s3 _ _ e
    -- found, todo
    subst es
    rw [List.length_map] at hk mm
    rw [List.take_length] at mm
    intro f nf0
    have nfd : f ≠ d := fun e => by rw [e, hd] at nf0; cases nf0
    have s3 : Same H2 (upd H2 f (.dK [])) := same_upd nf0
    refine ⟨.int 0, rfl, upd_same, [(Sum.inl 0, .bl true)], rfl, (by decide), ?_⟩
    rw [upd_upd]
    have s4 : Same H2 (upd H2 f (.dK (mergeK [] [(Sum.inl 0, .bl true)]))) := same_upd nf0
    refine ⟨.int 0, rfl, Nat.le_of_ble_eq_true rfl, fun t nt0 => ?_⟩
    have ntf : t ≠ f := fun e => by rw [e, upd_same] at nt0; cases nt0
    have ntH : H2 t = none := s4.free nt0
    have s5 := s4.trans (same_upd (o := .lst [.int 0]) nt0)
    refine while_m (fun m σ H3 => ∃ (fs td : List Nat) (y7 : Option V), m = 2 * (n - fs.length) + td.length ∧ σ = [some (.ref a), some (.int 0), some (.ref d), y3, y4, some (.ref f), some (.ref t), y7] ∧ Same H2 H3 ∧ H3 f = some (.dK (marks fs)) ∧ H3 t = some (.lst (td.map fun (x : Nat) => V.int (x : Nat))) ∧
        fs.Nodup ∧ (∀ x ∈ fs, x < n) ∧ 0 ∈ fs ∧ (∀ x ∈ td, x ∈ fs) ∧ (∀ z ∈ ps, z.2.1 ∈ fs → z.2.1 ∈ td ∨ z.2.2 ∈ fs) ∧ 2 * (n - fs.length) + td.length ≤ 2 * n)
      ⟨_, [0], [0], none, rfl, rfl, s5, ?_, upd_same, by simp, by simp; exact hn0, by simp, by simp, fun z _ hz => .inl hz, by show 2 * (n - 1) + 1 ≤ 2 * n; omega⟩ (fun m σ H3 hW => ?_)
    · rw [upd_ne ntf.symm]
      exact upd_same
    obtain ⟨fs, td, y7, rfl, rfl, s6, hf, ht, nod, bnd, m0, tsub, clo, tdn⟩ := hW
    refine ⟨.ref t, rfl, t, _, rfl, .inl (SqL.of ht), _, _, rfl, rfl, _, rfl, ?_⟩
    rw [List.length_map]
    by_cases htd : 0 < td.length
    · rw [decide_eq_true (by omega : ((0 : Int) < (td.length : Int)))]
      refine iteT ⟨_, fun _ _ h => h, ?_⟩
      have gl : (td.map fun (x : Nat) => V.int (x : Nat))[(td.map fun (x : Nat) => V.int (x : Nat)).length - 1]? = some (V.int ((td[td.length - 1]'(by omega) : Nat) : Int)) := by
        rw [List.length_map, List.getElem?_map, List.getElem?_eq_getElem (by omega : td.length - 1 < td.length)]
        rfl
      generalize hp0 : td[td.length - 1]'(by omega) = p at gl
      have etd : td = td.dropLast ++ [p] := by
        rw [← hp0, ← List.getLast_eq_getElem (by intro z; subst z; simp at htd)]
        exact (List.dropLast_concat_getLast _).symm
      have hmm := mm.same s6
      -- todo.pop()
      refine ⟨.ref d, rfl, d, rfl, .inl ⟨kvs, .inl (s6 _ _ hd)⟩, .ref t, rfl, .inl ⟨rfl, _, .inl (.inl ht)⟩, t, _, _, rfl, rfl, ht, gl, ?_⟩
      have emd : (td.map fun (x : Nat) => V.int (x : Nat)).dropLast = td.dropLast.map fun (x : Nat) => V.int (x : Nat) := by rw [List.map_dropLast]
      rw [emd]
      generalize htd2 : td.dropLast = td2 at etd
      refine ⟨Nat.zero_le _, fun l nl0 => ?_⟩
      have ntd : t ≠ d := (ne_of_none (s4 _ _ hd) nt0).symm
      have nft : f ≠ t := ntf.symm
      -- the list for p
      let gs : List Nat := (ps.filter fun z => decide ((Sum.inl (z.2.1 : Int) : Key) = Sum.inl (p : Int))).map fun z => z.2.2
      have egs : grp ps (Sum.inl (p : Int)) = gs.map fun (x : Nat) => V.int (x : Nat) := by
        show (ps.filter _).map _ = ((ps.filter _).map _).map _
        rw [List.map_map]
        rfl
      have s7 : Same H2 (upd (upd H3 t (.lst (td2.map fun (x : Nat) => V.int (x : Nat)))) l (.lst [])) := fun b o e => by
        have nbl : b ≠ l := ne_of_none (by rw [upd_ne (ne_of_none e ntH)]; exact s6 _ _ e) nl0
        rw [upd_ne nbl, upd_ne (ne_of_none e ntH)]
        exact s6 _ _ e
      have nlt : l ≠ t := fun e => by rw [e, upd_same] at nl0; cases nl0
      have nlf : l ≠ f := fun e => by
        rw [e, upd_ne nft, hf] at nl0
        cases nl0
      obtain ⟨lg, elg, hlg, nglt, nglf⟩ : ∃ lg, (valV kvs (Sum.inl (p : Int))).getD (.ref l) = .ref lg ∧ (upd (upd H3 t (.lst (td2.map fun (x : Nat) => V.int (x : Nat)))) l (.lst [])) lg = some (.lst (gs.map fun (x : Nat) => V.int (x : Nat))) ∧ lg ≠ t ∧ lg ≠ f := by
        cases ho : valV kvs (Sum.inl (p : Int)) with
        | none =>
          refine ⟨l, rfl, ?_, nlt, nlf⟩
          rw [upd_same, ← egs, mm.non _ ho]
        | some v =>
          obtain ⟨l2, rfl, h0l, hl2⟩ := mm.val _ _ ho
          refine ⟨l2, rfl, ?_, ne_of_none hl2 ntH, ne_of_none hl2 nf0⟩
          rw [← egs]
          exact s7 _ _ hl2
      refine ⟨_, DGet.k (k := Sum.inl (p : Int)) (s7 _ _ hd), ?_⟩
      rw [elg]
      refine ⟨lg, rfl, ⟨_, SqL.of hlg⟩, ?_⟩
      have ltd : td.length = td2.length + 1 := by rw [etd, List.length_append]; rfl
      refine for_list (xs := gs.map fun (x : Nat) => V.int (x : Nat)) (fun i σ H4 => ∃ (fs' td' : List Nat) (y7 : Option V), σ = [some (.ref a), some (.int 0), some (.ref d), y3, y4, some (.ref f), some (.ref t), y7] ∧ Same H2 H4 ∧ H4 lg = some (.lst (gs.map fun (x : Nat) => V.int (x : Nat))) ∧
          H4 f = some (.dK (marks fs')) ∧ H4 t = some (.lst (td'.map fun (x : Nat) => V.int (x : Nat))) ∧ fs'.Nodup ∧ (∀ x ∈ fs', x < n) ∧ 0 ∈ fs' ∧ (∀ x ∈ td', x ∈ fs') ∧ 2 * (n - fs'.length) + td'.length ≤ 2 * (n - fs.length) + td2.length ∧ (∀ x ∈ gs.take i, x ∈ fs') ∧
          ∀ z ∈ ps, z.2.1 ∈ fs' → z.2.1 = p ∨ z.2.1 ∈ td' ∨ z.2.2 ∈ fs')
        ⟨fs, td2, y7, rfl, s7, hlg, ?_, ?_, nod, bnd, m0, fun x hx => tsub x (by rw [etd]; exact List.mem_append_left _ hx), Nat.le_refl _, (fun x hx => nomatch hx), fun z hz h1 => ?_⟩
        (fun i σ H4 _ ⟨_, _, _, _, _, h, _⟩ => SqL.of h) (fun i x σ H4 ex hP => ?_) (fun σ H4 hP => ?_)
      · rw [upd_ne nlf.symm, upd_ne nft]
        exact hf
      · rw [upd_ne nlt.symm]
        exact upd_same
      · rcases clo z hz h1 with e | e
        · rw [etd, List.mem_append, List.mem_singleton] at e
          rcases e with e | e
          · exact .inr (.inl e)
          · exact .inl e
        · exact .inr (.inr e)
      · -- a goal
        obtain ⟨fs', td', y7', rfl, s8, hg8, hf8, ht8, nod8, bnd8, m08, tsub8, me8, tk8, clo8⟩ := hP
        rw [List.getElem?_map, Option.map_eq_some_iff] at ex
        obtain ⟨g, eg, rfl⟩ := ex
        have gin : g ∈ gs := List.mem_of_getElem? eg
        have gtake : ∀ S : Nat → Prop, (∀ x ∈ gs.take i, S x) → S g → ∀ x ∈ gs.take (i + 1), S x := fun S h1 h2 x hx => by
          rw [List.take_add_one, eg, List.mem_append] at hx
          rcases hx with hx | hx
          · exact h1 x hx
          · have : x = g := by simpa using hx
            rw [this]
            exact h2
        refine ⟨_, rfl, .ref f, rfl, f, _, rfl, DGet.k (k := Sum.inl (g : Int)) hf8, _, rfl, ?_⟩
        rw [marks_val]
        by_cases mem : g ∈ fs'
        · rw [if_pos mem]
          refine iteF ⟨fs', td', _, rfl, s8, hg8, hf8, ht8, nod8, bnd8, m08, tsub8, me8, gtake (fun x => x ∈ fs') tk8 mem, clo8⟩
        · rw [if_neg mem]
          have len8 := nodup_le nod8 bnd8
          have gb : g < n := by
            obtain ⟨z, hz, e⟩ := List.mem_map.mp gin
            have := hlt z (List.mem_filter.mp hz).1
            rw [← e]
            exact this.2
          have nod9 : (fs' ++ [g]).Nodup := by
            rw [List.nodup_append]
            exact ⟨nod8, by simp, fun x hx y hy e => mem (by rw [List.mem_singleton.mp hy] at e; rw [← e]; exact hx)⟩
          have bnd9 : ∀ x ∈ fs' ++ [g], x < n := fun x hx => by
            rcases List.mem_append.mp hx with hx | hx
            · exact bnd8 x hx
            · rw [List.mem_singleton.mp hx]
              exact gb
          have len9 := nodup_le nod9 bnd9
          rw [List.length_append] at len9
          have len9' : fs'.length + 1 ≤ n := len9
          refine iteT ⟨.ref f, rfl, _, rfl, f, _, rfl, DPut.k (k := Sum.inl (g : Int)) hf8 (by rw [marks_len]; exact fits1 (by omega)), ?_⟩
          rw [marks_put mem]
          have ht9 : (upd H4 f (.dK (marks (fs' ++ [g])))) t = some (.lst (td'.map fun (x : Nat) => V.int (x : Nat))) := by
            rw [upd_ne ntf]
            exact ht8
          refine ⟨.ref t, rfl, .inl ⟨rfl, _, .inl (.inl ht9)⟩, _, rfl, t, _, _, rfl, rfl, ht9, fits1 (by rw [List.length_map]; omega), fs' ++ [g], td' ++ [g], _, rfl, fun b o e => ?_, ?_, ?_, ?_, nod9, bnd9, List.mem_append_left _ m08, fun x hx => ?_, ?_, gtake (fun x => x ∈ fs' ++ [g]) (fun x hx => List.mem_append_left _ (tk8 x hx)) (List.mem_append_right _ List.mem_cons_self), fun z hz h1 => ?_⟩
          · rw [upd_ne (ne_of_none e ntH), upd_ne (ne_of_none e nf0)]
            exact s8 _ _ e
          · rw [upd_ne nglt, upd_ne nglf]
            exact hg8
          · rw [upd_ne nft, upd_same]
          · rw [upd_same, List.map_append]
            rfl
          · rcases List.mem_append.mp hx with hx | hx
            · exact List.mem_append_left _ (tsub8 x hx)
            · exact List.mem_append_right _ hx
          · rw [List.length_append, List.length_append]
            show 2 * (n - (fs'.length + 1)) + (td'.length + 1) ≤ _
            omega
          · rcases List.mem_append.mp h1 with h1 | h1
            · rcases clo8 z hz h1 with e | e | e
              · exact .inl e
              · exact .inr (.inl (List.mem_append_left _ e))
              · exact .inr (.inr (List.mem_append_left _ e))
            · exact .inr (.inl (List.mem_append_right _ h1))
      · -- behind them
        obtain ⟨fs', td', y7', rfl, s8, hg8, hf8, ht8, nod8, bnd8, m08, tsub8, me8, tk8, clo8⟩ := hP
        rw [List.length_map, List.take_length] at tk8
        refine ⟨2 * (n - fs'.length) + td'.length, by omega, fs', td', y7', rfl, rfl, s8, hf8, ht8, nod8, bnd8, m08, tsub8, fun z hz h1 => ?_, by omega⟩
        rcases clo8 z hz h1 with e | e | e
        · refine .inr (tk8 _ (List.mem_map.mpr ⟨z, List.mem_filter.mpr ⟨hz, ?_⟩, rfl⟩))
          rw [e]
          exact decide_eq_true rfl
        · exact .inl e
        · exact .inr e
    · rw [decide_eq_false (by omega : ¬ ((0 : Int) < (td.length : Int)))]
      refine iteF ?_
      have e0 : td = [] := List.eq_nil_of_length_eq_zero (by omega)
      subst e0
      refine ⟨.ref f, rfl, q H3 f _ (s2.trans s6) (s2.free nf0) hf ?_⟩
      rw [marks_len]
      refine nodup_all nod bnd fun x hx => cov (fun y => y ∈ fs) m0 (fun z hz hz1 => ?_) x hx
      obtain ⟨z', hz', rfl⟩ := List.mem_map.mp hz
      rcases clo z' hz' hz1 with e | e
      · exact nomatch e
      · exact e
end
end L2.NJ
set_option Elab.async false
set_option linter.all false
set_option maxRecDepth 100000
set_option maxHeartbeats 4000000
namespace L2.NJ
open PySem PySem.Spec PyProof.Rows PySem.W
section
variable {J : It} {n : Nat} {G : Hp → Prop} {Y : Nat → Hp → V → Hp → Prop} {g : TG} {tt : L2.TT} {te : TE} {vs : List Nat} {σ : L2.St} {H1 : Hp} {D : Addr} {Qd : Hp → Prop}
/-- a comprehension whose items are new tuples -/
theorem lc_ft {α : Type} (zs : List α) (w : Walk J zs.length G Y) (hn : zs.length ≤ 1000000) (hD : H1 D = none) (hG : ∀ H, Same H1 H → G H) (p : α → Bool) (F : α → List V)
    (turn : ∀ (i : Nat) (z : α) (x : V) (H H' : Hp) (Ny : V → Hp → Prop) (Nn : Hp → Prop), zs[i]? = some z → Same H1 H → (∀ H4 t, Same H H4 → p z = true → H4 t = some (.tup (F z)) → Ny (.ref t) H4) → (∀ H3, Same H H3 → p z = false → Nn H3) →
      Y i H x H' → g x (wipe σ vs) H' fun σ2 H2 => wipe σ2 vs = wipe σ vs ∧ tt σ2 H2 fun b H3 => if b = true then te σ2 H3 Ny else Nn H3)
    (done : ∀ H (qs : List (Addr × α)), Same H1 H → H D = some (.lst (qs.map fun q => .ref q.1)) → qs.map (·.2) = zs.filter p → (∀ q ∈ qs, H q.1 = some (.tup (F q.2))) → Qd H) : LcGoal J g tt te vs σ H1 D Qd := by
  refine lc_gen w hn hD hG (fun i acc H => ∃ qs : List (Addr × α), acc = qs.map (fun q => .ref q.1) ∧ qs.map (·.2) = (zs.take i).filter p ∧ ∀ q ∈ qs, H q.1 = some (.tup (F q.2))) ⟨[], rfl, rfl, fun q hq => nomatch hq⟩
    (fun i acc H xs ys hd ⟨qs, e1, e2, e3⟩ => ⟨qs, e1, e2, fun q hq => by rw [upd_ne (ne_of (e3 q hq) hd (fun z => nomatch z))]; exact e3 q hq⟩) (fun i x H H' acc N hi sm ha hl ⟨qs, e1, e2, e3⟩ add skip y => ?_)
    fun H acc sm ha _ ⟨qs, e1, e2, e3⟩ => done H qs sm (by rw [ha, e1]) (by rw [e2, List.take_length]) e3
  have ez : zs[i]? = some zs[i] := List.getElem?_eq_getElem hi
  refine turn i zs[i] x H H' _ _ ez sm (fun H4 t s4 pz ht => add _ H4 s4 ⟨qs ++ [(t, zs[i])], ?_, ?_, fun q hq => ?_⟩) (fun H3 s3 pz => skip H3 s3 ⟨qs, e1, ?_, fun q hq => s3 _ _ (e3 q hq)⟩) y
  · rw [e1, List.map_append]
    rfl
  · rw [List.map_append, e2, List.take_add_one, ez, List.filter_append]
    simp [pz]
  · rcases List.mem_append.mp hq with hq | hq
    · exact s4 _ _ (e3 q hq)
    · rw [List.mem_singleton.mp hq]
      exact ht
  · rw [e2, List.take_add_one, ez, List.filter_append]
    simp [pz]
/-- the same without a test -/
theorem lc_mt {α : Type} (zs : List α) (w : Walk J zs.length G Y) (hn : zs.length ≤ 1000000) (hD : H1 D = none) (hG : ∀ H, Same H1 H → G H) (F : α → List V)
    (turn : ∀ (i : Nat) (z : α) (x : V) (H H' : Hp) (Ny : V → Hp → Prop), zs[i]? = some z → Same H1 H → (∀ H4 t, Same H H4 → H4 t = some (.tup (F z)) → Ny (.ref t) H4) → Y i H x H' → g x (wipe σ vs) H' fun σ2 H2 => wipe σ2 vs = wipe σ vs ∧ te σ2 H2 Ny)
    (done : ∀ H (qs : List (Addr × α)), Same H1 H → H D = some (.lst (qs.map fun q => .ref q.1)) → qs.map (·.2) = zs → (∀ q ∈ qs, H q.1 = some (.tup (F q.2))) → Qd H) : LcGoal J g tYes te vs σ H1 D Qd :=
  lc_ft zs w hn hD hG (fun _ => true) F (fun i z x H H' Ny Nn ez sm ny nn y => turn i z x H H' Ny ez sm (fun H4 t s e => ny H4 t s rfl e) y)
    fun H qs sm h1 h2 h3 => done H qs sm h1 (by rw [h2]; exact List.filter_eq_self.mpr fun _ _ => rfl) h3
end
/-! ### webs -/
structure WebOk (n : Nat) (ar : List Ar) : Prop where
  n1 : 1 ≤ n
  n4 : n ≤ 4
  few : ar.length ≤ 60
  inn : ∀ a ∈ ar, a.1 < n ∧ a.2.2 < n
  abc : ∀ a ∈ ar, 97 ≤ a.2.1 ∧ a.2.1 ≤ 99
  ring : ∀ p, p < n → ∃ c, (p, c, (p + 1) % n) ∈ ar
  asc : ∀ i y z, ar[i]? = some y → ar[i + 1]? = some z → dataLt (arD y) (arD z) = true
theorem WebOk.ne {n : Nat} {ar : List Ar} (h : WebOk n ar) : 1 ≤ ar.length := by
  obtain ⟨c, hc⟩ := h.ring 0 h.n1
  exact List.length_pos_of_mem hc
theorem cover_forth {n : Nat} {ar : List Ar} (h : WebOk n ar) : Cover (ar.map fun a => (a.1, a.2.2)) n := by
  intro S s0 st x
  induction x with
  | zero => intro _; exact s0
  | succ x ih =>
    intro hx
    obtain ⟨c, hc⟩ := h.ring x (by omega)
    have q := st (x, (x + 1) % n) (List.mem_map.mpr ⟨_, hc, rfl⟩) (ih (by omega))
    rwa [Nat.mod_eq_of_lt hx] at q
theorem cover_back {n : Nat} {ar : List Ar} (h : WebOk n ar) : Cover (ar.map fun a => (a.2.2, a.1)) n := by
  intro S s0 st x hx
  have key : ∀ k, k < n → S (n - 1 - k) := by
    intro k
    induction k with
    | zero =>
      intro hk
      obtain ⟨c, hc⟩ := h.ring (n - 1) (by omega)
      have e : (n - 1 + 1) % n = 0 := by rw [Nat.sub_add_cancel h.n1, Nat.mod_self]
      rw [e] at hc
      exact st (0, n - 1) (List.mem_map.mpr ⟨_, hc, rfl⟩) s0
    | succ k ih =>
      intro hk
      obtain ⟨c, hc⟩ := h.ring (n - 1 - (k + 1)) (by omega)
      have e : (n - 1 - (k + 1) + 1) % n = n - 1 - k := by
        rw [Nat.mod_eq_of_lt (by omega)]
        omega
      rw [e] at hc
      exact st (n - 1 - k, n - 1 - (k + 1)) (List.mem_map.mpr ⟨_, hc, rfl⟩) (ih (by omega))
  have := key (n - 1 - x) (by omega)
  have e : n - 1 - (n - 1 - x) = x := by omega
  rwa [e] at this
end L2.NJ
set_option Elab.async false
set_option linter.all false
set_option maxRecDepth 100000
set_option maxHeartbeats 8000000
namespace L2.NJ
open PySem PySem.Spec PyProof.Rows PySem.W
section
variable {P : Program} {w : World} {K : PySem.W.Frag} {mg : Str → Option Value} {base : Heap}
def spHangs : Sp := fun vs H Q _ => ∃ (A : Addr) (zs : List (Addr × Ar)) (n : Nat), vs = [.int (n : Nat), .ref A] ∧ ArAt H A zs ∧ WebOk n (zs.map (·.2)) ∧ ∀ H', Same H H' → Q (.bl true) H'
theorem sc_hangs : FnScope ["points", "arrows", "forth", "one", "letter", "other", "back"] ["points", "arrows"] dd9.scope := ⟨rfl, rfl, rfl, by decide +kernel, rfl, by decide +kernel, by decide +kernel⟩
theorem ok_hangs (T : Fx K mg) : DOk P w K mg base 2 (He.ga K "hangs") ["points", "arrows"] spHangs := by
  refine DOk.of (d := dd9) T 9 rfl rfl sc_hangs (fun _ _ _ _ _ _ us hl => match us, hl with | [_, _], _ => rfl) (fun vs H Q E h => ?_) (fun f cdv A outer s H vs Q E hr h => ?_)
  · obtain ⟨_, _, _, rfl, _⟩ := h
    rfl
  · have nd := sc_hangs.nd
    have hu := hu_of hr
    obtain ⟨A, zs, n, rfl, ha, ok, q⟩ := h
    refine ⟨_, (pss_cons (ps_setLc (i := 2) (own := [("one", 3), ("letter", 4), ("other", 5)]) rfl nd rfl rfl (sw_true rfl rfl rfl (by decide +kernel)) (piT K (pv 1)) (blkOk_by (N := ["points", "arrows", "forth", "one", "letter", "other", "back"]) (sc := dd9.scope) (by decide +kernel)) (fun _ _ _ _ _ => (pgTup K (n := 3) (pgs_cons (pg_name (i := 3) nd rfl (Or.inl rfl)) (pgs_cons (pg_name (i := 4) nd rfl (Or.inl rfl)) (pgs_cons (pg_name (i := 5) nd rfl (Or.inl rfl)) pgs_nil))))) (fun _ _ _ _ _ => pts_nil) (fun _ _ _ _ _ => (pe_tup (pa_cons (pv 3) (pa_cons (pv 5) pa_nil)))))
      (pss_cons (ps_setLc (i := 6) (own := [("one", 3), ("letter", 4), ("other", 5)]) rfl nd rfl rfl (sw_true rfl rfl rfl (by decide +kernel)) (piT K (pv 1)) (blkOk_by (N := ["points", "arrows", "forth", "one", "letter", "other", "back"]) (sc := dd9.scope) (by decide +kernel)) (fun _ _ _ _ _ => (pgTup K (n := 3) (pgs_cons (pg_name (i := 3) nd rfl (Or.inl rfl)) (pgs_cons (pg_name (i := 4) nd rfl (Or.inl rfl)) (pgs_cons (pg_name (i := 5) nd rfl (Or.inl rfl)) pgs_nil))))) (fun _ _ _ _ _ => pts_nil) (fun _ _ _ _ _ => (pe_tup (pa_cons (pv 5) (pa_cons (pv 3) pa_nil)))))
      (pss_one (ps_ret (pe_and (pe_cmpR op_eq (pe_callB call_lenD (by rfl) T.f_len (by decide +kernel) (pa_cons (pe_c (ok_reached T) hr T.g_reached (by rfl) (pa_cons (pv 2) (pa_cons (pe_int) pa_nil))) pa_nil)) (pv 0) (nomark _)) (pe_one (pe_cmpR op_eq (pe_callB call_lenD (by rfl) T.f_len (by decide +kernel) (pa_cons (pe_c (ok_reached T) hr T.g_reached (by rfl) (pa_cons (pv 6) (pa_cons (pe_int) pa_nil))) pa_nil)) (pv 0) (nomark _)))))))), ?_⟩
    have few : zs.length ≤ 60 := by have := ok.few; rwa [List.length_map] at this
    have inn : ∀ z ∈ zs, z.2.1 < n ∧ z.2.2.2 < n := fun z hz => ok.inn z.2 (List.mem_map.mpr ⟨z, hz, rfl⟩)
    -- forth
    refine ⟨.ref A, rfl, A, rfl, ⟨_, SqT.of ha.1⟩, fun D1 hD1 => ?_⟩
    refine lc_mt zs (Walk.len (walk_tup (xs := zs.map fun z => V.ref z.1)) (by rw [List.length_map])) (by omega) hD1 (fun H1 sm => SqT.of (sm _ _ ha.1)) (fun z => [.int (z.2.1 : Nat), .int (z.2.2.2 : Nat)]) (fun i z x H1 H' Ny ez sm ny y => ?_) (fun H1 qs1 s1 hd1 eq1 ht1 => ?_)
    · obtain ⟨rfl, ex⟩ := y
      rw [List.getElem?_map, ez] at ex
      obtain rfl := Option.some.inj ex
      have hm := List.mem_of_getElem? ez
      refine ⟨z.1, arV z.2, rfl, SqT.of (sm _ _ (ha.2 z hm)), rfl, _, _, rfl, _, _, rfl, _, _, rfl, rfl, rfl, ?_⟩
      exact ⟨_, rfl, _, rfl, Nat.le_of_ble_eq_true rfl, fun t nt => ny _ t (same_upd nt) upd_same⟩
    -- back
    refine ⟨.ref A, rfl, A, rfl, ⟨_, SqT.of (s1 _ _ ha.1)⟩, fun D2 hD2 => ?_⟩
    refine lc_mt zs (Walk.len (walk_tup (xs := zs.map fun z => V.ref z.1)) (by rw [List.length_map])) (by omega) hD2 (fun H1 sm => SqT.of (sm _ _ (s1 _ _ ha.1))) (fun z => [.int (z.2.2.2 : Nat), .int (z.2.1 : Nat)]) (fun i z x H1 H' Ny ez sm ny y => ?_) (fun H2 qs2 s2 hd2 eq2 ht2 => ?_)
    · obtain ⟨rfl, ex⟩ := y
      rw [List.getElem?_map, ez] at ex
      obtain rfl := Option.some.inj ex
      have hm := List.mem_of_getElem? ez
      refine ⟨z.1, arV z.2, rfl, SqT.of (sm _ _ (s1 _ _ (ha.2 z hm))), rfl, _, _, rfl, _, _, rfl, _, _, rfl, rfl, rfl, ?_⟩
      exact ⟨_, rfl, _, rfl, Nat.le_of_ble_eq_true rfl, fun t nt => ny _ t (same_upd nt) upd_same⟩
    -- reached(forth, 0)
    have l1 : qs1.length = zs.length := by rw [← eq1, List.length_map]
    have l2 : qs2.length = zs.length := by rw [← eq2, List.length_map]
    have p1 : PrAt H2 D1 (qs1.map fun q => (q.1, q.2.2.1, q.2.2.2.2)) := ⟨by rw [List.map_map]; exact s2 _ _ hd1, fun z hz => by
      obtain ⟨q0, hq0, rfl⟩ := List.mem_map.mp hz
      exact s2 _ _ (ht1 q0 hq0)⟩
    have c1 : Cover ((qs1.map fun q => (q.1, q.2.2.1, q.2.2.2.2)).map (·.2)) n := by
      have c := cover_forth ok
      rw [← eq1] at c
      rw [List.map_map, List.map_map] at c
      rw [List.map_map]
      exact c
    have c2 : Cover ((qs2.map fun q => (q.1, q.2.2.2.2, q.2.2.1)).map (·.2)) n := by
      have c := cover_back ok
      rw [← eq2] at c
      rw [List.map_map, List.map_map] at c
      rw [List.map_map]
      exact c
    have m1 : ∀ q ∈ qs1, q.2 ∈ zs := fun q hq => by rw [← eq1]; exact List.mem_map.mpr ⟨q, hq, rfl⟩
    have m2 : ∀ q ∈ qs2, q.2 ∈ zs := fun q hq => by rw [← eq2]; exact List.mem_map.mpr ⟨q, hq, rfl⟩
    have n4 := ok.n4
    refine ⟨.ref D1, rfl, D1, _, n, rfl, p1, by rw [List.length_map]; omega, ok.n1, by omega, fun z hz => ?_, c1, fun H3 f1 k1 s3 nf1 hf1 len1 => ?_⟩
    · obtain ⟨q0, hq0, rfl⟩ := List.mem_map.mp hz
      exact inn _ (m1 q0 hq0)
    refine ⟨f1, k1, rfl, hf1, _, rfl, rfl, true, bl_t (by rw [len1]), iteT ?_⟩
    have p2 : PrAt H3 D2 (qs2.map fun q => (q.1, q.2.2.2.2, q.2.2.1)) := ⟨by rw [List.map_map]; exact s3 _ _ hd2, fun z hz => by
      obtain ⟨q0, hq0, rfl⟩ := List.mem_map.mp hz
      exact s3 _ _ (ht2 q0 hq0)⟩
    refine ⟨.ref D2, rfl, D2, _, n, rfl, p2, by rw [List.length_map]; omega, ok.n1, by omega, fun z hz => ?_, c2, fun H4 f2 k2 s4 nf2 hf2 len2 => ?_⟩
    · obtain ⟨q0, hq0, rfl⟩ := List.mem_map.mp hz
      have := inn _ (m2 q0 hq0)
      exact ⟨this.2, this.1⟩
    refine ⟨f2, k2, rfl, hf2, _, rfl, rfl, q_bl (Q := Q) (by rw [len2]) (q _ ?_)⟩
    exact ((s1.trans s2).trans s3).trans s4
end
end L2.NJ
set_option Elab.async false
set_option linter.all false
set_option maxRecDepth 100000
set_option maxHeartbeats 4000000
namespace L2.NJ
open PySem PySem.Spec PyProof.Rows PySem.W
/-! ### all but one thing stays -/
def SB (a : Addr) (H H' : Hp) : Prop := ∀ b o, b ≠ a → H b = some o → H' b = some o
theorem SB.trans {a : Addr} {H H1 H2 : Hp} (h : SB a H H1) (k : SB a H1 H2) : SB a H H2 := fun b o n e => k b o n (h b o n e)
theorem SB.of {a : Addr} {H H' : Hp} (h : Same H H') : SB a H H' := fun b o _ e => h b o e
theorem SB.refl (a : Addr) (H : Hp) : SB a H H := fun _ _ _ e => e
theorem SB.upd {a : Addr} {H H' : Hp} (h : SB a H H') (o : HO) : SB a H (upd H' a o) := fun b u n e => by
  rw [upd_ne n]
  exact h b u n e
/-! ### dict comprehensions -/
section
variable {κ : Type} [DecidableEq κ]
theorem put_all {P : κ → Prop} {kvs : List (κ × V)} {k : κ} {v : V} (h : ∀ q ∈ kvs, P q.1) (hk : P k) : ∀ q ∈ putK kvs k v, P q.1 := by
  intro q hq
  unfold putK at hq
  split at hq
  · obtain ⟨r, hr, rfl⟩ := List.mem_map.mp hq
    split
    · exact h r hr
    · exact h r hr
  · rcases List.mem_append.mp hq with hq | hq
    · exact h q hq
    · rw [List.mem_singleton.mp hq]
      exact hk
theorem val_none {kvs : List (κ × V)} {k : κ} : valV kvs k = none ↔ ∀ q ∈ kvs, q.1 ≠ k := by
  induction kvs with
  | nil => exact ⟨fun _ _ h => (nomatch h), fun _ => rfl⟩
  | cons p r ih =>
    by_cases e : p.1 = k
    · rw [valV_pos e]
      exact ⟨fun h => (nomatch h), fun h => absurd e (h p List.mem_cons_self)⟩
    · rw [valV_neg e, ih]
      refine ⟨fun h q hq => ?_, fun h q hq => h q (List.mem_cons_of_mem _ hq)⟩
      rcases List.mem_cons.mp hq with rfl | hq
      · exact e
      · exact h q hq
end
theorem merge_all {P : Key → Prop} : ∀ {l kvs : List (Key × V)}, (∀ q ∈ kvs, P q.1) → (∀ q ∈ l, P q.1) → ∀ q ∈ mergeK kvs l, P q.1
  | [], _, h, _ => h
  | p :: r, kvs, h, hl => merge_all (l := r) (kvs := putK kvs p.1 p.2) (put_all h (hl p List.mem_cons_self)) fun q hq => hl q (List.mem_cons_of_mem _ hq)
theorem merge_mem : ∀ {l kvs : List (Key × V)} {k : Key}, valV (mergeK kvs l) k ≠ none ↔ valV kvs k ≠ none ∨ k ∈ l.map Prod.fst
  | [], kvs, k => by simp [mergeK]
  | p :: r, kvs, k => by
    have ih := merge_mem (l := r) (kvs := putK kvs p.1 p.2) (k := k)
    show valV (mergeK (putK kvs p.1 p.2) r) k ≠ none ↔ _
    rw [ih, valV_put, List.map_cons, List.mem_cons]
    by_cases e : k = p.1
    · rw [if_pos e]
      exact ⟨fun _ => .inr (.inl e), fun _ => .inl (fun z => nomatch z)⟩
    · rw [if_neg e]
      exact ⟨fun h => h.imp id .inr, fun h => h.imp id fun h => h.resolve_left e⟩
theorem merge_new : ∀ {l kvs : List (Key × V)}, ((kvs ++ l).map Prod.fst).Nodup → mergeK kvs l = kvs ++ l
  | [], kvs, _ => by simp [mergeK]
  | p :: r, kvs, h => by
    have e : valV kvs p.1 = none := val_none.mpr fun q hq z => by
      rw [List.map_append, List.nodup_append] at h
      exact h.2.2 q.1 (List.mem_map.mpr ⟨q, hq, rfl⟩) p.1 (List.mem_map.mpr ⟨p, List.mem_cons_self, rfl⟩) z
    show mergeK (putK kvs p.1 p.2) r = _
    rw [putK_new _ e]
    have e2 : kvs ++ p :: r = (kvs ++ [p]) ++ r := by simp
    rw [e2]
    exact merge_new (by rw [← e2]; exact h)
theorem merge_snoc (l : List (Key × V)) (p : Key × V) : mergeK [] (l ++ [p]) = putK (mergeK [] l) p.1 p.2 := by
  unfold mergeK
  rw [List.foldl_append]
  rfl
section
variable {J : It} {n : Nat} {G : Hp → Prop} {Y : Nat → Hp → V → Hp → Prop} {g : TG} {tt : L2.TT} {tk tv : TE} {vs : List Nat} {σ : L2.St} {H1 : Hp} {D : Addr} {Qd : Hp → Prop}
def DcGoal (J : It) (g : TG) (tt : L2.TT) (tk tv : TE) (vs : List Nat) (σ : L2.St) (H1 : Hp) (D : Addr) (Qd : Hp → Prop) : Prop :=
  ∃ W : Nat → Nat → Hp → Prop, (∃ m, W 0 m (upd H1 D (.dK []))) ∧ ∀ i m H, W i m H →
  (J.stop i H ∧ Qd H) ∨ (J.go i H ∧ ∃ Nx : Hp → Prop, (∀ H', Nx H' → ∃ m', m' < m ∧ W (i + 1) m' H') ∧ ∀ x H', J.yld i H x H' → g x (wipe σ vs) H' fun σ2 H2 => wipe σ2 vs = wipe σ vs ∧ tt σ2 H2 fun b H3 =>
    if b = true then tk σ2 H3 fun y H4 => tv σ2 H4 fun z H5 => ∃ kvs k, y = kV k ∧ H5 D = some (.dK kvs) ∧ kvs.length < sizeLine ∧ Nx (upd H5 D (.dK (putK kvs k z))) else Nx H3)
/-- keys and values are known -/
theorem dc_map {α : Type} (zs : List α) (w : Walk J zs.length G Y) (hn : zs.length ≤ 1000000) (hD : H1 D = none) (hG : ∀ H, Same H1 H → G H) (F : α → Key) (Gv : α → V)
    (turn : ∀ (i : Nat) (z : α) (x : V) (H H' : Hp) (Ny : V → V → Hp → Prop), zs[i]? = some z → Same H1 H → (∀ H4, Same H H4 → Ny (kV (F z)) (Gv z) H4) → Y i H x H' → g x (wipe σ vs) H' fun σ2 H2 => wipe σ2 vs = wipe σ vs ∧ tk σ2 H2 fun y H4 => tv σ2 H4 fun v H5 => Ny y v H5)
    (done : ∀ H, Same H1 H → H D = some (.dK (mergeK [] (zs.map fun z => (F z, Gv z)))) → Qd H) : DcGoal J g tYes tk tv vs σ H1 D Qd := by
  refine ⟨fun i m H => m = zs.length - i ∧ i ≤ zs.length ∧ Same H1 H ∧ H D = some (.dK (mergeK [] ((zs.take i).map fun z => (F z, Gv z)))), ⟨zs.length, by simp, Nat.zero_le _, same_upd hD, upd_same⟩, ?_⟩
  rintro i m H ⟨rfl, hi, sm, hd⟩
  by_cases hlt : i < zs.length
  · refine .inr ⟨w.goes i H hlt (hG H sm), fun H' => Same H1 H' ∧ H' D = some (.dK (mergeK [] ((zs.take (i + 1)).map fun z => (F z, Gv z)))), fun H' ⟨s', d'⟩ => ⟨zs.length - (i + 1), by omega, rfl, hlt, s', d'⟩, fun x H' y => ?_⟩
    have ez : zs[i]? = some zs[i] := List.getElem?_eq_getElem hlt
    refine turn i zs[i] x H H' _ ez sm (fun H4 s4 => ?_) (w.yields i H x H' hlt (hG H sm) y)
    refine ⟨_, F zs[i], rfl, s4 _ _ hd, ?_, fun b o e => ?_, ?_⟩
    · have := length_mergeK ((zs.take i).map fun z => (F z, Gv z)) []
      rw [List.length_map, List.length_take] at this
      refine Nat.lt_of_le_of_lt this ?_
      refine Nat.lt_of_lt_of_le (m := 1000001) (by simp; omega) (by decide)
    · rw [upd_ne (ne_of_none e hD)]
      exact s4 _ _ (sm _ _ e)
    · rw [upd_same, List.take_add_one, ez, List.map_append]
      show _ = some (HO.dK (mergeK [] (_ ++ [(F zs[i], Gv zs[i])])))
      rw [merge_snoc]
  · have e : i = zs.length := by omega
    subst e
    refine .inl ⟨w.stops H (hG H sm), done H sm ?_⟩
    rw [hd, List.take_length]
theorem dcT_gen (w : Walk J n G Y) (hn : n ≤ 1000000) (hD : H1 D = none) (hG : ∀ H, Same H1 H → G H) (R : Nat → List (List Key × V) → Hp → Prop) (h0 : R 0 [] (upd H1 D (.dT [])))
    (hR : ∀ i acc H zs ys, H D = some (.dT zs) → R i acc H → R i acc (upd H D (.dT ys)))
    (turn : ∀ (i : Nat) (x : V) (H H' : Hp) (kvs : List (List Key × V)) (Ny : V → V → Hp → Prop), i < n → Same H1 H → H D = some (.dT kvs) → R i kvs H →
      (∀ b k v H5, Same H H5 → H5 b = some (.tup (k.map kV)) → R (i + 1) (putK kvs k v) H5 → Ny (.ref b) v H5) → Y i H x H' → g x (wipe σ vs) H' fun σ2 H2 => wipe σ2 vs = wipe σ vs ∧ tk σ2 H2 fun y H4 => tv σ2 H4 fun v H5 => Ny y v H5)
    (done : ∀ H kvs, Same H1 H → H D = some (.dT kvs) → R n kvs H → Qd H) :
    ∃ W : Nat → Nat → Hp → Prop, (∃ m, W 0 m (upd H1 D (.dT []))) ∧ ∀ i m H, W i m H →
      (J.stop i H ∧ Qd H) ∨ (J.go i H ∧ ∃ Nx : Hp → Prop, (∀ H', Nx H' → ∃ m', m' < m ∧ W (i + 1) m' H') ∧ ∀ x H', J.yld i H x H' → g x (wipe σ vs) H' fun σ2 H2 => wipe σ2 vs = wipe σ vs ∧ tYes σ2 H2 fun c H3 =>
        if c = true then tk σ2 H3 fun y H4 => tv σ2 H4 fun z H5 => ∃ kvs k b, y = .ref b ∧ H5 b = some (.tup (k.map kV)) ∧ H5 D = some (.dT kvs) ∧ kvs.length < sizeLine ∧ Nx (upd H5 D (.dT (putK kvs k z))) else Nx H3) := by
  refine ⟨fun i m H => m = n - i ∧ i ≤ n ∧ Same H1 H ∧ ∃ kvs, H D = some (.dT kvs) ∧ kvs.length ≤ i ∧ R i kvs H, ⟨n, by simp, Nat.zero_le _, same_upd hD, [], upd_same, Nat.zero_le _, h0⟩, ?_⟩
  rintro i m H ⟨rfl, hi, sm, kvs, hd, hl, hr⟩
  by_cases hlt : i < n
  · refine .inr ⟨w.goes i H hlt (hG H sm), fun H' => Same H1 H' ∧ ∃ kvs, H' D = some (.dT kvs) ∧ kvs.length ≤ i + 1 ∧ R (i + 1) kvs H', fun H' ⟨s', d'⟩ => ⟨n - (i + 1), by omega, rfl, hlt, s', d'⟩, fun x H' y => ?_⟩
    refine turn i x H H' kvs _ hlt sm hd hr (fun b k v H5 s5 hb r5 => ?_) (w.yields i H x H' hlt (hG H sm) y)
    refine ⟨kvs, k, b, rfl, hb, s5 _ _ hd, Nat.lt_of_le_of_lt hl (Nat.lt_of_lt_of_le hlt (Nat.le_trans hn (by decide))), fun c o e => ?_, _, upd_same, ?_, hR _ _ _ _ _ (s5 _ _ hd) r5⟩
    · rw [upd_ne (ne_of_none e hD)]
      exact s5 _ _ (sm _ _ e)
    · have := length_putK kvs k v
      omega
  · have e : i = n := by omega
    subst e
    exact .inl ⟨w.stops H (hG H sm), done H kvs sm hd hr⟩
end
/-! ### instances -/
section
variable {X : Cx}
theorem pe_mk {j k : Nat} {C f : Addr} {ps : List Str} {sp : Sp} {x : Str} {p pos : Pos} {e : Expr} {es : List Expr} {t : TA} (M : Mk X.K C f) (D : DOk X.prog X.w X.K X.mg X.base k f ps sp) (hr : Room j X.A) (hm : X.mg x = some (.ref C)) (hg : Gl X x) (ha : PA X (e :: es) t)
    (hj : k + 1 ≤ j := by decide) (hdb : (x == ("__debug__" : Str)) = false := by decide)
    (h1 : starEach (e :: es) X.env = (false, eval e X.env) :: starEach es X.env := by rfl) (h2 : (backTo pos (starEach es X.env)).any (·.1) = false := by rfl) : PE X (.Call (.Name x p) (e :: es) [] pos) (tMake C sp [] E0 t) := by
  obtain ⟨fd, F, b⟩ := D.ex
  exact pe_make M F (hr.mono hj) hg hm b .nil pass0 ha hdb h1 h2
theorem pe_mt {pl : Sem Bool} {j k : Nat} {C f : Addr} {ps : List Str} {sp : Sp} {m : Str} {apos pos : Pos} {o e : Expr} {es : List Expr} {ta : TE} {t : TA} (D : DOk X.prog X.w X.K X.mg X.base k f ps sp) (hr : Room j X.A) (po : PE X o ta) (c : Cls X.K C) (hm : Meth X.K C m f) (ha : PA X (e :: es) t)
    (hj : k ≤ j := by decide)
    (hst : starEach (e :: es) X.env = (false, eval e X.env) :: starEach es X.env := by rfl) (hpl : (backTo pos (starEach es X.env)).any (·.1) = false := by rfl)
    (ht : eval (.Call (.Attribute o m apos) (e :: es) [] pos) X.env = (do
      let ov ← eval o X.env
      standAt apos.atName
      let (f, first) ← holding [ov] (getMethod ov m pl)
      callWith pos f first (backTo pos (starEach (e :: es) X.env)) (backToKw pos (keywordEach [] X.env))) := by rfl) :
    PE X (.Call (.Attribute o m apos) (e :: es) [] pos) (tMeth C m sp [] E0 ta t) := by
  obtain ⟨fd, F, b⟩ := D.ex
  exact pe_meth (pl := pl) po c hm F (hr.mono hj) b .nil pass0 ha hst hpl ht
end
/-! ### a web as it stands -/
def goals (ar : List Ar) (p c : Nat) : List Nat := (ar.filter fun a => decide (a.1 = p) && decide (a.2.1 = c)).map fun a => a.2.2
def stKey (p c : Nat) : List Key := [Sum.inl (p : Int), Sum.inr (sx [c])]
theorem stKey_inj {p c p' c' : Nat} : stKey p c = stKey p' c' ↔ p = p' ∧ c = c' := by
  refine ⟨fun h => ?_, fun h => by rw [h.1, h.2]⟩
  injection h with h1 h2
  injection h2 with h2 _
  have a := Sum.inl.inj h1
  have b := sx_inj (Sum.inr.inj h2)
  injection b with b _
  exact ⟨by omega, b⟩
def nums (l : List Nat) : List V := l.map fun (x : Nat) => V.int (x : Nat)
def StepAt (H : Hp) (kvs : List (List Key × V)) (ar : List Ar) : Prop :=
  ∀ p c, (valV kvs (stKey p c) = none ∧ goals ar p c = []) ∨ ∃ t, valV kvs (stKey p c) = some (.ref t) ∧ H t = some (.tup (nums (goals ar p c)))
theorem StepAt.same {H H' : Hp} {kvs : List (List Key × V)} {ar : List Ar} (e : Same H H') (h : StepAt H kvs ar) : StepAt H' kvs ar := fun p c => (h p c).imp id fun ⟨t, a, b⟩ => ⟨t, a, e _ _ b⟩
def WebAt (K : PySem.W.Frag) (H : Hp) (a : Addr) (n : Nat) (ar : List Ar) : Prop :=
  ∃ A dx L S kvs, H a = some (.ins (He.ga K "Web") dx [("points", .int (n : Nat)), ("arrows", .ref A), ("kept_letters", .str L), ("kept_steps", .ref S)]) ∧ H S = some (.dT kvs) ∧ StepAt H kvs ar
theorem WebAt.same {K : PySem.W.Frag} {H H' : Hp} {a : Addr} {n : Nat} {ar : List Ar} (e : Same H H') (h : WebAt K H a n ar) : WebAt K H' a n ar :=
  let ⟨A, dx, L, S, kvs, h1, h2, h3⟩ := h
  ⟨A, dx, L, S, kvs, e _ _ h1, e _ _ h2, h3.same e⟩
end L2.NJ
set_option Elab.async false
set_option linter.all false
set_option maxRecDepth 100000
set_option maxHeartbeats 8000000
namespace L2.NJ
open PySem PySem.Spec PyProof.Rows PySem.W
/-- what the list for a point and a letter holds behind some arrows -/
def grpT (zs : List (Addr × Ar)) (k : List Key) : List V := (zs.filter fun z => decide (stKey z.2.1 z.2.2.1 = k)).map fun z => V.int (z.2.2.2 : Nat)
theorem grpT_goals (zs : List (Addr × Ar)) (p c : Nat) : grpT zs (stKey p c) = nums (goals (zs.map (·.2)) p c) := by
  unfold grpT nums goals
  rw [List.filter_map, List.map_map, List.map_map]
  have : (zs.filter fun z => decide (stKey z.2.1 z.2.2.1 = stKey p c)) = zs.filter ((fun a : Ar => decide (a.1 = p) && decide (a.2.1 = c)) ∘ fun z => z.2) := List.filter_congr fun z _ => by
    show decide _ = (decide _ && decide _)
    rw [Bool.eq_iff_iff]
    simp [stKey_inj]
  rw [this]
  rfl
section
variable {P : Program} {w : World} {K : PySem.W.Frag} {mg : Str → Option Value} {base : Heap}
def spWebKeep (K : PySem.W.Frag) : Sp := fun vs H Q _ => ∃ (a : Addr) (n : Nat) (A : Addr) (dx : Addr) (zs : List (Addr × Ar)), vs = [.ref a, .int (n : Nat), .ref A] ∧ H a = some (.ins (He.ga K "Web") dx []) ∧ ArAt H A zs ∧ zs.length ≤ 60 ∧
  ∀ H', SB a H H' → WebAt K H' a n (zs.map (·.2)) → Q .non H'
theorem sc_Web_keep : FnScope ["self", "points", "arrows", "one", "letter", "other", "steps", "key"] ["self", "points", "arrows"] dd11.scope := ⟨rfl, rfl, rfl, by decide +kernel, rfl, by decide +kernel, by decide +kernel⟩
theorem ok_Web_keep (T : Fx K mg) : DOk P w K mg base 2 (He.ma K (He.ga K "Web") "keep") ["self", "points", "arrows"] (spWebKeep K) := by
  refine DOk.of (d := dd11) T 11 rfl rfl sc_Web_keep (fun _ _ _ _ _ _ us hl => match us, hl with | [_, _, _], _ => rfl) (fun vs H Q E h => ?_) (fun f cdv A outer s H vs Q E hr h => ?_)
  · obtain ⟨_, _, _, _, _, rfl, _⟩ := h
    rfl
  · have nd := sc_Web_keep.nd
    have hu := hu_of hr
    obtain ⟨a, n, A, dx, zs, rfl, ha, hA, few, q⟩ := h
    refine ⟨_, (pss_cons (ps_fld (pv 0) (pv 1) rfl)
      (pss_cons (ps_fld (pv 0) (pv 2) rfl)
      (pss_cons (ps_fld (pv 0) (pe_join (pe_str) (pe_callB (call_sortedD rfl) (by rfl) T.f_sorted (by decide +kernel) (pa_cons (pe_dc (own := [("one", 3), ("letter", 4), ("other", 5)]) rfl nd (piT K (pv 2)) (blkOk_by (N := ["self", "points", "arrows", "one", "letter", "other", "steps", "key"]) (sc := dd11.scope) (by decide +kernel)) (fun _ _ _ _ _ => (pgTup K (n := 3) (pgs_cons (pg_name (i := 3) nd rfl (Or.inl rfl)) (pgs_cons (pg_name (i := 4) nd rfl (Or.inl rfl)) (pgs_cons (pg_name (i := 5) nd rfl (Or.inl rfl)) pgs_nil))))) (fun _ _ _ _ _ => pts_nil) (fun _ _ _ _ _ => (pv 4)) (fun _ _ _ _ _ => (pe_bl))) pa_nil))) rfl)
      (pss_cons (ps_set (i := 6) nd rfl (Or.inr rfl) (pe_dnewT))
      (pss_cons (ps_for PassesOwn.never rfl (piT K (pv 2)) (pgTup K (n := 3) (pgs_cons (pg_name (i := 3) nd rfl (Or.inl rfl)) (pgs_cons (pg_name (i := 4) nd rfl (Or.inl rfl)) (pgs_cons (pg_name (i := 5) nd rfl (Or.inl rfl)) pgs_nil))))
        (pss_one (ps_expr (pe_bm PySem.F.plainAttrs_list PySem.F.slot_list_append PySem.F.type_list_append mt_append (pe_dsetdT hu (pv 6) (pe_tup (pa_cons (pv 3) (pa_cons (pv 4) pa_nil))) (pe_lst pa_nil) ⟨rfl, rfl, rfl, rfl⟩) (pa_cons (pv 5) pa_nil)))))
      (pss_one (ps_fld (pv 0) (pe_lock (pe_dcT hu (own := [("key", 7)]) rfl nd (pi_keys (pv 6)) (blkOk_by (N := ["self", "points", "arrows", "one", "letter", "other", "steps", "key"]) (sc := dd11.scope) (by decide +kernel)) (fun _ _ _ _ _ => (pg_name (i := 7) nd rfl (Or.inl rfl))) (fun _ _ _ _ _ => pts_nil) (fun _ _ _ _ _ => (pv 7)) (fun _ _ _ _ _ => (pe_callTy (ctupOf K) (by rfl) T.f_tuple (by decide +kernel) (pa_cons (pe_dget hu (pv 6) (pv 7) (fun _ _ => rfl)) pa_nil))))) rfl))))))), ?_⟩
    -- points, arrows
    refine ⟨_, rfl, _, rfl, a, _, dx, _, rfl, ha, T.c_Web, T.n_Web_points, Nat.le_of_ble_eq_true rfl, ?_⟩
    refine ⟨_, rfl, _, rfl, a, _, dx, _, rfl, upd_same, T.c_Web, T.n_Web_arrows, Nat.le_of_ble_eq_true rfl, ?_⟩
    rw [upd_upd]
    have an : ∀ {b o}, H b = some o → (∀ C d f, o ≠ .ins C d f) → b ≠ a := fun {b o} e h z => by
      subst z
      rw [ha] at e
      exact h _ _ _ (Option.some.inj e).symm
    have sb0 : SB a H (upd H a (.ins (He.ga K "Web") dx (putF "arrows" (.ref A) (putF "points" (.int (n : Nat)) [])))) := (SB.refl a H).upd _
    have hA1 : ArAt (upd H a (.ins (He.ga K "Web") dx (putF "arrows" (.ref A) (putF "points" (.int (n : Nat)) [])))) A zs := ⟨sb0 _ _ (an hA.1 fun _ _ _ z => nomatch z) hA.1, fun z hz => sb0 _ _ (an (hA.2 z hz) fun _ _ _ z => nomatch z) (hA.2 z hz)⟩
    have ha1 : (upd H a (.ins (He.ga K "Web") dx (putF "arrows" (.ref A) (putF "points" (.int (n : Nat)) [])))) a = some (.ins (He.ga K "Web") dx [("points", .int (n : Nat)), ("arrows", .ref A)]) := upd_same
    generalize upd H a (.ins (He.ga K "Web") dx (putF "arrows" (.ref A) (putF "points" (.int (n : Nat)) []))) = H1 at sb0 hA1 ha1 ⊢
    -- the letters
    refine ⟨⟨_, rfl⟩, .ref A, rfl, A, rfl, ⟨_, SqT.of hA1.1⟩, fun D hD => ?_⟩
    refine dc_map zs (Walk.len (walk_tup (xs := zs.map fun z => V.ref z.1)) (by rw [List.length_map])) (by omega) hD (fun H2 sm => SqT.of (sm _ _ hA1.1)) (fun z => Sum.inr (sx [z.2.2.1])) (fun _ => .bl true) (fun i z x H2 H2' Ny ez sm ny y => ?_) (fun H2 s2 hd2 => ?_)
    · obtain ⟨rfl, ex⟩ := y
      rw [List.getElem?_map, ez] at ex
      obtain rfl := Option.some.inj ex
      have hm := List.mem_of_getElem? ez
      exact ⟨z.1, arV z.2, rfl, SqT.of (sm _ _ (hA1.2 z hm)), rfl, _, _, rfl, _, _, rfl, _, _, rfl, rfl, rfl, _, rfl, ny _ (Same.refl _)⟩
    obtain ⟨ks, hks⟩ : ∃ ks : List Str, (mergeK [] (zs.map fun z => ((Sum.inr (sx [z.2.2.1]) : Key), V.bl true))).map (·.1) = ks.map Sum.inr ∧ ∀ s ∈ ks, s.length = 1 := by
      have h : ∀ q ∈ mergeK [] (zs.map fun z => ((Sum.inr (sx [z.2.2.1]) : Key), V.bl true)), ∃ s : Str, q.1 = Sum.inr s ∧ s.length = 1 := merge_all (P := fun k => ∃ s : Str, k = Sum.inr s ∧ s.length = 1) (fun q hq => nomatch hq) fun q hq => by
        obtain ⟨z, _, rfl⟩ := List.mem_map.mp hq
        exact ⟨_, rfl, rfl⟩
      generalize mergeK [] (zs.map fun z => ((Sum.inr (sx [z.2.2.1]) : Key), V.bl true)) = l at h
      induction l with
      | nil => exact ⟨[], rfl, fun s hs => nomatch hs⟩
      | cons p r ih =>
        obtain ⟨ks, e, h1⟩ := ih fun q hq => h q (List.mem_cons_of_mem _ hq)
        obtain ⟨s, es, l1⟩ := h p List.mem_cons_self
        exact ⟨s :: ks, by rw [List.map_cons, List.map_cons, e, es], fun t ht => by
          rcases List.mem_cons.mp ht with rfl | ht
          · exact l1
          · exact h1 t ht⟩
    have lks : ks.length ≤ 60 := by
      have h1 := congrArg List.length hks.1
      rw [List.length_map, List.length_map] at h1
      have h2 := length_mergeK (zs.map fun z => ((Sum.inr (sx [z.2.2.1]) : Key), V.bl true)) []
      rw [List.length_map] at h2
      simp at h2
      omega
    refine ⟨D, _, ks, rfl, .inl hd2, hks.1, by omega, fun ys p perm srt np => ?_⟩
    have s3 := s2.trans (same_upd (o := .lst (ys.map V.str)) np)
    have h1 : ∀ s ∈ ys, s.length = 1 := fun s hs => hks.2 s (perm.mem_iff.mp hs)
    refine ⟨_, p, ys, rfl, rfl, .inl (SqL.of upd_same), ?_, ?_⟩
    · have e : (ys.map fun x => x.length).sum = ys.length := by
        clear perm s3 srt
        induction ys with
        | nil => rfl
        | cons y r ih =>
          rw [List.map_cons, List.sum_cons, h1 y List.mem_cons_self, ih fun s hs => h1 s (List.mem_cons_of_mem _ hs)]
          simp; omega
      have e2 := perm.length_eq
      have : (ys.map fun x => x.length).sum + ys.length * 0 ≤ 16777216 := by rw [e]; omega
      exact this
    generalize hL : Txt.join _ ys = L
    refine ⟨_, rfl, a, _, dx, _, rfl, s3 _ _ ha1, T.c_Web, T.n_Web_kept_letters, Nat.le_of_ble_eq_true rfl, ?_⟩
    have sb1 : SB a H (upd (upd H2 p (.lst (ys.map V.str))) a (.ins (He.ga K "Web") dx (putF "kept_letters" (.str L) [("points", .int (n : Nat)), ("arrows", .ref A)]))) := (sb0.trans (.of s3)).upd _
    have hA2 : ArAt (upd (upd H2 p (.lst (ys.map V.str))) a (.ins (He.ga K "Web") dx (putF "kept_letters" (.str L) [("points", .int (n : Nat)), ("arrows", .ref A)]))) A zs := ⟨sb1 _ _ (an hA.1 fun _ _ _ z => nomatch z) hA.1, fun z hz => sb1 _ _ (an (hA.2 z hz) fun _ _ _ z => nomatch z) (hA.2 z hz)⟩
    have ha2 : (upd (upd H2 p (.lst (ys.map V.str))) a (.ins (He.ga K "Web") dx (putF "kept_letters" (.str L) [("points", .int (n : Nat)), ("arrows", .ref A)]))) a = some (.ins (He.ga K "Web") dx [("points", .int (n : Nat)), ("arrows", .ref A), ("kept_letters", .str L)]) := upd_same
    generalize upd (upd H2 p (.lst (ys.map V.str))) a (.ins (He.ga K "Web") dx (putF "kept_letters" (.str L) [("points", .int (n : Nat)), ("arrows", .ref A)])) = H4 at sb1 hA2 ha2 ⊢
    -- steps
    intro S nS
    have s4 : Same H4 (upd H4 S (.dT [])) := same_upd nS
    refine ⟨.ref A, rfl, A, rfl, ⟨_, SqT.of (s4 _ _ hA2.1)⟩, ?_⟩
    refine for_tup (xs := zs.map fun z => V.ref z.1) (fun i σ H2 => ∃ kvs y3 y4 y5, σ = [some (.ref a), some (.int (n : Nat)), some (.ref A), y3, y4, y5, some (.ref S), none] ∧ Same H4 H2 ∧ H2 S = some (.dT kvs) ∧ kvs.length ≤ i ∧ MM H4 H2 kvs (grpT (zs.take i)))
      ⟨[], none, none, none, rfl, s4, upd_same, Nat.le_refl _, MM.nil⟩ (fun i σ H2 _ ⟨kvs, y3, y4, y5, _, s2, _⟩ => SqT.of (s2 _ _ hA2.1)) (fun i x σ H2 ex ⟨kvs, y3, y4, y5, es, s2, hd, hk, mm⟩ => ?_) (fun σ H2 ⟨kvs, y3, y4, y5, es, s2, hd, hk, mm⟩ => ?_)
    · subst es
      rw [List.getElem?_map, Option.map_eq_some_iff] at ex
      obtain ⟨z, ez, rfl⟩ := ex
      have hz := hA2.2 z (List.mem_of_getElem? ez)
      have hil : i < zs.length := (List.getElem?_eq_some_iff.mp ez).1
      refine ⟨z.1, arV z.2, rfl, SqT.of (s2 _ _ hz), rfl, _, _, rfl, _, _, rfl, _, _, rfl, rfl, ?_⟩
      refine ⟨.ref S, rfl, S, rfl, .inr ⟨kvs, .inl hd⟩, _, rfl, _, rfl, Nat.le_of_ble_eq_true rfl, fun t nt => ⟨Nat.zero_le _, fun l nl => ?_⟩⟩
      have s5 : Same H2 (upd H2 t (.tup [.int (z.2.1 : Nat), tx [z.2.2.1]])) := same_upd nt
      have s6 : Same H2 (upd (upd H2 t (.tup [.int (z.2.1 : Nat), tx [z.2.2.1]])) l (.lst [])) := s5.trans (same_upd nl)
      have nl2 : H2 l = none := s5.free nl
      have ht6 : (upd (upd H2 t (.tup [.int (z.2.1 : Nat), tx [z.2.2.1]])) l (.lst [])) t = some (.tup ((stKey z.2.1 z.2.2.1).map kV)) := by
        rw [upd_ne (ne_of_none upd_same nl)]
        exact upd_same
      have hl6 : (upd (upd H2 t (.tup [.int (z.2.1 : Nat), tx [z.2.2.1]])) l (.lst [])) l = some (.lst []) := upd_same
      generalize upd (upd H2 t (.tup [.int (z.2.1 : Nat), tx [z.2.2.1]])) l (.lst []) = H6 at s6 ht6 hl6 ⊢
      have nlS : l ≠ S := fun e => by rw [e, hd] at nl2; cases nl2
      have gstep : grpT (zs.take (i + 1)) = fun j => if j = stKey z.2.1 z.2.2.1 then grpT (zs.take i) (stKey z.2.1 z.2.2.1) ++ [V.int (z.2.2.2 : Nat)] else grpT (zs.take i) j := by
        funext j
        unfold grpT
        rw [List.take_add_one, ez, List.filter_append, List.map_append]
        by_cases ej : j = stKey z.2.1 z.2.2.1
        · rw [if_pos ej, ej]
          simp
        · rw [if_neg ej]
          have : ¬ stKey z.2.1 z.2.2.1 = j := fun e => ej e.symm
          simp [this]
      refine ⟨kvs, stKey z.2.1 z.2.2.1, t, s6 _ _ hd, rfl, ht6, fits1 (by omega), fun v hv => ?_, fun hv => ?_⟩
      · obtain ⟨l2, rfl, h0l, hl2⟩ := mm.val _ _ hv
        have hl2' := s6 _ _ hl2
        refine ⟨.inl ⟨rfl, _, .inl (.inl hl2')⟩, _, rfl, l2, _, _, rfl, rfl, hl2', ?_, kvs, _, _, _, rfl, fun b o e => ?_, ?_, by omega, ?_⟩
        · refine fits1 ?_
          unfold grpT
          rw [List.length_map]
          have := List.length_filter_le (fun z' : Addr × Ar => decide (stKey z'.2.1 z'.2.2.1 = stKey z.2.1 z.2.2.1)) (zs.take i)
          rw [List.length_take] at this
          omega
        · rw [upd_ne (ne_of_none e h0l)]
          exact s6 _ _ (s2 _ _ e)
        · rw [upd_ne (ne_of (s6 _ _ hd) hl2' (fun z => nomatch z))]
          exact s6 _ _ hd
        · rw [gstep]
          exact (mm.same s6).old hv
      · refine ⟨.inl ⟨rfl, _, .inl (.inl (by rw [upd_ne nlS]; exact hl6))⟩, _, rfl, l, _, _, rfl, rfl, by rw [upd_ne nlS]; exact hl6, fits1 (by simp), putK kvs (stKey z.2.1 z.2.2.1) (.ref l), _, _, _, rfl, fun b o e => ?_, ?_, ?_, ?_⟩
        · rw [upd_ne (ne_of_none (s2 _ _ e) nl2), upd_ne (ne_of_none e nS)]
          exact s6 _ _ (s2 _ _ e)
        · rw [upd_ne nlS.symm]
          exact upd_same
        · have := length_putK kvs (stKey z.2.1 z.2.2.1) (.ref l)
          omega
        · rw [gstep]
          refine mm.new (H' := upd (upd H6 S (.dT (putK kvs (stKey z.2.1 z.2.2.1) (.ref l)))) l (.lst ([] ++ [.int (z.2.2.2 : Nat)]))) hv nl2 (s2.free nl2) (fun b o hb ho e => ?_) upd_same
          obtain ⟨xs, rfl⟩ := ho
          rw [upd_ne hb, upd_ne (ne_of e hd (fun z => nomatch z))]
          exact s6 _ _ e
    subst es
    rw [List.length_map] at hk mm
    rw [List.take_length] at mm
    -- kept_steps
    refine ⟨S, .dT kvs, hd, trivial, fun od => ?_⟩
    refine ⟨.ref S, rfl, S, od, rfl, .inr ⟨kvs, upd_same, fun D hD => ?_⟩⟩
    have nDS : D ≠ S := fun e => by rw [e, upd_same] at hD; cases hD
    have sS : ∀ b o, H2 b = some o → (∀ k, o ≠ .dT k) → (upd H2 S (.frz od (.dT kvs))) b = some o := fun b o e h => by
      rw [upd_ne (fun z => by rw [z, hd] at e; exact h _ (Option.some.inj e).symm)]
      exact e
    refine dcT_gen (walk_keysT (o := od) (d := S) (kvs := kvs)) (by omega) hD (fun H3 sm => sm _ _ upd_same) (fun i acc H3 => ∀ k, (k ∈ (kvs.take i).map Prod.fst → ∃ t, valV acc k = some (.ref t) ∧ H3 t = some (.tup (grpT zs k))) ∧ (k ∉ (kvs.take i).map Prod.fst → valV acc k = none))
      (fun k => ⟨fun h => (nomatch h), fun _ => rfl⟩) (fun i acc H3 xs ys hd3 hR k => ⟨fun h => let ⟨t, e1, e2⟩ := (hR k).1 h; ⟨t, e1, by rw [upd_ne (ne_of e2 hd3 (fun z => nomatch z))]; exact e2⟩, (hR k).2⟩) (fun i x H3o H3 acc Ny hi sm hd3 hR ny y => ?_) (fun H3 acc sm hd3 hR => ?_)
    · obtain ⟨rfl, k, v, b, ek, rfl, hb⟩ := y
      refine ⟨rfl, ?_⟩
      have hv : valV kvs k ≠ none := fun e => val_none.mp e (k, v) (List.mem_of_getElem? ek) rfl
      obtain ⟨v', hv'⟩ := Option.ne_none_iff_exists'.mp hv
      obtain ⟨l2, rfl, h0l, hl2⟩ := mm.val _ _ hv'
      have hl3 : H3 l2 = some (.lst (grpT zs k)) := sm _ _ (sS _ _ hl2 fun _ z => nomatch z)
      refine ⟨.ref b, rfl, .ref S, rfl, .ref b, rfl, S, .ref l2, rfl, .inr ⟨kvs, k, b, .inr ⟨od, sm _ _ upd_same⟩, rfl, hb, hv'.symm⟩, l2, _, rfl, .inl ⟨SqL.of hl3, fun t nt => ?_⟩⟩
      refine ny b k (.ref t) _ (same_upd nt) ((same_upd nt) _ _ hb) fun j => ⟨fun h => ?_, fun h => ?_⟩
      · rw [valV_put]
        by_cases e : j = k
        · rw [if_pos e]
          exact ⟨t, rfl, by rw [upd_same, e]⟩
        · rw [if_neg e]
          rw [List.take_add_one, ek, List.map_append, List.mem_append] at h
          obtain ⟨t2, e1, e2⟩ := (hR j).1 (h.resolve_right fun z => e (by simpa using z))
          exact ⟨t2, e1, (same_upd nt) _ _ e2⟩
      · rw [List.take_add_one, ek, List.map_append, List.mem_append, not_or] at h
        rw [valV_put, if_neg (fun e => h.2 (by simp [e]))]
        exact (hR j).2 h.1
    · refine ⟨sm _ _ upd_same, ?_⟩
      have hH : Same H2 (upd H3 S (.dT kvs)) := fun b o e => by
        by_cases z : b = S
        · rw [z, hd] at e
          rw [z, upd_same]
          exact e
        · rw [upd_ne z]
          exact sm _ _ (by rw [upd_ne z]; exact e)
      rw [List.take_length] at hR
      have ha5 := hH _ _ (s2 _ _ ha2)
      refine ⟨.ref a, rfl, a, _, dx, _, rfl, ha5, T.c_Web, T.n_Web_kept_steps, Nat.le_of_ble_eq_true rfl, ?_⟩
      refine q _ ((sb1.trans (.of (s2.trans hH))).upd _) ⟨A, dx, L, D, acc, upd_same, ?_, fun p c => ?_⟩
      · have nDa : D ≠ a := fun z => by
          have := sS _ _ (s2 _ _ ha2) fun _ z => nomatch z
          rw [z, this] at hD
          cases hD
        rw [upd_ne nDa, upd_ne nDS]
        exact hd3
      · by_cases h : stKey p c ∈ kvs.map Prod.fst
        · obtain ⟨t, e1, e2⟩ := (hR _).1 h
          refine .inr ⟨t, e1, ?_⟩
          rw [upd_ne (fun z => ?_), upd_ne (fun z => ?_), e2, grpT_goals]
          · rw [z, sm _ _ upd_same] at e2
            cases e2
          · have := sm _ _ (sS _ _ (s2 _ _ ha2) fun _ z => nomatch z)
            rw [z, this] at e2
            cases e2
        · refine .inl ⟨(hR _).2 h, ?_⟩
          have : grpT zs (stKey p c) = [] := mm.non _ (val_none.mpr fun q hq z => h (List.mem_map.mpr ⟨q, hq, z⟩))
          rw [grpT_goals] at this
          exact List.map_eq_nil_iff.mp this
def spWebInit (K : PySem.W.Frag) : Sp := fun vs H Q _ => ∃ (a : Addr) (n : Nat) (A : Addr) (dx : Addr) (zs : List (Addr × Ar)), vs = [.ref a, .int (n : Nat), .ref A] ∧ H a = some (.ins (He.ga K "Web") dx []) ∧ ArAt H A zs ∧ WebOk n (zs.map (·.2)) ∧
  ∀ H', SB a H H' → WebAt K H' a n (zs.map (·.2)) → Q .non H'
theorem sc_Web___init__ : FnScope ["self", "points", "arrows"] ["self", "points", "arrows"] dd10.scope := ⟨rfl, rfl, rfl, by decide +kernel, rfl, by decide +kernel, by decide +kernel⟩
theorem ok_Web___init__ (T : Fx K mg) : DOk P w K mg base 5 (He.ma K (He.ga K "Web") "__init__") ["self", "points", "arrows"] (spWebInit K) := by
  refine DOk.of (d := dd10) T 10 rfl rfl sc_Web___init__ (fun _ _ _ _ _ _ us hl => match us, hl with | [_, _, _], _ => rfl) (fun vs H Q E h => ?_) (fun f cdv A outer s H vs Q E hr h => ?_)
  · obtain ⟨_, _, _, _, _, rfl, _⟩ := h
    rfl
  · have nd := sc_Web___init__.nd
    have hu := hu_of hr
    obtain ⟨a, n, A, dx, zs, rfl, ha, hA, ok, q⟩ := h
    refine ⟨_, (pss_cons (ps_if (pt_not (pt_val (pe_c (ok_is_within T) hr T.g_is_within (by rfl) (pa_cons (pv 1) (pa_cons (pe_int) (pa_cons (pe_gi (by rfl) T.v_MOST_POINTS) pa_nil))))))
        (pss_one ps_never)
        pss_nil)
      (pss_cons (ps_if (pt_not (pt_val (pe_c (ok_are_arrows T) hr T.g_are_arrows (by rfl) (pa_cons (pv 2) (pa_cons (pv 1) pa_nil)))))
        (pss_one ps_never)
        pss_nil)
      (pss_cons (ps_if (pt_not (pt_val (pe_c (ok_hangs T) hr T.g_hangs (by rfl) (pa_cons (pv 1) (pa_cons (pv 2) pa_nil)))))
        (pss_one ps_never)
        pss_nil)
      (pss_one (ps_expr (pe_mt (ok_Web_keep T) hr (pv 0) T.c_Web T.m_Web (pa_cons (pv 1) (pa_cons (pv 2) pa_nil)))))))), ?_⟩
    have few : zs.length ≤ 60 := by have := ok.few; rwa [List.length_map] at this
    have one : 1 ≤ zs.length := by have := ok.ne; rwa [List.length_map] at this
    have n1 := ok.n1
    have n4 := ok.n4
    refine ⟨_, rfl, (n : Int), 1, 12, rfl, ?_⟩
    have e1 : (decide ((1 : Int) ≤ (n : Int)) && decide ((n : Int) ≤ 12)) = true := by
      rw [decide_eq_true (by omega), decide_eq_true (by omega)]
      rfl
    rw [e1]
    refine ⟨true, rfl, iteF ?_⟩
    refine ⟨.ref A, rfl, _, rfl, A, zs, (n : Int), rfl, hA, one, few, fun z hz => ?_, fun i y z ey ez => ?_, fun H1 s1 => ⟨true, rfl, iteF ?_⟩⟩
    · have hm : z.2 ∈ zs.map (·.2) := List.mem_map.mpr ⟨z, hz, rfl⟩
      have h1 := ok.inn _ hm
      have h2 := ok.abc _ hm
      refine ⟨by omega, by omega, ?_⟩
      unfold Lt
      omega
    · exact ok.asc i y.2 z.2 (by rw [List.getElem?_map, ey]; rfl) (by rw [List.getElem?_map, ez]; rfl)
    refine ⟨_, rfl, _, rfl, A, zs, n, rfl, hA.same s1, ok, fun H2 s2 => ⟨true, rfl, iteF ?_⟩⟩
    have s3 := s1.trans s2
    refine ⟨.ref a, rfl, a, dx, [], rfl, s3 _ _ ha, rfl, _, rfl, _, rfl, a, n, A, dx, zs, rfl, s3 _ _ ha, hA.same s3, few, fun H' sb wa => q _ ((SB.of s3).trans sb) wa⟩
end
end L2.NJ
set_option Elab.async false
set_option linter.all false
set_option maxRecDepth 100000
set_option maxHeartbeats 8000000
namespace L2.NJ
open PySem PySem.Spec PyProof.Rows PySem.W
/-- from p the text leads to q -/
def Pth (ar : List Ar) : Nat → List Nat → Nat → Prop
  | p, [], q => p = q
  | p, c :: t, q => ∃ r, (p, c, r) ∈ ar ∧ Pth ar r t q
/-- what the program asks of a web -/
structure WebIn (n : Nat) (ar : List Ar) : Prop where
  n4 : n ≤ 4
  inn : ∀ a ∈ ar, a.1 < n ∧ a.2.2 < n
  few : ar.length ≤ 60
theorem WebOk.tin {n : Nat} {ar : List Ar} (h : WebOk n ar) : WebIn n ar := ⟨h.n4, h.inn, h.few⟩
def Stretch (n : Nat) (ar : List Ar) (t : List Nat) : Prop := ∃ p q, p < n ∧ Pth ar p t q
theorem mem_goals {ar : List Ar} {p c q : Nat} : q ∈ goals ar p c ↔ (p, c, q) ∈ ar := by
  unfold goals
  rw [List.mem_map]
  constructor
  · rintro ⟨⟨a, b, d⟩, h, rfl⟩
    rw [List.mem_filter] at h
    have h2 := h.2
    simp at h2
    rw [← h2.1, ← h2.2]
    exact h.1
  · intro h
    exact ⟨(p, c, q), List.mem_filter.mpr ⟨h, by simp⟩, rfl⟩
theorem goals_len {ar : List Ar} {p c : Nat} : (goals ar p c).length ≤ ar.length := by
  unfold goals
  rw [List.length_map]
  exact List.length_filter_le _ _
theorem nums_get {l : List Nat} {i : Nat} {x : V} (h : (nums l)[i]? = some x) : ∃ g, l[i]? = some g ∧ x = .int (g : Nat) := by
  unfold nums at h
  rw [List.getElem?_map, Option.map_eq_some_iff] at h
  obtain ⟨g, h1, h2⟩ := h
  exact ⟨g, h1, h2.symm⟩
theorem nums_len (l : List Nat) : (nums l).length = l.length := List.length_map ..
theorem take_all {α : Type} {l : List α} {i : Nat} {g : α} (h : l[i]? = some g) {S : α → Prop} (h1 : ∀ x ∈ l.take i, S x) (h2 : S g) : ∀ x ∈ l.take (i + 1), S x := fun x hx => by
  rw [List.take_add_one, h, List.mem_append] at hx
  rcases hx with hx | hx
  · exact h1 x hx
  · have : x = g := by simpa using hx
    rw [this]
    exact h2
section
variable {P : Program} {w : World} {K : PySem.W.Frag} {mg : Str → Option Value} {base : Heap}
def spAll (K : PySem.W.Frag) : Sp := fun vs H Q _ => ∃ a n ar, vs = [.ref a] ∧ WebAt K H a n ar ∧ n ≤ 4 ∧ ∀ H' A, Same H H' → H' A = some (.tup (nums (List.range n))) → Q (.ref A) H'
theorem sc_all_points : FnScope ["web"] ["web"] dd12.scope := ⟨rfl, rfl, rfl, by decide +kernel, rfl, by decide +kernel, by decide +kernel⟩
theorem ok_all_points (T : Fx K mg) : DOk P w K mg base 1 (He.ga K "all_points") ["web"] (spAll K) := by
  refine DOk.of (d := dd12) T 12 rfl rfl sc_all_points (fun _ _ _ _ _ _ us hl => match us, hl with | [_], _ => rfl) (fun vs H Q E h => ?_) (fun f cdv A outer s H vs Q E hr h => ?_)
  · obtain ⟨_, _, _, rfl, _⟩ := h
    rfl
  · have nd := sc_all_points.nd
    have hu := hu_of hr
    obtain ⟨a, n, ar, rfl, ⟨A, dx, L, S, kvs, h1, h2, h3⟩, n4, q⟩ := h
    refine ⟨_, (pss_one (ps_ret (pe_tupRg rfl (by rfl) T.f_tuple (prg_1 (by rfl) T.f_range (peFld K (pv 0)))))), ?_⟩
    refine ⟨_, rfl, a, _, dx, _, _, rfl, h1, T.c_Web, T.n_Web_points, rfl, _, rfl, RgOk.of_le (by omega) (by omega) (by omega) (by omega), fun b nb => q _ b (same_upd nb) ?_⟩
    rw [upd_same]
    have e : rgV 0 (n : Int) = nums (List.range n) := by
      unfold rgV nums
      have e0 : ((n : Int) - 0).toNat = n := by omega
      rw [e0]
      exact List.map_congr_left fun i _ => congrArg V.int (by omega)
    rw [e]
def spStepped (K : PySem.W.Frag) : Sp := fun vs H Q _ => ∃ a n ar A ps c, vs = [.ref a, .ref A, tx [c]] ∧ WebAt K H a n ar ∧ WebIn n ar ∧ H A = some (.tup (nums ps)) ∧ ps.length ≤ 1000 ∧
  ∀ H' B qs, Same H H' → H' B = some (.tup (nums qs)) → qs.length ≤ n → (∀ p ∈ ps, ∀ r, (p, c, r) ∈ ar → r ∈ qs) → Q (.ref B) H'
theorem sc_stepped : FnScope ["web", "points", "letter", "found", "point", "goal"] ["web", "points", "letter"] dd13.scope := ⟨rfl, rfl, rfl, by decide +kernel, rfl, by decide +kernel, by decide +kernel⟩
theorem ok_stepped (T : Fx K mg) : DOk P w K mg base 1 (He.ga K "stepped") ["web", "points", "letter"] (spStepped K) := by
  refine DOk.of (d := dd13) T 13 rfl rfl sc_stepped (fun _ _ _ _ _ _ us hl => match us, hl with | [_, _, _], _ => rfl) (fun vs H Q E h => ?_) (fun f cdv A outer s H vs Q E hr h => ?_)
  · obtain ⟨_, _, _, _, _, _, rfl, _⟩ := h
    rfl
  · have nd := sc_stepped.nd
    have hu := hu_of hr
    obtain ⟨a, n, ar, A, ps, c, rfl, wa, ok, hA, hl, q⟩ := h
    refine ⟨_, (pss_cons (ps_set (i := 3) nd rfl (Or.inl rfl) (pe_dnewK))
      (pss_cons (ps_for PassesOwn.never rfl (piT K (pv 1)) (pg_name (i := 4) nd rfl (Or.inl rfl))
        (pss_one (ps_for PassesOwn.never rfl (piT K (pe_dget2 hu (peFld K (pv 0)) (pe_tup (pa_cons (pv 4) (pa_cons (pv 2) pa_nil))) (pe_tup pa_nil) ⟨rfl, rfl, rfl, rfl⟩)) (pg_name (i := 5) nd rfl (Or.inl rfl))
          (pss_one (ps_dput hu (pv 3) (pv 5) (pe_bl) rfl)))))
      (pss_one (ps_ret (pe_callTy (ctupOf K) (by rfl) T.f_tuple (by decide +kernel) (pa_cons (pe_callB (call_sortedDI rfl) (by rfl) T.f_sorted (by decide +kernel) (pa_cons (pv 3) pa_nil)) pa_nil)))))), ?_⟩
    have n4 := ok.n4
    intro f nf
    have s0 : Same H (upd H f (.dK [])) := same_upd nf
    refine ⟨.ref A, rfl, A, rfl, ⟨_, SqT.of (s0 _ _ hA)⟩, ?_⟩
    refine for_tup (xs := nums ps) (fun i σ H2 => ∃ fs y4 y5, σ = [some (.ref a), some (.ref A), some (tx [c]), some (.ref f), y4, y5] ∧ Same H H2 ∧ H2 f = some (.dK (marks fs)) ∧ fs.Nodup ∧ (∀ x ∈ fs, x < n) ∧ ∀ p ∈ ps.take i, ∀ r, (p, c, r) ∈ ar → r ∈ fs)
      ⟨[], none, none, rfl, s0, upd_same, by simp, by simp, by simp⟩ (fun i σ H2 _ ⟨fs, y4, y5, _, s2, _⟩ => SqT.of (s2 _ _ hA)) (fun i x σ H2 ex ⟨fs, y4, y5, es, s2, hd, nod, bnd, cl⟩ => ?_) (fun σ H2 ⟨fs, y4, y5, es, s2, hd, nod, bnd, cl⟩ => ?_)
    · subst es
      obtain ⟨p, ep, rfl⟩ := nums_get ex
      obtain ⟨AA, dx, L, S, kvs, w1, w2, w3⟩ := wa
      refine ⟨.ref a, rfl, a, _, dx, _, _, rfl, s2 _ _ w1, T.c_Web, T.n_Web_kept_steps, rfl, S, rfl, .inr ⟨kvs, .inl (s2 _ _ w2)⟩, _, rfl, _, rfl, Nat.le_of_ble_eq_true rfl, fun t nt => ⟨Nat.zero_le _, fun l nl => ?_⟩⟩
      have s5 : Same H2 (upd H2 t (.tup [.int (p : Nat), tx [c]])) := same_upd nt
      have s6 : Same H2 (upd (upd H2 t (.tup [.int (p : Nat), tx [c]])) l (.tup [])) := s5.trans (same_upd nl)
      have ht6 : (upd (upd H2 t (.tup [.int (p : Nat), tx [c]])) l (.tup [])) t = some (.tup ((stKey p c).map kV)) := (same_upd nl) _ _ upd_same
      have hl6 : (upd (upd H2 t (.tup [.int (p : Nat), tx [c]])) l (.tup [])) l = some (.tup (nums [])) := upd_same
      generalize upd (upd H2 t (.tup [.int (p : Nat), tx [c]])) l (.tup []) = H6 at s6 ht6 hl6 ⊢
      refine ⟨_, DGet.t (s6 _ _ (s2 _ _ w2)) ht6, ?_⟩
      obtain ⟨g, eg, hg⟩ : ∃ g, (valV kvs (stKey p c)).getD (.ref l) = .ref g ∧ H6 g = some (.tup (nums (goals ar p c))) := by
        rcases w3 p c with ⟨e1, e2⟩ | ⟨t, e1, e2⟩
        · rw [e1, e2]
          exact ⟨l, rfl, hl6⟩
        · rw [e1]
          exact ⟨t, rfl, s6 _ _ (s2 _ _ e2)⟩
      rw [eg]
      refine ⟨g, rfl, ⟨_, SqT.of hg⟩, ?_⟩
      refine for_tup (xs := nums (goals ar p c)) (fun j σ H4 => ∃ fs y4 y5, σ = [some (.ref a), some (.ref A), some (tx [c]), some (.ref f), y4, y5] ∧ Same H H4 ∧ H4 g = some (.tup (nums (goals ar p c))) ∧ H4 f = some (.dK (marks fs)) ∧ fs.Nodup ∧ (∀ x ∈ fs, x < n) ∧ (∀ p ∈ ps.take i, ∀ r, (p, c, r) ∈ ar → r ∈ fs) ∧ ∀ x ∈ (goals ar p c).take j, x ∈ fs)
        ⟨fs, _, y5, rfl, s2.trans s6, hg, s6 _ _ hd, nod, bnd, cl, by simp⟩ (fun j σ H4 _ ⟨_, _, _, _, _, h, _⟩ => SqT.of h) (fun j x σ H4 ex ⟨fs, y4, y5, es, s4, hg4, hd4, nod4, bnd4, cl4, tk⟩ => ?_) (fun σ H4 ⟨fs, y4, y5, es, s4, hg4, hd4, nod4, bnd4, cl4, tk⟩ => ?_)
      · subst es
        obtain ⟨z, ez, rfl⟩ := nums_get ex
        have zm := mem_goals.mp (List.mem_of_getElem? ez)
        have zb : z < n := (ok.inn _ zm).2
        have lf := nodup_le nod4 bnd4
        refine ⟨.ref f, rfl, _, rfl, f, _, rfl, DPut.k (k := Sum.inl (z : Int)) hd4 (by rw [marks_len]; exact fits1 (by omega)), ?_⟩
        have gf : g ≠ f := ne_of hg4 hd4 fun z => nomatch z
        have s5 : ∀ o, Same H (upd H4 f o) := fun o b u e => by
          rw [upd_ne (ne_of_none e nf)]
          exact s4 _ _ e
        by_cases zf : z ∈ fs
        · rw [marks_old zf]
          refine ⟨fs, _, _, rfl, s5 _, ?_, upd_same, nod4, bnd4, cl4, take_all ez tk zf⟩
          rw [upd_ne gf]
          exact hg4
        · rw [marks_put zf]
          refine ⟨fs ++ [z], _, _, rfl, s5 _, ?_, upd_same, ?_, fun x hx => ?_, fun p hp r hr => List.mem_append_left _ (cl4 p hp r hr), take_all ez (fun x hx => List.mem_append_left _ (tk x hx)) (List.mem_append_right _ List.mem_cons_self)⟩
          · rw [upd_ne gf]
            exact hg4
          · rw [List.nodup_append]
            exact ⟨nod4, by simp, fun x hx y hy e => zf (by rw [List.mem_singleton.mp hy] at e; rw [← e]; exact hx)⟩
          · rcases List.mem_append.mp hx with hx | hx
            · exact bnd4 x hx
            · rw [List.mem_singleton.mp hx]
              exact zb
      · subst es
        rw [nums_len, List.take_length] at tk
        exact ⟨fs, _, _, rfl, s4, hd4, nod4, bnd4, take_all ep cl4 fun r hr => tk r (mem_goals.mpr hr)⟩
    · subst es
      rw [nums_len, List.take_length] at cl
      have lf := nodup_le nod bnd
      refine ⟨.ref f, rfl, f, marks fs, fs.map fun (x : Nat) => (x : Int), rfl, .inl hd, ?_, by rw [List.length_map]; omega, fun ys b perm _ nb => ?_⟩
      · unfold marks
        rw [List.map_map, List.map_map]
        rfl
      have hpos : ∀ y ∈ ys, ∃ x ∈ fs, (x : Int) = y := fun y hy => List.mem_map.mp (perm.mem_iff.mp hy)
      have ey : ys.map V.int = nums (ys.map Int.toNat) := by
        unfold nums
        rw [List.map_map]
        refine List.map_congr_left fun y hy => ?_
        obtain ⟨x, _, rfl⟩ := hpos y hy
        rfl
      have s3 := same_upd (o := .lst (ys.map V.int)) nb
      refine ⟨b, _, rfl, .inl ⟨SqL.of upd_same, fun t nt => ?_⟩⟩
      refine q _ t (ys.map Int.toNat) (s2.trans (s3.trans (same_upd nt))) (by rw [upd_same, ey]) ?_ fun p hp r hr => List.mem_map.mpr ⟨(r : Int), perm.mem_iff.mpr (List.mem_map.mpr ⟨r, cl p hp r hr, rfl⟩), by simp⟩
      rw [List.length_map, perm.length_eq, List.length_map]
      exact lf
def spEndsFrom (K : PySem.W.Frag) : Sp := fun vs H Q _ => ∃ a n ar A ps t p q, vs = [.ref a, .ref A, tx t] ∧ WebAt K H a n ar ∧ WebIn n ar ∧ H A = some (.tup (nums ps)) ∧ ps.length ≤ 1000 ∧ p ∈ ps ∧ Pth ar p t q ∧
  ∀ H' B qs, Same H H' → H' B = some (.tup (nums qs)) → qs.length ≤ 1000 → q ∈ qs → Q (.ref B) H'
theorem sc_ends_from : FnScope ["web", "points", "text", "letter"] ["web", "points", "text"] dd14.scope := ⟨rfl, rfl, rfl, by decide +kernel, rfl, by decide +kernel, by decide +kernel⟩
theorem ok_ends_from (T : Fx K mg) : DOk P w K mg base 2 (He.ga K "ends_from") ["web", "points", "text"] (spEndsFrom K) := by
  refine DOk.of (d := dd14) T 14 rfl rfl sc_ends_from (fun _ _ _ _ _ _ us hl => match us, hl with | [_, _, _], _ => rfl) (fun vs H Q E h => ?_) (fun f cdv A outer s H vs Q E hr h => ?_)
  · obtain ⟨_, _, _, _, _, _, _, _, rfl, _⟩ := h
    rfl
  · have nd := sc_ends_from.nd
    have hu := hu_of hr
    obtain ⟨a, n, ar, A, ps, t, p, q0, rfl, wa, ok, hA, hl, hp, pth, q⟩ := h
    refine ⟨_, (pss_cons (ps_for PassesOwn.never rfl (pi_str (pv 2)) (pg_name (i := 3) nd rfl (Or.inl rfl))
        (pss_cons (ps_if (pt_cmpR op_eq (pe_callB (clenS K) (by rfl) T.f_len (by decide +kernel) (pa_cons (pv 1) pa_nil)) (pe_int) (nomark _))
          (pss_one ps_break)
          pss_nil)
        (pss_one (ps_set (i := 1) nd rfl (Or.inl rfl) (pe_c (ok_stepped T) hr T.g_stepped (by rfl) (pa_cons (pv 0) (pa_cons (pv 1) (pa_cons (pv 3) pa_nil))))))))
      (pss_one (ps_ret (pv 1)))), ?_⟩
    have n4 := ok.n4
    refine ⟨_, rfl, sx t, rfl, ?_⟩
    refine for_it walk_tx (fun i σ H2 => ∃ B qs r y3, σ = [some (.ref a), some (.ref B), some (tx t), y3] ∧ Same H H2 ∧ H2 B = some (.tup (nums qs)) ∧ qs.length ≤ 1000 ∧ r ∈ qs ∧ Pth ar r (t.drop i) q0)
      ⟨A, ps, p, none, rfl, Same.refl _, hA, hl, hp, pth⟩ (fun _ _ _ _ _ => trivial) (fun i x σ H2 H2' hi ⟨B, qs, r, y3, es, s2, hB, lq, hr, pr⟩ y => ?_) (fun σ H2 ⟨B, qs, r, y3, es, s2, hB, lq, hr, pr⟩ => ?_)
    · subst es
      obtain ⟨rfl, c, hc, rfl⟩ := y
      have ed : t.drop i = c :: t.drop (i + 1) := by
        rw [List.drop_eq_getElem_cons hi]
        rw [List.getElem?_eq_getElem hi] at hc
        rw [Option.some.inj hc]
      rw [ed] at pr
      obtain ⟨r', hr', pr'⟩ := pr
      have lp : 0 < qs.length := List.length_pos_of_mem hr
      refine ⟨.ref B, rfl, B, nums qs, rfl, .inr (SqT.of hB), rfl, false, bl_f (fun z => by have := V.int.inj z; rw [nums_len] at this; omega), iteF ?_⟩
      refine ⟨.ref a, rfl, .ref B, rfl, _, rfl, a, n, ar, B, qs, c, rfl, wa.same s2, ok, hB, lq, fun H3 B3 qs3 s3 h3 l3 cl3 => ?_⟩
      exact ⟨B3, qs3, r', _, rfl, s2.trans s3, h3, by omega, cl3 r hr r' hr', pr'⟩
    · subst es
      rw [List.drop_length] at pr
      obtain rfl : r = q0 := pr
      exact ⟨.ref B, rfl, q _ B qs s2 hB lq hr⟩
def spEndsOf (K : PySem.W.Frag) : Sp := fun vs H Q _ => ∃ a n ar t, vs = [.ref a, tx t] ∧ WebAt K H a n ar ∧ WebIn n ar ∧ Stretch n ar t ∧
  ∀ H' B qs, Same H H' → H' B = some (.tup (nums qs)) → qs.length ≤ 1000 → 0 < qs.length → Q (.ref B) H'
theorem sc_ends_of : FnScope ["web", "text"] ["web", "text"] dd15.scope := ⟨rfl, rfl, rfl, by decide +kernel, rfl, by decide +kernel, by decide +kernel⟩
theorem ok_ends_of (T : Fx K mg) : DOk P w K mg base 3 (He.ga K "ends_of") ["web", "text"] (spEndsOf K) := by
  refine DOk.of (d := dd15) T 15 rfl rfl sc_ends_of (fun _ _ _ _ _ _ us hl => match us, hl with | [_, _], _ => rfl) (fun vs H Q E h => ?_) (fun f cdv A outer s H vs Q E hr h => ?_)
  · obtain ⟨_, _, _, _, rfl, _⟩ := h
    rfl
  · have nd := sc_ends_of.nd
    have hu := hu_of hr
    obtain ⟨a, n, ar, t, rfl, wa, ok, ⟨p, q0, hp, pth⟩, q⟩ := h
    refine ⟨_, (pss_one (ps_ret (pe_c (ok_ends_from T) hr T.g_ends_from (by rfl) (pa_cons (pv 0) (pa_cons (pe_c (ok_all_points T) hr T.g_all_points (by rfl) (pa_cons (pv 0) pa_nil)) (pa_cons (pv 1) pa_nil)))))), ?_⟩
    have n4 := ok.n4
    refine ⟨.ref a, rfl, .ref a, rfl, a, n, ar, rfl, wa, n4, fun H1 A s1 hA => ?_⟩
    refine ⟨_, rfl, a, n, ar, A, List.range n, t, p, q0, rfl, wa.same s1, ok, hA, by rw [List.length_range]; omega, List.mem_range.mpr hp, pth, fun H2 B qs s2 hB lq hq => ?_⟩
    exact q _ B qs (s1.trans s2) hB lq (List.length_pos_of_mem hq)
def spThere (K : PySem.W.Frag) : Sp := fun vs H Q _ => ∃ a n ar t, vs = [.ref a, tx t] ∧ WebAt K H a n ar ∧ WebIn n ar ∧ Stretch n ar t ∧ ∀ H', Same H H' → Q (.bl true) H'
theorem sc_stretch_there : FnScope ["web", "text"] ["web", "text"] dd16.scope := ⟨rfl, rfl, rfl, by decide +kernel, rfl, by decide +kernel, by decide +kernel⟩
theorem ok_stretch_there (T : Fx K mg) : DOk P w K mg base 4 (He.ga K "stretch_there") ["web", "text"] (spThere K) := by
  refine DOk.of (d := dd16) T 16 rfl rfl sc_stretch_there (fun _ _ _ _ _ _ us hl => match us, hl with | [_, _], _ => rfl) (fun vs H Q E h => ?_) (fun f cdv A outer s H vs Q E hr h => ?_)
  · obtain ⟨_, _, _, _, rfl, _⟩ := h
    rfl
  · have nd := sc_stretch_there.nd
    have hu := hu_of hr
    obtain ⟨a, n, ar, t, rfl, wa, ok, st, q⟩ := h
    refine ⟨_, (pss_one (ps_ret (pe_cmpR op_gt (pe_callB (clenS K) (by rfl) T.f_len (by decide +kernel) (pa_cons (pe_c (ok_ends_of T) hr T.g_ends_of (by rfl) (pa_cons (pv 0) (pa_cons (pv 1) pa_nil))) pa_nil)) (pe_int) (nomark _)))), ?_⟩
    refine ⟨.ref a, rfl, _, rfl, a, n, ar, t, rfl, wa, ok, st, fun H1 B qs s1 hB lq pos => ?_⟩
    refine ⟨B, nums qs, rfl, .inr (SqT.of hB), _, _, rfl, rfl, q_bl (Q := Q) (by rw [nums_len]; omega) (q _ s1)⟩
def spIsStr (K : PySem.W.Frag) : Sp := fun vs H Q _ => ∃ a n ar t, vs = [.ref a, tx t] ∧ WebAt K H a n ar ∧ WebIn n ar ∧ Stretch n ar t ∧ t.length ≤ 1000 ∧ (∀ c ∈ t, Lt c) ∧ ∀ H', Same H H' → Q (.bl true) H'
theorem sc_is_stretch : FnScope ["web", "thing"] ["web", "thing"] dd17.scope := ⟨rfl, rfl, rfl, by decide +kernel, rfl, by decide +kernel, by decide +kernel⟩
theorem ok_is_stretch (T : Fx K mg) : DOk P w K mg base 5 (He.ga K "is_stretch") ["web", "thing"] (spIsStr K) := by
  refine DOk.of (d := dd17) T 17 rfl rfl sc_is_stretch (fun _ _ _ _ _ _ us hl => match us, hl with | [_, _], _ => rfl) (fun vs H Q E h => ?_) (fun f cdv A outer s H vs Q E hr h => ?_)
  · obtain ⟨_, _, _, _, rfl, _⟩ := h
    rfl
  · have nd := sc_is_stretch.nd
    have hu := hu_of hr
    obtain ⟨a, n, ar, t, rfl, wa, ok, st, l, ab, q⟩ := h
    refine ⟨_, (pss_one (ps_ret (pe_and (pe_c (ok_is_text T) hr T.g_is_text (by rfl) (pa_cons (pv 1) pa_nil)) (pe_one (pe_c (ok_stretch_there T) hr T.g_stretch_there (by rfl) (pa_cons (pv 0) (pa_cons (pv 1) pa_nil))))))), ?_⟩
    refine ⟨_, rfl, t, rfl, l, ab, fun H1 s1 => ⟨true, rfl, iteT ?_⟩⟩
    exact ⟨.ref a, rfl, _, rfl, a, n, ar, t, rfl, wa.same s1, ok, st, fun H2 s2 => q _ (s1.trans s2)⟩
def spChk (K : PySem.W.Frag) : Sp := fun vs H Q _ => ∃ a n ar t, vs = [.ref a, tx t] ∧ WebAt K H a n ar ∧ WebIn n ar ∧ Stretch n ar t ∧ t.length ≤ 1000 ∧ (∀ c ∈ t, Lt c) ∧ ∀ H', Same H H' → Q .non H'
theorem sc_check_stretch : FnScope ["web", "thing"] ["web", "thing"] dd18.scope := ⟨rfl, rfl, rfl, by decide +kernel, rfl, by decide +kernel, by decide +kernel⟩
theorem ok_check_stretch (T : Fx K mg) : DOk P w K mg base 6 (He.ga K "check_stretch") ["web", "thing"] (spChk K) := by
  refine DOk.of (d := dd18) T 18 rfl rfl sc_check_stretch (fun _ _ _ _ _ _ us hl => match us, hl with | [_, _], _ => rfl) (fun vs H Q E h => ?_) (fun f cdv A outer s H vs Q E hr h => ?_)
  · obtain ⟨_, _, _, _, rfl, _⟩ := h
    rfl
  · have nd := sc_check_stretch.nd
    have hu := hu_of hr
    obtain ⟨a, n, ar, t, rfl, wa, ok, st, l, ab, q⟩ := h
    refine ⟨_, (pss_one (ps_if (pt_not (pt_val (pe_c (ok_is_stretch T) hr T.g_is_stretch (by rfl) (pa_cons (pv 0) (pa_cons (pv 1) pa_nil)))))
        (pss_one ps_never)
        pss_nil)), ?_⟩
    exact ⟨.ref a, rfl, _, rfl, a, n, ar, t, rfl, wa, ok, st, l, ab, fun H2 s2 => ⟨true, rfl, iteF (q _ s2)⟩⟩
end
end L2.NJ
set_option Elab.async false
set_option linter.all false
set_option maxRecDepth 100000
set_option maxHeartbeats 4000000
namespace L2.NJ
open PySem PySem.Spec PyProof.Rows PySem.W
/-! ### parts of texts -/
theorem cut_lh (t : List Nat) {a b : Nat} (ha : a ≤ t.length) (hb : b ≤ t.length) : cutS (sx t) (some (a : Int)) (some (b : Int)) = sx ((t.drop a).take (b - a)) := by
  unfold cutS
  rw [HT.sIx_nat, HT.sIx_nat, sx_len, Nat.min_eq_left ha, Nat.min_eq_left hb]
  rfl
theorem cut_h (t : List Nat) {b : Nat} (hb : b ≤ t.length) : cutS (sx t) none (some (b : Int)) = sx (t.take b) := by
  unfold cutS
  rw [HT.sIx_none, HT.sIx_nat, sx_len, Nat.min_eq_left hb]
  rfl
theorem cut_l (t : List Nat) {a : Nat} (ha : a ≤ t.length) : cutS (sx t) (some (a : Int)) none = sx (t.drop a) := by
  unfold cutS
  rw [HT.sIx_none, HT.sIx_nat, sx_len, Nat.min_eq_left ha]
  show sx ((t.drop a).take (t.length - a)) = _
  rw [List.take_of_length_le (by rw [List.length_drop]; exact Nat.le_refl _)]
theorem cut_neg (t : List Nat) (ht : 1 ≤ t.length) : cutS (sx t) none (some (-1)) = sx t.dropLast := by
  unfold cutS
  have e : HT.sIx (sx t).length (sx t).length (some (-1)) = t.length - 1 := by
    show (if (-1 : Int) < 0 then ((-1 : Int) + ((sx t).length : Int)).toNat else min (-1 : Int).toNat (sx t).length) = _
    rw [if_pos (by decide), sx_len]
    omega
  rw [e, HT.sIx_none]
  show sx (t.take (t.length - 1)) = _
  rw [List.dropLast_eq_take]
theorem cut_mid (t : List Nat) (ht : 2 ≤ t.length) : cutS (sx t) (some 1) (some (-1)) = sx (t.drop 1).dropLast := by
  unfold cutS
  have e : HT.sIx (sx t).length (sx t).length (some (-1)) = t.length - 1 := by
    show (if (-1 : Int) < 0 then ((-1 : Int) + ((sx t).length : Int)).toNat else min (-1 : Int).toNat (sx t).length) = _
    rw [if_pos (by decide), sx_len]
    omega
  have e1 : HT.sIx (sx t).length 0 (some 1) = 1 := by
    have := HT.sIx_nat (sx t).length 0 1
    rw [sx_len, Nat.min_eq_left (by omega)] at this
    rw [sx_len]
    exact this
  rw [e, e1]
  show sx ((t.drop 1).take (t.length - 1 - 1)) = _
  rw [List.dropLast_eq_take, List.length_drop]
theorem sx_app (a b : List Nat) : sx a ++ sx b = sx (a ++ b) := by
  show (⟨a.toArray ++ b.toArray⟩ : Str) = ⟨(a ++ b).toArray⟩
  simp
theorem tx_sx (t : List Nat) : tx t = .str (sx t) := rfl
/-! ### words -/
structure Words (n : Nat) (ar : List Ar) (W : List (List Nat)) : Prop where
  few : W.length ≤ 400
  one : ∀ w ∈ W, 1 ≤ w.length
  len : ∀ w ∈ W, w.length ≤ 60
  abc : ∀ w ∈ W, ∀ c ∈ w, Lt c
  asc : ∀ i y z, W[i]? = some y → W[i + 1]? = some z → dataLt (.str (sx y)) (.str (sx z)) = true
  nod : W.Nodup
  str : ∀ w ∈ W, Stretch n ar w
  pre : ∀ u ∈ W, ∀ v ∈ W, u <+: v → u = v
  suf : ∀ u ∈ W, ∀ v ∈ W, u <:+ v → u = v
def kS (t : List Nat) : Key := Sum.inr (sx t)
theorem kS_inj {a b : List Nat} (h : kS a = kS b) : a = b := sx_inj (Sum.inr.inj h)
theorem kV_kS (t : List Nat) : kV (kS t) = tx t := rfl
def Begs (kvs : List (Key × V)) (W : List (List Nat)) : Prop := ∀ w ∈ W, ∀ s, 1 ≤ s → s < w.length → valV kvs (kS (w.take s)) ≠ none
def Fins (kvs : List (Key × V)) (W : List (List Nat)) : Prop := ∀ w ∈ W, ∀ s, 1 ≤ s → s < w.length → valV kvs (kS (w.drop s)) ≠ none
def Mems (kvs : List (Key × V)) (W : List (List Nat)) : Prop := ∀ t, valV kvs (kS t) ≠ none ↔ t ∈ W
theorem put_stays {kvs : List (Key × V)} {k j : Key} {v : V} (h : valV kvs j ≠ none) : valV (putK kvs k v) j ≠ none := by
  rw [valV_put]
  split
  · exact fun z => nomatch z
  · exact h
theorem put_there {kvs : List (Key × V)} {k : Key} {v : V} : valV (putK kvs k v) k ≠ none := by
  rw [valV_put, if_pos rfl]
  exact fun z => nomatch z
def txs (W : List (List Nat)) : List V := W.map tx
theorem txs_len (W : List (List Nat)) : (txs W).length = W.length := List.length_map ..
theorem txs_get {W : List (List Nat)} {i : Nat} {x : V} (h : (txs W)[i]? = some x) : ∃ t, W[i]? = some t ∧ x = tx t := by
  unfold txs at h
  rw [List.getElem?_map, Option.map_eq_some_iff] at h
  obtain ⟨g, h1, h2⟩ := h
  exact ⟨g, h1, h2.symm⟩
structure BookIn (K : PySem.W.Frag) (H : Hp) (b wb : Addr) (W : List (List Nat)) : Prop where
  ex : ∃ (A dx d1 d2 d3 : Addr) (k1 k2 k3 : List (Key × V)) (L : Nat), H b = some (.ins (He.ga K "Book") dx [("web", .ref wb), ("words", .ref A), ("kept_words", .ref d1), ("kept_begins", .ref d2), ("kept_ends", .ref d3), ("kept_longest", .int (L : Nat)), ("kept_ways", .int (-1))]) ∧
    H d1 = some (.dK k1) ∧ H d2 = some (.dK k2) ∧ H d3 = some (.dK k3) ∧ Mems k1 W ∧ Begs k2 W ∧ Fins k3 W ∧ ∀ w ∈ W, w.length ≤ L
theorem BookIn.same {K : PySem.W.Frag} {H H' : Hp} {b wb : Addr} {W : List (List Nat)} (e : Same H H') (h : BookIn K H b wb W) : BookIn K H' b wb W := by
  obtain ⟨A, dx, d1, d2, d3, k1, k2, k3, L, h0, h1, h2, h3, r⟩ := h.ex
  exact ⟨A, dx, d1, d2, d3, k1, k2, k3, L, e _ _ h0, e _ _ h1, e _ _ h2, e _ _ h3, r⟩
theorem some_len {kvs : List (Key × V)} {n : Nat} (h : kvs.length ≤ n) (hn : n ≤ 100000) : kvs.length < sizeLine := fits1 (Nat.le_trans h hn)
end L2.NJ
set_option Elab.async false
set_option linter.all false
set_option maxRecDepth 100000
set_option maxHeartbeats 8000000
namespace L2.NJ
open PySem PySem.Spec PyProof.Rows PySem.W
section
variable {P : Program} {w : World} {K : PySem.W.Frag} {mg : Str → Option Value} {base : Heap}
def spBegin : Sp := fun vs H Q _ => ∃ A W, vs = [.ref A] ∧ H A = some (.tup (txs W)) ∧ W.length ≤ 400 ∧ (∀ w ∈ W, w.length ≤ 60) ∧ ∀ H' d kvs, Same H H' → H' d = some (.dK kvs) → Begs kvs W → Q (.ref d) H'
theorem sc_beginnings : FnScope ["texts", "found", "text", "size"] ["texts"] dd28.scope := ⟨rfl, rfl, rfl, by decide +kernel, rfl, by decide +kernel, by decide +kernel⟩
theorem ok_beginnings (T : Fx K mg) : DOk P w K mg base 1 (He.ga K "beginnings") ["texts"] spBegin := by
  refine DOk.of (d := dd28) T 28 rfl rfl sc_beginnings (fun _ _ _ _ _ _ us hl => match us, hl with | [_], _ => rfl) (fun vs H Q E h => ?_) (fun f cdv A outer s H vs Q E hr h => ?_)
  · obtain ⟨_, _, rfl, _⟩ := h
    rfl
  · have nd := sc_beginnings.nd
    have hu := hu_of hr
    obtain ⟨A, W, rfl, hA, lW, lw, q⟩ := h
    refine ⟨_, (pss_cons (ps_set (i := 1) nd rfl (Or.inl rfl) (pe_disp (pps_cons (pe_str) (pe_bl) pps_nil) (by rfl) (by rfl) (fun z => by cases z) (by decide)))
      (pss_cons (ps_for PassesOwn.never rfl (piT K (pv 0)) (pg_name (i := 2) nd rfl (Or.inl rfl))
        (pss_one (ps_for PassesOwn.never rfl (pi_range2 (by rfl) T.f_range (pa_cons (pe_int) (pa_cons (pe_callB call_len_str (by rfl) T.f_len (by decide +kernel) (pa_cons (pv 2) pa_nil)) pa_nil))) (pg_name (i := 3) nd rfl (Or.inl rfl))
          (pss_one (ps_dput hu (pv 1) (pe_slice sl_str (pv 2) po_none (po_some (pv 3))) (pe_bl) rfl)))))
      (pss_one (ps_ret (pv 1))))), ?_⟩
    intro d nd0
    refine ⟨upd_same, [(Sum.inr _, .bl true)], rfl, (by decide), ?_⟩
    rw [upd_upd]
    have s0 : ∀ o, Same H (upd H d o) := fun o => same_upd nd0
    refine ⟨.ref A, rfl, A, rfl, ⟨_, SqT.of ((s0 _) _ _ hA)⟩, ?_⟩
    refine for_tup (xs := txs W) (fun i σ H2 => ∃ kvs y2 y3, σ = [some (.ref A), some (.ref d), y2, y3] ∧ Same H H2 ∧ H2 d = some (.dK kvs) ∧ kvs.length ≤ 1 + 60 * i ∧ ∀ w ∈ W.take i, ∀ s, 1 ≤ s → s < w.length → valV kvs (kS (w.take s)) ≠ none)
      ⟨_, none, none, rfl, s0 _, upd_same, Nat.le_refl _, by simp⟩ (fun i σ H2 _ ⟨_, _, _, _, s2, _⟩ => SqT.of (s2 _ _ hA)) (fun i x σ H2 ex ⟨kvs, y2, y3, es, s2, hd, lk, cl⟩ => ?_) (fun σ H2 ⟨kvs, y2, y3, es, s2, hd, lk, cl⟩ => ?_)
    · subst es
      obtain ⟨t, et, rfl⟩ := txs_get ex
      have hil : i < W.length := (List.getElem?_eq_some_iff.mp et).1
      have lt := lw t (List.mem_of_getElem? et)
      refine ⟨_, rfl, sx t, rfl, sx_fits (by omega), _, _, rfl, ⟨by decide, by decide, by rw [sx_len]; omega, by rw [sx_len]; omega⟩, ?_⟩
      have el : (((sx t).length : Int) - 1).toNat = t.length - 1 := by rw [sx_len]; omega
      rw [el]
      refine for_range (fun j σ H3 => ∃ kvs y3, σ = [some (.ref A), some (.ref d), some (tx t), y3] ∧ Same H H3 ∧ H3 d = some (.dK kvs) ∧ kvs.length ≤ 1 + 60 * i + j ∧ (∀ w ∈ W.take i, ∀ s, 1 ≤ s → s < w.length → valV kvs (kS (w.take s)) ≠ none) ∧ ∀ s, 1 ≤ s → s < 1 + j → valV kvs (kS (t.take s)) ≠ none)
        ⟨kvs, y3, rfl, s2, hd, lk, cl, fun s a b => by omega⟩ (fun j σ H3 hj ⟨kvs, y3, es, s3, hd, lk, cl, me⟩ => ?_) (fun σ H3 ⟨kvs, y3, es, s3, hd, lk, cl, me⟩ => ?_)
      · subst es
        have ej : (1 : Int) + (j : Int) = ((1 + j : Nat) : Int) := by omega
        refine ⟨.ref d, rfl, _, rfl, _, rfl, _, rfl, sx t, rfl, sx_fits (by omega), ?_⟩
        rw [ej, cut_h t (by omega)]
        refine ⟨d, _, rfl, DPut.k (k := kS (t.take (1 + j))) hd (some_len lk (by omega)), putK kvs (kS (t.take (1 + j))) (.bl true), _, rfl, fun b o e => ?_, upd_same, ?_, fun w hw s a b => put_stays (cl w hw s a b), fun s a b => ?_⟩
        · rw [upd_ne (ne_of_none e nd0)]
          exact s3 _ _ e
        · have := length_putK kvs (kS (t.take (1 + j))) (.bl true)
          omega
        · by_cases e : s = 1 + j
          · rw [e]
            exact put_there
          · exact put_stays (me s a (by omega))
      · subst es
        refine ⟨kvs, _, _, rfl, s3, hd, by omega, fun w hw => ?_⟩
        refine take_all et (S := fun w => ∀ s, 1 ≤ s → s < w.length → valV kvs (kS (w.take s)) ≠ none) cl (fun s a b => me s a (by omega)) w hw
    · subst es
      rw [txs_len, List.take_length] at cl
      exact ⟨.ref d, rfl, q _ d kvs s2 hd cl⟩
def spEnding : Sp := fun vs H Q _ => ∃ A W, vs = [.ref A] ∧ H A = some (.tup (txs W)) ∧ W.length ≤ 400 ∧ (∀ w ∈ W, w.length ≤ 60) ∧ ∀ H' d kvs, Same H H' → H' d = some (.dK kvs) → Fins kvs W → Q (.ref d) H'
theorem sc_endings : FnScope ["texts", "found", "text", "size"] ["texts"] dd29.scope := ⟨rfl, rfl, rfl, by decide +kernel, rfl, by decide +kernel, by decide +kernel⟩
theorem ok_endings (T : Fx K mg) : DOk P w K mg base 1 (He.ga K "endings") ["texts"] spEnding := by
  refine DOk.of (d := dd29) T 29 rfl rfl sc_endings (fun _ _ _ _ _ _ us hl => match us, hl with | [_], _ => rfl) (fun vs H Q E h => ?_) (fun f cdv A outer s H vs Q E hr h => ?_)
  · obtain ⟨_, _, rfl, _⟩ := h
    rfl
  · have nd := sc_endings.nd
    have hu := hu_of hr
    obtain ⟨A, W, rfl, hA, lW, lw, q⟩ := h
    refine ⟨_, (pss_cons (ps_set (i := 1) nd rfl (Or.inl rfl) (pe_disp (pps_cons (pe_str) (pe_bl) pps_nil) (by rfl) (by rfl) (fun z => by cases z) (by decide)))
      (pss_cons (ps_for PassesOwn.never rfl (piT K (pv 0)) (pg_name (i := 2) nd rfl (Or.inl rfl))
        (pss_one (ps_for PassesOwn.never rfl (pi_range2 (by rfl) T.f_range (pa_cons (pe_int) (pa_cons (pe_callB call_len_str (by rfl) T.f_len (by decide +kernel) (pa_cons (pv 2) pa_nil)) pa_nil))) (pg_name (i := 3) nd rfl (Or.inl rfl))
          (pss_one (ps_dput hu (pv 1) (pe_slice sl_str (pv 2) (po_some (pv 3)) po_none) (pe_bl) rfl)))))
      (pss_one (ps_ret (pv 1))))), ?_⟩
    intro d nd0
    refine ⟨upd_same, [(Sum.inr _, .bl true)], rfl, (by decide), ?_⟩
    rw [upd_upd]
    have s0 : ∀ o, Same H (upd H d o) := fun o => same_upd nd0
    refine ⟨.ref A, rfl, A, rfl, ⟨_, SqT.of ((s0 _) _ _ hA)⟩, ?_⟩
    refine for_tup (xs := txs W) (fun i σ H2 => ∃ kvs y2 y3, σ = [some (.ref A), some (.ref d), y2, y3] ∧ Same H H2 ∧ H2 d = some (.dK kvs) ∧ kvs.length ≤ 1 + 60 * i ∧ ∀ w ∈ W.take i, ∀ s, 1 ≤ s → s < w.length → valV kvs (kS (w.drop s)) ≠ none)
      ⟨_, none, none, rfl, s0 _, upd_same, Nat.le_refl _, by simp⟩ (fun i σ H2 _ ⟨_, _, _, _, s2, _⟩ => SqT.of (s2 _ _ hA)) (fun i x σ H2 ex ⟨kvs, y2, y3, es, s2, hd, lk, cl⟩ => ?_) (fun σ H2 ⟨kvs, y2, y3, es, s2, hd, lk, cl⟩ => ?_)
    · subst es
      obtain ⟨t, et, rfl⟩ := txs_get ex
      have hil : i < W.length := (List.getElem?_eq_some_iff.mp et).1
      have lt := lw t (List.mem_of_getElem? et)
      refine ⟨_, rfl, sx t, rfl, sx_fits (by omega), _, _, rfl, ⟨by decide, by decide, by rw [sx_len]; omega, by rw [sx_len]; omega⟩, ?_⟩
      have el : (((sx t).length : Int) - 1).toNat = t.length - 1 := by rw [sx_len]; omega
      rw [el]
      refine for_range (fun j σ H3 => ∃ kvs y3, σ = [some (.ref A), some (.ref d), some (tx t), y3] ∧ Same H H3 ∧ H3 d = some (.dK kvs) ∧ kvs.length ≤ 1 + 60 * i + j ∧ (∀ w ∈ W.take i, ∀ s, 1 ≤ s → s < w.length → valV kvs (kS (w.drop s)) ≠ none) ∧ ∀ s, 1 ≤ s → s < 1 + j → valV kvs (kS (t.drop s)) ≠ none)
        ⟨kvs, y3, rfl, s2, hd, lk, cl, fun s a b => by omega⟩ (fun j σ H3 hj ⟨kvs, y3, es, s3, hd, lk, cl, me⟩ => ?_) (fun σ H3 ⟨kvs, y3, es, s3, hd, lk, cl, me⟩ => ?_)
      · subst es
        have ej : (1 : Int) + (j : Int) = ((1 + j : Nat) : Int) := by omega
        refine ⟨.ref d, rfl, _, rfl, _, rfl, _, rfl, sx t, rfl, sx_fits (by omega), ?_⟩
        rw [ej, cut_l t (by omega)]
        refine ⟨d, _, rfl, DPut.k (k := kS (t.drop (1 + j))) hd (some_len lk (by omega)), putK kvs (kS (t.drop (1 + j))) (.bl true), _, rfl, fun b o e => ?_, upd_same, ?_, fun w hw s a b => put_stays (cl w hw s a b), fun s a b => ?_⟩
        · rw [upd_ne (ne_of_none e nd0)]
          exact s3 _ _ e
        · have := length_putK kvs (kS (t.drop (1 + j))) (.bl true)
          omega
        · by_cases e : s = 1 + j
          · rw [e]
            exact put_there
          · exact put_stays (me s a (by omega))
      · subst es
        refine ⟨kvs, _, _, rfl, s3, hd, by omega, fun w hw => ?_⟩
        refine take_all et (S := fun w => ∀ s, 1 ≤ s → s < w.length → valV kvs (kS (w.drop s)) ≠ none) cl (fun s a b => me s a (by omega)) w hw
    · subst es
      rw [txs_len, List.take_length] at cl
      exact ⟨.ref d, rfl, q _ d kvs s2 hd cl⟩
def spClash : Sp := fun vs H Q _ => ∃ A W n ar, vs = [.ref A] ∧ H A = some (.tup (txs W)) ∧ Words n ar W ∧ ∀ H', Same H H' → Q .non H'
theorem sc_clash_of : FnScope ["texts", "known", "text", "found", "size", "part"] ["texts"] dd30.scope := ⟨rfl, rfl, rfl, by decide +kernel, rfl, by decide +kernel, by decide +kernel⟩
theorem ok_clash_of (T : Fx K mg) : DOk P w K mg base 1 (He.ga K "clash_of") ["texts"] spClash := by
  refine DOk.of (d := dd30) T 30 rfl rfl sc_clash_of (fun _ _ _ _ _ _ us hl => match us, hl with | [_], _ => rfl) (fun vs H Q E h => ?_) (fun f cdv A outer s H vs Q E hr h => ?_)
  · obtain ⟨_, _, _, _, rfl, _⟩ := h
    rfl
  · have nd := sc_clash_of.nd
    have hu := hu_of hr
    obtain ⟨A, W, n, ar, rfl, hA, ok, q⟩ := h
    refine ⟨_, (pss_cons (ps_set (i := 1) nd rfl (Or.inr rfl) (pe_dc (own := [("text", 2)]) rfl nd (piT K (pv 0)) (blkOk_by (N := ["texts", "known", "text", "found", "size", "part"]) (sc := dd30.scope) (by decide +kernel)) (fun _ _ _ _ _ => (pg_name (i := 2) nd rfl (Or.inl rfl))) (fun _ _ _ _ _ => pts_nil) (fun _ _ _ _ _ => (pv 2)) (fun _ _ _ _ _ => (pe_bl))))
      (pss_cons (ps_set (i := 3) nd rfl (Or.inl rfl) (pe_lst pa_nil))
      (pss_cons (ps_lock (ps_for PassesOwn.never rfl (pi_keys (pv 1)) (pg_name (i := 2) nd rfl (Or.inr rfl))
        (pss_one (ps_for PassesOwn.never rfl (pi_range2 (by rfl) T.f_range (pa_cons (pe_int) (pa_cons (pe_callB call_len_str (by rfl) T.f_len (by decide +kernel) (pa_cons (pv 2) pa_nil)) pa_nil))) (pg_name (i := 4) nd rfl (Or.inl rfl))
          (pss_one (ps_expr (pe_bm PySem.F.plainAttrs_list PySem.F.slot_list_extend PySem.F.type_list_extend mt_extend (pv 3) (pa_cons (pe_lc (own := [("part", 5)]) rfl nd (piT K (pe_tup (pa_cons (pe_slice sl_str (pv 2) po_none (po_some (pv 4))) (pa_cons (pe_slice sl_str (pv 2) (po_some (pv 4)) po_none) pa_nil)))) (blkOk_by (N := ["texts", "known", "text", "found", "size", "part"]) (sc := dd30.scope) (by decide +kernel)) (fun _ _ _ _ _ => (pg_name (i := 5) nd rfl (Or.inl rfl))) (fun _ _ _ _ _ => pts_one (pt_cmp (pc_din hu (pv 5) (pv 1)) rfl)) (fun _ _ _ _ _ => (pe_tup (pa_cons (pv 5) (pa_cons (pv 2) pa_nil))))) pa_nil))))))))
      (pss_one (ps_ret (pe_ifExp (pt_cmpR op_gt (pe_callB (clenS K) (by rfl) T.f_len (by decide +kernel) (pa_cons (pv 3) pa_nil)) (pe_int) (nomark _)) (pe_callB (call_min2 rfl) (by rfl) T.f_min (by decide +kernel) (pa_cons (pv 3) pa_nil)) (pe_non))))))), ?_⟩
    have few := ok.few
    refine ⟨.ref A, rfl, A, rfl, ⟨_, SqT.of hA⟩, fun D hD => ?_⟩
    refine dc_map W (Walk.len (walk_tup (xs := txs W)) (by rw [txs_len])) (by omega) hD (fun H1 sm => SqT.of (sm _ _ hA)) kS (fun _ => .bl true) (fun i z x H1 H' Ny ez sm ny y => ?_) (fun H1 s1 hd1 => ?_)
    · obtain ⟨rfl, ex⟩ := y
      obtain ⟨t, et, rfl⟩ := txs_get ex
      rw [ez] at et
      cases et
      exact ⟨rfl, _, rfl, ny _ (Same.refl _)⟩
    have ek : mergeK [] (W.map fun z => (kS z, V.bl true)) = W.map fun z => (kS z, V.bl true) := by
      have := merge_new (l := W.map fun z => (kS z, V.bl true)) (kvs := []) (by
        rw [List.nil_append, List.map_map]
        exact List.Pairwise.map _ (fun a b e z => e (kS_inj z)) ok.nod)
      rw [this, List.nil_append]
    rw [ek] at hd1
    have km : ∀ t, valV (W.map fun z => (kS z, V.bl true)) (kS t) ≠ none ↔ t ∈ W := fun t => by
      refine ⟨fun h => ?_, fun h e => ?_⟩
      · refine Classical.byContradiction fun hn => h (val_none.mpr fun q hq e => ?_)
        obtain ⟨z, hz, rfl⟩ := List.mem_map.mp hq
        exact hn (kS_inj e ▸ hz)
      · exact val_none.mp e (kS t, .bl true) (List.mem_map.mpr ⟨t, h, rfl⟩) rfl
    refine ⟨Nat.zero_le _, fun f nf => ?_⟩
    have fD : f ≠ D := fun e => by rw [e, hd1] at nf; cases nf
    refine ⟨D, .dK (W.map fun z => (kS z, V.bl true)), by rw [upd_ne fD.symm]; exact hd1, trivial, fun od => ?_⟩
    have s2 : Same H (upd (upd H1 f (.lst [])) D (.frz od (.dK (W.map fun z => (kS z, V.bl true))))) := fun b o e => by
      rw [upd_ne (ne_of_none e hD), upd_ne (ne_of_none (s1 _ _ e) nf)]
      exact s1 _ _ e
    have hf2 : (upd (upd H1 f (.lst [])) D (.frz od (.dK (W.map fun z => (kS z, V.bl true))))) f = some (.lst []) := by
      rw [upd_ne fD]
      exact upd_same
    have hD2 : (upd (upd H1 f (.lst [])) D (.frz od (.dK (W.map fun z => (kS z, V.bl true))))) D = some (.frz od (.dK (W.map fun z => (kS z, V.bl true)))) := upd_same
    generalize upd (upd H1 f (.lst [])) D (.frz od (.dK (W.map fun z => (kS z, V.bl true)))) = H2 at s2 hf2 hD2 ⊢
    refine ⟨.ref D, rfl, D, od, rfl, .inl ⟨W.map fun z => (kS z, V.bl true), hD2, ?_⟩⟩
    refine for_it (walk_keys (d := D) (o := od) (kvs := W.map fun z => (kS z, V.bl true))) (fun i σ H3 => ∃ y2 y4 y5, σ = [some (.ref A), some (.ref D), y2, some (.ref f), y4, y5] ∧ Same H H3 ∧ H3 f = some (.lst []) ∧ H3 D = some (.frz od (.dK (W.map fun z => (kS z, V.bl true)))))
      ⟨none, none, none, rfl, s2, hf2, hD2⟩ (fun i σ H3 _ ⟨_, _, _, _, _, _, h⟩ => h) (fun i x σ H3 H3' hi ⟨y2, y4, y5, es, s3, hf3, hD3⟩ y => ?_) (fun σ H3 ⟨y2, y4, y5, es, s3, hf3, hD3⟩ => ?_)
    · subst es
      obtain ⟨rfl, k, v, ek2, rfl⟩ := y
      rw [List.getElem?_map, Option.map_eq_some_iff] at ek2
      obtain ⟨t, et, e2⟩ := ek2
      cases e2
      have tm := List.mem_of_getElem? et
      have lt := ok.len t tm
      have lt1 := ok.one t tm
      refine ⟨_, rfl, sx t, rfl, sx_fits (by omega), _, _, rfl, ⟨by decide, by decide, by rw [sx_len]; omega, by rw [sx_len]; omega⟩, ?_⟩
      have el : (((sx t).length : Int) - 1).toNat = t.length - 1 := by rw [sx_len]; omega
      rw [el]
      refine for_range (fun j σ H4 => ∃ y4 y5, σ = [some (.ref A), some (.ref D), some (tx t), some (.ref f), y4, y5] ∧ Same H H4 ∧ H4 f = some (.lst []) ∧ H4 D = some (.frz od (.dK (W.map fun z => (kS z, V.bl true)))))
        ⟨y4, y5, rfl, s3, hf3, hD3⟩ (fun j σ H4 hj ⟨y4, y5, es, s4, hf4, hD4⟩ => ?_) (fun σ H4 ⟨y4, y5, es, s4, hf4, hD4⟩ => ⟨_, y4, y5, es, s4, hf4, hD4⟩)
      subst es
      have ej : (1 : Int) + (j : Int) = ((1 + j : Nat) : Int) := by omega
      refine ⟨.ref f, rfl, .inl ⟨rfl, _, .inl (.inl hf4)⟩, _, rfl, _, rfl, _, rfl, sx t, rfl, sx_fits (by omega), ?_⟩
      rw [ej, cut_h t (by omega)]
      refine ⟨_, rfl, _, rfl, _, rfl, sx t, rfl, sx_fits (by omega), ?_⟩
      rw [cut_l t (by omega)]
      refine ⟨Nat.le_of_ble_eq_true rfl, fun T nT => ⟨T, rfl, ⟨_, SqT.of upd_same⟩, fun E nE => ?_⟩⟩
      have s5 : Same H4 (upd H4 T (.tup [.str (sx (t.take (1 + j))), .str (sx (t.drop (1 + j)))])) := same_upd nT
      refine lc_gen (walk_tup (xs := [.str (sx (t.take (1 + j))), .str (sx (t.drop (1 + j)))])) (Nat.le_of_ble_eq_true rfl) nE (fun H5 sm => SqT.of (sm _ _ upd_same)) (fun i acc _ => acc = []) rfl (fun _ _ _ _ _ _ h => h) (fun i x H5 H5' acc N hi5 sm ha _ hr add skip y => ?_) (fun H5 acc sm ha _ hr => ?_)
      · obtain ⟨rfl, ex⟩ := y
        have no : ∀ u, u ∉ W → valV (W.map fun z => (kS z, V.bl true)) (kS u) = none := fun u hu => Classical.byContradiction fun h => hu ((km u).mp h)
        have part : ∃ u, x = tx u ∧ u ∉ W := by
          match i, hi5, ex with
          | 0, _, ex =>
            refine ⟨t.take (1 + j), (Option.some.inj ex).symm, fun h => ?_⟩
            have := ok.pre _ h t tm (List.take_prefix _ _)
            have := congrArg List.length this
            rw [List.length_take] at this
            omega
          | 1, _, ex =>
            refine ⟨t.drop (1 + j), (Option.some.inj ex).symm, fun h => ?_⟩
            have := ok.suf _ h t tm (List.drop_suffix _ _)
            have := congrArg List.length this
            rw [List.length_drop] at this
            omega
        obtain ⟨u, rfl, hu⟩ := part
        refine ⟨rfl, _, rfl, _, rfl, D, _, rfl, .inl ⟨_, kS u, .inr ⟨od, sm _ _ (s5 _ _ hD4)⟩, rfl, rfl⟩, ?_⟩
        rw [no u hu]
        exact ⟨false, rfl, iteF (skip _ (Same.refl _) hr)⟩
      · subst hr
        have s6 := s5.trans sm
        refine ⟨f, E, [], [], rfl, rfl, s6 _ _ hf4, ha, Nat.zero_le _, ?_⟩
        have eu : upd H5 f (.lst ([] ++ [])) = H5 := by
          funext b
          by_cases e : b = f
          · rw [e, upd_same]
            exact (s6 _ _ hf4).symm
          · rw [upd_ne e]
        rw [eu]
        exact ⟨_, _, rfl, s4.trans s6, s6 _ _ hf4, s6 _ _ hD4⟩
    · refine ⟨hD3, ?_⟩
      subst es
      have sL : Same H (upd H3 D (.dK (W.map fun z => (kS z, V.bl true)))) := fun b o e => by
        rw [upd_ne (ne_of_none e hD)]
        exact s3 _ _ e
      refine ⟨.ref f, rfl, f, [], rfl, .inl (SqL.of (by rw [upd_ne fD]; exact hf3)), _, _, rfl, rfl, false, rfl, iteF (q _ sL)⟩
end
end L2.NJ
set_option Elab.async false
set_option linter.all false
set_option maxRecDepth 100000
set_option maxHeartbeats 8000000
namespace L2.NJ
open PySem PySem.Spec PyProof.Rows PySem.W
section
variable {P : Program} {w : World} {K : PySem.W.Frag} {mg : Str → Option Value} {base : Heap}
def spAreWords : Sp := fun vs H Q _ => ∃ A W n ar, vs = [.ref A] ∧ H A = some (.tup (txs W)) ∧ Words n ar W ∧ ∀ H', Same H H' → Q (.bl true) H'
theorem sc_are_words : FnScope ["thing", "word"] ["thing"] dd31.scope := ⟨rfl, rfl, rfl, by decide +kernel, rfl, by decide +kernel, by decide +kernel⟩
theorem ok_are_words (T : Fx K mg) : DOk P w K mg base 3 (He.ga K "are_words") ["thing"] spAreWords := by
  refine DOk.of (d := dd31) T 31 rfl rfl sc_are_words (fun _ _ _ _ _ _ us hl => match us, hl with | [_], _ => rfl) (fun vs H Q E h => ?_) (fun f cdv A outer s H vs Q E hr h => ?_)
  · obtain ⟨_, _, _, _, rfl, _⟩ := h
    rfl
  · have nd := sc_are_words.nd
    have hu := hu_of hr
    obtain ⟨A, W, n, ar, rfl, hA, ok, q⟩ := h
    refine ⟨_, (pss_cons (ps_if (PW.pt (pw_or (pt_not (pt_val (pe_callB (cisi K) (by rfl) T.f_isinstance (by decide +kernel) (pa_cons (pv 0) (pa_cons (pe_bltn (v := .ty "tuple") (by rfl) T.f_tuple (by decide +kernel) rfl) pa_nil))))) (pw_or1 (pt_cmpR op_gt (pe_callB (clenS K) (by rfl) T.f_len (by decide +kernel) (pa_cons (pv 0) pa_nil)) (pe_gi (by rfl) T.v_MOST_WORDS) (nomark _)))))
        (pss_one (ps_ret (pe_bl)))
        pss_nil)
      (pss_one (ps_ret (pe_and (pe_callB (crAll K) (by rfl) T.f_all (by decide +kernel) (pa_cons (pe_lc (own := [("word", 1)]) rfl nd (piT K (pv 0)) (blkOk_by (N := ["thing", "word"]) (sc := dd31.scope) (by decide +kernel)) (fun _ _ _ _ _ => (pg_name (i := 1) nd rfl (Or.inl rfl))) (fun _ _ _ _ _ => pts_nil) (fun _ _ _ _ _ => (pe_c (ok_is_filled_text T) hr T.g_is_filled_text (by rfl) (pa_cons (pv 1) (pa_cons (pe_gi (by rfl) T.v_MOST_LETTERS) pa_nil))))) pa_nil)) (pe_one (pe_c (ok_are_ascending T) hr T.g_are_ascending (by rfl) (pa_cons (pv 0) pa_nil))))))), ?_⟩
    have few := ok.few
    have sq := SqT.of (K := K) hA
    refine ⟨_, rfl, _, _, _, _, _, rfl, .ty _, .base (.tup hA), kit_ty (by decide +kernel : kitB "tuple" "tuple" = some true), true, rfl, iteF ?_⟩
    refine ⟨_, rfl, A, _, rfl, .inr sq, _, _, rfl, rfl, false, bl_f (by rw [txs_len]; omega), iteF ?_⟩
    refine ⟨_, rfl, A, rfl, ⟨_, sq⟩, fun D hD => ?_⟩
    refine lc_map W (Walk.len (walk_tup (xs := txs W)) (by rw [txs_len])) (by omega) hD (fun H1 sm => sameT sm sq) (fun _ => .bl true) (fun i z x H1 H' Ny ez sm ny y => ?_) (fun H1 sm hd => ?_)
    · obtain ⟨rfl, ex⟩ := y
      obtain ⟨t, et, rfl⟩ := txs_get ex
      rw [ez] at et
      cases et
      have hm := List.mem_of_getElem? ez
      have := ok.len z hm
      exact ⟨rfl, _, rfl, z, 60, rfl, by omega, ok.abc z hm, ok.one z hm, by omega, fun H2 s2 => ny _ s2⟩
    · refine ⟨D, W.map fun _ => true, rfl, .inl (.inl ?_), ?_⟩
      · rw [hd, List.map_map]
        rfl
      · rw [all_true]
        refine ⟨true, rfl, iteT ?_⟩
        refine ⟨_, rfl, A, W.map fun t => (tx t, .str (sx t)), rfl, by rw [List.length_map]; omega, ?_, fun y hy => ?_, fun y hy z hz2 => ?_, fun i y z e1 e2 => ?_, fun H' s2 => q _ (sm.trans s2)⟩
        · rw [List.map_map]
          exact sm _ _ hA
        · obtain ⟨z, hm, rfl⟩ := List.mem_map.mp hy
          exact ⟨.str _, by simp [PyData.depth], fun e => nomatch e⟩
        · obtain ⟨y', _, rfl⟩ := List.mem_map.mp hy
          obtain ⟨z', _, rfl⟩ := List.mem_map.mp hz2
          simp [alike]
        · rw [List.getElem?_map, Option.map_eq_some_iff] at e1 e2
          obtain ⟨y', f1, rfl⟩ := e1
          obtain ⟨z', f2, rfl⟩ := e2
          exact ok.asc i y' z' f1 f2
def spBookKeep (K : PySem.W.Frag) : Sp := fun vs H Q _ => ∃ (b wb A dx : Addr) (W : List (List Nat)) (n : Nat) (ar : List Ar), vs = [.ref b, .ref wb, .ref A] ∧ H b = some (.ins (He.ga K "Book") dx []) ∧ H A = some (.tup (txs W)) ∧ Words n ar W ∧
  ∀ H', SB b H H' → BookIn K H' b wb W → Q .non H'
theorem sc_Book_keep : FnScope ["self", "web", "words", "number", "word"] ["self", "web", "words"] dd33.scope := ⟨rfl, rfl, rfl, by decide +kernel, rfl, by decide +kernel, by decide +kernel⟩
theorem ok_Book_keep (T : Fx K mg) : DOk P w K mg base 2 (He.ma K (He.ga K "Book") "keep") ["self", "web", "words"] (spBookKeep K) := by
  refine DOk.of (d := dd33) T 33 rfl rfl sc_Book_keep (fun _ _ _ _ _ _ us hl => match us, hl with | [_, _, _], _ => rfl) (fun vs H Q E h => ?_) (fun f cdv A outer s H vs Q E hr h => ?_)
  · obtain ⟨_, _, _, _, _, _, _, rfl, _⟩ := h
    rfl
  · have nd := sc_Book_keep.nd
    have hu := hu_of hr
    obtain ⟨b, wb, A, dx, W, n, ar, rfl, hb, hA, ok, q⟩ := h
    refine ⟨_, (pss_cons (ps_fld (pv 0) (pv 1) rfl)
      (pss_cons (ps_fld (pv 0) (pv 2) rfl)
      (pss_cons (ps_fld (pv 0) (pe_dc (own := [("number", 3), ("word", 4)]) rfl nd (pi_enumU (by rfl) T.f_enumerate (pa_cons (pv 2) pa_nil)) (blkOk_by (N := ["self", "web", "words", "number", "word"]) (sc := dd33.scope) (by decide +kernel)) (fun _ _ _ _ _ => (pgTup K (n := 2) (pgs_cons (pg_name (i := 3) nd rfl (Or.inl rfl)) (pgs_cons (pg_name (i := 4) nd rfl (Or.inl rfl)) pgs_nil)))) (fun _ _ _ _ _ => pts_nil) (fun _ _ _ _ _ => (pv 4)) (fun _ _ _ _ _ => (pv 3))) rfl)
      (pss_cons (ps_fld (pv 0) (pe_c (ok_beginnings T) hr T.g_beginnings (by rfl) (pa_cons (pv 2) pa_nil)) rfl)
      (pss_cons (ps_fld (pv 0) (pe_c (ok_endings T) hr T.g_endings (by rfl) (pa_cons (pv 2) pa_nil)) rfl)
      (pss_cons (ps_fld (pv 0) (pe_callB (cr_max rfl) (by rfl) T.f_max (by decide +kernel) (pa_cons (pe_op op_cat (pe_lst (pa_cons (pe_int) pa_nil)) (pe_lc (own := [("word", 4)]) rfl nd (piT K (pv 2)) (blkOk_by (N := ["self", "web", "words", "number", "word"]) (sc := dd33.scope) (by decide +kernel)) (fun _ _ _ _ _ => (pg_name (i := 4) nd rfl (Or.inl rfl))) (fun _ _ _ _ _ => pts_nil) (fun _ _ _ _ _ => (pe_callB call_len_str (by rfl) T.f_len (by decide +kernel) (pa_cons (pv 4) pa_nil))))) pa_nil)) rfl)
      (pss_one (ps_fld (pv 0) (pe_un un_neg (pe_int)) rfl)))))))), ?_⟩
    have few := ok.few
    have Ab : A ≠ b := ne_of hA hb fun z => nomatch z
    refine ⟨_, rfl, _, rfl, b, _, dx, _, rfl, hb, T.c_Book, T.n_Book_web, Nat.le_of_ble_eq_true rfl, ?_⟩
    refine ⟨_, rfl, _, rfl, b, _, dx, _, rfl, upd_same, T.c_Book, T.n_Book_words, Nat.le_of_ble_eq_true rfl, ?_⟩
    rw [upd_upd]
    have sb0 : SB b H (upd H b (.ins (He.ga K "Book") dx (putF "words" (.ref A) (putF "web" (.ref wb) [])))) := (SB.refl b H).upd _
    have hb1 : (upd H b (.ins (He.ga K "Book") dx (putF "words" (.ref A) (putF "web" (.ref wb) [])))) b = some (.ins (He.ga K "Book") dx [("web", .ref wb), ("words", .ref A)]) := upd_same
    generalize upd H b (.ins (He.ga K "Book") dx (putF "words" (.ref A) (putF "web" (.ref wb) []))) = H1 at sb0 hb1 ⊢
    have hA1 := sb0 _ _ Ab hA
    -- kept_words
    refine ⟨.ref A, rfl, A, _, rfl, SqT.of hA1, fun D hD => ?_⟩
    refine dc_map (List.range W.length) (Walk.len (walk_enumU (K := K) (a := A) (xs := txs W)) (by rw [txs_len, List.length_range])) (by rw [List.length_range]; omega) hD (fun H2 sm => SqT.of (sm _ _ hA1)) (fun i => kS (W[i]?.getD [])) (fun i => .int (i : Nat)) (fun i z x H2 H2' Ny ez sm ny y => ?_) (fun H2 s2 hd2 => ?_)
    · obtain ⟨T0, x1, y1, rfl, nT, rfl, e1, e2⟩ := y
      obtain ⟨t, et, rfl⟩ := txs_get e2
      have ez2 : z = i := by
        have := List.getElem?_eq_some_iff.mp ez
        obtain ⟨h1, h2⟩ := this
        rw [List.getElem_range] at h2
        exact h2.symm
      subst ez2
      have hx := Option.some.inj e1
      subst hx
      have e3 : tx t = kV (kS (W[z]?.getD [])) := by rw [et]; rfl
      refine ⟨T0, [.int (z : Nat), tx t], rfl, SqT.of upd_same, rfl, _, _, rfl, _, _, rfl, rfl, rfl, _, rfl, _, rfl, ?_⟩
      rw [e3]
      exact ny _ (same_upd nT)
    have m1 : Mems (mergeK [] ((List.range W.length).map fun i => (kS (W[i]?.getD []), V.int (i : Nat)))) W := fun t => by
      rw [merge_mem, List.map_map, List.mem_map]
      constructor
      · rintro (h | ⟨i, hi, e⟩)
        · exact absurd rfl h
        · have hi := List.mem_range.mp hi
          have e := kS_inj e
          rw [List.getElem?_eq_getElem hi] at e
          rw [← e]
          exact List.getElem_mem hi
      · intro h
        obtain ⟨i, hi, e⟩ := List.mem_iff_getElem.mp h
        refine .inr ⟨i, List.mem_range.mpr hi, ?_⟩
        show kS (W[i]?.getD []) = kS t
        rw [List.getElem?_eq_getElem hi]
        exact congrArg kS e
    generalize mergeK [] ((List.range W.length).map fun i => (kS (W[i]?.getD []), V.int (i : Nat))) = k1 at m1 hd2
    have nDb : D ≠ b := fun z => by rw [z, hb1] at hD; cases hD
    refine ⟨_, rfl, b, _, dx, _, rfl, s2 _ _ hb1, T.c_Book, T.n_Book_kept_words, Nat.le_of_ble_eq_true rfl, ?_⟩
    have sb2 := (sb0.trans (.of s2)).upd (.ins (He.ga K "Book") dx (putF "kept_words" (.ref D) [("web", .ref wb), ("words", .ref A)]))
    have hb3 : (upd H2 b (.ins (He.ga K "Book") dx (putF "kept_words" (.ref D) [("web", .ref wb), ("words", .ref A)]))) b = some (.ins (He.ga K "Book") dx [("web", .ref wb), ("words", .ref A), ("kept_words", .ref D)]) := upd_same
    have hd3 : (upd H2 b (.ins (He.ga K "Book") dx (putF "kept_words" (.ref D) [("web", .ref wb), ("words", .ref A)]))) D = some (.dK k1) := by
      rw [upd_ne nDb]
      exact hd2
    generalize upd H2 b (.ins (He.ga K "Book") dx (putF "kept_words" (.ref D) [("web", .ref wb), ("words", .ref A)])) = H3 at sb2 hb3 hd3 ⊢
    have hA3 := sb2 _ _ Ab hA
    -- kept_begins
    refine ⟨_, rfl, A, W, rfl, hA3, few, ok.len, fun H4 d2 k2 s4 h2 m2 => ?_⟩
    refine ⟨_, rfl, b, _, dx, _, rfl, s4 _ _ hb3, T.c_Book, T.n_Book_kept_begins, Nat.le_of_ble_eq_true rfl, ?_⟩
    have d2b : d2 ≠ b := ne_of h2 (s4 _ _ hb3) fun z => nomatch z
    have sb4 := (sb2.trans (.of s4)).upd (.ins (He.ga K "Book") dx (putF "kept_begins" (.ref d2) [("web", .ref wb), ("words", .ref A), ("kept_words", .ref D)]))
    have sbx4 := ((SB.of s4 : SB b H3 H4)).upd (.ins (He.ga K "Book") dx (putF "kept_begins" (.ref d2) [("web", .ref wb), ("words", .ref A), ("kept_words", .ref D)]))
    have hb5 : (upd H4 b (.ins (He.ga K "Book") dx (putF "kept_begins" (.ref d2) [("web", .ref wb), ("words", .ref A), ("kept_words", .ref D)]))) b = some (.ins (He.ga K "Book") dx [("web", .ref wb), ("words", .ref A), ("kept_words", .ref D), ("kept_begins", .ref d2)]) := upd_same
    have hd5 := sbx4 _ _ nDb hd3
    have h25 : (upd H4 b (.ins (He.ga K "Book") dx (putF "kept_begins" (.ref d2) [("web", .ref wb), ("words", .ref A), ("kept_words", .ref D)]))) d2 = some (.dK k2) := by
      rw [upd_ne d2b]
      exact h2
    generalize upd H4 b (.ins (He.ga K "Book") dx (putF "kept_begins" (.ref d2) [("web", .ref wb), ("words", .ref A), ("kept_words", .ref D)])) = H5 at sb4 hb5 hd5 h25 ⊢
    have hA5 := sb4 _ _ Ab hA
    -- kept_ends
    refine ⟨_, rfl, A, W, rfl, hA5, few, ok.len, fun H6 d3 k3 s6 h3 m3 => ?_⟩
    refine ⟨_, rfl, b, _, dx, _, rfl, s6 _ _ hb5, T.c_Book, T.n_Book_kept_ends, Nat.le_of_ble_eq_true rfl, ?_⟩
    have d3b : d3 ≠ b := ne_of h3 (s6 _ _ hb5) fun z => nomatch z
    have sb6 := (sb4.trans (.of s6)).upd (.ins (He.ga K "Book") dx (putF "kept_ends" (.ref d3) [("web", .ref wb), ("words", .ref A), ("kept_words", .ref D), ("kept_begins", .ref d2)]))
    have sbx6 := ((SB.of s6 : SB b H5 H6)).upd (.ins (He.ga K "Book") dx (putF "kept_ends" (.ref d3) [("web", .ref wb), ("words", .ref A), ("kept_words", .ref D), ("kept_begins", .ref d2)]))
    have hb7 : (upd H6 b (.ins (He.ga K "Book") dx (putF "kept_ends" (.ref d3) [("web", .ref wb), ("words", .ref A), ("kept_words", .ref D), ("kept_begins", .ref d2)]))) b = some (.ins (He.ga K "Book") dx [("web", .ref wb), ("words", .ref A), ("kept_words", .ref D), ("kept_begins", .ref d2), ("kept_ends", .ref d3)]) := upd_same
    have hd7 := sbx6 _ _ nDb hd5
    have h27 := sbx6 _ _ d2b h25
    have h37 : (upd H6 b (.ins (He.ga K "Book") dx (putF "kept_ends" (.ref d3) [("web", .ref wb), ("words", .ref A), ("kept_words", .ref D), ("kept_begins", .ref d2)]))) d3 = some (.dK k3) := by
      rw [upd_ne d3b]
      exact h3
    generalize upd H6 b (.ins (He.ga K "Book") dx (putF "kept_ends" (.ref d3) [("web", .ref wb), ("words", .ref A), ("kept_words", .ref D), ("kept_begins", .ref d2)])) = H7 at sb6 hb7 hd7 h27 h37 ⊢
    have hA7 := sb6 _ _ Ab hA
    -- kept_longest
    refine ⟨Nat.le_of_ble_eq_true rfl, fun l0 nl0 => ?_⟩
    have s70 : Same H7 (upd H7 l0 (.lst [.int 0])) := same_upd nl0
    refine ⟨.ref A, rfl, A, rfl, ⟨_, SqT.of (s70 _ _ hA7)⟩, fun E nE => ?_⟩
    refine lc_map W (Walk.len (walk_tup (xs := txs W)) (by rw [txs_len])) (by omega) nE (fun H8 sm => SqT.of (sm _ _ (s70 _ _ hA7))) (fun t => .int (t.length : Nat)) (fun i z x H8 H8' Ny ez sm ny y => ?_) (fun H8 s8 hd8 => ?_)
    · obtain ⟨rfl, ex⟩ := y
      obtain ⟨t, et, rfl⟩ := txs_get ex
      rw [ez] at et
      cases et
      have := ok.len z (List.mem_of_getElem? ez)
      refine ⟨rfl, _, rfl, sx z, rfl, sx_fits (by omega), ?_⟩
      rw [sx_len]
      exact ny _ (Same.refl _)
    have s78 := s70.trans s8
    refine ⟨l0, E, [.int 0], _, rfl, rfl, s8 _ _ upd_same, hd8, fits (by rw [List.length_map]; show 1 + W.length ≤ 100000; omega), fun p np => ?_⟩
    refine ⟨p, 0 :: W.map fun t => (t.length : Int), rfl, SqL.of ?_, Nat.succ_pos _, fun m hm hmax => ?_⟩
    · rw [upd_same, List.map_cons, List.map_map]
      rfl
    have s79 := s78.trans (same_upd (o := .lst ([.int 0] ++ W.map fun t => V.int (t.length : Nat))) np)
    obtain ⟨L, rfl⟩ : ∃ L : Nat, m = (L : Int) := by
      have := hmax 0 List.mem_cons_self
      exact ⟨m.toNat, by omega⟩
    have hL : ∀ w ∈ W, w.length ≤ L := fun w hw => by
      have := hmax (w.length : Int) (List.mem_cons_of_mem _ (List.mem_map.mpr ⟨w, hw, rfl⟩))
      omega
    refine ⟨_, rfl, b, _, dx, _, rfl, s79 _ _ hb7, T.c_Book, T.n_Book_kept_longest, Nat.le_of_ble_eq_true rfl, ?_⟩
    refine ⟨1, rfl, _, rfl, b, _, dx, _, rfl, upd_same, T.c_Book, T.n_Book_kept_ways, Nat.le_of_ble_eq_true rfl, ?_⟩
    rw [upd_upd]
    refine q _ ((sb6.trans (.of s79)).upd _) ⟨A, dx, D, d2, d3, k1, k2, k3, L, upd_same, ?_, ?_, ?_, m1, m2, m3, hL⟩
    · rw [upd_ne nDb]
      exact s79 _ _ hd7
    · rw [upd_ne d2b]
      exact s79 _ _ h27
    · rw [upd_ne d3b]
      exact s79 _ _ h37
def spBookInit (K : PySem.W.Frag) : Sp := fun vs H Q _ => ∃ (b wb A dx : Addr) (W : List (List Nat)) (n : Nat) (ar : List Ar), vs = [.ref b, .ref wb, .ref A] ∧ H b = some (.ins (He.ga K "Book") dx []) ∧ H A = some (.tup (txs W)) ∧ Words n ar W ∧ WebAt K H wb n ar ∧ WebIn n ar ∧
  ∀ H', SB b H H' → BookIn K H' b wb W → Q .non H'
theorem sc_Book___init__ : FnScope ["self", "web", "words", "word"] ["self", "web", "words"] dd32.scope := ⟨rfl, rfl, rfl, by decide +kernel, rfl, by decide +kernel, by decide +kernel⟩
theorem ok_Book___init__ (T : Fx K mg) : DOk P w K mg base 5 (He.ma K (He.ga K "Book") "__init__") ["self", "web", "words"] (spBookInit K) := by
  refine DOk.of (d := dd32) T 32 rfl rfl sc_Book___init__ (fun _ _ _ _ _ _ us hl => match us, hl with | [_, _, _], _ => rfl) (fun vs H Q E h => ?_) (fun f cdv A outer s H vs Q E hr h => ?_)
  · obtain ⟨_, _, _, _, _, _, _, rfl, _⟩ := h
    rfl
  · have nd := sc_Book___init__.nd
    have hu := hu_of hr
    obtain ⟨b, wb, A, dx, W, n, ar, rfl, hb, hA, ok, wa, wi, q⟩ := h
    refine ⟨_, (pss_cons (ps_if (pt_not (pt_val (pe_c (ok_are_words T) hr T.g_are_words (by rfl) (pa_cons (pv 2) pa_nil))))
        (pss_one ps_never)
        pss_nil)
      (pss_cons (ps_if (pt_not (pt_val (pe_callB (crAll K) (by rfl) T.f_all (by decide +kernel) (pa_cons (pe_lc (own := [("word", 3)]) rfl nd (piT K (pv 2)) (blkOk_by (N := ["self", "web", "words", "word"]) (sc := dd32.scope) (by decide +kernel)) (fun _ _ _ _ _ => (pg_name (i := 3) nd rfl (Or.inl rfl))) (fun _ _ _ _ _ => pts_nil) (fun _ _ _ _ _ => (pe_c (ok_stretch_there T) hr T.g_stretch_there (by rfl) (pa_cons (pv 1) (pa_cons (pv 3) pa_nil))))) pa_nil))))
        (pss_one ps_never)
        pss_nil)
      (pss_cons (ps_if (pt_cmp (pc_notN (pe_c (ok_clash_of T) hr T.g_clash_of (by rfl) (pa_cons (pv 2) pa_nil))))
        (pss_one ps_never)
        pss_nil)
      (pss_one (ps_expr (pe_mt (ok_Book_keep T) hr (pv 0) T.c_Book T.m_Book (pa_cons (pv 1) (pa_cons (pv 2) pa_nil)))))))), ?_⟩
    have few := ok.few
    refine ⟨_, rfl, A, W, n, ar, rfl, hA, ok, fun H1 s1 => ⟨true, rfl, iteF ?_⟩⟩
    refine ⟨_, rfl, A, rfl, ⟨_, SqT.of (s1 _ _ hA)⟩, fun D hD => ?_⟩
    refine lc_map W (Walk.len (walk_tup (xs := txs W)) (by rw [txs_len])) (by omega) hD (fun H2 sm => SqT.of (sm _ _ (s1 _ _ hA))) (fun _ => .bl true) (fun i z x H2 H2' Ny ez sm ny y => ?_) (fun H2 s2 hd2 => ?_)
    · obtain ⟨rfl, ex⟩ := y
      obtain ⟨t, et, rfl⟩ := txs_get ex
      rw [ez] at et
      cases et
      exact ⟨rfl, _, rfl, _, rfl, wb, n, ar, z, rfl, (wa.same s1).same sm, wi, ok.str z (List.mem_of_getElem? ez), fun H3 s3 => ny _ s3⟩
    refine ⟨D, W.map fun _ => true, rfl, .inl (.inl ?_), ?_⟩
    · rw [hd2, List.map_map]
      rfl
    rw [all_true]
    refine ⟨true, rfl, iteF ?_⟩
    have s12 := s1.trans s2
    refine ⟨_, rfl, A, W, n, ar, rfl, s12 _ _ hA, ok, fun H3 s3 => ⟨false, rfl, iteF ?_⟩⟩
    have s13 := s12.trans s3
    refine ⟨.ref b, rfl, b, dx, [], rfl, s13 _ _ hb, rfl, _, rfl, _, rfl, b, wb, A, dx, W, n, ar, rfl, s13 _ _ hb, s13 _ _ hA, ok, fun H4 sb bi => q _ ((SB.of s13).trans sb) bi⟩
end
end L2.NJ
set_option Elab.async false
set_option linter.all false
set_option maxRecDepth 100000
set_option maxHeartbeats 4000000
namespace L2.NJ
open PySem PySem.Spec PyProof.Rows PySem.W
/-! ### cuts, plainly -/
def span (t : List Nat) (b e : Nat) : List Nat := (t.drop b).take (e - b)
theorem span_len {t : List Nat} {b e : Nat} (h1 : b ≤ e) (h2 : e ≤ t.length) : (span t b e).length = e - b := by
  unfold span
  rw [List.length_take, List.length_drop]
  omega
/-- the next cut behind p, the one before it -/
def fwd (W : List (List Nat)) (t : List Nat) (p : Nat) : Option Nat := ((List.range (t.length - p)).find? fun s => decide (span t p (p + 1 + s) ∈ W)).map fun s => p + 1 + s
def bwd (W : List (List Nat)) (t : List Nat) (p : Nat) : Option Nat := ((List.range p).find? fun s => decide (span t (p - 1 - s) p ∈ W)).map fun s => p - 1 - s
theorem fwd_yes {W : List (List Nat)} {t : List Nat} {p s : Nat} (hs : p + 1 + s ≤ t.length) (h : span t p (p + 1 + s) ∈ W) (hn : ∀ j, j < s → span t p (p + 1 + j) ∉ W) : fwd W t p = some (p + 1 + s) := by
  unfold fwd
  rw [List.find?_range_eq_some.mpr ⟨decide_eq_true h, List.mem_range.mpr (by omega), fun j hj => by simp [hn j hj]⟩]
  rfl
theorem fwd_no {W : List (List Nat)} {t : List Nat} {p : Nat} (h : ∀ s, p + 1 + s ≤ t.length → span t p (p + 1 + s) ∉ W) : fwd W t p = none := by
  unfold fwd
  rw [List.find?_range_eq_none.mpr fun j hj => by simp [h j (by omega)]]
  rfl
theorem fwd_some {W : List (List Nat)} {t : List Nat} {p e : Nat} (h : fwd W t p = some e) : p < e ∧ e ≤ t.length ∧ span t p e ∈ W := by
  unfold fwd at h
  rw [Option.map_eq_some_iff] at h
  obtain ⟨s, h1, rfl⟩ := h
  have := List.find?_range_eq_some.mp h1
  have h2 := List.mem_range.mp this.2.1
  exact ⟨by omega, by omega, of_decide_eq_true this.1⟩
theorem fwd_none {W : List (List Nat)} {t : List Nat} {p : Nat} (h : fwd W t p = none) {e : Nat} (h1 : p < e) (h2 : e ≤ t.length) : span t p e ∉ W := fun hm => by
  unfold fwd at h
  rw [Option.map_eq_none_iff] at h
  have := List.find?_range_eq_none.mp h (e - p - 1) (by omega)
  rw [show p + 1 + (e - p - 1) = e by omega] at this
  simp [hm] at this
theorem bwd_yes {W : List (List Nat)} {t : List Nat} {p s : Nat} (hs : s < p) (h : span t (p - 1 - s) p ∈ W) (hn : ∀ j, j < s → span t (p - 1 - j) p ∉ W) : bwd W t p = some (p - 1 - s) := by
  unfold bwd
  rw [List.find?_range_eq_some.mpr ⟨decide_eq_true h, List.mem_range.mpr hs, fun j hj => by simp [hn j hj]⟩]
  rfl
theorem bwd_no {W : List (List Nat)} {t : List Nat} {p : Nat} (h : ∀ s, s < p → span t (p - 1 - s) p ∉ W) : bwd W t p = none := by
  unfold bwd
  rw [List.find?_range_eq_none.mpr fun j hj => by simp [h j (by omega)]]
  rfl
theorem bwd_some {W : List (List Nat)} {t : List Nat} {p b : Nat} (h : bwd W t p = some b) : b < p ∧ span t b p ∈ W := by
  unfold bwd at h
  rw [Option.map_eq_some_iff] at h
  obtain ⟨s, h1, rfl⟩ := h
  have := List.find?_range_eq_some.mp h1
  have h2 := List.mem_range.mp this.2.1
  exact ⟨by omega, of_decide_eq_true this.1⟩
theorem bwd_none {W : List (List Nat)} {t : List Nat} {p : Nat} (h : bwd W t p = none) {b : Nat} (h1 : b < p) : span t b p ∉ W := fun hm => by
  unfold bwd at h
  rw [Option.map_eq_none_iff] at h
  have := List.find?_range_eq_none.mp h (p - 1 - b) (by omega)
  rw [show p - 1 - (p - 1 - b) = b by omega] at this
  simp [hm] at this
/-- the cuts from p on -/
def run (f : Nat → Option Nat) : Nat → Nat → List Nat
  | 0, p => [p]
  | k + 1, p => p :: match f p with
    | none => []
    | some q => run f k q
def readFrom (W : List (List Nat)) (t : List Nat) (p : Nat) : List Nat := run (fwd W t) (t.length - p) p
theorem run_enough {W : List (List Nat)} {t : List Nat} : ∀ (k p : Nat), t.length - p ≤ k → p ≤ t.length → run (fwd W t) k p = run (fwd W t) (t.length - p) p
  | 0, p, h, hp => by
    have : t.length - p = 0 := by omega
    rw [this]
  | k + 1, p, h, hp => by
    by_cases e : t.length - p = 0
    · rw [e]
      have : fwd W t p = none := fwd_no fun s hs => by omega
      show p :: (match fwd W t p with | none => [] | some q => run (fwd W t) k q) = [p]
      rw [this]
    · obtain ⟨m, hm⟩ : ∃ m, t.length - p = m + 1 := ⟨t.length - p - 1, by omega⟩
      rw [hm]
      show p :: (match fwd W t p with | none => [] | some q => run (fwd W t) k q) = p :: (match fwd W t p with | none => [] | some q => run (fwd W t) m q)
      cases hq : fwd W t p with
      | none => rfl
      | some q =>
        have := fwd_some hq
        show p :: run (fwd W t) k q = p :: run (fwd W t) m q
        rw [run_enough k q (by omega) this.2.1, run_enough m q (by omega) this.2.1]
theorem readFrom_stop {W : List (List Nat)} {t : List Nat} {p : Nat} (h : fwd W t p = none) : readFrom W t p = [p] := by
  unfold readFrom
  cases t.length - p with
  | zero => rfl
  | succ m =>
    show p :: (match fwd W t p with | none => [] | some q => run (fwd W t) m q) = [p]
    rw [h]
theorem readFrom_go {W : List (List Nat)} {t : List Nat} {p q : Nat} (h : fwd W t p = some q) : readFrom W t p = p :: readFrom W t q := by
  have hq := fwd_some h
  unfold readFrom
  obtain ⟨m, hm⟩ : ∃ m, t.length - p = m + 1 := ⟨t.length - p - 1, by omega⟩
  rw [hm]
  show p :: (match fwd W t p with | none => [] | some q => run (fwd W t) m q) = _
  rw [h]
  show p :: run (fwd W t) m q = _
  rw [run_enough m q (by omega) hq.2.1]
/-- where the reading with p begins -/
def back (f : Nat → Option Nat) : Nat → Nat → Nat
  | 0, p => p
  | k + 1, p => match f p with
    | none => p
    | some q => back f k q
def headOf (W : List (List Nat)) (t : List Nat) (p : Nat) : Nat := back (bwd W t) p p
theorem back_enough {W : List (List Nat)} {t : List Nat} : ∀ (k p : Nat), p ≤ k → back (bwd W t) k p = back (bwd W t) p p
  | 0, p, h => by
    have : p = 0 := by omega
    rw [this]
  | k + 1, 0, h => by
    have : bwd W t 0 = none := bwd_no fun s hs => by omega
    show (match bwd W t 0 with | none => 0 | some q => back (bwd W t) k q) = 0
    rw [this]
  | k + 1, m + 1, h => by
    show (match bwd W t (m + 1) with | none => m + 1 | some q => back (bwd W t) k q) = (match bwd W t (m + 1) with | none => m + 1 | some q => back (bwd W t) m q)
    cases hq : bwd W t (m + 1) with
    | none => rfl
    | some q =>
      have := bwd_some hq
      show back (bwd W t) k q = back (bwd W t) m q
      rw [back_enough k q (by omega), back_enough m q (by omega)]
theorem headOf_stop {W : List (List Nat)} {t : List Nat} {p : Nat} (h : bwd W t p = none) : headOf W t p = p := by
  unfold headOf
  cases p with
  | zero => rfl
  | succ m =>
    show (match bwd W t (m + 1) with | none => m + 1 | some q => back (bwd W t) m q) = m + 1
    rw [h]
theorem headOf_go {W : List (List Nat)} {t : List Nat} {p q : Nat} (h : bwd W t p = some q) : headOf W t p = headOf W t q := by
  have hq := bwd_some h
  unfold headOf
  obtain ⟨m, rfl⟩ : ∃ m, p = m + 1 := ⟨p - 1, by omega⟩
  show (match bwd W t (m + 1) with | none => m + 1 | some q => back (bwd W t) m q) = _
  rw [h]
  show back (bwd W t) m q = _
  rw [back_enough m q (by omega)]
def heads (W : List (List Nat)) (t : List Nat) : List Nat := (List.range (t.length + 1)).filter fun p => decide (bwd W t p = none)
theorem readFrom_len {W : List (List Nat)} {t : List Nat} : ∀ (k p : Nat), (run (fwd W t) k p).length ≤ k + 1
  | 0, p => Nat.le_refl _
  | k + 1, p => by
    show (p :: (match fwd W t p with | none => [] | some q => run (fwd W t) k q)).length ≤ _
    cases fwd W t p with
    | none => simp
    | some q =>
      have := readFrom_len (W := W) (t := t) k q
      show (p :: run (fwd W t) k q).length ≤ _
      rw [List.length_cons]
      omega
/-- a word, behind which another follows or not: what the cuts' word is as a value -/
theorem span_take {t : List Nat} {p s k : Nat} (h : s ≤ k) : (span t p (p + k)).take s = span t p (p + s) := by
  unfold span
  rw [List.take_take]
  congr 1
  omega
theorem span_drop {t : List Nat} {b c e : Nat} (h : b ≤ c) (h2 : c ≤ e) : (span t b e).drop (c - b) = span t c e := by
  unfold span
  rw [List.drop_take, List.drop_drop]
  congr 1
  · omega
  · congr 1
    omega
end L2.NJ
set_option Elab.async false
set_option linter.all false
set_option maxRecDepth 100000
set_option maxHeartbeats 8000000
namespace L2.NJ
open PySem PySem.Spec PyProof.Rows PySem.W
def wordV (o : Option Nat) (g : Nat → List Nat) : V := match o with
  | none => .non
  | some e => tx (g e)
section
variable {P : Program} {w : World} {K : PySem.W.Frag} {mg : Str → Option Value} {base : Heap}
def spWordAt (K : PySem.W.Frag) : Sp := fun vs H Q _ => ∃ b wb W t p, vs = [.ref b, tx t, .int (p : Nat)] ∧ BookIn K H b wb W ∧ p ≤ t.length ∧ t.length ≤ 1000 ∧ Q (wordV (fwd W t p) fun e => span t p e) H
theorem sc_word_at : FnScope ["book", "text", "place", "size", "part"] ["book", "text", "place"] dd19.scope := ⟨rfl, rfl, rfl, by decide +kernel, rfl, by decide +kernel, by decide +kernel⟩
theorem ok_word_at (T : Fx K mg) : DOk P w K mg base 1 (He.ga K "word_at") ["book", "text", "place"] (spWordAt K) := by
  refine DOk.of (d := dd19) T 19 rfl rfl sc_word_at (fun _ _ _ _ _ _ us hl => match us, hl with | [_, _, _], _ => rfl) (fun vs H Q E h => ?_) (fun f cdv A outer s H vs Q E hr h => ?_)
  · obtain ⟨_, _, _, _, _, rfl, _⟩ := h
    rfl
  · have nd := sc_word_at.nd
    have hu := hu_of hr
    obtain ⟨b, wb, W, t, p, rfl, ⟨A, dx, d1, d2, d3, k1, k2, k3, L, hb, h1, h2, h3, m1, m2, m3, mL⟩, hp, ht, q⟩ := h
    refine ⟨_, (pss_cons (ps_set (i := 3) nd rfl (Or.inl rfl) (pe_int))
      (pss_cons (ps_while PassesOwn.never (PW.pt (pw_and (pt_cmpR op_le (pe_op op_add (pv 2) (pv 3)) (pe_callB call_len_str (by rfl) T.f_len (by decide +kernel) (pa_cons (pv 1) pa_nil)) (nomark _)) (pw_and1 (pt_cmpR op_le (pv 3) (peFld K (pv 0)) (nomark _)))))
        (pss_cons (ps_set (i := 4) nd rfl (Or.inl rfl) (pe_slice sl_str (pv 1) (po_some (pv 2)) (po_some (pe_op op_add (pv 2) (pv 3)))))
        (pss_cons (ps_if (pt_cmp (pc_din hu (pv 4) (peFld K (pv 0))) rfl)
          (pss_one (ps_ret (pv 4)))
          pss_nil)
        (pss_cons (ps_if (pt_cmp (pc_dnotin hu (pv 4) (peFld K (pv 0))) rfl)
          (pss_one (ps_ret (pe_non)))
          pss_nil)
        (pss_one (ps_aug (i := 3) nd rfl (Or.inl rfl) (pe_int) ip_add))))))
      (pss_one (ps_ret (pe_non))))), ?_⟩
    have qy : ∀ e, fwd W t p = some e → Q (tx (span t p e)) H := fun e he => by rw [he] at q; exact q
    have qn : fwd W t p = none → Q .non H := fun he => by rw [he] at q; exact q
    refine while_m (fun m σ H2 => ∃ (s : Nat) (y4 : Option V), m = t.length + 1 - s ∧ σ = [some (.ref b), some (tx t), some (.int (p : Nat)), some (.int ((1 + s : Nat) : Int)), y4] ∧ H2 = H ∧ s ≤ t.length ∧ ∀ j, j < s → span t p (p + 1 + j) ∉ W) ⟨_, 0, none, rfl, rfl, rfl, Nat.zero_le _, fun j hj => by omega⟩ ?_
    rintro m σ H2 ⟨s, y4, rfl, rfl, rfl, hs, no⟩
    refine ⟨_, rfl, _, rfl, _, _, rfl, rfl, _, rfl, sx t, rfl, sx_fits (by omega), _, _, rfl, rfl, ?_⟩
    by_cases c1 : p + 1 + s ≤ t.length
    · refine ⟨true, bl_t (by rw [sx_len]; omega), iteT ?_⟩
      refine ⟨_, rfl, .ref b, rfl, b, _, dx, _, _, rfl, hb, T.c_Book, T.n_Book_kept_longest, rfl, _, _, rfl, rfl, ?_⟩
      by_cases c2 : 1 + s ≤ L
      · refine ⟨true, bl_t (by omega), iteT ⟨_, fun _ _ h => h, ?_⟩⟩
        refine ⟨_, rfl, _, rfl, _, rfl, _, rfl, _, rfl, _, _, rfl, rfl, _, rfl, sx t, rfl, sx_fits (by omega), ?_⟩
        have ej : (p : Int) + ((1 + s : Nat) : Int) = ((p + 1 + s : Nat) : Int) := by omega
        rw [ej, cut_lh t hp c1]
        have es : (t.drop p).take (p + 1 + s - p) = span t p (p + 1 + s) := rfl
        rw [es]
        refine ⟨_, rfl, .ref b, rfl, b, _, dx, _, _, rfl, hb, T.c_Book, T.n_Book_kept_words, rfl, d1, _, rfl, DGet.k (k := kS (span t p (p + 1 + s))) h1, _, rfl, ?_⟩
        by_cases c3 : span t p (p + 1 + s) ∈ W
        · obtain ⟨v, hv⟩ := Option.ne_none_iff_exists'.mp ((m1 _).mpr c3)
          rw [hv]
          exact iteT ⟨_, rfl, qy _ (fwd_yes c1 c3 no)⟩
        · have hv : valV k1 (kS (span t p (p + 1 + s))) = none := Classical.byContradiction fun h => c3 ((m1 _).mp h)
          rw [hv]
          refine iteF ⟨_, rfl, .ref b, rfl, b, _, dx, _, _, rfl, hb, T.c_Book, T.n_Book_kept_begins, rfl, d2, _, rfl, DGet.k (k := kS (span t p (p + 1 + s))) h2, _, rfl, ?_⟩
          cases hv2 : valV k2 (kS (span t p (p + 1 + s))) with
          | none =>
            refine iteT (qn (fwd_no fun j hj hm => ?_))
            have hjs : s < j := Classical.byContradiction fun h => by
              by_cases e : j = s
              · rw [e] at hm
                exact c3 hm
              · exact no j (by omega) hm
            refine m2 _ hm (1 + s) (by omega) ?_ ?_
            · rw [span_len (by omega) hj]
              omega
            · rw [show p + 1 + j = p + (1 + j) by omega, span_take (by omega), show p + (1 + s) = p + 1 + s by omega]
              exact hv2
          | some v =>
            refine iteF ⟨_, rfl, _, _, rfl, rfl, t.length + 1 - (s + 1), by omega, s + 1, some (tx (span t p (p + 1 + s))), rfl, ?_, rfl, by omega, fun j hj hm => ?_⟩
            · have e : ((1 + s : Nat) : Int) + 1 = ((1 + (s + 1) : Nat) : Int) := by omega
              exact congrArg (fun z : Int => [some (.ref b), some (tx t), some (.int (p : Nat)), some (.int z), some (tx (span t p (p + 1 + s)))]) e
            · by_cases e : j = s
              · rw [e] at hm
                exact c3 hm
              · exact no j (by omega) hm
      · refine ⟨false, bl_f (by omega), iteF (qn (fwd_no fun j hj hm => ?_))⟩
        by_cases e : j < s
        · exact no j e hm
        · have := mL _ hm
          rw [span_len (by omega) hj] at this
          omega
    · refine ⟨false, bl_f (by rw [sx_len]; omega), iteF (iteF (qn (fwd_no fun j hj hm => no j (by omega) hm)))⟩
def spWordEnd (K : PySem.W.Frag) : Sp := fun vs H Q _ => ∃ b wb W t p, vs = [.ref b, tx t, .int (p : Nat)] ∧ BookIn K H b wb W ∧ p ≤ t.length ∧ t.length ≤ 1000 ∧ Q (wordV (bwd W t p) fun e => span t e p) H
theorem sc_word_ending : FnScope ["book", "text", "place", "size", "part"] ["book", "text", "place"] dd20.scope := ⟨rfl, rfl, rfl, by decide +kernel, rfl, by decide +kernel, by decide +kernel⟩
theorem ok_word_ending (T : Fx K mg) : DOk P w K mg base 1 (He.ga K "word_ending") ["book", "text", "place"] (spWordEnd K) := by
  refine DOk.of (d := dd20) T 20 rfl rfl sc_word_ending (fun _ _ _ _ _ _ us hl => match us, hl with | [_, _, _], _ => rfl) (fun vs H Q E h => ?_) (fun f cdv A outer s H vs Q E hr h => ?_)
  · obtain ⟨_, _, _, _, _, rfl, _⟩ := h
    rfl
  · have nd := sc_word_ending.nd
    have hu := hu_of hr
    obtain ⟨b, wb, W, t, p, rfl, ⟨A, dx, d1, d2, d3, k1, k2, k3, L, hb, h1, h2, h3, m1, m2, m3, mL⟩, hp, ht, q⟩ := h
    refine ⟨_, (pss_cons (ps_set (i := 3) nd rfl (Or.inl rfl) (pe_int))
      (pss_cons (ps_while PassesOwn.never (PW.pt (pw_and (pt_cmpR op_le (pv 3) (pv 2) (nomark _)) (pw_and1 (pt_cmpR op_le (pv 3) (peFld K (pv 0)) (nomark _)))))
        (pss_cons (ps_set (i := 4) nd rfl (Or.inl rfl) (pe_slice sl_str (pv 1) (po_some (pe_op op_sub (pv 2) (pv 3))) (po_some (pv 2))))
        (pss_cons (ps_if (pt_cmp (pc_din hu (pv 4) (peFld K (pv 0))) rfl)
          (pss_one (ps_ret (pv 4)))
          pss_nil)
        (pss_cons (ps_if (pt_cmp (pc_dnotin hu (pv 4) (peFld K (pv 0))) rfl)
          (pss_one (ps_ret (pe_non)))
          pss_nil)
        (pss_one (ps_aug (i := 3) nd rfl (Or.inl rfl) (pe_int) ip_add))))))
      (pss_one (ps_ret (pe_non))))), ?_⟩
    have qy : ∀ e, bwd W t p = some e → Q (tx (span t e p)) H := fun e he => by rw [he] at q; exact q
    have qn : bwd W t p = none → Q .non H := fun he => by rw [he] at q; exact q
    refine while_m (fun m σ H2 => ∃ (s : Nat) (y4 : Option V), m = t.length + 1 - s ∧ σ = [some (.ref b), some (tx t), some (.int (p : Nat)), some (.int ((1 + s : Nat) : Int)), y4] ∧ H2 = H ∧ s ≤ t.length ∧ ∀ j, j < s → span t (p - 1 - j) p ∉ W) ⟨_, 0, none, rfl, rfl, rfl, Nat.zero_le _, fun j hj => by omega⟩ ?_
    rintro m σ H2 ⟨s, y4, rfl, rfl, rfl, hs, no⟩
    refine ⟨_, rfl, _, rfl, _, _, rfl, rfl, ?_⟩
    by_cases c1 : 1 + s ≤ p
    · refine ⟨true, bl_t (by omega), iteT ?_⟩
      refine ⟨_, rfl, .ref b, rfl, b, _, dx, _, _, rfl, hb, T.c_Book, T.n_Book_kept_longest, rfl, _, _, rfl, rfl, ?_⟩
      by_cases c2 : 1 + s ≤ L
      · refine ⟨true, bl_t (by omega), iteT ⟨_, fun _ _ h => h, ?_⟩⟩
        refine ⟨_, rfl, _, rfl, _, rfl, _, _, rfl, rfl, _, rfl, _, rfl, _, rfl, sx t, rfl, sx_fits (by omega), ?_⟩
        have ej : (p : Int) - ((1 + s : Nat) : Int) = ((p - 1 - s : Nat) : Int) := by omega
        rw [ej, cut_lh t (by omega) hp]
        have es : (t.drop (p - 1 - s)).take (p - (p - 1 - s)) = span t (p - 1 - s) p := rfl
        rw [es]
        refine ⟨_, rfl, .ref b, rfl, b, _, dx, _, _, rfl, hb, T.c_Book, T.n_Book_kept_words, rfl, d1, _, rfl, DGet.k (k := kS (span t (p - 1 - s) p)) h1, _, rfl, ?_⟩
        by_cases c3 : span t (p - 1 - s) p ∈ W
        · obtain ⟨v, hv⟩ := Option.ne_none_iff_exists'.mp ((m1 _).mpr c3)
          rw [hv]
          exact iteT ⟨_, rfl, qy _ (bwd_yes (by omega) c3 no)⟩
        · have hv : valV k1 (kS (span t (p - 1 - s) p)) = none := Classical.byContradiction fun h => c3 ((m1 _).mp h)
          rw [hv]
          refine iteF ⟨_, rfl, .ref b, rfl, b, _, dx, _, _, rfl, hb, T.c_Book, T.n_Book_kept_ends, rfl, d3, _, rfl, DGet.k (k := kS (span t (p - 1 - s) p)) h3, _, rfl, ?_⟩
          cases hv2 : valV k3 (kS (span t (p - 1 - s) p)) with
          | none =>
            refine iteT (qn (bwd_no fun j hj hm => ?_))
            have hjs : s < j := Classical.byContradiction fun h => by
              by_cases e : j = s
              · rw [e] at hm
                exact c3 hm
              · exact no j (by omega) hm
            refine m3 _ hm (j - s) (by omega) ?_ ?_
            · rw [span_len (by omega) hp]
              omega
            · rw [show j - s = (p - 1 - s) - (p - 1 - j) by omega, span_drop (by omega) (by omega)]
              exact hv2
          | some v =>
            refine iteF ⟨_, rfl, _, _, rfl, rfl, t.length + 1 - (s + 1), by omega, s + 1, some (tx (span t (p - 1 - s) p)), rfl, ?_, rfl, by omega, fun j hj hm => ?_⟩
            · have e : ((1 + s : Nat) : Int) + 1 = ((1 + (s + 1) : Nat) : Int) := by omega
              exact congrArg (fun z : Int => [some (.ref b), some (tx t), some (.int (p : Nat)), some (.int z), some (tx (span t (p - 1 - s) p))]) e
            · by_cases e : j = s
              · rw [e] at hm
                exact c3 hm
              · exact no j (by omega) hm
      · refine ⟨false, bl_f (by omega), iteF (qn (bwd_no fun j hj hm => ?_))⟩
        by_cases e : j < s
        · exact no j e hm
        · have := mL _ hm
          rw [span_len (by omega) hp] at this
          omega
    · refine ⟨false, bl_f (by omega), iteF (iteF (qn (bwd_no fun j hj hm => no j (by omega) hm)))⟩
end
end L2.NJ
set_option Elab.async false
set_option linter.all false
set_option maxRecDepth 100000
set_option maxHeartbeats 4000000
namespace L2.NJ
open PySem PySem.Spec PyProof.Rows PySem.W
/-- no word begins or ends another -/
structure Code (W : List (List Nat)) : Prop where
  pre : ∀ u ∈ W, ∀ v ∈ W, u <+: v → u = v
  suf : ∀ u ∈ W, ∀ v ∈ W, u <:+ v → u = v
theorem Words.code {n : Nat} {ar : List Ar} {W : List (List Nat)} (h : Words n ar W) : Code W := ⟨h.pre, h.suf⟩
theorem span_pre {t : List Nat} {b e e' : Nat} (h : e ≤ e') : span t b e <+: span t b e' := by
  unfold span
  exact List.take_prefix_take_left (by omega)
theorem span_suf {t : List Nat} {b b' e : Nat} (h : b ≤ b') (h2 : b' ≤ e) : span t b' e <:+ span t b e := by
  rw [← span_drop h h2]
  exact List.drop_suffix _ _
theorem fwd_of {W : List (List Nat)} (c : Code W) {t : List Nat} {b e : Nat} (h1 : b < e) (h2 : e ≤ t.length) (h : span t b e ∈ W) : fwd W t b = some e := by
  cases q : fwd W t b with
  | none => exact absurd h (fwd_none q h1 h2)
  | some e' =>
    have q := fwd_some q
    have key : span t b e = span t b e' := by
      rcases Nat.le_total e e' with k | k
      · exact c.pre _ h _ q.2.2 (span_pre k)
      · exact (c.pre _ q.2.2 _ h (span_pre k)).symm
    have := congrArg List.length key
    rw [span_len (by omega) h2, span_len (by omega) q.2.1] at this
    exact congrArg some (by omega)
theorem bwd_of {W : List (List Nat)} (c : Code W) {t : List Nat} {b e : Nat} (h1 : b < e) (h2 : e ≤ t.length) (h : span t b e ∈ W) : bwd W t e = some b := by
  cases q : bwd W t e with
  | none => exact absurd h (bwd_none q h1)
  | some b' =>
    have q := bwd_some q
    have key : span t b e = span t b' e := by
      rcases Nat.le_total b b' with k | k
      · exact (c.suf _ q.2 _ h (span_suf k (by omega))).symm
      · exact c.suf _ h _ q.2 (span_suf k (by omega))
    have := congrArg List.length key
    rw [span_len (by omega) h2, span_len (by omega) h2] at this
    exact congrArg some (by omega)
theorem fwd_bwd {W : List (List Nat)} (c : Code W) {t : List Nat} {b e : Nat} (h2 : e ≤ t.length) : fwd W t b = some e ↔ bwd W t e = some b := by
  constructor
  · intro h
    have h := fwd_some h
    exact bwd_of c h.1 h.2.1 h.2.2
  · intro h
    have h := bwd_some h
    exact fwd_of c h.1 h2 h.2
theorem heads_ok {W : List (List Nat)} {t : List Nat} {p : Nat} : p ∈ heads W t ↔ p ≤ t.length ∧ bwd W t p = none := by
  unfold heads
  rw [List.mem_filter, List.mem_range, decide_eq_true_iff]
  exact ⟨fun h => ⟨by omega, h.2⟩, fun h => ⟨by omega, h.2⟩⟩
theorem walk_rg0 {n : Nat} : Walk (Itr 0 n) n (fun _ => True) (fun i H v H' => H' = H ∧ v = .int ((i : Nat) : Int)) :=
  walk_range.mono (fun _ h => h) fun i H v H' _ _ ⟨h1, h2⟩ => ⟨h1, h2.trans (congrArg V.int (by omega))⟩
theorem range_get {n i z : Nat} (h : (List.range n)[i]? = some z) : i = z ∧ z < n := by
  obtain ⟨h1, h2⟩ := List.getElem?_eq_some_iff.mp h
  rw [List.getElem_range] at h2
  rw [List.length_range] at h1
  exact ⟨h2, by omega⟩
end L2.NJ
set_option Elab.async false
set_option linter.all false
set_option maxRecDepth 100000
set_option maxHeartbeats 8000000
namespace L2.NJ
open PySem PySem.Spec PyProof.Rows PySem.W
section
variable {P : Program} {w : World} {K : PySem.W.Frag} {mg : Str → Option Value} {base : Heap}
def spComings (K : PySem.W.Frag) : Sp := fun vs H Q _ => ∃ b wb W t, vs = [.ref b, tx t] ∧ BookIn K H b wb W ∧ t.length ≤ 1000 ∧
  ∀ H' l (qs : List (Addr × Nat × Nat)), Same H H' → PrAt H' l qs → qs.length ≤ t.length → (∀ z ∈ qs, fwd W t z.2.1 = some z.2.2) → (∀ b e, fwd W t b = some e → ∃ z ∈ qs, z.2.2 = e) → Q (.ref l) H'
theorem sc_comings_of : FnScope ["book", "text", "found", "place", "word"] ["book", "text"] dd21.scope := ⟨rfl, rfl, rfl, by decide +kernel, rfl, by decide +kernel, by decide +kernel⟩
theorem ok_comings_of (T : Fx K mg) : DOk P w K mg base 2 (He.ga K "comings_of") ["book", "text"] (spComings K) := by
  refine DOk.of (d := dd21) T 21 rfl rfl sc_comings_of (fun _ _ _ _ _ _ us hl => match us, hl with | [_, _], _ => rfl) (fun vs H Q E h => ?_) (fun f cdv A outer s H vs Q E hr h => ?_)
  · obtain ⟨_, _, _, _, rfl, _⟩ := h
    rfl
  · have nd := sc_comings_of.nd
    have hu := hu_of hr
    obtain ⟨b, wb, W, t, rfl, bi, ht, q⟩ := h
    refine ⟨_, (pss_cons (ps_set (i := 2) nd rfl (Or.inl rfl) (pe_lst pa_nil))
      (pss_cons (ps_for PassesOwn.never rfl (pi_range1 (by rfl) T.f_range (pa_cons (pe_callB call_len_str (by rfl) T.f_len (by decide +kernel) (pa_cons (pv 1) pa_nil)) pa_nil)) (pg_name (i := 3) nd rfl (Or.inl rfl))
        (pss_cons (ps_set (i := 4) nd rfl (Or.inl rfl) (pe_c (ok_word_at T) hr T.g_word_at (by rfl) (pa_cons (pv 0) (pa_cons (pv 1) (pa_cons (pv 3) pa_nil)))))
        (pss_one (ps_if (pt_cmp (pc_notN (pv 4)))
          (pss_one (ps_expr (pe_bm PySem.F.plainAttrs_list PySem.F.slot_list_append PySem.F.type_list_append mt_append (pv 2) (pa_cons (pe_tup (pa_cons (pv 3) (pa_cons (pe_op op_add (pv 3) (pe_callB call_len_str (by rfl) T.f_len (by decide +kernel) (pa_cons (pv 4) pa_nil))) pa_nil))) pa_nil))))
          pss_nil))))
      (pss_one (ps_ret (pv 2))))), ?_⟩
    refine ⟨Nat.zero_le _, fun l nl => ?_⟩
    have s0 : Same H (upd H l (.lst [])) := same_upd nl
    refine ⟨_, rfl, sx t, rfl, sx_fits (by omega), _, rfl, by rw [sx_len]; omega, by rw [sx_len]; omega, ?_⟩
    have el : (((sx t).length : Nat) : Int).toNat = t.length := by rw [sx_len]; omega
    rw [el]
    refine for_range (fun i σ H3 => ∃ (qs : List (Addr × Nat × Nat)) (y3 y4 : Option V), σ = [some (.ref b), some (tx t), some (.ref l), y3, y4] ∧ Same H H3 ∧ PrAt H3 l qs ∧ qs.length ≤ i ∧ (∀ z ∈ qs, fwd W t z.2.1 = some z.2.2) ∧ ∀ b, b < i → ∀ e, fwd W t b = some e → ∃ z ∈ qs, z.2.2 = e)
      ⟨[], none, none, rfl, s0, ⟨upd_same, by simp⟩, Nat.le_refl _, by simp, fun _ h => by omega⟩ (fun i σ H3 hi ⟨qs, y3, y4, es, s3, pr, lq, h1, h2⟩ => ?_) (fun σ H3 ⟨qs, y3, y4, es, s3, pr, lq, h1, h2⟩ => ?_)
    · subst es
      have e0 : (0 : Int) + (i : Int) = ((i : Nat) : Int) := by omega
      rw [e0]
      refine ⟨.ref b, rfl, _, rfl, _, rfl, b, wb, W, t, i, rfl, bi.same s3, by omega, ht, ?_⟩
      cases he : fwd W t i with
      | some e =>
        refine ⟨_, rfl, true, rfl, iteT ?_⟩
        have he2 := fwd_some he
        have hlen := span_len (t := t) (b := i) (e := e) (by omega) he2.2.1
        refine ⟨.ref l, rfl, .inl ⟨rfl, _, .inl (.inl pr.1)⟩, _, rfl, _, rfl, _, rfl, sx (span t i e), rfl, sx_fits (by omega), _, _, rfl, rfl, Nat.le_of_ble_eq_true rfl, fun T nT => ?_⟩
        have e1 : ((i : Nat) : Int) + (((sx (span t i e)).length : Nat) : Int) = ((e : Nat) : Int) := by rw [sx_len]; omega
        dsimp only
        rw [e1]
        have sT : Same H3 (upd H3 T (.tup [.int (i : Nat), .int (e : Nat)])) := same_upd nT
        have Tl : T ≠ l := fun z => by rw [z, pr.1] at nT; cases nT
        refine ⟨l, _, _, rfl, rfl, sT _ _ pr.1, fits1 (by rw [List.length_map]; omega), qs ++ [(T, i, e)], _, _, rfl, fun c o ec => ?_, ⟨?_, fun z hz => ?_⟩, by rw [List.length_append]; exact Nat.succ_le_succ lq, fun z hz => ?_, fun c hc e' he' => ?_⟩
        · rw [upd_ne (ne_of_none ec nl)]
          exact sT _ _ (s3 _ _ ec)
        · rw [upd_same, List.map_append]
          rfl
        · rcases List.mem_append.mp hz with hz | hz
          · have h := pr.2 z hz
            rw [upd_ne (ne_of h pr.1 fun z => nomatch z)]
            exact sT _ _ h
          · rw [List.mem_singleton.mp hz, upd_ne Tl, upd_same]
        · rcases List.mem_append.mp hz with hz | hz
          · exact h1 z hz
          · rw [List.mem_singleton.mp hz]
            exact he
        · by_cases z : c = i
          · rw [z, he] at he'
            cases he'
            exact ⟨(T, i, e), List.mem_append_right _ List.mem_cons_self, rfl⟩
          · obtain ⟨z, hz, hze⟩ := h2 c (by omega) e' he'
            exact ⟨z, List.mem_append_left _ hz, hze⟩
      | none =>
        refine ⟨_, rfl, false, rfl, iteF ⟨qs, _, _, rfl, s3, pr, by omega, h1, fun c hc e' he' => ?_⟩⟩
        by_cases z : c = i
        · rw [z, he] at he'
          cases he'
        · exact h2 c (by omega) e' he'
    · subst es
      exact ⟨.ref l, rfl, q _ l qs s3 pr lq h1 fun c e he => h2 c (by have := fwd_some he; omega) e he⟩
def spFirst (K : PySem.W.Frag) : Sp := fun vs H Q _ => ∃ b wb W t, vs = [.ref b, tx t] ∧ BookIn K H b wb W ∧ Code W ∧ t.length ≤ 1000 ∧
  ∀ H' l, Same H H' → H' l = some (.lst (nums (heads W t))) → Q (.ref l) H'
theorem sc_first_cuts : FnScope ["book", "text", "ended", "begin", "end", "place"] ["book", "text"] dd22.scope := ⟨rfl, rfl, rfl, by decide +kernel, rfl, by decide +kernel, by decide +kernel⟩
theorem ok_first_cuts (T : Fx K mg) : DOk P w K mg base 3 (He.ga K "first_cuts") ["book", "text"] (spFirst K) := by
  refine DOk.of (d := dd22) T 22 rfl rfl sc_first_cuts (fun _ _ _ _ _ _ us hl => match us, hl with | [_, _], _ => rfl) (fun vs H Q E h => ?_) (fun f cdv A outer s H vs Q E hr h => ?_)
  · obtain ⟨_, _, _, _, rfl, _⟩ := h
    rfl
  · have nd := sc_first_cuts.nd
    have hu := hu_of hr
    obtain ⟨b, wb, W, t, rfl, bi, co, ht, q⟩ := h
    refine ⟨_, (pss_cons (ps_set (i := 2) nd rfl (Or.inr rfl) (pe_dc (own := [("begin", 3), ("end", 4)]) rfl nd (piL K (pe_c (ok_comings_of T) hr T.g_comings_of (by rfl) (pa_cons (pv 0) (pa_cons (pv 1) pa_nil)))) (blkOk_by (N := ["book", "text", "ended", "begin", "end", "place"]) (sc := dd22.scope) (by decide +kernel)) (fun _ _ _ _ _ => (pgTup K (n := 2) (pgs_cons (pg_name (i := 3) nd rfl (Or.inl rfl)) (pgs_cons (pg_name (i := 4) nd rfl (Or.inl rfl)) pgs_nil)))) (fun _ _ _ _ _ => pts_nil) (fun _ _ _ _ _ => (pv 4)) (fun _ _ _ _ _ => (pe_bl))))
      (pss_one (ps_ret (pe_lc (own := [("place", 5)]) rfl nd (pi_range1 (by rfl) T.f_range (pa_cons (pe_op op_add (pe_callB call_len_str (by rfl) T.f_len (by decide +kernel) (pa_cons (pv 1) pa_nil)) (pe_int)) pa_nil)) (blkOk_by (N := ["book", "text", "ended", "begin", "end", "place"]) (sc := dd22.scope) (by decide +kernel)) (fun _ _ _ _ _ => (pg_name (i := 5) nd rfl (Or.inl rfl))) (fun _ _ _ _ _ => pts_one (pt_cmp (pc_dnotin hu (pv 5) (pv 2)) rfl)) (fun _ _ _ _ _ => (pv 5)))))), ?_⟩
    refine ⟨_, rfl, _, rfl, b, wb, W, t, rfl, bi, ht, fun H1 l qs s1 pr lq h1 h2 => ?_⟩
    refine ⟨l, rfl, ⟨_, SqL.of pr.1⟩, fun D hD => ?_⟩
    refine dc_map qs (Walk.len (walk_list (xs := qs.map fun z => V.ref z.1)) (by rw [List.length_map])) (by omega) hD (fun H2 sm => SqL.of (sm _ _ pr.1)) (fun z => Sum.inl (z.2.2 : Int)) (fun _ => .bl true) (fun i z x H2 H2' Ny ez sm ny y => ?_) (fun H2 s2 hd2 => ?_)
    · obtain ⟨rfl, ex⟩ := y
      rw [List.getElem?_map, ez] at ex
      obtain rfl := Option.some.inj ex
      have hm := List.mem_of_getElem? ez
      exact ⟨z.1, _, rfl, SqT.of (sm _ _ (pr.2 z hm)), rfl, _, _, rfl, _, _, rfl, rfl, rfl, _, rfl, ny _ (Same.refl _)⟩
    have km : ∀ p, p ≤ t.length → (valV (mergeK [] (qs.map fun z => ((Sum.inl (z.2.2 : Int) : Key), V.bl true))) (Sum.inl (p : Int)) = none ↔ bwd W t p = none) := fun p hp => by
      have h : valV (mergeK [] (qs.map fun z => ((Sum.inl (z.2.2 : Int) : Key), V.bl true))) (Sum.inl (p : Int)) ≠ none ↔ bwd W t p ≠ none := by
        rw [merge_mem, List.map_map, List.mem_map]
        constructor
        · rintro (h | ⟨z, hz, e⟩)
          · exact absurd rfl h
          · have e2 : z.2.2 = p := by have := Sum.inl.inj e; omega
            rw [(fwd_bwd co hp).mp (by rw [← e2]; exact h1 z hz)]
            exact fun z => nomatch z
        · intro h
          obtain ⟨c, hc⟩ := Option.ne_none_iff_exists'.mp h
          obtain ⟨z, hz, hze⟩ := h2 c p ((fwd_bwd co hp).mpr hc)
          exact .inr ⟨z, hz, by rw [← hze]; rfl⟩
      exact ⟨fun e => Classical.byContradiction fun n => h.mpr n e, fun e => Classical.byContradiction fun n => h.mp n e⟩
    generalize mergeK [] (qs.map fun z => ((Sum.inl (z.2.2 : Int) : Key), V.bl true)) = kvs at km hd2
    refine ⟨_, rfl, sx t, rfl, sx_fits (by omega), _, _, rfl, rfl, _, rfl, by rw [sx_len]; omega, by rw [sx_len]; omega, fun E nE => ?_⟩
    have el : ((((sx t).length : Nat) : Int) + 1).toNat = (List.range (t.length + 1)).length := by rw [sx_len, List.length_range]; omega
    rw [el]
    refine lc_fm (List.range (t.length + 1)) walk_rg0 (by rw [List.length_range]; omega) nE (fun _ _ => trivial) (fun p => decide (bwd W t p = none)) (fun p => .int (p : Nat)) (fun i z x H3 H3' Ny Nn ez sm ny nn y => ?_) (fun H3 s3 hd3 => ?_)
    · obtain ⟨rfl, rfl⟩ := y
      obtain ⟨rfl, hz⟩ := range_get ez
      refine ⟨rfl, _, rfl, .ref D, rfl, D, _, rfl, DGet.k (k := Sum.inl (i : Int)) (sm _ _ hd2), _, rfl, ?_⟩
      cases hv : valV kvs (Sum.inl (i : Int)) with
      | none => exact iteT ⟨_, rfl, ny _ (Same.refl _) (decide_eq_true ((km i (by omega)).mp hv))⟩
      | some v => exact iteF (nn _ (Same.refl _) (decide_eq_false fun e => by rw [(km i (by omega)).mpr e] at hv; cases hv))
    · refine q _ E (s1.trans (s2.trans s3)) ?_
      rw [hd3]
      rfl
def spFrom (K : PySem.W.Frag) : Sp := fun vs H Q _ => ∃ b wb W t p, vs = [.ref b, tx t, .int (p : Nat)] ∧ BookIn K H b wb W ∧ p ≤ t.length ∧ t.length ≤ 1000 ∧
  ∀ H' T, Same H H' → H' T = some (.tup (nums (readFrom W t p))) → Q (.ref T) H'
theorem sc_reading_from : FnScope ["book", "text", "place", "found", "word"] ["book", "text", "place"] dd23.scope := ⟨rfl, rfl, rfl, by decide +kernel, rfl, by decide +kernel, by decide +kernel⟩
theorem ok_reading_from (T : Fx K mg) : DOk P w K mg base 2 (He.ga K "reading_from") ["book", "text", "place"] (spFrom K) := by
  refine DOk.of (d := dd23) T 23 rfl rfl sc_reading_from (fun _ _ _ _ _ _ us hl => match us, hl with | [_, _, _], _ => rfl) (fun vs H Q E h => ?_) (fun f cdv A outer s H vs Q E hr h => ?_)
  · obtain ⟨_, _, _, _, _, rfl, _⟩ := h
    rfl
  · have nd := sc_reading_from.nd
    have hu := hu_of hr
    obtain ⟨b, wb, W, t, p, rfl, bi, hp, ht, q⟩ := h
    refine ⟨_, (pss_cons (ps_set (i := 3) nd rfl (Or.inl rfl) (pe_lst (pa_cons (pv 2) pa_nil)))
      (pss_cons (ps_set (i := 4) nd rfl (Or.inl rfl) (pe_c (ok_word_at T) hr T.g_word_at (by rfl) (pa_cons (pv 0) (pa_cons (pv 1) (pa_cons (pv 2) pa_nil)))))
      (pss_cons (ps_while PassesOwn.never (pt_cmp (pc_notN (pv 4)))
        (pss_cons (ps_aug (i := 2) nd rfl (Or.inl rfl) (pe_callB call_len_str (by rfl) T.f_len (by decide +kernel) (pa_cons (pv 4) pa_nil)) ip_add)
        (pss_cons (ps_expr (pe_bm PySem.F.plainAttrs_list PySem.F.slot_list_append PySem.F.type_list_append mt_append (pv 3) (pa_cons (pv 2) pa_nil)))
        (pss_one (ps_set (i := 4) nd rfl (Or.inl rfl) (pe_c (ok_word_at T) hr T.g_word_at (by rfl) (pa_cons (pv 0) (pa_cons (pv 1) (pa_cons (pv 2) pa_nil)))))))))
      (pss_one (ps_ret (pe_callTy (ctupOf K) (by rfl) T.f_tuple (by decide +kernel) (pa_cons (pv 3) pa_nil))))))), ?_⟩
    refine ⟨_, rfl, Nat.le_of_ble_eq_true rfl, fun l nl => ?_⟩
    have s0 : Same H (upd H l (.lst [.int (p : Nat)])) := same_upd nl
    refine ⟨.ref b, rfl, _, rfl, _, rfl, b, wb, W, t, p, rfl, bi.same s0, hp, ht, ?_⟩
    refine while_m (fun m σ H2 => ∃ (acc : List Nat) (r : Nat), m = t.length - r ∧ σ = [some (.ref b), some (tx t), some (.int (r : Nat)), some (.ref l), some (wordV (fwd W t r) fun e => span t r e)] ∧ Same H H2 ∧ H2 l = some (.lst (nums (acc ++ [r]))) ∧ acc.length ≤ r ∧ r ≤ t.length ∧ acc ++ readFrom W t r = readFrom W t p)
      ⟨_, [], p, rfl, rfl, s0, upd_same, Nat.zero_le _, hp, rfl⟩ ?_
    rintro m σ H2 ⟨acc, r, rfl, rfl, s2, hl, la, hr, er⟩
    cases he : fwd W t r with
    | none =>
      refine ⟨_, rfl, false, rfl, iteF ⟨.ref l, rfl, l, _, rfl, .inl ⟨SqL.of hl, fun T nT => ?_⟩⟩⟩
      rw [readFrom_stop he] at er
      rw [er]
      exact q _ T (s2.trans (same_upd nT)) upd_same
    | some e =>
      have he2 := fwd_some he
      have hlen := span_len (t := t) (b := r) (e := e) (by omega) he2.2.1
      refine ⟨_, rfl, true, rfl, iteT ⟨_, fun _ _ h => h, ?_⟩⟩
      refine ⟨_, rfl, _, rfl, sx (span t r e), rfl, sx_fits (by omega), _, _, rfl, rfl, ?_⟩
      have e1 : ((r : Nat) : Int) + (((sx (span t r e)).length : Nat) : Int) = ((e : Nat) : Int) := by rw [sx_len]; omega
      dsimp only
      rw [e1]
      refine ⟨.ref l, rfl, .inl ⟨rfl, _, .inl (.inl hl)⟩, _, rfl, l, _, _, rfl, rfl, hl, fits1 (by rw [nums_len, List.length_append]; show acc.length + 1 ≤ 100000; omega), ?_⟩
      have s3 : Same H (upd H2 l (.lst (nums (acc ++ [r]) ++ [.int (e : Nat)]))) := fun c o ec => by
        rw [upd_ne (ne_of_none ec nl)]
        exact s2 _ _ ec
      refine ⟨.ref b, rfl, _, rfl, _, rfl, b, wb, W, t, e, rfl, bi.same s3, he2.2.1, ht, t.length - e, by omega, acc ++ [r], e, rfl, rfl, s3, ?_, by rw [List.length_append]; show acc.length + 1 ≤ e; omega, he2.2.1, ?_⟩
      · rw [upd_same]
        unfold nums
        simp
      · rw [readFrom_go he] at er
        rw [← er, List.append_assoc]
        rfl
def spWith (K : PySem.W.Frag) : Sp := fun vs H Q _ => ∃ b wb W t p, vs = [.ref b, tx t, .int (p : Nat)] ∧ BookIn K H b wb W ∧ p ≤ t.length ∧ t.length ≤ 1000 ∧
  ∀ H' T, Same H H' → H' T = some (.tup (nums (readFrom W t (headOf W t p)))) → Q (.ref T) H'
theorem sc_reading_with : FnScope ["book", "text", "place", "word"] ["book", "text", "place"] dd24.scope := ⟨rfl, rfl, rfl, by decide +kernel, rfl, by decide +kernel, by decide +kernel⟩
theorem ok_reading_with (T : Fx K mg) : DOk P w K mg base 3 (He.ga K "reading_with") ["book", "text", "place"] (spWith K) := by
  refine DOk.of (d := dd24) T 24 rfl rfl sc_reading_with (fun _ _ _ _ _ _ us hl => match us, hl with | [_, _, _], _ => rfl) (fun vs H Q E h => ?_) (fun f cdv A outer s H vs Q E hr h => ?_)
  · obtain ⟨_, _, _, _, _, rfl, _⟩ := h
    rfl
  · have nd := sc_reading_with.nd
    have hu := hu_of hr
    obtain ⟨b, wb, W, t, p, rfl, bi, hp, ht, q⟩ := h
    refine ⟨_, (pss_cons (ps_set (i := 3) nd rfl (Or.inl rfl) (pe_c (ok_word_ending T) hr T.g_word_ending (by rfl) (pa_cons (pv 0) (pa_cons (pv 1) (pa_cons (pv 2) pa_nil)))))
      (pss_cons (ps_while PassesOwn.never (pt_cmp (pc_notN (pv 3)))
        (pss_cons (ps_aug (i := 2) nd rfl (Or.inl rfl) (pe_callB call_len_str (by rfl) T.f_len (by decide +kernel) (pa_cons (pv 3) pa_nil)) ip_sub)
        (pss_one (ps_set (i := 3) nd rfl (Or.inl rfl) (pe_c (ok_word_ending T) hr T.g_word_ending (by rfl) (pa_cons (pv 0) (pa_cons (pv 1) (pa_cons (pv 2) pa_nil))))))))
      (pss_one (ps_ret (pe_c (ok_reading_from T) hr T.g_reading_from (by rfl) (pa_cons (pv 0) (pa_cons (pv 1) (pa_cons (pv 2) pa_nil)))))))), ?_⟩
    refine ⟨.ref b, rfl, _, rfl, _, rfl, b, wb, W, t, p, rfl, bi, hp, ht, ?_⟩
    refine while_m (fun m σ H2 => ∃ r : Nat, m = r ∧ σ = [some (.ref b), some (tx t), some (.int (r : Nat)), some (wordV (bwd W t r) fun e => span t e r)] ∧ H2 = H ∧ r ≤ t.length ∧ headOf W t r = headOf W t p)
      ⟨_, p, rfl, rfl, rfl, hp, rfl⟩ ?_
    rintro m σ H2 ⟨r, rfl, rfl, rfl, hr, er⟩
    cases he : bwd W t m with
    | none =>
      refine ⟨_, rfl, false, rfl, iteF ⟨.ref b, rfl, _, rfl, _, rfl, b, wb, W, t, m, rfl, bi, hr, ht, fun H' T' s hT => q _ T' s ?_⟩⟩
      rw [← er, headOf_stop he]
      exact hT
    | some e =>
      have he2 := bwd_some he
      have hlen := span_len (t := t) (b := e) (e := m) (by omega) hr
      refine ⟨_, rfl, true, rfl, iteT ⟨_, fun _ _ h => h, ?_⟩⟩
      refine ⟨_, rfl, _, rfl, sx (span t e m), rfl, sx_fits (by omega), _, _, rfl, rfl, ?_⟩
      have e1 : ((m : Nat) : Int) - (((sx (span t e m)).length : Nat) : Int) = ((e : Nat) : Int) := by rw [sx_len]; omega
      dsimp only
      rw [e1]
      refine ⟨.ref b, rfl, _, rfl, _, rfl, b, wb, W, t, e, rfl, bi, by omega, ht, e, he2.1, e, rfl, rfl, rfl, by omega, ?_⟩
      rw [← er, headOf_go he]
def spReads (K : PySem.W.Frag) : Sp := fun vs H Q _ => ∃ b wb W t, vs = [.ref b, tx t] ∧ BookIn K H b wb W ∧ Code W ∧ t.length ≤ 1000 ∧
  ∀ H' l (qs : List (Addr × Nat)), Same H H' → H' l = some (.lst (qs.map fun q => .ref q.1)) → qs.map (·.2) = heads W t → (∀ q ∈ qs, H' q.1 = some (.tup (nums (readFrom W t q.2)))) → Q (.ref l) H'
theorem sc_readings_of : FnScope ["book", "text", "place"] ["book", "text"] dd25.scope := ⟨rfl, rfl, rfl, by decide +kernel, rfl, by decide +kernel, by decide +kernel⟩
theorem ok_readings_of (T : Fx K mg) : DOk P w K mg base 4 (He.ga K "readings_of") ["book", "text"] (spReads K) := by
  refine DOk.of (d := dd25) T 25 rfl rfl sc_readings_of (fun _ _ _ _ _ _ us hl => match us, hl with | [_, _], _ => rfl) (fun vs H Q E h => ?_) (fun f cdv A outer s H vs Q E hr h => ?_)
  · obtain ⟨_, _, _, _, rfl, _⟩ := h
    rfl
  · have nd := sc_readings_of.nd
    have hu := hu_of hr
    obtain ⟨b, wb, W, t, rfl, bi, co, ht, q⟩ := h
    refine ⟨_, (pss_one (ps_ret (pe_lc (own := [("place", 2)]) rfl nd (piL K (pe_c (ok_first_cuts T) hr T.g_first_cuts (by rfl) (pa_cons (pv 0) (pa_cons (pv 1) pa_nil)))) (blkOk_by (N := ["book", "text", "place"]) (sc := dd25.scope) (by decide +kernel)) (fun _ _ _ _ _ => (pg_name (i := 2) nd rfl (Or.inl rfl))) (fun _ _ _ _ _ => pts_nil) (fun _ _ _ _ _ => (pe_c (ok_reading_from T) hr T.g_reading_from (by rfl) (pa_cons (pv 0) (pa_cons (pv 1) (pa_cons (pv 2) pa_nil)))))))), ?_⟩
    have hh : ∀ p ∈ heads W t, p ≤ t.length := fun p hp => (heads_ok.mp hp).1
    have hl : (heads W t).length ≤ t.length + 1 := by
      have := List.length_filter_le (fun p => decide (bwd W t p = none)) (List.range (t.length + 1))
      rw [List.length_range] at this
      exact this
    refine ⟨.ref b, rfl, _, rfl, b, wb, W, t, rfl, bi, co, ht, fun H1 l s1 hl1 => ?_⟩
    refine ⟨l, rfl, ⟨_, SqL.of hl1⟩, fun D hD => ?_⟩
    refine lc_mt (heads W t) (Walk.len (walk_list (xs := nums (heads W t))) (by rw [nums_len])) (by omega) hD (fun H2 sm => SqL.of (sm _ _ hl1)) (fun p => nums (readFrom W t p)) (fun i z x H2 H2' Ny ez sm ny y => ?_) (fun H2 qs s2 h1 h2 h3 => q _ D qs (s1.trans s2) h1 h2 h3)
    obtain ⟨rfl, ex⟩ := y
    obtain ⟨t', et, rfl⟩ := nums_get ex
    rw [ez] at et
    cases et
    exact ⟨rfl, .ref b, rfl, _, rfl, _, rfl, b, wb, W, t, z, rfl, (bi.same s1).same sm, hh z (List.mem_of_getElem? ez), ht, fun H3 T3 s3 h3 => ny _ T3 s3 h3⟩
def spReadings (K : PySem.W.Frag) : Sp := fun vs H Q _ => ∃ b wb W t n ar, vs = [.ref b, tx t] ∧ BookIn K H b wb W ∧ WebAt K H wb n ar ∧ WebIn n ar ∧ Stretch n ar t ∧ Code W ∧ t.length ≤ 1000 ∧ (∀ c ∈ t, Lt c) ∧
  ∀ H' l (qs : List (Addr × Nat)), Same H H' → H' l = some (.lst (qs.map fun q => .ref q.1)) → qs.map (·.2) = heads W t → (∀ q ∈ qs, H' q.1 = some (.tup (nums (readFrom W t q.2)))) → Q (.ref l) H'
theorem sc_readings : FnScope ["book", "text"] ["book", "text"] dd26.scope := ⟨rfl, rfl, rfl, by decide +kernel, rfl, by decide +kernel, by decide +kernel⟩
theorem ok_readings (T : Fx K mg) : DOk P w K mg base 7 (He.ga K "readings") ["book", "text"] (spReadings K) := by
  refine DOk.of (d := dd26) T 26 rfl rfl sc_readings (fun _ _ _ _ _ _ us hl => match us, hl with | [_, _], _ => rfl) (fun vs H Q E h => ?_) (fun f cdv A outer s H vs Q E hr h => ?_)
  · obtain ⟨_, _, _, _, _, _, rfl, _⟩ := h
    rfl
  · have nd := sc_readings.nd
    have hu := hu_of hr
    obtain ⟨b, wb, W, t, n, ar, rfl, bi, wa, wi, st, co, ht, ab, q⟩ := h
    refine ⟨_, (pss_cons (ps_expr (pe_c (ok_check_stretch T) hr T.g_check_stretch (by rfl) (pa_cons (peFld K (pv 0)) (pa_cons (pv 1) pa_nil))))
      (pss_one (ps_ret (pe_c (ok_readings_of T) hr T.g_readings_of (by rfl) (pa_cons (pv 0) (pa_cons (pv 1) pa_nil)))))), ?_⟩
    obtain ⟨A, dx, d1, d2, d3, k1, k2, k3, L, hb, _⟩ := bi.ex
    refine ⟨.ref b, rfl, b, _, dx, _, _, rfl, hb, T.c_Book, T.n_Book_web, rfl, _, rfl, wb, n, ar, t, rfl, wa, wi, st, ht, ab, fun H1 s1 => ?_⟩
    exact ⟨.ref b, rfl, _, rfl, b, wb, W, t, rfl, bi.same s1, co, ht, fun H2 l qs s2 h1 h2 h3 => q _ l qs (s1.trans s2) h1 h2 h3⟩
def spReadAt (K : PySem.W.Frag) : Sp := fun vs H Q _ => ∃ b wb W t n ar p, vs = [.ref b, tx t, .int (p : Nat)] ∧ BookIn K H b wb W ∧ WebAt K H wb n ar ∧ WebIn n ar ∧ Stretch n ar t ∧ p ≤ t.length ∧ t.length ≤ 1000 ∧ (∀ c ∈ t, Lt c) ∧
  ∀ H' T, Same H H' → H' T = some (.tup (nums (readFrom W t (headOf W t p)))) → Q (.ref T) H'
theorem sc_reading_at : FnScope ["book", "text", "place"] ["book", "text", "place"] dd27.scope := ⟨rfl, rfl, rfl, by decide +kernel, rfl, by decide +kernel, by decide +kernel⟩
theorem ok_reading_at (T : Fx K mg) : DOk P w K mg base 7 (He.ga K "reading_at") ["book", "text", "place"] (spReadAt K) := by
  refine DOk.of (d := dd27) T 27 rfl rfl sc_reading_at (fun _ _ _ _ _ _ us hl => match us, hl with | [_, _, _], _ => rfl) (fun vs H Q E h => ?_) (fun f cdv A outer s H vs Q E hr h => ?_)
  · obtain ⟨_, _, _, _, _, _, _, rfl, _⟩ := h
    rfl
  · have nd := sc_reading_at.nd
    have hu := hu_of hr
    obtain ⟨b, wb, W, t, n, ar, p, rfl, bi, wa, wi, st, hp, ht, ab, q⟩ := h
    refine ⟨_, (pss_cons (ps_expr (pe_c (ok_check_stretch T) hr T.g_check_stretch (by rfl) (pa_cons (peFld K (pv 0)) (pa_cons (pv 1) pa_nil))))
      (pss_cons (ps_if (pt_not (pt_val (pe_c (ok_is_within T) hr T.g_is_within (by rfl) (pa_cons (pv 2) (pa_cons (pe_int) (pa_cons (pe_callB call_len_str (by rfl) T.f_len (by decide +kernel) (pa_cons (pv 1) pa_nil)) pa_nil))))))
        (pss_one ps_never)
        pss_nil)
      (pss_one (ps_ret (pe_c (ok_reading_with T) hr T.g_reading_with (by rfl) (pa_cons (pv 0) (pa_cons (pv 1) (pa_cons (pv 2) pa_nil)))))))), ?_⟩
    obtain ⟨A, dx, d1, d2, d3, k1, k2, k3, L, hb, _⟩ := bi.ex
    refine ⟨.ref b, rfl, b, _, dx, _, _, rfl, hb, T.c_Book, T.n_Book_web, rfl, _, rfl, wb, n, ar, t, rfl, wa, wi, st, ht, ab, fun H1 s1 => ?_⟩
    refine ⟨_, rfl, _, rfl, sx t, rfl, sx_fits (by omega), _, _, _, rfl, ?_⟩
    have e1 : (decide ((0 : Int) ≤ (p : Int)) && decide ((p : Int) ≤ (((sx t).length : Nat) : Int))) = true := by
      rw [decide_eq_true (by omega), decide_eq_true (by rw [sx_len]; omega)]
      rfl
    rw [e1]
    refine ⟨true, rfl, iteF ?_⟩
    exact ⟨.ref b, rfl, _, rfl, _, rfl, b, wb, W, t, p, rfl, bi.same s1, hp, ht, fun H2 T2 s2 h2 => q _ T2 (s1.trans s2) h2⟩
end
end L2.NJ
set_option Elab.async false
set_option linter.all false
set_option maxRecDepth 100000
set_option maxHeartbeats 4000000
namespace L2.NJ
open PySem PySem.Spec PyProof.Rows PySem.W
/-- two statements, met at what stands between them -/
theorem split {A B : TS} {D : Ends} {σ : L2.St} {H : Hp} (I : L2.St → Hp → Prop) (hB : ∀ σ' H', I σ' H' → B D σ' H') (hA : ∀ k : L2.St → Hp → Prop, (∀ σ' H', I σ' H' → k σ' H') → A { D with nx := k } σ H) : tSeq A B D σ H := hA _ hB
/-! ### the hand that draws -/
def hand5 (c : Addr) (i : Nat) (r s t : Int) : List V := [.ref c, .int (i : Nat), .int r, .int s, .int t]
structure HandIs (H : Hp) (h c : Addr) (cells : List Int) (i : Nat) (r s t : Int) : Prop where
  ne : c ≠ h
  hh : H h = some (.lst (hand5 c i r s t))
  hc : H c = some (.lst (cells.map V.int))
def HandAt (H : Hp) (h c : Addr) : Prop := ∃ cells i r s t, HandIs H h c cells i r s t
theorem HandIs.put {H : Hp} {h c : Addr} {cells : List Int} {i : Nat} {r s t : Int} (k : HandIs H h c cells i r s t) {i' : Nat} {r' s' t' : Int} : HandIs (upd H h (.lst (hand5 c i' r' s' t'))) h c cells i' r' s' t' :=
  ⟨k.ne, upd_same, by rw [upd_ne k.ne]; exact k.hc⟩
theorem HandAt.same {H H' : Hp} {h c : Addr} (e : Same H H') (k : HandAt H h c) : HandAt H' h c :=
  let ⟨cells, i, r, s, t, q⟩ := k
  ⟨cells, i, r, s, t, q.ne, e _ _ q.hh, e _ _ q.hc⟩
theorem HandAt.ex {H : Hp} {h c : Addr} (k : HandAt H h c) : ∃ xs, H h = some (.lst xs) := let ⟨_, _, _, _, _, q⟩ := k; ⟨_, q.hh⟩
theorem HandAt.upd {H : Hp} {h c b : Addr} {o : HO} (k : HandAt H h c) (n1 : h ≠ b) (n2 : c ≠ b) : HandAt (upd H b o) h c :=
  let ⟨cells, i, r, s, t, q⟩ := k
  ⟨cells, i, r, s, t, q.ne, by rw [upd_ne n1]; exact q.hh, by rw [upd_ne n2]; exact q.hc⟩
theorem HandAt.fresh {H : Hp} {h c l : Addr} (k : HandAt H h c) (n : H l = none) : h ≠ l ∧ c ≠ l :=
  let ⟨cells, i, r, s, t, q⟩ := k
  ⟨ne_of_none q.hh n, ne_of_none q.hc n⟩
theorem HandAt.ne {H : Hp} {h c b : Addr} {o : HO} (k : HandAt H h c) (hb : H b = some o) (ho : ∀ xs, o ≠ .lst xs) : b ≠ h := fun e => by
  obtain ⟨xs, q⟩ := k.ex
  rw [e, q] at hb
  exact ho xs (Option.some.inj hb).symm
theorem SB.free {a : Addr} {H H' : Hp} (e : SB a H H') (ha : H' a ≠ none) {l : Addr} (h : H' l = none) : H l = none := by
  cases q : H l with
  | none => rfl
  | some o =>
    by_cases z : l = a
    · rw [z] at h
      exact absurd h ha
    · rw [e l o z q] at h
      cases h
theorem m47 : (0 : Int) < 2147483647 := by decide
theorem md47 (z : Int) : -(2 ^ 64) < z % 2147483647 ∧ z % 2147483647 < 2 ^ 64 := by
  have h1 := Int.emod_nonneg z (by decide : (2147483647 : Int) ≠ 0)
  have h2 := Int.emod_lt_of_pos z m47
  omega
theorem m99 : (0 : Int) < 2147483399 := by decide
theorem m29 : (0 : Int) < 2147483629 := by decide
theorem HandAt.some {H : Hp} {h c : Addr} (k : HandAt H h c) : H h ≠ none := by
  obtain ⟨xs, q⟩ := k.ex
  rw [q]
  exact fun z => nomatch z
end L2.NJ
set_option Elab.async false
set_option linter.all false
set_option maxRecDepth 100000
set_option maxHeartbeats 8000000
namespace L2.NJ
open PySem PySem.Spec PyProof.Rows PySem.W
section
variable {P : Program} {w : World} {K : PySem.W.Frag} {mg : Str → Option Value} {base : Heap}
def spHand (K : PySem.W.Frag) : Sp := fun vs H Q _ => ∃ (a : Addr) (ns : List Int), vs = [.ref a] ∧ SqL K H a (ns.map V.int) ∧ ns.length ≤ 63 ∧ ∀ H' h c, HandAt H' h c → Q (.ref h) H'
theorem sc__law_hand : FnScope ["_law_script", "_law_cells", "_law_cell"] ["_law_script"] dd34.scope := ⟨rfl, rfl, rfl, by decide +kernel, rfl, by decide +kernel, by decide +kernel⟩
theorem ok__law_hand (T : Fx K mg) : DOk P w K mg base 1 (He.ga K "_law_hand") ["_law_script"] (spHand K) := by
  refine DOk.of (d := dd34) T 34 rfl rfl sc__law_hand (fun _ _ _ _ _ _ us hl => match us, hl with | [_], _ => rfl) (fun vs H Q E h => ?_) (fun f cdv A outer s H vs Q E hr h => ?_)
  · obtain ⟨_, _, rfl, _⟩ := h
    rfl
  · have nd := sc__law_hand.nd
    have hu := hu_of hr
    obtain ⟨a, ns, rfl, hs, hl, q⟩ := h
    refine ⟨_, (pss_cons (ps_setLc (i := 1) (own := [("_law_cell", 2)]) rfl nd rfl rfl (sw_true rfl rfl rfl (by decide +kernel)) (piL K (pe_slice sl_list (pv 0) po_none (po_some (pe_int)))) (blkOk_by (N := ["_law_script", "_law_cells", "_law_cell"]) (sc := dd34.scope) (by decide +kernel)) (fun _ _ _ _ _ => (pg_name (i := 2) nd rfl (Or.inl rfl))) (fun _ _ _ _ _ => pts_nil) (fun _ _ _ _ _ => (pe_callB call_abs (by rfl) T.f_abs (by decide +kernel) (pa_cons (pe_callTy call_int1 (by rfl) T.f_int (by decide +kernel) (pa_cons (pv 2) pa_nil)) pa_nil))))
      (pss_one (ps_ret (pe_lst (pa_cons (pv 1) (pa_cons (pe_int) (pa_cons (pe_int) (pa_cons (pe_op op_add (pe_int) (pe_callB (clenS K) (by rfl) T.f_len (by decide +kernel) (pa_cons (pv 1) pa_nil))) (pa_cons (pe_int) pa_nil))))))))), ?_⟩
    refine ⟨_, rfl, _, rfl, a, _, rfl, hs, fun p np => ?_⟩
    obtain ⟨ms, hms⟩ : ∃ ms : List Int, cutV (ns.map V.int) none (some 63) = ms.map V.int := by
      unfold cutV
      generalize HT.sIx (ns.map V.int).length (ns.map V.int).length (some 63) - HT.sIx (ns.map V.int).length 0 none = j
      generalize HT.sIx (ns.map V.int).length 0 none = i
      exact ⟨(ns.drop i).take j, by rw [List.map_take, List.map_drop]⟩
    have lms : ms.length ≤ 63 := by
      have := cutV_length (ns.map V.int) none (some 63)
      rw [hms, List.length_map, List.length_map] at this
      omega
    rw [hms]
    refine ⟨p, rfl, ⟨_, SqL.of upd_same⟩, fun D hD => ?_⟩
    refine lc_map ms (Walk.len (walk_list (xs := ms.map V.int)) (by rw [List.length_map])) (by omega) hD (fun H1 sm => SqL.of (sm _ _ upd_same)) (fun x => .int (if x < 0 then -x else x)) (fun i z x H1 H1' Ny ez sm ny y => ?_) (fun H1 s1 hd => ?_)
    · obtain ⟨rfl, ex⟩ := y
      rw [List.getElem?_map, ez] at ex
      obtain rfl := Option.some.inj ex
      exact ⟨rfl, _, rfl, .inl ⟨_, rfl, _, rfl, ny _ (Same.refl _)⟩⟩
    refine ⟨_, rfl, _, rfl, D, _, rfl, .inl (SqL.of hd), _, _, rfl, rfl, Nat.le_of_ble_eq_true rfl, fun h nh => ?_⟩
    have Dh : D ≠ h := fun e => by rw [← e, hd] at nh; cases nh
    refine q _ h D ⟨ms.map fun x => if x < 0 then -x else x, 0, 0, _, 0, Dh, upd_same, ?_⟩
    rw [upd_ne Dh, hd, List.map_map]
    rfl
def spDraw (K : PySem.W.Frag) : Sp := fun vs H Q _ => ∃ h c m, vs = [.ref h, .int ((m : Nat) : Int)] ∧ HandAt H h c ∧ 0 < m ∧ m < 1073741824 ∧ ∀ H' d, d < m → HandAt H' h c → SB h H H' → Q (.int ((d : Nat) : Int)) H'
theorem sc__law_draw : FnScope ["_law_hand_here", "_law_many", "_law_cell", "_law_digit", "_law_number"] ["_law_hand_here", "_law_many"] dd35.scope := ⟨rfl, rfl, rfl, by decide +kernel, rfl, by decide +kernel, by decide +kernel⟩
theorem ok__law_draw (T : Fx K mg) : DOk P w K mg base 1 (He.ga K "_law_draw") ["_law_hand_here", "_law_many"] (spDraw K) := by
  refine DOk.of (d := dd35) T 35 rfl rfl sc__law_draw (fun _ _ _ _ _ _ us hl => match us, hl with | [_, _], _ => rfl) (fun vs H Q E h => ?_) (fun f cdv A outer s H vs Q E hr h => ?_)
  · obtain ⟨_, _, _, rfl, _⟩ := h
    rfl
  · have nd := sc__law_draw.nd
    have hu := hu_of hr
    obtain ⟨h, c, m, rfl, ⟨cells, i, r, s0, t, k⟩, m0, m1, q⟩ := h
    refine ⟨_, (pss_cons (ps_if (PW.pt (pw_and (pt_cmpR op_eq (pe_ix (ixL K) (pv 0) (pe_int) (fun _ _ => rfl)) (pe_int) (nomark _)) (pw_and1 (pt_cmpR op_lt (pe_ix (ixL K) (pv 0) (pe_int) (fun _ _ => rfl)) (pe_callB (clenS K) (by rfl) T.f_len (by decide +kernel) (pa_cons (pe_ix (ixL K) (pv 0) (pe_int) (fun _ _ => rfl)) pa_nil)) (nomark _)))))
        (pss_cons (ps_set (i := 2) nd rfl (Or.inl rfl) (pe_ix (ixL K) (pe_ix (ixL K) (pv 0) (pe_int) (fun _ _ => rfl)) (pe_ix (ixL K) (pv 0) (pe_int) (fun _ _ => rfl)) (fun _ _ => rfl)))
        (pss_cons (ps_asg (pe_op op_add (pe_ix (ixL K) (pv 0) (pe_int) (fun _ _ => rfl)) (pe_int)) (pg_sub (pv 0) (pe_int) set_list))
        (pss_cons (ps_asg (pe_op op_mod (pe_callTy call_int1 (by rfl) T.f_int (by decide +kernel) (pa_cons (pe_op op_add (pe_op op_add (pe_op op_mul (pe_ix (ixL K) (pv 0) (pe_int) (fun _ _ => rfl)) (pe_int)) (pv 2)) (pe_int)) pa_nil)) (pe_int)) (pg_sub (pv 0) (pe_int) set_list))
        (pss_one (ps_if (pt_cmpR op_ge (pv 2) (pe_op op_pow (pe_int) (pe_int)) (nomark _))
          (pss_one (ps_asg (pv 2) (pg_sub (pv 0) (pe_int) set_list)))
          pss_nil)))))
        pss_nil)
      (pss_cons (ps_if (pt_cmpR op_gt (pe_ix (ixL K) (pv 0) (pe_int) (fun _ _ => rfl)) (pe_int) (nomark _))
        (pss_cons (ps_set (i := 3) nd rfl (Or.inl rfl) (pe_op op_mod (pe_callTy call_int1 (by rfl) T.f_int (by decide +kernel) (pa_cons (pe_ix (ixL K) (pv 0) (pe_int) (fun _ _ => rfl)) pa_nil)) (pv 1)))
        (pss_cons (ps_asg (pe_op op_fdiv (pe_ix (ixL K) (pv 0) (pe_int) (fun _ _ => rfl)) (pv 1)) (pg_sub (pv 0) (pe_int) set_list))
        (pss_one (ps_ret (pv 3)))))
        pss_nil)
      (pss_cons (ps_asg (pe_op op_add (pe_ix (ixL K) (pv 0) (pe_int) (fun _ _ => rfl)) (pe_int)) (pg_sub (pv 0) (pe_int) set_list))
      (pss_cons (ps_set (i := 4) nd rfl (Or.inl rfl) (pe_op op_mod (pe_callTy call_int1 (by rfl) T.f_int (by decide +kernel) (pa_cons (pe_op op_mul (pe_callTy call_int1 (by rfl) T.f_int (by decide +kernel) (pa_cons (pe_op op_add (pe_ix (ixL K) (pv 0) (pe_int) (fun _ _ => rfl)) (pe_op op_mul (pe_int) (pe_ix (ixL K) (pv 0) (pe_int) (fun _ _ => rfl)))) pa_nil)) (pe_int)) pa_nil)) (pe_int)))
      (pss_cons (ps_set (i := 4) nd rfl (Or.inl rfl) (pe_op op_mod (pe_callTy call_int1 (by rfl) T.f_int (by decide +kernel) (pa_cons (pe_op op_mul (pv 4) (pe_op op_add (pe_op op_fdiv (pv 4) (pe_int)) (pe_int))) pa_nil)) (pe_int)))
      (pss_cons (ps_set (i := 4) nd rfl (Or.inl rfl) (pe_op op_mod (pe_callTy call_int1 (by rfl) T.f_int (by decide +kernel) (pa_cons (pe_op op_mul (pv 4) (pe_op op_add (pe_op op_fdiv (pv 4) (pe_int)) (pe_int))) pa_nil)) (pe_int)))
      (pss_one (ps_ret (pe_op op_mod (pe_callTy call_int1 (by rfl) T.f_int (by decide +kernel) (pa_cons (pe_op op_fdiv (pv 4) (pe_int)) pa_nil)) (pv 1)))))))))), ?_⟩
    have dg : ∀ z : Int, ∃ d : Nat, z % (m : Int) = (d : Int) ∧ d < m := fun z => by
      have h1 := Int.emod_nonneg z (by omega : (m : Int) ≠ 0)
      have h2 := Int.emod_lt_of_pos z (by omega : (0 : Int) < m)
      exact ⟨(z % (m : Int)).toNat, by omega, by omega⟩
    refine split (fun σ' H' => ∃ y2 i r s t, σ' = [some (.ref h), some (.int (m : Nat)), y2, none, none] ∧ SB h H H' ∧ HandIs H' h c cells i r s t) (fun σ' H' ⟨y2, i, r, s, t, es, sb, k⟩ => ?_) (fun nxt key => ?_)
    · subst es
      have sq := SqL.of (K := K) k.hh
      refine split (fun σ2 H2 => σ2 = [some (.ref h), some (.int (m : Nat)), y2, none, none] ∧ SB h H H2 ∧ HandIs H2 h c cells i r s t) (fun σ2 H2 ⟨es, sb, k⟩ => ?_) (fun nxt key => ?_)
      · subst es
        have sq := SqL.of (K := K) k.hh
        -- the digits that are drawn
        refine ⟨.ref h, rfl, h, _, 4, .int t, rfl, rfl, sq, rfl, _, _, rfl, rfl, .ref h, rfl, h, _, 4, 4, rfl, rfl, k.hh, rfl, ?_⟩
        have k2 : HandIs (upd H2 h (.lst (hand5 c i r s (t + 1)))) h c cells i r s (t + 1) := k.put
        have sb2 := sb.upd (.lst (hand5 c i r s (t + 1)))
        have sq2 := SqL.of (K := K) k2.hh
        refine ⟨.ref h, rfl, h, _, 3, .int s, rfl, rfl, sq2, rfl, .ref h, rfl, h, _, 4, .int (t + 1), rfl, rfl, sq2, rfl, _, _, rfl, rfl, .inl ⟨by decide, by decide⟩, _, _, rfl, rfl, .inl ⟨_, rfl, _, _, rfl, rfl, .inr ⟨by decide, by decide⟩, .inl ⟨_, rfl, _, _, rfl, rfl, m47, ?_⟩⟩⟩
        refine ⟨_, rfl, _, rfl, _, _, rfl, rfl, ⟨by decide, by decide⟩, _, _, rfl, rfl, _, _, rfl, rfl, .inl (md47 _), .inl ⟨_, rfl, _, _, rfl, rfl, m47, ?_⟩⟩
        refine ⟨_, rfl, _, rfl, _, _, rfl, rfl, ⟨by decide, by decide⟩, _, _, rfl, rfl, _, _, rfl, rfl, .inl (md47 _), .inl ⟨_, rfl, _, _, rfl, rfl, m99, ?_⟩⟩
        refine ⟨_, rfl, _, _, rfl, rfl, ⟨by decide, by decide⟩, .inl ⟨_, rfl, _, rfl, _, _, rfl, rfl, (Int.ofNat_lt.mpr m0 : ((0 : Nat) : Int) < (m : Int)), ?_⟩⟩
        obtain ⟨d, ed, hd⟩ := dg ((((s + 7919 * (t + 1)) * 48271) % 2147483647 * (((s + 7919 * (t + 1)) * 48271) % 2147483647 / 1009 + 69621)) % 2147483647 * ((((s + 7919 * (t + 1)) * 48271) % 2147483647 * (((s + 7919 * (t + 1)) * 48271) % 2147483647 / 1009 + 69621)) % 2147483647 / 2003 + 40692) % 2147483399 / 16)
        have qq := q _ d hd ⟨cells, i, r, s, t + 1, k2⟩ sb2
        rw [← ed] at qq
        exact qq
      · -- a digit of the big number
        refine ⟨.ref h, rfl, h, _, 2, .int r, rfl, rfl, sq, rfl, _, _, rfl, rfl, ?_⟩
        by_cases hr0 : r > 0
        · refine ⟨true, bl_t hr0, iteT ?_⟩
          refine ⟨.ref h, rfl, h, _, 2, .int r, rfl, rfl, sq, rfl, .inl ⟨_, rfl, _, rfl, _, _, rfl, rfl, (Int.ofNat_lt.mpr m0 : ((0 : Nat) : Int) < (m : Int)), ?_⟩⟩
          refine ⟨.ref h, rfl, h, _, 2, .int r, rfl, rfl, sq, rfl, _, rfl, _, _, rfl, rfl, ⟨(Int.ofNat_lt.mpr m0 : ((0 : Nat) : Int) < (m : Int)), by omega⟩, .ref h, rfl, h, _, 2, 2, rfl, rfl, k.hh, rfl, ?_⟩
          obtain ⟨d, ed, hd⟩ := dg r
          have qq := q _ d hd ⟨cells, i, r / m, s, t, k.put⟩ (sb.upd (.lst (hand5 c i (r / m) s t)))
          rw [← ed] at qq
          exact ⟨_, rfl, qq⟩
        · exact ⟨false, bl_f hr0, iteF (key _ _ ⟨rfl, sb, k⟩)⟩
    · have sq := SqL.of (K := K) k.hh
      have sqc := SqL.of (K := K) k.hc
      have here : ∀ (y : Option V), nxt [some (.ref h), some (.int (m : Nat)), none, none, none] H := fun _ => key _ _ ⟨_, i, r, s0, t, rfl, SB.refl h H, k⟩
      refine ⟨.ref h, rfl, h, _, 2, .int r, rfl, rfl, sq, rfl, rfl, ?_⟩
      by_cases c1 : r = 0
      · refine ⟨true, bl_t (congrArg V.int c1), iteT ?_⟩
        refine ⟨.ref h, rfl, h, _, 1, .int (i : Nat), rfl, rfl, sq, rfl, .ref h, rfl, h, _, 0, .ref c, rfl, rfl, sq, rfl, c, _, rfl, .inl sqc, _, _, rfl, rfl, ?_⟩
        by_cases c2 : i < cells.length
        · refine ⟨true, bl_t (by rw [List.length_map]; omega), iteT ?_⟩
          have ex : (cells.map V.int)[i]? = some (.int cells[i]) := by rw [List.getElem?_map, List.getElem?_eq_getElem c2]; rfl
          generalize cells[i] = x at ex
          refine ⟨.ref h, rfl, h, _, 0, .ref c, rfl, rfl, sq, rfl, .ref h, rfl, h, _, 1, .int (i : Nat), rfl, rfl, sq, rfl, c, _, (i : Int), .int x, rfl, rfl, sqc, atI_nat ex, ?_⟩
          refine ⟨.ref h, rfl, h, _, 1, .int (i : Nat), rfl, rfl, sq, rfl, _, _, rfl, rfl, .ref h, rfl, h, _, 1, 1, rfl, rfl, k.hh, rfl, ?_⟩
          have k2 : HandIs (upd H h (.lst (hand5 c (i + 1) r s0 t))) h c cells (i + 1) r s0 t := k.put
          have sb2 := (SB.refl h H).upd (.lst (hand5 c (i + 1) r s0 t))
          have sq2 := SqL.of (K := K) k2.hh
          refine ⟨.ref h, rfl, h, hand5 c (i + 1) r s0 t, 3, .int s0, rfl, rfl, sq2, rfl, _, _, rfl, rfl, .inr ⟨by decide, by decide⟩, _, rfl, _, _, rfl, rfl, _, _, rfl, rfl, .inl ⟨_, rfl, _, _, rfl, rfl, m29, .ref h, rfl, h, hand5 c (i + 1) r s0 t, 3, 3, rfl, rfl, k2.hh, rfl, ?_⟩⟩
          have k3 : HandIs (upd (upd H h (.lst (hand5 c (i + 1) r s0 t))) h (.lst (hand5 c (i + 1) r ((s0 * 69621 + x + 11) % 2147483629) t))) h c cells (i + 1) r ((s0 * 69621 + x + 11) % 2147483629) t := k2.put
          have sb3 := sb2.upd (.lst (hand5 c (i + 1) r ((s0 * 69621 + x + 11) % 2147483629) t))
          refine ⟨_, rfl, _, _, rfl, rfl, ⟨by decide, by decide, by decide⟩, _, _, rfl, rfl, ?_⟩
          by_cases c3 : x ≥ 10 ^ 18
          · refine ⟨true, bl_t c3, iteT ⟨_, rfl, .ref h, rfl, h, hand5 c (i + 1) r ((s0 * 69621 + x + 11) % 2147483629) t, 2, 2, rfl, rfl, k3.hh, rfl, ?_⟩⟩
            exact key _ _ ⟨_, i + 1, x, _, t, rfl, sb3.upd _, k3.put⟩
          · exact ⟨false, bl_f c3, iteF (key _ _ ⟨_, i + 1, r, _, t, rfl, sb3, k3⟩)⟩
        · exact ⟨false, bl_f (by rw [List.length_map]; omega), iteF (here none)⟩
      · exact ⟨false, bl_f (fun z => c1 (V.int.inj z)), iteF (iteF (here none))⟩
end
end L2.NJ
set_option Elab.async false
set_option linter.all false
set_option maxRecDepth 100000
set_option maxHeartbeats 8000000
namespace L2.NJ
open PySem PySem.Spec PyProof.Rows PySem.W
theorem walk_zipT {K : PySem.W.Frag} {a b : Addr} {xs ys : List V} {n : Nat} (h1 : n = xs.length) (h2 : n = ys.length) : Walk (RZ.ItzT K a b) n (fun H => SqT K H a xs ∧ SqT K H b ys) (YPair (fun i => xs[i]?) (fun i => ys[i]?)) := by
  refine ⟨fun i H hi q => ?_, fun H q => ⟨xs, ys, q.1, q.2, by omega⟩, fun i H v H' hi q y => ?_⟩
  · have l1 : i < xs.length := by omega
    have l2 : i < ys.length := by omega
    exact ⟨xs, ys, xs[i], ys[i], q.1, q.2, by simp [l1], by simp [l2]⟩
  · obtain ⟨T, x, z, h1, h2, h3, h4, h5⟩ := y
    exact ⟨T, x, z, h1, h2, h3, h4 xs q.1, h5 ys q.2⟩
theorem isi_tl {K : PySem.W.Frag} : PySem.W.kitAny K (.type "int") [.type "tuple", .type "list"] = some false :=
  kitAny_cons (b := false) (kit_ty (by decide +kernel)) (fun _ => kitAny_cons (b := false) (kit_ty (by decide +kernel)) (fun _ => kitAny_nil) fun z => nomatch z) fun z => nomatch z
theorem isi_tt {K : PySem.W.Frag} : PySem.W.kitAny K (.type "tuple") [.type "tuple", .type "list"] = some true :=
  kitAny_cons (b := true) (kit_ty (by decide +kernel)) (fun z => nomatch z) fun _ => rfl
section
variable {P : Program} {w : World} {K : PySem.W.Frag} {mg : Str → Option Value} {base : Heap}
theorem scq_is : FnScope ["_law_told", "_law_due", "_law_one", "_law_two"] ["_law_told", "_law_due"] dd36.scope := ⟨rfl, rfl, rfl, by decide +kernel, rfl, by decide +kernel, by decide +kernel⟩
theorem ok__law_is0 (T : Fx K mg) : DOk P w K mg base 1 (He.ga K "_law_is") ["_law_told", "_law_due"] (fun _ _ _ _ => False) :=
  DOk.of (d := dd36) T 36 rfl rfl scq_is (fun _ _ _ _ _ _ us hl => match us, hl with | [_, _], _ => rfl) (fun vs H Q E h => h.elim) (fun f cdv A outer s H vs Q E hr h => h.elim)
theorem sc__law_is : FnScope ["_law_told", "_law_due", "_law_one", "_law_two"] ["_law_told", "_law_due"] dd36.scope := scq_is
def spIs1 : Sp := fun vs H Q _ => ∃ i : Int, vs = [.int i, .int i] ∧ ∀ H', Same H H' → Q (.bl true) H'
theorem ok__law_is1 (T : Fx K mg) : DOk P w K mg base 2 (He.ga K "_law_is") ["_law_told", "_law_due"] spIs1 := by
  refine DOk.of (d := dd36) T 36 rfl rfl sc__law_is (fun _ _ _ _ _ _ us hl => match us, hl with | [_, _], _ => rfl) (fun vs H Q E h => ?_) (fun f cdv A outer s H vs Q E hr h => ?_)
  · obtain ⟨_, rfl, _⟩ := h
    rfl
  · have nd := sc__law_is.nd
    have hu := hu_of hr
    obtain ⟨i, rfl, q⟩ := h
    refine ⟨_, (pss_cons (ps_if (pt_val (pe_callB call_isiT (by rfl) T.f_isinstance (by decide +kernel) (pa_cons (pv 1) (pa_cons (pe_tup (pa_cons (pe_bltn (v := .ty "tuple") (by rfl) T.f_tuple (by decide +kernel) rfl) (pa_cons (pe_bltn (v := .ty "list") (by rfl) T.f_list (by decide +kernel) rfl) pa_nil))) pa_nil))))
        (pss_cons (ps_if (PW.pt (pw_or (pt_cmpR op_ne (pe_callB (cisi K) (by rfl) T.f_isinstance (by decide +kernel) (pa_cons (pv 0) (pa_cons (pe_bltn (v := .ty "tuple") (by rfl) T.f_tuple (by decide +kernel) rfl) pa_nil))) (pe_callB (cisi K) (by rfl) T.f_isinstance (by decide +kernel) (pa_cons (pv 1) (pa_cons (pe_bltn (v := .ty "tuple") (by rfl) T.f_tuple (by decide +kernel) rfl) pa_nil))) (nomark _)) (pw_or1 (pt_not (pt_val (pe_callB call_isiT (by rfl) T.f_isinstance (by decide +kernel) (pa_cons (pv 0) (pa_cons (pe_tup (pa_cons (pe_bltn (v := .ty "tuple") (by rfl) T.f_tuple (by decide +kernel) rfl) (pa_cons (pe_bltn (v := .ty "list") (by rfl) T.f_list (by decide +kernel) rfl) pa_nil))) pa_nil))))))))
          (pss_one (ps_ret (pe_bl)))
          pss_nil)
        (pss_one (ps_ret (pe_and (pe_cmpR op_eq (pe_callB (clenS K) (by rfl) T.f_len (by decide +kernel) (pa_cons (pv 0) pa_nil)) (pe_callB (clenS K) (by rfl) T.f_len (by decide +kernel) (pa_cons (pv 1) pa_nil)) (nomark _)) (pe_one (pe_callB (crAll K) (by rfl) T.f_all (by decide +kernel) (pa_cons (pe_lc (own := [("_law_one", 2), ("_law_two", 3)]) rfl nd (RZ.pi_zipA (by rfl) T.f_zip (pa_cons (pv 0) (pa_cons (pv 1) pa_nil))) (blkOk_by (N := ["_law_told", "_law_due", "_law_one", "_law_two"]) (sc := dd36.scope) (by decide +kernel)) (fun _ _ _ _ _ => (pgTup K (n := 2) (pgs_cons (pg_name (i := 2) nd rfl (Or.inl rfl)) (pgs_cons (pg_name (i := 3) nd rfl (Or.inl rfl)) pgs_nil)))) (fun _ _ _ _ _ => pts_nil) (fun _ _ _ _ _ => (pe_c (ok__law_is0 T) hr T.g__law_is (by rfl) (pa_cons (pv 2) (pa_cons (pv 3) pa_nil))))) pa_nil)))))))
        pss_nil)
      (pss_one (ps_ret (pe_and (pe_cmpR op_eq (pe_callB (cisi K) (by rfl) T.f_isinstance (by decide +kernel) (pa_cons (pv 0) (pa_cons (pe_bltn (v := .ty "bool") (by rfl) T.f_bool (by decide +kernel) rfl) pa_nil))) (pe_callB (cisi K) (by rfl) T.f_isinstance (by decide +kernel) (pa_cons (pv 1) (pa_cons (pe_bltn (v := .ty "bool") (by rfl) T.f_bool (by decide +kernel) rfl) pa_nil))) (nomark _)) (pe_one (pe_cmpR op_eq (pv 0) (pv 1) (nomark _))))))), ?_⟩
    refine ⟨_, rfl, Nat.le_of_ble_eq_true rfl, fun p np => ⟨.int i, p, [.ty "tuple", .ty "list"], .type "int", [.type "tuple", .type "list"], false, rfl, upd_same, .cons (.ty _) (.cons (.ty _) .nil), .base (.int i), isi_tl, false, rfl, iteF ?_⟩⟩
    refine ⟨_, rfl, _, _, _, _, _, rfl, .ty _, .base (.int i), kit_ty (by decide +kernel : kitB "int" "bool" = some false), ?_⟩
    refine ⟨_, rfl, _, _, _, _, _, rfl, .ty _, .base (.int i), kit_ty (by decide +kernel : kitB "int" "bool" = some false), rfl, true, rfl, iteT ?_⟩
    exact ⟨_, rfl, _, rfl, rfl, q_bl (Q := Q) rfl (q _ (same_upd np))⟩
def spIs2 (K : PySem.W.Frag) : Sp := fun vs H Q _ => ∃ (a b : Addr) (l : List Nat), vs = [.ref a, .ref b] ∧ H a = some (.tup (nums l)) ∧ H b = some (.tup (nums l)) ∧ l.length ≤ 1001 ∧ ∀ H', Same H H' → Q (.bl true) H'
theorem ok__law_is2 (T : Fx K mg) : DOk P w K mg base 3 (He.ga K "_law_is") ["_law_told", "_law_due"] (spIs2 K) := by
  refine DOk.of (d := dd36) T 36 rfl rfl sc__law_is (fun _ _ _ _ _ _ us hl => match us, hl with | [_, _], _ => rfl) (fun vs H Q E h => ?_) (fun f cdv A outer s H vs Q E hr h => ?_)
  · obtain ⟨_, _, _, rfl, _⟩ := h
    rfl
  · have nd := sc__law_is.nd
    have hu := hu_of hr
    obtain ⟨a, b, l, rfl, ha, hb, hl, q⟩ := h
    refine ⟨_, (pss_cons (ps_if (pt_val (pe_callB call_isiT (by rfl) T.f_isinstance (by decide +kernel) (pa_cons (pv 1) (pa_cons (pe_tup (pa_cons (pe_bltn (v := .ty "tuple") (by rfl) T.f_tuple (by decide +kernel) rfl) (pa_cons (pe_bltn (v := .ty "list") (by rfl) T.f_list (by decide +kernel) rfl) pa_nil))) pa_nil))))
        (pss_cons (ps_if (PW.pt (pw_or (pt_cmpR op_ne (pe_callB (cisi K) (by rfl) T.f_isinstance (by decide +kernel) (pa_cons (pv 0) (pa_cons (pe_bltn (v := .ty "tuple") (by rfl) T.f_tuple (by decide +kernel) rfl) pa_nil))) (pe_callB (cisi K) (by rfl) T.f_isinstance (by decide +kernel) (pa_cons (pv 1) (pa_cons (pe_bltn (v := .ty "tuple") (by rfl) T.f_tuple (by decide +kernel) rfl) pa_nil))) (nomark _)) (pw_or1 (pt_not (pt_val (pe_callB call_isiT (by rfl) T.f_isinstance (by decide +kernel) (pa_cons (pv 0) (pa_cons (pe_tup (pa_cons (pe_bltn (v := .ty "tuple") (by rfl) T.f_tuple (by decide +kernel) rfl) (pa_cons (pe_bltn (v := .ty "list") (by rfl) T.f_list (by decide +kernel) rfl) pa_nil))) pa_nil))))))))
          (pss_one (ps_ret (pe_bl)))
          pss_nil)
        (pss_one (ps_ret (pe_and (pe_cmpR op_eq (pe_callB (clenS K) (by rfl) T.f_len (by decide +kernel) (pa_cons (pv 0) pa_nil)) (pe_callB (clenS K) (by rfl) T.f_len (by decide +kernel) (pa_cons (pv 1) pa_nil)) (nomark _)) (pe_one (pe_callB (crAll K) (by rfl) T.f_all (by decide +kernel) (pa_cons (pe_lc (own := [("_law_one", 2), ("_law_two", 3)]) rfl nd (RZ.pi_zipA (by rfl) T.f_zip (pa_cons (pv 0) (pa_cons (pv 1) pa_nil))) (blkOk_by (N := ["_law_told", "_law_due", "_law_one", "_law_two"]) (sc := dd36.scope) (by decide +kernel)) (fun _ _ _ _ _ => (pgTup K (n := 2) (pgs_cons (pg_name (i := 2) nd rfl (Or.inl rfl)) (pgs_cons (pg_name (i := 3) nd rfl (Or.inl rfl)) pgs_nil)))) (fun _ _ _ _ _ => pts_nil) (fun _ _ _ _ _ => (pe_c (ok__law_is1 T) hr T.g__law_is (by rfl) (pa_cons (pv 2) (pa_cons (pv 3) pa_nil))))) pa_nil)))))))
        pss_nil)
      (pss_one (ps_ret (pe_and (pe_cmpR op_eq (pe_callB (cisi K) (by rfl) T.f_isinstance (by decide +kernel) (pa_cons (pv 0) (pa_cons (pe_bltn (v := .ty "bool") (by rfl) T.f_bool (by decide +kernel) rfl) pa_nil))) (pe_callB (cisi K) (by rfl) T.f_isinstance (by decide +kernel) (pa_cons (pv 1) (pa_cons (pe_bltn (v := .ty "bool") (by rfl) T.f_bool (by decide +kernel) rfl) pa_nil))) (nomark _)) (pe_one (pe_cmpR op_eq (pv 0) (pv 1) (nomark _))))))), ?_⟩
    refine ⟨_, rfl, Nat.le_of_ble_eq_true rfl, fun p np => ⟨.ref b, p, [.ty "tuple", .ty "list"], .type "tuple", [.type "tuple", .type "list"], true, rfl, upd_same, .cons (.ty _) (.cons (.ty _) .nil), .base (.tup ((same_upd np) _ _ hb)), isi_tt, true, rfl, iteT ?_⟩⟩
    have s1 : Same H (upd H p (.tup [.ty "tuple", .ty "list"])) := same_upd np
    generalize upd H p (.tup [.ty "tuple", .ty "list"]) = H1 at s1 ⊢
    have ha1 := s1 _ _ ha
    have hb1 := s1 _ _ hb
    refine ⟨_, rfl, _, _, _, _, _, rfl, .ty _, .base (.tup ha1), kit_ty (by decide +kernel : kitB "tuple" "tuple" = some true), ?_⟩
    refine ⟨_, rfl, _, _, _, _, _, rfl, .ty _, .base (.tup hb1), kit_ty (by decide +kernel : kitB "tuple" "tuple" = some true), rfl, false, rfl, iteF ?_⟩
    refine ⟨_, rfl, Nat.le_of_ble_eq_true rfl, fun p2 np2 => ⟨.ref a, p2, [.ty "tuple", .ty "list"], .type "tuple", [.type "tuple", .type "list"], true, rfl, upd_same, .cons (.ty _) (.cons (.ty _) .nil), .base (.tup ((same_upd np2) _ _ ha1)), isi_tt, true, rfl, iteF ?_⟩⟩
    have s2 : Same H (upd H1 p2 (.tup [.ty "tuple", .ty "list"])) := s1.trans (same_upd np2)
    generalize upd H1 p2 (.tup [.ty "tuple", .ty "list"]) = H2 at s2 ⊢
    have ha2 := s2 _ _ ha
    have hb2 := s2 _ _ hb
    refine ⟨_, rfl, a, nums l, rfl, .inr (SqT.of ha2), _, rfl, b, nums l, rfl, .inr (SqT.of hb2), rfl, true, bl_t rfl, iteT ?_⟩
    refine ⟨_, rfl, _, rfl, a, b, nums l, nums l, rfl, .inr ⟨SqT.of ha2, SqT.of hb2, fun D hD => ?_⟩⟩
    refine lc_map l (walk_zipT (xs := nums l) (ys := nums l) (by rw [nums_len]) (by rw [nums_len])) (by omega) hD (fun H3 sm => ⟨SqT.of (sm _ _ ha2), SqT.of (sm _ _ hb2)⟩) (fun _ => .bl true) (fun i z x H3 H3' Ny ez sm ny y => ?_) (fun H3 s3 hd => ?_)
    · obtain ⟨T0, x1, y1, rfl, nT, rfl, e1, e2⟩ := y
      obtain ⟨g1, eg1, rfl⟩ := nums_get e1
      obtain ⟨g2, eg2, rfl⟩ := nums_get e2
      rw [ez] at eg1 eg2
      cases eg1
      cases eg2
      refine ⟨T0, _, rfl, SqT.of upd_same, rfl, _, _, rfl, _, _, rfl, rfl, rfl, _, rfl, _, rfl, (z : Int), rfl, fun H4 s4 => ny _ ((same_upd nT).trans s4)⟩
    · refine ⟨D, l.map fun _ => true, rfl, .inl (.inl ?_), ?_⟩
      · rw [hd, List.map_map]
        rfl
      · rw [all_true]
        exact q _ (s2.trans s3)
def spSomeL (K : PySem.W.Frag) : Sp := fun vs H Q _ => ∃ (h c a : Addr) (xs : List V), vs = [.ref h, .ref a] ∧ HandAt H h c ∧ SqL K H a xs ∧ a ≠ h ∧ (∃ o, H a = some o) ∧ 0 < xs.length ∧ xs.length < 1073741824 ∧ ∀ H' x, x ∈ xs → HandAt H' h c → SB h H H' → Q x H'
theorem sc__law_some : FnScope ["_law_hand_here", "_law_things"] ["_law_hand_here", "_law_things"] dd37.scope := ⟨rfl, rfl, rfl, by decide +kernel, rfl, by decide +kernel, by decide +kernel⟩
theorem ok__law_some (T : Fx K mg) : DOk P w K mg base 2 (He.ga K "_law_some") ["_law_hand_here", "_law_things"] (spSomeL K) := by
  refine DOk.of (d := dd37) T 37 rfl rfl sc__law_some (fun _ _ _ _ _ _ us hl => match us, hl with | [_, _], _ => rfl) (fun vs H Q E h => ?_) (fun f cdv A outer s H vs Q E hr h => ?_)
  · obtain ⟨_, _, _, _, rfl, _⟩ := h
    rfl
  · have nd := sc__law_some.nd
    have hu := hu_of hr
    obtain ⟨h, c, a, xs, rfl, hk, sq, ne, ⟨o, ho⟩, l0, l1, q⟩ := h
    refine ⟨_, (pss_one (ps_ret (pe_ix (ixL K) (pv 1) (pe_c (ok__law_draw T) hr T.g__law_draw (by rfl) (pa_cons (pv 0) (pa_cons (pe_callB (clenS K) (by rfl) T.f_len (by decide +kernel) (pa_cons (pv 1) pa_nil)) pa_nil))) (fun _ _ => rfl)))), ?_⟩
    refine ⟨.ref a, rfl, .ref h, rfl, .ref a, rfl, a, xs, rfl, .inl sq, h, c, xs.length, rfl, hk, l0, l1, fun H' d hd hk' sb => ?_⟩
    have ho' := sb _ _ ne ho
    refine ⟨a, xs, (d : Int), xs[d], rfl, rfl, ?_, atI_nat (List.getElem?_eq_getElem hd), q _ _ (List.getElem_mem hd) hk' sb⟩
    rcases sq with (h | ⟨o2, h⟩) | h
    · exact .inl (.inl (sb _ _ ne h))
    · exact .inl (.inr ⟨o2, sb _ _ ne h⟩)
    · exact .inr h
def spSomeS : Sp := fun vs H Q _ => ∃ (h hc : Addr) (t : List Nat), vs = [.ref h, tx t] ∧ HandAt H h hc ∧ 0 < t.length ∧ t.length ≤ 1000 ∧ ∀ H' c, c ∈ t → HandAt H' h hc → SB h H H' → Q (tx [c]) H'
theorem ok__law_someS (T : Fx K mg) : DOk P w K mg base 2 (He.ga K "_law_some") ["_law_hand_here", "_law_things"] spSomeS := by
  refine DOk.of (d := dd37) T 37 rfl rfl sc__law_some (fun _ _ _ _ _ _ us hl => match us, hl with | [_, _], _ => rfl) (fun vs H Q E h => ?_) (fun f cdv A outer s H vs Q E hr h => ?_)
  · obtain ⟨_, _, _, rfl, _⟩ := h
    rfl
  · have nd := sc__law_some.nd
    have hu := hu_of hr
    obtain ⟨h, hc, t, rfl, hk, l0, l1, q⟩ := h
    refine ⟨_, (pss_one (ps_ret (pe_ix ix_str (pv 1) (pe_c (ok__law_draw T) hr T.g__law_draw (by rfl) (pa_cons (pv 0) (pa_cons (pe_callB call_len_str (by rfl) T.f_len (by decide +kernel) (pa_cons (pv 1) pa_nil)) pa_nil))) (fun _ _ => rfl)))), ?_⟩
    refine ⟨_, rfl, .ref h, rfl, _, rfl, sx t, rfl, sx_fits (by omega), h, hc, t.length, rfl, hk, l0, by omega, fun H' d hd hk' sb => ?_⟩
    exact ⟨sx t, (d : Int), t[d], rfl, rfl, sx_fits (by omega), atI_nat (by show t.toArray.toList[d]? = _; rw [List.toList_toArray]; exact List.getElem?_eq_getElem hd), q _ _ (List.getElem_mem hd) hk' sb⟩
end
end L2.NJ
set_option Elab.async false
set_option linter.all false
set_option maxRecDepth 100000
set_option maxHeartbeats 4000000
namespace L2.NJ
open PySem PySem.Spec PyProof.Rows PySem.W
/-! ### what the law's own defs compute -/
def endsL (n : Nat) (ar : List Ar) (t : List Nat) : List Nat := t.foldl (fun ps c => (List.range n).filter fun g => ps.any fun p => decide ((p, c, g) ∈ ar)) (List.range n)
def signsL (ar : List Ar) : List Nat := (List.range' 97 26).filter fun c => ar.any fun a => decide (a.2.1 = c)
def grow (n : Nat) (ar : List Ar) (t : List Nat) : List (List Nat) := ((signsL ar).filter fun c => decide (endsL n ar (t ++ [c]) ≠ [])).map fun c => t ++ [c]
def longerL (n : Nat) (ar : List Ar) (ts : List (List Nat)) : List (List Nat) := ts.flatMap (grow n ar)
def stretchesL (n : Nat) (ar : List Ar) : Nat → List (List Nat)
  | 0 => [[]]
  | k + 1 => longerL n ar (stretchesL n ar k)
def clashes (u v : List Nat) : Bool :=
  if u.length > v.length then decide (u.take v.length = v) || decide (u.drop (u.length - v.length) = v)
  else decide (v.take u.length = u) || decide (v.drop (v.length - u.length) = u)
def fitsL (ws : List (List Nat)) (t : List Nat) : Bool := decide (t ≠ []) && !(ws.any fun w => clashes w t)
def comes1 (W : List (List Nat)) (t : List Nat) (b : Nat) : List (Nat × Nat) := ((List.range (t.length - b)).filter fun j => decide (span t b (b + 1 + j) ∈ W)).map fun j => (b, b + 1 + j)
def comesL (W : List (List Nat)) (t : List Nat) : List (Nat × Nat) := (List.range t.length).flatMap (comes1 W t)
def countL (W : List (List Nat)) (t : List Nat) : Int := (t.length : Int) + 1 - ((comesL W t).length : Int)
theorem foldEnds_len {n : Nat} {ar : List Ar} : ∀ (t ps : List Nat), ps.length ≤ n → (t.foldl (fun ps c => (List.range n).filter fun g => ps.any fun p => decide ((p, c, g) ∈ ar)) ps).length ≤ n
  | [], ps, h => h
  | c :: t, ps, h => foldEnds_len t _ (by
    have := List.length_filter_le (fun g => ps.any fun p => decide ((p, c, g) ∈ ar)) (List.range n)
    rwa [List.length_range] at this)
theorem endsL_len (n : Nat) (ar : List Ar) (t : List Nat) : (endsL n ar t).length ≤ n := foldEnds_len t _ (by rw [List.length_range]; exact Nat.le_refl _)
/-! ### a web's parts -/
structure PartsAt (H : Hp) (p : Addr) (n : Nat) (A : Addr) (zs : List (Addr × Ar)) : Prop where
  hp : H p = some (.tup [.int (n : Nat), .ref A])
  ar : ArAt H A zs
theorem PartsAt.same {H H' : Hp} {p : Addr} {n : Nat} {A : Addr} {zs : List (Addr × Ar)} (e : Same H H') (h : PartsAt H p n A zs) : PartsAt H' p n A zs := ⟨e _ _ h.hp, h.ar.same e⟩
theorem PartsAt.sb {H H' : Hp} {p : Addr} {n : Nat} {A : Addr} {zs : List (Addr × Ar)} {h c : Addr} (k : HandAt H h c) (e : SB h H H') (q : PartsAt H p n A zs) : PartsAt H' p n A zs :=
  ⟨e _ _ (k.ne q.hp fun _ z => nomatch z) q.hp, e _ _ (k.ne q.ar.1 fun _ z => nomatch z) q.ar.1, fun z hz => e _ _ (k.ne (q.ar.2 z hz) fun _ z => nomatch z) (q.ar.2 z hz)⟩
theorem arD_eqv (x y : Ar) : PyData.eqv (arD x) (arD y) = decide (x = y) := by
  obtain ⟨a, b, c⟩ := x
  obtain ⟨a', b', c'⟩ := y
  rw [Bool.eq_iff_iff]
  simp [arD, PyData.eqv, PyData.eqvAll, sx_iff]
  omega
theorem arD_shaped (x : Ar) (h : x.2.1 < 1114112) : SeqAt.shaped (arD x) = true := by
  unfold SeqAt.shaped
  simp [arD, PyData.canLay0, PyData.canLayAll0, PyData.depth, PyData.depthAll, PyData.strOk, sx]
  exact h
theorem arDs_shaped (xs : List Ar) (h : ∀ x ∈ xs, x.2.1 < 1114112) : SeqAt.shaped (.tuple (xs.map arD)) = true := by
  have key : PyData.canLayAll0 (xs.map arD) = true ∧ PyData.depthAll (xs.map arD) ≤ 1 := by
    induction xs with
    | nil => exact ⟨rfl, Nat.zero_le _⟩
    | cons x r ih =>
      obtain ⟨h1, h2⟩ := ih fun y hy => h y (List.mem_cons_of_mem _ hy)
      have h3 := arD_shaped x (h x List.mem_cons_self)
      have h4 := SeqAt.canLay_of_shaped h3
      have h5 : (arD x).depth = 1 := by simp [arD, PyData.depth, PyData.depthAll]
      refine ⟨?_, ?_⟩
      · show (PyData.canLay0 (arD x) && PyData.canLayAll0 (r.map arD)) = true
        rw [h1, h4]
        rfl
      · show max (PyData.depth (arD x)) (PyData.depthAll (r.map arD)) ≤ 1
        omega
  unfold SeqAt.shaped
  show (PyData.canLayAll0 (xs.map arD) && decide (PyData.depthAll (xs.map arD) + 1 ≤ 64)) = true
  rw [key.1, decide_eq_true (by omega)]
  rfl
theorem ars_dp {K : PySem.W.Frag} {H : Hp} {A : Addr} {zs : List (Addr × Ar)} (h : ArAt H A zs) : Dp K H (.ref A) (.tuple ((zs.map (·.2)).map arD)) := by
  refine .tup (SqT.of h.1) ?_
  have hz := h.2
  clear h
  induction zs with
  | nil => exact .nil
  | cons z r ih => exact .cons (arD_dp (hz z List.mem_cons_self)) (ih fun y hy => hz y (List.mem_cons_of_mem _ hy))
theorem any_eqv (xs : List Ar) (x : Ar) : ((xs.map arD).any fun z => PyData.eqv z (arD x)) = decide (x ∈ xs) := by
  rw [Bool.eq_iff_iff, List.any_map, List.any_eq_true, decide_eq_true_iff]
  constructor
  · rintro ⟨y, hy, e⟩
    have e : PyData.eqv (arD y) (arD x) = true := e
    rw [arD_eqv, decide_eq_true_iff] at e
    rw [← e]
    exact hy
  · intro h
    refine ⟨x, h, ?_⟩
    show PyData.eqv (arD x) (arD x) = true
    rw [arD_eqv]
    exact decide_eq_true rfl
theorem any_map {α : Type} (l : List α) (p : α → Bool) : (l.map p).any id = l.any p := by
  rw [List.any_map]
  rfl
/-- texts in a list or tuple of texts -/
theorem txs_flat (W : List (List Nat)) : (txs W).all flatV = true := List.all_eq_true.mpr fun x hx => by
  obtain ⟨t, _, rfl⟩ := List.mem_map.mp hx
  rfl
theorem inV_txs (t : List Nat) (W : List (List Nat)) : inV (tx t) (txs W) = decide (t ∈ W) := by
  unfold inV txs
  rw [Bool.eq_iff_iff, List.any_map, List.any_eq_true, decide_eq_true_iff]
  constructor
  · rintro ⟨y, hy, e⟩
    have e : (sx y == sx t) = true := e
    rw [← sx_inj (eq_of_beq e)]
    exact hy
  · intro h
    exact ⟨t, h, (beq_self_eq_true _ : (sx t == sx t) = true)⟩
theorem nums_flat (l : List Nat) : (nums l).all flatV = true := List.all_eq_true.mpr fun x hx => by
  obtain ⟨t, _, rfl⟩ := List.mem_map.mp hx
  rfl
theorem inV_nums (t : Nat) (l : List Nat) : inV (.int (t : Nat)) (nums l) = decide (t ∈ l) := by
  unfold inV nums
  rw [Bool.eq_iff_iff, List.any_map, List.any_eq_true, decide_eq_true_iff]
  constructor
  · rintro ⟨y, hy, e⟩
    have e : ((y : Int) == (t : Int)) = true := e
    have e := eq_of_beq e
    have : y = t := by omega
    rw [← this]
    exact hy
  · intro h
    exact ⟨t, h, (beq_self_eq_true _ : ((t : Int) == (t : Int)) = true)⟩
theorem tx_eq (a b : List Nat) : decide (tx a = tx b) = decide (a = b) := by
  rw [Bool.eq_iff_iff, decide_eq_true_iff, decide_eq_true_iff]
  exact ⟨tx_inj, fun e => by rw [e]⟩
theorem signs_len {ar : List Ar} (h : ∀ a ∈ ar, 97 ≤ a.2.1 ∧ a.2.1 ≤ 99) : (signsL ar).length ≤ 3 := by
  have nod : (signsL ar).Nodup := List.Nodup.sublist List.filter_sublist List.nodup_range'
  have := nodup_sub (m := [97, 98, 99]) nod fun c hc => by
    obtain ⟨_, h2⟩ := List.mem_filter.mp hc
    obtain ⟨a, ha, e⟩ := List.any_eq_true.mp h2
    have := h a ha
    have e := of_decide_eq_true e
    have : c = 97 ∨ c = 98 ∨ c = 99 := by omega
    rcases this with rfl | rfl | rfl <;> simp
  exact this
theorem signs_lt {ar : List Ar} {c : Nat} (h : c ∈ signsL ar) : Lt c := by
  have := (List.mem_filter.mp h).1
  rw [List.mem_range'_1] at this
  unfold Lt
  omega
theorem longer_len {n : Nat} {ar : List Ar} (h : ∀ a ∈ ar, 97 ≤ a.2.1 ∧ a.2.1 ≤ 99) (ts : List (List Nat)) : (longerL n ar ts).length ≤ 3 * ts.length := by
  induction ts with
  | nil => exact Nat.zero_le _
  | cons t r ih =>
    unfold longerL at ih ⊢
    rw [List.flatMap_cons, List.length_append, List.length_cons]
    have : (grow n ar t).length ≤ 3 := by
      unfold grow
      rw [List.length_map]
      exact Nat.le_trans (List.length_filter_le _ _) (signs_len h)
    omega
end L2.NJ
namespace L2.NJ
open PySem PySem.Spec PyProof.Rows PySem.W
theorem mem_longer {n : Nat} {ar : List Ar} {ts : List (List Nat)} {u : List Nat} : u ∈ longerL n ar ts ↔ ∃ t ∈ ts, ∃ c ∈ signsL ar, endsL n ar (t ++ [c]) ≠ [] ∧ u = t ++ [c] := by
  unfold longerL grow
  rw [List.mem_flatMap]
  constructor
  · rintro ⟨t, ht, h⟩
    obtain ⟨c, hc, e⟩ := List.mem_map.mp h
    obtain ⟨h1, h2⟩ := List.mem_filter.mp hc
    exact ⟨t, ht, c, h1, of_decide_eq_true h2, e.symm⟩
  · rintro ⟨t, ht, c, hc, h2, rfl⟩
    exact ⟨t, ht, List.mem_map.mpr ⟨c, List.mem_filter.mpr ⟨hc, decide_eq_true h2⟩, rfl⟩⟩
theorem stretches_len {n : Nat} {ar : List Ar} (h : ∀ a ∈ ar, 97 ≤ a.2.1 ∧ a.2.1 ≤ 99) : ∀ k, (stretchesL n ar k).length ≤ 3 ^ k
  | 0 => Nat.le_refl _
  | k + 1 => by
    have h1 := stretches_len (n := n) h k
    have h2 := longer_len (n := n) h (stretchesL n ar k)
    show (longerL n ar (stretchesL n ar k)).length ≤ _
    rw [Nat.pow_succ]
    omega
theorem stretches_each {n : Nat} {ar : List Ar} : ∀ {k : Nat} {t : List Nat}, t ∈ stretchesL n ar k → t.length = k ∧ ∀ c ∈ t, Lt c
  | 0, t, h => by
    rw [List.mem_singleton.mp h]
    exact ⟨rfl, fun c hc => nomatch hc⟩
  | k + 1, t, h => by
    obtain ⟨u, hu, c, hc, _, rfl⟩ := mem_longer.mp h
    obtain ⟨h1, h2⟩ := stretches_each hu
    refine ⟨by rw [List.length_append, h1]; rfl, fun d hd => ?_⟩
    rcases List.mem_append.mp hd with hd | hd
    · exact h2 d hd
    · rw [List.mem_singleton.mp hd]
      exact signs_lt hc
end L2.NJ
set_option Elab.async false
set_option linter.all false
set_option maxRecDepth 100000
set_option maxHeartbeats 8000000
namespace L2.NJ
open PySem PySem.Spec PyProof.Rows PySem.W
section
variable {P : Program} {w : World} {K : PySem.W.Frag} {mg : Str → Option Value} {base : Heap}
def spEnds : Sp := fun vs H Q _ => ∃ p n A zs t, vs = [.ref p, tx t] ∧ PartsAt H p n A zs ∧ n ≤ 4 ∧ (∀ z ∈ zs, z.2.2.1 < 1000) ∧ t.length ≤ 1000 ∧ (∀ c ∈ t, c < 1000) ∧ ∀ H' l, Same H H' → H' l = some (.lst (nums (endsL n (zs.map (·.2)) t))) → Q (.ref l) H'
theorem sc__law_ends : FnScope ["_law_parts", "_law_text", "_law_points", "_law_sign", "_law_goal", "_law_one"] ["_law_parts", "_law_text"] dd40.scope := ⟨rfl, rfl, rfl, by decide +kernel, rfl, by decide +kernel, by decide +kernel⟩
theorem ok__law_ends (T : Fx K mg) : DOk P w K mg base 1 (He.ga K "_law_ends") ["_law_parts", "_law_text"] spEnds := by
  refine DOk.of (d := dd40) T 40 rfl rfl sc__law_ends (fun _ _ _ _ _ _ us hl => match us, hl with | [_, _], _ => rfl) (fun vs H Q E h => ?_) (fun f cdv A outer s H vs Q E hr h => ?_)
  · obtain ⟨_, _, _, _, _, rfl, _⟩ := h
    rfl
  · have nd := sc__law_ends.nd
    have hu := hu_of hr
    obtain ⟨p, n, A, zs, t, rfl, pa, n4, az, ht, at_, q⟩ := h
    refine ⟨_, (pss_cons (ps_set (i := 2) nd rfl (Or.inr rfl) (pe_listRg rfl (by rfl) T.f_list (prg_1 (by rfl) T.f_range (pe_ix (ixT K) (pv 0) (pe_int) (fun _ _ => rfl)))))
      (pss_cons (ps_for PassesOwn.never rfl (pi_str (pv 1)) (pg_name (i := 3) nd rfl (Or.inr rfl))
        (pss_one (ps_set (i := 2) nd rfl (Or.inr rfl) (pe_lc (own := [("_law_goal", 4)]) rfl nd (pi_range1 (by rfl) T.f_range (pa_cons (pe_ix (ixT K) (pv 0) (pe_int) (fun _ _ => rfl)) pa_nil)) (blkOk_by (N := ["_law_parts", "_law_text", "_law_points", "_law_sign", "_law_goal", "_law_one"]) (sc := dd40.scope) (by decide +kernel)) (fun _ _ _ _ _ => (pg_name (i := 4) nd rfl (Or.inr rfl))) (fun _ _ _ _ _ => pts_one (pt_val (pe_callB (crAny K) (by rfl) T.f_any (by decide +kernel) (pa_cons (pe_lc (own := [("_law_one", 5)]) rfl nd (piL K (pv 2)) (blkOk_by (by rfl)) (fun _ _ _ _ _ => (pg_name (i := 5) nd rfl (Or.inl rfl))) (fun _ _ _ _ _ => pts_nil) (fun _ _ _ _ _ => (pe_cmpR (opInU K (hu65 hr)) (pe_tup (pa_cons (pv 5) (pa_cons (pv 3) (pa_cons (pv 4) pa_nil)))) (pe_ix (ixT K) (pv 0) (pe_int) (fun _ _ => rfl)) rfl))) pa_nil)))) (fun _ _ _ _ _ => (pv 4))))))
      (pss_one (ps_ret (pv 2))))), ?_⟩
    refine ⟨.ref p, rfl, p, _, (0 : Nat), _, rfl, rfl, SqT.of pa.hp, tup_at rfl, _, rfl, RgOk.of_le (by omega) (by omega) (by omega) (by omega), fun l nl => ?_⟩
    have e0 : rgV 0 (n : Int) = nums (List.range n) := by
      unfold rgV nums
      have e0 : ((n : Int) - 0).toNat = n := by omega
      rw [e0]
      exact List.map_congr_left fun i _ => congrArg V.int (by omega)
    rw [e0]
    refine ⟨_, rfl, sx t, rfl, ?_⟩
    refine for_it walk_tx (fun i σ H2 => ∃ (l : Addr) (y3 y4 y5 : Option V), σ = [some (.ref p), some (tx t), some (.ref l), y3, y4, y5] ∧ Same H H2 ∧ H2 l = some (.lst (nums (endsL n (zs.map (·.2)) (t.take i)))))
      ⟨l, none, none, none, rfl, same_upd nl, upd_same⟩ (fun _ _ _ _ _ => trivial) (fun i x σ H2 H2' hi ⟨l, y3, y4, y5, es, s2, hl⟩ y => ?_) (fun σ H2 ⟨l, y3, y4, y5, es, s2, hl⟩ => ?_)
    · subst es
      obtain ⟨rfl, c, hc, rfl⟩ := y
      have hcl := at_ c (List.mem_of_getElem? hc)
      have pa2 := pa.same s2
      refine ⟨.ref p, rfl, p, _, (0 : Nat), _, rfl, rfl, SqT.of pa2.hp, tup_at rfl, _, rfl, by omega, by omega, fun D hD => ?_⟩
      have en : ((n : Int)).toNat = (List.range n).length := by rw [List.length_range]; omega
      rw [en]
      refine lc_fm (List.range n) walk_rg0 (by rw [List.length_range]; omega) hD (fun _ _ => trivial) (fun g => (endsL n (zs.map (·.2)) (t.take i)).any fun p => decide ((p, c, g) ∈ zs.map (·.2))) (fun g => .int (g : Nat)) (fun j z x H3 H3' Ny Nn ez sm ny nn y => ?_) (fun H3 s3 hd3 => ?_)
      · obtain ⟨rfl, rfl⟩ := y
        obtain ⟨rfl, hz⟩ := range_get ez
        refine ⟨rfl, .ref l, rfl, l, rfl, ⟨_, SqL.of (sm _ _ hl)⟩, fun E nE => ?_⟩
        have el : (endsL n (zs.map (·.2)) (t.take i)).length ≤ 1000 := Nat.le_trans (endsL_len _ _ _) (by omega)
        refine lc_map (endsL n (zs.map (·.2)) (t.take i)) (Walk.len (walk_list (xs := nums (endsL n (zs.map (·.2)) (t.take i)))) (by rw [nums_len])) (by omega) nE (fun H4 s4 => SqL.of (s4 _ _ (sm _ _ hl))) (fun p => .bl (decide ((p, c, j) ∈ zs.map (·.2)))) (fun k z x H4 H4' Ny2 ez2 sm2 ny2 y2 => ?_) (fun H4 s4 hd4 => ?_)
        · obtain ⟨rfl, ex⟩ := y2
          obtain ⟨g1, eg1, rfl⟩ := nums_get ex
          rw [ez2] at eg1
          cases eg1
          have pa4 := (pa2.same sm).same sm2
          refine ⟨rfl, _, rfl, _, rfl, _, rfl, Nat.le_of_ble_eq_true rfl, fun T nT => ?_⟩
          have pa5 := pa4.same (same_upd (o := .tup [.int (z : Nat), tx [c], .int (j : Nat)]) nT)
          refine ⟨.ref p, rfl, p, _, (1 : Nat), _, rfl, rfl, SqT.of pa5.hp, tup_at rfl, arD (z, c, j), _, arD_dp (x := (z, c, j)) upd_same, ars_dp pa5.ar, arD_shaped _ (by show c < 1114112; omega), arDs_shaped _ (fun x hx => ?_), ?_⟩
          · obtain ⟨z', hz', rfl⟩ := List.mem_map.mp hx
            have := az z' hz'
            omega
          · rw [any_eqv]
            exact ny2 _ (same_upd nT)
        · refine ⟨E, (endsL n (zs.map (·.2)) (t.take i)).map fun p => decide ((p, c, j) ∈ zs.map (·.2)), rfl, .inl (.inl ?_), ?_⟩
          · rw [hd4, List.map_map]
            rfl
          · rw [any_map]
            refine ⟨_, rfl, ?_⟩
            cases hb : (endsL n (zs.map (·.2)) (t.take i)).any fun p => decide ((p, c, j) ∈ zs.map (·.2)) with
            | true => exact iteT ⟨_, rfl, ny _ s4 hb⟩
            | false => exact iteF (nn _ s4 hb)
      · refine ⟨D, _, _, _, rfl, s2.trans s3, ?_⟩
        rw [hd3, List.take_add_one, hc]
        unfold endsL
        rw [List.foldl_append]
        rfl
    · subst es
      rw [List.take_length] at hl
      exact ⟨.ref l, rfl, q _ l s2 hl⟩
end
end L2.NJ
set_option Elab.async false
set_option linter.all false
set_option maxRecDepth 100000
set_option maxHeartbeats 8000000
namespace L2.NJ
open PySem PySem.Spec PyProof.Rows PySem.W
def LetAt (zs : List (Addr × Ar)) : Prop := ∀ z ∈ zs, 97 ≤ z.2.2.1 ∧ z.2.2.1 ≤ 99
theorem LetAt.ar {zs : List (Addr × Ar)} (h : LetAt zs) : ∀ a ∈ zs.map (·.2), 97 ≤ a.2.1 ∧ a.2.1 ≤ 99 := fun a ha => by
  obtain ⟨z, hz, rfl⟩ := List.mem_map.mp ha
  exact h z hz
section
variable {P : Program} {w : World} {K : PySem.W.Frag} {mg : Str → Option Value} {base : Heap}
def spSigns : Sp := fun vs H Q _ => ∃ p n A zs, vs = [.ref p] ∧ PartsAt H p n A zs ∧ zs.length ≤ 1000 ∧ ∀ H' l, Same H H' → H l = none → H' l = some (.lst (txs ((signsL (zs.map (·.2))).map fun c => [c]))) → Q (.ref l) H'
theorem sc__law_signs : FnScope ["_law_parts", "_law_sign", "_law_arrow"] ["_law_parts"] dd41.scope := ⟨rfl, rfl, rfl, by decide +kernel, rfl, by decide +kernel, by decide +kernel⟩
theorem ok__law_signs (T : Fx K mg) : DOk P w K mg base 1 (He.ga K "_law_signs") ["_law_parts"] spSigns := by
  refine DOk.of (d := dd41) T 41 rfl rfl sc__law_signs (fun _ _ _ _ _ _ us hl => match us, hl with | [_], _ => rfl) (fun vs H Q E h => ?_) (fun f cdv A outer s H vs Q E hr h => ?_)
  · obtain ⟨_, _, _, _, rfl, _⟩ := h
    rfl
  · have nd := sc__law_signs.nd
    have hu := hu_of hr
    obtain ⟨p, n, A, zs, rfl, pa, lz, q⟩ := h
    refine ⟨_, (pss_one (ps_ret (pe_lc (own := [("_law_sign", 1)]) rfl nd (pi_str (pe_str)) (blkOk_by (N := ["_law_parts", "_law_sign", "_law_arrow"]) (sc := dd41.scope) (by decide +kernel)) (fun _ _ _ _ _ => (pg_name (i := 1) nd rfl (Or.inr rfl))) (fun _ _ _ _ _ => pts_one (pt_val (pe_callB (crAny K) (by rfl) T.f_any (by decide +kernel) (pa_cons (pe_lc (own := [("_law_arrow", 2)]) rfl nd (piT K (pe_ix (ixT K) (pv 0) (pe_int) (fun _ _ => rfl))) (blkOk_by (by rfl)) (fun _ _ _ _ _ => (pg_name (i := 2) nd rfl (Or.inl rfl))) (fun _ _ _ _ _ => pts_nil) (fun _ _ _ _ _ => (pe_cmpR op_eq (pe_ix (ixT K) (pv 2) (pe_int) (fun _ _ => rfl)) (pv 1) (nomark _)))) pa_nil)))) (fun _ _ _ _ _ => (pv 1))))), ?_⟩
    refine ⟨Str.ofString "abcdefghijklmnopqrstuvwxyz", rfl, fun D hD => ?_⟩
    have eL : (Str.ofString "abcdefghijklmnopqrstuvwxyz") = sx (List.range' 97 26) := by
      have := letters_eq
      unfold sx
      rw [← this]
    rw [eL]
    refine lc_fm (List.range' 97 26) walk_tx (by decide) hD (fun _ _ => trivial) (fun c => (zs.map (·.2)).any fun a => decide (a.2.1 = c)) (fun c => tx [c]) (fun i z x H1 H1' Ny Nn ez sm ny nn y => ?_) (fun H1 s1 hd1 => ?_)
    · obtain ⟨rfl, c, hc, rfl⟩ := y
      rw [ez] at hc
      cases hc
      have pa1 := pa.same sm
      refine ⟨rfl, .ref p, rfl, p, _, (1 : Nat), _, rfl, rfl, SqT.of pa1.hp, tup_at rfl, A, rfl, ⟨_, SqT.of pa1.ar.1⟩, fun E nE => ?_⟩
      refine lc_map zs (Walk.len (walk_tup (xs := zs.map fun z => V.ref z.1)) (by rw [List.length_map])) (by omega) nE (fun H2 s2 => SqT.of (s2 _ _ pa1.ar.1)) (fun w => .bl (decide (w.2.2.1 = z))) (fun k w x H2 H2' Ny2 ez2 sm2 ny2 y2 => ?_) (fun H2 s2 hd2 => ?_)
      · obtain ⟨rfl, ex⟩ := y2
        rw [List.getElem?_map, ez2] at ex
        obtain rfl := Option.some.inj ex
        have hm := List.mem_of_getElem? ez2
        have hw := (pa1.same sm2).ar.2 w hm
        refine ⟨rfl, _, rfl, w.1, _, (1 : Nat), _, rfl, rfl, SqT.of hw, tup_at rfl, _, rfl, rfl, ?_⟩
        have := ny2 _ (Same.refl _)
        have e : decide (w.2.2.1 = z) = decide (tx [w.2.2.1] = tx [z]) := by
          rw [tx_eq, Bool.eq_iff_iff, decide_eq_true_iff, decide_eq_true_iff]
          simp
        rw [e] at this
        exact this
      · refine ⟨E, zs.map fun w => decide (w.2.2.1 = z), rfl, .inl (.inl ?_), ?_⟩
        · rw [hd2, List.map_map]
          rfl
        · have e : (zs.map fun w => decide (w.2.2.1 = z)).any id = (zs.map (·.2)).any fun a => decide (a.2.1 = z) := by
            rw [List.any_map, List.any_map]
            rfl
          rw [e]
          refine ⟨_, rfl, ?_⟩
          cases hb : (zs.map (·.2)).any fun a => decide (a.2.1 = z) with
          | true => exact iteT ⟨_, rfl, ny _ s2 hb⟩
          | false => exact iteF (nn _ s2 hb)
    · refine q _ D s1 hD ?_
      rw [hd1]
      unfold txs signsL
      rw [List.map_map]
      rfl
def spLonger : Sp := fun vs H Q _ => ∃ p n A zs l ts, vs = [.ref p, .ref l] ∧ PartsAt H p n A zs ∧ n ≤ 4 ∧ zs.length ≤ 60 ∧ LetAt zs ∧ H l = some (.lst (txs ts)) ∧ ts.length ≤ 1000 ∧ (∀ t ∈ ts, t.length ≤ 500 ∧ ∀ c ∈ t, c < 1000) ∧
  ∀ H' l', Same H H' → H l' = none → H' l' = some (.lst (txs (longerL n (zs.map (·.2)) ts))) → Q (.ref l') H'
theorem sc__law_longer : FnScope ["_law_parts", "_law_texts", "_law_found", "_law_text", "_law_sign"] ["_law_parts", "_law_texts"] dd42.scope := ⟨rfl, rfl, rfl, by decide +kernel, rfl, by decide +kernel, by decide +kernel⟩
theorem ok__law_longer (T : Fx K mg) : DOk P w K mg base 2 (He.ga K "_law_longer") ["_law_parts", "_law_texts"] spLonger := by
  refine DOk.of (d := dd42) T 42 rfl rfl sc__law_longer (fun _ _ _ _ _ _ us hl => match us, hl with | [_, _], _ => rfl) (fun vs H Q E h => ?_) (fun f cdv A outer s H vs Q E hr h => ?_)
  · obtain ⟨_, _, _, _, _, _, rfl, _⟩ := h
    rfl
  · have nd := sc__law_longer.nd
    have hu := hu_of hr
    obtain ⟨p, n, A, zs, l, ts, rfl, pa, n4, lz, az, hl, lt, ht, q⟩ := h
    refine ⟨_, (pss_cons (ps_set (i := 2) nd rfl (Or.inl rfl) (pe_lst pa_nil))
      (pss_cons (ps_for PassesOwn.never rfl (piL K (pv 1)) (pg_name (i := 3) nd rfl (Or.inr rfl))
        (pss_one (ps_expr (pe_bm PySem.F.plainAttrs_list PySem.F.slot_list_extend PySem.F.type_list_extend mt_extend (pv 2) (pa_cons (pe_lc (own := [("_law_sign", 4)]) rfl nd (piL K (pe_c (ok__law_signs T) hr T.g__law_signs (by rfl) (pa_cons (pv 0) pa_nil))) (blkOk_by (N := ["_law_parts", "_law_texts", "_law_found", "_law_text", "_law_sign"]) (sc := dd42.scope) (by decide +kernel)) (fun _ _ _ _ _ => (pg_name (i := 4) nd rfl (Or.inl rfl))) (fun _ _ _ _ _ => pts_one (pt_cmpR op_gt (pe_callB (clenS K) (by rfl) T.f_len (by decide +kernel) (pa_cons (pe_c (ok__law_ends T) hr T.g__law_ends (by rfl) (pa_cons (pv 0) (pa_cons (pe_op op_add_str (pv 3) (pv 4)) pa_nil))) pa_nil)) (pe_int) (nomark _))) (fun _ _ _ _ _ => (pe_op op_add_str (pv 3) (pv 4)))) pa_nil)))))
      (pss_one (ps_ret (pv 2))))), ?_⟩
    refine ⟨Nat.zero_le _, fun f nf => ?_⟩
    have s0 : Same H (upd H f (.lst [])) := same_upd nf
    refine ⟨.ref l, rfl, l, rfl, ⟨_, SqL.of (s0 _ _ hl)⟩, ?_⟩
    refine for_list (xs := txs ts) (fun i σ H2 => ∃ (y3 y4 : Option V), σ = [some (.ref p), some (.ref l), some (.ref f), y3, y4] ∧ Same H H2 ∧ H2 f = some (.lst (txs (longerL n (zs.map (·.2)) (ts.take i)))))
      ⟨none, none, rfl, s0, upd_same⟩ (fun i σ H2 _ ⟨_, _, _, s2, _⟩ => SqL.of (s2 _ _ hl)) (fun i x σ H2 ex ⟨y3, y4, es, s2, hf⟩ => ?_) (fun σ H2 ⟨y3, y4, es, s2, hf⟩ => ?_)
    · subst es
      obtain ⟨t, et, rfl⟩ := txs_get ex
      have htm := ht t (List.mem_of_getElem? et)
      have hil : i < ts.length := (List.getElem?_eq_some_iff.mp et).1
      refine ⟨.ref f, rfl, .inl ⟨rfl, _, .inl (.inl hf)⟩, ?_⟩
      refine ⟨.ref p, rfl, p, n, A, zs, rfl, pa.same s2, by omega, fun H3 ls s3 _ hls => ?_⟩
      have lsg := signs_len az.ar
      refine ⟨ls, rfl, ⟨_, SqL.of hls⟩, fun D hD => ?_⟩
      refine lc_fm (signsL (zs.map (·.2))) (Walk.len (walk_list (xs := txs ((signsL (zs.map (·.2))).map fun c => [c]))) (by rw [txs_len, List.length_map])) (by omega) hD (fun H4 sm => SqL.of (sm _ _ hls)) (fun c => decide (endsL n (zs.map (·.2)) (t ++ [c]) ≠ [])) (fun c => tx (t ++ [c])) (fun j z x H4 H4' Ny Nn ez sm ny nn y => ?_) (fun H4 s4 hd4 => ?_)
      · obtain ⟨rfl, ex⟩ := y
        obtain ⟨u, eu, rfl⟩ := txs_get ex
        rw [List.getElem?_map, ez] at eu
        obtain rfl := Option.some.inj eu
        have hzl := signs_lt (List.mem_of_getElem? ez)
        refine ⟨rfl, _, rfl, _, rfl, _, rfl, sx t, sx [z], rfl, rfl, ?_, ?_⟩
        · rw [sx_len, sx_len]
          exact fits (by simp; omega)
        rw [sx_app]
        refine ⟨p, n, A, zs, t ++ [z], rfl, ((pa.same s2).same s3).same sm, n4, fun w hw => by have := az w hw; omega, by rw [List.length_append]; show t.length + 1 ≤ 1000; omega, fun c hc => ?_, fun H5 l5 s5 hl5 => ?_⟩
        · rcases List.mem_append.mp hc with hc | hc
          · exact htm.2 c hc
          · rw [List.mem_singleton.mp hc]
            unfold Lt at hzl
            omega
        refine ⟨l5, nums (endsL n (zs.map (·.2)) (t ++ [z])), rfl, .inl (SqL.of hl5), _, _, rfl, rfl, ?_⟩
        by_cases he : endsL n (zs.map (·.2)) (t ++ [z]) = []
        · refine ⟨false, bl_f (by rw [he]; decide), iteF (nn _ s5 (by rw [he]; rfl))⟩
        · refine ⟨true, bl_t (by rw [nums_len]; have := List.length_pos_iff.mpr he; omega), iteT ⟨_, rfl, _, rfl, sx t, sx [z], rfl, rfl, ?_, ?_⟩⟩
          · rw [sx_len, sx_len]
            exact fits (by simp; omega)
          · rw [sx_app]
            exact ny _ s5 (decide_eq_true he)
      · have s24 := s3.trans s4
        have lg := longer_len (n := n) az.ar (ts.take i)
        rw [List.length_take] at lg
        have lgr : (grow n (zs.map (·.2)) t).length ≤ 3 := by
          unfold grow
          rw [List.length_map]
          exact Nat.le_trans (List.length_filter_le _ _) lsg
        have ed : ((signsL (zs.map (·.2))).filter fun c => decide (endsL n (zs.map (·.2)) (t ++ [c]) ≠ [])).map (fun c => tx (t ++ [c])) = txs (grow n (zs.map (·.2)) t) := by
          unfold grow txs
          rw [List.map_map]
          rfl
        rw [ed] at hd4
        refine ⟨f, D, _, _, rfl, rfl, s24 _ _ hf, hd4, fits (by rw [txs_len, txs_len]; omega), _, _, rfl, fun c o e => ?_, ?_⟩
        · rw [upd_ne (ne_of_none e nf)]
          exact s24 _ _ (s2 _ _ e)
        · rw [upd_same, List.take_add_one, et]
          unfold longerL txs
          rw [List.flatMap_append, List.map_append]
          simp
    · subst es
      rw [txs_len, List.take_length] at hf
      exact ⟨.ref f, rfl, q _ f s2 nf hf⟩
def spStretches : Sp := fun vs H Q _ => ∃ p n A zs k, vs = [.ref p, .int ((k : Nat) : Int)] ∧ PartsAt H p n A zs ∧ n ≤ 4 ∧ zs.length ≤ 60 ∧ LetAt zs ∧ k ≤ 5 ∧ ∀ H' l', Same H H' → H l' = none → H' l' = some (.lst (txs (stretchesL n (zs.map (·.2)) k))) → Q (.ref l') H'
theorem sc__law_stretches : FnScope ["_law_parts", "_law_length", "_law_found", "_law_turn"] ["_law_parts", "_law_length"] dd43.scope := ⟨rfl, rfl, rfl, by decide +kernel, rfl, by decide +kernel, by decide +kernel⟩
theorem ok__law_stretches (T : Fx K mg) : DOk P w K mg base 3 (He.ga K "_law_stretches") ["_law_parts", "_law_length"] spStretches := by
  refine DOk.of (d := dd43) T 43 rfl rfl sc__law_stretches (fun _ _ _ _ _ _ us hl => match us, hl with | [_, _], _ => rfl) (fun vs H Q E h => ?_) (fun f cdv A outer s H vs Q E hr h => ?_)
  · obtain ⟨_, _, _, _, _, rfl, _⟩ := h
    rfl
  · have nd := sc__law_stretches.nd
    have hu := hu_of hr
    obtain ⟨p, n, A, zs, k, rfl, pa, n4, lz, az, hk, q⟩ := h
    refine ⟨_, (pss_cons (ps_set (i := 2) nd rfl (Or.inl rfl) (pe_lst (pa_cons (pe_str) pa_nil)))
      (pss_cons (ps_for PassesOwn.never rfl (pi_range1 (by rfl) T.f_range (pa_cons (pv 1) pa_nil)) (pg_name (i := 3) nd rfl (Or.inl rfl))
        (pss_one (ps_set (i := 2) nd rfl (Or.inl rfl) (pe_c (ok__law_longer T) hr T.g__law_longer (by rfl) (pa_cons (pv 0) (pa_cons (pv 2) pa_nil))))))
      (pss_one (ps_ret (pv 2))))), ?_⟩
    refine ⟨Nat.le_of_ble_eq_true rfl, fun f nf => ?_⟩
    refine ⟨_, rfl, _, rfl, by omega, by omega, ?_⟩
    have ek : (((k : Nat) : Int)).toNat = k := by omega
    rw [ek]
    refine for_range (fun i σ H2 => ∃ (f : Addr) (y3 : Option V), σ = [some (.ref p), some (.int (k : Nat)), some (.ref f), y3] ∧ Same H H2 ∧ H f = none ∧ H2 f = some (.lst (txs (stretchesL n (zs.map (·.2)) i))))
      ⟨f, none, rfl, same_upd nf, nf, upd_same⟩ (fun i σ H2 hi ⟨f, y3, es, s2, nf, hf⟩ => ?_) (fun σ H2 ⟨f, y3, es, s2, nf, hf⟩ => ?_)
    · subst es
      have h1 := stretches_len (n := n) az.ar i
      have h2 : (3 : Nat) ^ i ≤ 3 ^ 5 := Nat.pow_le_pow_right (by decide) (by omega)
      refine ⟨.ref p, rfl, .ref f, rfl, p, n, A, zs, f, _, rfl, pa.same s2, n4, lz, az, hf, by omega, fun t ht => ?_, fun H3 l3 s3 n3 hl3 => ⟨l3, _, rfl, s2.trans s3, s2.free n3, hl3⟩⟩
      have := stretches_each ht
      refine ⟨by omega, fun c hc => ?_⟩
      have := this.2 c hc
      unfold Lt at this
      omega
    · subst es
      exact ⟨.ref f, rfl, q _ f s2 nf hf⟩
end
end L2.NJ
set_option Elab.async false
set_option linter.all false
set_option maxRecDepth 100000
set_option maxHeartbeats 8000000
namespace L2.NJ
open PySem PySem.Spec PyProof.Rows PySem.W
def capL (d : Int) (W : List (List Nat)) (t : List Nat) : Int := if countL W t < d then countL W t else d
def wordL (d : Int) (W : List (List Nat)) (t : List Nat) : Bool := decide (capL d W t.dropLast + capL d W (t.drop 1) - capL d W t - capL d W (t.drop 1).dropLast = 1)
theorem comes1_len (W : List (List Nat)) (t : List Nat) (b : Nat) : (comes1 W t b).length ≤ t.length - b := by
  unfold comes1
  rw [List.length_map]
  have := List.length_filter_le (fun j => decide (span t b (b + 1 + j) ∈ W)) (List.range (t.length - b))
  rwa [List.length_range] at this
theorem flat_len {α β : Type} (f : α → List β) (m : Nat) (h : ∀ a, (f a).length ≤ m) : ∀ l : List α, (l.flatMap f).length ≤ l.length * m
  | [] => Nat.zero_le _
  | a :: r => by
    rw [List.flatMap_cons, List.length_append, List.length_cons, Nat.add_mul]
    have := h a
    have := flat_len f m h r
    omega
section
variable {P : Program} {w : World} {K : PySem.W.Frag} {mg : Str → Option Value} {base : Heap}
def spClashing : Sp := fun vs H Q _ => ∃ u v, vs = [tx u, tx v] ∧ u.length ≤ 1000 ∧ v.length ≤ 1000 ∧ Q (.bl (clashes u v)) H
theorem sc__law_clashing : FnScope ["_law_one", "_law_other", "_law_short", "_law_long"] ["_law_one", "_law_other"] dd44.scope := ⟨rfl, rfl, rfl, by decide +kernel, rfl, by decide +kernel, by decide +kernel⟩
theorem ok__law_clashing (T : Fx K mg) : DOk P w K mg base 1 (He.ga K "_law_clashing") ["_law_one", "_law_other"] spClashing := by
  refine DOk.of (d := dd44) T 44 rfl rfl sc__law_clashing (fun _ _ _ _ _ _ us hl => match us, hl with | [_, _], _ => rfl) (fun vs H Q E h => ?_) (fun f cdv A outer s H vs Q E hr h => ?_)
  · obtain ⟨_, _, rfl, _⟩ := h
    rfl
  · have nd := sc__law_clashing.nd
    have hu := hu_of hr
    obtain ⟨u, v, rfl, hu1, hv1, q⟩ := h
    refine ⟨_, (pss_cons (ps_par (i := 2) (j := 3) (by rfl) nd rfl rfl (by decide) rfl rfl (pa_cons (pv 0) (pa_cons (pv 1) pa_nil)) (by rfl))
      (pss_cons (ps_if (pt_cmpR op_gt (pe_callB call_len_str (by rfl) T.f_len (by decide +kernel) (pa_cons (pv 0) pa_nil)) (pe_callB call_len_str (by rfl) T.f_len (by decide +kernel) (pa_cons (pv 1) pa_nil)) (nomark _))
        (pss_one (ps_par (i := 2) (j := 3) (by rfl) nd rfl rfl (by decide) rfl rfl (pa_cons (pv 1) (pa_cons (pv 0) pa_nil)) (by rfl)))
        pss_nil)
      (pss_one (ps_ret (pe_or (pe_cmpR op_eq (pe_slice sl_str (pv 3) po_none (po_some (pe_callB call_len_str (by rfl) T.f_len (by decide +kernel) (pa_cons (pv 2) pa_nil)))) (pv 2) (nomark _)) (pe_one (pe_cmpR op_eq (pe_slice sl_str (pv 3) (po_some (pe_op op_sub (pe_callB call_len_str (by rfl) T.f_len (by decide +kernel) (pa_cons (pv 3) pa_nil)) (pe_callB call_len_str (by rfl) T.f_len (by decide +kernel) (pa_cons (pv 2) pa_nil)))) po_none) (pv 2) (nomark _)))))))), ?_⟩
    refine ⟨_, rfl, _, rfl, _, _, rfl, _, rfl, sx u, rfl, sx_fits (by omega), _, rfl, sx v, rfl, sx_fits (by omega), _, _, rfl, rfl, ?_⟩
    unfold clashes at q
    by_cases c1 : u.length > v.length
    · rw [if_pos c1] at q
      refine ⟨true, bl_t (by rw [sx_len, sx_len]; omega), iteT ⟨_, rfl, _, rfl, _, _, rfl, ?_⟩⟩
      refine ⟨_, rfl, _, rfl, sx v, rfl, sx_fits (by omega), _, rfl, sx u, rfl, sx_fits (by omega), ?_⟩
      rw [sx_len, cut_h u (by omega)]
      refine ⟨_, rfl, rfl, ?_⟩
      have e1 : decide (tx (u.take v.length) = tx v) = decide (u.take v.length = v) := tx_eq _ _
      refine ⟨_, congrArg V.bl e1, ?_⟩
      cases e : decide (u.take v.length = v) with
      | true =>
        rw [e] at q
        exact iteT q
      | false =>
        rw [e] at q
        refine iteF ⟨_, rfl, _, rfl, sx u, rfl, sx_fits (by omega), _, rfl, sx v, rfl, sx_fits (by omega), _, _, rfl, rfl, _, rfl, sx u, rfl, sx_fits (by omega), ?_⟩
        have e2 : (((sx u).length : Nat) : Int) - (((sx v).length : Nat) : Int) = ((u.length - v.length : Nat) : Int) := by rw [sx_len, sx_len]; omega
        dsimp only
        rw [e2, cut_l u (by omega)]
        refine ⟨_, rfl, rfl, ?_⟩
        have e3 : decide (tx (u.drop (u.length - v.length)) = tx v) = decide (u.drop (u.length - v.length) = v) := tx_eq _ _
        have q2 : Q (.bl (decide (tx (u.drop (u.length - v.length)) = tx v))) H := by
          rw [e3]
          exact q
        exact q2
    · rw [if_neg c1] at q
      refine ⟨false, bl_f (by rw [sx_len, sx_len]; omega), iteF ?_⟩
      refine ⟨_, rfl, _, rfl, sx u, rfl, sx_fits (by omega), _, rfl, sx v, rfl, sx_fits (by omega), ?_⟩
      rw [sx_len, cut_h v (by omega)]
      refine ⟨_, rfl, rfl, ?_⟩
      have e1 : decide (tx (v.take u.length) = tx u) = decide (v.take u.length = u) := tx_eq _ _
      refine ⟨_, congrArg V.bl e1, ?_⟩
      cases e : decide (v.take u.length = u) with
      | true =>
        rw [e] at q
        exact iteT q
      | false =>
        rw [e] at q
        refine iteF ⟨_, rfl, _, rfl, sx v, rfl, sx_fits (by omega), _, rfl, sx u, rfl, sx_fits (by omega), _, _, rfl, rfl, _, rfl, sx v, rfl, sx_fits (by omega), ?_⟩
        have e2 : (((sx v).length : Nat) : Int) - (((sx u).length : Nat) : Int) = ((v.length - u.length : Nat) : Int) := by rw [sx_len, sx_len]; omega
        dsimp only
        rw [e2, cut_l v (by omega)]
        refine ⟨_, rfl, rfl, ?_⟩
        have e3 : decide (tx (v.drop (v.length - u.length)) = tx u) = decide (v.drop (v.length - u.length) = u) := tx_eq _ _
        have q2 : Q (.bl (decide (tx (v.drop (v.length - u.length)) = tx u))) H := by
          rw [e3]
          exact q
        exact q2
def spFits (K : PySem.W.Frag) : Sp := fun vs H Q _ => ∃ l ws t, vs = [.ref l, tx t] ∧ H l = some (.lst (txs ws)) ∧ ws.length ≤ 1000 ∧ (∀ w ∈ ws, w.length ≤ 1000) ∧ t.length ≤ 1000 ∧ ∀ H', Same H H' → Q (.bl (fitsL ws t)) H'
theorem sc__law_fits : FnScope ["_law_words_here", "_law_text", "_law_word"] ["_law_words_here", "_law_text"] dd45.scope := ⟨rfl, rfl, rfl, by decide +kernel, rfl, by decide +kernel, by decide +kernel⟩
theorem ok__law_fits (T : Fx K mg) : DOk P w K mg base 2 (He.ga K "_law_fits") ["_law_words_here", "_law_text"] (spFits K) := by
  refine DOk.of (d := dd45) T 45 rfl rfl sc__law_fits (fun _ _ _ _ _ _ us hl => match us, hl with | [_, _], _ => rfl) (fun vs H Q E h => ?_) (fun f cdv A outer s H vs Q E hr h => ?_)
  · obtain ⟨_, _, _, rfl, _⟩ := h
    rfl
  · have nd := sc__law_fits.nd
    have hu := hu_of hr
    obtain ⟨l, ws, t, rfl, hl, lw, hw, ht, q⟩ := h
    refine ⟨_, (pss_one (ps_ret (pe_and (pe_cmpR op_ne (pv 1) (pe_str) (nomark _)) (pe_one (pe_not (pe_callB (crAny K) (by rfl) T.f_any (by decide +kernel) (pa_cons (pe_lc (own := [("_law_word", 2)]) rfl nd (piL K (pv 0)) (blkOk_by (N := ["_law_words_here", "_law_text", "_law_word"]) (sc := dd45.scope) (by decide +kernel)) (fun _ _ _ _ _ => (pg_name (i := 2) nd rfl (Or.inl rfl))) (fun _ _ _ _ _ => pts_nil) (fun _ _ _ _ _ => (pe_c (ok__law_clashing T) hr T.g__law_clashing (by rfl) (pa_cons (pv 2) (pa_cons (pv 1) pa_nil))))) pa_nil))))))), ?_⟩
    have e0 : (!decide (tx t = .str (Str.ofString ""))) = decide (t ≠ []) := by
      have : (V.str (Str.ofString "")) = tx [] := rfl
      rw [this, tx_eq, Bool.eq_iff_iff]
      simp
    refine ⟨_, rfl, rfl, _, congrArg V.bl e0, ?_⟩
    unfold fitsL at q
    cases e : decide (t ≠ []) with
    | false =>
      rw [e] at q
      exact iteF (q _ (Same.refl _))
    | true =>
      rw [e] at q
      refine iteT ⟨.ref l, rfl, l, rfl, ⟨_, SqL.of hl⟩, fun D hD => ?_⟩
      refine lc_map ws (Walk.len (walk_list (xs := txs ws)) (by rw [txs_len])) (by omega) hD (fun H1 sm => SqL.of (sm _ _ hl)) (fun w => .bl (clashes w t)) (fun i z x H1 H1' Ny ez sm ny y => ?_) (fun H1 s1 hd1 => ?_)
      · obtain ⟨rfl, ex⟩ := y
        obtain ⟨u, eu, rfl⟩ := txs_get ex
        rw [ez] at eu
        cases eu
        exact ⟨rfl, _, rfl, _, rfl, z, t, rfl, hw z (List.mem_of_getElem? ez), ht, ny _ (Same.refl _)⟩
      · refine ⟨D, ws.map fun w => clashes w t, rfl, .inl (.inl ?_), ?_⟩
        · rw [hd1, List.map_map]
          rfl
        · rw [any_map]
          exact ⟨_, rfl, q _ s1⟩
def spLComings : Sp := fun vs H Q _ => ∃ A W t, vs = [.ref A, tx t] ∧ H A = some (.tup (txs W)) ∧ t.length ≤ 1000 ∧
  ∀ H' l (qs : List (Addr × Nat × Nat)), Same H H' → PrAt H' l qs → qs.map (·.2) = comesL W t → Q (.ref l) H'
theorem sc__law_comings : FnScope ["_law_words_here", "_law_text", "_law_found", "_law_begin", "_law_end"] ["_law_words_here", "_law_text"] dd46.scope := ⟨rfl, rfl, rfl, by decide +kernel, rfl, by decide +kernel, by decide +kernel⟩
theorem ok__law_comings (T : Fx K mg) : DOk P w K mg base 1 (He.ga K "_law_comings") ["_law_words_here", "_law_text"] spLComings := by
  refine DOk.of (d := dd46) T 46 rfl rfl sc__law_comings (fun _ _ _ _ _ _ us hl => match us, hl with | [_, _], _ => rfl) (fun vs H Q E h => ?_) (fun f cdv A outer s H vs Q E hr h => ?_)
  · obtain ⟨_, _, _, rfl, _⟩ := h
    rfl
  · have nd := sc__law_comings.nd
    have hu := hu_of hr
    obtain ⟨A, W, t, rfl, hA, ht, q⟩ := h
    refine ⟨_, (pss_cons (ps_set (i := 2) nd rfl (Or.inl rfl) (pe_lst pa_nil))
      (pss_cons (ps_for PassesOwn.never rfl (pi_range1 (by rfl) T.f_range (pa_cons (pe_callB call_len_str (by rfl) T.f_len (by decide +kernel) (pa_cons (pv 1) pa_nil)) pa_nil)) (pg_name (i := 3) nd rfl (Or.inr rfl))
        (pss_one (ps_expr (pe_bm PySem.F.plainAttrs_list PySem.F.slot_list_extend PySem.F.type_list_extend mt_extend (pv 2) (pa_cons (pe_lc (own := [("_law_end", 4)]) rfl nd (pi_range2 (by rfl) T.f_range (pa_cons (pe_op op_add (pv 3) (pe_int)) (pa_cons (pe_op op_add (pe_callB call_len_str (by rfl) T.f_len (by decide +kernel) (pa_cons (pv 1) pa_nil)) (pe_int)) pa_nil))) (blkOk_by (N := ["_law_words_here", "_law_text", "_law_found", "_law_begin", "_law_end"]) (sc := dd46.scope) (by decide +kernel)) (fun _ _ _ _ _ => (pg_name (i := 4) nd rfl (Or.inl rfl))) (fun _ _ _ _ _ => pts_one (pt_cmpR (opIn K) (pe_slice sl_str (pv 1) (po_some (pv 3)) (po_some (pv 4))) (pv 0) rfl)) (fun _ _ _ _ _ => (pe_tup (pa_cons (pv 3) (pa_cons (pv 4) pa_nil))))) pa_nil)))))
      (pss_one (ps_ret (pv 2))))), ?_⟩
    refine ⟨Nat.zero_le _, fun l nl => ?_⟩
    have s0 : Same H (upd H l (.lst [])) := same_upd nl
    refine ⟨_, rfl, sx t, rfl, sx_fits (by omega), _, rfl, by rw [sx_len]; omega, by rw [sx_len]; omega, ?_⟩
    have el : (((sx t).length : Nat) : Int).toNat = t.length := by rw [sx_len]; omega
    rw [el]
    refine for_range (fun i σ H3 => ∃ (qs : List (Addr × Nat × Nat)) (y3 y4 : Option V), σ = [some (.ref A), some (tx t), some (.ref l), y3, y4] ∧ Same H H3 ∧ PrAt H3 l qs ∧ qs.map (·.2) = (List.range i).flatMap (comes1 W t))
      ⟨[], none, none, rfl, s0, ⟨upd_same, by simp⟩, rfl⟩ (fun i σ H3 hi ⟨qs, y3, y4, es, s3, pr, eq⟩ => ?_) (fun σ H3 ⟨qs, y3, y4, es, s3, pr, eq⟩ => ?_)
    · subst es
      have e0 : (0 : Int) + (i : Int) = ((i : Nat) : Int) := by omega
      rw [e0]
      refine ⟨.ref l, rfl, .inl ⟨rfl, _, .inl (.inl pr.1)⟩, ?_⟩
      refine ⟨_, rfl, _, _, rfl, rfl, _, rfl, sx t, rfl, sx_fits (by omega), _, _, rfl, rfl, _, _, rfl, ⟨by omega, by omega, by rw [sx_len]; omega, by rw [sx_len]; omega⟩, fun D hD => ?_⟩
      have en : (((sx t).length : Int) + 1 - ((i : Int) + 1)).toNat = (List.range (t.length - i)).length := by rw [sx_len, List.length_range]; omega
      rw [en]
      refine lc_ft (List.range (t.length - i)) walk_range (by rw [List.length_range]; omega) hD (fun _ _ => trivial) (fun j => decide (span t i (i + 1 + j) ∈ W)) (fun j => [.int (i : Nat), .int ((i + 1 + j : Nat) : Int)]) (fun k z x H4 H4' Ny Nn ez sm ny nn y => ?_) (fun H4 ps s4 hd4 ep hp4 => ?_)
      · obtain ⟨rfl, rfl⟩ := y
        obtain ⟨rfl, hz⟩ := range_get ez
        have e1 : (i : Int) + 1 + (k : Int) = ((i + 1 + k : Nat) : Int) := by omega
        dsimp only
        rw [e1]
        refine ⟨rfl, _, rfl, _, rfl, _, rfl, _, rfl, _, rfl, sx t, rfl, sx_fits (by omega), ?_⟩
        rw [cut_lh t (by omega) (by omega)]
        refine ⟨.ref A, rfl, A, txs W, rfl, .inr (SqT.of (sm _ _ (s3 _ _ hA))), rfl, txs_flat W, ?_⟩
        have e2 : inV (tx ((t.drop i).take (i + 1 + k - i))) (txs W) = decide (span t i (i + 1 + k) ∈ W) := inV_txs _ _
        refine ⟨_, congrArg V.bl e2, ?_⟩
        cases hb : decide (span t i (i + 1 + k) ∈ W) with
        | true => exact iteT ⟨_, rfl, _, rfl, Nat.le_of_ble_eq_true rfl, fun T nT => ny _ T (same_upd nT) hb upd_same⟩
        | false => exact iteF (nn _ (Same.refl _) hb)
      · have lq : qs.length ≤ i * 1000 := by
          have h1 := congrArg List.length eq
          rw [List.length_map] at h1
          have h2 := flat_len (comes1 W t) 1000 (fun b => Nat.le_trans (comes1_len W t b) (by omega)) (List.range i)
          rw [List.length_range] at h2
          omega
        have lp : ps.length ≤ 1000 := by
          have h1 := congrArg List.length ep
          rw [List.length_map] at h1
          have h2 := List.length_filter_le (fun j => decide (span t i (i + 1 + j) ∈ W)) (List.range (t.length - i))
          rw [List.length_range] at h2
          omega
        refine ⟨l, D, _, _, rfl, rfl, s4 _ _ pr.1, hd4, ?_, qs ++ ps.map fun p => (p.1, i, i + 1 + p.2), _, _, rfl, fun c o ec => ?_, ⟨?_, fun z hz => ?_⟩, ?_⟩
        · rw [List.length_map, List.length_map]
          refine Nat.le_trans (m := 1001000) ?_ (by decide)
          have : i * 1000 ≤ 1000 * 1000 := Nat.mul_le_mul_right _ (by omega)
          omega
        · rw [upd_ne (ne_of_none ec nl)]
          exact s4 _ _ (s3 _ _ ec)
        · rw [upd_same, List.map_append, List.map_map]
          rfl
        · rcases List.mem_append.mp hz with hz | hz
          · have h := pr.2 z hz
            rw [upd_ne (ne_of h pr.1 fun z => nomatch z)]
            exact s4 _ _ h
          · obtain ⟨p, hp, rfl⟩ := List.mem_map.mp hz
            have h := hp4 p hp
            rw [upd_ne (ne_of h (s4 _ _ pr.1) fun z => nomatch z)]
            exact h
        · rw [List.map_append, eq, List.range_succ, List.flatMap_append, List.map_map]
          congr 1
          rw [List.flatMap_cons, List.flatMap_nil, List.append_nil]
          unfold comes1
          rw [← ep, List.map_map]
          rfl
    · subst es
      exact ⟨.ref l, rfl, q _ l qs s3 pr eq⟩
def spCount : Sp := fun vs H Q _ => ∃ A W t, vs = [.ref A, tx t] ∧ H A = some (.tup (txs W)) ∧ t.length ≤ 1000 ∧ ∀ H', Same H H' → Q (.int (countL W t)) H'
theorem sc__law_count : FnScope ["_law_words_here", "_law_text"] ["_law_words_here", "_law_text"] dd47.scope := ⟨rfl, rfl, rfl, by decide +kernel, rfl, by decide +kernel, by decide +kernel⟩
theorem ok__law_count (T : Fx K mg) : DOk P w K mg base 2 (He.ga K "_law_count") ["_law_words_here", "_law_text"] spCount := by
  refine DOk.of (d := dd47) T 47 rfl rfl sc__law_count (fun _ _ _ _ _ _ us hl => match us, hl with | [_, _], _ => rfl) (fun vs H Q E h => ?_) (fun f cdv A outer s H vs Q E hr h => ?_)
  · obtain ⟨_, _, _, rfl, _⟩ := h
    rfl
  · have nd := sc__law_count.nd
    have hu := hu_of hr
    obtain ⟨A, W, t, rfl, hA, ht, q⟩ := h
    refine ⟨_, (pss_one (ps_ret (pe_op op_sub (pe_op op_add (pe_callB call_len_str (by rfl) T.f_len (by decide +kernel) (pa_cons (pv 1) pa_nil)) (pe_int)) (pe_callB (clenS K) (by rfl) T.f_len (by decide +kernel) (pa_cons (pe_c (ok__law_comings T) hr T.g__law_comings (by rfl) (pa_cons (pv 0) (pa_cons (pv 1) pa_nil))) pa_nil))))), ?_⟩
    refine ⟨_, rfl, sx t, rfl, sx_fits (by omega), _, _, rfl, rfl, .ref A, rfl, _, rfl, A, W, t, rfl, hA, ht, fun H1 l qs s1 pr eq => ?_⟩
    refine ⟨l, qs.map fun z => V.ref z.1, rfl, .inl (SqL.of pr.1), _, _, rfl, rfl, ?_⟩
    have e : (((sx t).length : Nat) : Int) + 1 - (((qs.map fun z => V.ref z.1).length : Nat) : Int) = countL W t := by
      unfold countL
      rw [← eq, List.length_map, List.length_map, sx_len]
    have qq := q _ s1
    rw [← e] at qq
    exact qq
def spIsLast : Sp := fun vs H Q _ => ∃ A W t d, vs = [.ref A, .int d, tx t] ∧ H A = some (.tup (txs W)) ∧ 2 ≤ t.length ∧ t.length ≤ 1000 ∧ ∀ H', Same H H' → Q (.bl (wordL d W t)) H'
theorem sc__law_is_last : FnScope ["_law_lot_here", "_law_number", "_law_text", "_law_more"] ["_law_lot_here", "_law_number", "_law_text"] dd49.scope := ⟨rfl, rfl, rfl, by decide +kernel, rfl, by decide +kernel, by decide +kernel⟩
theorem ok__law_is_last (T : Fx K mg) : DOk P w K mg base 3 (He.ga K "_law_is_last") ["_law_lot_here", "_law_number", "_law_text"] spIsLast := by
  refine DOk.of (d := dd49) T 49 rfl rfl sc__law_is_last (fun _ _ _ _ _ _ us hl => match us, hl with | [_, _, _], _ => rfl) (fun vs H Q E h => ?_) (fun f cdv A outer s H vs Q E hr h => ?_)
  · obtain ⟨_, _, _, _, rfl, _⟩ := h
    rfl
  · have nd := sc__law_is_last.nd
    have hu := hu_of hr
    obtain ⟨A, W, t, d, rfl, hA, h2, ht, q⟩ := h
    refine ⟨_, (pss_cons (ps_set (i := 3) nd rfl (Or.inl rfl) (pe_op op_add (pe_callB (call_min2 rfl) (by rfl) T.f_min (by decide +kernel) (pa_cons (pv 1) (pa_cons (pe_c (ok__law_count T) hr T.g__law_count (by rfl) (pa_cons (pv 0) (pa_cons (pe_slice sl_str (pv 2) po_none (po_some (pe_un un_neg (pe_int)))) pa_nil))) pa_nil))) (pe_callB (call_min2 rfl) (by rfl) T.f_min (by decide +kernel) (pa_cons (pv 1) (pa_cons (pe_c (ok__law_count T) hr T.g__law_count (by rfl) (pa_cons (pv 0) (pa_cons (pe_slice sl_str (pv 2) (po_some (pe_int)) po_none) pa_nil))) pa_nil)))))
      (pss_one (ps_ret (pe_cmpR op_eq (pe_op op_sub (pe_op op_sub (pv 3) (pe_callB (call_min2 rfl) (by rfl) T.f_min (by decide +kernel) (pa_cons (pv 1) (pa_cons (pe_c (ok__law_count T) hr T.g__law_count (by rfl) (pa_cons (pv 0) (pa_cons (pv 2) pa_nil))) pa_nil)))) (pe_callB (call_min2 rfl) (by rfl) T.f_min (by decide +kernel) (pa_cons (pv 1) (pa_cons (pe_c (ok__law_count T) hr T.g__law_count (by rfl) (pa_cons (pv 0) (pa_cons (pe_slice sl_str (pv 2) (po_some (pe_int)) (po_some (pe_un un_neg (pe_int)))) pa_nil))) pa_nil)))) (pe_int) (nomark _))))), ?_⟩
    refine ⟨_, rfl, .ref A, rfl, _, rfl, 1, rfl, _, rfl, sx t, rfl, sx_fits (by omega), ?_⟩
    have e1 : cutS (sx t) none (some (-1)) = sx t.dropLast := cut_neg t (by omega)
    rw [e1]
    refine ⟨A, W, t.dropLast, rfl, hA, by rw [List.length_dropLast]; omega, fun H1 s1 => ?_⟩
    refine ⟨_, _, rfl, _, rfl, .ref A, rfl, _, rfl, _, rfl, sx t, rfl, sx_fits (by omega), ?_⟩
    have e2 : cutS (sx t) (some 1) none = sx (t.drop 1) := cut_l t (a := 1) (by omega)
    rw [e2]
    refine ⟨A, W, t.drop 1, rfl, s1 _ _ hA, by rw [List.length_drop]; omega, fun H2 s2 => ?_⟩
    refine ⟨_, _, rfl, _, _, rfl, rfl, ?_⟩
    have s12 := s1.trans s2
    refine ⟨_, rfl, _, rfl, .ref A, rfl, _, rfl, A, W, t, rfl, s12 _ _ hA, ht, fun H3 s3 => ?_⟩
    refine ⟨_, _, rfl, _, _, rfl, rfl, ?_⟩
    have s13 := s12.trans s3
    refine ⟨_, rfl, .ref A, rfl, _, rfl, _, rfl, 1, rfl, _, rfl, sx t, rfl, sx_fits (by omega), ?_⟩
    have e3 : cutS (sx t) (some 1) (some (-1)) = sx (t.drop 1).dropLast := cut_mid t h2
    rw [e3]
    refine ⟨A, W, (t.drop 1).dropLast, rfl, s13 _ _ hA, by rw [List.length_dropLast, List.length_drop]; omega, fun H4 s4 => ?_⟩
    refine ⟨_, _, rfl, _, _, rfl, rfl, rfl, ?_⟩
    have qq := q _ (s13.trans s4)
    unfold wordL at qq
    have e4 : decide (V.int (capL d W t.dropLast + capL d W (t.drop 1) - capL d W t - capL d W (t.drop 1).dropLast) = V.int 1) = decide (capL d W t.dropLast + capL d W (t.drop 1) - capL d W t - capL d W (t.drop 1).dropLast = 1) := by
      rw [Bool.eq_iff_iff]
      simp
    rw [← e4] at qq
    exact qq
end
end L2.NJ
set_option Elab.async false
set_option linter.all false
set_option maxRecDepth 100000
set_option maxHeartbeats 4000000
namespace L2.NJ
open PySem PySem.Spec PyProof.Rows PySem.W
theorem sort_of {γ : Type} (f : γ → V × PyData) (le : γ → γ → Bool) (tr : ∀ a b c, le a b = true → le b c = true → le a c = true) (tot : ∀ a b, (le a b || le b a) = true) (h : ∀ a b, dataLe false Prod.snd (f a) (f b) = le a b) (zs0 : List γ) :
    ∃ zs : List γ, zs.Perm zs0 ∧ zs.Pairwise (fun a b => le a b = true) ∧ (zs0.map f).mergeSort (dataLe false Prod.snd) = zs.map f := by
  refine ⟨zs0.mergeSort le, List.mergeSort_perm _ _, ?_, ?_⟩
  · exact List.pairwise_mergeSort tr tot zs0
  · exact (List.map_mergeSort fun a _ b _ => (h a b).symm).symm
/-! ### arrows in order -/
def arLt (a b : Ar) : Bool := decide (a.1 < b.1) || (decide (a.1 = b.1) && (decide (a.2.1 < b.2.1) || (decide (a.2.1 = b.2.1) && decide (a.2.2 < b.2.2))))
theorem arD_lt (a b : Ar) : dataLt (arD a) (arD b) = arLt a b := by
  obtain ⟨p, c, r⟩ := a
  obtain ⟨p', c', r'⟩ := b
  have e0 : dataLt (arD (p, c, r)) (arD (p', c', r')) = lexLt itemOrd (keyToksAll [.int (p : Nat), .str (sx [c]), .int (r : Nat)]) (keyToksAll [.int (p' : Nat), .str (sx [c']), .int (r' : Nat)]) := by
    unfold dataLt arD
    simp only [keyToks]
  have e1 : lexLt itemOrd (keyToksAll []) (keyToksAll []) = false := by
    simp only [keyToksAll]
    first | rfl | decide | simp
  rw [e0, dataLt_cons (x := .int (p : Nat)) (y := .int (p' : Nat)) (by simp [alike]), dataLt_cons (x := .str (sx [c])) (y := .str (sx [c'])) (by simp [alike]), dataLt_cons (x := .int (r : Nat)) (y := .int (r' : Nat)) (by simp [alike]), e1]
  rw [dataLt_int, dataLt_str, dataLt_int]
  have h1 : PyData.eqv (.int (p : Nat)) (.int (p' : Nat)) = decide (p = p') := by
    rw [Bool.eq_iff_iff]
    simp [PyData.eqv]
    omega
  have h2 : PyData.eqv (.str (sx [c])) (.str (sx [c'])) = decide (c = c') := by
    rw [Bool.eq_iff_iff]
    simp [PyData.eqv, sx_iff]
  have h3 : PyData.eqv (.int (r : Nat)) (.int (r' : Nat)) = decide (r = r') := by
    rw [Bool.eq_iff_iff]
    simp [PyData.eqv]
    omega
  have h4 : decide ((sx [c]).cps.toList < (sx [c']).cps.toList) = decide (c < c') := by
    rw [Bool.eq_iff_iff]
    simp [sx, List.cons_lt_cons_iff]
  rw [h1, h2, h3, h4]
  unfold arLt
  rw [Bool.eq_iff_iff]
  by_cases a1 : p = p'
  · by_cases a2 : c = c'
    · by_cases a3 : r = r'
      · simp [a1, a2, a3]
      · simp [a1, a2, a3]
    · simp [a1, a2]
  · simp [a1]
def arLe (a b : Ar) : Bool := !arLt b a
theorem arLe_tot (a b : Ar) : (arLe a b || arLe b a) = true := by
  unfold arLe arLt
  simp
  omega
theorem arLe_tr (a b c : Ar) (h1 : arLe a b = true) (h2 : arLe b c = true) : arLe a c = true := by
  unfold arLe arLt at *
  simp at *
  omega
theorem arLe_ne {a b : Ar} (h : arLe a b = true) (n : a ≠ b) : arLt a b = true := by
  obtain ⟨p, c, r⟩ := a
  obtain ⟨p', c', r'⟩ := b
  unfold arLe arLt at *
  simp at *
  omega
/-! ### texts in order -/
def Asc (W : List (List Nat)) : Prop := W.Pairwise (fun a b => a < b)
theorem tx_lt (a b : List Nat) : dataLt (.str (sx a)) (.str (sx b)) = decide (a < b) := by
  rw [dataLt_str, Bool.eq_iff_iff, decide_eq_true_iff, decide_eq_true_iff]
  exact Iff.rfl
theorem tx_le (a b : List Nat) : dataLe false Prod.snd ((tx a, PyData.str (sx a)) : V × PyData) (tx b, PyData.str (sx b)) = decide (a ≤ b) := by
  have h : dataLe false (fun t : List Nat => PyData.str (sx t)) a b = decide ((sx a).cps.toList ≤ (sx b).cps.toList) := by rw [dataLe_str]
  have h2 : decide ((sx a).cps.toList ≤ (sx b).cps.toList) = decide (a ≤ b) := by
    rw [Bool.eq_iff_iff, decide_eq_true_iff, decide_eq_true_iff]
    exact Iff.rfl
  exact h.trans h2
theorem Asc.step {W : List (List Nat)} (h : Asc W) (i : Nat) (y z : List Nat) (hy : W[i]? = some y) (hz : W[i + 1]? = some z) : dataLt (.str (sx y)) (.str (sx z)) = true := by
  obtain ⟨i1, e1⟩ := List.getElem?_eq_some_iff.mp hy
  obtain ⟨i2, e2⟩ := List.getElem?_eq_some_iff.mp hz
  have := List.pairwise_iff_getElem.mp h i (i + 1) i1 i2 (by omega)
  rw [tx_lt, ← e1, ← e2]
  exact decide_eq_true this
theorem Asc.nod {W : List (List Nat)} (h : Asc W) : W.Nodup := List.Pairwise.imp (fun hab e => by
  rw [e] at hab
  exact List.lt_irrefl _ hab) h
theorem sort_txs (ts : List (List Nat)) (hn : ts.Nodup) : ∃ W : List (List Nat), W.Perm ts ∧ Asc W ∧ (ts.map fun t => (tx t, PyData.str (sx t))).mergeSort (dataLe false Prod.snd) = W.map fun t => (tx t, PyData.str (sx t)) := by
  obtain ⟨W, h1, h2, h3⟩ := sort_of (fun t : List Nat => (tx t, PyData.str (sx t))) (fun a b => decide (a ≤ b)) (fun a b c h1 h2 => decide_eq_true (List.le_trans (of_decide_eq_true h1) (of_decide_eq_true h2)))
    (fun a b => by
      rcases List.le_total a b with h | h
      · simp [h]
      · simp [h]) tx_le ts
  refine ⟨W, h1, ?_, h3⟩
  have nW : W.Nodup := h1.nodup_iff.mpr hn
  exact List.Pairwise.imp₂ (fun a b hle hne => by
    have hle := of_decide_eq_true hle
    exact (List.le_iff_lt_or_eq.mp hle).resolve_right hne) h2 nW
/-! ### a dict of arrows, all True -/
def k3 (a : Ar) : List Key := [Sum.inl (a.1 : Int), Sum.inr (sx [a.2.1]), Sum.inl (a.2.2 : Int)]
theorem k3_inj {a b : Ar} (h : k3 a = k3 b) : a = b := by
  obtain ⟨p, c, r⟩ := a
  obtain ⟨p', c', r'⟩ := b
  unfold k3 at h
  injection h with h1 h
  injection h with h2 h
  injection h with h3 _
  have a1 : (p : Int) = (p' : Int) := Sum.inl.inj h1
  have a2 : [c] = [c'] := sx_inj (Sum.inr.inj h2)
  have a3 : (r : Int) = (r' : Int) := Sum.inl.inj h3
  injection a2 with a2 _
  have a1 : p = p' := by omega
  have a3 : r = r' := by omega
  rw [a1, a2, a3]
def marks3 (as : List Ar) : List (List Key × V) := as.map fun a => (k3 a, V.bl true)
theorem marks3_put {as : List Ar} {a : Ar} (h : a ∉ as) : putK (marks3 as) (k3 a) (.bl true) = marks3 (as ++ [a]) := by
  have e : valV (marks3 as) (k3 a) = none := val_none.mpr fun q hq z => by
    obtain ⟨b, hb, rfl⟩ := List.mem_map.mp hq
    exact h (k3_inj z ▸ hb)
  rw [putK_new _ e]
  unfold marks3
  rw [List.map_append]
  rfl
theorem marks3_old {as : List Ar} {a : Ar} (h : a ∈ as) : putK (marks3 as) (k3 a) (.bl true) = marks3 as := by
  unfold putK
  have e : valV (marks3 as) (k3 a) ≠ none := fun z => val_none.mp z (k3 a, .bl true) (List.mem_map.mpr ⟨a, h, rfl⟩) rfl
  obtain ⟨v, hv⟩ := Option.ne_none_iff_exists'.mp e
  rw [valV_any, hv]
  rw [if_pos (show (some v).isSome = true from rfl)]
  unfold marks3
  rw [List.map_map]
  refine List.map_congr_left fun b _ => ?_
  show (if k3 b = k3 a then (k3 b, V.bl true) else (k3 b, V.bl true)) = _
  split <;> rfl
def addA (as : List Ar) (a : Ar) : List Ar := if a ∈ as then as else as ++ [a]
theorem addA_put (as : List Ar) (a : Ar) : putK (marks3 as) (k3 a) (.bl true) = marks3 (addA as a) := by
  unfold addA
  split
  · exact marks3_old ‹_›
  · exact marks3_put ‹_›
theorem addA_mem {as : List Ar} {a b : Ar} : b ∈ addA as a ↔ b ∈ as ∨ b = a := by
  unfold addA
  split
  · rename_i h
    exact ⟨.inl, fun k => k.elim id fun e => e ▸ h⟩
  · rw [List.mem_append, List.mem_singleton]
theorem addA_nod {as : List Ar} {a : Ar} (h : as.Nodup) : (addA as a).Nodup := by
  unfold addA
  split
  · exact h
  · rename_i hn
    rw [List.nodup_append]
    exact ⟨h, by simp, fun x hx y hy e => hn (by rw [List.mem_singleton.mp hy] at e; rw [← e]; exact hx)⟩
theorem addA_len {as : List Ar} {a : Ar} : (addA as a).length ≤ as.length + 1 := by
  unfold addA
  split
  · omega
  · rw [List.length_append]
    exact Nat.le_refl _
theorem marks3_len (as : List Ar) : (marks3 as).length = as.length := by unfold marks3; rw [List.length_map]
end L2.NJ
set_option Elab.async false
set_option linter.all false
set_option maxRecDepth 100000
set_option maxHeartbeats 8000000
namespace L2.NJ
open PySem PySem.Spec PyProof.Rows PySem.W
theorem erase_perm {α : Type} (zs : List α) (d : Nat) (h : d < zs.length) : (zs[d] :: zs.eraseIdx d).Perm zs := by
  have e : zs = zs.take d ++ zs[d] :: zs.drop (d + 1) := by
    rw [← List.drop_eq_getElem_cons h, List.take_append_drop]
  rw [List.eraseIdx_eq_take_drop_succ]
  have p : (zs[d] :: (zs.take d ++ zs.drop (d + 1))).Perm (zs.take d ++ zs[d] :: zs.drop (d + 1)) := List.perm_middle.symm
  exact p.trans (List.Perm.of_eq e.symm)
structure ArrsOk (n : Nat) (sg : List Nat) (as : List Ar) : Prop where
  nod : as.Nodup
  inn : ∀ a ∈ as, a.1 < n ∧ a.2.2 < n
  abc : ∀ a ∈ as, 97 ≤ a.2.1 ∧ a.2.1 ≤ 99
theorem ArrsOk.add {n : Nat} {sg : List Nat} {as : List Ar} (h : ArrsOk n sg as) (hs : ∀ c ∈ sg, 97 ≤ c ∧ c ≤ 99) {a : Ar} (h1 : a.1 < n) (h2 : a.2.1 ∈ sg) (h3 : a.2.2 < n) : ArrsOk n sg (addA as a) := by
  refine ⟨addA_nod h.nod, fun b hb => ?_, fun b hb => ?_⟩
  · rcases addA_mem.mp hb with hb | rfl
    · exact h.inn b hb
    · exact ⟨h1, h3⟩
  · rcases addA_mem.mp hb with hb | rfl
    · exact h.abc b hb
    · exact hs _ h2
section
variable {P : Program} {w : World} {K : PySem.W.Frag} {mg : Str → Option Value} {base : Heap}
def spLWeb : Sp := fun vs H Q _ => ∃ h ha, vs = [.ref h, .int 4] ∧ HandAt H h ha ∧ ∀ H' p n A zs, HandAt H' h ha → SB h H H' → PartsAt H' p n A zs → WebOk n (zs.map (·.2)) → Q (.ref p) H'
theorem sc__law_web : FnScope ["_law_hand_here", "_law_most", "_law_points", "_law_signs_here", "_law_found", "_law_point", "_law_turn", "_law_sign"] ["_law_hand_here", "_law_most"] dd39.scope := ⟨rfl, rfl, rfl, by decide +kernel, rfl, by decide +kernel, by decide +kernel⟩
theorem ok__law_web (T : Fx K mg) : DOk P w K mg base 3 (He.ga K "_law_web") ["_law_hand_here", "_law_most"] spLWeb := by
  refine DOk.of (d := dd39) T 39 rfl rfl sc__law_web (fun _ _ _ _ _ _ us hl => match us, hl with | [_, _], _ => rfl) (fun vs H Q E h => ?_) (fun f cdv A outer s H vs Q E hr h => ?_)
  · obtain ⟨_, _, rfl, _⟩ := h
    rfl
  · have nd := sc__law_web.nd
    have hu := hu_of hr
    obtain ⟨h, ha, rfl, hk, q⟩ := h
    refine ⟨_, (pss_cons (ps_set (i := 2) nd rfl (Or.inl rfl) (pe_ix (ixL K) (pe_lst (pa_cons (pe_int) (pa_cons (pe_int) (pa_cons (pe_int) (pa_cons (pe_int) (pa_cons (pe_int) pa_nil)))))) (pe_c (ok__law_draw T) hr T.g__law_draw (by rfl) (pa_cons (pv 0) (pa_cons (pe_int) pa_nil))) (fun _ _ => rfl)))
      (pss_cons (ps_set (i := 3) nd rfl (Or.inl rfl) (pe_slice sl_str (pe_str) po_none (po_some (pe_op op_add (pe_int) (pe_callTy call_int1 (by rfl) T.f_int (by decide +kernel) (pa_cons (pe_cmpR op_eq (pe_c (ok__law_draw T) hr T.g__law_draw (by rfl) (pa_cons (pv 0) (pa_cons (pe_int) pa_nil))) (pe_int) (nomark _)) pa_nil))))))
      (pss_cons (ps_set (i := 4) nd rfl (Or.inl rfl) (pe_dnewT))
      (pss_cons (ps_for PassesOwn.never rfl (pi_range1 (by rfl) T.f_range (pa_cons (pv 2) pa_nil)) (pg_name (i := 5) nd rfl (Or.inl rfl))
        (pss_one (ps_dput hu (pv 4) (pe_tup (pa_cons (pv 5) (pa_cons (pe_c (ok__law_someS T) hr T.g__law_some (by rfl) (pa_cons (pv 0) (pa_cons (pv 3) pa_nil))) (pa_cons (pe_op op_mod (pe_op op_add (pv 5) (pe_int)) (pv 2)) pa_nil)))) (pe_bl) rfl)))
      (pss_cons (ps_for PassesOwn.never rfl (pi_range1 (by rfl) T.f_range (pa_cons (pe_op op_add (pe_int) (pe_c (ok__law_draw T) hr T.g__law_draw (by rfl) (pa_cons (pv 0) (pa_cons (pv 1) pa_nil)))) pa_nil)) (pg_name (i := 6) nd rfl (Or.inl rfl))
        (pss_one (ps_dput hu (pv 4) (pe_tup (pa_cons (pe_c (ok__law_draw T) hr T.g__law_draw (by rfl) (pa_cons (pv 0) (pa_cons (pv 2) pa_nil))) (pa_cons (pe_c (ok__law_someS T) hr T.g__law_some (by rfl) (pa_cons (pv 0) (pa_cons (pv 3) pa_nil))) (pa_cons (pe_c (ok__law_draw T) hr T.g__law_draw (by rfl) (pa_cons (pv 0) (pa_cons (pv 2) pa_nil))) pa_nil)))) (pe_bl) rfl)))
      (pss_cons (ps_if (pt_cmpR op_eq (pe_c (ok__law_draw T) hr T.g__law_draw (by rfl) (pa_cons (pv 0) (pa_cons (pe_int) pa_nil))) (pe_int) (nomark _))
        (pss_cons (ps_set (i := 2) nd rfl (Or.inl rfl) (pe_int))
        (pss_one (ps_set (i := 4) nd rfl (Or.inl rfl) (pe_callTy (call_dictT hr.units rfl) (by rfl) T.f_dict (by decide +kernel) (pa_cons (pe_lc (own := [("_law_sign", 7)]) rfl nd (pi_str (pv 3)) (blkOk_by (N := ["_law_hand_here", "_law_most", "_law_points", "_law_signs_here", "_law_found", "_law_point", "_law_turn", "_law_sign"]) (sc := dd39.scope) (by decide +kernel)) (fun _ _ _ _ _ => (pg_name (i := 7) nd rfl (Or.inl rfl))) (fun _ _ _ _ _ => pts_nil) (fun _ _ _ _ _ => (pe_tup (pa_cons (pe_tup (pa_cons (pe_int) (pa_cons (pv 7) (pa_cons (pe_int) pa_nil)))) (pa_cons (pe_bl) pa_nil))))) pa_nil)))))
        pss_nil)
      (pss_one (ps_ret (pe_tup (pa_cons (pv 2) (pa_cons (pe_callTy (ctupOf K) (by rfl) T.f_tuple (by decide +kernel) (pa_cons (pe_callB (cr_sortedX hr.units) (by rfl) T.f_sorted (by decide +kernel) (pa_cons (pe_callTy (call_list_dT rfl) (by rfl) T.f_list (by decide +kernel) (pa_cons (pv 4) pa_nil)) pa_nil)) pa_nil)) pa_nil))))))))))), ?_⟩
    refine ⟨Nat.le_of_ble_eq_true rfl, fun l nl => ?_⟩
    have s0 : Same H (upd H l (.lst (nums [1, 1, 2, 3, 4]))) := same_upd nl
    refine ⟨.ref h, rfl, h, ha, 5, rfl, hk.same s0, by decide, by decide, fun H1 d hd hk1 sb1 => ?_⟩
    obtain ⟨n, hn, n1, n4⟩ : ∃ n : Nat, (nums [1, 1, 2, 3, 4])[d]? = some (.int (n : Nat)) ∧ 1 ≤ n ∧ n ≤ 4 := by
      match d, hd with
      | 0, _ => exact ⟨1, rfl, by decide, by decide⟩
      | 1, _ => exact ⟨1, rfl, by decide, by decide⟩
      | 2, _ => exact ⟨2, rfl, by decide, by decide⟩
      | 3, _ => exact ⟨3, rfl, by decide, by decide⟩
      | 4, _ => exact ⟨4, rfl, by decide, by decide⟩
    have lh : l ≠ h := fun z => by
      obtain ⟨xs, e⟩ := hk.ex
      rw [z, e] at nl
      cases nl
    refine ⟨l, nums [1, 1, 2, 3, 4], (d : Int), .int (n : Nat), rfl, rfl, SqL.of (sb1 _ _ lh upd_same), atI_nat hn, ?_⟩
    have sb1 : SB h H H1 := (SB.of s0).trans sb1
    -- the letters
    refine ⟨.ref h, rfl, h, ha, 4, rfl, hk1, by decide, by decide, fun H2 d2 hd2 hk2 sb2 => ?_⟩
    refine ⟨rfl, .inr ⟨_, rfl, _, _, rfl, rfl, _, rfl, Str.ofString "abc", rfl, by decide +kernel, ?_⟩⟩
    obtain ⟨sg, esg, sg3, sga, sg0, sgn⟩ : ∃ sg : List Nat, cutS (Str.ofString "abc") none (some (2 + if decide (V.int (d2 : Nat) = V.int 0) = true then 1 else 0)) = sx sg ∧ sg.length ≤ 3 ∧ (∀ c ∈ sg, 97 ≤ c ∧ c ≤ 99) ∧ 0 < sg.length ∧ sg.Nodup := by
      cases decide (V.int (d2 : Nat) = V.int 0) with
      | true => exact ⟨[97, 98, 99], by decide +kernel, by decide, by simp, by decide, by decide⟩
      | false => exact ⟨[97, 98], by decide +kernel, by decide, by simp, by decide, by decide⟩
    rw [esg]
    have sb2 : SB h H H2 := sb1.trans sb2
    intro f nf
    have nfH : H f = none := sb2.free hk2.some nf
    have s3 : Same H2 (upd H2 f (.dT [])) := same_upd nf
    have hk3 := hk2.same s3
    have sb3 : SB h H (upd H2 f (.dT [])) := sb2.trans (.of s3)
    have hf3 : (upd H2 f (.dT [])) f = some (.dT (marks3 [])) := upd_same
    generalize upd H2 f (.dT []) = H3 at hk3 sb3 hf3 ⊢
    have putsb : ∀ {H4 : Hp} (o : HO), SB h H H4 → SB h H (upd H4 f o) := fun {H4} o sb b u e1 e2 => by
      rw [upd_ne (ne_of_none e2 nfH)]
      exact sb _ _ e1 e2
    have puthk : ∀ {H4 : Hp} {k : List (List Key × V)} (o : HO), HandAt H4 h ha → H4 f = some (.dT k) → HandAt (upd H4 f o) h ha := fun {H4 k} o ⟨cells, i, r, s, t, w⟩ e => ⟨cells, i, r, s, t, w.ne, by rw [upd_ne (ne_of w.hh e fun z => nomatch z)]; exact w.hh, by rw [upd_ne (ne_of w.hc e fun z => nomatch z)]; exact w.hc⟩
    have fh : f ≠ h := fun z => by
      obtain ⟨xs, e⟩ := hk3.ex
      rw [← z, hf3] at e
      cases e
    -- the ring
    refine ⟨_, rfl, _, rfl, by omega, by omega, ?_⟩
    have en : ((n : Int)).toNat = n := by omega
    rw [en]
    refine for_range (fun i σ H4 => ∃ (as : List Ar) (y5 : Option V), σ = [some (.ref h), some (.int 4), some (.int (n : Nat)), some (tx sg), some (.ref f), y5, none, none] ∧ SB h H H4 ∧ HandAt H4 h ha ∧ H4 f = some (.dT (marks3 as)) ∧ as.length ≤ i ∧ ArrsOk n sg as ∧ ∀ p, p < i → ∃ c, (p, c, (p + 1) % n) ∈ as)
      ⟨[], none, rfl, sb3, hk3, hf3, Nat.le_refl _, ⟨by simp, by simp, by simp⟩, fun p hp => by omega⟩ (fun i σ H4 hi ⟨as, y5, es, sb4, hk4, hf4, la, ok, rg⟩ => ?_) (fun σ H4 ⟨as, y5, es, sb4, hk4, hf4, la, ok, rg⟩ => ?_)
    · subst es
      have e0 : (0 : Int) + (i : Int) = ((i : Nat) : Int) := by omega
      rw [e0]
      refine ⟨.ref f, rfl, _, rfl, .ref h, rfl, _, rfl, h, ha, sg, rfl, hk4, sg0, by omega, fun H5 c hc hk5 sb5 => ?_⟩
      refine ⟨_, rfl, _, _, rfl, rfl, _, rfl, _, _, rfl, rfl, (by omega : (0 : Int) < (n : Int)), Nat.le_of_ble_eq_true rfl, fun T nT => ?_⟩
      have em : ((i : Int) + 1) % (n : Int) = (((i + 1) % n : Nat) : Int) := by rw [Int.natCast_emod]; rfl
      dsimp only
      rw [em]
      have hf5 := sb5 _ _ fh hf4
      have sT : Same H5 (upd H5 T (.tup [.int (i : Nat), tx [c], .int (((i + 1) % n : Nat) : Int)])) := same_upd nT
      have hT : (upd H5 T (.tup [.int (i : Nat), tx [c], .int (((i + 1) % n : Nat) : Int)])) T = some (.tup ((k3 (i, c, (i + 1) % n)).map kV)) := upd_same
      generalize upd H5 T (.tup [.int (i : Nat), tx [c], .int (((i + 1) % n : Nat) : Int)]) = H6 at sT hT ⊢
      have hf6 := sT _ _ hf5
      refine ⟨f, _, rfl, DPut.t hf6 hT (by rw [marks3_len]; exact fits1 (by omega)), ?_⟩
      rw [addA_put]
      have al := addA_len (as := as) (a := (i, c, (i + 1) % n))
      refine ⟨addA as (i, c, (i + 1) % n), _, rfl, putsb _ ((sb4.trans sb5).trans (.of sT)), puthk _ (hk5.same sT) hf6, upd_same, by omega, ok.add sga (by exact hi) hc (Nat.mod_lt _ (by omega)), fun p hp => ?_⟩
      by_cases e : p = i
      · rw [e]
        exact ⟨c, addA_mem.mpr (.inr rfl)⟩
      · obtain ⟨c', hc'⟩ := rg p (by omega)
        exact ⟨c', addA_mem.mpr (.inl hc')⟩
    subst es
    -- more arrows
    refine ⟨.ref h, rfl, _, rfl, h, ha, 4, rfl, hk4, by decide, by decide, fun H5 d5 hd5 hk5 sb5 => ?_⟩
    refine ⟨_, _, rfl, rfl, _, rfl, by omega, by omega, ?_⟩
    have ed : ((1 : Int) + (d5 : Int)).toNat = 1 + d5 := by omega
    rw [ed]
    refine for_range (fun i σ H4 => ∃ (as : List Ar) (y5 y6 : Option V), σ = [some (.ref h), some (.int 4), some (.int (n : Nat)), some (tx sg), some (.ref f), y5, y6, none] ∧ SB h H H4 ∧ HandAt H4 h ha ∧ H4 f = some (.dT (marks3 as)) ∧ as.length ≤ n + i ∧ ArrsOk n sg as ∧ ∀ p, p < n → ∃ c, (p, c, (p + 1) % n) ∈ as)
      ⟨as, y5, none, rfl, sb4.trans sb5, hk5, sb5 _ _ fh hf4, by omega, ok, rg⟩ (fun i σ H4 hi ⟨as, y5, y6, es, sb4, hk4, hf4, la, ok, rg⟩ => ?_) (fun σ H4 ⟨as, y5, y6, es, sb4, hk4, hf4, la, ok, rg⟩ => ?_)
    · subst es
      refine ⟨.ref f, rfl, .ref h, rfl, _, rfl, h, ha, n, rfl, hk4, by omega, by omega, fun H5 a1 ha1 hk5 sb5 => ?_⟩
      refine ⟨.ref h, rfl, _, rfl, h, ha, sg, rfl, hk5, sg0, by omega, fun H6 c hc hk6 sb6 => ?_⟩
      refine ⟨.ref h, rfl, _, rfl, h, ha, n, rfl, hk6, by omega, by omega, fun H7 a2 ha2 hk7 sb7 => ?_⟩
      refine ⟨Nat.le_of_ble_eq_true rfl, fun T nT => ?_⟩
      have sbx := (sb5.trans sb6).trans sb7
      have hf7 := sbx _ _ fh hf4
      have sT : Same H7 (upd H7 T (.tup [.int (a1 : Nat), tx [c], .int (a2 : Nat)])) := same_upd nT
      have hT : (upd H7 T (.tup [.int (a1 : Nat), tx [c], .int (a2 : Nat)])) T = some (.tup ((k3 (a1, c, a2)).map kV)) := upd_same
      generalize upd H7 T (.tup [.int (a1 : Nat), tx [c], .int (a2 : Nat)]) = H8 at sT hT ⊢
      have hf8 := sT _ _ hf7
      refine ⟨f, _, rfl, DPut.t hf8 hT (by rw [marks3_len]; exact fits1 (by omega)), ?_⟩
      rw [addA_put]
      have al := addA_len (as := as) (a := (a1, c, a2))
      refine ⟨addA as (a1, c, a2), _, _, rfl, putsb _ ((sb4.trans sbx).trans (.of sT)), puthk _ (hk7.same sT) hf8, upd_same, by omega, ok.add sga ha1 hc ha2, fun p hp => ?_⟩
      obtain ⟨c', hc'⟩ := rg p hp
      exact ⟨c', addA_mem.mpr (.inl hc')⟩
    subst es
    -- now and then all loops
    dsimp only
    refine split (A := tIfS _ _ _) (fun σ' H' => ∃ (n : Nat) (as : List Ar) (f : Addr) (y5 y6 : Option V), σ' = [some (.ref h), some (.int 4), some (.int (n : Nat)), some (tx sg), some (.ref f), y5, y6, none] ∧ SB h H H' ∧ HandAt H' h ha ∧ H' f = some (.dT (marks3 as)) ∧ as.length ≤ 60 ∧ ArrsOk n sg as ∧ 1 ≤ n ∧ n ≤ 4 ∧ ∀ p, p < n → ∃ c, (p, c, (p + 1) % n) ∈ as) (fun σ' H' ⟨n, as, f, y5, y6, es, sb, hk, hf, la, ok, n1, n4, rg⟩ => ?_) (fun nxt key => ?_)
    · subst es
      refine ⟨_, rfl, .ref f, rfl, f, _, rfl, .inl hf, fun p1 bs np1 ik => ?_⟩
      obtain ⟨zs0, ez1, ez2, hz⟩ : ∃ zs0 : List (Addr × Ar), bs = zs0.map (·.1) ∧ zs0.map (·.2) = as ∧ ∀ z ∈ zs0, H' z.1 = some (.tup (arV z.2)) := by
        clear rg ok la hf
        unfold IsKeys marks3 at ik
        induction as generalizing bs with
        | nil =>
          cases ik
          exact ⟨[], rfl, rfl, by simp⟩
        | cons a r ih =>
          cases ik with
          | cons h1 h2 =>
            rename_i b bs'
            obtain ⟨zs, e1, e2, e3⟩ := ih bs' h2
            refine ⟨(b, a) :: zs, by rw [List.map_cons, e1], by rw [List.map_cons, e2], fun z hz => ?_⟩
            rcases List.mem_cons.mp hz with rfl | hz
            · exact h1
            · exact e3 z hz
      subst ez1
      obtain ⟨zs, perm, pw, esort⟩ := sort_of (fun z : Addr × Ar => (V.ref z.1, arD z.2)) (fun a b => arLe a.2 b.2) (fun a b c => arLe_tr a.2 b.2 c.2) (fun a b => arLe_tot a.2 b.2) (fun a b => by
        rw [dataLe_eq]
        show (!dataLt (arD b.2) (arD a.2)) = _
        rw [arD_lt]
        rfl) zs0
      have sp1 : Same H' (upd H' p1 (.lst ((zs0.map (·.1)).map V.ref))) := same_upd np1
      refine ⟨p1, zs0.map fun z => (V.ref z.1, arD z.2), rfl, SqL.of (by rw [upd_same, List.map_map, List.map_map]; rfl), fun x hx => ?_, (by rw [List.map_map]; exact AllAlike.of fun a b => arD_alike _ _), (by rw [List.map_map]; exact Sortable.tuples fun z => ⟨_, _, rfl⟩), fun x hx => ?_, fun ys p2 eys np2 => ?_⟩
      · obtain ⟨z, hz', rfl⟩ := List.mem_map.mp hx
        exact arD_dp (sp1 _ _ (hz z hz'))
      · obtain ⟨z, hz', rfl⟩ := List.mem_map.mp hx
        exact arD_depth _
      rw [esort] at eys
      subst eys
      refine ⟨p2, _, rfl, .inl ⟨SqL.of upd_same, fun t nt => ⟨Nat.le_of_ble_eq_true rfl, fun P0 nP => ?_⟩⟩⟩
      have sp2 := sp1.trans ((same_upd (o := .lst ((zs.map fun z => (V.ref z.1, arD z.2)).map Prod.fst)) np2).trans (same_upd (o := .tup ((zs.map fun z => (V.ref z.1, arD z.2)).map Prod.fst)) nt))
      have sp3 := sp2.trans (same_upd (o := .tup [.int (n : Nat), .ref t]) nP)
      have pm : (zs.map (·.2)).Perm as := by
        rw [← ez2]
        exact perm.map _
      have zn : (zs.map (·.2)).Nodup := pm.nodup_iff.mpr ok.nod
      refine q _ P0 n t zs (hk.same sp3) (sb.trans (.of sp3)) ⟨upd_same, ?_, fun z hz' => sp3 _ _ (hz z (perm.mem_iff.mp hz'))⟩ ⟨n1, n4, ?_, fun a ha => ok.inn a (pm.mem_iff.mp ha), fun a ha => ok.abc a (pm.mem_iff.mp ha), fun p hp => let ⟨c, hc⟩ := rg p hp; ⟨c, pm.mem_iff.mpr hc⟩, fun i y z hy hz' => ?_⟩
      · refine (same_upd (o := .tup [.int (n : Nat), .ref t]) nP) _ _ ?_
        rw [upd_same, List.map_map]
        rfl
      · rw [pm.length_eq]
        exact la
      · have pw2 : (zs.map (·.2)).Pairwise fun a b => arLe a b = true := List.Pairwise.map _ (fun a b h => h) pw
        obtain ⟨i1, e1⟩ := List.getElem?_eq_some_iff.mp hy
        obtain ⟨i2, e2⟩ := List.getElem?_eq_some_iff.mp hz'
        have h1 := List.pairwise_iff_getElem.mp pw2 i (i + 1) i1 i2 (by omega)
        have h2 := List.pairwise_iff_getElem.mp zn i (i + 1) i1 i2 (by omega)
        rw [arD_lt, ← e1, ← e2]
        exact arLe_ne h1 h2
    · refine ⟨.ref h, rfl, h, ha, 4, rfl, hk4, by decide, by decide, fun H5 d6 hd6 hk6 sb6 => ?_⟩
      have sb7 := sb4.trans sb6
      have hf7 := sb6 _ _ fh hf4
      refine ⟨rfl, ?_⟩
      by_cases c0 : d6 = 0
      · subst c0
        refine ⟨true, rfl, iteT ?_⟩
        refine ⟨_, rfl, sx sg, rfl, fun D hD => ?_⟩
        refine lc_gen walk_tx (by omega) hD (fun _ _ => trivial) (fun i acc H6 => ∃ (ps : List Addr) (L : List (List Key × Addr × V)), acc = ps.map V.ref ∧ Paired (PairT H6) ps L ∧ L.map (fun e => (e.1, e.2.2)) = marks3 ((sg.take i).map fun c => (0, c, 0)))
          ⟨[], [], rfl, .nil, rfl⟩ (fun i acc H6 xs ys hd ⟨ps, L, e1, e2, e3⟩ => ⟨ps, L, e1, Paired.mapP e2 fun p e ⟨h1, h2⟩ => ⟨by rw [upd_ne (ne_of h1 hd fun z => nomatch z)]; exact h1, by rw [upd_ne (ne_of h2 hd fun z => nomatch z)]; exact h2⟩, e3⟩)
          (fun i x H6 H6' acc N hi sm ha hl ⟨ps, L, e1, e2, e3⟩ add skip y => ?_) (fun H6 acc sm ha hl ⟨ps, L, e1, e2, e3⟩ => ?_)
        · obtain ⟨rfl, c, hc, rfl⟩ := y
          refine ⟨rfl, _, rfl, Nat.le_of_ble_eq_true rfl, fun T1 nT1 => ⟨Nat.le_of_ble_eq_true rfl, fun T2 nT2 => ?_⟩⟩
          have t1 : Same H6' (upd H6' T1 (.tup [.int 0, tx [c], .int 0])) := same_upd nT1
          have t2 : Same (upd H6' T1 (.tup [.int 0, tx [c], .int 0])) (upd (upd H6' T1 (.tup [.int 0, tx [c], .int 0])) T2 (.tup [.ref T1, .bl true])) := same_upd nT2
          have t12 := t1.trans t2
          refine add _ _ t12 ⟨ps ++ [T2], L ++ [(k3 (0, c, 0), T1, .bl true)], by rw [e1, List.map_append]; rfl, Paired.snoc (Paired.mapP e2 fun p e ⟨h1, h2⟩ => ⟨t12 _ _ h1, t12 _ _ h2⟩) ⟨upd_same, t2 _ _ upd_same⟩, ?_⟩
          rw [List.map_append, e3, List.take_add_one, hc, List.map_append]
          unfold marks3
          rw [List.map_append]
          rfl
        · rw [List.take_length] at e3
          rw [e1] at ha
          have nod3 : (L.map (·.1)).Nodup := by
            have e4 : L.map (·.1) = (L.map fun e => (e.1, e.2.2)).map Prod.fst := by
              rw [List.map_map]
              rfl
            rw [e4, e3]
            unfold marks3
            rw [List.map_map, List.map_map]
            exact List.Pairwise.map _ (fun a b e z => e (by have := k3_inj z; injection this with _ h; injection h)) sgn
          refine ⟨D, ps, L, rfl, SqL.of ha, e2, nod3, fun g ng => ?_⟩
          rw [e3]
          have sg6 := sm.trans (same_upd (o := .dT (marks3 (sg.map fun c => (0, c, 0)))) ng)
          refine key _ _ ⟨1, sg.map fun c => (0, c, 0), g, _, _, rfl, sb7.trans (.of sg6), hk6.same sg6, upd_same, by rw [List.length_map]; omega, ⟨List.Pairwise.map _ (fun a b e z => e (by injection z with _ h; injection h)) sgn, fun a ha => ?_, fun a ha => ?_⟩, by decide, by decide, fun p hp => ?_⟩
          · obtain ⟨c, _, rfl⟩ := List.mem_map.mp ha
            exact ⟨Nat.zero_lt_one, Nat.zero_lt_one⟩
          · obtain ⟨c, hc, rfl⟩ := List.mem_map.mp ha
            exact sga c hc
          · have p0 : p = 0 := by omega
            subst p0
            exact ⟨sg[0], List.mem_map.mpr ⟨sg[0], List.getElem_mem sg0, rfl⟩⟩
      · refine ⟨false, bl_f (fun z => c0 (by have := V.int.inj z; omega)), iteF (key _ _ ⟨n, as, f, _, _, rfl, sb7, hk6, hf7, by omega, ok, n1, n4, rg⟩)⟩
def spShuf (K : PySem.W.Frag) : Sp := fun vs H Q _ => ∃ h hc a xs, vs = [.ref h, .ref a] ∧ HandAt H h hc ∧ SqL K H a xs ∧ xs.length ≤ 1001 ∧ ∀ H' l ys, HandAt H' h hc → SB h H H' → H' l = some (.lst ys) → ys.Perm xs → Q (.ref l) H'
theorem sc__law_shuffled : FnScope ["_law_hand_here", "_law_things", "_law_pool", "_law_found"] ["_law_hand_here", "_law_things"] dd38.scope := ⟨rfl, rfl, rfl, by decide +kernel, rfl, by decide +kernel, by decide +kernel⟩
theorem ok__law_shuffled (T : Fx K mg) : DOk P w K mg base 2 (He.ga K "_law_shuffled") ["_law_hand_here", "_law_things"] (spShuf K) := by
  refine DOk.of (d := dd38) T 38 rfl rfl sc__law_shuffled (fun _ _ _ _ _ _ us hl => match us, hl with | [_, _], _ => rfl) (fun vs H Q E h => ?_) (fun f cdv A outer s H vs Q E hr h => ?_)
  · obtain ⟨_, _, _, _, rfl, _⟩ := h
    rfl
  · have nd := sc__law_shuffled.nd
    have hu := hu_of hr
    obtain ⟨h, hc, a, xs, rfl, hk, sq, lx, q⟩ := h
    refine ⟨_, (pss_cons (ps_set (i := 2) nd rfl (Or.inl rfl) (pe_callTy call_list_of (by rfl) T.f_list (by decide +kernel) (pa_cons (pv 1) pa_nil)))
      (pss_cons (ps_set (i := 3) nd rfl (Or.inl rfl) (pe_lst pa_nil))
      (pss_cons (ps_while PassesOwn.never (pt_cmpR op_gt (pe_callB (clenS K) (by rfl) T.f_len (by decide +kernel) (pa_cons (pv 2) pa_nil)) (pe_int) (nomark _))
        (pss_one (ps_expr (pe_bm PySem.F.plainAttrs_list PySem.F.slot_list_append PySem.F.type_list_append mt_append (pv 3) (pa_cons (pe_bm PySem.F.plainAttrs_list PySem.F.slot_list_pop PySem.F.type_list_pop mt_popAt (pv 2) (pa_cons (pe_c (ok__law_draw T) hr T.g__law_draw (by rfl) (pa_cons (pv 0) (pa_cons (pe_callB (clenS K) (by rfl) T.f_len (by decide +kernel) (pa_cons (pv 2) pa_nil)) pa_nil))) pa_nil)) pa_nil)))))
      (pss_one (ps_ret (pv 3)))))), ?_⟩
    have sq2 : SqL K H a xs ∨ SqT K H a xs := .inl sq
    refine ⟨_, rfl, a, xs, rfl, sq2, fun p np => ⟨Nat.zero_le _, fun l nl => ?_⟩⟩
    have s1 : Same H (upd H p (.lst xs)) := same_upd np
    have s2 : Same H (upd (upd H p (.lst xs)) l (.lst [])) := s1.trans (same_upd nl)
    have nlH : H l = none := s1.free nl
    have pl : p ≠ l := fun z => by rw [← z, upd_same] at nl; cases nl
    have ph : p ≠ h := fun z => by
      obtain ⟨ys, e⟩ := hk.ex
      rw [z, e] at np
      cases np
    have lh : l ≠ h := fun z => by
      obtain ⟨ys, e⟩ := hk.ex
      rw [z, e] at nlH
      cases nlH
    have fp := hk.fresh np
    have fl := hk.fresh nlH
    refine while_m (fun m σ H2 => ∃ zs ys, m = zs.length ∧ σ = [some (.ref h), some (.ref a), some (.ref p), some (.ref l)] ∧ SB h H H2 ∧ HandAt H2 h hc ∧ H2 p = some (.lst zs) ∧ H2 l = some (.lst ys) ∧ (ys ++ zs).Perm xs)
      ⟨_, xs, [], rfl, rfl, .of s2, hk.same s2, by rw [upd_ne pl]; exact upd_same, upd_same, List.Perm.refl _⟩ ?_
    rintro m σ H2 ⟨zs, ys, rfl, rfl, sb, hk2, hp2, hl2, pm⟩
    refine ⟨_, rfl, p, zs, rfl, .inl (SqL.of hp2), _, _, rfl, rfl, ?_⟩
    have lz : zs.length ≤ 1001 := by
      have := pm.length_eq
      rw [List.length_append] at this
      omega
    have ly : ys.length ≤ 1001 := by
      have := pm.length_eq
      rw [List.length_append] at this
      omega
    by_cases z0 : 0 < zs.length
    · refine ⟨true, bl_t (by omega), iteT ⟨_, fun _ _ h => h, ?_⟩⟩
      refine ⟨.ref l, rfl, .inl ⟨rfl, _, .inl (.inl hl2)⟩, .ref p, rfl, .inl ⟨rfl, _, .inl (.inl hp2)⟩, .ref h, rfl, _, rfl, p, zs, rfl, .inl (SqL.of hp2), h, hc, zs.length, rfl, hk2, z0, by omega, fun H3 d hd hk3 sb3 => ?_⟩
      have hp3 := sb3 _ _ ph hp2
      have hl3 := sb3 _ _ lh hl2
      have si : seqIndex? (d : Int) zs.length = some d := by
        unfold seqIndex?
        have h1 : ¬ ((d : Int) < 0) := by omega
        simp [h1, hd]
      refine ⟨p, zs, (d : Int), d, zs[d], rfl, rfl, hp3, by omega, by omega, si, List.getElem?_eq_getElem hd, ?_⟩
      have sb4 : SB h H (upd H3 p (.lst (zs.eraseIdx d))) := fun b o e1 e2 => by
        rw [upd_ne (ne_of_none e2 np)]
        exact sb3 _ _ e1 (sb _ _ e1 e2)
      refine ⟨l, ys, _, rfl, rfl, by rw [upd_ne pl.symm]; exact hl3, fits1 (by omega), (zs.eraseIdx d).length, by rw [List.length_eraseIdx_of_lt hd]; omega, zs.eraseIdx d, ys ++ [zs[d]], rfl, rfl, fun b o e1 e2 => ?_, ?_, ?_, upd_same, ?_⟩
      · rw [upd_ne (ne_of_none e2 nlH)]
        exact sb4 _ _ e1 e2
      · exact (hk3.upd fp.1 fp.2).upd fl.1 fl.2
      · rw [upd_ne pl, upd_same]
      · rw [List.append_assoc]
        refine List.Perm.trans (List.Perm.append_left ys ?_) pm
        exact erase_perm zs d hd
    · refine ⟨false, bl_f (by omega), iteF ?_⟩
      have e0 : zs = [] := List.eq_nil_of_length_eq_zero (by omega)
      subst e0
      rw [List.append_nil] at pm
      exact ⟨_, rfl, q _ l ys hk2 sb hl2 pm⟩
end
end L2.NJ
set_option Elab.async false
set_option linter.all false
set_option maxRecDepth 100000
set_option maxHeartbeats 4000000
namespace L2.NJ
open PySem PySem.Spec PyProof.Rows PySem.W
theorem app_lt : ∀ {a b : List Nat} (x y : List Nat), a < b → a.length = b.length → a ++ x < b ++ y
  | [], [], _, _, h, _ => absurd h (List.lt_irrefl _)
  | [], _ :: _, _, _, _, e => by simp at e
  | _ :: _, [], _, _, _, e => by simp at e
  | p :: a, q :: b, x, y, h, e => by
    rw [List.cons_lt_cons_iff] at h
    rw [List.cons_append, List.cons_append, List.cons_lt_cons_iff]
    rcases h with h | ⟨h1, h2⟩
    · exact .inl h
    · exact .inr ⟨h1, app_lt x y h2 (by simpa using e)⟩
theorem pre_lt : ∀ (a : List Nat) {x y : List Nat}, x < y → a ++ x < a ++ y
  | [], _, _, h => h
  | p :: a, x, y, h => by
    rw [List.cons_append, List.cons_append, List.cons_lt_cons_iff]
    exact .inr ⟨rfl, pre_lt a h⟩
theorem one_lt {c d : Nat} (h : c < d) : [c] < [d] := by
  rw [List.cons_lt_cons_iff]
  exact .inl h
theorem signs_asc (ar : List Ar) : (signsL ar).Pairwise (· < ·) := List.Pairwise.filter _ (List.pairwise_lt_range' ..)
theorem grow_asc (n : Nat) (ar : List Ar) (t : List Nat) : Asc (grow n ar t) := by
  unfold Asc grow
  exact List.Pairwise.map _ (fun a b h => pre_lt t (one_lt h)) (List.Pairwise.filter _ (signs_asc ar))
theorem longer_asc {n : Nat} {ar : List Ar} {ts : List (List Nat)} {k : Nat} (h : Asc ts) (hk : ∀ t ∈ ts, t.length = k) : Asc (longerL n ar ts) := by
  unfold longerL Asc
  rw [List.pairwise_flatMap]
  refine ⟨fun t _ => grow_asc n ar t, ?_⟩
  refine List.Pairwise.imp_of_mem (fun {a b} ha hb hab x hx y hy => ?_) h
  unfold grow at hx hy
  obtain ⟨c, _, rfl⟩ := List.mem_map.mp hx
  obtain ⟨d, _, rfl⟩ := List.mem_map.mp hy
  exact app_lt _ _ hab ((hk a ha).trans (hk b hb).symm)
theorem stretches_asc (n : Nat) (ar : List Ar) : ∀ k, Asc (stretchesL n ar k)
  | 0 => List.pairwise_singleton _ _
  | k + 1 => longer_asc (stretches_asc n ar k) fun t ht => (stretches_each ht).1
/-! ### the levels of the law's maker -/
def lv (n : Nat) (ar : List Ar) : Nat → List (List Nat)
  | 0 => (signsL ar).map fun c => [c]
  | i + 1 => longerL n ar (lv n ar i)
def cw (d : Int) (Y : List (List Nat)) (i : Nat) (t : List Nat) : Bool := if i = 0 then decide (capL d Y t = 1) else wordL d Y t
def foundL (n : Nat) (ar : List Ar) (d : Int) (Y : List (List Nat)) (i : Nat) : List (List Nat) := (List.range i).flatMap fun j => (lv n ar j).filter (cw d Y j)
theorem lv_each {n : Nat} {ar : List Ar} : ∀ {i : Nat} {t : List Nat}, t ∈ lv n ar i → t.length = i + 1 ∧ ∀ c ∈ t, Lt c
  | 0, t, h => by
    obtain ⟨c, hc, rfl⟩ := List.mem_map.mp h
    exact ⟨rfl, fun d hd => by rw [List.mem_singleton.mp hd]; exact signs_lt hc⟩
  | i + 1, t, h => by
    obtain ⟨u, hu, c, hc, _, rfl⟩ := mem_longer.mp h
    obtain ⟨h1, h2⟩ := lv_each hu
    refine ⟨by rw [List.length_append, h1]; rfl, fun d hd => ?_⟩
    rcases List.mem_append.mp hd with hd | hd
    · exact h2 d hd
    · rw [List.mem_singleton.mp hd]
      exact signs_lt hc
theorem lv_asc (n : Nat) (ar : List Ar) : ∀ i, Asc (lv n ar i)
  | 0 => List.Pairwise.map _ (fun a b h => one_lt h) (signs_asc ar)
  | i + 1 => longer_asc (lv_asc n ar i) fun t ht => (lv_each ht).1
theorem found_mem {n : Nat} {ar : List Ar} {d : Int} {Y : List (List Nat)} {i : Nat} {t : List Nat} : t ∈ foundL n ar d Y i ↔ ∃ j, j < i ∧ t ∈ lv n ar j ∧ cw d Y j t = true := by
  unfold foundL
  rw [List.mem_flatMap]
  constructor
  · rintro ⟨j, hj, h⟩
    obtain ⟨h1, h2⟩ := List.mem_filter.mp h
    exact ⟨j, List.mem_range.mp hj, h1, h2⟩
  · rintro ⟨j, hj, h1, h2⟩
    exact ⟨j, List.mem_range.mpr hj, List.mem_filter.mpr ⟨h1, h2⟩⟩
theorem found_nod (n : Nat) (ar : List Ar) (d : Int) (Y : List (List Nat)) (i : Nat) : (foundL n ar d Y i).Nodup := by
  unfold foundL List.Nodup
  rw [List.pairwise_flatMap]
  refine ⟨fun j _ => List.Pairwise.filter _ (lv_asc n ar j).nod, ?_⟩
  refine List.Pairwise.imp (fun {a b} hab x hx y hy e => ?_) (List.pairwise_lt_range (n := i))
  have h1 := (lv_each (List.mem_filter.mp hx).1).1
  have h2 := (lv_each (List.mem_filter.mp hy).1).1
  rw [e] at h1
  omega
theorem found_len {n : Nat} {ar : List Ar} {d : Int} {Y : List (List Nat)} : ∀ {i : Nat}, (∀ j, j < i → (lv n ar j).length ≤ 160) → (foundL n ar d Y i).length ≤ 160 * i
  | 0, _ => Nat.zero_le _
  | i + 1, h => by
    have ih := found_len (d := d) (Y := Y) (i := i) fun j hj => h j (by omega)
    have h1 := h i (by omega)
    have h2 := List.length_filter_le (cw d Y i) (lv n ar i)
    unfold foundL at ih ⊢
    rw [List.range_succ, List.flatMap_append, List.length_append, List.flatMap_cons, List.flatMap_nil, List.append_nil]
    omega
/-- what the maker gives -/
structure Made (n : Nat) (ar : List Ar) (Y : List (List Nat)) (d : Int) (W : List (List Nat)) (i : Nat) : Prop where
  i9 : i < 9
  full : ∀ t ∈ lv n ar i, d ≤ countL Y t
  few : ∀ j, j ≤ i → (lv n ar j).length ≤ 160
  perm : W.Perm (foundL n ar d Y (i + 1) ++ (lv n ar (i + 1)).filter (wordL d Y))
  asc : Asc W
theorem last_nod (n : Nat) (ar : List Ar) (d : Int) (Y : List (List Nat)) (i : Nat) : (foundL n ar d Y (i + 1) ++ (lv n ar (i + 1)).filter (wordL d Y)).Nodup := by
  rw [List.nodup_append]
  refine ⟨found_nod n ar d Y (i + 1), List.Pairwise.filter _ (lv_asc n ar (i + 1)).nod, fun x hx y hy e => ?_⟩
  obtain ⟨j, hj, h1, _⟩ := found_mem.mp hx
  have h1 := (lv_each h1).1
  have h2 := (lv_each (List.mem_filter.mp hy).1).1
  rw [e] at h1
  omega
end L2.NJ
set_option Elab.async false
set_option linter.all false
set_option maxRecDepth 100000
set_option maxHeartbeats 8000000
namespace L2.NJ
open PySem PySem.Spec PyProof.Rows PySem.W
theorem int_eq (a b : Int) : decide (V.int a = V.int b) = decide (a = b) := by
  rw [Bool.eq_iff_iff]
  simp
section
variable {P : Program} {w : World} {K : PySem.W.Frag} {mg : Str → Option Value} {base : Heap}
def spMade : Sp := fun vs H Q _ => ∃ (p : Addr) (n : Nat) (B : Addr) (zs : List (Addr × Ar)) (A : Addr) (Y : List (List Nat)) (d : Int), vs = [.ref p, .ref A, .int d] ∧ PartsAt H p n B zs ∧ n ≤ 4 ∧ zs.length ≤ 60 ∧ LetAt zs ∧ H A = some (.tup (txs Y)) ∧
  (∀ H', Same H H' → Q .non H') ∧ ∀ H' T W i, Same H H' → H' T = some (.tup (txs W)) → Made n (zs.map (·.2)) Y d W i → Q (.ref T) H'
theorem sc__law_made : FnScope ["_law_parts", "_law_lot_here", "_law_number", "_law_found", "_law_texts", "_law_length", "_law_few", "_law_text", "_law_word", "_law_more", "_law_last"] ["_law_parts", "_law_lot_here", "_law_number"] dd48.scope := ⟨rfl, rfl, rfl, by decide +kernel, rfl, by decide +kernel, by decide +kernel⟩
theorem ok__law_made (T : Fx K mg) : DOk P w K mg base 4 (He.ga K "_law_made") ["_law_parts", "_law_lot_here", "_law_number"] spMade := by
  refine DOk.of (d := dd48) T 48 rfl rfl sc__law_made (fun _ _ _ _ _ _ us hl => match us, hl with | [_, _, _], _ => rfl) (fun vs H Q E h => ?_) (fun f cdv A outer s H vs Q E hr h => ?_)
  · obtain ⟨_, _, _, _, _, _, _, rfl, _⟩ := h
    rfl
  · have nd := sc__law_made.nd
    have hu := hu_of hr
    obtain ⟨p, n, B, zs, A, Y, d, rfl, pa, n4, lz, az, hA, qn, qy⟩ := h
    refine ⟨_, (pss_cons (ps_set (i := 3) nd rfl (Or.inl rfl) (pe_lst pa_nil))
      (pss_cons (ps_set (i := 4) nd rfl (Or.inl rfl) (pe_c (ok__law_signs T) hr T.g__law_signs (by rfl) (pa_cons (pv 0) pa_nil)))
      (pss_cons (ps_for PassesOwn.never rfl (pi_range2 (by rfl) T.f_range (pa_cons (pe_int) (pa_cons (pe_int) pa_nil))) (pg_name (i := 5) nd rfl (Or.inl rfl))
        (pss_cons (ps_set (i := 6) nd rfl (Or.inl rfl) (pe_int))
        (pss_cons (ps_for PassesOwn.never rfl (piL K (pv 4)) (pg_name (i := 7) nd rfl (Or.inl rfl))
          (pss_cons (ps_if (pt_cmpR op_eq (pv 5) (pe_int) (nomark _))
            (pss_one (ps_set (i := 8) nd rfl (Or.inl rfl) (pe_cmpR op_eq (pe_callB (call_min2 rfl) (by rfl) T.f_min (by decide +kernel) (pa_cons (pv 2) (pa_cons (pe_c (ok__law_count T) hr T.g__law_count (by rfl) (pa_cons (pv 1) (pa_cons (pv 7) pa_nil))) pa_nil))) (pe_int) (nomark _))))
            (pss_cons (ps_set (i := 9) nd rfl (Or.inl rfl) (pe_op op_add (pe_callB (call_min2 rfl) (by rfl) T.f_min (by decide +kernel) (pa_cons (pv 2) (pa_cons (pe_c (ok__law_count T) hr T.g__law_count (by rfl) (pa_cons (pv 1) (pa_cons (pe_slice sl_str (pv 7) po_none (po_some (pe_un un_neg (pe_int)))) pa_nil))) pa_nil))) (pe_callB (call_min2 rfl) (by rfl) T.f_min (by decide +kernel) (pa_cons (pv 2) (pa_cons (pe_c (ok__law_count T) hr T.g__law_count (by rfl) (pa_cons (pv 1) (pa_cons (pe_slice sl_str (pv 7) (po_some (pe_int)) po_none) pa_nil))) pa_nil)))))
            (pss_one (ps_set (i := 8) nd rfl (Or.inl rfl) (pe_cmpR op_eq (pe_op op_sub (pe_op op_sub (pv 9) (pe_callB (call_min2 rfl) (by rfl) T.f_min (by decide +kernel) (pa_cons (pv 2) (pa_cons (pe_c (ok__law_count T) hr T.g__law_count (by rfl) (pa_cons (pv 1) (pa_cons (pv 7) pa_nil))) pa_nil)))) (pe_callB (call_min2 rfl) (by rfl) T.f_min (by decide +kernel) (pa_cons (pv 2) (pa_cons (pe_c (ok__law_count T) hr T.g__law_count (by rfl) (pa_cons (pv 1) (pa_cons (pe_slice sl_str (pv 7) (po_some (pe_int)) (po_some (pe_un un_neg (pe_int)))) pa_nil))) pa_nil)))) (pe_int) (nomark _))))))
          (pss_cons (ps_if (pt_val (pv 8))
            (pss_one (ps_expr (pe_bm PySem.F.plainAttrs_list PySem.F.slot_list_append PySem.F.type_list_append mt_append (pv 3) (pa_cons (pv 7) pa_nil))))
            pss_nil)
          (pss_one (ps_set (i := 6) nd rfl (Or.inl rfl) (pe_op op_add (pv 6) (pe_callTy call_int1 (by rfl) T.f_int (by decide +kernel) (pa_cons (pe_cmpR op_lt (pe_c (ok__law_count T) hr T.g__law_count (by rfl) (pa_cons (pv 1) (pa_cons (pv 7) pa_nil))) (pv 2) (nomark _)) pa_nil))))))))
        (pss_cons (ps_if (pt_cmpR op_eq (pv 6) (pe_int) (nomark _))
          (pss_cons (ps_setLc (i := 10) (own := [("_law_text", 7)]) rfl nd rfl rfl (sw_true rfl rfl rfl (by decide +kernel)) (piL K (pe_c (ok__law_longer T) hr T.g__law_longer (by rfl) (pa_cons (pv 0) (pa_cons (pv 4) pa_nil)))) (blkOk_by (N := ["_law_parts", "_law_lot_here", "_law_number", "_law_found", "_law_texts", "_law_length", "_law_few", "_law_text", "_law_word", "_law_more", "_law_last"]) (sc := dd48.scope) (by decide +kernel)) (fun _ _ _ _ _ => (pg_name (i := 7) nd rfl (Or.inl rfl))) (fun _ _ _ _ _ => pts_one (pt_val (pe_c (ok__law_is_last T) hr T.g__law_is_last (by rfl) (pa_cons (pv 1) (pa_cons (pv 2) (pa_cons (pv 7) pa_nil)))))) (fun _ _ _ _ _ => (pv 7)))
          (pss_one (ps_ret (pe_callTy (ctupOf K) (by rfl) T.f_tuple (by decide +kernel) (pa_cons (pe_callB (cr_sortedX hr.units) (by rfl) T.f_sorted (by decide +kernel) (pa_cons (pe_op op_cat (pv 3) (pv 10)) pa_nil)) pa_nil)))))
          pss_nil)
        (pss_cons (ps_set (i := 4) nd rfl (Or.inl rfl) (pe_c (ok__law_longer T) hr T.g__law_longer (by rfl) (pa_cons (pv 0) (pa_cons (pv 4) pa_nil))))
        (pss_one (ps_if (pt_cmpR op_gt (pe_callB (clenS K) (by rfl) T.f_len (by decide +kernel) (pa_cons (pv 4) pa_nil)) (pe_int) (nomark _))
          (pss_one (ps_ret (pe_non)))
          pss_nil)))))))
      (pss_one (ps_ret (pe_non)))))), ?_⟩
    refine ⟨Nat.zero_le _, fun f nf => ?_⟩
    have s0 : Same H (upd H f (.lst [])) := same_upd nf
    refine ⟨.ref p, rfl, p, n, B, zs, rfl, pa.same s0, by omega, fun H1 l s1 nl hl => ?_⟩
    have s01 := s0.trans s1
    have hf1 : H1 f = some (.lst []) := s1 _ _ upd_same
    have lf : l ≠ f := fun z => by rw [z, upd_same] at nl; cases nl
    have ec1 : ∀ t, decide (V.int (if countL Y t < d then countL Y t else d) = V.int 1) = decide (capL d Y t = 1) := fun t => int_eq _ _
    refine ⟨_, _, rfl, ⟨by decide, by decide, by decide, by decide⟩, ?_⟩
    refine for_range (n := 9) (fun i σ H2 => ∃ (l : Addr) (y5 y6 y7 y8 y9 y10 : Option V), σ = [some (.ref p), some (.ref A), some (.int d), some (.ref f), some (.ref l), y5, y6, y7, y8, y9, y10] ∧ Same H H2 ∧ H2 f = some (.lst (txs (foundL n (zs.map (·.2)) d Y i))) ∧ H2 l = some (.lst (txs (lv n (zs.map (·.2)) i))) ∧ l ≠ f ∧ ∀ j, j ≤ i → (lv n (zs.map (·.2)) j).length ≤ 160)
      ⟨l, none, none, none, none, none, none, rfl, s01, hf1, hl, lf, fun j hj => ?_⟩ (fun i σ H2 hi ⟨l, y5, y6, y7, y8, y9, y10, es, s2, hf, hl, lf, few⟩ => ?_) (fun σ H2 ⟨l, y5, y6, y7, y8, y9, y10, es, s2, hf, hl, lf, few⟩ => ?_)
    · have : j = 0 := by omega
      subst this
      unfold lv
      rw [List.length_map]
      have := signs_len az.ar
      omega
    · subst es
      have fl := found_len (d := d) (Y := Y) (i := i) fun j hj => few j (by omega)
      have fi := few i (Nat.le_refl _)
      refine ⟨.ref l, rfl, l, rfl, ⟨_, SqL.of hl⟩, ?_⟩
      refine for_list (xs := txs (lv n (zs.map (·.2)) i)) (fun k σ H3 => ∃ (m : Nat) (y7 y8 y9 : Option V), σ = [some (.ref p), some (.ref A), some (.int d), some (.ref f), some (.ref l), some (.int (1 + (i : Int))), some (.int (m : Nat)), y7, y8, y9, y10] ∧ Same H H3 ∧ H3 l = some (.lst (txs (lv n (zs.map (·.2)) i))) ∧
          H3 f = some (.lst (txs (foundL n (zs.map (·.2)) d Y i ++ ((lv n (zs.map (·.2)) i).take k).filter (cw d Y i)))) ∧ (m = 0 → ∀ t ∈ (lv n (zs.map (·.2)) i).take k, d ≤ countL Y t))
        ⟨0, y7, y8, y9, rfl, s2, hl, by rw [List.take_zero, List.filter_nil, List.append_nil]; exact hf, by simp⟩ (fun k σ H3 _ ⟨_, _, _, _, _, _, h, _⟩ => SqL.of h) (fun k x σ H3 ex ⟨m, y7, y8, y9, es, s3, hl3, hf3, few0⟩ => ?_) (fun σ H3 ⟨m, y7, y8, y9, es, s3, hl3, hf3, few0⟩ => ?_)
      · subst es
        obtain ⟨t, et, rfl⟩ := txs_get ex
        have tm := List.mem_of_getElem? et
        have tl := (lv_each tm).1
        have hA3 := s3 _ _ hA
        have tk : (lv n (zs.map (·.2)) i).take (k + 1) = (lv n (zs.map (·.2)) i).take k ++ [t] := by rw [List.take_add_one, et]; rfl
        -- is it a word
        refine split (fun σ' H' => ∃ y9, σ' = [some (.ref p), some (.ref A), some (.int d), some (.ref f), some (.ref l), some (.int (1 + (i : Int))), some (.int (m : Nat)), some (tx t), some (.bl (cw d Y i t)), y9, y10] ∧ Same H3 H') (fun σ' H' ⟨y9, es, s4⟩ => ?_) (fun nxt key => ?_)
        · subst es
          have s34 := s3.trans s4
          have hf4 := s4 _ _ hf3
          have hl4 := s4 _ _ hl3
          refine split (fun σ2 H5 => σ2 = [some (.ref p), some (.ref A), some (.int d), some (.ref f), some (.ref l), some (.int (1 + (i : Int))), some (.int (m : Nat)), some (tx t), some (.bl (cw d Y i t)), y9, y10] ∧ Same H H5 ∧ H5 l = some (.lst (txs (lv n (zs.map (·.2)) i))) ∧
              H5 f = some (.lst (txs (foundL n (zs.map (·.2)) d Y i ++ ((lv n (zs.map (·.2)) i).take (k + 1)).filter (cw d Y i))))) (fun σ2 H5 ⟨es, s5, hl5, hf5⟩ => ?_) (fun nxt key => ?_)
          · subst es
            refine ⟨_, rfl, _, rfl, _, rfl, A, Y, t, rfl, s5 _ _ hA, by omega, fun H6 s6 => ⟨_, rfl, _, _, rfl, rfl, .inr ⟨_, rfl, _, _, rfl, rfl, ?_⟩⟩⟩
            have hs6 : ∀ m' : Nat, (m' = 0 → ∀ t ∈ (lv n (zs.map (·.2)) i).take (k + 1), d ≤ countL Y t) → ∃ (m : Nat) (y7 y8 y9' : Option V), ([some (.ref p), some (.ref A), some (.int d), some (.ref f), some (.ref l), some (.int (1 + (i : Int))), some (.int (m' : Nat)), some (tx t), some (.bl (cw d Y i t)), y9, y10] : L2.St) = [some (.ref p), some (.ref A), some (.int d), some (.ref f), some (.ref l), some (.int (1 + (i : Int))), some (.int (m : Nat)), y7, y8, y9', y10] ∧ Same H H6 ∧ H6 l = some (.lst (txs (lv n (zs.map (·.2)) i))) ∧
                H6 f = some (.lst (txs (foundL n (zs.map (·.2)) d Y i ++ ((lv n (zs.map (·.2)) i).take (k + 1)).filter (cw d Y i)))) ∧ (m = 0 → ∀ t ∈ (lv n (zs.map (·.2)) i).take (k + 1), d ≤ countL Y t) := fun m' h => ⟨m', _, _, _, rfl, s5.trans s6, s6 _ _ hl5, s6 _ _ hf5, h⟩
            by_cases c : countL Y t < d
            · have e : (m : Int) + (if decide (countL Y t < d) = true then 1 else 0) = ((m + 1 : Nat) : Int) := by rw [decide_eq_true c]; simp
              have := hs6 (m + 1) fun z => by omega
              rw [← e] at this
              exact this
            · have e : (m : Int) + (if decide (countL Y t < d) = true then 1 else 0) = ((m : Nat) : Int) := by rw [decide_eq_false c]; simp
              have := hs6 m fun z u hu => by
                rw [tk, List.mem_append, List.mem_singleton] at hu
                rcases hu with hu | rfl
                · exact few0 z u hu
                · omega
              rw [← e] at this
              exact this
          · refine ⟨_, rfl, _, rfl, ?_⟩
            cases hw : cw d Y i t with
            | false =>
              rw [hw] at key
              refine iteF (key _ _ ⟨rfl, s34, hl4, ?_⟩)
              rw [tk, List.filter_append, List.filter_cons_of_neg (by rw [hw]; decide), List.filter_nil, List.append_nil]
              exact hf4
            | true =>
              rw [hw] at key
              have lfk : (foundL n (zs.map (·.2)) d Y i ++ ((lv n (zs.map (·.2)) i).take k).filter (cw d Y i)).length ≤ 2000 := by
                rw [List.length_append]
                have h1 := List.length_filter_le (cw d Y i) ((lv n (zs.map (·.2)) i).take k)
                rw [List.length_take] at h1
                omega
              refine iteT ⟨.ref f, rfl, .inl ⟨rfl, _, .inl (.inl hf4)⟩, _, rfl, f, _, _, rfl, rfl, hf4, fits1 (by rw [txs_len]; omega), key _ _ ⟨rfl, fun b o e => ?_, ?_, ?_⟩⟩
              · rw [upd_ne (ne_of_none e nf)]
                exact s34 _ _ e
              · rw [upd_ne lf]
                exact hl4
              · rw [upd_same, tk, List.filter_append, List.filter_cons_of_pos hw, List.filter_nil, ← List.append_assoc]
                unfold txs
                rw [List.map_append (l₂ := [t])]
                rfl
        · refine ⟨_, rfl, rfl, ?_⟩
          by_cases i0 : i = 0
          · subst i0
            refine ⟨true, rfl, iteT ?_⟩
            refine ⟨_, rfl, _, rfl, _, rfl, A, Y, t, rfl, hA3, by omega, fun H4 s4 => ⟨_, _, rfl, rfl, ?_⟩⟩
            have := key [some (.ref p), some (.ref A), some (.int d), some (.ref f), some (.ref l), some (.int (1 + ((0 : Nat) : Int))), some (.int (m : Nat)), some (tx t), some (.bl (cw d Y 0 t)), y9, y10] H4 ⟨_, rfl, s4⟩
            have ew : cw d Y 0 t = decide (V.int (if countL Y t < d then countL Y t else d) = V.int 1) := (ec1 t).symm
            rw [ew] at this
            exact this
          · refine ⟨false, bl_f (fun z => by have := V.int.inj z; omega), iteF ?_⟩
            refine ⟨_, rfl, .ref A, rfl, _, rfl, 1, rfl, _, rfl, sx t, rfl, sx_fits (by omega), ?_⟩
            have e1 : cutS (sx t) none (some (-1)) = sx t.dropLast := cut_neg t (by omega)
            rw [e1]
            refine ⟨A, Y, t.dropLast, rfl, hA3, by rw [List.length_dropLast]; omega, fun H4 s4 => ?_⟩
            refine ⟨_, _, rfl, _, rfl, .ref A, rfl, _, rfl, _, rfl, sx t, rfl, sx_fits (by omega), ?_⟩
            have e2 : cutS (sx t) (some 1) none = sx (t.drop 1) := cut_l t (a := 1) (by omega)
            rw [e2]
            refine ⟨A, Y, t.drop 1, rfl, s4 _ _ hA3, by rw [List.length_drop]; omega, fun H5 s5 => ?_⟩
            refine ⟨_, _, rfl, _, _, rfl, rfl, ?_⟩
            have s45 := s4.trans s5
            refine ⟨_, rfl, _, rfl, .ref A, rfl, _, rfl, A, Y, t, rfl, s45 _ _ hA3, by omega, fun H6 s6 => ?_⟩
            refine ⟨_, _, rfl, _, _, rfl, rfl, ?_⟩
            have s46 := s45.trans s6
            refine ⟨_, rfl, .ref A, rfl, _, rfl, _, rfl, 1, rfl, _, rfl, sx t, rfl, sx_fits (by omega), ?_⟩
            have e3 : cutS (sx t) (some 1) (some (-1)) = sx (t.drop 1).dropLast := cut_mid t (by omega)
            rw [e3]
            refine ⟨A, Y, (t.drop 1).dropLast, rfl, s46 _ _ hA3, by rw [List.length_dropLast, List.length_drop]; omega, fun H7 s7 => ?_⟩
            refine ⟨_, _, rfl, _, _, rfl, rfl, rfl, ?_⟩
            have e4 : cw d Y i t = decide (V.int (capL d Y t.dropLast + capL d Y (t.drop 1) - capL d Y t - capL d Y (t.drop 1).dropLast) = V.int 1) := by
              unfold cw wordL
              rw [if_neg i0, int_eq]
            have := key [some (.ref p), some (.ref A), some (.int d), some (.ref f), some (.ref l), some (.int (1 + (i : Int))), some (.int (m : Nat)), some (tx t), some (.bl (cw d Y i t)), some (.int (capL d Y t.dropLast + capL d Y (t.drop 1))), y10] H7 ⟨_, rfl, s46.trans s7⟩
            rw [e4] at this
            exact this
      · -- behind the level
        subst es
        rw [txs_len, List.take_length] at hf3 few0
        have hf3 : H3 f = some (.lst (txs (foundL n (zs.map (·.2)) d Y (i + 1)))) := by
          have e : foundL n (zs.map (·.2)) d Y (i + 1) = foundL n (zs.map (·.2)) d Y i ++ (lv n (zs.map (·.2)) i).filter (cw d Y i) := by
            unfold foundL
            rw [List.range_succ, List.flatMap_append, List.flatMap_cons, List.flatMap_nil, List.append_nil]
          rw [e]
          exact hf3
        have fl1 := found_len (d := d) (Y := Y) (i := i + 1) fun j hj => few j (by omega)
        refine ⟨_, rfl, rfl, ?_⟩
        have lvt : ∀ t ∈ lv n (zs.map (·.2)) i, t.length ≤ 500 ∧ ∀ c ∈ t, c < 1000 := fun t ht => by
          have := lv_each ht
          refine ⟨by omega, fun c hc => ?_⟩
          have := this.2 c hc
          unfold Lt at this
          omega
        by_cases m0 : m = 0
        · refine ⟨true, bl_t (by rw [m0]; rfl), iteT ?_⟩
          refine ⟨.ref p, rfl, .ref l, rfl, p, n, B, zs, l, _, rfl, pa.same s3, n4, lz, az, hl3, by omega, lvt, fun H4 l4 s4 _ hl4 => ?_⟩
          have ll := longer_len (n := n) az.ar (lv n (zs.map (·.2)) i)
          have hA4 := s4 _ _ (s3 _ _ hA)
          refine ⟨l4, rfl, ⟨_, SqL.of hl4⟩, fun D hD => ?_⟩
          refine lc_fm (longerL n (zs.map (·.2)) (lv n (zs.map (·.2)) i)) (Walk.len (walk_list (xs := txs (longerL n (zs.map (·.2)) (lv n (zs.map (·.2)) i)))) (by rw [txs_len])) (by omega) hD (fun H5 sm => SqL.of (sm _ _ hl4)) (wordL d Y) tx (fun j z x H5 H5' Ny Nn ez sm ny nn y => ?_) (fun H5 s5 hd5 => ?_)
          · obtain ⟨rfl, ex⟩ := y
            obtain ⟨t, et, rfl⟩ := txs_get ex
            rw [ez] at et
            cases et
            have tl := (lv_each (n := n) (ar := zs.map (·.2)) (i := i + 1) (List.mem_of_getElem? ez)).1
            refine ⟨rfl, _, rfl, _, rfl, _, rfl, A, Y, z, d, rfl, sm _ _ hA4, by omega, by omega, fun H6 s6 => ⟨_, rfl, ?_⟩⟩
            cases hw : wordL d Y z with
            | true => exact iteT ⟨_, rfl, ny _ s6 hw⟩
            | false => exact iteF (nn _ s6 hw)
          · have s35 := s4.trans s5
            have hd5 : H5 D = some (.lst (txs ((lv n (zs.map (·.2)) (i + 1)).filter (wordL d Y)))) := hd5
            have lw := List.length_filter_le (wordL d Y) (lv n (zs.map (·.2)) (i + 1))
            have lw2 : (lv n (zs.map (·.2)) (i + 1)).length ≤ 3 * (lv n (zs.map (·.2)) i).length := ll
            refine ⟨_, rfl, _, rfl, f, D, _, _, rfl, rfl, s35 _ _ hf3, hd5, fits (by rw [txs_len, txs_len]; omega), fun g ng => ?_⟩
            obtain ⟨W, pm, asc, es⟩ := sort_txs _ (last_nod n (zs.map (·.2)) d Y i)
            have s6 : Same H5 (upd H5 g (.lst (txs (foundL n (zs.map (·.2)) d Y (i + 1)) ++ txs ((lv n (zs.map (·.2)) (i + 1)).filter (wordL d Y))))) := same_upd ng
            refine ⟨g, (foundL n (zs.map (·.2)) d Y (i + 1) ++ (lv n (zs.map (·.2)) (i + 1)).filter (wordL d Y)).map fun t => (tx t, PyData.str (sx t)), rfl, SqL.of ?_, fun x hx => ?_, (by rw [List.map_map]; exact AllAlike.of fun a b => by simp [alike]), (by rw [List.map_map]; exact Sortable.others fun a => ⟨fun z => (nomatch z), fun xs z => (nomatch z)⟩), fun x hx => ?_, fun ys g2 ey ng2 => ?_⟩
            · rw [upd_same, List.map_map]
              unfold txs
              rw [← List.map_append]
              rfl
            · obtain ⟨t, _, rfl⟩ := List.mem_map.mp hx
              exact .str _
            · obtain ⟨t, _, rfl⟩ := List.mem_map.mp hx
              simp [PyData.depth]
            · rw [es] at ey
              subst ey
              have s7 := s6.trans (same_upd (o := .lst ((W.map fun t => (tx t, PyData.str (sx t))).map Prod.fst)) ng2)
              refine ⟨g2, _, rfl, .inl ⟨SqL.of upd_same, fun T nT => ?_⟩⟩
              refine qy _ T W i (s3.trans (s35.trans (s7.trans (same_upd nT)))) ?_ ⟨hi, few0 m0, few, pm, asc⟩
              rw [upd_same, List.map_map]
              rfl
        · refine ⟨false, bl_f (fun z => m0 (by have := V.int.inj z; omega)), iteF ?_⟩
          refine ⟨.ref p, rfl, .ref l, rfl, p, n, B, zs, l, _, rfl, pa.same s3, n4, lz, az, hl3, by omega, lvt, fun H4 l4 s4 n4' hl4 => ?_⟩
          have hl4' : H4 l4 = some (.lst (txs (lv n (zs.map (·.2)) (i + 1)))) := hl4
          refine ⟨_, rfl, l4, _, rfl, .inl (SqL.of hl4'), _, _, rfl, rfl, ?_⟩
          by_cases c : (lv n (zs.map (·.2)) (i + 1)).length > 160
          · exact ⟨true, bl_t (by rw [txs_len]; omega), iteT (qn _ (s3.trans s4))⟩
          · refine ⟨false, bl_f (by rw [txs_len]; omega), iteF ⟨l4, _, _, _, _, _, _, rfl, s3.trans s4, s4 _ _ hf3, hl4', fun z => ?_, fun j hj => ?_⟩⟩
            · rw [z, hf3] at n4'
              cases n4'
            · by_cases e : j = i + 1
              · rw [e]
                omega
              · exact few j (by omega)
    · exact qn _ s2
end
end L2.NJ
set_option Elab.async false
set_option linter.all false
set_option maxRecDepth 100000
set_option maxHeartbeats 4000000
namespace L2.NJ
open PySem PySem.Spec PyProof.Rows PySem.W
/-! ### stretches are the letters along paths -/
theorem Pth.cat {ar : List Ar} : ∀ {t u : List Nat} {p q r : Nat}, Pth ar p t q → Pth ar q u r → Pth ar p (t ++ u) r
  | [], _, _, _, _, h, k => by
    obtain rfl := h
    exact k
  | c :: t, u, p, q, r, ⟨s, h1, h2⟩, k => ⟨s, h1, Pth.cat h2 k⟩
theorem Pth.cut {ar : List Ar} : ∀ {t u : List Nat} {p r : Nat}, Pth ar p (t ++ u) r → ∃ q, Pth ar p t q ∧ Pth ar q u r
  | [], u, p, r, h => ⟨p, rfl, h⟩
  | c :: t, u, p, r, ⟨s, h1, h2⟩ => let ⟨q, a, b⟩ := Pth.cut h2; ⟨q, ⟨s, h1, a⟩, b⟩
theorem mem_fold {n : Nat} {ar : List Ar} (inn : ∀ a ∈ ar, a.1 < n ∧ a.2.2 < n) {g : Nat} : ∀ {t ps : List Nat}, (∀ p ∈ ps, p < n) → (g ∈ t.foldl (fun ps c => (List.range n).filter fun g => ps.any fun p => decide ((p, c, g) ∈ ar)) ps ↔ ∃ p ∈ ps, Pth ar p t g)
  | [], ps, h => ⟨fun k => ⟨g, k, rfl⟩, fun ⟨p, k, e⟩ => by
    have e : p = g := e
    rw [← e]
    exact k⟩
  | c :: t, ps, h => by
    rw [List.foldl_cons, mem_fold inn (t := t) fun p hp => List.mem_range.mp (List.mem_filter.mp hp).1]
    constructor
    · rintro ⟨r, hr, k⟩
      obtain ⟨_, h2⟩ := List.mem_filter.mp hr
      obtain ⟨p, hp, e⟩ := List.any_eq_true.mp h2
      exact ⟨p, hp, r, of_decide_eq_true e, k⟩
    · rintro ⟨p, hp, r, h1, k⟩
      exact ⟨r, List.mem_filter.mpr ⟨List.mem_range.mpr (inn _ h1).2, List.any_eq_true.mpr ⟨p, hp, decide_eq_true h1⟩⟩, k⟩
theorem mem_ends {n : Nat} {ar : List Ar} (inn : ∀ a ∈ ar, a.1 < n ∧ a.2.2 < n) {g : Nat} {t : List Nat} : g ∈ endsL n ar t ↔ ∃ p, p < n ∧ Pth ar p t g := by
  unfold endsL
  rw [mem_fold inn fun p hp => List.mem_range.mp hp]
  exact ⟨fun ⟨p, hp, k⟩ => ⟨p, List.mem_range.mp hp, k⟩, fun ⟨p, hp, k⟩ => ⟨p, List.mem_range.mpr hp, k⟩⟩
theorem ends_str {n : Nat} {ar : List Ar} (inn : ∀ a ∈ ar, a.1 < n ∧ a.2.2 < n) {t : List Nat} : endsL n ar t ≠ [] ↔ Stretch n ar t := by
  constructor
  · intro h
    obtain ⟨g, hg⟩ := List.exists_mem_of_ne_nil _ h
    obtain ⟨p, hp, k⟩ := (mem_ends inn).mp hg
    exact ⟨p, g, hp, k⟩
  · rintro ⟨p, q, hp, k⟩ e
    have := (mem_ends inn).mpr ⟨p, hp, k⟩
    rw [e] at this
    exact nomatch this
theorem Stretch.left {n : Nat} {ar : List Ar} {t u : List Nat} (h : Stretch n ar (t ++ u)) : Stretch n ar t := by
  obtain ⟨p, q, hp, k⟩ := h
  obtain ⟨r, k1, _⟩ := k.cut
  exact ⟨p, r, hp, k1⟩
theorem Pth.lt {n : Nat} {ar : List Ar} (inn : ∀ a ∈ ar, a.1 < n ∧ a.2.2 < n) : ∀ {t : List Nat} {p q : Nat}, p < n → Pth ar p t q → q < n
  | [], p, q, hp, h => by
    obtain rfl := h
    exact hp
  | c :: t, p, q, hp, ⟨r, h1, h2⟩ => Pth.lt inn (inn _ h1).2 h2
theorem Stretch.right {n : Nat} {ar : List Ar} (inn : ∀ a ∈ ar, a.1 < n ∧ a.2.2 < n) {t u : List Nat} (h : Stretch n ar (t ++ u)) : Stretch n ar u := by
  obtain ⟨p, q, hp, k⟩ := h
  obtain ⟨r, k1, k2⟩ := k.cut
  exact ⟨r, q, k1.lt inn hp, k2⟩
theorem Stretch.letter {n : Nat} {ar : List Ar} {t u : List Nat} {c : Nat} (h : Stretch n ar (t ++ c :: u)) : ∃ a ∈ ar, a.2.1 = c := by
  obtain ⟨p, q, hp, k⟩ := h
  obtain ⟨r, k1, s, k2, _⟩ := k.cut
  exact ⟨_, k2, rfl⟩
theorem mem_signs {ar : List Ar} (abc : ∀ a ∈ ar, 97 ≤ a.2.1 ∧ a.2.1 ≤ 99) {c : Nat} : c ∈ signsL ar ↔ ∃ a ∈ ar, a.2.1 = c := by
  unfold signsL
  rw [List.mem_filter, List.any_eq_true, List.mem_range'_1]
  constructor
  · rintro ⟨_, a, ha, e⟩
    exact ⟨a, ha, of_decide_eq_true e⟩
  · rintro ⟨a, ha, rfl⟩
    have := abc a ha
    exact ⟨by omega, a, ha, decide_eq_true rfl⟩
theorem snoc_of {t : List Nat} {k : Nat} (h : t.length = k + 1) : ∃ u c, t = u ++ [c] ∧ u.length = k := by
  have ne : t ≠ [] := fun e => by rw [e] at h; cases h
  refine ⟨t.dropLast, t.getLast ne, (List.dropLast_concat_getLast ne).symm, ?_⟩
  rw [List.length_dropLast]
  omega
theorem mem_longer_str {n : Nat} {ar : List Ar} (ok : WebOk n ar) {ts : List (List Nat)} {k : Nat} (h : ∀ t, t ∈ ts ↔ t.length = k ∧ Stretch n ar t) (t : List Nat) : t ∈ longerL n ar ts ↔ t.length = k + 1 ∧ Stretch n ar t := by
  rw [mem_longer]
  constructor
  · rintro ⟨u, hu, c, hc, he, rfl⟩
    exact ⟨by rw [List.length_append, ((h u).mp hu).1]; rfl, (ends_str ok.inn).mp he⟩
  · rintro ⟨hl, hs⟩
    obtain ⟨u, c, rfl, hu⟩ := snoc_of hl
    exact ⟨u, (h u).mpr ⟨hu, hs.left⟩, c, (mem_signs ok.abc).mpr hs.letter, (ends_str ok.inn).mpr hs, rfl⟩
theorem mem_stretches {n : Nat} {ar : List Ar} (ok : WebOk n ar) : ∀ (k : Nat) (t : List Nat), t ∈ stretchesL n ar k ↔ t.length = k ∧ Stretch n ar t
  | 0, t => by
    have n1 := ok.n1
    show t ∈ [[]] ↔ _
    rw [List.mem_singleton]
    constructor
    · rintro rfl
      exact ⟨rfl, 0, 0, by omega, rfl⟩
    · exact fun h => List.eq_nil_of_length_eq_zero h.1
  | k + 1, t => mem_longer_str ok (mem_stretches ok k) t
theorem mem_lv {n : Nat} {ar : List Ar} (ok : WebOk n ar) : ∀ (i : Nat) (t : List Nat), t ∈ lv n ar i ↔ t.length = i + 1 ∧ Stretch n ar t
  | 0, t => by
    show t ∈ (signsL ar).map (fun c => [c]) ↔ _
    rw [List.mem_map]
    constructor
    · rintro ⟨c, hc, rfl⟩
      obtain ⟨a, ha, rfl⟩ := (mem_signs ok.abc).mp hc
      exact ⟨rfl, a.1, a.2.2, (ok.inn a ha).1, a.2.2, ha, rfl⟩
    · rintro ⟨hl, hs⟩
      obtain ⟨u, c, rfl, hu⟩ := snoc_of hl
      have := List.eq_nil_of_length_eq_zero hu
      subst this
      exact ⟨c, (mem_signs ok.abc).mpr hs.letter, rfl⟩
  | i + 1, t => mem_longer_str ok (mem_lv ok i) t
theorem path_ex {n : Nat} {ar : List Ar} (ok : WebOk n ar) : ∀ (k p : Nat), p < n → ∃ t q, t.length = k ∧ Pth ar p t q
  | 0, p, _ => ⟨[], p, rfl, rfl⟩
  | k + 1, p, hp => by
    obtain ⟨c, hc⟩ := ok.ring p hp
    obtain ⟨t, q, h1, h2⟩ := path_ex ok k ((p + 1) % n) (Nat.mod_lt _ (by omega))
    exact ⟨c :: t, q, by rw [List.length_cons, h1], _, hc, h2⟩
theorem stretches_pos {n : Nat} {ar : List Ar} (ok : WebOk n ar) (k : Nat) : 0 < (stretchesL n ar k).length := by
  obtain ⟨t, q, h1, h2⟩ := path_ex ok k 0 (by have := ok.n1; omega)
  exact List.length_pos_of_mem ((mem_stretches ok k t).mpr ⟨h1, 0, q, by have := ok.n1; omega, h2⟩)
/-! ### texts that do not clash -/
theorem clash_no {u v : List Nat} (h : clashes u v = false) : ¬ u <+: v ∧ ¬ v <+: u ∧ ¬ u <:+ v ∧ ¬ v <:+ u := by
  unfold clashes at h
  by_cases c : u.length > v.length
  · rw [if_pos c, Bool.or_eq_false_iff] at h
    have h1 := of_decide_eq_false h.1
    have h2 := of_decide_eq_false h.2
    refine ⟨fun p => ?_, fun p => h1 ?_, fun p => ?_, fun p => h2 ?_⟩
    · have := p.length_le
      omega
    · exact (List.prefix_iff_eq_take.mp p).symm
    · have := p.length_le
      omega
    · exact (List.suffix_iff_eq_drop.mp p).symm
  · rw [if_neg c, Bool.or_eq_false_iff] at h
    have h1 := of_decide_eq_false h.1
    have h2 := of_decide_eq_false h.2
    have e1 : ¬ u <+: v := fun p => h1 (List.prefix_iff_eq_take.mp p).symm
    have e2 : ¬ u <:+ v := fun p => h2 (List.suffix_iff_eq_drop.mp p).symm
    refine ⟨e1, fun p => ?_, e2, fun p => ?_⟩
    · have := p.length_le
      have e : v = u := p.eq_of_length (by omega)
      exact e1 (e ▸ List.prefix_refl _)
    · have := p.length_le
      have e : v = u := p.eq_of_length (by omega)
      exact e2 (e ▸ List.suffix_refl _)
structure Loose (n : Nat) (ar : List Ar) (L m : Nat) (Y : List (List Nat)) : Prop where
  few : Y.length ≤ m
  mem : ∀ y ∈ Y, 1 ≤ y.length ∧ y.length ≤ L ∧ Stretch n ar y
  nod : Y.Nodup
  code : Code Y
theorem Loose.nil (n : Nat) (ar : List Ar) (L : Nat) : Loose n ar L 0 [] := ⟨Nat.le_refl _, fun _ h => (nomatch h), List.Pairwise.nil, ⟨fun _ h => (nomatch h), fun _ h => (nomatch h)⟩⟩
theorem Loose.add {n : Nat} {ar : List Ar} {L m : Nat} {Y : List (List Nat)} {t : List Nat} (h : Loose n ar L m Y) (hl : t.length ≤ L) (hs : Stretch n ar t) (hn : t ∉ Y) (hf : fitsL Y t = true) : Loose n ar L (m + 1) (Y ++ [t]) := by
  unfold fitsL at hf
  obtain ⟨f1, f2⟩ := Bool.and_eq_true_iff.mp hf
  have f1 := of_decide_eq_true f1
  have f3 : ∀ w ∈ Y, clashes w t = false := fun w hw => by
    cases e : clashes w t with
    | false => rfl
    | true =>
      have : (Y.any fun w => clashes w t) = true := List.any_eq_true.mpr ⟨w, hw, e⟩
      rw [this] at f2
      cases f2
  refine ⟨by rw [List.length_append]; have := h.few; show _ + 1 ≤ _; omega, fun y hy => ?_, ?_, ⟨fun u hu v hv p => ?_, fun u hu v hv p => ?_⟩⟩
  · rcases List.mem_append.mp hy with hy | hy
    · exact h.mem y hy
    · rw [List.mem_singleton.mp hy]
      exact ⟨List.length_pos_iff.mpr f1, hl, hs⟩
  · rw [List.nodup_append]
    exact ⟨h.nod, by simp, fun x hx y hy e => hn (by rw [List.mem_singleton.mp hy] at e; rw [← e]; exact hx)⟩
  · rcases List.mem_append.mp hu with hu | hu
    · rcases List.mem_append.mp hv with hv | hv
      · exact h.code.pre u hu v hv p
      · rw [List.mem_singleton.mp hv] at p
        exact absurd p (clash_no (f3 u hu)).1
    · rw [List.mem_singleton.mp hu] at p ⊢
      rcases List.mem_append.mp hv with hv | hv
      · exact absurd p (clash_no (f3 v hv)).2.1
      · exact (List.mem_singleton.mp hv).symm
  · rcases List.mem_append.mp hu with hu | hu
    · rcases List.mem_append.mp hv with hv | hv
      · exact h.code.suf u hu v hv p
      · rw [List.mem_singleton.mp hv] at p
        exact absurd p (clash_no (f3 u hu)).2.2.1
    · rw [List.mem_singleton.mp hu] at p ⊢
      rcases List.mem_append.mp hv with hv | hv
      · exact absurd p (clash_no (f3 v hv)).2.2.2
      · exact (List.mem_singleton.mp hv).symm
theorem Loose.mono {n : Nat} {ar : List Ar} {L m m' : Nat} {Y : List (List Nat)} (h : Loose n ar L m Y) (e : m ≤ m') : Loose n ar L m' Y := ⟨Nat.le_trans h.few e, h.mem, h.nod, h.code⟩
theorem Loose.perm {n : Nat} {ar : List Ar} {L m : Nat} {Y W : List (List Nat)} (h : Loose n ar L m Y) (p : W.Perm Y) : Loose n ar L m W :=
  ⟨by rw [p.length_eq]; exact h.few, fun y hy => h.mem y (p.mem_iff.mp hy), p.nodup_iff.mpr h.nod, ⟨fun u hu v hv => h.code.pre u (p.mem_iff.mp hu) v (p.mem_iff.mp hv), fun u hu v hv => h.code.suf u (p.mem_iff.mp hu) v (p.mem_iff.mp hv)⟩⟩
theorem Stretch.abc {n : Nat} {ar : List Ar} (ok : WebOk n ar) {t : List Nat} (h : Stretch n ar t) : ∀ c ∈ t, Lt c := fun c hc => by
  obtain ⟨a, b, rfl⟩ := List.append_of_mem hc
  obtain ⟨x, hx, rfl⟩ := h.letter
  have := ok.abc x hx
  unfold Lt
  omega
theorem Loose.words {n : Nat} {ar : List Ar} (ok : WebOk n ar) {L m : Nat} {Y : List (List Nat)} (h : Loose n ar L m Y) (hm : m ≤ 400) (hL : L ≤ 60) (a : Asc Y) : Words n ar Y :=
  ⟨Nat.le_trans h.few hm, fun w hw => (h.mem w hw).1, fun w hw => Nat.le_trans (h.mem w hw).2.1 hL, fun w hw => (h.mem w hw).2.2.abc ok, a.step, h.nod, fun w hw => (h.mem w hw).2.2, h.code.pre, h.code.suf⟩
/-- all stretches of one length -/
theorem stretches_words {n : Nat} {ar : List Ar} (ok : WebOk n ar) {k : Nat} (h1 : 1 ≤ k) (h2 : k ≤ 3) : Words n ar (stretchesL n ar k) := by
  have hm := mem_stretches ok k
  refine ⟨?_, fun w hw => by rw [((hm w).mp hw).1]; exact h1, fun w hw => by rw [((hm w).mp hw).1]; omega, fun w hw => ((hm w).mp hw).2.abc ok, (stretches_asc n ar k).step, (stretches_asc n ar k).nod, fun w hw => ((hm w).mp hw).2, fun u hu v hv p => ?_, fun u hu v hv p => ?_⟩
  · have a := stretches_len (n := n) ok.abc k
    have b : (3 : Nat) ^ k ≤ 3 ^ 3 := Nat.pow_le_pow_right (by decide) h2
    omega
  · exact p.eq_of_length (((hm u).mp hu).1.trans ((hm v).mp hv).1.symm)
  · exact p.eq_of_length (((hm u).mp hu).1.trans ((hm v).mp hv).1.symm)
/-- fewer words -/
theorem Words.sub {n : Nat} {ar : List Ar} {W U : List (List Nat)} (h : Words n ar W) (a : Asc W) (s : U.Sublist W) : Words n ar U :=
  ⟨Nat.le_trans s.length_le h.few, fun w hw => h.one w (s.subset hw), fun w hw => h.len w (s.subset hw), fun w hw => h.abc w (s.subset hw), Asc.step (List.Pairwise.sublist s a), List.Pairwise.sublist s h.nod, fun w hw => h.str w (s.subset hw),
    fun u hu v hv => h.pre u (s.subset hu) v (s.subset hv), fun u hu v hv => h.suf u (s.subset hu) v (s.subset hv)⟩
end L2.NJ
set_option Elab.async false
set_option linter.all false
set_option maxRecDepth 100000
set_option maxHeartbeats 4000000
namespace L2.NJ
open PySem PySem.Spec PyProof.Rows PySem.W
theorem mem_comes1 {W : List (List Nat)} {t : List Nat} {b : Nat} (hb : b ≤ t.length) {z : Nat × Nat} : z ∈ comes1 W t b ↔ z.1 = b ∧ b < z.2 ∧ z.2 ≤ t.length ∧ span t b z.2 ∈ W := by
  unfold comes1
  rw [List.mem_map]
  constructor
  · rintro ⟨j, hj, rfl⟩
    obtain ⟨h1, h2⟩ := List.mem_filter.mp hj
    have h1 := List.mem_range.mp h1
    refine ⟨rfl, ?_, ?_, of_decide_eq_true h2⟩
    · show b < b + 1 + j
      omega
    · show b + 1 + j ≤ _
      omega
  · rintro ⟨h1, h2, h3, h4⟩
    refine ⟨z.2 - b - 1, List.mem_filter.mpr ⟨List.mem_range.mpr (by omega), decide_eq_true ?_⟩, ?_⟩
    · rw [show b + 1 + (z.2 - b - 1) = z.2 by omega]
      exact h4
    · obtain ⟨x, y⟩ := z
      have h1 : x = b := h1
      rw [h1, show b + 1 + (y - b - 1) = y by have : b < y := h2; omega]
theorem comes1_nod (W : List (List Nat)) (t : List Nat) (b : Nat) : (comes1 W t b).Nodup := by
  unfold comes1
  exact List.Pairwise.map _ (fun x y h e => by injection e with _ e; omega) (List.Pairwise.filter _ (List.pairwise_lt_range (n := t.length - b)))
theorem comes1_code {W : List (List Nat)} (c : Code W) {t : List Nat} {b : Nat} (hb : b ≤ t.length) : comes1 W t b = match fwd W t b with
    | none => []
    | some e => [(b, e)] := by
  cases h : fwd W t b with
  | none =>
    refine List.eq_nil_iff_forall_not_mem.mpr fun z hz => ?_
    obtain ⟨h1, h2, h3, h4⟩ := (mem_comes1 hb).mp hz
    exact fwd_none h h2 h3 h4
  | some e =>
    have hall : ∀ z ∈ comes1 W t b, z = (b, e) := fun z hz => by
      obtain ⟨h1, h2, h3, h4⟩ := (mem_comes1 hb).mp hz
      have := fwd_of c h2 h3 h4
      rw [h] at this
      obtain ⟨x, y⟩ := z
      have h1 : x = b := h1
      have h5 : e = y := Option.some.inj this
      rw [h1, h5]
    have hin : (b, e) ∈ comes1 W t b := by
      have := fwd_some h
      exact (mem_comes1 hb).mpr ⟨rfl, this.1, this.2.1, this.2.2⟩
    have nod := comes1_nod W t b
    match hl : comes1 W t b with
    | [] => rw [hl] at hin; exact nomatch hin
    | [z] =>
      rw [hl] at hall
      rw [hall z List.mem_cons_self]
    | z :: y :: r =>
      rw [hl] at hall nod
      have h1 := hall z List.mem_cons_self
      have h2 := hall y (List.mem_cons_of_mem _ List.mem_cons_self)
      rw [List.nodup_cons] at nod
      exact absurd (h1.trans h2.symm ▸ List.mem_cons_self) nod.1
theorem filter_flat {α β : Type} (f : α → List β) (p : β → Bool) : ∀ l : List α, (l.flatMap f).filter p = l.flatMap fun a => (f a).filter p
  | [] => rfl
  | a :: r => by rw [List.flatMap_cons, List.filter_append, filter_flat f p r, List.flatMap_cons]
theorem flat_one {β : Type} (g : Nat → List β) (p : Nat) : ∀ m, ((List.range m).flatMap fun b => if b = p then g b else []) = if p < m then g p else []
  | 0 => rfl
  | m + 1 => by
    rw [List.range_succ, List.flatMap_append, flat_one g p m, List.flatMap_cons, List.flatMap_nil, List.append_nil]
    by_cases h : p < m
    · rw [if_pos h, if_neg (by omega), if_pos (by omega), List.append_nil]
    · rw [if_neg h]
      by_cases e : m = p
      · rw [if_pos e, if_pos (by omega), e]
        rfl
      · rw [if_neg e, if_neg (by omega)]
        rfl
/-- what of the comings begins at p -/
theorem comes_at (W : List (List Nat)) (t : List Nat) (p : Nat) : (comesL W t).filter (fun z => decide (z.1 = p)) = if p < t.length then comes1 W t p else [] := by
  unfold comesL
  rw [filter_flat]
  rw [← flat_one (comes1 W t) p t.length]
  congr 1
  funext b
  by_cases e : b = p
  · rw [if_pos e]
    refine List.filter_eq_self.mpr fun z hz => decide_eq_true ?_
    unfold comes1 at hz
    obtain ⟨j, _, rfl⟩ := List.mem_map.mp hz
    exact e
  · rw [if_neg e]
    refine List.filter_eq_nil_iff.mpr fun z hz h => e ?_
    unfold comes1 at hz
    obtain ⟨j, _, rfl⟩ := List.mem_map.mp hz
    exact of_decide_eq_true h
theorem comes_ends {W : List (List Nat)} (c : Code W) {t : List Nat} {p : Nat} (hp : p ≤ t.length) : ((comesL W t).any fun z => decide (z.2 = p)) = !decide (bwd W t p = none) := by
  have key : ((comesL W t).any fun z => decide (z.2 = p)) = true ↔ bwd W t p ≠ none := by
    rw [List.any_eq_true]
    unfold comesL
    constructor
    · rintro ⟨z, hz, e⟩
      obtain ⟨b, hb, hz⟩ := List.mem_flatMap.mp hz
      have hb := List.mem_range.mp hb
      obtain ⟨h1, h2, h3, h4⟩ := (mem_comes1 (by omega)).mp hz
      have e := of_decide_eq_true e
      rw [← e, bwd_of c h2 h3 h4]
      exact fun z => nomatch z
    · intro h
      obtain ⟨b, hb⟩ := Option.ne_none_iff_exists'.mp h
      have h1 := bwd_some hb
      exact ⟨(b, p), List.mem_flatMap.mpr ⟨b, List.mem_range.mpr (by omega), (mem_comes1 (by omega)).mpr ⟨rfl, h1.1, hp, h1.2⟩⟩, decide_eq_true rfl⟩
  cases e : decide (bwd W t p = none) with
  | true =>
    have e := of_decide_eq_true e
    cases h : (comesL W t).any fun z => decide (z.2 = p) with
    | false => rfl
    | true => exact absurd e (key.mp h)
  | false =>
    have e := of_decide_eq_false e
    exact key.mpr e
def opL : Option Nat → List Nat
  | none => []
  | some e => [e]
theorem run_last (f : Nat → Option Nat) : ∀ (k p : Nat), ∃ l x, run f k p = l ++ [x] ∧ run f (k + 1) p = (l ++ [x]) ++ opL (f x)
  | 0, p => ⟨[], p, rfl, by
    show p :: (match f p with | none => [] | some q => run f 0 q) = _
    cases f p with
    | none => rfl
    | some q => rfl⟩
  | k + 1, p => by
    show ∃ l x, p :: (match f p with | none => [] | some q => run f k q) = l ++ [x] ∧ p :: (match f p with | none => [] | some q => run f (k + 1) q) = _
    cases h : f p with
    | none => exact ⟨[], p, rfl, by rw [h]; rfl⟩
    | some q =>
      obtain ⟨l, x, e1, e2⟩ := run_last f k q
      refine ⟨p :: l, x, ?_, ?_⟩
      · show p :: run f k q = _
        rw [e1]
        rfl
      · show p :: run f (k + 1) q = _
        rw [e2]
        rfl
theorem run_bound {W : List (List Nat)} {t : List Nat} : ∀ (k p : Nat), p ≤ t.length → ∀ x ∈ run (fwd W t) k p, x ≤ t.length
  | 0, p, h, x, hx => by
    rw [List.mem_singleton.mp hx]
    exact h
  | k + 1, p, h, x, hx => by
    have hx : x ∈ p :: (match fwd W t p with | none => [] | some q => run (fwd W t) k q) := hx
    rcases List.mem_cons.mp hx with rfl | hx
    · exact h
    · cases q : fwd W t p with
      | none => rw [q] at hx; exact nomatch hx
      | some e =>
        rw [q] at hx
        exact run_bound k e (fwd_some q).2.1 x hx
end L2.NJ
set_option Elab.async false
set_option linter.all false
set_option maxRecDepth 100000
set_option maxHeartbeats 4000000
namespace L2.NJ
open PySem PySem.Spec PyProof.Rows PySem.W
/-! ### two-sided codes from a count of readings -/
/-- what the proof asks of a count -/
structure Cnt (c : List Nat → Int) : Prop where
  nil : c [] = 1
  r0 : ∀ w a, c w ≤ c (w ++ [a])
  r1 : ∀ w a, c (w ++ [a]) ≤ c w + 1
  l0 : ∀ w a, c w ≤ c (a :: w)
  l1 : ∀ w a, c (a :: w) ≤ c w + 1
  sq : ∀ a u b, c (a :: (u ++ [b])) + c u ≤ c (u ++ [b]) + c (a :: u)
def cap (d : Int) (c : List Nat → Int) (w : List Nat) : Int := if c w < d then c w else d
/-- the last letter's gain -/
def gain (d : Int) (c : List Nat → Int) (w : List Nat) : Int := if w = [] then 1 else cap d c w - cap d c w.dropLast
theorem gain_snoc (d : Int) (c : List Nat → Int) (u : List Nat) (b : Nat) : gain d c (u ++ [b]) = cap d c (u ++ [b]) - cap d c u := by
  unfold gain
  rw [if_neg (by simp), List.dropLast_concat]
theorem gain_le {c : List Nat → Int} (k : Cnt c) {d : Int} (hd : 1 ≤ d) (a : Nat) (w : List Nat) : gain d c (a :: w) ≤ gain d c w := by
  rcases List.eq_nil_or_concat w with rfl | ⟨u, b, rfl⟩
  · have e : gain d c [a] = cap d c [a] - cap d c [] := gain_snoc d c [] a
    rw [e]
    unfold gain cap
    rw [if_pos rfl]
    have h1 := k.r1 [] a
    have h0 := k.nil
    have h2 : c ([] ++ [a]) = c [a] := rfl
    rw [h2] at h1
    split <;> split <;> omega
  · rw [List.concat_eq_append]
    have e : gain d c (a :: (u ++ [b])) = cap d c (a :: (u ++ [b])) - cap d c (a :: u) := gain_snoc d c (a :: u) b
    rw [e, gain_snoc]
    have h1 := k.sq a u b
    have h2 := k.l0 u a
    have h3 := k.r0 u b
    have h4 := k.r1 (a :: u) b
    have h5 := k.r0 (a :: u) b
    have h6 : c ((a :: u) ++ [b]) = c (a :: (u ++ [b])) := rfl
    rw [h6] at h4 h5
    unfold cap
    split <;> split <;> split <;> split <;> omega
theorem gain_suf {c : List Nat → Int} (k : Cnt c) {d : Int} (hd : 1 ≤ d) : ∀ (p w : List Nat), gain d c (p ++ w) ≤ gain d c w
  | [], w => Int.le_refl _
  | a :: p, w => Int.le_trans (gain_le k hd a (p ++ w)) (gain_suf k hd p w)
/-- w is a word of the maker -/
def isW (d : Int) (c : List Nat → Int) (w : List Nat) : Prop := w ≠ [] ∧ gain d c w.tail - gain d c w = 1
theorem gain_bd {c : List Nat → Int} (k : Cnt c) {d : Int} (hd : 1 ≤ d) (w : List Nat) : 0 ≤ gain d c w ∧ gain d c w ≤ 1 := by
  rcases List.eq_nil_or_concat w with rfl | ⟨u, b, rfl⟩
  · unfold gain
    rw [if_pos rfl]
    omega
  · rw [List.concat_eq_append, gain_snoc]
    have h1 := k.r0 u b
    have h2 := k.r1 u b
    unfold cap
    split <;> split <;> omega
theorem isW_suf {c : List Nat → Int} (k : Cnt c) {d : Int} (hd : 1 ≤ d) {u v : List Nat} (hu : isW d c u) (hv : isW d c v) (s : u <:+ v) : u = v := by
  obtain ⟨p, rfl⟩ := s
  match p with
  | [] => rfl
  | a :: p =>
    exfalso
    have h1 := hv.2
    have e : ((a :: p) ++ u).tail = p ++ u := rfl
    rw [e] at h1
    have b1 := gain_bd k hd ((a :: p) ++ u)
    have b2 := gain_bd k hd (p ++ u)
    have b3 := gain_suf k hd p u
    have b4 := gain_bd k hd u
    have b5 := gain_bd k hd u.tail
    have h2 := hu.2
    omega
theorem Cnt.rev {c : List Nat → Int} (k : Cnt c) : Cnt (fun w => c w.reverse) where
  nil := k.nil
  r0 w a := by
    show c w.reverse ≤ c (w ++ [a]).reverse
    rw [List.reverse_append]
    exact k.l0 _ _
  r1 w a := by
    show c (w ++ [a]).reverse ≤ c w.reverse + 1
    rw [List.reverse_append]
    exact k.l1 _ _
  l0 w a := by
    show c w.reverse ≤ c (a :: w).reverse
    rw [List.reverse_cons]
    exact k.r0 _ _
  l1 w a := by
    show c (a :: w).reverse ≤ c w.reverse + 1
    rw [List.reverse_cons]
    exact k.r1 _ _
  sq a u b := by
    have h := k.sq b u.reverse a
    have e1 : (a :: (u ++ [b])).reverse = b :: (u.reverse ++ [a]) := by simp
    have e2 : (u ++ [b]).reverse = b :: u.reverse := by simp
    have e3 : (a :: u).reverse = u.reverse ++ [a] := by simp
    show c (a :: (u ++ [b])).reverse + c u.reverse ≤ c (u ++ [b]).reverse + c (a :: u).reverse
    rw [e1, e2, e3]
    omega
theorem cap_rev (d : Int) (c : List Nat → Int) (w : List Nat) : cap d (fun w => c w.reverse) w.reverse = cap d c w := by
  have h : cap d c w.reverse.reverse = cap d c w := by rw [List.reverse_reverse]
  exact h
theorem isW_iff1 (d : Int) {c : List Nat → Int} (hd : 1 ≤ d) (k : Cnt c) (a : Nat) : isW d c [a] ↔ cap d c [a] = 1 := by
  unfold isW
  have e : gain d c [a] = cap d c [a] - cap d c [] := gain_snoc d c [] a
  have e20 : gain d c [] = 1 := by
    unfold gain
    rw [if_pos rfl]
  have e2 : gain d c ([a] : List Nat).tail = 1 := e20
  have e3 : cap d c [] = 1 := by
    unfold cap
    rw [k.nil]
    split <;> omega
  rw [e, e2, e3]
  constructor
  · intro h
    omega
  · intro h
    exact ⟨by simp, by omega⟩
theorem isW_iff2 (d : Int) (c : List Nat → Int) (a b : Nat) (u : List Nat) : isW d c (a :: (u ++ [b])) ↔ cap d c (a :: u) + cap d c (u ++ [b]) - cap d c (a :: (u ++ [b])) - cap d c u = 1 := by
  unfold isW
  have e : gain d c (a :: (u ++ [b])) = cap d c (a :: (u ++ [b])) - cap d c (a :: u) := gain_snoc d c (a :: u) b
  have e2 : gain d c (a :: (u ++ [b])).tail = cap d c (u ++ [b]) - cap d c u := gain_snoc d c u b
  rw [e, e2]
  constructor
  · intro h
    omega
  · intro h
    exact ⟨by simp, by omega⟩
theorem isW_rev (d : Int) {c : List Nat → Int} (hd : 1 ≤ d) (k : Cnt c) {w : List Nat} (h : isW d c w) : isW d (fun w => c w.reverse) w.reverse := by
  match w, h with
  | [], h => exact absurd rfl h.1
  | [a], h =>
    rw [isW_iff1 d hd k] at h
    have := (isW_iff1 d hd k.rev a).mpr (by rw [← h]; exact cap_rev d c [a])
    exact this
  | a :: x :: r, h =>
    rcases List.eq_nil_or_concat (x :: r) with e | ⟨u, b, e⟩
    · cases e
    rw [List.concat_eq_append] at e
    rw [e] at h ⊢
    rw [isW_iff2] at h
    have e1 : (a :: (u ++ [b])).reverse = b :: (u.reverse ++ [a]) := by
      simp
    rw [e1, isW_iff2]
    have c1 := cap_rev d c (a :: u)
    have c2 := cap_rev d c (u ++ [b])
    have c3 := cap_rev d c (a :: (u ++ [b]))
    have c4 := cap_rev d c u
    rw [List.reverse_cons] at c1
    rw [List.reverse_append] at c2
    rw [e1] at c3
    have c2 : cap d (fun w => c w.reverse) (b :: u.reverse) = cap d c (u ++ [b]) := c2
    rw [c1, c2, c3, c4]
    omega
theorem isW_pre {c : List Nat → Int} (k : Cnt c) {d : Int} (hd : 1 ≤ d) {u v : List Nat} (hu : isW d c u) (hv : isW d c v) (s : u <+: v) : u = v := by
  have := isW_suf k.rev hd (isW_rev d hd k hu) (isW_rev d hd k hv) (List.reverse_suffix.mpr s)
  exact List.reverse_inj.mp this
end L2.NJ
set_option Elab.async false
set_option linter.all false
set_option maxRecDepth 100000
set_option maxHeartbeats 4000000
namespace L2.NJ
open PySem PySem.Spec PyProof.Rows PySem.W
section
variable {W : List (List Nat)}
theorem fwd_non {t : List Nat} {p : Nat} : fwd W t p = none ↔ ∀ e, p < e → e ≤ t.length → span t p e ∉ W :=
  ⟨fun h e h1 h2 => fwd_none h h1 h2, fun h => fwd_no fun s hs => h _ (by omega) hs⟩
theorem bwd_non {t : List Nat} {p : Nat} : bwd W t p = none ↔ ∀ b, b < p → span t b p ∉ W :=
  ⟨fun h b h1 => bwd_none h h1, fun h => bwd_no fun s hs => h _ (by omega)⟩
theorem span_cons (a : Nat) (t : List Nat) (b e : Nat) : span (a :: t) (b + 1) (e + 1) = span t b e := by
  unfold span
  rw [List.drop_succ_cons]
  congr 1
  omega
theorem span_snoc (t x : List Nat) {b e : Nat} (h : b ≤ e) (h2 : e ≤ t.length) : span (t ++ x) b e = span t b e := by
  unfold span
  rw [List.drop_append_of_le_length (by omega), List.take_append_of_le_length (by rw [List.length_drop]; omega)]
def tails (W : List (List Nat)) (t : List Nat) : List Nat := (List.range (t.length + 1)).filter fun p => decide (fwd W t p = none)
theorem flat_count (c : Code W) (t : List Nat) : ∀ m, m ≤ t.length → ((List.range m).flatMap (comes1 W t)).length + ((List.range m).filter fun p => decide (fwd W t p = none)).length = m
  | 0, _ => rfl
  | m + 1, h => by
    have ih := flat_count c t m (by omega)
    rw [List.range_succ, List.flatMap_append, List.filter_append, List.length_append, List.length_append, List.flatMap_cons, List.flatMap_nil, List.append_nil, comes1_code c (by omega)]
    cases q : fwd W t m with
    | none =>
      have e : (List.filter (fun p => decide (fwd W t p = none)) [m]).length = 1 := by simp [q]
      have e2 : (match (none : Option Nat) with | none => ([] : List (Nat × Nat)) | some e => [(m, e)]).length = 0 := rfl
      rw [e]
      show _ + 0 + (_ + 1) = m + 1
      omega
    | some x =>
      have e : (List.filter (fun p => decide (fwd W t p = none)) [m]).length = 0 := by simp [q]
      rw [e]
      show _ + 1 + (_ + 0) = m + 1
      omega
theorem count_tails (c : Code W) (t : List Nat) : countL W t = ((tails W t).length : Int) := by
  have h := flat_count c t t.length (Nat.le_refl _)
  unfold countL comesL tails
  rw [List.range_succ, List.filter_append, List.length_append]
  have e : (List.filter (fun p => decide (fwd W t p = none)) [t.length]).length = 1 := by
    have : fwd W t t.length = none := fwd_non.mpr fun e h1 h2 => by omega
    simp [this]
  rw [e]
  omega
theorem not_len {α : Type} (p : α → Bool) (l : List α) : (l.filter p).length + (l.filter fun x => !p x).length = l.length := by
  induction l with
  | nil => rfl
  | cons a r ih =>
    cases h : p a with
    | true =>
      rw [List.filter_cons_of_pos h, List.filter_cons_of_neg (by rw [h]; decide), List.length_cons, List.length_cons]
      omega
    | false =>
      rw [List.filter_cons_of_neg (by rw [h]; decide), List.filter_cons_of_pos (by rw [h]; rfl), List.length_cons, List.length_cons]
      omega
theorem tails_heads (c : Code W) (t : List Nat) : (tails W t).length = (heads W t).length := by
  have h1 := not_len (fun p => decide (fwd W t p = none)) (List.range (t.length + 1))
  have h2 := not_len (fun p => decide (bwd W t p = none)) (List.range (t.length + 1))
  have k1 : ((List.range (t.length + 1)).filter fun p => !decide (fwd W t p = none)).length ≤ ((List.range (t.length + 1)).filter fun p => !decide (bwd W t p = none)).length := by
    have n : (((List.range (t.length + 1)).filter fun p => !decide (fwd W t p = none)).map fun b => (fwd W t b).getD 0).Nodup := by
      refine List.pairwise_map.mpr (List.Pairwise.imp_of_mem (fun {x y} hx hy hxy e => hxy ?_) (List.Pairwise.filter _ List.nodup_range))
      have hx := (List.mem_filter.mp hx).2
      have hy := (List.mem_filter.mp hy).2
      cases q1 : fwd W t x with
      | none => rw [q1] at hx; cases hx
      | some e1 =>
        cases q2 : fwd W t y with
        | none => rw [q2] at hy; cases hy
        | some e2 =>
          rw [q1, q2] at e
          have e : e1 = e2 := e
          have l1 := (fwd_some q1).2.1
          have a1 := (fwd_bwd c l1).mp q1
          rw [e] at a1 l1
          rw [(fwd_bwd c l1).mp q2] at a1
          exact (Option.some.inj a1).symm
    have := nodup_sub n (m := (List.range (t.length + 1)).filter fun p => !decide (bwd W t p = none)) fun e he => by
      obtain ⟨b, hb, rfl⟩ := List.mem_map.mp he
      have hb := (List.mem_filter.mp hb).2
      cases q1 : fwd W t b with
      | none => rw [q1] at hb; cases hb
      | some e1 =>
        have l1 := (fwd_some q1).2.1
        refine List.mem_filter.mpr ⟨List.mem_range.mpr (by show e1 < _; omega), ?_⟩
        show (!decide (bwd W t e1 = none)) = true
        rw [(fwd_bwd c l1).mp q1]
        rfl
    rwa [List.length_map] at this
  have k2 : ((List.range (t.length + 1)).filter fun p => !decide (bwd W t p = none)).length ≤ ((List.range (t.length + 1)).filter fun p => !decide (fwd W t p = none)).length := by
    have n : (((List.range (t.length + 1)).filter fun p => !decide (bwd W t p = none)).map fun b => (bwd W t b).getD 0).Nodup := by
      refine List.pairwise_map.mpr (List.Pairwise.imp_of_mem (fun {x y} hx hy hxy e => hxy ?_) (List.Pairwise.filter _ List.nodup_range))
      have lx := List.mem_range.mp (List.mem_filter.mp hx).1
      have ly := List.mem_range.mp (List.mem_filter.mp hy).1
      have hx := (List.mem_filter.mp hx).2
      have hy := (List.mem_filter.mp hy).2
      cases q1 : bwd W t x with
      | none => rw [q1] at hx; cases hx
      | some e1 =>
        cases q2 : bwd W t y with
        | none => rw [q2] at hy; cases hy
        | some e2 =>
          rw [q1, q2] at e
          have e : e1 = e2 := e
          have a1 := (fwd_bwd c (by omega)).mpr q1
          have a2 := (fwd_bwd c (by omega)).mpr q2
          rw [e, a2] at a1
          exact (Option.some.inj a1).symm
    have := nodup_sub n (m := (List.range (t.length + 1)).filter fun p => !decide (fwd W t p = none)) fun e he => by
      obtain ⟨b, hb, rfl⟩ := List.mem_map.mp he
      have lb := List.mem_range.mp (List.mem_filter.mp hb).1
      have hb := (List.mem_filter.mp hb).2
      cases q1 : bwd W t b with
      | none => rw [q1] at hb; cases hb
      | some e1 =>
        have l1 := (bwd_some q1).1
        refine List.mem_filter.mpr ⟨List.mem_range.mpr (by show e1 < _; omega), ?_⟩
        show (!decide (fwd W t e1 = none)) = true
        rw [(fwd_bwd c (by omega)).mpr q1]
        rfl
    rwa [List.length_map] at this
  unfold tails heads
  omega
theorem count_heads (c : Code W) (t : List Nat) : countL W t = ((heads W t).length : Int) := by
  rw [count_tails c, tails_heads c]
/-- one letter more at the end -/
theorem count_snoc (c : Code W) (t : List Nat) (a : Nat) : countL W (t ++ [a]) = countL W t + if bwd W (t ++ [a]) (t.length + 1) = none then 1 else 0 := by
  rw [count_heads c, count_heads c]
  unfold heads
  have e1 : (t ++ [a]).length + 1 = (t.length + 1) + 1 := by rw [List.length_append]; rfl
  rw [e1, List.range_succ (n := t.length + 1), List.filter_append, List.length_append]
  have e2 : (List.range (t.length + 1)).filter (fun p => decide (bwd W (t ++ [a]) p = none)) = (List.range (t.length + 1)).filter fun p => decide (bwd W t p = none) := List.filter_congr fun p hp => by
    have hp := List.mem_range.mp hp
    rw [Bool.eq_iff_iff, decide_eq_true_iff, decide_eq_true_iff, bwd_non, bwd_non]
    constructor
    · intro h b hb
      rw [← span_snoc t [a] (by omega) (by omega)]
      exact h b hb
    · intro h b hb
      rw [span_snoc t [a] (by omega) (by omega)]
      exact h b hb
  rw [e2]
  by_cases q : bwd W (t ++ [a]) (t.length + 1) = none
  · rw [if_pos q]
    have : (List.filter (fun p => decide (bwd W (t ++ [a]) p = none)) [t.length + 1]).length = 1 := by simp [q]
    rw [this]
    omega
  · rw [if_neg q]
    have : (List.filter (fun p => decide (bwd W (t ++ [a]) p = none)) [t.length + 1]).length = 0 := by simp [q]
    rw [this]
    omega
/-- one letter more at the begin -/
theorem count_cons (c : Code W) (t : List Nat) (a : Nat) : countL W (a :: t) = countL W t + if fwd W (a :: t) 0 = none then 1 else 0 := by
  rw [count_tails c, count_tails c]
  unfold tails
  rw [List.length_cons, List.range_succ_eq_map (n := t.length + 1), List.filter_cons]
  have e2 : ((List.map Nat.succ (List.range (t.length + 1))).filter fun p => decide (fwd W (a :: t) p = none)).length = ((List.range (t.length + 1)).filter fun p => decide (fwd W t p = none)).length := by
    rw [List.filter_map, List.length_map]
    congr 1
    refine List.filter_congr fun p hp => ?_
    show decide (fwd W (a :: t) (p + 1) = none) = _
    rw [Bool.eq_iff_iff, decide_eq_true_iff, decide_eq_true_iff, fwd_non, fwd_non]
    constructor
    · intro h e h1 h2
      rw [← span_cons a]
      exact h (e + 1) (by omega) (by rw [List.length_cons]; omega)
    · intro h e h1 h2
      rw [List.length_cons] at h2
      obtain ⟨e', rfl⟩ : ∃ e', e = e' + 1 := ⟨e - 1, by omega⟩
      rw [span_cons]
      exact h e' (by omega) (by omega)
  by_cases q : fwd W (a :: t) 0 = none
  · rw [if_pos q, if_pos (decide_eq_true q), List.length_cons, e2]
    omega
  · rw [if_neg q, if_neg (by rw [decide_eq_false q]; decide), e2]
    omega
theorem cnt_ok (c : Code W) (h : ∀ y ∈ W, 1 ≤ y.length) : Cnt (countL W) where
  nil := by
    rw [count_tails c]
    unfold tails
    have : fwd W [] 0 = none := fwd_non.mpr fun e h1 h2 => by
      have : e ≤ 0 := h2
      omega
    simp [List.range_succ, this]
  r0 w a := by
    rw [count_snoc c]
    split <;> omega
  r1 w a := by
    rw [count_snoc c]
    split <;> omega
  l0 w a := by
    rw [count_cons c]
    split <;> omega
  l1 w a := by
    rw [count_cons c]
    split <;> omega
  sq a u b := by
    have e1 := count_snoc c (a :: u) b
    have e2 := count_snoc c u b
    have e0 : (a :: u) ++ [b] = a :: (u ++ [b]) := rfl
    rw [e0] at e1
    rw [e1, e2]
    have key : bwd W (a :: (u ++ [b])) ((a :: u).length + 1) = none → bwd W (u ++ [b]) (u.length + 1) = none := by
      rw [bwd_non, bwd_non]
      intro h x hx
      rw [← span_cons a]
      exact h (x + 1) (by rw [List.length_cons]; omega)
    by_cases q : bwd W (a :: (u ++ [b])) ((a :: u).length + 1) = none
    · rw [if_pos q, if_pos (key q)]
      omega
    · rw [if_neg q]
      split <;> omega
end
end L2.NJ
set_option Elab.async false
set_option linter.all false
set_option maxRecDepth 100000
set_option maxHeartbeats 4000000
namespace L2.NJ
open PySem PySem.Spec PyProof.Rows PySem.W
theorem two_ends {t : List Nat} (h : 2 ≤ t.length) : ∃ a u b, t = a :: (u ++ [b]) := by
  match t, h with
  | a :: x :: r, _ =>
    rcases List.eq_nil_or_concat (x :: r) with e | ⟨u, b, e⟩
    · cases e
    · exact ⟨a, u, b, by rw [e, List.concat_eq_append]⟩
theorem wordL_iff (d : Int) (Y : List (List Nat)) (a b : Nat) (u : List Nat) : wordL d Y (a :: (u ++ [b])) = true ↔ isW d (countL Y) (a :: (u ++ [b])) := by
  rw [isW_iff2]
  have e1 : (a :: (u ++ [b])).dropLast = a :: u := by
    have : a :: (u ++ [b]) = (a :: u) ++ [b] := rfl
    rw [this, List.dropLast_concat]
  have e2 : (a :: (u ++ [b])).drop 1 = u ++ [b] := rfl
  unfold wordL
  rw [e1, e2, List.dropLast_concat, decide_eq_true_iff]
  exact Iff.rfl
theorem wordL_isW {d : Int} {Y : List (List Nat)} {t : List Nat} (h : 2 ≤ t.length) (w : wordL d Y t = true) : isW d (countL Y) t := by
  obtain ⟨a, u, b, rfl⟩ := two_ends h
  exact (wordL_iff d Y a b u).mp w
section
variable {n : Nat} {ar : List Ar} {Y W : List (List Nat)} {d : Int} {i : Nat}
theorem found_isW (k : Cnt (countL Y)) (hd : 1 ≤ d) {t : List Nat} {j : Nat} (hl : t.length = j + 1) (h : cw d Y j t = true) : isW d (countL Y) t := by
  unfold cw at h
  by_cases j0 : j = 0
  · rw [if_pos j0] at h
    match t, hl with
    | [a], _ => exact (isW_iff1 d hd k a).mpr (of_decide_eq_true h)
    | [], hl => cases hl
    | _ :: _ :: _, hl =>
      rw [j0] at hl
      cases hl
  · rw [if_neg j0] at h
    exact wordL_isW (by omega) h
theorem made_mem (ok : WebOk n ar) (lo : Loose n ar 3 3 Y) (hd : 1 ≤ d) (m : Made n ar Y d W i) {w : List Nat} (h : w ∈ W) : isW d (countL Y) w ∧ 1 ≤ w.length ∧ w.length ≤ i + 2 ∧ Stretch n ar w := by
  have k := cnt_ok lo.code fun y hy => (lo.mem y hy).1
  rcases List.mem_append.mp (m.perm.mem_iff.mp h) with h | h
  · obtain ⟨j, hj, h1, h2⟩ := found_mem.mp h
    have := (mem_lv ok j w).mp h1
    exact ⟨found_isW k hd this.1 h2, by omega, by omega, this.2⟩
  · obtain ⟨h1, h2⟩ := List.mem_filter.mp h
    have := (mem_lv ok (i + 1) w).mp h1
    exact ⟨wordL_isW (by omega) h2, by omega, by omega, this.2⟩
theorem made_rest (ok : WebOk n ar) (lo : Loose n ar 3 3 Y) (hd : 1 ≤ d) (m : Made n ar Y d W i) (few : W.length ≤ 400) : Words n ar W := by
  have k := cnt_ok lo.code fun y hy => (lo.mem y hy).1
  have i9 := m.i9
  refine ⟨few, fun w hw => (made_mem ok lo hd m hw).2.1, fun w hw => ?_, fun w hw => (made_mem ok lo hd m hw).2.2.2.abc ok, m.asc.step, m.asc.nod, fun w hw => (made_mem ok lo hd m hw).2.2.2, fun u hu v hv s => ?_, fun u hu v hv s => ?_⟩
  · have := (made_mem ok lo hd m hw).2.2.1
    omega
  · exact isW_pre k hd (made_mem ok lo hd m hu).1 (made_mem ok lo hd m hv).1 s
  · exact isW_suf k hd (made_mem ok lo hd m hu).1 (made_mem ok lo hd m hv).1 s
/-! ### how many -/
/-- the last words: a letter, a middle that is not full, a letter -/
theorem last_iff (k : Cnt (countL Y)) (hd : 1 ≤ d) (ok : WebOk n ar) (full : ∀ t ∈ lv n ar i, d ≤ countL Y t) {a b : Nat} {u : List Nat} (h : a :: (u ++ [b]) ∈ lv n ar (i + 1)) : wordL d Y (a :: (u ++ [b])) = true ↔ countL Y u < d := by
  rw [wordL_iff, isW_iff2]
  obtain ⟨hl, hs⟩ := (mem_lv ok (i + 1) _).mp h
  have hl : u.length + 1 + 1 = i + 1 + 1 := by
    have : (a :: (u ++ [b])).length = u.length + 1 + 1 := by simp
    omega
  have f1 : d ≤ countL Y (a :: u) := full _ ((mem_lv ok i _).mpr ⟨by rw [List.length_cons]; omega, Stretch.left (u := [b]) hs⟩)
  have f2 : d ≤ countL Y (u ++ [b]) := full _ ((mem_lv ok i _).mpr ⟨by rw [List.length_append]; show u.length + 1 = _; omega, Stretch.right ok.inn (t := [a]) hs⟩)
  have g1 := k.l0 (u ++ [b]) a
  have g2 := k.l1 u a
  unfold cap
  rw [if_neg (by omega), if_neg (by omega), if_neg (by omega)]
  by_cases c : countL Y u < d
  · rw [if_pos c]
    exact ⟨fun _ => c, fun _ => by omega⟩
  · rw [if_neg c]
    exact ⟨fun z => by omega, fun z => absurd z c⟩
theorem flat_two {α β : Type} (g : α → List β) : ∀ (l : List α), (∀ a ∈ l, (g a).length ≤ 3) → (l.flatMap g).length ≤ 2 * l.length + (l.filter fun a => decide (3 ≤ (g a).length)).length
  | [], _ => Nat.zero_le _
  | a :: r, h => by
    have ih := flat_two g r fun b hb => h b (List.mem_cons_of_mem _ hb)
    have ha := h a List.mem_cons_self
    rw [List.flatMap_cons, List.length_append, List.length_cons]
    by_cases c : 3 ≤ (g a).length
    · rw [List.filter_cons_of_pos (p := fun a => decide (3 ≤ (g a).length)) (decide_eq_true c), List.length_cons]
      omega
    · rw [List.filter_cons_of_neg (p := fun a => decide (3 ≤ (g a).length)) (by rw [decide_eq_false c]; decide)]
      omega
end
/-- the level's texts whose part behind the first letter is not full -/
def opens (n : Nat) (ar : List Ar) (d : Int) (Y : List (List Nat)) (i : Nat) : List (List Nat) := (lv n ar i).filter fun t => decide (countL Y t.tail < d)
section
variable {n : Nat} {ar : List Ar} {Y W : List (List Nat)} {d : Int} {i : Nat}
theorem mem_grow (ok : WebOk n ar) {t u : List Nat} : u ∈ grow n ar t ↔ ∃ c, u = t ++ [c] ∧ Stretch n ar (t ++ [c]) := by
  unfold grow
  rw [List.mem_map]
  constructor
  · rintro ⟨c, hc, rfl⟩
    obtain ⟨h1, h2⟩ := List.mem_filter.mp hc
    exact ⟨c, rfl, (ends_str ok.inn).mp (of_decide_eq_true h2)⟩
  · rintro ⟨c, rfl, hs⟩
    exact ⟨c, List.mem_filter.mpr ⟨(mem_signs ok.abc).mpr hs.letter, decide_eq_true ((ends_str ok.inn).mpr hs)⟩, rfl⟩
theorem grow_len (ok : WebOk n ar) (t : List Nat) : (grow n ar t).length ≤ 3 := by
  unfold grow
  rw [List.length_map]
  exact Nat.le_trans (List.length_filter_le _ _) (signs_len ok.abc)
/-- a stretch goes on -/
theorem goes_on (ok : WebOk n ar) : ∀ (k : Nat) {w : List Nat}, Stretch n ar w → ∃ x, x.length = k ∧ Stretch n ar (w ++ x)
  | k, w, ⟨p, q, hp, h⟩ => by
    obtain ⟨x, r, h1, h2⟩ := path_ex ok k q (h.lt ok.inn hp)
    exact ⟨x, h1, p, r, hp, h.cat h2⟩
/-- an open text of the level begins a last word -/
theorem open_word (k : Cnt (countL Y)) (hd : 1 ≤ d) (ok : WebOk n ar) (full : ∀ t ∈ lv n ar i, d ≤ countL Y t) {t : List Nat} (h : t ∈ opens n ar d Y i) : ∃ c, t ++ [c] ∈ (lv n ar (i + 1)).filter (wordL d Y) := by
  obtain ⟨h1, h2⟩ := List.mem_filter.mp h
  have h2 := of_decide_eq_true h2
  obtain ⟨hl, hs⟩ := (mem_lv ok i t).mp h1
  obtain ⟨x, hx, hsx⟩ := goes_on ok 1 hs
  match x, hx with
  | [c], _ =>
    match t, hl with
    | a :: u, hl =>
      have hm : a :: (u ++ [c]) ∈ lv n ar (i + 1) := (mem_lv ok (i + 1) _).mpr ⟨by simp at hl ⊢; omega, hsx⟩
      exact ⟨c, List.mem_filter.mpr ⟨hm, (last_iff k hd ok full hm).mpr h2⟩⟩
theorem word_open (k : Cnt (countL Y)) (hd : 1 ≤ d) (ok : WebOk n ar) (full : ∀ t ∈ lv n ar i, d ≤ countL Y t) {x : List Nat} (h : x ∈ (lv n ar (i + 1)).filter (wordL d Y)) : ∃ t ∈ opens n ar d Y i, x ∈ grow n ar t := by
  obtain ⟨h1, h2⟩ := List.mem_filter.mp h
  obtain ⟨hl, hs⟩ := (mem_lv ok (i + 1) x).mp h1
  obtain ⟨a, u, b, rfl⟩ := two_ends (by omega : 2 ≤ x.length)
  have h3 := (last_iff k hd ok full h1).mp h2
  refine ⟨a :: u, List.mem_filter.mpr ⟨(mem_lv ok i _).mpr ⟨by simp at hl ⊢; omega, Stretch.left (u := [b]) hs⟩, decide_eq_true h3⟩, (mem_grow ok).mpr ⟨b, rfl, hs⟩⟩
/-- words of the levels and open texts are no more than the level -/
theorem few_found (ok : WebOk n ar) (lo : Loose n ar 3 3 Y) (hd : 1 ≤ d) (m : Made n ar Y d W i) : (foundL n ar d Y (i + 1)).length + (opens n ar d Y i).length ≤ (lv n ar i).length := by
  have k := cnt_ok lo.code fun y hy => (lo.mem y hy).1
  have hex : ∀ w, ∃ t, w ∈ foundL n ar d Y (i + 1) → t ∈ lv n ar i ∧ w <+: t := fun w => by
    by_cases hw : w ∈ foundL n ar d Y (i + 1)
    · obtain ⟨j, hj, h1, _⟩ := found_mem.mp hw
      obtain ⟨hl, hs⟩ := (mem_lv ok j w).mp h1
      obtain ⟨x, hx, hsx⟩ := goes_on ok (i - j) hs
      exact ⟨w ++ x, fun _ => ⟨(mem_lv ok i _).mpr ⟨by rw [List.length_append]; omega, hsx⟩, List.prefix_append _ _⟩⟩
    · exact ⟨[], fun h => absurd h hw⟩
  have fw : ∀ w ∈ foundL n ar d Y (i + 1), isW d (countL Y) w ∧ w.length ≤ i + 1 := fun w hw => by
    obtain ⟨j, hj, h1, h2⟩ := found_mem.mp hw
    have := (mem_lv ok j w).mp h1
    exact ⟨found_isW k hd this.1 h2, by omega⟩
  let ext : List Nat → List Nat := fun w => (hex w).choose
  have hext : ∀ w ∈ foundL n ar d Y (i + 1), ext w ∈ lv n ar i ∧ w <+: ext w := fun w hw => (hex w).choose_spec hw
  have nod : ((foundL n ar d Y (i + 1)).map ext ++ opens n ar d Y i).Nodup := by
    rw [List.nodup_append]
    refine ⟨?_, List.Pairwise.filter _ (lv_asc n ar i).nod, fun x hx y hy e => ?_⟩
    · refine List.pairwise_map.mpr (List.Pairwise.imp_of_mem (fun {u v} hu hv huv e => huv ?_) (found_nod n ar d Y (i + 1)))
      have p1 := (hext u hu).2
      have p2 := (hext v hv).2
      rw [e] at p1
      rcases Nat.le_total u.length v.length with hl | hl
      · exact isW_pre k hd (fw u hu).1 (fw v hv).1 (List.prefix_of_prefix_length_le p1 p2 hl)
      · exact (isW_pre k hd (fw v hv).1 (fw u hu).1 (List.prefix_of_prefix_length_le p2 p1 hl)).symm
    · obtain ⟨w, hw, rfl⟩ := List.mem_map.mp hx
      rw [← e] at hy
      obtain ⟨c, hc⟩ := open_word k hd ok m.full hy
      obtain ⟨h1, h2⟩ := List.mem_filter.mp hc
      have hl := ((mem_lv ok (i + 1) _).mp h1).1
      have := isW_pre k hd (fw w hw).1 (wordL_isW (by omega) h2) ((hext w hw).2.trans (List.prefix_append _ _))
      have h3 := (fw w hw).2
      have h4 := congrArg List.length this
      omega
  have := nodup_sub nod (m := lv n ar i) fun x hx => by
    rcases List.mem_append.mp hx with hx | hx
    · obtain ⟨w, hw, rfl⟩ := List.mem_map.mp hx
      exact (hext w hw).1
    · exact (List.mem_filter.mp hx).1
  rwa [List.length_append, List.length_map] at this
/-- the last words, by the open texts -/
theorem few_last (k : Cnt (countL Y)) (hd : 1 ≤ d) (ok : WebOk n ar) (full : ∀ t ∈ lv n ar i, d ≤ countL Y t) : ((lv n ar (i + 1)).filter (wordL d Y)).length ≤ 2 * (opens n ar d Y i).length + ((opens n ar d Y i).filter fun t => decide (3 ≤ (grow n ar t).length)).length := by
  refine Nat.le_trans ?_ (flat_two (grow n ar) (opens n ar d Y i) fun t _ => grow_len ok t)
  exact nodup_sub (List.Pairwise.filter _ (lv_asc n ar (i + 1)).nod) fun x hx => by
    obtain ⟨t, ht, hg⟩ := word_open k hd ok full hx
    exact List.mem_flatMap.mpr ⟨t, ht, hg⟩
end
end L2.NJ
set_option Elab.async false
set_option linter.all false
set_option maxRecDepth 100000
set_option maxHeartbeats 4000000
namespace L2.NJ
open PySem PySem.Spec PyProof.Rows PySem.W
section
variable {n : Nat} {ar : List Ar} {Y W : List (List Nat)} {d : Int} {i : Nat}
/-- open texts with all three letters behind -/
def wide (n : Nat) (ar : List Ar) (d : Int) (Y : List (List Nat)) (i : Nat) : List (List Nat) := (opens n ar d Y i).filter fun t => decide (3 ≤ (grow n ar t).length)
theorem all_signs (ok : WebOk n ar) {t : List Nat} (h : 3 ≤ (grow n ar t).length) {c : Nat} (hc : c ∈ signsL ar) : Stretch n ar (t ++ [c]) := by
  have l3 := signs_len ok.abc
  unfold grow at h
  rw [List.length_map] at h
  have h1 := List.length_filter_le (fun c => decide (endsL n ar (t ++ [c]) ≠ [])) (signsL ar)
  have h2 : (signsL ar).filter (fun c => decide (endsL n ar (t ++ [c]) ≠ [])) = signsL ar := List.filter_sublist.eq_of_length_le (by omega)
  rw [← h2] at hc
  exact (ends_str ok.inn).mp (of_decide_eq_true (List.mem_filter.mp hc).2)
def rot : List Nat → List Nat
  | [] => []
  | a :: u => u ++ [a]
theorem rot_inj : ∀ {t u : List Nat}, rot t = rot u → t = u
  | [], [], _ => rfl
  | [], a :: u, h => by simp [rot] at h
  | a :: u, [], h => by simp [rot] at h
  | a :: t, b :: u, h => by
    have h : t ++ [a] = u ++ [b] := h
    have h2 := List.append_inj' h rfl
    rw [h2.1]
    have := h2.2
    simp at this
    rw [this]
/-- those with a word of the lot behind their first letter turn round, out of the open texts -/
theorem few_turn (ok : WebOk n ar) (lo : Loose n ar 3 3 Y) (full : ∀ t ∈ lv n ar i, d ≤ countL Y t) : ((wide n ar d Y i).filter fun t => !decide (fwd Y t.tail 0 = none)).length + (opens n ar d Y i).length ≤ (lv n ar i).length := by
  have nod : (((wide n ar d Y i).filter fun t => !decide (fwd Y t.tail 0 = none)).map rot ++ opens n ar d Y i).Nodup := by
    rw [List.nodup_append]
    refine ⟨List.pairwise_map.mpr (List.Pairwise.imp (fun {u v} huv e => huv (rot_inj e)) (List.Pairwise.filter _ (List.Pairwise.filter _ (List.Pairwise.filter _ (lv_asc n ar i).nod)))), List.Pairwise.filter _ (lv_asc n ar i).nod, fun x hx y hy e => ?_⟩
    obtain ⟨t, ht, rfl⟩ := List.mem_map.mp hx
    rw [← e] at hy
    obtain ⟨h1, h2⟩ := List.mem_filter.mp ht
    obtain ⟨h3, _⟩ := List.mem_filter.mp h1
    obtain ⟨h4, _⟩ := List.mem_filter.mp h3
    have hl := ((mem_lv ok i t).mp h4).1
    match t, hl with
    | a :: u, hl =>
      obtain ⟨g1, g2⟩ := List.mem_filter.mp hy
      have g2 := of_decide_eq_true g2
      have g3 := full _ g1
      cases q : fwd Y u 0 with
      | none =>
        have h2 : (!decide (fwd Y u 0 = none)) = true := h2
        rw [q] at h2
        cases h2
      | some e1 =>
        have f := fwd_some q
        -- the turned text has the word of the lot in front
        match u, f with
        | [], f => have := f.2.1; have := f.1; simp at *; omega
        | x :: r, f =>
          have g2 : countL Y (r ++ [a]) < d := g2
          have g3 : d ≤ countL Y (x :: (r ++ [a])) := g3
          rw [count_cons lo.code] at g3
          have q2 : fwd Y (x :: (r ++ [a])) 0 ≠ none := fun z => by
            have := fwd_non.mp z e1 f.1 (by have := f.2.1; simp at this ⊢; omega)
            have e2 : span (x :: (r ++ [a])) 0 e1 = span (x :: r) 0 e1 := span_snoc (x :: r) [a] (by omega) f.2.1
            rw [e2] at this
            exact this f.2.2
          rw [if_neg q2] at g3
          omega
  have := nodup_sub nod (m := lv n ar i) fun x hx => by
    rcases List.mem_append.mp hx with hx | hx
    · obtain ⟨t, ht, rfl⟩ := List.mem_map.mp hx
      obtain ⟨h1, _⟩ := List.mem_filter.mp ht
      obtain ⟨h3, h5⟩ := List.mem_filter.mp h1
      obtain ⟨h4, _⟩ := List.mem_filter.mp h3
      obtain ⟨hl, hs⟩ := (mem_lv ok i t).mp h4
      match t, hl with
      | a :: u, hl =>
        have ha : a ∈ signsL ar := (mem_signs ok.abc).mpr (Stretch.letter (t := []) (u := u) hs)
        have := all_signs ok (of_decide_eq_true h5) ha
        exact (mem_lv ok i _).mpr ⟨by show (u ++ [a]).length = _; simp at hl ⊢; omega, Stretch.right ok.inn (t := [a]) this⟩
    · exact (List.mem_filter.mp hx).1
  rwa [List.length_append, List.length_map] at this
/-! ### the rest: all pairs behind the second letter are words of the lot -/
def pairs9 : List (Nat × Nat) := [(97, 97), (97, 98), (97, 99), (98, 97), (98, 98), (98, 99), (99, 97), (99, 98), (99, 99)]
/-- walks of k pairs more, before the letter -/
def walksTo (E : Nat × Nat → Bool) : Nat → Nat → List (List Nat)
  | 0, z => [[z]]
  | k + 1, z => ([97, 98, 99].filter fun x => E (x, z)).flatMap fun x => (walksTo E k x).map fun w => w ++ [z]
def sink (E : Nat × Nat → Bool) (z : Nat) : Bool := [97, 98, 99].all fun x => !E (z, x)
def walks (E : Nat × Nat → Bool) (k : Nat) : List (List Nat) := ([97, 98, 99].filter (sink E)).flatMap (walksTo E k)
def cntE (E : Nat × Nat → Bool) (k z : Nat) : Nat := (walksTo E k z).length
def bitE (b0 b1 b2 b3 b4 b5 b6 b7 b8 : Bool) (p : Nat × Nat) : Bool :=
  match p with
  | (97, 97) => b0 | (97, 98) => b1 | (97, 99) => b2
  | (98, 97) => b3 | (98, 98) => b4 | (98, 99) => b5
  | (99, 97) => b6 | (99, 98) => b7 | (99, 99) => b8
  | _ => false
theorem walks_few : ∀ (b0 b1 b2 b3 b4 b5 b6 b7 b8 : Bool), (pairs9.filter (bitE b0 b1 b2 b3 b4 b5 b6 b7 b8)).length ≤ 3 → ∀ k ∈ [2, 3, 4, 5, 6], (walks (bitE b0 b1 b2 b3 b4 b5 b6 b7 b8) k).length ≤ 8 := by decide +kernel
end
end L2.NJ
set_option Elab.async false
set_option linter.all false
set_option maxRecDepth 100000
set_option maxHeartbeats 4000000
namespace L2.NJ
open PySem PySem.Spec PyProof.Rows PySem.W
def ABC (c : Nat) : Prop := c ∈ [97, 98, 99]
theorem abc_of {n : Nat} {ar : List Ar} (ok : WebOk n ar) {t : List Nat} (h : Stretch n ar t) : ∀ c ∈ t, ABC c := fun c hc => by
  obtain ⟨a, b, rfl⟩ := List.append_of_mem hc
  obtain ⟨x, hx, rfl⟩ := h.letter
  have := ok.abc x hx
  unfold ABC
  have : x.2.1 = 97 ∨ x.2.1 = 98 ∨ x.2.1 = 99 := by omega
  rcases this with h | h | h <;> rw [h] <;> simp
theorem walksTo_mem (E : Nat × Nat → Bool) : ∀ (k : Nat) (v : List Nat) (z : Nat), v.length = k → (∀ c ∈ v, ABC c) → (∀ j p q, (v ++ [z])[j]? = some p → (v ++ [z])[j + 1]? = some q → E (p, q) = true) → v ++ [z] ∈ walksTo E k z
  | 0, v, z, hl, _, _ => by
    have := List.eq_nil_of_length_eq_zero hl
    subst this
    exact List.mem_cons_self
  | k + 1, v, z, hl, ha, hp => by
    obtain ⟨w, x, rfl, hw⟩ := snoc_of hl
    have hx : E (x, z) = true := hp k x z (by rw [List.append_assoc, List.getElem?_append_right (by omega), hw]; simp) (by rw [List.append_assoc, List.getElem?_append_right (by omega), hw]; simp)
    have ih := walksTo_mem E k w x hw (fun c hc => ha c (List.mem_append_left _ hc)) fun j p q h1 h2 => by
      have l2 := (List.getElem?_eq_some_iff.mp h2).1
      have l1 := (List.getElem?_eq_some_iff.mp h1).1
      exact hp j p q (by rw [List.getElem?_append_left l1]; exact h1) (by rw [List.getElem?_append_left l2]; exact h2)
    show _ ∈ ([97, 98, 99].filter fun x => E (x, z)).flatMap fun x => (walksTo E k x).map fun w => w ++ [z]
    exact List.mem_flatMap.mpr ⟨x, List.mem_filter.mpr ⟨ha x (List.mem_append_right _ List.mem_cons_self), hx⟩, List.mem_map.mpr ⟨_, ih, rfl⟩⟩
theorem span_two {u : List Nat} {p : Nat} (h : p + 1 < u.length) : span u p (p + 2) = [u[p], u[p + 1]] := by
  unfold span
  rw [show p + 2 - p = 2 by omega, List.drop_eq_getElem_cons (by omega), List.drop_eq_getElem_cons h]
  rfl
section
variable {n : Nat} {ar : List Ar} {Y W : List (List Nat)} {d : Int} {i : Nat}
theorem rest_shape (ok : WebOk n ar) (lo : Loose n ar 3 3 Y) (h4 : d ≤ 4) (full : ∀ t ∈ lv n ar i, d ≤ countL Y t) (i4 : 4 ≤ i) {a : Nat} {u : List Nat} (hm : a :: u ∈ wide n ar d Y i) (h0 : fwd Y u 0 = none) :
    (∀ p, 1 ≤ p → (h : p + 1 < u.length) → [u[p], u[p + 1]'h] ∈ Y) ∧ (∀ v z, u = v ++ [z] → ∀ c, [z, c] ∉ Y) := by
  obtain ⟨h1, hg⟩ := List.mem_filter.mp hm
  obtain ⟨h2, hc⟩ := List.mem_filter.mp h1
  have hc : countL Y u < d := of_decide_eq_true hc
  obtain ⟨hl, hs⟩ := (mem_lv ok i _).mp h2
  have hl : u.length = i := by simp at hl; omega
  have ysig : ∀ y ∈ Y, ∀ c ∈ y, c ∈ signsL ar := fun y hy c hcy => by
    obtain ⟨x1, x2, rfl⟩ := List.append_of_mem hcy
    exact (mem_signs ok.abc).mpr (lo.mem _ hy).2.2.letter
  have nosuf : ∀ c ∈ signsL ar, ∀ b, b < u.length + 1 → span (u ++ [c]) b (u.length + 1) ∉ Y := fun c hcs => by
    have st : Stretch n ar (u ++ [c]) := Stretch.right ok.inn (t := [a]) (all_signs ok (of_decide_eq_true hg) hcs)
    have f := full (u ++ [c]) ((mem_lv ok i _).mpr ⟨by rw [List.length_append, hl]; rfl, st⟩)
    rw [count_snoc lo.code] at f
    cases q : bwd Y (u ++ [c]) (u.length + 1) with
    | none => exact bwd_non.mp q
    | some x =>
      rw [q, if_neg (fun z => nomatch z)] at f
      omega
  have two : ∀ y ∈ Y, 2 ≤ y.length := fun y hy => by
    have := (lo.mem y hy).1
    match y, hy, this with
    | [c], hy, _ =>
      exfalso
      refine nosuf c (ysig _ hy c List.mem_cons_self) u.length (by omega) ?_
      have : span (u ++ [c]) u.length (u.length + 1) = [c] := by
        unfold span
        rw [List.drop_left, show u.length + 1 - u.length = 1 by omega]
        rfl
      rw [this]
      exact hy
    | _ :: _ :: _, _, _ => simp
  have three : ∀ y ∈ Y, y.length ≤ 3 := fun y hy => (lo.mem y hy).2.1
  have tl : (tails Y u).length ≤ 3 := by
    have := count_tails lo.code u
    omega
  have tin : ∀ p, p ≤ u.length → fwd Y u p = none → p ∈ tails Y u := fun p hp hf => List.mem_filter.mpr ⟨List.mem_range.mpr (by omega), decide_eq_true hf⟩
  have t1 : fwd Y u u.length = none := fwd_non.mpr fun e e1 e2 => by omega
  have t2 : fwd Y u (u.length - 1) = none := fwd_non.mpr fun e e1 e2 hy => by
    have := two _ hy
    rw [span_len (by omega) e2] at this
    omega
  have inner : ∀ p, 1 ≤ p → p + 2 ≤ u.length → fwd Y u p ≠ none := fun p p1 p2 hf => by
    have := nodup_sub (l := [0, p, u.length - 1, u.length]) (m := tails Y u) (by simp; omega) fun x hx => by
      simp at hx
      rcases hx with rfl | rfl | rfl | rfl
      · exact tin _ (by omega) h0
      · exact tin _ (by omega) hf
      · exact tin _ (by omega) t2
      · exact tin _ (by omega) t1
    simp at this
    omega
  have pairs : ∀ j p, 1 ≤ p → p + 2 + j = u.length → span u p (p + 2) ∈ Y := by
    intro j
    induction j with
    | zero =>
      intro p p1 hp
      obtain ⟨e, he⟩ := Option.ne_none_iff_exists'.mp (inner p p1 (by omega))
      have f := fwd_some he
      have := two _ f.2.2
      rw [span_len (by omega) f.2.1] at this
      have : e = p + 2 := by omega
      rw [← this]
      exact f.2.2
    | succ j ih =>
      intro p p1 hp
      obtain ⟨e, he⟩ := Option.ne_none_iff_exists'.mp (inner p p1 (by omega))
      have f := fwd_some he
      have l2 := two _ f.2.2
      have l3 := three _ f.2.2
      rw [span_len (by omega) f.2.1] at l2 l3
      by_cases e2 : e = p + 2
      · rw [← e2]
        exact f.2.2
      · exfalso
        have e3 : e = p + 1 + 2 := by omega
        have ih := ih (p + 1) (by omega) (by omega)
        have key := lo.code.suf _ ih _ f.2.2 (by rw [e3]; exact span_suf (by omega) (by omega))
        have := congrArg List.length key
        rw [span_len (by omega) (by omega), span_len (by omega) f.2.1] at this
        omega
  refine ⟨fun p p1 hp => ?_, fun v z e c hz => ?_⟩
  · have := pairs (u.length - p - 2) p p1 (by omega)
    rwa [span_two hp] at this
  · have hcs := ysig _ hz c (List.mem_cons_of_mem _ List.mem_cons_self)
    subst e
    refine nosuf c hcs v.length (by rw [List.length_append]; show v.length < v.length + 1 + 1; omega) ?_
    have : span (v ++ [z] ++ [c]) v.length ((v ++ [z]).length + 1) = [z, c] := by
      unfold span
      rw [List.append_assoc, List.drop_left, List.length_append]
      have : v.length + [z].length + 1 - v.length = 2 := by
        show v.length + 1 + 1 - v.length = 2
        omega
      rw [this]
      rfl
    rw [this]
    exact hz
def prs (Y : List (List Nat)) : Nat × Nat → Bool := bitE (decide ([97, 97] ∈ Y)) (decide ([97, 98] ∈ Y)) (decide ([97, 99] ∈ Y)) (decide ([98, 97] ∈ Y)) (decide ([98, 98] ∈ Y)) (decide ([98, 99] ∈ Y)) (decide ([99, 97] ∈ Y)) (decide ([99, 98] ∈ Y)) (decide ([99, 99] ∈ Y))
theorem prs_iff (Y : List (List Nat)) {p q : Nat} (hp : ABC p) (hq : ABC q) : prs Y (p, q) = decide ([p, q] ∈ Y) := by
  unfold ABC at hp hq
  simp at hp hq
  rcases hp with rfl | rfl | rfl <;> rcases hq with rfl | rfl | rfl <;> rfl
theorem prs_few {Y : List (List Nat)} (h : Y.length ≤ 3) : (pairs9.filter (prs Y)).length ≤ 3 := by
  refine Nat.le_trans ?_ h
  have n : ((pairs9.filter (prs Y)).map fun p => [p.1, p.2]).Nodup := by
    refine List.pairwise_map.mpr (List.Pairwise.imp (fun {x y} hxy e => hxy ?_) (List.Pairwise.filter _ (by decide : pairs9.Nodup)))
    simp at e
    exact Prod.ext e.1 e.2
  have := nodup_sub n (m := Y) fun x hx => by
    obtain ⟨p, hp, rfl⟩ := List.mem_map.mp hx
    obtain ⟨h1, h2⟩ := List.mem_filter.mp hp
    have h3 : ABC p.1 ∧ ABC p.2 := by
      unfold pairs9 at h1
      unfold ABC
      simp at h1
      rcases h1 with rfl | rfl | rfl | rfl | rfl | rfl | rfl | rfl | rfl <;> simp
    have := prs_iff Y h3.1 h3.2
    rw [h2] at this
    exact of_decide_eq_true this.symm
  rwa [List.length_map] at this
theorem few_rest (ok : WebOk n ar) (lo : Loose n ar 3 3 Y) (h4 : d ≤ 4) (full : ∀ t ∈ lv n ar i, d ≤ countL Y t) (i4 : 4 ≤ i) (i9 : i < 9) : ((wide n ar d Y i).filter fun t => decide (fwd Y t.tail 0 = none)).length ≤ 72 := by
  have w8 : (walks (prs Y) (i - 2)).length ≤ 8 := walks_few _ _ _ _ _ _ _ _ _ (prs_few lo.few) (i - 2) (by
    have : i = 4 ∨ i = 5 ∨ i = 6 ∨ i = 7 ∨ i = 8 := by omega
    rcases this with rfl | rfl | rfl | rfl | rfl <;> simp)
  have nod : ((wide n ar d Y i).filter fun t => decide (fwd Y t.tail 0 = none)).Nodup := List.Pairwise.filter _ (List.Pairwise.filter _ (List.Pairwise.filter _ (lv_asc n ar i).nod))
  have sub := nodup_sub nod (m := [97, 98, 99].flatMap fun a => [97, 98, 99].flatMap fun b => (walks (prs Y) (i - 2)).map fun v => a :: b :: v) fun t ht => by
    obtain ⟨h1, h2⟩ := List.mem_filter.mp ht
    obtain ⟨h3, _⟩ := List.mem_filter.mp h1
    obtain ⟨h5, _⟩ := List.mem_filter.mp h3
    obtain ⟨hl, hs⟩ := (mem_lv ok i t).mp h5
    have abc := abc_of ok hs
    match t, hl with
    | a :: b :: v, hl =>
      have hf : fwd Y (b :: v) 0 = none := of_decide_eq_true h2
      obtain ⟨pp, sk⟩ := rest_shape ok lo h4 full i4 h1 hf
      have lv' : v.length = (i - 2) + 1 := by simp at hl; omega
      obtain ⟨w, z, rfl, hw⟩ := snoc_of lv'
      have az : ABC z := abc z (by simp)
      have aw : ∀ c ∈ w, ABC c := fun c hc => abc c (by simp [hc])
      refine List.mem_flatMap.mpr ⟨a, abc a (by simp), List.mem_flatMap.mpr ⟨b, abc b (by simp), List.mem_map.mpr ⟨w ++ [z], ?_, rfl⟩⟩⟩
      unfold walks
      refine List.mem_flatMap.mpr ⟨z, List.mem_filter.mpr ⟨az, ?_⟩, walksTo_mem _ _ w z hw aw fun j p q hp hq => ?_⟩
      · unfold sink
        refine List.all_eq_true.mpr fun x hx => ?_
        rw [prs_iff Y az hx, decide_eq_false (sk (b :: w) z rfl x)]
        rfl
      · obtain ⟨l1, e1⟩ := List.getElem?_eq_some_iff.mp hp
        obtain ⟨l2, e2⟩ := List.getElem?_eq_some_iff.mp hq
        have := pp (j + 1) (by omega) (by simp at l2 ⊢; omega)
        have e3 : (b :: (w ++ [z]))[j + 1]'(by simp at l2 ⊢; omega) = p := by rw [← e1]; rfl
        have e4 : (b :: (w ++ [z]))[j + 1 + 1]'(by simp at l2 ⊢; omega) = q := by rw [← e2]; rfl
        rw [e3, e4] at this
        have ap : ABC p := abc p (by rw [← e1]; exact List.mem_cons_of_mem _ (List.mem_cons_of_mem _ (List.getElem_mem _)))
        have aq : ABC q := abc q (by rw [← e2]; exact List.mem_cons_of_mem _ (List.mem_cons_of_mem _ (List.getElem_mem _)))
        rw [prs_iff Y ap aq]
        exact decide_eq_true this
    | [_], hl => simp at hl; omega
    | [], hl => simp at hl
  refine Nat.le_trans sub ?_
  simp only [List.flatMap_cons, List.flatMap_nil, List.length_append, List.length_map, List.append_nil]
  omega
/-- the maker's words make a book -/
theorem made_words (ok : WebOk n ar) (lo : Loose n ar 3 3 Y) (h1 : 1 ≤ d) (h4 : d ≤ 4) (hc : ∀ y ∈ Y, countL Y y < d) (m : Made n ar Y d W i) : Words n ar W := by
  refine made_rest ok lo h1 m ?_
  have k := cnt_ok lo.code fun y hy => (lo.mem y hy).1
  have N := m.few i (Nat.le_refl _)
  have A := few_found ok lo h1 m
  have X := few_last k h1 ok m.full
  rw [m.perm.length_eq, List.length_append]
  by_cases i4 : 4 ≤ i
  · have T := few_turn (d := d) (i := i) ok lo m.full
    have R := few_rest ok lo h4 m.full i4 m.i9
    have S := not_len (fun t => decide (fwd Y t.tail 0 = none)) (wide n ar d Y i)
    unfold wide at *
    omega
  · have s1 : (lv n ar i).length ≤ 3 ^ (i + 1) := by
      have := nodup_sub (lv_asc n ar i).nod (m := stretchesL n ar (i + 1)) fun t ht => (mem_stretches ok _ t).mpr ((mem_lv ok i t).mp ht)
      exact Nat.le_trans this (stretches_len ok.abc _)
    have s2 : (3 : Nat) ^ (i + 1) ≤ 3 ^ 4 := Nat.pow_le_pow_right (by decide) (by omega)
    have s3 := List.length_filter_le (fun t => decide (3 ≤ (grow n ar t).length)) (opens n ar d Y i)
    omega
end
end L2.NJ
set_option Elab.async false
set_option linter.all false
set_option maxRecDepth 100000
set_option maxHeartbeats 8000000
namespace L2.NJ
open PySem PySem.Spec PyProof.Rows PySem.W
section
variable {P : Program} {w : World} {K : PySem.W.Frag} {mg : Str → Option Value} {base : Heap}
/-- the shared part of a sorted tuple of texts -/
theorem sorted_tail {K : PySem.W.Frag} {H : Hp} {f : Addr} {Y : List (List Nat)} {Q : VK} (hf : H f = some (.lst (txs Y))) (hn : Y.Nodup) (q : ∀ H' T W, Same H H' → H' T = some (.tup (txs W)) → W.Perm Y → Asc W → Q (.ref T) H') :
    rSortedX K [.ref f] H fun x H1 => rTupOf K [x] H1 Q := by
  obtain ⟨W, pm, asc, es⟩ := sort_txs Y hn
  refine ⟨f, Y.map fun t => (tx t, PyData.str (sx t)), rfl, SqL.of ?_, fun x hx => ?_, (by rw [List.map_map]; exact AllAlike.of fun a b => by simp [alike]), (by rw [List.map_map]; exact Sortable.others fun a => ⟨fun z => (nomatch z), fun xs z => (nomatch z)⟩), fun x hx => ?_, fun ys g2 ey ng2 => ?_⟩
  · rw [hf, List.map_map]
    rfl
  · obtain ⟨t, _, rfl⟩ := List.mem_map.mp hx
    exact .str _
  · obtain ⟨t, _, rfl⟩ := List.mem_map.mp hx
    simp [PyData.depth]
  · rw [es] at ey
    subst ey
    refine ⟨g2, _, rfl, .inl ⟨SqL.of upd_same, fun T nT => ?_⟩⟩
    refine q _ T W ((same_upd ng2).trans (same_upd nT)) ?_ pm asc
    rw [upd_same, List.map_map]
    rfl
def spLot : Sp := fun vs H Q _ => ∃ (h hc p : Addr) (n : Nat) (B : Addr) (zs : List (Addr × Ar)) (d : Int), vs = [.ref h, .ref p, .int d] ∧ HandAt H h hc ∧ PartsAt H p n B zs ∧ WebOk n (zs.map (·.2)) ∧
  ∀ H' T Y, HandAt H' h hc → SB h H H' → H' T = some (.tup (txs Y)) → Loose n (zs.map (·.2)) 3 3 Y → Asc Y → Q (.ref T) H'
theorem sc__law_lot : FnScope ["_law_hand_here", "_law_parts", "_law_number", "_law_found", "_law_turn", "_law_text"] ["_law_hand_here", "_law_parts", "_law_number"] dd50.scope := ⟨rfl, rfl, rfl, by decide +kernel, rfl, by decide +kernel, by decide +kernel⟩
theorem ok__law_lot (T : Fx K mg) : DOk P w K mg base 4 (He.ga K "_law_lot") ["_law_hand_here", "_law_parts", "_law_number"] spLot := by
  refine DOk.of (d := dd50) T 50 rfl rfl sc__law_lot (fun _ _ _ _ _ _ us hl => match us, hl with | [_, _, _], _ => rfl) (fun vs H Q E h => ?_) (fun f cdv A outer s H vs Q E hr h => ?_)
  · obtain ⟨_, _, _, _, _, _, _, rfl, _⟩ := h
    rfl
  · have nd := sc__law_lot.nd
    have hu := hu_of hr
    obtain ⟨h, hc, p, n, B, zs, d, rfl, hk, pa, ok, q⟩ := h
    refine ⟨_, (pss_cons (ps_set (i := 3) nd rfl (Or.inl rfl) (pe_lst pa_nil))
      (pss_cons (ps_for PassesOwn.never rfl (pi_range1 (by rfl) T.f_range (pa_cons (pe_c (ok__law_draw T) hr T.g__law_draw (by rfl) (pa_cons (pv 0) (pa_cons (pe_int) pa_nil))) pa_nil)) (pg_name (i := 4) nd rfl (Or.inl rfl))
        (pss_cons (ps_set (i := 5) nd rfl (Or.inl rfl) (pe_c (ok__law_some T) hr T.g__law_some (by rfl) (pa_cons (pv 0) (pa_cons (pe_c (ok__law_stretches T) hr T.g__law_stretches (by rfl) (pa_cons (pv 1) (pa_cons (pe_op op_add (pe_int) (pe_c (ok__law_draw T) hr T.g__law_draw (by rfl) (pa_cons (pv 0) (pa_cons (pe_int) pa_nil)))) pa_nil))) pa_nil))))
        (pss_one (ps_if (PW.pt (pw_and (pt_cmpR (opNotIn K) (pv 5) (pv 3) rfl) (pw_and1 (pt_val (pe_c (ok__law_fits T) hr T.g__law_fits (by rfl) (pa_cons (pv 3) (pa_cons (pv 5) pa_nil)))))))
          (pss_one (ps_expr (pe_bm PySem.F.plainAttrs_list PySem.F.slot_list_append PySem.F.type_list_append mt_append (pv 3) (pa_cons (pv 5) pa_nil))))
          pss_nil))))
      (pss_one (ps_ret (pe_callTy (ctupOf K) (by rfl) T.f_tuple (by decide +kernel) (pa_cons (pe_callB (cr_sortedX hr.units) (by rfl) T.f_sorted (by decide +kernel) (pa_cons (pv 3) pa_nil)) pa_nil)))))), ?_⟩
    have n4 := ok.n4
    have lz : zs.length ≤ 60 := by have := ok.few; rwa [List.length_map] at this
    have az : LetAt zs := fun z hz => ok.abc z.2 (List.mem_map.mpr ⟨z, hz, rfl⟩)
    refine ⟨Nat.zero_le _, fun f nf => ?_⟩
    have ff := hk.fresh nf
    have s0 : Same H (upd H f (.lst [])) := same_upd nf
    refine ⟨.ref h, rfl, h, hc, 4, rfl, hk.same s0, by decide, by decide, fun H1 m hm hk1 sb1 => ⟨_, rfl, by omega, by omega, ?_⟩⟩
    have em : ((m : Int)).toNat = m := by omega
    rw [em]
    refine for_range (fun i σ H2 => ∃ (Y : List (List Nat)) (y4 y5 : Option V), σ = [some (.ref h), some (.ref p), some (.int d), some (.ref f), y4, y5] ∧ SB h H H2 ∧ HandAt H2 h hc ∧ H2 f = some (.lst (txs Y)) ∧ Loose n (zs.map (·.2)) 3 i Y)
      ⟨[], none, none, rfl, (SB.of s0).trans sb1, hk1, sb1 _ _ ff.1.symm upd_same, Loose.nil _ _ _⟩ (fun i σ H2 hi ⟨Y, y4, y5, es, sb, hk2, hf, lo⟩ => ?_) (fun σ H2 ⟨Y, y4, y5, es, sb, hk2, hf, lo⟩ => ?_)
    · subst es
      refine ⟨.ref h, rfl, .ref p, rfl, .ref h, rfl, h, hc, 3, rfl, hk2, by decide, by decide, fun H3 e he hk3 sb3 => ⟨_, _, rfl, rfl, ?_⟩⟩
      have sb3' := sb.trans sb3
      refine ⟨p, n, B, zs, 1 + e, congrArg (fun z : Int => [V.ref p, V.int z]) (by omega), pa.sb hk sb3', n4, lz, az, by omega, fun H4 l s4 nl hl => ?_⟩
      have hk4 := hk3.same s4
      have lh : l ≠ h := ((hk3.fresh nl).1).symm
      have lp := stretches_pos ok (1 + e)
      have lb := stretches_len (n := n) ok.abc (1 + e)
      have lc : (3 : Nat) ^ (1 + e) ≤ 3 ^ 3 := Nat.pow_le_pow_right (by decide) (by omega)
      refine ⟨h, hc, l, txs (stretchesL n (zs.map (·.2)) (1 + e)), rfl, hk4, SqL.of hl, lh, ⟨_, hl⟩, by rw [txs_len]; exact lp, by rw [txs_len]; omega, fun H5 x hx hk5 sb5 => ?_⟩
      obtain ⟨t, ht, rfl⟩ := List.mem_map.mp hx
      have tm := (mem_stretches ok _ t).mp ht
      have sb5' := sb3'.trans ((SB.of s4).trans sb5)
      have hf5 := sb5 _ _ ff.1.symm (s4 _ _ (sb3 _ _ ff.1.symm hf))
      have lo1 := lo.few
      refine ⟨_, rfl, .ref f, rfl, f, txs Y, rfl, .inl (SqL.of hf5), rfl, txs_flat Y, ?_⟩
      have e1 : (if true = true then !inV (tx t) (txs Y) else inV (tx t) (txs Y)) = !decide (t ∈ Y) := by rw [if_pos rfl, inV_txs]
      refine ⟨_, congrArg V.bl e1, ?_⟩
      by_cases c : t ∈ Y
      · rw [decide_eq_true c]
        exact iteF (iteF ⟨Y, _, _, rfl, sb5', hk5, hf5, lo.mono (by omega)⟩)
      · rw [decide_eq_false c]
        refine iteT ⟨.ref f, rfl, _, rfl, f, Y, t, rfl, hf5, by omega, fun w hw => by have := (lo.mem w hw).2.1; omega, by omega, fun H6 s6 => ⟨_, rfl, ?_⟩⟩
        have hf6 := s6 _ _ hf5
        cases hw : fitsL Y t with
        | false => exact iteF ⟨Y, _, _, rfl, sb5'.trans (.of s6), hk5.same s6, hf6, lo.mono (by omega)⟩
        | true =>
          refine iteT ⟨.ref f, rfl, .inl ⟨rfl, _, .inl (.inl hf6)⟩, _, rfl, f, _, _, rfl, rfl, hf6, fits1 (by rw [txs_len]; omega), Y ++ [t], _, _, rfl, fun b o n1 e1 => ?_, (hk5.same s6).upd ff.1 ff.2, ?_, lo.add (by omega) tm.2 c hw⟩
          · rw [upd_ne (ne_of_none e1 nf)]
            exact s6 _ _ (sb5' _ _ n1 e1)
          · rw [upd_same]
            unfold txs
            rw [List.map_append]
            rfl
    · subst es
      refine ⟨_, rfl, sorted_tail hf lo.nod fun H' T W s hT pm asc => q _ T W (hk2.same s) (sb.trans (.of s)) hT ((lo.mono (by omega)).perm pm) asc⟩
def spFull (K : PySem.W.Frag) : Sp := fun vs H Q _ => ∃ (h hc p : Addr) (n : Nat) (B : Addr) (zs : List (Addr × Ar)), vs = [.ref h, .ref p] ∧ HandAt H h hc ∧ PartsAt H p n B zs ∧ WebOk n (zs.map (·.2)) ∧
  ∀ H' F T W (d : Int), HandAt H' h hc → SB h H H' → H' F = some (.tup [.int d, .ref T]) → H' T = some (.tup (txs W)) → Words n (zs.map (·.2)) W → Asc W → Q (.ref F) H'
theorem sc__law_full : FnScope ["_law_hand_here", "_law_parts", "_law_number", "_law_lot_here", "_law_text", "_law_found"] ["_law_hand_here", "_law_parts"] dd51.scope := ⟨rfl, rfl, rfl, by decide +kernel, rfl, by decide +kernel, by decide +kernel⟩
theorem ok__law_full (T : Fx K mg) : DOk P w K mg base 5 (He.ga K "_law_full") ["_law_hand_here", "_law_parts"] (spFull K) := by
  refine DOk.of (d := dd51) T 51 rfl rfl sc__law_full (fun _ _ _ _ _ _ us hl => match us, hl with | [_, _], _ => rfl) (fun vs H Q E h => ?_) (fun f cdv A outer s H vs Q E hr h => ?_)
  · obtain ⟨_, _, _, _, _, _, rfl, _⟩ := h
    rfl
  · have nd := sc__law_full.nd
    have hu := hu_of hr
    obtain ⟨h, hc, p, n, B, zs, rfl, hk, pa, ok, q⟩ := h
    refine ⟨_, (pss_cons (ps_set (i := 2) nd rfl (Or.inr rfl) (pe_ix (ixL K) (pe_lst (pa_cons (pe_int) (pa_cons (pe_int) (pa_cons (pe_int) (pa_cons (pe_int) (pa_cons (pe_int) (pa_cons (pe_int) pa_nil))))))) (pe_c (ok__law_draw T) hr T.g__law_draw (by rfl) (pa_cons (pv 0) (pa_cons (pe_int) pa_nil))) (fun _ _ => rfl)))
      (pss_cons (ps_set (i := 3) nd rfl (Or.inr rfl) (pe_c (ok__law_lot T) hr T.g__law_lot (by rfl) (pa_cons (pv 0) (pa_cons (pv 1) (pa_cons (pv 2) pa_nil)))))
      (pss_cons (ps_if (pt_val (pe_callB (crAll K) (by rfl) T.f_all (by decide +kernel) (pa_cons (pe_lc (own := [("_law_text", 4)]) rfl nd (piT K (pv 3)) (blkOk_by (N := ["_law_hand_here", "_law_parts", "_law_number", "_law_lot_here", "_law_text", "_law_found"]) (sc := dd51.scope) (by decide +kernel)) (fun _ _ _ _ _ => (pg_name (i := 4) nd rfl (Or.inl rfl))) (fun _ _ _ _ _ => pts_nil) (fun _ _ _ _ _ => (pe_cmpR op_lt (pe_c (ok__law_count T) hr T.g__law_count (by rfl) (pa_cons (pv 3) (pa_cons (pv 4) pa_nil))) (pv 2) (nomark _)))) pa_nil)))
        (pss_cons (ps_set (i := 5) nd rfl (Or.inl rfl) (pe_c (ok__law_made T) hr T.g__law_made (by rfl) (pa_cons (pv 1) (pa_cons (pv 3) (pa_cons (pv 2) pa_nil)))))
        (pss_one (ps_if (pt_cmp (pc_notN (pv 5)))
          (pss_one (ps_ret (pe_tup (pa_cons (pv 2) (pa_cons (pv 5) pa_nil)))))
          pss_nil)))
        pss_nil)
      (pss_cons (ps_set (i := 2) nd rfl (Or.inr rfl) (pe_callB (call_min2 rfl) (by rfl) T.f_min (by decide +kernel) (pa_cons (pv 2) (pa_cons (pe_int) pa_nil))))
      (pss_one (ps_ret (pe_tup (pa_cons (pv 2) (pa_cons (pe_callTy (ctupOf K) (by rfl) T.f_tuple (by decide +kernel) (pa_cons (pe_c (ok__law_stretches T) hr T.g__law_stretches (by rfl) (pa_cons (pv 1) (pa_cons (pv 2) pa_nil))) pa_nil)) pa_nil))))))))), ?_⟩
    have n4 := ok.n4
    have lz : zs.length ≤ 60 := by have := ok.few; rwa [List.length_map] at this
    have az : LetAt zs := fun z hz => ok.abc z.2 (List.mem_map.mpr ⟨z, hz, rfl⟩)
    refine ⟨Nat.le_of_ble_eq_true rfl, fun l nl => ?_⟩
    have lf := hk.fresh nl
    have s0 : Same H (upd H l (.lst (nums [1, 2, 2, 3, 3, 4]))) := same_upd nl
    refine ⟨.ref h, rfl, h, hc, 6, rfl, hk.same s0, by decide, by decide, fun H1 d hd hk1 sb1 => ?_⟩
    obtain ⟨nm, hn, n1, nm4⟩ : ∃ m : Nat, (nums [1, 2, 2, 3, 3, 4])[d]? = some (.int (m : Nat)) ∧ 1 ≤ m ∧ m ≤ 4 := by
      match d, hd with
      | 0, _ => exact ⟨1, rfl, by decide, by decide⟩
      | 1, _ => exact ⟨2, rfl, by decide, by decide⟩
      | 2, _ => exact ⟨2, rfl, by decide, by decide⟩
      | 3, _ => exact ⟨3, rfl, by decide, by decide⟩
      | 4, _ => exact ⟨3, rfl, by decide, by decide⟩
      | 5, _ => exact ⟨4, rfl, by decide, by decide⟩
    refine ⟨l, nums [1, 2, 2, 3, 3, 4], (d : Int), .int (nm : Nat), rfl, rfl, SqL.of (sb1 _ _ lf.1.symm upd_same), atI_nat hn, ?_⟩
    have sb1' : SB h H H1 := (SB.of s0).trans sb1
    refine ⟨.ref h, rfl, .ref p, rfl, _, rfl, h, hc, p, n, B, zs, (nm : Int), rfl, hk1, pa.sb hk sb1', ok, fun H2 A Y hk2 sb2 hA lo ascY => ?_⟩
    have sb2' := sb1'.trans sb2
    have pa2 := pa.sb hk sb2'
    have fewY := lo.few
    dsimp only [gName]
    refine split (A := tIfS _ _ _) (fun σ' H' => ∃ y4 y5, σ' = [some (.ref h), some (.ref p), some (.int (nm : Nat)), some (.ref A), y4, y5] ∧ Same H2 H') (fun σ' H' ⟨y4, y5, es, s3⟩ => ?_) (fun nxt key => ?_)
    · subst es
      refine ⟨_, rfl, (nm : Int), 3, rfl, ?_⟩
      obtain ⟨k, ek, k1, k3⟩ : ∃ k : Nat, (if (3 : Int) < (nm : Int) then (3 : Int) else (nm : Int)) = (k : Int) ∧ 1 ≤ k ∧ k ≤ 3 := by
        by_cases c : (3 : Int) < (nm : Int)
        · rw [if_pos c]
          exact ⟨3, rfl, by decide, by decide⟩
        · rw [if_neg c]
          exact ⟨nm, rfl, n1, by omega⟩
      rw [ek]
      refine ⟨_, rfl, .ref p, rfl, _, rfl, p, n, B, zs, k, rfl, pa2.same s3, n4, lz, az, by omega, fun H4 l4 s4 _ hl4 => ?_⟩
      refine ⟨l4, _, rfl, .inl ⟨SqL.of hl4, fun T nT => ⟨Nat.le_of_ble_eq_true rfl, fun F nF => ?_⟩⟩⟩
      have s5 := (s3.trans s4).trans ((same_upd (o := .tup (txs (stretchesL n (zs.map (·.2)) k))) nT).trans (same_upd (o := .tup [.int (k : Nat), .ref T]) nF))
      exact q _ F T _ (k : Int) (hk2.same s5) (sb2'.trans (.of s5)) upd_same ((same_upd nF) _ _ upd_same) (stretches_words ok k1 k3) (stretches_asc n _ k)
    · refine ⟨.ref A, rfl, A, rfl, ⟨_, SqT.of hA⟩, fun D hD => ?_⟩
      refine lc_map Y (Walk.len (walk_tup (xs := txs Y)) (by rw [txs_len])) (by omega) hD (fun H3 sm => SqT.of (sm _ _ hA)) (fun t => .bl (decide (countL Y t < nm))) (fun i z x H3 H3' Ny ez sm ny y => ?_) (fun H3 s3 hd3 => ?_)
      · obtain ⟨rfl, ex⟩ := y
        obtain ⟨t, et, rfl⟩ := txs_get ex
        rw [ez] at et
        cases et
        have := (lo.mem z (List.mem_of_getElem? ez)).2.1
        exact ⟨rfl, .ref A, rfl, _, rfl, A, Y, z, rfl, sm _ _ hA, by omega, fun H4 s4 => ⟨_, rfl, _, _, rfl, rfl, ny _ s4⟩⟩
      · refine ⟨D, Y.map fun t => decide (countL Y t < nm), rfl, .inl (.inl ?_), _, rfl, ?_⟩
        · rw [hd3, List.map_map]
          rfl
        cases hb : (Y.map fun t => decide (countL Y t < nm)).all id with
        | false => exact iteF (key _ _ ⟨_, _, rfl, s3⟩)
        | true =>
          have all : ∀ y ∈ Y, countL Y y < nm := fun y hy => by
            have := List.all_eq_true.mp hb (decide (countL Y y < nm)) (List.mem_map.mpr ⟨y, hy, rfl⟩)
            exact of_decide_eq_true this
          refine iteT ⟨.ref p, rfl, .ref A, rfl, _, rfl, p, n, B, zs, A, Y, (nm : Int), rfl, pa2.same s3, n4, lz, az, s3 _ _ hA, fun H4 s4 => ?_, fun H4 T W i s4 hT mk => ?_⟩
          · exact ⟨_, rfl, false, rfl, iteF (key _ _ ⟨_, _, rfl, s3.trans s4⟩)⟩
          · refine ⟨_, rfl, true, rfl, iteT ⟨_, rfl, _, rfl, Nat.le_of_ble_eq_true rfl, fun F nF => ?_⟩⟩
            have s5 := (s3.trans s4).trans (same_upd (o := .tup [.int (nm : Nat), .ref T]) nF)
            exact q _ F T W (nm : Int) (hk2.same s5) (sb2'.trans (.of s5)) upd_same ((same_upd nF) _ _ hT) (made_words ok lo (by omega) (by omega) all mk) mk.asc
end
end L2.NJ
set_option Elab.async false
set_option linter.all false
set_option maxRecDepth 100000
set_option maxHeartbeats 8000000
namespace L2.NJ
open PySem PySem.Spec PyProof.Rows PySem.W
section
variable {P : Program} {w : World} {K : PySem.W.Frag} {mg : Str → Option Value} {base : Heap}
def spWords : Sp := fun vs H Q _ => ∃ (h hc p : Addr) (n : Nat) (B : Addr) (zs : List (Addr × Ar)), vs = [.ref h, .ref p] ∧ HandAt H h hc ∧ PartsAt H p n B zs ∧ WebOk n (zs.map (·.2)) ∧
  ∀ H' T W, HandAt H' h hc → SB h H H' → H' T = some (.tup (txs W)) → Words n (zs.map (·.2)) W → Q (.ref T) H'
theorem sc__law_words : FnScope ["_law_hand_here", "_law_parts", "_law_kind", "_law_words_here", "_law_word", "_law_found", "_law_turn", "_law_text"] ["_law_hand_here", "_law_parts"] dd52.scope := ⟨rfl, rfl, rfl, by decide +kernel, rfl, by decide +kernel, by decide +kernel⟩
theorem ok__law_words (T : Fx K mg) : DOk P w K mg base 6 (He.ga K "_law_words") ["_law_hand_here", "_law_parts"] spWords := by
  refine DOk.of (d := dd52) T 52 rfl rfl sc__law_words (fun _ _ _ _ _ _ us hl => match us, hl with | [_, _], _ => rfl) (fun vs H Q E h => ?_) (fun f cdv A outer s H vs Q E hr h => ?_)
  · obtain ⟨_, _, _, _, _, _, rfl, _⟩ := h
    rfl
  · have nd := sc__law_words.nd
    have hu := hu_of hr
    obtain ⟨h, hc, p, n, B, zs, rfl, hk, pa, ok, q⟩ := h
    refine ⟨_, (pss_cons (ps_set (i := 2) nd rfl (Or.inr rfl) (pe_c (ok__law_draw T) hr T.g__law_draw (by rfl) (pa_cons (pv 0) (pa_cons (pe_int) pa_nil))))
      (pss_cons (ps_set (i := 3) nd rfl (Or.inl rfl) (pe_ix (ixT K) (pe_c (ok__law_full T) hr T.g__law_full (by rfl) (pa_cons (pv 0) (pa_cons (pv 1) pa_nil))) (pe_int) (fun _ _ => rfl)))
      (pss_cons (ps_if (pt_cmpR op_eq (pv 2) (pe_int) (nomark _))
        (pss_one (ps_ret (pv 3)))
        pss_nil)
      (pss_cons (ps_if (pt_cmpR op_lt (pv 2) (pe_int) (nomark _))
        (pss_one (ps_ret (pe_callTy (ctupOf K) (by rfl) T.f_tuple (by decide +kernel) (pa_cons (pe_lc (own := [("_law_word", 4)]) rfl nd (piT K (pv 3)) (blkOk_by (N := ["_law_hand_here", "_law_parts", "_law_kind", "_law_words_here", "_law_word", "_law_found", "_law_turn", "_law_text"]) (sc := dd52.scope) (by decide +kernel)) (fun _ _ _ _ _ => (pg_name (i := 4) nd rfl (Or.inl rfl))) (fun _ _ _ _ _ => pts_one (pt_cmpR op_gt (pe_c (ok__law_draw T) hr T.g__law_draw (by rfl) (pa_cons (pv 0) (pa_cons (pe_op op_add (pe_int) (pv 2)) pa_nil))) (pe_int) (nomark _))) (fun _ _ _ _ _ => (pv 4))) pa_nil))))
        pss_nil)
      (pss_cons (ps_set (i := 5) nd rfl (Or.inl rfl) (pe_lst pa_nil))
      (pss_cons (ps_for PassesOwn.never rfl (pi_range1 (by rfl) T.f_range (pa_cons (pe_c (ok__law_draw T) hr T.g__law_draw (by rfl) (pa_cons (pv 0) (pa_cons (pe_int) pa_nil))) pa_nil)) (pg_name (i := 6) nd rfl (Or.inl rfl))
        (pss_cons (ps_set (i := 7) nd rfl (Or.inl rfl) (pe_c (ok__law_some T) hr T.g__law_some (by rfl) (pa_cons (pv 0) (pa_cons (pe_c (ok__law_stretches T) hr T.g__law_stretches (by rfl) (pa_cons (pv 1) (pa_cons (pe_op op_add (pe_int) (pe_c (ok__law_draw T) hr T.g__law_draw (by rfl) (pa_cons (pv 0) (pa_cons (pe_int) pa_nil)))) pa_nil))) pa_nil))))
        (pss_one (ps_if (PW.pt (pw_and (pt_cmpR (opNotIn K) (pv 7) (pv 5) rfl) (pw_and1 (pt_val (pe_c (ok__law_fits T) hr T.g__law_fits (by rfl) (pa_cons (pv 5) (pa_cons (pv 7) pa_nil)))))))
          (pss_one (ps_expr (pe_bm PySem.F.plainAttrs_list PySem.F.slot_list_append PySem.F.type_list_append mt_append (pv 5) (pa_cons (pv 7) pa_nil))))
          pss_nil))))
      (pss_one (ps_ret (pe_callTy (ctupOf K) (by rfl) T.f_tuple (by decide +kernel) (pa_cons (pe_callB (cr_sortedX hr.units) (by rfl) T.f_sorted (by decide +kernel) (pa_cons (pv 5) pa_nil)) pa_nil)))))))))), ?_⟩
    have n4 := ok.n4
    have lz : zs.length ≤ 60 := by have := ok.few; rwa [List.length_map] at this
    have az : LetAt zs := fun z hz => ok.abc z.2 (List.mem_map.mpr ⟨z, hz, rfl⟩)
    refine ⟨.ref h, rfl, h, hc, 4, rfl, hk, by decide, by decide, fun H1 kd hkd hk1 sb1 => ?_⟩
    refine ⟨.ref h, rfl, .ref p, rfl, h, hc, p, n, B, zs, rfl, hk1, pa.sb hk sb1, ok, fun H2 F T W d hk2 sb2 hF hT wd asc => ?_⟩
    have sb2' := sb1.trans sb2
    have few := wd.few
    refine ⟨F, _, (1 : Nat), _, rfl, rfl, SqT.of hF, tup_at rfl, ?_⟩
    refine ⟨_, rfl, rfl, ?_⟩
    by_cases c0 : kd = 0
    · exact ⟨true, bl_t (by rw [c0]; rfl), iteT ⟨_, rfl, q _ T W hk2 sb2' hT wd⟩⟩
    refine ⟨false, bl_f (fun z => c0 (by have := V.int.inj z; omega)), iteF ?_⟩
    refine ⟨_, rfl, _, _, rfl, rfl, ?_⟩
    by_cases c3 : kd < 3
    · refine ⟨true, bl_t (by omega), iteT ?_⟩
      refine ⟨.ref T, rfl, T, rfl, ⟨_, SqT.of hT⟩, fun D hD => ?_⟩
      have fD := hk2.fresh hD
      have TD : T ≠ D := ne_of_none hT hD
      refine lc_it (Walk.len (walk_tup (xs := txs W)) (txs_len W)) (fun i H3 => SB h (upd H2 D (.lst [])) (upd H3 D (.lst [])) ∧ HandAt H3 h hc ∧ H3 T = some (.tup (txs W)) ∧ ∃ acc : List (List Nat), H3 D = some (.lst (txs acc)) ∧ acc.Sublist (W.take i))
        ⟨fun b o _ e => by rw [upd_upd]; exact e, hk2.upd fD.1 fD.2, by rw [upd_ne TD]; exact hT, [], upd_same, List.nil_sublist _⟩ (fun i H3 _ ⟨_, _, h3, _⟩ => SqT.of h3) (fun i x H3 H3' hi ⟨sb3, hk3, hT3, acc, hd3, sl⟩ y => ?_) (fun H3 ⟨sb3, hk3, hT3, acc, hd3, sl⟩ => ?_)
      · obtain ⟨rfl, ex⟩ := y
        obtain ⟨t, et, rfl⟩ := txs_get ex
        have la : acc.length ≤ 400 := by
          have := sl.length_le
          rw [List.length_take] at this
          omega
        refine ⟨rfl, .ref h, rfl, _, rfl, _, _, rfl, rfl, h, hc, 2 + kd, congrArg (fun z : Int => [V.ref h, V.int z]) (by omega), hk3, by omega, by omega, fun H4 e he hk4 sb4 => ⟨_, _, rfl, rfl, ?_⟩⟩
        have sb5 : SB h (upd H2 D (.lst [])) (upd H4 D (.lst [])) := fun b o n1 e1 => by
          have h1 := sb3 _ _ n1 e1
          by_cases z : b = D
          · rw [z, upd_same] at h1 ⊢
            exact h1
          · rw [upd_ne z] at h1 ⊢
            exact sb4 _ _ n1 h1
        have tk : W.take (i + 1) = W.take i ++ [t] := by rw [List.take_add_one, et]; rfl
        have hd4 := sb4 _ _ fD.1.symm hd3
        have hT4 := sb4 _ _ (hk3.ne hT3 fun _ z => nomatch z) hT3
        by_cases c : 0 < e
        · refine ⟨true, bl_t (by omega), iteT ⟨_, rfl, _, hd4, fits1 (by rw [txs_len]; omega), fun b o n1 e1 => ?_, hk4.upd fD.1 fD.2, by rw [upd_ne TD]; exact hT4, acc ++ [t], ?_, ?_⟩⟩
          · rw [upd_upd]
            exact sb5 _ _ n1 e1
          · rw [upd_same]
            unfold txs
            rw [List.map_append]
            rfl
          · rw [tk]
            exact List.Sublist.append sl (List.Sublist.refl _)
        · refine ⟨false, bl_f (by omega), iteF ⟨sb5, hk4, hT4, acc, hd4, ?_⟩⟩
          rw [tk]
          exact sl.trans (List.sublist_append_left _ _)
      · rw [List.take_length] at sl
        refine ⟨D, _, rfl, .inl ⟨SqL.of hd3, fun T2 nT2 => ?_⟩⟩
        have sbx : SB h H2 H3 := fun b o n1 e1 => by
          have hb : b ≠ D := ne_of_none e1 hD
          have := sb3 b o n1 (by rw [upd_ne hb]; exact e1)
          rwa [upd_ne hb] at this
        exact q _ T2 acc (hk3.same (same_upd nT2)) (sb2'.trans (sbx.trans (.of (same_upd nT2)))) upd_same (wd.sub asc sl)
    refine ⟨false, bl_f (by omega), iteF ⟨Nat.zero_le _, fun f nf => ?_⟩⟩
    have ff := hk2.fresh nf
    have nfH : H f = none := sb2'.free hk2.some nf
    have s0 : Same H2 (upd H2 f (.lst [])) := same_upd nf
    refine ⟨.ref h, rfl, h, hc, 8, rfl, hk2.same s0, by decide, by decide, fun H3 m hm hk3 sb3 => ⟨_, rfl, by omega, by omega, ?_⟩⟩
    have em : ((m : Int)).toNat = m := by omega
    rw [em]
    refine for_range (fun i σ H3 => ∃ (Y : List (List Nat)) (y6 y7 : Option V), σ = [some (.ref h), some (.ref p), some (.int (kd : Nat)), some (.ref T), none, some (.ref f), y6, y7] ∧ SB h H H3 ∧ HandAt H3 h hc ∧ H3 f = some (.lst (txs Y)) ∧ Loose n (zs.map (·.2)) 5 i Y)
      ⟨[], none, none, rfl, sb2'.trans ((SB.of s0).trans sb3), hk3, sb3 _ _ ff.1.symm upd_same, Loose.nil _ _ _⟩ (fun i σ H2 hi ⟨Y, y4, y5, es, sb, hk2, hf, lo⟩ => ?_) (fun σ H2 ⟨Y, y4, y5, es, sb, hk2, hf, lo⟩ => ?_)
    · subst es
      refine ⟨.ref h, rfl, .ref p, rfl, .ref h, rfl, h, hc, 5, rfl, hk2, by decide, by decide, fun H3 e he hk3 sb3 => ⟨_, _, rfl, rfl, ?_⟩⟩
      have sb3' := sb.trans sb3
      refine ⟨p, n, B, zs, 1 + e, congrArg (fun z : Int => [V.ref p, V.int z]) (by omega), pa.sb hk sb3', n4, lz, az, by omega, fun H4 l s4 nl hl => ?_⟩
      have hk4 := hk3.same s4
      have lh : l ≠ h := ((hk3.fresh nl).1).symm
      have lp := stretches_pos ok (1 + e)
      have lb := stretches_len (n := n) ok.abc (1 + e)
      have lc : (3 : Nat) ^ (1 + e) ≤ 3 ^ 5 := Nat.pow_le_pow_right (by decide) (by omega)
      refine ⟨h, hc, l, txs (stretchesL n (zs.map (·.2)) (1 + e)), rfl, hk4, SqL.of hl, lh, ⟨_, hl⟩, by rw [txs_len]; exact lp, by rw [txs_len]; omega, fun H5 x hx hk5 sb5 => ?_⟩
      obtain ⟨t, ht, rfl⟩ := List.mem_map.mp hx
      have tm := (mem_stretches ok _ t).mp ht
      have sb5' := sb3'.trans ((SB.of s4).trans sb5)
      have hf5 := sb5 _ _ ff.1.symm (s4 _ _ (sb3 _ _ ff.1.symm hf))
      have lo1 := lo.few
      refine ⟨_, rfl, .ref f, rfl, f, txs Y, rfl, .inl (SqL.of hf5), rfl, txs_flat Y, ?_⟩
      have e1 : (if true = true then !inV (tx t) (txs Y) else inV (tx t) (txs Y)) = !decide (t ∈ Y) := by rw [if_pos rfl, inV_txs]
      refine ⟨_, congrArg V.bl e1, ?_⟩
      by_cases c : t ∈ Y
      · rw [decide_eq_true c]
        exact iteF (iteF ⟨Y, _, _, rfl, sb5', hk5, hf5, lo.mono (by omega)⟩)
      · rw [decide_eq_false c]
        refine iteT ⟨.ref f, rfl, _, rfl, f, Y, t, rfl, hf5, by omega, fun w hw => by have := (lo.mem w hw).2.1; omega, by omega, fun H6 s6 => ⟨_, rfl, ?_⟩⟩
        have hf6 := s6 _ _ hf5
        cases hw : fitsL Y t with
        | false => exact iteF ⟨Y, _, _, rfl, sb5'.trans (.of s6), hk5.same s6, hf6, lo.mono (by omega)⟩
        | true =>
          refine iteT ⟨.ref f, rfl, .inl ⟨rfl, _, .inl (.inl hf6)⟩, _, rfl, f, _, _, rfl, rfl, hf6, fits1 (by rw [txs_len]; omega), Y ++ [t], _, _, rfl, fun b o n1 e1 => ?_, (hk5.same s6).upd ff.1 ff.2, ?_, lo.add (by omega) tm.2 c hw⟩
          · rw [upd_ne (ne_of_none e1 nfH)]
            exact s6 _ _ (sb5' _ _ n1 e1)
          · rw [upd_same]
            unfold txs
            rw [List.map_append]
            rfl
    · subst es
      refine ⟨_, rfl, sorted_tail hf lo.nod fun H' T W s hT pm asc => q _ T W (hk2.same s) (sb.trans (.of s)) hT (((lo.mono (m' := 7) (by omega)).perm pm).words ok (by decide) (by decide) asc)⟩
def spLWalk (K : PySem.W.Frag) : Sp := fun vs H Q _ => ∃ (h hc p : Addr) (n : Nat) (B : Addr) (zs : List (Addr × Ar)) (k : Nat), vs = [.ref h, .ref p, .int ((k : Nat) : Int)] ∧ HandAt H h hc ∧ PartsAt H p n B zs ∧ WebOk n (zs.map (·.2)) ∧ k ≤ 1000 ∧
  ∀ H' t, HandAt H' h hc → SB h H H' → t.length = k → Stretch n (zs.map (·.2)) t → Q (tx t) H'
theorem sc__law_walk : FnScope ["_law_hand_here", "_law_parts", "_law_length", "_law_point", "_law_text", "_law_turn", "_law_arrow", "_law_one"] ["_law_hand_here", "_law_parts", "_law_length"] dd53.scope := ⟨rfl, rfl, rfl, by decide +kernel, rfl, by decide +kernel, by decide +kernel⟩
theorem ok__law_walk (T : Fx K mg) : DOk P w K mg base 3 (He.ga K "_law_walk") ["_law_hand_here", "_law_parts", "_law_length"] (spLWalk K) := by
  refine DOk.of (d := dd53) T 53 rfl rfl sc__law_walk (fun _ _ _ _ _ _ us hl => match us, hl with | [_, _, _], _ => rfl) (fun vs H Q E h => ?_) (fun f cdv A outer s H vs Q E hr h => ?_)
  · obtain ⟨_, _, _, _, _, _, _, rfl, _⟩ := h
    rfl
  · have nd := sc__law_walk.nd
    have hu := hu_of hr
    obtain ⟨h, hc, p, n, B, zs, k, rfl, hk, pa, ok, lk, q⟩ := h
    refine ⟨_, (pss_cons (ps_set (i := 3) nd rfl (Or.inr rfl) (pe_c (ok__law_draw T) hr T.g__law_draw (by rfl) (pa_cons (pv 0) (pa_cons (pe_ix (ixT K) (pv 1) (pe_int) (fun _ _ => rfl)) pa_nil))))
      (pss_cons (ps_set (i := 4) nd rfl (Or.inl rfl) (pe_str))
      (pss_cons (ps_for PassesOwn.never rfl (pi_range1 (by rfl) T.f_range (pa_cons (pv 2) pa_nil)) (pg_name (i := 5) nd rfl (Or.inl rfl))
        (pss_cons (ps_set (i := 6) nd rfl (Or.inl rfl) (pe_c (ok__law_some T) hr T.g__law_some (by rfl) (pa_cons (pv 0) (pa_cons (pe_lc (own := [("_law_one", 7)]) rfl nd (piT K (pe_ix (ixT K) (pv 1) (pe_int) (fun _ _ => rfl))) (blkOk_by (N := ["_law_hand_here", "_law_parts", "_law_length", "_law_point", "_law_text", "_law_turn", "_law_arrow", "_law_one"]) (sc := dd53.scope) (by decide +kernel)) (fun _ _ _ _ _ => (pg_name (i := 7) nd rfl (Or.inl rfl))) (fun _ _ _ _ _ => pts_one (pt_cmpR op_eq (pe_ix (ixT K) (pv 7) (pe_int) (fun _ _ => rfl)) (pv 3) (nomark _))) (fun _ _ _ _ _ => (pv 7))) pa_nil))))
        (pss_cons (ps_set (i := 4) nd rfl (Or.inl rfl) (pe_op op_add_str (pv 4) (pe_ix (ixT K) (pv 6) (pe_int) (fun _ _ => rfl))))
        (pss_one (ps_set (i := 3) nd rfl (Or.inr rfl) (pe_ix (ixT K) (pv 6) (pe_int) (fun _ _ => rfl)))))))
      (pss_one (ps_ret (pv 4)))))), ?_⟩
    have n1 := ok.n1
    have n4 := ok.n4
    have lz : zs.length ≤ 60 := by have := ok.few; rwa [List.length_map] at this
    refine ⟨.ref h, rfl, .ref p, rfl, p, _, (0 : Nat), _, rfl, rfl, SqT.of pa.hp, tup_at rfl, h, hc, n, rfl, hk, by omega, by omega, fun H1 p0 hp0 hk1 sb1 => ?_⟩
    refine ⟨_, rfl, _, rfl, by omega, by omega, ?_⟩
    have ek : ((k : Int)).toNat = k := by omega
    rw [ek]
    refine for_range (fun i σ H2 => ∃ (r : Nat) (t : List Nat) (y5 y6 : Option V), σ = [some (.ref h), some (.ref p), some (.int (k : Nat)), some (.int (r : Nat)), some (tx t), y5, y6, none] ∧ SB h H H2 ∧ HandAt H2 h hc ∧ t.length = i ∧ r < n ∧ Pth (zs.map (·.2)) p0 t r)
      ⟨p0, [], none, none, rfl, sb1, hk1, rfl, hp0, rfl⟩ (fun i σ H2 hi ⟨r, t, y5, y6, es, sb, hk2, lt, hr1, pt⟩ => ?_) (fun σ H2 ⟨r, t, y5, y6, es, sb, hk2, lt, hr1, pt⟩ => ?_)
    · subst es
      have pa2 := pa.sb hk sb
      refine ⟨.ref h, rfl, .ref p, rfl, p, _, (1 : Nat), _, rfl, rfl, SqT.of pa2.hp, tup_at rfl, B, rfl, ⟨_, SqT.of pa2.ar.1⟩, fun D hD => ?_⟩
      refine lc_fm zs (Walk.len (walk_tup (xs := zs.map fun z => V.ref z.1)) (by rw [List.length_map])) (by omega) hD (fun H3 sm => SqT.of (sm _ _ pa2.ar.1)) (fun z => decide (z.2.1 = r)) (fun z => .ref z.1) (fun j z x H3 H3' Ny Nn ez sm ny nn y => ?_) (fun H3 s3 hd3 => ?_)
      · obtain ⟨rfl, ex⟩ := y
        rw [List.getElem?_map, ez] at ex
        obtain rfl := Option.some.inj ex
        have hz := sm _ _ (pa2.ar.2 z (List.mem_of_getElem? ez))
        refine ⟨rfl, .ref z.1, rfl, z.1, _, (0 : Nat), _, rfl, rfl, SqT.of hz, tup_at rfl, _, rfl, rfl, ?_⟩
        by_cases c : z.2.1 = r
        · exact ⟨true, bl_t (by rw [c]), iteT ⟨_, rfl, ny _ (Same.refl _) (decide_eq_true c)⟩⟩
        · exact ⟨false, bl_f (fun z => c (by have := V.int.inj z; omega)), iteF (nn _ (Same.refl _) (decide_eq_false c))⟩
      · have hk3 := hk2.same s3
        have Dh : D ≠ h := (hk2.fresh hD).1.symm
        obtain ⟨c0, hc0⟩ := ok.ring r hr1
        obtain ⟨z0, hz0, ez0⟩ := List.mem_map.mp hc0
        have pos : 0 < ((zs.filter fun z => decide (z.2.1 = r)).map fun z => V.ref z.1).length := by
          rw [List.length_map]
          exact List.length_pos_of_mem (List.mem_filter.mpr ⟨hz0, decide_eq_true (by rw [ez0])⟩)
        have le := List.length_filter_le (fun z : Addr × Ar => decide (z.2.1 = r)) zs
        refine ⟨h, hc, D, _, rfl, hk3, SqL.of hd3, Dh, ⟨_, hd3⟩, pos, by rw [List.length_map]; omega, fun H4 x hx hk4 sb4 => ?_⟩
        obtain ⟨z, hz, rfl⟩ := List.mem_map.mp hx
        obtain ⟨hz1, hz2⟩ := List.mem_filter.mp hz
        have hz2 := of_decide_eq_true hz2
        have sb5 := sb.trans ((SB.of s3).trans sb4)
        have hz4 := (pa.sb hk sb5).ar.2 z hz1
        refine ⟨_, rfl, .ref z.1, rfl, z.1, _, (1 : Nat), _, rfl, rfl, SqT.of hz4, tup_at rfl, sx t, sx [z.2.2.1], rfl, rfl, ?_, ?_⟩
        · rw [sx_len, sx_len]
          exact fits (by simp; omega)
        rw [sx_app]
        refine ⟨.ref z.1, rfl, z.1, _, (2 : Nat), _, rfl, rfl, SqT.of hz4, tup_at rfl, z.2.2.2, t ++ [z.2.2.1], _, _, rfl, sb5, hk4, by rw [List.length_append, lt]; rfl, (ok.inn z.2 (List.mem_map.mpr ⟨z, hz1, rfl⟩)).2, pt.cat ⟨z.2.2.2, List.mem_map.mpr ⟨z, hz1, ?_⟩, rfl⟩⟩
        rw [← hz2]
    · subst es
      exact ⟨_, rfl, q _ t hk2 sb lt ⟨p0, r, hp0, pt⟩⟩
end
end L2.NJ
set_option Elab.async false
set_option linter.all false
set_option maxRecDepth 100000
set_option maxHeartbeats 8000000
namespace L2.NJ
open PySem PySem.Spec PyProof.Rows PySem.W
theorem nums_snoc (l : List Nat) (x : Nat) : nums (l ++ [x]) = nums l ++ [V.int (x : Nat)] := by unfold nums; rw [List.map_append]; rfl
theorem ends_at {W : List (List Nat)} (co : Code W) {t : List Nat} {qs : List (Addr × Nat × Nat)} (eq : qs.map (·.2) = comesL W t) (x : Nat) :
    (qs.filter fun z => decide (z.2.1 = x)).map (fun z => V.int (z.2.2 : Nat)) = nums (opL (fwd W t x)) := by
  have h := comes_at W t x
  rw [← eq, List.filter_map] at h
  have h2 : (qs.filter fun z => decide (z.2.1 = x)).map (fun z => V.int (z.2.2 : Nat)) = nums (((qs.filter ((fun z : Nat × Nat => decide (z.1 = x)) ∘ fun z => z.2)).map (·.2)).map (·.2)) := by
    unfold nums
    rw [List.map_map, List.map_map]
    rfl
  rw [h2, h]
  by_cases c : x < t.length
  · rw [if_pos c, comes1_code co (by omega)]
    cases fwd W t x with
    | none => rfl
    | some e => rfl
  · rw [if_neg c]
    have : fwd W t x = none := fwd_no fun s hs => by omega
    rw [this]
    rfl
section
variable {P : Program} {w : World} {K : PySem.W.Frag} {mg : Str → Option Value} {base : Heap}
def spLReads : Sp := fun vs H Q _ => ∃ A W t, vs = [.ref A, tx t] ∧ H A = some (.tup (txs W)) ∧ Code W ∧ t.length ≤ 1000 ∧
  ∀ H' l (qs : List (Addr × Nat)), Same H H' → H' l = some (.lst (qs.map fun q => .ref q.1)) → qs.map (·.2) = heads W t → (∀ q ∈ qs, H' q.1 = some (.tup (nums (readFrom W t q.2)))) → Q (.ref l) H'
theorem sc__law_readings : FnScope ["_law_words_here", "_law_text", "_law_spans", "_law_found", "_law_place", "_law_begin", "_law_end", "_law_row", "_law_turn"] ["_law_words_here", "_law_text"] dd54.scope := ⟨rfl, rfl, rfl, by decide +kernel, rfl, by decide +kernel, by decide +kernel⟩
theorem ok__law_readings (T : Fx K mg) : DOk P w K mg base 2 (He.ga K "_law_readings") ["_law_words_here", "_law_text"] spLReads := by
  refine DOk.of (d := dd54) T 54 rfl rfl sc__law_readings (fun _ _ _ _ _ _ us hl => match us, hl with | [_, _], _ => rfl) (fun vs H Q E h => ?_) (fun f cdv A outer s H vs Q E hr h => ?_)
  · obtain ⟨_, _, _, rfl, _⟩ := h
    rfl
  · have nd := sc__law_readings.nd
    have hu := hu_of hr
    obtain ⟨A, W, t, rfl, hA, co, ht, q⟩ := h
    refine ⟨_, (pss_cons (ps_set (i := 2) nd rfl (Or.inl rfl) (pe_c (ok__law_comings T) hr T.g__law_comings (by rfl) (pa_cons (pv 0) (pa_cons (pv 1) pa_nil))))
      (pss_cons (ps_set (i := 3) nd rfl (Or.inl rfl) (pe_lst pa_nil))
      (pss_cons (ps_for PassesOwn.never rfl (pi_range1 (by rfl) T.f_range (pa_cons (pe_op op_add (pe_callB call_len_str (by rfl) T.f_len (by decide +kernel) (pa_cons (pv 1) pa_nil)) (pe_int)) pa_nil)) (pg_name (i := 4) nd rfl (Or.inr rfl))
        (pss_one (ps_if (pt_not (pt_val (pe_callB (crAny K) (by rfl) T.f_any (by decide +kernel) (pa_cons (pe_lc (own := [("_law_begin", 5), ("_law_end", 6)]) rfl nd (piL K (pv 2)) (blkOk_by (N := ["_law_words_here", "_law_text", "_law_spans", "_law_found", "_law_place", "_law_begin", "_law_end", "_law_row", "_law_turn"]) (sc := dd54.scope) (by decide +kernel)) (fun _ _ _ _ _ => (pgTup K (n := 2) (pgs_cons (pg_name (i := 5) nd rfl (Or.inl rfl)) (pgs_cons (pg_name (i := 6) nd rfl (Or.inl rfl)) pgs_nil)))) (fun _ _ _ _ _ => pts_nil) (fun _ _ _ _ _ => (pe_cmpR op_eq (pv 6) (pv 4) (nomark _)))) pa_nil))))
          (pss_cons (ps_set (i := 7) nd rfl (Or.inr rfl) (pe_lst (pa_cons (pv 4) pa_nil)))
          (pss_cons (ps_for PassesOwn.never rfl (pi_range1 (by rfl) T.f_range (pa_cons (pe_callB call_len_str (by rfl) T.f_len (by decide +kernel) (pa_cons (pv 1) pa_nil)) pa_nil)) (pg_name (i := 8) nd rfl (Or.inl rfl))
            (pss_one (ps_expr (pe_bm PySem.F.plainAttrs_list PySem.F.slot_list_extend PySem.F.type_list_extend mt_extend (pv 7) (pa_cons (pe_lc (own := [("_law_begin", 5), ("_law_end", 6)]) rfl nd (piL K (pv 2)) (blkOk_by (N := ["_law_words_here", "_law_text", "_law_spans", "_law_found", "_law_place", "_law_begin", "_law_end", "_law_row", "_law_turn"]) (sc := dd54.scope) (by decide +kernel)) (fun _ _ _ _ _ => (pgTup K (n := 2) (pgs_cons (pg_name (i := 5) nd rfl (Or.inl rfl)) (pgs_cons (pg_name (i := 6) nd rfl (Or.inl rfl)) pgs_nil)))) (fun _ _ _ _ _ => pts_one (pt_cmpR op_eq (pv 5) (pe_ix (ixL K) (pv 7) (pe_un un_neg (pe_int)) (fun _ _ => rfl)) (nomark _))) (fun _ _ _ _ _ => (pv 6))) pa_nil)))))
          (pss_one (ps_expr (pe_bm PySem.F.plainAttrs_list PySem.F.slot_list_append PySem.F.type_list_append mt_append (pv 3) (pa_cons (pe_callTy (ctupOf K) (by rfl) T.f_tuple (by decide +kernel) (pa_cons (pv 7) pa_nil)) pa_nil))))))
          pss_nil)))
      (pss_one (ps_ret (pv 3)))))), ?_⟩
    refine ⟨.ref A, rfl, _, rfl, A, W, t, rfl, hA, ht, fun H1 ls qs s1 pr eq => ?_⟩
    have lqs : qs.length ≤ 1000000 := by
      have h1 := congrArg List.length eq
      rw [List.length_map] at h1
      have h2 := flat_len (comes1 W t) 1000 (fun b => Nat.le_trans (comes1_len W t b) (by omega)) (List.range t.length)
      rw [List.length_range] at h2
      have h3 : t.length * 1000 ≤ 1000 * 1000 := Nat.mul_le_mul_right _ ht
      unfold comesL at h1
      omega
    refine ⟨Nat.zero_le _, fun f nf => ?_⟩
    have s2 : Same H1 (upd H1 f (.lst [])) := same_upd nf
    refine ⟨_, rfl, sx t, rfl, sx_fits (by omega), _, _, rfl, rfl, _, rfl, by rw [sx_len]; omega, by rw [sx_len]; omega, ?_⟩
    have el : ((((sx t).length : Nat) : Int) + 1).toNat = t.length + 1 := by rw [sx_len]; omega
    rw [el]
    refine for_range (fun i σ H2 => ∃ (rs : List (Addr × Nat)) (y4 y5 y6 y7 y8 : Option V), σ = [some (.ref A), some (tx t), some (.ref ls), some (.ref f), y4, y5, y6, y7, y8] ∧ Same H1 H2 ∧ H2 f = some (.lst (rs.map fun q => .ref q.1)) ∧ rs.map (·.2) = (List.range i).filter (fun p => decide (bwd W t p = none)) ∧ ∀ q ∈ rs, H2 q.1 = some (.tup (nums (readFrom W t q.2))))
      ⟨[], none, none, none, none, none, rfl, s2, upd_same, rfl, fun q hq => nomatch hq⟩ (fun i σ H2 hi ⟨rs, y4, y5, y6, y7, y8, es, sm, hf, er, hr⟩ => ?_) (fun σ H2 ⟨rs, y4, y5, y6, y7, y8, es, sm, hf, er, hr⟩ => ?_)
    · subst es
      have e0 : (0 : Int) + (i : Int) = ((i : Nat) : Int) := by omega
      rw [e0]
      refine ⟨.ref ls, rfl, ls, rfl, ⟨_, SqL.of (sm _ _ pr.1)⟩, fun D hD => ?_⟩
      refine lc_map qs (Walk.len (walk_list (xs := qs.map fun z => V.ref z.1)) (by rw [List.length_map])) lqs hD (fun H3 s3 => SqL.of (s3 _ _ (sm _ _ pr.1))) (fun z => .bl (decide (z.2.2 = i))) (fun k z x H3 H3' Ny ez s3 ny y => ?_) (fun H3 s3 hd3 => ?_)
      · obtain ⟨rfl, ex⟩ := y
        rw [List.getElem?_map, ez] at ex
        obtain rfl := Option.some.inj ex
        have hz := s3 _ _ (sm _ _ (pr.2 z (List.mem_of_getElem? ez)))
        refine ⟨z.1, _, rfl, SqT.of hz, rfl, _, _, rfl, _, _, rfl, rfl, rfl, _, rfl, _, rfl, rfl, ?_⟩
        have := ny _ (Same.refl _)
        have e : decide (z.2.2 = i) = decide (V.int (z.2.2 : Nat) = V.int (i : Nat)) := by
          rw [int_eq, Bool.eq_iff_iff, decide_eq_true_iff, decide_eq_true_iff]
          omega
        rw [e] at this
        exact this
      · refine ⟨D, qs.map fun z => decide (z.2.2 = i), rfl, .inl (.inl ?_), ?_⟩
        · rw [hd3, List.map_map]
          rfl
        have ea : (qs.map fun z => decide (z.2.2 = i)).any id = !decide (bwd W t i = none) := by
          rw [← comes_ends co (by omega), ← eq, List.any_map, List.any_map]
          rfl
        rw [ea]
        have hr3 : ∀ q ∈ rs, H3 q.1 = some (.tup (nums (readFrom W t q.2))) := fun q hq => s3 _ _ (hr q hq)
        have hf3 := s3 _ _ hf
        have lrs : rs.length ≤ 1001 := by
          have h1 := congrArg List.length er
          rw [List.length_map] at h1
          have h2 := List.length_filter_le (fun p => decide (bwd W t p = none)) (List.range i)
          rw [List.length_range] at h2
          omega
        refine ⟨_, rfl, ?_⟩
        cases hb : decide (bwd W t i = none) with
        | false =>
          refine iteF ⟨rs, _, _, _, _, _, rfl, sm.trans s3, hf3, ?_, hr3⟩
          rw [List.range_succ, List.filter_append, List.filter_cons_of_neg (by rw [hb]; decide), List.filter_nil, List.append_nil]
          exact er
        | true =>
          refine iteT ⟨_, rfl, Nat.le_of_ble_eq_true rfl, fun r nr => ?_⟩
          have s4 : Same H3 (upd H3 r (.lst (nums [i]))) := same_upd nr
          refine ⟨_, rfl, sx t, rfl, sx_fits (by omega), _, rfl, by rw [sx_len]; omega, by rw [sx_len]; omega, ?_⟩
          have el2 : (((sx t).length : Nat) : Int).toNat = t.length := by rw [sx_len]; omega
          rw [el2]
          refine for_range (fun j σ H4 => ∃ (y5 y6 y8 : Option V), σ = [some (.ref A), some (tx t), some (.ref ls), some (.ref f), some (.int (i : Nat)), y5, y6, some (.ref r), y8] ∧ Same H3 H4 ∧ H4 r = some (.lst (nums (run (fwd W t) j i))))
            ⟨_, _, _, rfl, s4, upd_same⟩ (fun j σ H4 hj ⟨y5, y6, y8, es, s5, hr4⟩ => ?_) (fun σ H4 ⟨y5, y6, y8, es, s5, hr4⟩ => ?_)
          · subst es
            obtain ⟨l, x, e1, e2⟩ := run_last (fwd W t) j i
            have lrun := readFrom_len (W := W) (t := t) j i
            rw [e1] at hr4 lrun
            have spr := sm.trans (s3.trans s5)
            refine ⟨.ref r, rfl, .inl ⟨rfl, _, .inl (.inl hr4)⟩, .ref ls, rfl, ls, rfl, ⟨_, SqL.of (spr _ _ pr.1)⟩, fun E nE => ?_⟩
            refine lc_fm qs (Walk.len (walk_list (xs := qs.map fun z => V.ref z.1)) (by rw [List.length_map])) lqs nE (fun H5 s6 => SqL.of (s6 _ _ (spr _ _ pr.1))) (fun z => decide (z.2.1 = x)) (fun z => .int (z.2.2 : Nat)) (fun k z v H5 H5' Ny Nn ez s6 ny nn y => ?_) (fun H5 s6 hd5 => ?_)
            · obtain ⟨rfl, ex⟩ := y
              rw [List.getElem?_map, ez] at ex
              obtain rfl := Option.some.inj ex
              have hz := s6 _ _ (spr _ _ (pr.2 z (List.mem_of_getElem? ez)))
              have hr5 := s6 _ _ hr4
              rw [nums_snoc] at hr5
              refine ⟨z.1, _, rfl, SqT.of hz, rfl, _, _, rfl, _, _, rfl, rfl, rfl, _, rfl, .ref r, rfl, 1, rfl, r, _, -1, .int (x : Nat), rfl, rfl, SqL.of hr5, atI_last _ _, rfl, ?_⟩
              by_cases c : z.2.1 = x
              · exact ⟨true, bl_t (by rw [c]), iteT ⟨_, rfl, ny _ (Same.refl _) (decide_eq_true c)⟩⟩
              · exact ⟨false, bl_f (fun w => c (by have := V.int.inj w; omega)), iteF (nn _ (Same.refl _) (decide_eq_false c))⟩
            · rw [ends_at co eq x] at hd5
              have lm : (opL (fwd W t x)).length ≤ 1 := by
                cases fwd W t x with
                | none => exact Nat.zero_le _
                | some e => exact Nat.le_refl _
              refine ⟨r, E, _, _, rfl, rfl, s6 _ _ hr4, hd5, fits (by rw [nums_len, nums_len]; omega), _, _, _, rfl, fun b o e => ?_, ?_⟩
              · rw [upd_ne (ne_of_none e nr)]
                exact s6 _ _ (s5 _ _ e)
              · rw [upd_same, e2]
                unfold nums
                rw [List.map_append (l₁ := l ++ [x])]
          · subst es
            have e3 : run (fwd W t) t.length i = readFrom W t i := run_enough t.length i (by omega) (by omega)
            rw [e3] at hr4
            have s35 := s3.trans s5
            have hf4 := s5 _ _ hf3
            refine ⟨.ref f, rfl, .inl ⟨rfl, _, .inl (.inl hf4)⟩, .ref r, rfl, r, _, rfl, .inl ⟨SqL.of hr4, fun T nT => ?_⟩⟩
            have sT : Same H4 (upd H4 T (.tup (nums (readFrom W t i)))) := same_upd nT
            have hT : (upd H4 T (.tup (nums (readFrom W t i)))) T = some (.tup (nums (readFrom W t i))) := upd_same
            generalize upd H4 T (.tup (nums (readFrom W t i))) = H5 at sT hT ⊢
            have hf5 := sT _ _ hf4
            refine ⟨f, _, _, rfl, rfl, hf5, fits1 (by rw [List.length_map]; omega), rs ++ [(T, i)], _, _, _, _, _, rfl, fun b o e => ?_, ?_, ?_, fun q hq => ?_⟩
            · rw [upd_ne (ne_of_none e nf)]
              exact sT _ _ (s35 _ _ (sm _ _ e))
            · rw [upd_same, List.map_append]
              rfl
            · rw [List.map_append, er, List.range_succ, List.filter_append, List.filter_cons_of_pos (p := fun p => decide (bwd W t p = none)) hb, List.filter_nil]
              rfl
            · rcases List.mem_append.mp hq with hq | hq
              · have h := sT _ _ (s5 _ _ (hr3 q hq))
                rw [upd_ne (ne_of h hf5 fun z => nomatch z)]
                exact h
              · rw [List.mem_singleton.mp hq, upd_ne (ne_of hT hf5 fun z => nomatch z)]
                exact hT
    · subst es
      exact ⟨.ref f, rfl, q _ f rs (s1.trans sm) hf er hr⟩
end
end L2.NJ
set_option Elab.async false
set_option linter.all false
set_option maxRecDepth 100000
set_option maxHeartbeats 4000000
namespace L2.NJ
open PySem PySem.Spec PyProof.Rows PySem.W
theorem only_one {α : Type} {l : List α} {x : α} (n : l.Nodup) (h : ∀ y ∈ l, y = x) (m : x ∈ l) : l = [x] := by
  match l, n, h, m with
  | [z], _, h, _ => rw [h z List.mem_cons_self]
  | z :: y :: r, n, h, _ =>
    have h1 := h z List.mem_cons_self
    have h2 := h y (List.mem_cons_of_mem _ List.mem_cons_self)
    rw [List.nodup_cons] at n
    exact absurd (h1.trans h2.symm ▸ List.mem_cons_self) n.1
section
variable {W : List (List Nat)} {t : List Nat}
theorem mem_self (p : Nat) : p ∈ readFrom W t p := by
  unfold readFrom
  cases t.length - p with
  | zero => exact List.mem_cons_self
  | succ m => exact List.mem_cons_self
theorem read_step : ∀ (k r : Nat), t.length - r ≤ k → r ≤ t.length → ∀ {x y : Nat}, x ∈ readFrom W t r → fwd W t x = some y → y ∈ readFrom W t r
  | 0, r, hk, hr, x, y, hx, hy => by
    have e : fwd W t r = none := fwd_no fun s hs => by omega
    rw [readFrom_stop e] at hx
    rw [List.mem_singleton.mp hx, e] at hy
    cases hy
  | k + 1, r, hk, hr, x, y, hx, hy => by
    cases h : fwd W t r with
    | none =>
      rw [readFrom_stop h] at hx
      rw [List.mem_singleton.mp hx, h] at hy
      cases hy
    | some q =>
      have hq := fwd_some h
      rw [readFrom_go h] at hx ⊢
      rcases List.mem_cons.mp hx with e | hx
      · rw [e, h] at hy
        rw [← Option.some.inj hy]
        exact List.mem_cons_of_mem _ (mem_self q)
      · exact List.mem_cons_of_mem _ (read_step k q (by omega) hq.2.1 hx hy)
theorem read_head (c : Code W) : ∀ (k r : Nat), t.length - r ≤ k → r ≤ t.length → ∀ x ∈ readFrom W t r, headOf W t x = headOf W t r
  | 0, r, hk, hr, x, hx => by
    have e : fwd W t r = none := fwd_no fun s hs => by omega
    rw [readFrom_stop e] at hx
    rw [List.mem_singleton.mp hx]
  | k + 1, r, hk, hr, x, hx => by
    cases h : fwd W t r with
    | none =>
      rw [readFrom_stop h] at hx
      rw [List.mem_singleton.mp hx]
    | some q =>
      have hq := fwd_some h
      rw [readFrom_go h] at hx
      rcases List.mem_cons.mp hx with e | hx
      · rw [e]
      · rw [read_head c k q (by omega) hq.2.1 x hx, headOf_go ((fwd_bwd c hq.2.1).mp h)]
theorem headOf_ok (c : Code W) : ∀ (k p : Nat), p ≤ k → p ≤ t.length → headOf W t p ∈ heads W t ∧ p ∈ readFrom W t (headOf W t p)
  | k, p, hk, hp => by
    cases h : bwd W t p with
    | none =>
      rw [headOf_stop h]
      exact ⟨heads_ok.mpr ⟨hp, h⟩, mem_self p⟩
    | some b =>
      have hb := bwd_some h
      match k, hk with
      | 0, hk => omega
      | k + 1, hk =>
        have ih := headOf_ok c k b (by omega) (by omega)
        rw [headOf_go h]
        exact ⟨ih.1, read_step _ _ (Nat.le_refl _) (heads_ok.mp ih.1).1 ih.2 ((fwd_bwd c hp).mpr h)⟩
theorem heads_nod : (heads W t).Nodup := List.Pairwise.filter _ List.nodup_range
theorem heads_asc : (heads W t).Pairwise (· < ·) := List.Pairwise.filter _ List.pairwise_lt_range
/-- the one reading that has the place -/
theorem due_one (c : Code W) {p : Nat} (hp : p ≤ t.length) : (heads W t).filter (fun q => decide (p ∈ readFrom W t q)) = [headOf W t p] := by
  have h := headOf_ok c p p (Nat.le_refl _) hp
  refine only_one (List.Pairwise.filter _ heads_nod) (fun q hq => ?_) (List.mem_filter.mpr ⟨h.1, decide_eq_true h.2⟩)
  obtain ⟨h1, h2⟩ := List.mem_filter.mp hq
  have hq := heads_ok.mp h1
  rw [read_head c _ q (Nat.le_refl _) hq.1 p (of_decide_eq_true h2), headOf_stop hq.2]
theorem headOf_self {q : Nat} (h : q ∈ heads W t) : headOf W t q = q := headOf_stop (heads_ok.mp h).2
/-! ### rows as data -/
def rowD (W : List (List Nat)) (t : List Nat) (q : Nat) : PyData := .tuple ((readFrom W t q).map fun (x : Nat) => PyData.int (x : Nat))
theorem read_cons (q : Nat) : ∃ r, readFrom W t q = q :: r := by
  unfold readFrom
  cases t.length - q with
  | zero => exact ⟨_, rfl⟩
  | succ m => exact ⟨_, rfl⟩
theorem rowD_alike (p q : Nat) : alike (rowD W t p) (rowD W t q) = true := by
  have := alike_ints ((readFrom W t p).map fun (x : Nat) => (x : Int)) ((readFrom W t q).map fun (x : Nat) => (x : Int))
  rw [List.map_map, List.map_map] at this
  exact this
theorem rowD_depth (q : Nat) : (rowD W t q).depth = 1 := by
  have := depth_ints ((readFrom W t q).map fun (x : Nat) => (x : Int))
  rw [List.map_map] at this
  show PyData.depthAll ((readFrom W t q).map fun (x : Nat) => PyData.int (x : Nat)) + 1 = 1
  have e : PyData.depthAll ((readFrom W t q).map fun (x : Nat) => PyData.int (x : Nat)) = 0 := this
  rw [e]
theorem ints_lay : ∀ l : List Nat, PyData.canLayAll0 (l.map fun (x : Nat) => PyData.int (x : Nat)) = true
  | [] => rfl
  | _ :: r => ints_lay r
theorem rowD_shaped (q : Nat) : SeqAt.shaped (rowD W t q) = true := by
  unfold SeqAt.shaped
  rw [rowD_depth]
  show (PyData.canLayAll0 ((readFrom W t q).map fun (x : Nat) => PyData.int (x : Nat)) && _) = true
  rw [ints_lay]
  rfl
theorem rows_shaped (qs : List Nat) : SeqAt.shaped (.list (qs.map (rowD W t))) = true := by
  have key : PyData.canLayAll0 (qs.map (rowD W t)) = true ∧ PyData.depthAll (qs.map (rowD W t)) ≤ 1 := by
    induction qs with
    | nil => exact ⟨rfl, Nat.zero_le _⟩
    | cons x r ih =>
      have h4 := SeqAt.canLay_of_shaped (rowD_shaped (W := W) (t := t) x)
      refine ⟨?_, ?_⟩
      · show (PyData.canLay0 (rowD W t x) && PyData.canLayAll0 (r.map (rowD W t))) = true
        rw [ih.1, h4]
        rfl
      · show max (PyData.depth (rowD W t x)) (PyData.depthAll (r.map (rowD W t))) ≤ 1
        have := rowD_depth (W := W) (t := t) x
        omega
  unfold SeqAt.shaped
  show (PyData.canLayAll0 (qs.map (rowD W t)) && decide (PyData.depthAll (qs.map (rowD W t)) + 1 ≤ 64)) = true
  rw [key.1, decide_eq_true (by omega)]
  rfl
theorem rows_alike : ∀ qs : List Nat, alikeAll (qs.map (rowD W t)) (qs.map (rowD W t)) = true
  | [] => by simp [alikeAll]
  | q :: r => by
    rw [List.map_cons]
    simp only [alikeAll]
    rw [rowD_alike, rows_alike r]
    rfl
theorem rows_eqv (qs : List Nat) : PyData.eqv (.list (qs.map (rowD W t))) (.list (qs.map (rowD W t))) = true :=
  eqv_refl_alike _ (by simp only [alike]; exact rows_alike qs)
theorem rowD_eqv (p q : Nat) : PyData.eqv (rowD W t p) (rowD W t q) = decide (p = q) := by
  by_cases e : p = q
  · rw [e, decide_eq_true rfl]
    exact eqv_refl_alike _ (rowD_alike q q)
  · rw [decide_eq_false e]
    obtain ⟨r, hr⟩ := read_cons (W := W) (t := t) p
    obtain ⟨r', hr'⟩ := read_cons (W := W) (t := t) q
    unfold rowD
    rw [hr, hr', List.map_cons, List.map_cons]
    simp only [PyData.eqv, PyData.eqvAll]
    have : ((p : Int) == (q : Int)) = false := by
      rw [beq_eq_false_iff_ne]
      omega
    rw [this]
    rfl
theorem rowD_lt (p q : Nat) : dataLt (rowD W t p) (rowD W t q) = decide (p < q) := by
  by_cases e : p = q
  · rw [e, decide_eq_false (by omega)]
    unfold dataLt
    exact lex_irrefl (O := itemOrd) _
  · obtain ⟨r, hr⟩ := read_cons (W := W) (t := t) p
    obtain ⟨r', hr'⟩ := read_cons (W := W) (t := t) q
    have e1 : dataLt (rowD W t p) (rowD W t q) = lexLt itemOrd (keyToksAll (.int (p : Nat) :: r.map fun (x : Nat) => PyData.int (x : Nat))) (keyToksAll (.int (q : Nat) :: r'.map fun (x : Nat) => PyData.int (x : Nat))) := by
      unfold dataLt rowD
      rw [hr, hr', List.map_cons, List.map_cons]
      simp only [keyToks]
    have e2 : PyData.eqv (.int (p : Nat)) (.int (q : Nat)) = false := by
      simp only [PyData.eqv]
      rw [beq_eq_false_iff_ne]
      omega
    rw [e1, dataLt_cons (x := .int (p : Nat)) (y := .int (q : Nat)) (by simp [alike]), e2, dataLt_int, if_neg (by decide), Bool.eq_iff_iff, decide_eq_true_iff, decide_eq_true_iff]
    omega
end
theorem asc_eq : ∀ {a b : List Nat}, a.Pairwise (· < ·) → b.Pairwise (· < ·) → (∀ x, x ∈ a ↔ x ∈ b) → a = b
  | [], [], _, _, _ => rfl
  | [], y :: b, _, _, h => by have := (h y).mpr List.mem_cons_self; exact nomatch this
  | x :: a, [], _, _, h => by have := (h x).mp List.mem_cons_self; exact nomatch this
  | x :: a, y :: b, ha, hb, h => by
    rw [List.pairwise_cons] at ha hb
    have e : x = y := by
      rcases List.mem_cons.mp ((h x).mp List.mem_cons_self) with e | m1
      · exact e
      · rcases List.mem_cons.mp ((h y).mpr List.mem_cons_self) with e | m2
        · exact e.symm
        · have := ha.1 y m2
          have := hb.1 x m1
          omega
    subst e
    rw [asc_eq ha.2 hb.2 fun z => ?_]
    have hz := h z
    constructor
    · intro m
      have l := ha.1 z m
      rcases List.mem_cons.mp (hz.mp (List.mem_cons_of_mem _ m)) with e | m'
      · omega
      · exact m'
    · intro m
      have l := hb.1 z m
      rcases List.mem_cons.mp (hz.mpr (List.mem_cons_of_mem _ m)) with e | m'
      · omega
      · exact m'
end L2.NJ
set_option Elab.async false
set_option linter.all false
set_option maxRecDepth 100000
set_option maxHeartbeats 16000000
namespace L2.NJ
open PySem PySem.Spec PyProof.Rows PySem.W
theorem WebAt.sb {K : PySem.W.Frag} {H H' : Hp} {a h hc : Addr} {n : Nat} {ar : List Ar} (k : HandAt H h hc) (e : SB h H H') (q : WebAt K H a n ar) : WebAt K H' a n ar := by
  obtain ⟨A, dx, L, S, kvs, h1, h2, h3⟩ := q
  refine ⟨A, dx, L, S, kvs, e _ _ (k.ne h1 fun _ z => nomatch z) h1, e _ _ (k.ne h2 fun _ z => nomatch z) h2, fun p c => (h3 p c).imp id fun ⟨t, a, b⟩ => ⟨t, a, e _ _ (k.ne b fun _ z => nomatch z) b⟩⟩
theorem BookIn.sb {K : PySem.W.Frag} {H H' : Hp} {b wb h hc : Addr} {W : List (List Nat)} (k : HandAt H h hc) (e : SB h H H') (q : BookIn K H b wb W) : BookIn K H' b wb W := by
  obtain ⟨A, dx, d1, d2, d3, k1, k2, k3, L, h0, h1, h2, h3, r⟩ := q.ex
  exact ⟨A, dx, d1, d2, d3, k1, k2, k3, L, e _ _ (k.ne h0 fun _ z => nomatch z) h0, e _ _ (k.ne h1 fun _ z => nomatch z) h1, e _ _ (k.ne h2 fun _ z => nomatch z) h2, e _ _ (k.ne h3 fun _ z => nomatch z) h3, r⟩
/-- what stands while a book is used -/
structure Sit (K : PySem.W.Frag) (H : Hp) (h hc p : Addr) (n : Nat) (B : Addr) (zs : List (Addr × Ar)) (wb T b : Addr) (W : List (List Nat)) : Prop where
  hk : HandAt H h hc
  pa : PartsAt H p n B zs
  wa : WebAt K H wb n (zs.map (·.2))
  hT : H T = some (.tup (txs W))
  bi : BookIn K H b wb W
theorem Sit.sb {K : PySem.W.Frag} {H H' : Hp} {h hc p : Addr} {n : Nat} {B : Addr} {zs : List (Addr × Ar)} {wb T b : Addr} {W : List (List Nat)} (q : Sit K H h hc p n B zs wb T b W) (k : HandAt H' h hc) (e : SB h H H') : Sit K H' h hc p n B zs wb T b W :=
  ⟨k, q.pa.sb q.hk e, q.wa.sb q.hk e, e _ _ (q.hk.ne q.hT fun _ z => nomatch z) q.hT, q.bi.sb q.hk e⟩
theorem Sit.same {K : PySem.W.Frag} {H H' : Hp} {h hc p : Addr} {n : Nat} {B : Addr} {zs : List (Addr × Ar)} {wb T b : Addr} {W : List (List Nat)} (q : Sit K H h hc p n B zs wb T b W) (e : Same H H') : Sit K H' h hc p n B zs wb T b W :=
  ⟨q.hk.same e, q.pa.same e, q.wa.same e, e _ _ q.hT, q.bi.same e⟩
theorem made_same {H H' : Hp} {x dx C : Addr} (nx0 : H x = none) (nd0 : H dx = none) (ne : dx ≠ x) (e : SB x (upd (upd H dx (.own x)) x (.ins C dx [])) H') : Same H H' := fun b o q => by
  have bx := ne_of_none q nx0
  have bd := ne_of_none q nd0
  exact e b o bx (by rw [upd_ne bx, upd_ne bd]; exact q)
theorem made_same0 {H : Hp} {x dx C : Addr} (nx0 : H x = none) (nd0 : H dx = none) : Same H (upd (upd H dx (.own x)) x (.ins C dx [])) := fun b o q => by
  rw [upd_ne (ne_of_none q nx0), upd_ne (ne_of_none q nd0)]
  exact q
theorem Sit.met {K : PySem.W.Frag} {H H' : Hp} {h hc p : Addr} {n : Nat} {B : Addr} {zs : List (Addr × Ar)} {wb T b : Addr} {W : List (List Nat)} (q : Sit K H h hc p n B zs wb T b W) {me : Addr} {xs : List V} (hm : H me = some (.lst xs)) (n1 : h ≠ me) (n2 : hc ≠ me) (e : SB me H H') : Sit K H' h hc p n B zs wb T b W := by
  have nn : ∀ {c o}, H c = some o → (∀ xs, o ≠ .lst xs) → c ≠ me := fun {c o} h1 h2 z => by
    rw [z, hm] at h1
    exact h2 _ (Option.some.inj h1).symm
  obtain ⟨cells, i, r, s, t, w⟩ := q.hk
  obtain ⟨A, dx, L, S, kvs, w1, w2, w3⟩ := q.wa
  obtain ⟨A', dx', d1, d2, d3, k1, k2, k3, L', h0, h1, h2, h3, r3⟩ := q.bi.ex
  refine ⟨⟨cells, i, r, s, t, w.ne, e _ _ n1 w.hh, e _ _ n2 w.hc⟩, ⟨e _ _ (nn q.pa.hp fun _ z => nomatch z) q.pa.hp, e _ _ (nn q.pa.ar.1 fun _ z => nomatch z) q.pa.ar.1, fun z hz => e _ _ (nn (q.pa.ar.2 z hz) fun _ z => nomatch z) (q.pa.ar.2 z hz)⟩,
    ⟨A, dx, L, S, kvs, e _ _ (nn w1 fun _ z => nomatch z) w1, e _ _ (nn w2 fun _ z => nomatch z) w2, fun p c => (w3 p c).imp id fun ⟨t, a, b⟩ => ⟨t, a, e _ _ (nn b fun _ z => nomatch z) b⟩⟩, e _ _ (nn q.hT fun _ z => nomatch z) q.hT,
    ⟨A', dx', d1, d2, d3, k1, k2, k3, L', e _ _ (nn h0 fun _ z => nomatch z) h0, e _ _ (nn h1 fun _ z => nomatch z) h1, e _ _ (nn h2 fun _ z => nomatch z) h2, e _ _ (nn h3 fun _ z => nomatch z) h3, r3⟩⟩
theorem refs_hand {c : Addr} {i : Nat} {r s t : Int} {qs : List (Addr × Nat)} (e : hand5 c i r s t = qs.map fun q => V.ref q.1) : False := by
  have h := congrArg (fun l => l[1]?) e
  have h : some (V.int (i : Nat)) = (qs.map fun q => V.ref q.1)[1]? := h
  rw [List.getElem?_map] at h
  cases q : qs[1]? with
  | none => rw [q] at h; cases h
  | some x => rw [q] at h; cases h
theorem filter_one {qs : List (Addr × Nat)} {l : List Nat} {x : Nat} (p : Nat → Bool) (e : qs.map (·.2) = l) (h : l.filter p = [x]) : ∃ a, qs.filter (fun q => p q.2) = [(a, x)] ∧ (a, x) ∈ qs := by
  rw [← e, List.filter_map] at h
  obtain ⟨z, hq, hz⟩ := List.map_eq_singleton_iff.mp h
  obtain ⟨a, y⟩ := z
  have hz : y = x := hz
  subst hz
  have hq : qs.filter (fun q => p q.2) = [(a, y)] := hq
  exact ⟨a, hq, (List.mem_filter.mp (by rw [hq]; exact List.mem_cons_self)).1⟩
/-- rows stand: each row's tuple, by its first cut -/
def RowsAt (H : Hp) (W : List (List Nat)) (t : List Nat) (l : Addr) (qs : List (Addr × Nat)) : Prop := H l = some (.lst (qs.map fun q => .ref q.1)) ∧ ∀ q ∈ qs, H q.1 = some (.tup (nums (readFrom W t q.2)))
theorem RowsAt.same {H H' : Hp} {W : List (List Nat)} {t : List Nat} {l : Addr} {qs : List (Addr × Nat)} (e : Same H H') (h : RowsAt H W t l qs) : RowsAt H' W t l qs := ⟨e _ _ h.1, fun q hq => e _ _ (h.2 q hq)⟩
theorem row_dp {K : PySem.W.Frag} {H : Hp} {W : List (List Nat)} {t : List Nat} {a : Addr} {q : Nat} (h : H a = some (.tup (nums (readFrom W t q)))) : Dp K H (.ref a) (rowD W t q) := by
  unfold rowD
  refine .tup (SqT.of h) ?_
  clear h
  induction readFrom W t q with
  | nil => exact .nil
  | cons x r ih => exact .cons (.int _) ih
theorem rows_dp {K : PySem.W.Frag} {H : Hp} {W : List (List Nat)} {t : List Nat} {l : Addr} {qs : List (Addr × Nat)} (h : RowsAt H W t l qs) : Dp K H (.ref l) (.list ((qs.map (·.2)).map (rowD W t))) := by
  refine .lst (SqL.of h.1) ?_
  have h2 := h.2
  clear h
  induction qs with
  | nil => exact .nil
  | cons q r ih => exact .cons (row_dp (h2 q List.mem_cons_self)) (ih fun z hz => h2 z (List.mem_cons_of_mem _ hz))
/-- sorted(rows) -/
theorem rows_sorted {K : PySem.W.Frag} {H : Hp} {W : List (List Nat)} {t : List Nat} {l : Addr} {qs : List (Addr × Nat)} {Q : VK} (h : RowsAt H W t l qs) (nod : (qs.map (·.2)).Nodup) (mem : ∀ x, x ∈ qs.map (·.2) ↔ x ∈ heads W t)
    (q : ∀ H' l' qs', Same H H' → RowsAt H' W t l' qs' → qs'.map (·.2) = heads W t → Q (.ref l') H') : rSortedX K [.ref l] H Q := by
  obtain ⟨zs, perm, pw, es⟩ := sort_of (fun z : Addr × Nat => (V.ref z.1, rowD W t z.2)) (fun a b => decide (a.2 ≤ b.2)) (fun a b c h1 h2 => decide_eq_true (Nat.le_trans (of_decide_eq_true h1) (of_decide_eq_true h2)))
    (fun a b => by
      rcases Nat.le_total a.2 b.2 with h | h
      · simp [h]
      · simp [h]) (fun a b => by
    rw [dataLe_eq]
    show (!dataLt (rowD W t b.2) (rowD W t a.2)) = _
    rw [rowD_lt, Bool.eq_iff_iff]
    simp) qs
  refine ⟨l, qs.map fun z => (V.ref z.1, rowD W t z.2), rfl, SqL.of (by rw [h.1, List.map_map]; rfl), fun x hx => ?_, (by rw [List.map_map]; exact AllAlike.of fun a b => rowD_alike _ _), (by
    rw [List.map_map]
    refine Sortable.tuples fun z => ?_
    obtain ⟨r, hr⟩ := read_cons (W := W) (t := t) z.2
    exact ⟨_, _, congrArg PyData.tuple (by rw [hr, List.map_cons])⟩), fun x hx => ?_, fun ys g ey ng => ?_⟩
  · obtain ⟨z, hz, rfl⟩ := List.mem_map.mp hx
    exact row_dp (h.2 z hz)
  · obtain ⟨z, hz, rfl⟩ := List.mem_map.mp hx
    show (rowD W t z.2).depth ≤ 60
    rw [rowD_depth]
    decide
  · rw [es] at ey
    subst ey
    have sm : Same H (upd H g (.lst ((zs.map fun z => (V.ref z.1, rowD W t z.2)).map Prod.fst))) := same_upd ng
    refine q _ g zs sm ⟨?_, fun z hz => sm _ _ (h.2 z (perm.mem_iff.mp hz))⟩ ?_
    · rw [upd_same, List.map_map]
      rfl
    · have pm := perm.map (·.2)
      refine asc_eq ?_ heads_asc fun x => (pm.mem_iff).trans (mem x)
      have n2 : (zs.map (·.2)).Nodup := pm.nodup_iff.mpr nod
      have p2 : (zs.map (·.2)).Pairwise (· ≤ ·) := List.Pairwise.map _ (fun a b h => of_decide_eq_true h) pw
      exact List.Pairwise.imp₂ (fun a b h1 h2 => Nat.lt_of_le_of_ne h1 h2) p2 n2
def unV : V → Nat
  | .int i => i.toNat
  | _ => 0
theorem perm_nums {ys : List V} {l : List Nat} (h : ys.Perm (nums l)) : ∃ ps : List Nat, ys = nums ps ∧ ps.Perm l := by
  refine ⟨ys.map unV, ?_, ?_⟩
  · unfold nums
    rw [List.map_map]
    have : ∀ y ∈ ys, y = ((fun x : Nat => V.int (x : Nat)) ∘ unV) y := fun y hy => by
      obtain ⟨x, _, rfl⟩ := List.mem_map.mp (h.mem_iff.mp hy)
      rfl
    exact (List.map_id ys).symm.trans (List.map_congr_left this)
  · have := h.map unV
    have e : (nums l).map unV = l := by
      unfold nums
      rw [List.map_map]
      have : ∀ x ∈ l, (unV ∘ fun x : Nat => V.int (x : Nat)) x = id x := fun x _ => by
        show ((x : Int)).toNat = x
        omega
      rw [List.map_congr_left this, List.map_id]
    rwa [e] at this
section
variable {P : Program} {w : World} {K : PySem.W.Frag} {mg : Str → Option Value} {base : Heap}
theorem fn_of (T : Fx K mg) {d : He.DefD} {fd : FuncData} (F : FunD K d.name d.qual d.params d.body d.scope (d.dvs K) (d.kws K) (He.fAd K d.at_) fd) (h0 : d.dfl = []) {N ps : List Str} {k : Nat} {sp : Sp} (S : FnScope N ps d.scope)
    (len : ∀ vs H Q E, sp vs H Q E → vs.length = ps.length)
    (body : ∀ (f : Addr) (cdv : Value) (A : Around) (outer : List Env) (s : Shared) (H : Hp) (vs : List V) (Q : VK) (E : XK), Room k (A.deeper (envOfC d.qual d.scope s.heap.objs.size f cdv)) → sp vs H Q E →
      ∃ t, PSs (cxOf CX0 P w K mg base N d.qual d.scope f cdv A outer s H E).nox d.body t ∧ t { nx := fun _ H' => Q .non H', rt := Q } (start N vs) H) : FnOk P w K mg base CX0 (k + 1) (He.fAd K d.at_) fd ps sp := by
  have F' : FunD K d.name d.qual d.params d.body d.scope [] (d.kws K) (He.fAd K d.at_) fd := by
    have e : d.dvs K = [] := by unfold He.DefD.dvs; rw [h0]; rfl
    rw [e] at F
    exact F
  refine F'.ok S len fun cdv A outer s H vs Q E hr h => ?_
  obtain ⟨t, p, q⟩ := body _ cdv A outer s H vs Q E hr h
  exact ⟨t, p.nox, q⟩
def spTheLaw (K : PySem.W.Frag) : Sp := fun vs H Q _ => ∃ (a : Addr) (ns : List Int), vs = [.ref a] ∧ SqL K H a (ns.map V.int) ∧ ns.length ≤ 63 ∧ ∀ H', Q (.bl true) H'
theorem sc_law : FnScope ["_law_script", "_law_hand_here", "_law_parts", "_law_web_here", "_law_turn", "_law_words_here", "_law_book", "_law_step", "_law_text", "_law_rows", "_law_met", "_law_place", "_law_due", "_law_row"] ["_law_script"] dd55.scope := ⟨rfl, rfl, rfl, by decide +kernel, rfl, by decide +kernel, by decide +kernel⟩
theorem ok_law (T : Fx K mg) {fd : FuncData} (F : FunD K dd55.name dd55.qual dd55.params dd55.body dd55.scope (dd55.dvs K) (dd55.kws K) (He.fAd K dd55.at_) fd) : FnOk P w K mg base CX0 8 (He.fAd K dd55.at_) fd ["_law_script"] (spTheLaw K) := by
  refine fn_of (d := dd55) T F rfl sc_law (fun vs H Q E h => ?_) (fun f cdv A outer s H vs Q E hr h => ?_)
  · obtain ⟨_, _, rfl, _⟩ := h
    rfl
  · have nd := sc_law.nd
    have hu := hu_of hr
    obtain ⟨a, ns, rfl, hs, ln, q⟩ := h
    refine ⟨_, (pss_cons (ps_set (i := 1) nd rfl (Or.inl rfl) (pe_c (ok__law_hand T) hr T.g__law_hand (by rfl) (pa_cons (pv 0) pa_nil)))
      (pss_cons (ps_set (i := 2) nd rfl (Or.inl rfl) (pe_c (ok__law_web T) hr T.g__law_web (by rfl) (pa_cons (pv 1) (pa_cons (pe_int) pa_nil))))
      (pss_cons (ps_set (i := 3) nd rfl (Or.inl rfl) (pe_mk T.mk_Web (ok_Web___init__ T) hr T.g_Web (by rfl) (pa_cons (pe_ix (ixT K) (pv 2) (pe_int) (fun _ _ => rfl)) (pa_cons (pe_ix (ixT K) (pv 2) (pe_int) (fun _ _ => rfl)) pa_nil))))
      (pss_cons (ps_for PassesOwn.never rfl (pi_range1 (by rfl) T.f_range (pa_cons (pe_int) pa_nil)) (pg_name (i := 4) nd rfl (Or.inl rfl))
        (pss_cons (ps_set (i := 5) nd rfl (Or.inl rfl) (pe_c (ok__law_words T) hr T.g__law_words (by rfl) (pa_cons (pv 1) (pa_cons (pv 2) pa_nil))))
        (pss_cons (ps_set (i := 6) nd rfl (Or.inl rfl) (pe_mk T.mk_Book (ok_Book___init__ T) hr T.g_Book (by rfl) (pa_cons (pv 3) (pa_cons (pv 5) pa_nil))))
        (pss_one (ps_for PassesOwn.never rfl (pi_range1 (by rfl) T.f_range (pa_cons (pe_int) pa_nil)) (pg_name (i := 7) nd rfl (Or.inl rfl))
          (pss_cons (ps_set (i := 8) nd rfl (Or.inl rfl) (pe_c (ok__law_walk T) hr T.g__law_walk (by rfl) (pa_cons (pv 1) (pa_cons (pv 2) (pa_cons (pe_c (ok__law_draw T) hr T.g__law_draw (by rfl) (pa_cons (pv 1) (pa_cons (pe_int) pa_nil))) pa_nil)))))
          (pss_cons (ps_if (pt_cmpR op_eq (pe_c (ok__law_draw T) hr T.g__law_draw (by rfl) (pa_cons (pv 1) (pa_cons (pe_int) pa_nil))) (pe_int) (nomark _))
            (pss_one (ps_set (i := 8) nd rfl (Or.inl rfl) (pe_c (ok__law_walk T) hr T.g__law_walk (by rfl) (pa_cons (pv 1) (pa_cons (pv 2) (pa_cons (pe_int) pa_nil))))))
            pss_nil)
          (pss_cons (ps_set (i := 9) nd rfl (Or.inl rfl) (pe_c (ok__law_readings T) hr T.g__law_readings (by rfl) (pa_cons (pv 5) (pa_cons (pv 8) pa_nil))))
          (pss_cons (ps_set (i := 10) nd rfl (Or.inl rfl) (pe_lst pa_nil))
          (pss_cons (ps_for PassesOwn.never rfl (piL K (pe_c (ok__law_shuffled T) hr T.g__law_shuffled (by rfl) (pa_cons (pv 1) (pa_cons (pe_listRg rfl (by rfl) T.f_list (prg_1 (by rfl) T.f_range (pe_op op_add (pe_callB call_len_str (by rfl) T.f_len (by decide +kernel) (pa_cons (pv 8) pa_nil)) (pe_int)))) pa_nil)))) (pg_name (i := 11) nd rfl (Or.inr rfl))
            (pss_cons (ps_setLc (i := 12) (own := [("_law_row", 13)]) rfl nd rfl rfl (sw_true rfl rfl rfl (by decide +kernel)) (piL K (pv 9)) (blkOk_by (N := ["_law_script", "_law_hand_here", "_law_parts", "_law_web_here", "_law_turn", "_law_words_here", "_law_book", "_law_step", "_law_text", "_law_rows", "_law_met", "_law_place", "_law_due", "_law_row"]) (sc := dd55.scope) (by decide +kernel)) (fun _ _ _ _ _ => (pg_name (i := 13) nd rfl (Or.inl rfl))) (fun _ _ _ _ _ => pts_one (pt_cmpR (opIn K) (pv 11) (pv 13) rfl)) (fun _ _ _ _ _ => (pv 13)))
            (pss_cons (ps_if (PW.pt (pw_or (pt_cmpR op_ne (pe_callB (clenS K) (by rfl) T.f_len (by decide +kernel) (pa_cons (pv 12) pa_nil)) (pe_int) (nomark _)) (pw_or1 (pt_not (pt_val (pe_c (ok__law_is2 T) hr T.g__law_is (by rfl) (pa_cons (pe_c (ok_reading_at T) hr T.g_reading_at (by rfl) (pa_cons (pv 6) (pa_cons (pv 8) (pa_cons (pv 11) pa_nil)))) (pa_cons (pe_ix (ixL K) (pv 12) (pe_int) (fun _ _ => rfl)) pa_nil))))))))
              (pss_one (ps_ret (pe_bl)))
              pss_nil)
            (pss_one (ps_if (pt_cmpR (op_notInD (hu65 hr)) (pe_ix (ixL K) (pv 12) (pe_int) (fun _ _ => rfl)) (pv 10) rfl)
              (pss_one (ps_expr (pe_bm PySem.F.plainAttrs_list PySem.F.slot_list_append PySem.F.type_list_append mt_append (pv 10) (pa_cons (pe_ix (ixL K) (pv 12) (pe_int) (fun _ _ => rfl)) pa_nil))))
              pss_nil)))))
          (pss_one (ps_if (PW.pt (pw_or (pt_cmpR (op_neD hr.units) (pe_callB (cr_sortedX hr.units) (by rfl) T.f_sorted (by decide +kernel) (pa_cons (pv 10) pa_nil)) (pe_callB (cr_sortedX hr.units) (by rfl) T.f_sorted (by decide +kernel) (pa_cons (pv 9) pa_nil)) (nomark _)) (pw_or1 (pt_cmpR (op_neD hr.units) (pe_c (ok_readings T) hr T.g_readings (by rfl) (pa_cons (pv 6) (pa_cons (pv 8) pa_nil))) (pe_callB (cr_sortedX hr.units) (by rfl) T.f_sorted (by decide +kernel) (pa_cons (pv 10) pa_nil)) (nomark _)))))
            (pss_one (ps_ret (pe_bl)))
            pss_nil))))))))))))
      (pss_one (ps_ret (pe_bl))))))), ?_⟩
    refine ⟨_, rfl, a, ns, rfl, hs, ln, fun H1 h hc hk1 => ?_⟩
    refine ⟨.ref h, rfl, h, hc, rfl, hk1, fun H2 p n B zs hk2 sb2 pa2 ok => ?_⟩
    have wi := ok.tin
    -- the web
    refine ⟨.ref p, rfl, p, _, (0 : Nat), _, rfl, rfl, SqT.of pa2.hp, tup_at rfl, .ref p, rfl, p, _, (1 : Nat), _, rfl, rfl, SqT.of pa2.hp, tup_at rfl, fun wb dx nx0 nd0 ne => ?_⟩
    refine ⟨wb, n, B, dx, zs, rfl, upd_same, pa2.ar.same (made_same0 nx0 nd0), ok, fun H3 sb wa => ⟨rfl, ?_⟩⟩
    have wa : WebAt K H3 wb n (zs.map (·.2)) := wa
    have s23 := made_same nx0 nd0 ne sb
    have hk3 := hk2.same s23
    have pa3 := pa2.same s23
    refine ⟨_, rfl, by decide, by decide, ?_⟩
    refine for_range (n := 3) (fun i σ H => ∃ (y4 y5 y6 y7 y8 y9 y10 y11 y12 y13 : Option V), σ = [some (.ref a), some (.ref h), some (.ref p), some (.ref wb), y4, y5, y6, y7, y8, y9, y10, y11, y12, y13] ∧ HandAt H h hc ∧ PartsAt H p n B zs ∧ WebAt K H wb n (zs.map (·.2)))
      ⟨_, _, _, _, _, _, _, _, _, _, rfl, hk3, pa3, wa⟩ (fun i σ H4 hi ⟨y4, y5, y6, y7, y8, y9, y10, y11, y12, y13, es, hk4, pa4, wa4⟩ => ?_) (fun σ H4 ⟨y4, y5, y6, y7, y8, y9, y10, y11, y12, y13, es, hk4, pa4, wa4⟩ => q _)
    subst es
    refine ⟨.ref h, rfl, .ref p, rfl, h, hc, p, n, B, zs, rfl, hk4, pa4, ok, fun H5 T W hk5 sb5 hT5 wd => ?_⟩
    have wa5 := wa4.sb hk4 sb5
    have pa5 := pa4.sb hk4 sb5
    -- the book
    refine ⟨.ref wb, rfl, .ref T, rfl, fun b dx nx0 nd0 ne => ?_⟩
    have wa5m : WebAt K (upd (upd H5 dx (.own b)) b (.ins (He.ga K "Book") dx [])) wb n (zs.map (·.2)) := wa5.same (made_same0 nx0 nd0)
    refine ⟨b, wb, T, dx, W, n, _, rfl, upd_same, made_same0 nx0 nd0 _ _ hT5, wd, wa5m, wi, fun H6 sb bi => ⟨rfl, ?_⟩⟩
    have s56 := made_same nx0 nd0 ne sb
    have sit6 : Sit K H6 h hc p n B zs wb T b W := ⟨hk5.same s56, pa5.same s56, wa5.same s56, s56 _ _ hT5, bi⟩
    have co := wd.code
    refine ⟨_, rfl, by decide, by decide, ?_⟩
    refine for_range (n := 3) (fun j σ H => ∃ (y4 y7 y8 y9 y10 y11 y12 y13 : Option V), σ = [some (.ref a), some (.ref h), some (.ref p), some (.ref wb), y4, some (.ref T), some (.ref b), y7, y8, y9, y10, y11, y12, y13] ∧ Sit K H h hc p n B zs wb T b W)
      ⟨_, _, _, _, _, _, _, _, rfl, sit6⟩ (fun j σ H7 hj ⟨y4, y7, y8, y9, y10, y11, y12, y13, es, sit7⟩ => ?_) (fun σ H7 ⟨y4, y7, y8, y9, y10, y11, y12, y13, es, sit7⟩ => ⟨_, _, _, _, _, _, _, _, _, _, es, sit7.hk, sit7.pa, sit7.wa⟩)
    subst es
    refine ⟨.ref h, rfl, .ref p, rfl, .ref h, rfl, h, hc, 17, rfl, sit7.hk, by decide, by decide, fun H8 k hk17 hk8 sb8 => ?_⟩
    have sit8 := sit7.sb hk8 sb8
    refine ⟨h, hc, p, n, B, zs, k, rfl, sit8.hk, sit8.pa, ok, by omega, fun H9 t hk9 sb9 lt st => ?_⟩
    have sit9 := sit8.sb hk9 sb9
    dsimp only [gName]
    refine split (A := tIfS _ _ _) (fun σ' H' => ∃ (t : List Nat) (y4 y7 y9 y10 y11 y12 y13 : Option V), σ' = [some (.ref a), some (.ref h), some (.ref p), some (.ref wb), y4, some (.ref T), some (.ref b), y7, some (tx t), y9, y10, y11, y12, y13] ∧ t.length ≤ 120 ∧ Stretch n (zs.map (·.2)) t ∧ Sit K H' h hc p n B zs wb T b W) (fun σ' H10 ⟨t, y4, y7, y9, y10, y11, y12, y13, es, lt, st, sit10⟩ => ?_) (fun nxt key => ?_)
    rotate_left
    · refine ⟨.ref h, rfl, h, hc, 100, rfl, sit9.hk, by decide, by decide, fun H10 e he hk10 sb10 => ⟨rfl, ?_⟩⟩
      have sit10 := sit9.sb hk10 sb10
      by_cases c : e = 0
      · refine ⟨true, bl_t (by rw [c]; rfl), iteT ⟨.ref h, rfl, .ref p, rfl, h, hc, p, n, B, zs, 120, rfl, sit10.hk, sit10.pa, ok, by decide, fun H11 t2 hk11 sb11 lt2 st2 => ?_⟩⟩
        exact key _ _ ⟨t2, _, _, _, _, _, _, _, rfl, by omega, st2, sit10.sb hk11 sb11⟩
      · exact ⟨false, bl_f (fun z => c (by have := V.int.inj z; omega)), iteF (key _ _ ⟨t, _, _, _, _, _, _, _, rfl, by omega, st, sit10⟩)⟩
    subst es
    have abt := st.abc ok
    -- rows
    refine ⟨.ref T, rfl, _, rfl, T, W, t, rfl, sit10.hT, co, by omega, fun H11 rl qs s11 hrl eqs hrq => ?_⟩
    have rows11 : RowsAt H11 W t rl qs := ⟨hrl, hrq⟩
    have sit11 := sit10.same s11
    refine ⟨Nat.zero_le _, fun me nme => ?_⟩
    have s12 : Same H11 (upd H11 me (.lst [])) := same_upd nme
    have fme := sit11.hk.fresh nme
    have rlme : rl ≠ me := ne_of_none hrl nme
    -- the places
    refine ⟨.ref h, rfl, _, rfl, sx t, rfl, sx_fits (by omega), _, _, rfl, rfl, _, rfl, RgOk.of_le (by decide) (by rw [sx_len]; omega) (by decide) (by rw [sx_len]; omega), fun pl0 npl0 => ?_⟩
    have erg : rgV 0 ((((sx t).length : Nat) : Int) + 1) = nums (List.range (t.length + 1)) := by
      unfold rgV nums
      have e0 : ((((sx t).length : Nat) : Int) + 1 - 0).toNat = t.length + 1 := by rw [sx_len]; omega
      rw [e0]
      exact List.map_congr_left fun i _ => congrArg V.int (by omega)
    rw [erg]
    have s13 : Same (upd H11 me (.lst [])) (upd (upd H11 me (.lst [])) pl0 (.lst (nums (List.range (t.length + 1))))) := same_upd npl0
    have hk13 := (sit11.hk.same s12).same s13
    refine ⟨h, hc, pl0, _, rfl, hk13, SqL.of upd_same, by rw [nums_len, List.length_range]; omega, fun H14 pl ys hk14 sb14 hpl perm => ?_⟩
    obtain ⟨ps, rfl, pm⟩ := perm_nums perm
    have sit14 := ((sit11.same s12).same s13).sb hk14 sb14
    have rows14 : RowsAt H14 W t rl qs := by
      have r13 := (rows11.same s12).same s13
      refine ⟨sb14 _ _ ?_ r13.1, fun q hq => sb14 _ _ (hk13.ne (r13.2 q hq) fun _ z => nomatch z) (r13.2 q hq)⟩
      intro z
      obtain ⟨cells, i1, r1, s1, t1, w1⟩ := hk13
      have hh := w1.hh
      rw [← z, r13.1] at hh
      exact refs_hand (HO.lst.inj (Option.some.inj hh)).symm
    have hme14 : H14 me = some (.lst []) := sb14 _ _ fme.1.symm (s13 _ _ upd_same)
    have plen : ps.length = t.length + 1 := by rw [pm.length_eq, List.length_range]
    have plme : pl ≠ me := fun z => by
      rw [z, hme14] at hpl
      have hpl := HO.lst.inj (Option.some.inj hpl)
      have := congrArg List.length hpl
      rw [nums_len, plen] at this
      cases this
    refine ⟨pl, rfl, ⟨_, SqL.of hpl⟩, ?_⟩
    refine for_list (xs := nums ps) (fun i σ H => ∃ (ms : List (Addr × Nat)) (y4 y7 y11 y12 y13 : Option V), σ = [some (.ref a), some (.ref h), some (.ref p), some (.ref wb), y4, some (.ref T), some (.ref b), y7, some (tx t), some (.ref rl), some (.ref me), y11, y12, y13] ∧ SB me H14 H ∧ RowsAt H W t me ms ∧
        (ms.map (·.2)).Nodup ∧ (∀ x ∈ ms.map (·.2), x ∈ heads W t) ∧ ∀ x ∈ ps.take i, headOf W t x ∈ ms.map (·.2))
      ⟨[], _, _, _, _, _, rfl, SB.refl _ _, ⟨hme14, by simp⟩, by simp, by simp, by simp⟩ (fun i σ H _ ⟨_, _, _, _, _, _, _, sb, _⟩ => SqL.of (sb _ _ plme hpl)) (fun i x σ H15 ex ⟨ms, y4, y7, y11, y12, y13, es, sb15, rm, nod, sub, cov⟩ => ?_) (fun σ H15 ⟨ms, y4, y7, y11, y12, y13, es, sb15, rm, nod, sub, cov⟩ => ?_)
    · subst es
      obtain ⟨pc, epc, rfl⟩ := nums_get ex
      have hpc : pc ≤ t.length := by
        have := List.mem_range.mp (pm.mem_iff.mp (List.mem_of_getElem? epc))
        omega
      have sit15 := sit14.met hme14 fme.1 fme.2 sb15
      have rows15 : RowsAt H15 W t rl qs := ⟨sb15 _ _ rlme rows14.1, fun q hq => sb15 _ _ (ne_of (rows14.2 q hq) hme14 fun z => nomatch z) (rows14.2 q hq)⟩
      have lqs : qs.length ≤ 1001 := by
        have h1 := congrArg List.length eqs
        rw [List.length_map] at h1
        have h2 := List.length_filter_le (fun p => decide (bwd W t p = none)) (List.range (t.length + 1))
        rw [List.length_range] at h2
        unfold heads at h1
        omega
      -- the readings that have the place
      refine ⟨.ref rl, rfl, rl, rfl, ⟨_, SqL.of rows15.1⟩, fun D hD => ?_⟩
      refine lc_fm qs (Walk.len (walk_list (xs := qs.map fun q => V.ref q.1)) (by rw [List.length_map])) (by omega) hD (fun H16 sm => SqL.of (sm _ _ rows15.1)) (fun q => decide (pc ∈ readFrom W t q.2)) (fun q => .ref q.1) (fun k z x H16 H16' Ny Nn ez sm ny nn y => ?_) (fun H16 s16 hd16 => ?_)
      · obtain ⟨rfl, ex⟩ := y
        rw [List.getElem?_map, ez] at ex
        obtain rfl := Option.some.inj ex
        have hz := sm _ _ (rows15.2 z (List.mem_of_getElem? ez))
        refine ⟨rfl, _, rfl, .ref z.1, rfl, z.1, nums (readFrom W t z.2), rfl, .inr (SqT.of hz), rfl, nums_flat _, ?_⟩
        have e1 : (if false = true then !inV (.int (pc : Nat)) (nums (readFrom W t z.2)) else inV (.int (pc : Nat)) (nums (readFrom W t z.2))) = decide (pc ∈ readFrom W t z.2) := by rw [if_neg (by decide), inV_nums]
        refine ⟨_, congrArg V.bl e1, ?_⟩
        cases hb : decide (pc ∈ readFrom W t z.2) with
        | true => exact iteT ⟨_, rfl, ny _ (Same.refl _) hb⟩
        | false => exact iteF (nn _ (Same.refl _) hb)
      · obtain ⟨a0, ef, ma⟩ := filter_one (fun q => decide (pc ∈ readFrom W t q)) eqs (due_one co hpc)
        rw [ef] at hd16
        have sit16 := sit15.same s16
        have ha16 := s16 _ _ (rows15.2 _ ma)
        have lr := readFrom_len (W := W) (t := t) (t.length - headOf W t pc) (headOf W t pc)
        refine ⟨_, rfl, D, [V.ref a0], rfl, .inl (SqL.of hd16), rfl, false, rfl, iteF ?_⟩
        refine ⟨.ref b, rfl, _, rfl, _, rfl, b, wb, W, t, n, _, pc, rfl, sit16.bi, sit16.wa, wi, st, hpc, by omega, abt, fun H17 R s17 hR => ?_⟩
        have hd17 := s17 _ _ hd16
        have ha17 := s17 _ _ ha16
        refine ⟨.ref D, rfl, D, [V.ref a0], (0 : Nat), _, rfl, rfl, SqL.of hd17, atI_nat rfl, R, a0, readFrom W t (headOf W t pc), rfl, hR, ha17, by unfold readFrom; omega, fun H18 s18 => ⟨true, rfl, iteF ?_⟩⟩
        have hd18 := s18 _ _ hd17
        have ha18 := s18 _ _ ha17
        have s58 := s16.trans (s17.trans s18)
        have rm18 := rm.same s58
        have lms : ms.length ≤ 1001 := by
          have h1 := nodup_sub nod sub
          have h2 := congrArg List.length eqs
          rw [List.length_map] at h1 h2
          omega
        refine ⟨.ref D, rfl, D, [V.ref a0], (0 : Nat), _, rfl, rfl, SqL.of hd18, atI_nat rfl, .ref me, rfl, rowD W t (headOf W t pc), _, row_dp ha18, rows_dp rm18, rowD_shaped _, rows_shaped _, ?_⟩
        have e2 : (!((ms.map (·.2)).map (rowD W t)).any fun z => PyData.eqv z (rowD W t (headOf W t pc))) = !decide (headOf W t pc ∈ ms.map (·.2)) := by
          congr 1
          rw [Bool.eq_iff_iff, List.any_map, List.any_eq_true, decide_eq_true_iff]
          constructor
          · rintro ⟨y, hy, e⟩
            have e : PyData.eqv (rowD W t y) (rowD W t (headOf W t pc)) = true := e
            rw [rowD_eqv, decide_eq_true_iff] at e
            rw [← e]
            exact hy
          · intro hm
            refine ⟨_, hm, ?_⟩
            show PyData.eqv (rowD W t (headOf W t pc)) (rowD W t (headOf W t pc)) = true
            rw [rowD_eqv]
            exact decide_eq_true rfl
        refine ⟨_, congrArg V.bl e2, ?_⟩
        have sb18 : SB me H14 H18 := sb15.trans (.of s58)
        by_cases c : headOf W t pc ∈ ms.map (·.2)
        · rw [decide_eq_true c]
          exact iteF ⟨ms, _, _, _, _, _, rfl, sb18, rm18, nod, sub, take_all epc cov c⟩
        · rw [decide_eq_false c]
          refine iteT ⟨.ref me, rfl, .inl ⟨rfl, _, .inl (.inl rm18.1)⟩, .ref D, rfl, D, [V.ref a0], (0 : Nat), _, rfl, rfl, SqL.of hd18, atI_nat rfl, me, _, _, rfl, rfl, rm18.1, fits1 (by rw [List.length_map]; omega), ms ++ [(a0, headOf W t pc)], _, _, _, _, _, rfl, sb18.upd _, ⟨?_, fun z hz => ?_⟩, ?_, fun z hz => ?_, take_all epc (fun z hz => ?_) ?_⟩
          · rw [upd_same, List.map_append]
            rfl
          · rcases List.mem_append.mp hz with hz | hz
            · have h := rm18.2 z hz
              rw [upd_ne (ne_of h rm18.1 fun z => nomatch z)]
              exact h
            · rw [List.mem_singleton.mp hz, upd_ne (ne_of ha18 rm18.1 fun z => nomatch z)]
              exact ha18
          · rw [List.map_append, List.nodup_append]
            refine ⟨nod, List.pairwise_singleton _ _, fun x hx y hy e => c ?_⟩
            have hy : y = headOf W t pc := List.mem_singleton.mp hy
            rw [← hy, ← e]
            exact hx
          · rw [List.map_append, List.mem_append] at hz
            rcases hz with hz | hz
            · exact sub z hz
            · have hz : z = headOf W t pc := List.mem_singleton.mp hz
              rw [hz]
              exact (headOf_ok co pc pc (Nat.le_refl _) hpc).1
          · rw [List.map_append]
            exact List.mem_append_left _ (cov z hz)
          · rw [List.map_append]
            exact List.mem_append_right _ List.mem_cons_self
    · subst es
      rw [nums_len, List.take_length] at cov
      have sit15 := sit14.met hme14 fme.1 fme.2 sb15
      have rows15 : RowsAt H15 W t rl qs := ⟨sb15 _ _ rlme rows14.1, fun q hq => sb15 _ _ (ne_of (rows14.2 q hq) hme14 fun z => nomatch z) (rows14.2 q hq)⟩
      have mmem : ∀ x, x ∈ ms.map (·.2) ↔ x ∈ heads W t := fun x => ⟨sub x, fun hx => by
        have h1 := (heads_ok.mp hx).1
        have := cov x (pm.mem_iff.mpr (List.mem_range.mpr (by omega)))
        rwa [headOf_self hx] at this⟩
      have enV : (!PyData.eqv (.list ((heads W t).map (rowD W t))) (.list ((heads W t).map (rowD W t)))) = false := by rw [rows_eqv]; rfl
      -- sorted(met) != sorted(rows)
      refine ⟨_, rfl, ?_⟩
      dsimp only [tNil]
      refine rows_sorted rm nod mmem fun H16 l16 q16 s16 r16 e16 => ?_
      refine ⟨_, rfl, ?_⟩
      dsimp only [tNil]
      refine rows_sorted (rows15.same s16) (by rw [eqs]; exact heads_nod) (fun x => by rw [eqs]) fun H17 l17 q17 s17 r17 e17 => ?_
      have d16 := rows_dp (K := K) (r16.same s17)
      have d17 := rows_dp (K := K) r17
      rw [e16] at d16
      rw [e17] at d17
      refine ⟨_, _, d16, d17, rows_shaped _, rows_shaped _, false, congrArg V.bl enV, iteF ?_⟩
      have s15 := s16.trans s17
      have sit17 := sit15.same s15
      refine ⟨.ref b, rfl, _, rfl, b, wb, W, t, n, _, rfl, sit17.bi, sit17.wa, wi, st, co, by omega, abt, fun H18 l18 q18 s18 h1 h2 h3 => ?_⟩
      have r18 : RowsAt H18 W t l18 q18 := ⟨h1, h3⟩
      refine ⟨_, rfl, ?_⟩
      dsimp only [tNil]
      refine rows_sorted ((rm.same s15).same s18) nod mmem fun H19 l19 q19 s19 r19 e19 => ?_
      have d18 := rows_dp (K := K) (r18.same s19)
      have d19 := rows_dp (K := K) r19
      rw [h2] at d18
      rw [e19] at d19
      refine ⟨_, _, d18, d19, rows_shaped _, rows_shaped _, false, congrArg V.bl enV, iteF ?_⟩
      exact ⟨_, _, _, _, _, _, _, _, rfl, sit17.same (s18.trans s19)⟩
end
end L2.NJ
set_option Elab.async false
set_option linter.all false
set_option maxRecDepth 100000
set_option maxHeartbeats 0
namespace L2.NJ
open PySem PySem.Spec PyProof.Rows
theorem law_facts {P : Program} {w : World} {K : PySem.W.Frag} {h : Heap} {mg : Str → Option Value} {f : Addr} (X : K.In h) (G : h.Ns mainGlobals mg) (hfa : mg ("law" : Str) = some (.ref f)) (c : He.SaysD faD fnD K) :
    ∃ fd : FuncData, (∀ (s : Shared) (v : Value), BindsTo s fd ⟨[v], []⟩ [("_law_script", v)]) ∧ ∀ base : Heap, K.In base → base.Ns mainGlobals mg → FnOk P w K mg base CX0 8 f fd ["_law_script"] (spTheLaw K) := by
  have T : Fx K mg := ⟨c, h, X, G⟩
  have e := hfa.symm.trans T.g_law
  cases e
  obtain ⟨fd, F⟩ := c.def_ 55 (d := dd55) rfl
  have b := FunD.bindsA (ps := ["_law_script"]) F fun _ _ _ _ _ _ us hl => match us, hl with | [_], _ => rfl
  exact ⟨fd, fun s v => b s [v] rfl, fun base _ _ => ok_law T F⟩
end L2.NJ
open PySem PySem.W PySem.Calls PyProof.Rows
theorem PySem.Challenge.cw_neverjoin_k25_whole_the_reading_of_a_pla_holds : PySem.Challenge.rw_neverjoin_k25_whole_the_reading_of_a_pla.Holds := by
  w_on; o_law
  refine HandSHeadRun.head_any (r := L2.NJ.RR) (q := view L2.NJ.RR.prog [69]) (H := L2.NJ.hkD) (ob := L2.NJ.obD) (M := 30000) (loose := L2.NJ.looseD) (d := HandSHeadRun.topDef L2.NJ.RR.prog 69) (kwd := []) L2.NJ.obD_eq
    (by kernel_rfl) (fun s => by kernel_rfl) L2.NJ.runD (by kernel_rfl) (by kernel_rfl) (by kernel_rfl) (by rfl) (by first | assumption | decide +kernel) (by decide +kernel) ⟨rfl, rfl, rfl, rfl, rfl, by decide +kernel⟩ ?hw ?hc
  case hw => w_witness2
  case hc =>
    refine L2.walk_ofE (l := PySem.Challenge.rw_neverjoin_k25_whole_the_reading_of_a_pla) (n := 63) (k := 8) (x := "_law_script") (CX := L2.CX0) rfl (by decide) (by kernel_rfl) ⟨rfl, by decide, by decide⟩ ?F (fun _ _ _ _ z => z)
    intro w mg fa h Y G hmg0
    obtain ⟨K, KX, c⟩ := Y
    have hmg : mg ("law" : PySem.Str) = some (.ref fa) := by
      have e : (HandSHeadRun.topDef L2.NJ.RR.prog 69).name = ("law" : PySem.Str) := by kernel_rfl
      rw [← e]
      exact hmg0
    obtain ⟨fd, hb, hF⟩ := L2.NJ.law_facts (P := (PySem.Challenge.rw_neverjoin_k25_whole_the_reading_of_a_pla).prog) (w := w) KX G hmg c
    exact ⟨K, fd, L2.NJ.spTheLaw K, KX, hb, fun H a ns hl _ hS => ⟨a, ns, rfl, hS, hl, fun _ => rfl⟩, hF⟩
