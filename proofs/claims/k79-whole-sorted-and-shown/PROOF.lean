import PyProof.Rows.All
import Wide.All
import OpenK.AllK
import Wide.FinOn
import KE.KStateDown
import Lean
import HandS.Base
import HandS.Call
import HandS.Ends
import HandS.More
import HandS.Words
import HandS.WordsExc
import HandS.Defaults
import HandS.Head0
import HandS.Head1
import HandS.Head2
import HandS.HeadEnd
import HandS.HeadHook1
import HandS.HeadHook2
import HandS.HeadHook3
import HandS.HeadHook4
import HandS.HeadWalk
import PySem.Challenge.RW_takesworks_k79_whole_sorted_and_shown
import HandS.Walk
import HandS.Zip
import HandS.Style
import HandS.Text
import HandS.StrMore
import HandS.TupLe
import HandS.IsInst
import HandS.Set
import HandS.Strs
import HandS.Flow
import KE.GoesMore
import KE.GoesEnum
import KE.KRevSl
import PyProof.ListStr
import PyProof.EnumMake
import PyProof.StrBlock2
import HandS.Lambda
import HandS.Nested
import HandS.SortKw
import KE.SortData
import KE.SortKeyHeap
import KE.DataCmp
import HandS.ForMost
import HandS.Wide
import HandS.Rev
import HandS.Codes
set_option Elab.async false
set_option linter.all false
set_option maxRecDepth 100000
set_option maxHeartbeats 0
namespace K79
open PySem PySem.Spec PyProof.Rows L2
/-! the text by places -/
def top (i : Nat) : Stmt := PySem.Challenge.pw_takesworks_k79_whole_sorted_and_shown.main.body.getD i (.Pass ⟨0, 0, 0, 0⟩)
abbrev sIsWord : Stmt := top 6
abbrev sIsLetter : Stmt := top 12
abbrev sIsGroup : Stmt := top 13
abbrev sAreLetters : Stmt := top 14
abbrev sArePassed : Stmt := top 15
abbrev sInit : Stmt := inClass (top 16) 0
abbrev sLettersIn : Stmt := inClass (top 16) 3
abbrev sBare : Stmt := inClass (top 16) 4
abbrev sRank : Stmt := inClass (top 16) 5
abbrev sInOrder : Stmt := inClass (top 16) 6
abbrev sShown : Stmt := inClass (top 16) 7
abbrev sRead : Stmt := inClass (top 16) 8
abbrev sHand : Stmt := top 18
abbrev sTake : Stmt := top 19
abbrev sPick : Stmt := top 20
abbrev sLetters : Stmt := top 21
abbrev sPassed : Stmt := top 22
abbrev sText : Stmt := top 23
abbrev sExchanged : Stmt := top 24
abbrev sKey : Stmt := top 25
abbrev sTurned : Stmt := top 26
abbrev sMerged : Stmt := top 27
abbrev sSorted : Stmt := top 28
abbrev sNear : Stmt := top 29
abbrev sUnlike : Stmt := top 30
abbrev sAbout : Stmt := top 31
abbrev sLaw : Stmt := top 32
/-! the head: facts by names, the run -/
def dG (x : Str) (st : Stmt) : He.DefD := ⟨(x, none), x, x, defArgs st, defBody st, defScope st, [], []⟩
def dM (m q : Str) (st : Stmt) (dfl : List He.Dv) : He.DefD := ⟨("Custom", some m), m, q, defArgs st, defBody st, defScope st, dfl, []⟩
def fn : List He.DefD := [dG "is_word" sIsWord, dG "is_letter" sIsLetter, dG "is_group" sIsGroup, dG "are_letters" sAreLetters, dG "are_passed" sArePassed,
  dM "__init__" "Custom.__init__" sInit [.non, .bl true], dM "letters_in" "Custom.letters_in" sLettersIn [], dM "bare" "Custom.bare" sBare [], dM "rank" "Custom.rank" sRank [],
  dM "in_order" "Custom.in_order" sInOrder [.bl false], dM "shown" "Custom.shown" sShown [], dM "read" "Custom.read" sRead [],
  dG "_law_hand" sHand, dG "_law_take" sTake, dG "_law_pick" sPick, dG "_law_letters" sLetters, dG "_law_passed" sPassed, dG "_law_text" sText, dG "_law_exchanged" sExchanged, dG "_law_key" sKey,
  dG "_law_turned" sTurned, dG "_law_merged" sMerged, dG "_law_sorted_right" sSorted, dG "_law_near_right" sNear, dG "_law_first_unlike" sUnlike, dG "_law_about_right" sAbout, dG "law" sLaw]
def globs : List Str := ["is_word", "is_letter", "is_group", "are_letters", "are_passed", "Custom", "_law_hand", "_law_take", "_law_pick", "_law_letters", "_law_passed", "_law_text", "_law_exchanged", "_law_key", "_law_turned", "_law_merged",
  "_law_sorted_right", "_law_near_right", "_law_first_unlike", "_law_about_right", "law"]
def frees : List Str := ["isinstance", "str", "len", "all", "tuple", "set", "bool", "enumerate", "sorted", "abs", "int", "list", "range", "max", "min", "any", "zip"]
def attrs : List Str := ["letters", "passed", "comma", "numbers"]
def meths : List Str := ["letters_in", "bare", "rank", "in_order", "shown", "read"]
def fa : List He.Fa := globs.map He.Fa.glo ++ frees.map He.Fa.free ++ [.str "LETTERS" "abcdefghijklmnopqrstuvwxyz", .int "MOST_LETTERS" 8, .str "SMALL" "abcdefghijklmnopqrstuvwxyz", .int "MOST_GROUPS" 40, .int "MOST_PASSED" 20, .str "BREAK" ", ", .cls "Custom", .mkr "Custom"]
  ++ attrs.map (He.Fa.noat "Custom") ++ meths.map (He.Fa.meth "Custom")
def tf : List He.Defn := [("Custom", some "in_order")]
abbrev R : PySem.W.OpenRow := PySem.W.OpenLaw.row PySem.Challenge.rw_takesworks_k79_whole_sorted_and_shown
abbrev hk : PySem.W.Hook := He.hookX 6 fa fn [] tf (fun _ => true)
def ob (s : PySem.W.SharedT) : He.AlX := He.obsX 6 fa fn [] tf (fun _ => true) (HandSHeadRun.getT s)
theorem ob_eq (s : PySem.W.SharedT) : ob s = hk.obs s.abs := He.obsX_eq (HandSHeadRun.getT_eq s)
def names : List Str := ["NotSuch", "NoCustom", "LETTERS", "MOST_LETTERS", "is_word", "SMALL", "MOST_GROUPS", "MOST_PASSED", "BREAK", "is_letter", "is_group", "are_letters", "are_passed", "Custom", "_law_hand", "_law_take", "_law_pick", "_law_letters", "_law_passed",
  "_law_text", "_law_exchanged", "_law_key", "_law_turned", "_law_merged", "_law_sorted_right", "_law_near_right", "_law_first_unlike", "_law_about_right"]
theorem run (w : World) : HandSHeadRun.RunEq R (PySem.W.view R.prog [32]) hk ob 6000 names w := by
  intro os
  kernel_rfl
end K79
namespace K79
open PySem PySem.Spec PyProof.Rows L2
/-! enumerate over a tuple, over a text -/
def IteT (K : PySem.W.Frag) (a : Addr) : It :=
  ⟨fun i H => ∃ (xs : List V) (x : V), SqT K H a xs ∧ xs[i]? = some x,
   fun i H v H' => ∃ T x, v = .ref T ∧ H T = none ∧ H' = upd H T (.tup [.int (i : Nat), x]) ∧ ∀ xs, SqT K H a xs → xs[i]? = some x,
   fun i H => ∃ xs : List V, SqT K H a xs ∧ xs.length = i⟩
def IteS (z : Str) : It :=
  ⟨fun i _ => i < z.cps.size,
   fun i H v H' => ∃ T c, v = .ref T ∧ H T = none ∧ H' = upd H T (.tup [.int (i : Nat), .str ⟨#[c]⟩]) ∧ z.cps[i]? = some c,
   fun i _ => z.cps.size = i⟩
section
variable {P : Program} {w : World} {K : PySem.W.Frag} {elts : List Expr} {kk : Nat} {tpos : Pos}
theorem turn_enT (a e it : Addr) :
    Turn P w K (.Tuple elts kk tpos) (IteT K a) [e, it] e (fun i h => (∃ old, IsEnum h e it ((i : Nat) : Int) old) ∧ h.IsTupleIter it a i ∧ e ≠ it ∧ a ≠ it ∧ a ≠ e) where
  mem := List.mem_cons_self
  obj := fun i h st b hb => by
    obtain ⟨⟨old, he⟩, ⟨o, ho, hc, hd⟩, _⟩ := st
    rcases List.mem_cons.mp hb with z | z
    · subst z; exact ⟨_, he, fun v q => nomatch q⟩
    · have z' := List.mem_singleton.mp z
      subst z'; exact ⟨o, ho, fun v q => by rw [hd] at q; cases q⟩
  keep := fun i h h' st k => ⟨st.1.imp fun _ he => k e (by simp) _ he, st.2.1.at fun o q => k it (by simp) o q, st.2.2⟩
  item := by
    intro X hP hw hK hc i pins s σ H E I hf st hg
    subst hP hw hK
    obtain ⟨⟨old, he⟩, hit, hne, hai, hae⟩ := st
    obtain ⟨xs, x, hq, hx⟩ := hg
    obtain ⟨its, rv, p, hz⟩ := I.tuple hq
    obtain ⟨u, hu, ru⟩ := rv.get hx
    have hel : e < s.heap.objs.size := Heap.lt_size he
    have hil : it < s.heap.objs.size := by obtain ⟨_, q, _⟩ := hit; exact Heap.lt_size q
    have hlt : i < its.toArray.size := by
      rw [List.size_toArray]
      exact (List.getElem?_eq_some_iff.mp hu).1
    refine PySem.wpAny_pyNext_enum_itemC (PySem.Draws.tuple (A := X.A.in1) (I.ok.hd hc) it a hai its.toArray) he ⟨hit, p⟩ hlt hne (by
      intro q
      rcases List.mem_cons.mp q with z | z
      · exact hne z
      · exact hae (List.mem_singleton.mp z).symm) fun v h' tk hv ho hst hT hsz hk => ?_
    have ev : v = u := by
      have e1 : its[i]? = some v := by simpa using hv
      rw [hu] at e1
      exact (Option.some.inj e1).symm
    subst ev
    refine ⟨_, rfl, wpAny_letOwnedTupleGo_enum (s := { s with heap := h', toks := tk + 1 }) ho fun h'' he' sb => ?_⟩
    have hT2 : h''.get? s.heap.objs.size = some { cls := .type "tuple", data := .seq #[.int i tk, v] } := (sb.2 _ (Nat.ne_of_gt hel)).trans hT
    have new : ObjOk X.prog X.w (upd H s.heap.objs.size (.tup [.int (i : Nat), x])) h'' s.heap.objs.size (.tup [.int (i : Nat), x]) :=
      ⟨by show 2 ≤ sizeLine; decide, [.int i tk, v], .cons ⟨_, rfl⟩ (.cons ru .nil), ⟨_, hT2, rfl, _, rfl⟩⟩
    have I1 : Inv X pins σ (upd H s.heap.objs.size (.tup [.int (i : Nat), x])) { s with heap := h'', toks := tk + 1 } :=
      I.turnedNew (ch := [e, it]) (fun b ob hb q => (sb.2 b (fun z => hb (by simp [z]))).trans (hk b ob (fun z => hb (by simp [z])) (fun z => hb (by simp [z])) q)) hf (Nat.le_refl _) new
    refine ⟨.ref s.heap.objs.size, _, I1, rfl, ⟨_, x, rfl, I.hok.fresh (Nat.le_refl _), rfl, fun ys hy => by rw [I.tuple_inj hy hq]; exact hx⟩, ⟨⟨v, ?_⟩, hst.1.at fun o q => (sb.2 it (Ne.symm hne)).trans q, hne, hai, hae⟩, fun b hb => ?_⟩
    · rw [show ((i + 1 : Nat) : Int) = (i : Int) + 1 from rfl]; exact he'
    · have hb' : b < s.heap.objs.size := by
        rcases List.mem_cons.mp hb with z | z
        · rw [z]; exact hel
        · rw [List.mem_singleton.mp z]; exact hil
      rw [upd_ne (Nat.ne_of_lt hb')]
      exact (hf b hb).1
  done := by
    intro X hP hw hK hc i pins s σ H E I hf st hg
    subst hP hw hK
    obtain ⟨⟨old, he⟩, hit, hne, hai, hae⟩ := st
    obtain ⟨xs, hq, hx⟩ := hg
    obtain ⟨its, rv, p, hz⟩ := I.tuple hq
    obtain ⟨f0, f1, f2, f3, f4, f5⟩ := hf it (by simp)
    have hl := rv.length
    have hi : i = its.toArray.size := by rw [List.size_toArray]; omega
    subst hi
    exact PySem.wpAny_pyNext_enum_endD (PySem.Draws.tuple (A := X.A.in1) (I.ok.hd hc) it a hai its.toArray) he ⟨hit, p⟩ fun h' eb => ⟨rfl, I.turned (t' := s.toks) (fun b o hb q => eb b o hb q) f0 f1 f3 f4 f5⟩
  self := fun A i s Q E st h => let ⟨⟨_, he⟩, _⟩ := st; wpAny_pyIter_enum he h
theorem turn_enS (z : Str) (t : Tok) (e it : Addr) :
    Turn P w K (.Tuple elts kk tpos) (IteS z) [e, it] e (fun i h => (∃ old, IsEnum h e it ((i : Nat) : Int) old) ∧ h.IsStrIter it (strIterType z) z t i ∧ e ≠ it) where
  mem := List.mem_cons_self
  obj := fun i h st b hb => by
    obtain ⟨⟨old, he⟩, ⟨o, ho, hc, hd⟩, _⟩ := st
    rcases List.mem_cons.mp hb with z | z
    · subst z; exact ⟨_, he, fun v q => nomatch q⟩
    · have z' := List.mem_singleton.mp z
      subst z'; exact ⟨o, ho, fun v q => by rw [hd] at q; cases q⟩
  keep := fun i h h' st k => ⟨st.1.imp fun _ he => k e (by simp) _ he, let ⟨o, ho, r⟩ := st.2.1; ⟨o, k it (by simp) o ho, r⟩, st.2.2⟩
  item := by
    intro X hP hw hK hc i pins s σ H E I hf st hg
    subst hP hw hK
    obtain ⟨⟨old, he⟩, hit, hne⟩ := st
    have hel : e < s.heap.objs.size := Heap.lt_size he
    have hil : it < s.heap.objs.size := by obtain ⟨_, q, _⟩ := hit; exact Heap.lt_size q
    refine PySem.wpAny_pyNext_enum_itemC (PySem.Draws.text (A := X.A.in1) (I.ok.hd hc) it z t) he hit hg hne (fun q => hne (List.mem_singleton.mp q)) fun v h' tk hv ho hst hT hsz hk => ?_
    obtain ⟨c, u, hcx, ev⟩ := hv
    subst ev
    refine ⟨_, rfl, wpAny_letOwnedTupleGo_enum (s := { s with heap := h', toks := tk + 1 }) ho fun h'' he' sb => ?_⟩
    have hT2 : h''.get? s.heap.objs.size = some { cls := .type "tuple", data := .seq #[.int i tk, .str ⟨#[c]⟩ u] } := (sb.2 _ (Nat.ne_of_gt hel)).trans hT
    have new : ObjOk X.prog X.w (upd H s.heap.objs.size (.tup [.int (i : Nat), .str ⟨#[c]⟩])) h'' s.heap.objs.size (.tup [.int (i : Nat), .str ⟨#[c]⟩]) :=
      ⟨by show 2 ≤ sizeLine; decide, [.int i tk, .str ⟨#[c]⟩ u], .cons ⟨_, rfl⟩ (.cons ⟨_, rfl⟩ .nil), ⟨_, hT2, rfl, _, rfl⟩⟩
    have I1 : Inv X pins σ (upd H s.heap.objs.size (.tup [.int (i : Nat), .str ⟨#[c]⟩])) { s with heap := h'', toks := tk + 1 } :=
      I.turnedNew (ch := [e, it]) (fun b ob hb q => (sb.2 b (fun z => hb (by simp [z]))).trans (hk b ob (fun z => hb (by simp [z])) (fun z => hb (by simp [z])) q)) hf (Nat.le_refl _) new
    refine ⟨.ref s.heap.objs.size, _, I1, rfl, ⟨_, c, rfl, I.hok.fresh (Nat.le_refl _), rfl, hcx⟩, ⟨⟨.str ⟨#[c]⟩ u, ?_⟩, let ⟨o, ho, r⟩ := hst; ⟨o, (sb.2 it (Ne.symm hne)).trans ho, r⟩, hne⟩, fun b hb => ?_⟩
    · rw [show ((i + 1 : Nat) : Int) = (i : Int) + 1 from rfl]; exact he'
    · have hb' : b < s.heap.objs.size := by
        rcases List.mem_cons.mp hb with z | z
        · rw [z]; exact hel
        · rw [List.mem_singleton.mp z]; exact hil
      rw [upd_ne (Nat.ne_of_lt hb')]
      exact (hf b hb).1
  done := by
    intro X hP hw hK hc i pins s σ H E I hf st hg
    subst hP hw hK
    obtain ⟨⟨old, he⟩, hit, hne⟩ := st
    obtain ⟨f0, f1, f2, f3, f4, f5⟩ := hf it (by simp)
    have hi : i = z.cps.size := Eq.symm hg
    subst hi
    exact PySem.wpAny_pyNext_enum_endD (PySem.Draws.text (A := X.A.in1) (I.ok.hd hc) it z t) he hit fun h' eb => ⟨rfl, I.turned (t' := s.toks) (fun b o hb q => eb b o hb q) f0 f1 f3 f4 f5⟩
  self := fun A i s Q E st h => let ⟨⟨_, he⟩, _⟩ := st; wpAny_pyIter_enum he h
end
/-- enumerate(v): its two new cells -/
theorem enum_new {prog : Program} {w : World} {A : Around} {E : Value → Shared → Prop} {s : Shared} {v : Value} {o : Obj} {H : Heap → Prop} {Q : Value → Shared → Prop} (B : Begins v o H)
    (M : Meets (Builtin.«enumerate.__new__» ⟨[.type "enumerate", v], []⟩) (fun _ R s => H s.heap ∧
      R (.ok (.ret (.ref (s.heap.push o).objs.size))) { s with heap := (s.heap.push o).push { cls := .type "enumerate", data := .fields #[.none, .bool false, .ref s.heap.objs.size, rawInt 0, .none, .none] } }))
    (h1 : H s.heap)
    (h : ∀ h', IsEnum h' (s.heap.objs.size + 1) s.heap.objs.size 0 .none → h'.get? s.heap.objs.size = some o → (∀ b o', s.heap.get? b = some o' → h'.get? b = some o') → Q (.ref (s.heap.objs.size + 1)) { s with heap := h' }) :
    wpAny (model prog w) A (call (.type "enumerate") [v]) Q E s := by
  refine callType_new F.called_enumerate (by decide) (F.typeCall_enumerate_1 _) (F.newCall_enumerate_1 _) (fun obj => F.args_object_init_2 obj _) F.entry_enumerate_new M ⟨h1, ?_⟩
  have hz : (s.heap.push o).objs.size = s.heap.objs.size + 1 := Heap.size_push ..
  show _ ∧ _
  rw [hz]
  have he : IsEnum ((s.heap.push o).push { cls := .type "enumerate", data := .fields #[.none, .bool false, .ref s.heap.objs.size, rawInt 0, .none, .none] }) (s.heap.objs.size + 1) s.heap.objs.size 0 .none := by
    have q := Heap.get?_push_size (s.heap.push o) (o := { cls := .type "enumerate", data := .fields #[.none, .bool false, .ref s.heap.objs.size, rawInt 0, .none, .none] }) rfl
    rw [hz] at q; exact q
  exact ⟨⟨_, he, rfl⟩, h _ he (Heap.get?_push_of_some _ (Heap.get?_push_size _ B.free)) fun b o' x => Heap.get?_push_of_some _ (Heap.get?_push_of_some _ x)⟩
theorem meets_enT {v : Value} {o : Obj} {H : Heap → Prop} (B : Begins v o H) :
    Meets (Builtin.«enumerate.__new__» ⟨[.type "enumerate", v], []⟩) (fun _ R s => H s.heap ∧
      R (.ok (.ret (.ref (s.heap.push o).objs.size))) { s with heap := (s.heap.push o).push { cls := .type "enumerate", data := .fields #[.none, .bool false, .ref s.heap.objs.size, rawInt 0, .none, .none] } }) :=
  .of_wp fun prog w A R s h => by
    obtain ⟨hp, g, d, tk, os⟩ := s; obtain ⟨h1, h⟩ := h
    have hsub := sub_enumerate
    have q1 : ∀ {A' : Around} {E : Value → Shared → Prop} {Q : Value → Shared → Prop}, Q (.ref hp.objs.size) ⟨hp.push o, g, d, tk, os⟩ → wpAny (model prog w) A' (pyIter v) Q E ⟨hp, g, d, tk, os⟩ :=
      fun q => B.iter prog w _ _ ⟨hp, g, d, tk, os⟩ _ h1 q
    wp_walk using q1
    refine wpAny_stack_any fun st => wpAny_pure ?_
    split
    · rename_i c _ _ _ _ _
      cases (c == Value.type "enumerate")
      · wp_walk using q1
        exact ⟨_, rfl, h⟩
      · wp_walk using q1
        exact ⟨_, rfl, h⟩
    · wp_walk using q1
      exact ⟨_, rfl, h⟩
section
variable {X : Cx} {e : Expr} {ta : TA} {p pos tpos : Pos} {elts : List Expr} {kk : Nat}
theorem two_new {pins : List (Addr × Obj)} {σ : L2.St} {H : Hp} {s : Shared} (I : Inv X pins σ H s) : ∀ b ∈ [s.heap.objs.size + 1, s.heap.objs.size], FpOk X pins H b := fun b hb => by
  have hle : s.heap.objs.size ≤ b := by
    rcases List.mem_cons.mp hb with z | z
    · rw [z]; exact Nat.le_add_right _ _
    · rw [List.mem_singleton.mp z]; exact Nat.le_refl _
  exact I.fpOk hle (I.hok.fresh hle)
theorem pi_enT (hg : Gl X "enumerate") (hm : X.mg "enumerate" = none) (ha : PA X [e] ta) (hs : starEach [e] X.env = [(false, eval e X.env)] := by rfl) :
    PI X (.Tuple elts kk tpos) (.Call (.Name "enumerate" p) [e] [] pos) (fun σ H R => ta σ H fun vs H1 => ∃ a xs, vs = [.ref a] ∧ SqT X.K H1 a xs ∧ R (IteT X.K a) H1) := by
  refine ⟨fun pins s σ H R I h => ?_⟩
  refine Call_ (ld_blt I hg hm boot_enumerate (PyProof.Rows.callWith_type1 (thn (ha.run pos pins s σ H _ I h) fun us s1 ⟨vs, H1, I1, r1, q1⟩ => ?_) hs rfl))
  obtain ⟨a, xs, ex, hq, q⟩ := q1
  subst ex
  obtain ⟨u, rfl, ru⟩ := vals1 r1
  cases ru
  obtain ⟨its, rv, p', hz⟩ := I1.tuple hq
  have hal : a < s1.heap.objs.size := p'.lt
  refine enum_new (begins_tuple a its.toArray) (meets_enT (begins_tuple a its.toArray)) p' fun h' he hit hk => wpAny_pyIter_enum he ?_
  have I2 : Inv X pins σ H1 { s1 with heap := h' } := I1.kept (t' := s1.toks) hk
  exact ⟨s1.heap.objs.size + 1, [s1.heap.objs.size + 1, s1.heap.objs.size], _, _, H1, rfl, I2, turn_enT a (s1.heap.objs.size + 1) s1.heap.objs.size,
    ⟨⟨.none, he⟩, ⟨_, hit, rfl, rfl⟩, Nat.succ_ne_self _, Nat.ne_of_lt hal, Nat.ne_of_lt (Nat.lt_succ_of_lt hal)⟩, two_new I1, q⟩
theorem pi_enS (hg : Gl X "enumerate") (hm : X.mg "enumerate" = none) (ha : PA X [e] ta) (hs : starEach [e] X.env = [(false, eval e X.env)] := by rfl) :
    PI X (.Tuple elts kk tpos) (.Call (.Name "enumerate" p) [e] [] pos) (fun σ H R => ta σ H fun vs H1 => ∃ z, vs = [.str z] ∧ R (IteS z) H1) := by
  refine ⟨fun pins s σ H R I h => ?_⟩
  refine Call_ (ld_blt I hg hm boot_enumerate (PyProof.Rows.callWith_type1 (thn (ha.run pos pins s σ H _ I h) fun us s1 ⟨vs, H1, I1, r1, q1⟩ => ?_) hs rfl))
  obtain ⟨z, ex, q⟩ := q1
  subst ex
  obtain ⟨u, rfl, ru⟩ := vals1 r1
  obtain ⟨t, rfl⟩ := ru
  refine enum_new (begins_text z t) (meets_enT (begins_text z t)) trivial fun h' he hit hk => wpAny_pyIter_enum he ?_
  have I2 : Inv X pins σ H1 { s1 with heap := h' } := I1.kept (t' := s1.toks) hk
  exact ⟨s1.heap.objs.size + 1, [s1.heap.objs.size + 1, s1.heap.objs.size], _, _, H1, rfl, I2, turn_enS z t (s1.heap.objs.size + 1) s1.heap.objs.size,
    ⟨⟨.none, he⟩, ⟨_, hit, rfl, rfl⟩, Nat.succ_ne_self _⟩, two_new I1, q⟩
end
theorem walk_enT {K : PySem.W.Frag} {a : Addr} {xs : List V} : Walk (IteT K a) xs.length (fun H => SqT K H a xs) (YPair (fun i => some (.int (i : Nat))) (fun i => xs[i]?)) := by
  refine ⟨fun i _ hi q => ⟨xs, xs[i], q, by simp [hi]⟩, fun _ q => ⟨xs, q, rfl⟩, fun i H v H' _ q y => ?_⟩
  obtain ⟨T, x, h1, h2, h3, h4⟩ := y
  exact ⟨T, .int (i : Nat), x, h1, h2, h3, rfl, h4 xs q⟩
theorem walk_enS {z : Str} : Walk (IteS z) z.cps.size (fun _ => True) (YPair (fun i => some (.int (i : Nat))) (fun i => (z.cps[i]?).map fun c => .str ⟨#[c]⟩)) := by
  refine ⟨fun i _ hi q => hi, fun _ q => rfl, fun i H v H' _ q y => ?_⟩
  obtain ⟨T, c, h1, h2, h3, h4⟩ := y
  exact ⟨T, .int (i : Nat), .str ⟨#[c]⟩, h1, h2, h3, rfl, by show Option.map _ (z.cps[i]?) = _; rw [h4]; rfl⟩

/-! xs.extend(tuple) -/
theorem meets_extT (l : Addr) (items : Array Value) (n : Nat) (b : Addr) (items2 : Array Value) (n2 : Nat) (dct : Option Addr) (sl : Array (Option Value)) (hs0 : ¬(!items.isEmpty && Builtin.List.listTooLong (items.size + items2.size)) = true)
    (hs1 : items.size ≤ sizeLine) (hs2 : items.size + items2.size ≤ sizeLine + 1) :
    Meets (Builtin.«list.extend» ⟨[.ref l, .ref b], []⟩) (fun _ R s => s.heap.get? l = some { cls := .type "list", dict := none, data := .seq items n, slots := #[] } ∧ s.heap.get? b = some { cls := .type "tuple", dict := dct, data := .seq items2 n2, slots := sl } ∧ R (.ok (.ret Value.none)) { s with heap := s.heap.update l (Obj.mapSeq fun x => x ++ items2), toks := s.toks }) :=
  .of_wp fun prog w A R s h => by
    obtain ⟨hp, g, d, tk, os⟩ := s; obtain ⟨hl, hb, h⟩ := h
    have f1 := AutoSeq1.idx_int; have f2 := AutoSeq1.sub_tuple_tuple; have f3 := AutoSeq1.sub_list_list; have f4 := AutoSeq1.sub_tuple_list; have f5 := AutoSeq1.sub_list_tuple
    have hz' : (items ++ items2).size ≤ sizeLine + 1 := by rw [Array.size_append]; exact hs2
    wp_walk using (wpAny_updateSeq hl rfl (hz := hs1) (_hz' := hz')), AutoSeq1.wpAny_loadPart' hl, AutoSeq1.wpAny_loadPart' hb
    exact ⟨_, rfl, h⟩
theorem mt_extT {X : Cx} : MtM X "list.extend" (fun x vs H Q => ∃ l b xs zs, x = .ref l ∧ vs = [.ref b] ∧ H l = some (.lst xs) ∧ SqT X.K H b zs ∧ xs.length + zs.length ≤ sizeLine ∧ Q .non (upd H l (.lst (xs ++ zs)))) := by
  intro pins s σ H x vs v us Q I rx rv h
  obtain ⟨l, b, xs, zs, rfl, rfl, hH, hB, hz, q⟩ := h
  cases rx
  obtain ⟨u, rfl, ru⟩ := rv.one
  cases ru
  obtain ⟨z, its, n, r, hl, e⟩ := I.lstM hH
  obtain ⟨its2, r2, ⟨⟨c2, d2, dt2, sl2⟩, e2, hc2, n2, hd2⟩, _⟩ := I.tuple hB
  replace hc2 : c2 = .type "tuple" := hc2
  replace hd2 : dt2 = .seq its2.toArray n2 := hd2
  subst hc2 hd2
  have hl2 := r2.length
  have hsz : its.toArray.size + its2.toArray.size ≤ sizeLine := by rw [List.size_toArray, List.size_toArray]; omega
  have hlong : ¬ (!its.toArray.isEmpty && Builtin.List.listTooLong (its.toArray.size + its2.toArray.size)) = true := by
    rw [notLongL hsz, Bool.and_false]
    exact Bool.false_ne_true
  refine call_meets F.slot_list_extend ⟨_, e, rfl⟩ F.entry_list_extend (F.args_list_extend_2 _ _)
    (meets_extT l its.toArray n b its2.toArray n2 _ _ hlong (by rw [List.size_toArray]; omega) (by omega)) ⟨e, e2, ?_⟩
  refine ⟨.non, _, I.lset (its' := its ++ its2) hH e (by simp) (r.append r2) ?_, rfl, q⟩
  rw [List.length_append]
  omega

/-! list(text) -/
def signsV (z : Str) : List V := z.cps.toList.map fun c => V.str ⟨#[c]⟩
theorem vals_signs {z : Str} {acc : Array Value} (h : ItemsOf (SignAt z) acc z.cps.size) : Vals (signsV z) acc.toList := by
  have gen : ∀ (cs : List Nat) (us : List Value), us.length = cs.length → (∀ (j : Nat) (v : Value), us[j]? = some v → ∃ c u, cs[j]? = some c ∧ v = .str ⟨#[c]⟩ u) → Vals (cs.map fun c => V.str ⟨#[c]⟩) us := by
    intro cs
    induction cs with
    | nil => intro us hl _; rw [List.length_nil] at hl; rw [List.length_eq_zero_iff.mp hl]; exact .nil
    | cons c cs ih =>
      intro us hl hu
      cases us with
      | nil => simp at hl
      | cons u us =>
        obtain ⟨c', t, h1, h2⟩ := hu 0 u rfl
        have e1 : c' = c := by simpa using h1.symm
        subst e1
        refine .cons ⟨t, h2⟩ (ih us (by simpa using hl) fun j v hj => ?_)
        obtain ⟨c2, t2, h3, h4⟩ := hu (j + 1) v (by simpa using hj)
        exact ⟨c2, t2, by simpa using h3, h4⟩
  refine gen z.cps.toList acc.toList (by rw [Array.length_toList, Array.length_toList]; exact h.1) fun j v hj => ?_
  obtain ⟨c, u, h1, h2⟩ := h.2 j v (by simpa using hj)
  exact ⟨c, u, by simpa using h1, h2⟩
theorem call_listS {X : Cx} (hc : X.calm = true) : CallR X (.type "list") (fun xs H Q => ∃ z, xs = [.str z] ∧ z.cps.size ≤ sizeLine ∧ ∀ l, H l = none → Q (.ref l) (upd H l (.lst (signsV z)))) := by
  intro pins s σ H xs us Q I r h
  obtain ⟨z, rfl, hz, q⟩ := h
  obtain ⟨u, rfl, rx⟩ := vals1 r
  obtain ⟨t, rfl⟩ := rx
  refine PySem.call_list_str (I.ok.hd hc) z t (fun h' tk acc c' hk hl hi => ?_) hz
  have hv : Vals (signsV z) acc.toList := vals_signs hi
  refine ⟨.ref s.heap.objs.size, _, I.laid (t' := tk) hk (Nat.le_refl _) (show ObjOk X.prog X.w _ h' _ (.lst (signsV z)) from ⟨?_, acc.toList, c', hv, by rw [Array.toArray_toList]; exact hl⟩), rfl, q _ (I.hok.fresh (Nat.le_refl _))⟩
  unfold signsV
  rw [List.length_map, Array.length_toList]
  exact hz

/-! text * int -/
theorem op_mulS {X : Cx} : OpR X (binaryOp .Mult) (fun x y H Q => ∃ z i, x = .str z ∧ y = .int i ∧ MulOk z i ∧ Q (.str (Txt.mul z i)) H) := by
  intro pins s σ H x y v u Q I rx ry h
  obtain ⟨z, i, rfl, rfl, ok, q⟩ := h
  obtain ⟨t, rfl⟩ := rx
  obtain ⟨t', rfl⟩ := ry
  exact PySem.SB.mul ok fun t2 k => ⟨.str _, H, I.tok k, ⟨t2, rfl⟩, q⟩

/-! text.rpartition(text) -/
theorem mt_rpart {X : Cx} : MtR X "str.rpartition" (fun x xs H Q => ∃ a b, x = .str a ∧ xs = [.str b] ∧ (b.length == 0) = false ∧ a.length ≤ sizeLine ∧
    ∀ p, H p = none → Q (.ref p) (upd H p (.tup [.str (Txt.rpartition a b).1, .str (Txt.rpartition a b).2.1, .str (Txt.rpartition a b).2.2]))) := by
  intro pins s σ H x xs v us Q I rx rs h
  obtain ⟨a, b, rfl, rfl, hb, hz, h⟩ := h
  obtain ⟨t, rfl⟩ := rx
  obtain ⟨u1, rfl, r1⟩ := vals1 rs
  obtain ⟨u, rfl⟩ := r1
  refine call_meets F.slot_str_rpartition (typeIs_str _ _ _) F.entry_str_rpartition (F.args_str_rpartition_2 _ _) (meets_str_rpartition a b t u hb hz) ?_
  unfold Txt.rpartition at h
  revert h
  cases Builtin.Str.lastOccurrence a b 0 a.length with
  | none => intro h; exact laid_parts I h
  | some i => intro h; exact laid_parts I h

/-! tuple[::-1] -/
theorem pick_rev (xs : Array Value) : ((List.range xs.size).filterMap fun (k : Nat) => xs[(((xs.size : Int) - 1) + (k : Int) * (-1)).toNat]?).toArray = xs.toList.reverse.toArray := by
  congr 1
  have gen : ∀ n, n ≤ xs.size → (List.range n).filterMap (fun (k : Nat) => xs[(((xs.size : Int) - 1) + (k : Int) * (-1)).toNat]?) = (xs.toList.reverse).take n := by
    intro n
    induction n with
    | zero => intro _; rfl
    | succ n ih =>
      intro hn
      have e1 : (((xs.size : Int) - 1) + (n : Int) * (-1)).toNat = xs.size - 1 - n := by omega
      have h1 : xs.size - 1 - n < xs.size := by omega
      rw [List.range_succ, List.filterMap_append, ih (by omega), List.take_add_one]
      congr 1
      have e2 : xs.toList.reverse[n]? = some xs[xs.size - 1 - n] := by
        rw [List.getElem?_reverse (by rw [Array.length_toList]; omega)]
        simp [h1]
      rw [e2, List.filterMap_cons, e1]
      simp [h1]
  rw [gen xs.size (Nat.le_refl _), List.take_of_length_le (by simp)]
theorem getItem_tuple_rev {prog : Program} {w : World} {A : Around} {E : Value → Shared → Prop} {s : Shared} {t sl : Addr} {items : Array Value} {tk : Tok} {Q : Value → Shared → Prop} (ht : IsTup s.heap t items)
    (hs : s.heap.IsSliceOf sl .none .none (.int (-1) tk))
    (h : Q (.ref s.heap.objs.size) { s with heap := s.heap.push { cls := .type "tuple", data := .seq items.toList.reverse.toArray } })
    (hsz : items.size ≤ sizeLine) : wpAny (model prog w) A (getItem (.ref t) (.ref sl)) Q E s := by
  have hok : sizeOk (.seq items.toList.reverse.toArray) := by
    show (items.toList.reverse.toArray).size ≤ sizeLine
    rw [List.size_toArray, List.length_reverse, Array.length_toList]
    exact hsz
  obtain ⟨os, hos, hcs, hds⟩ := id hs
  have hTs : s.TypeIs (.ref sl) "slice" := ⟨os, hos, hcs⟩
  unfold getItem
  try with_reducible refine wpAny_holding ?_
  first | refine wpAny_bind (wpAny_pure ?_) | skip
  refine wpAny_bind (wpAny_sequenceKey ht.typeIs (by decide) ?_)
  refine wpAny_bind (wpAny_callSpecial?_slot (name := Str.ofString "__getitem__") ht.typeIs PyProof.Rows.slot_tuple_getitem
    (wpAny_call_entry PyProof.Rows.slot_tuple_getitem ht.typeIs entry_tuple_getitem ?_ (args_tuple_getitem _ _)))
  show wpAny _ _ (Builtin.Tuple.tupleItemsOf (.ref t) >>= _) _ _ s
  refine wpAny_bind (tupleItemsOf_ ht ?_)
  refine wpAny_bind (wpAny_typeOf hTs ?_)
  rw [if_pos (by decide)]
  refine wpAny_bind (m := Builtin.Slice.sliceApplied _ _) ?_
  unfold Builtin.Slice.sliceApplied Builtin.Slice.sliceFields
  refine wpAny_bind (wpAny_bind (wpAny_field hos hds (x := .none) rfl (wpAny_bind (wpAny_field hos hds (x := .none) rfl (wpAny_bind (wpAny_field hos hds (x := .int (-1) tk) rfl (wpAny_pure ?_)))))))
  refine wpAny_bind (slicePart_int ?_)
  show wpAny _ _ (if ((-1 : Int) == 0) = true then _ else _) _ _ s
  rw [if_neg (by decide)]
  refine wpAny_bind (slicePart_none (wpAny_bind (slicePart_none (wpAny_bind (wpAny_pure ?_)))))
  have e1 : Builtin.Slice.sliceAdjust none none (-1) (items.size : Int) = ((items.size : Int) - 1, -1) := rfl
  show wpAny _ _ (match Builtin.Slice.sliceAdjust none none (-1) (items.size : Int) with | (lo, hi) => pure (lo, (-1 : Int), Builtin.Slice.slicePlaces lo hi (-1))) _ _ s
  rw [e1]
  have e2 : Builtin.Slice.slicePlaces ((items.size : Int) - 1) (-1) (-1) = items.size := by
    unfold Builtin.Slice.slicePlaces
    have h1 : ¬ ((-1 : Int) > 0) := by decide
    rw [if_neg h1, show (-(-1) : Int) = 1 by decide, Int.ediv_one]
    split <;> omega
  show wpAny _ _ (pure ((items.size : Int) - 1, (-1 : Int), Builtin.Slice.slicePlaces ((items.size : Int) - 1) (-1) (-1))) _ _ s
  rw [e2]
  refine wpAny_pure ?_
  have hno : ¬ (((items.size : Int) - 1 == 0 && (-1 : Int) == 1 && items.size == items.size) = true) := by
    intro q
    rw [Bool.and_eq_true, Bool.and_eq_true] at q
    exact absurd q.1.2 (by decide)
  show wpAny _ _ (if ((items.size : Int) - 1 == 0 && (-1 : Int) == 1 && items.size == items.size) = true then _ else _) _ _ s
  rw [if_neg hno, pick_rev]
  first
    | exact wpAny_bind (m := Builtin.Tuple.tupleExact _) (wpAny_newObj_type (wpAny_pure ⟨_, rfl, wpAny_pure h⟩) hok)
    | exact wpAny_bind (m := Builtin.Tuple.tupleExact _) (wpAny_newObj_type (wpAny_bind (wpAny_pure (wpAny_pure ⟨_, rfl, wpAny_pure h⟩))) hok)
    | exact wpAny_bind (wpAny_bind (m := Builtin.Tuple.tupleExact _) (wpAny_newObj_type (wpAny_pure (wpAny_pure ⟨_, rfl, wpAny_pure h⟩)) hok))
    | exact wpAny_bind (wpAny_bind (m := Builtin.Tuple.tupleExact _) (wpAny_newObj_type (wpAny_pure ⟨_, rfl, wpAny_pure h⟩) hok))
theorem pe_revT {X : Cx} {e : Expr} {te : TE} {k : Nat} {p1 p2 p3 pos : Pos} (he : PE X e te) : PE X (.Subscript e (.Slice none none (some (.UnaryOp .USub (.Constant (.int 1) k p1) p2)) p3) pos)
    (fun σ H Q => te σ H fun x H1 => ∃ a xs, x = .ref a ∧ SqT X.K H1 a xs ∧ ∀ p, H1 p = none → Q (.ref p) (upd H1 p (.tup xs.reverse))) := by
  refine ⟨fun pins s σ H Q I h => ?_⟩
  refine Subscript_ (thn (he.run pins s σ H _ I h) fun v s1 ⟨x, H1, I1, r1, q1⟩ => ?_)
  obtain ⟨a, xs, ex, hx, q⟩ := q1
  subst ex
  cases r1
  have hst : PO X (some (.UnaryOp .USub (.Constant (.int 1) k p1) p2)) (tPart (tUn (rU fun i => .int (-i)) (tC (.int 1)))) := po_some (pe_un un_neg pe_int)
  refine wpAny_Slice ?_
  rw [evalPart_none]
  refine wpAny_pure (wpAny_pure ?_)
  refine thn (hst.run pins s1 σ H1 (fun o H4 => o = some (-1) ∧ H4 = H1) I1 ⟨1, rfl, -1, rfl, rfl, rfl⟩) fun vs s4 ⟨o, H4, I4, ps, eo, e4⟩ => ?_
  subst eo e4
  cases ps with
  | int i tk =>
  have I5 : Inv X pins σ H4 { s4 with heap := s4.heap.push { cls := .type "slice", data := .fields #[.none, .none, .int (-1) tk] } } := I4.kept (t' := s4.toks) fun b ob q => Heap.get?_push_of_some _ q
  obtain ⟨its, r, ht, hz⟩ := I5.tuple hx
  have hlen := r.length
  show wpAny (model X.prog X.w) X.A (subscriptTail e (.Slice none none (some (.UnaryOp .USub (.Constant (.int 1) k p1) p2)) p3) (.ref a) (.ref s4.heap.objs.size)) (EP X pins σ Q) X.xe { s4 with heap := s4.heap.push { cls := .type "slice", data := .fields #[.none, .none, .int (-1) tk] } }
  refine tail_any (ops := [.ref a, .ref s4.heap.objs.size]) ht.typeIs (PyProof.Rows.slot_tuple_getitem.lookup) ?_ (by with_unfolding_all rfl)
  refine getItem_tuple_rev ht (Heap.IsSliceOf.new _ .none .none (.int (-1) tk)) ?_ (by rw [List.size_toArray]; omega)
  refine ⟨.ref _, _, I5.laid (t' := s4.toks) (o := .tup xs.reverse) (fun b ob q => Heap.get?_push_of_some _ q) (Nat.le_refl _) ?_, rfl, q _ (I5.hok.fresh (Nat.le_refl _))⟩
  exact ⟨by rw [List.length_reverse]; exact hz, its.reverse, r.reverse, IsTup.new _ _⟩
end K79
namespace K79
open PySem PySem.Spec PyProof.Rows L2
/-! set(texts), its length where no text stands twice -/
theorem any_grow {xs : List Str} {i : Nat} (hi : i < xs.length) (k : Str) : ((xs.take i).any (· == k) || decide (k = xs.getD i Str.empty)) = (xs.take (i + 1)).any (· == k) := by
  rw [List.take_add_one, List.any_append, List.getD_eq_getElem?_getD, List.getElem?_eq_getElem hi]
  congr 1
  show decide (k = xs[i]) = ([xs[i]].any (· == k))
  by_cases e : k = xs[i]
  · rw [e]; simp
  · have hb : (xs[i] == k) = false := beq_eq_false_iff_ne.mpr fun h => e h.symm
    simp [hb, e]
theorem not_met {xs : List Str} (h : xs.Nodup) {i : Nat} (hi : i < xs.length) : (xs.take i).any (· == xs.getD i Str.empty) = false := by
  rw [List.getD_eq_getElem?_getD, List.getElem?_eq_getElem hi]
  cases hb : (xs.take i).any (· == xs[i]) with
  | false => exact hb
  | true =>
    obtain ⟨y, hy, ey⟩ := List.any_eq_true.mp hb
    have ey2 : y = xs[i] := eq_of_beq ey
    subst ey2
    obtain ⟨j, hj⟩ := List.mem_iff_getElem?.mp hy
    rw [List.getElem?_take] at hj
    by_cases hji : j < i
    · rw [if_pos hji] at hj
      obtain ⟨hjl, ej⟩ := List.getElem?_eq_some_iff.mp hj
      exact absurd ej (List.pairwise_iff_getElem.mp h j i hjl hi hji)
    · rw [if_neg hji] at hj
      cases hj
abbrev SetAs (prog : Program) (w : World) (h : Heap) (S : Addr) (xs : List Str) (i : Nat) : Prop := h.SetOf (PySem.strKind prog w) S (fun k => (xs.take i).any (· == k)) i
section
variable {prog : Program} {w : World} {A : Around} {R : Result → Shared → Prop} {I : Addr} {fp wr : List Addr} {G : Array GenState → Array GenState → Prop} {n : Nat} {P : Nat → Value → Prop} {St : Nat → Shared → Prop}
theorem set_loop (W : WalksS prog w A.in1 I fp wr G n P St) (S : Addr) (hSf : S ∉ fp) (xs : List Str) (hsz : xs.length = n) (nd : xs.Nodup) (hn : n + 1 < scanBound)
    (hval : ∀ i v, P i v → ∃ t, v = .str (xs.getD i Str.empty) t) (k : Nat) :
    ∀ (i : Nat) (s : Shared), i + k = n → St i s → SetAs prog w s.heap S xs i →
      (∀ s', Moved (S :: wr) G s s' → SetAs prog w s'.heap S xs n → R (.ok (.ret .none)) s') →
      codeAny (model prog w) A (.builtin "set.update.loop" ⟨[.ref S, .ref I], []⟩) R s := by
  have hSw : S ∉ wr := fun h => hSf (W.sub _ h)
  have hsub : ∀ b ∈ wr, b ∈ S :: wr := fun b hb => List.mem_cons_of_mem _ hb
  induction k with
  | zero =>
    intro i s hk hst hS hR
    have hin : i = n := hk
    subst hin
    refine codeAny_builtin PyProof.Rows.F.entry_set_update_loop ?_
    rw [Around.under_plainId PyProof.Rows.F.plain_set_update_loop _]
    refine wpAny_bind (m := pyNext (.ref I)) (W.done s _ _ hst fun s' hm => wpAny_pure (hR s' (hm.mono hsub) ?_))
    obtain ⟨o, es, ep, t, ho, r⟩ := hS
    exact ⟨o, es, ep, t, hm.heap S _ hSw ho, r⟩
  | succ k ih =>
    intro i s hk hst hS hR
    have hlt : i < n := by omega
    refine codeAny_builtin PyProof.Rows.F.entry_set_update_loop ?_
    rw [Around.under_plainId PyProof.Rows.F.plain_set_update_loop _]
    refine wpAny_bind (m := pyNext (.ref I)) (W.item i s _ _ hlt hst fun v s' hP hst' hm => ?_)
    obtain ⟨t, rfl⟩ := hval i v hP
    have hS' : SetAs prog w s'.heap S xs i := by
      obtain ⟨o, es, ep, tb, ho, r⟩ := hS
      exact ⟨o, es, ep, tb, hm.heap S _ hSw ho, r⟩
    refine wpAny_bind (m := holding [Value.str (xs.getD i Str.empty) t] (setAdd S (.str (xs.getD i Str.empty) t))) (wpAny_holding ?_)
    unfold setAdd
    refine wpAny_holding (wpAny_bind ((PySem.strKind prog w).pyHash (k := xs.getD i Str.empty) (strKind_is _ _ _ _) ?_))
    refine wpAny_setAddHashed_of (knd := PySem.strKind prog w) (s := { s' with toks := s'.toks + 1 }) (strKind_is _ _ _ _) rfl hS' (by omega) fun h' hsb hS2 => ?_
    have hSi : SetAs prog w h' S xs (i + 1) :=
      SetOf_congr hS2 (fun k' => any_grow (by omega) k') (by rw [not_met nd (by omega)]; rfl)
    have out : ∀ b, b ≠ S → ∀ o, s'.heap.get? b = some o → h'.get? b = some o := fun b hb o e => (hsb.2 b hb).trans e
    refine wpAny_pure ⟨plainId_quiet PyProof.Rows.F.plain_set_update_loop _, ih (i + 1) _ (by omega) (W.frame _ s' _ _ hst' (Nat.le_succ _) fun b hb o e => out b (fun h => hSf (h ▸ hb)) o e) hSi fun s'' hm'' hS'' => ?_⟩
    exact hR s'' (Moved.trans W.gtrans ((hm.mono hsub).then_heap (Nat.le_succ _) fun b o hb e => out b (fun h => hb (by rw [h]; exact List.mem_cons_self)) o e) hm'') hS''
end
section
variable {prog : Program} {w : World} {A : Around} {E : Value → Shared → Prop} {s : Shared}
def setNew (led : Bool) : Obj := { cls := .type "set", dict := none, data := .set #[] 0 (.fresh 0 0 led) }
abbrev InitEnd (prog : Program) (w : World) (A : Around) (R : Result → Shared → Prop) : Fin → Shared → Prop := fun fin s' => match fin with
  | .done f => R (.ok f) s'
  | .again c => c.quiet = true ∧ codeAny (model prog w) A c R s'
abbrev InitWant (s : Shared) (Z : Heap → Prop) (E : Value → Shared → Prop) : Result → Shared → Prop := wants (fun r s₂ => r = .none ∧ ∃ h' tk, s₂ = { s with heap := h', toks := tk } ∧ Z h') E
theorem set_call {a : Value} {Z : Heap → Prop} {Q : Value → Shared → Prop}
    (hin : ∀ led : Bool, wpAny (model prog w) A.in1.in1 (Builtin.«set.__init__» ⟨[.ref s.heap.objs.size, a], []⟩) (InitEnd prog w A.in1 (InitWant s Z E)) (fun e s' => InitWant s Z E (.error e) s') { s with heap := s.heap.push (setNew led) })
    (h : ∀ h' tk, Z h' → Q (.ref s.heap.objs.size) { s with heap := h', toks := tk }) :
    wpAny (model prog w) A (call (.type "set") [a]) Q E s := by
  obtain ⟨c, tl, hmro⟩ := PySem.F.called_set.mro
  have hmade := PySem.F.called_set.made
  have hsub := PySem.F.called_set.sub
  refine wpAny_call (codeAny_of_tree ?_)
  show wpAny _ _ (callAny (.type "set") _) _ _ _
  refine wpAny_pure ⟨Code.quiet_builtin _ (by decide +kernel), codeAny_builtin PySem.F.entry_type_call ?_⟩
  rw [Around.under_plain (weight_type_call_type "set" [a] []) rfl]
  have h1 := PySem.F.called_set.notType
  have h2 := PySem.F.called_set.canCreate
  have hct := PySem.F.typeCall_set_1 a
  repeat (any_goals (first | assumption | wp_step))
  refine codeAny_mono (code_set_new_1 a (E := E) (Q₁ := fun obj s₁ => ∃ led : Bool, obj = .ref s.heap.objs.size ∧ s₁ = { s with heap := s.heap.push (setNew led) }) fun led => ⟨led, rfl, rfl⟩) fun r s₁ hr => ?_
  cases r with
  | error e => exact hr
  | ok fl =>
    cases fl with
    | ret obj =>
      obtain ⟨led, rfl, rfl⟩ := hr
      have hT : Shared.TypeIs { s with heap := s.heap.push (setNew led) } (.ref s.heap.objs.size) "set" := ⟨_, Heap.get?_push_size _ rfl, rfl⟩
      have hli := PySem.F.called_set.init.lookup
      have hbi := PySem.F.called_set.init.bind (.ref s.heap.objs.size)
      repeat (any_goals (first | assumption | wp_step))
      refine codeAny_mono (codeAny_call_builtin (R := InitWant s Z E) PySem.F.called_set.init.plain PySem.F.entry_set_init (check_set_init_1 hT (hin led))) fun r₂ s₂ hr₂ => ?_
      cases r₂ with
      | error e => exact hr₂
      | ok fl₂ =>
        cases fl₂ with
        | ret r =>
          obtain ⟨rfl, h', tk, rfl, hS'⟩ := hr₂
          repeat (any_goals (first | assumption | wp_step))
          exact h _ _ hS'
        | _ => exact hr₂.elim
    | _ => exact hr.elim
theorem set_seed (h : Heap) (led : Bool) (o : Obj) (xs : List Str) : SetAs prog w ((h.push (setNew led)).push o) h.objs.size xs 0 := by
  have hget : ((h.push (setNew led)).push o).get? h.objs.size = some (setNew led) := Heap.get?_push_of_some _ (Heap.get?_push_size _ rfl)
  exact PyProof.Rows.SetOf_congr ((PyProof.Rows.setObjOf_fresh (knd := PySem.strKind prog w) led).setOf hget (by unfold scanBound; omega)) (fun _ => rfl) rfl
abbrev SetDone (prog : Program) (w : World) (h : Heap) (xs : List Str) (h' : Heap) : Prop := SetAs prog w h' h.objs.size xs xs.length ∧ ∀ b o, h.get? b = some o → h'.get? b = some o
theorem set_over {led : Bool} {o : Obj} {xs : List Str} {I : Addr} {s' : Shared} (hI : I = (s.heap.push (setNew led)).objs.size)
    (hm : Moved (s.heap.objs.size :: [I]) (fun g g' => g' = g) { s with heap := (s.heap.push (setNew led)).push o } s') (hS' : SetAs prog w s'.heap s.heap.objs.size xs xs.length) :
    ∃ h' tk, s' = { s with heap := h', toks := tk } ∧ SetDone prog w s.heap xs h' := by
  subst hI
  obtain ⟨h', g', d', tk', os'⟩ := s'
  have eg : g' = s.gens := hm.gens
  have ed : d' = s.drawn := hm.drawn
  have eo : os' = s.os := hm.os
  subst eg; subst ed; subst eo
  refine ⟨h', tk', rfl, hS', fun b o e => ?_⟩
  have hb := Heap.lt_size e
  have hb1 : b ≠ s.heap.objs.size := Nat.ne_of_lt hb
  have hb2 : b ≠ (s.heap.push (setNew led)).objs.size := by rw [Heap.size_push]; exact Nat.ne_of_lt (Nat.lt_succ_of_lt hb)
  exact hm.heap b o (by simp only [List.mem_cons, List.mem_singleton, List.not_mem_nil, or_false, not_or]; exact ⟨hb1, hb2⟩) (Heap.get?_push_of_some _ (Heap.get?_push_of_some _ e))
theorem strs_get : ∀ {vs : List Value} {ns : List Str}, StrsAre vs ns → ∀ (i : Nat) (v : Value), vs[i]? = some v → ∃ t, v = .str (ns.getD i Str.empty) t
  | _, _, .nil, i, v, h => by simp at h
  | _, _, .cons n t hr, 0, v, h => by simp at h; exact ⟨t, by rw [← h]; rfl⟩
  | _, _, .cons n t hr, i + 1, v, h => by
    obtain ⟨t', e⟩ := strs_get hr i v (by simpa using h)
    exact ⟨t', by rw [e]; rfl⟩
theorem apart_new {l : Addr} {h : Heap} {led : Bool} (hl : l < h.objs.size) : l ≠ (h.push (setNew led)).objs.size ∧ h.objs.size ∉ [(h.push (setNew led)).objs.size, l] := by
  rw [Heap.size_push]
  refine ⟨Nat.ne_of_lt (Nat.lt_succ_of_lt hl), fun q => ?_⟩
  rcases List.mem_cons.mp q with z | z
  · exact absurd z (Nat.ne_of_lt (Nat.lt_succ_self _))
  · exact absurd (List.mem_singleton.mp z) (Nat.ne_of_gt hl)
theorem set_ofL {l : Addr} {items : Array Value} {xs : List Str} {Q : Value → Shared → Prop} (hh : A.handled = none) (hl : s.heap.IsList l items) (hi : StrsAre items.toList xs) (nd : xs.Nodup) (hn : xs.length + 1 < scanBound)
    (h : ∀ h' tk, SetDone prog w s.heap xs h' → Q (.ref s.heap.objs.size) { s with heap := h', toks := tk }) : wpAny (model prog w) A (call (.type "set") [.ref l]) Q E s := by
  refine set_call (Z := SetDone prog w s.heap xs) (fun led => ?_) h
  obtain ⟨⟨ocls, odict, odata, oslots⟩, hol, hcl, nl, hdl⟩ := hl
  replace hcl : ocls = .type "list" := hcl
  replace hdl : odata = .seq items nl := hdl
  subst hcl; subst hdl
  have hsz : xs.length = items.size := by rw [← PyProof.Rows.StrsAre.len_eq hi, Array.length_toList]
  have hol' : (s.heap.push (setNew led)).get? l = some { cls := .type "list", dict := odict, data := .seq items nl, slots := oslots } := Heap.get?_push_of_some _ hol
  have hsls := PySem.F.sub_list_set
  have hslf := PySem.F.sub_list_frozenset
  have hne : (Value.type "list" == Value.type "dict") = false := by decide
  have hl1 : (s.heap.push (setNew led)).IsList l items := ⟨_, hol', rfl, nl, rfl⟩
  unfold Builtin.«set.__init__» noKeywords Builtin.Frozenset.updateFrom
  generalize hPI : pyIter = PI
  wp_walk
  subst hPI
  refine wpAny_pyIter_list hl1 (wpAny_bind (wpAny_runValue ?_))
  obtain ⟨hneI, hSf⟩ := apart_new (led := led) (Heap.lt_size hol)
  refine set_loop (A := A.in1.in1) ((Walks.list (by simp [hh]) _ l hneI items).toS) s.heap.objs.size hSf xs hsz nd (by rw [← hsz]; exact hn) (fun i v hv => strs_get hi i v (by simpa using hv)) items.size 0 _ (by omega)
    ⟨⟨_, Heap.get?_push_size _ rfl, rfl, rfl⟩, (hl1.push _)⟩ (set_seed _ _ _ _) fun s' hm hS' => ?_
  rw [← hsz] at hS'
  obtain ⟨h', tk, rfl, z⟩ := set_over rfl hm hS'
  exact wpAny_pure (wpAny_pure ⟨rfl, h', tk, rfl, z⟩)
theorem set_ofT {l : Addr} {items : Array Value} {xs : List Str} {Q : Value → Shared → Prop} (hh : A.handled = none) (hl : s.heap.IsTuple l items) (hi : StrsAre items.toList xs) (nd : xs.Nodup) (hn : xs.length + 1 < scanBound)
    (h : ∀ h' tk, SetDone prog w s.heap xs h' → Q (.ref s.heap.objs.size) { s with heap := h', toks := tk }) : wpAny (model prog w) A (call (.type "set") [.ref l]) Q E s := by
  refine set_call (Z := SetDone prog w s.heap xs) (fun led => ?_) h
  obtain ⟨⟨ocls, odict, odata, oslots⟩, hol, hcl, nl, hdl⟩ := hl
  replace hcl : ocls = .type "tuple" := hcl
  replace hdl : odata = .seq items nl := hdl
  subst hcl; subst hdl
  have hsz : xs.length = items.size := by rw [← PyProof.Rows.StrsAre.len_eq hi, Array.length_toList]
  have hol' : (s.heap.push (setNew led)).get? l = some { cls := .type "tuple", dict := odict, data := .seq items nl, slots := oslots } := Heap.get?_push_of_some _ hol
  have hsls : isSubtype (.type "tuple") (.type "set") = pure false := by rw [isSubtype_type]; kernel_rfl
  have hslf : isSubtype (.type "tuple") (.type "frozenset") = pure false := by rw [isSubtype_type]; kernel_rfl
  have hne : (Value.type "tuple" == Value.type "dict") = false := by decide
  have hl1 : (s.heap.push (setNew led)).IsTuple l items := ⟨_, hol', rfl, nl, rfl⟩
  unfold Builtin.«set.__init__» noKeywords Builtin.Frozenset.updateFrom
  generalize hPI : pyIter = PI
  wp_walk
  subst hPI
  refine wpAny_pyIter_tuple hl1 (wpAny_bind (wpAny_runValue ?_))
  obtain ⟨hneI, hSf⟩ := apart_new (led := led) (Heap.lt_size hol)
  refine set_loop (A := A.in1.in1) ((Walks.tuple (by simp [hh]) _ l hneI items).toS) s.heap.objs.size hSf xs hsz nd (by rw [← hsz]; exact hn) (fun i v hv => strs_get hi i v (by simpa using hv)) items.size 0 _ (by omega)
    ⟨⟨_, Heap.get?_push_size _ rfl, rfl, rfl⟩, ⟨_, Heap.get?_push_of_some _ hol', rfl, nl, rfl⟩⟩ (set_seed _ _ _ _) fun s' hm hS' => ?_
  rw [← hsz] at hS'
  obtain ⟨h', tk, rfl, z⟩ := set_over rfl hm hS'
  exact wpAny_pure (wpAny_pure ⟨rfl, h', tk, rfl, z⟩)
end
theorem strs_vals : ∀ {ys : List Str} {us : List Value}, Vals (ys.map V.str) us → StrsAre us ys
  | [], _, .nil => .nil
  | y :: ys, _, .cons r t => by
    obtain ⟨k, rfl⟩ := r
    exact .cons y k (strs_vals t)
/-- len(set(xs)), xs a list or tuple of texts of which none stands twice -/
theorem pe_lenSetS {X : Cx} {a : Expr} {ta : TE} {p p2 q pos : Pos} (hg : Gl X "len") (hm : X.mg "len" = none) (hg2 : Gl X "set") (hm2 : X.mg "set" = none) (ha : PE X a ta) (hc : X.calm = true := by rfl)
    (na : starEach [a] X.env = (false, eval a X.env) :: starEach [] X.env := by rfl) : PE X (.Call (.Name "len" p) [.Call (.Name "set" p2) [a] [] q] [] pos)
    (fun σ H Q => ta σ H fun x H1 => ∃ (l : Addr) (xs : List Str), x = .ref l ∧ (SqL X.K H1 l (xs.map V.str) ∨ SqT X.K H1 l (xs.map V.str)) ∧ xs.Nodup ∧ xs.length ≤ 4000 ∧ Q (.int (xs.length : Nat)) H1) := by
  refine ⟨fun pins s σ H Q I h => ?_⟩
  refine Call_ (ld_blt I hg hm boot_len ?_)
  refine PyProof.Rows.callWith_builtin1 (PyProof.Rows.args_cons ?_ rfl) rfl rfl
  refine Call_ (ld_blt I hg2 hm2 boot_set ?_)
  refine PyProof.Rows.callWith_type1 (PyProof.Rows.args_cons (thn (ha.run pins s σ H _ I h) fun v s1 ⟨x, H1, I1, r1, q1⟩ => PyProof.Rows.args_nil ?_) na) na rfl
  obtain ⟨l, xs, rfl, hq, hnd, hl, q1⟩ := q1
  cases r1
  have hb : xs.length + 1 < scanBound := by unfold scanBound; omega
  have fin : ∀ (h' : Heap) (tk : Nat), SetDone X.prog X.w s1.heap xs h' →
      wpAny (model X.prog X.w) X.A (spliced (backTo pos (starEach [] X.env))) (fun vs s₂ => wpAny (model X.prog X.w) X.A (call (.builtin "len") (Value.ref s1.heap.objs.size :: vs)) (EP X pins σ Q) X.xe s₂) X.xe { s1 with heap := h', toks := tk } := fun h' tk hS => by
    refine PyProof.Rows.args_nil ?_
    obtain ⟨⟨o, es, ep, t, ho, hex, hd, _, _, _, hf, hn⟩, hk⟩ := hS
    have I2 : Inv X pins σ H1 { s1 with heap := h', toks := tk } := I1.kept hk
    exact call_len_set ho hex hd hf (by rw [hn] <;> omega) ⟨.int xs.length, H1, I2.tok _, ⟨_, by rw [hn]⟩, q1⟩
  rcases hq with hq | hq
  · obtain ⟨its, r, pl, hz⟩ := I1.list hq
    exact set_ofL (I1.ok.hd hc) pl.isList (by simpa using strs_vals r) hnd hb fin
  · obtain ⟨its, r, pl, hz⟩ := I1.tuple hq
    exact set_ofT (I1.ok.hd hc) pl (by simpa using strs_vals r) hnd hb fin
end K79
namespace K79
open PySem PySem.Spec PyProof.Rows L2
/-! sorted(texts, key=lambda x: ..): the lambda captures, its calls may make new objects and change tables -/
section
variable {X : Cx} {pins : List (Addr × Obj)} {σ : L2.St} {H : Hp} {s : Shared}
abbrev lamNF (q : Str) (params : Arguments) (scope : Scope) (cl : List (Str × Addr)) (c' : Addr) : NdefX.NF := ⟨"<lambda>", q, params, [], scope, cl, c'⟩
/-- one call of it -/
theorem lam_run {A : Around} {q : Str} {params : Arguments} {body : Expr} {scope : Scope} {cl : List (Str × Addr)} {f c' : Addr} {pm ctv u : Value} {x : V} {p : Str} {tb : TE} {k : Nat} {Q : VK} {N fr : List Str} {js : List Nat} (I : L2.Inv X pins σ H s)
    (hA : ∀ s H, Env0 X.prog X.w X.K X.mg X.base X.A X.stack s H → Env0 X.prog X.w X.K X.mg X.base A X.stack s H) (S : NdefX.NScope N [p] fr scope) (ho : s.heap.get? f = some (PySem.W.kla_obj "<lambda>" q params body scope cl pm c' ctv)) (hc : H c' = some (LamX.CodeO c' q)) (caps : NdefX.Caps X cl fr js)
    (hbind : ∀ v : Value, bindArgs (PySem.W.kla_fn "<lambda>" q params body scope cl pm (.ref c') ctv) ⟨[v], []⟩ = pure [(p, v)]) (r : L2.RelV x u) (hr : Room (k + 1) A)
    (hbody : PE (NdefX.ncx CX0 X.prog X.w X.K X.mg X.base N (lamNF q params scope cl c') f A X.stack s H E0) body tb) (ht : tb (NdefX.startF N [x] (js.map (NdefX.slotAt σ))) H Q) :
    wpAny (model X.prog X.w) A (call (.ref f) [u]) (fun v s' => CE X.stack X.prog X.w H s Q v s') (fun _ _ => False) s := by
  have e0 := hA s H I.env0
  have C := NdefX.cells_of I caps
  obtain ⟨⟨oc, vs, t, hoc, hdc, hvc⟩, _, _⟩ := I.hok c' _ hc
  have rc : codeAny (model X.prog X.w) A (.call (.ref f) ⟨[u], []⟩) (CR CX0 X.stack X.prog X.w H s Q E0) s := by
    refine PySem.W.kla_callFunE hr.depth ho rfl S.co S.gen rfl ⟨c', oc, vs, t, rfl, hoc, hdc, hvc⟩ ?_
    rw [hbind]
    refine wpAny_pure (wpAny_newFunctionEnv S.nocell (fun y hy => ?_) (fun h₁ hns hsb => ⟨I.nolimit.fresh _ hsb, ?_⟩) S.kind)
    · have e := List.mem_singleton.mp hy
      rw [e]
      exact S.par p List.mem_cons_self
    have kp : ∀ b o, s.heap.get? b = some o → h₁.get? b = some o := fun b o e => hsb.extBut b o (Nat.ne_of_lt (Heap.lt_size e)) (Heap.get?_push_of_some _ e)
    have J := NdefX.inv_startN (CX := CX0) (E := E0) (f := f) (F := lamNF q params scope cl c') (ps := [p]) (us := [u]) (vs := [x]) (tk := s.toks + 1) S hr.hd e0 rfl (.cons r .nil) C hns kp
    refine PySem.W.kla_codeExpr (wpAny_mono (hbody.run [] _ _ H _ J ht) (fun v s' hq => ?_) fun e s' hq => hq)
    obtain ⟨w', H', J', rv, q⟩ := hq
    exact ⟨w', H', J'.os, J'.bare, J'.base, J'.hok, rv, q⟩
  refine wpAny_call (codeAny_mono rc fun r s' hq => ?_)
  cases r with
  | error e => exact hq
  | ok fl =>
    cases fl with
    | ret u => exact hq
    | next => exact False.elim hq
    | brk => exact False.elim hq
    | cont => exact False.elim hq
/-- two own records stand aside -/
def Aside (X : Cx) (pins : List (Addr × Obj)) (b : Addr) : Prop := b ≠ X.env.locals ∧ b ∉ X.fs ∧ (b ∈ X.ex ∨ X.s_0.heap.objs.size ≤ b) ∧ (∀ x c, X.env.cells.lookup x = some c → c ≠ b) ∧ ∀ p ∈ X.pn ++ pins, p.1 ≠ b
theorem Aside.at {b : Addr} {H : Hp} (a : Aside X pins b) (n : H b = none) : FpOk X pins H b := ⟨n, a⟩
theorem aside_new (I : L2.Inv X pins σ H s) {b : Addr} (hb : s.heap.objs.size ≤ b) : Aside X pins b := (I.fpOk hb (I.hok.fresh hb)).2
theorem Aside.fr {b : Addr} (I : L2.Inv X pins σ H s) (a : Aside X pins b) : b ∉ frs X.stack := fun z => by
  rcases List.mem_cons.mp (I.stkSub b z) with e | e
  · exact a.1 e
  · exact a.2.1 e
/-- an own record becomes a tracked list, another is let go -/
theorem inv_adopt {a kS : Addr} {xs : List V} {its : List Value} {n : Nat} {h' : Heap} {tk : Nat} (I : L2.Inv X pins σ H s) (ha : Aside X pins a) (na : H a = none) (hk : Aside X pins kS) (nk : H kS = none)
    (kp : ∀ b o, b ≠ a → b ≠ kS → s.heap.get? b = some o → h'.get? b = some o) (at' : h'.get? a = some (seqObj "list" its.toArray n)) (r : Vals xs its) (hz : xs.length ≤ sizeLine) :
    L2.Inv X pins σ (upd H a (.lst xs)) { s with heap := h', toks := tk } := by
  have nta : ∀ b u, H b = some u → b ≠ a := fun b u e => ne_of_none e na
  have ntk : ∀ b u, H b = some u → b ≠ kS := fun b u e => ne_of_none e nk
  have two : ∀ b, b ∉ [a, kS] → b ≠ a ∧ b ≠ kS := fun b q => ⟨fun z => q (by rw [z]; exact List.mem_cons_self), fun z => q (by rw [z]; exact List.mem_cons_of_mem _ List.mem_cons_self)⟩
  refine I.step (g' := s.gens) (d' := s.drawn) (ch := [a, kS]) (fun b hb => ?_) (fun b o _ _ hc e _ => kp b o (two b hc).1 (two b hc).2 e) (fun b o _ _ hc e _ => ⟨o.slots, kp b o (two b hc).1 (two b hc).2 e⟩)
    (fun b o hc e n => by rw [upd_ne (two b hc).1]; exact n) (fun b o hc e => ⟨o, kp b o (two b hc).1 (two b hc).2 e⟩) (fun b xs e => by rw [upd_ne (nta b _ e)]; exact e) (fun b o u e => by rw [upd_ne (nta b _ e)]; exact e)
    (fun b ps e => ⟨#[], by rw [upd_ne (nta b _ e), e]; simp⟩) (fun m hm => ?_) (fun b u e => ?_) I.bare
  · have w : Aside X pins b := by
      rcases List.mem_cons.mp hb with z | z
      · rw [z]; exact ha
      · rw [List.mem_singleton.mp z]; exact hk
    exact ⟨w.2.2.1, w.1, w.2.2.2.1, w.2.2.2.2⟩
  · obtain ⟨o, es, ep, ho, r⟩ := hm
    exact ⟨o, es, ep, kp _ o (Ne.symm ha.1) (Ne.symm hk.1) ho, r⟩
  · by_cases hb : b = a
    · subst hb
      rw [upd_same] at e
      cases e
      exact ⟨hz, its, n, r, at'⟩
    · rw [upd_ne hb] at e
      refine (I.hok b u e).stay (fun c v hc q => ?_) (fun c q => by rw [upd_ne (nta c _ q)]; exact q) fun c xs q => by rw [upd_ne (nta c _ q)]; exact q
      rcases hc with z | z
      · rw [z]; rw [z] at q; exact kp b v hb (ntk b u e) q
      · exact kp c v (nta c _ z) (ntk c _ z) q
end
section
variable {X : Cx} {pins : List (Addr × Obj)} {σ : L2.St}
theorem strs_each : ∀ {zs : List Str} {us : List Value}, Vals (zs.map V.str) us → PySem.W.EachIs (fun v z => ∃ t, v = Value.str z t) us zs
  | [], _, .nil => .nil
  | z :: zs, _, .cons r t => .cons r (strs_each t)
theorem each_strs : ∀ {us : List Value} {zs : List Str}, PySem.W.EachIs (fun v z => ∃ t, v = Value.str z t) us zs → Vals (zs.map V.str) us
  | _, _, .nil => .nil
  | _, _, .cons r t => .cons r (each_strs t)
/-- the sort with its keys asked one by one -/
theorem sort_keys {H0 : Hp} {s0 : Shared} {l f : Addr} {vs : List Value} {zs : List Str} {key : Str → PyData} {J : Hp → Prop} {KP : Hp → V → Str → Prop} {fo : Obj} {Q : VK} (I : L2.Inv X pins σ H0 s0)
    (hl : s0.heap.IsList l vs.toArray) (hv : Vals (zs.map V.str) vs) (hz : zs.length ≤ sizeLine) (hf : s0.heap.get? f = some fo) (fn : H0 f = none) (ff : f ∉ frs X.stack)
    (hJ : J H0) (hkp : ∀ {H H' : Hp} {v : V} {z : Str}, (∀ b xs, H b = some (.tup xs) → H' b = some (.tup xs)) → KP H v z → KP H' v z) (hkd : ∀ {H : Hp} {v : V} {z : Str}, KP H v z → Dp X.K H v (key z))
    (hal : PySem.W.AllAlike (zs.map key)) (hsk : PySem.W.Sortable (zs.map key)) (hu : ∀ d, d ∈ zs.map key → X.A.in1.in1.units + d.depth < cLine)
    (turn : ∀ (z : Str) (u : Value) (H : Hp) (s : Shared), z ∈ zs → (∃ t, u = Value.str z t) → L2.Inv X pins σ H s → J H → s.heap.get? f = some fo → wpAny (model X.prog X.w) X.A.in1.in1 (call (.ref f) [u]) (fun v s' => CE X.stack X.prog X.w H s (fun x H' => J H' ∧ KP H' x z) v s') (fun _ _ => False) s)
    (q : ∀ H p, J H → H p = none → Q (.ref p) (upd H p (.lst ((zs.mergeSort (PySem.W.dataLe false key)).map V.str)))) :
    wpAny (model X.prog X.w) X.A (call (.builtin "sorted") [.ref l] [(Str.ofString "key", .ref f)]) (EP X pins σ Q) X.xe s0 := by
  have hlen : zs.length = vs.length := by rw [← hv.length, List.length_map]
  have hZ : vs.length ≤ sizeLine := by omega
  refine PySem.W.sorted_of_sort hl hZ (PyProof.Rows.ksk_s1 _ _) (fun _ => PyProof.Rows.ksk_l1 _ _) fun E' => ?_
  rw [PyProof.Rows.ksk_t1]
  have ho : (PySem.W.copyHeap s0.heap vs).get? (s0.heap.objs.size + 1) = some (seqObj "list" vs.toArray 0) := PySem.W.copyHeap_at s0.heap vs
  have I1 : L2.Inv X pins σ H0 { s0 with heap := PySem.W.copyHeap s0.heap vs } := I.kept (t' := s0.toks) fun b o e => PySem.W.copyHeap_old e
  have aA : Aside X pins (s0.heap.objs.size + 1) := aside_new I (Nat.le_succ _)
  have nA : H0 (s0.heap.objs.size + 1) = none := I.hok.fresh (Nat.le_succ _)
  have hf1 : (PySem.W.copyHeap s0.heap vs).get? f = some fo := PySem.W.copyHeap_old hf
  generalize hh1 : PySem.W.copyHeap s0.heap vs = h1 at ho I1 hf1 ⊢
  clear hh1
  generalize hea : s0.heap.objs.size + 1 = a at ho aA nA ⊢
  have hfa : f ≠ a := fun z => by
    have h1 := Heap.lt_size hf
    rw [z, ← hea] at h1
    exact absurd h1 (Nat.not_lt.mpr (Nat.le_succ _))
  clear hea
  obtain ⟨e1, ho1⟩ : ∃ e1, (h1.update a (Obj.mapSeq fun _ => (#[] : Array Value))).get? a = some (seqObj "list" #[] e1) := ⟨_, PyProof.Rows.get?_update_seq ho fun _ => #[]⟩
  unfold PyProof.Rows.ksk_tree
  refine wpAny_bind (listItems_at ho rfl ?_)
  refine wpAny_bind (listUpdate_at ho rfl ?_ (by rw [List.size_toArray]; exact hZ) (Nat.zero_le _))
  refine wpAny_bind (seqEpoch_at ho1 rfl ?_)
  refine wpAny_bind (wpAny_newTuple ?_ (by show vs.length ≤ _; exact hZ))
  refine wpAny_bind (wpAny_newList ?_ (Nat.zero_le _))
  refine wpAny_holding ?_
  have I2 : L2.Inv X pins σ H0 { s0 with heap := h1.update a (Obj.mapSeq fun _ => (#[] : Array Value)) } :=
    I1.turned (s := { s0 with heap := h1 }) (t' := s0.toks) (it := a) (fun b o hb e => (Heap.get?_update_other h1 _ (Ne.symm hb)).trans e) nA aA.1 aA.2.2.1 aA.2.2.2.1 aA.2.2.2.2
  have hf2 : (h1.update a (Obj.mapSeq fun _ => (#[] : Array Value))).get? f = some fo := (Heap.get?_update_other h1 _ (Ne.symm hfa)).trans hf1
  generalize h1.update a (Obj.mapSeq fun _ => (#[] : Array Value)) = h2 at I2 hf2 ho1 ⊢
  have I3 : L2.Inv X pins σ H0 { s0 with heap := h2.push (seqObj "tuple" vs.toArray 0) } := I2.kept (t' := s0.toks) fun b o e => Heap.get?_push_of_some _ e
  have hf3 : (h2.push (seqObj "tuple" vs.toArray 0)).get? f = some fo := Heap.get?_push_of_some _ hf2
  have ho3 : (h2.push (seqObj "tuple" vs.toArray 0)).get? a = some (seqObj "list" #[] e1) := Heap.get?_push_of_some _ ho1
  show wpAny (model X.prog X.w) _ (PyProof.Rows.ksk_rest a (.ref f) false vs.toArray e1 (.ref (h2.push (seqObj "tuple" vs.toArray 0)).objs.size)) _ _ { s0 with heap := (h2.push (seqObj "tuple" vs.toArray 0)).push (seqObj "list" #[] 0) }
  generalize h2.push (seqObj "tuple" vs.toArray 0) = h3 at I3 hf3 ho3 ⊢
  have aK : Aside X pins h3.objs.size := aside_new I3 (Nat.le_refl _)
  have nK : H0 h3.objs.size = none := I3.hok.fresh (Nat.le_refl _)
  have I4 : L2.Inv X pins σ H0 { s0 with heap := h3.push (seqObj "list" #[] 0) } := I3.kept (t' := s0.toks) fun b o e => Heap.get?_push_of_some _ e
  have hka : h3.objs.size ≠ a := fun z => by
    have h1 := Heap.lt_size ho3
    rw [← z] at h1
    exact absurd h1 (Nat.lt_irrefl _)
  have hfk : f ≠ h3.objs.size := fun z => by
    have h1 := Heap.lt_size hf3
    rw [z] at h1
    exact absurd h1 (Nat.lt_irrefl _)
  have hk4 : (h3.push (seqObj "list" #[] 0)).get? h3.objs.size = some (seqObj "list" #[] 0) := Heap.get?_push_size _ rfl
  have ho4 : (h3.push (seqObj "list" #[] 0)).get? a = some (seqObj "list" #[] e1) := Heap.get?_push_of_some _ ho3
  have hf4 : (h3.push (seqObj "list" #[] 0)).get? f = some fo := Heap.get?_push_of_some _ hf3
  generalize h3.push (seqObj "list" #[] 0) = h4 at I4 hk4 ho4 hf4 ⊢
  generalize h3.objs.size = kS at aK nK hka hfk hk4 ⊢
  unfold PyProof.Rows.ksk_rest
  refine wpAny_bind (wpAny_rule ?_)
  first
    | rw [List.forIn_toArray]
    | (rw [← Array.forIn_toList]; simp only [List.toList_toArray])
    | rw [← Array.forIn_toList]
  refine wpAny_bind (PyProof.Rows.ksk_fold (fun i s' => ∃ H kA e, L2.Inv X pins σ H s' ∧ J H ∧ s'.heap.get? f = some fo ∧ H f = none ∧ s'.heap.get? kS = some (seqObj "list" kA e) ∧ H kS = none ∧ s'.heap.get? a = some (seqObj "list" #[] e1) ∧ H a = none ∧
      PySem.W.EachIs (fun v z => ∃ x, L2.RelV x v ∧ KP H x z) kA.toList (zs.take i)) vs 0 _
    ⟨H0, #[], 0, I4, hJ, hf4, fn, hk4, nK, ho4, nA, by rw [List.take_zero]; exact .nil⟩ ?step ?done)
  case step =>
    rintro j x s' hx ⟨H, kA, e, IH, hj, xf, nf, xk, nk, xa, na, hk⟩
    simp only [Nat.zero_add] at hk ⊢
    have hjl : j < vs.length := (List.getElem?_eq_some_iff.mp hx).1
    obtain ⟨z, hzj⟩ : ∃ z, zs[j]? = some z := ⟨_, List.getElem?_eq_getElem (by omega)⟩
    obtain ⟨u, hu', t, et⟩ := hv.get (i := j) (x := .str z) (by rw [List.getElem?_map, hzj]; rfl)
    have eu : u = x := by rw [hx] at hu'; exact (Option.some.inj hu').symm
    subst eu
    have hzl : kA.size ≤ vs.length := by
      have h1 := hk.length
      rw [Array.length_toList, List.length_take] at h1
      omega
    refine wpAny_bind (wpAny_attempt (wpAny_mono (turn z u H s' (List.mem_of_getElem? hzj) ⟨t, et⟩ IH hj xf) (fun v s'' he => ?_) fun _ _ hF => hF.elim))
    obtain ⟨y, H', os, bare, un, hok, ry, hj', ky⟩ := he
    have kf : s''.heap.get? f = some fo := un.keep f _ xf nf ff (by simp)
    have kk : s''.heap.get? kS = some (seqObj "list" kA e) := un.keep kS _ xk nk (aK.fr IH) (by simp)
    have ka : s''.heap.get? a = some (seqObj "list" #[] e1) := un.keep a _ xa na (aA.fr IH) (by simp)
    have nf' : H' f = none := un.free f _ xf nf (by simp)
    have nk' : H' kS = none := un.free kS _ xk nk (by simp)
    have na' : H' a = none := un.free a _ xa na (by simp)
    have J1 : L2.Inv X pins σ H' s'' := IH.call' os un hok bare fun b z => absurd z (by simp)
    obtain ⟨c2, hc2⟩ : ∃ c2, (s''.heap.update kS (Obj.mapSeq (·.push v))).get? kS = some (seqObj "list" (kA.push v) c2) := ⟨_, PyProof.Rows.get?_update_seq kk (·.push v)⟩
    try dsimp only
    refine wpAny_bind (listUpdate_at kk rfl ?_ (Nat.le_trans hzl hZ) (Nat.le_trans (Nat.le_of_eq (Array.size_push ..)) (Nat.succ_le_succ (Nat.le_trans hzl hZ))))
    have oth : ∀ b o, b ≠ kS → s''.heap.get? b = some o → (s''.heap.update kS (Obj.mapSeq (·.push v))).get? b = some o := fun b o hb e => (Heap.get?_update_other s''.heap _ (Ne.symm hb)).trans e
    have J2 : L2.Inv X pins σ H' { s'' with heap := s''.heap.update kS (Obj.mapSeq (·.push v)) } := J1.turned (t' := s''.toks) (it := kS) oth nk' aK.1 aK.2.2.1 aK.2.2.2.1 aK.2.2.2.2
    have ek : zs.take (j + 1) = zs.take j ++ [z] := by rw [List.take_add_one, hzj]; simp
    have ea : (kA.push v).toList = kA.toList ++ [v] := by simp
    refine wpAny_pure ⟨rfl, H', kA.push v, c2, J2, hj', oth f _ hfk kf, nf', hc2, nk', oth a _ (Ne.symm hka) ka, na', ?_⟩
    rw [ea, ek]
    refine PySem.W.each_snoc (R := fun v z => ∃ x, L2.RelV x v ∧ KP H' x z) ⟨y, ry, ky⟩ ?_
    exact hk.mono fun u d ⟨x, r, kd⟩ => ⟨x, r, hkp un.tups kd⟩
  case done =>
    rintro s' ⟨H, kA, e, IH, hj, xf, nf, xk, nk, xa, na, hk⟩
    have e3 : zs.take (0 + vs.length) = zs := List.take_of_length_le (by omega)
    rw [e3] at hk
    have hsz : kA.size = vs.length := by
      have h1 := hk.length
      rw [Array.length_toList] at h1
      omega
    have hrd : PySem.W.EachIs (fun v d => ∃ as, Reads s'.heap v d as) kA.toList (zs.map key) :=
      PySem.W.each_map (R := fun v d => ∃ as, Reads s'.heap v d as) key (hk.mono fun v z ⟨x, r, kd⟩ => Dp.reads IH (key z) x v (hkd kd) r)
    try dsimp only
    refine wpAny_bind (listItems_at xk rfl ?_)
    have kp : PySem.W.KeepsBut a (PySem.W.hideAll s'.heap [kS]) s'.heap := fun b o _ q => PySem.W.of_hideAll [kS] q
    refine PySem.W.keyH_end (κ := PySem.W.dataKind s'.heap (zs.map key)) (h₁ := PySem.W.hideAll s'.heap [kS]) (b := false) (vs := vs) kp (PySem.W.hideAll_none [kS] List.mem_cons_self) xk xa hka (PySem.W.SortsAt.data hrd hal hsk hu) hsz hZ fun h' tk c k3 n3 => ⟨rfl, ?_⟩
    have ko : PySem.W.KeyedOut false (zs.map key) vs (PySem.W.sortVals (PySem.W.dataKind s'.heap (zs.map key)) false kA.toList vs) := ⟨s'.heap, kA.toList, hal, rfl, hrd⟩
    have he := PySem.W.keyedOut_each key ko (strs_each hv)
    refine ⟨.ref a, _, inv_adopt (kS := kS) (xs := (zs.mergeSort (PySem.W.dataLe false key)).map V.str) IH aA na aK nk (fun b o h1 h2 e => k3 b o h1 (PySem.W.hideAll_get [kS] e fun z => h2 (List.mem_singleton.mp z))) n3 (each_strs he) ?_, rfl, q H a hj na⟩
    · rw [List.length_map, (List.mergeSort_perm zs _).length_eq]
      exact hz
end
end K79
namespace K79
open PySem PySem.Spec PyProof.Rows L2
theorem sqL_extN {K : PySem.W.Frag} {H H' : Hp} {a : Addr} {xs : List V} (e : LamX.ExtN H H') (h : SqL K H a xs) : SqL K H' a xs := by
  rcases h with (h | ⟨o, h⟩) | h
  · exact .inl (.inl (e _ _ h fun ps z => by cases z))
  · exact .inl (.inr ⟨o, e _ _ h fun ps z => by cases z⟩)
  · exact .inr h
theorem sqT_extN {K : PySem.W.Frag} {H H' : Hp} {a : Addr} {xs : List V} (e : LamX.ExtN H H') (h : SqT K H a xs) : SqT K H' a xs := by
  rcases h with (h | ⟨o, h⟩) | h
  · exact .inl (.inl (e _ _ h fun ps z => by cases z))
  · exact .inl (.inr ⟨o, e _ _ h fun ps z => by cases z⟩)
  · exact .inr h
section
variable {X : Cx}
/-- sorted(xs, key=lambda a: body) -/
theorem pe_sortLam {T : List (Addr × Str)} {c P : Addr} {params : Arguments} {body xs : Expr} {scope : Scope} {N fr : List Str} {js : List Nat} {a : Str} {k : Nat} {txs : TA} {tb : TE} {p lpos kpos pos : Pos}
    (hg : Gl X "sorted") (hm : X.mg "sorted" = none) (hxs : PA X [xs] txs) (TB : LamX.TabB X.base X.mg c P) (hcode : X.env.code = .ref c) (hmT : (P, X.env.qual ++ "<lambda>") ∈ T) (hu : ∀ p ∈ T, p.1 = P → p.2 = X.env.qual ++ "<lambda>")
    (hr : Room (k + 3) X.A) (S : NdefX.NScope N [a] fr scope) (hfree : ∀ y ∈ scope.names, y.2 = .free → X.env.scope.names.lookup y.1 = some .cell ∨ X.env.scope.names.lookup y.1 = some .free) (hfr : ∀ y ∈ fr, (y, NameKind.free) ∈ scope.names)
    (hjs : js.map (fun j => X.N[j]?) = fr.map some) (hdef : defaultsOf params X.env = ([], []))
    (hbind : ∀ (q : Str) (cl : List (Str × Addr)) (pm cv ctv v : Value), bindArgs (PySem.W.kla_fn "<lambda>" q params body scope cl pm cv ctv) ⟨[v], []⟩ = pure [(a, v)])
    (hbody : ∀ (A : Around) (outer : List Env) (s : Shared) (H : Hp) (f c' : Addr) (env : Env), Room k (A.deeper env) → PE (NdefX.ncx CX0 X.prog X.w X.K X.mg X.base N (lamNF (X.env.qual ++ "<lambda>") params scope (cloFrom X.env.cells scope.names []) c') f A outer s H E0) body tb)
    (he : backTo pos (starEach [xs] X.env) = (false, eval xs X.env) :: backTo pos (starEach [] X.env) := by rfl) (hpl : (backTo pos (starEach [xs] X.env)).any (·.1) = false := by rfl) :
    PE X (.Call (.Name "sorted" p) [xs] [⟨some "key", .Lambda params body scope lpos, kpos⟩] pos)
      (fun σ H Q => txs σ H fun vs H1 => ∃ (l : Addr) (zs : List Str) (key : Str → PyData) (J : Hp → Prop) (KP : Hp → V → Str → Prop), vs = [.ref l] ∧ SqL X.K H1 l (zs.map V.str) ∧ LamX.Tabs T H1 ∧ (∀ H2, LamX.ExtN H1 H2 → LamX.Tabs T H2 → J H2) ∧
        (∀ (H H' : Hp) (v : V) (z : Str), (∀ b xs, H b = some (.tup xs) → H' b = some (.tup xs)) → KP H v z → KP H' v z) ∧ (∀ (H : Hp) (v : V) (z : Str), KP H v z → Dp X.K H v (key z)) ∧
        PySem.W.AllAlike (zs.map key) ∧ PySem.W.Sortable (zs.map key) ∧ (∀ d, d ∈ zs.map key → d.depth ≤ 50) ∧
        (∀ z ∈ zs, ∀ H2, J H2 → tb (NdefX.startF N [.str z] (js.map (NdefX.slotAt σ))) H2 fun v H3 => J H3 ∧ KP H3 v z ∧ LamX.ExtN H2 H3) ∧
        ∀ H2 p, J H2 → H2 p = none → Q (.ref p) (upd H2 p (.lst ((zs.mergeSort (PySem.W.dataLe false key)).map V.str)))) := by
  refine ⟨fun pins s σ H Q I h => ?_⟩
  refine wpAny_Call_Name_kw (ld_blt I hg hm (u := .builtin "sorted") (by decide +kernel) ?_)
  refine PyProof.Rows.callWith_kw (thn (hxs.run pos pins s σ H _ I h) fun us s1 ⟨vs, H1, I1, r1, q1⟩ => ?_) he hpl rfl rfl
  obtain ⟨l, zs, key, J, KP, rfl, hq, hT, hJ, hkp, hkd, hal, hsk, hd, hturn, q⟩ := q1
  obtain rfl := Vals.ref1 r1
  show wpAny _ _ (evalAll ((do let v ← eval (.Lambda params body scope lpos) X.env; standAt pos; pure v) :: [])) _ _ s1
  have hf0 : ∀ y ∈ scope.names, y.2 = .free → ∃ c, X.env.cells.lookup y.1 = some c := fun y hy e => (hfree y hy e).elim (fun z => I1.ok.has _ (.inl z)) fun z => I1.ok.has _ (.inr z)
  refine wpAny_evalAll_cons (wpAny_bind (LamX.lam_make2 I1 TB hcode hmT hu hT hdef hf0 fun f c' pm ctv H2 s2 I2 eN T2 hf fn ff hco => ?_))
  refine wpAny_bind (wpAny_standAt (wpAny_pure (wpAny_evalAll_nil ?_)))
  obtain ⟨its, rv, pl, hz⟩ := I2.list (sqL_extN eN hq)
  rw [List.length_map] at hz
  refine sort_keys (J := fun H => J H ∧ H c' = some (LamX.CodeO c' (X.env.qual ++ "<lambda>"))) (KP := KP) (key := key) I2 pl.isList rv hz hf fn ff ⟨hJ H2 eN T2, hco⟩ (fun {H H' v z} => hkp H H' v z) (fun {H v z} => hkd H v z) hal hsk (fun d hd' => ?_) (fun z u H s hzz ⟨t, et⟩ IH ⟨hj, hc⟩ hfo => ?_) fun H p hj hp => q H p hj.1 hp
  · have := hd d hd'
    have h2 := hr.un
    show X.A.units + 1 + 1 + d.depth < cLine
    omega
  · refine wpAny_mono (lam_run (A := X.A.in1.in1) (x := .str z) (tb := tb) (Q := fun x H' => J H' ∧ KP H' x z ∧ LamX.ExtN H H') (js := js) (fr := fr) (N := N) IH (fun s H e => e.in1.in1) S hfo hc (NdefX.Caps.made IH.ok hfree hfr hjs) (fun v => hbind _ _ _ _ _ v) ⟨t, et⟩ hr.in1.in1
      (hbody _ _ _ _ _ _ _ (hr.in1.in1.deeper ((NdefX.envF (lamNF (X.env.qual ++ "<lambda>") params scope (cloFrom X.env.cells scope.names []) c') f s.heap.objs.size)))) (hturn z hzz H hj)) (fun v s' hq => ?_) fun _ _ e => e
    obtain ⟨y, H', os, bare, un, hok, ry, hj', ky, ke⟩ := hq
    refine ⟨y, H', os, bare, un, hok, ry, ⟨hj', ke _ _ hc fun ps => LamX.codeO_ne ps⟩, ky⟩
end
end K79
namespace K79
open PySem PySem.Spec PyProof.Rows L2
/-! <= of data, a method called with keywords -/
theorem op_leD {X : Cx} (hu : X.A.units + 64 < cLine) : OpR X (compareOp .LtE) (fun x y H Q => ∃ d e, Dp X.K H x d ∧ Dp X.K H y e ∧ PySem.W.alike d e = true ∧ d ≠ .none ∧ d.depth ≤ 50 ∧ Q (.bl (!PySem.W.dataLt e d)) H) := by
  intro pins s σ H x y v u Q I rx ry h
  obtain ⟨d, e, hd, he, ha, hn, hz, q⟩ := h
  obtain ⟨as, r1⟩ := Dp.reads I d x v hd rx
  obtain ⟨bs, r2⟩ := Dp.reads I e y u he ry
  refine PySem.W.le_data (da := d) (db := e) r1 r2 ha hn (by omega) ⟨.bl _, H, I, rfl, q⟩
theorem kbinds1 {K : PySem.W.Frag} {x qual : Str} {params : Arguments} {body : List Stmt} {scope : Scope} {dvs : List V} {kws : List (Str × V)} {f : Addr} {fd : FuncData} {ps : List Str} (F : FunD K x qual params body scope dvs kws f fd) (n : Nat) (ks : List Str) (hd : dvs ≠ [])
    (h : ∀ (T : Addr) (kV doc pm : Value) (an : Option Addr) (cdv ct : Value) (us its ws : List Value), us.length = n → its.length = dvs.length → ws.length = ks.length →
      ∃ k, bindArgs (PySem.W.fnOf x qual params body scope (.ref T) kV doc pm an cdv ct) ⟨us, ks.zip ws⟩ = seqItems? (.ref T) >>= k ∧ k (some its.toArray) = pure (ps.zip (us ++ ws))) : KBn K fd ps n ks (fun us ws => us ++ ws) (fun vs zs => vs ++ zs) := by
  obtain ⟨oc, od, dV, kV, doc, pm, an, cdv, ct, osl, rfl, lk, hcd, hD, hK⟩ := F.ex
  rcases hD with ⟨e, _⟩ | ⟨_, T, o, its, m, rfl, lT, oT, rT⟩
  · exact absurd e hd
  · refine ⟨fun s us ws X l1 l2 => BindsTo.of_looks fun M => ?_, fun r1 r2 => r1.append r2⟩
    obtain ⟨k, e1, e2⟩ := h T kV doc pm an cdv ct us its ws l1 rT.length.symm l2
    rw [e1]
    exact looks_items X lT oT (.of_pure e2)
section
variable {X : Cx} {CX : CXT} {k n : Nat} {f C : Addr} {fd : FuncData} {ps ks : List Str} {sp : Sp} {E : XK} {m : Str} {p pos apos : Pos} {e o : Expr} {es : List Expr} {kws : List Keyword} {ta : TE} {t tk : TA} {g : List Value → List Value → List Value} {gV : List V → List V → List V}
/-- o.m(e, .., k = v, ..) -/
theorem pe_methKw {pl : Sem Bool} (ho : PE X o ta) (c : Cls X.K C) (hm : Meth X.K C m f) (F : FnOk X.prog X.w X.K X.mg X.base CX k f fd ps sp) (hr : Room k X.A) (hb : KBn X.K fd ps (n + 1) ks g gV) (hx : Passes CX X E) (ha : PA X (e :: es) t) (hkw : PK X kws tk)
    (hall : (backToKw pos (keywordEach kws X.env)).all (·.1.isSome) = true := by rfl) (hks : (backToKw pos (keywordEach kws X.env)).filterMap (·.1) = ks := by rfl)
    (he : starEach (e :: es) X.env = (false, eval e X.env) :: starEach es X.env := by rfl)
    (hpl : ((backTo pos (starEach (e :: es) X.env)).any (·.1) || (backToKw pos (keywordEach kws X.env)).any (·.1.isNone)) = false := by rfl)
    (ht : eval (.Call (.Attribute o m apos) (e :: es) kws pos) X.env = (do
      let ov ← eval o X.env
      standAt apos.atName
      let (f, first) ← holding [ov] (getMethod ov m pl)
      callWith pos f first (backTo pos (starEach (e :: es) X.env)) (backToKw pos (keywordEach kws X.env))) := by rfl) :
    PE X (.Call (.Attribute o m apos) (e :: es) kws pos) (fun σ H Q => ta σ H fun x H1 => ∃ a dx fs, x = .ref a ∧ H1 a = some (.ins C dx fs) ∧ fs.lookup m = none ∧
      t σ H1 fun vs H2 => tk σ H2 fun zs H3 => vs.length = n ∧ zs.length = ks.length ∧ sp (gV (x :: vs) zs) H3 Q E) := by
  refine ⟨fun pins s σ H Q I h => ?_⟩
  refine PySem.W.methodCall_KW (pl := pl) (thn (ho.run pins s σ H _ I h) fun u s1 ⟨x, H1, I1, rx, a, dx, fs, ex, ea, l, q⟩ => ?_) ht
  subst ex
  obtain rfl : u = Value.ref a := rx
  refine getmeth_ok I1 ea c hm l ?_
  refine PySem.W.callWith_KW (h₀ := X.base) (first := [.ref a]) I.ok.mod.kin hm.kp hall (thn (ha.run pos pins s1 σ H1 _ I1 q) fun us s2 ⟨vs, H2, I2, r, q2⟩ => ?_) hpl he
  refine thn (hkw.run pos pins s2 σ H2 _ I2 q2) fun ws s3 ⟨zs, H3, I3, rz, l1, l2, q3⟩ => ⟨I3.kIn, ?_⟩
  rw [hks]
  exact run_fnN (us := .ref a :: us) (vs := .ref a :: vs) F hr hb hx I3 (.cons rfl r) rz (by rw [List.length_cons, l1]) l2 q3
end
end K79
namespace K79
open PySem PySem.Spec PyProof.Rows L2
/-! the program's facts, in short; callees; comprehensions -/
structure Tx (K : PySem.W.Frag) (mg : Str → Option Value) (C : Addr) : Prop where
  cl : Cls K C
  nL : NoAttr K C "letters"
  nP : NoAttr K C "passed"
  nC : NoAttr K C "comma"
  nN : NoAttr K C "numbers"
  mgC : mg "Custom" = some (.ref C)
  fr : ∀ x ∈ frees, mg x = none
  letters : ∃ t, mg "LETTERS" = some (.str "abcdefghijklmnopqrstuvwxyz" t)
  small : ∃ t, mg "SMALL" = some (.str "abcdefghijklmnopqrstuvwxyz" t)
  brk : ∃ t, mg "BREAK" = some (.str ", " t)
  ml : ∃ t, mg "MOST_LETTERS" = some (.int 8 t)
  mgr : ∃ t, mg "MOST_GROUPS" = some (.int 40 t)
  mp : ∃ t, mg "MOST_PASSED" = some (.int 20 t)
theorem Tx.f {K : PySem.W.Frag} {mg : Str → Option Value} {C : Addr} (T : Tx K mg C) (i : Nat) {x : Str} (h : frees[i]? = some x := by rfl) : mg x = none := T.fr x (List.mem_of_getElem? h)
/-- a global def as its callers see it -/
structure Kn (P : Program) (w : World) (K : PySem.W.Frag) (mg : Str → Option Value) (base : Heap) (k : Nat) (x : Str) (ps : List Str) (sp : Sp) : Type where
  f : Addr
  fd : FuncData
  ok : FnOk P w K mg base CX0 k f fd ps sp
  mg_ : mg x = some (.ref f)
  kp : PySem.W.keepIn K (.ref f) = true
  bd : Binds K fd ps []
/-- a method -/
structure Km (P : Program) (w : World) (K : PySem.W.Frag) (mg : Str → Option Value) (base : Heap) (C : Addr) (k : Nat) (m : Str) (ps : List Str) (sp : Sp) : Type where
  f : Addr
  fd : FuncData
  ok : FnOk P w K mg base CX0 k f fd ps sp
  me : Meth K C m f
  bd : Binds K fd ps []
/-- a def by its body; nothing is raised -/
theorem ok0 {P : Program} {w : World} {K : PySem.W.Frag} {mg : Str → Option Value} {base : Heap} {x qual : Str} {params : Arguments} {body : List Stmt} {scope : Scope} {dvs : List V} {kws : List (Str × V)} {f : Addr} {fd : FuncData} {N ps : List Str} {k : Nat} {sp : Sp}
    (F : FunD K x qual params body scope dvs kws f fd) (S : FnScope N ps scope) (len : ∀ vs H Q E, sp vs H Q E → vs.length = ps.length)
    (hbody : ∀ (cdv : Value) (A : Around) (outer : List Env) (s : Shared) (H : Hp) (vs : List V) (Q : VK) (E : XK), Room k (A.deeper (envOfC qual scope s.heap.objs.size f cdv)) → sp vs H Q E →
      ∃ t, PSs (cxOf CX0 P w K mg base N qual scope f cdv A outer s H E).nox body t ∧ t { nx := fun _ H' => Q .non H', rt := Q } (start N vs) H) : FnOk P w K mg base CX0 (k + 1) f fd ps sp :=
  F.ok S len fun cdv A outer s H vs Q E hr hsp => let ⟨t, h, q⟩ := hbody cdv A outer s H vs Q E hr hsp; ⟨t, h.nox, q⟩
section
variable {X : Cx} {k j : Nat} {x m : Str} {ps : List Str} {sp : Sp} {e o : Expr} {es : List Expr} {t : TA} {ta : TE} {p pos apos : Pos} {C : Addr}
theorem pe_k (g : Kn X.prog X.w X.K X.mg X.base k x ps sp) (hr : Room j X.A) (hj : k ≤ j) (ha : PA X (e :: es) t) (hg : Gl X x := by rfl)
    (hdb : (x == ("__debug__" : Str)) = false := by decide) (he : starEach (e :: es) X.env = (false, eval e X.env) :: starEach es X.env := by rfl) (hpl : (backTo pos (starEach es X.env)).any (·.1) = false := by rfl) :
    PE X (.Call (.Name x p) (e :: es) [] pos) (tCall sp [] E0 t) := pe_call g.ok (hr.mono hj) hg g.mg_ g.kp g.bd .nil pass0 ha hdb he hpl
theorem pe_m {pl : Sem Bool} (c : Cls X.K C) (g : Km X.prog X.w X.K X.mg X.base C k m ps sp) (hr : Room j X.A) (hj : k ≤ j) (ho : PE X o ta) (ha : PA X (e :: es) t) (hst : starEach (e :: es) X.env = (false, eval e X.env) :: starEach es X.env := by rfl) (hpl : (backTo pos (starEach es X.env)).any (·.1) = false := by rfl)
    (ht : eval (.Call (.Attribute o m apos) (e :: es) [] pos) X.env = (do
      let ov ← eval o X.env
      standAt apos.atName
      let (f, first) ← holding [ov] (getMethod ov m pl)
      callWith pos f first (backTo pos (starEach (e :: es) X.env)) (backToKw pos (keywordEach [] X.env))) := by rfl) :
    PE X (.Call (.Attribute o m apos) (e :: es) [] pos) (tMeth C m sp [] E0 ta t) := pe_meth ho c g.me g.ok (hr.mono hj) g.bd .nil pass0 ha hst hpl ht
end
section
variable {X : Cx} {x : Str} {pos : Pos}
theorem pe_gi {i : Int} (h : ∃ t, X.mg x = some (.int i t)) (hg : Gl X x := by rfl) (hd : (x == ("__debug__" : Str)) = false := by decide) : PE X (.Name x pos) (tC (.int i)) := let ⟨_, e⟩ := h; pe_glob hg e ⟨_, rfl⟩ hd
theorem pe_gs {z : Str} (h : ∃ t, X.mg x = some (.str z t)) (hg : Gl X x := by rfl) (hd : (x == ("__debug__" : Str)) = false := by decide) : PE X (.Name x pos) (tC (.str z)) := let ⟨_, e⟩ := h; pe_glob hg e ⟨_, rfl⟩ hd
end
/-- a comprehension whose items are made while all that stood stays -/
theorem lc_same {J : It} {n : Nat} {G : Hp → Prop} {Y : Nat → Hp → V → Hp → Prop} (w : Walk J n G Y) {g : TG} {te : TE} {vs : List Nat} {σ : L2.St} {H1 : Hp} {D : Addr} {Qd : Hp → Prop} (hD : H1 D = none) (ys : List V) (hl : ys.length = n) (hz : n ≤ sizeLine) (hG : ∀ H, Same H1 H → G H)
    (hs : ∀ (i : Nat) (x : V) (H H' : Hp) (y : V) (R : VK), i < n → Same H1 H → Y i H x H' → ys[i]? = some y → (∀ H4, Same H H4 → R y H4) → g x (wipe σ vs) H' fun σ2 H2 => wipe σ2 vs = wipe σ vs ∧ te σ2 H2 R)
    (hd : ∀ H, Same H1 H → H D = some (.lst ys) → Qd H) :
    ∃ W : Nat → Nat → Hp → Prop, (∃ m, W 0 m (upd H1 D (.lst []))) ∧ ∀ i m H, W i m H →
      (J.stop i H ∧ Qd H) ∨ (J.go i H ∧ ∃ Nx : Hp → Prop, (∀ H', Nx H' → ∃ m', m' < m ∧ W (i + 1) m' H') ∧ ∀ x H', J.yld i H x H' → g x (wipe σ vs) H' fun σ2 H2 => wipe σ2 vs = wipe σ vs ∧ tYes σ2 H2 fun b H3 =>
        if b = true then te σ2 H3 fun y H4 => ∃ acc, H4 D = some (.lst acc) ∧ acc.length < sizeLine ∧ Nx (upd H4 D (.lst (acc ++ [y]))) else Nx H3) := by
  subst hl
  refine lc_it w (Pv := fun i H => Same H1 H ∧ H D = some (.lst (ys.take i))) ⟨fun b o e => by rw [upd_ne (ne_of_none e hD)]; exact e, upd_same⟩ (fun i H _ h => hG H h.1) ?_ fun H h => hd H h.1 (by rw [h.2, List.take_length])
  intro i x H H' hi ⟨s, hd'⟩ y
  have key := hs i x H H' ys[i] (fun y H4 => ∃ acc, H4 D = some (.lst acc) ∧ acc.length < sizeLine ∧ (Same H1 (upd H4 D (.lst (acc ++ [y]))) ∧ upd H4 D (.lst (acc ++ [y])) D = some (.lst (ys.take (i + 1))))) hi s y (by simp [hi]) fun H4 s4 => by
    refine ⟨ys.take i, s4 _ _ hd', ?_, fun b o e => ?_, ?_⟩
    · rw [List.length_take]
      exact Nat.lt_of_lt_of_le (Nat.lt_of_le_of_lt (Nat.min_le_left _ _) hi) hz
    · rw [upd_ne (ne_of_none e hD)]
      exact s4 _ _ (s _ _ e)
    · rw [upd_same, List.take_add_one, List.getElem?_eq_getElem hi]
      rfl
  exact key
def slotI (σ : L2.St) (i : Nat) : Int := match σ[i]? with
  | some (some (V.int n)) => n
  | _ => 0
/-! texts of small letters -/
def smallC (c : Nat) : Bool := decide (97 ≤ c) && decide (c ≤ 122)
def Small (z : Str) : Prop := ∀ c ∈ z.cps.toList, smallC c = true
def abc : Str := "abcdefghijklmnopqrstuvwxyz"
theorem abc_mem {c : Nat} : c ∈ abc.cps.toList ↔ smallC c = true := by
  have e : abc.cps.toList = (List.range 26).map (97 + ·) := by decide +kernel
  rw [e]
  unfold smallC
  simp only [List.mem_map, List.mem_range, Bool.and_eq_true, decide_eq_true_eq]
  constructor
  · rintro ⟨a, h, rfl⟩; omega
  · intro h; exact ⟨c - 97, by omega, by omega⟩
theorem cp_mem {z : Str} {i c : Nat} (h : z.cps[i]? = some c) : c ∈ z.cps.toList := by
  have e : z.cps.toList[i]? = some c := by simpa using h
  exact List.mem_of_getElem? e
theorem rep_get {α β : Type} {xs : List α} {v y : β} {i : Nat} (h : (xs.map fun _ => v)[i]? = some y) : y = v := by
  rw [List.getElem?_map] at h
  cases e : xs[i]? with
  | none => rw [e] at h; cases h
  | some a => rw [e] at h; exact (Option.some.inj h).symm
theorem all_true {α : Type} (xs : List α) : (xs.map fun _ => true).all id = true := by simp
/-- a word: one to eight small letters; a letter: one or two -/
def IsWord (z : Str) : Prop := 1 ≤ z.cps.size ∧ z.cps.size ≤ 8 ∧ Small z
def IsLet (z : Str) : Prop := 1 ≤ z.cps.size ∧ z.cps.size ≤ 2 ∧ Small z
end K79
namespace K79
open PySem PySem.Spec PyProof.Rows L2
section
variable {P : Program} {w : World} {K : PySem.W.Frag} {mg : Str → Option Value} {base : Heap} {f : Addr} {fd : FuncData} {C : Addr}
def spWord : Sp := fun vs H Q _ => ∃ z, vs = [.str z] ∧ IsWord z ∧ ∀ H', Same H H' → Q (.bl true) H'
def spLetter : Sp := fun vs H Q _ => ∃ z, vs = [.str z] ∧ IsLet z ∧ ∀ H', Same H H' → Q (.bl true) H'
theorem scWord : FnScope ["thing", "sign"] ["thing"] (defScope sIsWord) := ⟨rfl, rfl, rfl, by decide +kernel, rfl, by decide +kernel, by decide +kernel⟩
theorem ok_word (F : FunD K "is_word" "is_word" (defArgs sIsWord) (defBody sIsWord) (defScope sIsWord) [] [] f fd) (T : Tx K mg C) : FnOk P w K mg base CX0 1 f fd ["thing"] spWord := by
  refine ok0 F scWord (fun vs H Q E h => ?_) (fun cdv A outer s H vs Q E hr h => ?_)
  · obtain ⟨z, rfl, _⟩ := h
    rfl
  · obtain ⟨z, rfl, ⟨h1, h8, hz⟩, k⟩ := h
    refine ⟨_, pss_cons (ps_if (PW.pt (pw_or (pt_not (pt_val (pe_callB call_isi (by rfl) (T.f 0) (by decide +kernel) (pa_cons (pv 0) (pa_cons (pe_bltn (v := .ty "str") (by rfl) (T.f 1) (by decide +kernel) rfl) pa_nil)))))
      (pw_or1 (pt_not (pt_chain op_le op_le pe_int (pe_callB call_len_str (by rfl) (T.f 2) PySem.boot_len (pa_cons (pv 0) pa_nil)) (pe_gi T.ml)))))) (pss_one (ps_ret pe_bl)) pss_nil)
      (pss_one (ps_ret (pe_callB (cr_all rfl) (by rfl) (T.f 3) (by decide +kernel) (pa_cons
        (pe_lc (own := [("sign", 1)]) (g := gName 1) (tt := tYes) rfl scWord.nd (pi_str (pv 0)) (blkOk_by (N := ["thing", "sign"]) (sc := defScope sIsWord) (by decide +kernel)) (fun _ _ _ _ _ => pg_name (i := 1) scWord.nd rfl (Or.inl rfl)) (fun _ _ _ _ _ => pts_nil)
          (fun _ _ _ _ _ => pe_cmpR op_in_sign (pv 1) (pe_gs T.letters) rfl)) pa_nil)))), ?_⟩
    refine ⟨_, rfl, _, _, _, _, true, rfl, .ty "str", .base (.str z), kit_ty (by decide +kernel), true, rfl, iteF ?_⟩
    have e1 : decide ((1 : Int) ≤ (z.length : Nat)) = true := decide_eq_true (by have : z.length = z.cps.size := rfl; omega)
    have e2 : decide (((z.length : Nat) : Int) ≤ 8) = true := decide_eq_true (by have : z.length = z.cps.size := rfl; omega)
    refine ⟨_, rfl, z, rfl, (by have : z.length = z.cps.size := rfl; exact Nat.le_trans (by omega) (by decide : 8 ≤ sizeLine)), _, _, rfl, rfl, true, congrArg V.bl e1, iteT ?_⟩
    refine ⟨_, _, rfl, rfl, true, congrArg V.bl e2, iteF ?_⟩
    refine ⟨_, rfl, z, rfl, fun D hD => ?_⟩
    refine lc_same (walk_str (z := z)) hD (z.cps.toList.map fun _ => V.bl true) (by simp) (Nat.le_trans h8 (by decide)) (fun _ _ => trivial) ?_ ?_
    · rintro i x H1 H2 y R hi s1 ⟨rfl, c, hc, rfl⟩ hy hR
      refine ⟨rfl, _, rfl, c, _, rfl, rfl, ?_⟩
      show R (V.bl (decide (c ∈ abc.cps.toList))) _
      rw [decide_eq_true (abc_mem.mpr (hz c (cp_mem hc))), ← rep_get hy]
      exact hR _ (Same.refl _)
    · intro H1 s1 hD1
      refine ⟨D, z.cps.toList.map fun _ => true, rfl, .of (hD1.trans ?_), ?_⟩
      · rw [List.map_map]
        rfl
      · rw [all_true]
        exact k _ s1
theorem scLet : FnScope ["thing", "sign"] ["thing"] (defScope sIsLetter) := ⟨rfl, rfl, rfl, by decide +kernel, rfl, by decide +kernel, by decide +kernel⟩
theorem ok_letter (F : FunD K "is_letter" "is_letter" (defArgs sIsLetter) (defBody sIsLetter) (defScope sIsLetter) [] [] f fd) (T : Tx K mg C) : FnOk P w K mg base CX0 1 f fd ["thing"] spLetter := by
  refine ok0 F scLet (fun vs H Q E h => ?_) (fun cdv A outer s H vs Q E hr h => ?_)
  · obtain ⟨z, rfl, _⟩ := h
    rfl
  · obtain ⟨z, rfl, ⟨h1, h8, hz⟩, k⟩ := h
    refine ⟨_, pss_one (ps_ret (pe_and (pe_callB call_isi (by rfl) (T.f 0) (by decide +kernel) (pa_cons (pv 0) (pa_cons (pe_bltn (v := .ty "str") (by rfl) (T.f 1) (by decide +kernel) rfl) pa_nil)))
      (pe_and (pe_chain op_le op_le pe_int (pe_callB call_len_str (by rfl) (T.f 2) PySem.boot_len (pa_cons (pv 0) pa_nil)) pe_int)
      (pe_one (pe_callB (cr_all rfl) (by rfl) (T.f 3) (by decide +kernel) (pa_cons
        (pe_lc (own := [("sign", 1)]) (g := gName 1) (tt := tYes) rfl scLet.nd (pi_str (pv 0)) (blkOk_by (N := ["thing", "sign"]) (sc := defScope sIsLetter) (by decide +kernel)) (fun _ _ _ _ _ => pg_name (i := 1) scLet.nd rfl (Or.inl rfl)) (fun _ _ _ _ _ => pts_nil)
          (fun _ _ _ _ _ => pe_cmpR op_in_sign (pv 1) (pe_gs T.small) rfl)) pa_nil)))))), ?_⟩
    refine ⟨_, rfl, _, _, _, _, true, rfl, .ty "str", .base (.str z), kit_ty (by decide +kernel), true, rfl, iteT ?_⟩
    have e1 : decide ((1 : Int) ≤ (z.length : Nat)) = true := decide_eq_true (by have : z.length = z.cps.size := rfl; omega)
    have e2 : decide (((z.length : Nat) : Int) ≤ 2) = true := decide_eq_true (by have : z.length = z.cps.size := rfl; omega)
    refine ⟨_, rfl, z, rfl, (by have : z.length = z.cps.size := rfl; exact Nat.le_trans (by omega) (by decide : 8 ≤ sizeLine)), _, _, rfl, rfl, true, congrArg V.bl e1, iteT ?_⟩
    refine ⟨_, _, rfl, rfl, true, congrArg V.bl e2, iteT ?_⟩
    refine ⟨_, rfl, z, rfl, fun D hD => ?_⟩
    refine lc_same (walk_str (z := z)) hD (z.cps.toList.map fun _ => V.bl true) (by simp) (Nat.le_trans h8 (by decide)) (fun _ _ => trivial) ?_ ?_
    · rintro i x H1 H2 y R hi s1 ⟨rfl, c, hc, rfl⟩ hy hR
      refine ⟨rfl, _, rfl, c, _, rfl, rfl, ?_⟩
      show R (V.bl (decide (c ∈ abc.cps.toList))) _
      rw [decide_eq_true (abc_mem.mpr (hz c (cp_mem hc))), ← rep_get hy]
      exact hR _ (Same.refl _)
    · intro H1 s1 hD1
      refine ⟨D, z.cps.toList.map fun _ => true, rfl, .of (hD1.trans ?_), ?_⟩
      · rw [List.map_map]
        rfl
      · rw [all_true]
        exact k _ s1
end
end K79
namespace K79
open PySem PySem.W PyProof.Rows
/-! data: texts, ranks; their order -/
def Asc (z : Str) : Prop := ∀ c ∈ z.cps.toList, c < 128
theorem asc_ok {z : Str} (h : Asc z) : PyData.strOk z = true := by
  unfold PyData.strOk
  rw [Array.all_eq_true]
  intro i hi
  have := h z.cps[i] (by simp)
  simp only [decide_eq_true_eq]
  omega
theorem canLay_strs : ∀ {zs : List Str}, (∀ z ∈ zs, Asc z) → PyData.canLayAll0 (zs.map PyData.str) = true
  | [], _ => rfl
  | z :: r, h => by
    have h1 := asc_ok (h z List.mem_cons_self)
    have h2 := canLay_strs (zs := r) fun y hy => h y (List.mem_cons_of_mem _ hy)
    simp [PyData.canLayAll0, PyData.canLay0, h1, h2]
theorem depth_strs : ∀ zs : List Str, PyData.depthAll (zs.map PyData.str) = 0
  | [] => rfl
  | _ :: r => by simp [PyData.depthAll, PyData.depth, depth_strs r]
theorem shaped_strsT {zs : List Str} (h : ∀ z ∈ zs, Asc z) : SeqAt.shaped (.tuple (zs.map PyData.str)) = true := by
  simp [SeqAt.shaped, PyData.canLay0, PyData.depth, canLay_strs h, depth_strs]
theorem shaped_strsL {zs : List Str} (h : ∀ z ∈ zs, Asc z) : SeqAt.shaped (.list (zs.map PyData.str)) = true := by
  simp [SeqAt.shaped, PyData.canLay0, PyData.depth, canLay_strs h, depth_strs]
theorem shaped_intsT (ns : List Int) : SeqAt.shaped (.tuple (ns.map PyData.int)) = true := by
  simp [SeqAt.shaped, PyData.canLay0, PyData.depth, ke_canLayAll0, ke_depthAll]
theorem eqv_strs : ∀ xs ys : List Str, PyData.eqvAll (xs.map .str) (ys.map .str) = decide (xs = ys)
  | [], [] => by simp [PyData.eqvAll]
  | [], _ :: _ => by simp [PyData.eqvAll]
  | _ :: _, [] => by simp [PyData.eqvAll]
  | a :: r, b :: t => by
    simp only [List.map_cons, PyData.eqvAll, PyData.eqv, eqv_strs r t]
    by_cases h : a = b <;> by_cases h' : r = t <;> simp [h, h']
theorem eqv_ints : ∀ xs ys : List Int, PyData.eqvAll (xs.map .int) (ys.map .int) = decide (xs = ys)
  | [], [] => by simp [PyData.eqvAll]
  | [], _ :: _ => by simp [PyData.eqvAll]
  | _ :: _, [] => by simp [PyData.eqvAll]
  | a :: r, b :: t => by
    simp only [List.map_cons, PyData.eqvAll, PyData.eqv, eqv_ints r t]
    by_cases h : a = b <;> by_cases h' : r = t <;> simp [h, h']
/-- the rank as data -/
def kd (a b : List Int) (z : Str) : PyData := .tuple [.tuple (a.map .int), .tuple (b.map .int), .str z]
/-- its first two -/
def kd2 (a b : List Int) : PyData := .tuple [.tuple (a.map .int), .tuple (b.map .int)]
theorem kd_shaped (a b : List Int) {z : Str} (h : Asc z) : SeqAt.shaped (kd a b z) = true := by
  simp [kd, SeqAt.shaped, PyData.canLay0, PyData.canLayAll0, PyData.depth, PyData.depthAll, ke_canLayAll0, ke_depthAll, asc_ok h]
theorem kd2_shaped (a b : List Int) : SeqAt.shaped (kd2 a b) = true := by
  simp [kd2, SeqAt.shaped, PyData.canLay0, PyData.canLayAll0, PyData.depth, PyData.depthAll, ke_canLayAll0, ke_depthAll]
theorem kd_depth (a b : List Int) (z : Str) : (kd a b z).depth = 2 := by
  simp [kd, PyData.depth, PyData.depthAll, ke_depthAll]
theorem kd_alike (a b a' b' : List Int) (z z' : Str) : alike (kd a b z) (kd a' b' z') = true := by
  simp [kd, alike, alikeAll, alike_ints]
theorem kd_eqv (a b a' b' : List Int) (z z' : Str) : PyData.eqv (kd a b z) (kd a' b' z') = decide (a = a' ∧ b = b' ∧ z = z') := by
  simp only [kd, PyData.eqv, PyData.eqvAll, eqv_ints]
  by_cases h1 : a = a' <;> by_cases h2 : b = b' <;> by_cases h3 : z = z' <;> simp [h1, h2, h3]
theorem kd2_eqv (a b a' b' : List Int) : PyData.eqv (kd2 a b) (kd2 a' b') = decide (a = a' ∧ b = b') := by
  simp only [kd2, PyData.eqv, PyData.eqvAll, eqv_ints]
  by_cases h1 : a = a' <;> by_cases h2 : b = b' <;> simp [h1, h2]
theorem kd_lt (a b a' b' : List Int) (z z' : Str) : dataLt (kd a b z) (kd a' b' z') = if a = a' then (if b = b' then decide (z.cps.toList < z'.cps.toList) else decide (b < b')) else decide (a < a') := by
  unfold kd
  rw [dataLt_tuple, dataLt_cons (by simp [alike, alike_ints]), dataLt_cons (by simp [alike, alike_ints]), dataLt_cons (by simp [alike])]
  have e0 : PyProof.Rows.lexLt itemOrd (keyToksAll []) (keyToksAll []) = false := lex_irrefl _
  have et : ∀ xs ys : List Int, dataLt (.tuple (xs.map .int)) (.tuple (ys.map .int)) = decide (xs < ys) := fun xs ys => by
    rw [dataLt_tuple]
    exact dataLt_ints xs ys
  have ee : ∀ xs ys : List Int, PyData.eqv (.tuple (xs.map .int)) (.tuple (ys.map .int)) = decide (xs = ys) := fun xs ys => by
    rw [PyData.eqv, eqv_ints]
  rw [e0, et, et, ee, ee, dataLt_str, PyData.eqv]
  by_cases h1 : a = a'
  · by_cases h2 : b = b'
    · by_cases h3 : z = z'
      · subst h3
        have : decide (z.cps.toList < z.cps.toList) = false := decide_eq_false (List.lt_irrefl _)
        simp [h1, h2, this]
      · simp [h1, h2, h3]
    · simp [h1, h2]
  · simp [h1]
/-- the order of the ranks -/
def kle (f g : Str → List Int) : Str → Str → Bool := dataLe false fun z => kd (f z) (g z) z
theorem kle_eq (f g : Str → List Int) (x y : Str) : kle f g x y = !dataLt (kd (f y) (g y) y) (kd (f x) (g x) x) := rfl
theorem kle_total (f g : Str → List Int) : TotalLe (kle f g) := by
  unfold kle dataLe
  exact sortLe_total _ _ _
section
variable {f g : Str → List Int}
theorem kle_trans (a b c : Str) (h : kle f g a b = true) (h' : kle f g b c = true) : kle f g a c = true := (kle_total f g).trans a b c h h'
theorem kle_or (a b : Str) : (kle f g a b || kle f g b a) = true := Bool.or_eq_true_iff.mpr ((kle_total f g).total a b)
/-- by the first that differs -/
theorem kle_cases {x y : Str} (h : kle f g x y = true) : f x < f y ∨ (f x = f y ∧ (g x < g y ∨ (g x = g y ∧ ¬ y.cps.toList < x.cps.toList))) := by
  rw [kle_eq, kd_lt] at h
  by_cases e1 : f y = f x
  · rw [if_pos e1] at h
    refine .inr ⟨e1.symm, ?_⟩
    by_cases e2 : g y = g x
    · rw [if_pos e2] at h
      exact .inr ⟨e2.symm, by simpa using h⟩
    · rw [if_neg e2] at h
      have h2 : ¬ g y < g x := by simpa using h
      rcases List.le_total (g x) (g y) with q | q
      · by_cases q2 : g x < g y
        · exact .inl q2
        · exact absurd (List.le_antisymm (List.not_lt.mp q2) (List.not_lt.mp h2)) e2
      · by_cases q2 : g x < g y
        · exact .inl q2
        · exact absurd (List.le_antisymm (List.not_lt.mp q2) (List.not_lt.mp h2)) e2
  · rw [if_neg e1] at h
    have h2 : ¬ f y < f x := by simpa using h
    by_cases q2 : f x < f y
    · exact .inl q2
    · exact absurd (List.le_antisymm (List.not_lt.mp q2) (List.not_lt.mp h2)) e1
theorem kle_antisymm {x y : Str} (h : kle f g x y = true) (h' : kle f g y x = true) : x = y := by
  rcases kle_cases h with q | ⟨e, q⟩
  · rcases kle_cases h' with r | ⟨e', r⟩
    · exact absurd (List.lt_trans q r) (List.lt_irrefl _)
    · rw [e'] at q; exact absurd q (List.lt_irrefl _)
  · rcases kle_cases h' with r | ⟨e', r⟩
    · rw [e] at r; exact absurd r (List.lt_irrefl _)
    · rcases q with q | ⟨e2, q⟩
      · rcases r with r | ⟨e3, r⟩
        · exact absurd (List.lt_trans q r) (List.lt_irrefl _)
        · rw [e3] at q; exact absurd q (List.lt_irrefl _)
      · rcases r with r | ⟨e3, r⟩
        · rw [e2] at r; exact absurd r (List.lt_irrefl _)
        · exact str_of_cps (List.le_antisymm (List.not_lt.mp q) (List.not_lt.mp r))
/-- sorted by rank -/
def ksort (f g : Str → List Int) (xs : List Str) : List Str := xs.mergeSort (kle f g)
theorem ksort_perm (xs : List Str) : (ksort f g xs).Perm xs := List.mergeSort_perm _ _
theorem ksort_pw (xs : List Str) : (ksort f g xs).Pairwise (fun a b => kle f g a b = true) := List.pairwise_mergeSort kle_trans kle_or xs
theorem ksort_eq {xs ys : List Str} (h : ys.Pairwise (fun a b => kle f g a b = true)) (p : ys.Perm xs) : ys = ksort f g xs :=
  List.Perm.eq_of_pairwise (fun a b _ _ h1 h2 => kle_antisymm h1 h2) h (ksort_pw xs) (p.trans (ksort_perm xs).symm)
theorem ksort_congr {xs ys : List Str} (p : xs.Perm ys) : ksort f g xs = ksort f g ys := ksort_eq (ksort_pw xs) ((ksort_perm xs).trans p)
theorem ksort_merge (xs : List Str) (n : Nat) : (ksort f g (xs.take n)).merge (ksort f g (xs.drop n)) (kle f g) = ksort f g xs := by
  refine ksort_eq (List.pairwise_merge kle_trans kle_or _ _ (ksort_pw _) (ksort_pw _)) ?_
  refine (List.merge_perm_append _).trans ?_
  have h := List.Perm.append (ksort_perm (f := f) (g := g) (xs.take n)) (ksort_perm (f := f) (g := g) (xs.drop n))
  rw [List.take_append_drop] at h
  exact h
/-- what stands between two with one rank up to the text has it too -/
theorem ksort_between {ys : List Str} (h : ys.Pairwise (fun a b => kle f g a b = true)) {i j k : Nat} {a b c : Str} (ha : ys[i]? = some a) (hb : ys[j]? = some b) (hc : ys[k]? = some c) (h1 : i ≤ k) (h2 : k ≤ j) (e1 : f a = f b) (e2 : g a = g b) : f c = f a ∧ g c = g a := by
  have le : ∀ {i j : Nat} {a b : Str}, ys[i]? = some a → ys[j]? = some b → i ≤ j → kle f g a b = true := fun {i j a b} ha hb hij => by
    obtain ⟨hi, ei⟩ := List.getElem?_eq_some_iff.mp ha
    obtain ⟨hj, ej⟩ := List.getElem?_eq_some_iff.mp hb
    rcases Nat.lt_or_eq_of_le hij with q | q
    · rw [← ei, ← ej]; exact List.pairwise_iff_getElem.mp h i j hi hj q
    · subst q
      rw [ha] at hb
      cases hb
      exact (kle_total f g).refl a
  have p := kle_cases (le ha hc h1)
  have q := kle_cases (le hc hb h2)
  have fe : f c = f a := by
    rcases p with p | ⟨p, _⟩
    · rcases q with q | ⟨q, _⟩
      · rw [← e1] at q; exact absurd (List.lt_trans p q) (List.lt_irrefl _)
      · rw [q, ← e1] at p; exact absurd p (List.lt_irrefl _)
    · exact p.symm
  refine ⟨fe, ?_⟩
  rcases p with p | ⟨_, p⟩
  · rw [fe] at p; exact absurd p (List.lt_irrefl _)
  · rcases q with q | ⟨_, q⟩
    · rw [fe, e1] at q; exact absurd q (List.lt_irrefl _)
    · rcases p with p | ⟨p, _⟩
      · rcases q with q | ⟨q, _⟩
        · rw [← e2] at q; exact absurd (List.lt_trans p q) (List.lt_irrefl _)
        · rw [q, ← e2] at p; exact absurd p (List.lt_irrefl _)
      · exact p.symm
end
/-- two texts whose first rank letters differ at a place of both: turned about, they stand the other way about -/
theorem lex_flip (n : Int) : ∀ (xs ys : List Int), (∃ i : Nat, ∃ a b : Int, xs[i]? = some a ∧ ys[i]? = some b ∧ a ≠ b) → (xs < ys ↔ ys.map (n - ·) < xs.map (n - ·))
  | [], _, ⟨i, a, b, h, _⟩ => by simp at h
  | _ :: _, [], ⟨i, a, b, _, h, _⟩ => by simp at h
  | x :: xs, y :: ys, ⟨i, a, b, h1, h2, h3⟩ => by
    rw [List.map_cons, List.map_cons, List.cons_lt_cons_iff, List.cons_lt_cons_iff]
    by_cases e : x = y
    · subst e
      cases i with
      | zero => simp at h1 h2; subst h1 h2; exact absurd rfl h3
      | succ i =>
        have ih := lex_flip n xs ys ⟨i, a, b, by simpa using h1, by simpa using h2, h3⟩
        constructor
        · rintro (q | ⟨_, q⟩)
          · exact absurd q (Int.lt_irrefl _)
          · exact .inr ⟨rfl, ih.mp q⟩
        · rintro (q | ⟨_, q⟩)
          · exact absurd q (Int.lt_irrefl _)
          · exact .inr ⟨rfl, ih.mpr q⟩
    · constructor
      · rintro (q | ⟨q, _⟩)
        · exact .inl (by omega)
        · exact absurd q e
      · rintro (q | ⟨q, _⟩)
        · exact .inl (by omega)
        · exact absurd (by omega) e
theorem ksort_two {f g : Str → List Int} (a b : Str) : ksort f g [a, b] = if kle f g a b = true then [a, b] else [b, a] := by
  split
  · rename_i h
    exact (ksort_eq (by simp [h]) (List.Perm.refl _)).symm
  · rename_i h
    have h2 : kle f g b a = true := by
      rcases (kle_total f g).total a b with q | q
      · exact absurd q h
      · exact q
    exact (ksort_eq (by simp [h2]) (List.Perm.swap a b [])).symm
theorem about_flip {f g f' g' : Str → List Int} (n : Int) {a b : Str} (hf : ∀ z, f' z = (f z).map (n - ·)) (h : ∃ i : Nat, ∃ x y : Int, (f a)[i]? = some x ∧ (f b)[i]? = some y ∧ x ≠ y) : ksort f g [a, b] = (ksort f' g' [a, b]).reverse := by
  have ne : f a ≠ f b := by
    obtain ⟨i, x, y, h1, h2, h3⟩ := h
    intro e
    rw [e, h2] at h1
    exact h3 (Option.some.inj h1).symm
  have h' : ∃ i : Nat, ∃ x y : Int, (f b)[i]? = some x ∧ (f a)[i]? = some y ∧ x ≠ y := by
    obtain ⟨i, x, y, h1, h2, h3⟩ := h
    exact ⟨i, y, x, h2, h1, Ne.symm h3⟩
  have ne' : f' b ≠ f' a := by
    intro e
    rw [hf, hf] at e
    refine ne ?_
    have q := congrArg (List.map (n - ·)) e.symm
    rw [List.map_map, List.map_map] at q
    have id_ : ((fun x => n - x) ∘ fun x => n - x) = (id : Int → Int) := by funext x; show n - (n - x) = x; omega
    rw [id_, List.map_id, List.map_id] at q
    exact q
  have k1 : kle f g a b = decide (f a < f b) := by
    rw [kle_eq, kd_lt, if_neg (Ne.symm ne)]
    by_cases q : f b < f a
    · have : ¬ f a < f b := fun r => List.lt_irrefl _ (List.lt_trans q r)
      simp [q, this]
    · have : f a < f b := by
        by_cases r : f a < f b
        · exact r
        · exact absurd (List.le_antisymm (List.not_lt.mp q) (List.not_lt.mp r)) ne
      simp [q, this]
  have k2 : kle f' g' a b = decide (f b < f a) := by
    rw [kle_eq, kd_lt, if_neg ne', hf, hf, ]
    have fl : decide ((f b).map (n - ·) < (f a).map (n - ·)) = decide (f a < f b) := decide_eq_decide.mpr (lex_flip n (f a) (f b) h).symm
    rw [fl]
    by_cases q : f a < f b
    · have : ¬ f b < f a := fun r => List.lt_irrefl _ (List.lt_trans q r)
      simp [q, this]
    · have : f b < f a := by
        by_cases r : f b < f a
        · exact r
        · exact absurd (List.le_antisymm (List.not_lt.mp r) (List.not_lt.mp q)) ne
      simp [q, this]
  rw [ksort_two, ksort_two, k1, k2]
  by_cases q : f a < f b
  · have : ¬ f b < f a := fun r => List.lt_irrefl _ (List.lt_trans q r)
    simp [q, this]
  · have : f b < f a := by
      by_cases r : f b < f a
      · exact r
      · exact absurd (List.le_antisymm (List.not_lt.mp r) (List.not_lt.mp q)) ne
    simp [q, this]
end K79
namespace K79
open PySem PySem.Spec PyProof.Rows L2
theorem let_asc {z : Str} (h : IsLet z) : Asc z := fun c hc => by
  have := h.2.2 c hc
  unfold smallC at this
  simp only [Bool.and_eq_true, decide_eq_true_eq] at this
  omega
theorem word_asc {z : Str} (h : IsWord z) : Asc z := fun c hc => by
  have := h.2.2 c hc
  unfold smallC at this
  simp only [Bool.and_eq_true, decide_eq_true_eq] at this
  omega
theorem dp_strs {K : PySem.W.Frag} {H : Hp} : ∀ zs : List Str, DpAll K H (zs.map V.str) (zs.map PyData.str)
  | [] => .nil
  | z :: zs => .cons (.str z) (dp_strs zs)
theorem dp_ints {K : PySem.W.Frag} {H : Hp} : ∀ ns : List Int, DpAll K H (ns.map V.int) (ns.map PyData.int)
  | [] => .nil
  | z :: zs => .cons (.int z) (dp_ints zs)
/-- groups of letters: what are_letters wants -/
def IsGr (g : List Str) : Prop := g ≠ [] ∧ g.length ≤ 8 ∧ ∀ z ∈ g, IsLet z
structure IsLets (gs : List (List Str)) : Prop where
  ne : gs ≠ []
  le : gs.length ≤ 40
  gr : ∀ g ∈ gs, IsGr g
  nd : gs.flatten.Nodup
structure IsPas (ps : List Str) : Prop where
  le : ps.length ≤ 20
  wd : ∀ z ∈ ps, IsWord z
  nd : ps.Nodup
theorem IsLets.few {gs : List (List Str)} (h : IsLets gs) : gs.flatten.length ≤ 320 := by
  have gen : ∀ l : List (List Str), (∀ g ∈ l, g.length ≤ 8) → l.flatten.length ≤ 8 * l.length := by
    intro l
    induction l with
    | nil => intro _; simp
    | cons g l ih =>
      intro hl
      have h1 := hl g List.mem_cons_self
      have h2 := ih fun y hy => hl y (List.mem_cons_of_mem _ hy)
      rw [List.flatten_cons, List.length_append, List.length_cons]
      omega
  have := gen gs fun g hg => (h.gr g hg).2.1
  have := h.le
  omega
/-- a tuple of groups stands at t -/
def TupG (H : Hp) (t : Addr) (gs : List (List Str)) : Prop := ∃ as : List Addr, H t = some (.tup (as.map V.ref)) ∧ as.length = gs.length ∧ ∀ (i : Nat) (a : Addr) (g : List Str), as[i]? = some a → gs[i]? = some g → H a = some (.tup (g.map V.str))
theorem TupG.tups {H H' : Hp} {t : Addr} {gs : List (List Str)} (h : TupG H t gs) (k : ∀ b xs, H b = some (.tup xs) → H' b = some (.tup xs)) : TupG H' t gs := by
  obtain ⟨as, h1, h2, h3⟩ := h
  exact ⟨as, k _ _ h1, h2, fun i a g e1 e2 => k _ _ (h3 i a g e1 e2)⟩
theorem map_get {α β : Type} {f : α → β} {xs : List α} {i : Nat} {y : β} (h : (xs.map f)[i]? = some y) : ∃ x, xs[i]? = some x ∧ y = f x := by
  rw [List.getElem?_map] at h
  cases e : xs[i]? with
  | none => rw [e] at h; cases h
  | some x => rw [e] at h; exact ⟨x, rfl, (Option.some.inj h).symm⟩
theorem reps_eq {α β : Type} (xs : List α) (v : β) : (xs.map fun _ => v) = List.replicate xs.length v := by
  induction xs with
  | nil => rfl
  | cons x xs ih => rw [List.map_cons, ih]; rfl
section
variable {P : Program} {w : World} {K : PySem.W.Frag} {mg : Str → Option Value} {base : Heap} {f : Addr} {fd : FuncData} {C : Addr}
def spGroup : Sp := fun vs H Q _ => ∃ a g, vs = [.ref a] ∧ H a = some (.tup (g.map V.str)) ∧ IsGr g ∧ ∀ H', Same H H' → Q (.bl true) H'
theorem scGroup : FnScope ["thing", "one"] ["thing"] (defScope sIsGroup) := ⟨rfl, rfl, rfl, by decide +kernel, rfl, by decide +kernel, by decide +kernel⟩
theorem ok_group (F : FunD K "is_group" "is_group" (defArgs sIsGroup) (defBody sIsGroup) (defScope sIsGroup) [] [] f fd) (T : Tx K mg C) (gL : Kn P w K mg base 1 "is_letter" ["thing"] spLetter) : FnOk P w K mg base CX0 2 f fd ["thing"] spGroup := by
  refine ok0 F scGroup (fun vs H Q E h => ?_) (fun cdv A outer s H vs Q E hr h => ?_)
  · obtain ⟨a, g, rfl, _⟩ := h
    rfl
  · obtain ⟨a, g, rfl, hH, ⟨hne, hlen, hz⟩, k⟩ := h
    refine ⟨_, pss_one (ps_ret (pe_and (pe_callB call_isi (by rfl) (T.f 0) (by decide +kernel) (pa_cons (pv 0) (pa_cons (pe_bltn (v := .ty "tuple") (by rfl) (T.f 4) (by decide +kernel) rfl) pa_nil)))
      (pe_and (pe_cmpR (op_neD hr.units) (pv 0) (pe_tup pa_nil) (nomark _))
      (pe_one (pe_callB (cr_all rfl) (by rfl) (T.f 3) (by decide +kernel) (pa_cons
        (pe_lc (own := [("one", 1)]) (g := gName 1) (tt := tYes) rfl scGroup.nd (pi_tup (pv 0)) (blkOk_by (N := ["thing", "one"]) (sc := defScope sIsGroup) (by decide +kernel)) (fun _ _ _ _ _ => pg_name (i := 1) scGroup.nd rfl (Or.inl rfl)) (fun _ _ _ _ _ => pts_nil)
          (fun _ _ _ _ _ => pe_k gL hr (Nat.le_refl _) (pa_cons (pv 1) pa_nil))) pa_nil)))))), ?_⟩
    refine ⟨_, rfl, _, _, _, _, true, rfl, .ty "tuple", .base (.tup hH), kit_ty (by decide +kernel), true, rfl, iteT ?_⟩
    refine ⟨_, rfl, Nat.zero_le _, fun t ht => ?_⟩
    have sH : Same H (upd H t (.tup [])) := fun b o e => by rw [upd_ne (ne_of_none e ht)]; exact e
    refine ⟨.tuple (g.map .str), .tuple [], .tup (.inl (.inl (sH _ _ hH))) (dp_strs g), .tup (.inl (.inl upd_same)) .nil, shaped_strsT fun z h => let_asc (hz z h), by decide +kernel, true, ?_, iteT ?_⟩
    · congr 1
      cases g with
      | nil => exact absurd rfl hne
      | cons z g => simp [PyData.eqv, PyData.eqvAll]
    refine ⟨_, rfl, a, rfl, ⟨_, .inl (.inl (sH _ _ hH))⟩, fun D hD => ?_⟩
    refine lc_same (walk_tup (K := K) (a := a) (xs := g.map V.str)) hD (g.map fun _ => V.bl true) (by simp) (by rw [List.length_map]; exact Nat.le_trans hlen (by decide)) (fun H1 s1 => .inl (.inl (s1 _ _ (sH _ _ hH)))) ?_ ?_
    · rintro i x H1 H2 y R hi s1 ⟨rfl, hx⟩ hy hR
      obtain ⟨z, hg, rfl⟩ := map_get hx
      refine ⟨rfl, _, rfl, z, rfl, hz z (List.mem_of_getElem? hg), fun H4 s4 => ?_⟩
      rw [← rep_get hy]
      exact hR _ s4
    · intro H1 s1 hD1
      refine ⟨D, g.map fun _ => true, rfl, .of (hD1.trans ?_), ?_⟩
      · rw [List.map_map]
        rfl
      · rw [all_true]
        exact k _ (sH.trans s1)
def spAreLetters : Sp := fun vs H Q _ => ∃ t gs, vs = [.ref t] ∧ TupG H t gs ∧ IsLets gs ∧ ∀ H', Same H H' → Q (.bl true) H'
theorem scAreL : FnScope ["thing", "group", "texts"] ["thing"] (defScope sAreLetters) := ⟨rfl, rfl, rfl, by decide +kernel, rfl, by decide +kernel, by decide +kernel⟩
theorem take_flat {gs : List (List Str)} {i : Nat} {g : List Str} (h : gs[i]? = some g) : (gs.take (i + 1)).flatten = (gs.take i).flatten ++ g := by
  rw [List.take_add_one, h, List.flatten_append]
  simp
theorem take_le {gs : List (List Str)} (i : Nat) : (gs.take i).flatten.length ≤ gs.flatten.length := by
  have h : gs.flatten = (gs.take i).flatten ++ (gs.drop i).flatten := by rw [← List.flatten_append, List.take_append_drop]
  rw [h, List.length_append]
  exact Nat.le_add_right _ _
theorem ok_areL (F : FunD K "are_letters" "are_letters" (defArgs sAreLetters) (defBody sAreLetters) (defScope sAreLetters) [] [] f fd) (T : Tx K mg C) (gG : Kn P w K mg base 2 "is_group" ["thing"] spGroup) : FnOk P w K mg base CX0 3 f fd ["thing"] spAreLetters := by
  refine ok0 F scAreL (fun vs H Q E h => ?_) (fun cdv A outer s H vs Q E hr h => ?_)
  · obtain ⟨a, g, rfl, _⟩ := h
    rfl
  · obtain ⟨t, gs, rfl, hT, hG, k⟩ := h
    refine ⟨_, pss_cons (ps_if (PW.pt (pw_or (pt_not (pt_val (pe_callB call_isi (by rfl) (T.f 0) (by decide +kernel) (pa_cons (pv 0) (pa_cons (pe_bltn (v := .ty "tuple") (by rfl) (T.f 4) (by decide +kernel) rfl) pa_nil)))))
        (pw_or1 (pt_not (pt_chain op_le op_le pe_int (pe_callB call_len_seq (by rfl) (T.f 2) PySem.boot_len (pa_cons (pv 0) pa_nil)) (pe_gi T.mgr)))))) (pss_one (ps_ret pe_bl)) pss_nil)
      (pss_cons (ps_if (pt_not (pt_val (pe_callB (cr_all rfl) (by rfl) (T.f 3) (by decide +kernel) (pa_cons
        (pe_lc (own := [("group", 1)]) (g := gName 1) (tt := tYes) rfl scAreL.nd (pi_tup (pv 0)) (blkOk_by (N := ["thing", "group", "texts"]) (sc := defScope sAreLetters) (by decide +kernel)) (fun _ _ _ _ _ => pg_name (i := 1) scAreL.nd rfl (Or.inl rfl)) (fun _ _ _ _ _ => pts_nil)
          (fun _ _ _ _ _ => pe_k gG hr (Nat.le_refl _) (pa_cons (pv 1) pa_nil))) pa_nil)))) (pss_one (ps_ret pe_bl)) pss_nil)
      (pss_cons (ps_set (i := 2) scAreL.nd rfl (Or.inl rfl) (pe_lst pa_nil))
      (pss_cons (ps_for PassesOwn.never rfl (pi_tup (pv 0)) (pg_name (i := 1) scAreL.nd rfl (Or.inl rfl)) (pss_one (ps_expr (pe_bm PySem.F.plainAttrs_list PySem.F.slot_list_extend PySem.F.type_list_extend mt_extT (pv 2) (pa_cons (pv 1) pa_nil)))))
      (pss_one (ps_ret (pe_cmpR op_eq (pe_lenSetS (by rfl) (T.f 2) (by rfl) (T.f 5) (pv 2)) (pe_callB call_len_seq (by rfl) (T.f 2) PySem.boot_len (pa_cons (pv 2) pa_nil)) (nomark _))))))), ?_⟩
    obtain ⟨as, hH, hal, hgr⟩ := hT
    have hlen : (as.map V.ref).length = gs.length := by rw [List.length_map]; exact hal
    have h1 : 1 ≤ gs.length := by
      cases e : gs with
      | nil => exact absurd e hG.ne
      | cons g r => simp
    have e1 : decide ((1 : Int) ≤ ((as.map V.ref).length : Nat)) = true := decide_eq_true (by rw [hlen]; omega)
    have e2 : decide ((((as.map V.ref).length : Nat) : Int) ≤ 40) = true := decide_eq_true (by rw [hlen]; have := hG.le; omega)
    refine ⟨_, rfl, _, _, _, _, true, rfl, .ty "tuple", .base (.tup hH), kit_ty (by decide +kernel), true, rfl, iteF ?_⟩
    refine ⟨_, rfl, t, _, rfl, .inr (.inl (.inl hH)), _, _, rfl, rfl, true, congrArg V.bl e1, iteT ?_⟩
    refine ⟨_, _, rfl, rfl, true, congrArg V.bl e2, iteF ?_⟩
    refine ⟨_, rfl, t, rfl, ⟨_, .inl (.inl hH)⟩, fun D hD => ?_⟩
    have atG : ∀ {i : Nat} {x : V} {H1 : Hp}, Same H H1 → (as.map V.ref)[i]? = some x → ∃ a g, x = .ref a ∧ gs[i]? = some g ∧ H1 a = some (.tup (g.map V.str)) := fun {i x H1} s1 hx => by
      obtain ⟨a, ha, rfl⟩ := map_get hx
      have hi : i < gs.length := by
        have := (List.getElem?_eq_some_iff.mp ha).1
        omega
      exact ⟨a, gs[i], rfl, by simp [hi], s1 _ _ (hgr i a gs[i] ha (by simp [hi]))⟩
    refine lc_same (walk_tup (K := K) (a := t) (xs := as.map V.ref)) hD (as.map fun _ => V.bl true) (by simp) (by rw [hlen]; exact Nat.le_trans hG.le (by decide)) (fun H1 s1 => .inl (.inl (s1 _ _ hH))) ?_ ?_
    · rintro i x H1 H2 y R hi s1 ⟨rfl, hx⟩ hy hR
      obtain ⟨a, g, rfl, hg, ha⟩ := atG s1 hx
      refine ⟨rfl, _, rfl, a, g, rfl, ha, hG.gr g (List.mem_of_getElem? hg), fun H4 s4 => ?_⟩
      rw [← rep_get hy]
      exact hR _ s4
    · intro H1 s1 hD1
      refine ⟨D, as.map fun _ => true, rfl, .of (hD1.trans ?_), true, ?_, iteF ?_⟩
      · rw [List.map_map]
        rfl
      · rw [all_true]
      refine ⟨Nat.zero_le _, fun l hl => ?_⟩
      have s2 : Same H1 (upd H1 l (.lst [])) := fun b o e => by rw [upd_ne (ne_of_none e hl)]; exact e
      have few := hG.few
      refine ⟨_, rfl, t, rfl, ⟨_, .inl (.inl (s2 _ _ (s1 _ _ hH)))⟩, for_tup (K := K) (a := t) (xs := as.map V.ref)
        (fun i σ H' => ∃ v, σ = [some (.ref t), v, some (.ref l)] ∧ Same H1 (upd H' l (.lst [])) ∧ Same H H' ∧ H' l = some (.lst ((gs.take i).flatten.map V.str))) ⟨none, rfl, ?_, s1.trans s2, upd_same⟩ ?_ ?_ ?_⟩
      · rw [upd_upd]
        exact s2
      · rintro i σ H' _ ⟨v, rfl, _, s3, _⟩
        exact .inl (.inl (s3 _ _ hH))
      · rintro i x σ H' hx ⟨v, rfl, s4, s3, hL⟩
        obtain ⟨a, g, rfl, hg, ha⟩ := atG s3 hx
        have q := take_flat hg
        have z := take_le (gs := gs) (i + 1)
        rw [q, List.length_append] at z
        refine ⟨_, rfl, .inl ⟨rfl, _, .of hL⟩, _, rfl, l, a, _, _, rfl, rfl, hL, .inl (.inl ha), ?_, ?_⟩
        · rw [List.length_map, List.length_map]
          exact Nat.le_trans (Nat.le_trans z few) (by decide)
        · refine ⟨some (.ref a), rfl, ?_, fun b o e => ?_, ?_⟩
          · rw [upd_upd]
            exact s4
          · have nb : b ≠ l := ne_of_none (s1 _ _ e) hl
            rw [upd_ne nb]
            exact s3 _ _ e
          · rw [upd_same, q, List.map_append]
      · rintro σ H' ⟨v, rfl, s4, s3, hL⟩
        have et : gs.take (as.map V.ref).length = gs := by rw [hlen, List.take_length]
        rw [et] at hL
        refine ⟨_, rfl, l, gs.flatten, rfl, .inl (.of hL), hG.nd, Nat.le_trans few (by decide), _, rfl, l, _, rfl, .inl (.of hL), rfl, ?_⟩
        have e3 : decide (V.int ((gs.flatten.length : Nat) : Int) = V.int (((gs.flatten.map V.str).length : Nat) : Int)) = true := decide_eq_true (by rw [List.length_map])
        show Q (V.bl (decide (V.int ((gs.flatten.length : Nat) : Int) = V.int (((gs.flatten.map V.str).length : Nat) : Int)))) _
        rw [e3]
        exact k _ s3
end
end K79
namespace K79
open PySem PySem.Spec PyProof.Rows L2
/-! the number of a letter's group -/
def num (gs : List (List Str)) (t : Str) : Option Nat := gs.findIdx? fun g => decide (t ∈ g)
theorem num_snoc (xs : List (List Str)) (g : List Str) (t : Str) : num (xs ++ [g]) t = match num xs t with | some i => some i | none => if t ∈ g then some xs.length else none := by
  unfold num
  rw [List.findIdx?_append]
  cases List.findIdx? (fun g => decide (t ∈ g)) xs with
  | some i => rfl
  | none =>
    by_cases h : t ∈ g
    · simp [List.findIdx?_cons, h]
    · simp [List.findIdx?_cons, h]
theorem num_none {xs : List (List Str)} {t : Str} (h : t ∉ xs.flatten) : num xs t = none := by
  unfold num
  rw [List.findIdx?_eq_none_iff]
  intro g hg
  exact decide_eq_false fun ht => h (List.mem_flatten.mpr ⟨g, hg, ht⟩)
theorem num_empty (xs : List (List Str)) (t : Str) : num (xs ++ [[]]) t = num xs t := by
  rw [num_snoc]
  cases num xs t with
  | some i => rfl
  | none => simp
theorem num_step {xs : List (List Str)} {g : List Str} {j : Nat} {t0 : Str} (h : g[j]? = some t0) (h1 : t0 ∉ xs.flatten) (t : Str) : num (xs ++ [g.take (j + 1)]) t = if t = t0 then some xs.length else num (xs ++ [g.take j]) t := by
  rw [num_snoc, num_snoc]
  have e : g.take (j + 1) = g.take j ++ [t0] := by rw [List.take_add_one, h]; rfl
  by_cases q : t = t0
  · subst q
    rw [num_none h1, if_pos rfl, e]
    simp
  · rw [if_neg q]
    cases num xs t with
    | some i => rfl
    | none => rw [e]; simp [q]
def NumV (kvs : List (Key × V)) (gs : List (List Str)) : Prop := ∀ t : Str, valV kvs (.inr t) = (num gs t).map fun i => V.int (i : Nat)
/-- a custom's fields -/
def cfs (tl tp d : Addr) (cm : Bool) : List (Str × V) := [("letters", .ref tl), ("passed", .ref tp), ("comma", .bl cm), ("numbers", .ref d)]
theorem lkL (tl tp d : Addr) (cm : Bool) : (cfs tl tp d cm).lookup ("letters" : Str) = some (.ref tl) := by kernel_rfl
theorem lkP (tl tp d : Addr) (cm : Bool) : (cfs tl tp d cm).lookup ("passed" : Str) = some (.ref tp) := by kernel_rfl
theorem lkC (tl tp d : Addr) (cm : Bool) : (cfs tl tp d cm).lookup ("comma" : Str) = some (.bl cm) := by kernel_rfl
theorem lkN (tl tp d : Addr) (cm : Bool) : (cfs tl tp d cm).lookup ("numbers" : Str) = some (.ref d) := by kernel_rfl
theorem pf1 (tl : Addr) : putF "letters" (.ref tl) [] = [(("letters" : Str), V.ref tl)] := rfl
theorem pf2 (tl tp : Addr) : putF "passed" (.ref tp) [(("letters" : Str), V.ref tl)] = [(("letters" : Str), V.ref tl), ("passed", .ref tp)] := by kernel_rfl
theorem pf3 (tl tp : Addr) (cm : Bool) : putF "comma" (.bl cm) [(("letters" : Str), V.ref tl), ("passed", .ref tp)] = [(("letters" : Str), V.ref tl), ("passed", .ref tp), ("comma", .bl cm)] := by kernel_rfl
theorem pf4 (tl tp d : Addr) (cm : Bool) : putF "numbers" (.ref d) [(("letters" : Str), V.ref tl), ("passed", .ref tp), ("comma", .bl cm)] = cfs tl tp d cm := by kernel_rfl
/-- a custom of these groups and passed words stands at p -/
def CustAt (C : Addr) (H : Hp) (p : Addr) (gs : List (List Str)) (ps : List Str) (cm : Bool) : Prop :=
  ∃ (dx tl tp d : Addr) (kvs : List (Key × V)), H p = some (.ins C dx (cfs tl tp d cm)) ∧ H d = some (.dK kvs) ∧ NumV kvs gs ∧ H tp = some (.tup (ps.map V.str))
/-- but one place (and the tables) all stays -/
def But (a : Addr) (H H' : Hp) : Prop := ∀ b o, b ≠ a → (∀ ps, o ≠ .tbl ps) → H b = some o → H' b = some o
theorem CustAt.but {C p a : Addr} {H H' : Hp} {gs : List (List Str)} {ps : List Str} {cm : Bool} {xs : List V} (c : CustAt C H p gs ps cm) (ha : H a = some (.lst xs)) (e : But a H H') : CustAt C H' p gs ps cm := by
  obtain ⟨dx, tl, tp, d, kvs, h1, h2, h3, h4⟩ := c
  have n : ∀ b o, H b = some o → (∀ ys, o ≠ .lst ys) → b ≠ a := fun b o h k z => by rw [z, ha] at h; exact k xs (Option.some.inj h).symm
  exact ⟨dx, tl, tp, d, kvs, e _ _ (n _ _ h1 fun ys z => by cases z) (fun ps z => by cases z) h1, e _ _ (n _ _ h2 fun ys z => by cases z) (fun ps z => by cases z) h2, h3, e _ _ (n _ _ h4 fun ys z => by cases z) (fun ps z => by cases z) h4⟩
theorem CustAt.ext {C p : Addr} {H H' : Hp} {gs : List (List Str)} {ps : List Str} {cm : Bool} (c : CustAt C H p gs ps cm) (e : LamX.ExtN H H') : CustAt C H' p gs ps cm := by
  obtain ⟨dx, tl, tp, d, kvs, h1, h2, h3, h4⟩ := c
  exact ⟨dx, tl, tp, d, kvs, e _ _ h1 fun ps z => (by cases z), e _ _ h2 fun ps z => (by cases z), h3, e _ _ h4 fun ps z => (by cases z)⟩
theorem CustAt.same {C p : Addr} {H H' : Hp} {gs : List (List Str)} {ps : List Str} {cm : Bool} (c : CustAt C H p gs ps cm) (e : Same H H') : CustAt C H' p gs ps cm := c.ext fun b o h _ => e b o h
section
variable {P : Program} {w : World} {K : PySem.W.Frag} {mg : Str → Option Value} {base : Heap} {f : Addr} {fd : FuncData} {C : Addr}
def spArePassed : Sp := fun vs H Q _ => ∃ t ps, vs = [.ref t] ∧ H t = some (.tup (ps.map V.str)) ∧ IsPas ps ∧ ∀ H', Same H H' → Q (.bl true) H'
theorem scAreP : FnScope ["thing", "word"] ["thing"] (defScope sArePassed) := ⟨rfl, rfl, rfl, by decide +kernel, rfl, by decide +kernel, by decide +kernel⟩
theorem ok_areP (F : FunD K "are_passed" "are_passed" (defArgs sArePassed) (defBody sArePassed) (defScope sArePassed) [] [] f fd) (T : Tx K mg C) (gW : Kn P w K mg base 1 "is_word" ["thing"] spWord) : FnOk P w K mg base CX0 2 f fd ["thing"] spArePassed := by
  refine ok0 F scAreP (fun vs H Q E h => ?_) (fun cdv A outer s H vs Q E hr h => ?_)
  · obtain ⟨a, g, rfl, _⟩ := h
    rfl
  · obtain ⟨t, ps, rfl, hH, hP, k⟩ := h
    refine ⟨_, pss_cons (ps_if (PW.pt (pw_or (pt_not (pt_val (pe_callB call_isi (by rfl) (T.f 0) (by decide +kernel) (pa_cons (pv 0) (pa_cons (pe_bltn (v := .ty "tuple") (by rfl) (T.f 4) (by decide +kernel) rfl) pa_nil)))))
        (pw_or (pt_cmpR op_gt (pe_callB call_len_seq (by rfl) (T.f 2) PySem.boot_len (pa_cons (pv 0) pa_nil)) (pe_gi T.mp) (nomark _))
        (pw_or1 (pt_not (pt_val (pe_callB (cr_all rfl) (by rfl) (T.f 3) (by decide +kernel) (pa_cons
        (pe_lc (own := [("word", 1)]) (g := gName 1) (tt := tYes) rfl scAreP.nd (pi_tup (pv 0)) (blkOk_by (N := ["thing", "word"]) (sc := defScope sArePassed) (by decide +kernel)) (fun _ _ _ _ _ => pg_name (i := 1) scAreP.nd rfl (Or.inl rfl)) (fun _ _ _ _ _ => pts_nil)
          (fun _ _ _ _ _ => pe_k gW hr (Nat.le_refl _) (pa_cons (pv 1) pa_nil))) pa_nil)))))))) (pss_one (ps_ret pe_bl)) pss_nil)
      (pss_one (ps_ret (pe_cmpR op_eq (pe_lenSetS (by rfl) (T.f 2) (by rfl) (T.f 5) (pv 0)) (pe_callB call_len_seq (by rfl) (T.f 2) PySem.boot_len (pa_cons (pv 0) pa_nil)) (nomark _)))), ?_⟩
    have hle := hP.le
    have e2 : decide ((20 : Int) < (((ps.map V.str).length : Nat) : Int)) = false := decide_eq_false (by rw [List.length_map]; omega)
    refine ⟨_, rfl, _, _, _, _, true, rfl, .ty "tuple", .base (.tup hH), kit_ty (by decide +kernel), true, rfl, iteF ?_⟩
    refine ⟨_, rfl, t, _, rfl, .inr (.inl (.inl hH)), _, _, rfl, rfl, false, congrArg V.bl e2, iteF ?_⟩
    refine ⟨_, rfl, t, rfl, ⟨_, .inl (.inl hH)⟩, fun D hD => ?_⟩
    refine lc_same (walk_tup (K := K) (a := t) (xs := ps.map V.str)) hD (ps.map fun _ => V.bl true) (by simp) (by rw [List.length_map]; exact Nat.le_trans hle (by decide)) (fun H1 s1 => .inl (.inl (s1 _ _ hH))) ?_ ?_
    · rintro i x H1 H2 y R hi s1 ⟨rfl, hx⟩ hy hR
      obtain ⟨z, hz, rfl⟩ := map_get hx
      refine ⟨rfl, _, rfl, z, rfl, hP.wd z (List.mem_of_getElem? hz), fun H4 s4 => ?_⟩
      rw [← rep_get hy]
      exact hR _ s4
    · intro H1 s1 hD1
      refine ⟨D, ps.map fun _ => true, rfl, .of (hD1.trans ?_), true, ?_, iteF ?_⟩
      · rw [List.map_map]
        rfl
      · rw [all_true]
      refine ⟨_, rfl, t, ps, rfl, .inr (.inl (.inl (s1 _ _ hH))), hP.nd, Nat.le_trans hle (by decide), _, rfl, t, _, rfl, .inr (.inl (.inl (s1 _ _ hH))), rfl, ?_⟩
      have e3 : decide (V.int ((ps.length : Nat) : Int) = V.int (((ps.map V.str).length : Nat) : Int)) = true := decide_eq_true (by rw [List.length_map])
      show Q (V.bl (decide (V.int ((ps.length : Nat) : Int) = V.int (((ps.map V.str).length : Nat) : Int)))) _
      rw [e3]
      exact k _ s1
def spInit (C : Addr) : Sp := fun vs H Q _ => ∃ (p dx tl tp : Addr) (gs : List (List Str)) (ps : List Str) (cm : Bool), vs = [.ref p, .ref tl, .ref tp, .bl cm] ∧ H p = some (.ins C dx []) ∧ TupG H tl gs ∧ IsLets gs ∧ H tp = some (.tup (ps.map V.str)) ∧ IsPas ps ∧
  ∀ H', (∀ b o, b ≠ p → H b = some o → H' b = some o) → CustAt C H' p gs ps cm → Q .non H'
theorem scInit : FnScope ["self", "letters", "passed", "comma", "words", "number", "group", "text"] ["self", "letters", "passed", "comma"] (defScope sInit) := ⟨rfl, rfl, rfl, by decide +kernel, rfl, by decide +kernel, by decide +kernel⟩
theorem ok_init (F : FunD K "__init__" "Custom.__init__" (defArgs sInit) (defBody sInit) (defScope sInit) [.non, .bl true] [] f fd) (T : Tx K mg C) (gL : Kn P w K mg base 3 "are_letters" ["thing"] spAreLetters) (gP : Kn P w K mg base 2 "are_passed" ["thing"] spArePassed) :
    FnOk P w K mg base CX0 4 f fd ["self", "letters", "passed", "comma"] (spInit C) := by
  refine ok0 F scInit (fun vs H Q E h => ?_) (fun cdv A outer s H vs Q E hr h => ?_)
  · obtain ⟨p, dx, tl, tp, gs, ps, cm, rfl, _⟩ := h
    rfl
  · obtain ⟨p, dx, tl, tp, gs, ps, cm, rfl, hp, hT, hG, hP, hW, k⟩ := h
    refine ⟨_, pss_cons (ps_set (i := 4) scInit.nd rfl (Or.inl rfl) (pe_ifExp (pt_cmpR op_isN (pv 2) pe_non (nomark _)) (pe_tup pa_nil) (pv 2)))
      (pss_cons (ps_if (PW.pt (pw_or (pt_not (pt_val (pe_k gL hr (Nat.le_refl _) (pa_cons (pv 1) pa_nil)))) (pw_or (pt_not (pt_val (pe_k gP hr (by decide) (pa_cons (pv 4) pa_nil))))
        (pw_or1 (pt_not (pt_val (pe_callB call_isi (by rfl) (T.f 0) (by decide +kernel) (pa_cons (pv 3) (pa_cons (pe_bltn (v := .ty "bool") (by rfl) (T.f 6) (by decide +kernel) rfl) pa_nil))))))))) pss_never pss_nil)
      (pss_cons (ps_fld (pv 0) (pv 1) rfl) (pss_cons (ps_fld (pv 0) (pv 4) rfl) (pss_cons (ps_fld (pv 0) (pv 3) rfl) (pss_cons (ps_fld (pv 0) pe_dnewK rfl)
      (pss_one (ps_for PassesOwn.never rfl (pi_enT (by rfl) (T.f 7) (pa_cons (pv 1) pa_nil)) (pg_tup rfl (pgs_cons (pg_name (i := 5) scInit.nd rfl (Or.inl rfl)) (pgs_cons (pg_name (i := 6) scInit.nd rfl (Or.inl rfl)) pgs_nil)))
        (pss_one (ps_for PassesOwn.never rfl (pi_tup (pv 6)) (pg_name (i := 7) scInit.nd rfl (Or.inl rfl)) (pss_one (ps_dput (hu_of hr) (pe_fld (pv 0) rfl) (pv 7) (pv 5) rfl))))))))))), ?_⟩
    refine ⟨_, rfl, rfl, false, rfl, iteF ⟨_, rfl, ?_⟩⟩
    refine ⟨_, rfl, tl, gs, rfl, hT, hG, fun H1 s1 => ⟨true, rfl, iteF ?_⟩⟩
    refine ⟨_, rfl, tp, ps, rfl, s1 _ _ hP, hW, fun H2 s2 => ⟨true, rfl, iteF ?_⟩⟩
    refine ⟨_, rfl, _, _, _, _, true, rfl, .ty "bool", .base (.bl cm), kit_ty (by decide +kernel), true, rfl, iteF ?_⟩
    have s3 : Same H H2 := s1.trans s2
    refine ⟨_, rfl, _, rfl, p, C, dx, [], rfl, s3 _ _ hp, T.cl, T.nL, (by show 0 < 1000; decide), ?_⟩
    rw [pf1]
    refine ⟨_, rfl, _, rfl, p, C, dx, _, rfl, upd_same, T.cl, T.nP, (by show 1 < 1000; decide), ?_⟩
    rw [pf2]
    refine ⟨_, rfl, _, rfl, p, C, dx, _, rfl, upd_same, T.cl, T.nC, (by show 2 < 1000; decide), ?_⟩
    rw [pf3, upd_upd, upd_upd]
    intro d hd
    have npd : p ≠ d := ne_of_none (H := upd H2 p (.ins C dx [(("letters" : Str), V.ref tl), ("passed", .ref tp), ("comma", .bl cm)])) upd_same hd
    have hd2 : H2 d = none := by rw [upd_ne npd.symm] at hd; exact hd
    refine ⟨_, rfl, p, C, dx, _, rfl, Eq.trans (upd_ne npd) upd_same, T.cl, T.nN, (by show 3 < 1000; decide), ?_⟩
    rw [pf4]
    have hp4 : (upd (upd (upd H2 p (.ins C dx [(("letters" : Str), V.ref tl), ("passed", .ref tp), ("comma", .bl cm)])) d (.dK [])) p (.ins C dx (cfs tl tp d cm))) p = some (.ins C dx (cfs tl tp d cm)) := upd_same
    have hd4 : (upd (upd (upd H2 p (.ins C dx [(("letters" : Str), V.ref tl), ("passed", .ref tp), ("comma", .bl cm)])) d (.dK [])) p (.ins C dx (cfs tl tp d cm))) d = some (.dK []) := by rw [upd_ne npd.symm, upd_same]
    have ke4 : ∀ b o, b ≠ p → H b = some o → (upd (upd (upd H2 p (.ins C dx [(("letters" : Str), V.ref tl), ("passed", .ref tp), ("comma", .bl cm)])) d (.dK [])) p (.ins C dx (cfs tl tp d cm))) b = some o := fun b o hb e => by
      have e2 := s3 _ _ e
      rw [upd_ne hb, upd_ne (ne_of_none e2 hd2), upd_ne hb]
      exact e2
    generalize upd (upd (upd H2 p (.ins C dx [(("letters" : Str), V.ref tl), ("passed", .ref tp), ("comma", .bl cm)])) d (.dK [])) p (.ins C dx (cfs tl tp d cm)) = H4 at hp4 hd4 ke4 ⊢
    have hd0 : H d = none := s3.free hd2
    have few := hG.few
    obtain ⟨as, hA, hal, hgr⟩ := id hT
    have ntp : tl ≠ p := ne_of hA hp (by intro z; cases z)
    have hlen : (as.map V.ref).length = gs.length := by rw [List.length_map]; exact hal
    -- for number, group in enumerate(letters)
    refine ⟨_, rfl, tl, _, rfl, .inl (.inl (ke4 _ _ ntp hA)), for_it (walk_enT (K := K) (a := tl) (xs := as.map V.ref))
      (fun i σ H' => ∃ v5 v6 v7 kvs, σ = [some (.ref p), some (.ref tl), some (.ref tp), some (.bl cm), some (.ref tp), v5, v6, v7] ∧ H' p = some (.ins C dx (cfs tl tp d cm)) ∧ H' d = some (.dK kvs) ∧ (∀ b o, b ≠ p → H b = some o → H' b = some o) ∧
        NumV kvs (gs.take i) ∧ kvs.length ≤ (gs.take i).flatten.length) ⟨none, none, none, [], rfl, hp4, hd4, ke4, fun t => rfl, Nat.zero_le _⟩ ?_ ?_ ?_⟩
    · rintro i σ H' _ ⟨v5, v6, v7, kvs, rfl, _, _, ke, _⟩
      exact .inl (.inl (ke _ _ ntp hA))
    · rintro i x σ H5 H6 hi ⟨v5, v6, v7, kvs, rfl, hp5, hd5, ke5, hN, hl5⟩ ⟨T1, y1, y2, rfl, hT1, rfl, ey1, ey2⟩
      cases ey1
      obtain ⟨a, ha, rfl⟩ := map_get ey2
      have hig : i < gs.length := by rw [← hlen]; exact hi
      have hga : H a = some (.tup (gs[i].map V.str)) := hgr i a gs[i] ha (by simp [hig])
      have nap : a ≠ p := ne_of hga hp (by intro z; cases z)
      have s6 : ∀ b o, H5 b = some o → upd H5 T1 (.tup [.int (i : Nat), .ref a]) b = some o := fun b o e => by rw [upd_ne (ne_of_none e hT1)]; exact e
      have hg6 := s6 _ _ (ke5 _ _ nap hga)
      have hp6 := s6 _ _ hp5
      have hd6 := s6 _ _ hd5
      have ke6 : ∀ b o, b ≠ p → H b = some o → upd H5 T1 (.tup [.int (i : Nat), .ref a]) b = some o := fun b o hb e => s6 _ _ (ke5 b o hb e)
      refine ⟨T1, _, rfl, .inl (.inl upd_same), rfl, _, _, rfl, _, _, rfl, rfl, ?_⟩
      generalize upd H5 T1 (.tup [.int (i : Nat), .ref a]) = H6 at hg6 hp6 hd6 ke6 ⊢
      have fl : (gs.take (i + 1)).flatten = (gs.take i).flatten ++ gs[i] := take_flat (by simp [hig])
      have fle := take_le (gs := gs) (i + 1)
      rw [fl, List.length_append] at fle
      -- for text in group
      refine ⟨_, rfl, a, rfl, ⟨_, .inl (.inl hg6)⟩, for_it (walk_tup (K := K) (a := a) (xs := gs[i].map V.str))
        (fun j σ H' => ∃ v7 kvs, σ = [some (.ref p), some (.ref tl), some (.ref tp), some (.bl cm), some (.ref tp), some (.int (i : Nat)), some (.ref a), v7] ∧ H' p = some (.ins C dx (cfs tl tp d cm)) ∧ H' d = some (.dK kvs) ∧ (∀ b o, b ≠ p → H b = some o → H' b = some o) ∧
          NumV kvs (gs.take i ++ [gs[i].take j]) ∧ kvs.length ≤ (gs.take i).flatten.length + j) ⟨v7, kvs, rfl, hp6, hd6, ke6, fun t => by rw [List.take_zero, num_empty]; exact hN t, by omega⟩ ?_ ?_ ?_⟩
      · rintro j σ H' _ ⟨v7, kvs, rfl, _, _, ke, _⟩
        exact .inl (.inl (ke _ _ nap hga))
      · rintro j x σ H7 H8 hj ⟨v7, kvs, rfl, hp7, hd7, ke7, hN7, hl7⟩ ⟨rfl, hx⟩
        obtain ⟨t0, ht0, rfl⟩ := map_get hx
        rw [List.length_map] at hj
        have nin : t0 ∉ (gs.take i).flatten := fun q => by
          have nd := hG.nd
          have e : gs.flatten = (gs.take i).flatten ++ (gs[i] ++ (gs.drop (i + 1)).flatten) := by
            rw [← List.append_assoc, ← fl, ← List.flatten_append, List.take_append_drop]
          rw [e, List.nodup_append] at nd
          exact nd.2.2 t0 q t0 (List.mem_append_left _ (List.mem_of_getElem? ht0)) rfl
        refine ⟨_, rfl, _, rfl, p, C, dx, _, _, rfl, hp7, T.cl, T.nN, lkN _ _ _ _, _, rfl, d, _, rfl, DPut.k (k := .inr t0) hd7 ?_, ?_⟩
        · exact Nat.lt_of_le_of_lt (show kvs.length ≤ 320 by omega) (by decide)
        · have ndp : d ≠ p := npd.symm
          refine ⟨some (.str t0), putK kvs (.inr t0) (.int (i : Nat)), rfl, ?_, upd_same, fun b o hb e => ?_, fun t => ?_, ?_⟩
          · rw [upd_ne npd]; exact hp7
          · rw [upd_ne (ne_of_none e hd0)]; exact ke7 b o hb e
          · rw [valV_put, num_step ht0 nin]
            by_cases q : t = t0
            · subst q
              rw [if_pos rfl, if_pos rfl]
              have : (gs.take i).length = i := by rw [List.length_take]; omega
              rw [this]
              rfl
            · rw [if_neg (fun z => q (Sum.inr.inj z)), if_neg q]
              exact hN7 t
          · have := length_putK kvs (Sum.inr t0) (V.int (i : Nat))
            omega
      · rintro σ H9 ⟨v7, kvs, rfl, hp7, hd7, ke7, hN7, hl7⟩
        rw [List.length_map] at hN7 hl7
        refine ⟨some (.int (i : Nat)), some (.ref a), v7, kvs, rfl, hp7, hd7, ke7, ?_, ?_⟩
        · rw [List.take_length] at hN7
          have e : gs.take (i + 1) = gs.take i ++ [gs[i]] := by rw [List.take_add_one]; simp [hig]
          rw [e]
          exact hN7
        · rw [fl, List.length_append]
          exact hl7
    · rintro σ H5 ⟨v5, v6, v7, kvs, rfl, hp5, hd5, ke5, hN, hl5⟩
      rw [hlen, List.take_length] at hN
      have ntp2 : tp ≠ p := ne_of hP hp (by intro z; cases z)
      exact k _ ke5 ⟨dx, tl, tp, d, kvs, hp5, hd5, hN, ke5 _ _ ntp2 hP⟩
end
end K79
namespace K79
open PySem PySem.Spec PyProof.Rows L2
/-! the letters of a text -/
def pick (nu : Str → Option Nat) (cs : List Nat) : List Nat := if (nu ⟨(cs.take 2).toArray⟩).isSome = true then cs.take 2 else cs.take 1
theorem pick_pos (nu : Str → Option Nat) {cs : List Nat} (h : cs ≠ []) : 1 ≤ (pick nu cs).length := by
  cases cs with
  | nil => exact absurd rfl h
  | cons c cs => unfold pick; split <;> simp <;> omega
theorem pick_le (nu : Str → Option Nat) (cs : List Nat) : (pick nu cs).length ≤ cs.length := by
  unfold pick; split <;> simp <;> omega
def one (nu : Str → Option Nat) (t : Str) : List Int := (nu t).toList.map fun i => ((i : Nat) : Int)
def lets (nu : Str → Option Nat) (cs : List Nat) : List Int :=
  if h : cs = [] then [] else one nu ⟨(pick nu cs).toArray⟩ ++ lets nu (cs.drop (pick nu cs).length)
termination_by cs.length
decreasing_by
  have := pick_pos nu h
  have := pick_le nu cs
  rw [List.length_drop]
  omega
theorem lets_nil (nu : Str → Option Nat) : lets nu [] = [] := by rw [lets]; rfl
theorem lets_step (nu : Str → Option Nat) {cs : List Nat} (h : cs ≠ []) : lets nu cs = one nu ⟨(pick nu cs).toArray⟩ ++ lets nu (cs.drop (pick nu cs).length) := by
  rw [lets, dif_neg h]
/-- no letter of two signs -/
theorem lets_one {nu : Str → Option Nat} (h : ∀ t : Str, t.cps.size = 2 → nu t = none) : ∀ cs : List Nat, lets nu cs = cs.flatMap fun c => one nu ⟨#[c]⟩
  | [] => lets_nil nu
  | c :: cs => by
    have e : pick nu (c :: cs) = [c] := by
      unfold pick
      cases cs with
      | nil => split <;> rfl
      | cons d ds =>
        rw [h ⟨((c :: d :: ds).take 2).toArray⟩ (by simp)]
        rfl
    rw [lets_step nu (by simp), e, List.flatMap_cons]
    show one nu ⟨#[c]⟩ ++ lets nu cs = _
    rw [lets_one h cs]
theorem one_le (nu : Str → Option Nat) (t : Str) : (one nu t).length ≤ 1 := by
  unfold one
  cases nu t <;> simp
theorem lets_le (nu : Str → Option Nat) : ∀ (n : Nat) (cs : List Nat), cs.length ≤ n → (lets nu cs).length ≤ cs.length := by
  intro n
  induction n with
  | zero =>
    intro cs h
    rw [List.length_eq_zero_iff.mp (Nat.le_zero.mp h), lets_nil]
    exact Nat.le_refl _
  | succ n ih =>
    intro cs h
    by_cases e : cs = []
    · rw [e, lets_nil]; exact Nat.le_refl _
    · have h1 := pick_pos nu e
      have h2 := pick_le nu cs
      have h3 := one_le nu ⟨(pick nu cs).toArray⟩
      have h4 := ih (cs.drop (pick nu cs).length) (by rw [List.length_drop]; omega)
      rw [lets_step nu e, List.length_append]
      rw [List.length_drop] at h4
      omega
def low (z : Str) : List Nat := z.cps.toList.map lo1
def lts (gs : List (List Str)) (z : Str) : List Int := lets (num gs) (low z)
theorem lts_le (gs : List (List Str)) (z : Str) : (lts gs z).length ≤ z.cps.size := by
  have h := lets_le (num gs) _ (low z) (Nat.le_refl _)
  unfold lts
  unfold low at h ⊢
  rw [List.length_map, Array.length_toList] at h
  exact h
theorem cut_two {z : Str} {i : Nat} (h : i < z.cps.size) : cutS z (some (i : Int)) (some ((i : Int) + 2)) = ⟨((z.cps.toList.drop i).take 2).toArray⟩ := by
  unfold cutS
  have hl : z.length = z.cps.size := rfl
  have e1 : HT.sIx z.length 0 (some (i : Int)) = i := by
    show (if (i : Int) < 0 then ((i : Int) + (z.length : Int)).toNat else min (i : Int).toNat z.length) = i
    rw [if_neg (by omega), hl]
    omega
  have e2 : HT.sIx z.length z.length (some ((i : Int) + 2)) = min (i + 2) z.length := by
    show (if (i : Int) + 2 < 0 then ((i : Int) + 2 + (z.length : Int)).toNat else min ((i : Int) + 2).toNat z.length) = _
    rw [if_neg (by omega)]
    congr 1
  rw [e1, e2]
  congr 2
  rw [hl]
  rcases Nat.le_total (i + 2) z.cps.size with q | q
  · rw [Nat.min_eq_left q]; congr 1; omega
  · rw [Nat.min_eq_right q, List.take_of_length_le (by rw [List.length_drop, Array.length_toList]; omega), List.take_of_length_le (by rw [List.length_drop, Array.length_toList]; omega)]
section
variable {P : Program} {w : World} {K : PySem.W.Frag} {mg : Str → Option Value} {base : Heap} {f : Addr} {fd : FuncData} {C : Addr}
def spLets (C : Addr) : Sp := fun vs H Q _ => ∃ (p : Addr) (gs : List (List Str)) (ps : List Str) (cm : Bool) (z : Str), vs = [.ref p, .str z] ∧ CustAt C H p gs ps cm ∧ Asc z ∧ z.cps.size ≤ 1000 ∧
  ∀ H' r, Same H H' → H r = none → H' r = some (.tup ((lts gs z).map V.int)) → Q (.ref r) H'
theorem scLets : FnScope ["self", "text", "small", "found", "at", "letter"] ["self", "text"] (defScope sLettersIn) := ⟨rfl, rfl, rfl, by decide +kernel, rfl, by decide +kernel, by decide +kernel⟩
theorem ok_lets (F : FunD K "letters_in" "Custom.letters_in" (defArgs sLettersIn) (defBody sLettersIn) (defScope sLettersIn) [] [] f fd) (T : Tx K mg C) : FnOk P w K mg base CX0 1 f fd ["self", "text"] (spLets C) := by
  refine ok0 F scLets (fun vs H Q E h => ?_) (fun cdv A outer s H vs Q E hr h => ?_)
  · obtain ⟨p, gs, ps, cm, z, rfl, _⟩ := h
    rfl
  · obtain ⟨p, gs, ps, cm, z, rfl, hC, hA, hz, k⟩ := h
    refine ⟨_, pss_cons (ps_set (i := 2) scLets.nd rfl (Or.inl rfl) (pe_lower (pv 1)))
      (pss_cons (ps_set (i := 3) scLets.nd rfl (Or.inl rfl) (pe_lst pa_nil))
      (pss_cons (ps_set (i := 4) scLets.nd rfl (Or.inl rfl) pe_int)
      (pss_cons (ps_while PassesOwn.never (pt_cmpR op_lt (pv 4) (pe_callB call_len_str (by rfl) (T.f 2) PySem.boot_len (pa_cons (pv 2) pa_nil)) (nomark _))
        (pss_cons (ps_set (i := 5) scLets.nd rfl (Or.inl rfl) (pe_slice sl_str (pv 2) (po_some (pv 4)) (po_some (pe_op op_add (pv 4) pe_int))))
        (C8.pss_cut (ps_if (pt_cmp (pc_dnotin (hu_of hr) (pv 5) (pe_fld (pv 0) rfl))) (pss_one (ps_set (i := 5) scLets.nd rfl (Or.inl rfl) (pe_ix ix_str (pv 2) (pv 4) (fun _ _ => rfl)))) pss_nil)
        (C8.pss_cut (ps_if (pt_cmp (pc_din (hu_of hr) (pv 5) (pe_fld (pv 0) rfl))) (pss_one (ps_expr (pe_bm PySem.F.plainAttrs_list PySem.F.slot_list_append PySem.F.type_list_append mt_append (pv 3) (pa_cons (pe_dget (hu_of hr) (pe_fld (pv 0) rfl) (pv 5) (fun _ _ => rfl)) pa_nil)))) pss_nil)
        (pss_one (ps_aug (i := 4) scLets.nd rfl (Or.inl rfl) (pe_callB call_len_str (by rfl) (T.f 2) PySem.boot_len (pa_cons (pv 5) pa_nil)) ip_add))))))
      (pss_one (ps_ret (pe_callTy call_tuple_of (by rfl) (T.f 4) (by decide +kernel) (pa_cons (pv 3) pa_nil))))))), ?_⟩
    have hzs : z.length = z.cps.size := rfl
    refine ⟨_, rfl, ⟨_, rfl⟩, z, rfl, rfl, (by rw [hzs]; omega), ?_⟩
    rw [lower_ascii hA]
    have elw : (⟨z.cps.map lo1⟩ : Str).cps.toList = low z := by show (z.cps.map lo1).toList = _; rw [Array.toList_map]; rfl
    have nlw : (⟨z.cps.map lo1⟩ : Str).length = z.cps.size := by show (z.cps.map lo1).size = _; rw [Array.size_map]
    have nlow : (low z).length = z.cps.size := by unfold low; rw [List.length_map, Array.length_toList]
    generalize (⟨z.cps.map lo1⟩ : Str) = lw at elw nlw
    have nlw2 : lw.cps.size = z.cps.size := nlw
    refine ⟨Nat.zero_le _, fun l hl => ?_⟩
    have s0 : Same H (upd H l (.lst [])) := fun b o e => by rw [upd_ne (ne_of_none e hl)]; exact e
    refine while_by (fun σ H' => ∃ (i : Nat) (acc : List Int) (v5 : Option V), σ = [some (.ref p), some (.str z), some (.str lw), some (.ref l), some (.int (i : Nat)), v5] ∧ i ≤ z.cps.size ∧ Same H H' ∧ H' l = some (.lst (acc.map V.int)) ∧ acc ++ lets (num gs) ((low z).drop i) = lts gs z ∧ acc.length ≤ i)
      (fun σ _ => z.cps.size - (slotI σ 4).toNat) ⟨0, [], none, rfl, Nat.zero_le _, s0, upd_same, rfl, Nat.le_refl _⟩ ?_ ?_
    · rintro σ H1 ⟨i, acc, v5, rfl, hi, s1, hL, hacc, hal⟩
      refine ⟨_, rfl, _, rfl, lw, rfl, (by rw [nlw]; exact Nat.le_trans hz (by decide)), _, _, rfl, rfl, _, rfl, ?_⟩
      refine ite2 (fun hlt => ?_) (fun hge => ?_)
      · have hlt' : i < z.cps.size := by have := of_decide_eq_true hlt; rw [nlw] at this; omega
        refine ⟨_, rfl, _, rfl, _, rfl, _, rfl, _, _, rfl, rfl, _, rfl, lw, rfl, (by rw [nlw]; exact Nat.le_trans hz (by decide)), ?_⟩
        rw [cut_two (z := lw) (i := i) (by rw [nlw2]; exact hlt'), elw]
        obtain ⟨dx, tl, tp, d, kvs, hp, hd, hN, hps⟩ := hC.same s1
        obtain ⟨cs, ecs⟩ : ∃ cs, cs = (low z).drop i := ⟨_, rfl⟩
        have hne : cs ≠ [] := by
          intro e
          have := congrArg List.length (ecs.symm.trans e)
          rw [List.length_drop, nlow] at this
          simp at this
          omega
        obtain ⟨c, hc⟩ : ∃ c, (low z)[i]? = some c := ⟨(low z)[i]'(by rw [nlow]; exact hlt'), by simp [nlow, hlt']⟩
        have hc1 : cs.take 1 = [c] := by
          rw [ecs]
          have : ((low z).drop i)[0]? = some c := by rw [List.getElem?_drop]; simpa using hc
          cases e : (low z).drop i with
          | nil => rw [e] at this; simp at this
          | cons a r => rw [e] at this; simp at this; rw [this]; rfl
        rw [← ecs]
        refine ⟨fun σ' H' => H' = H1 ∧ σ' = [some (.ref p), some (.str z), some (.str lw), some (.ref l), some (.int (i : Nat)), some (.str ⟨(pick (num gs) cs).toArray⟩)], ?_, ?_⟩
        · refine ⟨_, rfl, _, rfl, p, C, dx, _, _, rfl, hp, T.cl, T.nN, lkN _ _ _ _, d, _, rfl, DGet.k (k := .inr (⟨(cs.take 2).toArray⟩ : Str)) hd, _, rfl, ?_⟩
          rw [hN]
          cases en : num gs ⟨(cs.take 2).toArray⟩ with
          | some m =>
            have ep : pick (num gs) cs = cs.take 2 := by unfold pick; rw [en]; rfl
            exact iteF ⟨rfl, by rw [ep]; rfl⟩
          | none =>
            have ep : pick (num gs) cs = cs.take 1 := by unfold pick; rw [en]; rfl
            refine iteT ⟨_, rfl, _, rfl, lw, _, c, rfl, rfl, (by rw [nlw]; exact Nat.le_trans hz (by decide)), atI_nat (by rw [elw]; exact hc), rfl, ?_⟩
            rw [ep, hc1]
            rfl
        rintro σ' H' ⟨rfl, rfl⟩
        obtain ⟨lt, elt⟩ : ∃ lt : Str, lt = ⟨(pick (num gs) cs).toArray⟩ := ⟨_, rfl⟩
        rw [← elt]
        have hll : lt.length = (pick (num gs) cs).length := by rw [elt]; show ((pick (num gs) cs).toArray).size = _; rw [List.size_toArray]
        have hp1 := pick_pos (num gs) hne
        have hp2 := pick_le (num gs) cs
        have hcl : cs.length = z.cps.size - i := by rw [ecs, List.length_drop, nlow]
        have h1l := one_le (num gs) lt
        refine ⟨fun σ' H2 => σ' = [some (.ref p), some (.str z), some (.str lw), some (.ref l), some (.int (i : Nat)), some (.str lt)] ∧ Same H H2 ∧ H2 l = some (.lst ((acc ++ one (num gs) lt).map V.int)), ?_, ?_⟩
        · refine ⟨_, rfl, _, rfl, p, C, dx, _, _, rfl, hp, T.cl, T.nN, lkN _ _ _ _, d, _, rfl, DGet.k (k := .inr lt) hd, _, rfl, ?_⟩
          rw [hN]
          cases en : num gs lt with
          | none =>
            refine iteF ⟨rfl, s1, ?_⟩
            have : one (num gs) lt = [] := by unfold one; rw [en]; rfl
            rw [this, List.append_nil]
            exact hL
          | some m =>
            have e1 : one (num gs) lt = [((m : Nat) : Int)] := by unfold one; rw [en]; rfl
            have g : DGet H' d (.str lt) (some (.int (m : Nat))) := by
              have := DGet.k (k := .inr lt) hd
              rw [hN, en] at this
              exact this
            refine iteT ⟨_, rfl, .inl ⟨rfl, _, .of hL⟩, _, rfl, p, C, dx, _, _, rfl, hp, T.cl, T.nN, lkN _ _ _ _, _, rfl, d, _, rfl, g, l, _, _, rfl, rfl, hL, ?_, ?_⟩
            · rw [List.length_map]
              exact Nat.lt_of_le_of_lt (show acc.length ≤ 1000 by omega) (by decide)
            · refine ⟨rfl, fun b o e => ?_, ?_⟩
              · rw [upd_ne (ne_of_none e hl)]
                exact s1 _ _ e
              · rw [upd_same, e1, List.map_append]
                rfl
        rintro σ' H2 ⟨rfl, s2, hL2⟩
        refine ⟨_, rfl, _, rfl, lt, rfl, (by rw [hll]; exact Nat.le_trans (show _ ≤ 1000 by omega) (by decide)), _, _, rfl, rfl, ⟨i + lt.length, acc ++ one (num gs) lt, _, rfl, by omega, s2, hL2, ?_, ?_⟩, ?_⟩
        · rw [List.append_assoc, ← hacc, ← ecs, lets_step (num gs) hne, ← elt, hll, ecs, List.drop_drop]
        · rw [List.length_append]
          omega
        · show z.cps.size - (slotI [some (.ref p), some (.str z), some (.str lw), some (.ref l), some (.int ((i : Nat) + (lt.length : Nat) : Int)), some (.str lt)] 4).toNat < z.cps.size - (slotI [some (.ref p), some (.str z), some (.str lw), some (.ref l), some (.int (i : Nat)), v5] 4).toNat
          show z.cps.size - ((i : Nat) + (lt.length : Nat) : Int).toNat < z.cps.size - ((i : Nat) : Int).toNat
          omega
      · have hge' : i = z.cps.size := by
          have : ¬ ((i : Nat) : Int) < ((lw.length : Nat) : Int) := fun q => hge (decide_eq_true q)
          rw [nlw] at this
          omega
        have e2 : acc = lts gs z := by
          have : (low z).drop i = [] := List.drop_of_length_le (by rw [nlow]; omega)
          rw [this, lets_nil, List.append_nil] at hacc
          exact hacc
        refine ⟨_, rfl, l, _, rfl, .inl ⟨.of hL, fun r hr => k _ r (fun b o e => ?_) ?_ ?_⟩⟩
        · rw [upd_ne (ne_of_none (s1 _ _ e) hr)]
          exact s1 _ _ e
        · exact s1.free hr
        · rw [upd_same, e2]
    · rintro σ H1 Q1 Q2 hq ⟨v, e1, v2, e2, y, ez, hz', i, j, ei, ej, k, ek, q⟩
      exact ⟨v, e1, v2, e2, y, ez, hz', i, j, ei, ej, k, ek, hq _ _ q⟩
end
end K79
namespace K79
open PySem PySem.Builtin.Str PySem.StrLaws L2
/-! passed words ahead, shown, read back -/
theorem first_split {x : Nat} : ∀ {xs : List Nat}, x ∈ xs → ∃ as bs, xs = as ++ x :: bs ∧ x ∉ as
  | [], h => absurd h (by simp)
  | y :: ys, h => by
    by_cases e : x = y
    · subst e; exact ⟨[], ys, rfl, by simp⟩
    · rcases List.mem_cons.mp h with q | q
      · exact absurd q e
      · obtain ⟨as, bs, h1, h2⟩ := first_split q
        exact ⟨y :: as, bs, by rw [h1]; rfl, by simp [e, h2]⟩
theorem tl_sp : TL.tl (" " : Str) = [32] := by decide +kernel
theorem tl_brk : TL.tl (", " : Str) = [44, 32] := by decide +kernel
theorem split32 (z : Str) : 32 ∉ z.cps.toList ∨ ∃ a b : Str, z = a ++ " " ++ b ∧ 32 ∉ a.cps.toList := by
  by_cases h : 32 ∈ z.cps.toList
  · obtain ⟨as, bs, e, hn⟩ := first_split h
    refine .inr ⟨⟨as.toArray⟩, ⟨bs.toArray⟩, TL.ext_tl ?_, hn⟩
    rw [TL.tl_append, TL.tl_append, tl_sp, TL.tl_mk, TL.tl_mk]
    show z.cps.toList = _
    rw [e]
    simp
  · exact .inl h
def bareS (ps : List Str) (z : Str) : Str := if ((Txt.partition z " ").2.2 ≠ "" ∧ Txt.lower (Txt.partition z " ").1 ∈ ps) then (Txt.partition z " ").2.2 else z
/-- what partition(' ') gives -/
theorem part_cases (z : Str) : Txt.partition z " " = (z, ("" : Str), ("" : Str)) ∨ ∃ a b : Str, z = a ++ " " ++ b ∧ Txt.partition z " " = (a, (" " : Str), b) := by
  rcases split32 z with h | ⟨a, b, e, h⟩
  · exact .inl (TL.partition_none (s := 32) (S := []) tl_sp h)
  · refine .inr ⟨a, b, e, ?_⟩
    rw [e]
    exact TL.partition_app (s := 32) (S := []) tl_sp h
theorem size_tl (z : Str) : z.cps.size = (TL.tl z).length := by simp [TL.tl]
theorem bare_cases (ps : List Str) (z : Str) : bareS ps z = z ∨ ∃ a b : Str, z = a ++ " " ++ b ∧ Txt.partition z " " = (a, (" " : Str), b) ∧ bareS ps z = b := by
  unfold bareS
  split
  · rename_i h
    rcases part_cases z with e | ⟨a, b, e1, e2⟩
    · rw [e] at h; exact absurd rfl h.1
    · exact .inr ⟨a, b, e1, e2, by rw [e2]⟩
  · exact .inl rfl
theorem bare_sub {ps : List Str} {z : Str} : (∀ c ∈ (bareS ps z).cps.toList, c ∈ z.cps.toList) ∧ (bareS ps z).cps.size ≤ z.cps.size := by
  rcases bare_cases ps z with e | ⟨a, b, e1, _, e2⟩
  · rw [e]; exact ⟨fun _ h => h, Nat.le_refl _⟩
  · rw [e2]
    have e3 : z.cps.toList = TL.tl a ++ [32] ++ TL.tl b := by
      show TL.tl z = _
      rw [e1, TL.tl_append, TL.tl_append, tl_sp]
    refine ⟨fun c h => by rw [e3]; exact List.mem_append_right _ h, ?_⟩
    rw [size_tl, size_tl, show TL.tl z = _ from e3]
    simp only [List.length_append]
    omega
/-- a text of the law: signs below 128, no comma -/
def Ok (z : Str) : Prop := (∀ c ∈ z.cps.toList, c < 128 ∧ c ≠ 44)
theorem Ok.asc {z : Str} (h : Ok z) : Asc z := fun c hc => (h c hc).1
theorem Ok.nc {z : Str} (h : Ok z) : 44 ∉ z.cps.toList := fun hc => (h 44 hc).2 rfl
theorem bare_ok {ps : List Str} {z : Str} (h : Ok z) : Ok (bareS ps z) := fun c hc => h c (bare_sub.1 c hc)
theorem bare_asc {ps : List Str} {z : Str} (h : Asc z) : Asc (bareS ps z) := fun c hc => h c (bare_sub.1 c hc)
def shownS (ps : List Str) (cm : Bool) (z : Str) : Str := if (cm = false ∨ bareS ps z = z) then z else bareS ps z ++ ", " ++ (Txt.partition z " ").1
def readS (z : Str) : Str := if (Txt.rpartition z ", ").2.1 = "" then z else (Txt.rpartition z ", ").2.2 ++ " " ++ (Txt.rpartition z ", ").1
theorem at_comma {z : Str} {i : Nat} (h : At z ", " z.length i) : z.cps.toList[i]? = some 44 := by
  have h2 := (TL.at_iff (x := z) (y := ", ") (by rw [tl_brk]; simp) i).mp h
  rw [tl_brk] at h2
  unfold TL.pre at h2
  have h3 : ((TL.tl z).drop i).take 2 = [44, 32] := eq_of_beq h2
  have h4 : ((TL.tl z).drop i)[0]? = some 44 := by
    cases e : (TL.tl z).drop i with
    | nil => rw [e] at h3; simp at h3
    | cons c r => rw [e] at h3; simp at h3; rw [h3.1]; rfl
  rw [List.getElem?_drop] at h4
  exact h4
theorem rpart_none {z : Str} (h : 44 ∉ z.cps.toList) : Txt.rpartition z ", " = (("" : Str), ("" : Str), z) := by
  unfold Txt.rpartition
  rcases PySem.StrLaws.last_spec z ", " with ⟨e, _⟩ | ⟨i, e, hi, _⟩
  · rw [e]; rfl
  · exact absurd (List.mem_of_getElem? (at_comma hi)) h
theorem rpart_app {a b : Str} (ha : 44 ∉ a.cps.toList) (hb : 44 ∉ b.cps.toList) : Txt.rpartition (b ++ ", " ++ a) ", " = (b, (", " : Str), a) := by
  have et : TL.tl (b ++ ", " ++ a) = TL.tl b ++ (44 :: 32 :: TL.tl a) := by rw [TL.tl_append, TL.tl_append, tl_brk, List.append_assoc]; rfl
  have hat : At (b ++ ", " ++ a) ", " (b ++ ", " ++ a).length b.length := by
    refine (TL.at_iff (by rw [tl_brk]; simp) _).mpr ?_
    rw [et, tl_brk, TL.len_tl, List.drop_left]
    unfold TL.pre
    simp
  have only : ∀ i, At (b ++ ", " ++ a) ", " (b ++ ", " ++ a).length i → i = b.length := fun i hi => by
    have h := at_comma hi
    have h' : (TL.tl b ++ (44 :: 32 :: TL.tl a))[i]? = some 44 := by rw [← et]; exact h
    rw [TL.len_tl]
    rcases Nat.lt_trichotomy i (TL.tl b).length with q | q | q
    · rw [List.getElem?_append_left q] at h'
      exact absurd (List.mem_of_getElem? h') hb
    · exact q
    · rw [List.getElem?_append_right (by omega)] at h'
      obtain ⟨k, hk⟩ : ∃ k, i - (TL.tl b).length = k + 1 := ⟨i - (TL.tl b).length - 1, by omega⟩
      rw [hk] at h'
      cases k with
      | zero => simp at h'
      | succ k => exact absurd (List.mem_of_getElem? (by simpa using h')) ha
  unfold Txt.rpartition
  rcases PySem.StrLaws.last_spec (b ++ ", " ++ a) ", " with ⟨e, hn⟩ | ⟨i, e, hi, _⟩
  · exact absurd hat (hn _)
  · rw [e, only i hi]
    have e1 : strSub (b ++ ", " ++ a) 0 b.length = b := TL.ext_tl (by rw [TL.tl_strSub, et, List.drop_zero, Nat.sub_zero, TL.len_tl, List.take_left])
    have e2 : strSub (b ++ ", " ++ a) (b.length + Str.length ", ") (b ++ ", " ++ a).length = a := TL.ext_tl (by
      rw [TL.tl_strSub_end, et, TL.len_tl b, TL.len_tl ", ", tl_brk]
      show ((TL.tl b) ++ (44 :: 32 :: TL.tl a)).drop ((TL.tl b).length + 2) = _
      rw [List.drop_append, List.drop_of_length_le (by omega)]
      simp)
    rw [← e1, ← e2]
    simp only [e1, e2]
theorem read_shown {ps : List Str} {cm : Bool} {z : Str} (h : Ok z) : readS (shownS ps cm z) = z := by
  unfold shownS
  split
  · unfold readS
    rw [rpart_none h.nc, if_pos rfl]
  · rename_i hn
    rcases bare_cases ps z with e | ⟨a, b, e1, e2, e3⟩
    · exact absurd (.inr e) hn
    · have et : z.cps.toList = TL.tl a ++ [32] ++ TL.tl b := by
        show TL.tl z = _
        rw [e1, TL.tl_append, TL.tl_append, tl_sp]
      have ha : 44 ∉ a.cps.toList := fun q => h.nc (by rw [et]; exact List.mem_append_left _ (List.mem_append_left _ q))
      have hb : 44 ∉ b.cps.toList := fun q => h.nc (by rw [et]; exact List.mem_append_right _ q)
      rw [e2, e3]
      unfold readS
      rw [rpart_app ha hb, if_neg (show ¬ ((", " : Str) = "") by decide +kernel)]
      exact e1.symm
theorem shown_size (ps : List Str) (cm : Bool) (z : Str) : (shownS ps cm z).cps.size ≤ z.cps.size + 1 := by
  unfold shownS
  split
  · omega
  · rename_i hn
    rcases bare_cases ps z with e | ⟨a, b, e1, e2, e3⟩
    · exact absurd (.inr e) hn
    · rw [e2, e3, size_tl, size_tl, TL.tl_append, TL.tl_append, tl_brk]
      conv => rhs; rw [e1, TL.tl_append, TL.tl_append, tl_sp]
      simp only [List.length_append, List.length_cons, List.length_nil]
      omega
end K79
namespace K79
open PySem PySem.Spec PyProof.Rows L2
theorem inV_strs (x : Str) (xs : List Str) : inV (.str x) (xs.map V.str) = decide (x ∈ xs) := by
  unfold inV
  rw [List.any_map]
  induction xs with
  | nil => simp
  | cons y ys ih =>
    rw [List.any_cons, ih]
    show (eqV (.str y) (.str x) || decide (x ∈ ys)) = _
    have e : eqV (.str y) (.str x) = decide (x = y) := by
      by_cases h : x = y
      · subst h; simp [eqV]
      · have h' : ¬ y = x := fun q => h q.symm
        simp [eqV, h, h']
    rw [e]
    by_cases h : x = y <;> simp [h]
section
variable {P : Program} {w : World} {K : PySem.W.Frag} {mg : Str → Option Value} {base : Heap} {f : Addr} {fd : FuncData} {C : Addr}
def spBare (C : Addr) : Sp := fun vs H Q _ => ∃ (p : Addr) (gs : List (List Str)) (ps : List Str) (cm : Bool) (z : Str), vs = [.ref p, .str z] ∧ CustAt C H p gs ps cm ∧ Asc z ∧ z.cps.size ≤ 1000 ∧ ∀ H', Same H H' → Q (.str (bareS ps z)) H'
theorem scBare : FnScope ["self", "text", "word", "blank", "rest"] ["self", "text"] (defScope sBare) := ⟨rfl, rfl, rfl, by decide +kernel, rfl, by decide +kernel, by decide +kernel⟩
theorem ok_bare (F : FunD K "bare" "Custom.bare" (defArgs sBare) (defBody sBare) (defScope sBare) [] [] f fd) (T : Tx K mg C) : FnOk P w K mg base CX0 1 f fd ["self", "text"] (spBare C) := by
  refine ok0 F scBare (fun vs H Q E h => ?_) (fun cdv A outer s H vs Q E hr h => ?_)
  · obtain ⟨p, gs, ps, cm, z, rfl, _⟩ := h
    rfl
  · obtain ⟨p, gs, ps, cm, z, rfl, hC, hA, hz, k⟩ := h
    refine ⟨_, pss_cons (ps_asg (pe_partition (pv 1) pe_str) (pg_tup rfl (pgs_cons (pg_name (i := 2) scBare.nd rfl (Or.inl rfl)) (pgs_cons (pg_name (i := 3) scBare.nd rfl (Or.inl rfl)) (pgs_cons (pg_name (i := 4) scBare.nd rfl (Or.inl rfl)) pgs_nil)))))
      (pss_cons (ps_if (PW.pt (pw_and (pt_cmpR op_ne (pv 4) pe_str (nomark _)) (pw_and1 (pt_cmpR op_in_seq (pe_lower (pv 2)) (pe_fld (pv 0) rfl) rfl)))) (pss_one (ps_ret (pv 4))) pss_nil)
      (pss_one (ps_ret (pv 1)))), ?_⟩
    refine ⟨_, rfl, ⟨_, rfl⟩, z, " ", rfl, rfl, by decide +kernel, Nat.le_trans hz (by decide), fun r hr' => ?_⟩
    have s1 : Same H (upd H r (.tup [.str (Txt.partition z " ").1, .str (Txt.partition z " ").2.1, .str (Txt.partition z " ").2.2])) := fun b o e => by rw [upd_ne (ne_of_none e hr')]; exact e
    obtain ⟨dx, tl, tp, d, kvs, hp, hd, hN, hps⟩ := hC.same s1
    refine ⟨r, _, rfl, .inl (.inl upd_same), rfl, _, _, rfl, _, _, rfl, _, _, rfl, rfl, ?_⟩
    generalize upd H r (.tup [.str (Txt.partition z " ").1, .str (Txt.partition z " ").2.1, .str (Txt.partition z " ").2.2]) = H1 at s1 hp hd hps ⊢
    refine ⟨_, rfl, rfl, _, rfl, ?_⟩
    have wsz : (Txt.partition z " ").1.length ≤ 5592405 := by
      have h1 : (Txt.partition z " ").1.cps.size ≤ z.cps.size := by
        rcases part_cases z with e | ⟨a, b, e1, e2⟩
        · rw [e]; exact Nat.le_refl _
        · rw [e2, size_tl, size_tl]
          conv => rhs; rw [e1, TL.tl_append, TL.tl_append]
          simp only [List.length_append]
          omega
      exact Nat.le_trans (Nat.le_trans h1 hz) (by decide)
    by_cases h1 : (Txt.partition z " ").2.2 = ""
    · have e1 : (!decide (V.str (Txt.partition z " ").2.2 = V.str "")) = false := by rw [h1]; simp
      rw [e1]
      refine iteF (iteF ⟨_, rfl, ?_⟩)
      have : bareS ps z = z := by unfold bareS; rw [if_neg (fun q => q.1 h1)]
      rw [← this]
      exact k _ s1
    · have e1 : (!decide (V.str (Txt.partition z " ").2.2 = V.str "")) = true := by
        have : ¬ V.str (Txt.partition z " ").2.2 = V.str "" := fun q => h1 (V.str.inj q)
        simp [this]
      rw [e1]
      refine iteT ⟨_, rfl, ⟨_, rfl⟩, _, rfl, rfl, wsz, _, rfl, p, C, dx, _, _, rfl, hp, T.cl, T.nP, lkP _ _ _ _, tp, _, rfl, .inr (.inl (.inl hps)), rfl, flat_strs ps, _, rfl, ?_⟩
      show if inV (.str (Txt.lower (Txt.partition z " ").1)) (ps.map V.str) = true then _ else _
      rw [inV_strs]
      by_cases h2 : Txt.lower (Txt.partition z " ").1 ∈ ps
      · rw [decide_eq_true h2]
        refine iteT ⟨_, rfl, ?_⟩
        have : bareS ps z = (Txt.partition z " ").2.2 := by unfold bareS; rw [if_pos ⟨h1, h2⟩]
        show Q (V.str (Txt.partition z " ").2.2) _
        rw [← this]
        exact k _ s1
      · rw [decide_eq_false h2]
        refine iteF ⟨_, rfl, ?_⟩
        have : bareS ps z = z := by unfold bareS; rw [if_neg (fun q => h2 q.2)]
        rw [← this]
        exact k _ s1
/-- the rank's tuple -/
def KP (f g : Str → List Int) : Hp → V → Str → Prop := fun H v z => ∃ r a b : Addr, v = .ref r ∧ H r = some (.tup [.ref a, .ref b, .str z]) ∧ H a = some (.tup ((f z).map V.int)) ∧ H b = some (.tup ((g z).map V.int))
theorem KP.tups {f g : Str → List Int} {H H' : Hp} {v : V} {z : Str} (k : ∀ b xs, H b = some (.tup xs) → H' b = some (.tup xs)) (h : KP f g H v z) : KP f g H' v z := by
  obtain ⟨r, a, b, e, h1, h2, h3⟩ := h
  exact ⟨r, a, b, e, k _ _ h1, k _ _ h2, k _ _ h3⟩
theorem KP.same {f g : Str → List Int} {H H' : Hp} {v : V} {z : Str} (k : Same H H') (h : KP f g H v z) : KP f g H' v z := h.tups fun b xs e => k b _ e
theorem KP.dp {f g : Str → List Int} {K : PySem.W.Frag} {H : Hp} {v : V} {z : Str} (h : KP f g H v z) : Dp K H v (kd (f z) (g z) z) := by
  obtain ⟨r, a, b, rfl, h1, h2, h3⟩ := h
  exact .tup (.inl (.inl h1)) (.cons (.tup (.inl (.inl h2)) (dp_ints _)) (.cons (.tup (.inl (.inl h3)) (dp_ints _)) (.cons (.str z) .nil)))
abbrev fBare (gs : List (List Str)) (ps : List Str) : Str → List Int := fun z => lts gs (bareS ps z)
theorem lkMb (tl tp d : Addr) (cm : Bool) : (cfs tl tp d cm).lookup ("bare" : Str) = none := by kernel_rfl
theorem lkMl (tl tp d : Addr) (cm : Bool) : (cfs tl tp d cm).lookup ("letters_in" : Str) = none := by kernel_rfl
theorem lkMr (tl tp d : Addr) (cm : Bool) : (cfs tl tp d cm).lookup ("rank" : Str) = none := by kernel_rfl
theorem lkMo (tl tp d : Addr) (cm : Bool) : (cfs tl tp d cm).lookup ("in_order" : Str) = none := by kernel_rfl
theorem lkMs (tl tp d : Addr) (cm : Bool) : (cfs tl tp d cm).lookup ("shown" : Str) = none := by kernel_rfl
theorem lkMd (tl tp d : Addr) (cm : Bool) : (cfs tl tp d cm).lookup ("read" : Str) = none := by kernel_rfl
def spRank (C : Addr) : Sp := fun vs H Q _ => ∃ (p : Addr) (gs : List (List Str)) (ps : List Str) (cm : Bool) (z : Str), vs = [.ref p, .str z] ∧ CustAt C H p gs ps cm ∧ Asc z ∧ z.cps.size ≤ 1000 ∧ ∀ H' v, Same H H' → KP (fBare gs ps) (lts gs) H' v z → Q v H'
theorem scRank : FnScope ["self", "text"] ["self", "text"] (defScope sRank) := ⟨rfl, rfl, rfl, by decide +kernel, rfl, by decide +kernel, by decide +kernel⟩
theorem ok_rank (F : FunD K "rank" "Custom.rank" (defArgs sRank) (defBody sRank) (defScope sRank) [] [] f fd) (T : Tx K mg C) (gL : Km P w K mg base C 1 "letters_in" ["self", "text"] (spLets C)) (gB : Km P w K mg base C 1 "bare" ["self", "text"] (spBare C)) :
    FnOk P w K mg base CX0 2 f fd ["self", "text"] (spRank C) := by
  refine ok0 F scRank (fun vs H Q E h => ?_) (fun cdv A outer s H vs Q E hr h => ?_)
  · obtain ⟨p, gs, ps, cm, z, rfl, _⟩ := h
    rfl
  · obtain ⟨p, gs, ps, cm, z, rfl, hC, hA, hz, k⟩ := h
    refine ⟨_, pss_one (ps_ret (pe_tup (pa_cons (pe_m T.cl gL hr (Nat.le_refl _) (pv 0) (pa_cons (pe_m T.cl gB hr (Nat.le_refl _) (pv 0) (pa_cons (pv 1) pa_nil)) pa_nil))
      (pa_cons (pe_m T.cl gL hr (Nat.le_refl _) (pv 0) (pa_cons (pv 1) pa_nil)) (pa_cons (pv 1) pa_nil))))), ?_⟩
    obtain ⟨dx, tl, tp, d, kvs, hp, _⟩ := id hC
    refine ⟨_, rfl, p, dx, _, rfl, hp, lkMl _ _ _ _, _, rfl, p, dx, _, rfl, hp, lkMb _ _ _ _, _, rfl, p, gs, ps, cm, z, rfl, hC, hA, hz, fun H1 s1 => ?_⟩
    refine ⟨p, gs, ps, cm, _, rfl, hC.same s1, bare_asc hA, Nat.le_trans bare_sub.2 hz, fun H2 a s2 ha1 ha2 => ?_⟩
    have s12 := s1.trans s2
    refine ⟨_, rfl, p, dx, _, rfl, s12 _ _ hp, lkMl _ _ _ _, _, rfl, p, gs, ps, cm, z, rfl, hC.same s12, hA, hz, fun H3 b s3 hb1 hb2 => ?_⟩
    refine ⟨_, rfl, (by show 3 ≤ sizeLine; decide), fun r hr3 => ?_⟩
    have s4 : Same H3 (upd H3 r (.tup [.ref a, .ref b, .str z])) := fun b o e => by rw [upd_ne (ne_of_none e hr3)]; exact e
    exact k _ _ (s12.trans (s3.trans s4)) ⟨r, a, b, rfl, upd_same, s4 _ _ (s3 _ _ ha2), s4 _ _ hb2⟩
def spShown (C : Addr) : Sp := fun vs H Q _ => ∃ (p : Addr) (gs : List (List Str)) (ps : List Str) (cm : Bool) (z : Str), vs = [.ref p, .str z] ∧ CustAt C H p gs ps cm ∧ Asc z ∧ z.cps.size ≤ 1000 ∧ ∀ H', Same H H' → Q (.str (shownS ps cm z)) H'
theorem scShown : FnScope ["self", "text", "rest", "word"] ["self", "text"] (defScope sShown) := ⟨rfl, rfl, rfl, by decide +kernel, rfl, by decide +kernel, by decide +kernel⟩
theorem ok_shown (F : FunD K "shown" "Custom.shown" (defArgs sShown) (defBody sShown) (defScope sShown) [] [] f fd) (T : Tx K mg C) (gB : Km P w K mg base C 1 "bare" ["self", "text"] (spBare C)) :
    FnOk P w K mg base CX0 2 f fd ["self", "text"] (spShown C) := by
  refine ok0 F scShown (fun vs H Q E h => ?_) (fun cdv A outer s H vs Q E hr h => ?_)
  · obtain ⟨p, gs, ps, cm, z, rfl, _⟩ := h
    rfl
  · obtain ⟨p, gs, ps, cm, z, rfl, hC, hA, hz, k⟩ := h
    refine ⟨_, pss_cons (ps_set (i := 2) scShown.nd rfl (Or.inl rfl) (pe_m T.cl gB hr (Nat.le_refl _) (pv 0) (pa_cons (pv 1) pa_nil)))
      (pss_cons (ps_if (PW.pt (pw_or (pt_not (pt_val (pe_fld (pv 0) rfl))) (pw_or1 (pt_cmpR op_eq (pv 2) (pv 1) (nomark _))))) (pss_one (ps_ret (pv 1))) pss_nil)
      (pss_cons (ps_set (i := 3) scShown.nd rfl (Or.inl rfl) (pe_ix ix_tup (pe_partition (pv 1) pe_str) pe_int (fun _ _ => rfl)))
      (pss_one (ps_ret (pe_op op_add_str (pe_op op_add_str (pv 2) (pe_gs T.brk)) (pv 3)))))), ?_⟩
    obtain ⟨dx, tl, tp, d, kvs, hp, _⟩ := id hC
    refine ⟨_, rfl, p, dx, _, rfl, hp, lkMb _ _ _ _, _, rfl, p, gs, ps, cm, z, rfl, hC, hA, hz, fun H1 s1 => ?_⟩
    refine ⟨_, rfl, p, C, dx, _, _, rfl, s1 _ _ hp, T.cl, T.nC, lkC _ _ _ _, cm, rfl, ?_⟩
    have yes : (cm = false ∨ bareS ps z = z) → Q (.str z) H1 := fun h => by
      have := k _ s1
      unfold shownS at this
      rw [if_pos h] at this
      exact this
    cases cm with
    | false => exact iteT (iteT ⟨_, rfl, yes (.inl rfl)⟩)
    | true =>
      refine iteF ⟨_, rfl, _, rfl, rfl, _, rfl, ?_⟩
      by_cases e : bareS ps z = z
      · have e1 : decide (V.str (bareS ps z) = V.str z) = true := decide_eq_true (congrArg V.str e)
        rw [e1]
        exact iteT ⟨_, rfl, yes (.inr e)⟩
      · have e1 : decide (V.str (bareS ps z) = V.str z) = false := decide_eq_false fun q => e (V.str.inj q)
        rw [e1]
        refine iteF ⟨_, rfl, ⟨_, rfl⟩, z, " ", rfl, rfl, by decide +kernel, Nat.le_trans hz (by decide), fun r hr1 => ?_⟩
        have s2 : Same H1 (upd H1 r (.tup [.str (Txt.partition z " ").1, .str (Txt.partition z " ").2.1, .str (Txt.partition z " ").2.2])) := fun b o e => by rw [upd_ne (ne_of_none e hr1)]; exact e
        have hb := (bare_sub (ps := ps) (z := z)).2
        have hw : (Txt.partition z " ").1.cps.size ≤ z.cps.size := by
          rcases part_cases z with e | ⟨a, b, e1, e2⟩
          · rw [e]; exact Nat.le_refl _
          · rw [e2, size_tl, size_tl]
            conv => rhs; rw [e1, TL.tl_append, TL.tl_append]
            simp only [List.length_append]
            omega
        have l1 : (bareS ps z).length = (bareS ps z).cps.size := rfl
        have l2 : (Txt.partition z " ").1.length = (Txt.partition z " ").1.cps.size := rfl
        have l3 : (bareS ps z ++ (", " : Str)).length = (bareS ps z).cps.size + 2 := by
          rw [TL.len_tl, TL.tl_append, tl_brk, size_tl]; simp only [List.length_append, List.length_cons, List.length_nil]
        refine ⟨r, _, 0, _, rfl, rfl, .inl (.inl upd_same), atI_nat (j := 0) rfl, ?_⟩
        refine ⟨_, rfl, _, _, rfl, rfl, ?_, _, rfl, _, _, rfl, rfl, ?_, ?_⟩
        · exact Nat.le_trans (show (bareS ps z).length + (", " : Str).length ≤ 1002 by rw [show (", " : Str).length = 2 by decide +kernel]; omega) (by decide)
        · rw [l3, l2]
          exact Nat.le_trans (show _ ≤ 2002 by omega) (by decide)
        · have := k _ (s1.trans s2)
          unfold shownS at this
          rw [if_neg (fun q => q.elim (fun x => by cases x) e)] at this
          exact this
def spRead (C : Addr) : Sp := fun vs H Q _ => ∃ (p : Addr) (z : Str), vs = [.ref p, .str z] ∧ z.cps.size ≤ 2000 ∧ ∀ H', Same H H' → Q (.str (readS z)) H'
theorem scRead : FnScope ["self", "text", "rest", "comma", "word"] ["self", "text"] (defScope sRead) := ⟨rfl, rfl, rfl, by decide +kernel, rfl, by decide +kernel, by decide +kernel⟩
theorem rpart_size (z : Str) : (Txt.rpartition z ", ").1.cps.size ≤ z.cps.size ∧ (Txt.rpartition z ", ").2.2.cps.size ≤ z.cps.size := by
  unfold Txt.rpartition
  cases Builtin.Str.lastOccurrence z ", " 0 z.length with
  | none => exact ⟨Nat.zero_le _, Nat.le_refl _⟩
  | some i => exact ⟨strSub_length_le _ _ _, strSub_length_le _ _ _⟩
theorem ok_read (F : FunD K "read" "Custom.read" (defArgs sRead) (defBody sRead) (defScope sRead) [] [] f fd) (T : Tx K mg C) : FnOk P w K mg base CX0 1 f fd ["self", "text"] (spRead C) := by
  refine ok0 F scRead (fun vs H Q E h => ?_) (fun cdv A outer s H vs Q E hr h => ?_)
  · obtain ⟨p, z, rfl, _⟩ := h
    rfl
  · obtain ⟨p, z, rfl, hz, k⟩ := h
    refine ⟨_, pss_cons (ps_asg (pe_m1 PySem.F.slot_str_rpartition PySem.F.type_str_rpartition mt_rpart (pv 1) (pe_gs T.brk)) (pg_tup rfl (pgs_cons (pg_name (i := 2) scRead.nd rfl (Or.inl rfl)) (pgs_cons (pg_name (i := 3) scRead.nd rfl (Or.inl rfl)) (pgs_cons (pg_name (i := 4) scRead.nd rfl (Or.inl rfl)) pgs_nil)))))
      (pss_cons (ps_if (pt_cmpR op_eq (pv 3) pe_str (nomark _)) (pss_one (ps_ret (pv 1))) pss_nil)
      (pss_one (ps_ret (pe_op op_add_str (pe_op op_add_str (pv 4) pe_str) (pv 2))))), ?_⟩
    refine ⟨_, rfl, ⟨_, rfl⟩, z, ", ", rfl, rfl, by decide +kernel, Nat.le_trans hz (by decide), fun r hr' => ?_⟩
    have s1 : Same H (upd H r (.tup [.str (Txt.rpartition z ", ").1, .str (Txt.rpartition z ", ").2.1, .str (Txt.rpartition z ", ").2.2])) := fun b o e => by rw [upd_ne (ne_of_none e hr')]; exact e
    refine ⟨r, _, rfl, .inl (.inl upd_same), rfl, _, _, rfl, _, _, rfl, _, _, rfl, rfl, ?_⟩
    generalize upd H r (.tup [.str (Txt.rpartition z ", ").1, .str (Txt.rpartition z ", ").2.1, .str (Txt.rpartition z ", ").2.2]) = H1 at s1 ⊢
    refine ⟨_, rfl, rfl, _, rfl, ?_⟩
    have hk := k _ s1
    unfold readS at hk
    by_cases h1 : (Txt.rpartition z ", ").2.1 = ""
    · have e1 : decide (V.str (Txt.rpartition z ", ").2.1 = V.str "") = true := decide_eq_true (congrArg V.str h1)
      rw [e1]
      rw [if_pos h1] at hk
      exact iteT ⟨_, rfl, hk⟩
    · have e1 : decide (V.str (Txt.rpartition z ", ").2.1 = V.str "") = false := decide_eq_false fun q => h1 (V.str.inj q)
      rw [e1]
      rw [if_neg h1] at hk
      have hs := rpart_size z
      have l1 : (Txt.rpartition z ", ").1.length = (Txt.rpartition z ", ").1.cps.size := rfl
      have l2 : (Txt.rpartition z ", ").2.2.length = (Txt.rpartition z ", ").2.2.cps.size := rfl
      have l3 : ((Txt.rpartition z ", ").2.2 ++ (" " : Str)).length = (Txt.rpartition z ", ").2.2.cps.size + 1 := by
        rw [TL.len_tl, TL.tl_append, tl_sp, size_tl]; simp only [List.length_append, List.length_cons, List.length_nil]
      refine iteF ⟨_, rfl, _, _, rfl, rfl, ?_, _, rfl, _, _, rfl, rfl, ?_, hk⟩
      · exact Nat.le_trans (show (Txt.rpartition z ", ").2.2.length + (" " : Str).length ≤ 3000 by rw [show (" " : Str).length = 1 by decide +kernel]; omega) (by decide)
      · rw [l3, l1]
        exact Nat.le_trans (show _ ≤ 5000 by omega) (by decide)
end
end K79
namespace K79
open PySem PySem.Spec PyProof.Rows L2
/-- r is none of what stood (tables aside) -/
def New (H : Hp) (r : Addr) : Prop := ∀ b o, H b = some o → (∀ ps, o ≠ .tbl ps) → b ≠ r
def qualL : Str := ("Custom.in_order" : Str) ++ (".<locals>." : Str) ++ ("<lambda>" : Str)
abbrev tbs (Pt : Addr) : List (Addr × Str) := [(Pt, qualL)]
/-- texts of the law -/
def Oks (zs : List Str) : Prop := ∀ z ∈ zs, Ok z ∧ z.cps.size ≤ 900
theorem alike_kd (f g : Str → List Int) (zs : List Str) : PySem.W.AllAlike (zs.map fun z => kd (f z) (g z) z) := PySem.W.AllAlike.of fun _ _ => kd_alike _ _ _ _ _ _
theorem sortable_kd (f g : Str → List Int) (zs : List Str) : PySem.W.Sortable (zs.map fun z => kd (f z) (g z) z) := PySem.W.Sortable.tuples fun z => ⟨_, _, rfl⟩
section
variable {P : Program} {w : World} {K : PySem.W.Frag} {mg : Str → Option Value} {base : Heap} {f : Addr} {fd : FuncData} {C Pt : Addr}
def spOrder (C Pt : Addr) : Sp := fun vs H Q _ => ∃ (p l : Addr) (gs : List (List Str)) (ps : List Str) (cm dn : Bool) (zs : List Str), vs = [.ref p, .ref l, .bl dn] ∧ CustAt C H p gs ps cm ∧ H l = some (.lst (zs.map V.str)) ∧ Oks zs ∧ zs.length ≤ 1000 ∧ LamX.Tabs (tbs Pt) H ∧
  ∀ H' r, LamX.ExtN H H' → LamX.Tabs (tbs Pt) H' → New H r → H' r = some (.lst ((if dn = true then (ksort (fBare gs ps) (lts gs) zs).reverse else ksort (fBare gs ps) (lts gs) zs).map V.str)) → Q (.ref r) H'
theorem scOrder : FnScope ["self", "texts", "down", "found"] ["self", "texts", "down"] (defScope sInOrder) := ⟨rfl, rfl, rfl, by decide +kernel, rfl, by decide +kernel, by decide +kernel⟩
/-- the lambda's own scope -/
def lamScope : Stmt → Scope
  | .Assign _ (.Call _ _ (⟨_, .Lambda _ _ sc _, _⟩ :: _) _) _ => sc
  | _ => { kind := .function, names := [], isGenerator := false, isCoroutine := false }
theorem scLam : NdefX.NScope ["text", "self"] ["text"] ["self"] (lamScope ((defBody sInOrder).getD 0 (.Pass ⟨0, 0, 0, 0⟩))) := NdefX.nscope_by (by decide +kernel)
theorem lamFree : NdefX.ndefB (defScope sInOrder) (lamScope ((defBody sInOrder).getD 0 (.Pass ⟨0, 0, 0, 0⟩))) ["self"] = true := by decide +kernel
theorem room_env {k : Nat} {A : Around} {e e' : Env} (h : Room k (A.deeper e)) : Room k (A.deeper e') := ⟨h.hd, h.dp, h.un⟩
theorem ok_order (F : FunD K "in_order" "Custom.in_order" (defArgs sInOrder) (defBody sInOrder) (defScope sInOrder) [.bl false] [] f fd) (T : Tx K mg C) (hTB : ∀ c, fd.code = .ref c → LamX.TabB base mg c Pt) (gR : Km P w K mg base C 2 "rank" ["self", "text"] (spRank C)) :
    FnOk P w K mg base CX0 6 f fd ["self", "texts", "down"] (spOrder C Pt) := by
  obtain ⟨oc, od, dV, kV, doc, pm, an, cdv, ct, osl, rfl, lk, hcd, _, _⟩ := F.ex
  obtain ⟨c, rfl⟩ := He.codeIn_ref hcd
  have TB : LamX.TabB base mg c Pt := hTB c rfl
  refine fn_of lk hcd scOrder (fun vs H Q E h => ?_) fun A outer s H vs Q E hr h => ?_
  · obtain ⟨p, l, gs, ps, cm, dn, zs, rfl, _⟩ := h
    rfl
  · obtain ⟨p, l, gs, ps, cm, dn, zs, rfl, hC, hL, hZ, hn, hT, k⟩ := h
    refine ⟨_, PSs.nox (pss_cons (ps_set (i := 3) scOrder.nd rfl (Or.inl rfl) (pe_sortLam (T := tbs Pt) (N := ["text", "self"]) (fr := ["self"]) (js := [0]) (k := 2) rfl (T.f 8) (pa_cons (pv 1) pa_nil) TB rfl (List.mem_singleton.mpr rfl) (fun q hq _ => by rw [List.mem_singleton.mp hq]; rfl) hr scLam
        (NdefX.ndef_free lamFree) (NdefX.ndef_fr lamFree) rfl rfl (fun _ _ _ _ _ _ => by rfl)
        (fun A outer s H f c' env hr2 => pe_m T.cl gR (room_env hr2) (Nat.le_refl _) (pv 1) (pa_cons (pv 0) pa_nil))))
      (pss_cons (ps_if (pt_val (pv 2)) (pss_one (ps_ret (pe_revL (pv 3)))) pss_nil) (pss_one (ps_ret (pv 3))))), ?_⟩
    obtain ⟨dx, tl, tp, d, kvs, hp, _⟩ := id hC
    refine ⟨_, rfl, l, zs, fun z => kd (fBare gs ps z) (lts gs z) z, fun H2 => CustAt C H2 p gs ps cm ∧ LamX.ExtN H H2 ∧ LamX.Tabs (tbs Pt) H2, KP (fBare gs ps) (lts gs), rfl, .of hL, hT, fun H2 e2 t2 => ⟨hC.ext e2, e2, t2⟩, fun H1 H2 v z kk => KP.tups kk, fun H1 v z kk => kk.dp,
      alike_kd _ _ _, sortable_kd _ _ _, fun d hd => ?_, fun z hz H2 hJ => ?_, fun H2 r hJ hr2 => ?_⟩
    · obtain ⟨z, _, rfl⟩ := List.mem_map.mp hd
      rw [kd_depth]
      decide
    · obtain ⟨hC2, e2, t2⟩ := hJ
      obtain ⟨dx2, tl2, tp2, d2, kvs2, hp2, _⟩ := id hC2
      refine ⟨_, rfl, p, dx2, _, rfl, hp2, lkMr _ _ _ _, _, rfl, p, gs, ps, cm, z, rfl, hC2, (hZ z hz).1.asc, Nat.le_trans (hZ z hz).2 (by decide), fun H3 v s3 hv => ?_⟩
      have e3 : LamX.ExtN H2 H3 := LamX.ExtN.of s3
      exact ⟨⟨hC2.same s3, e2.trans e3, t2.ext s3⟩, hv, e3⟩
    · obtain ⟨hC2, e2, t2⟩ := hJ
      have new2 : New H r := fun b o hb hn z => by
        have := e2 b o hb hn
        rw [z, hr2] at this
        cases this
      have s2 : Same H2 (upd H2 r (.lst ((zs.mergeSort (PySem.W.dataLe false fun z => kd (fBare gs ps z) (lts gs z) z)).map V.str))) := fun b o e => by rw [upd_ne (ne_of_none e hr2)]; exact e
      refine ⟨_, rfl, dn, rfl, ?_⟩
      cases dn with
      | false => exact iteF ⟨_, rfl, k _ r (e2.trans (LamX.ExtN.of s2)) (t2.ext s2) new2 upd_same⟩
      | true =>
        refine iteT ⟨_, rfl, r, _, rfl, .of upd_same, fun q hq => ?_⟩
        have s3 : Same (upd H2 r (.lst ((zs.mergeSort (PySem.W.dataLe false fun z => kd (fBare gs ps z) (lts gs z) z)).map V.str))) (upd (upd H2 r (.lst ((zs.mergeSort (PySem.W.dataLe false fun z => kd (fBare gs ps z) (lts gs z) z)).map V.str))) q (.lst ((zs.mergeSort (PySem.W.dataLe false fun z => kd (fBare gs ps z) (lts gs z) z)).map V.str).reverse)) := fun b o e => by rw [upd_ne (ne_of_none e hq)]; exact e
        refine k _ q (e2.trans (LamX.ExtN.of (s2.trans s3))) ((t2.ext s2).ext s3) (fun b o hb hn z => ?_) ?_
        · have := s2 _ _ (e2 b o hb hn)
          rw [z, hq] at this
          cases this
        · rw [upd_same, if_pos rfl, List.map_reverse]
          rfl
end
end K79
namespace K79
open PySem PySem.Spec PyProof.Rows L2
/-! the hand: three numbers, of which the last counts -/
def HandAt (n : Nat) (H : Hp) (h : Addr) : Prop := ∃ g s c : Int, H h = some (.lst [.int g, .int s, .int c]) ∧ 0 ≤ c ∧ c ≤ n
/-- all but h stays -/
def Kee (h : Addr) (H H' : Hp) : Prop := ∀ b o, b ≠ h → H b = some o → H' b = some o
theorem Kee.refl (h : Addr) (H : Hp) : Kee h H H := fun _ _ _ e => e
theorem Kee.trans {h : Addr} {H H1 H2 : Hp} (a : Kee h H H1) (b : Kee h H1 H2) : Kee h H H2 := fun c o n e => b c o n (a c o n e)
theorem Kee.same {h : Addr} {H H1 : Hp} (a : Same H H1) : Kee h H H1 := fun c o _ e => a c o e
theorem HandAt.mono {n m : Nat} {H : Hp} {h : Addr} (a : HandAt n H h) (l : n ≤ m) : HandAt m H h := let ⟨g, s, c, e, h1, h2⟩ := a; ⟨g, s, c, e, h1, by omega⟩
theorem HandAt.same {n : Nat} {H H' : Hp} {h : Addr} (a : HandAt n H h) (k : Same H H') : HandAt n H' h := let ⟨g, s, c, e, r⟩ := a; ⟨g, s, c, k _ _ e, r⟩
theorem HandAt.ext {n : Nat} {H H' : Hp} {h : Addr} (a : HandAt n H h) (k : LamX.ExtN H H') : HandAt n H' h := let ⟨g, s, c, e, r⟩ := a; ⟨g, s, c, k _ _ e (fun ps z => by cases z), r⟩
theorem HandAt.lst {n : Nat} {H : Hp} {h : Addr} (a : HandAt n H h) : ∃ xs, H h = some (.lst xs) := let ⟨_, _, _, e, _⟩ := a; ⟨_, e⟩
theorem HandAt.ne {n : Nat} {H : Hp} {h b : Addr} {o : HO} (a : HandAt n H h) (e : H b = some o) (k : ∀ xs, o ≠ .lst xs) : b ≠ h := fun z => by
  obtain ⟨xs, q⟩ := a.lst
  rw [z, q] at e
  exact k xs (Option.some.inj e).symm
theorem HandAt.new {n : Nat} {H : Hp} {h b : Addr} (a : HandAt n H h) (e : H b = none) : b ≠ h := fun z => by
  obtain ⟨xs, q⟩ := a.lst
  rw [z, q] at e
  cases e
theorem CustAt.kee {C p h : Addr} {n : Nat} {H H' : Hp} {gs : List (List Str)} {ps : List Str} {cm : Bool} (c : CustAt C H p gs ps cm) (ha : HandAt n H h) (e : Kee h H H') : CustAt C H' p gs ps cm := by
  obtain ⟨xs, q⟩ := ha.lst
  exact c.but q fun b o n _ hb => e b o n hb
theorem TupG.kee {h t : Addr} {n : Nat} {H H' : Hp} {gs : List (List Str)} (c : TupG H t gs) (ha : HandAt n H h) (e : Kee h H H') : TupG H' t gs := c.tups fun b xs q => e b _ (ha.ne q fun ys z => by cases z) q
theorem tabs_kee {Pt h : Addr} {n : Nat} {H H' : Hp} (c : LamX.Tabs (tbs Pt) H) (ha : HandAt n H h) (e : Kee h H H') : LamX.Tabs (tbs Pt) H' := fun p hp => by
  obtain ⟨ps, h1, h2, h3⟩ := c p hp
  refine ⟨ps, e _ _ (ha.ne h1 fun ys z => by cases z) h1, h2, fun pos cv hc => ?_⟩
  obtain ⟨c', e1, e2⟩ := h3 pos cv hc
  exact ⟨c', e1, e _ _ (ha.ne e2 fun ys z => by unfold LamX.CodeO at z; cases z) e2⟩
section
variable {P : Program} {w : World} {K : PySem.W.Frag} {mg : Str → Option Value} {base : Heap} {f : Addr} {fd : FuncData} {C Pt : Addr}
def spHand (K : PySem.W.Frag) : Sp := fun vs H Q _ => ∃ (a : Addr) (k : Nat) (ns : List Int), vs = [.ref a, .int (k : Nat)] ∧ SqL K H a (ns.map V.int) ∧ ns.length ≤ 63 ∧ k ≤ 63 ∧ ∀ H' h, Same H H' → H h = none → HandAt 0 H' h → Q (.ref h) H'
theorem scHand : FnScope ["_law_script", "_law_k", "_law_cell", "_law_great"] ["_law_script", "_law_k"] (defScope sHand) := ⟨rfl, rfl, rfl, by decide +kernel, rfl, by decide +kernel, by decide +kernel⟩
theorem p60 : CPow 10 60 := ⟨by decide, by decide, by decide +kernel⟩
theorem p18 : CPow 10 18 := ⟨by decide, by decide, by decide +kernel⟩
theorem b01 (b : Bool) : -(2 ^ 64) < (if b = true then (1 : Int) else 0) ∧ (if b = true then (1 : Int) else 0) < 2 ^ 64 := by cases b <;> decide
theorem ok_hand (F : FunD K "_law_hand" "_law_hand" (defArgs sHand) (defBody sHand) (defScope sHand) [] [] f fd) (T : Tx K mg C) : FnOk P w K mg base CX0 1 f fd ["_law_script", "_law_k"] (spHand K) := by
  refine ok0 F scHand (fun vs H Q E h => ?_) (fun cdv A outer s H vs Q E hr h => ?_)
  · obtain ⟨a, k, ns, rfl, _⟩ := h
    rfl
  · obtain ⟨a, k, ns, rfl, hS, hn, hk, q⟩ := h
    refine ⟨_, C8.pss_cut (ps_set (i := 2) scHand.nd rfl (Or.inl rfl) (pe_ifExp (pt_cmpR op_lt (pv 1) (pe_callB call_len_seq (by rfl) (T.f 2) PySem.boot_len (pa_cons (pv 0) pa_nil)) (nomark _)) (pe_ix ix_list (pv 0) (pv 1) (fun _ _ => rfl)) pe_int))
      (pss_cons (ps_set (i := 3) scHand.nd rfl (Or.inl rfl) (pe_op op_mul (pe_op op_mod (pe_callB call_abs (by rfl) (T.f 9) (by decide +kernel) (pa_cons (pv 2) pa_nil)) (pe_op op_mulW (pe_op op_pow pe_int pe_int) (pe_op op_pow pe_int pe_int)))
        (pe_callTy call_int1 (by rfl) (T.f 10) (by decide +kernel) (pa_cons (pe_cmpR op_ge (pe_callB call_abs (by rfl) (T.f 9) (by decide +kernel) (pa_cons (pv 2) pa_nil)) (pe_op op_pow pe_int pe_int) (nomark _)) pa_nil))))
      (pss_one (ps_ret (pe_lst (pa_cons (pv 3) (pa_cons (pe_op op_mod (pe_op op_add (pe_op op_add (pe_op op_mod (pv 2) pe_int) (pe_op op_mul pe_int (pv 1))) pe_int) pe_int) (pa_cons pe_int pa_nil))))))), ?_⟩
    refine ⟨fun σ' H' => H' = H ∧ ∃ c : Int, σ' = [some (.ref a), some (.int (k : Nat)), some (.int c), none], ?_, ?_⟩
    · refine ⟨_, rfl, _, rfl, a, _, rfl, .inl hS, _, _, rfl, rfl, _, rfl, ?_⟩
      refine ite2 (fun h1 => ?_) (fun _ => ⟨rfl, 0, rfl⟩)
      have h2 := of_decide_eq_true h1
      rw [List.length_map] at h2
      have hk' : k < ns.length := by omega
      exact ⟨_, rfl, _, rfl, a, _, _, _, rfl, rfl, hS, atI_nat (v := .int ns[k]) (by simp [hk']), rfl, ns[k], rfl⟩
    rintro σ' H' ⟨rfl, c, rfl⟩
    refine ⟨_, rfl, c, rfl, _, _, rfl, rfl, p60, _, _, rfl, rfl, p60, _, _, rfl, rfl, wide_mul (a := 250) (b := 250) (by decide +kernel) (by decide +kernel) (by decide) (by decide) (by decide), _, _, rfl, rfl, (by show (0 : Int) < 10 ^ Int.toNat 60 * 10 ^ Int.toNat 60; decide +kernel), ?_⟩
    refine ⟨_, rfl, c, rfl, _, _, rfl, rfl, p18, _, _, rfl, rfl, .inr ⟨_, rfl, _, _, rfl, rfl, .inr (b01 _), ?_⟩⟩
    refine ⟨_, rfl, _, rfl, _, _, rfl, rfl, (by show (0 : Int) < 2305843009213693951; decide), _, rfl, _, _, rfl, rfl, .inl (by decide), _, _, rfl, rfl, _, _, rfl, rfl, _, _, rfl, rfl, (by show (0 : Int) < 2305843009213693951; decide), (by show 3 ≤ sizeLine; decide), fun h hh => ?_⟩
    refine q _ h (fun b o e => by rw [upd_ne (ne_of_none e hh)]; exact e) hh ⟨_, _, 0, upd_same, Int.le_refl _, Int.le_refl _⟩
def spTake : Sp := fun vs H Q _ => ∃ (h : Addr) (m : Int) (n : Nat), vs = [.ref h, .int m] ∧ HandAt n H h ∧ n ≤ 1000000000 ∧ 0 < m ∧ m < 1073741824 ∧ ∀ H' d, Kee h H H' → HandAt (n + 1) H' h → 0 ≤ d → d < m → Q (.int d) H'
theorem scTake : FnScope ["_law_hand_here", "_law_many", "_law_digit", "_law_mixed"] ["_law_hand_here", "_law_many"] (defScope sTake) := ⟨rfl, rfl, rfl, by decide +kernel, rfl, by decide +kernel, by decide +kernel⟩
theorem ok_take (F : FunD K "_law_take" "_law_take" (defArgs sTake) (defBody sTake) (defScope sTake) [] [] f fd) : FnOk P w K mg base CX0 1 f fd ["_law_hand_here", "_law_many"] spTake := by
  refine ok0 F scTake (fun vs H Q E h => ?_) (fun cdv A outer s H vs Q E hr h => ?_)
  · obtain ⟨a, k, ns, rfl, _⟩ := h
    rfl
  · obtain ⟨h, m, n, rfl, ⟨g, s0, c, hH, hc0, hcn⟩, hn, hm0, hm1, q⟩ := h
    refine ⟨_, pss_cons (ps_if (pt_cmpR op_gt (pe_ix ix_list (pv 0) pe_int (fun _ _ => rfl)) pe_int (nomark _))
        (pss_cons (ps_set (i := 2) scTake.nd rfl (Or.inl rfl) (pe_op op_mod (pe_ix ix_list (pv 0) pe_int (fun _ _ => rfl)) (pv 1)))
        (pss_cons (ps_asg (pe_op op_fdiv (pe_ix ix_list (pv 0) pe_int (fun _ _ => rfl)) (pv 1)) (pg_sub (pv 0) pe_int set_list)) (pss_one (ps_ret (pv 2))))) pss_nil)
      (pss_cons (ps_asg (pe_op op_add (pe_ix ix_list (pv 0) pe_int (fun _ _ => rfl)) pe_int) (pg_sub (pv 0) pe_int set_list))
      (pss_cons (ps_set (i := 3) scTake.nd rfl (Or.inl rfl) (pe_op op_mod (pe_op op_mul (pe_op op_add (pe_op op_add (pe_ix ix_list (pv 0) pe_int (fun _ _ => rfl)) (pe_op op_mul (pe_op op_mul pe_int (pe_ix ix_list (pv 0) pe_int (fun _ _ => rfl))) (pe_ix ix_list (pv 0) pe_int (fun _ _ => rfl)))) pe_int) pe_int) pe_int))
      (pss_cons (ps_set (i := 3) scTake.nd rfl (Or.inl rfl) (pe_op op_mod (pe_op op_mul (pv 3) (pe_op op_add (pe_op op_mod (pv 3) pe_int) (pe_op op_mul pe_int (pe_ix ix_list (pv 0) pe_int (fun _ _ => rfl))))) pe_int))
      (pss_one (ps_ret (pe_op op_mod (pe_op op_add (pe_op op_fdiv (pv 3) pe_int) (pe_op op_fdiv (pv 3) pe_int)) (pv 1))))))), ?_⟩
    refine ⟨_, rfl, h, _, 0, _, rfl, rfl, .of hH, atI_nat (j := 0) rfl, _, _, rfl, rfl, _, rfl, ?_⟩
    refine ite2 (fun hg => ?_) (fun _ => ?_)
    · refine ⟨_, rfl, h, _, 0, _, rfl, rfl, .of hH, atI_nat (j := 0) rfl, _, rfl, _, _, rfl, rfl, hm0, ?_⟩
      refine ⟨_, rfl, h, _, 0, _, rfl, rfl, .of hH, atI_nat (j := 0) rfl, _, rfl, _, _, rfl, rfl, ⟨hm0, hm1⟩, ?_⟩
      refine ⟨_, rfl, h, _, 0, 0, rfl, rfl, hH, rfl, _, rfl, ?_⟩
      exact q _ _ (fun b o nb e => by rw [upd_ne nb]; exact e) ⟨_, _, c, upd_same, hc0, by omega⟩ (Int.emod_nonneg _ (by omega)) (Int.emod_lt_of_pos _ hm0)
    · refine ⟨_, rfl, h, _, 2, _, rfl, rfl, .of hH, atI_nat (j := 2) rfl, _, _, rfl, rfl, ?_⟩
      refine ⟨_, rfl, h, _, 2, 2, rfl, rfl, hH, rfl, ?_⟩
      have hH1 : upd H h (.lst [.int g, .int s0, .int (c + 1)]) h = some (.lst [.int g, .int s0, .int (c + 1)]) := upd_same
      have hK : Kee h H (upd H h (.lst [.int g, .int s0, .int (c + 1)])) := fun b o nb e => by rw [upd_ne nb]; exact e
      show tSeq _ _ _ _ (upd H h (.lst [.int g, .int s0, .int (c + 1)]))
      generalize upd H h (.lst [.int g, .int s0, .int (c + 1)]) = H1 at hH1 hK ⊢
      have b1 : -(2 ^ 64) < c + 1 ∧ c + 1 < 2 ^ 64 := by omega
      refine ⟨_, rfl, h, _, 1, _, rfl, rfl, .of hH1, atI_nat (j := 1) rfl, _, rfl, h, _, 2, _, rfl, rfl, .of hH1, atI_nat (j := 2) rfl, _, _, rfl, rfl, .inl (by decide), _, rfl, h, _, 2, _, rfl, rfl, .of hH1, atI_nat (j := 2) rfl, _, _, rfl, rfl, .inr b1,
        _, _, rfl, rfl, _, _, rfl, rfl, _, _, rfl, rfl, .inr (by decide), _, _, rfl, rfl, (by show (0 : Int) < 2305843009213693921; decide), ?_⟩
      obtain ⟨x, ex⟩ : ∃ x : Int, x = (s0 + 65537 * (c + 1) * (c + 1) + 11) * 48271 % 2305843009213693921 := ⟨_, rfl⟩
      have x0 : 0 ≤ x := by rw [ex]; exact Int.emod_nonneg _ (by decide)
      have x1 : x < 2305843009213693921 := by rw [ex]; exact Int.emod_lt_of_pos _ (by decide)
      show gName 3 (V.int ((s0 + 65537 * (c + 1) * (c + 1) + 11) * 48271 % 2305843009213693921)) _ _ _
      rw [← ex]
      refine ⟨_, rfl, _, rfl, _, _, rfl, rfl, (by show (0 : Int) < 1000003; decide), _, rfl, h, _, 2, _, rfl, rfl, .of hH1, atI_nat (j := 2) rfl, _, _, rfl, rfl, .inl (by decide), _, _, rfl, rfl, _, _, rfl, rfl, .inl (by omega), _, _, rfl, rfl, (by show (0 : Int) < 2305843009213693907; decide), ?_⟩
      refine ⟨_, rfl, _, _, rfl, rfl, ⟨by decide, by decide⟩, _, rfl, _, _, rfl, rfl, ⟨by decide, by decide⟩, _, _, rfl, rfl, _, rfl, _, _, rfl, rfl, hm0, ?_⟩
      exact q _ _ hK ⟨_, _, _, hH1, by omega, by omega⟩ (Int.emod_nonneg _ (by omega)) (Int.emod_lt_of_pos _ hm0)
/-- what is picked from: a list other than the hand, a tuple, a text -/
def Src (H : Hp) (h : Addr) (v : V) (xs : List V) : Prop := (∃ l, v = .ref l ∧ l ≠ h ∧ H l = some (.lst xs)) ∨ (∃ l, v = .ref l ∧ H l = some (.tup xs)) ∨ ∃ z : Str, v = .str z ∧ xs = signsV z
def spPick : Sp := fun vs H Q _ => ∃ (h : Addr) (v : V) (xs : List V) (n : Nat), vs = [.ref h, v] ∧ HandAt n H h ∧ n ≤ 1000000000 ∧ Src H h v xs ∧ xs ≠ [] ∧ xs.length ≤ 100000 ∧ ∀ H' y, Kee h H H' → HandAt (n + 1) H' h → y ∈ xs → Q y H'
theorem scPick : FnScope ["_law_hand_here", "_law_some"] ["_law_hand_here", "_law_some"] (defScope sPick) := ⟨rfl, rfl, rfl, by decide +kernel, rfl, by decide +kernel, by decide +kernel⟩
theorem ok_pick (F : FunD K "_law_pick" "_law_pick" (defArgs sPick) (defBody sPick) (defScope sPick) [] [] f fd) (T : Tx K mg C) (gT : Kn P w K mg base 1 "_law_take" ["_law_hand_here", "_law_many"] spTake) : FnOk P w K mg base CX0 2 f fd ["_law_hand_here", "_law_some"] spPick := by
  refine ok0 F scPick (fun vs H Q E h => ?_) (fun cdv A outer s H vs Q E hr h => ?_)
  · obtain ⟨h, v, xs, n, rfl, _⟩ := h
    rfl
  · obtain ⟨h, v, xs, n, rfl, hh, hn, hS, hne, hx, q⟩ := h
    refine ⟨_, pss_one (ps_ret (pe_ix ix_seq (pv 1) (pe_k gT hr (Nat.le_refl _) (pa_cons (pv 0) (pa_cons (pe_callB call_len (by rfl) (T.f 2) PySem.boot_len (pa_cons (pv 1) pa_nil)) pa_nil))) (fun _ _ => rfl))), ?_⟩
    have hx0 : 0 < xs.length := List.length_pos_iff.mpr hne
    have hLen : LenV K v H xs.length := by
      rcases hS with ⟨l, rfl, nl, hl⟩ | ⟨l, rfl, hl⟩ | ⟨z, rfl, e⟩
      · exact .inl ⟨xs, .of hl, rfl⟩
      · exact .inr ⟨xs, .inl (.inl hl), rfl⟩
      · have e2 : xs.length = z.length := by rw [e]; unfold signsV; rw [List.length_map]; exact TL.len_tl z ▸ rfl
        exact ⟨by rw [← e2]; exact Nat.le_trans hx (by decide), e2⟩
    refine ⟨_, rfl, _, rfl, _, rfl, v, _, rfl, hLen, h, _, n, rfl, hh, hn, by omega, by omega, fun H1 d k1 h1 d0 d1 => ?_⟩
    obtain ⟨j, rfl⟩ := Int.eq_ofNat_of_zero_le d0
    have hj : j < xs.length := by omega
    have fin : Q xs[j] H1 := q _ _ k1 h1 (List.getElem_mem hj)
    rcases hS with ⟨l, rfl, nl, hl⟩ | ⟨l, rfl, hl⟩ | ⟨z, rfl, e⟩
    · exact .inl ⟨l, xs, _, _, rfl, rfl, .of (k1 _ _ nl hl), atI_nat (by simp [hj]), fin⟩
    · exact .inr (.inl ⟨l, xs, _, _, rfl, rfl, .inl (.inl (k1 _ _ (hh.ne hl fun ys z => by cases z) hl)), atI_nat (by simp [hj]), fin⟩)
    · subst e
      have hjz : j < z.cps.toList.length := by unfold signsV at hj; rw [List.length_map] at hj; exact hj
      have hzl : z.length ≤ sizeLine := by
        have : z.length = z.cps.toList.length := TL.len_tl z
        unfold signsV at hx
        rw [List.length_map] at hx
        rw [this]
        exact Nat.le_trans hx (by decide)
      have ev : (signsV z)[j] = V.str ⟨#[z.cps.toList[j]]⟩ := by simp [signsV]
      rw [ev] at fin
      exact .inr (.inr ⟨z, _, _, rfl, rfl, hzl, atI_nat (j := j) (by simp at hjz; simp [hjz]), fin⟩)
end
end K79
namespace K79
open PySem PySem.Spec PyProof.Rows L2
def sg (c : Nat) : Str := ⟨#[c]⟩
theorem same_new {H : Hp} {p : Addr} {o : HO} (h : H p = none) : Same H (upd H p o) := fun b u e => by rw [upd_ne (ne_of_none e h)]; exact e
theorem mem_signs {z : Str} {y : V} (h : y ∈ signsV z) : ∃ c, c ∈ z.cps.toList ∧ y = .str (sg c) := by
  unfold signsV at h
  obtain ⟨c, hc, rfl⟩ := List.mem_map.mp h
  exact ⟨c, hc, rfl⟩
theorem sg_let {c : Nat} (h : smallC c = true) : IsLet (sg c) := ⟨Nat.le_refl _, (by show 1 ≤ 2; decide), fun d hd => by
  have : d = c := by simpa [sg] using hd
  rw [this]; exact h⟩
theorem sg2_let {c d : Nat} (h : smallC c = true) (h2 : smallC d = true) : IsLet (sg c ++ sg d) := by
  have e : (sg c ++ sg d).cps.toList = [c, d] := TL.tl_append (sg c) (sg d)
  have es : (sg c ++ sg d).cps.size = 2 := by rw [size_tl, TL.tl, e]; rfl
  refine ⟨by rw [es]; decide, by rw [es]; decide, fun x hx => ?_⟩
  rw [e] at hx
  rcases List.mem_cons.mp hx with q | q
  · rw [q]; exact h
  · rw [List.mem_singleton.mp q]; exact h2
/-- the state while letters are made: gs the groups that stand, g the one in making -/
structure LSt (H0 H : Hp) (h l1 kl gl : Addr) (n : Nat) (gs : List (List Str)) (g : List Str) : Prop where
  kee : Kee h H0 H
  hand : HandAt n H h
  sm : H l1 = some (.lst (signsV abc))
  kn : H kl = some (.lst ((gs.flatten ++ g).map V.str))
  gr : ∃ as : List Addr, H gl = some (.lst (as.map V.ref)) ∧ as.length = gs.length ∧ ∀ (i : Nat) (a : Addr) (x : List Str), as[i]? = some a → gs[i]? = some x → H a = some (.tup (x.map V.str))
  nd : (gs.flatten ++ g).Nodup
  lt : ∀ z ∈ gs.flatten ++ g, IsLet z
  g4 : ∀ x ∈ gs, x ≠ [] ∧ x.length ≤ 4
  f1 : H0 l1 = none ∧ H0 kl = none ∧ H0 gl = none
  ne : l1 ≠ h ∧ kl ≠ h ∧ gl ≠ h ∧ kl ≠ gl ∧ l1 ≠ kl ∧ l1 ≠ gl
section
variable {H0 H H1 : Hp} {h l1 kl gl : Addr} {n m : Nat} {gs : List (List Str)} {g : List Str}
theorem LSt.go (s : LSt H0 H h l1 kl gl n gs g) (k : Kee h H H1) (a : HandAt m H1 h) : LSt H0 H1 h l1 kl gl m gs g := by
  obtain ⟨as, g1, g2, g3⟩ := s.gr
  exact ⟨s.kee.trans k, a, k _ _ s.ne.1 s.sm, k _ _ s.ne.2.1 s.kn, ⟨as, k _ _ s.ne.2.2.1 g1, g2, fun i a x e1 e2 => k _ _ (s.hand.ne (g3 i a x e1 e2) fun ys z => by cases z) (g3 i a x e1 e2)⟩, s.nd, s.lt, s.g4, s.f1, s.ne⟩
theorem LSt.same (s : LSt H0 H h l1 kl gl n gs g) (k : Same H H1) : LSt H0 H1 h l1 kl gl n gs g := s.go (Kee.same k) (s.hand.same k)
end
section
variable {P : Program} {w : World} {K : PySem.W.Frag} {mg : Str → Option Value} {base : Heap} {f : Addr} {fd : FuncData} {C Pt : Addr}
def spLetters : Sp := fun vs H Q _ => ∃ (h : Addr) (n : Nat), vs = [.ref h] ∧ HandAt n H h ∧ n ≤ 100000000 ∧ ∀ H' t gs, Kee h H H' → HandAt (n + 1000) H' h → TupG H' t gs → IsLets gs → Q (.ref t) H'
theorem scLets2 : FnScope ["_law_hand_here", "_law_small", "_law_known", "_law_groups", "_law_many", "_law_k", "_law_group", "_law_turn", "_law_text_here"] ["_law_hand_here"] (defScope sLetters) := ⟨rfl, rfl, rfl, by decide +kernel, rfl, by decide +kernel, by decide +kernel⟩
theorem ok_letters (F : FunD K "_law_letters" "_law_letters" (defArgs sLetters) (defBody sLetters) (defScope sLetters) [] [] f fd) (T : Tx K mg C) (gT : Kn P w K mg base 1 "_law_take" ["_law_hand_here", "_law_many"] spTake) (gP : Kn P w K mg base 2 "_law_pick" ["_law_hand_here", "_law_some"] spPick) :
    FnOk P w K mg base CX0 3 f fd ["_law_hand_here"] spLetters := by
  refine ok0 F scLets2 (fun vs H Q E h => ?_) (fun cdv A outer s H vs Q E hr h => ?_)
  · obtain ⟨h, n, rfl, _⟩ := h
    rfl
  · obtain ⟨h, n, rfl, hh, hn, q⟩ := h
    refine ⟨_, pss_cons (ps_set (i := 1) scLets2.nd rfl (Or.inl rfl) (pe_callTy (call_listS rfl) (by rfl) (T.f 11) (by decide +kernel) (pa_cons pe_str pa_nil)))
      (pss_cons (ps_par3 (i := 2) (j := 3) (l := 4) rfl scLets2.nd rfl rfl rfl (by decide) (by decide) (by decide) rfl rfl rfl (pa_cons (pe_lst pa_nil) (pa_cons (pe_lst pa_nil) (pa_cons (pe_k gP hr (Nat.le_refl _) (pa_cons (pv 0) (pa_cons (pe_lst (pa_cons pe_int (pa_cons pe_int (pa_cons pe_int (pa_cons pe_int (pa_cons pe_int
          (pa_cons (pe_op op_add pe_int (pe_k gT hr (by decide) (pa_cons (pv 0) (pa_cons pe_int pa_nil)))) pa_nil))))))) pa_nil))) pa_nil))) (by rfl))
      (pss_cons (ps_for PassesOwn.never rfl (pi_range1 (by rfl) (T.f 12) (pa_cons (pv 4) pa_nil)) (pg_name (i := 5) scLets2.nd rfl (Or.inl rfl))
        (pss_cons (ps_set (i := 6) scLets2.nd rfl (Or.inl rfl) (pe_lst pa_nil))
        (pss_cons (ps_for PassesOwn.never rfl (pi_range1 (by rfl) (T.f 12) (pa_cons (pe_k gP hr (Nat.le_refl _) (pa_cons (pv 0) (pa_cons (pe_lst (pa_cons pe_int (pa_cons pe_int (pa_cons pe_int (pa_cons pe_int pa_nil))))) pa_nil))) pa_nil)) (pg_name (i := 7) scLets2.nd rfl (Or.inl rfl))
          (pss_cons (ps_set (i := 8) scLets2.nd rfl (Or.inl rfl) (pe_k gP hr (Nat.le_refl _) (pa_cons (pv 0) (pa_cons (pv 1) pa_nil))))
          (C8.pss_cut (ps_if (PW.pt (pw_or (pt_cmpR op_eq (pe_k gT hr (by decide) (pa_cons (pv 0) (pa_cons pe_int pa_nil))) pe_int (nomark _)) (pw_or1 (pt_cmpR op_gt (pe_callB call_len_seq (by rfl) (T.f 2) PySem.boot_len (pa_cons (pv 2) pa_nil)) pe_int (nomark _)))))
            (pss_one (ps_set (i := 8) scLets2.nd rfl (Or.inl rfl) (pe_op op_add_str (pv 8) (pe_k gP hr (Nat.le_refl _) (pa_cons (pv 0) (pa_cons (pv 1) pa_nil)))))) pss_nil)
          (pss_one (ps_if (pt_cmpR op_notIn_seq (pv 8) (pv 2) rfl) (pss_cons (ps_expr (pe_bm PySem.F.plainAttrs_list PySem.F.slot_list_append PySem.F.type_list_append mt_append (pv 2) (pa_cons (pv 8) pa_nil)))
            (pss_one (ps_expr (pe_bm PySem.F.plainAttrs_list PySem.F.slot_list_append PySem.F.type_list_append mt_append (pv 6) (pa_cons (pv 8) pa_nil))))) pss_nil)))))
        (pss_one (ps_if (pt_cmpR (op_neD hr.units) (pv 6) (pe_lst pa_nil) (nomark _)) (pss_one (ps_expr (pe_bm PySem.F.plainAttrs_list PySem.F.slot_list_append PySem.F.type_list_append mt_append (pv 3) (pa_cons (pe_callTy call_tuple_of (by rfl) (T.f 4) (by decide +kernel) (pa_cons (pv 6) pa_nil)) pa_nil)))) pss_nil)))))
      (pss_one (ps_ret (pe_callTy call_tuple_of (by rfl) (T.f 4) (by decide +kernel) (pa_cons (pv 3) pa_nil)))))), ?_⟩
    refine ⟨abc, rfl, by decide +kernel, fun l1 hl1 => ?_⟩
    have s1 := same_new (o := .lst (signsV abc)) hl1
    refine ⟨Nat.zero_le _, fun kl hkl => ⟨Nat.zero_le _, fun gl hgl => ?_⟩⟩
    have s2 := same_new (o := .lst []) hkl
    have s3 := same_new (o := .lst []) hgl
    have s13 := s1.trans (s2.trans s3)
    have st0 : LSt H (upd (upd (upd H l1 (.lst (signsV abc))) kl (.lst [])) gl (.lst [])) h l1 kl gl n [] [] := by
      have e1 : l1 ≠ kl := ne_of_none (H := upd H l1 (.lst (signsV abc))) upd_same hkl
      have e2 : l1 ≠ gl := ne_of_none (s2 _ _ (upd_same (H := H) (a := l1) (o := .lst (signsV abc)))) hgl
      have e3 : kl ≠ gl := ne_of_none (H := upd (upd H l1 (.lst (signsV abc))) kl (.lst [])) upd_same hgl
      refine ⟨Kee.same s13, hh.same s13, s3 _ _ (s2 _ _ upd_same), s3 _ _ upd_same, ⟨[], upd_same, rfl, fun i a x e => by simp at e⟩, .nil, fun z hz => by simp at hz, fun x hx => by simp at hx, ⟨hl1, s1.free hkl, (s1.trans s2).free hgl⟩, hh.new hl1, hh.new (s1.free hkl), hh.new ((s1.trans s2).free hgl), e3, e1, e2⟩
    generalize upd (upd (upd H l1 (.lst (signsV abc))) kl (.lst [])) gl (.lst []) = H1 at st0 ⊢
    refine ⟨_, rfl, _, rfl, h, 40, n, rfl, st0.hand, by omega, by decide, by decide, fun H2 d k2 h2 d0 d1 => ?_⟩
    have st2 := st0.go k2 h2
    refine ⟨_, _, rfl, rfl, (by show 6 ≤ sizeLine; decide), fun p hp => ?_⟩
    have s4 := same_new (o := .lst [.int 1, .int 2, .int 5, .int 26, .int 40, .int (1 + d)]) hp
    have st3 := st2.same s4
    refine ⟨h, _, _, n + 1, rfl, st3.hand, by omega, .inl ⟨p, rfl, st2.hand.new hp, upd_same⟩, by simp, by simp, fun H3 y k3 h3 hy => ?_⟩
    have st4 := st3.go k3 h3
    obtain ⟨mm, rfl, m1, m40⟩ : ∃ mm : Nat, y = .int (mm : Nat) ∧ 1 ≤ mm ∧ mm ≤ 40 := by
      simp only [List.mem_cons, List.not_mem_nil, or_false] at hy
      rcases hy with rfl | rfl | rfl | rfl | rfl | rfl
      · exact ⟨1, rfl, by decide, by decide⟩
      · exact ⟨2, rfl, by decide, by decide⟩
      · exact ⟨5, rfl, by decide, by decide⟩
      · exact ⟨26, rfl, by decide, by decide⟩
      · exact ⟨40, rfl, by decide, by decide⟩
      · exact ⟨(1 + d).toNat, by congr 1; omega, by omega, by omega⟩
    generalize upd H2 p (.lst [.int 1, .int 2, .int 5, .int 26, .int 40, .int (1 + d)]) = H2' at *
    refine ⟨_, _, _, rfl, _, rfl, mm, rfl, by omega, by omega, ?_⟩
    rw [Int.toNat_natCast]
    -- for k in range(many)
    refine for_range (fun i σ H' => ∃ (v5 v6 v7 v8 : Option V) (gs : List (List Str)), σ = [some (.ref h), some (.ref l1), some (.ref kl), some (.ref gl), some (.int (mm : Nat)), v5, v6, v7, v8] ∧ LSt H H' h l1 kl gl (n + 2 + i * 20) gs [] ∧ gs.length ≤ i ∧ (1 ≤ i → gs ≠ []))
      ⟨none, none, none, none, [], rfl, st4, Nat.le_refl _, fun h => by omega⟩ ?_ ?_
    · rintro i σ H4 hi ⟨v5, v6, v7, v8, gs, rfl, st5, hgl5, hne5⟩
      refine ⟨Nat.zero_le _, fun p6 hp6 => ?_⟩
      have s5 := same_new (o := .lst []) hp6
      have st6 := st5.same s5
      have h6 : upd H4 p6 (.lst []) p6 = some (.lst (([] : List Str).map V.str)) := upd_same
      have n6h : p6 ≠ h := st5.hand.new hp6
      have n6l : l1 ≠ p6 := ne_of_none st5.sm hp6
      have n6k : kl ≠ p6 := ne_of_none st5.kn hp6
      have n6g : gl ≠ p6 := by obtain ⟨as, g1, _⟩ := st5.gr; exact ne_of_none g1 hp6
      have hH6 : ∀ b o, b ≠ h → H b = some o → b ≠ p6 := fun b o nb e => ne_of_none (st5.kee b o nb e) hp6
      generalize upd H4 p6 (.lst []) = H5 at st6 h6 ⊢
      refine ⟨_, rfl, (by show 4 ≤ sizeLine; decide), fun p hp => ?_⟩
      have s6 := same_new (o := .lst [.int 1, .int 1, .int 2, .int 4]) hp
      have st7 := st6.same s6
      have h7 := s6 _ _ h6
      refine ⟨h, _, _, _, rfl, st7.hand, by omega, .inl ⟨p, rfl, st6.hand.new hp, upd_same⟩, by simp, by simp, fun H6 y k6 hh6 hy => ?_⟩
      have st8 := st7.go k6 hh6
      have h8 := k6 _ _ n6h h7
      obtain ⟨jm, rfl, j1, j4⟩ : ∃ jm : Nat, y = .int (jm : Nat) ∧ 1 ≤ jm ∧ jm ≤ 4 := by
        simp only [List.mem_cons, List.not_mem_nil, or_false] at hy
        rcases hy with rfl | rfl | rfl | rfl
        · exact ⟨1, rfl, by decide, by decide⟩
        · exact ⟨1, rfl, by decide, by decide⟩
        · exact ⟨2, rfl, by decide, by decide⟩
        · exact ⟨4, rfl, by decide, by decide⟩
      clear h7 s6 st7
      refine ⟨jm, rfl, by omega, by omega, ?_⟩
      rw [Int.toNat_natCast]
      have hsl : (signsV abc).length = 26 := by decide +kernel
      have hsn : signsV abc ≠ [] := fun e => by rw [e] at hsl; cases hsl
      -- for turn in range(..)
      refine for_range (fun j σ H' => ∃ (v7 v8 : Option V) (g : List Str), σ = [some (.ref h), some (.ref l1), some (.ref kl), some (.ref gl), some (.int (mm : Nat)), some (.int (0 + (i : Nat))), some (.ref p6), v7, v8] ∧ LSt H H' h l1 kl gl (n + 2 + i * 20 + 1 + j * 4) gs g ∧ H' p6 = some (.lst (g.map V.str)) ∧ g.length ≤ j ∧ (gs = [] → 1 ≤ j → g ≠ []))
        ⟨v7, v8, [], rfl, by simpa using st8, h8, Nat.le_refl _, fun _ h => by omega⟩ ?_ ?_
      · rintro j σ H7 hj ⟨v7, v8, g, rfl, st, hg, hgl, hgn⟩
        refine ⟨_, rfl, _, rfl, h, _, _, _, rfl, st.hand, by omega, .inl ⟨l1, rfl, st.ne.1, st.sm⟩, hsn, by rw [hsl]; decide, fun H8 y k8 hh8 hy => ?_⟩
        obtain ⟨c, hc, rfl⟩ := mem_signs hy
        have hcs := abc_mem.mp hc
        have sta := st.go k8 hh8
        have ha := k8 _ _ n6h hg
        have few : (gs.flatten ++ g).length ≤ 200 := by
          have : ∀ l : List (List Str), (∀ x ∈ l, x.length ≤ 4) → l.flatten.length ≤ 4 * l.length := by
            intro l
            induction l with
            | nil => intro _; simp
            | cons x l ih =>
              intro hl
              have h1 := hl x List.mem_cons_self
              have h2 := ih fun y hy => hl y (List.mem_cons_of_mem _ hy)
              rw [List.flatten_cons, List.length_append, List.length_cons]
              omega
          have := this gs fun x hx => (st.g4 x hx).2
          rw [List.length_append]
          omega
        refine ⟨fun σ' H' => ∃ z, σ' = [some (.ref h), some (.ref l1), some (.ref kl), some (.ref gl), some (.int (mm : Nat)), some (.int (0 + (i : Nat))), some (.ref p6), some (.int (0 + (j : Nat))), some (.str z)] ∧ IsLet z ∧ LSt H H' h l1 kl gl (n + 2 + i * 20 + 1 + (j + 1) * 4) gs g ∧ H' p6 = some (.lst (g.map V.str)), ?_, ?_⟩
        · refine ⟨_, rfl, h, 2, _, rfl, sta.hand, by omega, by decide, by decide, fun H9 d k9 hh9 d0 d1 => ?_⟩
          have stb := sta.go k9 hh9
          have hb := k9 _ _ n6h ha
          have two : ∀ m, m ≤ n + 2 + i * 20 + 1 + j * 4 + 2 → ∀ (H9 : Hp) (R : VK), LSt H H9 h l1 kl gl m gs g → H9 p6 = some (.lst (g.map V.str)) → (∀ c' H', smallC c' = true → LSt H H' h l1 kl gl (m + 1) gs g → H' p6 = some (.lst (g.map V.str)) → R (.str (sg c')) H') →
              tCall spPick [] E0 (tCons (tVar 0) (tCons (tVar 1) tNil)) [some (.ref h), some (.ref l1), some (.ref kl), some (.ref gl), some (.int (mm : Nat)), some (.int (0 + (i : Nat))), some (.ref p6), some (.int (0 + (j : Nat))), some (.str (sg c))] H9 R := by
            intro m hm H9 R stc hc hR
            refine ⟨_, rfl, _, rfl, h, _, _, _, rfl, stc.hand, by omega, .inl ⟨l1, rfl, stc.ne.1, stc.sm⟩, hsn, by rw [hsl]; decide, fun H10 y k10 hh10 hy => ?_⟩
            obtain ⟨c', hc', rfl⟩ := mem_signs hy
            exact hR c' H10 (abc_mem.mp hc') (stc.go k10 hh10) (k10 _ _ n6h hc)
          have lsz : (sg c).length = 1 := rfl
          refine ⟨rfl, _, rfl, ?_⟩
          refine ite2 (fun _ => ?_) (fun _ => ?_)
          · refine iteT ⟨_, rfl, two _ (by omega) _ _ stb hb fun c' H' hc' st' hg' => ⟨_, _, rfl, rfl, (by show 1 + 1 ≤ sizeLine; decide), sg c ++ sg c', rfl, sg2_let hcs hc', st'.go (Kee.refl _ _) (st'.hand.mono (by omega)), hg'⟩⟩
          · refine ⟨_, rfl, kl, _, rfl, .inl (.of stb.kn), _, _, rfl, rfl, _, rfl, ?_⟩
            refine ite2 (fun _ => ?_) (fun _ => ?_)
            · exact ⟨_, rfl, two _ (by omega) _ _ stb hb fun c' H' hc' st' hg' => ⟨_, _, rfl, rfl, (by show 1 + 1 ≤ sizeLine; decide), sg c ++ sg c', rfl, sg2_let hcs hc', st'.go (Kee.refl _ _) (st'.hand.mono (by omega)), hg'⟩⟩
            · exact ⟨sg c, rfl, sg_let hcs, stb.go (Kee.refl _ _) (stb.hand.mono (by omega)), hb⟩
        · rintro σ' H9 ⟨z, rfl, hz, stz, hgz⟩
          refine ⟨_, rfl, _, rfl, kl, _, rfl, .inl (.of stz.kn), rfl, flat_strs _, _, rfl, ?_⟩
          show if (!inV (.str z) ((gs.flatten ++ g).map V.str)) = true then _ else _
          rw [inV_strs]
          by_cases hin : z ∈ gs.flatten ++ g
          · rw [decide_eq_true hin]
            refine iteF ⟨_, some (.str z), g, rfl, stz, hgz, by omega, fun e _ => ?_⟩
            rw [e] at hin
            intro q
            rw [q] at hin
            simp at hin
          · rw [decide_eq_false hin]
            refine iteT ?_
            refine ⟨_, rfl, .inl ⟨rfl, _, .of stz.kn⟩, _, rfl, kl, _, _, rfl, rfl, stz.kn, ?_, ?_⟩
            · rw [List.length_map]
              exact Nat.lt_of_le_of_lt few (by decide)
            refine ⟨_, rfl, .inl ⟨rfl, _, .of ((upd_ne n6k.symm).trans hgz)⟩, _, rfl, p6, _, _, rfl, rfl, (upd_ne n6k.symm).trans hgz, ?_, ?_⟩
            · rw [List.length_map]
              exact Nat.lt_of_le_of_lt (show g.length ≤ 200 by omega) (by decide)
            obtain ⟨as, g1, g2, g3⟩ := stz.gr
            obtain ⟨f1, f2, f3⟩ := stz.f1
            obtain ⟨m1', m2, m3, m4, m5, m6⟩ := stz.ne
            have at_ : ∀ b, b ≠ kl → b ≠ p6 → upd (upd H9 kl (.lst ((gs.flatten ++ g).map V.str ++ [.str z]))) p6 (.lst (g.map V.str ++ [.str z])) b = H9 b := fun b h1 h2 => by rw [upd_ne h2, upd_ne h1]
            have hkl : upd (upd H9 kl (.lst ((gs.flatten ++ g).map V.str ++ [.str z]))) p6 (.lst (g.map V.str ++ [.str z])) kl = some (.lst ((gs.flatten ++ (g ++ [z])).map V.str)) := by
              rw [upd_ne n6k, upd_same]
              simp
            refine ⟨_, some (.str z), g ++ [z], rfl, ⟨fun b o nb e => ?_, ?_, ?_, hkl, ⟨as, ?_, g2, fun i a x e1 e2 => ?_⟩, ?_, ?_, stz.g4, stz.f1, stz.ne⟩, ?_, ?_, fun _ _ => by simp⟩
            · rw [at_ b (ne_of_none e f2) (hH6 b o nb e)]
              exact stz.kee b o nb e
            · obtain ⟨x, y, c, e, r⟩ := stz.hand
              exact ⟨x, y, c, by rw [at_ h m2.symm n6h.symm]; exact e, r⟩
            · rw [at_ l1 m5 n6l]; exact stz.sm
            · rw [at_ gl m4.symm n6g]; exact g1
            · have q := g3 i a x e1 e2
              rw [at_ a (ne_of q stz.kn (by intro z; cases z)) (ne_of q hgz (by intro z; cases z))]
              exact q
            · rw [← List.append_assoc, List.nodup_append]
              exact ⟨stz.nd, by simp, fun a ha b hb e => by rw [List.mem_singleton.mp hb] at e; rw [e] at ha; exact hin ha⟩
            · intro x hx
              rw [← List.append_assoc] at hx
              rcases List.mem_append.mp hx with q | q
              · exact stz.lt x q
              · rw [List.mem_singleton.mp q]; exact hz
            · rw [upd_same, List.map_append]; rfl
            · rw [List.length_append, List.length_singleton]; omega
      · rintro σ H7 ⟨v7, v8, g, rfl, st, hg, hgl, hgn⟩
        -- if group != []
        refine ⟨_, rfl, Nat.zero_le _, fun t ht => ?_⟩
        have s8 := same_new (o := .lst []) ht
        have asc : ∀ z ∈ g, Asc z := fun z hz => let_asc (st.lt z (List.mem_append_right _ hz))
        refine ⟨.list (g.map .str), .list [], .lst (.of (s8 _ _ hg)) (dp_strs g), .lst (.of upd_same) .nil, shaped_strsL asc, by decide +kernel, _, rfl, ?_⟩
        have st8 := st.same s8
        have hg8 := s8 _ _ hg
        generalize upd H7 t (.lst []) = H8 at st8 hg8 ⊢
        have ee : PyData.eqv (.list (g.map .str)) (.list []) = decide (g = []) := by
          rw [PyData.eqv]
          exact eqv_strs g []
        rw [ee]
        by_cases hge : g = []
        · rw [decide_eq_true hge]
          refine iteF ⟨_, _, _, _, gs, rfl, ?_, by omega, fun h1 => ?_⟩
          · have := st8.go (Kee.refl _ _) (st8.hand.mono (show n + 2 + i * 20 + 1 + jm * 4 ≤ n + 2 + (i + 1) * 20 by omega))
            rw [hge] at this
            exact this
          · intro e
            exact hgn e j1 hge
        · rw [decide_eq_false hge]
          refine iteT ⟨_, rfl, ?_⟩
          obtain ⟨as, g1, g2, g3⟩ := st8.gr
          refine ⟨.inl ⟨rfl, _, .of g1⟩, _, rfl, p6, _, rfl, .inl ⟨.of hg8, fun q hq => ?_⟩⟩
          have s9 := same_new (o := .tup (g.map V.str)) hq
          have st9 := st8.same s9
          obtain ⟨f1, f2, f3⟩ := st9.f1
          obtain ⟨m1', m2, m3, m4, m5, m6⟩ := st9.ne
          have hq9 : upd H8 q (.tup (g.map V.str)) q = some (.tup (g.map V.str)) := upd_same
          have g19 := s9 _ _ g1
          have g39 : ∀ (i : Nat) (a : Addr) (x : List Str), as[i]? = some a → gs[i]? = some x → upd H8 q (.tup (g.map V.str)) a = some (.tup (x.map V.str)) := fun i a x e1 e2 => s9 _ _ (g3 i a x e1 e2)
          generalize upd H8 q (.tup (g.map V.str)) = H9 at st9 hq9 g19 g39 ⊢
          refine ⟨gl, _, _, rfl, rfl, g19, ?_, ?_⟩
          · rw [List.length_map]
            exact Nat.lt_of_le_of_lt (show as.length ≤ 40 by omega) (by decide)
          have at_ : ∀ b, b ≠ gl → upd H9 gl (.lst (as.map V.ref ++ [.ref q])) b = H9 b := fun b h1 => upd_ne h1
          refine ⟨_, _, _, _, gs ++ [g], rfl, ⟨fun b o nb e => ?_, ?_, ?_, ?_, ⟨as ++ [q], ?_, ?_, fun i' a x e1 e2 => ?_⟩, ?_, ?_, ?_, st9.f1, st9.ne⟩, ?_, fun _ => by simp⟩
          · rw [at_ b (ne_of_none e f3)]
            exact st9.kee b o nb e
          · obtain ⟨x, y, c, e, r1, r2⟩ := st9.hand
            exact ⟨x, y, c, by rw [at_ h m3.symm]; exact e, r1, by omega⟩
          · rw [at_ l1 m6]; exact st9.sm
          · rw [at_ kl m4, st9.kn]
            simp
          · rw [upd_same, List.map_append]; rfl
          · rw [List.length_append, List.length_append, g2]; rfl
          · have hne : ∀ a y, H9 a = some (.tup y) → upd H9 gl (.lst (as.map V.ref ++ [.ref q])) a = some (.tup y) := fun a y e => by
              rw [at_ a (ne_of e g19 (by intro z; cases z))]; exact e
            rcases Nat.lt_or_ge i' gs.length with q1 | q1
            · rw [List.getElem?_append_left (by omega)] at e1
              rw [List.getElem?_append_left q1] at e2
              exact hne _ _ (g39 i' a x e1 e2)
            · rw [List.getElem?_append_right (by omega)] at e1
              rw [List.getElem?_append_right q1] at e2
              rw [g2] at e1
              cases hz : i' - gs.length with
              | zero =>
                rw [hz] at e1 e2
                simp at e1 e2
                subst e1 e2
                exact hne _ _ hq9
              | succ z =>
                rw [hz] at e1
                simp at e1
          · have := st9.nd
            rw [List.append_nil, List.flatten_append]
            simpa using this
          · intro x hx
            refine st9.lt x ?_
            rw [List.append_nil, List.flatten_append] at hx
            simpa using hx
          · intro x hx
            rcases List.mem_append.mp hx with q1 | q1
            · exact st9.g4 x q1
            · rw [List.mem_singleton.mp q1]
              exact ⟨hge, by omega⟩
          · rw [List.length_append, List.length_singleton]; omega
    · rintro σ H4 ⟨v5, v6, v7, v8, gs, rfl, st5, hgl5, hne5⟩
      obtain ⟨as, g1, g2, g3⟩ := st5.gr
      refine ⟨_, rfl, gl, _, rfl, .inl ⟨.of g1, fun t ht => ?_⟩⟩
      have s6 := same_new (o := .tup (as.map V.ref)) ht
      refine q _ t gs (st5.kee.trans (Kee.same s6)) ((st5.hand.same s6).mono (by omega)) ⟨as, upd_same, g2, fun i a x e1 e2 => s6 _ _ (g3 i a x e1 e2)⟩ ⟨hne5 m1, by omega, fun g hg => ?_, ?_⟩
      · have := st5.g4 g hg
        refine ⟨this.1, by omega, fun z hz => st5.lt z (List.mem_append_left _ (List.mem_flatten.mpr ⟨g, hg, hz⟩))⟩
      · have := st5.nd
        rw [List.append_nil] at this
        exact this
end
end K79
namespace K79
open PySem PySem.Spec PyProof.Rows L2
theorem joinL_nil : ∀ ps : List (List Nat), TL.joinL [] ps = ps.flatten
  | [] => rfl
  | [p] => by show p = _; simp
  | p :: q :: r => by
    show p ++ ([] ++ TL.joinL [] (q :: r)) = p ++ (q :: r).flatten
    rw [joinL_nil (q :: r), List.nil_append]
theorem tl_e : TL.tl ("" : Str) = [] := by decide +kernel
theorem join_tl (ys : List Str) : TL.tl (Txt.join "" ys) = (ys.map TL.tl).flatten := by
  rw [TL.join_eq, TL.tl_join, tl_e, joinL_nil]
theorem join_word {ys : List Str} (h1 : 1 ≤ ys.length) (h8 : ys.length ≤ 8) (hy : ∀ y ∈ ys, ∃ c, smallC c = true ∧ y = sg c) : IsWord (Txt.join "" ys) := by
  have len : ∀ l : List Str, (∀ y ∈ l, ∃ c, smallC c = true ∧ y = sg c) → ((l.map TL.tl).flatten).length = l.length := by
    intro l
    induction l with
    | nil => intro _; rfl
    | cons y l ih =>
      intro h
      obtain ⟨c, _, rfl⟩ := h y List.mem_cons_self
      rw [List.map_cons, List.flatten_cons, List.length_append, ih fun z hz => h z (List.mem_cons_of_mem _ hz), List.length_cons]
      show 1 + l.length = _
      omega
  have e : (Txt.join "" ys).cps.size = ys.length := by rw [size_tl, join_tl, len ys hy]
  refine ⟨by omega, by omega, fun c hc => ?_⟩
  have hc' : c ∈ (ys.map TL.tl).flatten := by rw [← join_tl]; exact hc
  obtain ⟨l, hl, hcl⟩ := List.mem_flatten.mp hc'
  obtain ⟨y, hyy, rfl⟩ := List.mem_map.mp hl
  obtain ⟨d, hd, rfl⟩ := hy y hyy
  have : c = d := by simpa [sg, TL.tl] using hcl
  rw [this]; exact hd
section
variable {P : Program} {w : World} {K : PySem.W.Frag} {mg : Str → Option Value} {base : Heap} {f : Addr} {fd : FuncData} {C Pt : Addr}
def spPassed : Sp := fun vs H Q _ => ∃ (h : Addr) (n : Nat), vs = [.ref h] ∧ HandAt n H h ∧ n ≤ 100000000 ∧ ∀ H' t ps, Kee h H H' → HandAt (n + 300) H' h → H' t = some (.tup (ps.map V.str)) → IsPas ps → Q (.ref t) H'
theorem scPas : FnScope ["_law_hand_here", "_law_found", "_law_k", "_law_word", "_law_turn"] ["_law_hand_here"] (defScope sPassed) := ⟨rfl, rfl, rfl, by decide +kernel, rfl, by decide +kernel, by decide +kernel⟩
theorem ok_passed (F : FunD K "_law_passed" "_law_passed" (defArgs sPassed) (defBody sPassed) (defScope sPassed) [] [] f fd) (T : Tx K mg C) (gT : Kn P w K mg base 1 "_law_take" ["_law_hand_here", "_law_many"] spTake) (gP : Kn P w K mg base 2 "_law_pick" ["_law_hand_here", "_law_some"] spPick) :
    FnOk P w K mg base CX0 3 f fd ["_law_hand_here"] spPassed := by
  refine ok0 F scPas (fun vs H Q E h => ?_) (fun cdv A outer s H vs Q E hr h => ?_)
  · obtain ⟨h, n, rfl, _⟩ := h
    rfl
  · obtain ⟨h, n, rfl, hh, hn, q⟩ := h
    refine ⟨_, pss_cons (ps_set (i := 1) scPas.nd rfl (Or.inl rfl) (pe_lst pa_nil))
      (pss_cons (ps_for PassesOwn.never rfl (pi_range1 (by rfl) (T.f 12) (pa_cons (pe_k gP hr (Nat.le_refl _) (pa_cons (pv 0) (pa_cons (pe_lst (pa_cons pe_int (pa_cons pe_int (pa_cons pe_int (pa_cons pe_int pa_nil))))) pa_nil))) pa_nil)) (pg_name (i := 2) scPas.nd rfl (Or.inl rfl))
        (pss_cons (ps_set (i := 3) scPas.nd rfl (Or.inl rfl) (pe_join pe_str (pe_lc (own := [("_law_turn", 4)]) (g := gName 4) (tt := tYes) rfl scPas.nd (pi_range1 (by rfl) (T.f 12) (pa_cons (pe_op op_add pe_int (pe_k gT hr (by decide) (pa_cons (pv 0) (pa_cons pe_int pa_nil)))) pa_nil))
          (blkOk_by (N := ["_law_hand_here", "_law_found", "_law_k", "_law_word", "_law_turn"]) (sc := defScope sPassed) (by decide +kernel)) (fun _ _ _ _ _ => pg_name (i := 4) scPas.nd rfl (Or.inl rfl)) (fun _ _ _ _ _ => pts_nil)
          (fun _ _ _ _ _ => pe_k gP hr (Nat.le_refl _) (pa_cons (pv 0) (pa_cons pe_str pa_nil))))))
        (pss_one (ps_if (pt_cmpR op_notIn_seq (pv 3) (pv 1) rfl) (pss_one (ps_expr (pe_bm PySem.F.plainAttrs_list PySem.F.slot_list_append PySem.F.type_list_append mt_append (pv 1) (pa_cons (pv 3) pa_nil)))) pss_nil))))
      (pss_one (ps_ret (pe_callTy call_tuple_of (by rfl) (T.f 4) (by decide +kernel) (pa_cons (pv 1) pa_nil))))), ?_⟩
    refine ⟨Nat.zero_le _, fun l hl => ?_⟩
    have s1 := same_new (o := .lst []) hl
    have nlh : l ≠ h := hh.new hl
    have hl1 : upd H l (.lst []) l = some (.lst (([] : List Str).map V.str)) := upd_same
    have k1 := Kee.same (h := h) s1
    have hh1 := hh.same s1
    generalize upd H l (.lst []) = H1 at hl1 k1 hh1 ⊢
    refine ⟨_, rfl, (by show 4 ≤ sizeLine; decide), fun p hp => ?_⟩
    have s2 := same_new (o := .lst [.int 0, .int 1, .int 3, .int 20]) hp
    refine ⟨h, _, _, _, rfl, hh1.same s2, by omega, .inl ⟨p, rfl, hh1.new hp, upd_same⟩, by simp, by simp, fun H2 y k2 hh2 hy => ?_⟩
    have hl2 := k2 _ _ nlh (s2 _ _ hl1)
    have k3 := (k1.trans (Kee.same s2)).trans k2
    obtain ⟨m, rfl, m20⟩ : ∃ m : Nat, y = .int (m : Nat) ∧ m ≤ 20 := by
      simp only [List.mem_cons, List.not_mem_nil, or_false] at hy
      rcases hy with rfl | rfl | rfl | rfl
      · exact ⟨0, rfl, by decide⟩
      · exact ⟨1, rfl, by decide⟩
      · exact ⟨3, rfl, by decide⟩
      · exact ⟨20, rfl, by decide⟩
    clear hl1 k1 hh1 s2
    refine ⟨m, rfl, by omega, by omega, ?_⟩
    rw [Int.toNat_natCast]
    refine for_range (fun i σ H' => ∃ (v2 v3 v4 : Option V) (ps : List Str), σ = [some (.ref h), some (.ref l), v2, v3, v4] ∧ Kee h H H' ∧ HandAt (n + 1 + i * 9) H' h ∧ H' l = some (.lst (ps.map V.str)) ∧ ps.length ≤ i ∧ (∀ z ∈ ps, IsWord z) ∧ ps.Nodup)
      ⟨none, none, none, [], rfl, k3, hh2, hl2, Nat.le_refl _, fun z hz => by simp at hz, .nil⟩ ?_ ?_
    · rintro i σ H3 hi ⟨v2, v3, v4, ps, rfl, k4, hh4, hl4, hpl, hw, nd⟩
      refine ⟨⟨_, rfl⟩, _, rfl, h, 8, _, rfl, hh4, by omega, by decide, by decide, fun H4 d k5 hh5 d0 d1 => ?_⟩
      obtain ⟨e, rfl⟩ := Int.eq_ofNat_of_zero_le d0
      have hl5 := k5 _ _ nlh hl4
      have k6 := k4.trans k5
      refine ⟨_, _, rfl, rfl, 1 + (e : Nat), rfl, by omega, by omega, fun D hD => ?_⟩
      have et : ((1 : Int) + (e : Nat)).toNat = e + 1 := by omega
      rw [et]
      have nDl : l ≠ D := ne_of_none hl5 hD
      have nDh : D ≠ h := hh5.new hD
      have hz : ∀ b o, b ≠ h → H4 b = some o → b ≠ D := fun b o _ z => ne_of_none z hD
      refine lc_it (walk_range (lo := 0) (n := e + 1)) (fun j H' => ∃ ys : List Str, H' D = some (.lst (ys.map V.str)) ∧ ys.length = j ∧ (∀ y ∈ ys, ∃ c, smallC c = true ∧ y = sg c) ∧ Kee h H4 H' ∧ HandAt (n + 1 + i * 9 + 1 + j) H' h)
        ⟨[], upd_same, rfl, fun y hy => by simp at hy, Kee.same (same_new hD), hh5.same (same_new hD)⟩ (fun _ _ _ _ => trivial) ?_ ?_
      · rintro j x H5 H6 hj ⟨ys, hD5, hyl, hys, k7, hh7⟩ ⟨rfl, rfl⟩
        refine ⟨rfl, _, rfl, h, _, _, _, rfl, hh7, by omega, .inr (.inr ⟨abc, rfl, rfl⟩), (by
          intro e
          have : (signsV abc).length = 26 := by decide +kernel
          rw [e] at this; cases this), by rw [show (signsV abc).length = 26 by decide +kernel]; decide, fun H7 y k8 hh8 hy => ?_⟩
        obtain ⟨c, hc, rfl⟩ := mem_signs hy
        refine ⟨_, k8 _ _ nDh hD5, by rw [List.length_map, hyl]; exact Nat.lt_of_lt_of_le (show j < 10 by omega) (by decide), ys ++ [sg c], by rw [upd_same, List.map_append]; rfl, by rw [List.length_append, hyl]; rfl, fun y hy => ?_, fun b o nb e => ?_, ?_⟩
        · rcases List.mem_append.mp hy with q1 | q1
          · exact hys y q1
          · exact ⟨c, abc_mem.mp hc, List.mem_singleton.mp q1⟩
        · rw [upd_ne (hz b o nb e)]
          exact k8 _ _ nb (k7 _ _ nb e)
        · obtain ⟨x, y, z, e, r1, r2⟩ := hh8
          exact ⟨x, y, z, by rw [upd_ne nDh.symm]; exact e, r1, by omega⟩
      · rintro H5 ⟨ys, hD5, hyl, hys, k7, hh7⟩
        have hwd := join_word (ys := ys) (by omega) (by omega) hys
        have hl8 := k7 _ _ nlh hl5
        have sz : (ys.map (·.length)).sum + ys.length * ("" : Str).length ≤ 16777216 := by
          have : ∀ l : List Str, (∀ y ∈ l, ∃ c, smallC c = true ∧ y = sg c) → (l.map (·.length)).sum = l.length := by
            intro l
            induction l with
            | nil => intro _; rfl
            | cons y l ih =>
              intro h
              obtain ⟨c, _, rfl⟩ := h y List.mem_cons_self
              rw [List.map_cons, List.sum_cons, ih fun z hz => h z (List.mem_cons_of_mem _ hz), List.length_cons]
              show 1 + l.length = _
              omega
          rw [this ys hys, show ("" : Str).length = 0 by decide +kernel]
          omega
        refine ⟨"", D, ys, rfl, rfl, .inl (.of hD5), sz, ?_⟩
        refine ⟨_, rfl, _, rfl, l, _, rfl, .inl (.of hl8), rfl, flat_strs _, _, rfl, ?_⟩
        show if (!inV (.str (Txt.join "" ys)) (ps.map V.str)) = true then _ else _
        rw [inV_strs]
        by_cases hin : Txt.join "" ys ∈ ps
        · rw [decide_eq_true hin]
          exact iteF ⟨_, _, _, ps, rfl, k6.trans k7, hh7.mono (by omega), hl8, by omega, hw, nd⟩
        · rw [decide_eq_false hin]
          refine iteT ⟨_, rfl, .inl ⟨rfl, _, .of hl8⟩, _, rfl, l, _, _, rfl, rfl, hl8, by rw [List.length_map]; exact Nat.lt_of_le_of_lt (show ps.length ≤ 20 by omega) (by decide), ?_⟩
          refine ⟨_, _, _, ps ++ [Txt.join "" ys], rfl, fun b o nb e => ?_, ?_, by rw [upd_same, List.map_append]; rfl, by rw [List.length_append, List.length_singleton]; omega, fun z hz => ?_, ?_⟩
          · rw [upd_ne (ne_of_none e hl)]
            exact k7 _ _ nb (k6 _ _ nb e)
          · obtain ⟨x, y, z, e, r1, r2⟩ := hh7
            exact ⟨x, y, z, by rw [upd_ne nlh.symm]; exact e, r1, by omega⟩
          · rcases List.mem_append.mp hz with q1 | q1
            · exact hw z q1
            · rw [List.mem_singleton.mp q1]; exact hwd
          · rw [List.nodup_append]
            exact ⟨nd, by simp, fun a ha b hb e => by rw [List.mem_singleton.mp hb] at e; rw [e] at ha; exact hin ha⟩
    · rintro σ H3 ⟨v2, v3, v4, ps, rfl, k4, hh4, hl4, hpl, hw, nd⟩
      refine ⟨_, rfl, l, _, rfl, .inl ⟨.of hl4, fun t ht => ?_⟩⟩
      have s6 := same_new (o := .tup (ps.map V.str)) ht
      exact q _ t ps (k4.trans (Kee.same s6)) ((hh4.same s6).mono (by omega)) upd_same ⟨by omega, hw, nd⟩
end
end K79
namespace K79
open PySem PySem.Spec PyProof.Rows L2
theorem upper_ok {z : Str} (h : Ok z) : Ok (Txt.upper z) ∧ (Txt.upper z).cps.size = z.cps.size := by
  rw [upper_ascii h.asc]
  refine ⟨fun c hc => ?_, Array.size_map ..⟩
  have hc' : c ∈ z.cps.toList.map up1 := by
    rw [← Array.toList_map]; exact hc
  obtain ⟨d, hd, rfl⟩ := List.mem_map.mp hc'
  have := h d hd
  unfold up1
  split <;> omega
theorem lower_sz {z : Str} (h : Asc z) : (Txt.lower z).cps.size = z.cps.size ∧ (Txt.lower z).cps.toList = low z := by
  rw [lower_ascii h]
  exact ⟨Array.size_map .., Array.toList_map ..⟩
theorem cut_ok {z : Str} (h : Ok z) (lo hi : Option Int) : Ok (cutS z lo hi) ∧ (cutS z lo hi).cps.size ≤ z.cps.size := by
  have e : (cutS z lo hi).cps.toList = (z.cps.toList.drop (HT.sIx z.length 0 lo)).take (HT.sIx z.length z.length hi - HT.sIx z.length 0 lo) := rfl
  refine ⟨fun c hc => h c ?_, ?_⟩
  · rw [e] at hc
    exact List.mem_of_mem_drop (List.mem_of_mem_take hc)
  · rw [size_tl, TL.tl, e, List.length_take, List.length_drop, Array.length_toList]
    omega
theorem app_ok {a b : Str} (ha : Ok a) (hb : Ok b) : Ok (a ++ b) ∧ (a ++ b).cps.size = a.cps.size + b.cps.size := by
  have e : (a ++ b).cps.toList = a.cps.toList ++ b.cps.toList := TL.tl_append a b
  refine ⟨fun c hc => ?_, ?_⟩
  · rw [e] at hc
    rcases List.mem_append.mp hc with q | q
    · exact ha c q
    · exact hb c q
  · rw [size_tl, TL.tl, e, List.length_append, Array.length_toList, Array.length_toList]
theorem small_ok {z : Str} (h : Small z) : Ok z := fun c hc => by
  have := h c hc
  unfold smallC at this
  simp only [Bool.and_eq_true, decide_eq_true_eq] at this
  omega
def okB (z : Str) : Bool := z.cps.toList.all fun c => decide (c < 128) && !decide (c = 44)
theorem ok_by {z : Str} (h : okB z = true) : Ok z := fun c hc => by
  have := List.all_eq_true.mp h c hc
  simpa using this
theorem IsLets.flat_ne {gs : List (List Str)} (h : IsLets gs) : gs.flatten ≠ [] := by
  cases e : gs with
  | nil => exact absurd e h.ne
  | cons g r =>
    have hg := (h.gr g (by rw [e]; exact List.mem_cons_self)).1
    cases g with
    | nil => exact absurd rfl hg
    | cons z g => simp
theorem IsLets.let_ {gs : List (List Str)} (h : IsLets gs) {z : Str} (hz : z ∈ gs.flatten) : IsLet z := by
  obtain ⟨g, hg, hz⟩ := List.mem_flatten.mp hz
  exact (h.gr g hg).2.2 z hz
def signsT : Str := "abcdefghijklmnopqrstuvwxyz0189 '-.!_~"
/-- a text of at most so many signs -/
def OkN (k : Nat) (v : V) : Prop := ∃ z, v = .str z ∧ Ok z ∧ z.cps.size ≤ k
theorem mem_idx {xs : List V} {d : Int} {n : Int} (h0 : 0 ≤ d) (h1 : d < n) (hn : n = xs.length) : ∃ v, atI xs d = some v ∧ v ∈ xs := by
  obtain ⟨j, rfl⟩ := Int.eq_ofNat_of_zero_le h0
  have hj : j < xs.length := by omega
  exact ⟨xs[j], atI_nat (by simp [hj]), List.getElem_mem hj⟩
section
variable {P : Program} {w : World} {K : PySem.W.Frag} {mg : Str → Option Value} {base : Heap} {f : Addr} {fd : FuncData} {C Pt : Addr}
def spText : Sp := fun vs H Q _ => ∃ (h tl tp : Addr) (n : Nat) (gs : List (List Str)) (ps : List Str), vs = [.ref h, .ref tl, .ref tp] ∧ HandAt n H h ∧ n ≤ 100000000 ∧ TupG H tl gs ∧ IsLets gs ∧ H tp = some (.tup (ps.map V.str)) ∧ IsPas ps ∧
  ∀ H' z, Kee h H H' → HandAt (n + 100) H' h → Ok z → z.cps.size ≤ 100 → Q (.str z) H'
theorem scText : FnScope ["_law_hand_here", "_law_letters_here", "_law_passed_here", "_law_known", "_law_group", "_law_text_here", "_law_word", "_law_k", "_law_sign"] ["_law_hand_here", "_law_letters_here", "_law_passed_here"] (defScope sText) := ⟨rfl, rfl, rfl, by decide +kernel, rfl, by decide +kernel, by decide +kernel⟩
theorem ok_text (F : FunD K "_law_text" "_law_text" (defArgs sText) (defBody sText) (defScope sText) [] [] f fd) (T : Tx K mg C) (gT : Kn P w K mg base 1 "_law_take" ["_law_hand_here", "_law_many"] spTake) (gP : Kn P w K mg base 2 "_law_pick" ["_law_hand_here", "_law_some"] spPick) :
    FnOk P w K mg base CX0 3 f fd ["_law_hand_here", "_law_letters_here", "_law_passed_here"] spText := by
  refine ok0 F scText (fun vs H Q E h => ?_) (fun cdv A outer s H vs Q E hr h => ?_)
  · obtain ⟨h, tl, tp, n, gs, ps, rfl, _⟩ := h
    rfl
  · obtain ⟨h, tl, tp, n, gs, ps, rfl, hh, hn, hT, hG, hP, hW, q⟩ := h
    refine ⟨_, pss_cons (ps_set (i := 3) scText.nd rfl (Or.inl rfl) (pe_lst pa_nil))
      (pss_cons (ps_for PassesOwn.never rfl (pi_tup (pv 1)) (pg_name (i := 4) scText.nd rfl (Or.inl rfl)) (pss_one (ps_expr (pe_bm PySem.F.plainAttrs_list PySem.F.slot_list_extend PySem.F.type_list_extend mt_extT (pv 3) (pa_cons (pv 4) pa_nil)))))
      (pss_cons (ps_set (i := 5) scText.nd rfl (Or.inl rfl) pe_str)
      (C8.pss_cut (ps_if (PW.pt (pw_and (pt_cmpR (op_neD hr.units) (pv 2) (pe_tup pa_nil) (nomark _)) (pw_and1 (pt_cmpR op_eq (pe_k gT hr (by decide) (pa_cons (pv 0) (pa_cons pe_int pa_nil))) pe_int (nomark _)))))
        (pss_cons (ps_set (i := 6) scText.nd rfl (Or.inl rfl) (pe_k gP hr (Nat.le_refl _) (pa_cons (pv 0) (pa_cons (pv 2) pa_nil))))
        (pss_cons (ps_set (i := 5) scText.nd rfl (Or.inl rfl) (pe_ix ix_list (pe_lst (pa_cons (pv 6) (pa_cons (pe_upper (pv 6)) (pa_cons (pe_op op_add_str (pe_upper (pe_slice sl_str (pv 6) po_none (po_some pe_int))) (pe_slice sl_str (pv 6) (po_some pe_int) po_none))
            (pa_cons (pe_op op_add_str (pv 6) pe_str) (pa_cons (pe_slice sl_str (pv 6) (po_some pe_int) po_none) pa_nil)))))) (pe_k gT hr (by decide) (pa_cons (pv 0) (pa_cons pe_int pa_nil))) (fun _ _ => rfl)))
        (pss_one (ps_set (i := 5) scText.nd rfl (Or.inl rfl) (pe_op op_add_str (pv 5) (pe_k gP hr (Nat.le_refl _) (pa_cons (pv 0) (pa_cons (pe_lst (pa_cons pe_str (pa_cons pe_str (pa_cons pe_str (pa_cons pe_str (pa_cons pe_str pa_nil)))))) pa_nil)))))))) pss_nil)
      (pss_cons (ps_for PassesOwn.never rfl (pi_range1 (by rfl) (T.f 12) (pa_cons (pe_k gP hr (Nat.le_refl _) (pa_cons (pv 0) (pa_cons (pe_lst (pa_cons pe_int (pa_cons pe_int (pa_cons pe_int (pa_cons pe_int (pa_cons pe_int pa_nil)))))) pa_nil))) pa_nil)) (pg_name (i := 7) scText.nd rfl (Or.inl rfl))
        (pss_cons (ps_set (i := 8) scText.nd rfl (Or.inl rfl) (pe_k gP hr (Nat.le_refl _) (pa_cons (pv 0) (pa_cons pe_str pa_nil))))
        (pss_cons (ps_set (i := 8) scText.nd rfl (Or.inl rfl) (pe_k gP hr (Nat.le_refl _) (pa_cons (pv 0) (pa_cons (pe_lst (pa_cons (pv 8) (pa_cons (pe_k gP hr (Nat.le_refl _) (pa_cons (pv 0) (pa_cons (pv 3) pa_nil))) (pa_cons (pe_k gP hr (Nat.le_refl _) (pa_cons (pv 0) (pa_cons (pv 3) pa_nil))) (pa_cons pe_str pa_nil))))) pa_nil))))
        (pss_one (ps_set (i := 5) scText.nd rfl (Or.inl rfl) (pe_op op_add_str (pv 5) (pe_ix ix_list (pe_lst (pa_cons (pv 8) (pa_cons (pe_upper (pv 8)) (pa_cons (pv 8) pa_nil)))) (pe_k gT hr (by decide) (pa_cons (pv 0) (pa_cons pe_int pa_nil))) (fun _ _ => rfl))))))))
      (pss_one (ps_ret (pv 5))))))), ?_⟩
    obtain ⟨as, hA, hal, hgr⟩ := id hT
    have hlen : (as.map V.ref).length = gs.length := by rw [List.length_map]; exact hal
    have few := hG.few
    refine ⟨Nat.zero_le _, fun kl hkl => ?_⟩
    have s1 := same_new (o := .lst []) hkl
    have nkh : kl ≠ h := hh.new hkl
    have nk : ∀ b o, H b = some o → b ≠ kl := fun b o e => ne_of_none e hkl
    -- for group in letters
    refine ⟨_, rfl, tl, rfl, ⟨_, .inl (.inl (s1 _ _ hA))⟩, for_it (walk_tup (K := K) (a := tl) (xs := as.map V.ref))
      (fun i σ H' => ∃ v4, σ = [some (.ref h), some (.ref tl), some (.ref tp), some (.ref kl), v4, none, none, none, none] ∧ Kee h H H' ∧ HandAt n H' h ∧ H' kl = some (.lst ((gs.take i).flatten.map V.str))) ⟨none, rfl, Kee.same s1, hh.same s1, upd_same⟩ ?_ ?_ ?_⟩
    · rintro i σ H' _ ⟨v4, rfl, k1, _, _⟩
      exact .inl (.inl (k1 _ _ (hh.ne hA fun ys z => by cases z) hA))
    · rintro i x σ H1 H2 hi ⟨v4, rfl, k1, hh1, hk1⟩ ⟨rfl, hx⟩
      obtain ⟨a, ha, rfl⟩ := map_get hx
      have hig : i < gs.length := by rw [← hlen]; exact hi
      have hga : H a = some (.tup (gs[i].map V.str)) := hgr i a gs[i] ha (by simp [hig])
      have fl : (gs.take (i + 1)).flatten = (gs.take i).flatten ++ gs[i] := take_flat (by simp [hig])
      have fle := take_le (gs := gs) (i + 1)
      rw [fl, List.length_append] at fle
      refine ⟨_, rfl, .inl ⟨rfl, _, .of hk1⟩, _, rfl, kl, a, _, _, rfl, rfl, hk1, .inl (.inl (k1 _ _ (hh.ne hga fun ys z => by cases z) hga)), ?_, ?_⟩
      · rw [List.length_map, List.length_map]
        exact Nat.le_trans (show (gs.take i).flatten.length + gs[i].length ≤ 320 by omega) (by decide)
      · refine ⟨some (.ref a), rfl, fun b o nb e => ?_, ?_, ?_⟩
        · rw [upd_ne (nk b o e)]; exact k1 b o nb e
        · obtain ⟨x, y, z, e, r⟩ := hh1
          exact ⟨x, y, z, by rw [upd_ne nkh.symm]; exact e, r⟩
        · rw [upd_same, fl, List.map_append]
    rintro σ H1 ⟨v4, rfl, k1, hh1, hk1⟩
    rw [hlen, List.take_length] at hk1
    have hz0 : Ok ("" : Str) := ok_by (by decide +kernel)
    refine ⟨fun σ' H' => ∃ v6 z, σ' = [some (.ref h), some (.ref tl), some (.ref tp), some (.ref kl), v4, some (.str z), v6, none, none] ∧ Ok z ∧ z.cps.size ≤ 30 ∧ Kee h H H' ∧ HandAt (n + 4) H' h ∧ H' kl = some (.lst (gs.flatten.map V.str)), ?_, ?_⟩
    · have hp1 := k1 _ _ (hh.ne hP fun ys z => by cases z) hP
      refine ⟨_, rfl, Nat.zero_le _, fun t ht => ?_⟩
      have s2 := same_new (o := .tup []) ht
      refine ⟨.tuple (ps.map .str), .tuple [], .tup (.inl (.inl (s2 _ _ hp1))) (dp_strs ps), .tup (.inl (.inl upd_same)) .nil, shaped_strsT fun z h => word_asc (hW.wd z h), by decide +kernel, _, rfl, ?_⟩
      have hp2 := s2 _ _ hp1
      have hh2 := hh1.same s2
      have k2 := k1.trans (Kee.same (h := h) s2)
      have hk2 := s2 _ _ hk1
      generalize upd H1 t (.tup []) = H2 at hp2 hh2 k2 hk2 ⊢
      have ee : PyData.eqv (.tuple (ps.map .str)) (.tuple []) = decide (ps = []) := by
        rw [PyData.eqv]
        exact eqv_strs ps []
      rw [ee]
      have skip : ∀ H3 m, Kee h H H3 → HandAt m H3 h → m ≤ n + 4 → H3 kl = some (.lst (gs.flatten.map V.str)) → ∃ v6 z, [some (.ref h), some (.ref tl), some (.ref tp), some (.ref kl), v4, some (V.str ""), none, none, none] = [some (.ref h), some (.ref tl), some (.ref tp), some (.ref kl), v4, some (.str z), v6, none, none] ∧ Ok z ∧ z.cps.size ≤ 30 ∧ Kee h H H3 ∧ HandAt (n + 4) H3 h ∧ H3 kl = some (.lst (gs.flatten.map V.str)) :=
        fun H3 m a b c d => ⟨none, "", rfl, hz0, by decide +kernel, a, b.mono c, d⟩
      by_cases hpe : ps = []
      · rw [decide_eq_true hpe]
        exact iteF (iteF (skip _ n k2 hh2 (by omega) hk2))
      rw [decide_eq_false hpe]
      refine iteT ⟨_, rfl, h, 2, n, rfl, hh2, by omega, by decide, by decide, fun H3 d k3 hh3 d0 d1 => ⟨rfl, _, rfl, ?_⟩⟩
      have hk3 := k3 _ _ nkh hk2
      have k03 := k2.trans k3
      refine ite2 (fun _ => ?_) (fun _ => skip _ (n + 1) k03 hh3 (by omega) hk3)
      have hp3 := k03 _ _ (hh.ne hP fun ys z => by cases z) hP
      refine ⟨_, rfl, _, rfl, h, _, _, n + 1, rfl, hh3, by omega, .inr (.inl ⟨tp, rfl, hp3⟩), (fun e => hpe (List.map_eq_nil_iff.mp e)), (by rw [List.length_map]; have := hW.le; omega), fun H4 y k4 hh4 hy => ?_⟩
      obtain ⟨w, hw, rfl⟩ := List.mem_map.mp hy
      have hwd := hW.wd w hw
      have hwo := small_ok hwd.2.2
      have hk4 := k4 _ _ nkh hk3
      have k04 := k03.trans k4
      have l1 : w.length ≤ 8 := hwd.2.1
      have c1 := cut_ok hwo none (some 1)
      have c2 := cut_ok hwo (some 1) none
      have lc1 : (cutS w none (some 1)).length ≤ 8 := Nat.le_trans c1.2 l1
      have lc2 : (cutS w (some 1) none).length ≤ 8 := Nat.le_trans c2.2 l1
      have u1 := upper_ok hwo
      have u2 := upper_ok c1.1
      have lu2 : (Txt.upper (cutS w none (some 1))).length ≤ 8 := by have : (Txt.upper (cutS w none (some 1))).length = (cutS w none (some 1)).cps.size := u2.2; rw [this]; exact lc1
      have la : ("a" : Str).length = 1 := by decide +kernel
      have b9 : 9 ≤ sizeLine := by decide
      have b16 : 16 ≤ sizeLine := by decide
      have b8 : 8 ≤ 5592405 := by decide
      refine ⟨_, rfl, _, rfl, ⟨_, rfl⟩, w, rfl, rfl, by omega, _, rfl, 1, rfl, w, rfl, by omega, ⟨_, rfl⟩, _, rfl, rfl, by omega, _, rfl, 1, rfl, w, rfl, by omega, _, _, rfl, rfl, by omega, _, rfl, _, _, rfl, rfl, by omega, _, rfl, 1, rfl, w, rfl, by omega, (by show 5 ≤ sizeLine; decide), fun p hp => ?_⟩
      have ta := app_ok u2.1 c2.1
      have tb := app_ok hwo (ok_by (z := "a") (by decide +kernel))
      have all5 : ∀ v ∈ [V.str w, .str (Txt.upper w), .str (Txt.upper (cutS w none (some 1)) ++ cutS w (some 1) none), .str (w ++ "a"), .str (cutS w (some 1) none)], OkN 16 v := by
        intro v hv
        simp only [List.mem_cons, List.not_mem_nil, or_false] at hv
        have hs : ("a" : Str).cps.size = 1 := la
        have h8 : w.cps.size ≤ 8 := l1
        have h9 : (cutS w none (some 1)).cps.size ≤ 8 := lc1
        have h10 : (cutS w (some 1) none).cps.size ≤ 8 := lc2
        rcases hv with rfl | rfl | rfl | rfl | rfl
        · exact ⟨_, rfl, hwo, by omega⟩
        · exact ⟨_, rfl, u1.1, by rw [u1.2]; omega⟩
        · exact ⟨_, rfl, ta.1, by rw [ta.2, u2.2]; omega⟩
        · exact ⟨_, rfl, tb.1, by rw [tb.2]; omega⟩
        · exact ⟨_, rfl, c2.1, by omega⟩
      generalize exs : [V.str w, .str (Txt.upper w), .str (Txt.upper (cutS w none (some 1)) ++ cutS w (some 1) none), .str (w ++ "a"), .str (cutS w (some 1) none)] = xs at all5 ⊢
      have hxl : (5 : Int) = xs.length := by rw [← exs]; rfl
      have s5 := same_new (o := .lst xs) hp
      refine ⟨_, rfl, h, 5, _, rfl, hh4.same s5, by omega, by decide, by decide, fun H5 d k5 hh5 d0 d1 => ?_⟩
      obtain ⟨v, hv, hvm⟩ := mem_idx d0 d1 hxl
      obtain ⟨z, rfl, hz, hzs⟩ := all5 v hvm
      have npl : p ≠ h := hh4.new hp
      refine ⟨p, xs, d, _, rfl, rfl, .of (k5 _ _ npl upd_same), hv, ?_⟩
      have hk5 := k5 _ _ nkh (s5 _ _ hk4)
      have k05 := (k04.trans (Kee.same s5)).trans k5
      refine ⟨_, rfl, _, rfl, (by show 5 ≤ sizeLine; decide), fun p2 hp2 => ?_⟩
      have s6 := same_new (o := .lst [.str " ", .str " ", .str "  ", .str "", .str "-"]) hp2
      refine ⟨h, _, _, _, rfl, hh5.same s6, by omega, .inl ⟨p2, rfl, hh5.new hp2, upd_same⟩, by simp, by simp, fun H6 y k6 hh6 hy => ?_⟩
      obtain ⟨e, rfl, he, hes⟩ : OkN 2 y := by
        simp only [List.mem_cons, List.not_mem_nil, or_false] at hy
        rcases hy with rfl | rfl | rfl | rfl | rfl <;> exact ⟨_, rfl, ok_by (by decide +kernel), by decide +kernel⟩
      have te := app_ok hz he
      refine ⟨_, _, rfl, rfl, Nat.le_trans (show z.length + e.length ≤ 18 by have h1 : z.length = z.cps.size := rfl; have h2 : e.length = e.cps.size := rfl; omega) (by decide), ?_⟩
      exact ⟨_, _, rfl, te.1, by rw [te.2]; omega, (k05.trans (Kee.same s6)).trans k6, hh6, k6 _ _ nkh (s6 _ _ hk5)⟩
    rintro σ' H2 ⟨v6, z0, rfl, hz, hzs, k2, hh2, hk2⟩
    refine ⟨_, rfl, (by show 5 ≤ sizeLine; decide), fun p hp => ?_⟩
    have s3 := same_new (o := .lst [.int 0, .int 1, .int 3, .int 6, .int 12]) hp
    refine ⟨h, _, _, _, rfl, hh2.same s3, by omega, .inl ⟨p, rfl, hh2.new hp, upd_same⟩, by simp, by simp, fun H3 y k3 hh3 hy => ?_⟩
    obtain ⟨m, rfl, m12⟩ : ∃ m : Nat, y = .int (m : Nat) ∧ m ≤ 12 := by
      simp only [List.mem_cons, List.not_mem_nil, or_false] at hy
      rcases hy with rfl | rfl | rfl | rfl | rfl
      · exact ⟨0, rfl, by decide⟩
      · exact ⟨1, rfl, by decide⟩
      · exact ⟨3, rfl, by decide⟩
      · exact ⟨6, rfl, by decide⟩
      · exact ⟨12, rfl, by decide⟩
    refine ⟨m, rfl, by omega, by omega, ?_⟩
    rw [Int.toNat_natCast]
    have hkn : (gs.flatten.map V.str) ≠ [] := fun e => hG.flat_ne (List.map_eq_nil_iff.mp e)
    have hkl : (gs.flatten.map V.str).length ≤ 100000 := by rw [List.length_map]; omega
    have hst : (signsV signsT).length = 37 := by decide +kernel
    refine for_range (fun i σ H' => ∃ (v7 v8 : Option V) (z : Str), σ = [some (.ref h), some (.ref tl), some (.ref tp), some (.ref kl), v4, some (.str z), v6, v7, v8] ∧ Ok z ∧ z.cps.size ≤ 30 + 2 * i ∧ Kee h H H' ∧ HandAt (n + 5 + i * 5) H' h ∧ H' kl = some (.lst (gs.flatten.map V.str)))
      ⟨none, none, z0, rfl, hz, by omega, (k2.trans (Kee.same s3)).trans k3, hh3, k3 _ _ nkh (s3 _ _ hk2)⟩ ?_ ?_
    · rintro i σ H4 hi ⟨v7, v8, z, rfl, hz, hzs, k4, hh4, hk4⟩
      refine ⟨_, rfl, h, _, _, _, rfl, hh4, by omega, .inr (.inr ⟨signsT, rfl, rfl⟩), (fun e => by rw [e] at hst; cases hst), by rw [hst]; decide, fun H5 y k5 hh5 hy => ?_⟩
      obtain ⟨c, hc, rfl⟩ := mem_signs hy
      have hco : Ok (sg c) := fun d hd => by
        have : d = c := by simpa [sg] using hd
        rw [this]
        exact ok_by (z := signsT) (by decide +kernel) c hc
      have hk5 := k5 _ _ nkh hk4
      have k05 := k4.trans k5
      have known : ∀ {y : V}, y ∈ gs.flatten.map V.str → OkN 2 y := fun {y} hy => by
        obtain ⟨t, ht, rfl⟩ := List.mem_map.mp hy
        have := hG.let_ ht
        exact ⟨t, rfl, small_ok this.2.2, this.2.1⟩
      refine ⟨_, rfl, _, rfl, _, rfl, _, rfl, h, _, _, _, rfl, hh5, by omega, .inl ⟨kl, rfl, nkh, hk5⟩, hkn, hkl, fun H6 y1 k6 hh6 hy1 => ?_⟩
      have hk6 := k6 _ _ nkh hk5
      refine ⟨_, rfl, _, rfl, h, _, _, _, rfl, hh6, by omega, .inl ⟨kl, rfl, nkh, hk6⟩, hkn, hkl, fun H7 y2 k7 hh7 hy2 => ?_⟩
      have hk7 := k7 _ _ nkh hk6
      refine ⟨(by show 4 ≤ sizeLine; decide), fun p hp => ?_⟩
      have s7 := same_new (o := .lst [.str (sg c), y1, y2, .str " "]) hp
      refine ⟨h, _, _, _, rfl, hh7.same s7, by omega, .inl ⟨p, rfl, hh7.new hp, upd_same⟩, by simp, by simp, fun H8 y3 k8 hh8 hy3 => ?_⟩
      have hk8 := k8 _ _ nkh (s7 _ _ hk7)
      have k08 := (((k05.trans k6).trans k7).trans (Kee.same s7)).trans k8
      obtain ⟨t, rfl, ht, hts⟩ : OkN 2 y3 := by
        simp only [List.mem_cons, List.not_mem_nil, or_false] at hy3
        rcases hy3 with rfl | rfl | rfl | rfl
        · exact ⟨_, rfl, hco, by show 1 ≤ 2; decide⟩
        · exact known hy1
        · exact known hy2
        · exact ⟨_, rfl, ok_by (by decide +kernel), by decide +kernel⟩
      have hu := upper_ok ht
      have lt : t.length ≤ 5592405 := Nat.le_trans (show t.length ≤ 2 from hts) (by decide)
      refine ⟨_, rfl, _, rfl, _, rfl, ⟨_, rfl⟩, t, rfl, rfl, lt, _, rfl, (by show 3 ≤ sizeLine; decide), fun p2 hp2 => ?_⟩
      have s8 := same_new (o := .lst [.str t, .str (Txt.upper t), .str t]) hp2
      refine ⟨_, rfl, h, 3, _, rfl, hh8.same s8, by omega, by decide, by decide, fun H9 d k9 hh9 d0 d1 => ?_⟩
      obtain ⟨v, hv, hvm⟩ := mem_idx (xs := [.str t, .str (Txt.upper t), .str t]) d0 d1 rfl
      obtain ⟨u, rfl, huo, hus⟩ : OkN 2 v := by
        simp only [List.mem_cons, List.not_mem_nil, or_false] at hvm
        rcases hvm with rfl | rfl | rfl
        · exact ⟨_, rfl, ht, hts⟩
        · exact ⟨_, rfl, hu.1, by rw [hu.2]; exact hts⟩
        · exact ⟨_, rfl, ht, hts⟩
      refine ⟨p2, _, d, _, rfl, rfl, .of (k9 _ _ (hh8.new hp2) upd_same), hv, ?_⟩
      have ta := app_ok hz huo
      refine ⟨_, _, rfl, rfl, Nat.le_trans (show z.length + u.length ≤ 100 by have h1 : z.length = z.cps.size := rfl; have h2 : u.length = u.cps.size := rfl; omega) (by decide), ?_⟩
      exact ⟨_, _, z ++ u, rfl, ta.1, by rw [ta.2]; omega, (k08.trans (Kee.same s8)).trans k9, hh9.mono (by omega), k9 _ _ nkh (s8 _ _ hk8)⟩
    · rintro σ H4 ⟨v7, v8, z, rfl, hz, hzs, k4, hh4, hk4⟩
      exact ⟨_, rfl, q _ z k4 (hh4.mono (by omega)) hz (by omega)⟩
end
end K79
namespace K79
open PySem PySem.Spec PyProof.Rows L2
/-! letters exchanged within their groups, signs put in -/
theorem num_of {gs : List (List Str)} (nd : gs.flatten.Nodup) {i : Nat} {g : List Str} {t : Str} (hg : gs[i]? = some g) (ht : t ∈ g) : num gs t = some i := by
  obtain ⟨hi, eg⟩ := List.getElem?_eq_some_iff.mp hg
  have e : gs = gs.take i ++ (g :: gs.drop (i + 1)) := by
    rw [← eg, List.getElem_cons_drop hi, List.take_append_drop]
  have hn : t ∉ (gs.take i).flatten := fun q => by
    rw [e, List.flatten_append, List.nodup_append] at nd
    exact nd.2.2 t q t (by rw [List.flatten_cons]; exact List.mem_append_left _ ht) rfl
  have h1 := num_none hn
  have hl : (gs.take i).length = i := by rw [List.length_take]; omega
  unfold num at h1 ⊢
  rw [e, List.findIdx?_append, h1, List.findIdx?_cons, decide_eq_true ht, hl]
  simp
theorem mem_group {gs : List (List Str)} {t : Str} (h : t ∈ gs.flatten) : ∃ (i : Nat) (g : List Str), gs[i]? = some g ∧ t ∈ g := by
  obtain ⟨g, hg, ht⟩ := List.mem_flatten.mp h
  obtain ⟨i, hi⟩ := List.mem_iff_getElem?.mp hg
  exact ⟨i, g, hi, ht⟩
def nu1 (gs : List (List Str)) (c : Nat) : List Int := one (num gs) (sg c)
theorem lts_single {gs : List (List Str)} (h : ∀ t ∈ gs.flatten, t.cps.size ≠ 2) (z : Str) : lts gs z = (low z).flatMap (nu1 gs) := by
  unfold lts
  exact lets_one (fun t ht => num_none fun q => h t q ht) (low z)
theorem low_app (a b : Str) : low (a ++ b) = low a ++ low b := by
  unfold low
  rw [show (a ++ b).cps.toList = a.cps.toList ++ b.cps.toList from TL.tl_append a b, List.map_append]
theorem low_sg (c : Nat) : low (sg c) = [lo1 c] := rfl
theorem nu1_not {gs : List (List Str)} (hG : IsLets gs) {c : Nat} (h : smallC c = false) : nu1 gs c = [] := by
  unfold nu1 one
  rw [num_none fun q => ?_]
  · rfl
  · have := (hG.let_ q).2.2 c (by simp [sg])
    rw [h] at this
    cases this
theorem lo_up {c : Nat} (h : smallC c = true) : lo1 (up1 c) = c := by
  unfold smallC at h
  simp only [Bool.and_eq_true, decide_eq_true_eq] at h
  unfold up1 lo1
  rw [if_pos h]
  split <;> omega
theorem lo_lo {c : Nat} (h : smallC c = true) : lo1 c = c := by
  unfold smallC at h
  simp only [Bool.and_eq_true, decide_eq_true_eq] at h
  unfold lo1
  rw [if_neg (by omega)]
theorem lo_128 {c : Nat} (h : c < 128) : lo1 c < 128 := by
  unfold lo1
  split <;> omega
/-- a text of one sign -/
theorem of_size1 {t : Str} (h : t.cps.size = 1) : ∃ c, t = sg c := by
  obtain ⟨⟨l⟩⟩ := t
  have hl : l.length = 1 := h
  match l, hl with
  | [c], _ => exact ⟨c, rfl⟩
theorem upper_sg {c : Nat} (h : c < 128) : Txt.upper (sg c) = sg (up1 c) := by
  rw [upper_ascii (x := sg c) (fun d hd => by have : d = c := by simpa [sg] using hd
                                              rw [this]; exact h)]
  exact PySem.W.str_of_cps (by simp [sg])
theorem lower_sg {c : Nat} (h : c < 128) : Txt.lower (sg c) = sg (lo1 c) := by
  rw [lower_ascii (x := sg c) (fun d hd => by have : d = c := by simpa [sg] using hd
                                              rw [this]; exact h)]
  exact PySem.W.str_of_cps (by simp [sg])
theorem take_succ_str {z : Str} {i c : Nat} (h : z.cps[i]? = some c) : z.cps.toList.take (i + 1) = z.cps.toList.take i ++ [c] := by
  have e : z.cps.toList[i]? = some c := by simpa using h
  rw [List.take_add_one, e]
  rfl
/-- what stands for the letters of found behind i signs of z -/
structure ExSt (gs : List (List Str)) (two : Bool) (z found : Str) (i : Nat) : Prop where
  ok : Ok found
  sz : found.cps.size ≤ 2 * i
  same : two = true → found.cps.toList = z.cps.toList.take i
  lets_ : two = false → (low found).flatMap (nu1 gs) = ((low z).take i).flatMap (nu1 gs)
theorem ExSt.fin {gs : List (List Str)} {two : Bool} {z found : Str} (s : ExSt gs two z found z.cps.size) (h2 : two = false → ∀ t ∈ gs.flatten, t.cps.size ≠ 2) : lts gs found = lts gs z := by
  cases two with
  | true =>
    have := s.same rfl
    rw [List.take_of_length_le (by rw [Array.length_toList]; exact Nat.le_refl _)] at this
    rw [PySem.W.str_of_cps this]
  | false =>
    rw [lts_single (h2 rfl), lts_single (h2 rfl), s.lets_ rfl, List.take_of_length_le]
    unfold low
    rw [List.length_map, Array.length_toList]
    exact Nat.le_refl _
theorem ExSt.step {gs : List (List Str)} {two : Bool} {z found s' e : Str} {i c : Nat} (s : ExSt gs two z found i) (hc : z.cps[i]? = some c) (hs : Ok s') (h1 : s'.cps.size = 1) (he : Ok e) (h2 : e.cps.size ≤ 1)
    (hk : two = true → s' = sg c ∧ e.cps.toList = []) (hl : two = false → (low s').flatMap (nu1 gs) = nu1 gs (lo1 c) ∧ (low e).flatMap (nu1 gs) = []) : ExSt gs two z (found ++ s' ++ e) (i + 1) := by
  have a1 := app_ok s.ok hs
  have a2 := app_ok a1.1 he
  refine ⟨a2.1, by rw [a2.2, a1.2]; have := s.sz; omega, fun h => ?_, fun h => ?_⟩
  · obtain ⟨e1, e2⟩ := hk h
    show TL.tl (found ++ s' ++ e) = _
    rw [TL.tl_append, TL.tl_append, take_succ_str hc, e1]
    show found.cps.toList ++ (sg c).cps.toList ++ e.cps.toList = _
    rw [s.same h, e2, List.append_nil]
    rfl
  · obtain ⟨e1, e2⟩ := hl h
    have et : (low z).take (i + 1) = (low z).take i ++ [lo1 c] := by
      unfold low
      rw [← List.map_take, take_succ_str hc, List.map_append, List.map_take]
      rfl
    rw [low_app, low_app, List.flatMap_append, List.flatMap_append, s.lets_ h, e1, e2, List.append_nil, et, List.flatMap_append]
    simp
end K79
namespace K79
open PySem PySem.Spec PyProof.Rows L2
theorem mem_putK {kvs : List (Key × V)} {k : Key} {v : V} {kv : Key × V} (h : kv ∈ putK kvs k v) : kv = (k, v) ∨ kv ∈ kvs := by
  unfold putK at h
  split at h
  · obtain ⟨x, hx, e⟩ := List.mem_map.mp h
    by_cases q : x.1 = k
    · rw [if_pos q] at e
      exact .inl (by rw [← e, q])
    · rw [if_neg q] at e
      rw [← e]
      exact .inr hx
  · rcases List.mem_append.mp h with q | q
    · exact .inr q
    · exact .inl (List.mem_singleton.mp q)
theorem mem_valV {kvs : List (Key × V)} {k : Key} {v : V} (h : valV kvs k = some v) : (k, v) ∈ kvs := by
  unfold valV at h
  cases e : kvs.find? fun kv => decide (kv.1 = k) with
  | none => rw [e] at h; cases h
  | some x =>
    rw [e] at h
    have h1 := List.mem_of_find?_eq_some e
    have h2' := List.find?_some e
    have h2 : x.1 = k := by simpa using h2'
    have h3 : x.2 = v := Option.some.inj h
    rw [← h2, ← h3]
    exact h1
/-- letters of one sign of the group of t -/
def Mates (gs : List (List Str)) (t : Str) (ms : List Str) : Prop := ms.length ≤ 8 ∧ ∀ m ∈ ms, m.cps.size = 1 ∧ IsLet m ∧ num gs m = num gs t
/-- the dict of mates -/
def MO (gs : List (List Str)) (H : Hp) (h : Addr) (kvs : List (Key × V)) : Prop := ∀ kv ∈ kvs, ∃ (t : Str) (a : Addr) (ms : List Str), kv = (.inr t, .ref a) ∧ t ∈ gs.flatten ∧ a ≠ h ∧ H a = some (.lst (ms.map V.str)) ∧ Mates gs t ms
theorem MO.kee {gs : List (List Str)} {H H' : Hp} {h : Addr} {kvs : List (Key × V)} (m : MO gs H h kvs) (k : Kee h H H') : MO gs H' h kvs := fun kv hkv => by
  obtain ⟨t, a, ms, e, h1, h2, h3, h4⟩ := m kv hkv
  exact ⟨t, a, ms, e, h1, h2, k _ _ h2 h3, h4⟩
theorem low_e : low ("" : Str) = [] := by decide +kernel
theorem mul_bool (x : Str) (b : Bool) : MulOk x (if b = true then 1 else 0) ∧ Txt.mul x (if b = true then 1 else 0) = if b = true then x else "" := by
  cases b with
  | true => exact ⟨⟨by decide, fun _ h => by simp at h, fun _ h => by simp at h⟩, by unfold Txt.mul; simp⟩
  | false => exact ⟨⟨by decide, fun h => absurd (by decide) h, fun h => absurd (by decide) h⟩, by unfold Txt.mul; simp; rfl⟩
theorem ends_ok {gs : List (List Str)} (hG : IsLets gs) {y : V} (h : y ∈ [V.str "", .str "", .str "", .str "!", .str "_"]) : ∃ e : Str, y = .str e ∧ Ok e ∧ e.cps.size ≤ 1 ∧ (low e).flatMap (nu1 gs) = [] := by
  have e0 : (low ("" : Str)) = [] := by decide +kernel
  have e1 : (low ("!" : Str)) = [33] := by decide +kernel
  have e2 : (low ("_" : Str)) = [95] := by decide +kernel
  simp only [List.mem_cons, List.not_mem_nil, or_false] at h
  rcases h with rfl | rfl | rfl | rfl | rfl
  · exact ⟨_, rfl, ok_by (by decide +kernel), by decide +kernel, by rw [e0]; rfl⟩
  · exact ⟨_, rfl, ok_by (by decide +kernel), by decide +kernel, by rw [e0]; rfl⟩
  · exact ⟨_, rfl, ok_by (by decide +kernel), by decide +kernel, by rw [e0]; rfl⟩
  · exact ⟨_, rfl, ok_by (by decide +kernel), by decide +kernel, by rw [e1, List.flatMap_cons, nu1_not hG (by decide)]; rfl⟩
  · exact ⟨_, rfl, ok_by (by decide +kernel), by decide +kernel, by rw [e2, List.flatMap_cons, nu1_not hG (by decide)]; rfl⟩
/-- a mate in place of a sign -/
def Fits (gs : List (List Str)) (c : Nat) (s : Str) : Prop := Ok s ∧ s.cps.size = 1 ∧ (low s).flatMap (nu1 gs) = nu1 gs (lo1 c)
theorem fits_self {gs : List (List Str)} {c : Nat} (h : Ok (sg c)) : Fits gs c (sg c) := ⟨h, rfl, by rw [low_sg]; simp⟩
theorem fits_mate {gs : List (List Str)} {c : Nat} {m : Str} (h : m.cps.size = 1 ∧ IsLet m ∧ num gs m = num gs (sg (lo1 c))) : Fits gs c m ∧ Fits gs c (Txt.upper m) := by
  obtain ⟨h1, h2, h3⟩ := h
  obtain ⟨d, rfl⟩ := of_size1 h1
  have hd : smallC d = true := h2.2.2 d (by simp [sg])
  have hk : Ok (sg d) := small_ok h2.2.2
  have hn : nu1 gs d = nu1 gs (lo1 c) := by unfold nu1 one; rw [h3]
  have hu := upper_ok hk
  refine ⟨⟨hk, rfl, by rw [low_sg, lo_lo hd]; simpa using hn⟩, ⟨hu.1, by rw [hu.2]; rfl, ?_⟩⟩
  rw [upper_sg (hk d (by simp [sg])).1, low_sg, lo_up hd]
  simpa using hn
section
variable {P : Program} {w : World} {K : PySem.W.Frag} {mg : Str → Option Value} {base : Heap} {f : Addr} {fd : FuncData} {C Pt : Addr}
def spExch : Sp := fun vs H Q _ => ∃ (h tl : Addr) (n : Nat) (gs : List (List Str)) (z : Str), vs = [.ref h, .ref tl, .str z] ∧ HandAt n H h ∧ n ≤ 100000000 ∧ TupG H tl gs ∧ IsLets gs ∧ Ok z ∧ z.cps.size ≤ 100 ∧
  ∀ H' z', Kee h H H' → HandAt (n + 1000) H' h → Ok z' → z'.cps.size ≤ 200 → lts gs z' = lts gs z → Q (.str z') H'
abbrev exN : List Str := ["_law_hand_here", "_law_letters_here", "_law_text_here", "_law_mates", "_law_group", "_law_one", "_law_twos", "_law_found", "_law_at", "_law_sign", "_law_near", "_law_some", "_law_other"]
theorem scExch : FnScope exN ["_law_hand_here", "_law_letters_here", "_law_text_here"] (defScope sExchanged) := ⟨rfl, rfl, rfl, by decide +kernel, rfl, by decide +kernel, by decide +kernel⟩
theorem ok_exch (F : FunD K "_law_exchanged" "_law_exchanged" (defArgs sExchanged) (defBody sExchanged) (defScope sExchanged) [] [] f fd) (T : Tx K mg C) (gT : Kn P w K mg base 1 "_law_take" ["_law_hand_here", "_law_many"] spTake) (gP : Kn P w K mg base 2 "_law_pick" ["_law_hand_here", "_law_some"] spPick) :
    FnOk P w K mg base CX0 3 f fd ["_law_hand_here", "_law_letters_here", "_law_text_here"] spExch := by
  refine ok0 F scExch (fun vs H Q E h => ?_) (fun cdv A outer s H vs Q E hr h => ?_)
  · obtain ⟨h, tl, n, gs, z, rfl, _⟩ := h
    rfl
  · obtain ⟨h, tl, n, gs, z, rfl, hh, hn, hT, hG, hz, hzs, q⟩ := h
    refine ⟨_, pss_cons (ps_set (i := 3) scExch.nd rfl (Or.inl rfl) pe_dnewK)
      (pss_cons (ps_for PassesOwn.never rfl (pi_tup (pv 1)) (pg_name (i := 4) scExch.nd rfl (Or.inl rfl)) (pss_one (ps_for PassesOwn.never rfl (pi_tup (pv 4)) (pg_name (i := 5) scExch.nd rfl (Or.inl rfl))
        (pss_one (ps_dput (hu_of hr) (pv 3) (pv 5) (pe_lc (own := [("_law_other", 12)]) (g := gName 12) rfl scExch.nd (pi_tup (pv 4)) (blkOk_by (N := exN) (sc := defScope sExchanged) (by decide +kernel)) (fun _ _ _ _ _ => pg_name (i := 12) scExch.nd rfl (Or.inl rfl))
          (fun _ _ _ _ _ => pts_one (pt_cmpR op_eq (pe_callB call_len_str (by rfl) (T.f 2) PySem.boot_len (pa_cons (pv 12) pa_nil)) pe_int (nomark _))) (fun _ _ _ _ _ => pv 12)) rfl)))))
      (pss_cons (ps_lock (ps_setLc (i := 6) (own := [("_law_one", 5)]) (g := gName 5) rfl scExch.nd rfl rfl (sw_true rfl rfl rfl (by decide +kernel)) (pi_keys (pv 3)) (blkOk_by (N := exN) (sc := defScope sExchanged) (by decide +kernel)) (fun _ _ _ _ _ => pg_name (i := 5) scExch.nd rfl (Or.inl rfl))
          (fun _ _ _ _ _ => pts_one (pt_cmpR op_eq (pe_callB call_len_str (by rfl) (T.f 2) PySem.boot_len (pa_cons (pv 5) pa_nil)) pe_int (nomark _))) (fun _ _ _ _ _ => pv 5)))
      (pss_cons (ps_set (i := 7) scExch.nd rfl (Or.inl rfl) pe_str)
      (pss_cons (ps_for PassesOwn.never rfl (pi_enS (by rfl) (T.f 7) (pa_cons (pv 2) pa_nil)) (pg_tup rfl (pgs_cons (pg_name (i := 8) scExch.nd rfl (Or.inl rfl)) (pgs_cons (pg_name (i := 9) scExch.nd rfl (Or.inl rfl)) pgs_nil)))
        (pss_cons (ps_set (i := 10) scExch.nd rfl (Or.inl rfl) (pe_lower (pe_slice sl_str (pv 2) (po_some (pe_callB (call_max2 rfl) (by rfl) (T.f 13) (by decide +kernel) (pa_cons pe_int (pa_cons (pe_op op_sub (pv 8) pe_int) pa_nil)))) (po_some (pe_op op_add (pv 8) pe_int)))))
        (pss_cons (ps_set (i := 11) scExch.nd rfl (Or.inl rfl) (pe_dget2 (hu_of hr) (pv 3) (pe_lower (pv 9)) (pe_lst pa_nil) ⟨rfl, rfl, rfl, rfl⟩))
        (C8.pss_cut (ps_if (PW.pt (pw_and (pt_cmpR (op_eqD hr.units) (pv 6) (pe_lst pa_nil) (nomark _)) (pw_and (pt_cmpR (op_neD hr.units) (pv 11) (pe_lst pa_nil) (nomark _)) (pw_and1 (pt_cmpR op_eq (pe_k gT hr (by decide) (pa_cons (pv 0) (pa_cons pe_int pa_nil))) pe_int (nomark _))))))
          (pss_one (ps_set (i := 9) scExch.nd rfl (Or.inl rfl) (pe_k gP hr (Nat.le_refl _) (pa_cons (pv 0) (pa_cons (pe_lst (pa_cons (pe_k gP hr (Nat.le_refl _) (pa_cons (pv 0) (pa_cons (pv 11) pa_nil))) (pa_cons (pe_upper (pe_k gP hr (Nat.le_refl _) (pa_cons (pv 0) (pa_cons (pv 11) pa_nil)))) pa_nil))) pa_nil))))) pss_nil)
        (pss_one (ps_set (i := 7) scExch.nd rfl (Or.inl rfl) (pe_op op_add_str (pe_op op_add_str (pv 7) (pv 9)) (pe_op op_mulS (pe_k gP hr (Nat.le_refl _) (pa_cons (pv 0) (pa_cons (pe_lst (pa_cons pe_str (pa_cons pe_str (pa_cons pe_str (pa_cons pe_str (pa_cons pe_str pa_nil)))))) pa_nil)))
          (pe_callTy call_int1 (by rfl) (T.f 10) (by decide +kernel) (pa_cons (pe_and (pe_cmpR op_notIn_sign pe_str (pv 10) rfl) (pe_one (pe_cmpR (op_eqD hr.units) (pv 6) (pe_lst pa_nil) (nomark _)))) pa_nil))))))))))
      (pss_one (ps_ret (pv 7))))))), ?_⟩
    intro d hd
    have s1 := same_new (o := .dK []) hd
    have hd1 : upd H d (.dK []) d = some (.dK []) := upd_same
    have few := hG.few
    obtain ⟨as, hA, hal, hgr⟩ := id hT
    have hlen : (as.map V.ref).length = gs.length := by rw [List.length_map]; exact hal
    -- the mates
    refine ⟨_, rfl, tl, rfl, ⟨_, .inl (.inl (s1 _ _ hA))⟩, for_it (walk_tup (K := K) (a := tl) (xs := as.map V.ref))
      (fun i σ H' => ∃ v4 v5 kvs, σ = [some (.ref h), some (.ref tl), some (.str z), some (.ref d), v4, v5, none, none, none, none, none, none, none] ∧ Same H H' ∧ H' d = some (.dK kvs) ∧ MO gs H' h kvs ∧ (∀ t ∈ (gs.take i).flatten, (valV kvs (.inr t)).isSome = true) ∧ kvs.length ≤ (gs.take i).flatten.length)
      ⟨none, none, [], rfl, s1, hd1, fun kv hkv => by simp at hkv, fun t ht => by simp at ht, Nat.zero_le _⟩ ?_ ?_ ?_⟩
    · rintro i σ H' _ ⟨v4, v5, kvs, rfl, k1, _⟩
      exact .inl (.inl (k1 _ _ hA))
    · rintro i x σ H1 H2 hi ⟨v4, v5, kvs, rfl, k1, hd2, hm, hk, hl⟩ ⟨rfl, hx⟩
      obtain ⟨a, ha, rfl⟩ := map_get hx
      have hig : i < gs.length := by rw [← hlen]; exact hi
      obtain ⟨g, eg⟩ : ∃ g, gs[i]? = some g := ⟨gs[i], by simp [hig]⟩
      have hga : H a = some (.tup (g.map V.str)) := hgr i a g ha eg
      have fl : (gs.take (i + 1)).flatten = (gs.take i).flatten ++ g := take_flat eg
      have fle := take_le (gs := gs) (i + 1)
      rw [fl, List.length_append] at fle
      have hgg := hG.gr g (List.mem_of_getElem? eg)
      refine ⟨_, rfl, a, rfl, ⟨_, .inl (.inl (k1 _ _ hga))⟩, for_it (walk_tup (K := K) (a := a) (xs := g.map V.str))
        (fun j σ H' => ∃ v5 kvs, σ = [some (.ref h), some (.ref tl), some (.str z), some (.ref d), some (.ref a), v5, none, none, none, none, none, none, none] ∧ Same H H' ∧ H' d = some (.dK kvs) ∧ MO gs H' h kvs ∧ (∀ t ∈ (gs.take i).flatten ++ g.take j, (valV kvs (.inr t)).isSome = true) ∧ kvs.length ≤ (gs.take i).flatten.length + j)
        ⟨v5, kvs, rfl, k1, hd2, hm, by simpa using hk, hl⟩ ?_ ?_ ?_⟩
      · rintro j σ H' _ ⟨v5, kvs, rfl, k2, _⟩
        exact .inl (.inl (k2 _ _ hga))
      · rintro j x σ H3 H4 hj ⟨v5, kvs, rfl, k3, hd3, hm3, hk3, hl3⟩ ⟨rfl, hx⟩
        obtain ⟨t, ht, rfl⟩ := map_get hx
        rw [List.length_map] at hj
        have htg := List.mem_of_getElem? ht
        refine ⟨_, rfl, a, rfl, ⟨_, .inl (.inl (k3 _ _ hga))⟩, fun D hD => ?_⟩
        refine lc_it (walk_tup (K := K) (a := a) (xs := g.map V.str)) (fun m H' => Same H4 H' ∧ H' D = some (.lst (((g.take m).filter fun t => decide (t.cps.size = 1)).map V.str)))
          ⟨same_new hD, by rw [upd_same]; rfl⟩ (fun m H' _ ⟨s, _⟩ => .inl (.inl (s _ _ (k3 _ _ hga)))) ?_ ?_
        · rintro m x H5 H6 hm' ⟨s5, hD5⟩ ⟨rfl, hx5⟩
          obtain ⟨o, ho, rfl⟩ := map_get hx5
          have hol := hgg.2.2 o (List.mem_of_getElem? ho)
          have et : g.take (m + 1) = g.take m ++ [o] := by rw [List.take_add_one, ho]; rfl
          have h2 := hol.2.1
          have hlo : o.length = o.cps.size := rfl
          refine ⟨rfl, _, rfl, o, rfl, Nat.le_trans h2 (by decide), rfl, _, rfl, ?_⟩
          by_cases h1 : o.cps.size = 1
          · have e1 : decide (V.int ((o.length : Nat) : Int) = V.int 1) = true := decide_eq_true (by rw [hlo, h1]; rfl)
            rw [e1]
            refine iteT ⟨_, rfl, _, hD5, ?_, fun b oo e => ?_, ?_⟩
            · rw [List.length_map]
              refine Nat.lt_of_le_of_lt (List.length_filter_le _ _) ?_
              rw [List.length_take]
              exact Nat.lt_of_le_of_lt (show min m g.length ≤ 8 by have := hgg.2.1; omega) (by decide)
            · rw [upd_ne (ne_of_none e hD)]
              exact s5 _ _ e
            · rw [upd_same, et, List.filter_append, List.map_append]
              simp [h1]
          · have e1 : decide (V.int ((o.length : Nat) : Int) = V.int 1) = false := decide_eq_false fun q => h1 (by rw [hlo] at q; have := V.int.inj q; omega)
            rw [e1]
            refine iteF ⟨s5, ?_⟩
            rw [hD5, et, List.filter_append]
            simp [h1]
        · rintro H5 ⟨s5, hD5⟩
          rw [List.length_map, List.take_length] at hD5
          have hd5 := s5 _ _ hd3
          refine ⟨_, rfl, _, rfl, d, _, rfl, DPut.k (k := .inr t) hd5 (Nat.lt_of_le_of_lt (show kvs.length ≤ 320 by omega) (by decide)), ?_⟩
          have ndD : d ≠ D := ne_of_none hd3 hD
          have nDh : D ≠ h := (hh.same k3).new hD
          have ndl : ∀ b o, H b = some o → b ≠ d := fun b o e => ne_of_none e hd
          have atl : ∀ b xs, H5 b = some (.lst xs) → upd H5 d (.dK (putK kvs (.inr t) (.ref D))) b = some (.lst xs) := fun b xs e => by rw [upd_ne (ne_of e hd5 (by intro z; cases z))]; exact e
          refine ⟨_, putK kvs (.inr t) (.ref D), rfl, fun b o e => ?_, upd_same, fun kv hkv => ?_, fun t' ht' => ?_, ?_⟩
          · rw [upd_ne (ndl b o e)]
            exact s5 _ _ (k3 _ _ e)
          · rcases mem_putK hkv with e | e
            · refine ⟨t, D, _, e, List.mem_flatten.mpr ⟨g, List.mem_of_getElem? eg, htg⟩, nDh, atl _ _ hD5, Nat.le_trans (List.length_filter_le _ _) hgg.2.1, fun m hm => ?_⟩
              obtain ⟨hmg, hm1⟩ := List.mem_filter.mp hm
              exact ⟨of_decide_eq_true hm1, hgg.2.2 m hmg, by rw [num_of hG.nd eg hmg, num_of hG.nd eg htg]⟩
            · obtain ⟨t2, a2, ms, e2, h1, h2, h3, h4⟩ := hm3 kv e
              exact ⟨t2, a2, ms, e2, h1, h2, atl _ _ (s5 _ _ h3), h4⟩
          · rw [valV_put]
            by_cases q : t' = t
            · rw [if_pos (congrArg Sum.inr q)]; rfl
            · rw [if_neg fun z => q (Sum.inr.inj z)]
              refine hk3 t' ?_
              have et : g.take (j + 1) = g.take j ++ [t] := by rw [List.take_add_one, ht]; rfl
              rw [et, ← List.append_assoc] at ht'
              rcases List.mem_append.mp ht' with z | z
              · exact z
              · exact absurd (List.mem_singleton.mp z) q
          · have := length_putK kvs (Sum.inr t) (V.ref D)
            omega
      · rintro σ H3 ⟨v5, kvs, rfl, k3, hd3, hm3, hk3, hl3⟩
        rw [List.length_map] at hk3 hl3
        rw [List.take_length] at hk3
        exact ⟨_, v5, kvs, rfl, k3, hd3, hm3, by rw [fl]; exact hk3, by rw [fl, List.length_append]; exact hl3⟩
    rintro σ H1 ⟨v4, v5, kvs, rfl, k1, hd1, hm1, hk1, hl1⟩
    rw [hlen, List.take_length] at hk1 hl1
    -- twos
    refine ⟨d, .dK kvs, hd1, trivial, fun od => ⟨_, rfl, d, od, rfl, .inl ⟨kvs, upd_same, fun D hD => ?_⟩⟩⟩
    have nDd : D ≠ d := fun e => by rw [e, upd_same] at hD; cases hD
    have hD1 : H1 D = none := by rw [upd_ne nDd] at hD; exact hD
    refine lc_it (walk_keys (d := d) (o := od) (kvs := kvs)) (fun m H' => ∃ ts : List Str, Same (upd H1 d (.frz od (.dK kvs))) H' ∧ H' D = some (.lst (ts.map V.str)) ∧ ts.length ≤ m ∧ (∀ t ∈ ts, Asc t) ∧ ∀ kv ∈ kvs.take m, ∀ t : Str, kv.1 = .inr t → t.cps.size = 2 → ts ≠ [])
      ⟨[], same_new hD, upd_same, Nat.le_refl _, fun t ht => by simp at ht, fun kv hkv => by simp at hkv⟩ (fun m H' _ ⟨ts, s, _⟩ => s _ _ upd_same) ?_ ?_
    · rintro m x H5 H6 hm' ⟨ts, s5, hD5, htl, hta, htw⟩ ⟨rfl, k, v, hkv, rfl⟩
      obtain ⟨t, a, ms, e, htf, _⟩ := hm1 _ (List.mem_of_getElem? hkv)
      cases e
      have hol := hG.let_ htf
      have et : kvs.take (m + 1) = kvs.take m ++ [(.inr t, .ref a)] := by rw [List.take_add_one, hkv]; rfl
      have h2 := hol.2.1
      have hlo : t.length = t.cps.size := rfl
      refine ⟨rfl, _, rfl, t, rfl, Nat.le_trans h2 (by decide), rfl, _, rfl, ?_⟩
      by_cases h1 : t.cps.size = 2
      · have e1 : decide (V.int ((t.length : Nat) : Int) = V.int 2) = true := decide_eq_true (by rw [hlo, h1]; rfl)
        rw [e1]
        refine iteT ⟨_, rfl, _, hD5, ?_, ts ++ [t], fun b oo e => ?_, by rw [upd_same, List.map_append]; rfl, by rw [List.length_append, List.length_singleton]; omega, fun y hy => ?_, fun _ _ _ _ _ => by simp⟩
        · rw [List.length_map]
          exact Nat.lt_of_le_of_lt (show ts.length ≤ 320 by omega) (by decide)
        · rw [upd_ne (ne_of_none e hD)]
          exact s5 _ _ e
        · rcases List.mem_append.mp hy with z | z
          · exact hta y z
          · rw [List.mem_singleton.mp z]; exact let_asc hol
      · have e1 : decide (V.int ((t.length : Nat) : Int) = V.int 2) = false := decide_eq_false fun q => h1 (by rw [hlo] at q; have := V.int.inj q; omega)
        rw [e1]
        refine iteF ⟨ts, s5, hD5, by omega, hta, fun kv hkv2 t2 e2 h2' => ?_⟩
        rw [et] at hkv2
        rcases List.mem_append.mp hkv2 with z | z
        · exact htw kv z t2 e2 h2'
        · rw [List.mem_singleton.mp z] at e2
          cases e2
          exact absurd h2' h1
    rintro H5 ⟨ts, s5, hD5, htl, hta, htw⟩
    rw [List.take_length] at htw
    refine ⟨s5 _ _ upd_same, ?_⟩
    have s6 : Same H1 (upd H5 d (.dK kvs)) := fun b o e => by
      by_cases q : b = d
      · subst q
        rw [hd1] at e
        cases e
        exact upd_same
      · rw [upd_ne q]
        exact s5 _ _ ((upd_ne q).trans e)
    have hD6 : upd H5 d (.dK kvs) D = some (.lst (ts.map V.str)) := (upd_ne nDd).trans hD5
    have hd6 := s6 _ _ hd1
    have k6 := k1.trans s6
    have nDh : D ≠ h := (hh.same k1).new hD1
    have ndh : d ≠ h := (hh.same k1).ne hd1 fun xs z => by cases z
    have hm6 : MO gs (upd H5 d (.dK kvs)) h kvs := hm1.kee (Kee.same s6)
    have two0 : ts = [] → ∀ t ∈ gs.flatten, t.cps.size ≠ 2 := fun e t ht h2 => by
      cases ev : valV kvs (.inr t) with
      | none => have := hk1 t ht; rw [ev] at this; cases this
      | some v => exact htw _ (mem_valV ev) t rfl h2 e
    clear hm1 s5 hD5 htw hk1 hd1 k1 s6 hD hD1 s1
    generalize upd H5 d (.dK kvs) = H6 at hD6 hd6 k6 hm6 ⊢
    have dpt : ∀ H', H' D = some (.lst (ts.map V.str)) → Dp K H' (.ref D) (.list (ts.map .str)) := fun H' e => .lst (.of e) (dp_strs ts)
    have eqt : PyData.eqv (.list (ts.map .str)) (.list []) = decide (ts = []) := by
      rw [PyData.eqv]
      exact eqv_strs ts []
    refine ⟨_, rfl, z, rfl, for_it (walk_enS (z := z))
      (fun i σ H' => ∃ v8 v9 v10 v11 found, σ = [some (.ref h), some (.ref tl), some (.str z), some (.ref d), v4, v5, some (.ref D), some (.str found), v8, v9, v10, v11, none] ∧ Kee h H H' ∧ HandAt (n + i * 6) H' h ∧ H' d = some (.dK kvs) ∧ MO gs H' h kvs ∧ H' D = some (.lst (ts.map V.str)) ∧ ExSt gs (!decide (ts = [])) z found i)
      ⟨none, none, none, none, "", rfl, Kee.same k6, (hh.same k6).mono (by omega), hd6, hm6, hD6, ⟨ok_by (by decide +kernel), by decide +kernel, fun _ => tl_e, fun _ => by rw [low_e]; rfl⟩⟩ (fun _ _ _ _ _ => trivial) ?_ ?_⟩
    · rintro i x σ H7 H8 hi ⟨v8, v9, v10, v11, found, rfl, k7, hh7, hd7, hm7, hD7, ex⟩ ⟨T1, y1, y2, rfl, hT1, rfl, ey1, ey2⟩
      cases ey1
      obtain ⟨c, hc, rfl⟩ : ∃ c, z.cps[i]? = some c ∧ y2 = .str (sg c) := by
        have ey2 : (z.cps[i]?).map (fun c => V.str ⟨#[c]⟩) = some y2 := ey2
        cases e : z.cps[i]? with
        | none => rw [e] at ey2; cases ey2
        | some c => rw [e] at ey2; exact ⟨c, rfl, (Option.some.inj ey2).symm⟩
      have hcz := hz c (cp_mem hc)
      have hco : Ok (sg c) := fun d hd => by
        have : d = c := by simpa [sg] using hd
        rw [this]; exact hcz
      have s8 := same_new (o := .tup [.int (i : Nat), .str (sg c)]) hT1
      have k8 := k7.trans (Kee.same (h := h) s8)
      have hh8 := hh7.same s8
      have hd8 := s8 _ _ hd7
      have hm8 := hm7.kee (Kee.same (h := h) s8)
      have hD8 := s8 _ _ hD7
      refine ⟨T1, _, rfl, .inl (.inl upd_same), rfl, _, _, rfl, _, _, rfl, rfl, ?_⟩
      show tSeq _ _ _ _ (upd H7 T1 (.tup [.int (i : Nat), .str (sg c)]))
      generalize upd H7 T1 (.tup [.int (i : Nat), .str (sg c)]) = H8 at k8 hh8 hd8 hm8 hD8 ⊢
      clear s8 k7 hh7 hd7 hm7 hD7
      have lz : z.length = z.cps.size := rfl
      refine ⟨_, rfl, _, rfl, _, _, rfl, rfl, _, _, rfl, _, rfl, _, rfl, _, _, rfl, rfl, _, rfl, z, rfl, (by rw [lz]; exact Nat.le_trans hzs (by decide)), ⟨_, rfl⟩, _, rfl, rfl, Nat.le_trans (cut_ok hz _ _).2 (Nat.le_trans hzs (by decide)), ?_⟩
      generalize Txt.lower (cutS z _ _) = near
      -- some
      refine ⟨_, rfl, d, rfl, .inl ⟨kvs, .inl hd8⟩, _, rfl, ⟨_, rfl⟩, sg c, rfl, rfl, (by show 1 ≤ 5592405; decide), Nat.zero_le _, fun p hp => ?_⟩
      rw [lower_sg hcz.1]
      have s9 := same_new (o := .lst []) hp
      have np : p ≠ h := hh8.new hp
      have hp9 : upd H8 p (.lst []) p = some (.lst (([] : List Str).map V.str)) := upd_same
      have k9 := k8.trans (Kee.same (h := h) s9)
      have hh9 := hh8.same s9
      have hd9 := s9 _ _ hd8
      have hm9 := hm8.kee (Kee.same (h := h) s9)
      have hD9 := s9 _ _ hD8
      generalize upd H8 p (.lst []) = H9 at hp9 k9 hh9 hd9 hm9 hD9 ⊢
      clear s9 k8 hh8 hd8 hm8 hD8
      refine ⟨_, DGet.k (k := .inr (sg (lo1 c))) hd9, ?_⟩
      obtain ⟨s0, ms, es, ns, hs, hms⟩ : ∃ (s0 : Addr) (ms : List Str), (valV kvs (.inr (sg (lo1 c)))).getD (.ref p) = .ref s0 ∧ s0 ≠ h ∧ H9 s0 = some (.lst (ms.map V.str)) ∧ Mates gs (sg (lo1 c)) ms := by
        cases ev : valV kvs (.inr (sg (lo1 c))) with
        | none => exact ⟨p, [], rfl, np, hp9, Nat.zero_le _, fun m hm => by simp at hm⟩
        | some v =>
          obtain ⟨t, a, ms, e, _, h2, h3, h4⟩ := hm9 _ (mem_valV ev)
          cases e
          exact ⟨a, ms, rfl, h2, h3, h4⟩
      rw [es]
      have asm : ∀ m ∈ ms, Asc m := fun m hm => let_asc (hms.2 m hm).2.1
      have eqm : PyData.eqv (.list (ms.map .str)) (.list []) = decide (ms = []) := by
        rw [PyData.eqv]
        exact eqv_strs ms []
      refine ⟨fun σ' H' => ∃ s', σ' = [some (.ref h), some (.ref tl), some (.str z), some (.ref d), v4, v5, some (.ref D), some (.str found), some (.int (i : Nat)), some (.str s'), some (.str near), some (.ref s0), none] ∧ Fits gs c s' ∧ (ts ≠ [] → s' = sg c) ∧ Kee h H H' ∧ HandAt (n + i * 6 + 4) H' h ∧ H' d = some (.dK kvs) ∧ MO gs H' h kvs ∧ H' D = some (.lst (ts.map V.str)), ?_, ?_⟩
      · have skip : ∀ H' m, Kee h H9 H' → HandAt m H' h → m ≤ n + i * 6 + 4 → ∃ s', [some (.ref h), some (.ref tl), some (.str z), some (.ref d), v4, v5, some (.ref D), some (.str found), some (.int (i : Nat)), some (.str (sg c)), some (.str near), some (.ref s0), none] = [some (.ref h), some (.ref tl), some (.str z), some (.ref d), v4, v5, some (.ref D), some (.str found), some (.int (i : Nat)), some (.str s'), some (.str near), some (.ref s0), none] ∧ Fits gs c s' ∧ (ts ≠ [] → s' = sg c) ∧ Kee h H H' ∧ HandAt (n + i * 6 + 4) H' h ∧ H' d = some (.dK kvs) ∧ MO gs H' h kvs ∧ H' D = some (.lst (ts.map V.str)) :=
          fun H' m a b l => ⟨sg c, rfl, fits_self hco, fun _ => rfl, k9.trans a, b.mono l, a _ _ ndh hd9, hm9.kee a, a _ _ nDh hD9⟩
        refine ⟨_, rfl, Nat.zero_le _, fun q1 hq1 => ?_⟩
        have sa := same_new (o := .lst []) hq1
        refine ⟨_, .list [], dpt _ (sa _ _ hD9), .lst (.of upd_same) .nil, shaped_strsL hta, by decide +kernel, _, rfl, ?_⟩
        rw [eqt]
        by_cases ht' : ¬ ts = []
        · rw [decide_eq_false ht']
          exact iteF (iteF (skip _ _ (Kee.same sa) (hh9.same sa) (by omega)))
        have ht : ts = [] := Classical.not_not.mp ht'
        rw [decide_eq_true ht]
        refine iteT ⟨_, rfl, Nat.zero_le _, fun q2 hq2 => ?_⟩
        have sb := same_new (o := .lst []) hq2
        refine ⟨.list (ms.map .str), .list [], .lst (.of (sb _ _ (sa _ _ hs))) (dp_strs ms), .lst (.of upd_same) .nil, shaped_strsL asm, by decide +kernel, _, rfl, ?_⟩
        rw [eqm]
        have sab := sa.trans sb
        by_cases hm0 : ms = []
        · rw [decide_eq_true hm0]
          exact iteF (iteF (skip _ _ (Kee.same sab) (hh9.same sab) (by omega)))
        rw [decide_eq_false hm0]
        refine iteT ⟨_, rfl, h, 2, _, rfl, hh9.same sab, by omega, by decide, by decide, fun HA dd kA hhA d0 d1 => ⟨rfl, _, rfl, ?_⟩⟩
        have kA' : Kee h H9 HA := (Kee.same sab).trans kA
        refine ite2 (fun _ => ?_) (fun _ => skip _ _ kA' hhA (by omega))
        have hsA := kA' _ _ ns hs
        have hmne : ms.map V.str ≠ [] := fun e => hm0 (List.map_eq_nil_iff.mp e)
        have hmle : (ms.map V.str).length ≤ 100000 := by
          rw [List.length_map]
          have := hms.1
          omega
        refine ⟨_, rfl, _, rfl, _, rfl, h, _, _, _, rfl, hhA, by omega, .inl ⟨s0, rfl, ns, hsA⟩, hmne, hmle, fun HB yB kB hhB hyB => ?_⟩
        obtain ⟨mB, hmB, rfl⟩ := List.mem_map.mp hyB
        have hsB := kB _ _ ns hsA
        refine ⟨_, rfl, _, rfl, h, _, _, _, rfl, hhB, by omega, .inl ⟨s0, rfl, ns, hsB⟩, hmne, hmle, fun HC yC kC hhC hyC => ?_⟩
        obtain ⟨mC, hmC, rfl⟩ := List.mem_map.mp hyC
        have lC : mC.length ≤ 5592405 := Nat.le_trans (hms.2 mC hmC).2.1.2.1 (by decide)
        refine ⟨⟨_, rfl⟩, mC, rfl, rfl, lC, (by show 2 ≤ sizeLine; decide), fun q3 hq3 => ?_⟩
        have sc := same_new (o := .lst [.str mB, .str (Txt.upper mC)]) hq3
        refine ⟨h, _, _, _, rfl, hhC.same sc, by omega, .inl ⟨q3, rfl, hhC.new hq3, upd_same⟩, by simp, by simp, fun HD yD kD hhD hyD => ?_⟩
        obtain ⟨s', rfl, hf⟩ : ∃ s', yD = .str s' ∧ Fits gs c s' := by
          simp only [List.mem_cons, List.not_mem_nil, or_false] at hyD
          rcases hyD with rfl | rfl
          · exact ⟨_, rfl, (fits_mate (hms.2 mB hmB)).1⟩
          · exact ⟨_, rfl, (fits_mate (hms.2 mC hmC)).2⟩
        have kD' : Kee h H9 HD := (((kA'.trans kB).trans kC).trans (Kee.same sc)).trans kD
        exact ⟨s', rfl, hf, fun q => absurd ht q, k9.trans kD', hhD.mono (by omega), kD' _ _ ndh hd9, hm9.kee kD', kD' _ _ nDh hD9⟩
      · rintro σ' HA ⟨s', rfl, ⟨hf1, hf2, hf3⟩, hts, kA, hhA, hdA, hmA, hDA⟩
        have a1 := app_ok ex.ok hf1
        have l1 : found.length = found.cps.size := rfl
        have l2 : s'.length = s'.cps.size := rfl
        have exs := ex.sz
        have bnd : 1000 ≤ sizeLine := by decide
        refine ⟨_, rfl, _, rfl, _, _, rfl, rfl, by omega, _, rfl, (by show 5 ≤ sizeLine; decide), fun q1 hq1 => ?_⟩
        have sa := same_new (o := .lst [.str "", .str "", .str "", .str "!", .str "_"]) hq1
        refine ⟨h, _, _, _, rfl, hhA.same sa, by omega, .inl ⟨q1, rfl, hhA.new hq1, upd_same⟩, by simp, by simp, fun HB yB kB hhB hyB => ?_⟩
        obtain ⟨e, rfl, he, hes, hel⟩ := ends_ok hG hyB
        have kB' : Kee h HA HB := (Kee.same sa).trans kB
        have l3 : (found ++ s').length = found.cps.size + s'.cps.size := a1.2
        have fin : ∀ (b : Bool) (HC : Hp), (ts ≠ [] → b = false) → Same HB HC → ∃ z_1 i_1, V.str e = V.str z_1 ∧ V.int (if b = true then 1 else 0) = V.int i_1 ∧ MulOk z_1 i_1 ∧ ∃ i_2 j, V.str (found ++ s') = V.str i_2 ∧ V.str (Txt.mul z_1 i_1) = V.str j ∧ i_2.length + j.length ≤ sizeLine ∧
            ∃ v8 v9 v10 v11 found_1, [some (.ref h), some (.ref tl), some (.str z), some (.ref d), v4, v5, some (.ref D), some (.str (i_2 ++ j)), some (.int (i : Nat)), some (.str s'), some (.str near), some (.ref s0), none] = [some (.ref h), some (.ref tl), some (.str z), some (.ref d), v4, v5, some (.ref D), some (.str found_1), v8, v9, v10, v11, none] ∧ Kee h H HC ∧ HandAt (n + (i + 1) * 6) HC h ∧ HC d = some (.dK kvs) ∧ MO gs HC h kvs ∧ HC D = some (.lst (ts.map V.str)) ∧ ExSt gs (!decide (ts = [])) z found_1 (i + 1) := by
          intro b HC hb sC
          obtain ⟨m1, m2⟩ := mul_bool e b
          have kC : Kee h HA HC := kB'.trans (Kee.same sC)
          have fe : ∀ e' : Str, e'.cps.size ≤ 1 → Ok e' → (ts ≠ [] → e'.cps.toList = []) → (low e').flatMap (nu1 gs) = [] → ∃ v8 v9 v10 v11 found_1, [some (.ref h), some (.ref tl), some (.str z), some (.ref d), v4, v5, some (.ref D), some (.str (found ++ s' ++ e')), some (.int (i : Nat)), some (.str s'), some (.str near), some (.ref s0), none] = [some (.ref h), some (.ref tl), some (.str z), some (.ref d), v4, v5, some (.ref D), some (.str found_1), v8, v9, v10, v11, none] ∧ Kee h H HC ∧ HandAt (n + (i + 1) * 6) HC h ∧ HC d = some (.dK kvs) ∧ MO gs HC h kvs ∧ HC D = some (.lst (ts.map V.str)) ∧ ExSt gs (!decide (ts = [])) z found_1 (i + 1) := by
            intro e' h1 h2 h3 h4
            refine ⟨_, _, _, _, _, rfl, kA.trans kC, (hhB.same sC).mono (by omega), kC _ _ ndh hdA, hmA.kee kC, kC _ _ nDh hDA, ex.step hc hf1 hf2 h2 h1 (fun q => ?_) (fun _ => ⟨hf3, h4⟩)⟩
            have : ts ≠ [] := by simpa using q
            exact ⟨hts this, h3 this⟩
          have le : e.length = e.cps.size := rfl
          refine ⟨e, _, rfl, rfl, m1, _, _, rfl, rfl, ?_, ?_⟩
          · rw [m2, l3]
            cases b with
            | true => rw [if_pos rfl]; omega
            | false => rw [if_neg Bool.false_ne_true, show ("" : Str).length = 0 by decide +kernel]; omega
          · rw [m2]
            cases b with
            | true =>
              rw [if_pos rfl]
              exact fe e hes he (fun q => absurd (hb q) (by decide)) hel
            | false =>
              rw [if_neg Bool.false_ne_true]
              exact fe "" (by decide +kernel) (ok_by (by decide +kernel)) (fun _ => tl_e) (by rw [low_e]; rfl)
        refine ⟨_, rfl, 32, near, (by kernel_rfl), rfl, _, rfl, ?_⟩
        refine ite2 (fun _ => ?_) (fun _ => .inr ⟨false, rfl, fin false _ (fun _ => rfl) (Same.refl _)⟩)
        refine ⟨_, rfl, Nat.zero_le _, fun q2 hq2 => ?_⟩
        have sb := same_new (o := .lst []) hq2
        refine ⟨_, .list [], dpt _ (sb _ _ (kB' _ _ nDh hDA)), .lst (.of upd_same) .nil, shaped_strsL hta, by decide +kernel, ?_⟩
        rw [eqt]
        exact .inr ⟨_, rfl, fin _ _ (fun q => decide_eq_false q) sb⟩
    · rintro σ H7 ⟨v8, v9, v10, v11, found, rfl, k7, hh7, hd7, hm7, hD7, ex⟩
      have exs := ex.sz
      exact ⟨_, rfl, q _ found k7 (hh7.mono (by omega)) ex.ok (by omega) (ex.fin fun q => two0 (by simpa using q))⟩
end
end K79
namespace K79
open PySem PySem.Spec PyProof.Rows L2
/-- the first two of a rank -/
def K2 (f g : Str → List Int) : Hp → V → Str → Prop := fun H v z => ∃ r a b : Addr, v = .ref r ∧ H r = some (.tup [.ref a, .ref b]) ∧ H a = some (.tup ((f z).map V.int)) ∧ H b = some (.tup ((g z).map V.int))
theorem K2.same {f g : Str → List Int} {H H' : Hp} {v : V} {z : Str} (k : Same H H') (h : K2 f g H v z) : K2 f g H' v z := by
  obtain ⟨r, a, b, e, h1, h2, h3⟩ := h
  exact ⟨r, a, b, e, k _ _ h1, k _ _ h2, k _ _ h3⟩
theorem K2.dp {f g : Str → List Int} {K : PySem.W.Frag} {H : Hp} {v : V} {z : Str} (h : K2 f g H v z) : Dp K H v (kd2 (f z) (g z)) := by
  obtain ⟨r, a, b, rfl, h1, h2, h3⟩ := h
  exact .tup (.inl (.inl h1)) (.cons (.tup (.inl (.inl h2)) (dp_ints _)) (.cons (.tup (.inl (.inl h3)) (dp_ints _)) .nil))
theorem oks_asc {zs : List Str} (h : Oks zs) : ∀ z ∈ zs, Asc z := fun z hz => (h z hz).1.asc
def lenAt (H : Hp) (a : Addr) : Nat := match H a with
  | some (.lst xs) => xs.length
  | _ => 0
theorem lenAt_of {H : Hp} {a : Addr} {xs : List V} (h : H a = some (.lst xs)) : lenAt H a = xs.length := by unfold lenAt; rw [h]
theorem eqv_nil (xs : List Str) : PyData.eqv (.list (xs.map .str)) (.list []) = decide (xs = []) := by
  rw [PyData.eqv]
  exact eqv_strs xs []
theorem map_erase (xs : List Str) (k : Nat) : (xs.map V.str).eraseIdx k = (xs.eraseIdx k).map V.str := by
  rw [List.eraseIdx_eq_take_drop_succ, List.eraseIdx_eq_take_drop_succ, List.map_append, List.map_take, List.map_drop]
theorem erase_perm {xs : List Str} {k : Nat} {y : Str} (h : xs[k]? = some y) (f : List Str) : (f ++ [y] ++ xs.eraseIdx k).Perm (f ++ xs) := by
  obtain ⟨hk, e⟩ := List.getElem?_eq_some_iff.mp h
  have e2 : xs = xs.take k ++ y :: xs.drop (k + 1) := by rw [← e, List.getElem_cons_drop hk, List.take_append_drop]
  rw [List.eraseIdx_eq_take_drop_succ, List.append_assoc]
  refine List.Perm.append_left f ?_
  conv => rhs; rw [e2]
  exact (List.perm_middle (l₁ := xs.take k)).symm
section
variable {P : Program} {w : World} {K : PySem.W.Frag} {mg : Str → Option Value} {base : Heap} {f : Addr} {fd : FuncData} {C Pt : Addr}
def spKey (C : Addr) : Sp := fun vs H Q _ => ∃ (p : Addr) (gs : List (List Str)) (ps : List Str) (cm : Bool) (z : Str), vs = [.ref p, .str z] ∧ CustAt C H p gs ps cm ∧ Asc z ∧ z.cps.size ≤ 1000 ∧ ∀ H' v, Same H H' → K2 (fBare gs ps) (lts gs) H' v z → Q v H'
theorem scKey : FnScope ["_law_custom", "_law_text_here"] ["_law_custom", "_law_text_here"] (defScope sKey) := ⟨rfl, rfl, rfl, by decide +kernel, rfl, by decide +kernel, by decide +kernel⟩
theorem ok_key (F : FunD K "_law_key" "_law_key" (defArgs sKey) (defBody sKey) (defScope sKey) [] [] f fd) (T : Tx K mg C) (gR : Km P w K mg base C 2 "rank" ["self", "text"] (spRank C)) : FnOk P w K mg base CX0 3 f fd ["_law_custom", "_law_text_here"] (spKey C) := by
  refine ok0 F scKey (fun vs H Q E h => ?_) (fun cdv A outer s H vs Q E hr h => ?_)
  · obtain ⟨p, gs, ps, cm, z, rfl, _⟩ := h
    rfl
  · obtain ⟨p, gs, ps, cm, z, rfl, hC, hA, hz, k⟩ := h
    refine ⟨_, pss_one (ps_ret (pe_slice sl_tup (pe_m T.cl gR hr (Nat.le_refl _) (pv 0) (pa_cons (pv 1) pa_nil)) po_none (po_some pe_int))), ?_⟩
    obtain ⟨dx, tl, tp, d, kvs, hp, _⟩ := id hC
    refine ⟨_, rfl, p, dx, _, rfl, hp, lkMr _ _ _ _, _, rfl, p, gs, ps, cm, z, rfl, hC, hA, hz, fun H1 v s1 hv => ?_⟩
    obtain ⟨r, a, b, rfl, h1, h2, h3⟩ := hv
    refine ⟨2, rfl, r, _, rfl, .inl (.inl h1), (fun q => absurd q.2 (by show ¬ (HT.sIx 3 3 (some 2) = 3); decide)), fun q hq => ?_⟩
    have s2 := same_new (o := .tup (cutV [.ref a, .ref b, .str z] none (some 2))) hq
    exact k _ _ (s1.trans s2) ⟨q, a, b, rfl, upd_same, s2 _ _ h2, s2 _ _ h3⟩
def spTurned : Sp := fun vs H Q _ => ∃ (h l : Addr) (n : Nat) (zs : List Str), vs = [.ref h, .ref l] ∧ HandAt n H h ∧ n ≤ 100000000 ∧ H l = some (.lst (zs.map V.str)) ∧ Oks zs ∧ zs.length ≤ 1000 ∧ ∀ (H' : Hp) (r : Addr) (ys : List Str), Kee h H H' → HandAt (n + 1000) H' h → H r = none → H' r = some (.lst (ys.map V.str)) → ys.Perm zs → Q (.ref r) H'
theorem scTurned : FnScope ["_law_hand_here", "_law_texts", "_law_left", "_law_found"] ["_law_hand_here", "_law_texts"] (defScope sTurned) := ⟨rfl, rfl, rfl, by decide +kernel, rfl, by decide +kernel, by decide +kernel⟩
theorem ok_turned (F : FunD K "_law_turned" "_law_turned" (defArgs sTurned) (defBody sTurned) (defScope sTurned) [] [] f fd) (T : Tx K mg C) (gT : Kn P w K mg base 1 "_law_take" ["_law_hand_here", "_law_many"] spTake) : FnOk P w K mg base CX0 2 f fd ["_law_hand_here", "_law_texts"] spTurned := by
  refine ok0 F scTurned (fun vs H Q E h => ?_) (fun cdv A outer s H vs Q E hr h => ?_)
  · obtain ⟨h, l, n, zs, rfl, _⟩ := h
    rfl
  · obtain ⟨h, l, n, zs, rfl, hh, hn, hl, hz, hzl, q⟩ := h
    refine ⟨_, pss_cons (ps_par (i := 2) (j := 3) rfl scTurned.nd rfl rfl (by decide) rfl rfl (pa_cons (pe_callTy call_list_of (by rfl) (T.f 11) (by decide +kernel) (pa_cons (pv 1) pa_nil)) (pa_cons (pe_lst pa_nil) pa_nil)) (by rfl))
      (pss_cons (ps_while PassesOwn.never (pt_cmpR (op_neD hr.units) (pv 2) (pe_lst pa_nil) (nomark _)) (pss_one (ps_expr (pe_bm PySem.F.plainAttrs_list PySem.F.slot_list_append PySem.F.type_list_append mt_append (pv 3)
        (pa_cons (pe_bm PySem.F.plainAttrs_list PySem.F.slot_list_pop PySem.F.type_list_pop mt_popAt (pv 2) (pa_cons (pe_k gT hr (Nat.le_refl _) (pa_cons (pv 0) (pa_cons (pe_callB call_len_seq (by rfl) (T.f 2) PySem.boot_len (pa_cons (pv 2) pa_nil)) pa_nil))) pa_nil)) pa_nil)))))
      (pss_one (ps_ret (pv 3)))), ?_⟩
    refine ⟨_, rfl, l, _, rfl, .inl (.of hl), fun a ha => ⟨Nat.zero_le _, fun b hb => ⟨_, _, rfl, ?_⟩⟩⟩
    have sa := same_new (o := .lst (zs.map V.str)) ha
    have sb := same_new (o := .lst []) hb
    have nab : a ≠ b := ne_of_none (H := upd H a (.lst (zs.map V.str))) upd_same hb
    have nah : a ≠ h := hh.new ha
    have nbh : b ≠ h := (hh.same sa).new hb
    have hb0 : H b = none := sa.free hb
    refine while_by (fun σ H' => ∃ left found : List Str, σ = [some (.ref h), some (.ref l), some (.ref a), some (.ref b)] ∧ Kee h H H' ∧ HandAt (n + found.length) H' h ∧ H' a = some (.lst (left.map V.str)) ∧ H' b = some (.lst (found.map V.str)) ∧ (found ++ left).Perm zs)
      (fun _ H' => lenAt H' a) ⟨zs, [], rfl, Kee.same (sa.trans sb), (hh.same (sa.trans sb)), sb _ _ upd_same, upd_same, List.Perm.refl _⟩ ?_ ?_
    · rintro σ H1 ⟨left, found, rfl, k1, hh1, ha1, hb1, hp⟩
      have hleft : ∀ z ∈ left, Asc z := fun z hz' => oks_asc hz z (hp.mem_iff.mp (List.mem_append_right _ hz'))
      have hlen := hp.length_eq
      rw [List.length_append] at hlen
      refine ⟨_, rfl, Nat.zero_le _, fun q1 hq1 => ?_⟩
      have s1 := same_new (o := .lst []) hq1
      refine ⟨.list (left.map .str), .list [], .lst (.of (s1 _ _ ha1)) (dp_strs left), .lst (.of upd_same) .nil, shaped_strsL hleft, by decide +kernel, _, rfl, ?_⟩
      rw [eqv_nil]
      have ha2 := s1 _ _ ha1
      have hb2 := s1 _ _ hb1
      have hh2 := hh1.same s1
      have k2 := k1.trans (Kee.same (h := h) s1)
      have el : lenAt H1 a = (left.map V.str).length := lenAt_of ha1
      generalize upd H1 q1 (.lst []) = H2 at ha2 hb2 hh2 k2 ⊢
      by_cases e : left = []
      · rw [decide_eq_true e]
        refine iteF ⟨_, rfl, q _ b found k2 (hh2.mono (by omega)) hb0 hb2 ?_⟩
        rw [e, List.append_nil] at hp
        exact hp
      · rw [decide_eq_false e]
        have l0 : 0 < left.length := List.length_pos_iff.mpr e
        refine iteT ⟨_, rfl, .inl ⟨rfl, _, .of hb2⟩, _, rfl, .inl ⟨rfl, _, .of ha2⟩, _, rfl, _, rfl, a, _, rfl, .inl (.of ha2), h, _, _, rfl, hh2, by omega, by rw [List.length_map]; omega, by rw [List.length_map]; omega, fun H3 d k3 hh3 d0 d1 => ?_⟩
        rw [List.length_map] at d1
        obtain ⟨j, rfl⟩ := Int.eq_ofNat_of_zero_le d0
        have hj : j < left.length := by omega
        have ha3 := k3 _ _ nah ha2
        have hb3 := k3 _ _ nbh hb2
        have hix : ixN (left.map V.str).length (j : Int) = some j := by
          unfold ixN
          rw [if_pos (by omega), if_pos (by rw [List.length_map]; omega)]
          rfl
        refine ⟨a, _, _, j, .str left[j], rfl, rfl, ha3, by omega, by omega, (ixN_seq hix).1, by simp [hj], ?_⟩
        rw [map_erase]
        refine ⟨b, _, _, rfl, rfl, (upd_ne nab.symm).trans hb3, by rw [List.length_map]; exact Nat.lt_of_le_of_lt (show found.length ≤ 1000 by omega) (by decide), ?_⟩
        have hfin : upd (upd H3 a (.lst ((left.eraseIdx j).map V.str))) b (.lst (found.map V.str ++ [.str left[j]])) a = some (.lst ((left.eraseIdx j).map V.str)) := by rw [upd_ne nab, upd_same]
        refine ⟨⟨left.eraseIdx j, found ++ [left[j]], rfl, fun c o nc ec => ?_, ?_, hfin, by rw [upd_same, List.map_append]; rfl, ?_⟩, ?_⟩
        · rw [upd_ne (ne_of_none ec hb0), upd_ne (ne_of_none ec ha)]
          exact k3 _ _ nc (k2 _ _ nc ec)
        · obtain ⟨x, y, z, ee, r1, r2⟩ := hh3
          exact ⟨x, y, z, by rw [upd_ne nbh.symm, upd_ne nah.symm]; exact ee, r1, by rw [List.length_append, List.length_singleton]; omega⟩
        · exact (erase_perm (by simp [hj]) found).trans hp
        · show lenAt _ a < lenAt H1 a
          rw [el, lenAt_of hfin, List.length_map, List.length_map, List.length_eraseIdx_of_lt hj]
          omega
    · rintro σ H1 Q1 Q2 hq ⟨v, e1, z1, f⟩
      exact ⟨v, e1, z1, fun p hp => by obtain ⟨d, e, a1, a2, a3, a4, k, ek, r⟩ := f p hp; exact ⟨d, e, a1, a2, a3, a4, k, ek, hq _ _ r⟩⟩
end
end K79
namespace K79
open PySem PySem.Spec PyProof.Rows L2
section
variable {P : Program} {w : World} {K : PySem.W.Frag} {mg : Str → Option Value} {base : Heap} {f : Addr} {fd : FuncData} {C Pt : Addr}
def spMerged (C : Addr) : Sp := fun vs H Q _ => ∃ (p a b : Addr) (gs : List (List Str)) (ps : List Str) (cm : Bool) (xs ys : List Str), vs = [.ref p, .ref a, .ref b] ∧ CustAt C H p gs ps cm ∧ H a = some (.lst (xs.map V.str)) ∧ H b = some (.lst (ys.map V.str)) ∧ Oks xs ∧ Oks ys ∧ xs.length + ys.length ≤ 1000 ∧
  ∀ (H' : Hp) (r : Addr), Same H H' → H r = none → H' r = some (.lst ((xs.merge ys (kle (fBare gs ps) (lts gs))).map V.str)) → Q (.ref r) H'
theorem scMerged : FnScope ["_law_custom", "_law_one", "_law_other", "_law_found"] ["_law_custom", "_law_one", "_law_other"] (defScope sMerged) := ⟨rfl, rfl, rfl, by decide +kernel, rfl, by decide +kernel, by decide +kernel⟩
theorem ok_merged (F : FunD K "_law_merged" "_law_merged" (defArgs sMerged) (defBody sMerged) (defScope sMerged) [] [] f fd) (T : Tx K mg C) (gR : Km P w K mg base C 2 "rank" ["self", "text"] (spRank C)) : FnOk P w K mg base CX0 3 f fd ["_law_custom", "_law_one", "_law_other"] (spMerged C) := by
  refine ok0 F scMerged (fun vs H Q E h => ?_) (fun cdv A outer s H vs Q E hr h => ?_)
  · obtain ⟨p, a, b, gs, ps, cm, xs, ys, rfl, _⟩ := h
    rfl
  · obtain ⟨p, a0, b0, gs, ps, cm, xs, ys, rfl, hC, hx, hy, hox, hoy, hxy, q⟩ := h
    refine ⟨_, pss_cons (ps_par3 (i := 3) (j := 1) (l := 2) rfl scMerged.nd rfl rfl rfl (by decide) (by decide) (by decide) rfl rfl rfl (pa_cons (pe_lst pa_nil) (pa_cons (pe_callTy call_list_of (by rfl) (T.f 11) (by decide +kernel) (pa_cons (pv 1) pa_nil)) (pa_cons (pe_callTy call_list_of (by rfl) (T.f 11) (by decide +kernel) (pa_cons (pv 2) pa_nil)) pa_nil))) (by rfl))
      (pss_cons (ps_while PassesOwn.never (PW.pt (pw_or (pt_cmpR (op_neD hr.units) (pv 1) (pe_lst pa_nil) (nomark _)) (pw_or1 (pt_cmpR (op_neD hr.units) (pv 2) (pe_lst pa_nil) (nomark _)))))
        (pss_one (ps_if (PW.pt (pw_or (pt_cmpR (op_eqD hr.units) (pv 2) (pe_lst pa_nil) (nomark _)) (pw_or1 (PW.pt (pw_and (pt_cmpR (op_neD hr.units) (pv 1) (pe_lst pa_nil) (nomark _))
            (pw_and1 (pt_cmpR (op_leD hr.units) (pe_m T.cl gR hr (Nat.le_refl _) (pv 0) (pa_cons (pe_ix ix_list (pv 1) pe_int (fun _ _ => rfl)) pa_nil)) (pe_m T.cl gR hr (Nat.le_refl _) (pv 0) (pa_cons (pe_ix ix_list (pv 2) pe_int (fun _ _ => rfl)) pa_nil)) (nomark _))))))))
          (pss_one (ps_expr (pe_bm PySem.F.plainAttrs_list PySem.F.slot_list_append PySem.F.type_list_append mt_append (pv 3) (pa_cons (pe_bm PySem.F.plainAttrs_list PySem.F.slot_list_pop PySem.F.type_list_pop mt_popAt (pv 1) (pa_cons pe_int pa_nil)) pa_nil))))
          (pss_one (ps_expr (pe_bm PySem.F.plainAttrs_list PySem.F.slot_list_append PySem.F.type_list_append mt_append (pv 3) (pa_cons (pe_bm PySem.F.plainAttrs_list PySem.F.slot_list_pop PySem.F.type_list_pop mt_popAt (pv 2) (pa_cons pe_int pa_nil)) pa_nil)))))))
      (pss_one (ps_ret (pv 3)))), ?_⟩
    refine ⟨Nat.zero_le _, fun c hc => ⟨_, rfl, a0, _, rfl, .inl (.of (same_new hc _ _ hx)), fun a ha => ⟨_, rfl, b0, _, rfl, .inl (.of (same_new ha _ _ (same_new hc _ _ hy))), fun b hb => ⟨_, _, _, rfl, ?_⟩⟩⟩⟩
    have sc := same_new (o := .lst []) hc
    have sa := same_new (o := .lst (xs.map V.str)) ha
    have sb := same_new (o := .lst (ys.map V.str)) hb
    have hc3 := sb _ _ (sa _ _ (upd_same (H := H) (a := c) (o := .lst [])))
    have ha3 := sb _ _ (upd_same (H := upd H c (.lst [])) (a := a) (o := .lst (xs.map V.str)))
    have hb3 : upd (upd (upd H c (.lst [])) a (.lst (xs.map V.str))) b (.lst (ys.map V.str)) b = some (.lst (ys.map V.str)) := upd_same
    have nca : c ≠ a := ne_of_none (H := upd H c (.lst [])) upd_same ha
    have nab : a ≠ b := ne_of_none (H := upd (upd H c (.lst [])) a (.lst (xs.map V.str))) upd_same hb
    have ncb : c ≠ b := ne_of_none (sa _ _ (upd_same (H := H) (a := c) (o := .lst []))) hb
    have s3 := sc.trans (sa.trans sb)
    have fa : H a = none := sc.free ha
    have fb : H b = none := (sc.trans sa).free hb
    generalize upd (upd (upd H c (.lst [])) a (.lst (xs.map V.str))) b (.lst (ys.map V.str)) = H3 at hc3 ha3 hb3 s3 ⊢
    let le := kle (fBare gs ps) (lts gs)
    have hle : le = kle (fBare gs ps) (lts gs) := rfl
    refine while_by (fun σ H' => ∃ one other found : List Str, σ = [some (.ref p), some (.ref a), some (.ref b), some (.ref c)] ∧ Same H H' ∧ H' a = some (.lst (one.map V.str)) ∧ H' b = some (.lst (other.map V.str)) ∧ H' c = some (.lst (found.map V.str)) ∧ found ++ one.merge other le = xs.merge ys le ∧ Oks one ∧ Oks other ∧ found.length + (one.length + other.length) = xs.length + ys.length)
      (fun _ H' => lenAt H' a + lenAt H' b) ⟨xs, ys, [], rfl, s3, ha3, hb3, hc3, rfl, hox, hoy, by simp⟩ ?_ ?_
    · rintro σ H1 ⟨one, other, found, rfl, k1, ha1, hb1, hc1, hM, ho1, ho2, hlen⟩
      have ela : lenAt H1 a = one.length := by rw [lenAt_of ha1, List.length_map]
      have elb : lenAt H1 b = other.length := by rw [lenAt_of hb1, List.length_map]
      -- pop one
      have popOne : ∀ (H2 : Hp), Same H1 H2 → ∀ x t, one = x :: t → found ++ [x] ++ t.merge other le = xs.merge ys le → tBM K "list" rAppend (tVar 3) (tCons (tBM K "list" rPopAt (tVar 1) (tCons (tC (.int 0)) tNil)) tNil) [some (.ref p), some (.ref a), some (.ref b), some (.ref c)] H2
          (fun _ H' => (∃ one other found : List Str, [some (V.ref p), some (.ref a), some (.ref b), some (.ref c)] = [some (.ref p), some (.ref a), some (.ref b), some (.ref c)] ∧ Same H H' ∧ H' a = some (.lst (one.map V.str)) ∧ H' b = some (.lst (other.map V.str)) ∧ H' c = some (.lst (found.map V.str)) ∧ found ++ one.merge other le = xs.merge ys le ∧ Oks one ∧ Oks other ∧ found.length + (one.length + other.length) = xs.length + ys.length) ∧ lenAt H' a + lenAt H' b < lenAt H1 a + lenAt H1 b) := by
        intro H2 s2 x t eo hm
        subst eo
        have ha2 := s2 _ _ ha1
        have hc2 := s2 _ _ hc1
        have hix : ixN ((x :: t).map V.str).length (0 : Int) = some 0 := by
          unfold ixN
          rw [if_pos (by decide), if_pos (by rw [List.length_map, List.length_cons]; omega)]
          rfl
        rw [List.length_cons] at hlen
        refine ⟨_, rfl, .inl ⟨rfl, _, .of hc2⟩, _, rfl, .inl ⟨rfl, _, .of ha2⟩, a, _, 0, 0, .str x, rfl, rfl, ha2, by decide, by decide, (ixN_seq hix).1, rfl, ?_⟩
        rw [map_erase]
        refine ⟨c, _, _, rfl, rfl, (upd_ne nca).trans hc2, by rw [List.length_map]; exact Nat.lt_of_le_of_lt (show found.length ≤ 1000 by omega) (by decide), ?_⟩
        have e1 : upd (upd H2 a (.lst ((((x :: t).eraseIdx 0)).map V.str))) c (.lst (found.map V.str ++ [.str x])) a = some (.lst (t.map V.str)) := by rw [upd_ne nca.symm, upd_same]; rfl
        have e2 : upd (upd H2 a (.lst ((((x :: t).eraseIdx 0)).map V.str))) c (.lst (found.map V.str ++ [.str x])) b = some (.lst (other.map V.str)) := by rw [upd_ne ncb.symm, upd_ne nab.symm]; exact s2 _ _ hb1
        refine ⟨⟨t, other, found ++ [x], rfl, fun y o ey => ?_, e1, e2, by rw [upd_same, List.map_append]; rfl, hm, fun z hz => ho1 z (List.mem_cons_of_mem _ hz), ho2, by rw [List.length_append, List.length_singleton]; omega⟩, ?_⟩
        · rw [upd_ne (ne_of_none ey hc), upd_ne (ne_of_none ey fa)]
          exact s2 _ _ (k1 _ _ ey)
        · rw [lenAt_of e1, lenAt_of e2, ela, elb, List.length_map, List.length_map, List.length_cons]
          omega
      have popOther : ∀ (H2 : Hp), Same H1 H2 → ∀ x t, other = x :: t → found ++ [x] ++ one.merge t le = xs.merge ys le → tBM K "list" rAppend (tVar 3) (tCons (tBM K "list" rPopAt (tVar 2) (tCons (tC (.int 0)) tNil)) tNil) [some (.ref p), some (.ref a), some (.ref b), some (.ref c)] H2
          (fun _ H' => (∃ one other found : List Str, [some (V.ref p), some (.ref a), some (.ref b), some (.ref c)] = [some (.ref p), some (.ref a), some (.ref b), some (.ref c)] ∧ Same H H' ∧ H' a = some (.lst (one.map V.str)) ∧ H' b = some (.lst (other.map V.str)) ∧ H' c = some (.lst (found.map V.str)) ∧ found ++ one.merge other le = xs.merge ys le ∧ Oks one ∧ Oks other ∧ found.length + (one.length + other.length) = xs.length + ys.length) ∧ lenAt H' a + lenAt H' b < lenAt H1 a + lenAt H1 b) := by
        intro H2 s2 x t eo hm
        subst eo
        have hb2 := s2 _ _ hb1
        have hc2 := s2 _ _ hc1
        have hix : ixN ((x :: t).map V.str).length (0 : Int) = some 0 := by
          unfold ixN
          rw [if_pos (by decide), if_pos (by rw [List.length_map, List.length_cons]; omega)]
          rfl
        rw [List.length_cons] at hlen
        refine ⟨_, rfl, .inl ⟨rfl, _, .of hc2⟩, _, rfl, .inl ⟨rfl, _, .of hb2⟩, b, _, 0, 0, .str x, rfl, rfl, hb2, by decide, by decide, (ixN_seq hix).1, rfl, ?_⟩
        rw [map_erase]
        refine ⟨c, _, _, rfl, rfl, (upd_ne ncb).trans hc2, by rw [List.length_map]; exact Nat.lt_of_le_of_lt (show found.length ≤ 1000 by omega) (by decide), ?_⟩
        have e1 : upd (upd H2 b (.lst ((((x :: t).eraseIdx 0)).map V.str))) c (.lst (found.map V.str ++ [.str x])) b = some (.lst (t.map V.str)) := by rw [upd_ne ncb.symm, upd_same]; rfl
        have e2 : upd (upd H2 b (.lst ((((x :: t).eraseIdx 0)).map V.str))) c (.lst (found.map V.str ++ [.str x])) a = some (.lst (one.map V.str)) := by rw [upd_ne nca.symm, upd_ne nab]; exact s2 _ _ ha1
        refine ⟨⟨one, t, found ++ [x], rfl, fun y o ey => ?_, e2, e1, by rw [upd_same, List.map_append]; rfl, hm, ho1, fun z hz => ho2 z (List.mem_cons_of_mem _ hz), by rw [List.length_append, List.length_singleton]; omega⟩, ?_⟩
        · rw [upd_ne (ne_of_none ey hc), upd_ne (ne_of_none ey fb)]
          exact s2 _ _ (k1 _ _ ey)
        · rw [lenAt_of e1, lenAt_of e2, ela, elb, List.length_map, List.length_map, List.length_cons]
          omega
      have hz1 := oks_asc ho1
      have hz2 := oks_asc ho2
      refine ⟨_, rfl, Nat.zero_le _, fun q1 hq1 => ?_⟩
      have s1 := same_new (o := .lst []) hq1
      refine ⟨.list (one.map .str), .list [], .lst (.of (s1 _ _ ha1)) (dp_strs one), .lst (.of upd_same) .nil, shaped_strsL hz1, by decide +kernel, _, rfl, ?_⟩
      rw [eqv_nil]
      generalize upd H1 q1 (.lst []) = H2 at s1 ⊢
      by_cases e : one = []
      · rw [decide_eq_true e]
        refine iteF ?_
        refine ⟨_, rfl, Nat.zero_le _, fun q2 hq2 => ?_⟩
        have s2 := s1.trans (same_new (o := .lst []) hq2)
        refine ⟨.list (other.map .str), .list [], .lst (.of (s2 _ _ hb1)) (dp_strs other), .lst (.of upd_same) .nil, shaped_strsL hz2, by decide +kernel, _, rfl, ?_⟩
        rw [eqv_nil]
        generalize upd H2 q2 (.lst []) = H3 at s2 ⊢
        by_cases e2 : other = []
        · rw [decide_eq_true e2]
          refine iteF ?_
          refine ⟨_, rfl, q _ c (k1.trans s2) hc (s2 _ _ ?_)⟩
          rw [e, e2, List.nil_merge, List.append_nil] at hM
          rw [hc1, hM]
        · rw [decide_eq_false e2]
          refine iteT ?_
          refine ⟨_, rfl, Nat.zero_le _, fun q3 hq3 => ?_⟩
          have s3 := s2.trans (same_new (o := .lst []) hq3)
          refine ⟨.list (other.map .str), .list [], .lst (.of (s3 _ _ hb1)) (dp_strs other), .lst (.of upd_same) .nil, shaped_strsL hz2, by decide +kernel, _, rfl, ?_⟩
          rw [eqv_nil, decide_eq_false e2]
          generalize upd H3 q3 (.lst []) = H4 at s3 ⊢
          refine iteF ?_
          refine ⟨_, rfl, Nat.zero_le _, fun q4 hq4 => ?_⟩
          have s4 := s3.trans (same_new (o := .lst []) hq4)
          refine ⟨.list (one.map .str), .list [], .lst (.of (s4 _ _ ha1)) (dp_strs one), .lst (.of upd_same) .nil, shaped_strsL hz1, by decide +kernel, _, rfl, ?_⟩
          rw [eqv_nil, decide_eq_true e]
          generalize upd H4 q4 (.lst []) = H5 at s4 ⊢
          refine iteF (iteF ?_)
          obtain ⟨x, t, ex⟩ := List.exists_cons_of_ne_nil e2
          refine popOther _ s4 x t ex ?_
          rw [e, ex, List.nil_merge] at hM
          rw [e, List.nil_merge, List.append_assoc]
          exact hM
      · rw [decide_eq_false e]
        refine iteT ?_
        refine ⟨_, rfl, Nat.zero_le _, fun q3 hq3 => ?_⟩
        have s3 := s1.trans (same_new (o := .lst []) hq3)
        refine ⟨.list (other.map .str), .list [], .lst (.of (s3 _ _ hb1)) (dp_strs other), .lst (.of upd_same) .nil, shaped_strsL hz2, by decide +kernel, _, rfl, ?_⟩
        rw [eqv_nil]
        generalize upd H2 q3 (.lst []) = H4 at s3 ⊢
        obtain ⟨x, t, ex⟩ := List.exists_cons_of_ne_nil e
        by_cases e2 : other = []
        · rw [decide_eq_true e2]
          refine iteT (iteT ?_)
          refine popOne _ s3 x t ex ?_
          rw [e2, ex, List.merge_right] at hM
          rw [e2, List.merge_right, List.append_assoc]
          exact hM
        · rw [decide_eq_false e2]
          refine iteF ?_
          refine ⟨_, rfl, Nat.zero_le _, fun q4 hq4 => ?_⟩
          have s4 := s3.trans (same_new (o := .lst []) hq4)
          refine ⟨.list (one.map .str), .list [], .lst (.of (s4 _ _ ha1)) (dp_strs one), .lst (.of upd_same) .nil, shaped_strsL hz1, by decide +kernel, _, rfl, ?_⟩
          rw [eqv_nil, decide_eq_false e]
          generalize upd H4 q4 (.lst []) = H5 at s4 ⊢
          refine iteT ?_
          obtain ⟨y, u, ey⟩ := List.exists_cons_of_ne_nil e2
          subst ex
          subst ey
          have kx := ho1 x List.mem_cons_self
          have ky := ho2 y List.mem_cons_self
          have hC5 := hC.same (k1.trans s4)
          obtain ⟨dx5, tl5, tp5, d5, kvs5, hp5, _⟩ := id hC5
          refine ⟨_, rfl, p, dx5, _, rfl, hp5, lkMr _ _ _ _, _, rfl, a, _, 0, _, rfl, rfl, .of (s4 _ _ ha1), atI_nat (j := 0) rfl, p, gs, ps, cm, x, rfl, hC5, kx.1.asc, Nat.le_trans kx.2 (by decide), fun H6 v6 s6 kp6 => ?_⟩
          refine ⟨_, rfl, p, dx5, _, rfl, s6 _ _ hp5, lkMr _ _ _ _, _, rfl, b, _, 0, _, rfl, rfl, .of (s6 _ _ (s4 _ _ hb1)), atI_nat (j := 0) rfl, p, gs, ps, cm, y, rfl, hC5.same s6, ky.1.asc, Nat.le_trans ky.2 (by decide), fun H7 v7 s7 kp7 => ?_⟩
          refine ⟨_, _, (kp6.same s7).dp, kp7.dp, kd_alike _ _ _ _ _ _, PyData.noConfusion, by rw [kd_depth]; decide, _, rfl, ?_⟩
          rw [← kle_eq]
          have s47 := s4.trans (s6.trans s7)
          rw [List.cons_merge_cons] at hM
          cases hk : kle (fBare gs ps) (lts gs) x y with
          | true =>
            refine iteT ?_
            refine popOne _ s47 x t rfl ?_
            rw [hle, if_pos hk] at hM
            rw [hle, List.append_assoc]
            exact hM
          | false =>
            refine iteF ?_
            refine popOther _ s47 y u rfl ?_
            rw [hle, if_neg (by rw [hk]; decide)] at hM
            rw [hle, List.append_assoc]
            exact hM
    · rintro σ H1 Q1 Q2 hq ⟨v, e1, z1, g⟩
      refine ⟨v, e1, z1, fun r hr => ?_⟩
      obtain ⟨d, e, a1, a2, a3, a4, k, ek, t⟩ := g r hr
      refine ⟨d, e, a1, a2, a3, a4, k, ek, ?_⟩
      cases k with
      | true => exact hq _ _ t
      | false =>
        obtain ⟨v2, e2, z2, g2⟩ := t
        exact ⟨v2, e2, z2, fun r2 hr2 => by obtain ⟨d, e, a1, a2, a3, a4, k, ek, t⟩ := g2 r2 hr2; exact ⟨d, e, a1, a2, a3, a4, k, ek, hq _ _ t⟩⟩
end
end K79
namespace K79
open PySem PySem.Spec PyProof.Rows L2
/-- zip over two tuples -/
theorem walk_zipT {K : PySem.W.Frag} {a b : Addr} {xs ys : List V} {n : Nat} (hn : n = min xs.length ys.length) : Walk (RZ.ItzT K a b) n (fun H => SqT K H a xs ∧ SqT K H b ys) (YPair (fun i => xs[i]?) (fun i => ys[i]?)) := by
  subst hn
  refine ⟨fun i _ hi q => ?_, fun _ q => ⟨xs, ys, q.1, q.2, by omega⟩, fun i H v H' _ q y => ?_⟩
  · have h1 : i < xs.length := by omega
    have h2 : i < ys.length := by omega
    exact ⟨xs, ys, xs[i], ys[i], q.1, q.2, by simp [h1], by simp [h2]⟩
  · obtain ⟨T, x, z, h1, h2, h3, h4, h5⟩ := y
    exact ⟨T, x, z, h1, h2, h3, h4 xs q.1, h5 ys q.2⟩
/-- unlike somewhere -/
def unl (xs ys : List Int) : List Bool := List.zipWith (fun x y => !decide (x = y)) xs ys
theorem unl_any {xs ys : List Int} (h : (unl xs ys).any id = true) : ∃ i : Nat, ∃ x y : Int, xs[i]? = some x ∧ ys[i]? = some y ∧ x ≠ y := by
  obtain ⟨b, hb, e⟩ := List.any_eq_true.mp h
  obtain ⟨i, hi, eb⟩ := List.mem_iff_getElem.mp hb
  unfold unl at hi eb
  rw [List.length_zipWith] at hi
  rw [List.getElem_zipWith] at eb
  refine ⟨i, xs[i], ys[i], by simp, by simp, ?_⟩
  rw [← eb] at e
  simpa using e
section
variable {P : Program} {w : World} {K : PySem.W.Frag} {mg : Str → Option Value} {base : Heap} {f : Addr} {fd : FuncData} {C : Addr}
def spUnlike : Sp := fun vs H Q _ => ∃ (a b : Addr) (xs ys : List Int), vs = [.ref a, .ref b] ∧ H a = some (.tup (xs.map V.int)) ∧ H b = some (.tup (ys.map V.int)) ∧ xs.length ≤ 1000 ∧ ∀ H', Same H H' → Q (.bl ((unl xs ys).any id)) H'
abbrev unN : List Str := ["_law_one", "_law_other", "_law_mine", "_law_its"]
theorem scUnlike : FnScope unN ["_law_one", "_law_other"] (defScope sUnlike) := ⟨rfl, rfl, rfl, by decide +kernel, rfl, by decide +kernel, by decide +kernel⟩
theorem ok_unlike (F : FunD K "_law_first_unlike" "_law_first_unlike" (defArgs sUnlike) (defBody sUnlike) (defScope sUnlike) [] [] f fd) (T : Tx K mg C) : FnOk P w K mg base CX0 1 f fd ["_law_one", "_law_other"] spUnlike := by
  refine ok0 F scUnlike (fun vs H Q E h => ?_) (fun cdv A outer s H vs Q E hr h => ?_)
  · obtain ⟨a, b, xs, ys, rfl, _⟩ := h
    rfl
  · obtain ⟨a, b, xs, ys, rfl, ha, hb, hz, k⟩ := h
    refine ⟨_, pss_one (ps_ret (pe_callB (cr_any rfl) (by rfl) (T.f 15) (by decide +kernel) (pa_cons
        (pe_lc (own := [("_law_mine", 2), ("_law_its", 3)]) (g := gTup K 2 (gCons (gName 2) (gCons (gName 3) gNil))) (tt := tYes) rfl scUnlike.nd (RZ.pi_zipA (by rfl) (T.f 16) (pa_cons (pv 0) (pa_cons (pv 1) pa_nil))) (blkOk_by (N := unN) (sc := defScope sUnlike) (by decide +kernel))
          (fun _ _ _ _ _ => pg_tup rfl (pgs_cons (pg_name (i := 2) scUnlike.nd rfl (Or.inl rfl)) (pgs_cons (pg_name (i := 3) scUnlike.nd rfl (Or.inl rfl)) pgs_nil))) (fun _ _ _ _ _ => pts_nil)
          (fun _ _ _ _ _ => pe_cmpR op_ne (pv 2) (pv 3) (nomark _))) pa_nil))), ?_⟩
    refine ⟨_, rfl, _, rfl, a, b, _, _, rfl, .inr ⟨.inl (.inl ha), .inl (.inl hb), fun D hD => ?_⟩⟩
    refine lc_same (walk_zipT (K := K) (a := a) (b := b) (xs := xs.map V.int) (ys := ys.map V.int) rfl) hD ((unl xs ys).map V.bl) (by unfold unl; simp) (by rw [List.length_map]; exact Nat.le_trans (Nat.min_le_left _ _) (Nat.le_trans hz (by decide))) (fun H1 s1 => ⟨.inl (.inl (s1 _ _ ha)), .inl (.inl (s1 _ _ hb))⟩) ?_ ?_
    · rintro i x H1 H2 y R hi s1 ⟨T1, y1, y2, rfl, hT1, rfl, ey1, ey2⟩ hy hR
      obtain ⟨x1, hx1, rfl⟩ := map_get ey1
      obtain ⟨x2, hx2, rfl⟩ := map_get ey2
      refine ⟨T1, _, rfl, .inl (.inl upd_same), rfl, _, _, rfl, _, _, rfl, rfl, rfl, _, rfl, _, rfl, ?_⟩
      have ey : y = V.bl (!decide (V.int x1 = V.int x2)) := by
        rw [List.getElem?_map] at hy
        unfold unl at hy
        rw [List.getElem?_zipWith, hx1, hx2] at hy
        cases hy
        congr 2
        exact decide_eq_decide.mpr ⟨fun e => by rw [e], fun e => V.int.inj e⟩
      refine ⟨rfl, ?_⟩
      rw [← ey]
      exact hR _ fun b o e => by rw [upd_ne (ne_of_none e hT1)]; exact e
    · intro H1 s1 hD1
      exact ⟨D, _, rfl, .of hD1, k _ s1⟩
end
end K79
namespace K79
open PySem PySem.Spec PyProof.Rows L2
/-! plain facts for the checks -/
theorem eqv_lst (xs ys : List Str) : PyData.eqv (.list (xs.map .str)) (.list (ys.map .str)) = decide (xs = ys) := by
  rw [PyData.eqv]
  exact eqv_strs xs ys
theorem cutV_take (xs : List V) (k : Nat) (h : k ≤ xs.length) : cutV xs none (some (k : Int)) = xs.take k := by
  unfold cutV
  rw [HT.sIx_nat, HT.sIx_none, Nat.min_eq_left h, List.drop_zero, Nat.sub_zero]
theorem cutV_drop (xs : List V) (k : Nat) (h : k ≤ xs.length) : cutV xs (some (k : Int)) none = xs.drop k := by
  unfold cutV
  rw [HT.sIx_nat, HT.sIx_none, Nat.min_eq_left h]
  exact List.take_of_length_le (by rw [List.length_drop]; omega)
theorem cutV_mid (xs : List V) (i j : Nat) (h : i ≤ xs.length) (h2 : j ≤ xs.length) : cutV xs (some (i : Int)) (some (j : Int)) = (xs.drop i).take (j - i) := by
  unfold cutV
  rw [HT.sIx_nat, HT.sIx_nat, Nat.min_eq_left h, Nat.min_eq_left h2]
def sle (a b : Str) : Prop := ¬ b.cps.toList < a.cps.toList
theorem rising_pw : ∀ (l : List Str) (p : Str), risingS p l = true → (p :: l).Pairwise sle
  | [], p, _ => by simp
  | x :: r, p, h => by
    have h' : (!ltCps x.cps.toList p.cps.toList && risingS x r) = true := h
    rw [Bool.and_eq_true, ltCps_eq] at h'
    have h1 : sle p x := by simpa [sle] using h'.1
    have ih := rising_pw r x h'.2
    refine List.pairwise_cons.mpr ⟨fun y hy => ?_, ih⟩
    rcases List.mem_cons.mp hy with e | e
    · rw [e]; exact h1
    · have h2 : sle x y := (List.pairwise_cons.mp ih).1 y e
      exact List.not_lt.mpr (List.le_trans (List.not_lt.mp h1) (List.not_lt.mp h2))
theorem sorted_pw (l : List Str) (h : sortedS l = true) : l.Pairwise sle := by
  cases l with
  | nil => exact List.Pairwise.nil
  | cons x r => exact rising_pw r x h
theorem sorted_eq {xs ys : List Str} (p : xs.Perm ys) (h1 : sortedS xs = true) (h2 : sortedS ys = true) : xs = ys :=
  List.Perm.eq_of_pairwise (fun a b _ _ q r => PySem.W.str_of_cps (List.le_antisymm (List.not_lt.mp q) (List.not_lt.mp r))) (sorted_pw _ h1) (sorted_pw _ h2) p
/-! what stays: all but the hand and the tables -/
def KeeN (h : Addr) (H H' : Hp) : Prop := ∀ b o, b ≠ h → H b = some o → (∀ ps, o ≠ .tbl ps) → H' b = some o
theorem KeeN.trans {h : Addr} {H H1 H2 : Hp} (a : KeeN h H H1) (b : KeeN h H1 H2) : KeeN h H H2 := fun c o n e t => b c o n (a c o n e t) t
theorem KeeN.refl (h : Addr) (H : Hp) : KeeN h H H := fun _ _ _ e _ => e
theorem Kee.n {h : Addr} {H H1 : Hp} (a : Kee h H H1) : KeeN h H H1 := fun c o n e _ => a c o n e
theorem KeeN.ext {h : Addr} {H H1 : Hp} (a : LamX.ExtN H H1) : KeeN h H H1 := fun c o _ e t => a c o e t
theorem KeeN.same {h : Addr} {H H1 : Hp} (a : Same H H1) : KeeN h H H1 := fun c o _ e _ => a c o e
theorem CustAt.keeN {C p h : Addr} {n : Nat} {H H' : Hp} {gs : List (List Str)} {ps : List Str} {cm : Bool} (c : CustAt C H p gs ps cm) (ha : HandAt n H h) (e : KeeN h H H') : CustAt C H' p gs ps cm := by
  obtain ⟨xs, q⟩ := ha.lst
  exact c.but q fun b o n t hb => e b o n hb t
theorem TupG.keeN {h t : Addr} {n : Nat} {H H' : Hp} {gs : List (List Str)} (c : TupG H t gs) (ha : HandAt n H h) (e : KeeN h H H') : TupG H' t gs := c.tups fun b xs q => e b _ (ha.ne q fun ys z => by cases z) q fun ps z => by cases z
theorem TupG.ext {t : Addr} {H H' : Hp} {gs : List (List Str)} (c : TupG H t gs) (e : LamX.ExtN H H') : TupG H' t gs := c.tups fun b xs q => e b _ q fun ps z => by cases z
/-- a list of texts is not the hand -/
theorem HandAt.nstr {n : Nat} {H : Hp} {h l : Addr} {zs : List Str} (a : HandAt n H h) (e : H l = some (.lst (zs.map V.str))) : l ≠ h := fun z => by
  obtain ⟨g, s, c, q, _⟩ := a
  rw [z, q] at e
  cases zs with
  | nil => simp at e
  | cons x r => simp at e
theorem LstN {h l : Addr} {H H' : Hp} {n : Nat} {zs : List Str} (a : HandAt n H h) (e : H l = some (.lst (zs.map V.str))) (k : KeeN h H H') : H' l = some (.lst (zs.map V.str)) := k l _ (a.nstr e) e fun ps z => by cases z
theorem Oks.perm {xs ys : List Str} (h : Oks xs) (p : ys.Perm xs) : Oks ys := fun z hz => h z (p.mem_iff.mp hz)
theorem Oks.sub {xs ys : List Str} (h : Oks xs) (p : ∀ z ∈ ys, z ∈ xs) : Oks ys := fun z hz => h z (p z hz)
/-! the orders as the callers see it -/
structure Ko (P : Program) (w : World) (K : PySem.W.Frag) (mg : Str → Option Value) (base : Heap) (C Pt : Addr) : Type where
  f : Addr
  fd : FuncData
  ok : FnOk P w K mg base CX0 6 f fd ["self", "texts", "down"] (spOrder C Pt)
  me : Meth K C "in_order" f
  ds : List Value
  dv : Vals [.bl false] ds
  bd : Binds K fd ["self", "texts", "down"] ds
  kb : KBn K fd ["self", "texts", "down"] 2 ["down"] (fun us ws => us ++ ws) (fun vs zs => vs ++ zs)
section
variable {X : Cx} {j : Nat} {e o : Expr} {es : List Expr} {kws : List Keyword} {t tk : TA} {ta : TE} {p pos apos : Pos} {C Pt : Addr}
theorem pe_o {pl : Sem Bool} (c : Cls X.K C) (g : Ko X.prog X.w X.K X.mg X.base C Pt) (hr : Room j X.A) (hj : 6 ≤ j) (ho : PE X o ta) (ha : PA X (e :: es) t) (hst : starEach (e :: es) X.env = (false, eval e X.env) :: starEach es X.env := by rfl) (hpl : (backTo pos (starEach es X.env)).any (·.1) = false := by rfl)
    (ht : eval (.Call (.Attribute o "in_order" apos) (e :: es) [] pos) X.env = (do
      let ov ← eval o X.env
      standAt apos.atName
      let (f, first) ← holding [ov] (getMethod ov "in_order" pl)
      callWith pos f first (backTo pos (starEach (e :: es) X.env)) (backToKw pos (keywordEach [] X.env))) := by rfl) :
    PE X (.Call (.Attribute o "in_order" apos) (e :: es) [] pos) (tMeth C "in_order" (spOrder C Pt) [.bl false] E0 ta t) := pe_meth ho c g.me g.ok (hr.mono hj) g.bd g.dv pass0 ha hst hpl ht
theorem pe_oKw {pl : Sem Bool} (c : Cls X.K C) (g : Ko X.prog X.w X.K X.mg X.base C Pt) (hr : Room j X.A) (hj : 6 ≤ j) (ho : PE X o ta) (ha : PA X (e :: es) t) (hkw : PK X kws tk)
    (hall : (backToKw pos (keywordEach kws X.env)).all (·.1.isSome) = true := by rfl) (hks : (backToKw pos (keywordEach kws X.env)).filterMap (·.1) = [("down" : Str)] := by rfl)
    (he : starEach (e :: es) X.env = (false, eval e X.env) :: starEach es X.env := by rfl)
    (hpl : ((backTo pos (starEach (e :: es) X.env)).any (·.1) || (backToKw pos (keywordEach kws X.env)).any (·.1.isNone)) = false := by rfl)
    (ht : eval (.Call (.Attribute o "in_order" apos) (e :: es) kws pos) X.env = (do
      let ov ← eval o X.env
      standAt apos.atName
      let (f, first) ← holding [ov] (getMethod ov "in_order" pl)
      callWith pos f first (backTo pos (starEach (e :: es) X.env)) (backToKw pos (keywordEach kws X.env))) := by rfl) :
    PE X (.Call (.Attribute o "in_order" apos) (e :: es) kws pos) (fun σ H Q => ta σ H fun x H1 => ∃ a dx fs, x = .ref a ∧ H1 a = some (.ins C dx fs) ∧ fs.lookup ("in_order" : Str) = none ∧
      t σ H1 fun vs H2 => tk σ H2 fun zs H3 => vs.length = 1 ∧ zs.length = 1 ∧ spOrder C Pt ((x :: vs) ++ zs) H3 Q E0) := pe_methKw (n := 1) (ks := [("down" : Str)]) ho c g.me g.ok (hr.mono hj) g.kb pass0 ha hkw hall hks he hpl ht
end
/-- a call of in_order, downs left out: what its reading asks -/
theorem order_read {C Pt p l : Addr} {gs : List (List Str)} {ps : List Str} {cm dn : Bool} {zs : List Str} {H : Hp} {Q : VK} (hC : CustAt C H p gs ps cm) (hl : H l = some (.lst (zs.map V.str))) (ho : Oks zs) (hz : zs.length ≤ 1000) (hT : LamX.Tabs (tbs Pt) H)
    (k : ∀ H' r, LamX.ExtN H H' → LamX.Tabs (tbs Pt) H' → New H r → H' r = some (.lst ((if dn = true then (ksort (fBare gs ps) (lts gs) zs).reverse else ksort (fBare gs ps) (lts gs) zs).map V.str)) → Q (.ref r) H') :
    ∃ a dx fs, V.ref p = .ref a ∧ H a = some (.ins C dx fs) ∧ fs.lookup ("in_order" : Str) = none ∧ spOrder C Pt [.ref p, .ref l, .bl dn] H Q E0 := by
  obtain ⟨dx, tl, tp, d, kvs, hp, _⟩ := id hC
  exact ⟨p, dx, _, rfl, hp, lkMo _ _ _ _, p, l, gs, ps, cm, dn, zs, rfl, hC, hl, ho, hz, hT, k⟩
end K79
namespace K79
open PySem PySem.Spec PyProof.Rows L2
section
variable {P : Program} {w : World} {K : PySem.W.Frag} {mg : Str → Option Value} {base : Heap} {f : Addr} {fd : FuncData} {C Pt : Addr}
theorem cust_o {H : Hp} {p : Addr} {gs : List (List Str)} {ps : List Str} {cm : Bool} (h : CustAt C H p gs ps cm) : ∃ dx fs, H p = some (.ins C dx fs) ∧ fs.lookup ("in_order" : Str) = none := let ⟨dx, tl, tp, d, kvs, hp, _⟩ := h; ⟨dx, _, hp, lkMo _ _ _ _⟩
def spSorted (C Pt : Addr) : Sp := fun vs H Q _ => ∃ (h p l : Addr) (n : Nat) (gs : List (List Str)) (ps : List Str) (cm : Bool) (zs : List Str), vs = [.ref h, .ref p, .ref l] ∧ HandAt n H h ∧ n ≤ 10000000 ∧ CustAt C H p gs ps cm ∧ H l = some (.lst (zs.map V.str)) ∧ Oks zs ∧ zs.length ≤ 60 ∧ LamX.Tabs (tbs Pt) H ∧
  ∀ H', KeeN h H H' → HandAt (n + 2000) H' h → LamX.Tabs (tbs Pt) H' → Q (.bl true) H'
abbrev soN : List Str := ["_law_hand_here", "_law_custom", "_law_texts", "_law_due", "_law_cut", "_law_ranks", "_law_k", "_law_text_here"]
theorem scSorted : FnScope soN ["_law_hand_here", "_law_custom", "_law_texts"] (defScope sSorted) := ⟨rfl, rfl, rfl, by decide +kernel, rfl, by decide +kernel, by decide +kernel⟩
theorem ok_sorted (F : FunD K "_law_sorted_right" "_law_sorted_right" (defArgs sSorted) (defBody sSorted) (defScope sSorted) [] [] f fd) (T : Tx K mg C) (gO : Ko P w K mg base C Pt) (gT : Kn P w K mg base 1 "_law_take" ["_law_hand_here", "_law_many"] spTake)
    (gU : Kn P w K mg base 2 "_law_turned" ["_law_hand_here", "_law_texts"] spTurned) (gM : Kn P w K mg base 3 "_law_merged" ["_law_custom", "_law_one", "_law_other"] (spMerged C)) (gR : Km P w K mg base C 2 "rank" ["self", "text"] (spRank C)) (gS : Km P w K mg base C 2 "shown" ["self", "text"] (spShown C)) (gD : Km P w K mg base C 1 "read" ["self", "text"] (spRead C)) :
    FnOk P w K mg base CX0 7 f fd ["_law_hand_here", "_law_custom", "_law_texts"] (spSorted C Pt) := by
  refine ok0 F scSorted (fun vs H Q E h => ?_) (fun cdv A outer s H vs Q E hr h => ?_)
  · obtain ⟨h, p, l, n, gs, ps, cm, zs, rfl, _⟩ := h
    rfl
  · obtain ⟨h, p, l, n, gs, ps, cm, zs, rfl, hh, hn, hC, hl, hz, hzl, hT, q⟩ := h
    refine ⟨_, pss_cons (ps_set (i := 3) scSorted.nd rfl (Or.inl rfl) (pe_o T.cl gO hr (Nat.le_refl _) (pv 1) (pa_cons (pv 2) pa_nil)))
      (pss_cons (ps_if (PW.pt (pw_or (pt_cmpR (op_neD hr.units) (pe_o T.cl gO hr (Nat.le_refl _) (pv 1) (pa_cons (pe_k gU hr (by decide) (pa_cons (pv 0) (pa_cons (pv 2) pa_nil))) pa_nil)) (pv 3) (nomark _))
          (pw_or1 (pt_cmpR (op_neD hr.units) (pe_oKw T.cl gO hr (Nat.le_refl _) (pv 1) (pa_cons (pv 2) pa_nil) (pk_cons pe_bl pk_nil)) (pe_revL (pv 3)) (nomark _))))) (pss_one (ps_ret pe_bl)) pss_nil)
      (pss_cons (ps_set (i := 4) scSorted.nd rfl (Or.inl rfl) (pe_k gT hr (by decide) (pa_cons (pv 0) (pa_cons (pe_op op_add (pe_callB call_len_seq (by rfl) (T.f 2) PySem.boot_len (pa_cons (pv 2) pa_nil)) pe_int) pa_nil))))
      (pss_cons (ps_if (pt_cmpR (op_neD hr.units) (pe_k gM hr (by decide) (pa_cons (pv 1) (pa_cons (pe_o T.cl gO hr (Nat.le_refl _) (pv 1) (pa_cons (pe_slice sl_list (pv 2) po_none (po_some (pv 4))) pa_nil))
          (pa_cons (pe_o T.cl gO hr (Nat.le_refl _) (pv 1) (pa_cons (pe_slice sl_list (pv 2) (po_some (pv 4)) po_none) pa_nil)) pa_nil)))) (pv 3) (nomark _)) (pss_one (ps_ret pe_bl)) pss_nil)
      (pss_cons (ps_setLc (i := 5) (own := [("_law_text_here", 7)]) (g := gName 7) (tt := tYes) rfl scSorted.nd rfl rfl (sw_true rfl rfl rfl (by decide +kernel)) (pi_list (pv 3)) (blkOk_by (N := soN) (sc := defScope sSorted) (by decide +kernel)) (fun _ _ _ _ _ => pg_name (i := 7) scSorted.nd rfl (Or.inl rfl))
          (fun _ _ _ _ _ => pts_nil) (fun _ _ _ _ _ => pe_m T.cl gR hr (by decide) (pv 1) (pa_cons (pv 7) pa_nil)))
      (pss_cons (ps_for PassesOwn.never rfl (pi_range1 (by rfl) (T.f 12) (pa_cons (pe_op op_sub (pe_callB call_len_seq (by rfl) (T.f 2) PySem.boot_len (pa_cons (pv 5) pa_nil)) pe_int) pa_nil)) (pg_name (i := 6) scSorted.nd rfl (Or.inl rfl))
        (pss_one (ps_if (PW.pt (pw_or (pt_not (pt_cmpR (op_leD hr.units) (pe_ix ix_list (pv 5) (pv 6) (fun _ _ => rfl)) (pe_ix ix_list (pv 5) (pe_op op_add (pv 6) pe_int) (fun _ _ => rfl)) (nomark _)))
          (pw_or1 (pt_cmpR op_ne (pe_cmpR (op_eqD hr.units) (pe_ix ix_list (pv 5) (pv 6) (fun _ _ => rfl)) (pe_ix ix_list (pv 5) (pe_op op_add (pv 6) pe_int) (fun _ _ => rfl)) (nomark _))
            (pe_cmpR op_eq (pe_ix ix_list (pv 3) (pv 6) (fun _ _ => rfl)) (pe_ix ix_list (pv 3) (pe_op op_add (pv 6) pe_int) (fun _ _ => rfl)) (nomark _)) (nomark _))))) (pss_one (ps_ret pe_bl)) pss_nil)))
      (pss_one (ps_ret (pe_and (pe_cmpR (op_eqD hr.units) (pe_lc (own := [("_law_text_here", 7)]) (g := gName 7) (tt := tYes) rfl scSorted.nd (pi_list (pv 3)) (blkOk_by (N := soN) (sc := defScope sSorted) (by decide +kernel)) (fun _ _ _ _ _ => pg_name (i := 7) scSorted.nd rfl (Or.inl rfl)) (fun _ _ _ _ _ => pts_nil)
            (fun _ _ _ _ _ => pe_m T.cl gD hr (by decide) (pv 1) (pa_cons (pe_m T.cl gS hr (by decide) (pv 1) (pa_cons (pv 7) pa_nil)) pa_nil))) (pv 3) (nomark _))
          (pe_one (pe_cmpR (op_eqD hr.units) (pe_callB cr_sortedS (by rfl) (T.f 8) (by decide +kernel) (pa_cons (pv 3) pa_nil)) (pe_callB cr_sortedS (by rfl) (T.f 8) (by decide +kernel) (pa_cons (pv 2) pa_nil)) (nomark _))))))))))), ?_⟩
    obtain ⟨S, hS⟩ : ∃ S, S = ksort (fBare gs ps) (lts gs) zs := ⟨_, rfl⟩
    have hSp : S.Perm zs := by rw [hS]; exact ksort_perm _
    have hSo : Oks S := hz.perm hSp
    have hSa := oks_asc hSo
    have hSl := hSp.length_eq
    have nf : ¬ (false = true) := Bool.false_ne_true
    obtain ⟨dx, fs, hp, lo⟩ := cust_o hC
    refine ⟨_, rfl, p, dx, fs, rfl, hp, lo, _, rfl, p, l, gs, ps, cm, false, zs, rfl, hC, hl, hz, by omega, hT, fun H1 d x1 t1 n1 hd1 => ?_⟩
    rw [if_neg nf, ← hS] at hd1
    have hC1 := hC.ext x1
    have hh1 := hh.ext x1
    have k1 : KeeN h H H1 := KeeN.ext x1
    have hl1 := LstN hh hl k1
    clear x1 n1
    -- turned about
    obtain ⟨dx1, fs1, hp1, lo1⟩ := cust_o hC1
    refine ⟨_, rfl, p, dx1, fs1, rfl, hp1, lo1, _, rfl, _, rfl, h, l, n, zs, rfl, hh1, by omega, hl1, hz, by omega, fun H2 r ys k2' hh2 hr0 hr2 py => ?_⟩
    have k2 := k2'.n
    have hC2 := hC1.keeN hh1 k2
    have t2 := tabs_kee t1 hh1 k2'
    have hl2 := LstN hh1 hl1 k2
    have hd2 := LstN hh1 hd1 k2
    refine ⟨p, r, gs, ps, cm, false, ys, rfl, hC2, hr2, hz.perm py, by rw [py.length_eq]; omega, t2, fun H3 a3 x3 t3 n3 ha3 => ?_⟩
    rw [if_neg nf, ksort_congr py, ← hS] at ha3
    have k3 : KeeN h H2 H3 := KeeN.ext x3
    have hC3 := hC2.ext x3
    have hh3 := hh2.ext x3
    have hl3 := LstN hh2 hl2 k3
    have hd3 := LstN hh2 hd2 k3
    refine ⟨_, rfl, .list (S.map .str), .list (S.map .str), .lst (.of ha3) (dp_strs S), .lst (.of hd3) (dp_strs S), shaped_strsL hSa, shaped_strsL hSa, _, rfl, ?_⟩
    rw [eqv_lst, decide_eq_true rfl]
    refine iteF ?_
    -- down
    obtain ⟨dx3, fs3, hp3, lo3⟩ := cust_o hC3
    refine ⟨_, rfl, p, dx3, fs3, rfl, hp3, lo3, _, rfl, rfl, rfl, p, l, gs, ps, cm, true, zs, rfl, hC3, hl3, hz, by omega, t3, fun H4 a4 x4 t4 n4 ha4 => ?_⟩
    rw [if_pos rfl, ← hS] at ha4
    have k4 : KeeN h H3 H4 := KeeN.ext x4
    have hC4 := hC3.ext x4
    have hh4 := hh3.ext x4
    have hl4 := LstN hh3 hl3 k4
    have hd4 := LstN hh3 hd3 k4
    refine ⟨_, rfl, d, _, rfl, .of hd4, fun b5 hb5 => ?_⟩
    rw [← List.map_reverse]
    have s5 := same_new (o := .lst (S.reverse.map V.str)) hb5
    have hSr : ∀ z ∈ S.reverse, Asc z := fun z hz => hSa z (List.mem_reverse.mp hz)
    refine ⟨.list (S.reverse.map .str), .list (S.reverse.map .str), .lst (.of (s5 _ _ ha4)) (dp_strs _), .lst (.of upd_same) (dp_strs _), shaped_strsL hSr, shaped_strsL hSr, _, rfl, ?_⟩
    rw [eqv_lst, decide_eq_true rfl]
    have k5 : KeeN h H (upd H4 b5 (.lst (S.reverse.map V.str))) := k1.trans (k2.trans (k3.trans (k4.trans (KeeN.same s5))))
    have hC5 := hC4.same s5
    have hh5 := hh4.same s5
    have hl5 := s5 _ _ hl4
    have hd5 := s5 _ _ hd4
    have t5 := t4.ext s5
    generalize upd H4 b5 (.lst (S.reverse.map V.str)) = H5 at k5 hC5 hh5 hl5 hd5 t5 ⊢
    clear k4 hC4 hh4 hl4 hd4 t4 x4 n4 ha4 k3 hC3 hh3 hl3 hd3 t3 x3 n3 ha3 k2 k2' hC2 hh2 hl2 hd2 t2 hr2 k1 hC1 hh1 hl1 hd1 t1 hp1 hp3 s5 hb5 hp
    refine iteF ?_
    -- the cut
    refine ⟨_, rfl, _, rfl, l, _, rfl, .inl (.of hl5), _, _, rfl, rfl, h, _, _, rfl, hh5, by omega, by omega, by rw [List.length_map]; omega, fun H6 c k6' hh6 c0 c1 => ?_⟩
    rw [List.length_map] at c1
    obtain ⟨m, rfl⟩ := Int.eq_ofNat_of_zero_le c0
    have hm : m ≤ zs.length := by omega
    have k6 := k6'.n
    have hC6 := hC5.keeN hh5 k6
    have t6 := tabs_kee t5 hh5 k6'
    have hl6 := LstN hh5 hl5 k6
    have hd6 := LstN hh5 hd5 k6
    have kk6 := k5.trans k6
    clear k5 hC5 t5 hl5 hd5 k6 k6' hh5
    -- merged
    obtain ⟨dx6, fs6, hp6, lo6⟩ := cust_o hC6
    refine ⟨_, rfl, _, rfl, p, dx6, fs6, rfl, hp6, lo6, _, rfl, _, rfl, _, rfl, l, _, rfl, .of hl6, fun b7 hb7 => ?_⟩
    rw [cutV_take _ _ (by rw [List.length_map]; exact hm), ← List.map_take]
    have s7 := same_new (o := .lst ((zs.take m).map V.str)) hb7
    have hb7' : upd H6 b7 (.lst ((zs.take m).map V.str)) b7 = some (.lst ((zs.take m).map V.str)) := upd_same
    generalize upd H6 b7 (.lst ((zs.take m).map V.str)) = H7 at s7 hb7' ⊢
    have hz1 : Oks (zs.take m) := hz.sub fun z q => List.mem_of_mem_take q
    have hz2 : Oks (zs.drop m) := hz.sub fun z q => List.mem_of_mem_drop q
    refine ⟨p, b7, gs, ps, cm, false, zs.take m, rfl, hC6.same s7, hb7', hz1, by rw [List.length_take]; omega, t6.ext s7, fun H8 a8 x8 t8 n8 ha8 => ?_⟩
    rw [if_neg nf] at ha8
    have hC8 := (hC6.same s7).ext x8
    have hh8 := (hh6.same s7).ext x8
    have k8 : KeeN h H6 H8 := (KeeN.same s7).trans (KeeN.ext x8)
    have hl8 := LstN hh6 hl6 k8
    have hd8 := LstN hh6 hd6 k8
    obtain ⟨dx8, fs8, hp8, lo8⟩ := cust_o hC8
    refine ⟨_, rfl, p, dx8, fs8, rfl, hp8, lo8, _, rfl, _, rfl, _, rfl, l, _, rfl, .of hl8, fun b9 hb9 => ?_⟩
    rw [cutV_drop _ _ (by rw [List.length_map]; exact hm), ← List.map_drop]
    have s9 := same_new (o := .lst ((zs.drop m).map V.str)) hb9
    have hb9' : upd H8 b9 (.lst ((zs.drop m).map V.str)) b9 = some (.lst ((zs.drop m).map V.str)) := upd_same
    generalize upd H8 b9 (.lst ((zs.drop m).map V.str)) = H9 at s9 hb9' ⊢
    refine ⟨p, b9, gs, ps, cm, false, zs.drop m, rfl, hC8.same s9, hb9', hz2, by rw [List.length_drop]; omega, t8.ext s9, fun H10 a10 x10 t10 n10 ha10 => ?_⟩
    rw [if_neg nf] at ha10
    have hC10 := (hC8.same s9).ext x10
    have hh10 := (hh8.same s9).ext x10
    have k10 : KeeN h H8 H10 := (KeeN.same s9).trans (KeeN.ext x10)
    have hl10 := LstN hh8 hl8 k10
    have hd10 := LstN hh8 hd8 k10
    have ha8' := LstN hh8 ha8 k10
    have kk10 := kk6.trans (k8.trans k10)
    clear kk6 k8 k10 hl8 hd8 ha8 hC8 hh8 x8 x10 n8 n10 s7 s9 hb7 hb7' hb9 hb9' hC6 hh6 hl6 hd6 t6 t8 hp6 hp8
    refine ⟨p, a8, a10, gs, ps, cm, _, _, rfl, hC10, ha8', ha10, hz1.perm (ksort_perm _), hz2.perm (ksort_perm _), by rw [(ksort_perm _).length_eq, (ksort_perm _).length_eq, List.length_take, List.length_drop]; omega, fun H11 r11 s11 hr11 ha11 => ?_⟩
    rw [ksort_merge, ← hS] at ha11
    have hd11 := s11 _ _ hd10
    refine ⟨_, rfl, .list (S.map .str), .list (S.map .str), .lst (.of ha11) (dp_strs S), .lst (.of hd11) (dp_strs S), shaped_strsL hSa, shaped_strsL hSa, _, rfl, ?_⟩
    rw [eqv_lst, decide_eq_true rfl]
    refine iteF ?_
    have hC11 := hC10.same s11
    have hh11 := hh10.same s11
    have t11 := t10.ext s11
    have hl11 := s11 _ _ hl10
    have kk11 := kk10.trans (KeeN.same s11)
    clear s11 ha11 hr11 hC10 hh10 t10 hl10 kk10 ha8' ha10 hd10
    -- the ranks
    refine ⟨_, rfl, d, rfl, ⟨_, .of hd11⟩, fun D hD => ?_⟩
    refine lc_it (walk_list (K := K) (a := d) (xs := S.map V.str)) (fun i H' => ∃ vs : List V, Same H11 H' ∧ H' D = some (.lst vs) ∧ vs.length = i ∧ ∀ (j : Nat) (v : V) (z : Str), vs[j]? = some v → S[j]? = some z → KP (fBare gs ps) (lts gs) H' v z)
      ⟨[], same_new hD, upd_same, rfl, fun j v z hv => by simp at hv⟩ (fun i H' _ ⟨vs, s, _⟩ => .of (s _ _ hd11)) ?_ ?_
    · rintro i x H12 H13 hi ⟨vs, s12, hD12, hvl, hvs⟩ ⟨rfl, hx⟩
      obtain ⟨z, hg, rfl⟩ := map_get hx
      rw [List.length_map] at hi
      have kz := hSo z (List.mem_of_getElem? hg)
      have hC12 := hC11.same s12
      obtain ⟨dx12, tl12, tp12, d12, kvs12, hp12, _⟩ := id hC12
      refine ⟨rfl, _, rfl, p, dx12, _, rfl, hp12, lkMr _ _ _ _, _, rfl, p, gs, ps, cm, z, rfl, hC12, kz.1.asc, Nat.le_trans kz.2 (by decide), fun H14 v s14 kp => ?_⟩
      have hD14 := s14 _ _ hD12
      have tk : ∀ b xs, H14 b = some (.tup xs) → upd H14 D (.lst (vs ++ [v])) b = some (.tup xs) := fun b xs e => by rw [upd_ne (ne_of e hD14 (by intro z; cases z))]; exact e
      refine ⟨vs, hD14, by rw [hvl]; exact Nat.lt_of_lt_of_le (show i < 100 by omega) (by decide), vs ++ [v], fun b o e => by rw [upd_ne (ne_of_none e hD)]; exact s14 _ _ (s12 _ _ e), upd_same, by rw [List.length_append, hvl]; rfl, fun j v' z' hv hz' => ?_⟩
      by_cases hj : j < vs.length
      · rw [List.getElem?_append_left hj] at hv
        exact ((hvs j v' z' hv hz').same s14).tups tk
      · have ej : j = i := by
          have := (List.getElem?_eq_some_iff.mp hv).1
          rw [List.length_append, List.length_singleton] at this
          omega
        subst ej
        rw [← hvl, List.getElem?_append_right (Nat.le_refl _), Nat.sub_self] at hv
        cases hv
        rw [hg] at hz'
        cases hz'
        exact kp.tups tk
    rintro H12 ⟨vs, s12, hD12, hvl, hvs⟩
    rw [List.length_map] at hvl
    have hC12 := hC11.same s12
    have hh12 := hh11.same s12
    have t12 := t11.ext s12
    have hl12 := s12 _ _ hl11
    have hd12 := s12 _ _ hd11
    have kk12 := kk11.trans (KeeN.same s12)
    clear hC11 hh11 t11 hl11 hd11 kk11 hD
    have hSw : S.Pairwise (fun a b => kle (fBare gs ps) (lts gs) a b = true) := by rw [hS]; exact ksort_pw _
    refine ⟨_, rfl, D, vs, rfl, .inl (.of hD12), _, _, rfl, rfl, _, rfl, by omega, by omega, ?_⟩
    refine for_range (fun i σ H' => (∃ (v6 v7 : Option V), σ = [some (.ref h), some (.ref p), some (.ref l), some (.ref d), some (.int (m : Nat)), some (.ref D), v6, v7]) ∧ H' = H12) ⟨⟨_, _, rfl⟩, rfl⟩ ?_ ?_
    · rintro i σ H' hi ⟨⟨v6, v7, rfl⟩, rfl⟩
      have i1 : i + 1 < vs.length := by omega
      have i2 : i + 1 < S.length := by omega
      obtain ⟨v1, hv1⟩ : ∃ v, vs[i]? = some v := ⟨vs[i], by simp⟩
      obtain ⟨v2, hv2⟩ : ∃ v, vs[i + 1]? = some v := ⟨vs[i + 1], by simp [i1]⟩
      obtain ⟨z1, hz1'⟩ : ∃ z, S[i]? = some z := ⟨S[i], by simp⟩
      obtain ⟨z2, hz2'⟩ : ∃ z, S[i + 1]? = some z := ⟨S[i + 1], by simp [i2]⟩
      have kp1 := hvs i v1 z1 hv1 hz1'
      have kp2 := hvs (i + 1) v2 z2 hv2 hz2'
      have e1 : ((0 : Int) + (i : Nat)) = ((i : Nat) : Int) := by omega
      have e2 : ((0 : Int) + (i : Nat) + 1) = ((i + 1 : Nat) : Int) := by omega
      have at1 : atI vs ((0 : Int) + (i : Nat)) = some v1 := by rw [e1]; exact atI_nat hv1
      have at2 : atI vs ((0 : Int) + (i : Nat) + 1) = some v2 := by rw [e2]; exact atI_nat hv2
      have az1 : atI (S.map V.str) ((0 : Int) + (i : Nat)) = some (.str z1) := by rw [e1]; exact atI_nat (by rw [List.getElem?_map, hz1']; rfl)
      have az2 : atI (S.map V.str) ((0 : Int) + (i : Nat) + 1) = some (.str z2) := by rw [e2]; exact atI_nat (by rw [List.getElem?_map, hz2']; rfl)
      have hle : kle (fBare gs ps) (lts gs) z1 z2 = true := by
        obtain ⟨g1, q1⟩ := List.getElem?_eq_some_iff.mp hz1'
        obtain ⟨g2, q2⟩ := List.getElem?_eq_some_iff.mp hz2'
        rw [← q1, ← q2]
        exact List.pairwise_iff_getElem.mp hSw i (i + 1) g1 g2 (Nat.lt_succ_self _)
      have sh1 := kd_shaped (fBare gs ps z1) (lts gs z1) (hSa z1 (List.mem_of_getElem? hz1'))
      have sh2 := kd_shaped (fBare gs ps z2) (lts gs z2) (hSa z2 (List.mem_of_getElem? hz2'))
      refine ⟨_, rfl, _, rfl, D, vs, _, _, rfl, rfl, .of hD12, at1, _, rfl, _, rfl, _, _, rfl, rfl, D, vs, _, _, rfl, rfl, .of hD12, at2, _, _, kp1.dp, kp2.dp, kd_alike _ _ _ _ _ _, PyData.noConfusion, by rw [kd_depth]; decide, _, rfl, ?_⟩
      rw [← kle_eq, hle]
      refine iteF ?_
      refine ⟨_, rfl, _, rfl, D, vs, _, _, rfl, rfl, .of hD12, at1, _, rfl, _, rfl, _, _, rfl, rfl, D, vs, _, _, rfl, rfl, .of hD12, at2, _, _, kp1.dp, kp2.dp, sh1, sh2, ?_⟩
      refine ⟨_, rfl, _, rfl, d, _, _, _, rfl, rfl, .of hd12, az1, _, rfl, _, rfl, _, _, rfl, rfl, d, _, _, _, rfl, rfl, .of hd12, az2, rfl, rfl, _, rfl, ?_⟩
      have ev : (!decide (V.bl (PyData.eqv (kd (fBare gs ps z1) (lts gs z1) z1) (kd (fBare gs ps z2) (lts gs z2) z2)) = V.bl (decide (V.str z1 = V.str z2)))) = false := by
        rw [kd_eqv]
        by_cases e : z1 = z2
        · subst e; simp
        · have n1 : ¬ (fBare gs ps z1 = fBare gs ps z2 ∧ lts gs z1 = lts gs z2 ∧ z1 = z2) := fun q => e q.2.2
          have n2 : ¬ V.str z1 = V.str z2 := fun q => e (V.str.inj q)
          rw [decide_eq_false n1, decide_eq_false n2]
          simp
      rw [ev]
      refine iteF ⟨⟨_, _, rfl⟩, rfl⟩
    · rintro σ H' ⟨⟨v6, v7, rfl⟩, rfl⟩
      refine ⟨_, rfl, d, rfl, ⟨_, .of hd12⟩, fun D2 hD2 => ?_⟩
      refine lc_same (walk_list (K := K) (a := d) (xs := S.map V.str)) hD2 (S.map V.str) rfl (by rw [List.length_map]; exact Nat.le_trans (show S.length ≤ 100 by omega) (by decide)) (fun H1 s1 => .of (s1 _ _ hd12)) ?_ ?_
      · rintro i x H13 H14 y R hi s13 ⟨rfl, hx⟩ hy hR
        obtain ⟨z, hg, rfl⟩ := map_get hx
        have kz := hSo z (List.mem_of_getElem? hg)
        have hC13 := hC12.same s13
        obtain ⟨dx, tl, tp, dd, kvs, hp, _⟩ := id hC13
        refine ⟨rfl, _, rfl, p, dx, _, rfl, hp, lkMd _ _ _ _, _, rfl, p, dx, _, rfl, hp, lkMs _ _ _ _, _, rfl, p, gs, ps, cm, z, rfl, hC13, kz.1.asc, Nat.le_trans kz.2 (by decide), fun H15 s15 => ?_⟩
        have hsz := shown_size (ps := ps) (cm := cm) (z := z)
        refine ⟨p, _, rfl, by have := kz.2; omega, fun H16 s16 => ?_⟩
        rw [read_shown kz.1]
        rw [List.getElem?_map, hg] at hy
        cases hy
        exact hR _ (s15.trans s16)
      · intro H13 s13 hD13
        have hd13 := s13 _ _ hd12
        have hl13 := s13 _ _ hl12
        refine ⟨_, rfl, .list (S.map .str), .list (S.map .str), .lst (.of hD13) (dp_strs S), .lst (.of hd13) (dp_strs S), shaped_strsL hSa, shaped_strsL hSa, _, rfl, ?_⟩
        rw [eqv_lst, decide_eq_true rfl]
        refine iteT ?_
        refine ⟨_, rfl, d, S, rfl, .of hd13, by omega, fun y1 p1 q1 o1 hp1 => ?_⟩
        have s14 := same_new (o := .lst (y1.map V.str)) hp1
        refine ⟨_, rfl, l, zs, rfl, .of (s14 _ _ hl13), by omega, fun y2 p2 q2 o2 hp2 => ?_⟩
        have s15 := same_new (o := .lst (y2.map V.str)) hp2
        have ey : y1 = y2 := sorted_eq (q1.trans (hSp.trans q2.symm)) o1 o2
        subst ey
        have ya : ∀ z ∈ y1, Asc z := fun z hz' => hSa z (q1.mem_iff.mp hz')
        refine ⟨.list (y1.map .str), .list (y1.map .str), .lst (.of (s15 _ _ upd_same)) (dp_strs y1), .lst (.of upd_same) (dp_strs y1), shaped_strsL ya, shaped_strsL ya, ?_⟩
        rw [eqv_lst, decide_eq_true rfl]
        have sF := s13.trans (s14.trans s15)
        exact q _ (kk12.trans (KeeN.same sF)) ((hh12.same sF).mono (by omega)) (t12.ext sF)
end
end K79
namespace K79
open PySem PySem.Spec PyProof.Rows L2
theorem eqV_str (x y : Str) : eqV (.str x) (.str y) = decide (x = y) := by
  by_cases h : x = y
  · subst h; simp [eqV]
  · simp [eqV, h]
/-- the first place -/
theorem first_at : ∀ (S : List Str) (y : Str), y ∈ S → ∃ j, S[j]? = some y ∧ ∀ (m : Nat) (z : Str), m < j → S[m]? = some z → z ≠ y
  | [], _, h => by simp at h
  | x :: r, y, h => by
    by_cases e : x = y
    · exact ⟨0, by rw [e]; rfl, fun m z hm => by omega⟩
    · have h' : y ∈ r := by
        rcases List.mem_cons.mp h with q | q
        · exact absurd q.symm e
        · exact q
      obtain ⟨j, h1, h2⟩ := first_at r y h'
      refine ⟨j + 1, by simpa using h1, fun m z hm hz => ?_⟩
      cases m with
      | zero => simp at hz; rw [← hz]; exact e
      | succ m => exact h2 m z (by omega) (by simpa using hz)
theorem first_index {S : List Str} {y : Str} (hy : y ∈ S) : ∃ j : Nat, S[j]? = some y ∧ (S.map V.str)[j]? = some (.str y) ∧ eqV (.str y) (.str y) = true ∧ ∀ (m : Nat) (z' : V), m < j → (S.map V.str)[m]? = some z' → eqV z' (.str y) = false := by
  obtain ⟨j, h1, h2⟩ := first_at S y hy
  refine ⟨j, h1, by rw [List.getElem?_map, h1]; rfl, by rw [eqV_str]; simp, fun m z' hm hz => ?_⟩
  obtain ⟨z, hz2, rfl⟩ := map_get hz
  rw [eqV_str]
  exact decide_eq_false (h2 m z hm hz2)
theorem all_false {α : Type} (xs : List α) : (xs.map fun _ => false).any id = false := by
  induction xs with
  | nil => rfl
  | cons x xs ih => rw [List.map_cons, List.any_cons, ih]; rfl
/-- two numbers in order -/
theorem two_sorted {a b : Nat} {ns : List Int} (p : ns.Perm [(a : Int), (b : Int)]) (h : ns.Pairwise (· ≤ ·)) : ns = [((min a b : Nat) : Int), ((max a b : Nat) : Int)] := by
  refine List.Perm.eq_of_pairwise (le := (· ≤ ·)) (fun x y _ _ q r => Int.le_antisymm q r) h ?_ (p.trans ?_)
  · simp; omega
  · by_cases e : a ≤ b
    · rw [Nat.min_eq_left e, Nat.max_eq_right e]
    · rw [Nat.min_eq_right (by omega), Nat.max_eq_left (by omega)]
      exact List.Perm.swap _ _ _
section
variable {P : Program} {w : World} {K : PySem.W.Frag} {mg : Str → Option Value} {base : Heap} {f : Addr} {fd : FuncData} {C Pt : Addr}
/-- the texts of the law, as made -/
def Txs (zs : List Str) : Prop := ∀ z ∈ zs, Ok z ∧ z.cps.size ≤ 100
theorem Txs.oks {zs : List Str} (h : Txs zs) : Oks zs := fun z hz => ⟨(h z hz).1, Nat.le_trans (h z hz).2 (by decide)⟩
def spNear (C Pt : Addr) : Sp := fun vs H Q _ => ∃ (h p tl l : Addr) (n : Nat) (gs : List (List Str)) (ps : List Str) (cm : Bool) (zs : List Str), vs = [.ref h, .ref p, .ref tl, .ref l] ∧ HandAt n H h ∧ n ≤ 10000000 ∧ CustAt C H p gs ps cm ∧ TupG H tl gs ∧ IsLets gs ∧ H l = some (.lst (zs.map V.str)) ∧ Txs zs ∧ zs.length ≤ 60 ∧ LamX.Tabs (tbs Pt) H ∧
  ∀ H', KeeN h H H' → HandAt (n + 60000) H' h → LamX.Tabs (tbs Pt) H' → Q (.bl true) H'
abbrev neN : List Str := ["_law_hand_here", "_law_custom", "_law_letters_here", "_law_texts", "_law_text_here", "_law_near", "_law_row", "_law_ends", "_law_one"]
theorem scNear : FnScope neN ["_law_hand_here", "_law_custom", "_law_letters_here", "_law_texts"] (defScope sNear) := ⟨rfl, rfl, rfl, by decide +kernel, rfl, by decide +kernel, by decide +kernel⟩
theorem ok_near (F : FunD K "_law_near_right" "_law_near_right" (defArgs sNear) (defBody sNear) (defScope sNear) [] [] f fd) (T : Tx K mg C) (gO : Ko P w K mg base C Pt) (gE : Kn P w K mg base 3 "_law_exchanged" ["_law_hand_here", "_law_letters_here", "_law_text_here"] spExch)
    (gB : Km P w K mg base C 1 "bare" ["self", "text"] (spBare C)) (gK : Kn P w K mg base 3 "_law_key" ["_law_custom", "_law_text_here"] (spKey C)) :
    FnOk P w K mg base CX0 7 f fd ["_law_hand_here", "_law_custom", "_law_letters_here", "_law_texts"] (spNear C Pt) := by
  refine ok0 F scNear (fun vs H Q E h => ?_) (fun cdv A outer s H vs Q E hr h => ?_)
  · obtain ⟨h, p, tl, l, n, gs, ps, cm, zs, rfl, _⟩ := h
    rfl
  · obtain ⟨h, p, tl, l, n, gs, ps, cm, zs, rfl, hh, hn, hC, hT, hG, hl, hz, hzl, hTb, q⟩ := h
    refine ⟨_, pss_cons (ps_for PassesOwn.never rfl (pi_list (pv 3)) (pg_name (i := 4) scNear.nd rfl (Or.inr rfl))
        (pss_cons (ps_set (i := 5) scNear.nd rfl (Or.inl rfl) (pe_k gE hr (by decide) (pa_cons (pv 0) (pa_cons (pv 2) (pa_cons (pv 4) pa_nil)))))
        (C8.pss_cut (ps_if (PW.pt (pw_or (pt_cmpR op_ne (pe_m T.cl gB hr (by decide) (pv 1) (pa_cons (pv 4) pa_nil)) (pv 4) (nomark _)) (pw_or1 (pt_cmpR op_ne (pe_m T.cl gB hr (by decide) (pv 1) (pa_cons (pv 5) pa_nil)) (pv 5) (nomark _)))))
          (pss_one (ps_set (i := 5) scNear.nd rfl (Or.inl rfl) (pv 4))) pss_nil)
        (pss_cons (ps_if (pt_cmpR (op_neD hr.units) (pe_k gK hr (by decide) (pa_cons (pv 1) (pa_cons (pv 5) pa_nil))) (pe_k gK hr (by decide) (pa_cons (pv 1) (pa_cons (pv 4) pa_nil))) (nomark _)) (pss_one (ps_ret pe_bl)) pss_nil)
        (pss_cons (ps_set (i := 6) scNear.nd rfl (Or.inl rfl) (pe_o T.cl gO hr (Nat.le_refl _) (pv 1) (pa_cons (pe_op op_cat (pv 3) (pe_lst (pa_cons (pv 5) pa_nil))) pa_nil)))
        (pss_cons (ps_set (i := 7) scNear.nd rfl (Or.inl rfl) (pe_callB cr_sorted (by rfl) (T.f 8) (by decide +kernel) (pa_cons (pe_lst (pa_cons (pe_bm PySem.F.plainAttrs_list PySem.F.slot_list_index PySem.F.type_list_index mt_index (pv 6) (pa_cons (pv 5) pa_nil))
            (pa_cons (pe_bm PySem.F.plainAttrs_list PySem.F.slot_list_index PySem.F.type_list_index mt_index (pv 6) (pa_cons (pv 4) pa_nil)) pa_nil))) pa_nil)))
        (pss_one (ps_if (pt_val (pe_callB (cr_any rfl) (by rfl) (T.f 15) (by decide +kernel) (pa_cons
          (pe_lc (own := [("_law_one", 8)]) (g := gName 8) (tt := tYes) (te := tOp (rNeD K) (tCall (spKey C) [] E0 (tCons (tVar 1) (tCons (tVar 8) tNil))) (tCall (spKey C) [] E0 (tCons (tVar 1) (tCons (tVar 4) tNil)))) rfl scNear.nd (pi_list (pe_slice sl_list (pv 6) (po_some (pe_ix ix_list (pv 7) pe_int (fun _ _ => rfl))) (po_some (pe_op op_add (pe_ix ix_list (pv 7) pe_int (fun _ _ => rfl)) pe_int)))) (blkOk_by (N := neN) (sc := defScope sNear) (by decide +kernel)) (fun _ _ _ _ _ => pg_name (i := 8) scNear.nd rfl (Or.inl rfl)) (fun _ _ _ _ _ => pts_nil)
            (fun _ _ _ _ _ => pe_cmpR (op_neD hr.units) (pe_k gK hr (by decide) (pa_cons (pv 1) (pa_cons (pv 8) pa_nil))) (pe_k gK hr (by decide) (pa_cons (pv 1) (pa_cons (pv 4) pa_nil))) (nomark _))) pa_nil))) (pss_one (ps_ret pe_bl)) pss_nil))))))))
      (pss_one (ps_ret pe_bl)), ?_⟩
    refine ⟨_, rfl, l, rfl, ⟨_, .of hl⟩, for_it (walk_list (K := K) (a := l) (xs := zs.map V.str))
      (fun i σ H' => (∃ (v4 v5 v6 v7 v8 : Option V), σ = [some (.ref h), some (.ref p), some (.ref tl), some (.ref l), v4, v5, v6, v7, v8]) ∧ KeeN h H H' ∧ HandAt (n + i * 1000) H' h ∧ LamX.Tabs (tbs Pt) H') ⟨⟨_, _, _, _, _, rfl⟩, KeeN.refl _ _, hh.mono (by omega), hTb⟩ ?_ ?_ ?_⟩
    · rintro i σ H' _ ⟨_, k, _⟩
      exact .of (LstN hh hl k)
    · rintro i x σ H1 H2 hi ⟨⟨v4, v5, v6, v7, v8, rfl⟩, k2, hh2, t2⟩ ⟨rfl, hx⟩
      obtain ⟨z, hg, rfl⟩ := map_get hx
      rw [List.length_map] at hi
      have zin := List.mem_of_getElem? hg
      have kz := hz z zin
      have hC2 := hC.keeN hh k2
      have hT2 := hT.keeN hh k2
      refine ⟨_, rfl, _, rfl, _, rfl, h, tl, _, gs, z, rfl, hh2, by omega, hT2, hG, kz.1, kz.2, fun H3 z' k3' hh3 ok' sz' lt' => ?_⟩
      have k3 := k3'.n
      have hC3 := hC2.keeN hh2 k3
      have t3 := tabs_kee t2 hh2 k3'
      have kk3 := k2.trans k3
      clear k2 hC2 hT2 t2 k3 k3' hh2
      refine ⟨fun σ' H' => ∃ y : Str, σ' = [some (.ref h), some (.ref p), some (.ref tl), some (.ref l), some (.str z), some (.str y), v6, v7, v8] ∧ Same H3 H' ∧ Ok y ∧ y.cps.size ≤ 200 ∧ fBare gs ps y = fBare gs ps z ∧ lts gs y = lts gs z, ?_, ?_⟩
      · obtain ⟨dx, tl', tp', d', kvs, hp, _⟩ := id hC3
        refine ⟨_, rfl, p, dx, _, rfl, hp, lkMb _ _ _ _, _, rfl, p, gs, ps, cm, z, rfl, hC3, kz.1.asc, Nat.le_trans kz.2 (by decide), fun H4 s4 => ⟨_, rfl, rfl, _, rfl, ?_⟩⟩
        by_cases e1 : bareS ps z = z
        · have d1 : (!decide (V.str (bareS ps z) = V.str z)) = false := by rw [e1]; simp
          rw [d1]
          refine iteF ?_
          refine ⟨_, rfl, p, dx, _, rfl, s4 _ _ hp, lkMb _ _ _ _, _, rfl, p, gs, ps, cm, z', rfl, hC3.same s4, ok'.asc, Nat.le_trans sz' (by decide), fun H5 s5 => ⟨_, rfl, rfl, _, rfl, ?_⟩⟩
          by_cases e2 : bareS ps z' = z'
          · have d2 : (!decide (V.str (bareS ps z') = V.str z')) = false := by rw [e2]; simp
            rw [d2]
            refine iteF ⟨z', rfl, s4.trans s5, ok', sz', ?_, lt'⟩
            show lts gs (bareS ps z') = lts gs (bareS ps z)
            rw [e1, e2, lt']
          · have n2 : ¬ V.str (bareS ps z') = V.str z' := fun q => e2 (V.str.inj q)
            rw [decide_eq_false n2]
            exact iteT ⟨_, rfl, z, rfl, s4.trans s5, kz.1, Nat.le_trans kz.2 (by decide), rfl, rfl⟩
        · have n1 : ¬ V.str (bareS ps z) = V.str z := fun q => e1 (V.str.inj q)
          rw [decide_eq_false n1]
          exact iteT ⟨_, rfl, z, rfl, s4, kz.1, Nat.le_trans kz.2 (by decide), rfl, rfl⟩
      rintro σ' H4 ⟨y, rfl, s4, oky, szy, fy, gy⟩
      have hC4 := hC3.same s4
      have l1000 : 200 ≤ 1000 := by decide
      refine ⟨_, rfl, _, rfl, p, gs, ps, cm, y, rfl, hC4, oky.asc, Nat.le_trans szy l1000, fun H5 w5 s5 kw5 => ?_⟩
      refine ⟨_, rfl, _, rfl, p, gs, ps, cm, z, rfl, hC4.same s5, kz.1.asc, Nat.le_trans kz.2 (by decide), fun H6 w6 s6 kw6 => ?_⟩
      refine ⟨_, _, (kw5.same s6).dp, kw6.dp, kd2_shaped _ _, kd2_shaped _ _, _, rfl, ?_⟩
      rw [kd2_eqv, decide_eq_true ⟨fy, gy⟩]
      refine iteF ?_
      have s36 := s4.trans (s5.trans s6)
      have hC6 := hC3.same s36
      have hh6 := hh3.same s36
      have t6 := t3.ext s36
      have kk6 := kk3.trans (KeeN.same s36)
      have hl6 := LstN hh hl kk6
      clear s4 s5 s6 s36 hC4 hC3 hh3 t3 kk3 kw5 kw6
      -- the row
      obtain ⟨dx, fs, hp, lo⟩ := cust_o hC6
      refine ⟨_, rfl, p, dx, fs, rfl, hp, lo, _, rfl, _, rfl, (by show 1 ≤ sizeLine; decide), fun b7 hb7 => ?_⟩
      have s7 := same_new (o := .lst [.str y]) hb7
      refine ⟨l, b7, _, _, rfl, rfl, s7 _ _ hl6, upd_same, by rw [List.length_map]; exact Nat.le_trans (show zs.length + 1 ≤ 100 by omega) (by decide), fun b8 hb8 => ?_⟩
      have ea : zs.map V.str ++ [V.str y] = (zs ++ [y]).map V.str := by simp
      rw [ea]
      have s8 := same_new (o := .lst ((zs ++ [y]).map V.str)) hb8
      have hb8' : upd (upd H6 b7 (.lst [.str y])) b8 (.lst ((zs ++ [y]).map V.str)) b8 = some (.lst ((zs ++ [y]).map V.str)) := upd_same
      have s68 := s7.trans s8
      generalize upd (upd H6 b7 (.lst [.str y])) b8 (.lst ((zs ++ [y]).map V.str)) = H8 at s68 hb8' ⊢
      have hoz : Oks (zs ++ [y]) := fun t ht => by
        rcases List.mem_append.mp ht with e | e
        · exact hz.oks t e
        · rw [List.mem_singleton.mp e]; exact ⟨oky, Nat.le_trans szy (by decide)⟩
      refine ⟨p, b8, gs, ps, cm, false, zs ++ [y], rfl, hC6.same s68, hb8', hoz, by rw [List.length_append, List.length_singleton]; omega, t6.ext s68, fun H9 r x9 t9 n9 hr9 => ?_⟩
      rw [if_neg Bool.false_ne_true] at hr9
      have hC9 := (hC6.same s68).ext x9
      have hh9 := (hh6.same s68).ext x9
      have kk9 := kk6.trans ((KeeN.same s68).trans (KeeN.ext x9))
      have hperm := ksort_perm (f := fBare gs ps) (g := lts gs) (zs ++ [y])
      have hpw := ksort_pw (f := fBare gs ps) (g := lts gs) (zs ++ [y])
      generalize ksort (fBare gs ps) (lts gs) (zs ++ [y]) = S at hr9 hperm hpw
      have hSo := hoz.perm hperm
      have hlen := hperm.length_eq
      rw [List.length_append, List.length_singleton] at hlen
      clear hC6 hh6 t6 kk6 x9 n9 s68 s7 s8 hb7 hb8 hb8' hl6 hp
      -- the ends
      obtain ⟨j1, hj1, g1, g2, g3⟩ := first_index (hperm.mem_iff.mpr (show y ∈ zs ++ [y] by simp))
      obtain ⟨j2, hj2, g4, g5, g6⟩ := first_index (hperm.mem_iff.mpr (show z ∈ zs ++ [y] from List.mem_append_left _ zin))
      refine ⟨_, rfl, .inl ⟨rfl, _, .of hr9⟩, _, rfl, r, _, .str y, j1, .str y, rfl, rfl, .of hr9, rfl, flat_strs S, g1, g2, g3, ?_⟩
      refine ⟨_, rfl, .inl ⟨rfl, _, .of hr9⟩, _, rfl, r, _, .str z, j2, .str z, rfl, rfl, .of hr9, rfl, flat_strs S, g4, g5, g6, ?_⟩
      refine ⟨(by show 2 ≤ sizeLine; decide), fun b10 hb10 => ⟨b10, [(j1 : Int), (j2 : Int)], rfl, .of upd_same, (by show 2 < 64; decide), fun ns p11 pm pw hp11 => ?_⟩⟩
      have ens := two_sorted pm pw
      subst ens
      have s10 := same_new (o := .lst [V.int (j1 : Nat), V.int (j2 : Nat)]) hb10
      have s11 := same_new (o := .lst ([((min j1 j2 : Nat) : Int), ((max j1 j2 : Nat) : Int)].map V.int)) hp11
      have hp11' : upd (upd H9 b10 (.lst [V.int (j1 : Nat), V.int (j2 : Nat)])) p11 (.lst ([((min j1 j2 : Nat) : Int), ((max j1 j2 : Nat) : Int)].map V.int)) p11 = some (.lst ([((min j1 j2 : Nat) : Int), ((max j1 j2 : Nat) : Int)].map V.int)) := upd_same
      have s911 := s10.trans s11
      generalize upd (upd H9 b10 (.lst [V.int (j1 : Nat), V.int (j2 : Nat)])) p11 (.lst ([((min j1 j2 : Nat) : Int), ((max j1 j2 : Nat) : Int)].map V.int)) = H11 at s911 hp11' ⊢
      have hr11 := s911 _ _ hr9
      have l1 := (List.getElem?_eq_some_iff.mp hj1).1
      have l2 := (List.getElem?_eq_some_iff.mp hj2).1
      have lmx : max j1 j2 + 1 ≤ S.length := by omega
      have lmn : min j1 j2 ≤ S.length := by omega
      refine ⟨_, rfl, _, rfl, p11, _, 0, _, rfl, rfl, .of hp11', atI_nat (j := 0) rfl, _, rfl, _, rfl, p11, _, 1, _, rfl, rfl, .of hp11', atI_nat (j := 1) rfl, _, _, rfl, rfl, _, rfl, r, _, rfl, .of hr11, fun b12 hb12 => ?_⟩
      have ec : cutV (S.map V.str) (some ((min j1 j2 : Nat) : Int)) (some (((max j1 j2 : Nat) : Int) + 1)) = ((S.drop (min j1 j2)).take (max j1 j2 + 1 - min j1 j2)).map V.str := by
        rw [show ((max j1 j2 : Nat) : Int) + 1 = ((max j1 j2 + 1 : Nat) : Int) by omega, cutV_mid _ _ _ (by rw [List.length_map]; exact lmn) (by rw [List.length_map]; exact lmx), List.map_take, List.map_drop]
      rw [ec]
      have hL : ∀ k c, ((S.drop (min j1 j2)).take (max j1 j2 + 1 - min j1 j2))[k]? = some c → S[min j1 j2 + k]? = some c ∧ min j1 j2 + k ≤ max j1 j2 := fun k c hk => by
        have hkl := (List.getElem?_eq_some_iff.mp hk).1
        rw [List.length_take] at hkl
        rw [List.getElem?_take, if_pos (by omega), List.getElem?_drop] at hk
        exact ⟨hk, by omega⟩
      have hLl : ((S.drop (min j1 j2)).take (max j1 j2 + 1 - min j1 j2)).length ≤ 100 := by rw [List.length_take, List.length_drop]; omega
      generalize (S.drop (min j1 j2)).take (max j1 j2 + 1 - min j1 j2) = L at hL hLl ⊢
      have s12 := s911.trans (same_new (o := .lst (L.map V.str)) hb12)
      have hb12' : upd H11 b12 (.lst (L.map V.str)) b12 = some (.lst (L.map V.str)) := upd_same
      generalize upd H11 b12 (.lst (L.map V.str)) = H12 at s12 hb12' ⊢
      have hC12 := hC9.same s12
      have hh12 := hh9.same s12
      have t12 := t9.ext s12
      have kk12 := kk9.trans (KeeN.same s12)
      refine ⟨b12, rfl, ⟨_, .of hb12'⟩, fun D hD => ?_⟩
      refine lc_same (walk_list (K := K) (a := b12) (xs := L.map V.str)) hD (L.map fun _ => V.bl false) (by simp) (by rw [List.length_map]; exact Nat.le_trans hLl (by decide)) (fun H' s' => .of (s' _ _ hb12')) ?_ ?_
      · rintro k x H13 H14 v R hk s13 ⟨rfl, hx⟩ hy hR
        obtain ⟨c, hc, rfl⟩ := map_get hx
        obtain ⟨hcS, hcl⟩ := hL k c hc
        have kc := hSo c (List.mem_of_getElem? hcS)
        have btw : fBare gs ps c = fBare gs ps z ∧ lts gs c = lts gs z := by
          by_cases e : j1 ≤ j2
          · rw [Nat.min_eq_left e] at hcS hcl
            rw [Nat.max_eq_right e] at hcl
            obtain ⟨q1, q2⟩ := ksort_between hpw hj1 hj2 hcS (by omega) hcl fy gy
            exact ⟨q1.trans fy, q2.trans gy⟩
          · rw [Nat.min_eq_right (by omega)] at hcS hcl
            rw [Nat.max_eq_left (by omega)] at hcl
            exact ksort_between hpw hj2 hj1 hcS (by omega) hcl fy.symm gy.symm
        have hC13 := hC12.same s13
        refine ⟨rfl, _, rfl, _, rfl, p, gs, ps, cm, c, rfl, hC13, kc.1.asc, Nat.le_trans kc.2 (by decide), fun H15 w15 s15 kw15 => ?_⟩
        refine ⟨_, rfl, _, rfl, p, gs, ps, cm, z, rfl, hC13.same s15, kz.1.asc, Nat.le_trans kz.2 (by decide), fun H16 w16 s16 kw16 => ?_⟩
        refine ⟨_, _, (kw15.same s16).dp, kw16.dp, kd2_shaped _ _, kd2_shaped _ _, ?_⟩
        rw [kd2_eqv, decide_eq_true btw]
        show R (V.bl false) _
        rw [← rep_get hy]
        exact hR _ (s15.trans s16)
      · intro H13 s13 hD13
        refine ⟨D, L.map fun _ => false, rfl, .of (hD13.trans ?_), false, ?_, iteF ⟨⟨_, _, _, _, _, rfl⟩, kk12.trans (KeeN.same s13), (hh12.same s13).mono ?_, t12.ext s13⟩⟩
        · rw [List.map_map]
          rfl
        · rw [all_false]
        · rw [Nat.add_mul]
          omega
    · rintro σ H' ⟨⟨v4, v5, v6, v7, v8, rfl⟩, k, hh', t'⟩
      rw [List.length_map] at hh'
      exact q _ k (hh'.mono (by omega)) t'
end
end K79
namespace K79
open PySem PySem.Spec PyProof.Rows L2
section
variable {P : Program} {w : World} {K : PySem.W.Frag} {mg : Str → Option Value} {base : Heap} {f : Addr} {fd : FuncData} {C Pt : Addr}
def spAbout (C Pt : Addr) : Sp := fun vs H Q _ => ∃ (p p2 l : Addr) (gs gs' : List (List Str)) (ps : List Str) (cm : Bool) (zs : List Str) (n : Int), vs = [.ref p, .ref p2, .ref l] ∧ CustAt C H p gs ps cm ∧ CustAt C H p2 gs' ps cm ∧ (∀ z, lts gs' z = (lts gs z).map (n - ·)) ∧ H l = some (.lst (zs.map V.str)) ∧ Txs zs ∧ zs.length ≤ 60 ∧ LamX.Tabs (tbs Pt) H ∧
  ∀ H', LamX.ExtN H H' → LamX.Tabs (tbs Pt) H' → Q (.bl true) H'
abbrev abN : List Str := ["_law_custom", "_law_about", "_law_texts", "_law_one", "_law_other", "_law_mine", "_law_its"]
theorem scAbout : FnScope abN ["_law_custom", "_law_about", "_law_texts"] (defScope sAbout) := ⟨rfl, rfl, rfl, by decide +kernel, rfl, by decide +kernel, by decide +kernel⟩
theorem ok_about (F : FunD K "_law_about_right" "_law_about_right" (defArgs sAbout) (defBody sAbout) (defScope sAbout) [] [] f fd) (T : Tx K mg C) (gO : Ko P w K mg base C Pt) (gR : Km P w K mg base C 2 "rank" ["self", "text"] (spRank C)) (gF : Kn P w K mg base 1 "_law_first_unlike" ["_law_one", "_law_other"] spUnlike) :
    FnOk P w K mg base CX0 7 f fd ["_law_custom", "_law_about", "_law_texts"] (spAbout C Pt) := by
  refine ok0 F scAbout (fun vs H Q E h => ?_) (fun cdv A outer s H vs Q E hr h => ?_)
  · obtain ⟨p, p2, l, gs, gs', ps, cm, zs, n, rfl, _⟩ := h
    rfl
  · obtain ⟨p, p2, l, gs, gs', ps, cm, zs, n, rfl, hC, hC', hn, hl, hz, hzl, hT, q⟩ := h
    refine ⟨_, pss_cons (ps_for PassesOwn.never rfl (pi_zip (by rfl) (T.f 16) (pa_cons (pv 2) (pa_cons (pe_slice sl_list (pv 2) (po_some pe_int) po_none) pa_nil))) (pg_tup rfl (pgs_cons (pg_name (i := 3) scAbout.nd rfl (Or.inl rfl)) (pgs_cons (pg_name (i := 4) scAbout.nd rfl (Or.inl rfl)) pgs_nil)))
        (pss_cons (ps_par (i := 5) (j := 6) rfl scAbout.nd rfl rfl (by decide) rfl rfl (pa_cons (pe_ix ix_tup (pe_m T.cl gR hr (by decide) (pv 0) (pa_cons (pv 3) pa_nil)) pe_int (fun _ _ => rfl)) (pa_cons (pe_ix ix_tup (pe_m T.cl gR hr (by decide) (pv 0) (pa_cons (pv 4) pa_nil)) pe_int (fun _ _ => rfl)) pa_nil)) (by rfl))
        (pss_one (ps_if (pt_val (pe_k gF hr (by decide) (pa_cons (pv 5) (pa_cons (pv 6) pa_nil))))
          (pss_one (ps_if (pt_cmpR (op_neD hr.units) (pe_o T.cl gO hr (Nat.le_refl _) (pv 0) (pa_cons (pe_lst (pa_cons (pv 3) (pa_cons (pv 4) pa_nil))) pa_nil)) (pe_revL (pe_o T.cl gO hr (Nat.le_refl _) (pv 1) (pa_cons (pe_lst (pa_cons (pv 3) (pa_cons (pv 4) pa_nil))) pa_nil))) (nomark _)) (pss_one (ps_ret pe_bl)) pss_nil)) pss_nil))))
      (pss_one (ps_ret pe_bl)), ?_⟩
    refine ⟨_, rfl, _, rfl, 1, rfl, l, _, rfl, .of hl, fun b hb => ?_⟩
    rw [show cutV (zs.map V.str) (some 1) none = (zs.drop 1).map V.str by
      unfold cutV
      rw [HT.sIx_none, show HT.sIx (zs.map V.str).length 0 (some 1) = min 1 (zs.map V.str).length from HT.sIx_nat _ _ 1, List.map_drop]
      cases zs with
      | nil => rfl
      | cons z r =>
        simp
        exact List.take_of_length_le (by rw [List.length_map]; exact Nat.le_refl _)]
    have s1 := same_new (o := .lst ((zs.drop 1).map V.str)) hb
    have hb1 : upd H b (.lst ((zs.drop 1).map V.str)) b = some (.lst ((zs.drop 1).map V.str)) := upd_same
    have hl1 := s1 _ _ hl
    have hC1 := hC.same s1
    have hC1' := hC'.same s1
    have t1 := hT.ext s1
    generalize upd H b (.lst ((zs.drop 1).map V.str)) = H1 at s1 hb1 hl1 hC1 hC1' t1 ⊢
    have x1 : LamX.ExtN H H1 := LamX.ExtN.of s1
    have lstE : ∀ {c : Addr} {xs : List V} {H2 : Hp}, H1 c = some (.lst xs) → LamX.ExtN H1 H2 → H2 c = some (.lst xs) := fun h x => x _ _ h fun ps z => by cases z
    refine ⟨l, b, _, _, rfl, .of hl1, .of hb1, for_it (walk_zip (K := K) (a := l) (b := b) (xs := zs.map V.str) (ys := (zs.drop 1).map V.str) rfl)
      (fun i σ H' => (∃ (v3 v4 v5 v6 : Option V), σ = [some (.ref p), some (.ref p2), some (.ref l), v3, v4, v5, v6]) ∧ LamX.ExtN H1 H' ∧ LamX.Tabs (tbs Pt) H') ⟨⟨_, _, _, _, rfl⟩, LamX.ExtN.refl _, t1⟩ ?_ ?_ ?_⟩
    · rintro i σ H' _ ⟨_, x, _⟩
      exact ⟨.of (lstE hl1 x), .of (lstE hb1 x)⟩
    · rintro i x σ H2 H3 hi ⟨⟨v3, v4, v5, v6, rfl⟩, x2, t2⟩ ⟨T1, y1, y2, rfl, hT1, rfl, ey1, ey2⟩
      obtain ⟨z1, hz1, rfl⟩ := map_get ey1
      obtain ⟨z2, hz2, rfl⟩ := map_get ey2
      have k1 := hz z1 (List.mem_of_getElem? hz1)
      have k2 := hz z2 (List.mem_of_mem_drop (List.mem_of_getElem? hz2))
      refine ⟨T1, _, rfl, .inl (.inl upd_same), rfl, _, _, rfl, _, _, rfl, rfl, ?_⟩
      have s3 := same_new (o := .tup [.str z1, .str z2]) hT1
      have x3 := x2.trans (LamX.ExtN.of s3)
      have t3 := t2.ext s3
      generalize upd H2 T1 (.tup [.str z1, .str z2]) = H3 at s3 x3 t3 ⊢
      have hC3 := hC1.ext x3
      have hC3' := hC1'.ext x3
      obtain ⟨dx, tl, tp, dd, kvs, hp, _⟩ := id hC3
      refine ⟨_, rfl, p, dx, _, rfl, hp, lkMr _ _ _ _, _, rfl, p, gs, ps, cm, z1, rfl, hC3, k1.1.asc, Nat.le_trans k1.2 (by decide), fun H4 w4 s4 kp4 => ?_⟩
      obtain ⟨r4, a4, b4, rfl, ha4, hb4, hc4⟩ := kp4
      refine ⟨r4, _, 0, _, rfl, rfl, .inl (.inl ha4), atI_nat (j := 0) rfl, ?_⟩
      refine ⟨_, rfl, p, dx, _, rfl, s4 _ _ hp, lkMr _ _ _ _, _, rfl, p, gs, ps, cm, z2, rfl, hC3.same s4, k2.1.asc, Nat.le_trans k2.2 (by decide), fun H5 w5 s5 kp5 => ?_⟩
      obtain ⟨r5, a5, b5, rfl, ha5, hb5, hc5⟩ := kp5
      refine ⟨r5, _, 0, _, rfl, rfl, .inl (.inl ha5), atI_nat (j := 0) rfl, _, _, rfl, ?_⟩
      have fl : (fBare gs ps z1).length ≤ 1000 := Nat.le_trans (lts_le gs (bareS ps z1)) (Nat.le_trans bare_sub.2 (Nat.le_trans k1.2 (by decide)))
      refine ⟨_, rfl, _, rfl, a4, a5, _, _, rfl, s5 _ _ hb4, hb5, fl, fun H6 s6 => ⟨_, rfl, ?_⟩⟩
      have s36 := s4.trans (s5.trans s6)
      have hC6 := hC3.same s36
      have hC6' := hC3'.same s36
      have t6 := t3.ext s36
      have x6 := x3.trans (LamX.ExtN.of s36)
      clear s4 s5 s6 s36 hp hC3 hC3' t3 x3 x2 t2
      cases hu : (unl (fBare gs ps z1) (fBare gs ps z2)).any id with
      | false => exact iteF ⟨⟨_, _, _, _, rfl⟩, x6, t6⟩
      | true =>
        refine iteT ?_
        have hex := unl_any hu
        obtain ⟨dx6, fs6, hp6, lo6⟩ := cust_o hC6
        refine ⟨_, rfl, p, dx6, fs6, rfl, hp6, lo6, _, rfl, _, rfl, (by show 2 ≤ sizeLine; decide), fun b7 hb7 => ?_⟩
        have s7 := same_new (o := .lst [.str z1, .str z2]) hb7
        have hb7' : upd H6 b7 (.lst [.str z1, .str z2]) b7 = some (.lst ([z1, z2].map V.str)) := upd_same
        generalize upd H6 b7 (.lst [.str z1, .str z2]) = H7 at s7 hb7' ⊢
        have hoz : Oks [z1, z2] := fun t ht => by
          simp only [List.mem_cons, List.not_mem_nil, or_false] at ht
          rcases ht with e | e
          · rw [e]; exact ⟨k1.1, Nat.le_trans k1.2 (by decide)⟩
          · rw [e]; exact ⟨k2.1, Nat.le_trans k2.2 (by decide)⟩
        refine ⟨p, b7, gs, ps, cm, false, [z1, z2], rfl, hC6.same s7, hb7', hoz, (by show 2 ≤ 1000; decide), t6.ext s7, fun H8 r8 x8 t8 n8 hr8 => ?_⟩
        rw [if_neg Bool.false_ne_true] at hr8
        have hC8' := (hC6'.same s7).ext x8
        obtain ⟨dx8, fs8, hp8, lo8⟩ := cust_o hC8'
        refine ⟨_, rfl, p2, dx8, fs8, rfl, hp8, lo8, _, rfl, _, rfl, (by show 2 ≤ sizeLine; decide), fun b9 hb9 => ?_⟩
        have s9 := same_new (o := .lst [.str z1, .str z2]) hb9
        have hb9' : upd H8 b9 (.lst [.str z1, .str z2]) b9 = some (.lst ([z1, z2].map V.str)) := upd_same
        generalize upd H8 b9 (.lst [.str z1, .str z2]) = H9 at s9 hb9' ⊢
        refine ⟨p2, b9, gs', ps, cm, false, [z1, z2], rfl, hC8'.same s9, hb9', hoz, (by show 2 ≤ 1000; decide), t8.ext s9, fun H10 r10 x10 t10 n10 hr10 => ?_⟩
        rw [if_neg Bool.false_ne_true] at hr10
        have hr8' : H10 r8 = _ := x10 _ _ (s9 _ _ hr8) fun ps z => by cases z
        refine ⟨r10, _, rfl, .of hr10, fun b11 hb11 => ?_⟩
        rw [← List.map_reverse, ← about_flip n (fun z => hn (bareS ps z)) hex]
        have hp0 := ksort_perm (f := fBare gs ps) (g := lts gs) [z1, z2]
        have s11 := same_new (o := .lst ((ksort (fBare gs ps) (lts gs) [z1, z2]).map V.str)) hb11
        have hSa := oks_asc (hoz.perm hp0)
        refine ⟨.list ((ksort (fBare gs ps) (lts gs) [z1, z2]).map .str), .list ((ksort (fBare gs ps) (lts gs) [z1, z2]).map .str), .lst (.of (s11 _ _ hr8')) (dp_strs _), .lst (.of upd_same) (dp_strs _), shaped_strsL hSa, shaped_strsL hSa, _, rfl, ?_⟩
        rw [eqv_lst, decide_eq_true rfl]
        refine iteF ⟨⟨_, _, _, _, rfl⟩, x6.trans ((LamX.ExtN.of s7).trans (x8.trans ((LamX.ExtN.of s9).trans (x10.trans (LamX.ExtN.of s11))))), t10.ext s11⟩
    · rintro σ H' ⟨_, x, t'⟩
      exact q _ (x1.trans x) t'
end
end K79
namespace K79
open PySem PySem.Spec PyProof.Rows L2
/-! the letters turned about -/
theorem rev_nd {gs : List (List Str)} (h : gs.flatten.Nodup) : gs.reverse.flatten.Nodup := (List.Perm.nodup_iff (List.Perm.flatten (List.reverse_perm gs))).mpr h
theorem IsLets.rev {gs : List (List Str)} (h : IsLets gs) : IsLets gs.reverse := ⟨fun e => h.ne (List.reverse_eq_nil_iff.mp e), by rw [List.length_reverse]; exact h.le, fun g hg => h.gr g (List.mem_reverse.mp hg), rev_nd h.nd⟩
theorem TupG.rev {H : Hp} {t : Addr} {gs : List (List Str)} {as : List Addr} (h : H t = some (.tup (as.map V.ref).reverse)) (hl : as.length = gs.length) (hg : ∀ (i : Nat) (a : Addr) (g : List Str), as[i]? = some a → gs[i]? = some g → H a = some (.tup (g.map V.str))) : TupG H t gs.reverse := by
  refine ⟨as.reverse, by rw [h, List.map_reverse], by rw [List.length_reverse, List.length_reverse, hl], fun i a g ha he => ?_⟩
  have hi : i < as.length := by
    have := (List.getElem?_eq_some_iff.mp ha).1
    rw [List.length_reverse] at this
    exact this
  rw [List.getElem?_reverse hi] at ha
  rw [List.getElem?_reverse (by omega)] at he
  rw [← hl] at he
  exact hg _ a g ha he
theorem one_rev {gs : List (List Str)} (nd : gs.flatten.Nodup) (t : Str) : one (num gs.reverse) t = (one (num gs) t).map (((gs.length : Int) - 1) - ·) ∧ (num gs.reverse t).isSome = (num gs t).isSome := by
  by_cases h : t ∈ gs.flatten
  · obtain ⟨i, g, hg, ht⟩ := mem_group h
    have hi := (List.getElem?_eq_some_iff.mp hg).1
    have h1 := num_of nd hg ht
    have hg2 : gs.reverse[gs.length - 1 - i]? = some g := by
      rw [List.getElem?_reverse (by omega), show gs.length - 1 - (gs.length - 1 - i) = i by omega]
      exact hg
    have h2 := num_of (rev_nd nd) hg2 ht
    unfold one
    rw [h1, h2]
    refine ⟨?_, rfl⟩
    show [((gs.length - 1 - i : Nat) : Int)] = [((gs.length : Int) - 1) - (i : Nat)]
    congr 1
    omega
  · have h2 : t ∉ gs.reverse.flatten := fun q => h ((List.Perm.flatten (List.reverse_perm gs)).mem_iff.mp q)
    unfold one
    rw [num_none h, num_none h2]
    exact ⟨rfl, rfl⟩
theorem lets_map {nu nu' : Str → Option Nat} (n : Int) (h1 : ∀ t, one nu' t = (one nu t).map (n - ·)) (h2 : ∀ t, (nu' t).isSome = (nu t).isSome) : ∀ (m : Nat) (cs : List Nat), cs.length ≤ m → lets nu' cs = (lets nu cs).map (n - ·) := by
  have ep : ∀ cs, pick nu' cs = pick nu cs := fun cs => by unfold pick; rw [h2]
  intro m
  induction m with
  | zero =>
    intro cs h
    rw [List.length_eq_zero_iff.mp (Nat.le_zero.mp h), lets_nil, lets_nil]
    rfl
  | succ m ih =>
    intro cs h
    by_cases e : cs = []
    · rw [e, lets_nil, lets_nil]; rfl
    · have q1 := pick_pos nu e
      rw [lets_step nu' e, lets_step nu e, ep, h1, List.map_append, ih _ (by rw [List.length_drop]; omega)]
theorem lts_rev {gs : List (List Str)} (h : IsLets gs) (z : Str) : lts gs.reverse z = (lts gs z).map (((gs.length : Int) - 1) - ·) := lets_map _ (fun t => (one_rev h.nd t).1) (fun t => (one_rev h.nd t).2) _ (low z) (Nat.le_refl _)
end K79
namespace K79
open PySem PySem.Spec PyProof.Rows L2
section
variable {P : Program} {w : World} {K : PySem.W.Frag} {mg : Str → Option Value} {base : Heap} {f : Addr} {fd : FuncData} {C Pt : Addr}
/-- the maker -/
structure Km0 (P : Program) (w : World) (K : PySem.W.Frag) (mg : Str → Option Value) (base : Heap) (C : Addr) : Type where
  f : Addr
  fd : FuncData
  ok : FnOk P w K mg base CX0 4 f fd ["self", "letters", "passed", "comma"] (spInit C)
  maker : Mk K C f
  bd : Binds K fd ["self", "letters", "passed", "comma"] []
def spLaw (K : PySem.W.Frag) (Pt : Addr) : Sp := fun vs H Q _ => ∃ (a : Addr) (ns : List Int), vs = [.ref a] ∧ SqL K H a (ns.map V.int) ∧ ns.length ≤ 63 ∧ LamX.Tabs (tbs Pt) H ∧ ∀ H', Q (.bl true) H'
abbrev laN : List Str := ["_law_script", "_law_k", "_law_hand_here", "_law_letters_here", "_law_passed_here", "_law_comma", "_law_custom", "_law_about", "_law_texts", "_law_turn"]
theorem scLaw : FnScope laN ["_law_script"] (defScope sLaw) := ⟨rfl, rfl, rfl, by decide +kernel, rfl, by decide +kernel, by decide +kernel⟩
theorem ok_law (F : FunD K "law" "law" (defArgs sLaw) (defBody sLaw) (defScope sLaw) [] [] f fd) (T : Tx K mg C) (gI : Km0 P w K mg base C) (gH : Kn P w K mg base 1 "_law_hand" ["_law_script", "_law_k"] (spHand K)) (gT : Kn P w K mg base 1 "_law_take" ["_law_hand_here", "_law_many"] spTake)
    (gL : Kn P w K mg base 3 "_law_letters" ["_law_hand_here"] spLetters) (gP : Kn P w K mg base 3 "_law_passed" ["_law_hand_here"] spPassed) (gX : Kn P w K mg base 3 "_law_text" ["_law_hand_here", "_law_letters_here", "_law_passed_here"] spText)
    (gS : Kn P w K mg base 7 "_law_sorted_right" ["_law_hand_here", "_law_custom", "_law_texts"] (spSorted C Pt)) (gN : Kn P w K mg base 7 "_law_near_right" ["_law_hand_here", "_law_custom", "_law_letters_here", "_law_texts"] (spNear C Pt))
    (gA : Kn P w K mg base 7 "_law_about_right" ["_law_custom", "_law_about", "_law_texts"] (spAbout C Pt)) :
    FnOk P w K mg base CX0 8 f fd ["_law_script"] (spLaw K Pt) := by
  refine ok0 F scLaw (fun vs H Q E h => ?_) (fun cdv A outer s H vs Q E hr h => ?_)
  · obtain ⟨a, ns, rfl, _⟩ := h
    rfl
  · obtain ⟨a, ns, rfl, hS, hns, hT, q⟩ := h
    refine ⟨_, pss_cons (ps_for PassesOwn.never rfl (pi_range1 (by rfl) (T.f 12) (pa_cons (pe_op op_add pe_int (pe_callB (call_min2 rfl) (by rfl) (T.f 14) (by decide +kernel) (pa_cons pe_int (pa_cons (pe_callB call_len_seq (by rfl) (T.f 2) PySem.boot_len (pa_cons (pv 0) pa_nil)) pa_nil)))) pa_nil)) (pg_name (i := 1) scLaw.nd rfl (Or.inl rfl))
        (pss_cons (ps_set (i := 2) scLaw.nd rfl (Or.inr rfl) (pe_k gH hr (by decide) (pa_cons (pv 0) (pa_cons (pv 1) pa_nil))))
        (pss_cons (ps_asg (pe_tup (pa_cons (pe_k gL hr (by decide) (pa_cons (pv 2) pa_nil)) (pa_cons (pe_k gP hr (by decide) (pa_cons (pv 2) pa_nil)) pa_nil))) (pg_tup rfl (pgs_cons (pg_name (i := 3) scLaw.nd rfl (Or.inr rfl)) (pgs_cons (pg_name (i := 4) scLaw.nd rfl (Or.inr rfl)) pgs_nil))))
        (pss_cons (ps_set (i := 5) scLaw.nd rfl (Or.inl rfl) (pe_cmpR op_eq (pe_k gT hr (by decide) (pa_cons (pv 2) (pa_cons pe_int pa_nil))) pe_int (nomark _)))
        (pss_cons (ps_par (i := 6) (j := 7) rfl scLaw.nd rfl rfl (by decide) rfl rfl (pa_cons (pe_make gI.maker gI.ok (hr.mono (by decide)) (by rfl) T.mgC gI.bd .nil pass0 (pa_cons (pv 3) (pa_cons (pv 4) (pa_cons (pv 5) pa_nil))))
            (pa_cons (pe_make gI.maker gI.ok (hr.mono (by decide)) (by rfl) T.mgC gI.bd .nil pass0 (pa_cons (pe_revT (pv 3)) (pa_cons (pv 4) (pa_cons (pv 5) pa_nil)))) pa_nil)) (by rfl))
        (pss_cons (ps_setLc (i := 8) (own := [("_law_turn", 9)]) (g := gName 9) (tt := tYes) rfl scLaw.nd rfl rfl (sw_true rfl rfl rfl (by decide +kernel)) (pi_range1 (by rfl) (T.f 12) (pa_cons (pe_op op_add pe_int (pe_k gT hr (by decide) (pa_cons (pv 2) (pa_cons pe_int pa_nil)))) pa_nil)) (blkOk_by (N := laN) (sc := defScope sLaw) (by decide +kernel)) (fun _ _ _ _ _ => pg_name (i := 9) scLaw.nd rfl (Or.inl rfl))
          (fun _ _ _ _ _ => pts_nil) (fun _ _ _ _ _ => pe_k gX hr (by decide) (pa_cons (pv 2) (pa_cons (pv 3) (pa_cons (pv 4) pa_nil)))))
        (pss_cons (ps_if (PW.pt (pw_or (pt_not (pt_val (pe_k gS hr (by decide) (pa_cons (pv 2) (pa_cons (pv 6) (pa_cons (pv 8) pa_nil)))))) (pw_or1 (pt_not (pt_val (pe_k gN hr (by decide) (pa_cons (pv 2) (pa_cons (pv 6) (pa_cons (pv 3) (pa_cons (pv 8) pa_nil)))))))))) (pss_one (ps_ret pe_bl)) pss_nil)
        (pss_one (ps_if (pt_not (pt_val (pe_k gA hr (by decide) (pa_cons (pv 6) (pa_cons (pv 7) (pa_cons (pv 8) pa_nil)))))) (pss_one (ps_ret pe_bl)) pss_nil)))))))))
      (pss_one (ps_ret pe_bl)), ?_⟩
    refine ⟨_, rfl, a, _, rfl, .inl hS, _, _, rfl, _, _, rfl, rfl, _, rfl, by split <;> omega, by split <;> omega, ?_⟩
    refine for_range (fun i σ H' => (∃ (v1 v2 v3 v4 v5 v6 v7 v8 v9 : Option V), σ = [some (.ref a), v1, v2, v3, v4, v5, v6, v7, v8, v9]) ∧ LamX.ExtN H H' ∧ LamX.Tabs (tbs Pt) H') ⟨⟨_, _, _, _, _, _, _, _, _, rfl⟩, LamX.ExtN.refl _, hT⟩ ?_ ?_
    · rintro i σ H1 hi ⟨⟨v1, v2, v3, v4, v5, v6, v7, v8, v9, rfl⟩, x1, t1⟩
      have hi' : i ≤ 63 := by revert hi; split <;> omega
      rw [Int.zero_add]
      have hS1 := sqL_extN x1 hS
      refine ⟨_, rfl, _, rfl, a, i, ns, rfl, hS1, hns, hi', fun H2 h s2 hn2 hh2 => ?_⟩
      have t2 := t1.ext s2
      -- letters, passed
      refine ⟨_, rfl, h, 0, rfl, hh2, by decide, fun H3 tl gs k3 hh3 hT3 hG => ?_⟩
      refine ⟨_, rfl, h, _, rfl, hh3, by omega, fun H4 tp ps k4 hh4 htp4 hP => ?_⟩
      refine ⟨(by show 2 ≤ sizeLine; decide), fun T1 hT1 => ?_⟩
      refine ⟨T1, _, rfl, .inl (.inl upd_same), rfl, _, _, rfl, _, _, rfl, rfl, ?_⟩
      have s5 := same_new (o := .tup [.ref tl, .ref tp]) hT1
      have k5 : Kee h H2 (upd H4 T1 (.tup [.ref tl, .ref tp])) := k3.trans (k4.trans (Kee.same s5))
      have t5 := tabs_kee t2 hh2 k5
      have hh5 := hh4.same s5
      have hT5 : TupG (upd H4 T1 (.tup [.ref tl, .ref tp])) tl gs := (hT3.kee hh3 k4).tups fun b xs e => s5 b _ e
      have htp5 := s5 _ _ htp4
      generalize upd H4 T1 (.tup [.ref tl, .ref tp]) = H5 at k5 t5 hh5 hT5 htp5 ⊢
      clear s5 k3 k4 hh3 hh4 hT3 htp4 t2 hT1
      -- comma
      refine ⟨_, rfl, h, 2, _, rfl, hh5, by omega, by decide, by decide, fun H6 dd k6' hh6 d0 d1 => ⟨rfl, ?_⟩⟩
      generalize decide (V.int dd = V.int 0) = cm
      have k6 := k5.trans k6'
      have t6 := tabs_kee t5 hh5 k6'
      have hT6 := hT5.kee hh5 k6'
      have htp6 := k6' _ _ (hh5.ne htp5 fun ys z => by cases z) htp5
      clear k5 t5 hh5 hT5 htp5 k6'
      -- the customs
      refine ⟨_, rfl, _, rfl, _, rfl, fun p dx hp hdx nd => ?_⟩
      have s7 : Same H6 (upd (upd H6 dx (.own p)) p (.ins C dx [])) := fun b o e => by rw [upd_ne (ne_of_none e hp), upd_ne (ne_of_none e hdx)]; exact e
      refine ⟨p, dx, tl, tp, gs, ps, cm, rfl, upd_same, hT6.tups fun b xs e => s7 b _ e, hG, s7 _ _ htp6, hP, fun H8 kp8 hC8 => ⟨rfl, ?_⟩⟩
      have s8 : Same H6 H8 := fun b o e => kp8 b o (ne_of_none e hp) (s7 _ _ e)
      obtain ⟨as, hA6, hal, hgr6⟩ := id hT6
      refine ⟨_, rfl, tl, _, rfl, .inl (.inl (s8 _ _ hA6)), fun b9 hb9 => ?_⟩
      have s9 := same_new (o := .tup (as.map V.ref).reverse) hb9
      have s69 := s8.trans s9
      have hTr : TupG (upd H8 b9 (.tup (as.map V.ref).reverse)) b9 gs.reverse := TupG.rev upd_same hal fun i a g e1 e2 => s69 _ _ (hgr6 i a g e1 e2)
      have hC9 := hC8.same s9
      generalize upd H8 b9 (.tup (as.map V.ref).reverse) = H9 at s9 s69 hTr hC9 ⊢
      refine ⟨_, rfl, _, rfl, fun p2 dx2 hp2 hdx2 nd2 => ?_⟩
      have s10 : Same H9 (upd (upd H9 dx2 (.own p2)) p2 (.ins C dx2 [])) := fun b o e => by rw [upd_ne (ne_of_none e hp2), upd_ne (ne_of_none e hdx2)]; exact e
      refine ⟨p2, dx2, b9, tp, gs.reverse, ps, cm, rfl, upd_same, hTr.tups fun b xs e => s10 b _ e, hG.rev, s10 _ _ (s69 _ _ htp6), hP, fun H11 kp11 hC11' => ⟨rfl, _, _, rfl, ?_⟩⟩
      have s11 : Same H9 H11 := fun b o e => kp11 b o (ne_of_none e hp2) (s10 _ _ e)
      have sF := s69.trans s11
      have hC11 := hC9.same s11
      have hh11 := hh6.same sF
      have t11 := t6.ext sF
      have hT11 : TupG H11 tl gs := hT6.tups fun b xs e => sF b _ e
      have htp11 := sF _ _ htp6
      have k11 := k6.trans (Kee.same sF)
      clear s7 s8 s9 s69 s10 s11 sF kp8 kp11 hC8 hC9 hTr hT6 htp6 t6 hh6 k6 hA6 hgr6 hp hdx hp2 hdx2
      -- the texts
      refine ⟨_, rfl, h, 5, _, rfl, hh11, by omega, by decide, by decide, fun H12 ee k12' hh12 e0 e1 => ?_⟩
      obtain ⟨m, rfl⟩ := Int.eq_ofNat_of_zero_le e0
      have k12 := k11.trans k12'
      have hC12 := hC11.kee hh11 k12'
      have hC12' := hC11'.kee hh11 k12'
      have t12 := tabs_kee t11 hh11 k12'
      have hT12 := hT11.kee hh11 k12'
      have htp12 := k12' _ _ (hh11.ne htp11 fun ys z => by cases z) htp11
      clear k11 hC11 hC11' t11 hT11 htp11 k12' hh11
      refine ⟨_, _, rfl, rfl, _, rfl, by omega, by omega, fun D hD => ?_⟩
      have nDh := hh12.new hD
      have hz : ∀ b o, b ≠ h → H12 b = some o → b ≠ D := fun b o _ z => ne_of_none z hD
      rw [show ((6 : Int) + (m : Nat)).toNat = 6 + m by omega]
      refine lc_it (walk_range (lo := 0) (n := 6 + m)) (fun j H' => ∃ zs : List Str, H' D = some (.lst (zs.map V.str)) ∧ zs.length = j ∧ Txs zs ∧ Kee h H12 H' ∧ HandAt (1500 + j * 100) H' h)
        ⟨[], upd_same, rfl, fun y hy => by simp at hy, Kee.same (same_new hD), (hh12.same (same_new hD)).mono (by omega)⟩ (fun _ _ _ _ => trivial) ?_ ?_
      · rintro j x H13 H14 hj ⟨zs, hD13, hzl, hzs, k13, hh13⟩ ⟨rfl, rfl⟩
        have hT13 := hT12.kee hh12 k13
        have htp13 := k13 _ _ (hh12.ne htp12 fun ys z => by cases z) htp12
        refine ⟨rfl, _, rfl, _, rfl, _, rfl, h, tl, tp, _, gs, ps, rfl, hh13, by omega, hT13, hG, htp13, hP, fun H15 z k15 hh15 hz1 hz2 => ?_⟩
        refine ⟨zs.map V.str, k15 _ _ nDh hD13, by rw [List.length_map, hzl]; exact Nat.lt_of_lt_of_le (show j < 100 by omega) (by decide), zs ++ [z], by rw [upd_same, List.map_append]; rfl, by rw [List.length_append, hzl]; rfl, fun y hy => ?_, fun b o nb e => ?_, ?_⟩
        · rcases List.mem_append.mp hy with q1 | q1
          · exact hzs y q1
          · rw [List.mem_singleton.mp q1]; exact ⟨hz1, hz2⟩
        · rw [upd_ne (hz b o nb e)]
          exact k15 _ _ nb (k13 _ _ nb e)
        · obtain ⟨x, y, z, e, r1, r2⟩ := hh15
          exact ⟨x, y, z, by rw [upd_ne nDh.symm]; exact e, r1, by omega⟩
      rintro H13 ⟨zs, hD13, hzl, hzs, k13, hh13⟩
      have hC13 := hC12.kee hh12 k13
      have hC13' := hC12'.kee hh12 k13
      have t13 := tabs_kee t12 hh12 k13
      have hT13 := hT12.kee hh12 k13
      have kk13 : KeeN h H2 H13 := (k12.trans k13).n
      clear hC12 hC12' t12 hT12 htp12 k12 k13 hh12 hz hD
      -- the checks
      refine ⟨_, rfl, _, rfl, _, rfl, h, p, D, _, gs, ps, cm, zs, rfl, hh13, by omega, hC13, hD13, hzs.oks, by omega, t13, fun H14 k14 hh14 t14 => ⟨_, rfl, iteF ?_⟩⟩
      have hC14 := hC13.keeN hh13 k14
      have hC14' := hC13'.keeN hh13 k14
      have hT14 := hT13.keeN hh13 k14
      have hD14 := LstN hh13 hD13 k14
      have kk14 := kk13.trans k14
      refine ⟨_, rfl, _, rfl, _, rfl, _, rfl, h, p, tl, D, _, gs, ps, cm, zs, rfl, hh14, by omega, hC14, hT14, hG, hD14, hzs, by omega, t14, fun H15 k15 hh15 t15 => ⟨_, rfl, iteF ?_⟩⟩
      have hC15 := hC14.keeN hh14 k15
      have hC15' := hC14'.keeN hh14 k15
      have hD15 := LstN hh14 hD14 k15
      have kk15 := kk14.trans k15
      refine ⟨_, rfl, _, rfl, _, rfl, p, p2, D, gs, gs.reverse, ps, cm, zs, _, rfl, hC15, hC15', lts_rev hG, hD15, hzs, by omega, t15, fun H16 x16 t16 => ⟨_, rfl, iteF ⟨⟨_, _, _, _, _, _, _, _, _, rfl⟩, fun b o e nt => ?_, t16⟩⟩⟩
      have e1 := x1 b o e nt
      exact x16 b o (kk15 b o (ne_of_none e1 hn2) (s2 _ _ e1) nt) nt
    · rintro σ H' ⟨⟨v1, v2, v3, v4, v5, v6, v7, v8, v9, rfl⟩, _, _⟩
      exact q _
end
end K79
namespace K79
open PySem PySem.Spec PyProof.Rows L2
/-! the head's facts put to the walks -/
section
variable {P : Program} {w : World} {K : PySem.W.Frag} {h : Heap} {mg : Str → Option Value} {base : Heap}
abbrev CA (K : PySem.W.Frag) : Addr := He.ga K "Custom"
abbrev tO : He.Defn := ("Custom", some "in_order")
abbrev PtA (K : PySem.W.Frag) : Addr := (He.cT K tO).2
theorem tx_of (X : K.In h) (G : h.Ns mainGlobals mg) (c : He.SaysD fa fn K) : Tx K mg (CA K) where
  cl := He.cls_ok (c.fact 44 (f := .cls "Custom") rfl)
  nL := He.noat_ok (c.fact 46 (f := .noat "Custom" "letters") rfl)
  nP := He.noat_ok (c.fact 47 (f := .noat "Custom" "passed") rfl)
  nC := He.noat_ok (c.fact 48 (f := .noat "Custom" "comma") rfl)
  nN := He.noat_ok (c.fact 49 (f := .noat "Custom" "numbers") rfl)
  mgC := He.glo_ok X G (c.fact 5 (f := .glo "Custom") rfl)
  fr := fun x hx => He.free_ok X G (c.facts (f := .free x) (by
    have : (.free x : He.Fa) ∈ frees.map He.Fa.free := List.mem_map_of_mem hx
    unfold fa
    simp only [List.mem_append]
    exact .inl (.inl (.inl (.inr this)))))
  letters := He.str_ok X G (c.fact 38 (f := .str "LETTERS" "abcdefghijklmnopqrstuvwxyz") rfl)
  small := He.str_ok X G (c.fact 40 (f := .str "SMALL" "abcdefghijklmnopqrstuvwxyz") rfl)
  brk := He.str_ok X G (c.fact 43 (f := .str "BREAK" ", ") rfl)
  ml := He.int_ok X G (c.fact 39 (f := .int "MOST_LETTERS" 8) rfl)
  mgr := He.int_ok X G (c.fact 41 (f := .int "MOST_GROUPS" 40) rfl)
  mp := He.int_ok X G (c.fact 42 (f := .int "MOST_PASSED" 20) rfl)
theorem initB {f : Addr} {fd : FuncData} (F : FunD K "__init__" "Custom.__init__" (defArgs sInit) (defBody sInit) (defScope sInit) [.non, .bl true] [] f fd) : Binds K fd ["self", "letters", "passed", "comma"] [] := by
  obtain ⟨ds, v, b⟩ := F.binds1 (ps := ["self", "letters", "passed", "comma"]) 4 2 (by intro z; cases z) rfl fun T kV doc pm an cdv ct us its h1 h2 => match us, its, h1, h2 with | [_, _, _, _], [_, _], _, _ => ⟨_, rfl, rfl⟩
  cases v
  exact b
theorem orderB {f : Addr} {fd : FuncData} (F : FunD K "in_order" "Custom.in_order" (defArgs sInOrder) (defBody sInOrder) (defScope sInOrder) [.bl false] [] f fd) : ∃ ds, Vals [.bl false] ds ∧ Binds K fd ["self", "texts", "down"] ds :=
  F.binds1 (ps := ["self", "texts", "down"]) 2 0 (by intro z; cases z) rfl fun T kV doc pm an cdv ct us its h1 h2 => match us, its, h1, h2 with | [_, _], [_], _, _ => ⟨_, rfl, rfl⟩
theorem orderKw {f : Addr} {fd : FuncData} (F : FunD K "in_order" "Custom.in_order" (defArgs sInOrder) (defBody sInOrder) (defScope sInOrder) [.bl false] [] f fd) : KBn K fd ["self", "texts", "down"] 2 ["down"] (fun us ws => us ++ ws) (fun vs zs => vs ++ zs) :=
  kbinds1 F 2 ["down"] (by intro z; cases z) fun T kV doc pm an cdv ct us its ws h1 h2 h3 => match us, its, ws, h1, h2, h3 with | [_, _], [_], [_], _, _, _ => ⟨_, rfl, rfl⟩
/-- a def of a table: its code object -/
theorem code_tab {fd : FuncData} (F : FunD K "in_order" "Custom.in_order" (defArgs sInOrder) (defBody sInOrder) (defScope sInOrder) [.bl false] [] (He.fAd K tO) fd) (hT : LamX.TabB base mg (He.cT K tO).1 (He.cT K tO).2) : ∀ c, fd.code = .ref c → LamX.TabB base mg c (PtA K) := by
  intro c e
  obtain ⟨oc, od, dV, kV, doc, pm, an, cdv, ct, osl, rfl, lk, _, _, _⟩ := F.ex
  have q : He.codeOf K tO = c := He.codeOf_eq lk e
  have z : (He.cT K tO).1 = c := q
  rw [z] at hT
  exact hT
theorem facts {l : PySem.W.OpenLaw} {fL : Addr} (X : K.In h) (c : He.SaysX fa fn [] tf (fun _ => true) w h K) (G : h.Ns mainGlobals mg) (hL : mg ("law" : Str) = some (.ref fL)) : LamX.LawAtS l w K CX0 8 63 "_law_script" mg fL h := by
  have cd : He.SaysD fa fn K := c.t.d
  obtain ⟨fd_word, F_word⟩ := cd.def_ 0 rfl
  obtain ⟨fd_letter, F_letter⟩ := cd.def_ 1 rfl
  obtain ⟨fd_group, F_group⟩ := cd.def_ 2 rfl
  obtain ⟨fd_areL, F_areL⟩ := cd.def_ 3 rfl
  obtain ⟨fd_areP, F_areP⟩ := cd.def_ 4 rfl
  obtain ⟨fd_init, F_init⟩ := cd.def_ 5 rfl
  obtain ⟨fd_lets, F_lets⟩ := cd.def_ 6 rfl
  obtain ⟨fd_bare, F_bare⟩ := cd.def_ 7 rfl
  obtain ⟨fd_rank, F_rank⟩ := cd.def_ 8 rfl
  obtain ⟨fd_order, F_order⟩ := cd.def_ 9 rfl
  obtain ⟨fd_shown, F_shown⟩ := cd.def_ 10 rfl
  obtain ⟨fd_read, F_read⟩ := cd.def_ 11 rfl
  obtain ⟨fd_hand, F_hand⟩ := cd.def_ 12 rfl
  obtain ⟨fd_take, F_take⟩ := cd.def_ 13 rfl
  obtain ⟨fd_pick, F_pick⟩ := cd.def_ 14 rfl
  obtain ⟨fd_letters, F_letters⟩ := cd.def_ 15 rfl
  obtain ⟨fd_passed, F_passed⟩ := cd.def_ 16 rfl
  obtain ⟨fd_text, F_text⟩ := cd.def_ 17 rfl
  obtain ⟨fd_exch, F_exch⟩ := cd.def_ 18 rfl
  obtain ⟨fd_key, F_key⟩ := cd.def_ 19 rfl
  obtain ⟨fd_turned, F_turned⟩ := cd.def_ 20 rfl
  obtain ⟨fd_merged, F_merged⟩ := cd.def_ 21 rfl
  obtain ⟨fd_sorted, F_sorted⟩ := cd.def_ 22 rfl
  obtain ⟨fd_near, F_near⟩ := cd.def_ 23 rfl
  obtain ⟨fd_unlike, F_unlike⟩ := cd.def_ 24 rfl
  obtain ⟨fd_about, F_about⟩ := cd.def_ 25 rfl
  obtain ⟨fd_law, F_law⟩ := cd.def_ 26 rfl
  have eL : fL = He.fAd K ("law", none) := by
    have e := hL.symm.trans (He.glo_ok X G (cd.fact 20 (f := .glo "law") rfl))
    cases e
    rfl
  subst eL
  have bL := FunD.bindsA (ps := ["_law_script"]) F_law fun _ _ _ _ _ _ us hl => match us, hl with | [_], _ => rfl
  obtain ⟨ds, dv, bO⟩ := orderB F_order
  have memT : ∀ p ∈ [He.cT K tO], p = He.cT K tO := fun p hp => List.mem_singleton.mp hp
  have tfO : tO ∈ tf := List.mem_singleton.mpr rfl
  refine ⟨fd_law, [He.cT K tO], spLaw K (PtA K), fun p hp => ?_, fun p hp => ?_, fun p hp => ?_, fun s u => bL s [u] rfl, fun H a ns hl _ hH hS => ?_, fun base hB hN hTB => ?_⟩
  · rw [memT p hp]; exact c.empty tO tfO
  · rw [memT p hp]; exact c.out tO tfO
  · rw [memT p hp]; exact PySem.W.codeHd_of_K X (c.hd tO tfO)
  · refine ⟨a, ns, rfl, hS, hl, fun q hq => ?_, fun _ => rfl⟩
    rw [List.mem_singleton.mp hq]
    exact LamX.TabS.nil (hH (He.cT K tO) (List.mem_singleton.mpr rfl))
  · have T : Tx K mg (CA K) := tx_of X G cd
    have hT := hTB (He.cT K tO) (List.mem_singleton.mpr rfl)
    have k_word : Kn l.prog w K mg base 1 "is_word" ["thing"] spWord := ⟨_, fd_word, ok_word F_word T , He.glo_ok X G (cd.fact 0 (f := .glo "is_word") rfl), F_word.kp, F_word.bindsN fun _ _ _ _ _ _ us hl => match us, hl with | [_], _ => rfl⟩
    have k_letter : Kn l.prog w K mg base 1 "is_letter" ["thing"] spLetter := ⟨_, fd_letter, ok_letter F_letter T , He.glo_ok X G (cd.fact 1 (f := .glo "is_letter") rfl), F_letter.kp, F_letter.bindsN fun _ _ _ _ _ _ us hl => match us, hl with | [_], _ => rfl⟩
    have k_group : Kn l.prog w K mg base 2 "is_group" ["thing"] spGroup := ⟨_, fd_group, ok_group F_group T k_letter, He.glo_ok X G (cd.fact 2 (f := .glo "is_group") rfl), F_group.kp, F_group.bindsN fun _ _ _ _ _ _ us hl => match us, hl with | [_], _ => rfl⟩
    have k_areL : Kn l.prog w K mg base 3 "are_letters" ["thing"] spAreLetters := ⟨_, fd_areL, ok_areL F_areL T k_group, He.glo_ok X G (cd.fact 3 (f := .glo "are_letters") rfl), F_areL.kp, F_areL.bindsN fun _ _ _ _ _ _ us hl => match us, hl with | [_], _ => rfl⟩
    have k_areP : Kn l.prog w K mg base 2 "are_passed" ["thing"] spArePassed := ⟨_, fd_areP, ok_areP F_areP T k_word, He.glo_ok X G (cd.fact 4 (f := .glo "are_passed") rfl), F_areP.kp, F_areP.bindsN fun _ _ _ _ _ _ us hl => match us, hl with | [_], _ => rfl⟩
    have k_lets : Km l.prog w K mg base (CA K) 1 "letters_in" ["self", "text"] (spLets (CA K)) := ⟨_, fd_lets, ok_lets F_lets T , He.meth_ok (cd.fact 50 (f := .meth "Custom" "letters_in") rfl), F_lets.bindsN fun _ _ _ _ _ _ us hl => match us, hl with | [_, _], _ => rfl⟩
    have k_bare : Km l.prog w K mg base (CA K) 1 "bare" ["self", "text"] (spBare (CA K)) := ⟨_, fd_bare, ok_bare F_bare T , He.meth_ok (cd.fact 51 (f := .meth "Custom" "bare") rfl), F_bare.bindsN fun _ _ _ _ _ _ us hl => match us, hl with | [_, _], _ => rfl⟩
    have k_rank : Km l.prog w K mg base (CA K) 2 "rank" ["self", "text"] (spRank (CA K)) := ⟨_, fd_rank, ok_rank F_rank T k_lets k_bare, He.meth_ok (cd.fact 52 (f := .meth "Custom" "rank") rfl), F_rank.bindsN fun _ _ _ _ _ _ us hl => match us, hl with | [_, _], _ => rfl⟩
    have k_shown : Km l.prog w K mg base (CA K) 2 "shown" ["self", "text"] (spShown (CA K)) := ⟨_, fd_shown, ok_shown F_shown T k_bare, He.meth_ok (cd.fact 54 (f := .meth "Custom" "shown") rfl), F_shown.bindsN fun _ _ _ _ _ _ us hl => match us, hl with | [_, _], _ => rfl⟩
    have k_read : Km l.prog w K mg base (CA K) 1 "read" ["self", "text"] (spRead (CA K)) := ⟨_, fd_read, ok_read F_read T , He.meth_ok (cd.fact 55 (f := .meth "Custom" "read") rfl), F_read.bindsN fun _ _ _ _ _ _ us hl => match us, hl with | [_, _], _ => rfl⟩
    have k_hand : Kn l.prog w K mg base 1 "_law_hand" ["_law_script", "_law_k"] (spHand K) := ⟨_, fd_hand, ok_hand F_hand T , He.glo_ok X G (cd.fact 6 (f := .glo "_law_hand") rfl), F_hand.kp, F_hand.bindsN fun _ _ _ _ _ _ us hl => match us, hl with | [_, _], _ => rfl⟩
    have k_take : Kn l.prog w K mg base 1 "_law_take" ["_law_hand_here", "_law_many"] spTake := ⟨_, fd_take, ok_take F_take  , He.glo_ok X G (cd.fact 7 (f := .glo "_law_take") rfl), F_take.kp, F_take.bindsN fun _ _ _ _ _ _ us hl => match us, hl with | [_, _], _ => rfl⟩
    have k_pick : Kn l.prog w K mg base 2 "_law_pick" ["_law_hand_here", "_law_some"] spPick := ⟨_, fd_pick, ok_pick F_pick T k_take, He.glo_ok X G (cd.fact 8 (f := .glo "_law_pick") rfl), F_pick.kp, F_pick.bindsN fun _ _ _ _ _ _ us hl => match us, hl with | [_, _], _ => rfl⟩
    have k_letters : Kn l.prog w K mg base 3 "_law_letters" ["_law_hand_here"] spLetters := ⟨_, fd_letters, ok_letters F_letters T k_take k_pick, He.glo_ok X G (cd.fact 9 (f := .glo "_law_letters") rfl), F_letters.kp, F_letters.bindsN fun _ _ _ _ _ _ us hl => match us, hl with | [_], _ => rfl⟩
    have k_passed : Kn l.prog w K mg base 3 "_law_passed" ["_law_hand_here"] spPassed := ⟨_, fd_passed, ok_passed F_passed T k_take k_pick, He.glo_ok X G (cd.fact 10 (f := .glo "_law_passed") rfl), F_passed.kp, F_passed.bindsN fun _ _ _ _ _ _ us hl => match us, hl with | [_], _ => rfl⟩
    have k_text : Kn l.prog w K mg base 3 "_law_text" ["_law_hand_here", "_law_letters_here", "_law_passed_here"] spText := ⟨_, fd_text, ok_text F_text T k_take k_pick, He.glo_ok X G (cd.fact 11 (f := .glo "_law_text") rfl), F_text.kp, F_text.bindsN fun _ _ _ _ _ _ us hl => match us, hl with | [_, _, _], _ => rfl⟩
    have k_exch : Kn l.prog w K mg base 3 "_law_exchanged" ["_law_hand_here", "_law_letters_here", "_law_text_here"] spExch := ⟨_, fd_exch, ok_exch F_exch T k_take k_pick, He.glo_ok X G (cd.fact 12 (f := .glo "_law_exchanged") rfl), F_exch.kp, F_exch.bindsN fun _ _ _ _ _ _ us hl => match us, hl with | [_, _, _], _ => rfl⟩
    have k_key : Kn l.prog w K mg base 3 "_law_key" ["_law_custom", "_law_text_here"] (spKey (CA K)) := ⟨_, fd_key, ok_key F_key T k_rank, He.glo_ok X G (cd.fact 13 (f := .glo "_law_key") rfl), F_key.kp, F_key.bindsN fun _ _ _ _ _ _ us hl => match us, hl with | [_, _], _ => rfl⟩
    have k_turned : Kn l.prog w K mg base 2 "_law_turned" ["_law_hand_here", "_law_texts"] spTurned := ⟨_, fd_turned, ok_turned F_turned T k_take, He.glo_ok X G (cd.fact 14 (f := .glo "_law_turned") rfl), F_turned.kp, F_turned.bindsN fun _ _ _ _ _ _ us hl => match us, hl with | [_, _], _ => rfl⟩
    have k_merged : Kn l.prog w K mg base 3 "_law_merged" ["_law_custom", "_law_one", "_law_other"] (spMerged (CA K)) := ⟨_, fd_merged, ok_merged F_merged T k_rank, He.glo_ok X G (cd.fact 15 (f := .glo "_law_merged") rfl), F_merged.kp, F_merged.bindsN fun _ _ _ _ _ _ us hl => match us, hl with | [_, _, _], _ => rfl⟩
    have k_unlike : Kn l.prog w K mg base 1 "_law_first_unlike" ["_law_one", "_law_other"] spUnlike := ⟨_, fd_unlike, ok_unlike F_unlike T , He.glo_ok X G (cd.fact 18 (f := .glo "_law_first_unlike") rfl), F_unlike.kp, F_unlike.bindsN fun _ _ _ _ _ _ us hl => match us, hl with | [_, _], _ => rfl⟩
    have k_init : Km0 l.prog w K mg base (CA K) := ⟨_, fd_init, ok_init F_init T k_areL k_areP, He.mkr_ok (cd.fact 45 (f := .mkr "Custom") rfl), initB F_init⟩
    have k_order : Ko l.prog w K mg base (CA K) (PtA K) := ⟨_, fd_order, ok_order F_order T (code_tab F_order hT) k_rank, He.meth_ok (cd.fact 53 (f := .meth "Custom" "in_order") rfl), ds, dv, bO, orderKw F_order⟩
    have k_sorted : Kn l.prog w K mg base 7 "_law_sorted_right" ["_law_hand_here", "_law_custom", "_law_texts"] (spSorted (CA K) (PtA K)) := ⟨_, fd_sorted, ok_sorted F_sorted T k_order k_take k_turned k_merged k_rank k_shown k_read, He.glo_ok X G (cd.fact 16 (f := .glo "_law_sorted_right") rfl), F_sorted.kp, F_sorted.bindsN fun _ _ _ _ _ _ us hl => match us, hl with | [_, _, _], _ => rfl⟩
    have k_near : Kn l.prog w K mg base 7 "_law_near_right" ["_law_hand_here", "_law_custom", "_law_letters_here", "_law_texts"] (spNear (CA K) (PtA K)) := ⟨_, fd_near, ok_near F_near T k_order k_exch k_bare k_key, He.glo_ok X G (cd.fact 17 (f := .glo "_law_near_right") rfl), F_near.kp, F_near.bindsN fun _ _ _ _ _ _ us hl => match us, hl with | [_, _, _, _], _ => rfl⟩
    have k_about : Kn l.prog w K mg base 7 "_law_about_right" ["_law_custom", "_law_about", "_law_texts"] (spAbout (CA K) (PtA K)) := ⟨_, fd_about, ok_about F_about T k_order k_rank k_unlike, He.glo_ok X G (cd.fact 19 (f := .glo "_law_about_right") rfl), F_about.kp, F_about.bindsN fun _ _ _ _ _ _ us hl => match us, hl with | [_, _, _], _ => rfl⟩
    exact ok_law F_law T k_init k_hand k_take k_letters k_passed k_text k_sorted k_near k_about
end
end K79
open PySem PySem.W PySem.Calls PyProof.Rows
theorem PySem.Challenge.cw_takesworks_k79_whole_sorted_and_shown_holds : PySem.Challenge.rw_takesworks_k79_whole_sorted_and_shown.Holds := by
  w_on; o_law
  refine HandSHeadRun.head_any (r := K79.R) (q := view K79.R.prog [32]) (H := K79.hk) (ob := K79.ob) (M := 6000) (loose := K79.names) (d := HandSHeadRun.topDef K79.R.prog 32) (kwd := []) K79.ob_eq
    (by kernel_rfl) (fun s => by kernel_rfl) K79.run (by kernel_rfl) (by kernel_rfl) (by kernel_rfl) (by rfl) (by first | assumption | decide +kernel) (by decide +kernel) ⟨rfl, rfl, rfl, rfl, rfl, by decide +kernel⟩ ?hw ?hc
  case hw => w_witness2
  case hc =>
    refine LamX.walk_ofTsE (l := PySem.Challenge.rw_takesworks_k79_whole_sorted_and_shown) (n := 63) (k := 8) (x := "_law_script") (CX := fun _ => L2.CX0) rfl (by decide) (by kernel_rfl) ⟨rfl, by decide, by decide⟩ ?F (fun _ _ _ _ _ z => z)
    intro w mg fa h Y G hmg0
    obtain ⟨K, KX, c⟩ := Y
    have hmg : mg ("law" : PySem.Str) = some (.ref fa) := by
      have e : (HandSHeadRun.topDef K79.R.prog 32).name = ("law" : PySem.Str) := by kernel_rfl
      rw [← e]
      exact hmg0
    exact ⟨K, KX, K79.facts KX c G hmg⟩
