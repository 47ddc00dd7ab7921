import PyProof.Rows.All
import Wide.All
import OpenK.AllK
import Wide.FinOn
import KE.KStateDown
import HandS.Base
import HandS.Call
import HandS.Ends
import HandS.Words
import PySem.Challenge.RW_tollroads_k25_across_prices_of_standing
import PyProof.EqAt
import PyProof.EqKinds
import PyProof.TupleCall
import KE.KNest
import KE.GoesMore
import KE.GoesZip
import KE.GoesEnum
import KE.GoesRev
import PyProof.WalksMore
import PyProof.GenCompD
import HandS.List
import HandS.Comp
import HandS.AnyAll
import HandS.IsInst
import HandS.WordsList
import HandS.Iter
import HandS.Deep
import HandS.TupAny
import HandS.Small
import HandS.Zip
import HandS.Style
import HandS.Gcd
import HandS.Wide
import HandS.Walk
import KE.SortData
import HandS.SortInts
import HandS.Star
import Lean
import HandS.More
import HandS.WordsExc
import HandS.Defaults
import HandS.Head0
import HandS.Head1
import HandS.Head2
import HandS.Head3
import HandS.HeadEnd
import HandS.HeadHook1
import HandS.HeadHook2
import HandS.HeadHook3
import HandS.HeadHook4
import HandS.EndTab
import HandS.HeadWalk
set_option Elab.async false
set_option linter.all false
set_option maxRecDepth 100000
set_option maxHeartbeats 0
/-! The text by places. -/
namespace Tr
open PySem PySem.Spec PyProof.Rows L2
def top (i : Nat) : Stmt := PySem.Challenge.pw_tollroads_k25_across_prices_of_standing.main.body.getD i (.Pass ⟨0, 0, 0, 0⟩)
end Tr
namespace Tr
open PySem PySem.Spec PyProof.Rows L2
abbrev s_is_in : Stmt := top 8
abbrev s_all_ways : Stmt := top 9
abbrev s_is_table : Stmt := top 16
abbrev s_is_game_road : Stmt := top 17
abbrev s_net_of : Stmt := top 18
abbrev s_is_player : Stmt := top 19
abbrev s_need_game : Stmt := top 20
abbrev s_choices_of : Stmt := top 21
abbrev s_is_state : Stmt := top 22
abbrev s_need_state : Stmt := top 23
abbrev s_loads_of : Stmt := top 24
abbrev s_time_in : Stmt := top 25
abbrev s_ones : Stmt := top 26
abbrev s_times_in : Stmt := top 27
abbrev s_potential_in : Stmt := top 28
abbrev s_game_potential : Stmt := top 29
abbrev s_ratio : Stmt := top 31
abbrev s_steps_in : Stmt := top 33
abbrev s_all_states : Stmt := top 34
abbrev s_standing_of : Stmt := top 35
abbrev s_standing_states : Stmt := top 36
abbrev s_walk_to_standing : Stmt := top 37
abbrev s_best_state : Stmt := top 38
abbrev s_lowest_state : Stmt := top 39
abbrev s_standing_prices : Stmt := top 40
abbrev s_law_taken : Stmt := top 42
abbrev s_law_pick : Stmt := top 43
abbrev s_law_game_ways : Stmt := top 45
abbrev s_law_table : Stmt := top 46
abbrev s_law_game : Stmt := top 47
abbrev s_law_states : Stmt := top 48
abbrev s_law : Stmt := top 53
end Tr

/-! Generator expressions, handed to sum, all, any. -/
namespace Gq
open PySem PySem.Spec PyProof.Rows L2 GxR
/-- what pyIter has made: an iterator of n turns over s1, all old objects kept -/
structure Src (X : Cx) (P : Addr) (s1 s2 : Shared) (it : Value) (n : Nat) (Pf : Nat → Value → Prop) : Prop where
  st : ∃ h2 t2, s2 = { s1 with heap := h2, toks := t2 } ∧ s1.heap.objs.size ≤ h2.objs.size ∧ ∀ b o, s1.heap.get? b = some o → h2.get? b = some o
  w : ∃ Ia fp wr St, it = .ref Ia ∧ (∀ A' : Around, A'.handled = none → Walks X.prog X.w A' Ia fp wr n Pf St) ∧ St 0 s2.heap ∧ (∀ b ∈ fp, b < s2.heap.objs.size ∧ b ≠ P) ∧ ∀ b ∈ wr, s1.heap.objs.size ≤ b
structure Src2 (X : Cx) (P : Addr) (s1 s2 : Shared) (it : Value) (n : Nat) (Pf : Nat → Array Value → Prop) : Prop where
  st : ∃ h2 t2, s2 = { s1 with heap := h2, toks := t2 } ∧ s1.heap.objs.size ≤ h2.objs.size ∧ ∀ b o, s1.heap.get? b = some o → h2.get? b = some o
  w : ∃ Ia fp wr St Mid, it = .ref Ia ∧ (∀ A' : Around, A'.handled = none → WalksU X.prog X.w A' Ia fp wr n Pf St Mid) ∧ St 0 s2.heap ∧ (∀ b ∈ fp, b < s2.heap.objs.size ∧ b ≠ P) ∧ ∀ b ∈ wr, s1.heap.objs.size ≤ b
/-- what stood at s1, but for the table, stands -/
def Old (P : Addr) (s1 s2 : Shared) : Prop := ∀ b o, b ≠ P → s1.heap.get? b = some o → s2.heap.get? b = some o
/-- the environment of a generator expression within X -/
abbrev gEnv (X : Cx) (scope : Scope) (C : Addr) (code : Value) : Env := genEnv scope (cloFrom X.env.cells scope.names []) C code builtinsNs X.env
abbrev testsOfG (ifs : List Expr) (cenv : Env) : Sem Bool := forIn ifs true fun c r => if r = true then do let ok ← isTrue c cenv (eval c cenv); pure (ForInStep.yield ok) else pure (ForInStep.yield r)
/-- the walk of a generator that stands ready in s5; its j-th value is told by g at the j-th place that passes -/
def ReadyG (X : Cx) (pins : List (Addr × Obj)) (σ : L2.St) (H1 : Hp) (P : Addr) (n : Nat) (pz : Nat → Bool) (g : Nat → V) (a : Addr) (s5 : Shared) : Prop :=
  ∃ (fp wr : List Addr) (G : Array GenState → Array GenState → Prop) (St : Nat → Shared → Prop),
    WalksS X.prog X.w X.A.in1 a fp wr G (passing pz n 0).length (fun j y => ∃ i, (passing pz n 0)[j]? = some i ∧ RelV (g i) y) St ∧ St 0 s5 ∧ (∀ b ∈ fp, b < s5.heap.objs.size) ∧
    ∀ s', Moved wr G s5 s' → ∃ H2, Tabbed P H1 H2 ∧ Inv X pins σ H2 s'
section
variable {X : Cx} {pins : List (Addr × Obj)} {σ : L2.St} {H : Hp} {s : Shared}
/-- the code object and the builtins, whether the table holds it or not -/
theorem code_part {c P : Addr} {σ : L2.St} {H1 : Hp} {s1 : Shared} {scope : Scope} {gpos : Pos} {h2 : Heap} {t2 : Nat} {Q' : Value → Addr → Shared → Prop}
    (TB : TabB X.base X.mg c P) (hcode : X.env.code = .ref c) (I1 : Inv X pins σ H1 s1) (hT : TabG H1 P)
    (k2 : ∀ b o, s1.heap.get? b = some o → h2.get? b = some o)
    (cont : ∀ (code : Value) (h3 : Heap) (tk : Nat) (ps ps' more : Array Value), Heap.ExtBut P h2 h3 → h2.objs.size ≤ h3.objs.size → H1 P = some (.tbl ps) → h3.get? P = some { cls := .none, data := .fields ps' } → ps' = ps ++ more → TriplesOk ps'.toList → h3.NoLimit →
      Q' code builtinsNs { s1 with heap := h3, toks := tk }) :
    wpAny (model X.prog X.w) X.A (genexprCode X.env gpos (X.env.qual ++ "<genexpr>") scope) (fun code s₃ => wpAny (model X.prog X.w) X.A (builtinsFor X.env.globals X.env.builtins) (fun bi s₄ => Q' code bi s₄) X.xe s₃) X.xe { s1 with heap := h2, toks := t2 } := by
  obtain ⟨ps, hP, ht⟩ := hT
  have hPs : s1.heap.get? P = some { cls := .none, data := .fields ps } := I1.hok P _ hP
  have hP2 : h2.get? P = some { cls := .none, data := .fields ps } := k2 _ _ hPs
  have cd : PySem.W.CodeHd h2 c P := TB.code.keeps fun b u e => k2 _ _ (I1.bk b u e)
  have lim2 : h2.NoLimit := I1.nolimit.keeps k2
  have step : ∀ (code : Value) (h3 : Heap) (tk : Nat) (ps' more : Array Value), Heap.ExtBut P h2 h3 → h2.objs.size ≤ h3.objs.size → h3.get? P = some { cls := .none, data := .fields ps' } → ps' = ps ++ more → TriplesOk ps'.toList →
      wpAny (model X.prog X.w) X.A (builtinsFor X.env.globals X.env.builtins) (fun bi s₄ => Q' code bi s₄) X.xe { s1 with heap := h3, toks := tk } := by
    intro code h3 tk ps' more hx hsz hP3 hmore ht3
    obtain ⟨bm, ob, e1, e2, e3, e4, e5, e6, e7, e8⟩ := TB.bm
    have hcP : cStatics ≠ P := fun e => by
      obtain ⟨_, hns, _⟩ := I1.nolimit
      obtain ⟨o', es, ep, ho, hd, _⟩ := hns
      rw [e, hPs] at ho
      cases ho
      cases hd
    have gl2 : h2.Ns X.env.globals X.mg := by rw [I1.ok.glob]; exact (I1.mod.glob.keeps I1.bk).keeps k2
    refine wpAny_builtinsFor (m := X.mg) (by rw [I1.ok.glob]; exact ((I1.mod.glob.keeps I1.bk).keeps k2).extBut hx TB.gP) e1 e2 (hx _ _ e4 (k2 _ _ (I1.bk _ _ e5))) e6 e7 e8 ?_
    exact cont code h3 tk ps ps' more hx hsz hP hP3 hmore ht3 (lim2.extBut hx hcP)
  cases hf : codeAmong gpos ps.toList with
  | none =>
    refine wpAny_genexprCodeX hcode (cd.code hP2 ht) (cd.tab hP2) hf fun c' h' tk hx hge hlt hco' _ htab' _ => ?_
    obtain ⟨o1, vs, f1, tf, fl, tg, inF, tx, tt, op, _, _, _, _, _, _, _, _, _, htr, _⟩ := hco'
    exact step _ h' tk _ _ hx (Nat.le_trans hge (Nat.le_of_lt hlt)) htab'.2 rfl htr
  | some cv =>
    refine wpAny_genexprCode_hit hcode (cd.code hP2 ht) hf ?_
    exact step cv h2 t2 ps #[] (Heap.ExtBut.refl _ _) (Nat.le_refl _) hP2 (by simp) ht
/-- behind the generator's making: Inv comes back wherever its walk has been -/
theorem inv_back {P : Addr} {H1 : Hp} {s1 : Shared} {h3 : Heap} {ps more : Array Value} {wr : List Addr} {tk5 : Nat} {h5 : Heap} {gs : GenState} {s' : Shared}
    (I1 : Inv X pins σ H1 s1) (hP : H1 P = some (.tbl ps)) (k3 : ∀ b u, b ≠ P → s1.heap.get? b = some u → h3.get? b = some u) (hP3 : h3.get? P = some { cls := .none, data := .fields (ps ++ more) }) (ht3 : TriplesOk (ps ++ more).toList)
    (hgb : gs.bare = true) (hsz : s1.heap.objs.size ≤ h3.objs.size) (hwr : ∀ b ∈ wr, s1.heap.objs.size ≤ b) (hk5 : ∀ b o, h3.get? b = some o → h5.get? b = some o)
    (hm : Moved (h3.objs.size :: wr) (GenOnlyQ s1.gens.size) { s1 with gens := s1.gens.push gs, toks := tk5, heap := h5 } s') : ∃ H2, Tabbed P H1 H2 ∧ Inv X pins σ H2 s' := by
  have hPs : s1.heap.get? P = some { cls := .none, data := .fields ps } := I1.hok P _ hP
  have nwr : ∀ b u, s1.heap.get? b = some u → b ∉ h3.objs.size :: wr := fun b u e hb => by
    have hl := Heap.lt_size e
    rcases List.mem_cons.mp hb with z | z
    · rw [z] at hl
      exact absurd (Nat.lt_of_lt_of_le hl hsz) (Nat.lt_irrefl _)
    · exact absurd (Nat.lt_of_lt_of_le hl (hwr b z)) (Nat.lt_irrefl _)
  have J := inv_tab (more := more) (h' := s'.heap) (g' := s'.gens) (d' := s'.drawn) (t' := s'.toks) I1 hP (fun b u hb e => hm.heap b u (nwr b u e) (hk5 b u (k3 b u hb e)))
    (hm.heap P _ (nwr P _ hPs) (hk5 P _ hP3)) (AllBare.movedS (I1.bare.push hgb) hm)
  rw [sh_eta s1 s' hm.os] at J
  exact ⟨upd H1 P (.tbl (ps ++ more)), ⟨⟨ps ++ more, upd_same, ht3⟩, fun b hb => upd_ne hb⟩, J⟩

theorem gen_nm {c P : Addr} {elt iter : Expr} {x : Str} {px gpos : Pos} {ifs : List Expr} {scope : Scope} {pz : Nat → Bool} {g : Nat → V} {n : Nat} {k : Nat} {Q' : Value → Shared → Prop}
    (hr : Room k X.A) (TB : TabB X.base X.mg c P) (hcode : X.env.code = .ref c) (S : GenS X.env scope x) (hs : ∀ v, genFold iter X.env v = pure v)
    (h : wpAny (model X.prog X.w) X.A (eval iter X.env) (fun xv s1 => ∃ H1, Inv X pins σ H1 s1 ∧ TabG H1 P ∧ wpAny (model X.prog X.w) X.A (pyIter xv) (fun it s2 => ∃ Pf, Src X P s1 s2 it n Pf ∧
        (∀ (A' : Around) E' C code i v (u : Shared) m₂, A'.handled = none → A'.depth ≤ X.A.depth + 1 → A'.units ≤ X.A.units + 8 → Pf i v → u.heap.Ns C m₂ → m₂ x = some v → Old P s1 u →
          wpAny (model X.prog X.w) A' (testsOfG ifs (gEnv X scope C code)) (fun ok u' => ok = pz i ∧ Keeps u u') E' u) ∧
        (∀ (A' : Around) E' C code i v (u : Shared) m₂, A'.handled = none → A'.depth ≤ X.A.depth + 1 → A'.units ≤ X.A.units + 8 → Pf i v → pz i = true → u.heap.Ns C m₂ → m₂ x = some v → Old P s1 u →
          wpAny (model X.prog X.w) A' (eval elt (gEnv X scope C code)) (fun y u' => RelV (g i) y ∧ Keeps u u') E' u) ∧
        (∀ a s5, ReadyG X pins σ H1 P n pz g a s5 → Q' (.ref a) s5)) X.xe s1) X.xe s) :
    wpAny (model X.prog X.w) X.A (eval (.GeneratorExp elt [⟨.Name x px, iter, ifs, 0⟩] scope gpos) X.env) Q' X.xe s := by
  refine wpAny_GeneratorExp_walksQD hr.hd S.co (closure_ok S.free) S.cell S.dot S.loc S.kind (by have := hr.dp; omega) ?_ hs
  refine thn h fun xv s1 ⟨H1, I1, hT, hi⟩ => ?_
  refine thn hi fun it s2 ⟨Pf, hsrc, hte, hel, hQ⟩ => ?_
  obtain ⟨⟨h2, t2, rfl, z2, k2⟩, Ia, fp, wr, St, rfl, W, hst, hfp, hwr⟩ := hsrc
  refine ⟨I1.nolimit.keeps k2, ?_⟩
  refine code_part TB hcode I1 hT k2 fun code h3 tk ps ps' more hx hsz hP hP3 hmore ht3 lim3 => ?_
  have k3 : ∀ b u, b ≠ P → s1.heap.get? b = some u → h3.get? b = some u := fun b u hb e => hx b u hb (k2 _ _ e)
  have hcs : cStatics < s1.heap.objs.size := let ⟨_, hns, _⟩ := I1.nolimit; hns.lt
  have sz13 : s1.heap.objs.size ≤ h3.objs.size := Nat.le_trans z2 hsz
  refine ⟨Ia, fp, wr, n, Pf, St, pz, fun i y => RelV (g i) y, rfl, W, ?_, ?_, lim3, ?_, ?_, ?_⟩
  · exact (W X.A hr.hd).frame _ _ _ hst fun b hb o e => hx b o (hfp b hb).2 e
  · exact fun b hb => Nat.lt_of_lt_of_le (hfp b hb).1 hsz
  · exact fun hm => absurd (Nat.lt_of_lt_of_le hcs (hwr _ hm)) (Nat.lt_irrefl _)
  · intro href hhref
    have old : ∀ (u : Shared), (∀ b ∈ List.range h3.objs.size, b ∉ wr → ∀ o, href.get? b = some o → u.heap.get? b = some o) → Old P s1 u := fun u hk b o hb e => by
      have e3 := k3 b o hb e
      refine hk b (List.mem_range.mpr (Heap.lt_size e3)) (fun hm => ?_) o (hhref b o e3)
      exact absurd (Nat.lt_of_lt_of_le (Heap.lt_size e) (hwr b hm)) (Nat.lt_irrefl _)
    exact ⟨fun A' E' i v u m₂ hA hD hU hPv hn hm hk => hte A' E' _ code i v u m₂ hA hD hU hPv hn hm (old u hk), fun A' E' i v u m₂ hA hD hU hPv hp hn hm hk => hel A' E' _ code i v u m₂ hA hD hU hPv hp hn hm (old u hk)⟩
  · intro a h5 tk5 gs hgb hag hsz5 hk5 W5 hat
    subst hmore
    refine hQ a _ ⟨_, _, _, _, W5.in4_1, hat, ?_, fun s' hm => inv_back I1 hP k3 hP3 ht3 hgb sz13 hwr hk5 hm⟩
    intro b hb
    show b < h5.objs.size
    rw [hsz5]
    have hag' : h3.objs.size < a := hag
    rcases List.mem_cons.mp hb with z | z
    · rw [z]; exact Nat.lt_succ_self _
    · rcases List.mem_cons.mp z with z | z
      · rw [z]; exact Nat.lt_succ_of_lt hag'
      · exact Nat.lt_succ_of_lt (Nat.lt_trans (List.mem_range.mp z) hag')

theorem gen_pr {c P : Addr} {elt iter : Expr} {x x2 : Str} {px px2 pt gpos : Pos} {kt : Nat} {ifs : List Expr} {scope : Scope} {pz : Nat → Bool} {g : Nat → V} {n : Nat} {k : Nat} {Q' : Value → Shared → Prop}
    (hr : Room k X.A) (TB : TabB X.base X.mg c P) (hcode : X.env.code = .ref c) (S : GenS X.env scope x) (S2 : scope.names.lookup x2 = some .local) (hab : x ≠ x2) (hs : ∀ v, genFold iter X.env v = pure v)
    (h : wpAny (model X.prog X.w) X.A (eval iter X.env) (fun xv s1 => ∃ H1, Inv X pins σ H1 s1 ∧ TabG H1 P ∧ wpAny (model X.prog X.w) X.A (pyIter xv) (fun it s2 => ∃ Pf, (∀ i vals, Pf i vals → ∃ va vb, vals = #[va, vb]) ∧ Src2 X P s1 s2 it n Pf ∧
        (∀ (A' : Around) E' C code i v v2 (u : Shared) m₂, A'.handled = none → A'.depth ≤ X.A.depth + 1 → A'.units ≤ X.A.units + 8 → Pf i #[v, v2] → u.heap.Ns C m₂ → m₂ x = some v → m₂ x2 = some v2 → Old P s1 u →
          wpAny (model X.prog X.w) A' (testsOfG ifs (gEnv X scope C code)) (fun ok u' => ok = pz i ∧ Keeps u u') E' u) ∧
        (∀ (A' : Around) E' C code i v v2 (u : Shared) m₂, A'.handled = none → A'.depth ≤ X.A.depth + 1 → A'.units ≤ X.A.units + 8 → Pf i #[v, v2] → pz i = true → u.heap.Ns C m₂ → m₂ x = some v → m₂ x2 = some v2 → Old P s1 u →
          wpAny (model X.prog X.w) A' (eval elt (gEnv X scope C code)) (fun y u' => RelV (g i) y ∧ Keeps u u') E' u) ∧
        (∀ a s5, ReadyG X pins σ H1 P n pz g a s5 → Q' (.ref a) s5)) X.xe s1) X.xe s) :
    wpAny (model X.prog X.w) X.A (eval (.GeneratorExp elt [⟨.Tuple [.Name x px, .Name x2 px2] kt pt, iter, ifs, 0⟩] scope gpos) X.env) Q' X.xe s := by
  refine wpAny_GeneratorExp_walksQTD hr.hd S.co (closure_ok S.free) S.cell S.dot S.loc S2 hab S.kind (by have := hr.dp; omega) ?_ hs
  refine thn h fun xv s1 ⟨H1, I1, hT, hi⟩ => ?_
  refine thn hi fun it s2 ⟨Pf, h2v, hsrc, hte, hel, hQ⟩ => ?_
  obtain ⟨⟨h2, t2, rfl, z2, k2⟩, Ia, fp, wr, St, Mid, rfl, W, hst, hfp, hwr⟩ := hsrc
  refine ⟨I1.nolimit.keeps k2, ?_⟩
  refine code_part TB hcode I1 hT k2 fun code h3 tk ps ps' more hx hsz hP hP3 hmore ht3 lim3 => ?_
  have k3 : ∀ b u, b ≠ P → s1.heap.get? b = some u → h3.get? b = some u := fun b u hb e => hx b u hb (k2 _ _ e)
  have hcs : cStatics < s1.heap.objs.size := let ⟨_, hns, _⟩ := I1.nolimit; hns.lt
  have sz13 : s1.heap.objs.size ≤ h3.objs.size := Nat.le_trans z2 hsz
  refine ⟨Ia, fp, wr, n, Pf, St, Mid, pz, fun i y => RelV (g i) y, rfl, W, h2v, ?_, ?_, lim3, ?_, ?_, ?_⟩
  · exact (W X.A hr.hd).frame _ _ _ hst fun b hb o e => hx b o (hfp b hb).2 e
  · exact fun b hb => Nat.lt_of_lt_of_le (hfp b hb).1 hsz
  · exact fun hm => absurd (Nat.lt_of_lt_of_le hcs (hwr _ hm)) (Nat.lt_irrefl _)
  · intro href hhref
    have old : ∀ (u : Shared), (∀ b ∈ List.range h3.objs.size, b ∉ wr → ∀ o, href.get? b = some o → u.heap.get? b = some o) → Old P s1 u := fun u hk b o hb e => by
      have e3 := k3 b o hb e
      refine hk b (List.mem_range.mpr (Heap.lt_size e3)) (fun hm => ?_) o (hhref b o e3)
      exact absurd (Nat.lt_of_lt_of_le (Heap.lt_size e) (hwr b hm)) (Nat.lt_irrefl _)
    exact ⟨fun A' E' i v v2 u m₂ hA hD hU hPv hn hm hm2 hk => hte A' E' _ code i v v2 u m₂ hA hD hU hPv hn hm hm2 (old u hk), fun A' E' i v v2 u m₂ hA hD hU hPv hp hn hm hm2 hk => hel A' E' _ code i v v2 u m₂ hA hD hU hPv hp hn hm hm2 (old u hk)⟩
  · intro a h5 tk5 gs hgb hag hsz5 hk5 W5 hat
    subst hmore
    refine hQ a _ ⟨_, _, _, _, W5.in4_1, hat, ?_, fun s' hm => inv_back I1 hP k3 hP3 ht3 hgb sz13 hwr hk5 hm⟩
    intro b hb
    show b < h5.objs.size
    rw [hsz5]
    have hag' : h3.objs.size < a := hag
    rcases List.mem_cons.mp hb with z | z
    · rw [z]; exact Nat.lt_succ_self _
    · rcases List.mem_cons.mp z with z | z
      · rw [z]; exact Nat.lt_succ_of_lt hag'
      · exact Nat.lt_succ_of_lt (Nat.lt_trans (List.mem_range.mp z) hag')
end
end Gq

/-! Exact evaluation: expressions that change nothing that stood. -/
namespace Gq
open PySem PySem.Spec PyProof.Rows L2 GxR
/-- the part of a context that never changes -/
structure Ck where
  prog : Program
  w : World
  K : PySem.W.Frag
  mg : Str → Option Value
  base : Heap
abbrev ckOf (X : Cx) : Ck := ⟨X.prog, X.w, X.K, X.mg, X.base⟩
/-- what is known where an element runs -/
structure GQ (X : Ck) (Hh : Hp) (cenv : Env) (nm : List (Str × V)) (s : Shared) : Prop where
  kind : cenv.scope.kind = .function
  glob : cenv.globals = mainGlobals
  blt : cenv.builtins = builtinsNs
  mod : Mod X.K X.mg X.base
  hok : HOk X.prog X.w Hh s.heap
  bk : ∀ b o, X.base.get? b = some o → s.heap.get? b = some o
  loc : ∃ m, s.heap.Ns cenv.locals m ∧ ∀ x v, nm.lookup x = some v → ∃ u, RelV v u ∧ Look cenv s.heap m x u
def QX (X : Ck) (A : Around) (Hh : Hp) (cenv : Env) (nm : List (Str × V)) (e : Expr) (v : V) : Prop :=
  ∀ (E : Value → Shared → Prop) (s : Shared), GQ X Hh cenv nm s → wpAny (model X.prog X.w) A (eval e cenv) (fun u s' => RelV v u ∧ Keeps s s') E s
theorem keeps_trans {a b c : Shared} (h : Keeps a b) (k : Keeps b c) : Keeps a c := by
  obtain ⟨h1, t1, rfl, k1⟩ := h
  obtain ⟨h2, t2, rfl, k2⟩ := k
  exact ⟨h2, t2, rfl, fun b o e => k2 b o (k1 b o e)⟩
theorem keeps_of {s : Shared} {h' : Heap} {t : Nat} (k : ∀ b o, s.heap.get? b = some o → h'.get? b = some o) : Keeps s { s with heap := h', toks := t } := ⟨h', t, rfl, k⟩
theorem kk_of {s s' : Shared} (h : Keeps s s') : ∀ b o, s.heap.get? b = some o → s'.heap.get? b = some o := by
  obtain ⟨h1, t1, rfl, k1⟩ := h
  exact k1
theorem look_keeps {cenv : Env} {h h' : Heap} {m : Str → Option Value} {x : Str} {u : Value} (k : ∀ b o, h.get? b = some o → h'.get? b = some o) (l : Look cenv h m x u) : Look cenv h' m x u := by
  rcases l with l | ⟨q, c, e, z⟩
  · exact .inl l
  · obtain ⟨o, ho, hd⟩ := z
    exact .inr ⟨q, c, e, ⟨o, k _ _ ho, hd⟩⟩
section
variable {X : Ck} {A : Around} {Hh : Hp} {cenv : Env} {nm : List (Str × V)} {s s' : Shared} {E : Value → Shared → Prop}
theorem GQ.keeps (g : GQ X Hh cenv nm s) (k : Keeps s s') : GQ X Hh cenv nm s' := by
  have kk := kk_of k
  obtain ⟨m, hn, hl⟩ := g.loc
  exact ⟨g.kind, g.glob, g.blt, g.mod, g.hok.kept kk, fun b o e => kk b o (g.bk b o e), m, hn.keeps kk, fun x v e => let ⟨u, r, l⟩ := hl x v e; ⟨u, r, look_keeps kk l⟩⟩
theorem GQ.kIn (g : GQ X Hh cenv nm s) : X.K.In s.heap := g.mod.kin.keeps g.bk
theorem GQ.tuple {a : Addr} {xs : List V} (g : GQ X Hh cenv nm s) (h : SqT X.K Hh a xs) : ∃ its : List Value, Vals xs its ∧ IsTup s.heap a its.toArray ∧ xs.length ≤ sizeLine := by
  rcases h with h | ⟨o, its, n, hk, hc, hs, hz, r⟩
  · obtain ⟨z, its, r, p⟩ := h.ok g.hok
    exact ⟨its, r, p, z⟩
  · refine ⟨its.toList, r, ⟨o, g.kIn a o hk, hc, n, by simpa using hs⟩, ?_⟩
    have e := r.length
    simp only [Array.length_toList] at e
    omega
theorem GQ.list {a : Addr} {xs : List V} (g : GQ X Hh cenv nm s) (h : SqL X.K Hh a xs) : ∃ its : List Value, Vals xs its ∧ PlainL s.heap a its.toArray ∧ xs.length ≤ sizeLine := by
  rcases h with h | ⟨o, its, n, hk, hc, hd, hs, hz, r⟩
  · obtain ⟨z, its, n, r, e⟩ := h.ok g.hok
    exact ⟨its, r, ⟨_, n, e, rfl, rfl, rfl⟩, z⟩
  · refine ⟨its.toList, r, ⟨o, n, g.kIn a o hk, hc, hd, by simpa using hs⟩, ?_⟩
    have e := r.length
    simp only [Array.length_toList] at e
    omega
/-- names -/
theorem qx_name {x : Str} {v : V} {pos : Pos} (h : nm.lookup x = some v) (hd : (x == ("__debug__" : Str)) = false := by decide) (hcd : (x == ("__classdict__" : Str)) = false := by decide) : QX X A Hh cenv nm (.Name x pos) v := by
  intro E s g
  obtain ⟨m, hn, hl⟩ := g.loc
  obtain ⟨u, r, l⟩ := hl x v h
  have fin : RelV v u ∧ Keeps s s := ⟨r, keeps_refl s⟩
  rcases l with ⟨hk, hm⟩ | ⟨hk, c, hc, hcell⟩
  · exact wpAny_Name (wpAny_loadName_local g.kind hk hn hm fin) hd
  · rcases hk with hk | hk
    · exact wpAny_Name (wpAny_loadName_cell g.kind hk hc hcell fin) hd
    · exact wpAny_Name (wpAny_loadName_free g.kind hk hc hcell fin hcd) hd
theorem qx_int {i : Int} {j : Nat} {pos : Pos} : QX X A Hh cenv nm (.Constant (.int i) j pos) (.int i) := fun E s _ => wpAny_Constant_int ⟨⟨_, rfl⟩, keeps_tok _ _⟩
theorem qg_glob {x : Str} {u : Value} {pos : Pos} {Q : Value → Shared → Prop} (g : GQ X Hh cenv nm s) (hk : cenv.kindOf x = some .globalImplicit) (hm : X.mg x = some u) (h : Q u s) (hd : (x == ("__debug__" : Str)) = false := by decide) :
    wpAny (model X.prog X.w) A (eval (.Name x pos) cenv) Q E s :=
  Calls.Name_function_global g.kind hk (Calls.loadGlobal_global (by rw [g.glob]; exact g.mod.glob.keeps g.bk) hm h) hd
theorem qg_blt {x : Str} {u : Value} {pos : Pos} {Q : Value → Shared → Prop} (g : GQ X Hh cenv nm s) (hk : cenv.kindOf x = some .globalImplicit) (hm : X.mg x = none) (hv : bootBuiltins x = some u) (h : Q u s)
    (hn : x ≠ "__name__" := by decide) (hd : (x == ("__debug__" : Str)) = false := by decide) : wpAny (model X.prog X.w) A (eval (.Name x pos) cenv) Q E s := by
  obtain ⟨mb, h1, h2⟩ := g.mod.blt
  exact Calls.Name_function_global g.kind hk (Calls.loadGlobal_builtin (by rw [g.glob]; exact g.mod.glob.keeps g.bk) hm (by rw [g.blt]; exact h1.keeps g.bk) ((h2 x hn).trans hv) h) hd
theorem qx_glob {x : Str} {v : V} {u : Value} {pos : Pos} (hk : cenv.kindOf x = some .globalImplicit) (hm : X.mg x = some u) (r : RelV v u) (hd : (x == ("__debug__" : Str)) = false := by decide) : QX X A Hh cenv nm (.Name x pos) v :=
  fun E s g => qg_glob g hk hm ⟨r, keeps_refl s⟩ hd
/-- two expressions in a row -/
theorem qx_bin {a b : Expr} {va vb : V} (ha : QX X A Hh cenv nm a va) (hb : QX X A Hh cenv nm b vb) (g : GQ X Hh cenv nm s) {α : Type} {Q : α → Shared → Prop} {f : Value → Value → Sem α}
    (hf : ∀ v u s2, RelV va v → RelV vb u → GQ X Hh cenv nm s2 → Keeps s s2 → wpAny (model X.prog X.w) A (f v u) Q E s2) :
    wpAny (model X.prog X.w) A (eval a cenv) (fun v s₁ => wpAny (model X.prog X.w) A (eval b cenv) (fun u s₂ => wpAny (model X.prog X.w) A (f v u) Q E s₂) E s₁) E s := by
  refine thn (ha E s g) fun v s1 ⟨r1, k1⟩ => ?_
  have g1 := g.keeps k1
  refine thn (hb E s1 g1) fun u s2 ⟨r2, k2⟩ => ?_
  exact hf v u s2 r1 r2 (g1.keeps k2) (keeps_trans k1 k2)
theorem qx_sub {a b : Expr} {i j : Int} {pos : Pos} (ha : QX X A Hh cenv nm a (.int i)) (hb : QX X A Hh cenv nm b (.int j)) : QX X A Hh cenv nm (.BinOp a .Sub b pos) (.int (i - j)) := by
  intro E s g
  refine wpAny_BinOp (qx_bin ha hb g fun v u s2 rx ry g2 k => ?_)
  obtain ⟨t, rfl⟩ := rx
  obtain ⟨t', rfl⟩ := ry
  exact sub_int ⟨⟨_, rfl⟩, keeps_trans k (keeps_tok _ _)⟩
theorem qx_add {a b : Expr} {i j : Int} {pos : Pos} (ha : QX X A Hh cenv nm a (.int i)) (hb : QX X A Hh cenv nm b (.int j)) : QX X A Hh cenv nm (.BinOp a .Add b pos) (.int (i + j)) := by
  intro E s g
  refine wpAny_BinOp (qx_bin ha hb g fun v u s2 rx ry g2 k => ?_)
  obtain ⟨t, rfl⟩ := rx
  obtain ⟨t', rfl⟩ := ry
  exact add_int ⟨⟨_, rfl⟩, keeps_trans k (keeps_tok _ _)⟩
theorem qx_le {a b : Expr} {i j : Int} {pos : Pos} (ha : QX X A Hh cenv nm a (.int i)) (hb : QX X A Hh cenv nm b (.int j)) (hm : behindInMarks .LtE b = false := by with_unfolding_all rfl) : QX X A Hh cenv nm (.Compare a [.LtE] [b] pos) (.bl (decide (i ≤ j))) := by
  intro E s g
  refine wpAny_Compare1 (qx_bin ha hb g fun v u s2 rx ry g2 k => ?_) hm
  obtain ⟨t, rfl⟩ := rx
  obtain ⟨t', rfl⟩ := ry
  exact le_int ⟨rfl, k⟩
theorem qx_gt {a b : Expr} {i j : Int} {pos : Pos} (ha : QX X A Hh cenv nm a (.int i)) (hb : QX X A Hh cenv nm b (.int j)) (hm : behindInMarks .Gt b = false := by with_unfolding_all rfl) : QX X A Hh cenv nm (.Compare a [.Gt] [b] pos) (.bl (decide (j < i))) := by
  intro E s g
  refine wpAny_Compare1 (qx_bin ha hb g fun v u s2 rx ry g2 k => ?_) hm
  obtain ⟨t, rfl⟩ := rx
  obtain ⟨t', rfl⟩ := ry
  exact gt_int ⟨rfl, k⟩
/-- items -/
theorem qx_ixT {a b : Expr} {p : Addr} {xs : List V} {i : Int} {v : V} {pos : Pos} (ha : QX X A Hh cenv nm a (.ref p)) (hb : QX X A Hh cenv nm b (.int i)) (hq : SqT X.K Hh p xs) (he : atI xs i = some v) (hs : PlainIx b := by exact fun _ _ => rfl) :
    QX X A Hh cenv nm (.Subscript a b pos) v := by
  intro E s g
  refine Subscript_ (qx_bin ha hb g fun x y s2 rx ry g2 k => ?_)
  cases rx
  obtain ⟨t, rfl⟩ := ry
  obtain ⟨its, r, pl, hz⟩ := g2.tuple hq
  obtain ⟨j, h1, h2, h3, h4, h5⟩ := atI_get he
  obtain ⟨w, ew, rw'⟩ := r.get h2
  have hl := r.length
  have hn := line63
  exact subscriptTail_builtinR (x := w) pl.typeIs slot_tuple_getitem.lookup
    (getItem_tuple (j := j) (Q := fun r s' => r = w ∧ (RelV v r ∧ Keeps s s')) pl (by omega) (by omega) (by rw [List.size_toArray, ← hl]; exact h1) (by simpa using ew) ⟨rfl, rw', k⟩) (hs _ _)
theorem qx_ixL {a b : Expr} {p : Addr} {xs : List V} {j : Nat} {v : V} {pos : Pos} {i : Int} (ei : i = (j : Int)) (ha : QX X A Hh cenv nm a (.ref p)) (hb : QX X A Hh cenv nm b (.int i)) (hq : SqL X.K Hh p xs) (he : xs[j]? = some v) (hs : PlainIx b := by exact fun _ _ => rfl) :
    QX X A Hh cenv nm (.Subscript a b pos) v := by
  subst ei
  intro E s g
  refine Subscript_ (qx_bin ha hb g fun x y s2 rx ry g2 k => ?_)
  cases rx
  obtain ⟨t, rfl⟩ := ry
  obtain ⟨its, r, pl, hz⟩ := g2.list hq
  obtain ⟨w, ew, rw'⟩ := r.get he
  have hl := r.length
  have hn := line63
  have hj : j < xs.length := by
    obtain ⟨h, _⟩ := List.getElem?_eq_some_iff.mp he
    exact h
  exact item_listR pl.isList (by omega) (by omega) (by simpa using ew) ⟨rw', k⟩ (hs _ _)
/-- len of a list -/
theorem qx_len {a : Expr} {p : Addr} {xs : List V} {q1 pos : Pos} (hk : cenv.kindOf "len" = some .globalImplicit) (hm : X.mg "len" = none) (ha : QX X A Hh cenv nm a (.ref p)) (hq : SqL X.K Hh p xs)
    (he : starEach [a] cenv = (false, eval a cenv) :: starEach [] cenv := by rfl) : QX X A Hh cenv nm (.Call (.Name "len" q1) [a] [] pos) (.int xs.length) := by
  intro E s g
  refine wpAny_Call_Name_kw (qg_blt g hk hm boot_len ?_)
  refine PyProof.Rows.callWith_builtin1 ?_ he (by rfl)
  rw [he]
  show wpAny _ _ (spliced ((false, eval a cenv) :: backTo pos (starEach [] cenv))) _ _ s
  refine Calls.spliced_cons (thn (ha E s g) fun v s1 ⟨r, k⟩ => ?_)
  refine Calls.spliced_nil ?_
  cases r
  obtain ⟨its, r', pl, hz⟩ := (g.keeps k).list hq
  have hlen := r'.length
  have hn := line63
  exact Calls.call_len_list pl.isList (by simp only [List.size_toArray] <;> omega) ⟨⟨s1.toks + 1, by rw [List.size_toArray, hlen]⟩, keeps_trans k (keeps_tok _ _)⟩
/-- i in t, t a tuple of flat things -/
theorem qx_inT {a b : Expr} {p : Addr} {x : V} {xs : List V} {pos : Pos} (ha : QX X A Hh cenv nm a x) (hb : QX X A Hh cenv nm b (.ref p)) (hq : SqT X.K Hh p xs) (fx : flatV x = true) (fs : xs.all flatV = true) (hm : behindInMarks .In b = false := by with_unfolding_all rfl) :
    QX X A Hh cenv nm (.Compare a [.In] [b] pos) (.bl (inV x xs)) := by
  intro E s g
  refine wpAny_Compare1 (qx_bin ha hb g fun v u s2 rx ry g2 k => ?_) hm
  cases ry
  obtain ⟨its, r, pl, hz⟩ := g2.tuple hq
  refine SeqAt.in_tupleAt (eqU x) pl (fun w hw => mem_eqAt rx fx r fs w (by simpa using hw)) ⟨?_, keeps_trans k (keeps_tok _ _)⟩
  rw [show its.toArray.any (eqU x) = its.any (eqU x) by simp, any_eqU r fs]
  rfl
/-- tests -/
theorem qx_test {c : Expr} {b : Bool} {pos : Pos} (h : QX X A Hh cenv nm c (.bl b)) (g : GQ X Hh cenv nm s) (he : ∀ whole, isTrue c cenv whole = (do let v ← whole; standAt c.pos; holding [v] (truthy v)) := by intro _; rfl) :
    wpAny (model X.prog X.w) A (testsOfG [c] cenv) (fun ok s' => ok = b ∧ Keeps s s') E s := by
  refine wpAny_tests_one (isTrue_plain (thn (h E s g) fun v s1 ⟨r, k⟩ => ?_) (he _))
  cases r
  exact wpAny_truthy_bool ⟨rfl, k⟩
theorem qx_test0 : wpAny (model X.prog X.w) A (testsOfG [] cenv) (fun ok s' => ok = true ∧ Keeps s s') E s := wpAny_tests_nil ⟨rfl, keeps_refl s⟩
/-- and, not, chains, isinstance -/
theorem qx_one {op : BoolOp} {a : Expr} {v : V} {pos : Pos} (h : QX X A Hh cenv nm a v) : QX X A Hh cenv nm (.BoolOp op [a] pos) v := fun E s g => BoolOp_one (h E s g)
theorem qx_andT {a b : Expr} {rest : List Expr} {v : V} {pos : Pos} (ha : QX X A Hh cenv nm a (.bl true)) (hb : QX X A Hh cenv nm (.BoolOp .And (b :: rest) pos) v) : QX X A Hh cenv nm (.BoolOp .And (a :: b :: rest) pos) v := by
  intro E s g
  refine BoolOp_and (thn (ha E s g) fun x s1 ⟨r, k⟩ => ?_)
  cases r
  refine wpAny_truthy_bool ?_
  exact thn (hb E s1 (g.keeps k)) fun y s2 ⟨r2, k2⟩ => ⟨r2, keeps_trans k k2⟩
theorem qx_not {a : Expr} {b : Bool} {pos : Pos} (ha : QX X A Hh cenv nm a (.bl b)) : QX X A Hh cenv nm (.UnaryOp .Not a pos) (.bl (!b)) := by
  intro E s g
  refine UnaryOp_ (thn (ha E s g) fun x s1 ⟨r, k⟩ => ?_)
  cases r
  exact not_of (wpAny_truthy_bool ⟨rfl, k⟩)
theorem qx_chain {a b c : Expr} {i j k : Int} {pos : Pos} (ha : QX X A Hh cenv nm a (.int i)) (hb : QX X A Hh cenv nm b (.int j)) (hc : QX X A Hh cenv nm c (.int k)) (hm : lastMarks [.LtE, .LtE] [b, c] = false := by with_unfolding_all rfl) :
    QX X A Hh cenv nm (.Compare a [.LtE, .LtE] [b, c] pos) (.bl (decide (i ≤ j ∧ j ≤ k))) := by
  intro E s g
  refine Compare_chain (thn (ha E s g) fun v s1 ⟨r1, k1⟩ => chain_link (thn (hb E s1 (g.keeps k1)) fun u s2 ⟨r2, k2⟩ => ?_)) hm
  have g2 := (g.keeps k1).keeps k2
  obtain ⟨t, rfl⟩ := r1
  obtain ⟨t', rfl⟩ := id r2
  refine le_int (wpAny_truthy_bool ?_)
  by_cases h1 : i ≤ j
  · rw [decide_eq_true h1]
    refine ite_tt (chain_last (thn (hc E s2 g2) fun w' s3 ⟨r3, k3⟩ => ?_))
    obtain ⟨t'', rfl⟩ := r3
    refine le_int ⟨?_, keeps_trans k1 (keeps_trans k2 k3)⟩
    by_cases h2 : j ≤ k
    · rw [decide_eq_true h2, decide_eq_true (show i ≤ j ∧ j ≤ k from ⟨h1, h2⟩)]
      rfl
    · rw [decide_eq_false h2, decide_eq_false (show ¬ (i ≤ j ∧ j ≤ k) from fun z => h2 z.2)]
      rfl
  · rw [decide_eq_false h1]
    refine ite_ff ⟨?_, keeps_trans k1 k2⟩
    rw [decide_eq_false (show ¬ (i ≤ j ∧ j ≤ k) from fun z => h1 z.1)]
    rfl
/-- isinstance(x, T) of an int -/
theorem qx_isiInt {a : Expr} {i : Int} {T : Str} {tn : String} {b : Bool} {q1 q2 pos : Pos} (hk : cenv.kindOf "isinstance" = some .globalImplicit) (hm : X.mg "isinstance" = none) (hkT : cenv.kindOf T = some .globalImplicit) (hmT : X.mg T = none) (hvT : bootBuiltins T = some (.type tn))
    (e : PySem.W.kitOne X.K (.type "int") (.type tn) = some b) (hb : bootBuiltins "isinstance" = some (.builtin "isinstance")) (ha : QX X A Hh cenv nm a (.int i))
    (hn : T ≠ "__name__" := by decide) (hd : (T == ("__debug__" : Str)) = false := by decide) (he : starEach [a, .Name T q2] cenv = (false, eval a cenv) :: starEach [.Name T q2] cenv := by rfl) :
    QX X A Hh cenv nm (.Call (.Name "isinstance" q1) [a, .Name T q2] [] pos) (.bl b) := by
  intro E s g
  refine wpAny_Call_Name_kw (qg_blt g hk hm hb ?_)
  refine PyProof.Rows.callWith_builtin1 ?_ he (by rfl)
  rw [he]
  show wpAny _ _ (spliced ((false, eval a cenv) :: backTo pos (starEach [.Name T q2] cenv))) _ _ s
  refine Calls.spliced_cons (thn (ha E s g) fun v s1 ⟨r, k⟩ => ?_)
  obtain ⟨t, rfl⟩ := r
  have g1 := g.keeps k
  show wpAny _ _ (spliced ((false, do standAt pos; eval (.Name T q2) cenv) :: [])) _ _ s1
  refine Calls.spliced_cons (wpAny_bind (wpAny_standAt (qg_blt g1 hkT hmT hvT ?_ hn hd)))
  refine Calls.spliced_nil ?_
  exact PySem.W.kia_one PySem.W.kitx_int g1.kIn True.intro e (fun z => nomatch z) fun tk => ⟨rfl, keeps_trans k (keeps_tok _ _)⟩
end
end Gq

/-! Rules: all, any, sum of generator expressions. -/
namespace Gq
open PySem PySem.Spec PyProof.Rows L2 GxR
def hidP (P : Addr) (H : Hp) : Hp := fun b => if b = P then none else H b
theorem hidP_ne {P b : Addr} {H : Hp} (h : b ≠ P) : hidP P H b = H b := by unfold hidP; rw [if_neg h]
theorem hidP_some {P b : Addr} {H : Hp} {o : HO} (h : hidP P H b = some o) : b ≠ P ∧ H b = some o := by
  unfold hidP at h
  by_cases e : b = P
  · rw [if_pos e] at h; cases h
  · rw [if_neg e] at h; exact ⟨e, h⟩
theorem hidP_rd {P : Addr} {H : Hp} (hT : TabG H P) {a : Addr} {u : HO} (h : Rd H a u) (hu : ∀ ps, u ≠ .tbl ps) : Rd (hidP P H) a u := by
  obtain ⟨ps, hP, _⟩ := hT
  rcases h with h | ⟨o, h⟩
  · refine .inl ?_
    rw [hidP_ne (fun z => ?_)]
    · exact h
    · rw [z, hP] at h; exact hu ps (Option.some.inj h).symm
  · refine .inr ⟨o, ?_⟩
    rw [hidP_ne (fun z => ?_)]
    · exact h
    · rw [z, hP] at h; cases h
theorem hidP_T {K : PySem.W.Frag} {P : Addr} {H : Hp} (hT : TabG H P) {a : Addr} {xs : List V} (h : SqT K H a xs) : SqT K (hidP P H) a xs := by
  rcases h with h | h
  · exact .inl (hidP_rd hT h fun _ z => nomatch z)
  · exact .inr h
theorem hidP_L {K : PySem.W.Frag} {P : Addr} {H : Hp} (hT : TabG H P) {a : Addr} {xs : List V} (h : SqL K H a xs) : SqL K (hidP P H) a xs := by
  rcases h with h | h
  · exact .inl (hidP_rd hT h fun _ z => nomatch z)
  · exact .inr h
/-- captured names: the name, its slot -/
abbrev Caps := List (Str × Nat)
def capV (σ : L2.St) : Caps → List (Str × V)
  | [] => []
  | p :: r => match σ[p.2]? with
    | some (some v) => (p.1, v) :: capV σ r
    | _ => capV σ r
def capB (N : List Str) (sc scope : Scope) (caps : Caps) : Bool := caps.all fun p => decide (N[p.2]? = some p.1) && decide (scope.names.lookup p.1 = some .free) && (decide (sc.names.lookup p.1 = some .cell) || decide (sc.names.lookup p.1 = some .free))
structure CapOk (N : List Str) (sc scope : Scope) (caps : Caps) : Prop where
  ok : ∀ p ∈ caps, N[p.2]? = some p.1 ∧ scope.names.lookup p.1 = some .free ∧ (sc.names.lookup p.1 = some .cell ∨ sc.names.lookup p.1 = some .free)
theorem cap_by {N : List Str} {sc scope : Scope} {caps : Caps} (h : capB N sc scope caps = true) : CapOk N sc scope caps := ⟨fun p hp => by
  have q := List.all_eq_true.mp h p hp
  simp only [Bool.and_eq_true, Bool.or_eq_true, decide_eq_true_eq] at q
  exact ⟨q.1.1, q.1.2, q.2⟩⟩
/-- the generator's scope, by a look -/
def genB (sc scope : Scope) (x : Str) : Bool := decide (scope.kind = .function) && !scope.isCoroutine && (scope.names.all fun y => decide (y.2 ≠ .cell) && (!decide (y.2 = .free) || (decide (sc.names.lookup y.1 = some .cell) || decide (sc.names.lookup y.1 = some .free)))) &&
  decide (scope.names.lookup (".0" : Str) = some NameKind.local) && decide (scope.names.lookup x = some .local)
section
variable {X : Cx} {pins : List (Addr × Obj)} {σ : L2.St} {H : Hp} {s : Shared}
theorem genS_by {scope : Scope} {x : Str} (h : genB X.env.scope scope x = true) (ok : X.Ok) : GenS X.env scope x := by
  unfold genB at h
  simp only [Bool.and_eq_true, Bool.or_eq_true, decide_eq_true_eq, Bool.not_eq_true', List.all_eq_true, decide_eq_false_iff_not] at h
  obtain ⟨⟨⟨⟨h1, h2⟩, h3⟩, h4⟩, h5⟩ := h
  refine ⟨h1, h2, fun y hy => (h3 y hy).1, h4, h5, fun y hy hf => ?_⟩
  rcases (h3 y hy).2 with z | z
  · exact absurd hf z
  · exact ok.has y.1 z
theorem capV_mem {x : Str} {v : V} : ∀ {caps : Caps}, (capV σ caps).lookup x = some v → ∃ j, (x, j) ∈ caps ∧ σ[j]? = some (some v)
  | [], h => by cases h
  | p :: r, h => by
    unfold capV at h
    split at h
    · rename_i w e
      rw [List.lookup_cons] at h
      by_cases hx : (x == p.1) = true
      · rw [hx] at h
        have ev : w = v := Option.some.inj h
        have ex : x = p.1 := beq_iff_eq.mp hx
        exact ⟨p.2, by rw [ex]; exact List.mem_cons_self .., by rw [e, ev]⟩
      · rw [(Bool.not_eq_true _).mp hx] at h
        obtain ⟨j, hj, e2⟩ := capV_mem h
        exact ⟨j, List.mem_cons_of_mem _ hj, e2⟩
    · obtain ⟨j, hj, e2⟩ := capV_mem h
      exact ⟨j, List.mem_cons_of_mem _ hj, e2⟩
theorem clo_lookup {scope : Scope} {x : Str} (hf : scope.names.lookup x = some .free) {c : Addr} (hc : X.env.cells.lookup x = some c) : (cloFrom X.env.cells scope.names []).lookup x = some c := by
  have mem : (x, NameKind.free) ∈ scope.names := by
    have : ∀ {l : List (Str × NameKind)}, l.lookup x = some .free → (x, NameKind.free) ∈ l := by
      intro l
      induction l with
      | nil => intro z; cases z
      | cons p r ih =>
        intro z
        rw [List.lookup_cons] at z
        by_cases hx : (x == p.1) = true
        · rw [hx] at z
          have e1 : x = p.1 := beq_iff_eq.mp hx
          have e2 : p.2 = .free := Option.some.inj z
          rw [e1, ← e2]
          exact List.mem_cons_self ..
        · rw [(Bool.not_eq_true _).mp hx] at z
          exact List.mem_cons_of_mem _ (ih z)
    exact this hf
  have h1 := cloFrom_has (cells := X.env.cells) (acc := []) mem
  obtain ⟨c', hc'⟩ := mem_lookup h1
  have h2 : (x, c') ∈ cloFrom X.env.cells scope.names [] := by
    have : ∀ {l : List (Str × Addr)}, l.lookup x = some c' → (x, c') ∈ l := by
      intro l
      induction l with
      | nil => intro z; cases z
      | cons p r ih =>
        intro z
        rw [List.lookup_cons] at z
        by_cases hx : (x == p.1) = true
        · rw [hx] at z
          have e1 : x = p.1 := beq_iff_eq.mp hx
          have e2 : p.2 = c' := Option.some.inj z
          rw [e1, ← e2]
          exact List.mem_cons_self ..
        · rw [(Bool.not_eq_true _).mp hx] at z
          exact List.mem_cons_of_mem _ (ih z)
    exact this hc'
  rcases cloFrom_mem h2 with z | ⟨_, z⟩
  · cases z
  · rw [hc', z, hc]
    rfl
/-- what an element knows -/
theorem gq_of {P C : Addr} {code : Value} {H1 : Hp} {s1 u : Shared} {scope : Scope} {caps : Caps} {m2 : Str → Option Value} {own : List (Str × V)} (I1 : Inv X pins σ H1 s1) (hT : TabG H1 P) (ho : Old P s1 u) (hk : scope.kind = .function) (hn : u.heap.Ns C m2)
    (hc : CapOk X.N X.env.scope scope caps) (hown : ∀ x v, own.lookup x = some v → ∃ w, RelV v w ∧ m2 x = some w ∧ scope.names.lookup x = some .local) : GQ (ckOf X) (hidP P H1) (gEnv X scope C code) (own ++ capV σ caps) u := by
  obtain ⟨ps, hP, _⟩ := hT
  have bkP : ∀ b o, X.base.get? b = some o → b ≠ P := fun b o e z => by
    have q := (I1.bs b o e).2
    rw [z, hP] at q
    cases q
  refine ⟨hk, I1.ok.glob, rfl, I1.mod, ?_, fun b o e => ho b o (bkP b o e) (I1.bk b o e), m2, hn, ?_⟩
  · intro a o e
    obtain ⟨ne, e1⟩ := hidP_some e
    refine (I1.hok a o e1).stay (fun b u2 hb q => ho b u2 (fun z => ?_) q) (fun b q => ?_) fun b xs q => ?_
    · rcases hb with hb | hb
      · exact ne (hb.symm.trans z)
      · rw [z, hP] at hb; cases hb
    · rw [hidP_ne (fun z => by rw [z, hP] at q; cases q)]; exact q
    · rw [hidP_ne (fun z => by rw [z, hP] at q; cases q)]; exact q
  · intro x v e
    rw [List.lookup_append] at e
    cases q : own.lookup x with
    | some v' =>
      rw [q] at e
      have ev : v' = v := Option.some.inj e
      subst ev
      obtain ⟨w', r, hm, hl⟩ := hown x v' q
      exact ⟨w', r, .inl ⟨hl, hm⟩⟩
    | none =>
      rw [q] at e
      have e' : (capV σ caps).lookup x = some v := e
      obtain ⟨j, hj, ej⟩ := capV_mem e'
      obtain ⟨c1, c2, c3⟩ := hc.ok _ hj
      obtain ⟨m, hm, hl⟩ := I1.loc
      have hv : Vis X.env.scope x := c3.elim (fun z => .inr (.inl z)) fun z => .inr (.inr z)
      obtain ⟨w', r, l⟩ := hl j x v c1 ej hv
      refine ⟨w', r, ?_⟩
      rcases l with ⟨z, _⟩ | ⟨_, cc, hcc, hcell⟩
      · rcases c3 with z2 | z2
        · have : X.env.kindOf x = some .cell := z2
          rw [z] at this; cases this
        · have : X.env.kindOf x = some .free := z2
          rw [z] at this; cases this
      · refine .inr ⟨.inr c2, cc, clo_lookup c2 hcc, ?_⟩
        obtain ⟨oc, hoc, hd⟩ := hcell
        have nP : cc ≠ P := fun z => by
          have q := I1.freeC x cc hcc
          rw [z, hP] at q
          cases q
        exact ⟨oc, ho cc oc nP hoc, hd⟩
/-- bounds of the rooms within -/
structure GA (A A' : Around) : Prop where
  hd : A'.handled = none
  dp : A'.depth ≤ A.depth + 1
  un : A'.units ≤ A.units + 8

/-! ### sources -/
theorem heap_push_src {P : Addr} {s1 : Shared} {o : Obj} {n : Nat} {Pf : Nat → Value → Prop} {fp wr : List Addr} {St : Nat → Heap → Prop}
    (W : ∀ A' : Around, A'.handled = none → Walks X.prog X.w A' s1.heap.objs.size fp wr n Pf St) (hst : St 0 (s1.heap.push o)) (hfp : ∀ b ∈ fp, b < (s1.heap.push o).objs.size ∧ b ≠ P) (hwr : ∀ b ∈ wr, s1.heap.objs.size ≤ b) :
    Src X P s1 { s1 with heap := s1.heap.push o } (.ref s1.heap.objs.size) n Pf :=
  ⟨⟨_, _, rfl, by rw [Heap.size_push]; exact Nat.le_succ _, fun b u e => Heap.get?_push_of_some _ e⟩, _, fp, wr, St, rfl, W, hst, hfp, hwr⟩
theorem src_tup {P a : Addr} {H1 : Hp} {s1 : Shared} {xs : List V} {Q : Value → Shared → Prop} (I1 : Inv X pins σ H1 s1) (hT : TabG H1 P) (ha : SqT X.K H1 a xs)
    (h : ∀ it s2 Pf, Src X P s1 s2 it xs.length Pf → (∀ i v, Pf i v → ∃ x, xs[i]? = some x ∧ RelV x v) → Q it s2) : wpAny (model X.prog X.w) X.A (pyIter (.ref a)) Q X.xe s1 := by
  obtain ⟨ps, hP, _⟩ := hT
  obtain ⟨its, r, pl, hz⟩ := I1.tuple ha
  have hl := r.length
  have hPs : s1.heap.get? P = some { cls := .none, data := .fields ps } := I1.hok P _ hP
  refine wpAny_pyIter_tuple pl (h _ _ (fun i v => its.toArray[i]? = some v) ?_ ?_)
  · have hlt : a < s1.heap.objs.size := pl.lt
    have aP : a ≠ P := fun z => by
      obtain ⟨o, ho, hc, _⟩ := pl
      rw [z, hPs] at ho
      cases ho
      cases hc
    have sz : xs.length = its.toArray.size := by simp [hl]
    rw [sz]
    refine heap_push_src (fp := [s1.heap.objs.size, a]) (fun A' hA => Walks.tuple hA s1.heap.objs.size a (Nat.ne_of_lt hlt) its.toArray) ⟨⟨_, Heap.get?_push_size _ rfl, rfl, rfl⟩, pl.keeps fun b o e => Heap.get?_push_of_some _ e⟩ ?_ ?_
    · intro b hb
      rw [Heap.size_push]
      have hb' : b = s1.heap.objs.size ∨ b = a := by simpa using hb
      rcases hb' with z | z
      · exact ⟨by rw [z]; exact Nat.lt_succ_self _, fun q => absurd (Heap.lt_size hPs) (by rw [← q, z]; exact Nat.lt_irrefl _)⟩
      · exact ⟨by rw [z]; exact Nat.lt_succ_of_lt hlt, by rw [z]; exact aP⟩
    · intro b hb
      have hb' : b = s1.heap.objs.size := by simpa using hb
      rw [hb']
      exact Nat.le_refl _
  · intro i v e
    have e' : its[i]? = some v := by simpa using e
    have hi : i < xs.length := by
      obtain ⟨q, _⟩ := List.getElem?_eq_some_iff.mp e'
      omega
    obtain ⟨u, e2, r2⟩ := r.get (List.getElem?_eq_getElem hi)
    rw [e'] at e2
    have ev : v = u := Option.some.inj e2
    exact ⟨_, List.getElem?_eq_getElem hi, by rw [ev]; exact r2⟩
theorem src_list {P a : Addr} {H1 : Hp} {s1 : Shared} {xs : List V} {Q : Value → Shared → Prop} (I1 : Inv X pins σ H1 s1) (hT : TabG H1 P) (ha : SqL X.K H1 a xs)
    (h : ∀ it s2 Pf, Src X P s1 s2 it xs.length Pf → (∀ i v, Pf i v → ∃ x, xs[i]? = some x ∧ RelV x v) → Q it s2) : wpAny (model X.prog X.w) X.A (pyIter (.ref a)) Q X.xe s1 := by
  obtain ⟨ps, hP, _⟩ := hT
  obtain ⟨its, r, pl, hz⟩ := I1.list ha
  have hl := r.length
  have hPs : s1.heap.get? P = some { cls := .none, data := .fields ps } := I1.hok P _ hP
  have pl' := pl.isList
  refine wpAny_pyIter_list pl' (h _ _ (fun i v => its.toArray[i]? = some v) ?_ ?_)
  · have hlt : a < s1.heap.objs.size := by
      obtain ⟨o, ho, _⟩ := pl'
      exact Heap.lt_size ho
    have aP : a ≠ P := fun z => by
      obtain ⟨o, ho, hc, _⟩ := pl'
      rw [z, hPs] at ho
      cases ho
      cases hc
    have sz : xs.length = its.toArray.size := by simp [hl]
    rw [sz]
    refine heap_push_src (fp := [s1.heap.objs.size, a]) (fun A' hA => Walks.list hA s1.heap.objs.size a (Nat.ne_of_lt hlt) its.toArray) ⟨⟨_, Heap.get?_push_size _ rfl, rfl, rfl⟩, pl'.at fun o e => Heap.get?_push_of_some _ e⟩ ?_ ?_
    · intro b hb
      rw [Heap.size_push]
      have hb' : b = s1.heap.objs.size ∨ b = a := by simpa using hb
      rcases hb' with z | z
      · exact ⟨by rw [z]; exact Nat.lt_succ_self _, fun q => absurd (Heap.lt_size hPs) (by rw [← q, z]; exact Nat.lt_irrefl _)⟩
      · exact ⟨by rw [z]; exact Nat.lt_succ_of_lt hlt, by rw [z]; exact aP⟩
    · intro b hb
      have hb' : b = s1.heap.objs.size := by simpa using hb
      rw [hb']
      exact Nat.le_refl _
  · intro i v e
    have e' : its[i]? = some v := by simpa using e
    have hi : i < xs.length := by
      obtain ⟨q, _⟩ := List.getElem?_eq_some_iff.mp e'
      omega
    obtain ⟨u, e2, r2⟩ := r.get (List.getElem?_eq_getElem hi)
    rw [e'] at e2
    have ev : v = u := Option.some.inj e2
    exact ⟨_, List.getElem?_eq_getElem hi, by rw [ev]; exact r2⟩
end
end Gq

namespace Gq
open PySem PySem.Spec PyProof.Rows L2 GxR
/-- what may be walked by a generator, and its items -/
inductive SrcV (K : PySem.W.Frag) (H : Hp) : V → List V → Prop where
  | tup {a : Addr} {xs : List V} (h : SqT K H a xs) : SrcV K H (.ref a) xs
  | lst {a : Addr} {xs : List V} (h : SqL K H a xs) : SrcV K H (.ref a) xs
  | rng {a : Addr} {n : Nat} (h : H a = some (.rng 0 (n : Int))) (hn : n < 2 ^ 60) : SrcV K H (.ref a) ((List.range n).map fun (i : Nat) => V.int (i : Int))
section
variable {X : Cx} {pins : List (Addr × Obj)} {σ : L2.St} {H : Hp} {s : Shared}
theorem src_rng {P a : Addr} {n : Nat} {H1 : Hp} {s1 : Shared} {Q : Value → Shared → Prop} (I1 : Inv X pins σ H1 s1) (hT : TabG H1 P) (ha : H1 a = some (.rng 0 (n : Int))) (hn : n < 2 ^ 60)
    (h : ∀ it s2 Pf, Src X P s1 s2 it n Pf → (∀ i v, Pf i v → ∃ t, v = .int (i : Int) t) → Q it s2) : wpAny (model X.prog X.w) X.A (pyIter (.ref a)) Q X.xe s1 := by
  obtain ⟨ps, hP, _⟩ := hT
  obtain ⟨t, u, v, hr⟩ := (show ObjOk X.prog X.w H1 s1.heap a (.rng 0 (n : Int)) from I1.hok a _ ha)
  have hPs : s1.heap.get? P = some { cls := .none, data := .fields ps } := I1.hok P _ hP
  have q3 : -(2 ^ 62) ≤ (n : Int) := by omega
  have q4 : (n : Int) < 2 ^ 62 := by omega
  have hsz : Builtin.Range.rangeSize 0 (n : Int) 1 = (n : Int) := by
    rw [rangeSize_one]
    split <;> omega
  refine range_begins hr (small_one (by decide) (by decide) q3 q4) hsz fun h' hit hs' hk => h _ _ (fun i v => ∃ t, v = .int ((0 : Int) + (i : Nat) * 1) t) ?_ ?_
  · refine ⟨⟨_, _, rfl, by rw [hs']; exact Nat.le_succ _, hk⟩, _, [s1.heap.objs.size], [s1.heap.objs.size], _, rfl, fun A' hA => Walks.range hA s1.heap.objs.size 0 1 n, range_st hit, ?_, ?_⟩
    · intro b hb
      have hb' : b = s1.heap.objs.size := by simpa using hb
      rw [hb']
      exact ⟨by show _ < h'.objs.size; rw [hs']; exact Nat.lt_succ_self _, fun q => absurd (Heap.lt_size hPs) (by rw [← q]; exact Nat.lt_irrefl _)⟩
    · intro b hb
      have hb' : b = s1.heap.objs.size := by simpa using hb
      rw [hb']
      exact Nat.le_refl _
  · rintro i v ⟨t, rfl⟩
    exact ⟨t, by simp⟩
theorem src_v {P : Addr} {v : V} {u : Value} {H1 : Hp} {s1 : Shared} {xs : List V} {Q : Value → Shared → Prop} (I1 : Inv X pins σ H1 s1) (hT : TabG H1 P) (hv : SrcV X.K H1 v xs) (r : RelV v u)
    (h : ∀ it s2 Pf, Src X P s1 s2 it xs.length Pf → (∀ i w, Pf i w → ∃ x, xs[i]? = some x ∧ RelV x w) → Q it s2) : wpAny (model X.prog X.w) X.A (pyIter u) Q X.xe s1 := by
  cases hv with
  | tup ha => cases r; exact src_tup I1 hT ha h
  | lst ha => cases r; exact src_list I1 hT ha h
  | @rng a n ha hn =>
    cases r
    refine src_rng I1 hT ha hn fun it s2 Pf hs hp => ?_
    have hlen : ((List.range n).map fun (i : Nat) => V.int (i : Int)).length = n := by simp
    refine h it s2 (fun i w => Pf i w ∧ i < n) ?_ ?_
    · rw [hlen]
      obtain ⟨st, Ia, fp, wr, St, e, W, r⟩ := hs
      refine ⟨st, Ia, fp, wr, St, e, fun A' hA => ?_, r⟩
      have W' := W A' hA
      exact ⟨W'.sub, W'.frame, fun i s Q E hi st hQ => W'.item i s Q E hi st fun v h' tk hP => hQ v h' tk ⟨hP, hi⟩, W'.done, W'.self⟩
    · rintro i w ⟨hw, hi⟩
      obtain ⟨t, rfl⟩ := hp i w hw
      exact ⟨.int (i : Int), by simp [hi], ⟨t, rfl⟩⟩

/-! ### all, any, sum -/
theorem sum_pre {val : Nat → Int} : ∀ n : Nat, preSum val n = ((List.range n).map val).sum
  | 0 => rfl
  | n + 1 => by
    show preSum val n + val n = _
    rw [sum_pre n, List.range_succ, List.map_append, List.sum_append]
    simp
theorem passing_len_le (pz : Nat → Bool) (n : Nat) : (passing pz n 0).length ≤ n := by
  unfold passing
  have h := List.length_filter_le pz ((List.range n).drop 0)
  simpa using h
/-- elements that are truth values -/
def tValN {α : Type} (cv : α → V) (X : Ck) (A : Around) (P : Addr) (x : Str) (caps : Caps) (elt : Expr) (scope : Scope) (te : TE) (R : (Nat → α) → Nat → VK → Hp → Prop) : TE := fun σ H Q => te σ H fun v H1 => ∃ (xs : List V) (pb : Nat → α), SrcV X.K H1 v xs ∧ TabG H1 P ∧
  (∀ i y, xs[i]? = some y → ∀ (A' : Around) (cenv : Env), GA A A' → cenv.scope = scope → QX X A' (hidP P H1) cenv ((x, y) :: capV σ caps) elt (cv (pb i))) ∧ ∀ H2, Tabbed P H1 H2 → R pb xs.length Q H2
abbrev tBoolN (X : Ck) (A : Around) (P : Addr) (x : Str) (caps : Caps) (elt : Expr) (scope : Scope) (te : TE) (f : (Nat → Bool) → Nat → Bool) : TE := tValN V.bl X A P x caps elt scope te fun pb n Q H2 => Q (.bl (f pb n)) H2
section
variable {c P : Addr} {elt iter : Expr} {x : Str} {px p pos gpos : Pos} {scope : Scope} {te : TE} {k : Nat} {caps : Caps}
theorem gen_val {α : Type} {cv : α → V} {Q' : Value → Shared → Prop} {R : Nat → (Nat → α) → Hp → Prop} (hr : Room k X.A) (TB : TabB X.base X.mg c P) (hcode : X.env.code = .ref c) (hG : genB X.env.scope scope x = true) (hC : capB X.N X.env.scope scope caps = true) (hi : PE X iter te)
    (hs : ∀ v, genFold iter X.env v = pure v) (I : Inv X pins σ H s)
    (h : te σ H fun v H1 => ∃ (xs : List V) (pb : Nat → α), SrcV X.K H1 v xs ∧ TabG H1 P ∧
      (∀ i y, xs[i]? = some y → ∀ (A' : Around) (cenv : Env), GA X.A A' → cenv.scope = scope → QX (ckOf X) A' (hidP P H1) cenv ((x, y) :: capV σ caps) elt (cv (pb i))) ∧ ∀ H2, Tabbed P H1 H2 → R xs.length pb H2)
    (hQ : ∀ H1 n (pb : Nat → α) a s5, (∀ H2, Tabbed P H1 H2 → R n pb H2) → ReadyG X pins σ H1 P n (fun _ => true) (fun i => cv (pb i)) a s5 → Q' (.ref a) s5) :
    wpAny (model X.prog X.w) X.A (eval (.GeneratorExp elt [⟨.Name x px, iter, [], 0⟩] scope gpos) X.env) Q' X.xe s := by
  -- the number of turns is not known ahead: walk the source first, then make the generator
  have S := genS_by hG I.ok
  refine wpAny_GeneratorExp_walksQD hr.hd S.co (closure_ok S.free) S.cell S.dot S.loc S.kind (by have := hr.dp; omega) ?_ hs
  refine thn (hi.run pins s σ H _ I h) fun xv s1 ⟨v, H1, I1, r1, xs, pb, hv, hT, hel, hR⟩ => ?_
  refine src_v I1 hT hv r1 fun it s2 Pf hsrc hPf => ?_
  obtain ⟨⟨h2, t2, rfl, z2, k2⟩, Ia, fp, wr, St, rfl, W, hst, hfp, hwr⟩ := hsrc
  refine ⟨I1.nolimit.keeps k2, ?_⟩
  refine code_part TB hcode I1 hT k2 fun code h3 tk ps ps' more hx hsz hP hP3 hmore ht3 lim3 => ?_
  have k3 : ∀ b u, b ≠ P → s1.heap.get? b = some u → h3.get? b = some u := fun b u hb e => hx b u hb (k2 _ _ e)
  have hcs : cStatics < s1.heap.objs.size := let ⟨_, hns, _⟩ := I1.nolimit; hns.lt
  have sz13 : s1.heap.objs.size ≤ h3.objs.size := Nat.le_trans z2 hsz
  refine ⟨Ia, fp, wr, xs.length, Pf, St, fun _ => true, fun i y => RelV (cv (pb i)) y, rfl, W, ?_, ?_, lim3, ?_, ?_, ?_⟩
  · exact (W X.A hr.hd).frame _ _ _ hst fun b hb o e => hx b o (hfp b hb).2 e
  · exact fun b hb => Nat.lt_of_lt_of_le (hfp b hb).1 hsz
  · exact fun hm => absurd (Nat.lt_of_lt_of_le hcs (hwr _ hm)) (Nat.lt_irrefl _)
  · intro href hhref
    have old : ∀ (u : Shared), (∀ b ∈ List.range h3.objs.size, b ∉ wr → ∀ o, href.get? b = some o → u.heap.get? b = some o) → Old P s1 u := fun u hk b o hb e => by
      have e3 := k3 b o hb e
      refine hk b (List.mem_range.mpr (Heap.lt_size e3)) (fun hm => ?_) o (hhref b o e3)
      exact absurd (Nat.lt_of_lt_of_le (Heap.lt_size e) (hwr b hm)) (Nat.lt_irrefl _)
    refine ⟨fun A' E' i v u m₂ hA hD hU hPv hn hm hk => wpAny_tests_nil ⟨rfl, keeps_refl _⟩, fun A' E' i v u m₂ hA hD hU hPv hp hn hm hk => ?_⟩
    obtain ⟨y, hy, ry⟩ := hPf i v hPv
    have g := gq_of (own := [(x, y)]) (code := code) I1 hT (old u hk) S.kind hn (cap_by hC) fun x' v' e => by
      rw [List.lookup_cons] at e
      by_cases hx' : (x' == x) = true
      · rw [hx'] at e
        have ev : y = v' := Option.some.inj e
        have ex : x' = x := beq_iff_eq.mp hx'
        subst ev ex
        exact ⟨v, ry, hm, S.loc⟩
      · rw [(Bool.not_eq_true _).mp hx'] at e
        cases e
    exact hel i y hy A' _ ⟨hA, hD, hU⟩ rfl E' u g
  · intro a h5 tk5 gs hgb hag hsz5 hk5 W5 hat
    subst hmore
    refine hQ H1 xs.length pb a _ hR ⟨_, _, _, _, W5.in4_1, hat, ?_, fun s' hm => inv_back I1 hP k3 hP3 ht3 hgb sz13 hwr hk5 hm⟩
    intro b hb
    show b < h5.objs.size
    rw [hsz5]
    have hag' : h3.objs.size < a := hag
    rcases List.mem_cons.mp hb with z | z
    · rw [z]; exact Nat.lt_succ_self _
    · rcases List.mem_cons.mp z with z | z
      · rw [z]; exact Nat.lt_succ_of_lt hag'
      · exact Nat.lt_succ_of_lt (Nat.lt_trans (List.mem_range.mp z) hag')
theorem ready_truth {H1 : Hp} {n : Nat} {pb : Nat → Bool} : TruthOf X.prog X.w X.A.in1 (fun j y => ∃ i, (passing (fun _ => true) n 0)[j]? = some i ∧ RelV (.bl (pb i)) y) pb := by
  intro j y sj Qj Ej hy hQj
  obtain ⟨i, hij, r⟩ := hy
  rw [GxR.passing_true] at hij
  obtain ⟨hj, ej⟩ := List.getElem?_eq_some_iff.mp hij
  rw [List.getElem_range] at ej
  subst ej
  cases r
  exact wpAny_truthy_bool hQj
theorem pe_allN (hr : Room k X.A) (hg : Gl X "all") (hm : X.mg "all" = none) (hb : bootBuiltins "all" = some (.builtin "all")) (TB : TabB X.base X.mg c P) (hcode : X.env.code = .ref c) (hG : genB X.env.scope scope x = true) (hC : capB X.N X.env.scope scope caps = true) (hi : PE X iter te)
    (hs : ∀ v, genFold iter X.env v = pure v)
    (he : starEach [.GeneratorExp elt [⟨.Name x px, iter, [], 0⟩] scope gpos] X.env = (false, eval (.GeneratorExp elt [⟨.Name x px, iter, [], 0⟩] scope gpos) X.env) :: starEach [] X.env := by rfl) :
    PE X (.Call (.Name "all" p) [.GeneratorExp elt [⟨.Name x px, iter, [], 0⟩] scope gpos] [] pos) (tBoolN (ckOf X) X.A P x caps elt scope te fun pb n => (List.range n).all pb) := by
  refine ⟨fun pins s σ H Q I h => ?_⟩
  refine wpAny_Call_Name_kw (ld_blt I hg hm hb ?_)
  refine PyProof.Rows.callWith_builtin1 ?_ he (by rfl)
  rw [he]
  show wpAny _ _ (spliced ((false, eval (.GeneratorExp elt [⟨.Name x px, iter, [], 0⟩] scope gpos) X.env) :: backTo pos (starEach [] X.env))) _ _ s
  refine Calls.spliced_cons (gen_val (cv := V.bl) (R := fun n pb H2 => Q (.bl ((List.range n).all pb)) H2) hr TB hcode hG hC hi hs I h fun H1 n pb a s5 hR hG' => ?_)
  obtain ⟨fp, wr, G, St, W, hst, hfp, hI⟩ := hG'
  refine Calls.spliced_nil ?_
  refine call_all_walkS (W.self 0 _ _ _ hst ⟨a, fp, wr, G, _, _, St, pb, rfl, W, hst, ready_truth (H1 := H1), fun s' hmv => ?_⟩)
  obtain ⟨H2, hT, J⟩ := hI s' hmv
  refine ⟨.bl _, H2, J, rfl, ?_⟩
  rw [GxR.passing_true, List.length_range]
  exact hR H2 hT
theorem pe_anyN (hr : Room k X.A) (hg : Gl X "any") (hm : X.mg "any" = none) (TB : TabB X.base X.mg c P) (hcode : X.env.code = .ref c) (hG : genB X.env.scope scope x = true) (hC : capB X.N X.env.scope scope caps = true) (hi : PE X iter te)
    (hs : ∀ v, genFold iter X.env v = pure v)
    (he : starEach [.GeneratorExp elt [⟨.Name x px, iter, [], 0⟩] scope gpos] X.env = (false, eval (.GeneratorExp elt [⟨.Name x px, iter, [], 0⟩] scope gpos) X.env) :: starEach [] X.env := by rfl) :
    PE X (.Call (.Name "any" p) [.GeneratorExp elt [⟨.Name x px, iter, [], 0⟩] scope gpos] [] pos) (tBoolN (ckOf X) X.A P x caps elt scope te fun pb n => (List.range n).any pb) := by
  refine ⟨fun pins s σ H Q I h => ?_⟩
  refine wpAny_Call_Name_kw (ld_blt I hg hm boot_any ?_)
  refine PyProof.Rows.callWith_builtin1 ?_ he (by rfl)
  rw [he]
  show wpAny _ _ (spliced ((false, eval (.GeneratorExp elt [⟨.Name x px, iter, [], 0⟩] scope gpos) X.env) :: backTo pos (starEach [] X.env))) _ _ s
  refine Calls.spliced_cons (gen_val (cv := V.bl) (R := fun n pb H2 => Q (.bl ((List.range n).any pb)) H2) hr TB hcode hG hC hi hs I h fun H1 n pb a s5 hR hG' => ?_)
  obtain ⟨fp, wr, G, St, W, hst, hfp, hI⟩ := hG'
  refine Calls.spliced_nil ?_
  refine call_any_walkS (W.self 0 _ _ _ hst ⟨a, fp, wr, G, _, _, St, pb, rfl, W, hst, ready_truth (H1 := H1), fun s' hmv => ?_⟩)
  obtain ⟨H2, hT, J⟩ := hI s' hmv
  refine ⟨.bl _, H2, J, rfl, ?_⟩
  rw [GxR.passing_true, List.length_range]
  exact hR H2 hT
end

/-- the sum of whole numbers within bounds -/
theorem small_pre {val : Nat → Int} {n : Nat} (h : ∀ i, i < n → 0 ≤ val i ∧ val i ≤ 2 ^ 40) : ∀ j, j ≤ n → 0 ≤ preSum val j ∧ preSum val j ≤ (j : Int) * 2 ^ 40
  | 0, _ => ⟨Int.le_refl _, by simp [preSum]⟩
  | j + 1, hj => by
    have ih := small_pre h j (by omega)
    have hv := h j (by omega)
    show 0 ≤ preSum val j + val j ∧ preSum val j + val j ≤ ((j + 1 : Nat) : Int) * 2 ^ 40
    constructor
    · omega
    · have e : ((j + 1 : Nat) : Int) * 2 ^ 40 = (j : Int) * 2 ^ 40 + 2 ^ 40 := by
        rw [Int.natCast_succ, Int.add_mul, Int.one_mul]
      omega
theorem call_sum_ready {A : Around} {Q : Value → Shared → Prop} {s5 : Shared} {a : Addr} {fp wr : List Addr} {G : Array GenState → Array GenState → Prop} {St : Nat → Shared → Prop} {n : Nat} {pz : Nat → Bool} {z : Nat → Int} {E : Value → Shared → Prop}
    (W : WalksS X.prog X.w A.in1 a fp wr G (passing pz n 0).length (fun j y => ∃ i, (passing pz n 0)[j]? = some i ∧ RelV (.int (z i)) y) St) (hst : St 0 s5) (hfp : ∀ b ∈ fp, b < s5.heap.objs.size)
    (hz : ∀ i, i < n → 0 ≤ z i ∧ z i ≤ 2 ^ 40) (hn : n ≤ 2 ^ 20) (hQ : ∀ s' t', Moved wr G s5 s' → Q (.int ((passing pz n 0).map z).sum t') s') : wpAny (model X.prog X.w) A (call (.builtin "sum") [.ref a]) Q E s5 := by
  have hval : ∀ j, j < (passing pz n 0).length → ∃ i, (passing pz n 0)[j]? = some i ∧ i < n := fun j hj => by
    refine ⟨(passing pz n 0)[j], List.getElem?_eq_getElem hj, ?_⟩
    have hm := List.getElem_mem hj
    unfold passing at hm
    have h2 := (List.mem_filter.mp hm).1
    simp only [List.drop_zero] at h2
    exact List.mem_range.mp h2
  refine call_sum_walkS (W.self 0 _ _ _ hst ⟨a, fp, wr, G, _, _, St, fun j => (((passing pz n 0)[j]?).map z).getD 0, rfl, W, hst, hfp, ?_, ?_, fun s' t' hm => ?_⟩)
  · rintro j v ⟨i, hij, t, rfl⟩
    exact ⟨t, by show _ = Value.int (((passing pz n 0)[j]?.map z).getD 0) t; rw [hij]; rfl⟩
  · have key : ∀ i, i < (passing pz n 0).length → 0 ≤ (((passing pz n 0)[i]?).map z).getD 0 ∧ (((passing pz n 0)[i]?).map z).getD 0 ≤ 2 ^ 40 := fun i hi => by
      obtain ⟨q, hq, hqn⟩ := hval i hi
      rw [hq]
      exact hz q hqn
    intro j hj
    have h1 := key j hj
    have h2 := small_pre key (j + 1) hj
    have hl := passing_len_le pz n
    have hb : ((j + 1 : Nat) : Int) * 2 ^ 40 ≤ 2 ^ 20 * 2 ^ 40 := Int.mul_le_mul_of_nonneg_right (by omega) (by decide)
    have hb2 : (2 : Int) ^ 20 * 2 ^ 40 < 2 ^ 63 := by decide
    have : (2 : Int) ^ 40 < 2 ^ 63 := by decide
    refine ⟨⟨?_, ?_⟩, ⟨by omega, by omega⟩⟩
    · show -(2 ^ 63) ≤ (((passing pz n 0)[j]?).map z).getD 0
      omega
    · show (((passing pz n 0)[j]?).map z).getD 0 < 2 ^ 63
      omega
  · have e : preSum (fun j => (((passing pz n 0)[j]?).map z).getD 0) (passing pz n 0).length = ((passing pz n 0).map z).sum := by
      rw [sum_pre]
      congr 1
      refine List.ext_getElem (by simp) fun i h1 h2 => ?_
      have hi : i < (passing pz n 0).length := by simpa using h2
      simp [List.getElem?_eq_getElem hi]
    have q := hQ s' t' hm
    rw [← e] at q
    exact q
abbrev rSumN : (Nat → Int) → Nat → VK → Hp → Prop := fun z n Q H2 => ((∀ i, i < n → 0 ≤ z i ∧ z i ≤ 2 ^ 40) ∧ n ≤ 2 ^ 20) ∧ Q (.int ((List.range n).map z).sum) H2
section
variable {c P : Addr} {elt iter : Expr} {x : Str} {px p pos gpos : Pos} {scope : Scope} {te : TE} {k : Nat} {caps : Caps}
theorem pe_sumN (hr : Room k X.A) (hg : Gl X "sum") (hm : X.mg "sum" = none) (hb : bootBuiltins "sum" = some (.builtin "sum")) (TB : TabB X.base X.mg c P) (hcode : X.env.code = .ref c) (hG : genB X.env.scope scope x = true) (hC : capB X.N X.env.scope scope caps = true) (hi : PE X iter te)
    (hs : ∀ v, genFold iter X.env v = pure v)
    (he : starEach [.GeneratorExp elt [⟨.Name x px, iter, [], 0⟩] scope gpos] X.env = (false, eval (.GeneratorExp elt [⟨.Name x px, iter, [], 0⟩] scope gpos) X.env) :: starEach [] X.env := by rfl) :
    PE X (.Call (.Name "sum" p) [.GeneratorExp elt [⟨.Name x px, iter, [], 0⟩] scope gpos] [] pos) (tValN V.int (ckOf X) X.A P x caps elt scope te rSumN) := by
  refine ⟨fun pins s σ H Q I h => ?_⟩
  refine wpAny_Call_Name_kw (ld_blt I hg hm hb ?_)
  refine PyProof.Rows.callWith_builtin1 ?_ he (by rfl)
  rw [he]
  show wpAny _ _ (spliced ((false, eval (.GeneratorExp elt [⟨.Name x px, iter, [], 0⟩] scope gpos) X.env) :: backTo pos (starEach [] X.env))) _ _ s
  refine Calls.spliced_cons (gen_val (cv := V.int) (R := fun n z H2 => rSumN z n Q H2) hr TB hcode hG hC hi hs I h fun H1 n z a s5 hR hG' => ?_)
  obtain ⟨fp, wr, G, St, W, hst, hfp, hI⟩ := hG'
  refine Calls.spliced_nil ?_
  obtain ⟨Hx, hTx, Jx⟩ := hI s5 (Moved.refl W.grefl)
  obtain ⟨⟨hz, hn⟩, _⟩ := hR Hx hTx
  refine call_sum_ready W hst hfp hz hn fun s' t' hmv => ?_
  obtain ⟨H2, hT, J⟩ := hI s' hmv
  refine ⟨.int _, H2, J, ⟨t', rfl⟩, ?_⟩
  rw [GxR.passing_true]
  exact (hR H2 hT).2
end
end
end Gq

namespace Gq
open PySem PySem.Spec PyProof.Rows L2 GxR
inductive SrcS (K : PySem.W.Frag) (H : Hp) : V → List V → Prop where
  | tup {a : Addr} {xs : List V} (h : SqT K H a xs) : SrcS K H (.ref a) xs
  | lst {a : Addr} {xs : List V} (h : SqL K H a xs) : SrcS K H (.ref a) xs
section
variable {X : Cx} {pins : List (Addr × Obj)} {σ : L2.St} {H : Hp} {s : Shared}
theorem seq_draw {v : V} {u : Value} {xs : List V} (I : Inv X pins σ H s) (hv : SrcS X.K H v xs) (r : RelV v u) :
    ∃ (o : Obj) (Hb : Heap → Prop) (a : Addr) (P1 : Nat → Value → Prop) (St : Addr → Nat → Heap → Prop), Begins u o Hb ∧ Hb s.heap ∧ a < s.heap.objs.size ∧ (∀ P ps, s.heap.get? P = some { cls := .none, data := .fields ps } → a ≠ P) ∧
      (∀ it, a ≠ it → ∀ A' : Around, A'.handled = none → Draws X.prog X.w A' it [it, a] xs.length P1 (St it)) ∧
      (∀ (h' : Heap) it, h'.get? it = some o → (∀ b w, s.heap.get? b = some w → h'.get? b = some w) → St it 0 h') ∧ (∀ i w, P1 i w → ∃ x, xs[i]? = some x ∧ RelV x w) := by
  have at_ : ∀ {its : List Value}, Vals xs its → ∀ (i : Nat) (w : Value), its.toArray[i]? = some w → ∃ x, xs[i]? = some x ∧ RelV x w := fun {its} r i w e => by
    have e' : its[i]? = some w := by simpa using e
    have hl := r.length
    have hi : i < xs.length := by
      obtain ⟨q, _⟩ := List.getElem?_eq_some_iff.mp e'
      omega
    obtain ⟨u, e2, r2⟩ := r.get (List.getElem?_eq_getElem hi)
    rw [e'] at e2
    have ev : w = u := Option.some.inj e2
    exact ⟨_, List.getElem?_eq_getElem hi, by rw [ev]; exact r2⟩
  cases hv with
  | @tup a xs h =>
    cases r
    obtain ⟨its, rv, pl, hz⟩ := I.tuple h
    have sz : xs.length = its.toArray.size := by simp [rv.length]
    refine ⟨_, _, a, fun (i : Nat) (w : Value) => its.toArray[i]? = some w, fun it i h => h.IsTupleIter it a i ∧ h.IsTuple a its.toArray, begins_tuple a its.toArray, pl, pl.lt, fun P ps hP z => ?_, fun it hne A' hA => ?_, fun h' it ho k => ⟨⟨_, ho, rfl, rfl⟩, pl.keeps k⟩, at_ rv⟩
    · obtain ⟨o, ho, hc, _⟩ := pl
      rw [z, hP] at ho
      cases ho
      cases hc
    · rw [sz]
      exact Draws.tuple hA it a hne its.toArray
  | @lst a xs h =>
    cases r
    obtain ⟨its, rv, pl, hz⟩ := I.list h
    have pl' := pl.isList
    have sz : xs.length = its.toArray.size := by simp [rv.length]
    have hlt : a < s.heap.objs.size := by
      obtain ⟨o, ho, _⟩ := pl'
      exact Heap.lt_size ho
    refine ⟨_, _, a, fun (i : Nat) (w : Value) => its.toArray[i]? = some w, fun it i h => h.IsListIter it a i ∧ h.IsList a its.toArray, begins_list a its.toArray, pl', hlt, fun P ps hP z => ?_, fun it hne A' hA => ?_, fun h' it ho k => ⟨⟨_, ho, rfl, rfl⟩, pl'.at fun o e => k _ _ e⟩, at_ rv⟩
    · obtain ⟨o, ho, hc, _⟩ := pl'
      rw [z, hP] at ho
      cases ho
      cases hc
    · rw [sz]
      exact Draws.list hA it a hne its.toArray
/-- zip(e1, e2) walked by a generator -/
theorem src_zip {P : Addr} {v1 v2 : V} {u1 u2 : Value} {xs ys : List V} {Q : Value → Shared → Prop} (I : Inv X pins σ H s) (hT : TabG H P) (hh : X.A.handled = none) (h1 : SrcS X.K H v1 xs) (h2 : SrcS X.K H v2 ys) (r1 : RelV v1 u1) (r2 : RelV v2 u2)
    (h : ∀ it s2 Pf, Src2 X P s s2 it (min xs.length ys.length) Pf → (∀ i vals, Pf i vals → ∃ va vb x y, vals = #[va, vb] ∧ xs[i]? = some x ∧ ys[i]? = some y ∧ RelV x va ∧ RelV y vb) → Q it s2) :
    wpAny (model X.prog X.w) X.A (call (.type "zip") [u1, u2]) (fun zv s1 => wpAny (model X.prog X.w) X.A (pyIter zv) Q X.xe s1) X.xe s := by
  obtain ⟨ps, hP, _⟩ := hT
  have hPs : s.heap.get? P = some { cls := .none, data := .fields ps } := I.hok P _ hP
  have hPlt := Heap.lt_size hPs
  obtain ⟨o1, Hb1, a1, P1, St1, B1, b1, l1, n1, D1, S1, at1⟩ := seq_draw I h1 r1
  obtain ⟨o2, Hb2, a2, P2, St2, B2, b2, l2, n2, D2, S2, at2⟩ := seq_draw I h2 r2
  refine zip_begins2 B1 B2 b1 b2 fun h' hz hTI hTO hi1 hi2 hsz hk => ?_
  have N1 : a1 ≠ s.heap.objs.size := Nat.ne_of_lt l1
  have N2 : a2 ≠ s.heap.objs.size + 1 := Nat.ne_of_lt (Nat.lt_succ_of_lt l2)
  have Sp : ZipSep2 (s.heap.objs.size + 4) (s.heap.objs.size + 2) (s.heap.objs.size + 3) s.heap.objs.size (s.heap.objs.size + 1) [s.heap.objs.size, a1] [s.heap.objs.size + 1, a2] :=
    zip_sep2 (fp1 := [a1]) (fp2 := [a2]) (fun b hb => by
      have e : b = a1 := by simpa using hb
      rw [e]; exact l1) (fun b hb => by
      have e : b = a2 := by simpa using hb
      rw [e]; exact l2)
  have W := fun (A' : Around) (hA : A'.handled = none) => (WalksT.zipD2 Sp (D1 _ N1 A'.in1 hA) (D2 _ N2 A'.in1 hA)).toU
  have st0 : IsZip h' (s.heap.objs.size + 4) (s.heap.objs.size + 2) (s.heap.objs.size + 3) .none ∧ IsTupOf2 h' (s.heap.objs.size + 2) (.ref s.heap.objs.size) (.ref (s.heap.objs.size + 1)) ∧ (∃ a1 a2, IsTupOf2 h' (s.heap.objs.size + 3) a1 a2) ∧ St1 s.heap.objs.size 0 h' ∧ St2 (s.heap.objs.size + 1) 0 h' :=
    ⟨hz, hTI, ⟨_, _, hTO⟩, S1 h' _ hi1 hk, S2 h' _ hi2 hk⟩
  refine (W X.A hh).self 0 _ _ _ st0 ?_
  refine h _ _ _ ⟨⟨h', s.toks, rfl, by rw [hsz]; exact Nat.le_add_right _ _, hk⟩, _, _, _, _, _, rfl, W, st0, ?_, ?_⟩ ?_
  · intro b hb
    have big : ∀ j, j ≤ 4 → s.heap.objs.size + j < h'.objs.size ∧ s.heap.objs.size + j ≠ P := fun j hj => ⟨by rw [hsz]; omega, fun z => by
      have h9 : (s.heap.objs.size : Nat) + j < s.heap.objs.size := by rw [z]; exact hPlt
      omega⟩
    have old : ∀ a, a < s.heap.objs.size → a ≠ P → a < h'.objs.size ∧ a ≠ P := fun a ha hn => ⟨by rw [hsz]; exact Nat.lt_of_lt_of_le ha (Nat.le_add_right _ _), hn⟩
    have e : b = s.heap.objs.size + 4 ∨ b = s.heap.objs.size + 2 ∨ b = s.heap.objs.size + 3 ∨ b = s.heap.objs.size ∨ b = a1 ∨ b = s.heap.objs.size + 1 ∨ b = a2 := by simpa using hb
    rcases e with e | e | e | e | e | e | e
    · rw [e]; exact big 4 (by decide)
    · rw [e]; exact big 2 (by decide)
    · rw [e]; exact big 3 (by decide)
    · rw [e]; exact big 0 (by decide)
    · rw [e]; exact old a1 l1 (n1 P ps hPs)
    · rw [e]; exact big 1 (by decide)
    · rw [e]; exact old a2 l2 (n2 P ps hPs)
  · intro b hb
    have e : b = s.heap.objs.size + 4 ∨ b = s.heap.objs.size + 3 ∨ b = s.heap.objs.size ∨ b = s.heap.objs.size + 1 := by simpa using hb
    rcases e with e | e | e | e
    · rw [e]; exact Nat.le_add_right _ _
    · rw [e]; exact Nat.le_add_right _ _
    · rw [e]; exact Nat.le_refl _
    · rw [e]; exact Nat.le_add_right _ _
  · rintro i vals ⟨x1, x2, p1, p2, rfl⟩
    obtain ⟨x, ex, rx⟩ := at1 i x1 p1
    obtain ⟨y, ey, ry⟩ := at2 i x2 p2
    exact ⟨x1, x2, x, y, rfl, ex, ey, rx, ry⟩
/-- sum(elt for x, x2 in zip(e1, e2) if ..) -/
def tSumZ (X : Ck) (A : Around) (P : Addr) (x x2 : Str) (caps : Caps) (ifs : List Expr) (elt : Expr) (scope : Scope) (ta : TA) : TE := fun σ H Q => ta σ H fun vs H1 => ∃ (v1 v2 : V) (xs ys : List V) (pz : Nat → Bool) (z : Nat → Int), vs = [v1, v2] ∧ SrcS X.K H1 v1 xs ∧ SrcS X.K H1 v2 ys ∧ TabG H1 P ∧
  (∀ i y y2, xs[i]? = some y → ys[i]? = some y2 → ∀ (A' : Around) (cenv : Env), GA A A' → cenv.scope = scope →
    (∀ E u, GQ X (hidP P H1) cenv ((x, y) :: (x2, y2) :: capV σ caps) u → wpAny (model X.prog X.w) A' (testsOfG ifs cenv) (fun ok u' => ok = pz i ∧ Keeps u u') E u) ∧
    (pz i = true → QX X A' (hidP P H1) cenv ((x, y) :: (x2, y2) :: capV σ caps) elt (.int (z i)))) ∧
  (∀ i, i < min xs.length ys.length → 0 ≤ z i ∧ z i ≤ 2 ^ 40) ∧ min xs.length ys.length ≤ 2 ^ 20 ∧ ∀ H2, Tabbed P H1 H2 → Q (.int (((List.range (min xs.length ys.length)).filter pz).map z).sum) H2
section
variable {c P : Addr} {elt e1 e2 : Expr} {x x2 : Str} {px px2 pt p pz_ posz pos gpos : Pos} {kt : Nat} {ifs : List Expr} {scope : Scope} {ta : TA} {k : Nat} {caps : Caps}
theorem pe_sumZ (hr : Room k X.A) (hg : Gl X "sum") (hm : X.mg "sum" = none) (hb : bootBuiltins "sum" = some (.builtin "sum")) (hgz : Gl X "zip") (hmz : X.mg "zip" = none) (TB : TabB X.base X.mg c P) (hcode : X.env.code = .ref c) (hG : genB X.env.scope scope x = true) (hx2 : scope.names.lookup x2 = some .local) (hab : x ≠ x2)
    (hC : capB X.N X.env.scope scope caps = true) (ha : PA X [e1, e2] ta)
    (hs : ∀ v, genFold (.Call (.Name "zip" pz_) [e1, e2] [] posz) X.env v = pure v)
    (hz : starEach [e1, e2] X.env = (false, eval e1 X.env) :: starEach [e2] X.env := by rfl) (hz2 : starEach [e2] X.env = (false, eval e2 X.env) :: [] := by rfl)
    (he : starEach [.GeneratorExp elt [⟨.Tuple [.Name x px, .Name x2 px2] kt pt, .Call (.Name "zip" pz_) [e1, e2] [] posz, ifs, 0⟩] scope gpos] X.env = (false, eval (.GeneratorExp elt [⟨.Tuple [.Name x px, .Name x2 px2] kt pt, .Call (.Name "zip" pz_) [e1, e2] [] posz, ifs, 0⟩] scope gpos) X.env) :: starEach [] X.env := by rfl) :
    PE X (.Call (.Name "sum" p) [.GeneratorExp elt [⟨.Tuple [.Name x px, .Name x2 px2] kt pt, .Call (.Name "zip" pz_) [e1, e2] [] posz, ifs, 0⟩] scope gpos] [] pos) (tSumZ (ckOf X) X.A P x x2 caps ifs elt scope ta) := by
  refine ⟨fun pins s σ H Q I h => ?_⟩
  refine wpAny_Call_Name_kw (ld_blt I hg hm hb ?_)
  refine PyProof.Rows.callWith_builtin1 ?_ he (by rfl)
  rw [he]
  show wpAny _ _ (spliced ((false, eval (.GeneratorExp elt [⟨.Tuple [.Name x px, .Name x2 px2] kt pt, .Call (.Name "zip" pz_) [e1, e2] [] posz, ifs, 0⟩] scope gpos) X.env) :: backTo pos (starEach [] X.env))) _ _ s
  refine Calls.spliced_cons ?_
  have S := genS_by hG I.ok
  refine wpAny_GeneratorExp_walksQTD hr.hd S.co (closure_ok S.free) S.cell S.dot S.loc hx2 hab S.kind (by have := hr.dp; omega) ?_ hs
  refine Call_ (ld_blt I hgz hmz boot_zip (PyProof.Rows.callWith_type1 (thn (ha.run posz pins s σ H _ I h) fun us s1 ⟨vs, H1, I1, r1, q1⟩ => ?_) hz (by rw [hz2]; rfl)))
  obtain ⟨v1, v2, xs, ys, pz, z, rfl, g1, g2, hT, hel, hbd, hn, hQ⟩ := q1
  obtain ⟨u1, u2, rfl, ru1, ru2⟩ := vals2 r1
  refine src_zip I1 hT hr.hd g1 g2 ru1 ru2 fun it s2 Pf hsrc hPf => ?_
  obtain ⟨⟨h2, t2, rfl, z2, k2⟩, Ia, fp, wr, St, Mid, rfl, W, hst, hfp, hwr⟩ := hsrc
  refine ⟨I1.nolimit.keeps k2, ?_⟩
  refine code_part TB hcode I1 hT k2 fun code h3 tk ps ps' more hx hsz hP hP3 hmore ht3 lim3 => ?_
  have k3 : ∀ b u, b ≠ P → s1.heap.get? b = some u → h3.get? b = some u := fun b u hb e => hx b u hb (k2 _ _ e)
  have hcs : cStatics < s1.heap.objs.size := let ⟨_, hns, _⟩ := I1.nolimit; hns.lt
  have sz13 : s1.heap.objs.size ≤ h3.objs.size := Nat.le_trans z2 hsz
  refine ⟨Ia, fp, wr, min xs.length ys.length, fun i vals => Pf i vals ∧ i < min xs.length ys.length, St, Mid, pz, fun i y => RelV (.int (z i)) y, rfl, fun A' hA => ?_, ?_, ?_, ?_, lim3, ?_, ?_, ?_⟩
  · have W' := W A' hA
    exact ⟨W'.sub, W'.frame, fun i s Q E hi st hQ => W'.item i s Q E hi st fun T vals h' tk hP => hQ T vals h' tk ⟨hP, hi⟩, W'.go, W'.apart, W'.done, W'.self⟩
  · rintro i vals ⟨hv, _⟩
    obtain ⟨va, vb, _, _, e, _⟩ := hPf i vals hv
    exact ⟨va, vb, e⟩
  · exact (W X.A hr.hd).frame _ _ _ hst fun b hb o e => hx b o (hfp b hb).2 e
  · exact fun b hb => Nat.lt_of_lt_of_le (hfp b hb).1 hsz
  · exact fun hm => absurd (Nat.lt_of_lt_of_le hcs (hwr _ hm)) (Nat.lt_irrefl _)
  · intro href hhref
    have old : ∀ (u : Shared), (∀ b ∈ List.range h3.objs.size, b ∉ wr → ∀ o, href.get? b = some o → u.heap.get? b = some o) → Old P s1 u := fun u hk b o hb e => by
      have e3 := k3 b o hb e
      refine hk b (List.mem_range.mpr (Heap.lt_size e3)) (fun hm => ?_) o (hhref b o e3)
      exact absurd (Nat.lt_of_lt_of_le (Heap.lt_size e) (hwr b hm)) (Nat.lt_irrefl _)
    have gq : ∀ (C : Addr) (i : Nat) (va vb : Value) (u : Shared) (m₂ : Str → Option Value), Pf i #[va, vb] → u.heap.Ns C m₂ → m₂ x = some va → m₂ x2 = some vb → Old P s1 u → ∃ y y2, xs[i]? = some y ∧ ys[i]? = some y2 ∧ GQ (ckOf X) (hidP P H1) (gEnv X scope C code) ((x, y) :: (x2, y2) :: capV σ caps) u := by
      intro C i va vb u m₂ hv hn hm hm2 ho
      obtain ⟨va', vb', y, y2, e, ex, ey, rx, ry⟩ := hPf i _ hv
      obtain ⟨rfl, rfl⟩ : va = va' ∧ vb = vb' := by simpa using congrArg Array.toList e
      refine ⟨y, y2, ex, ey, gq_of (own := [(x, y), (x2, y2)]) (code := code) I1 hT ho S.kind hn (cap_by hC) fun x' v' e => ?_⟩
      rw [List.lookup_cons] at e
      by_cases hx' : (x' == x) = true
      · rw [hx'] at e
        have ev : y = v' := Option.some.inj e
        have exx : x' = x := beq_iff_eq.mp hx'
        subst ev exx
        exact ⟨va, rx, hm, S.loc⟩
      · rw [(Bool.not_eq_true _).mp hx', List.lookup_cons] at e
        by_cases hy' : (x' == x2) = true
        · rw [hy'] at e
          have ev : y2 = v' := Option.some.inj e
          have exx : x' = x2 := beq_iff_eq.mp hy'
          subst ev exx
          exact ⟨vb, ry, hm2, hx2⟩
        · rw [(Bool.not_eq_true _).mp hy'] at e
          cases e
    refine ⟨fun A' E' i v v2 u m₂ hA hD hU hPv hn hm hm2 hk => ?_, fun A' E' i v v2 u m₂ hA hD hU hPv hp hn hm hm2 hk => ?_⟩
    · obtain ⟨y, y2, ex, ey, g⟩ := gq _ i v v2 u m₂ hPv.1 hn hm hm2 (old u hk)
      exact (hel i y y2 ex ey A' _ ⟨hA, hD, hU⟩ rfl).1 E' u g
    · obtain ⟨y, y2, ex, ey, g⟩ := gq _ i v v2 u m₂ hPv.1 hn hm hm2 (old u hk)
      exact (hel i y y2 ex ey A' _ ⟨hA, hD, hU⟩ rfl).2 hp E' u g
  · intro a h5 tk5 gs hgb hag hsz5 hk5 W5 hat
    subst hmore
    refine Calls.spliced_nil ?_
    refine call_sum_ready W5.in4_1 hat ?_ hbd hn fun s' t' hmv => ?_
    · intro b hb
      show b < h5.objs.size
      rw [hsz5]
      have hag' : h3.objs.size < a := hag
      rcases List.mem_cons.mp hb with z | z
      · rw [z]; exact Nat.lt_succ_self _
      · rcases List.mem_cons.mp z with z | z
        · rw [z]; exact Nat.lt_succ_of_lt hag'
        · exact Nat.lt_succ_of_lt (Nat.lt_trans (List.mem_range.mp z) hag')
    · obtain ⟨H2, hT2, J⟩ := inv_back I1 hP k3 hP3 ht3 hgb sz13 hwr hk5 hmv
      have e : passing pz (min xs.length ys.length) 0 = (List.range (min xs.length ys.length)).filter pz := by unfold passing; simp
      refine ⟨.int _, H2, J, ⟨t', rfl⟩, ?_⟩
      rw [e]
      exact hQ H2 hT2
end
end
end Gq

/-! Data, heaps, promises. -/
namespace Tr
open PySem PySem.Spec PyProof.Rows L2 GxR Gq
/-! ### heaps -/
/-- what was tracked is as it was; tables may have grown -/
structure Sm (H H' : Hp) : Prop where
  keep : ∀ b o, H b = some o → (∀ ps, o ≠ .tbl ps) → H' b = some o
  tab : ∀ b, TabG H b → TabG H' b
  fr : ∀ b, H' b = none → H b = none
theorem upd_fr {H : Hp} {p : Addr} {o : HO} : ∀ b, L2.upd H p o b = none → H b = none := fun b e => by
  by_cases hb : b = p
  · rw [hb, upd_same] at e
    cases e
  · rw [upd_ne hb] at e
    exact e
theorem Sm.refl (H : Hp) : Sm H H := ⟨fun _ _ h _ => h, fun _ h => h, fun _ h => h⟩
theorem Sm.trans {H H1 H2 : Hp} (a : Sm H H1) (b : Sm H1 H2) : Sm H H2 := ⟨fun c o h n => b.keep c o (a.keep c o h n) n, fun c h => b.tab c (a.tab c h), fun c h => a.fr c (b.fr c h)⟩
theorem Sm.upd {H : Hp} {p : Addr} {o : HO} (h : H p = none) : Sm H (upd H p o) :=
  ⟨fun b u e _ => by rw [upd_ne (ne_of_none e h)]; exact e, fun b ⟨ps, e, t⟩ => ⟨ps, by rw [upd_ne (ne_of_none e h)]; exact e, t⟩, upd_fr⟩
theorem Sm.tabbed {P : Addr} {H H' : Hp} (t : Tabbed P H H') (h : TabG H P) : Sm H H' := by
  obtain ⟨ps, e, _⟩ := h
  refine ⟨fun b o q n => ?_, fun b ⟨qs, q, z⟩ => ?_, fun b q => ?_⟩
  · by_cases hb : b = P
    · rw [hb, e] at q
      exact absurd (Option.some.inj q).symm (n ps)
    · rw [t.2 b hb]; exact q
  · by_cases hb : b = P
    · rw [hb]; exact t.1
    · exact ⟨qs, by rw [t.2 b hb]; exact q, z⟩
  · by_cases hb : b = P
    · obtain ⟨qs, e2, _⟩ := t.1
      rw [hb, e2] at q
      cases q
    · rw [t.2 b hb] at q; exact q
theorem Sm.free {H H' : Hp} (e : Sm H H') {l : Addr} (h : H' l = none) (hn : ∀ o, H l = some o → ∀ ps, o ≠ .tbl ps) : H l = none := by
  cases q : H l with
  | none => rfl
  | some o =>
    rw [e.keep l o q (hn o q)] at h
    cases h
/-- nothing tracked becomes untracked -/
theorem Sm.there {H H' : Hp} (e : Sm H H') (hT : ∀ b ps, H b = some (.tbl ps) → TabG H b) {l : Addr} (h : H' l = none) : H l = none := by
  cases q : H l with
  | none => rfl
  | some o =>
    cases o with
    | tbl ps =>
      obtain ⟨qs, e2, _⟩ := e.tab l (hT l ps q)
      rw [e2] at h; cases h
    | _ => rw [e.keep l _ q (fun _ z => nomatch z)] at h; cases h
theorem Sm.rd {H H' : Hp} (e : Sm H H') {a : Addr} {u : HO} (hu : ∀ ps, u ≠ .tbl ps) (h : Rd H a u) : Rd H' a u := by
  rcases h with h | ⟨o, h⟩
  · exact .inl (e.keep _ _ h hu)
  · exact .inr ⟨o, e.keep _ _ h fun _ z => nomatch z⟩
theorem Sm.sqL {K : PySem.W.Frag} {H H' : Hp} (e : Sm H H') {a : Addr} {xs : List V} (h : SqL K H a xs) : SqL K H' a xs := by
  rcases h with h | h
  · exact .inl (e.rd (fun _ z => nomatch z) h)
  · exact .inr h
theorem Sm.sqT {K : PySem.W.Frag} {H H' : Hp} (e : Sm H H') {a : Addr} {xs : List V} (h : SqT K H a xs) : SqT K H' a xs := by
  rcases h with h | h
  · exact .inl (e.rd (fun _ z => nomatch z) h)
  · exact .inr h
mutual
theorem Sm.dp {K : PySem.W.Frag} {H H' : Hp} (e : Sm H H') : ∀ (d : PyData) {v : V}, Dp K H v d → Dp K H' v d
  | .none, _, h => by cases h; exact .non
  | .bool b, _, h => by cases h; exact .bl b
  | .int i, _, h => by cases h; exact .int i
  | .str x, _, h => by cases h; exact .str x
  | .list ds, _, h => by
    cases h with
    | lst hs ha => exact .lst (e.sqL hs) (Sm.dpAll e ds ha)
  | .tuple ds, _, h => by
    cases h with
    | tup hs ha => exact .tup (e.sqT hs) (Sm.dpAll e ds ha)
  | .dict _, _, h => by cases h
theorem Sm.dpAll {K : PySem.W.Frag} {H H' : Hp} (e : Sm H H') : ∀ (ds : List PyData) {vs : List V}, DpAll K H vs ds → DpAll K H' vs ds
  | [], _, h => by cases h; exact .nil
  | d :: ds, _, h => by
    cases h with
    | cons h1 h2 => exact .cons (Sm.dp e d h1) (Sm.dpAll e ds h2)
end
/-- tuples are kept -/
def TK (H H' : Hp) : Prop := ∀ b xs, Rd H b (.tup xs) → Rd H' b (.tup xs)
theorem TK.refl (H : Hp) : TK H H := fun _ _ h => h
theorem TK.trans {H H1 H2 : Hp} (a : TK H H1) (b : TK H1 H2) : TK H H2 := fun c x h => b c x (a c x h)
theorem Sm.tk {H H' : Hp} (e : Sm H H') : TK H H' := fun _ _ h => e.rd (fun _ z => nomatch z) h
theorem TK.lst {H : Hp} {p : Addr} {xs : List V} {o : HO} (h : H p = some (.lst xs)) : TK H (upd H p o) := fun b ys r => by
  rcases r with r | ⟨u, r⟩
  · exact .inl (by rw [upd_ne (ne_of r h (fun z => nomatch z))]; exact r)
  · exact .inr ⟨u, by rw [upd_ne (ne_of r h (fun z => nomatch z))]; exact r⟩
theorem TK.sqT {K : PySem.W.Frag} {H H' : Hp} (e : TK H H') {a : Addr} {xs : List V} (h : SqT K H a xs) : SqT K H' a xs := by
  rcases h with h | h
  · exact .inl (e _ _ h)
  · exact .inr h
mutual
def tupOnly : PyData → Bool
  | .tuple xs => tupOnlyAll xs
  | .list _ => false
  | .dict _ => false
  | _ => true
def tupOnlyAll : List PyData → Bool
  | [] => true
  | x :: xs => tupOnly x && tupOnlyAll xs
end
mutual
theorem TK.dp {K : PySem.W.Frag} {H H' : Hp} (e : TK H H') : ∀ (d : PyData) {v : V}, tupOnly d = true → Dp K H v d → Dp K H' v d
  | .none, _, _, h => by cases h; exact .non
  | .bool b, _, _, h => by cases h; exact .bl b
  | .int i, _, _, h => by cases h; exact .int i
  | .str x, _, _, h => by cases h; exact .str x
  | .list ds, _, t, h => by simp [tupOnly] at t
  | .tuple ds, _, t, h => by
    rw [tupOnly] at t
    cases h with
    | tup hs ha => exact .tup (e.sqT hs) (TK.dpAll e ds t ha)
  | .dict _, _, _, h => by cases h
theorem TK.dpAll {K : PySem.W.Frag} {H H' : Hp} (e : TK H H') : ∀ (ds : List PyData) {vs : List V}, tupOnlyAll ds = true → DpAll K H vs ds → DpAll K H' vs ds
  | [], _, _, h => by cases h; exact .nil
  | d :: ds, _, t, h => by
    rw [tupOnlyAll, Bool.and_eq_true] at t
    cases h with
    | cons h1 h2 => exact .cons (TK.dp e d t.1 h1) (TK.dpAll e ds t.2 h2)
end
theorem tupOnlyAll_iff : ∀ {ds : List PyData}, tupOnlyAll ds = true ↔ ∀ d ∈ ds, tupOnly d = true
  | [] => by simp [tupOnlyAll]
  | d :: ds => by
    rw [tupOnlyAll, Bool.and_eq_true, tupOnlyAll_iff (ds := ds)]
    simp
theorem tupOnlyAll_map {α : Type} {f : α → PyData} {l : List α} (h : ∀ a ∈ l, tupOnly (f a) = true) : tupOnlyAll (l.map f) = true := tupOnlyAll_iff.mpr fun d hd => by
  obtain ⟨a, ha, rfl⟩ := List.mem_map.mp hd
  exact h a ha
/-- the tables stand -/
def Gd (tabs : List Addr) (H : Hp) : Prop := ∀ P ∈ tabs, TabG H P
theorem Sm.gd {tabs : List Addr} {H H' : Hp} (e : Sm H H') (g : Gd tabs H) : Gd tabs H' := fun P hP => e.tab P (g P hP)
theorem Gd.upd {tabs : List Addr} {H : Hp} {p : Addr} {o : HO} (g : Gd tabs H) (h : ∀ ps, H p ≠ some (.tbl ps)) : Gd tabs (upd H p o) := fun P hP => by
  obtain ⟨ps, e, t⟩ := g P hP
  exact ⟨ps, by rw [upd_ne (fun z => by rw [z] at e; exact h ps e)]; exact e, t⟩
/-! ### data -/
section
variable {K : PySem.W.Frag} {H : Hp}
theorem dp_tup {v : V} {ds : List PyData} (h : Dp K H v (.tuple ds)) : ∃ a xs, v = .ref a ∧ SqT K H a xs ∧ DpAll K H xs ds := by
  cases h with
  | tup hs ha => exact ⟨_, _, rfl, hs, ha⟩
theorem dp_lst {v : V} {ds : List PyData} (h : Dp K H v (.list ds)) : ∃ a xs, v = .ref a ∧ SqL K H a xs ∧ DpAll K H xs ds := by
  cases h with
  | lst hs ha => exact ⟨_, _, rfl, hs, ha⟩
theorem dp_int {v : V} {i : Int} (h : Dp K H v (.int i)) : v = .int i := by cases h; rfl
end
end Tr
namespace L2
open PySem PySem.Spec PyProof.Rows
section
variable {K : PySem.W.Frag} {H : Hp}
theorem DpAll.length : ∀ {xs : List V} {ds : List PyData}, DpAll K H xs ds → xs.length = ds.length
  | _, _, .nil => rfl
  | _, _, .cons _ t => congrArg (· + 1) (DpAll.length t)
theorem DpAll.get : ∀ {xs : List V} {ds : List PyData} {i : Nat} {d : PyData}, DpAll K H xs ds → ds[i]? = some d → ∃ x, xs[i]? = some x ∧ Dp K H x d
  | _, _, _, _, .nil, e => by simp at e
  | _, _, 0, _, .cons r _, e => by simp at e; subst e; exact ⟨_, rfl, r⟩
  | _, _, i + 1, d, .cons _ t, e => by
    obtain ⟨u, h1, h2⟩ := DpAll.get (i := i) (d := d) t (by simpa using e)
    exact ⟨u, by simpa using h1, h2⟩
theorem DpAll.get' {xs : List V} {ds : List PyData} {i : Nat} {x : V} (h : DpAll K H xs ds) (e : xs[i]? = some x) : ∃ d, ds[i]? = some d ∧ Dp K H x d := by
  have hl := h.length
  obtain ⟨hi, _⟩ := List.getElem?_eq_some_iff.mp e
  obtain ⟨y, ey, dy⟩ := h.get (List.getElem?_eq_getElem (show i < ds.length by omega))
  rw [e] at ey
  have : x = y := Option.some.inj ey
  exact ⟨_, List.getElem?_eq_getElem (show i < ds.length by omega), by rw [this]; exact dy⟩
theorem DpAll.append : ∀ {xs ys : List V} {ds es : List PyData}, DpAll K H xs ds → DpAll K H ys es → DpAll K H (xs ++ ys) (ds ++ es)
  | _, _, _, _, .nil, s => s
  | _, _, _, _, .cons r t, s => .cons r (DpAll.append t s)
theorem DpAll.take : ∀ {xs : List V} {ds : List PyData} (n : Nat), DpAll K H xs ds → DpAll K H (xs.take n) (ds.take n)
  | _, _, 0, _ => .nil
  | _, _, _ + 1, .nil => .nil
  | _, _, n + 1, .cons r t => .cons r (DpAll.take n t)
theorem DpAll.drop : ∀ {xs : List V} {ds : List PyData} (n : Nat), DpAll K H xs ds → DpAll K H (xs.drop n) (ds.drop n)
  | _, _, 0, r => r
  | _, _, _ + 1, .nil => .nil
  | _, _, n + 1, .cons _ t => DpAll.drop n t
end
end L2
namespace Tr
open PySem PySem.Spec PyProof.Rows L2 GxR Gq
section
variable {K : PySem.W.Frag} {H : Hp}
theorem dpAll_ints : ∀ (l : List Int), DpAll K H (l.map V.int) (l.map PyData.int)
  | [] => .nil
  | i :: l => .cons (.int i) (dpAll_ints l)
theorem ints_of_dpAll : ∀ {l : List Int} {xs : List V}, DpAll K H xs (l.map PyData.int) → xs = l.map V.int
  | [], _, h => by cases h; rfl
  | i :: l, _, h => by
    cases h with
    | cons h1 h2 =>
      rw [dp_int h1, ints_of_dpAll h2]
      rfl
theorem dpAll_one {v : V} {d : PyData} (h : Dp K H v d) : DpAll K H [v] [d] := .cons h .nil
end
/-! ### promises -/
structure Fx (K : PySem.W.Frag) (mg : Str → Option Value) (x : Str) (st : Stmt) (f c : Addr) : Prop where
  ex : ∃ (oc : Value) (od : Option Addr) (kV doc pm : Value) (an : Option Addr) (ct : Value) (osl : Array (Option Value)),
    K.lookup f = some ⟨oc, od, .func (PySem.W.fnOf x x (defArgs st) (defBody st) (defScope st) .none kV doc pm an (.ref c) ct), osl⟩
  cd : PySem.W.codeIn K (.ref c) x = true
  kp : PySem.W.keepIn K (.ref f) = true
  g : mg x = some (.ref f)
/-- a def of the name x keeps the promise sp -/
def Prom (P : Program) (w : World) (K : PySem.W.Frag) (mg : Str → Option Value) (base : Heap) (x : Str) (ps : List Str) (sp : Sp) (k : Nat) : Prop :=
  ∃ (f : Addr) (fd : FuncData), mg x = some (.ref f) ∧ PySem.W.keepIn K (.ref f) = true ∧ FnOk P w K mg base CX0 k f fd ps sp ∧ Binds K fd ps [] ∧ ∃ (oc : Value) (od : Option Addr) (osl : Array (Option Value)), K.lookup f = some ⟨oc, od, .func fd, osl⟩
section
variable {P : Program} {w : World} {K : PySem.W.Frag} {mg : Str → Option Value} {base : Heap}
theorem Fx.prom {x : Str} {st : Stmt} {f c : Addr} {N ps : List Str} {k : Nat} {sp : Sp} (F : Fx K mg x st f c) (S : FnScope N ps (defScope st)) (len : ∀ vs H Q E, sp vs H Q E → vs.length = ps.length)
    (hb : ∀ (kV doc pm : Value) (an : Option Addr) (cdv ct : Value) (us : List Value), us.length = ps.length → bindArgs (PySem.W.fnOf x x (defArgs st) (defBody st) (defScope st) .none kV doc pm an cdv ct) ⟨us, []⟩ = pure (ps.zip us))
    (hbody : ∀ (A : Around) (outer : List Env) (s : Shared) (H : Hp) (vs : List V) (Q : VK) (E : XK), Room k (A.deeper (envOfC x (defScope st) s.heap.objs.size f (.ref c))) → sp vs H Q E →
      ∃ t, PSs (cxOf CX0 P w K mg base N x (defScope st) f (.ref c) A outer s H E).nox (defBody st) t ∧ t { nx := fun _ H' => Q .non H', rt := Q } (start N vs) H) : Prom P w K mg base x ps sp (k + 1) := by
  obtain ⟨oc, od, kV, doc, pm, an, ct, osl, lk⟩ := F.ex
  refine ⟨f, _, F.g, F.kp, fn_of lk F.cd S len fun A outer s H vs Q E hr hsp => ?_, .all (hb kV doc pm an (.ref c) ct), _, _, _, lk⟩
  obtain ⟨t, h, q⟩ := hbody A outer s H vs Q E hr hsp
  exact ⟨t, h.nox, q⟩
theorem Prom.mono {x : Str} {ps : List Str} {sp : Sp} {j k : Nat} (G : Prom P w K mg base x ps sp j) (h : j ≤ k) : Prom P w K mg base x ps sp k := by
  obtain ⟨f, fd, h1, h2, h3, h4⟩ := G
  exact ⟨f, fd, h1, h2, h3.mono h, h4⟩
theorem Prom.imp {x : Str} {ps : List Str} {sp sp' : Sp} {k : Nat} (G : Prom P w K mg base x ps sp k) (h : ∀ vs H Q E, sp' vs H Q E → sp vs H Q E) : Prom P w K mg base x ps sp' k := by
  obtain ⟨f, fd, h1, h2, h3, h4⟩ := G
  exact ⟨f, fd, h1, h2, h3.imp h, h4⟩
end
section
variable {X : Cx}
theorem pe_prom {x : Str} {ps : List Str} {sp : Sp} {k : Nat} {p pos : Pos} {e : Expr} {es : List Expr} {t : TA} (G : Prom X.prog X.w X.K X.mg X.base x ps sp k) (hr : Room k X.A) (hg : Gl X x) (ha : PA X (e :: es) t)
    (hdb : (x == ("__debug__" : Str)) = false := by decide) (he : starEach (e :: es) X.env = (false, eval e X.env) :: starEach es X.env := by rfl) (hpl : (backTo pos (starEach es X.env)).any (·.1) = false := by rfl) :
    PE X (.Call (.Name x p) (e :: es) [] pos) (tCall sp [] E0 t) := by
  obtain ⟨f, fd, h1, h2, h3, h4⟩ := G
  exact pe_call h3 hr hg h1 h2 h4.1 .nil pass0 ha hdb he hpl
end
/-- what the top has, beside the defs -/
structure Tx (K : PySem.W.Frag) (mg : Str → Option Value) : Prop where
  int : mg "int" = none
  len : mg "len" = none
  isi : mg "isinstance" = none
  bool : mg "bool" = none
  tuple : mg "tuple" = none
  sum : mg "sum" = none
  all : mg "all" = none
  any : mg "any" = none
  min : mg "min" = none
  max : mg "max" = none
  sorted : mg "sorted" = none
  range : mg "range" = none
  zip : mg "zip" = none
  enum : mg "enumerate" = none
  nodes : ∃ t, mg "MOST_NODES" = some (.int 6 t)
  roads : ∃ t, mg "MOST_ROADS" = some (.int 8 t)
  players : ∃ t, mg "MOST_PLAYERS" = some (.int 4 t)
  cost : ∃ t, mg "MOST_COST" = some (.int 1000 t)
  choices : ∃ t, mg "MOST_CHOICES" = some (.int 8 t)
  states : ∃ t, mg "MOST_STATES" = some (.int 1000 t)
  gcd : mg "gcd" = some (.builtin "math.gcd")
end Tr

/-! Further rules. -/
namespace Tr
open PySem PySem.Spec PyProof.Rows L2 GxR Gq
section
variable {X : Ck} {A : Around} {Hh : Hp} {cenv : Env} {nm : List (Str × V)} {s s' : Shared} {E : Value → Shared → Prop}
theorem bind3 {kindOf : Str → Option NameKind} {u1 u2 u3 : Value} (h1 : kindOf "value" = some .local) (h2 : kindOf "least" = some .local) (h3 : kindOf "most" = some .local) :
    bindL kindOf [("value", u1), ("least", u2), ("most", u3)] (fun _ => none) "value" = some u1 ∧ bindL kindOf [("value", u1), ("least", u2), ("most", u3)] (fun _ => none) "least" = some u2 ∧ bindL kindOf [("value", u1), ("least", u2), ("most", u3)] (fun _ => none) "most" = some u3 := by
  simp only [bindL, h1, h2, h3, if_true]
  refine ⟨?_, ?_, ?_⟩
  · rw [if_neg (by decide), if_neg (by decide)] <;> simp
  · rw [if_neg (by decide)] <;> simp
  · simp
theorem qx_run {e : Expr} {v : V} {Q : Value → Shared → Prop} (h : QX X A Hh cenv nm e v) (g : GQ X Hh cenv nm s) (k : ∀ u s', RelV v u → Keeps s s' → Q u s') : wpAny (model X.prog X.w) A (eval e cenv) Q E s := thn (h E s g) fun u s' q => k u s' q.1 q.2
theorem isin_call {f c : Addr} {i lo hi : Int} {t1 t2 t3 : Tok} (F : Fx X.K X.mg "is_in" s_is_in f c) (T : Tx X.K X.mg) (hA : A.depth < recursionLimit) (g : GQ X Hh cenv nm s) :
    wpAny (model X.prog X.w) A (call (.ref f) [.int i t1, .int lo t2, .int hi t3]) (fun u s' => RelV (.bl (decide (lo ≤ i ∧ i ≤ hi))) u ∧ Keeps s s') E s := by
  obtain ⟨oc, od, kV, doc, pm, an, ct, osl, lk⟩ := F.ex
  have lim : s.heap.NoLimit := g.mod.nolimit.keeps g.bk
  refine wpAny_call (Att.call_fn g.kIn lim lk F.cd hA (binds := [("value", .int i t1), ("least", .int lo t2), ("most", .int hi t3)]) (BindsTo.of_eq rfl) (by rfl) (fun s₁ I => ?_) (by rfl) (by rfl) (by rfl))
  obtain ⟨h1, k1, rfl, kk⟩ := I.done
  have gb : GQ X Hh (envOfC "is_in" (defScope s_is_in) s.heap.objs.size f (.ref c)) [("value", .int i), ("least", .int lo), ("most", .int hi)] { s with heap := h1, toks := k1 } := by
    refine ⟨by rfl, rfl, rfl, g.mod, g.hok.kept kk, fun b o e => kk b o (g.bk b o e), _, I.toInCall.ns, fun x v e => ?_⟩
    obtain ⟨b1, b2, b3⟩ := bind3 (kindOf := (envOfC "is_in" (defScope s_is_in) s.heap.objs.size f (.ref c)).kindOf) (u1 := .int i t1) (u2 := .int lo t2) (u3 := .int hi t3) (by rfl) (by rfl) (by rfl)
    rw [List.lookup_cons] at e
    by_cases x1 : (x == ("value" : Str)) = true
    · rw [x1] at e
      have ev : V.int i = v := Option.some.inj e
      have ex := beq_iff_eq.mp x1
      subst ev ex
      exact ⟨_, ⟨t1, rfl⟩, .inl ⟨by rfl, b1⟩⟩
    · rw [(Bool.not_eq_true _).mp x1, List.lookup_cons] at e
      by_cases x2 : (x == ("least" : Str)) = true
      · rw [x2] at e
        have ev : V.int lo = v := Option.some.inj e
        have ex := beq_iff_eq.mp x2
        subst ev ex
        exact ⟨_, ⟨t2, rfl⟩, .inl ⟨by rfl, b2⟩⟩
      · rw [(Bool.not_eq_true _).mp x2, List.lookup_cons] at e
        by_cases x3 : (x == ("most" : Str)) = true
        · rw [x3] at e
          have ev : V.int hi = v := Option.some.inj e
          have ex := beq_iff_eq.mp x3
          subst ev ex
          exact ⟨_, ⟨t3, rfl⟩, .inl ⟨by rfl, b3⟩⟩
        · rw [(Bool.not_eq_true _).mp x3] at e
          cases e
  refine wpAny_execs_cons (wpAny_Return_some ?_)
  refine qx_run (v := .bl (decide (lo ≤ i ∧ i ≤ hi))) ?_ gb fun u s2 r k => ⟨r, keeps_trans (keeps_of kk) k⟩
  refine qx_andT (qx_isiInt (tn := "int") (by rfl) T.isi (by rfl) T.int (by decide +kernel) (kit_ty (by decide +kernel)) (by decide +kernel) (qx_name (by rfl))) ?_
  refine qx_andT (qx_not (b := false) (qx_isiInt (tn := "bool") (by rfl) T.isi (by rfl) T.bool (by decide +kernel) (kit_ty (by decide +kernel)) (by decide +kernel) (qx_name (by rfl)))) ?_
  exact qx_one (qx_chain (qx_name (by rfl)) (qx_name (by rfl)) (qx_name (by rfl)))
/-- is_in(a, b, c) where nothing may change -/
theorem qx_isin {f c : Addr} {i lo hi : Int} {a b d : Expr} {p pos : Pos} (F : Fx X.K X.mg "is_in" s_is_in f c) (T : Tx X.K X.mg) (hA : A.depth < recursionLimit) (hk : cenv.kindOf "is_in" = some .globalImplicit)
    (ha : QX X A Hh cenv nm a (.int i)) (hb : QX X A Hh cenv nm b (.int lo)) (hd : QX X A Hh cenv nm d (.int hi))
    (he : starEach [a, b, d] cenv = (false, eval a cenv) :: starEach [b, d] cenv := by rfl) (he2 : starEach [b, d] cenv = (false, eval b cenv) :: starEach [d] cenv := by rfl) (he3 : starEach [d] cenv = (false, eval d cenv) :: [] := by rfl) :
    QX X A Hh cenv nm (.Call (.Name "is_in" p) [a, b, d] [] pos) (.bl (decide (lo ≤ i ∧ i ≤ hi))) := by
  intro E s g
  refine wpAny_Call_Name_kw (qg_glob g hk F.g ?_)
  refine PySem.W.callWith_K (h₀ := X.base) g.mod.kin F.kp ?_ he (by rw [he2, he3]; rfl)
  rw [he, he2, he3]
  show wpAny _ _ (spliced ((false, eval a cenv) :: backTo pos ((false, eval b cenv) :: (false, eval d cenv) :: []))) _ _ s
  refine Calls.spliced_cons (thn (ha E s g) fun v1 s1 ⟨r1, k1⟩ => ?_)
  have g1 := g.keeps k1
  show wpAny _ _ (spliced ((false, eval b cenv) :: backTo pos ((false, eval d cenv) :: []))) _ _ s1
  refine Calls.spliced_cons (thn (hb E s1 g1) fun v2 s2 ⟨r2, k2⟩ => ?_)
  have g2 := g1.keeps k2
  show wpAny _ _ (spliced ((false, eval d cenv) :: [])) _ _ s2
  refine Calls.spliced_cons (thn (hd E s2 g2) fun v3 s3 ⟨r3, k3⟩ => ?_)
  have g3 := g2.keeps k3
  refine Calls.spliced_nil ?_
  obtain ⟨t1, rfl⟩ := r1
  obtain ⟨t2, rfl⟩ := r2
  obtain ⟨t3, rfl⟩ := r3
  refine ⟨g3.kIn, ?_⟩
  exact thn (isin_call F T hA g3) fun u s4 ⟨r, k⟩ => ⟨r, keeps_trans k1 (keeps_trans k2 (keeps_trans k3 k))⟩

/-- a tuple's first k items, as a tuple that stands behind -/
theorem qt_pre {a b : Expr} {p : Addr} {xs : List V} {k : Nat} {p2 pos : Pos} {Q : Value → Shared → Prop} (ha : QX X A Hh cenv nm a (.ref p)) (hb : QX X A Hh cenv nm b (.int (k : Int))) (hq : SqT X.K Hh p xs) (g : GQ X Hh cenv nm s)
    (h : ∀ (t : Addr) (its : List Value) (s' : Shared), Keeps s s' → IsTup s'.heap t its.toArray → Vals (xs.take k) its → Q (.ref t) s') : wpAny (model X.prog X.w) A (eval (.Subscript a (.Slice none (some b) none p2) pos) cenv) Q E s := by
  refine Subscript_ (thn (ha E s g) fun v s1 ⟨r1, k1⟩ => ?_)
  cases r1
  have g1 := g.keeps k1
  refine wpAny_Slice ?_
  rw [evalPart_none]
  refine wpAny_pure ?_
  rw [evalPart_some]
  refine thn (hb E s1 g1) fun u s2 ⟨r2, k2⟩ => ?_
  refine wpAny_pure ?_
  have g2 := g1.keeps k2
  obtain ⟨t, rfl⟩ := r2
  obtain ⟨its, r, ht, hz⟩ := g2.tuple hq
  have hlen : its.toArray.size = xs.length := by rw [List.size_toArray]; exact r.length.symm
  have k3 : Keeps s2 { s2 with heap := s2.heap.push { cls := .type "slice", data := .fields #[.none, .int (k : Int) t, .none] } } := keeps_of fun b ob q => Heap.get?_push_of_some _ q
  have k13 := keeps_trans k1 (keeps_trans k2 k3)
  have ht3 : IsTup (s2.heap.push { cls := .type "slice", data := .fields #[.none, .int (k : Int) t, .none] }) p its.toArray := ht.keeps (kk_of k3)
  show wpAny (model X.prog X.w) A (subscriptTail a (.Slice none (some b) none p2) (.ref p) (.ref s2.heap.objs.size)) Q E _
  refine tail_any (ops := [.ref s2.heap.objs.size, .ref p]) ht3.typeIs PyProof.Rows.slot_tuple_getitem.lookup ?_ (by with_unfolding_all rfl)
  have pl : IsPart (.none : Value) none := .none
  have pu : IsPart (.int (k : Int) t) (some (k : Int)) := .int _ _
  by_cases hw : HT.sIx its.toArray.size 0 none = 0 ∧ HT.sIx its.toArray.size its.toArray.size (some (k : Int)) = its.toArray.size
  · refine getItem_tuple_whole ht3 (Heap.IsSliceOf.new ..) pl pu hw (h p its _ k13 ht3 ?_)
    have e := hw.2
    rw [HT.sIx_nat, hlen] at e
    rw [List.take_of_length_le (by omega)]
    exact r
  · refine HT.getItem_tuple_cut ht3 (Heap.IsSliceOf.new ..) pl pu hw (h _ ((its.drop 0).take (min k its.length - 0)) _ (keeps_trans k13 (keeps_of fun b ob q => Heap.get?_push_of_some _ q)) ?_ ?_) (by rw [hlen]; exact hz)
    · have e : HT.sIx its.toArray.size its.toArray.size (some (k : Int)) = min k its.length := by rw [HT.sIx_nat, List.size_toArray]
      rw [e]
      exact IsTup.new _ _
    · have e : (its.drop 0).take (min k its.length - 0) = its.take k := by
        rw [List.drop_zero, Nat.sub_zero, ← List.take_take, List.take_length]
      rw [e]
      exact r.take k
/-- sum(t[:k]) -/
theorem qx_sumPre {a b : Expr} {p : Addr} {zs : List Int} {k : Nat} {p1 p2 p3 pos : Pos} (hk : cenv.kindOf "sum" = some .globalImplicit) (T : Tx X.K X.mg) (hA : A.handled = none) (ha : QX X A Hh cenv nm a (.ref p)) (hb : QX X A Hh cenv nm b (.int (k : Int))) (hq : SqT X.K Hh p (zs.map V.int))
    (hz : ∀ z ∈ zs, 0 ≤ z ∧ z ≤ 2 ^ 40) (hl : zs.length ≤ 2 ^ 20)
    (he : starEach [.Subscript a (.Slice none (some b) none p2) p3] cenv = (false, eval (.Subscript a (.Slice none (some b) none p2) p3) cenv) :: [] := by rfl) :
    QX X A Hh cenv nm (.Call (.Name "sum" p1) [.Subscript a (.Slice none (some b) none p2) p3] [] pos) (.int (zs.take k).sum) := by
  intro E s g
  refine wpAny_Call_Name_kw (qg_blt (u := .builtin "sum") g hk T.sum (by decide +kernel) ?_)
  refine PyProof.Rows.callWith_builtin1 ?_ he (by rfl)
  rw [he]
  show wpAny _ _ (spliced ((false, eval (.Subscript a (.Slice none (some b) none p2) p3) cenv) :: [])) _ _ s
  refine Calls.spliced_cons (qt_pre ha hb hq g fun t its s1 k1 ht r => ?_)
  refine Calls.spliced_nil ?_
  have hlt := ht.lt
  have hlen : (zs.take k).length = its.length := by
    have q := r.length
    rw [← List.map_take, List.length_map] at q
    exact q
  refine call_sum_walk (wpAny_pyIter_tuple ht ⟨s1.heap.objs.size, _, _, _, _, _, fun j => (zs.take k).getD j 0, rfl, Walks.tuple (A := A.in1) hA s1.heap.objs.size t (Nat.ne_of_lt hlt) its.toArray, ⟨⟨_, Heap.get?_push_size _ rfl, rfl, rfl⟩, ht.keeps fun b o e => Heap.get?_push_of_some _ e⟩, ?_, ?_, ?_, ?_⟩)
  · intro b hb
    show b < (s1.heap.push _).objs.size
    rw [Heap.size_push]
    have hb' : b = s1.heap.objs.size ∨ b = t := by simpa using hb
    rcases hb' with z | z
    · rw [z]; exact Nat.lt_succ_self _
    · rw [z]; exact Nat.lt_succ_of_lt hlt
  · intro i v e
    have e' : its[i]? = some v := by simpa using e
    have hi : i < (zs.take k).length := by
      obtain ⟨q, _⟩ := List.getElem?_eq_some_iff.mp e'
      omega
    have e3 : ((zs.map V.int).take k)[i]? = some (.int (zs.take k)[i]) := by
      rw [← List.map_take, List.getElem?_map, List.getElem?_eq_getElem hi]
      rfl
    obtain ⟨u, e2, t', r2⟩ := r.get e3
    rw [e'] at e2
    have ev : v = u := Option.some.inj e2
    refine ⟨t', ?_⟩
    rw [ev, r2]
    show _ = Value.int ((zs.take k).getD i 0) t'
    rw [List.getD_eq_getElem?_getD, List.getElem?_eq_getElem hi]
    rfl
  · have hb : ∀ i, i < (zs.take k).length → 0 ≤ (zs.take k).getD i 0 ∧ (zs.take k).getD i 0 ≤ 2 ^ 40 := fun i hi => by
      rw [List.getD_eq_getElem?_getD, List.getElem?_eq_getElem hi]
      exact hz _ (List.mem_of_mem_take (List.getElem_mem hi))
    intro j hj
    have hj' : j < (zs.take k).length := by rw [hlen]; simpa using hj
    have h1 := hb j hj'
    have h2 := small_pre hb (j + 1) hj'
    have hl2 : (zs.take k).length ≤ zs.length := by rw [List.length_take]; omega
    have hb3 : ((j + 1 : Nat) : Int) * 2 ^ 40 ≤ 2 ^ 20 * 2 ^ 40 := Int.mul_le_mul_of_nonneg_right (by omega) (by decide)
    have hb2 : (2 : Int) ^ 20 * 2 ^ 40 < 2 ^ 63 := by decide
    have hb4 : (2 : Int) ^ 40 < 2 ^ 63 := by decide
    refine ⟨⟨?_, ?_⟩, ⟨by omega, by omega⟩⟩
    · show -(2 ^ 63) ≤ (zs.take k).getD j 0
      omega
    · show (zs.take k).getD j 0 < 2 ^ 63
      omega
  · intro h' tk t' hkp
    refine ⟨⟨t', ?_⟩, keeps_trans k1 (keeps_of fun b o e => hkp b o (fun hb => ?_) (Heap.get?_push_of_some _ e))⟩
    · have e : preSum (fun j => (zs.take k).getD j 0) its.toArray.size = (zs.take k).sum := by
        rw [sum_pre]
        congr 1
        refine List.ext_getElem (by simp [hlen]) fun i h1 h2 => ?_
        rw [List.getElem_map, List.getElem_range, List.getD_eq_getElem?_getD, List.getElem?_eq_getElem h2]
        rfl
      rw [e]
    · have hb' : b = s1.heap.objs.size := by simpa using hb
      rw [hb'] at e
      exact absurd (Heap.lt_size e) (Nat.lt_irrefl _)
/-- if i in t: as a generator's test -/
theorem qx_testIn {a b : Expr} {p : Addr} {x : V} {xs : List V} {pos : Pos} (ha : QX X A Hh cenv nm a x) (hb : QX X A Hh cenv nm b (.ref p)) (hq : SqT X.K Hh p xs) (fx : flatV x = true) (fs : xs.all flatV = true) (g : GQ X Hh cenv nm s) (hm : behindInMarks .In b = false := by with_unfolding_all rfl) :
    wpAny (model X.prog X.w) A (testsOfG [.Compare a [.In] [b] pos] cenv) (fun ok s' => ok = inV x xs ∧ Keeps s s') E s := by
  refine wpAny_tests_one (wpAny_isTrue_Compare1 (qx_bin ha hb g fun v u s2 rx ry g2 k => ?_) hm)
  cases ry
  obtain ⟨its, r, pl, hz⟩ := g2.tuple hq
  refine SeqAt.in_tupleAt (eqU x) pl (fun w hw => mem_eqAt rx fx r fs w (by simpa using hw)) ?_
  rw [show its.toArray.any (eqU x) = its.any (eqU x) by simp, any_eqU r fs]
  exact wpAny_truthy_bool ⟨rfl, keeps_trans k (keeps_tok _ _)⟩
end
end Tr

/-! min of tuples, sorted of tuples, in of a tuple. -/
namespace Tr
open PySem PySem.Spec PyProof.Rows L2 GxR Gq
open PySem.W (AllAlike dataLt dataLe EachIs rcLt_alike sorted_data)
section
variable {prog : Program} {w : World} {A : Around} {R : Result → Shared → Prop} {I : Addr} {fp wr : List Addr} {n : Nat} {Pv : Nat → Value → Prop} {St : Nat → Heap → Prop}
/-- a comparison by «<» wherever the heap keeps Z -/
def LtWhere (prog : Program) (w : World) (A : Around) (Z : Heap → Prop) (Pv : Nat → Value → Prop) (bt : Nat → Nat → Bool) : Prop :=
  ∀ i j vi vj (s : Shared) (Q : Value → Shared → Prop) (E : Value → Shared → Prop), Z s.heap → Pv i vi → Pv j vj → Q (.bool (bt i j)) s → wpAny (model prog w) A (richCompare .Lt vi vj) Q E s
theorem least_loop {Z : Heap → Prop} (W : Walks prog w A.in1 I fp wr n Pv St) (bt : Nat → Nat → Bool) (hcmp : LtWhere prog w A.in1 Z Pv bt) (S : Addr) (hSf : S ∉ fp) (hZ : ∀ h h' : Heap, Z h → (∀ b o, b ∉ wr → b ≠ S → h.get? b = some o → h'.get? b = some o) → Z h') :
    ∀ (k j : Nat) (s : Shared) (vb : Value) (c : Nat), n = j + 1 + k → St (j + 1) s.heap → Pv (argBest bt j) vb → Z s.heap → s.heap.get? S = some { cls := .type "list", dict := none, data := .seq #[vb, vb] c, slots := #[] } →
    (∀ v h' tk, Pv (argBest bt (n - 1)) v → (∀ b o, b ∉ wr → b ≠ S → s.heap.get? b = some o → h'.get? b = some o) → R (.ok (.ret v)) { s with heap := h', toks := tk }) →
    codeAny (model prog w) A (.builtin "min.loop" ⟨[.ref I, .none, .ref S], []⟩) R s := by
  have hSw : S ∉ wr := fun q => hSf (W.sub _ q)
  have nm : (toString "min" ++ toString ".loop" : String) = "min.loop" := by decide
  intro k
  induction k with
  | zero =>
    intro j s vb c hk st hb hz hS hR
    refine codeAny_builtin F.entry_min_loop ?_
    rw [Around.under_plainId F.plain_min_loop _]
    show wpAny _ A.in1 (seqItems? (.ref S) >>= _) _ _ s
    refine wpAny_bind (wpAny_seqItems hS rfl ?_)
    show wpAny _ A.in1 (tryCatch (pyNext (.ref I)) _ >>= _) _ _ s
    have hn : n = j + 1 := hk
    refine wpAny_bind (wpAny_tryCatch (W.done s _ _ (by rw [hn]; exact st) fun h1 t1 k1 => ?_))
    show wpAny _ A.in1 (updateSeq S (fun _ => #[]) >>= _) _ _ _
    refine wpAny_bind (wpAny_updateSeq (k1 S _ hSw hS) rfl (wpAny_bind (wpAny_letGo (wpAny_pure ?_))))
    refine hR vb _ t1 (by rw [hn]; exact hb) fun b o q1 q2 e => ?_
    rw [Heap.get?_update_other _ _ (Ne.symm q2)]
    exact k1 b o q1 e
  | succ k ih =>
    intro j s vb c hk st hb hz hS hR
    have hj : j + 1 < n := by omega
    refine codeAny_builtin F.entry_min_loop ?_
    rw [Around.under_plainId F.plain_min_loop _]
    show wpAny _ A.in1 (seqItems? (.ref S) >>= _) _ _ s
    refine wpAny_bind (wpAny_seqItems hS rfl ?_)
    show wpAny _ A.in1 (tryCatch (pyNext (.ref I)) _ >>= _) _ _ s
    refine wpAny_bind (wpAny_tryCatch (W.item (j + 1) s _ _ hj st fun v h1 t1 hP st1 k1 => ?_))
    have hS1 := k1 S _ hSw hS
    have z1 : Z h1 := hZ _ _ hz fun b o q1 _ e => k1 b o q1 e
    show wpAny _ A.in1 (tryCatch (holding [v, v] (richCompare .Lt v vb >>= _)) _ >>= _) _ _ _
    refine wpAny_bind (wpAny_tryCatch (wpAny_holding (wpAny_bind (hcmp (j + 1) (argBest bt j) v vb _ _ _ z1 hP hb ?_))))
    refine wpAny_bind (wpAny_holding (wpAny_truthy_bool ?_))
    refine wpAny_bind (wpAny_letGo (wpAny_pure ?_))
    cases q : bt (j + 1) (argBest bt j) with
    | true =>
      simp only [if_true]
      refine wpAny_bind (wpAny_updateSeq hS1 rfl (wpAny_bind (wpAny_letGo ?_)))
      rw [nm]
      refine wpAny_pure ⟨plainId_quiet F.plain_min_loop _, ih (j + 1) _ v _ (by omega) (W.frame _ _ _ st1 fun b hbf o e => ?_) (by simp only [argBest, q, if_true]; exact hP) (hZ _ _ z1 fun b o _ hb e => ?_) (Heap.get?_update_self _ hS1 rfl) fun v2 h2 t2 hP2 k2 => ?_⟩
      · exact (Heap.get?_update_other _ _ (fun z : S = b => hSf (by rw [z]; exact hbf))).trans e
      · exact (Heap.get?_update_other _ _ (Ne.symm hb)).trans e
      · exact hR v2 h2 t2 hP2 fun b o q1 q2 e => k2 b o q1 q2 ((Heap.get?_update_other _ _ (Ne.symm q2)).trans (k1 b o q1 e))
    | false =>
      simp only [Bool.false_eq_true, if_false]
      refine wpAny_bind (wpAny_letGo ?_)
      rw [nm]
      refine wpAny_pure ⟨plainId_quiet F.plain_min_loop _, ih (j + 1) _ vb c (by omega) st1 (by simp only [argBest, q, Bool.false_eq_true, if_false]; exact hb) z1 hS1 fun v2 h2 t2 hP2 k2 => ?_⟩
      exact hR v2 h2 t2 hP2 fun b o q1 q2 e => k2 b o q1 q2 (k1 b o q1 e)
theorem least_first {Z : Heap → Prop} (W : Walks prog w A.in1 I fp wr n Pv St) (bt : Nat → Nat → Bool) (hcmp : LtWhere prog w A.in1 Z Pv bt) (S : Addr) (hSf : S ∉ fp) (hZ : ∀ h h' : Heap, Z h → (∀ b o, b ∉ wr → b ≠ S → h.get? b = some o → h'.get? b = some o) → Z h') (hn : 0 < n) {s : Shared} {c : Nat}
    (st : St 0 s.heap) (hz : Z s.heap) (hS : s.heap.get? S = some { cls := .type "list", dict := none, data := .seq #[] c, slots := #[] })
    (hR : ∀ v h' tk, Pv (argBest bt (n - 1)) v → (∀ b o, b ∉ wr → b ≠ S → s.heap.get? b = some o → h'.get? b = some o) → R (.ok (.ret v)) { s with heap := h', toks := tk }) :
    codeAny (model prog w) A (.builtin "min.loop" ⟨[.ref I, .none, .ref S], []⟩) R s := by
  have hSw : S ∉ wr := fun q => hSf (W.sub _ q)
  have nm : (toString "min" ++ toString ".loop" : String) = "min.loop" := by decide
  refine codeAny_builtin F.entry_min_loop ?_
  rw [Around.under_plainId F.plain_min_loop _]
  show wpAny _ A.in1 (seqItems? (.ref S) >>= _) _ _ s
  refine wpAny_bind (wpAny_seqItems hS rfl ?_)
  show wpAny _ A.in1 (tryCatch (pyNext (.ref I)) _ >>= _) _ _ s
  refine wpAny_bind (wpAny_tryCatch (W.item 0 s _ _ hn st fun v h1 t1 hP st1 k1 => ?_))
  have hS1 := k1 S _ hSw hS
  have z1 : Z h1 := hZ _ _ hz fun b o q1 _ e => k1 b o q1 e
  show wpAny _ A.in1 (updateSeq S (fun _ => #[v, v]) >>= _) _ _ _
  refine wpAny_bind (wpAny_updateSeq hS1 rfl ?_)
  rw [nm]
  refine wpAny_pure ⟨plainId_quiet F.plain_min_loop _, least_loop W bt hcmp S hSf hZ (n - 1) 0 _ v _ (by omega) (W.frame _ _ _ st1 fun b hbf o e => ?_) hP (hZ _ _ z1 fun b o _ hb e => ?_) (Heap.get?_update_self _ hS1 rfl) fun v2 h2 t2 hP2 k2 => ?_⟩
  · exact (Heap.get?_update_other _ _ (fun z : S = b => hSf (by rw [z]; exact hbf))).trans e
  · exact (Heap.get?_update_other _ _ (Ne.symm hb)).trans e
  · exact hR v2 h2 t2 hP2 fun b o q1 q2 e => k2 b o q1 q2 ((Heap.get?_update_other _ _ (Ne.symm q2)).trans (k1 b o q1 e))
end
/-- the place of the first least one -/
def leastAt (lt : Nat → Nat → Bool) : Nat → Nat := argBest lt
section
variable {X : Cx}
/-- min of a list of data: the one at the place that the comparisons pick -/
def rMinD (K : PySem.W.Frag) : List V → Hp → VK → Prop := fun vs H Q => ∃ (a : Addr) (xs : List V) (ds : List PyData), vs = [.ref a] ∧ SqL K H a xs ∧ DpAll K H xs ds ∧ 0 < ds.length ∧ AllAlike ds ∧ (∀ d ∈ ds, d ≠ .none ∧ d.depth ≤ 60) ∧
  ∀ v d, ds[argBest (fun i j => dataLt (ds.getD i .none) (ds.getD j .none)) (ds.length - 1)]? = some d → Dp K H v d → Q v H
theorem cr_minD (hh : X.A.handled = none) (hu : X.A.units + 200 < cLine) : CallR X (.builtin "min") (rMinD X.K) := by
  intro pins s σ H vs us Q I r h
  obtain ⟨a, xs, ds, rfl, hs, hd, hn, hal, hne, q⟩ := h
  obtain ⟨its, rv, hl, hz⟩ := I.list hs
  rw [Vals.ref1 r]
  have pl := hl.isList
  have hlt : a < s.heap.objs.size := by
    obtain ⟨o, ho, _⟩ := pl
    exact Heap.lt_size ho
  have len1 := rv.length
  have len2 := hd.length
  have bt0 : ∀ (i j : Nat), True := fun _ _ => trivial
  refine call_function_tree F.kind_min F.plain_min F.entry_min (F.args_min1 _) ?_
  show wpAny _ X.A.in1 (Builtin.Builtins.bindParams "min" ["key", "default"] 0 ⟨[], []⟩ >>= _) _ _ s
  refine wpAny_bind (wpAny_of_eq (show Builtin.Builtins.bindParams "min" ["key", "default"] 0 ⟨[], []⟩ = pure [none, none] from rfl) ?_)
  refine wpAny_bind (wpAny_pure ?_)
  refine wpAny_bind (wpAny_pyIter_list pl ?_)
  refine wpAny_bind (wpAny_newObj_type ?_)
  have nm : (toString "min" ++ toString ".loop" : String) = "min.loop" := by decide
  rw [nm]
  have hx : its.toArray.size = ds.length := by rw [List.size_toArray]; omega
  -- Z: all that stood at the call stands
  have W := Walks.list (prog := X.prog) (w := X.w) (A := X.A.in1) hh s.heap.objs.size a (Nat.ne_of_lt hlt) its.toArray
  have szP : (s.heap.push { cls := .type "list_iterator", data := .fields #[.ref a, .int 0 0] }).objs.size = s.heap.objs.size + 1 := Heap.size_push ..
  refine wpAny_pure ⟨plainId_quiet F.plain_min_loop _, least_first (A := X.A) (Z := fun h => ∀ b o, s.heap.get? b = some o → h.get? b = some o) W (fun i j => dataLt (ds.getD i .none) (ds.getD j .none)) ?_ _ ?_ ?_ (by rw [hx]; exact hn) ?_ ?_ (Heap.get?_push_size _ rfl) ?_⟩
  · intro i j vi vj u Qc Ec hZ hi hj hQ
    have at_ : ∀ (i : Nat) (v : Value), its.toArray[i]? = some v → ∃ d as, ds[i]? = some d ∧ Reads u.heap v d as := fun i v e => by
      have e' : its[i]? = some v := by simpa using e
      have hil : i < xs.length := by
        obtain ⟨q, _⟩ := List.getElem?_eq_some_iff.mp e'
        omega
      obtain ⟨u1, e2, r2⟩ := rv.get (List.getElem?_eq_getElem hil)
      rw [e'] at e2
      have ev : v = u1 := Option.some.inj e2
      obtain ⟨d, ed, dd⟩ := hd.get' (List.getElem?_eq_getElem hil)
      rw [← ev] at r2
      obtain ⟨as, hr⟩ := Dp.reads I d _ _ dd r2
      exact ⟨d, as, ed, PyProof.Rows.Reads.keeps hZ hr⟩
    obtain ⟨di, ai, edi, ri⟩ := at_ i vi hi
    obtain ⟨dj, aj, edj, rj⟩ := at_ j vj hj
    have mi : di ∈ ds := List.mem_of_getElem? edi
    have mj : dj ∈ ds := List.mem_of_getElem? edj
    have g1 : ds.getD i .none = di := by rw [List.getD_eq_getElem?_getD, edi]; rfl
    have g2 : ds.getD j .none = dj := by rw [List.getD_eq_getElem?_getD, edj]; rfl
    refine rcLt_alike di dj X.A.in1 u vi vj ai aj ri rj (hal di mi dj mj) (hne di mi).1 ?_ X.prog X.w Ec Qc ?_
    · have h1 := (hne di mi).2
      show X.A.units + 1 + min di.depth dj.depth < cLine
      omega
    · have hQ' : Qc (.bool (dataLt (ds.getD i .none) (ds.getD j .none))) u := hQ
      rw [g1, g2] at hQ'
      exact hQ'
  · intro hm
    have hm' : (s.heap.push { cls := .type "list_iterator", data := .fields #[.ref a, .int 0 0] }).objs.size = s.heap.objs.size ∨ (s.heap.push { cls := .type "list_iterator", data := .fields #[.ref a, .int 0 0] }).objs.size = a := by simpa using hm
    rw [szP] at hm'
    rcases hm' with z | z
    · exact absurd z (Nat.succ_ne_self _)
    · rw [← z] at hlt
      exact absurd (Nat.lt_of_succ_lt hlt) (Nat.lt_irrefl _)
  · intro h h' hZ k b o e
    have hb := Heap.lt_size e
    refine k b o (fun hm => ?_) (fun hm => ?_) (hZ b o e)
    · have hm' : b = s.heap.objs.size := by simpa using hm
      rw [hm'] at hb
      exact Nat.lt_irrefl _ hb
    · rw [hm, szP] at hb
      exact absurd (Nat.lt_of_succ_lt hb) (Nat.lt_irrefl _)
  · exact ⟨⟨_, Heap.get?_push_of_some _ (Heap.get?_push_size _ rfl), rfl, rfl⟩, pl.at fun o e => Heap.get?_push_of_some _ (Heap.get?_push_of_some _ e)⟩
  · exact fun b o e => Heap.get?_push_of_some _ (Heap.get?_push_of_some _ e)
  · intro v h' tk hv k
    have e' : its[argBest (fun i j => dataLt (ds.getD i .none) (ds.getD j .none)) (its.toArray.size - 1)]? = some v := by simpa using hv
    rw [hx] at e'
    have hil : argBest (fun i j => dataLt (ds.getD i .none) (ds.getD j .none)) (ds.length - 1) < xs.length := by
      obtain ⟨q, _⟩ := List.getElem?_eq_some_iff.mp e'
      omega
    obtain ⟨u1, e2, r2⟩ := rv.get (List.getElem?_eq_getElem hil)
    rw [e'] at e2
    have ev : v = u1 := Option.some.inj e2
    obtain ⟨d, ed, dd⟩ := hd.get' (List.getElem?_eq_getElem hil)
    refine ⟨_, H, ?_, by rw [ev]; exact r2, q _ d ed dd⟩
    refine I.kept (h' := h') (t' := tk) fun b o e => k b o (fun hm => ?_) (fun hm => ?_) (Heap.get?_push_of_some _ (Heap.get?_push_of_some _ e))
    · have hm' : b = s.heap.objs.size := by simpa using hm
      have hb := Heap.lt_size e
      rw [hm'] at hb
      exact Nat.lt_irrefl _ hb
    · have hb := Heap.lt_size e
      rw [hm, szP] at hb
      exact absurd (Nat.lt_of_succ_lt hb) (Nat.lt_irrefl _)
/-- sorted of a list of tuples -/
def sortD {β : Type} (enc : β → PyData) (bs : List β) : List β := bs.mergeSort (dataLe false enc)
def rSortD {β : Type} (enc : β → PyData) (K : PySem.W.Frag) : List V → Hp → VK → Prop := fun vs H Q => ∃ (a : Addr) (xs : List V) (bs : List β), vs = [.ref a] ∧ SqL K H a xs ∧ DpAll K H xs (bs.map enc) ∧ AllAlike (bs.map enc) ∧ (∀ b ∈ bs, (∃ x r, enc b = .tuple (x :: r)) ∧ (enc b).depth ≤ 60) ∧
  ∀ p ys, H p = none → DpAll K H ys ((sortD enc bs).map enc) → Q (.ref p) (upd H p (.lst ys))
theorem each_of {β : Type} {enc : β → PyData} {K : PySem.W.Frag} {H : Hp} : ∀ {xs : List V} {bs : List β} {us : List Value}, DpAll K H xs (bs.map enc) → Vals xs us → EachIs (fun u b => ∃ x, Dp K H x (enc b) ∧ RelV x u) us bs
  | _, [], _, h, r => by
    cases h
    cases r
    exact .nil
  | _, b :: bs, _, h, r => by
    cases h with
    | cons h1 h2 =>
      cases r with
      | cons r1 r2 => exact .cons ⟨_, h1, r1⟩ (each_of h2 r2)
theorem of_each {β : Type} {enc : β → PyData} {K : PySem.W.Frag} {H : Hp} : ∀ {us : List Value} {bs : List β}, EachIs (fun u b => ∃ x, Dp K H x (enc b) ∧ RelV x u) us bs → ∃ xs, DpAll K H xs (bs.map enc) ∧ Vals xs us
  | _, _, .nil => ⟨[], .nil, .nil⟩
  | _, _, .cons ⟨x, h, r⟩ t => by
    obtain ⟨xs, h2, r2⟩ := of_each t
    exact ⟨x :: xs, .cons h h2, .cons r r2⟩
theorem cr_sortedD {β : Type} {enc : β → PyData} (hu : X.A.units + 200 < cLine) : CallR X (.builtin "sorted") (rSortD enc X.K) := by
  intro pins s σ H vs us Q I r h
  obtain ⟨a, xs, bs, rfl, hs, hd, hal, hk, q⟩ := h
  obtain ⟨its, rv, hl, hz⟩ := I.list hs
  rw [Vals.ref1 r]
  have len1 := rv.length
  have len2 := hd.length
  rw [List.length_map] at len2
  have e := each_of hd rv
  refine sorted_data (enc := enc) hl.isList e (e.mono fun u b ⟨x, hx, rx⟩ => Dp.reads I _ _ _ hx rx) hal (.inl fun d hd' => ?_) (by omega) (fun b hb => ?_) fun out hlen ho => ?_
  · obtain ⟨b, hb, rfl⟩ := List.mem_map.mp hd'
    exact (hk b hb).1
  · have h1 := (hk b hb).2
    omega
  · obtain ⟨ys, hy, ry⟩ := of_each ho
    obtain ⟨ep, he'⟩ := PyProof.Rows.sortedAll_at s.heap its out.toArray
    have hly : ys.length ≤ sizeLine := by
      have := ry.length
      omega
    exact ⟨.ref _, upd H (s.heap.objs.size + 1) (.lst ys), I.laid (t' := s.toks) (fun _ _ => PyProof.Rows.sortedAll_old) (Nat.le_succ _) ⟨hly, out, ep, ry, he'⟩, rfl, q _ _ (I.hok.fresh (Nat.le_succ _)) hy⟩
/-- x in t, t a tuple of data -/
def rInTD (K : PySem.W.Frag) : R2 := fun x y H Q => ∃ d ds, Dp K H x d ∧ Dp K H y (.tuple ds) ∧ SeqAt.shaped d = true ∧ SeqAt.shaped (.tuple ds) = true ∧ Q (.bl (ds.any fun z => PyData.eqv z d)) H
theorem op_inTD (hu : X.A.units + 65 < cLine) : OpR X (compareOp .In) (rInTD X.K) := by
  intro pins s σ H x y v u Q I rx ry h
  obtain ⟨d, ds, hd, he, sd, se, q⟩ := h
  obtain ⟨as, r1⟩ := Dp.reads I d x v hd rx
  obtain ⟨bs, r2⟩ := Dp.reads I (.tuple ds) y u he ry
  exact SeqAt.in_tuple_reads r2 r1 (SeqAt.canLay_of_shaped se) (SeqAt.canLay_of_shaped sd) (room_in_shaped sd hu) ⟨.bl _, H, I, rfl, q⟩
end
end Tr

/-! enumerate of a tuple. -/
namespace Tr
open PySem PySem.Spec PyProof.Rows L2 GxR Gq
def IteT (K : PySem.W.Frag) (a : Addr) : It :=
  ⟨fun i H => ∃ (xs : List V) (x : V), SqT K H a xs ∧ xs[i]? = some x, fun i H v H' => ∃ T x, v = .ref T ∧ H T = none ∧ H' = upd H T (.tup [.int (i : Nat), x]) ∧ ∀ xs, SqT K H a xs → xs[i]? = some x, fun i H => ∃ xs : List V, SqT K H a xs ∧ xs.length = i⟩
theorem turn_enumT {P : Program} {w : World} {K : PySem.W.Frag} {elts : List Expr} {kk : Nat} {tpos : Pos} {a e it : Addr} (n1 : e ≠ it) (n2 : a ≠ it) (n3 : e ≠ a) :
    Turn P w K (.Tuple elts kk tpos) (IteT K a) [e, it] e (fun i h => (∃ old, IsEnum h e it ((0 : Int) + (i : Int)) old) ∧ h.IsTupleIter it a i) where
  mem := by simp
  obj := fun i h st b hb => by
    obtain ⟨⟨old, he⟩, ⟨o, ho, hc, hd⟩⟩ := st
    have e' : b = e ∨ b = it := by simpa using hb
    rcases e' with z | z
    · rw [z]; exact ⟨_, he, fun v q => nomatch q⟩
    · rw [z]; exact ⟨o, ho, fun v q => by rw [hd] at q; cases q⟩
  keep := fun i h h' st k => let ⟨⟨old, he⟩, hi⟩ := st; ⟨⟨old, k e (by simp) _ he⟩, hi.at fun o q => k it (by simp) o q⟩
  item := by
    intro X hP hw hK hc i pins s σ H E I hf st hg
    subst hP hw hK
    obtain ⟨⟨old, he⟩, hit⟩ := st
    obtain ⟨xs, x, hq, hx⟩ := hg
    obtain ⟨its, rv, p, hz⟩ := I.tuple hq
    obtain ⟨u, hu, ru⟩ := rv.get hx
    have hil : i < its.toArray.size := by
      obtain ⟨q, _⟩ := List.getElem?_eq_some_iff.mp hu
      simpa using q
    have W := WalksT.enumFrom (A := X.A) 0 (Draws.tuple (prog := X.prog) (w := X.w) (A := X.A.in1) (I.ok.hd hc) it a n2 its.toArray) e n1 (by simp [n1, n3]) (by simp)
    have hel : e < s.heap.objs.size := Heap.lt_size he
    have hitl : it < s.heap.objs.size := by obtain ⟨_, q, _⟩ := hit; exact Heap.lt_size q
    refine W.item i s _ _ hil ⟨⟨old, he⟩, hit, p⟩ fun T vals h1 tk hv hT hIs hMid k1 => ?_
    obtain ⟨t0, u', hu', rfl⟩ := hv
    have eu : u' = u := by
      have q : its[i]? = some u' := by simpa using hu'
      rw [hu] at q
      exact (Option.some.inj q).symm
    subst eu
    refine ⟨_, rfl, W.go _ _ _ i T _ _ _ hMid fun h2 st2 k2 => ?_⟩
    have nT : T ∉ [e, it] := W.apart i T h1 hMid
    have hT2 : IsTup h2 T #[.int ((0 : Int) + (i : Int)) t0, u'] := by
      obtain ⟨o, ho, q⟩ := hIs
      exact ⟨o, k2 T o nT ho, q⟩
    have new : ObjOk X.prog X.w (upd H T (.tup [.int (i : Nat), x])) h2 T (.tup [.int (i : Nat), x]) :=
      ⟨by show 2 ≤ sizeLine; decide, [.int ((0 : Int) + (i : Int)) t0, u'], .cons ⟨t0, by rw [Int.zero_add]⟩ (.cons ru .nil), hT2⟩
    have I1 : Inv X pins σ (upd H T (.tup [.int (i : Nat), x])) { s with heap := h2, toks := tk } :=
      I.turnedNew (ch := [e, it]) (fun b ob hb q => k2 b ob hb (k1 b ob hb q)) hf hT new
    refine ⟨.ref T, _, I1, rfl, ⟨T, x, rfl, I.hok.fresh hT, rfl, fun ys hy => by rw [I.tuple_inj hy hq]; exact hx⟩, ⟨st2.1, st2.2.1⟩, fun b hb => ?_⟩
    have hb' : b < s.heap.objs.size := by
      have e' : b = e ∨ b = it := by simpa using hb
      rcases e' with z | z
      · rw [z]; exact hel
      · rw [z]; exact hitl
    rw [upd_ne (Nat.ne_of_lt (Nat.lt_of_lt_of_le hb' hT))]
    exact (hf b hb).1
  done := by
    intro X hP hw hK hc i pins s σ H E I hf st hg
    subst hP hw hK
    obtain ⟨⟨old, he⟩, hit⟩ := st
    obtain ⟨xs, hq, hx⟩ := hg
    obtain ⟨its, rv, p, hz⟩ := I.tuple hq
    have hl := rv.length
    obtain ⟨f0, f1, f2, f3, f4, f5⟩ := hf it (by simp)
    have hn : its.toArray.size = i := by rw [List.size_toArray]; omega
    exact wpAny_pyNext_enum_endD (Draws.tuple (prog := X.prog) (w := X.w) (A := X.A.in1) (I.ok.hd hc) it a n2 its.toArray) he (by rw [hn]; exact ⟨hit, p⟩) fun h' eb => ⟨rfl, I.turned (t' := s.toks) (fun b o hb q => eb b o hb q) f0 f1 f3 f4 f5⟩
  self := fun A i s Q E st h => let ⟨⟨_, he⟩, _⟩ := st; wpAny_pyIter_enum he h
/-- enumerate(v), v of any kind that may be walked -/
theorem meets_enum1 {v : Value} {o : Obj} {H : Heap → Prop} (B : Begins v o H) :
    Meets (Builtin.«enumerate.__new__» ⟨[.type "enumerate", v], []⟩) (fun _ R s => H s.heap ∧
      R (.ok (.ret (.ref (s.heap.push o).objs.size))) { s with heap := (s.heap.push o).push { cls := .type "enumerate", data := .fields #[.none, .bool false, .ref s.heap.objs.size, rawInt 0, .none, .none] } }) :=
  .of_wp fun prog w A R s h => by
    obtain ⟨hp, g, d, tk, os⟩ := s
    obtain ⟨h1, h⟩ := h
    have hsub := sub_enumerate
    have it_ : ∀ {A' : Around} {E : Value → Shared → Prop} {Q : Value → Shared → Prop}, Q (.ref hp.objs.size) ⟨hp.push o, g, d, tk, os⟩ → wpAny (model prog w) A' (pyIter v) Q E ⟨hp, g, d, tk, os⟩ := fun q => B.iter prog w _ _ ⟨hp, g, d, tk, os⟩ _ h1 q
    wp_walk using it_
    refine wpAny_stack_any fun st => wpAny_pure ?_
    split
    · rename_i c _ _ _ _ _
      cases (c == Value.type "enumerate") <;> (wp_walk using it_; exact ⟨_, rfl, h⟩)
    · wp_walk using it_
      exact ⟨_, rfl, h⟩
theorem enum_begins1 {prog : Program} {w : World} {A : Around} {E : Value → Shared → Prop} {s : Shared} {v : Value} {o : Obj} {H : Heap → Prop} {Q : Value → Shared → Prop} (B : Begins v o H) (h1 : H s.heap)
    (h : ∀ h', IsEnum h' (s.heap.objs.size + 1) s.heap.objs.size 0 .none → h'.get? s.heap.objs.size = some o → h'.objs.size = s.heap.objs.size + 2 → (∀ b u, s.heap.get? b = some u → h'.get? b = some u) → Q (.ref (s.heap.objs.size + 1)) { s with heap := h' }) :
    wpAny (model prog w) A (call (.type "enumerate") [v]) Q E s := by
  refine callType_new F.called_enumerate (by decide) (F.typeCall_enumerate_1 _) (F.newCall_enumerate_1 _) (fun obj => F.args_object_init_2 obj _) F.entry_enumerate_new (meets_enum1 B) ⟨h1, ?_⟩
  have z1 : (s.heap.push o).objs.size = s.heap.objs.size + 1 := Heap.size_push ..
  have e1 : ((s.heap.push o).push { cls := .type "enumerate", data := .fields #[.none, .bool false, .ref s.heap.objs.size, rawInt 0, .none, .none] }).get? (s.heap.objs.size + 1) = some { cls := .type "enumerate", data := .fields #[.none, .bool false, .ref s.heap.objs.size, rawInt 0, .none, .none] } := by
    rw [← z1]
    exact Heap.get?_push_size _ rfl
  rw [z1]
  refine ⟨⟨_, e1, rfl⟩, h _ e1 (Heap.get?_push_of_some _ (Heap.get?_push_size _ B.free)) (by rw [Heap.size_push, z1]) fun b u e => Heap.get?_push_of_some _ (Heap.get?_push_of_some _ e)⟩
def iEnumT (K : PySem.W.Frag) (ta : TA) : TI := fun σ H R => ta σ H fun vs H1 => ∃ a xs, vs = [.ref a] ∧ SqT K H1 a xs ∧ R (IteT K a) H1
theorem pi_enumT {X : Cx} {e : Expr} {ta : TA} {p pos tpos : Pos} {elts : List Expr} {kk : Nat} (hg : Gl X "enumerate") (hm : X.mg "enumerate" = none) (ha : PA X [e] ta) (hs : starEach [e] X.env = [(false, eval e X.env)] := by rfl) :
    PI X (.Tuple elts kk tpos) (.Call (.Name "enumerate" p) [e] [] pos) (iEnumT X.K ta) := by
  refine ⟨fun pins s σ H R I h => ?_⟩
  refine Call_ (ld_blt I hg hm boot_enumerate (PyProof.Rows.callWith_type1 (thn (ha.run pos pins s σ H _ I h) fun us s1 ⟨vs, H1, I1, r1, q1⟩ => ?_) hs rfl))
  obtain ⟨a, xs, rfl, hq, q⟩ := q1
  obtain ⟨u, rfl, rx⟩ := vals1 r1
  cases rx
  obtain ⟨its, rv, p', hz⟩ := I1.tuple hq
  have hlt := p'.lt
  refine enum_begins1 (begins_tuple a its.toArray) p' fun h' he hit hsz hk => wpAny_pyIter_enum he ?_
  have I2 : Inv X pins σ H1 { s1 with heap := h' } := I1.kept (t' := s1.toks) hk
  refine ⟨s1.heap.objs.size + 1, [s1.heap.objs.size + 1, s1.heap.objs.size], _, _, H1, rfl, I2, turn_enumT (a := a) (e := s1.heap.objs.size + 1) (it := s1.heap.objs.size) (Nat.succ_ne_self _) (Nat.ne_of_lt hlt) (Nat.ne_of_gt (Nat.lt_succ_of_lt hlt)), ⟨⟨.none, ?_⟩, ⟨_, hit, rfl, rfl⟩⟩, fun b hb => ?_, q⟩
  · exact he
  · have e' : b = s1.heap.objs.size + 1 ∨ b = s1.heap.objs.size := by simpa using hb
    have hle : s1.heap.objs.size ≤ b := by
      rcases e' with z | z
      · rw [z]; exact Nat.le_add_right _ _
      · rw [z]; exact Nat.le_refl _
    exact I1.fpOk hle (I1.hok.fresh hle)
theorem walk_enumT {K : PySem.W.Frag} {a : Addr} {xs : List V} : Walk (IteT K a) xs.length (fun H => SqT K H a xs) (YPair (fun i => some (.int (i : Nat))) (fun i => xs[i]?)) := by
  refine ⟨fun i _ hi q => ⟨xs, xs[i], q, by simp [hi]⟩, fun _ q => ⟨xs, q, rfl⟩, fun i H v H' _ q y => ?_⟩
  obtain ⟨T, x, h1, h2, h3, h4⟩ := y
  exact ⟨T, .int (i : Nat), x, h1, h2, h3, rfl, h4 xs q⟩
end Tr

/-! The mirror: what the program computes, in plain functions. -/
namespace Tr
open PySem
abbrev Way := List Nat
abbrev Row := Way × List Int
/-! ### ways -/
def stepR (row : Row) (ri : (Int × Int) × Nat) : Option Row := if row.2.getLast? = some ri.1.1 ∧ ri.1.2 ∉ row.2 then some (row.1 ++ [ri.2], row.2 ++ [ri.1.2]) else none
def cands (R : List (Int × Int)) (row : Row) : List Row := R.zipIdx.filterMap (stepR row)
def candsAll (R : List (Int × Int)) (rows : List Row) : List Row := rows.flatMap (cands R)
def isGoal (g : Int) (row : Row) : Bool := decide (row.2.getLast? = some g)
def goalsOf (g : Int) (l : List Row) : List Way := (l.filter (isGoal g)).map (·.1)
def restOf (g : Int) (l : List Row) : List Row := l.filter fun r => !isGoal g r
def turnW (R : List (Int × Int)) (g : Int) (st : List Way × List Row) : List Way × List Row := (st.1 ++ goalsOf g (candsAll R st.2), restOf g (candsAll R st.2))
def iterW (R : List (Int × Int)) (g : Int) : Nat → List Way × List Row → List Way × List Row
  | 0, st => st
  | k + 1, st => turnW R g (iterW R g k st)
def startW (s : Int) : List Way × List Row := ([], [([], [s])])
def rawW (n : Nat) (R : List (Int × Int)) (s g : Int) : List Way := (iterW R g n (startW s)).1
theorem cands_nil (R : List (Int × Int)) : candsAll R [] = [] := rfl
theorem turn_done (R : List (Int × Int)) (g : Int) {st : List Way × List Row} (h : st.2 = []) : turnW R g st = st := by
  obtain ⟨f, r⟩ := st
  simp only at h
  subst h
  unfold turnW
  simp [candsAll, goalsOf, restOf]
theorem iter_done (R : List (Int × Int)) (g : Int) {st : List Way × List Row} : ∀ {j k : Nat}, (iterW R g j st).2 = [] → j ≤ k → iterW R g k st = iterW R g j st
  | j, k, h, hk => by
    induction k with
    | zero =>
      have : j = 0 := by omega
      subst this
      rfl
    | succ k ih =>
      by_cases e : j = k + 1
      · subst e; rfl
      · have q := ih (by omega)
        show turnW R g (iterW R g k st) = _
        rw [q]
        exact turn_done R g h
/-- what holds of a row -/
structure RowOk (n : Nat) (R : List (Int × Int)) (s : Int) (row : Row) : Prop where
  len : row.2.length = row.1.length + 1
  nd : row.2.Nodup
  rng : ∀ x ∈ row.2, 0 ≤ x ∧ x < (n : Int)
  use : ∀ i ∈ row.1, ∃ r, R[i]? = some r ∧ r.2 ∈ row.2
  wnd : row.1.Nodup
theorem nodup_snoc {α : Type} {l : List α} {x : α} (h : l.Nodup) (hx : x ∉ l) : (l ++ [x]).Nodup := by
  rw [List.nodup_append]
  refine ⟨h, by simp, ?_⟩
  intro a ha b hb e
  have : b = x := by simpa using hb
  subst this
  subst e
  exact hx ha
theorem mem_zipIdx {α : Type} {l : List α} {x : α} {i : Nat} (h : (x, i) ∈ l.zipIdx) : l[i]? = some x := by
  have q := List.mem_zipIdx_iff_getElem?.mp h
  simpa using q
theorem RowOk.step {n : Nat} {R : List (Int × Int)} {s : Int} {row row' : Row} (hR : ∀ r ∈ R, 0 ≤ r.2 ∧ r.2 < (n : Int)) (h : RowOk n R s row) {ri : (Int × Int) × Nat} (hri : ri ∈ R.zipIdx) (e : stepR row ri = some row') : RowOk n R s row' ∧ row'.1.length = row.1.length + 1 := by
  obtain ⟨r, i⟩ := ri
  unfold stepR at e
  split at e
  · rename_i hc
    obtain ⟨h1, h2⟩ := hc
    have e' := Option.some.inj e
    subst e'
    have hi := mem_zipIdx hri
    have hr : r ∈ R := List.mem_of_getElem? hi
    refine ⟨⟨by simp [h.len], nodup_snoc h.nd h2, fun x hx => ?_, fun j hj => ?_, nodup_snoc h.wnd fun hm => ?_⟩, by simp⟩
    · rcases List.mem_append.mp hx with z | z
      · exact h.rng x z
      · have : x = r.2 := by simpa using z
        rw [this]; exact hR r hr
    · rcases List.mem_append.mp hj with z | z
      · obtain ⟨q, e1, e2⟩ := h.use j z
        exact ⟨q, e1, List.mem_append_left _ e2⟩
      · have : j = i := by simpa using z
        rw [this]
        exact ⟨r, hi, by simp⟩
    · obtain ⟨q, e1, e2⟩ := h.use i hm
      rw [hi] at e1
      have : r = q := Option.some.inj e1
      rw [← this] at e2
      exact h2 e2
  · cases e
theorem RowOk.start {n : Nat} {R : List (Int × Int)} {s : Int} (h0 : 0 ≤ s) (h1 : s < (n : Int)) : RowOk n R s ([], [s]) :=
  ⟨rfl, by simp, fun x hx => by have : x = s := by simpa using hx
                                rw [this]; exact ⟨h0, h1⟩, fun i hi => by simp at hi, by simp⟩
theorem mem_cands {R : List (Int × Int)} {rows : List Row} {row' : Row} (h : row' ∈ candsAll R rows) : ∃ row ∈ rows, ∃ ri ∈ R.zipIdx, stepR row ri = some row' := by
  unfold candsAll at h
  obtain ⟨row, h1, h2⟩ := List.mem_flatMap.mp h
  unfold cands at h2
  obtain ⟨ri, h3, h4⟩ := List.mem_filterMap.mp h2
  exact ⟨row, h1, ri, h3, h4⟩
/-- a list of unlike numbers below n is no longer than n -/
theorem nodup_le : ∀ {n : Nat} {l : List Int}, l.Nodup → (∀ x ∈ l, 0 ≤ x ∧ x < (n : Int)) → l.length ≤ n
  | 0, [], _, _ => Nat.le_refl _
  | 0, x :: l, _, h => by
    have q := h x (by simp)
    omega
  | n + 1, l, hn, h => by
    by_cases hm : ((n : Nat) : Int) ∈ l
    · have e : (l.erase (n : Int)).length = l.length - 1 := List.length_erase_of_mem hm
      have hl : 0 < l.length := List.length_pos_of_mem hm
      have q := nodup_le (n := n) (l := l.erase (n : Int)) (hn.erase _) fun x hx => by
        have h1 := (List.Nodup.mem_erase_iff hn).mp hx
        have h2 := h x h1.2
        have h3 : x ≠ (n : Int) := h1.1
        omega
      omega
    · have q := nodup_le (n := n) hn fun x hx => by
        have h2 := h x hx
        have h3 : x ≠ (n : Int) := fun z => hm (z ▸ hx)
        omega
      omega
structure WInv (n : Nat) (R : List (Int × Int)) (s : Int) (k : Nat) (st : List Way × List Row) : Prop where
  rows : ∀ row ∈ st.2, RowOk n R s row ∧ row.1.length = k
  found : ∀ w ∈ st.1, w ≠ [] ∧ w.Nodup ∧ ∀ i ∈ w, i < R.length
theorem winv {n : Nat} {R : List (Int × Int)} {s g : Int} (hR : ∀ r ∈ R, 0 ≤ r.2 ∧ r.2 < (n : Int)) (h0 : 0 ≤ s) (h1 : s < (n : Int)) : ∀ k, WInv n R s k (iterW R g k (startW s))
  | 0 => ⟨fun row hr => by
      have : row = ([], [s]) := by simpa [iterW, startW] using hr
      rw [this]; exact ⟨RowOk.start h0 h1, rfl⟩, fun w hw => by simp [iterW, startW] at hw⟩
  | k + 1 => by
    have ih := winv (g := g) hR h0 h1 k
    have key : ∀ row' ∈ candsAll R (iterW R g k (startW s)).2, RowOk n R s row' ∧ row'.1.length = k + 1 := fun row' hr => by
      obtain ⟨row, h2, ri, h3, h4⟩ := mem_cands hr
      obtain ⟨ok, hl⟩ := ih.rows row h2
      obtain ⟨ok', hl'⟩ := ok.step hR h3 h4
      exact ⟨ok', by omega⟩
    refine ⟨fun row hr => ?_, fun w hw => ?_⟩
    · have hr' : row ∈ restOf g (candsAll R (iterW R g k (startW s)).2) := hr
      exact key row (List.mem_filter.mp hr').1
    · have hw' : w ∈ (iterW R g k (startW s)).1 ++ goalsOf g (candsAll R (iterW R g k (startW s)).2) := hw
      rcases List.mem_append.mp hw' with z | z
      · exact ih.found w z
      · unfold goalsOf at z
        obtain ⟨row, h2, rfl⟩ := List.mem_map.mp z
        obtain ⟨ok, hl⟩ := key row (List.mem_filter.mp h2).1
        refine ⟨fun q => by rw [q] at hl; simp at hl, ok.wnd, fun i hi => ?_⟩
        obtain ⟨r, e, _⟩ := ok.use i hi
        obtain ⟨q, _⟩ := List.getElem?_eq_some_iff.mp e
        exact q
/-- behind n turns no row is left -/
theorem rows_out {n : Nat} {R : List (Int × Int)} {s g : Int} (hR : ∀ r ∈ R, 0 ≤ r.2 ∧ r.2 < (n : Int)) (h0 : 0 ≤ s) (h1 : s < (n : Int)) : (iterW R g n (startW s)).2 = [] := by
  have w := winv (g := g) hR h0 h1 n
  cases e : (iterW R g n (startW s)).2 with
  | nil => rfl
  | cons row r =>
    obtain ⟨ok, hl⟩ := w.rows row (by rw [e]; simp)
    have := nodup_le ok.nd ok.rng
    have := ok.len
    omega
theorem raw_of {n : Nat} {R : List (Int × Int)} {s g : Int} (hR : ∀ r ∈ R, 0 ≤ r.2 ∧ r.2 < (n : Int)) (h0 : 0 ≤ s) (h1 : s < (n : Int)) {k : Nat} (h : (iterW R g k (startW s)).2 = []) : (iterW R g k (startW s)).1 = rawW n R s g := by
  unfold rawW
  by_cases hk : k ≤ n
  · rw [iter_done R g h hk]
  · have h2 := rows_out (g := g) hR h0 h1
    rw [iter_done R g h2 (by omega)]
theorem cands_len (R : List (Int × Int)) (row : Row) : (cands R row).length ≤ R.length := by
  unfold cands
  have q := List.length_filterMap_le (stepR row) R.zipIdx
  simpa using q
theorem candsAll_len (R : List (Int × Int)) : ∀ rows : List Row, (candsAll R rows).length ≤ rows.length * R.length
  | [] => by simp [candsAll]
  | r :: rows => by
    have ih := candsAll_len R rows
    have h := cands_len R r
    have e : candsAll R (r :: rows) = cands R r ++ candsAll R rows := by simp [candsAll]
    rw [e, List.length_append, List.length_cons, Nat.succ_mul]
    omega
/-- sizes: rows at most m ^ k, found at most k * m ^ k -/
theorem iter_len {R : List (Int × Int)} {g s : Int} {m : Nat} (hm : R.length ≤ m) (h1 : 1 ≤ m) : ∀ k, (iterW R g k (startW s)).2.length ≤ m ^ k ∧ (iterW R g k (startW s)).1.length ≤ k * m ^ k
  | 0 => by simp [iterW, startW]
  | k + 1 => by
    obtain ⟨a, b⟩ := iter_len (s := s) (g := g) hm h1 k
    have c : (candsAll R (iterW R g k (startW s)).2).length ≤ m ^ (k + 1) := by
      refine Nat.le_trans (candsAll_len R _) ?_
      rw [Nat.pow_succ]
      exact Nat.mul_le_mul a hm
    have f1 : (restOf g (candsAll R (iterW R g k (startW s)).2)).length ≤ (candsAll R (iterW R g k (startW s)).2).length := List.length_filter_le ..
    have f2 : (goalsOf g (candsAll R (iterW R g k (startW s)).2)).length ≤ (candsAll R (iterW R g k (startW s)).2).length := by
      unfold goalsOf
      rw [List.length_map]
      exact List.length_filter_le ..
    refine ⟨Nat.le_trans f1 c, ?_⟩
    show ((iterW R g k (startW s)).1 ++ goalsOf g (candsAll R (iterW R g k (startW s)).2)).length ≤ (k + 1) * m ^ (k + 1)
    rw [List.length_append, Nat.succ_mul]
    have d : k * m ^ k ≤ k * m ^ (k + 1) := Nat.mul_le_mul_left _ (Nat.pow_le_pow_right h1 (Nat.le_succ _))
    omega
/-! ### states -/
def allSt (Ws : List (List Way)) : List (List Way) := Ws.foldl (fun rows ways => rows.flatMap fun row => ways.map fun w => row ++ [w]) [[]]
def stepS (rows : List (List Way)) (ways : List Way) : List (List Way) := rows.flatMap fun row => ways.map fun w => row ++ [w]
theorem allSt_snoc (Ws : List (List Way)) (ways : List Way) : allSt (Ws ++ [ways]) = stepS (allSt Ws) ways := by
  unfold allSt
  rw [List.foldl_append]
  rfl
/-- S picks one of each -/
def Picks (Ws : List (List Way)) (S : List Way) : Prop := S.length = Ws.length ∧ ∀ (i : Nat) (ways : List Way) (w : Way), Ws[i]? = some ways → S[i]? = some w → w ∈ ways
theorem mem_allSt_rev {Ws : List (List Way)} : ∀ {Vs : List (List Way)} {S : List Way}, Vs = Ws.reverse → (S ∈ allSt Ws ↔ Picks Ws S) := by
  intro Vs
  induction Vs generalizing Ws with
  | nil =>
    intro S e
    have : Ws = [] := by simpa using e.symm
    subst this
    unfold allSt Picks
    constructor
    · intro h
      have : S = [] := by simpa using h
      subst this
      exact ⟨rfl, fun i ways w h => by simp at h⟩
    · intro h
      have : S = [] := List.length_eq_zero_iff.mp h.1
      simp [this]
  | cons ways Vs ih =>
    intro S e
    have e2 : Ws = Vs.reverse ++ [ways] := by
      have := congrArg List.reverse e
      simpa using this.symm
    subst e2
    have ih' := fun S => ih (Ws := Vs.reverse) (S := S) (by simp)
    rw [allSt_snoc]
    unfold stepS
    rw [List.mem_flatMap]
    constructor
    · rintro ⟨row, h1, h2⟩
      obtain ⟨w, hw, rfl⟩ := List.mem_map.mp h2
      obtain ⟨p1, p2⟩ := (ih' row).mp h1
      refine ⟨by simp [p1], fun i vs v hv hs => ?_⟩
      by_cases hi : i < Vs.reverse.length
      · rw [List.getElem?_append_left hi] at hv
        rw [List.getElem?_append_left (by rw [p1]; exact hi)] at hs
        exact p2 i vs v hv hs
      · rw [List.getElem?_append_right (by omega)] at hv
        rw [List.getElem?_append_right (by rw [p1]; omega), p1] at hs
        cases q : i - Vs.reverse.length with
        | zero =>
          rw [q] at hv hs
          have e1 : ways = vs := by simpa using hv
          have e2 : w = v := by simpa using hs
          rw [← e1, ← e2]; exact hw
        | succ j =>
          rw [q] at hv
          simp at hv
    · rintro ⟨p1, p2⟩
      have hl : S.length = Vs.reverse.length + 1 := by simpa using p1
      have hne : S ≠ [] := by
        intro z
        rw [z] at hl
        simp at hl
      have es : S = S.dropLast ++ [S.getLast hne] := (List.dropLast_concat_getLast hne).symm
      have hd : S.dropLast.length = Vs.reverse.length := by simp [hl]
      refine ⟨S.dropLast, (ih' _).mpr ⟨hd, fun i vs v hv hs => ?_⟩, List.mem_map.mpr ⟨S.getLast hne, ?_, es.symm⟩⟩
      · obtain ⟨hi, _⟩ := List.getElem?_eq_some_iff.mp hv
        refine p2 i vs v (by rw [List.getElem?_append_left hi]; exact hv) ?_
        rw [es, List.getElem?_append_left (by omega)]
        exact hs
      · refine p2 Vs.reverse.length ways _ (by simp) ?_
        conv => lhs; rw [es]
        rw [List.getElem?_append_right (by omega), hd]
        simp
theorem mem_allSt {Ws : List (List Way)} {S : List Way} : S ∈ allSt Ws ↔ Picks Ws S := mem_allSt_rev (Vs := Ws.reverse) rfl
theorem stepS_len (rows : List (List Way)) (ways : List Way) : (stepS rows ways).length = rows.length * ways.length := by
  unfold stepS
  induction rows with
  | nil => simp
  | cons r rows ih =>
    rw [List.flatMap_cons, List.length_append, ih, List.length_map, List.length_cons, Nat.succ_mul]
    omega
theorem allSt_len {m : Nat} (h1 : 1 ≤ m) : ∀ (Ws : List (List Way)), (∀ ways ∈ Ws, ways.length ≤ m) → (allSt Ws).length ≤ m ^ Ws.length := by
  have key : ∀ (Vs Ws : List (List Way)), Vs = Ws.reverse → (∀ ways ∈ Ws, ways.length ≤ m) → (allSt Ws).length ≤ m ^ Ws.length := by
    intro Vs
    induction Vs with
    | nil =>
      intro Ws e _
      have : Ws = [] := by simpa using e.symm
      subst this
      simp [allSt]
    | cons ways Vs ih =>
      intro Ws e h
      have e2 : Ws = Vs.reverse ++ [ways] := by
        have := congrArg List.reverse e
        simpa using this.symm
      subst e2
      rw [allSt_snoc, stepS_len, List.length_append, Nat.pow_add]
      refine Nat.mul_le_mul (ih Vs.reverse (by simp) fun w hw => h w (List.mem_append_left _ hw)) ?_
      simpa using h ways (by simp)
  exact fun Ws h => key Ws.reverse Ws rfl h
end Tr

/-! Times, potentials, prices. -/
namespace Tr
open PySem
def cnt (i : Nat) (S : List Way) : Nat := S.countP fun w => decide (i ∈ w)
def timeAt (C : List (List Int)) (S : List Way) (w : Way) : Int := (w.map fun i => (C.getD i []).getD (cnt i S - 1) 0).sum
def timeOf (C : List (List Int)) (S : List Way) (p : Nat) : Int := timeAt C S (S.getD p [])
def timesOf (C : List (List Int)) (S : List Way) : List Int := (List.range S.length).map (timeOf C S)
def totalOf (C : List (List Int)) (S : List Way) : Int := (timesOf C S).sum
def potOf (C : List (List Int)) (S : List Way) : Int := ((List.range C.length).map fun i => ((C.getD i []).take (cnt i S)).sum).sum
/-- ways as they are in nets of m roads -/
def WaysOk (m : Nat) (S : List Way) : Prop := ∀ w ∈ S, w.Nodup ∧ ∀ i ∈ w, i < m
/-! ### sums -/
theorem sum_add {α : Type} (f g : α → Int) : ∀ l : List α, (l.map fun x => f x + g x).sum = (l.map f).sum + (l.map g).sum
  | [] => rfl
  | x :: l => by
    simp only [List.map_cons, List.sum_cons]
    rw [sum_add f g l]
    omega
theorem sum_congr {α : Type} {f g : α → Int} {l : List α} (h : ∀ x ∈ l, f x = g x) : (l.map f).sum = (l.map g).sum := by
  rw [List.map_congr_left h]
theorem sum_le {α : Type} {f g : α → Int} : ∀ {l : List α}, (∀ x ∈ l, f x ≤ g x) → (l.map f).sum ≤ (l.map g).sum
  | [], _ => Int.le_refl _
  | x :: l, h => by
    have h1 := h x (by simp)
    have h2 := sum_le (l := l) fun y hy => h y (List.mem_cons_of_mem _ hy)
    simp only [List.map_cons, List.sum_cons]
    omega
theorem sum_zero {α : Type} : ∀ l : List α, (l.map fun _ => (0 : Int)).sum = 0
  | [] => rfl
  | x :: l => by
    simp only [List.map_cons, List.sum_cons]
    rw [sum_zero l]
    rfl
theorem sum_mul {α : Type} (k : Int) (f : α → Int) : ∀ l : List α, (l.map fun x => k * f x).sum = k * (l.map f).sum
  | [] => by simp
  | x :: l => by
    simp only [List.map_cons, List.sum_cons]
    rw [sum_mul k f l, Int.mul_add]
theorem sum_pick (f : Nat → Int) (a : Nat) : ∀ m : Nat, ((List.range m).map fun i => if i = a then f i else 0).sum = if a < m then f a else 0
  | 0 => by simp
  | m + 1 => by
    rw [List.range_succ, List.map_append, List.sum_append, sum_pick f a m]
    simp only [List.map_cons, List.map_nil, List.sum_cons, List.sum_nil]
    by_cases h1 : a < m
    · rw [if_pos h1, if_pos (show a < m + 1 by omega), if_neg (show ¬ m = a by omega)]
      omega
    · rw [if_neg h1]
      by_cases h2 : m = a
      · subst h2
        rw [if_pos rfl, if_pos (Nat.lt_succ_self _)]
        omega
      · rw [if_neg h2, if_neg (show ¬ a < m + 1 by omega)]
        omega
/-- over a way, and over all roads -/
theorem sum_way {m : Nat} (f : Nat → Int) : ∀ {w : Way}, w.Nodup → (∀ i ∈ w, i < m) → (w.map f).sum = ((List.range m).map fun i => if i ∈ w then f i else 0).sum
  | [], _, _ => by simp [sum_zero]
  | a :: w, hn, hm => by
    have hn' := List.nodup_cons.mp hn
    have ih := sum_way f (w := w) hn'.2 fun i hi => hm i (List.mem_cons_of_mem _ hi)
    have ha := hm a (by simp)
    rw [List.map_cons, List.sum_cons, ih]
    have e : ((List.range m).map fun i => if i ∈ a :: w then f i else 0).sum = ((List.range m).map fun i => (if i = a then f i else 0) + (if i ∈ w then f i else 0)).sum := by
      refine sum_congr fun i _ => ?_
      by_cases h1 : i = a
      · subst h1
        simp [hn'.1]
      · simp [h1]
    rw [e, sum_add, sum_pick, if_pos ha]
theorem cnt_cons (i : Nat) (w : Way) (S : List Way) : cnt i (w :: S) = cnt i S + if i ∈ w then 1 else 0 := by
  unfold cnt
  rw [List.countP_cons]
  simp
/-- over all ways of a state, and over all roads -/
theorem sum_state {m : Nat} (f : Nat → Int) : ∀ {S : List Way}, WaysOk m S → (S.map fun w => (w.map f).sum).sum = ((List.range m).map fun i => (cnt i S : Int) * f i).sum
  | [], _ => by simp [cnt, sum_zero]
  | w :: S, h => by
    have hw := h w (by simp)
    have ih := sum_state f (S := S) fun v hv => h v (List.mem_cons_of_mem _ hv)
    rw [List.map_cons, List.sum_cons, ih, sum_way f hw.1 hw.2, ← sum_add]
    refine sum_congr fun i _ => ?_
    rw [cnt_cons]
    by_cases hi : i ∈ w
    · simp only [if_pos hi]
      rw [Int.natCast_add, Int.add_mul]
      omega
    · simp only [if_neg hi]
      simp
/-! ### one player apart -/
theorem cnt_erase (i : Nat) : ∀ {S : List Way} {p : Nat} {w : Way}, S[p]? = some w → cnt i S = cnt i (S.eraseIdx p) + if i ∈ w then 1 else 0
  | [], _, _, h => by simp at h
  | v :: S, 0, w, h => by
    have e : v = w := by simpa using h
    subst e
    rw [cnt_cons]
    rfl
  | v :: S, p + 1, w, h => by
    have ih := cnt_erase i (S := S) (p := p) (w := w) (by simpa using h)
    rw [cnt_cons, ih]
    show _ = cnt i (v :: S.eraseIdx p) + _
    rw [cnt_cons]
    omega
theorem cnt_le (i : Nat) (S : List Way) : cnt i S ≤ S.length := List.countP_le_length ..
theorem set_erase {α : Type} : ∀ (S : List α) (p : Nat) (w : α), (S.set p w).eraseIdx p = S.eraseIdx p
  | [], _, _ => rfl
  | _ :: _, 0, _ => rfl
  | v :: S, p + 1, w => by
    show v :: (S.set p w).eraseIdx p = v :: S.eraseIdx p
    rw [set_erase S p w]
/-- the time of a player, by the others -/
theorem timeOf_others {C : List (List Int)} {S : List Way} {p : Nat} {w : Way} (h : S[p]? = some w) : timeOf C S p = (w.map fun i => (C.getD i []).getD (cnt i (S.eraseIdx p)) 0).sum := by
  unfold timeOf timeAt
  have e : S.getD p [] = w := by rw [List.getD_eq_getElem?_getD, h]; rfl
  rw [e]
  refine sum_congr fun i hi => ?_
  rw [cnt_erase i h, if_pos hi]
  rfl
theorem take_one {l : List Int} {k : Nat} (h : k < l.length) : (l.take (k + 1)).sum = (l.take k).sum + l.getD k 0 := by
  rw [List.take_succ, List.sum_append, List.getElem?_eq_getElem h, List.getD_eq_getElem?_getD, List.getElem?_eq_getElem h]
  simp
/-- Rosenthal: the potential is what it would be without the player, and the player's time -/
theorem pot_others {C : List (List Int)} {S : List Way} {p : Nat} {w : Way} (h : S[p]? = some w) (hw : w.Nodup) (hm : ∀ i ∈ w, i < C.length) (hC : ∀ c ∈ C, S.length ≤ c.length) :
    potOf C S = ((List.range C.length).map fun i => ((C.getD i []).take (cnt i (S.eraseIdx p))).sum).sum + timeOf C S p := by
  rw [timeOf_others h, sum_way _ hw hm, ← sum_add]
  unfold potOf
  refine sum_congr fun i hi => ?_
  have hi' := List.mem_range.mp hi
  rw [cnt_erase i h]
  by_cases hiw : i ∈ w
  · rw [if_pos hiw, if_pos hiw]
    have hp : p < S.length := by
      obtain ⟨q, _⟩ := List.getElem?_eq_some_iff.mp h
      exact q
    have h1 : cnt i (S.eraseIdx p) < S.length := by
      have q1 := cnt_le i (S.eraseIdx p)
      have q2 : (S.eraseIdx p).length = S.length - 1 := List.length_eraseIdx_of_lt hp
      omega
    have h2 : S.length ≤ (C.getD i []).length := by
      rw [List.getD_eq_getElem?_getD, List.getElem?_eq_getElem hi']
      exact hC _ (List.getElem_mem hi')
    exact take_one (by omega)
  · rw [if_neg hiw, if_neg hiw]
    simp
theorem pot_step {C : List (List Int)} {S : List Way} {p : Nat} {w v : Way} (h : S[p]? = some v) (hv : v.Nodup) (hvm : ∀ i ∈ v, i < C.length) (hw : w.Nodup) (hwm : ∀ i ∈ w, i < C.length) (hC : ∀ c ∈ C, S.length ≤ c.length) :
    potOf C (S.set p w) - potOf C S = timeOf C (S.set p w) p - timeOf C S p := by
  have hp : p < S.length := by
    obtain ⟨q, _⟩ := List.getElem?_eq_some_iff.mp h
    exact q
  have h' : (S.set p w)[p]? = some w := by rw [List.getElem?_set_self hp]
  rw [pot_others h hv hvm hC, pot_others h' hw hwm (by rw [List.length_set]; exact hC), set_erase]
  omega
/-! ### straight costs -/
/-- tables a * k + b for k = 1 .. n -/
def tableOf (n : Nat) (ab : Int × Int) : List Int := (List.range n).map fun (k : Nat) => ab.1 * ((k : Int) + 1) + ab.2
theorem tableOf_len (n : Nat) (ab : Int × Int) : (tableOf n ab).length = n := by simp [tableOf]
theorem tableOf_get {n k : Nat} {ab : Int × Int} (h : k < n) : (tableOf n ab).getD k 0 = ab.1 * ((k : Int) + 1) + ab.2 := by
  unfold tableOf
  rw [List.getD_eq_getElem?_getD, List.getElem?_map, List.getElem?_range h]
  rfl
theorem tables_get {n i : Nat} {Ls : List (Int × Int)} (h : i < Ls.length) : (Ls.map (tableOf n)).getD i [] = tableOf n (Ls.getD i (0, 0)) := by
  rw [List.getD_eq_getElem?_getD, List.getElem?_map, List.getElem?_eq_getElem h, List.getD_eq_getElem?_getD, List.getElem?_eq_getElem h]
  rfl
theorem tri_sum (a b : Int) : ∀ k : Nat, 2 * ((List.range k).map fun (j : Nat) => a * ((j : Int) + 1) + b).sum = a * ((k : Int) * k + k) + 2 * (b * k)
  | 0 => by simp
  | k + 1 => by
    rw [List.range_succ, List.map_append, List.sum_append, Int.mul_add, tri_sum a b k]
    simp only [List.map_cons, List.map_nil, List.sum_cons, List.sum_nil]
    have e1 : ((k + 1 : Nat) : Int) = (k : Int) + 1 := by omega
    rw [e1]
    have e2 : a * (((k : Int) + 1) * ((k : Int) + 1) + ((k : Int) + 1)) = a * ((k : Int) * k + k) + 2 * (a * ((k : Int) + 1)) := by
      have : ((k : Int) + 1) * ((k : Int) + 1) + ((k : Int) + 1) = ((k : Int) * k + k) + 2 * ((k : Int) + 1) := by
        rw [Int.add_mul, Int.mul_add, Int.one_mul, Int.mul_one]
        omega
      rw [this, Int.mul_add]
      rw [show a * (2 * ((k : Int) + 1)) = 2 * (a * ((k : Int) + 1)) by rw [← Int.mul_assoc, Int.mul_comm a 2, Int.mul_assoc]]
    have e3 : b * ((k : Int) + 1) = b * k + b := by rw [Int.mul_add, Int.mul_one]
    rw [e2, e3]
    omega
structure Lin (n : Nat) (Ls : List (Int × Int)) (S : List Way) : Prop where
  len : S.length = n
  ok : WaysOk Ls.length S
section
variable {n : Nat} {Ls : List (Int × Int)} {S O : List Way}
theorem total_state (C : List (List Int)) (S : List Way) : totalOf C S = (S.map fun w => (w.map fun i => (C.getD i []).getD (cnt i S - 1) 0).sum).sum := by
  unfold totalOf timesOf
  congr 1
  refine List.ext_getElem (by simp) fun i h1 h2 => ?_
  have hi : i < S.length := by simpa using h2
  simp only [List.getElem_map, List.getElem_range]
  unfold timeOf timeAt
  rw [List.getD_eq_getElem?_getD, List.getElem?_eq_getElem hi]
  rfl
theorem total_lin (h : Lin n Ls S) : totalOf (Ls.map (tableOf n)) S = ((List.range Ls.length).map fun i => (Ls.getD i (0, 0)).1 * ((cnt i S : Int) * cnt i S) + (Ls.getD i (0, 0)).2 * cnt i S).sum := by
  rw [total_state, sum_state _ h.ok]
  refine sum_congr fun i hi => ?_
  have hi' := List.mem_range.mp hi
  rw [tables_get hi']
  by_cases h0 : cnt i S = 0
  · rw [h0]; simp
  · have hl := cnt_le i S
    have hn := h.len
    rw [tableOf_get (by omega)]
    have e : ((cnt i S - 1 : Nat) : Int) + 1 = cnt i S := by omega
    rw [e, Int.mul_add]
    congr 1
    · rw [← Int.mul_assoc, Int.mul_comm (cnt i S : Int) (Ls.getD i (0, 0)).1, Int.mul_assoc]
    · rw [Int.mul_comm]
theorem pot_lin (h : Lin n Ls S) : 2 * potOf (Ls.map (tableOf n)) S = ((List.range Ls.length).map fun i => (Ls.getD i (0, 0)).1 * ((cnt i S : Int) * cnt i S + cnt i S) + 2 * ((Ls.getD i (0, 0)).2 * cnt i S)).sum := by
  unfold potOf
  rw [← sum_mul, List.length_map]
  refine sum_congr fun i hi => ?_
  have hi' := List.mem_range.mp hi
  rw [tables_get hi', ← tri_sum]
  congr 2
  unfold tableOf
  have hl := cnt_le i S
  rw [← List.map_take, List.take_range, Nat.min_eq_left (by rw [h.len] at hl; exact hl)]
/-- what the players of S would have on the ways of O, at most -/
def crossOf (Ls : List (Int × Int)) (S O : List Way) : Int := ((List.range Ls.length).map fun i => (cnt i O : Int) * ((Ls.getD i (0, 0)).1 * ((cnt i S : Int) + 1) + (Ls.getD i (0, 0)).2)).sum
theorem cross_le (h : Lin n Ls S) (hO : Lin n Ls O) (ha : ∀ l ∈ Ls, 0 ≤ l.1) (hst : ∀ p w, O[p]? = some w → timeOf (Ls.map (tableOf n)) S p ≤ timeOf (Ls.map (tableOf n)) (S.set p w) p) : totalOf (Ls.map (tableOf n)) S ≤ crossOf Ls S O := by
  unfold crossOf
  rw [← sum_state (fun i => (Ls.getD i (0, 0)).1 * ((cnt i S : Int) + 1) + (Ls.getD i (0, 0)).2) hO.ok]
  have e : (O.map fun w => (w.map fun i => (Ls.getD i (0, 0)).1 * ((cnt i S : Int) + 1) + (Ls.getD i (0, 0)).2).sum) = (List.range S.length).map fun p => ((O.getD p []).map fun i => (Ls.getD i (0, 0)).1 * ((cnt i S : Int) + 1) + (Ls.getD i (0, 0)).2).sum := by
    refine List.ext_getElem (by simp [h.len, hO.len]) fun p h1 h2 => ?_
    have hp : p < O.length := by simpa using h1
    simp only [List.getElem_map, List.getElem_range]
    rw [List.getD_eq_getElem?_getD, List.getElem?_eq_getElem hp]
    rfl
  rw [e]
  unfold totalOf timesOf
  refine sum_le fun p hp => ?_
  have hp' : p < S.length := List.mem_range.mp hp
  have hpO : p < O.length := by rw [hO.len, ← h.len]; exact hp'
  have eO : O[p]? = some O[p] := List.getElem?_eq_getElem hpO
  refine Int.le_trans (hst p _ eO) ?_
  have hset : (S.set p O[p])[p]? = some O[p] := by rw [List.getElem?_set_self hp']
  rw [timeOf_others hset, set_erase]
  have eD : O.getD p [] = O[p] := by rw [List.getD_eq_getElem?_getD, eO]; rfl
  rw [eD]
  refine sum_le fun i hi => ?_
  have hw := hO.ok O[p] (List.getElem_mem hpO)
  have hil := hw.2 i hi
  rw [tables_get hil]
  have q1 := cnt_le i (S.eraseIdx p)
  have q2 : (S.eraseIdx p).length = S.length - 1 := List.length_eraseIdx_of_lt hp'
  have hlen := h.len
  rw [tableOf_get (by omega)]
  have q3 : cnt i (S.eraseIdx p) ≤ cnt i S := by
    rw [cnt_erase i (List.getElem?_eq_getElem hp')]
    exact Nat.le_add_right _ _
  have h0 : 0 ≤ (Ls.getD i (0, 0)).1 := by
    rw [List.getD_eq_getElem?_getD, List.getElem?_eq_getElem hil]
    exact ha _ (List.getElem_mem hil)
  have := Int.mul_le_mul_of_nonneg_left (show (cnt i (S.eraseIdx p) : Int) + 1 ≤ (cnt i S : Int) + 1 by omega) h0
  omega
end
end Tr

/-! Prices of standing. -/
namespace Tr
open PySem
theorem small3 {f : Nat} (h : f ≤ 3) : f = 0 ∨ f = 1 ∨ f = 2 ∨ f = 3 := by omega
theorem term_poa {a b : Int} {f g : Nat} (ha : 0 ≤ a) (hb : 0 ≤ b) (hf : f ≤ 3) (hg : g ≤ 3) :
    3 * ((g : Int) * (a * ((f : Int) + 1) + b)) ≤ 5 * (a * ((g : Int) * g) + b * g) + (a * ((f : Int) * f) + b * f) := by
  rcases small3 hf with rfl | rfl | rfl | rfl <;> rcases small3 hg with rfl | rfl | rfl | rfl <;> (simp; try omega)
theorem term_pos {a b : Int} {f g : Nat} (ha : 0 ≤ a) (hb : 0 ≤ b) (hf : f ≤ 3) (hg : g ≤ 3) :
    10 * (a * ((f : Int) * f) + b * f) + 5 * ((a * ((g : Int) * g + g) + 2 * (b * g)) + (g : Int) * (a * ((f : Int) + 1) + b)) ≤ 16 * (a * ((g : Int) * g) + b * g) + 5 * ((a * ((f : Int) * f + f) + 2 * (b * f)) + (a * ((f : Int) * f) + b * f)) := by
  rcases small3 hf with rfl | rfl | rfl | rfl <;> rcases small3 hg with rfl | rfl | rfl | rfl <;> (simp; try omega)
section
variable {n : Nat} {Ls : List (Int × Int)} {S O : List Way}
theorem poa (h : Lin n Ls S) (hO : Lin n Ls O) (hn : n ≤ 3) (hL : ∀ l ∈ Ls, 0 ≤ l.1 ∧ 0 ≤ l.2) (hst : ∀ p w, O[p]? = some w → timeOf (Ls.map (tableOf n)) S p ≤ timeOf (Ls.map (tableOf n)) (S.set p w) p) :
    2 * totalOf (Ls.map (tableOf n)) S ≤ 5 * totalOf (Ls.map (tableOf n)) O := by
  have h1 := cross_le h hO (fun l hl => (hL l hl).1) hst
  have h2 : 3 * crossOf Ls S O ≤ 5 * totalOf (Ls.map (tableOf n)) O + totalOf (Ls.map (tableOf n)) S := by
    unfold crossOf
    rw [total_lin h, total_lin hO, ← sum_mul, ← sum_mul, ← sum_add]
    refine sum_le fun i hi => ?_
    have hi' := List.mem_range.mp hi
    have q : Ls.getD i (0, 0) ∈ Ls := by
      rw [List.getD_eq_getElem?_getD, List.getElem?_eq_getElem hi']
      exact List.getElem_mem hi'
    have c1 := cnt_le i S
    have c2 := cnt_le i O
    rw [h.len] at c1
    rw [hO.len] at c2
    exact term_poa (hL _ q).1 (hL _ q).2 (by omega) (by omega)
  omega
theorem pos (h : Lin n Ls S) (hO : Lin n Ls O) (hn : n ≤ 3) (hL : ∀ l ∈ Ls, 0 ≤ l.1 ∧ 0 ≤ l.2) (hst : ∀ p w, O[p]? = some w → timeOf (Ls.map (tableOf n)) S p ≤ timeOf (Ls.map (tableOf n)) (S.set p w) p)
    (hp : potOf (Ls.map (tableOf n)) S ≤ potOf (Ls.map (tableOf n)) O) : 5 * totalOf (Ls.map (tableOf n)) S ≤ 8 * totalOf (Ls.map (tableOf n)) O := by
  have h1 := cross_le h hO (fun l hl => (hL l hl).1) hst
  have h2 : 10 * totalOf (Ls.map (tableOf n)) S + 5 * (2 * potOf (Ls.map (tableOf n)) O + crossOf Ls S O) ≤ 16 * totalOf (Ls.map (tableOf n)) O + 5 * (2 * potOf (Ls.map (tableOf n)) S + totalOf (Ls.map (tableOf n)) S) := by
    unfold crossOf
    rw [total_lin h, total_lin hO, pot_lin h, pot_lin hO, ← sum_add, ← sum_add, ← sum_mul, ← sum_mul, ← sum_mul, ← sum_mul, ← sum_add, ← sum_add]
    refine sum_le fun i hi => ?_
    have hi' := List.mem_range.mp hi
    have q : Ls.getD i (0, 0) ∈ Ls := by
      rw [List.getD_eq_getElem?_getD, List.getElem?_eq_getElem hi']
      exact List.getElem_mem hi'
    have c1 := cnt_le i S
    have c2 := cnt_le i O
    rw [h.len] at c1
    rw [hO.len] at c2
    exact term_pos (hL _ q).1 (hL _ q).2 (by omega) (by omega)
  omega
end
/-! ### steps, standing -/
def stepsOf (C : List (List Int)) (Ws : List (List Way)) (S : List Way) : List (Nat × Way) := Ws.zipIdx.flatMap fun wp => (wp.1.filter fun w => decide (timeOf C (S.set wp.2 w) wp.2 < timeOf C S wp.2)).map fun w => (wp.2, w)
theorem mem_steps {C : List (List Int)} {Ws : List (List Way)} {S : List Way} {p : Nat} {w : Way} : (p, w) ∈ stepsOf C Ws S ↔ ∃ ways, Ws[p]? = some ways ∧ w ∈ ways ∧ timeOf C (S.set p w) p < timeOf C S p := by
  unfold stepsOf
  rw [List.mem_flatMap]
  constructor
  · rintro ⟨⟨ways, q⟩, h1, h2⟩
    obtain ⟨v, h3, h4⟩ := List.mem_map.mp h2
    obtain ⟨rfl, rfl⟩ := Prod.mk.inj h4
    obtain ⟨h5, h6⟩ := List.mem_filter.mp h3
    exact ⟨ways, mem_zipIdx h1, h5, of_decide_eq_true h6⟩
  · rintro ⟨ways, h1, h2, h3⟩
    refine ⟨(ways, p), ?_, List.mem_map.mpr ⟨w, List.mem_filter.mpr ⟨h2, decide_eq_true h3⟩, rfl⟩⟩
    rw [List.mem_zipIdx_iff_getElem?]
    simpa using h1
def standing (C : List (List Int)) (Ws : List (List Way)) : List (List Way) := (allSt Ws).filter fun S => (stepsOf C Ws S).isEmpty
theorem picks_set {Ws : List (List Way)} {S : List Way} {p : Nat} {ways : List Way} {w : Way} (h : Picks Ws S) (hp : Ws[p]? = some ways) (hw : w ∈ ways) : Picks Ws (S.set p w) := by
  refine ⟨by rw [List.length_set]; exact h.1, fun i vs v h1 h2 => ?_⟩
  by_cases e : i = p
  · subst e
    have hl : i < S.length := by
      obtain ⟨q, _⟩ := List.getElem?_eq_some_iff.mp hp
      rw [h.1]; exact q
    rw [List.getElem?_set_self hl] at h2
    rw [hp] at h1
    rw [← Option.some.inj h1, ← Option.some.inj h2]
    exact hw
  · rw [List.getElem?_set_ne (Ne.symm e)] at h2
    exact h.2 i vs v h1 h2
structure Net (n : Nat) (Ls : List (Int × Int)) (Ws : List (List Way)) : Prop where
  n3 : n ≤ 3
  lin : ∀ l ∈ Ls, 0 ≤ l.1 ∧ 0 ≤ l.2
  len : Ws.length = n
  ok : ∀ ways ∈ Ws, ∀ w ∈ ways, w.Nodup ∧ ∀ i ∈ w, i < Ls.length
  some_ : ∀ ways ∈ Ws, ways ≠ []
section
variable {n : Nat} {Ls : List (Int × Int)} {Ws : List (List Way)}
theorem Net.linS (N : Net n Ls Ws) {S : List Way} (h : Picks Ws S) : Lin n Ls S := by
  refine ⟨by rw [h.1, N.len], fun w hw => ?_⟩
  obtain ⟨p, hp, e⟩ := List.mem_iff_getElem.mp hw
  have hp' : p < Ws.length := by rw [← h.1]; exact hp
  have q := h.2 p Ws[p] w (List.getElem?_eq_getElem hp') (by rw [List.getElem?_eq_getElem hp, e])
  exact N.ok _ (List.getElem_mem hp') w q
theorem Net.tabs (N : Net n Ls Ws) {S : List Way} (h : Picks Ws S) : ∀ c ∈ Ls.map (tableOf n), S.length ≤ c.length := by
  intro c hc
  obtain ⟨l, _, rfl⟩ := List.mem_map.mp hc
  rw [tableOf_len, h.1, N.len]
  exact Nat.le_refl _
/-- a step lowers the potential -/
theorem Net.lower (N : Net n Ls Ws) {S : List Way} (h : Picks Ws S) {p : Nat} {w : Way} (hs : (p, w) ∈ stepsOf (Ls.map (tableOf n)) Ws S) : Picks Ws (S.set p w) ∧ potOf (Ls.map (tableOf n)) (S.set p w) < potOf (Ls.map (tableOf n)) S := by
  obtain ⟨ways, h1, h2, h3⟩ := mem_steps.mp hs
  have hp : p < S.length := by
    obtain ⟨q, _⟩ := List.getElem?_eq_some_iff.mp h1
    rw [h.1]; exact q
  have L := N.linS h
  have hv := L.ok S[p] (List.getElem_mem hp)
  have hw := N.ok ways (List.mem_of_getElem? h1) w h2
  have e := pot_step (C := Ls.map (tableOf n)) (List.getElem?_eq_getElem hp) hv.1 (by rw [List.length_map]; exact hv.2) hw.1 (by rw [List.length_map]; exact hw.2) (N.tabs h)
  exact ⟨picks_set h h1 h2, by omega⟩
theorem Net.stands (N : Net n Ls Ws) {S O : List Way} (h : Picks Ws S) (hO : Picks Ws O) (hs : stepsOf (Ls.map (tableOf n)) Ws S = []) : ∀ p w, O[p]? = some w → timeOf (Ls.map (tableOf n)) S p ≤ timeOf (Ls.map (tableOf n)) (S.set p w) p := by
  intro p w hw
  have hp : p < Ws.length := by
    obtain ⟨q, _⟩ := List.getElem?_eq_some_iff.mp hw
    rw [← hO.1]; exact q
  have hm := hO.2 p Ws[p] w (List.getElem?_eq_getElem hp) hw
  refine Int.not_lt.mp fun z => ?_
  have : (p, w) ∈ stepsOf (Ls.map (tableOf n)) Ws S := mem_steps.mpr ⟨_, List.getElem?_eq_getElem hp, hm, z⟩
  rw [hs] at this
  cases this
/-- the least of a list -/
theorem exists_least {α : Type} (f : α → Int) : ∀ {l : List α}, l ≠ [] → ∃ x ∈ l, ∀ y ∈ l, f x ≤ f y
  | [x], _ => ⟨x, by simp, fun y hy => by have : y = x := by simpa using hy
                                          rw [this]; exact Int.le_refl _⟩
  | x :: z :: l, _ => by
    obtain ⟨y, h1, h2⟩ := exists_least f (l := z :: l) (by simp)
    by_cases h : f x ≤ f y
    · refine ⟨x, by simp, fun v hv => ?_⟩
      rcases List.mem_cons.mp hv with e | e
      · rw [e]; exact Int.le_refl _
      · exact Int.le_trans h (h2 v e)
    · refine ⟨y, List.mem_cons_of_mem _ h1, fun v hv => ?_⟩
      rcases List.mem_cons.mp hv with e | e
      · rw [e]; omega
      · exact h2 v e
theorem Net.some_state (N : Net n Ls Ws) : allSt Ws ≠ [] := by
  have : Picks Ws (Ws.map fun ways => ways.headD []) := by
    refine ⟨by simp, fun i ways w h1 h2 => ?_⟩
    rw [List.getElem?_map, h1] at h2
    have e : ways.headD [] = w := by simpa using h2
    have hne := N.some_ ways (List.mem_of_getElem? h1)
    cases ways with
    | nil => exact absurd rfl hne
    | cons v r =>
      have : v = w := e
      rw [this]; simp
  intro z
  have q := mem_allSt.mpr this
  rw [z] at q
  cases q
/-- the state of the least potential stands -/
theorem Net.low_stands (N : Net n Ls Ws) {L : List Way} (h : Picks Ws L) (hl : ∀ S, Picks Ws S → potOf (Ls.map (tableOf n)) L ≤ potOf (Ls.map (tableOf n)) S) : stepsOf (Ls.map (tableOf n)) Ws L = [] := by
  cases e : stepsOf (Ls.map (tableOf n)) Ws L with
  | nil => rfl
  | cons pw r =>
    obtain ⟨p, w⟩ := pw
    obtain ⟨h1, h2⟩ := N.lower h (p := p) (w := w) (by rw [e]; simp)
    have := hl _ h1
    omega
theorem mem_standing {C : List (List Int)} {S : List Way} : S ∈ standing C Ws ↔ Picks Ws S ∧ stepsOf C Ws S = [] := by
  unfold standing
  rw [List.mem_filter, mem_allSt, List.isEmpty_iff]
theorem Net.standing_ne (N : Net n Ls Ws) : standing (Ls.map (tableOf n)) Ws ≠ [] := by
  obtain ⟨L, h1, h2⟩ := exists_least (potOf (Ls.map (tableOf n))) N.some_state
  have hp := mem_allSt.mp h1
  have q : L ∈ standing (Ls.map (tableOf n)) Ws := mem_standing.mpr ⟨hp, N.low_stands hp fun S hS => h2 S (mem_allSt.mpr hS)⟩
  intro z
  rw [z] at q
  cases q
/-- the prices: t the least total, a the least and b the greatest total of those that stand -/
theorem Net.prices (N : Net n Ls Ws) {t a b : Int} (ht : (∃ O, Picks Ws O ∧ t = totalOf (Ls.map (tableOf n)) O) ∧ ∀ S, Picks Ws S → t ≤ totalOf (Ls.map (tableOf n)) S)
    (ha : (∃ S ∈ standing (Ls.map (tableOf n)) Ws, a = totalOf (Ls.map (tableOf n)) S) ∧ ∀ S ∈ standing (Ls.map (tableOf n)) Ws, a ≤ totalOf (Ls.map (tableOf n)) S)
    (hb : (∃ S ∈ standing (Ls.map (tableOf n)) Ws, b = totalOf (Ls.map (tableOf n)) S) ∧ ∀ S ∈ standing (Ls.map (tableOf n)) Ws, totalOf (Ls.map (tableOf n)) S ≤ b) :
    t ≤ a ∧ a ≤ b ∧ 2 * b ≤ 5 * t ∧ 5 * a ≤ 8 * t ∧ (n = 1 → a = t ∧ b = t) := by
  obtain ⟨⟨O, hO, eO⟩, hmin⟩ := ht
  obtain ⟨⟨A, hA, eA⟩, hal⟩ := ha
  obtain ⟨⟨B, hB, eB⟩, hbl⟩ := hb
  have pA := mem_standing.mp hA
  have pB := mem_standing.mp hB
  obtain ⟨L, h1, h2⟩ := exists_least (potOf (Ls.map (tableOf n))) N.some_state
  have hL := mem_allSt.mp h1
  have sL := N.low_stands hL fun S hS => h2 S (mem_allSt.mpr hS)
  have q1 := hmin A pA.1
  have q2 := hbl A hA
  have q3 := poa (N.linS pB.1) (N.linS hO) N.n3 N.lin (N.stands pB.1 hO pB.2)
  have q4 := pos (N.linS hL) (N.linS hO) N.n3 N.lin (N.stands hL hO sL) (h2 O (mem_allSt.mpr hO))
  have q5 := hal L (mem_standing.mpr ⟨hL, sL⟩)
  refine ⟨by omega, by omega, by omega, by omega, fun hn => ?_⟩
  have one : ∀ S, Picks Ws S → stepsOf (Ls.map (tableOf n)) Ws S = [] → totalOf (Ls.map (tableOf n)) S ≤ t := fun S hS hs => by
    have lS : S.length = 1 := by rw [hS.1, N.len, hn]
    have lO : O.length = 1 := by rw [hO.1, N.len, hn]
    match S, O, lS, lO with
    | [v], [w], _, _ =>
      have q := N.stands hS hO hs 0 w rfl
      have e1 : totalOf (Ls.map (tableOf n)) [v] = timeOf (Ls.map (tableOf n)) [v] 0 := by
        unfold totalOf timesOf
        simp
      have e2 : totalOf (Ls.map (tableOf n)) [w] = timeOf (Ls.map (tableOf n)) [w] 0 := by
        unfold totalOf timesOf
        simp
      rw [eO, e1, e2]
      exact q
  have o1 := one A pA.1 pA.2
  have o2 := one B pB.1 pB.2
  have o3 := hmin B pB.1
  omega
end
end Tr

/-! Heaps with own lists; comprehensions. -/
namespace Tr
open PySem PySem.Spec PyProof.Rows L2 GxR Gq
/-- all but what stands at L is as it was -/
structure Sx (L : List Addr) (H H' : Hp) : Prop where
  keep : ∀ b o, b ∉ L → H b = some o → (∀ ps, o ≠ .tbl ps) → H' b = some o
  tab : ∀ b, TabG H b → TabG H' b
  fr : ∀ b, H' b = none → H b = none
theorem Sx.refl (L : List Addr) (H : Hp) : Sx L H H := ⟨fun _ _ _ h _ => h, fun _ h => h, fun _ h => h⟩
theorem Sx.trans {L : List Addr} {H H1 H2 : Hp} (a : Sx L H H1) (b : Sx L H1 H2) : Sx L H H2 := ⟨fun c o hc h n => b.keep c o hc (a.keep c o hc h n) n, fun c h => b.tab c (a.tab c h), fun c h => a.fr c (b.fr c h)⟩
theorem Sm.sx {H H' : Hp} (e : Sm H H') (L : List Addr) : Sx L H H' := ⟨fun b o _ h n => e.keep b o h n, e.tab, e.fr⟩
theorem Sx.mono {L L' : List Addr} {H H' : Hp} (e : Sx L H H') (h : ∀ b ∈ L, b ∈ L') : Sx L' H H' := ⟨fun b o hb q n => e.keep b o (fun z => hb (h b z)) q n, e.tab, e.fr⟩
theorem Sx.updL {L : List Addr} {H : Hp} {p : Addr} {o : HO} (hp : p ∈ L) (h : ∀ ps, H p ≠ some (.tbl ps)) : Sx L H (upd H p o) :=
  ⟨fun b u hb q _ => by rw [upd_ne (fun z => hb (by rw [z]; exact hp))]; exact q, fun b ⟨ps, e, t⟩ => ⟨ps, by rw [upd_ne (fun z => h ps (by rw [← z]; exact e))]; exact e, t⟩, upd_fr⟩
theorem Sx.new {L : List Addr} {H : Hp} {p : Addr} {o : HO} (h : H p = none) : Sx L H (L2.upd H p o) := (Sm.upd h).sx L
theorem Sx.sm {L : List Addr} {H H' : Hp} (e : Sx L H H') (h : ∀ b ∈ L, H b = none) : Sm H H' := ⟨fun b o q n => e.keep b o (fun z => by rw [h b z] at q; cases q) q n, e.tab, e.fr⟩
theorem Sx.tk {L : List Addr} {H H' : Hp} (e : Sx L H H') (h : ∀ b ∈ L, H b = none ∨ ∃ xs, H b = some (.lst xs)) : TK H H' := fun b xs r => by
  have nb : ∀ {o : HO}, H b = some o → (∀ ys, o ≠ .lst ys) → b ∉ L := fun {o} q n z => by
    rcases h b z with e | ⟨ys, e⟩
    · rw [e] at q; cases q
    · rw [e] at q; exact n ys (Option.some.inj q).symm
  rcases r with r | ⟨u, r⟩
  · exact .inl (e.keep _ _ (nb r fun _ z => nomatch z) r fun _ z => nomatch z)
  · exact .inr ⟨u, e.keep _ _ (nb r fun _ z => nomatch z) r fun _ z => nomatch z⟩
theorem Sx.sqL {K : PySem.W.Frag} {L : List Addr} {H H' : Hp} (e : Sx L H H') {a : Addr} {xs : List V} (ha : a ∉ L) (h : SqL K H a xs) : SqL K H' a xs := by
  rcases h with (h | ⟨o, h⟩) | h
  · exact .inl (.inl (e.keep _ _ ha h fun _ z => nomatch z))
  · exact .inl (.inr ⟨o, e.keep _ _ ha h fun _ z => nomatch z⟩)
  · exact .inr h
theorem Sx.gd {tabs : List Addr} {L : List Addr} {H H' : Hp} (e : Sx L H H') (g : Gd tabs H) : Gd tabs H' := fun P hP => e.tab P (g P hP)
/-! ### comprehensions over anything that is walked -/
theorem paired_mono {α β : Type} {F G : α → β → Prop} {l : List α} {m : List β} (h : Paired F l m) (f : ∀ a b, F a b → G a b) : Paired G l m := Paired.mapP h f
theorem paired_snoc {α β : Type} {F : α → β → Prop} {a : α} {b : β} (h : F a b) : ∀ {l : List α} {m : List β}, Paired F l m → Paired F (l ++ [a]) (m ++ [b])
  | _, _, .nil => .cons h .nil
  | _, _, .cons q t => .cons q (paired_snoc h t)
theorem dpAll_paired {α : Type} {K : PySem.W.Frag} {H : Hp} {es : α → PyData} : ∀ {acc : List V} {is : List α}, Paired (fun y i => Dp K H y (es i)) acc is → DpAll K H acc (is.map es)
  | _, _, .nil => .nil
  | _, _, .cons q t => .cons q (dpAll_paired t)
theorem paired_len {α β : Type} {F : α → β → Prop} {l : List α} {m : List β} (h : Paired F l m) : l.length = m.length := Paired.length h
theorem filter_succ {pz : Nat → Bool} (i : Nat) : (List.range (i + 1)).filter pz = (List.range i).filter pz ++ if pz i = true then [i] else [] := by
  rw [List.range_succ, List.filter_append]
  simp [List.filter_cons]
theorem lc_itD {J : It} {n : Nat} {G : Hp → Prop} {Y : Nat → Hp → V → Hp → Prop} (w : Walk J n G Y) {g : TG} {tt : TT} {te : TE} {vs : List Nat} {σ : L2.St} {H1 : Hp} {D : Addr} {Qd : Hp → Prop} (hD : H1 D = none) (hn : n < sizeLine) (hG : ∀ H, Sm H1 H → G H)
    (pz : Nat → Bool) (Ok : Nat → V → Hp → Prop) (hst : ∀ (i : Nat) (y : V) (H H' : Hp), Ok i y H → (∃ l, H D = some (.lst l)) → Sx [D] H H' → Ok i y H')
    (hs : ∀ i x H H' (Nx : Hp → Prop), i < n → Sm H1 H → (∃ l, H D = some (.lst l)) → Y i H x H' →
      (pz i = true → ∀ y H4, Sm H H4 → Ok i y H4 → ∃ acc, H4 D = some (.lst acc) ∧ acc.length < sizeLine ∧ Nx (L2.upd H4 D (.lst (acc ++ [y])))) → (pz i = false → ∀ H3, Sm H H3 → Nx H3) →
      g x (wipe σ vs) H' fun σ2 H2 => wipe σ2 vs = wipe σ vs ∧ tt σ2 H2 fun b H3 =>
        if b = true then te σ2 H3 fun y H4 => ∃ acc, H4 D = some (.lst acc) ∧ acc.length < sizeLine ∧ Nx (L2.upd H4 D (.lst (acc ++ [y]))) else Nx H3)
    (hd : ∀ H acc, Sm H1 H → H D = some (.lst acc) → Paired (fun y i => Ok i y H) acc ((List.range n).filter pz) → Qd H) :
    ∃ W : Nat → Nat → Hp → Prop, (∃ m, W 0 m (upd H1 D (.lst []))) ∧ ∀ i m H, W i m H →
      (J.stop i H ∧ Qd H) ∨ (J.go i H ∧ ∃ Nx : Hp → Prop, (∀ H', Nx H' → ∃ m', m' < m ∧ W (i + 1) m' H') ∧ ∀ x H', J.yld i H x H' → g x (wipe σ vs) H' fun σ2 H2 => wipe σ2 vs = wipe σ vs ∧ tt σ2 H2 fun b H3 =>
        if b = true then te σ2 H3 fun y H4 => ∃ acc, H4 D = some (.lst acc) ∧ acc.length < sizeLine ∧ Nx (upd H4 D (.lst (acc ++ [y]))) else Nx H3) := by
  have notT : ∀ {H : Hp}, (∃ l, H D = some (.lst l)) → ∀ ps, H D ≠ some (.tbl ps) := fun {H} ⟨l, e⟩ ps z => by rw [e] at z; cases z
  have toSm : ∀ {H : Hp}, Sx [D] H1 H → Sm H1 H := fun {H} e => e.sm fun b hb => by
    have : b = D := by simpa using hb
    rw [this]; exact hD
  refine lc_it w (fun i H => Sx [D] H1 H ∧ ∃ acc, H D = some (.lst acc) ∧ Paired (fun y i => Ok i y H) acc ((List.range i).filter pz)) ?_ ?_ ?_ ?_
  · exact ⟨Sx.new hD, [], upd_same, .nil⟩
  · rintro i H _ ⟨e, _⟩
    exact hG H (toSm e)
  · rintro i x H H' hi ⟨e, acc, hacc, hp⟩ hy
    refine hs i x H H' (fun H => Sx [D] H1 H ∧ ∃ acc, H D = some (.lst acc) ∧ Paired (fun y i => Ok i y H) acc ((List.range (i + 1)).filter pz)) hi (toSm e) ⟨acc, hacc⟩ hy (fun hb y H4 s4 ok => ?_) fun hb H3 s3 => ?_
    · have hacc4 := s4.keep _ _ hacc fun _ z => nomatch z
      refine ⟨acc, hacc4, ?_, ?_⟩
      · have h1 := paired_len hp
        have h2 := List.length_filter_le pz (List.range i)
        rw [List.length_range] at h2
        omega
      · have su : Sx [D] H4 (L2.upd H4 D (.lst (acc ++ [y]))) := Sx.updL (by simp) (notT ⟨acc, hacc4⟩)
        refine ⟨e.trans ((s4.sx [D]).trans su), acc ++ [y], upd_same, ?_⟩
        rw [filter_succ, if_pos hb]
        exact paired_snoc (F := fun (z : V) (j : Nat) => Ok j z (L2.upd H4 D (.lst (acc ++ [y])))) (hst i y _ _ ok ⟨acc, hacc4⟩ su) (paired_mono hp fun (a : V) (b : Nat) q => hst b a _ _ (hst b a _ _ q ⟨acc, hacc⟩ (s4.sx [D])) ⟨acc, hacc4⟩ su)
    · refine ⟨e.trans (s3.sx [D]), acc, s3.keep _ _ hacc (fun _ z => nomatch z), ?_⟩
      rw [filter_succ, if_neg (by rw [hb]; decide), List.append_nil]
      exact paired_mono hp fun (a : V) (b : Nat) q => hst b a _ _ q ⟨acc, hacc⟩ (s3.sx [D])
  · rintro H ⟨e, acc, hacc, hp⟩
    exact hd H acc (toSm e) hacc hp
theorem filter_all (n : Nat) : (List.range n).filter (fun _ => true) = List.range n := List.filter_eq_self.mpr fun _ _ => rfl
/-- without a test -/
theorem lc_itA {J : It} {n : Nat} {G : Hp → Prop} {Y : Nat → Hp → V → Hp → Prop} (w : Walk J n G Y) {g : TG} {te : TE} {vs : List Nat} {σ : L2.St} {H1 : Hp} {D : Addr} {Qd : Hp → Prop} (hD : H1 D = none) (hn : n < sizeLine) (hG : ∀ H, Sm H1 H → G H)
    (Ok : Nat → V → Hp → Prop) (hst : ∀ (i : Nat) (y : V) (H H' : Hp), Ok i y H → (∃ l, H D = some (.lst l)) → Sx [D] H H' → Ok i y H')
    (hs : ∀ i x H H' (Nx : V → Hp → Prop), i < n → Sm H1 H → (∃ l, H D = some (.lst l)) → Y i H x H' → (∀ y H4, Sm H H4 → Ok i y H4 → Nx y H4) → g x (wipe σ vs) H' fun σ2 H2 => wipe σ2 vs = wipe σ vs ∧ te σ2 H2 Nx)
    (hd : ∀ H acc, Sm H1 H → H D = some (.lst acc) → Paired (fun y i => Ok i y H) acc (List.range n) → Qd H) :
    ∃ W : Nat → Nat → Hp → Prop, (∃ m, W 0 m (upd H1 D (.lst []))) ∧ ∀ i m H, W i m H →
      (J.stop i H ∧ Qd H) ∨ (J.go i H ∧ ∃ Nx : Hp → Prop, (∀ H', Nx H' → ∃ m', m' < m ∧ W (i + 1) m' H') ∧ ∀ x H', J.yld i H x H' → g x (wipe σ vs) H' fun σ2 H2 => wipe σ2 vs = wipe σ vs ∧ tYes σ2 H2 fun b H3 =>
        if b = true then te σ2 H3 fun y H4 => ∃ acc, H4 D = some (.lst acc) ∧ acc.length < sizeLine ∧ Nx (upd H4 D (.lst (acc ++ [y]))) else Nx H3) := by
  refine lc_itD w hD hn hG (fun _ => true) Ok hst (fun i x H H' Nx hi hsm hl hy k1 k0 => ?_) fun H acc h1 h2 h3 => hd H acc h1 h2 (by rw [filter_all] at h3; exact h3)
  have q := hs i x H H' (fun y H4 => ∃ acc, H4 D = some (.lst acc) ∧ acc.length < sizeLine ∧ Nx (L2.upd H4 D (.lst (acc ++ [y])))) hi hsm hl hy (fun y H4 => k1 rfl y H4)
  have e : (fun (σ2 : L2.St) (H2 : Hp) => wipe σ2 vs = wipe σ vs ∧ tYes σ2 H2 fun b H3 => if b = true then te σ2 H3 fun y H4 => ∃ acc, H4 D = some (.lst acc) ∧ acc.length < sizeLine ∧ Nx (L2.upd H4 D (.lst (acc ++ [y]))) else Nx H3) =
      fun σ2 H2 => wipe σ2 vs = wipe σ vs ∧ te σ2 H2 fun y H4 => ∃ acc, H4 D = some (.lst acc) ∧ acc.length < sizeLine ∧ Nx (L2.upd H4 D (.lst (acc ++ [y]))) := by
    funext σ2 H2
    have e1 : (tYes σ2 H2 fun b H3 => if b = true then te σ2 H3 fun y H4 => ∃ acc, H4 D = some (.lst acc) ∧ acc.length < sizeLine ∧ Nx (L2.upd H4 D (.lst (acc ++ [y]))) else Nx H3) = te σ2 H2 fun y H4 => ∃ acc, H4 D = some (.lst acc) ∧ acc.length < sizeLine ∧ Nx (L2.upd H4 D (.lst (acc ++ [y]))) := by
      unfold tYes
      simp only [if_true]
    rw [e1]
  rw [e]
  exact q
theorem paired_range {α : Type} {F : V → Nat → Prop} {f : Nat → α} {cv : α → V} : ∀ {l : List V} {is : List Nat}, Paired F l is → (∀ y i, F y i → y = cv (f i)) → l = (is.map f).map cv
  | _, _, .nil, _ => rfl
  | _, _, .cons r t, h => by
    rw [h _ _ r, paired_range t h]
    rfl
end Tr

/-! Defs: is_in, ones, net_of. -/
namespace Tr
open PySem PySem.Spec PyProof.Rows L2 GxR Gq
/-! ### how data stands -/
def eIs (l : List Int) : PyData := .tuple (l.map .int)
def eW (w : Way) : PyData := .tuple (w.map fun (i : Nat) => .int (i : Int))
def eS (S : List Way) : PyData := .tuple (S.map eW)
structure Gm where
  n : Nat
  R : List (Int × Int × List Int)
  P : List (Int × Int)
def eRoad (r : Int × Int × List Int) : PyData := .tuple [.int r.1, .int r.2.1, eIs r.2.2]
def ePl (p : Int × Int) : PyData := .tuple [.int p.1, .int p.2]
def eGm (G : Gm) : PyData := .tuple [.int G.n, .tuple (G.R.map eRoad), .tuple (G.P.map ePl)]
def eNr (r : Int × Int) : PyData := .tuple [.int r.1, .int r.2, .int 0, .int 0]
def eNet (n : Nat) (R : List (Int × Int)) : PyData := .tuple [.int n, .tuple (R.map eNr)]
def endsOf (G : Gm) : List (Int × Int) := G.R.map fun r => (r.1, r.2.1)
theorem tyT {K : PySem.W.Frag} {H : Hp} {a : Addr} {xs : List V} (h : SqT K H a xs) : TyX K H (.ref a) (.type "tuple") := by
  rcases h with (h | ⟨o, h⟩) | ⟨o, its, n, h, hc, _⟩
  · exact .base (.tup h)
  · exact .fTuple h
  · exact .kTuple h hc
section
variable {P : Program} {w : World} {K : PySem.W.Frag} {mg : Str → Option Value} {base : Heap} {tabs : List Addr}
/-! ### is_in -/
theorem sc_is_in : FnScope ["value", "least", "most"] ["value", "least", "most"] (defScope s_is_in) := ⟨rfl, rfl, rfl, by decide +kernel, rfl, by decide +kernel, by decide +kernel⟩
def spIsIn : Sp := fun vs H Q _ => ∃ i lo hi : Int, vs = [.int i, .int lo, .int hi] ∧ Q (.bl (decide (lo ≤ i ∧ i ≤ hi))) H
theorem ok_is_in {f c : Addr} (F : Fx K mg "is_in" s_is_in f c) (T : Tx K mg) : Prom P w K mg base "is_in" ["value", "least", "most"] spIsIn 1 := by
  refine F.prom sc_is_in (fun vs H Q E h => ?_) (fun _ _ _ _ _ _ us hl => match us, hl with | [_, _, _], _ => rfl) (fun A outer s H vs Q E hr h => ?_)
  · obtain ⟨i, lo, hi, rfl, _⟩ := h
    rfl
  · obtain ⟨i, lo, hi, rfl, q⟩ := h
    refine ⟨_, pss_one (ps_ret (pe_and (pe_callB call_isi (by rfl) T.isi (by decide +kernel) (pa_cons (pv 0) (pa_cons (pe_bltn (v := .ty "int") (by rfl) T.int boot_int rfl) pa_nil)))
      (pe_and (pe_not (pe_callB call_isi (by rfl) T.isi (by decide +kernel) (pa_cons (pv 0) (pa_cons (pe_bltn (v := .ty "bool") (by rfl) T.bool (by decide +kernel) rfl) pa_nil))))
        (pe_one (pe_chain op_le op_le (pv 1) (pv 0) (pv 2)))))), ?_⟩
    refine ⟨_, rfl, _, _, _, _, true, rfl, .ty "int", .base (.int i), kit_ty (by decide +kernel), true, rfl, ?_⟩
    refine ⟨_, rfl, _, _, _, _, false, rfl, .ty "bool", .base (.int i), kit_ty (by decide +kernel), false, rfl, true, rfl, ?_⟩
    refine ⟨_, rfl, _, rfl, lo, i, rfl, rfl, decide (lo ≤ i), rfl, ?_⟩
    by_cases h1 : lo ≤ i
    · rw [decide_eq_true h1]
      refine ite_tt ⟨_, rfl, i, hi, rfl, rfl, ?_⟩
      rw [show decide (lo ≤ i ∧ i ≤ hi) = decide (i ≤ hi) by simp [h1]] at q
      exact q
    · rw [decide_eq_false h1]
      refine ite_ff ?_
      rw [decide_eq_false (show ¬ (lo ≤ i ∧ i ≤ hi) from fun z => h1 z.1)] at q
      exact q
/-! ### data of a game -/
theorem dp_gm {H : Hp} {v : V} {G : Gm} (h : Dp K H v (eGm G)) : ∃ a b c xs ys, v = .ref a ∧ SqT K H a [.int G.n, .ref b, .ref c] ∧ SqT K H b xs ∧ DpAll K H xs (G.R.map eRoad) ∧ SqT K H c ys ∧ DpAll K H ys (G.P.map ePl) := by
  obtain ⟨a, zs, rfl, h1, h2⟩ := dp_tup h
  cases h2 with
  | cons d1 t1 =>
    cases t1 with
    | cons d2 t2 =>
      cases t2 with
      | cons d3 t3 =>
        cases t3
        obtain ⟨b, xs, rfl, h3, h4⟩ := dp_tup d2
        obtain ⟨c, ys, rfl, h5, h6⟩ := dp_tup d3
        rw [dp_int d1] at h1
        exact ⟨a, b, c, xs, ys, rfl, h1, h3, h4, h5, h6⟩
/-- stable under what happens to a list of our own -/
theorem okD {H H' : Hp} {v : V} {d : PyData} {D : Addr} (ht : tupOnly d = true) (h : Dp K H v d) (hl : ∃ l, H D = some (.lst l)) (e : Sx [D] H H') : Dp K H' v d :=
  TK.dp (e.tk fun b hb => .inr (by
    have : b = D := by simpa using hb
    rw [this]; exact hl)) d ht h
/-! ### ones -/
def eOnes (n : Nat) : PyData := eIs (List.replicate n 1)
theorem sc_ones : FnScope ["game", "player"] ["game"] (defScope s_ones) := ⟨rfl, rfl, rfl, by decide +kernel, rfl, by decide +kernel, by decide +kernel⟩
def spOnes (K : PySem.W.Frag) : Sp := fun vs H Q _ => ∃ (v : V) (G : Gm), vs = [v] ∧ Dp K H v (eGm G) ∧ G.P.length ≤ 100 ∧ ∀ v' H', Sm H H' → Dp K H' v' (eOnes G.P.length) → Q v' H'
theorem ok_ones {f c : Addr} (F : Fx K mg "ones" s_ones f c) (T : Tx K mg) : Prom P w K mg base "ones" ["game"] (spOnes K) 1 := by
  refine F.prom sc_ones (fun vs H Q E h => ?_) (fun _ _ _ _ _ _ us hl => match us, hl with | [_], _ => rfl) (fun A outer s H vs Q E hr h => ?_)
  · obtain ⟨i, lo, rfl, _⟩ := h
    rfl
  · obtain ⟨v, G, rfl, hg, hlen, q⟩ := h
    refine ⟨_, pss_one (ps_ret (pe_callTy call_tuple_of (by rfl) T.tuple (by decide +kernel) (pa_cons (pe_lc (own := [("player", 1)]) (g := gName 1) (tt := tYes) rfl sc_ones.nd (pi_tup (pe_ix ix_tup (pv 0) pe_int (fun _ _ => rfl)))
      (blkOk_by (N := ["game", "player"]) (sc := defScope s_ones) (by decide +kernel)) (fun _ _ _ _ _ => pg_name (i := 1) sc_ones.nd rfl (Or.inl rfl)) (fun _ _ _ _ _ => pts_nil) (fun _ _ _ _ _ => pe_int)) pa_nil))), ?_⟩
    obtain ⟨a, b, c, xs, ys, rfl, h1, h2, h3, h4, h5⟩ := dp_gm hg
    have hly : ys.length = G.P.length := by rw [h5.length, List.length_map]
    refine ⟨_, rfl, _, _, _, _, rfl, rfl, h1, atI_nat (j := 2) rfl, c, rfl, ⟨_, h4⟩, fun D hD => ?_⟩
    refine lc_itA walk_tup hD (small1000 (by omega)) (fun H' s => s.sqT h4) (fun i y H => y = .int 1) (fun _ _ _ _ h _ _ => h) ?_ ?_
    · intro i x H2 H2' Nx hi hs hl hy k1
      obtain ⟨rfl, hx⟩ := hy
      exact ⟨rfl, k1 _ _ (Sm.refl _) rfl⟩
    · intro H2 acc hs hacc hp
      have ex : acc = (List.replicate G.P.length (1 : Int)).map V.int := by
        rw [paired_range (f := fun _ => (1 : Int)) (cv := V.int) hp (fun _ _ h => h), hly]
        congr 1
        exact List.ext_getElem (by simp) fun i h1 h2 => by simp
      refine ⟨_, _, rfl, .inl ⟨.inl (.inl hacc), fun p hp => q (.ref p) _ (hs.trans (Sm.upd hp)) ?_⟩⟩
      exact .tup (.inl (.inl upd_same)) (by rw [ex]; exact dpAll_ints _)
/-! ### net_of -/
theorem dp_road {H : Hp} {v : V} {r : Int × Int × List Int} (h : Dp K H v (eRoad r)) : ∃ a b, v = .ref a ∧ SqT K H a [.int r.1, .int r.2.1, .ref b] ∧ SqT K H b (r.2.2.map V.int) := by
  obtain ⟨a, zs, rfl, h1, h2⟩ := dp_tup h
  cases h2 with
  | cons d1 t1 =>
    cases t1 with
    | cons d2 t2 =>
      cases t2 with
      | cons d3 t3 =>
        cases t3
        obtain ⟨b, xs, rfl, h3, h4⟩ := dp_tup d3
        rw [dp_int d1, dp_int d2] at h1
        rw [ints_of_dpAll h4] at h3
        exact ⟨a, b, rfl, h1, h3⟩
theorem to_nr (r : Int × Int) : tupOnly (eNr r) = true := rfl
theorem sc_net_of : FnScope ["game", "start", "end", "costs"] ["game"] (defScope s_net_of) := ⟨rfl, rfl, rfl, by decide +kernel, rfl, by decide +kernel, by decide +kernel⟩
def spNet (K : PySem.W.Frag) : Sp := fun vs H Q _ => ∃ (v : V) (G : Gm), vs = [v] ∧ Dp K H v (eGm G) ∧ G.R.length ≤ 100 ∧ ∀ v' H', Sm H H' → Dp K H' v' (eNet G.n (endsOf G)) → Q v' H'
theorem ok_net_of {f c : Addr} (F : Fx K mg "net_of" s_net_of f c) (T : Tx K mg) : Prom P w K mg base "net_of" ["game"] (spNet K) 1 := by
  refine F.prom sc_net_of (fun vs H Q E h => ?_) (fun _ _ _ _ _ _ us hl => match us, hl with | [_], _ => rfl) (fun A outer s H vs Q E hr h => ?_)
  · obtain ⟨i, lo, rfl, _⟩ := h
    rfl
  · obtain ⟨v, G, rfl, hg, hlen, q⟩ := h
    refine ⟨_, pss_one (ps_ret (pe_tup (pa_cons (pe_ix ix_tup (pv 0) pe_int (fun _ _ => rfl)) (pa_cons (pe_callTy call_tuple_of (by rfl) T.tuple (by decide +kernel) (pa_cons
      (pe_lc (own := [("start", 1), ("end", 2), ("costs", 3)]) (g := gTup K 3 (gCons (gName 1) (gCons (gName 2) (gCons (gName 3) gNil)))) (tt := tYes) rfl sc_net_of.nd (pi_tup (pe_ix ix_tup (pv 0) pe_int (fun _ _ => rfl)))
      (blkOk_by (N := ["game", "start", "end", "costs"]) (sc := defScope s_net_of) (by decide +kernel)) (fun _ _ _ _ _ => pg_tup rfl (pgs_cons (pg_name (i := 1) sc_net_of.nd rfl (Or.inl rfl)) (pgs_cons (pg_name (i := 2) sc_net_of.nd rfl (Or.inl rfl)) (pgs_cons (pg_name (i := 3) sc_net_of.nd rfl (Or.inl rfl)) pgs_nil)))) (fun _ _ _ _ _ => pts_nil)
      (fun _ _ _ _ _ => pe_tup (pa_cons (pv 1) (pa_cons (pv 2) (pa_cons pe_int (pa_cons pe_int pa_nil)))))) pa_nil)) pa_nil)))), ?_⟩
    obtain ⟨a, b, c, xs, ys, rfl, h1, h2, h3, h4, h5⟩ := dp_gm hg
    have hlx : xs.length = G.R.length := by rw [h3.length, List.length_map]
    refine ⟨_, rfl, _, _, _, _, rfl, rfl, h1, atI_nat (j := 0) rfl, ?_⟩
    refine ⟨_, rfl, _, _, _, _, rfl, rfl, h1, atI_nat (j := 1) rfl, b, rfl, ⟨_, h2⟩, fun D hD => ?_⟩
    refine lc_itA walk_tup hD (small1000 (by omega)) (fun H' s => s.sqT h2) (fun i y H => Dp K H y (eNr ((endsOf G).getD i (0, 0)))) (fun i y H2 H3 h hl e => okD (to_nr _) h hl e) ?_ ?_
    · intro i x H2 H2' Nx hi hs hl hy k1
      obtain ⟨rfl, hx⟩ := hy
      obtain ⟨d, ed, dd⟩ := h3.get' hx
      rw [List.getElem?_map] at ed
      cases er : G.R[i]? with
      | none => rw [er] at ed; cases ed
      | some r =>
        rw [er] at ed
        have ed' : eRoad r = d := Option.some.inj ed
        subst ed'
        obtain ⟨a1, b1, rfl, q1, q2⟩ := dp_road dd
        have e1 : (endsOf G).getD i (0, 0) = (r.1, r.2.1) := by
          unfold endsOf
          rw [List.getD_eq_getElem?_getD, List.getElem?_map, er]
          rfl
        refine ⟨a1, _, rfl, hs.sqT q1, rfl, _, _, rfl, _, _, rfl, _, _, rfl, rfl, rfl, ?_⟩
        refine ⟨_, rfl, _, rfl, (by show 4 ≤ sizeLine; decide), fun p hp => k1 _ _ (Sm.upd hp) ?_⟩
        rw [e1]
        exact .tup (.inl (.inl upd_same)) (.cons (.int _) (.cons (.int _) (.cons (.int _) (.cons (.int _) .nil))))
    · intro H2 acc hs hacc hp
      have hd := dpAll_paired hp
      have he : ((List.range xs.length).map fun i => eNr ((endsOf G).getD i (0, 0))) = (endsOf G).map eNr := by
        refine List.ext_getElem (by simp [endsOf, hlx]) fun i h1 h2 => ?_
        have hi : i < (endsOf G).length := by simpa using h2
        simp only [List.getElem_map, List.getElem_range]
        rw [List.getD_eq_getElem?_getD, List.getElem?_eq_getElem hi]
        rfl
      rw [he] at hd
      refine ⟨_, _, rfl, .inl ⟨.inl (.inl hacc), fun p hp => ?_⟩⟩
      have s2 := hs.trans (Sm.upd (o := .tup acc) hp)
      refine ⟨(by show 2 ≤ sizeLine; decide), fun p2 hp2 => q (.ref p2) _ (s2.trans (Sm.upd hp2)) ?_⟩
      exact .tup (.inl (.inl upd_same)) (.cons (.int _) (.cons (.tup ((Sm.upd hp2).sqT (.inl (.inl upd_same))) ((Sm.upd hp2).dpAll _ ((Sm.upd hp).dpAll _ hd))) .nil))
end
end Tr

/-! Defs: loads_of, time_in, times_in, potential_in. -/
namespace Tr
open PySem PySem.Spec PyProof.Rows L2 GxR Gq
section
variable {P : Program} {w : World} {K : PySem.W.Frag} {mg : Str → Option Value} {base : Heap} {tabs : List Addr}
def loadsL (m : Nat) (S : List Way) : List Int := (List.range m).map fun (i : Nat) => (cnt i S : Int)
theorem to_way (u : Way) : tupOnly (eW u) = true := by
  show tupOnlyAll (u.map fun (i : Nat) => PyData.int (i : Int)) = true
  exact tupOnlyAll_map fun _ _ => rfl
theorem to_st (S : List Way) : tupOnly (eS S) = true := by
  show tupOnlyAll (S.map eW) = true
  exact tupOnlyAll_map fun u _ => to_way u
theorem dp_way {H : Hp} {v : V} {u : Way} (h : Dp K H v (eW u)) : ∃ a, v = .ref a ∧ SqT K H a (u.map fun (i : Nat) => V.int (i : Int)) := by
  obtain ⟨a, xs, rfl, h1, h2⟩ := dp_tup h
  have e : (u.map fun (i : Nat) => PyData.int (i : Int)) = (u.map fun (i : Nat) => (i : Int)).map PyData.int := by simp
  rw [e] at h2
  rw [ints_of_dpAll h2] at h1
  rw [List.map_map] at h1
  exact ⟨a, rfl, h1⟩
theorem inV_way (i : Nat) (u : Way) : inV (.int (i : Int)) (u.map fun (j : Nat) => V.int (j : Int)) = decide (i ∈ u) := by
  unfold inV
  rw [List.any_map]
  induction u with
  | nil => rfl
  | cons j u ih =>
    rw [List.any_cons, ih]
    by_cases h : i = j
    · subst h
      simp [eqV]
    · have h2 : ¬ ((j : Int) = (i : Int)) := by omega
      have h3 : ¬ ((i : Int) = (j : Int)) := by omega
      simp [eqV, h, h2, h3]
theorem sc_loads : FnScope ["game", "state", "weights", "index"] ["game", "state", "weights"] (defScope s_loads_of) := ⟨rfl, rfl, rfl, by decide +kernel, rfl, by decide +kernel, by decide +kernel⟩
def spLoads (K : PySem.W.Frag) (tabs : List Addr) : Sp := fun vs H Q _ => ∃ (vg vs_ vw : V) (G : Gm) (S : List Way), vs = [vg, vs_, vw] ∧ Dp K H vg (eGm G) ∧ Dp K H vs_ (eS S) ∧ Dp K H vw (eOnes S.length) ∧ Gd tabs H ∧ G.R.length ≤ 100 ∧ S.length ≤ 100 ∧
  ∀ p H', Sm H H' → H p = none → H' p = some (.lst ((loadsL G.R.length S).map V.int)) → Q (.ref p) H'
theorem count_range (i : Nat) (S : List Way) : (((List.range S.length).filter fun j => decide (i ∈ S.getD j [])).map fun _ => (1 : Int)).sum = (cnt i S : Int) := by
  have e1 : ∀ l : List Nat, (l.map fun _ => (1 : Int)).sum = (l.length : Int) := by
    intro l
    induction l with
    | nil => rfl
    | cons x l ih =>
      rw [List.map_cons, List.sum_cons, ih, List.length_cons]
      omega
  rw [e1]
  congr 1
  have e2 : S = (List.range S.length).map fun j => S.getD j [] := by
    refine List.ext_getElem (by simp) fun k h1 h2 => ?_
    simp only [List.getElem_map, List.getElem_range]
    rw [List.getD_eq_getElem?_getD, List.getElem?_eq_getElem h1]
    rfl
  conv => rhs; rw [e2]
  unfold cnt
  rw [List.countP_map, List.countP_eq_length_filter]
  rfl
theorem ok_loads {f c Pt : Addr} (F : Fx K mg "loads_of" s_loads_of f c) (T : Tx K mg) (TB : TabB base mg c Pt) (hPt : Pt ∈ tabs) : Prom P w K mg base "loads_of" ["game", "state", "weights"] (spLoads K tabs) 2 := by
  refine F.prom sc_loads (fun vs H Q E h => ?_) (fun _ _ _ _ _ _ us hl => match us, hl with | [_, _, _], _ => rfl) (fun A outer s H vs Q E hr h => ?_)
  · obtain ⟨_, _, _, _, _, rfl, _⟩ := h
    rfl
  · obtain ⟨vg, vs_, vw, G, S, rfl, hg, hS, hw, hgd, hR, hl, q⟩ := h
    refine ⟨_, pss_one (ps_ret (pe_lc (own := [("index", 3)]) (g := gName 3) (tt := tYes) (te := tSumZ ⟨P, w, K, mg, base⟩ (A.deeper (envOfC "loads_of" (defScope s_loads_of) s.heap.objs.size f (.ref c))) Pt "way" "weight" [("index", 3)] _ _ _ (tCons (tVar 1) (tCons (tVar 2) tNil))) rfl sc_loads.nd (pi_range1 rfl T.range (pa_cons (pe_callB call_len_seq (by rfl) T.len PySem.boot_len (pa_cons (pe_ix ix_tup (pv 0) pe_int (fun _ _ => rfl)) pa_nil)) pa_nil))
      (blkOk_by (N := ["game", "state", "weights", "index"]) (sc := defScope s_loads_of) (by decide +kernel)) (fun _ _ _ _ _ => pg_name (i := 3) sc_loads.nd rfl (Or.inr rfl)) (fun _ _ _ _ _ => pts_nil)
      (fun _ _ _ _ _ => pe_sumZ (P := Pt) (caps := [("index", 3)]) hr (by rfl) T.sum (by decide +kernel) (by rfl) T.zip TB rfl (by kernel_rfl) (by rfl) (by decide) (by kernel_rfl) (pa_cons (pv 1) (pa_cons (pv 2) pa_nil)) (fun _ => rfl)))), ?_⟩
    obtain ⟨a, b, c', xs, ys, rfl, h1, h2, h3, h4, h5⟩ := dp_gm hg
    obtain ⟨sa, ss, rfl, g1, g2⟩ := dp_tup hS
    obtain ⟨wa, ws, rfl, g3, g4⟩ := dp_tup hw
    have ew : ws = (List.replicate S.length (1 : Int)).map V.int := ints_of_dpAll g4
    have hlx : xs.length = G.R.length := by rw [h3.length, List.length_map]
    have hls : ss.length = S.length := by rw [g2.length, List.length_map]
    have hlw : ws.length = S.length := by rw [ew]; simp
    refine ⟨_, rfl, _, _, _, _, rfl, rfl, h1, atI_nat (j := 1) rfl, _, _, rfl, .inr h2, (xs.length : Int), rfl, by omega, by omega, fun D hD => ?_⟩
    rw [show ((xs.length : Int)).toNat = xs.length by omega]
    refine lc_itA walk_range hD (small1000 (by omega)) (fun _ _ => trivial) (fun i y H => y = .int (cnt i S : Int)) (fun _ _ _ _ h _ _ => h) ?_ ?_
    · intro i x H2 H2' Nx hi hs hl hy k1
      obtain ⟨rfl, rfl⟩ := hy
      have gT : TabG H2' Pt := hs.gd hgd Pt hPt
      refine ⟨rfl, .ref sa, rfl, .ref wa, rfl, .ref sa, .ref wa, ss, ws, fun j => decide (i ∈ S.getD j []), fun _ => 1, rfl, .tup (hs.sqT g1), .tup (hs.sqT g3), gT, ?_, (fun _ _ => ⟨show (0 : Int) ≤ 1 by decide, show (1 : Int) ≤ 2 ^ 40 by decide⟩), by omega, fun H3 hT => ?_⟩
      · intro j y y2 ey ey2 A' cenv hA hsc
        obtain ⟨d, ed, dd⟩ := g2.get' ey
        rw [List.getElem?_map] at ed
        cases er : S[j]? with
        | none => rw [er] at ed; cases ed
        | some u =>
          rw [er] at ed
          have ed' : eW u = d := Option.some.inj ed
          subst ed'
          obtain ⟨ua, rfl, gu⟩ := dp_way dd
          have e2 : y2 = .int 1 := by
            rw [ew, List.getElem?_map] at ey2
            cases eq : (List.replicate S.length (1 : Int))[j]? with
            | none => rw [eq] at ey2; cases ey2
            | some z =>
              rw [eq] at ey2
              have := List.eq_of_mem_replicate (List.mem_of_getElem? eq)
              subst this
              exact (Option.some.inj ey2).symm
          subst e2
          have eS' : S.getD j [] = u := by rw [List.getD_eq_getElem?_getD, er]; rfl
          constructor
          · intro E u' g
            show wpAny _ _ _ (fun ok s' => ok = decide (i ∈ S.getD j []) ∧ Keeps u' s') E u'
            rw [eS', ← inV_way]
            refine qx_testIn (x := .int (i : Int)) (qx_name ?_) (qx_name rfl) (hidP_T gT (hs.sqT gu)) rfl ?_ g
            · show some (V.int (0 + (i : Int))) = some (V.int (i : Int))
              rw [Int.zero_add]
            · rw [List.all_map]
              exact List.all_eq_true.mpr fun _ _ => rfl
          · intro _
            exact qx_name rfl
      · refine k1 _ _ (Sm.tabbed hT gT) ?_
        rw [show min ss.length ws.length = S.length by omega, count_range]
    · intro H2 acc hs hacc hp
      refine q D H2 hs hD ?_
      rw [hacc, paired_range (f := fun (i : Nat) => (cnt i S : Int)) (cv := V.int) hp (fun _ _ h => h), hlx]
      rfl
end
end Tr

/-! Defs: time_in, times_in, potential_in. -/
namespace Tr
open PySem PySem.Spec PyProof.Rows L2 GxR Gq
def costsOf (G : Gm) : List (List Int) := G.R.map fun r => r.2.2
/-- what the sums want of a state -/
structure StOk (G : Gm) (S : List Way) : Prop where
  r : G.R.length ≤ 100
  l : S.length ≤ 100
  ways : WaysOk G.R.length S
  wl : ∀ u ∈ S, u.length ≤ 100
  tab : ∀ r ∈ G.R, r.2.2.length = S.length ∧ ∀ z ∈ r.2.2, 0 ≤ z ∧ z ≤ 1000
theorem StOk.cost {G : Gm} {S : List Way} (h : StOk G S) {p : Nat} {u : Way} (hp : S[p]? = some u) {i : Nat} (hi : i ∈ u) : ∃ r, G.R[i]? = some r ∧ 1 ≤ cnt i S ∧ r.2.2[cnt i S - 1]? = some (((costsOf G).getD i []).getD (cnt i S - 1) 0) ∧ 0 ≤ ((costsOf G).getD i []).getD (cnt i S - 1) 0 ∧ ((costsOf G).getD i []).getD (cnt i S - 1) 0 ≤ 1000 := by
  have hm := List.mem_of_getElem? hp
  have hl := (h.ways u hm).2 i hi
  have e1 : G.R[i]? = some G.R[i] := List.getElem?_eq_getElem hl
  have h1 : 1 ≤ cnt i S := by
    rw [cnt_erase i hp, if_pos hi]
    omega
  have ht := h.tab G.R[i] (List.getElem_mem hl)
  have hc := cnt_le i S
  have hk : cnt i S - 1 < G.R[i].2.2.length := by omega
  have e2 : (costsOf G).getD i [] = G.R[i].2.2 := by
    unfold costsOf
    rw [List.getD_eq_getElem?_getD, List.getElem?_map, e1]
    rfl
  have e3 : (G.R[i].2.2).getD (cnt i S - 1) 0 = G.R[i].2.2[cnt i S - 1] := by
    rw [List.getD_eq_getElem?_getD, List.getElem?_eq_getElem hk]
    rfl
  refine ⟨G.R[i], e1, h1, ?_, ?_⟩
  · rw [e2, e3]
    exact List.getElem?_eq_getElem hk
  · rw [e2, e3]
    exact ht.2 _ (List.getElem_mem hk)
section
variable {P : Program} {w : World} {K : PySem.W.Frag} {mg : Str → Option Value} {base : Heap} {tabs : List Addr}
theorem sc_time : FnScope ["game", "state", "weights", "player", "some"] ["game", "state", "weights", "player"] (defScope s_time_in) := ⟨rfl, rfl, rfl, by decide +kernel, rfl, by decide +kernel, by decide +kernel⟩
def spTime (K : PySem.W.Frag) (tabs : List Addr) : Sp := fun vs H Q _ => ∃ (vg vs_ vw : V) (G : Gm) (S : List Way) (p : Nat), vs = [vg, vs_, vw, .int (p : Int)] ∧ Dp K H vg (eGm G) ∧ Dp K H vs_ (eS S) ∧ Dp K H vw (eOnes S.length) ∧ Gd tabs H ∧ StOk G S ∧ p < S.length ∧
  ∀ H', Sm H H' → Q (.int (timeOf (costsOf G) S p)) H'
theorem dpAll_map_get {α : Type} {H : Hp} {f : α → PyData} {l : List α} {xs : List V} {i : Nat} {a : α} (h : DpAll K H xs (l.map f)) (e : l[i]? = some a) : ∃ x, xs[i]? = some x ∧ Dp K H x (f a) :=
  h.get (by rw [List.getElem?_map, e]; rfl)
theorem dpAll_map_get' {α : Type} {H : Hp} {f : α → PyData} {l : List α} {xs : List V} {i : Nat} {x : V} (h : DpAll K H xs (l.map f)) (e : xs[i]? = some x) : ∃ a, l[i]? = some a ∧ Dp K H x (f a) := by
  obtain ⟨d, ed, dd⟩ := h.get' e
  rw [List.getElem?_map] at ed
  cases er : l[i]? with
  | none => rw [er] at ed; cases ed
  | some a =>
    rw [er] at ed
    have ed' : f a = d := Option.some.inj ed
    subst ed'
    exact ⟨a, rfl, dd⟩
theorem ok_time {f c Pt : Addr} (F : Fx K mg "time_in" s_time_in f c) (T : Tx K mg) (TB : TabB base mg c Pt) (hPt : Pt ∈ tabs) (GL : Prom P w K mg base "loads_of" ["game", "state", "weights"] (spLoads K tabs) 2) :
    Prom P w K mg base "time_in" ["game", "state", "weights", "player"] (spTime K tabs) 3 := by
  refine F.prom sc_time (fun vs H Q E h => ?_) (fun _ _ _ _ _ _ us hl => match us, hl with | [_, _, _, _], _ => rfl) (fun A outer s H vs Q E hr h => ?_)
  · obtain ⟨_, _, _, _, _, _, rfl, _⟩ := h
    rfl
  · obtain ⟨vg, vs_, vw, G, S, p, rfl, hg, hS, hw, hgd, hok, hp, q⟩ := h
    refine ⟨_, pss_cons (ps_set (i := 4) sc_time.nd rfl (Or.inr rfl) (pe_prom GL hr (by rfl) (pa_cons (pv 0) (pa_cons (pv 1) (pa_cons (pv 2) pa_nil)))))
      (pss_one (ps_ret (pe_sumN (P := Pt) (caps := [("game", 0), ("some", 4)]) hr (by rfl) T.sum (by decide +kernel) TB rfl (by kernel_rfl) (by rfl) (pe_ix ix_tup (pv 1) (pv 3) (fun _ _ => rfl)) (fun _ => rfl)))), ?_⟩
    have hu := List.getElem?_eq_getElem hp
    refine ⟨_, rfl, _, rfl, _, rfl, vg, vs_, vw, G, S, rfl, hg, hS, hw, hgd, hok.r, hok.l, fun pl H1 s1 _ hpl => ?_⟩
    obtain ⟨a, b, c', xs, ys, rfl, h1, h2, h3, h4, h5⟩ := dp_gm hg
    obtain ⟨sa, ss, rfl, g1, g2⟩ := dp_tup hS
    obtain ⟨x, ex, dx⟩ := dpAll_map_get g2 hu
    obtain ⟨ua, rfl, gu⟩ := dp_way dx
    refine ⟨_, rfl, _, rfl, sa, ss, (p : Int), _, rfl, rfl, s1.sqT g1, atI_nat ex, ?_⟩
    have gT : TabG H1 Pt := s1.gd hgd Pt hPt
    refine ⟨_, fun j => ((costsOf G).getD (S[p].getD j 0) []).getD (cnt (S[p].getD j 0) S - 1) 0, .tup (s1.sqT gu), gT, ?_, fun H2 hT => ⟨⟨?_, ?_⟩, ?_⟩⟩
    · intro j y hy A' cenv hA hsc
      rw [List.getElem?_map] at hy
      cases er : S[p][j]? with
      | none => rw [er] at hy; cases hy
      | some i =>
        rw [er] at hy
        have ey : V.int (i : Int) = y := Option.some.inj hy
        subst ey
        have ej : S[p].getD j 0 = i := by rw [List.getD_eq_getElem?_getD, er]; rfl
        show QX _ _ _ _ _ _ (V.int (((costsOf G).getD (S[p].getD j 0) []).getD (cnt (S[p].getD j 0) S - 1) 0))
        rw [ej]
        obtain ⟨r, e1, e2, e3, e4, e5⟩ := hok.cost hu (List.mem_of_getElem? er)
        obtain ⟨xr, exr, dxr⟩ := dpAll_map_get h3 e1
        obtain ⟨ra, rb, rfl, k1, k2⟩ := dp_road dxr
        have e6 : (loadsL G.R.length S)[i]? = some (cnt i S : Int) := by
          unfold loadsL
          rw [List.getElem?_map, List.getElem?_range (by
            obtain ⟨q, _⟩ := List.getElem?_eq_some_iff.mp e1
            exact q)]
          rfl
        have e7 : atI (r.2.2.map V.int) ((cnt i S : Int) - 1) = some (.int (((costsOf G).getD i []).getD (cnt i S - 1) 0)) := by
          rw [show (cnt i S : Int) - 1 = ((cnt i S - 1 : Nat) : Int) by omega]
          refine atI_nat ?_
          rw [List.getElem?_map, e3]
          rfl
        refine qx_ixT (qx_ixT (qx_ixT (qx_ixT (qx_name rfl) qx_int (hidP_T gT (s1.sqT h1)) (atI_nat (j := 1) rfl)) (qx_name rfl) (hidP_T gT (s1.sqT h2)) (atI_nat exr)) qx_int (hidP_T gT (s1.sqT k1)) (atI_nat (j := 2) rfl))
          (qx_sub (qx_ixL (j := i) rfl (qx_name rfl) (qx_name rfl) (hidP_L gT (.inl (.inl hpl))) ?_) qx_int) (hidP_T gT (s1.sqT k2)) e7
        rw [List.getElem?_map, e6]
        rfl
    · intro j hj
      rw [List.length_map] at hj
      have er := List.getElem?_eq_getElem hj
      have ej : S[p].getD j 0 = S[p][j] := by rw [List.getD_eq_getElem?_getD, er]; rfl
      obtain ⟨r, e1, e2, e3, e4, e5⟩ := hok.cost hu (List.mem_of_getElem? er)
      show 0 ≤ ((costsOf G).getD (S[p].getD j 0) []).getD (cnt (S[p].getD j 0) S - 1) 0 ∧ ((costsOf G).getD (S[p].getD j 0) []).getD (cnt (S[p].getD j 0) S - 1) 0 ≤ 2 ^ 40
      rw [ej]
      exact ⟨e4, Int.le_trans e5 (by decide)⟩
    · rw [List.length_map]
      have := hok.wl S[p] (List.mem_of_getElem? hu)
      omega
    · have e : ((List.range (S[p].map fun (i : Nat) => V.int (i : Int)).length).map fun j => ((costsOf G).getD (S[p].getD j 0) []).getD (cnt (S[p].getD j 0) S - 1) 0).sum = timeOf (costsOf G) S p := by
        unfold timeOf timeAt
        have e1 : S.getD p [] = S[p] := by rw [List.getD_eq_getElem?_getD, hu]; rfl
        rw [e1]
        congr 1
        refine List.ext_getElem (by simp) fun j q1 q2 => ?_
        have hj : j < S[p].length := by simpa using q2
        simp only [List.getElem_map, List.getElem_range]
        have q : S[p].getD j 0 = S[p][j] := by
          rw [List.getD_eq_getElem?_getD, List.getElem?_eq_getElem hj]
          rfl
        rw [q]
      rw [e]
      exact q H2 (s1.trans (Sm.tabbed hT gT))
end
end Tr

/-! Defs: times_in, potential_in. -/
namespace Tr
open PySem PySem.Spec PyProof.Rows L2 GxR Gq
section
variable {P : Program} {w : World} {K : PySem.W.Frag} {mg : Str → Option Value} {base : Heap} {tabs : List Addr}
theorem sc_times : FnScope ["game", "state", "player"] ["game", "state"] (defScope s_times_in) := ⟨rfl, rfl, rfl, by decide +kernel, rfl, by decide +kernel, by decide +kernel⟩
def spTimes (K : PySem.W.Frag) (tabs : List Addr) : Sp := fun vs H Q _ => ∃ (vg vs_ : V) (G : Gm) (S : List Way), vs = [vg, vs_] ∧ Dp K H vg (eGm G) ∧ Dp K H vs_ (eS S) ∧ Gd tabs H ∧ StOk G S ∧ G.P.length = S.length ∧
  ∀ p H', Sm H H' → H p = none → H' p = some (.lst ((timesOf (costsOf G) S).map V.int)) → Q (.ref p) H'
theorem ok_times {f c : Addr} (F : Fx K mg "times_in" s_times_in f c) (T : Tx K mg) (G1 : Prom P w K mg base "ones" ["game"] (spOnes K) 1) (GT : Prom P w K mg base "time_in" ["game", "state", "weights", "player"] (spTime K tabs) 3) :
    Prom P w K mg base "times_in" ["game", "state"] (spTimes K tabs) 4 := by
  refine F.prom sc_times (fun vs H Q E h => ?_) (fun _ _ _ _ _ _ us hl => match us, hl with | [_, _], _ => rfl) (fun A outer s H vs Q E hr h => ?_)
  · obtain ⟨_, _, _, _, rfl, _⟩ := h
    rfl
  · obtain ⟨vg, vs_, G, S, rfl, hg, hS, hgd, hok, hP, q⟩ := h
    have g1 := G1.mono (k := 3) (by decide)
    refine ⟨_, pss_one (ps_ret (pe_lc (own := [("player", 2)]) (g := gName 2) (tt := tYes) rfl sc_times.nd (pi_range1 rfl T.range (pa_cons (pe_callB call_len_seq (by rfl) T.len PySem.boot_len (pa_cons (pe_ix ix_tup (pv 0) pe_int (fun _ _ => rfl)) pa_nil)) pa_nil))
      (blkOk_by (N := ["game", "state", "player"]) (sc := defScope s_times_in) (by decide +kernel)) (fun _ _ _ _ _ => pg_name (i := 2) sc_times.nd rfl (Or.inl rfl)) (fun _ _ _ _ _ => pts_nil)
      (fun _ _ _ _ _ => pe_prom GT hr (by rfl) (pa_cons (pv 0) (pa_cons (pv 1) (pa_cons (pe_prom g1 hr (by rfl) (pa_cons (pv 0) pa_nil)) (pa_cons (pv 2) pa_nil))))))), ?_⟩
    obtain ⟨a, b, c', xs, ys, rfl, h1, h2, h3, h4, h5⟩ := dp_gm hg
    have hly : ys.length = G.P.length := by rw [h5.length, List.length_map]
    have hSl := hok.l
    refine ⟨_, rfl, _, _, _, _, rfl, rfl, h1, atI_nat (j := 2) rfl, _, _, rfl, .inr h4, (ys.length : Int), rfl, by omega, by omega, fun D hD => ?_⟩
    rw [show ((ys.length : Int)).toNat = ys.length by omega]
    refine lc_itA walk_range hD (small1000 (by omega)) (fun _ _ => trivial) (fun i y H => y = .int (timeOf (costsOf G) S i)) (fun _ _ _ _ h _ _ => h) ?_ ?_
    · intro i x H2 H2' Nx hi hs hl hy k1
      obtain ⟨rfl, rfl⟩ := hy
      refine ⟨rfl, .ref a, rfl, vs_, rfl, .ref a, rfl, .ref a, G, rfl, hs.dp _ hg, by omega, fun vo H3 s3 ho => ?_⟩
      refine ⟨_, rfl, .ref a, vs_, vo, G, S, i, ?_, (hs.trans s3).dp _ hg, (hs.trans s3).dp _ hS, by rw [← hP]; exact ho, (hs.trans s3).gd hgd, hok, by omega, fun H4 s4 => k1 _ _ (s3.trans s4) rfl⟩
      show [V.ref a, vs_, vo, V.int (0 + (i : Int))] = _
      rw [Int.zero_add]
    · intro H2 acc hs hacc hp
      refine q D H2 hs hD ?_
      rw [hacc, paired_range (f := fun (i : Nat) => timeOf (costsOf G) S i) (cv := V.int) hp (fun _ _ h => h), hly, hP]
      rfl
theorem sum_bnd {l : List Int} (h : ∀ z ∈ l, 0 ≤ z ∧ z ≤ 1000) : 0 ≤ l.sum ∧ l.sum ≤ 1000 * (l.length : Int) := by
  induction l with
  | nil => exact ⟨Int.le_refl _, Int.le_refl _⟩
  | cons x l ih =>
    have hx := h x (by simp)
    have := ih fun z hz => h z (by simp [hz])
    rw [List.sum_cons, List.length_cons]
    omega
theorem sc_pot : FnScope ["game", "state"] ["game", "state"] (defScope s_potential_in) := ⟨rfl, rfl, rfl, by decide +kernel, rfl, by decide +kernel, by decide +kernel⟩
def spPot (K : PySem.W.Frag) (tabs : List Addr) : Sp := fun vs H Q _ => ∃ (vg vs_ : V) (G : Gm) (S : List Way), vs = [vg, vs_] ∧ Dp K H vg (eGm G) ∧ Dp K H vs_ (eS S) ∧ Gd tabs H ∧ StOk G S ∧ G.P.length = S.length ∧
  ∀ H', Sm H H' → Q (.int (potOf (costsOf G) S)) H'
theorem ok_pot {f c Pt : Addr} (F : Fx K mg "potential_in" s_potential_in f c) (T : Tx K mg) (TB : TabB base mg c Pt) (hPt : Pt ∈ tabs) (G1 : Prom P w K mg base "ones" ["game"] (spOnes K) 1) (GL : Prom P w K mg base "loads_of" ["game", "state", "weights"] (spLoads K tabs) 2) :
    Prom P w K mg base "potential_in" ["game", "state"] (spPot K tabs) 3 := by
  refine F.prom sc_pot (fun vs H Q E h => ?_) (fun _ _ _ _ _ _ us hl => match us, hl with | [_, _], _ => rfl) (fun A outer s H vs Q E hr h => ?_)
  · obtain ⟨_, _, _, _, rfl, _⟩ := h
    rfl
  · obtain ⟨vg, vs_, G, S, rfl, hg, hS, hgd, hok, hP, q⟩ := h
    have g1 := G1.mono (k := 2) (by decide)
    refine ⟨_, pss_one (ps_ret (pe_sumZ (P := Pt) (caps := []) hr (by rfl) T.sum (by decide +kernel) (by rfl) T.zip TB rfl (by kernel_rfl) (by rfl) (by decide) (by kernel_rfl)
      (pa_cons (pe_ix ix_tup (pv 0) pe_int (fun _ _ => rfl)) (pa_cons (pe_prom GL hr (by rfl) (pa_cons (pv 0) (pa_cons (pv 1) (pa_cons (pe_prom g1 hr (by rfl) (pa_cons (pv 0) pa_nil)) pa_nil)))) pa_nil)) (fun _ => rfl))), ?_⟩
    obtain ⟨a, b, c', xs, ys, rfl, h1, h2, h3, h4, h5⟩ := dp_gm hg
    have hSl := hok.l
    have hRl := hok.r
    have hlx : xs.length = G.R.length := by rw [h3.length, List.length_map]
    refine ⟨_, rfl, _, _, _, _, rfl, rfl, h1, atI_nat (j := 1) rfl, .ref a, rfl, vs_, rfl, .ref a, rfl, .ref a, G, rfl, hg, by omega, fun vo H3 s3 ho => ?_⟩
    refine ⟨.ref a, vs_, vo, G, S, rfl, s3.dp _ hg, s3.dp _ hS, by rw [← hP]; exact ho, s3.gd hgd, hRl, hSl, fun pl H4 s4 _ hpl => ?_⟩
    have s34 := s3.trans s4
    have gT : TabG H4 Pt := s34.gd hgd Pt hPt
    have hm : min xs.length ((loadsL G.R.length S).map V.int).length = G.R.length := by
      rw [hlx, List.length_map]
      unfold loadsL
      rw [List.length_map, List.length_range]
      omega
    have hpre : ∀ i, (∀ z ∈ (costsOf G).getD i [], 0 ≤ z ∧ z ≤ 1000) ∧ ((costsOf G).getD i []).length ≤ 100 := fun i => by
      rw [List.getD_eq_getElem?_getD]
      unfold costsOf
      rw [List.getElem?_map]
      cases er : G.R[i]? with
      | none => exact ⟨fun z hz => (by cases hz), by decide⟩
      | some r =>
        have hr := hok.tab r (List.mem_of_getElem? er)
        exact ⟨hr.2, by show r.2.2.length ≤ 100; omega⟩
    refine ⟨.ref b, .ref pl, xs, (loadsL G.R.length S).map V.int, fun _ => true, fun i => (((costsOf G).getD i []).take (cnt i S)).sum, rfl, .tup (s34.sqT h2), .lst (.inl (.inl hpl)), gT, ?_, ?_, by omega, fun H5 hT => ?_⟩
    · intro i y y2 ey ey2 A' cenv hA hsc
      refine ⟨fun E u g => qx_test0, fun _ => ?_⟩
      obtain ⟨r, er, dr⟩ := dpAll_map_get' h3 ey
      obtain ⟨ra, rb, rfl, k1, k2⟩ := dp_road dr
      have e2 : y2 = .int (cnt i S : Int) := by
        rw [List.getElem?_map] at ey2
        unfold loadsL at ey2
        rw [List.getElem?_map, List.getElem?_range (by
          obtain ⟨q, _⟩ := List.getElem?_eq_some_iff.mp er
          exact q)] at ey2
        exact (Option.some.inj ey2).symm
      subst e2
      have ec : (costsOf G).getD i [] = r.2.2 := by
        unfold costsOf
        rw [List.getD_eq_getElem?_getD, List.getElem?_map, er]
        rfl
      have hz := hpre i
      show QX _ _ _ _ _ _ (V.int (((costsOf G).getD i []).take (cnt i S)).sum)
      rw [ec] at hz ⊢
      refine qx_sumPre (by unfold Env.kindOf; rw [hsc]; rfl) T hA.1 (qx_ixT (qx_name rfl) qx_int (hidP_T gT (s34.sqT k1)) (atI_nat (j := 2) rfl)) (qx_name rfl) (hidP_T gT (s34.sqT k2)) (fun z h => ⟨(hz.1 z h).1, Int.le_trans (hz.1 z h).2 (by decide)⟩) (by omega)
    · intro i hi
      have h6 := sum_bnd (l := ((costsOf G).getD i []).take (cnt i S)) fun z hz => (hpre i).1 z (List.mem_of_mem_take hz)
      have h7 := (hpre i).2
      have h8 : (((costsOf G).getD i []).take (cnt i S)).length ≤ 100 := by rw [List.length_take]; omega
      show 0 ≤ (((costsOf G).getD i []).take (cnt i S)).sum ∧ (((costsOf G).getD i []).take (cnt i S)).sum ≤ 2 ^ 40
      omega
    · rw [hm, filter_all]
      have e : ((List.range G.R.length).map fun i => (((costsOf G).getD i []).take (cnt i S)).sum).sum = potOf (costsOf G) S := by
        unfold potOf
        rw [show (costsOf G).length = G.R.length by unfold costsOf; rw [List.length_map]]
      rw [e]
      exact q H5 (s34.trans (Sm.tabbed hT gT))
end
end Tr

/-! Lists of our own. -/
namespace Tr
open PySem PySem.Spec PyProof.Rows L2 GxR Gq
open PySem.W (AllAlike dataLt dataLe EachIs alike alikeAll)
/-- what H has stands in Hc; the lists of L are new, and hold data of tuples -/
structure Own (K : PySem.W.Frag) (H Hc : Hp) (L : List (Addr × List PyData)) : Prop where
  sm : Sm H Hc
  nd : (L.map Prod.fst).Nodup
  at_ : ∀ q ∈ L, H q.1 = none ∧ tupOnlyAll q.2 = true ∧ ∃ xs, Hc q.1 = some (.lst xs) ∧ DpAll K Hc xs q.2
section
variable {K : PySem.W.Frag} {H Hc Hd : Hp} {L L' : List (Addr × List PyData)} {p : Addr} {ds : List PyData} {xs : List V}
theorem Own.nil (e : Sm H Hc) : Own K H Hc [] := ⟨e, .nil, fun _ h => by cases h⟩
theorem Own.up (o : Own K H Hc L) (e : Sm Hc Hd) : Own K H Hd L := ⟨o.sm.trans e, o.nd, fun q hq => by
  obtain ⟨h1, h2, xs, h3, h4⟩ := o.at_ q hq
  exact ⟨h1, h2, xs, e.keep _ _ h3 (fun _ z => nomatch z), e.dpAll _ h4⟩⟩
theorem Own.new (o : Own K H Hc L) (hp : Hc p = none) (ht : tupOnlyAll ds = true) (hd : DpAll K Hc xs ds) : Own K H (upd Hc p (.lst xs)) ((p, ds) :: L) := by
  have o2 := o.up (Sm.upd (o := .lst xs) hp)
  refine ⟨o2.sm, ?_, fun q hq => ?_⟩
  · rw [List.map_cons, List.nodup_cons]
    refine ⟨fun z => ?_, o.nd⟩
    obtain ⟨q, hq, e⟩ := List.mem_map.mp z
    obtain ⟨_, _, xs', h3, _⟩ := o.at_ q hq
    have e' : q.1 = p := e
    rw [e', hp] at h3
    cases h3
  · rcases List.mem_cons.mp hq with rfl | hq
    · exact ⟨o.sm.fr _ hp, ht, xs, upd_same, (Sm.upd hp).dpAll _ hd⟩
    · exact o2.at_ q hq
theorem Own.perm (o : Own K H Hc L) (h : L.Perm L') : Own K H Hc L' := ⟨o.sm, (h.map Prod.fst).nodup_iff.mp o.nd, fun q hq => o.at_ q (h.mem_iff.mpr hq)⟩
theorem Own.tail {q : Addr × List PyData} (o : Own K H Hc (q :: L)) : Own K H Hc L := ⟨o.sm, (List.nodup_cons.mp (show ((q :: L).map Prod.fst).Nodup from o.nd)).2, fun r hr => o.at_ r (List.mem_cons_of_mem _ hr)⟩
theorem Own.head {q : Addr × List PyData} (o : Own K H Hc (q :: L)) : ∃ xs, Hc q.1 = some (.lst xs) ∧ DpAll K Hc xs q.2 := (o.at_ q (by simp)).2.2
theorem Own.swap {a b : Addr × List PyData} (o : Own K H Hc (a :: b :: L)) : Own K H Hc (b :: a :: L) := o.perm (.swap _ _ _)
theorem Own.rot3 {a b c : Addr × List PyData} (o : Own K H Hc (a :: b :: c :: L)) : Own K H Hc (c :: a :: b :: L) := o.perm ((List.Perm.cons a (.swap c b L)).trans (.swap c a (b :: L)))
theorem Own.rot3' {a b c : Addr × List PyData} (o : Own K H Hc (c :: a :: b :: L)) : Own K H Hc (a :: b :: c :: L) := o.perm ((List.Perm.swap a c (b :: L)).trans (.cons a (.swap b c L)))
/-- a list of our own grows -/
theorem Own.app {v : V} {d : PyData} (o : Own K H Hc ((p, ds) :: L)) (hx : Hc p = some (.lst xs)) (hv : Dp K Hc v d) (ht : tupOnly d = true) : Own K H (upd Hc p (.lst (xs ++ [v]))) ((p, ds ++ [d]) :: L) := by
  obtain ⟨hn, t1, xs', hx', hd⟩ := o.at_ (p, ds) (by simp)
  rw [show Hc (p, ds).1 = Hc p from rfl, hx] at hx'
  cases hx'
  have tk : TK Hc (upd Hc p (.lst (xs ++ [v]))) := TK.lst hx
  have sm : Sm H (upd Hc p (.lst (xs ++ [v]))) := by
    refine ⟨fun b u e n => ?_, fun b hb => ?_, fun b e => o.sm.fr b (upd_fr b e)⟩
    · rw [upd_ne (fun z => by rw [z] at e; rw [show H p = none from hn] at e; cases e)]
      exact o.sm.keep b u e n
    · obtain ⟨ps, e, t⟩ := o.sm.tab b hb
      exact ⟨ps, by rw [upd_ne (fun z => by rw [z, hx] at e; cases e)]; exact e, t⟩
  refine ⟨sm, o.nd, fun q hq => ?_⟩
  rcases List.mem_cons.mp hq with rfl | hq
  · refine ⟨hn, ?_, _, upd_same, ?_⟩
    · exact tupOnlyAll_iff.mpr fun x hx => by
        rcases List.mem_append.mp hx with z | z
        · exact tupOnlyAll_iff.mp t1 x z
        · rw [List.mem_singleton.mp z]; exact ht
    · exact (tk.dpAll _ t1 hd).append (.cons (tk.dp _ ht hv) .nil)
  · obtain ⟨h1, h2, ys, h3, h4⟩ := o.at_ q (List.mem_cons_of_mem _ hq)
    have hne : q.1 ≠ p := fun z => by
      have := (List.nodup_cons.mp (show (p :: L.map Prod.fst).Nodup from o.nd)).1
      exact this (by rw [← z]; exact List.mem_map_of_mem hq)
    exact ⟨h1, h2, ys, by rw [upd_ne hne]; exact h3, tk.dpAll _ h2 h4⟩
end
/-! ### small things -/
theorem atI_end {xs : List V} {v : V} (h : xs.getLast? = some v) : atI xs (-1) = some v := by
  obtain ⟨l, rfl⟩ := List.getLast?_eq_some_iff.mp h
  exact atI_last l v
theorem inV_ints (i : Int) : ∀ l : List Int, inV (.int i) (l.map V.int) = decide (i ∈ l)
  | [] => rfl
  | j :: l => by
    have ih := inV_ints i l
    unfold inV at ih ⊢
    rw [List.map_cons, List.any_cons, ih]
    by_cases h : i = j
    · subst h
      simp [eqV]
    · have h2 : ¬ (j = i) := fun z => h z.symm
      simp [eqV, h, h2]
theorem flat_ints (l : List Int) : (l.map V.int).all flatV = true := by
  rw [List.all_map]
  exact List.all_eq_true.mpr fun _ _ => rfl
theorem alikeAll_ints : ∀ l m : List Int, alikeAll (l.map PyData.int) (m.map PyData.int) = true
  | [], m => by simp [alikeAll]
  | _ :: _, [] => by simp [alikeAll]
  | a :: l, b :: m => by
    rw [List.map_cons, List.map_cons, alikeAll, alikeAll_ints l m]
    rfl
theorem eW_ints (w : Way) : eW w = .tuple ((w.map fun (i : Nat) => (i : Int)).map PyData.int) := by
  unfold eW
  rw [List.map_map]
  rfl
theorem alike_ways (u w : Way) : alike (eW u) (eW w) = true := by
  rw [eW_ints, eW_ints, alike]
  exact alikeAll_ints _ _
theorem depth_ints : ∀ l : List Int, PyData.depthAll (l.map PyData.int) ≤ 1
  | [] => by simp [PyData.depthAll]
  | a :: l => by
    have := depth_ints l
    rw [List.map_cons, PyData.depthAll, PyData.depth]
    omega
theorem depth_way (w : Way) : (eW w).depth ≤ 60 := by
  rw [eW_ints, PyData.depth]
  have := depth_ints (w.map fun (i : Nat) => (i : Int))
  omega
end Tr

/-! Def: all_ways. -/
namespace Tr
open PySem PySem.Spec PyProof.Rows L2 GxR Gq
open PySem.W (AllAlike)
def eRow (r : Row) : PyData := .tuple [eW r.1, eIs r.2]
def waysOf (n : Nat) (R : List (Int × Int)) (s g : Int) : List Way := sortD eW (rawW n R s g)
theorem ifT {c : Prop} [Decidable c] {p q : Prop} (h : c) (hp : p) : if c then p else q := by rw [if_pos h]; exact hp
theorem ifF {c : Prop} [Decidable c] {p q : Prop} (h : ¬ c) (hq : q) : if c then p else q := by rw [if_neg h]; exact hq
/-! ### turns, plainly -/
def candsTo (R : List (Int × Int)) (row : Row) (j : Nat) : List Row := (R.zipIdx.take j).filterMap (stepR row)
theorem candsTo_zero (R : List (Int × Int)) (row : Row) : candsTo R row 0 = [] := rfl
theorem candsTo_all (R : List (Int × Int)) (row : Row) : candsTo R row R.length = cands R row := by
  unfold candsTo cands
  rw [List.take_of_length_le (by simp)]
theorem candsTo_succ {R : List (Int × Int)} {row : Row} {j : Nat} {r : Int × Int} (h : R[j]? = some r) : candsTo R row (j + 1) = candsTo R row j ++ (stepR row (r, j)).toList := by
  unfold candsTo
  have e : R.zipIdx[j]? = some (r, j) := by
    rw [List.getElem?_zipIdx, h]
    simp
  obtain ⟨hj, ej⟩ := List.getElem?_eq_some_iff.mp e
  rw [← List.take_append_getElem hj, ej, List.filterMap_append]
  cases hs : stepR row (r, j) <;> simp [hs]
theorem candsAll_append (R : List (Int × Int)) (a b : List Row) : candsAll R (a ++ b) = candsAll R a ++ candsAll R b := List.flatMap_append ..
theorem candsAll_succ {R : List (Int × Int)} {rows : List Row} {i : Nat} {row : Row} (h : rows[i]? = some row) : candsAll R (rows.take (i + 1)) = candsAll R (rows.take i) ++ cands R row := by
  obtain ⟨hi, ei⟩ := List.getElem?_eq_some_iff.mp h
  rw [← List.take_append_getElem hi, ei, candsAll_append]
  congr 1
  simp [candsAll]
theorem goals_snoc (g : Int) (l : List Row) (x : Row) : goalsOf g (l ++ [x]) = goalsOf g l ++ if isGoal g x = true then [x.1] else [] := by
  unfold goalsOf
  rw [List.filter_append, List.map_append]
  congr 1
  by_cases h : isGoal g x = true
  · simp [h]
  · simp [h]
theorem rest_snoc (g : Int) (l : List Row) (x : Row) : restOf g (l ++ [x]) = restOf g l ++ if isGoal g x = true then [] else [x] := by
  unfold restOf
  rw [List.filter_append]
  congr 1
  by_cases h : isGoal g x = true
  · simp [h]
  · simp [h]
theorem goals_len (g : Int) (l : List Row) : (goalsOf g l).length ≤ l.length := by
  unfold goalsOf
  rw [List.length_map]
  exact List.length_filter_le ..
theorem rest_len (g : Int) (l : List Row) : (restOf g l).length ≤ l.length := List.length_filter_le ..
theorem to_row (r : Row) : tupOnly (eRow r) = true := by
  show (tupOnly (eW r.1) && (tupOnly (eIs r.2) && true)) = true
  have h : tupOnly (eIs r.2) = true := by
    show tupOnlyAll (r.2.map PyData.int) = true
    exact tupOnlyAll_map fun _ _ => rfl
  rw [to_way, h]
  rfl
section
variable {K : PySem.W.Frag} {H : Hp}
theorem dp_ints {v : V} {l : List Int} (h : Dp K H v (eIs l)) : ∃ a, v = .ref a ∧ SqT K H a (l.map V.int) := by
  obtain ⟨a, xs, rfl, h1, h2⟩ := dp_tup h
  rw [ints_of_dpAll h2] at h1
  exact ⟨a, rfl, h1⟩
theorem dp_row {v : V} {r : Row} (h : Dp K H v (eRow r)) : ∃ a b c, v = .ref a ∧ SqT K H a [.ref b, .ref c] ∧ SqT K H b (r.1.map fun (i : Nat) => V.int (i : Int)) ∧ SqT K H c (r.2.map V.int) := by
  obtain ⟨a, zs, rfl, h1, h2⟩ := dp_tup h
  cases h2 with
  | cons d1 t1 =>
    cases t1 with
    | cons d2 t2 =>
      cases t2
      obtain ⟨b, rfl, hb⟩ := dp_way d1
      obtain ⟨c, rfl, hc⟩ := dp_ints d2
      exact ⟨a, b, c, rfl, h1, hb, hc⟩
theorem dp_nr {v : V} {r : Int × Int} (h : Dp K H v (eNr r)) : ∃ a, v = .ref a ∧ SqT K H a [.int r.1, .int r.2, .int 0, .int 0] := by
  obtain ⟨a, zs, rfl, h1, h2⟩ := dp_tup h
  cases h2 with
  | cons d1 t1 =>
    cases t1 with
    | cons d2 t2 =>
      cases t2 with
      | cons d3 t3 =>
        cases t3 with
        | cons d4 t4 =>
          cases t4
          rw [dp_int d1, dp_int d2, dp_int d3, dp_int d4] at h1
          exact ⟨a, rfl, h1⟩
theorem dp_net {v : V} {n : Nat} {R : List (Int × Int)} (h : Dp K H v (eNet n R)) : ∃ a b xs, v = .ref a ∧ SqT K H a [.int n, .ref b] ∧ SqT K H b xs ∧ DpAll K H xs (R.map eNr) := by
  obtain ⟨a, zs, rfl, h1, h2⟩ := dp_tup h
  cases h2 with
  | cons d1 t1 =>
    cases t1 with
    | cons d2 t2 =>
      cases t2
      obtain ⟨b, xs, rfl, h3, h4⟩ := dp_tup d2
      rw [dp_int d1] at h1
      exact ⟨a, b, xs, rfl, h1, h3, h4⟩
theorem way_snoc (w : Way) (j : Nat) : (w.map fun (i : Nat) => V.int (i : Int)) ++ [V.int (j : Int)] = (w ++ [j]).map fun (i : Nat) => V.int (i : Int) := by simp
theorem dpAll_way : ∀ w : Way, DpAll K H (w.map fun (i : Nat) => V.int (i : Int)) (w.map fun (i : Nat) => PyData.int (i : Int))
  | [] => .nil
  | i :: l => .cons (.int _) (dpAll_way l)
theorem dp_wayOf {a : Addr} {w : Way} (h : SqT K H a (w.map fun (i : Nat) => V.int (i : Int))) : Dp K H (.ref a) (eW w) := .tup h (dpAll_way w)
theorem dp_intsOf {a : Addr} {l : List Int} (h : SqT K H a (l.map V.int)) : Dp K H (.ref a) (eIs l) := .tup h (dpAll_ints l)
end
/-- nets as they are in games -/
structure NetOk (n : Nat) (R : List (Int × Int)) (s g : Int) : Prop where
  n6 : n ≤ 6
  m8 : R.length ≤ 8
  rng : ∀ r ∈ R, 0 ≤ r.2 ∧ r.2 < (n : Int)
  s0 : 0 ≤ s
  s1 : s < (n : Int)
section
variable {P : Program} {w : World} {K : PySem.W.Frag} {mg : Str → Option Value} {base : Heap} {tabs : List Addr}
theorem sc_ways : FnScope ["net", "start", "goal", "found", "rows", "more", "way", "nodes", "index", "road"] ["net", "start", "goal"] (defScope s_all_ways) := ⟨rfl, rfl, rfl, by decide +kernel, rfl, by decide +kernel, by decide +kernel⟩
def spWays (K : PySem.W.Frag) : Sp := fun vs H Q _ => ∃ (v : V) (n : Nat) (R : List (Int × Int)) (s g : Int), vs = [v, .int s, .int g] ∧ Dp K H v (eNet n R) ∧ NetOk n R s g ∧
  ∀ p xs H', Sm H H' → H p = none → H' p = some (.lst xs) → DpAll K H' xs ((waysOf n R s g).map eW) → Q (.ref p) H'
theorem pow8 {k : Nat} (h : k < 6) : k * 8 ^ k + 8 ^ k * 8 ≤ 500000 := by
  have : k = 0 ∨ k = 1 ∨ k = 2 ∨ k = 3 ∨ k = 4 ∨ k = 5 := by omega
  rcases this with rfl | rfl | rfl | rfl | rfl | rfl <;> decide
theorem iter_succ (R : List (Int × Int)) (g : Int) (k : Nat) (st : List Way × List Row) : iterW R g (k + 1) st = turnW R g (iterW R g k st) := rfl
theorem ok_ways {f c : Addr} (F : Fx K mg "all_ways" s_all_ways f c) (T : Tx K mg) : Prom P w K mg base "all_ways" ["net", "start", "goal"] (spWays K) 1 := by
  refine F.prom sc_ways (fun vs H Q E h => ?_) (fun _ _ _ _ _ _ us hl => match us, hl with | [_, _, _], _ => rfl) (fun A outer s H vs Q E hr h => ?_)
  · obtain ⟨_, _, _, _, _, rfl, _⟩ := h
    rfl
  · obtain ⟨vn, n, R, st, g, rfl, hnet, hok, q⟩ := h
    have nd := sc_ways.nd
    have hu : (A.deeper (envOfC "all_ways" (defScope s_all_ways) s.heap.objs.size f (.ref c))).units + 200 < cLine := by have := hr.un; omega
    refine ⟨_, pss_cons (ps_par (i := 3) (j := 4) rfl nd rfl rfl (by decide) rfl rfl (pa_cons (pe_lst pa_nil) (pa_cons (pe_lst (pa_cons (pe_tup (pa_cons (pe_tup pa_nil) (pa_cons (pe_tup (pa_cons (pv 1) pa_nil)) pa_nil))) pa_nil)) pa_nil)) (by rfl))
      (pss_cons (ps_while PassesOwn.never (pt_truth (pv 4) (fun _ => rfl))
        (pss_cons (ps_set (i := 5) nd rfl (Or.inl rfl) (pe_lst pa_nil))
        (pss_cons (ps_for PassesOwn.never rfl (pi_list (pv 4)) (pg_tup rfl (pgs_cons (pg_name (i := 6) nd rfl (Or.inl rfl)) (pgs_cons (pg_name (i := 7) nd rfl (Or.inl rfl)) pgs_nil)))
          (pss_one (ps_for PassesOwn.never rfl (pi_enumT (by rfl) T.enum (pa_cons (pe_ix ix_tup (pv 0) pe_int (fun _ _ => rfl)) pa_nil)) (pg_tup rfl (pgs_cons (pg_name (i := 8) nd rfl (Or.inl rfl)) (pgs_cons (pg_name (i := 9) nd rfl (Or.inl rfl)) pgs_nil)))
            (pss_one (ps_if (pw_and (pt_cmpR op_eq (pe_ix ix_tup (pv 9) pe_int (fun _ _ => rfl)) (pe_ix ix_tup (pv 7) (pe_un un_neg pe_int) (fun _ _ => rfl)) (nomark _)) (pw_and1 (pt_cmpR op_notIn_seq (pe_ix ix_tup (pv 9) pe_int (fun _ _ => rfl)) (pv 7) (by rfl)))).pt
              (pss_one (ps_if (pt_cmpR op_eq (pe_ix ix_tup (pv 9) pe_int (fun _ _ => rfl)) (pv 2) (nomark _))
                (pss_one (ps_expr (pe_bm PySem.F.plainAttrs_list PySem.F.slot_list_append PySem.F.type_list_append mt_append (pv 3) (pa_cons (pe_tup (StX.pa_star (pv 6) (pa_cons (pv 8) pa_nil))) pa_nil))))
                (pss_one (ps_expr (pe_bm PySem.F.plainAttrs_list PySem.F.slot_list_append PySem.F.type_list_append mt_append (pv 5) (pa_cons (pe_tup (pa_cons (pe_tup (StX.pa_star (pv 6) (pa_cons (pv 8) pa_nil))) (pa_cons (pe_tup (StX.pa_star (pv 7) (pa_cons (pe_ix ix_tup (pv 9) pe_int (fun _ _ => rfl)) pa_nil))) pa_nil))) pa_nil))))))
              pss_nil)))))
        (pss_one (ps_set (i := 4) nd rfl (Or.inl rfl) (pv 5))))))
      (pss_one (ps_ret (pe_callB (cr_sortedD (enc := eW) hu) (by rfl) T.sorted (by decide +kernel) (pa_cons (pv 3) pa_nil))))), ?_⟩
    obtain ⟨na0, nb, xs, rfl, hn1, hn2, hn3⟩ := dp_net hnet
    have hlx : xs.length = R.length := by rw [hn3.length, List.length_map]
    have one : (1 : Nat) ≤ sizeLine := by decide
    have two : (2 : Nat) ≤ sizeLine := by decide
    refine ⟨Nat.zero_le _, fun Fa hF => ⟨Nat.zero_le _, fun t0 h0 => ⟨_, rfl, one, fun t1 h1 => ⟨two, fun t2 h2 => ⟨one, fun RO hRO => ⟨_, _, rfl, ?_⟩⟩⟩⟩⟩⟩
    have o1 : Own K H _ [(Fa, [])] := (Own.nil (Sm.refl H)).new hF rfl .nil
    have o2 := ((o1.up (Sm.upd (o := .tup []) h0)).up (Sm.upd (o := .tup [.int st]) h1)).up (Sm.upd (o := .tup [.ref t0, .ref t1]) h2)
    have o3 := o2.new (ds := [eRow ([], [st])]) hRO (by rw [tupOnlyAll, to_row]; rfl) (.cons (.tup (.inl (.inl upd_same)) (.cons (dp_wayOf (w := []) ((Sm.upd h2).sqT ((Sm.upd h1).sqT (.inl (.inl upd_same))))) (.cons (dp_intsOf (l := [st]) ((Sm.upd h2).sqT (.inl (.inl upd_same)))) .nil))) .nil)
    refine ⟨fun m σ Hc => ∃ k RO' o5 o6 o7 o8 o9, k ≤ n ∧ m = n - k ∧ σ = [some (.ref na0), some (.int st), some (.int g), some (.ref Fa), some (.ref RO'), o5, o6, o7, o8, o9] ∧ Own K H Hc [(RO', (iterW R g k (startW st)).2.map eRow), (Fa, (iterW R g k (startW st)).1.map eW)], ⟨_, 0, RO, _, _, _, _, _, Nat.zero_le _, rfl, rfl, o3⟩, ?_⟩
    rintro m σ Hc ⟨k, RO', o5, o6, o7, o8, o9, hk, rfl, rfl, ow⟩
    obtain ⟨rs, hrs, drs⟩ := ow.head
    have hlr : rs.length = (iterW R g k (startW st)).2.length := by rw [drs.length, List.length_map]
    refine ⟨_, rfl, !rs.isEmpty, .inl ⟨rs, .inl (.inl hrs), rfl⟩, ?_⟩
    have inv := winv (g := g) hok.rng hok.s0 hok.s1 k
    by_cases he : (iterW R g k (startW st)).2 = []
    · have e : rs = [] := List.length_eq_zero_iff.mp (by rw [hlr, he]; rfl)
      show if (!rs.isEmpty) = true then _ else _
      rw [if_neg (by rw [e]; decide)]
      obtain ⟨fs, hfs, dfs⟩ := ow.tail.head
      refine ⟨_, rfl, Fa, fs, (iterW R g k (startW st)).1, rfl, .inl (.inl hfs), dfs, AllAlike.of fun u v => alike_ways u v, fun w hw => ⟨?_, depth_way w⟩, fun p ys hp hd => ?_⟩
      · have hne := (inv.found w hw).1
        cases w with
        | nil => exact absurd rfl hne
        | cons i w => exact ⟨_, _, rfl⟩
      · refine q p ys _ (ow.sm.trans (Sm.upd hp)) (ow.sm.fr _ hp) upd_same ((Sm.upd hp).dpAll _ ?_)
        rw [raw_of hok.rng hok.s0 hok.s1 he] at hd
        exact hd
    · have hk' : k < n := by
        refine Nat.lt_of_le_of_ne hk fun z => he ?_
        rw [z]
        exact rows_out hok.rng hok.s0 hok.s1
      have hne : rs ≠ [] := fun z => he (List.length_eq_zero_iff.mp (by rw [← hlr, z]; rfl))
      show if (!rs.isEmpty) = true then _ else _
      rw [if_pos (by cases rs with | nil => exact absurd rfl hne | cons a b => rfl)]
      generalize hst : iterW R g k (startW st) = S at *
      obtain ⟨a, rows⟩ := S
      have hsz : ∀ l : List Row, l.length ≤ rows.length * R.length → (a ++ goalsOf g l).length < sizeLine ∧ (restOf g l).length < sizeLine := fun l hl => by
        have hm : R.length ≤ 8 := hok.m8
        obtain ⟨z1, z2⟩ := iter_len (R := R) (g := g) (s := st) (m := 8) hm (by decide) k
        rw [hst] at z1 z2
        have z3 : rows.length * R.length ≤ 8 ^ k * 8 := Nat.mul_le_mul z1 hm
        have z4 := pow8 (k := k) (by have := hok.n6; omega)
        have z5 := goals_len g l
        have z6 := rest_len g l
        have z7 : a.length ≤ k * 8 ^ k := z2
        have hs : sizeLine = 16777216 := by decide
        rw [List.length_append, hs]
        omega
      have hcl : ∀ i row j, rows[i]? = some row → (candsAll R (rows.take i) ++ candsTo R row j).length ≤ rows.length * R.length := fun i row j hr => by
        obtain ⟨hi, _⟩ := List.getElem?_eq_some_iff.mp hr
        have y1 := candsAll_len R (rows.take i)
        have y2 : (candsTo R row j).length ≤ R.length := by
          unfold candsTo
          refine Nat.le_trans (List.length_filterMap_le _ _) ?_
          rw [List.length_take, List.length_zipIdx]
          exact Nat.min_le_right _ _
        rw [List.length_take, Nat.min_eq_left (Nat.le_of_lt hi)] at y1
        rw [List.length_append]
        have y3 : i * R.length + R.length ≤ rows.length * R.length := by
          rw [← Nat.succ_mul]
          exact Nat.mul_le_mul_right _ hi
        omega
      refine ⟨fun σ' H' => ∃ RO2 p5 p6 p7 p8 p9, σ' = [some (.ref na0), some (.int st), some (.int g), some (.ref Fa), some (.ref RO2), p5, p6, p7, p8, p9] ∧ Own K H H' [(RO2, (iterW R g (k + 1) (startW st)).2.map eRow), (Fa, (iterW R g (k + 1) (startW st)).1.map eW)], fun σ' H' ⟨RO2, p5, p6, p7, p8, p9, e1, e2⟩ => ⟨n - (k + 1), by omega, k + 1, RO2, p5, p6, p7, p8, p9, hk', rfl, e1, e2⟩, ?_⟩
      refine ⟨Nat.zero_le _, fun M hM => ?_⟩
      have ow1 := ow.new (ds := []) hM rfl .nil
      have hrs1 : L2.upd Hc M (.lst []) RO' = some (.lst rs) := (Sm.upd hM).keep _ _ hrs fun _ z => nomatch z
      refine ⟨_, rfl, RO', rfl, ⟨rs, .inl (.inl hrs1)⟩, ?_⟩
      refine for_list (xs := rs) (fun i σ Hd => ∃ q6 q7 q8 q9, σ = [some (.ref na0), some (.int st), some (.int g), some (.ref Fa), some (.ref RO'), some (.ref M), q6, q7, q8, q9] ∧ Own K H Hd [(M, (restOf g (candsAll R (rows.take i))).map eRow), (Fa, (a ++ goalsOf g (candsAll R (rows.take i))).map eW), (RO', rows.map eRow)] ∧ Hd RO' = some (.lst rs)) ?_ ?_ ?_ ?_
      · refine ⟨_, _, _, _, rfl, ?_, hrs1⟩
        have e1 : (a ++ goalsOf g (candsAll R (rows.take 0))) = a := by
          show a ++ [] = a
          rw [List.append_nil]
        rw [e1]
        exact ow1.perm (.cons _ (.swap _ _ _))
      · rintro i σ Hd hi ⟨q6, q7, q8, q9, rfl, o, h9⟩
        exact .inl (.inl h9)
      · rintro i x σ Hd hx ⟨q6, q7, q8, q9, rfl, o, h9⟩
        have dr : DpAll K Hd rs (rows.map eRow) := by
          obtain ⟨ys, e1, e2⟩ := (o.at_ (RO', rows.map eRow) (by simp)).2.2
          rw [show Hd (RO', rows.map eRow).1 = Hd RO' from rfl, h9] at e1
          cases e1
          exact e2
        obtain ⟨row, erow, drow⟩ := dpAll_map_get' dr hx
        obtain ⟨xa, wa, na, rfl, g1, g2, g3⟩ := dp_row drow
        refine ⟨xa, _, rfl, g1, rfl, _, _, rfl, _, _, rfl, rfl, ?_⟩
        refine ⟨_, rfl, _, _, _, _, rfl, rfl, o.sm.sqT hn1, atI_nat (j := 1) rfl, nb, xs, rfl, o.sm.sqT hn2, ?_⟩
        refine for_it (walk_enumT (K := K) (a := nb) (xs := xs)) (fun j σ He => ∃ r8 r9, σ = [some (.ref na0), some (.int st), some (.int g), some (.ref Fa), some (.ref RO'), some (.ref M), some (.ref wa), some (.ref na), r8, r9] ∧ Own K H He [(M, (restOf g (candsAll R (rows.take i) ++ candsTo R row j)).map eRow), (Fa, (a ++ goalsOf g (candsAll R (rows.take i) ++ candsTo R row j)).map eW), (RO', rows.map eRow)] ∧ He RO' = some (.lst rs) ∧ SqT K He wa (row.1.map fun (i : Nat) => V.int (i : Int)) ∧ SqT K He na (row.2.map V.int)) ?_ ?_ ?_ ?_
        · refine ⟨_, _, rfl, ?_, h9, g2, g3⟩
          rw [candsTo_zero, List.append_nil]
          exact o
        · rintro j σ He hj ⟨r8, r9, rfl, oe, _⟩
          exact oe.sm.sqT hn2
        · rintro j x σ He He' hj ⟨r8, r9, rfl, oe, k1, k2, k3⟩ ⟨Tp, x0, y0, rfl, hT, rfl, ex0, ey0⟩
          cases ex0
          have s1 := Sm.upd (o := .tup [.int (j : Int), y0]) hT
          obtain ⟨r, er, dr'⟩ := dpAll_map_get' (oe.sm.dpAll _ hn3) ey0
          obtain ⟨ra, rfl, g4⟩ := dp_nr dr'
          have oe1 := oe.up s1
          have g4' := s1.sqT g4
          have k1' := s1.keep _ _ k1 fun _ z => nomatch z
          have k2' := s1.sqT k2
          have k3' := s1.sqT k3
          have rok := (inv.rows row (List.mem_of_getElem? erow)).1
          have hl2 := hcl i row j erow
          have hl3 := hsz _ hl2
          obtain ⟨last, hlast⟩ : ∃ z, row.2.getLast? = some z := by
            cases h8 : row.2.getLast? with
            | none =>
              have := rok.len
              rw [List.getLast?_eq_none_iff.mp h8] at this
              simp at this
            | some z => exact ⟨z, rfl⟩
          have hlastV : (row.2.map V.int).getLast? = some (.int last) := by
            rw [List.getLast?_map, hlast]
            rfl
          have esucc := candsTo_succ (row := row) er
          refine ⟨Tp, _, rfl, .inl (.inl upd_same), rfl, _, _, rfl, _, _, rfl, rfl, ?_⟩
          refine ⟨_, rfl, _, _, _, _, rfl, rfl, g4', atI_nat (j := 0) rfl, _, rfl, _, rfl, _, _, _, _, rfl, rfl, k3', atI_end hlastV, rfl, _, rfl, ?_⟩
          by_cases c1 : r.1 = last
          · refine ifT (by rw [c1]; simp) ?_
            refine ⟨_, rfl, _, _, _, _, rfl, rfl, g4', atI_nat (j := 1) rfl, _, rfl, _, _, rfl, .inr k3', rfl, flat_ints _, _, rfl, ?_⟩
            rw [if_pos rfl, inV_ints]
            by_cases c2 : r.2 ∈ row.2
            · refine ifF (by simp [c2]) ?_
              have e0 : stepR row (r, j) = none := by
                unfold stepR
                rw [if_neg (fun z => z.2 c2)]
              rw [e0, Option.toList_none, List.append_nil] at esucc
              exact ⟨_, _, rfl, by rw [esucc]; exact oe1, k1', k2', k3'⟩
            · refine ifT (by simp [c2]) ?_
              have e0 : stepR row (r, j) = some (row.1 ++ [j], row.2 ++ [r.2]) := by
                unfold stepR
                rw [if_pos ⟨by rw [hlast, c1], c2⟩]
              rw [e0, Option.toList_some] at esucc
              have eg : isGoal g (row.1 ++ [j], row.2 ++ [r.2]) = decide (r.2 = g) := by
                unfold isGoal
                rw [List.getLast?_concat]
                simp
              refine ⟨_, rfl, _, _, _, _, rfl, rfl, g4', atI_nat (j := 1) rfl, _, rfl, rfl, _, rfl, ?_⟩
              by_cases c3 : r.2 = g
              · refine ifT (by rw [c3]; simp) ?_
                obtain ⟨fs, hfs, dfs⟩ := oe1.swap.head
                refine ⟨_, rfl, .inl ⟨rfl, _, .inl (.inl hfs)⟩, ?_⟩
                refine ⟨_, rfl, wa, _, rfl, .inl k2', _, rfl, ?_⟩
                have hlw : row.1.length ≤ 6 := by
                  have := (inv.rows row (List.mem_of_getElem? erow)).2
                  have := hok.n6
                  omega
                refine ⟨?_, fun t ht => ⟨Fa, fs, _, rfl, rfl, (Sm.upd ht).keep _ _ hfs (fun _ z => nomatch z), ?_, ?_⟩⟩
                · rw [List.length_append, List.length_map]
                  have hs : sizeLine = 16777216 := by decide
                  show row.1.length + 1 ≤ _
                  omega
                · rw [dfs.length, List.length_map]
                  exact hl3.1
                · have oe2 := ((oe1.swap.up (Sm.upd (o := .tup ((row.1.map fun (i : Nat) => V.int (i : Int)) ++ [V.int (j : Int)])) ht)).app (v := .ref t) (d := eW (row.1 ++ [j])) ((Sm.upd ht).keep _ _ hfs fun _ z => nomatch z) (dp_wayOf (by rw [← way_snoc]; exact .inl (.inl upd_same))) (to_way _)).swap
                  have tk : TK (L2.upd He Tp (.tup [.int (j : Int), .ref ra])) (L2.upd (L2.upd (L2.upd He Tp (.tup [.int (j : Int), .ref ra])) t (.tup ((row.1.map fun (i : Nat) => V.int (i : Int)) ++ [V.int (j : Int)]))) Fa (.lst (fs ++ [V.ref t]))) :=
                    (Sm.upd ht).tk.trans (TK.lst ((Sm.upd ht).keep _ _ hfs fun _ z => nomatch z))
                  refine ⟨_, _, rfl, ?_, ?_, tk.sqT k2', tk.sqT k3'⟩
                  · rw [esucc, ← List.append_assoc, goals_snoc, rest_snoc, eg, if_pos (by rw [c3]; simp), if_pos (by rw [c3]; simp), List.append_nil, ← List.append_assoc, List.map_append]
                    exact oe2
                  · have hne2 : RO' ≠ Fa := fun z => by
                      have := oe.nd
                      simp [z] at this
                    rw [upd_ne hne2]
                    exact (Sm.upd ht).keep _ _ k1' fun _ z => nomatch z
              · refine ifF (by simp [c3]) ?_
                obtain ⟨ms, hms, dms⟩ := oe1.head
                refine ⟨_, rfl, .inl ⟨rfl, _, .inl (.inl hms)⟩, ?_⟩
                have hlw : row.1.length ≤ 6 := by
                  have := (inv.rows row (List.mem_of_getElem? erow)).2
                  have := hok.n6
                  omega
                have hs : sizeLine = 16777216 := by decide
                have hl4 := rok.len
                refine ⟨_, rfl, wa, _, rfl, .inl k2', _, rfl, ?_⟩
                refine ⟨?_, fun t ht => ⟨_, rfl, na, _, rfl, .inl ((Sm.upd ht).sqT k3'), _, rfl, _, _, _, _, rfl, rfl, (Sm.upd ht).sqT g4', atI_nat (j := 1) rfl, ?_, fun t2 ht2 => ⟨two, fun t3 ht3 => ⟨M, ms, _, rfl, rfl, (Sm.upd ht3).keep _ _ ((Sm.upd ht2).keep _ _ ((Sm.upd ht).keep _ _ hms (fun _ z => nomatch z)) (fun _ z => nomatch z)) (fun _ z => nomatch z), ?_, ?_⟩⟩⟩⟩
                · rw [List.length_append, List.length_map]
                  show row.1.length + 1 ≤ _
                  omega
                · rw [List.length_append, List.length_map]
                  show row.2.length + 1 ≤ _
                  omega
                · rw [dms.length, List.length_map]
                  exact hl3.2
                · have hm3 := (Sm.upd (o := .tup [V.ref t, V.ref t2]) ht3).keep _ _ ((Sm.upd (o := .tup ((row.2.map V.int) ++ [V.int r.2])) ht2).keep _ _ ((Sm.upd (o := .tup ((row.1.map fun (i : Nat) => V.int (i : Int)) ++ [V.int (j : Int)])) ht).keep _ _ hms (fun _ z => nomatch z)) (fun _ z => nomatch z)) (fun _ z => nomatch z)
                  have oe2 := (((oe1.up (Sm.upd (o := .tup ((row.1.map fun (i : Nat) => V.int (i : Int)) ++ [V.int (j : Int)])) ht)).up (Sm.upd (o := .tup ((row.2.map V.int) ++ [V.int r.2])) ht2)).up (Sm.upd (o := .tup [V.ref t, V.ref t2]) ht3)).app (v := .ref t3) (d := eRow (row.1 ++ [j], row.2 ++ [r.2])) hm3
                    (.tup (.inl (.inl upd_same)) (.cons (dp_wayOf ((Sm.upd ht3).sqT ((Sm.upd ht2).sqT (by rw [← way_snoc]; exact .inl (.inl upd_same))))) (.cons (dp_intsOf ((Sm.upd ht3).sqT (by rw [List.map_append]; exact .inl (.inl upd_same)))) .nil))) (to_row _)
                  have tk := ((Sm.upd (o := .tup ((row.1.map fun (i : Nat) => V.int (i : Int)) ++ [V.int (j : Int)])) ht).tk.trans ((Sm.upd (o := .tup ((row.2.map V.int) ++ [V.int r.2])) ht2).tk.trans (Sm.upd (o := .tup [V.ref t, V.ref t2]) ht3).tk)).trans (TK.lst (o := .lst (ms ++ [V.ref t3])) hm3)
                  refine ⟨_, _, rfl, ?_, ?_, tk.sqT k2', tk.sqT k3'⟩
                  · rw [esucc, ← List.append_assoc, goals_snoc, rest_snoc, eg, if_neg (by simp [c3]), if_neg (by simp [c3]), List.append_nil, List.map_append]
                    exact oe2
                  · have hne2 : RO' ≠ M := fun z => by
                      have := oe.nd
                      simp [z] at this
                    rw [upd_ne hne2]
                    exact (Sm.upd ht3).keep _ _ ((Sm.upd ht2).keep _ _ ((Sm.upd ht).keep _ _ k1' (fun _ z => nomatch z)) (fun _ z => nomatch z)) (fun _ z => nomatch z)
          · refine ifF (by simp [c1]) ?_
            refine ifF (by decide) ?_
            have e0 : stepR row (r, j) = none := by
              unfold stepR
              rw [if_neg (fun z => by
                rw [hlast] at z
                exact c1 (Option.some.inj z.1).symm)]
            rw [e0, Option.toList_none, List.append_nil] at esucc
            exact ⟨_, _, rfl, by rw [esucc]; exact oe1, k1', k2', k3'⟩
        · rintro σ He ⟨r8, r9, rfl, oe, k1, k2, k3⟩
          rw [hlx, candsTo_all, ← candsAll_succ erow] at oe
          exact ⟨_, _, _, _, rfl, oe, k1⟩
      · rintro σ Hd ⟨q6, q7, q8, q9, rfl, o, h9⟩
        rw [show rows.take rs.length = rows from List.take_of_length_le (by rw [hlr]; exact Nat.le_refl _)] at o
        refine ⟨_, rfl, M, _, _, _, _, _, rfl, ?_⟩
        rw [iter_succ, hst]
        exact (o.perm (.cons _ (.swap _ _ _))).perm (.refl _) |>.perm (.cons _ (.swap _ _ _)) |> fun z => ⟨z.sm, (List.nodup_append.mp (show ([M, Fa] ++ [RO']).Nodup from z.nd)).1, fun q hq => z.at_ q (by
          rcases List.mem_cons.mp hq with h | h
          · rw [h]; simp [turnW]
          · rw [List.mem_singleton.mp h]; simp [turnW])⟩
end
end Tr

/-! Defs: is_table, is_game_road, is_player. -/
namespace Tr
open PySem PySem.Spec PyProof.Rows L2 GxR Gq
theorem cr_range1 {X : Cx} : CallR X (.type "range") (fun vs H Q => ∃ j : Int, vs = [V.int j] ∧ ∀ p, H p = none → Q (.ref p) (L2.upd H p (.rng 0 j))) := by
  intro pins s σ H vs us Q I r h
  obtain ⟨j, rfl, q⟩ := h
  obtain ⟨u1, rfl, rj⟩ := vals1 r
  obtain ⟨u, rfl⟩ := rj
  refine call_range_1 ⟨.ref s.heap.objs.size, L2.upd H s.heap.objs.size (.rng 0 j), I.laid (t' := s.toks + 1 + 1) (fun b o e => Heap.get?_push_of_some _ e) (Nat.le_refl _) ?_, rfl, q _ (I.hok.fresh (Nat.le_refl _))⟩
  exact ⟨s.toks, u, s.toks + 1, Heap.get?_push_size _ rfl⟩
theorem ga_lt {A A' : Around} {k : Nat} (h : GA A A') (hr : Room k A) : A'.depth < recursionLimit := by
  have := h.dp
  have := hr.dp
  omega
section
variable {P : Program} {w : World} {K : PySem.W.Frag} {mg : Str → Option Value} {base : Heap} {tabs : List Addr}
/-! ### is_table -/
structure TabOk (m : Nat) (l : List Int) : Prop where
  len : l.length = m
  m100 : m ≤ 100
  pos : 1 ≤ m
  rng : ∀ z ∈ l, 0 ≤ z ∧ z ≤ 1000
  asc : ∀ i a b, l[i]? = some a → l[i + 1]? = some b → a ≤ b
theorem sc_table : FnScope ["value", "length"] ["value", "length"] (defScope s_is_table) := ⟨rfl, rfl, rfl, by decide +kernel, rfl, by decide +kernel, by decide +kernel⟩
def spTable (K : PySem.W.Frag) (tabs : List Addr) : Sp := fun vs H Q _ => ∃ (v : V) (m : Nat) (l : List Int), vs = [v, .int (m : Int)] ∧ Dp K H v (eIs l) ∧ TabOk m l ∧ Gd tabs H ∧ ∀ H', Sm H H' → Q (.bl true) H'
theorem all_true (n : Nat) : (List.range n).all (fun _ => true) = true := List.all_eq_true.mpr fun _ _ => rfl
theorem ok_table {f c Pt fi ci : Addr} (F : Fx K mg "is_table" s_is_table f c) (FI : Fx K mg "is_in" s_is_in fi ci) (T : Tx K mg) (TB : TabB base mg c Pt) (hPt : Pt ∈ tabs) :
    Prom P w K mg base "is_table" ["value", "length"] (spTable K tabs) 2 := by
  refine F.prom sc_table (fun vs H Q E h => ?_) (fun _ _ _ _ _ _ us hl => match us, hl with | [_, _], _ => rfl) (fun A outer s H vs Q E hr h => ?_)
  · obtain ⟨_, _, _, rfl, _⟩ := h
    rfl
  · obtain ⟨v, m, l, rfl, hl, hok, hgd, q⟩ := h
    refine ⟨_, pss_cons (ps_if (pw_or (pt_not (pt_val (pe_callB call_isi (by rfl) T.isi (by decide +kernel) (pa_cons (pv 0) (pa_cons (pe_bltn (v := .ty "tuple") (by rfl) T.tuple (by decide +kernel) rfl) pa_nil)))))
        (pw_or (pt_cmpR op_ne (pe_callB call_len_seq (by rfl) T.len PySem.boot_len (pa_cons (pv 0) pa_nil)) (pv 1) (nomark _))
          (pw_or1 (pt_not (pt_val (pe_allN (P := Pt) (caps := []) hr (by rfl) T.all (by decide +kernel) TB rfl (by rfl) (by rfl) (pv 0) (fun _ => rfl))))))).pt (pss_one (ps_ret pe_bl)) pss_nil)
      (pss_one (ps_ret (pe_allN (P := Pt) (caps := [("value", 0)]) hr (by rfl) T.all (by decide +kernel) TB rfl (by rfl) (by rfl) (pe_callTy cr_range1 (by rfl) T.range (by decide +kernel) (pa_cons (pe_op op_sub (pv 1) pe_int) pa_nil)) (fun _ => rfl)))), ?_⟩
    obtain ⟨a, rfl, sq⟩ := dp_ints hl
    have gT : TabG H Pt := hgd Pt hPt
    have hlen := hok.len
    refine ⟨_, rfl, _, _, _, _, true, rfl, .ty "tuple", tyT sq, kit_ty (by decide +kernel), true, rfl, ?_⟩
    refine ifF (by decide) ?_
    refine ⟨_, rfl, a, _, rfl, .inr sq, _, rfl, rfl, _, rfl, ?_⟩
    refine ifF (by rw [List.length_map, hlen]; simp) ?_
    refine ⟨_, rfl, l.map V.int, fun _ => true, .tup sq, gT, ?_, fun H1 hT => ⟨_, rfl, ?_⟩⟩
    · intro i y hy A' cenv hA hsc
      rw [List.getElem?_map] at hy
      cases er : l[i]? with
      | none => rw [er] at hy; cases hy
      | some z =>
        rw [er] at hy
        have ey : V.int z = y := Option.some.inj hy
        subst ey
        have hz := hok.rng z (List.mem_of_getElem? er)
        obtain ⟨tc, htc⟩ := T.cost
        show QX _ _ _ _ _ _ (V.bl true)
        rw [show true = decide ((0 : Int) ≤ z ∧ z ≤ 1000) from (decide_eq_true hz).symm]
        exact qx_isin FI T (ga_lt hA hr) (by unfold Env.kindOf; rw [hsc]; rfl) (qx_name rfl) qx_int (qx_glob (by unfold Env.kindOf; rw [hsc]; rfl) htc ⟨_, rfl⟩)
    · refine ifF (by show ¬ (!(List.range _).all (fun _ => true)) = true; rw [all_true]; decide) ?_
      have s1 := Sm.tabbed hT gT
      refine ⟨_, rfl, _, _, rfl, rfl, (m : Int) - 1, rfl, fun p hp => ?_⟩
      have s2 := s1.trans (Sm.upd (o := .rng 0 ((m : Int) - 1)) hp)
      have gT2 : TabG (L2.upd H1 p (.rng 0 ((m : Int) - 1))) Pt := s2.gd hgd Pt hPt
      have hm1 := hok.m100
      have hm2 := hok.pos
      refine ⟨(List.range (m - 1)).map fun (i : Nat) => V.int (i : Int), fun _ => true, .rng (by rw [upd_same, show (m : Int) - 1 = ((m - 1 : Nat) : Int) by omega]) (by omega), gT2, ?_, fun H2 hT2 => ?_⟩
      · intro i y hy A' cenv hA hsc
        rw [List.getElem?_map] at hy
        cases er : (List.range (m - 1))[i]? with
        | none => rw [er] at hy; cases hy
        | some k =>
          rw [er] at hy
          have ey : V.int (k : Int) = y := Option.some.inj hy
          subst ey
          have hk : k < m - 1 := List.mem_range.mp (List.mem_of_getElem? er)
          have e1 : l[k]? = some l[k] := List.getElem?_eq_getElem (by omega)
          have e2 : l[k + 1]? = some l[k + 1] := List.getElem?_eq_getElem (by omega)
          have hle := hok.asc k _ _ e1 e2
          show QX _ _ _ _ _ _ (V.bl true)
          rw [show true = decide (l[k] ≤ l[k + 1]) from (decide_eq_true hle).symm]
          refine qx_le (qx_ixT (qx_name rfl) (qx_name rfl) (hidP_T gT2 (s2.sqT sq)) (atI_nat (by rw [List.getElem?_map, e1]; rfl))) (qx_ixT (i := ((k + 1 : Nat) : Int)) (qx_name rfl) (by
            rw [show ((k + 1 : Nat) : Int) = (k : Int) + 1 by omega]
            exact qx_add (qx_name rfl) qx_int) (hidP_T gT2 (s2.sqT sq)) (atI_nat (by rw [List.getElem?_map, e2]; rfl)))
      · show Q (.bl ((List.range _).all fun _ => true)) H2
        rw [all_true]
        exact q H2 (s2.trans (Sm.tabbed hT2 gT2))
/-! ### is_game_road -/
structure RoadOk (n m : Nat) (r : Int × Int × List Int) : Prop where
  n1 : 0 ≤ r.1 ∧ r.1 < (n : Int)
  n2 : 0 ≤ r.2.1 ∧ r.2.1 < (n : Int)
  ne : r.1 ≠ r.2.1
  tab : TabOk m r.2.2
theorem sc_groad : FnScope ["size", "length", "value"] ["size", "length", "value"] (defScope s_is_game_road) := ⟨rfl, rfl, rfl, by decide +kernel, rfl, by decide +kernel, by decide +kernel⟩
def spGroad (K : PySem.W.Frag) (tabs : List Addr) : Sp := fun vs H Q _ => ∃ (v : V) (n m : Nat) (r : Int × Int × List Int), vs = [.int (n : Int), .int (m : Int), v] ∧ Dp K H v (eRoad r) ∧ RoadOk n m r ∧ Gd tabs H ∧ ∀ H', Sm H H' → Q (.bl true) H'
theorem ok_groad {f c Pt fi ci : Addr} (F : Fx K mg "is_game_road" s_is_game_road f c) (FI : Fx K mg "is_in" s_is_in fi ci) (T : Tx K mg) (TB : TabB base mg c Pt) (hPt : Pt ∈ tabs) (GT : Prom P w K mg base "is_table" ["value", "length"] (spTable K tabs) 2) :
    Prom P w K mg base "is_game_road" ["size", "length", "value"] (spGroad K tabs) 3 := by
  refine F.prom sc_groad (fun vs H Q E h => ?_) (fun _ _ _ _ _ _ us hl => match us, hl with | [_, _, _], _ => rfl) (fun A outer s H vs Q E hr h => ?_)
  · obtain ⟨_, _, _, _, rfl, _⟩ := h
    rfl
  · obtain ⟨v, n, m, r, rfl, hd, hok, hgd, q⟩ := h
    refine ⟨_, pss_cons (ps_if (pw_or (pt_not (pt_val (pe_callB call_isi (by rfl) T.isi (by decide +kernel) (pa_cons (pv 2) (pa_cons (pe_bltn (v := .ty "tuple") (by rfl) T.tuple (by decide +kernel) rfl) pa_nil)))))
        (pw_or (pt_cmpR op_ne (pe_callB call_len_seq (by rfl) T.len PySem.boot_len (pa_cons (pv 2) pa_nil)) pe_int (nomark _))
          (pw_or1 (pt_not (pt_val (pe_prom GT hr (by rfl) (pa_cons (pe_ix ix_tup (pv 2) pe_int (fun _ _ => rfl)) (pa_cons (pv 1) pa_nil)))))))).pt (pss_one (ps_ret pe_bl)) pss_nil)
      (pss_one (ps_ret (pe_and (pe_allN (P := Pt) (caps := [("size", 0)]) hr (by rfl) T.all (by decide +kernel) TB rfl (by rfl) (by rfl) (pe_slice sl_tupA (pv 2) po_none (po_some pe_int)) (fun _ => rfl))
        (pe_one (pe_cmpR op_ne (pe_ix ix_tup (pv 2) pe_int (fun _ _ => rfl)) (pe_ix ix_tup (pv 2) pe_int (fun _ _ => rfl)) (nomark _)))))), ?_⟩
    obtain ⟨a, b, rfl, sq, sqb⟩ := dp_road hd
    refine ⟨_, rfl, _, _, _, _, true, rfl, .ty "tuple", tyT sq, kit_ty (by decide +kernel), true, rfl, ?_⟩
    refine ifF (by decide) ?_
    refine ⟨_, rfl, a, _, rfl, .inr sq, rfl, _, rfl, ?_⟩
    refine ifF (by show ¬ (!decide (V.int 3 = V.int 3)) = true; decide) ?_
    refine ⟨_, rfl, _, _, _, _, rfl, rfl, sq, atI_nat (j := 2) rfl, _, rfl, .ref b, m, r.2.2, rfl, dp_intsOf sqb, hok.tab, hgd, fun H1 s1 => ⟨true, rfl, ?_⟩⟩
    refine ifF (by decide) ?_
    refine ⟨_, rfl, 2, rfl, a, _, rfl, s1.sqT sq, fun hw => ?_, fun _ p hp => ?_⟩
    · exact absurd (show (2 : Nat) = 3 from hw.2) (by decide)
    · have s2 := s1.trans (Sm.upd (o := .tup (cutV [.int r.1, .int r.2.1, .ref b] none (some 2))) hp)
      have gT : TabG (L2.upd H1 p (.tup (cutV [.int r.1, .int r.2.1, .ref b] none (some 2)))) Pt := s2.gd hgd Pt hPt
      refine ⟨[.int r.1, .int r.2.1], fun _ => true, .tup (.inl (.inl upd_same)), gT, ?_, fun H2 hT => ⟨_, rfl, ?_⟩⟩
      · intro i y hy A' cenv hA hsc
        have hz : ∃ z : Int, y = .int z ∧ 0 ≤ z ∧ z ≤ (n : Int) - 1 := by
          have hn1 := hok.n1
          have hn2 := hok.n2
          match i, hy with
          | 0, hy => exact ⟨r.1, (Option.some.inj hy).symm, by omega, by omega⟩
          | 1, hy => exact ⟨r.2.1, (Option.some.inj hy).symm, by omega, by omega⟩
          | i + 2, hy => simp at hy
        obtain ⟨z, rfl, hz⟩ := hz
        show QX _ _ _ _ _ _ (V.bl true)
        rw [show true = decide ((0 : Int) ≤ z ∧ z ≤ (n : Int) - 1) from (decide_eq_true hz).symm]
        exact qx_isin FI T (ga_lt hA hr) (by unfold Env.kindOf; rw [hsc]; rfl) (qx_name rfl) qx_int (qx_sub (qx_name rfl) qx_int)
      · refine ifT (all_true _) ?_
        have s3 := s2.trans (Sm.tabbed hT gT)
        refine ⟨_, rfl, _, _, _, _, rfl, rfl, s3.sqT sq, atI_nat (j := 0) rfl, _, rfl, _, _, _, _, rfl, rfl, s3.sqT sq, atI_nat (j := 1) rfl, rfl, ?_⟩
        rw [show (!decide (V.int r.1 = V.int r.2.1)) = true by simp [hok.ne]]
        exact q H2 s3
end
end Tr

/-! Defs: is_player, need_game. -/
namespace Tr
open PySem PySem.Spec PyProof.Rows L2 GxR Gq
structure PlOk (n : Nat) (R : List (Int × Int)) (p : Int × Int) : Prop where
  p1 : 0 ≤ p.1 ∧ p.1 < (n : Int)
  p2 : 0 ≤ p.2 ∧ p.2 < (n : Int)
  ne : p.1 ≠ p.2
  way : waysOf n R p.1 p.2 ≠ []
structure GOk (G : Gm) : Prop where
  n2 : 2 ≤ G.n
  n6 : G.n ≤ 6
  r1 : 1 ≤ G.R.length
  r8 : G.R.length ≤ 8
  p1 : 1 ≤ G.P.length
  p3 : G.P.length ≤ 3
  roads : ∀ r ∈ G.R, RoadOk G.n G.P.length r
  players : ∀ p ∈ G.P, PlOk G.n (endsOf G) p
theorem ends_len (G : Gm) : (endsOf G).length = G.R.length := by unfold endsOf; rw [List.length_map]
theorem GOk.net {G : Gm} (h : GOk G) {p : Int × Int} (hp : p ∈ G.P) : NetOk G.n (endsOf G) p.1 p.2 := by
  refine ⟨h.n6, by rw [ends_len]; exact h.r8, fun r hr => ?_, (h.players p hp).p1.1, (h.players p hp).p1.2⟩
  unfold endsOf at hr
  obtain ⟨q, hq, rfl⟩ := List.mem_map.mp hr
  exact (h.roads q hq).n2
theorem dp_pl {K : PySem.W.Frag} {H : Hp} {v : V} {r : Int × Int} (h : Dp K H v (ePl r)) : ∃ a, v = .ref a ∧ SqT K H a [.int r.1, .int r.2] := by
  obtain ⟨a, zs, rfl, h1, h2⟩ := dp_tup h
  cases h2 with
  | cons d1 t1 =>
    cases t1 with
    | cons d2 t2 =>
      cases t2
      rw [dp_int d1, dp_int d2] at h1
      exact ⟨a, rfl, h1⟩
section
variable {P : Program} {w : World} {K : PySem.W.Frag} {mg : Str → Option Value} {base : Heap} {tabs : List Addr}
theorem sc_player : FnScope ["game", "value"] ["game", "value"] (defScope s_is_player) := ⟨rfl, rfl, rfl, by decide +kernel, rfl, by decide +kernel, by decide +kernel⟩
def spPlayer (K : PySem.W.Frag) (tabs : List Addr) : Sp := fun vs H Q _ => ∃ (vg v : V) (G : Gm) (p : Int × Int), vs = [vg, v] ∧ Dp K H vg (eGm G) ∧ Dp K H v (ePl p) ∧ GOk G ∧ p ∈ G.P ∧ Gd tabs H ∧ ∀ H', Sm H H' → Q (.bl true) H'
theorem ok_player {f c Pt fi ci : Addr} (F : Fx K mg "is_player" s_is_player f c) (FI : Fx K mg "is_in" s_is_in fi ci) (T : Tx K mg) (TB : TabB base mg c Pt) (hPt : Pt ∈ tabs) (GN : Prom P w K mg base "net_of" ["game"] (spNet K) 1) (GW : Prom P w K mg base "all_ways" ["net", "start", "goal"] (spWays K) 1) :
    Prom P w K mg base "is_player" ["game", "value"] (spPlayer K tabs) 2 := by
  refine F.prom sc_player (fun vs H Q E h => ?_) (fun _ _ _ _ _ _ us hl => match us, hl with | [_, _], _ => rfl) (fun A outer s H vs Q E hr h => ?_)
  · obtain ⟨_, _, _, _, rfl, _⟩ := h
    rfl
  · obtain ⟨vg, v, G, pl, rfl, hg, hd, hok, hp, hgd, q⟩ := h
    refine ⟨_, pss_cons (ps_if (pw_or (pt_not (pt_val (pe_callB call_isi (by rfl) T.isi (by decide +kernel) (pa_cons (pv 1) (pa_cons (pe_bltn (v := .ty "tuple") (by rfl) T.tuple (by decide +kernel) rfl) pa_nil)))))
        (pw_or (pt_cmpR op_ne (pe_callB call_len_seq (by rfl) T.len PySem.boot_len (pa_cons (pv 1) pa_nil)) pe_int (nomark _))
          (pw_or1 (pt_not (pt_val (pe_allN (P := Pt) (caps := [("game", 0)]) hr (by rfl) T.all (by decide +kernel) TB rfl (by rfl) (by rfl) (pv 1) (fun _ => rfl))))))).pt (pss_one (ps_ret pe_bl)) pss_nil)
      (pss_one (ps_ret (pe_and (pe_cmpR op_ne (pe_ix ix_tup (pv 1) pe_int (fun _ _ => rfl)) (pe_ix ix_tup (pv 1) pe_int (fun _ _ => rfl)) (nomark _))
        (pe_one (pe_callTy call_boolL (by rfl) T.bool (by decide +kernel) (pa_cons (pe_prom GW hr (by rfl) (pa_cons (pe_prom GN hr (by rfl) (pa_cons (pv 0) pa_nil)) (pa_cons (pe_ix ix_tup (pv 1) pe_int (fun _ _ => rfl)) (pa_cons (pe_ix ix_tup (pv 1) pe_int (fun _ _ => rfl)) pa_nil)))) pa_nil)))))), ?_⟩
    obtain ⟨a, rfl, sq⟩ := dp_pl hd
    obtain ⟨ga, gb, gc, xs, ys, rfl, h1, h2, h3, h4, h5⟩ := dp_gm hg
    have hpo := hok.players pl hp
    have gT : TabG H Pt := hgd Pt hPt
    refine ⟨_, rfl, _, _, _, _, true, rfl, .ty "tuple", tyT sq, kit_ty (by decide +kernel), true, rfl, ?_⟩
    refine ifF (by decide) ?_
    refine ⟨_, rfl, a, _, rfl, .inr sq, rfl, _, rfl, ?_⟩
    refine ifF (by show ¬ (!decide (V.int 2 = V.int 2)) = true; decide) ?_
    refine ⟨_, rfl, _, fun _ => true, .tup sq, gT, ?_, fun H1 hT => ⟨_, rfl, ?_⟩⟩
    · intro i y hy A' cenv hA hsc
      have hz : ∃ z : Int, y = .int z ∧ 0 ≤ z ∧ z ≤ (G.n : Int) - 1 := by
        have hn1 := hpo.p1
        have hn2 := hpo.p2
        match i, hy with
        | 0, hy => exact ⟨pl.1, (Option.some.inj hy).symm, by omega, by omega⟩
        | 1, hy => exact ⟨pl.2, (Option.some.inj hy).symm, by omega, by omega⟩
        | i + 2, hy => simp at hy
      obtain ⟨z, rfl, hz⟩ := hz
      show QX _ _ _ _ _ _ (V.bl true)
      rw [show true = decide ((0 : Int) ≤ z ∧ z ≤ (G.n : Int) - 1) from (decide_eq_true hz).symm]
      exact qx_isin FI T (ga_lt hA hr) (by unfold Env.kindOf; rw [hsc]; rfl) (qx_name rfl) qx_int (qx_sub (qx_ixT (qx_name rfl) qx_int (hidP_T gT h1) (atI_nat (j := 0) rfl)) qx_int)
    · refine ifF (by show ¬ (!(List.range _).all (fun _ => true)) = true; rw [all_true]; decide) ?_
      have s1 := Sm.tabbed hT gT
      refine ⟨_, rfl, _, _, _, _, rfl, rfl, s1.sqT sq, atI_nat (j := 0) rfl, _, rfl, _, _, _, _, rfl, rfl, s1.sqT sq, atI_nat (j := 1) rfl, rfl, true, ?_, ?_⟩
      · show V.bl (!decide (V.int pl.1 = V.int pl.2)) = V.bl true
        rw [show (!decide (V.int pl.1 = V.int pl.2)) = true by simp [hpo.ne]]
      · refine ifT rfl ?_
        refine ⟨_, rfl, .ref ga, G, rfl, s1.dp _ hg, by have := hok.r8; omega, fun vn H2 s2 hn => ?_⟩
        have s12 := s1.trans s2
        refine ⟨_, rfl, _, _, _, _, rfl, rfl, s12.sqT sq, atI_nat (j := 0) rfl, _, rfl, _, _, _, _, rfl, rfl, s12.sqT sq, atI_nat (j := 1) rfl, ?_⟩
        refine ⟨vn, G.n, endsOf G, pl.1, pl.2, rfl, hn, hok.net hp, fun p zs H3 s3 hpn hpz dz => ⟨p, zs, rfl, .inl (.inl hpz), ?_⟩⟩
        have hne : zs.isEmpty = false := by
          cases zs with
          | nil =>
            have := dz.length
            rw [List.length_map] at this
            exact absurd (List.length_eq_zero_iff.mp this.symm) hpo.way
          | cons _ _ => rfl
        rw [hne]
        exact q H3 (s12.trans s3)
/-! ### need_game -/
theorem sc_need : FnScope ["game", "length", "index", "one"] ["game", "length"] (defScope s_need_game) := ⟨rfl, rfl, rfl, by decide +kernel, rfl, by decide +kernel, by decide +kernel⟩
def spNeed (K : PySem.W.Frag) (tabs : List Addr) : Sp := fun vs H Q _ => ∃ (vg : V) (G : Gm), vs = [vg, .non] ∧ Dp K H vg (eGm G) ∧ GOk G ∧ Gd tabs H ∧ ∀ H', Sm H H' → Q .non H'
theorem ok_need {f c : Addr} (F : Fx K mg "need_game" s_need_game f c) (T : Tx K mg) (GI : Prom P w K mg base "is_in" ["value", "least", "most"] spIsIn 1) (GR : Prom P w K mg base "is_game_road" ["size", "length", "value"] (spGroad K tabs) 3) (GP : Prom P w K mg base "is_player" ["game", "value"] (spPlayer K tabs) 2) :
    Prom P w K mg base "need_game" ["game", "length"] (spNeed K tabs) 4 := by
  refine F.prom sc_need (fun vs H Q E h => ?_) (fun _ _ _ _ _ _ us hl => match us, hl with | [_, _], _ => rfl) (fun A outer s H vs Q E hr h => ?_)
  · obtain ⟨_, _, rfl, _⟩ := h
    rfl
  · obtain ⟨vg, G, rfl, hg, hok, hgd, q⟩ := h
    have gi := GI.mono (k := 3) (by decide)
    have gp := GP.mono (k := 3) (by decide)
    have nd := sc_need.nd
    obtain ⟨t1, hn⟩ := T.nodes
    obtain ⟨t2, hro⟩ := T.roads
    obtain ⟨t3, hpl⟩ := T.players
    refine ⟨_, pss_cons (ps_if (pw_or (pt_not (pt_val (pe_callB call_isi (by rfl) T.isi (by decide +kernel) (pa_cons (pv 0) (pa_cons (pe_bltn (v := .ty "tuple") (by rfl) T.tuple (by decide +kernel) rfl) pa_nil)))))
        (pw_or (pt_cmpR op_ne (pe_callB call_len_seq (by rfl) T.len PySem.boot_len (pa_cons (pv 0) pa_nil)) pe_int (nomark _))
          (pw_or1 (pt_not (pt_val (pe_prom gi hr (by rfl) (pa_cons (pe_ix ix_tup (pv 0) pe_int (fun _ _ => rfl)) (pa_cons pe_int (pa_cons (pe_glob (v := .int 6) (by rfl) hn ⟨_, rfl⟩) pa_nil))))))))).pt pss_never pss_nil)
      (pss_cons (ps_if (pw_or (pt_not (pt_val (pe_callB call_isi (by rfl) T.isi (by decide +kernel) (pa_cons (pe_ix ix_tup (pv 0) pe_int (fun _ _ => rfl)) (pa_cons (pe_bltn (v := .ty "tuple") (by rfl) T.tuple (by decide +kernel) rfl) pa_nil)))))
          (pw_or1 (pt_not (pt_chain op_le op_le pe_int (pe_callB call_len_seq (by rfl) T.len PySem.boot_len (pa_cons (pe_ix ix_tup (pv 0) pe_int (fun _ _ => rfl)) pa_nil)) (pe_glob (v := .int 8) (by rfl) hro ⟨_, rfl⟩))))).pt pss_never pss_nil)
      (pss_cons (ps_if (pw_or (pt_not (pt_val (pe_callB call_isi (by rfl) T.isi (by decide +kernel) (pa_cons (pe_ix ix_tup (pv 0) pe_int (fun _ _ => rfl)) (pa_cons (pe_bltn (v := .ty "tuple") (by rfl) T.tuple (by decide +kernel) rfl) pa_nil)))))
          (pw_or1 (pt_not (pt_chain op_le op_le pe_int (pe_callB call_len_seq (by rfl) T.len PySem.boot_len (pa_cons (pe_ix ix_tup (pv 0) pe_int (fun _ _ => rfl)) pa_nil)) (pe_glob (v := .int 4) (by rfl) hpl ⟨_, rfl⟩))))).pt pss_never pss_nil)
      (pss_cons (ps_for PassesOwn.never rfl (pi_enumT (by rfl) T.enum (pa_cons (pe_ix ix_tup (pv 0) pe_int (fun _ _ => rfl)) pa_nil)) (pg_tup rfl (pgs_cons (pg_name (i := 2) nd rfl (Or.inl rfl)) (pgs_cons (pg_name (i := 3) nd rfl (Or.inl rfl)) pgs_nil)))
        (pss_one (ps_if (pt_not (pt_val (pe_prom GR hr (by rfl) (pa_cons (pe_ix ix_tup (pv 0) pe_int (fun _ _ => rfl)) (pa_cons (pe_ifExp (pt_cmp (pc_isN (pv 1))) (pe_callB call_len_seq (by rfl) T.len PySem.boot_len (pa_cons (pe_ix ix_tup (pv 0) pe_int (fun _ _ => rfl)) pa_nil)) (pv 1)) (pa_cons (pv 3) pa_nil)))))) pss_never pss_nil)))
      (pss_one (ps_for PassesOwn.never rfl (pi_enumT (by rfl) T.enum (pa_cons (pe_ix ix_tup (pv 0) pe_int (fun _ _ => rfl)) pa_nil)) (pg_tup rfl (pgs_cons (pg_name (i := 2) nd rfl (Or.inl rfl)) (pgs_cons (pg_name (i := 3) nd rfl (Or.inl rfl)) pgs_nil)))
        (pss_one (ps_if (pt_not (pt_val (pe_prom gp hr (by rfl) (pa_cons (pv 0) (pa_cons (pv 3) pa_nil))))) pss_never pss_nil))))))), ?_⟩
    obtain ⟨ga, gb, gc, xs, ys, rfl, h1, h2, h3, h4, h5⟩ := dp_gm hg
    have hlx : xs.length = G.R.length := by rw [h3.length, List.length_map]
    have hly : ys.length = G.P.length := by rw [h5.length, List.length_map]
    have b1 := hok.n2
    have b2 := hok.n6
    have b3 := hok.r1
    have b4 := hok.r8
    have b5 := hok.p1
    have b6 := hok.p3
    refine ⟨_, rfl, _, _, _, _, true, rfl, .ty "tuple", tyT h1, kit_ty (by decide +kernel), true, rfl, ?_⟩
    refine ifF (by decide) ?_
    refine ⟨_, rfl, ga, _, rfl, .inr h1, rfl, _, rfl, ?_⟩
    refine ifF (by show ¬ (!decide (V.int 3 = V.int 3)) = true; decide) ?_
    refine ⟨_, rfl, _, _, _, _, rfl, rfl, h1, atI_nat (j := 0) rfl, _, _, _, rfl, _, rfl, ?_⟩
    refine ifF (by rw [decide_eq_true (show (2 : Int) ≤ (G.n : Int) ∧ (G.n : Int) ≤ 6 by omega)]; decide) ?_
    refine ⟨_, rfl, _, _, _, _, rfl, rfl, h1, atI_nat (j := 1) rfl, _, _, _, _, true, rfl, .ty "tuple", tyT h2, kit_ty (by decide +kernel), true, rfl, ?_⟩
    refine ifF (by decide) ?_
    refine ⟨_, rfl, _, _, _, _, rfl, rfl, h1, atI_nat (j := 1) rfl, gb, _, rfl, .inr h2, _, _, rfl, rfl, _, rfl, ?_⟩
    rw [decide_eq_true (show (1 : Int) ≤ (xs.length : Int) by omega)]
    refine ifT rfl ⟨_, _, rfl, rfl, _, rfl, ?_⟩
    refine ifF (by rw [decide_eq_true (show (xs.length : Int) ≤ 8 by omega)]; decide) ?_
    refine ⟨_, rfl, _, _, _, _, rfl, rfl, h1, atI_nat (j := 2) rfl, _, _, _, _, true, rfl, .ty "tuple", tyT h4, kit_ty (by decide +kernel), true, rfl, ?_⟩
    refine ifF (by decide) ?_
    refine ⟨_, rfl, _, _, _, _, rfl, rfl, h1, atI_nat (j := 2) rfl, gc, _, rfl, .inr h4, _, _, rfl, rfl, _, rfl, ?_⟩
    rw [decide_eq_true (show (1 : Int) ≤ (ys.length : Int) by omega)]
    refine ifT rfl ⟨_, _, rfl, rfl, _, rfl, ?_⟩
    refine ifF (by rw [decide_eq_true (show (ys.length : Int) ≤ 4 by omega)]; decide) ?_
    refine ⟨_, rfl, _, _, _, _, rfl, rfl, h1, atI_nat (j := 1) rfl, gb, xs, rfl, h2, ?_⟩
    refine for_it (walk_enumT (K := K) (a := gb) (xs := xs)) (fun i σ Hc => Sm H Hc ∧ ∃ o2 o3, σ = [some (.ref ga), some .non, o2, o3]) ⟨Sm.refl H, _, _, rfl⟩ (fun i σ Hc _ z => z.1.sqT h2) ?_ ?_
    · rintro i x σ Hc Hc' hi ⟨s1, o2, o3, rfl⟩ ⟨Tp, x0, y0, rfl, hT, rfl, ex0, ey0⟩
      cases ex0
      have s2 := s1.trans (Sm.upd (o := .tup [.int (i : Int), y0]) hT)
      obtain ⟨r, er, dr⟩ := dpAll_map_get' h3 ey0
      refine ⟨Tp, _, rfl, .inl (.inl upd_same), rfl, _, _, rfl, _, _, rfl, rfl, ?_⟩
      refine ⟨_, rfl, _, _, _, _, rfl, rfl, s2.sqT h1, atI_nat (j := 0) rfl, _, rfl, _, rfl, ?_⟩
      refine ifT (by decide) ?_
      refine ⟨_, rfl, _, _, _, _, rfl, rfl, s2.sqT h1, atI_nat (j := 2) rfl, gc, _, rfl, .inr (s2.sqT h4), _, rfl, ?_⟩
      refine ⟨y0, G.n, G.P.length, r, by rw [hly]; rfl, s2.dp _ dr, hok.roads r (List.mem_of_getElem? er), s2.gd hgd, fun H3 s3 => ⟨true, rfl, ?_⟩⟩
      refine ifF (by decide) ?_
      exact ⟨s2.trans s3, _, _, rfl⟩
    · rintro σ Hc ⟨s1, o2, o3, rfl⟩
      refine ⟨_, rfl, _, _, _, _, rfl, rfl, s1.sqT h1, atI_nat (j := 2) rfl, gc, ys, rfl, s1.sqT h4, ?_⟩
      refine for_it (walk_enumT (K := K) (a := gc) (xs := ys)) (fun i σ Hc => Sm H Hc ∧ ∃ o2 o3, σ = [some (.ref ga), some .non, o2, o3]) ⟨s1, _, _, rfl⟩ (fun i σ Hc _ z => z.1.sqT h4) ?_ (fun σ Hc z => q Hc z.1)
      rintro i x σ Hc Hc' hi ⟨s1, o2, o3, rfl⟩ ⟨Tp, x0, y0, rfl, hT, rfl, ex0, ey0⟩
      cases ex0
      have s2 := s1.trans (Sm.upd (o := .tup [.int (i : Int), y0]) hT)
      obtain ⟨r, er, dr⟩ := dpAll_map_get' h5 ey0
      refine ⟨Tp, _, rfl, .inl (.inl upd_same), rfl, _, _, rfl, _, _, rfl, rfl, ?_⟩
      refine ⟨_, rfl, _, rfl, .ref ga, y0, G, r, rfl, s2.dp _ hg, s2.dp _ dr, hok, List.mem_of_getElem? er, s2.gd hgd, fun H3 s3 => ⟨true, rfl, ?_⟩⟩
      refine ifF (by decide) ?_
      exact ⟨s2.trans s3, _, _, rfl⟩
end
end Tr

/-! Defs: choices_of, is_state, need_state, game_potential. -/
namespace Tr
open PySem PySem.Spec PyProof.Rows L2 GxR Gq
open PySem.W (AllAlike dataLt dataLe EachIs alike alikeAll)
def eWs (ws : List Way) : PyData := .list (ws.map eW)
def WsOf (G : Gm) : List (List Way) := G.P.map fun p => waysOf G.n (endsOf G) p.1 p.2
def eCh (Ws : List (List Way)) : PyData := .list (Ws.map eWs)
theorem ways_ok {n : Nat} {R : List (Int × Int)} {s g : Int} (h : NetOk n R s g) : ∀ w ∈ waysOf n R s g, w ≠ [] ∧ w.Nodup ∧ ∀ i ∈ w, i < R.length := fun w hw => by
  have hm : w ∈ rawW n R s g := (List.mergeSort_perm _ _).mem_iff.mp hw
  exact (winv h.rng h.s0 h.s1 n).found w hm
theorem dpAll_of_get {K : PySem.W.Frag} {H : Hp} : ∀ {xs : List V} {ds : List PyData}, xs.length = ds.length → (∀ (j : Nat) x d, xs[j]? = some x → ds[j]? = some d → Dp K H x d) → DpAll K H xs ds
  | [], [], _, _ => .nil
  | x :: xs, d :: ds, hl, h => .cons (h 0 x d rfl rfl) (dpAll_of_get (by simpa using hl) fun j y e h1 h2 => h (j + 1) y e h1 h2)
  | [], _ :: _, hl, _ => by cases hl
  | _ :: _, [], hl, _ => by cases hl
/-- a list of lists, as it is made -/
def WsAt (K : PySem.W.Frag) (Hc : Hp) (So : Addr) (xs : List V) (Ws : List (List Way)) : Prop := ∀ (j : Nat) (x : V) (ways : List Way), xs[j]? = some x → Ws[j]? = some ways → ∃ l zs, x = .ref l ∧ l ≠ So ∧ Hc l = some (.lst zs) ∧ DpAll K Hc zs (ways.map eW)
theorem to_ways (ways : List Way) : tupOnlyAll (ways.map eW) = true := tupOnlyAll_map fun u _ => to_way u
theorem WsAt.up {K : PySem.W.Frag} {Hc Hd : Hp} {So : Addr} {xs : List V} {Ws : List (List Way)} (h : WsAt K Hc So xs Ws) (e : Sm Hc Hd) : WsAt K Hd So xs Ws := fun j x ways h1 h2 => by
  obtain ⟨l, zs, e1, e2, e3, e4⟩ := h j x ways h1 h2
  exact ⟨l, zs, e1, e2, e.keep _ _ e3 (fun _ z => nomatch z), e.dpAll _ e4⟩
theorem WsAt.put {K : PySem.W.Frag} {Hc : Hp} {So : Addr} {xs ys zs : List V} {Ws : List (List Way)} (h : WsAt K Hc So xs Ws) (hs : Hc So = some (.lst ys)) : WsAt K (L2.upd Hc So (.lst zs)) So xs Ws := fun j x ways h1 h2 => by
  obtain ⟨l, us, e1, e2, e3, e4⟩ := h j x ways h1 h2
  exact ⟨l, us, e1, e2, by rw [upd_ne e2]; exact e3, (TK.lst hs).dpAll _ (to_ways ways) e4⟩
section
variable {P : Program} {w : World} {K : PySem.W.Frag} {mg : Str → Option Value} {base : Heap} {tabs : List Addr}
theorem sc_choices : FnScope ["game", "net", "some", "states", "start", "goal", "ways"] ["game"] (defScope s_choices_of) := ⟨rfl, rfl, rfl, by decide +kernel, rfl, by decide +kernel, by decide +kernel⟩
def spCh (K : PySem.W.Frag) (tabs : List Addr) : Sp := fun vs H Q _ => ∃ (vg : V) (G : Gm), vs = [vg] ∧ Dp K H vg (eGm G) ∧ GOk G ∧ (∀ ways ∈ WsOf G, ways.length ≤ 8) ∧ Gd tabs H ∧ ∀ p H', Sm H H' → H p = none → Dp K H' (.ref p) (eCh (WsOf G)) → Q (.ref p) H'
/-- a list of our own grows, by anything -/
theorem Sm.app {H Hc : Hp} {p : Addr} {xs ys : List V} (e : Sm H Hc) (hn : H p = none) (hx : Hc p = some (.lst xs)) : Sm H (L2.upd Hc p (.lst ys)) := by
  refine ⟨fun b u q n => ?_, fun b hb => ?_, fun b q => e.fr b (upd_fr b q)⟩
  · rw [upd_ne (fun z => by rw [z, hn] at q; cases q)]
    exact e.keep b u q n
  · obtain ⟨ps, q, t⟩ := e.tab b hb
    exact ⟨ps, by rw [upd_ne (fun z => by rw [z, hx] at q; cases q)]; exact q, t⟩
theorem to_net (n : Nat) (R : List (Int × Int)) : tupOnly (eNet n R) = true := by
  have h : tupOnlyAll (R.map eNr) = true := tupOnlyAll_map fun r _ => to_nr r
  show (tupOnly (.int n) && (tupOnly (.tuple (R.map eNr)) && true)) = true
  rw [show tupOnly (.tuple (R.map eNr)) = tupOnlyAll (R.map eNr) from rfl, h]
  rfl
theorem any_false (n : Nat) : (List.range n).any (fun _ => false) = false := by
  rw [List.any_eq_false]
  intro x _
  decide
theorem pow_le3 {i : Nat} (h : i ≤ 3) : (8 : Nat) ^ i ≤ 512 := by
  have : i = 0 ∨ i = 1 ∨ i = 2 ∨ i = 3 := by omega
  rcases this with rfl | rfl | rfl | rfl <;> decide
theorem ok_choices {f c Pt : Addr} (F : Fx K mg "choices_of" s_choices_of f c) (T : Tx K mg) (TB : TabB base mg c Pt) (hPt : Pt ∈ tabs) (GN : Prom P w K mg base "net_of" ["game"] (spNet K) 1) (GW : Prom P w K mg base "all_ways" ["net", "start", "goal"] (spWays K) 1) :
    Prom P w K mg base "choices_of" ["game"] (spCh K tabs) 2 := by
  refine F.prom sc_choices (fun vs H Q E h => ?_) (fun _ _ _ _ _ _ us hl => match us, hl with | [_], _ => rfl) (fun A outer s H vs Q E hr h => ?_)
  · obtain ⟨_, _, rfl, _⟩ := h
    rfl
  · obtain ⟨vg, G, rfl, hg, hok, h8, hgd, q⟩ := h
    have nd := sc_choices.nd
    obtain ⟨t1, hch⟩ := T.choices
    obtain ⟨t2, hst⟩ := T.states
    refine ⟨_, pss_cons (ps_par3 (i := 1) (j := 2) (l := 3) rfl nd rfl rfl rfl (by decide) (by decide) (by decide) rfl rfl rfl (pa_cons (pe_prom GN hr (by rfl) (pa_cons (pv 0) pa_nil)) (pa_cons (pe_lst pa_nil) (pa_cons pe_int pa_nil))) (by rfl))
      (pss_cons (ps_for PassesOwn.never rfl (pi_tup (pe_ix ix_tup (pv 0) pe_int (fun _ _ => rfl))) (pg_tup rfl (pgs_cons (pg_name (i := 4) nd rfl (Or.inl rfl)) (pgs_cons (pg_name (i := 5) nd rfl (Or.inl rfl)) pgs_nil)))
        (pss_one (ps_expr (pe_bm PySem.F.plainAttrs_list PySem.F.slot_list_append PySem.F.type_list_append mt_append (pv 2) (pa_cons (pe_prom GW hr (by rfl) (pa_cons (pv 1) (pa_cons (pv 4) (pa_cons (pv 5) pa_nil)))) pa_nil)))))
      (pss_cons (ps_if (pt_val (pe_anyN (P := Pt) (caps := []) hr (by rfl) T.any TB rfl (by rfl) (by rfl) (pv 2) (fun _ => rfl))) pss_never pss_nil)
      (pss_cons (ps_for PassesOwn.never rfl (pi_list (pv 2)) (pg_name (i := 6) nd rfl (Or.inl rfl)) (pss_one (ps_set (i := 3) nd rfl (Or.inl rfl) (pe_op op_mul (pv 3) (pe_callB call_len_seq (by rfl) T.len PySem.boot_len (pa_cons (pv 6) pa_nil))))))
      (pss_cons (ps_if (pt_cmpR op_gt (pv 3) (pe_glob (v := .int 1000) (by rfl) hst ⟨_, rfl⟩) (nomark _)) pss_never pss_nil)
      (pss_one (ps_ret (pv 2))))))), ?_⟩
    obtain ⟨ga, gb, gc, xs, ys, rfl, h1, h2, h3, h4, h5⟩ := dp_gm hg
    have b4 := hok.r8
    have b6 := hok.p3
    have hly : ys.length = G.P.length := by rw [h5.length, List.length_map]
    have hWl : (WsOf G).length = G.P.length := by unfold WsOf; rw [List.length_map]
    have hs : sizeLine = 16777216 := by decide
    refine ⟨_, rfl, .ref ga, G, rfl, hg, by omega, fun vn H1 s1 hn => ⟨Nat.zero_le _, fun So hSo => ⟨_, _, _, rfl, ?_⟩⟩⟩
    have hSo0 : H So = none := s1.fr _ hSo
    refine ⟨_, rfl, _, _, _, _, rfl, rfl, ((s1.trans (Sm.upd hSo)).sqT h1), atI_nat (j := 2) rfl, gc, rfl, ⟨ys, (s1.trans (Sm.upd hSo)).sqT h4⟩, ?_⟩
    refine for_tup (xs := ys) (fun i σ Hc => ∃ o4 o5 zs, σ = [some (.ref ga), some vn, some (.ref So), some (.int 1), o4, o5, none] ∧ Sm H Hc ∧ Dp K Hc vn (eNet G.n (endsOf G)) ∧ Hc So = some (.lst zs) ∧ zs.length = i ∧ WsAt K Hc So zs (WsOf G)) ?_ ?_ ?_ ?_
    · exact ⟨_, _, [], rfl, s1.trans (Sm.upd hSo), (Sm.upd hSo).dp _ hn, upd_same, rfl, fun j x _ e => by simp at e⟩
    · rintro i σ Hc hi ⟨o4, o5, zs, rfl, sc, _⟩
      exact sc.sqT h4
    · rintro i x σ Hc hx ⟨o4, o5, zs, rfl, sc, hnc, hz, hl, hw⟩
      obtain ⟨pl, er, dr⟩ := dpAll_map_get' (sc.dpAll _ h5) hx
      obtain ⟨pa, rfl, sp⟩ := dp_pl dr
      have hmem := List.mem_of_getElem? er
      have hil : i < ys.length := by
        obtain ⟨h9, _⟩ := List.getElem?_eq_some_iff.mp hx
        exact h9
      refine ⟨pa, _, rfl, sp, rfl, _, _, rfl, _, _, rfl, rfl, ?_⟩
      refine ⟨_, rfl, .inl ⟨rfl, _, .inl (.inl hz)⟩, _, rfl, _, rfl, _, rfl, vn, G.n, endsOf G, pl.1, pl.2, rfl, hnc, hok.net hmem, fun l us H3 s3 hl0 hl1 du => ?_⟩
      have hz3 := s3.keep _ _ hz fun _ z => nomatch z
      have hne : l ≠ So := fun z => by rw [z, hz] at hl0; cases hl0
      refine ⟨So, zs, .ref l, rfl, rfl, hz3, by omega, ?_⟩
      have sH := (sc.trans s3).app (ys := zs ++ [V.ref l]) hSo0 hz3
      refine ⟨_, _, zs ++ [V.ref l], rfl, sH, ?_, upd_same, by rw [List.length_append, hl]; rfl, ?_⟩
      · exact (TK.lst hz3).dp _ (to_net _ _) (s3.dp _ hnc)
      · intro j x ways e1 e2
        by_cases hj : j < zs.length
        · rw [List.getElem?_append_left hj] at e1
          exact (hw.up s3).put hz3 j x ways e1 e2
        · have ej : j = zs.length := by
            obtain ⟨h9, _⟩ := List.getElem?_eq_some_iff.mp e1
            rw [List.length_append, List.length_singleton] at h9
            omega
          subst ej
          rw [List.getElem?_append_right (Nat.le_refl _), Nat.sub_self] at e1
          have ex : V.ref l = x := Option.some.inj e1
          have ew : waysOf G.n (endsOf G) pl.1 pl.2 = ways := by
            unfold WsOf at e2
            rw [hl, List.getElem?_map, er] at e2
            exact Option.some.inj e2
          subst ex ew
          exact ⟨l, us, rfl, hne, by rw [upd_ne hne]; exact hl1, (TK.lst hz3).dpAll _ (to_ways _) du⟩
    · rintro σ Hc ⟨o4, o5, zs, rfl, sc, hnc, hz, hl, hw⟩
      have gT : TabG Hc Pt := sc.gd hgd Pt hPt
      rw [hly] at hl
      refine ⟨_, rfl, zs, fun _ => false, .lst (.inl (.inl hz)), gT, ?_, fun H2 hT => ⟨_, rfl, ?_⟩⟩
      · intro i y hy A' cenv hA hsc
        have hiW : i < (WsOf G).length := by
          obtain ⟨h9, _⟩ := List.getElem?_eq_some_iff.mp hy
          omega
        obtain ⟨l, us, rfl, hne, e3, e4⟩ := hw i y _ hy (List.getElem?_eq_getElem hiW)
        have hlen := e4.length
        rw [List.length_map] at hlen
        have h9 := h8 _ (List.getElem_mem hiW)
        show QX _ _ _ _ _ _ (V.bl false)
        rw [show false = decide ((8 : Int) < (us.length : Int)) from (decide_eq_false (by omega)).symm]
        exact qx_gt (qx_len (by unfold Env.kindOf; rw [hsc]; rfl) T.len (qx_name rfl) (hidP_L gT (.inl (.inl e3)))) (qx_glob (by unfold Env.kindOf; rw [hsc]; rfl) hch ⟨_, rfl⟩)
      · refine ifF (by show ¬ ((List.range _).any (fun _ => false)) = true; rw [any_false]; decide) ?_
        have s2 := Sm.tabbed hT gT
        have hz2 := s2.keep _ _ hz fun _ z => nomatch z
        refine ⟨_, rfl, So, rfl, ⟨zs, .inl (.inl hz2)⟩, ?_⟩
        refine for_list (xs := zs) (fun i σ Hd => ∃ o4 o5 o6 z, σ = [some (.ref ga), some vn, some (.ref So), some (.int z), o4, o5, o6] ∧ Hd = H2 ∧ 0 ≤ z ∧ z ≤ ((8 ^ i : Nat) : Int)) ⟨_, _, _, 1, rfl, rfl, by decide, by decide⟩ ?_ ?_ ?_
        · rintro i σ Hd hi ⟨p4, p5, p6, z, rfl, rfl, _⟩
          exact .inl (.inl hz2)
        · rintro i x σ Hd hx ⟨p4, p5, p6, z, rfl, rfl, hz0, hz1⟩
          have hi : i < zs.length := by
            obtain ⟨h9, _⟩ := List.getElem?_eq_some_iff.mp hx
            exact h9
          have hiW : i < (WsOf G).length := by omega
          obtain ⟨l, us, rfl, hne, e3, e4⟩ := hw i x _ hx (List.getElem?_eq_getElem hiW)
          have hlen := e4.length
          rw [List.length_map] at hlen
          have h9 := h8 _ (List.getElem_mem hiW)
          have e3' := s2.keep _ _ e3 fun _ z => nomatch z
          have h512 := pow_le3 (i := i) (by omega)
          refine ⟨_, rfl, _, rfl, l, _, rfl, .inl (.inl (.inl e3')), _, _, rfl, rfl, .inl ⟨by omega, by omega⟩, ?_⟩
          refine ⟨_, _, _, z * (us.length : Int), rfl, rfl, Int.mul_nonneg hz0 (by omega), ?_⟩
          have h10 : z * (us.length : Int) ≤ ((8 ^ i : Nat) : Int) * 8 := Int.mul_le_mul hz1 (by omega) (by omega) (by omega)
          rw [Nat.pow_succ, Int.natCast_mul]
          exact h10
        · rintro σ Hd ⟨p4, p5, p6, z, rfl, rfl, hz0, hz1⟩
          have h512 := pow_le3 (i := zs.length) (by omega)
          refine ⟨_, rfl, _, _, rfl, rfl, _, rfl, ?_⟩
          refine ifF (by rw [decide_eq_false (show ¬ ((1000 : Int) < z) by omega)]; decide) ?_
          refine ⟨_, rfl, q So Hd (sc.trans s2) hSo0 ?_⟩
          refine .lst (.inl (.inl hz2)) (dpAll_of_get (by rw [hl, List.length_map, hWl]) fun j x d e1 e2 => ?_)
          rw [List.getElem?_map] at e2
          cases ew : (WsOf G)[j]? with
          | none => rw [ew] at e2; cases e2
          | some ways =>
            rw [ew] at e2
            have ed : eWs ways = d := Option.some.inj e2
            subst ed
            obtain ⟨l, us, rfl, hne, e3, e4⟩ := hw j x ways e1 ew
            exact .lst (.inl (.inl (s2.keep _ _ e3 fun _ z => nomatch z))) (s2.dpAll _ e4)
end
end Tr

/-! Defs: is_state, need_state, game_potential, ratio. -/
namespace Tr
open PySem PySem.Spec PyProof.Rows L2 GxR Gq
open PySem.W (AllAlike dataLt dataLe EachIs alike alikeAll)
abbrev W8 (G : Gm) : Prop := ∀ ways ∈ WsOf G, ways.length ≤ 8
theorem lay_ints : ∀ l : List Int, PyData.canLayAll0 (l.map PyData.int) = true
  | [] => rfl
  | a :: l => by
    rw [List.map_cons, PyData.canLayAll0, lay_ints l]
    rfl
theorem lay_way (u : Way) : (eW u).canLay0 = true := by
  rw [eW_ints, PyData.canLay0]
  exact lay_ints _
theorem lay_all {ds : List PyData} (h : ∀ d ∈ ds, d.canLay0 = true) : PyData.canLayAll0 ds = true := by
  induction ds with
  | nil => rfl
  | cons d ds ih =>
    rw [PyData.canLayAll0, h d (by simp), ih fun e he => h e (by simp [he])]
    rfl
theorem depth_all {ds : List PyData} {n : Nat} (h : ∀ d ∈ ds, d.depth ≤ n) : PyData.depthAll ds ≤ n := by
  induction ds with
  | nil => exact Nat.zero_le _
  | cons d ds ih =>
    rw [PyData.depthAll]
    have := h d (by simp)
    have := ih fun e he => h e (by simp [he])
    omega
theorem depth_way1 (w : Way) : (eW w).depth ≤ 2 := by
  rw [eW_ints, PyData.depth]
  have := depth_ints (w.map fun (i : Nat) => (i : Int))
  omega
theorem shaped_of {d : PyData} (h : d.canLay0 = true) (h2 : d.depth ≤ 64) : SeqAt.shaped d = true := by
  unfold SeqAt.shaped
  rw [h, decide_eq_true h2]
  rfl
theorem shaped_way (u : Way) : SeqAt.shaped (eW u) = true := shaped_of (lay_way u) (by have := depth_way1 u; omega)
theorem lay_maps {α : Type} {f : α → PyData} {l : List α} (h : ∀ a, (f a).canLay0 = true) : PyData.canLayAll0 (l.map f) = true := lay_all fun d hd => by
  obtain ⟨a, _, rfl⟩ := List.mem_map.mp hd
  exact h a
theorem depth_maps {α : Type} {f : α → PyData} {l : List α} {n : Nat} (h : ∀ a, (f a).depth ≤ n) : PyData.depthAll (l.map f) ≤ n := depth_all fun d hd => by
  obtain ⟨a, _, rfl⟩ := List.mem_map.mp hd
  exact h a
theorem shaped_ways (ws : List Way) : SeqAt.shaped (eWs ws) = true := shaped_of (by unfold eWs; rw [PyData.canLay0]; exact lay_maps lay_way) (by
  unfold eWs
  rw [PyData.depth]
  have := depth_maps (l := ws) depth_way1
  omega)
theorem lay_st (S : List Way) : (eS S).canLay0 = true := by
  unfold eS
  rw [PyData.canLay0]
  exact lay_maps lay_way
theorem depth_st (S : List Way) : (eS S).depth ≤ 3 := by
  unfold eS
  rw [PyData.depth]
  have := depth_maps (l := S) depth_way1
  omega
theorem shaped_st (S : List Way) : SeqAt.shaped (eS S) = true := shaped_of (lay_st S) (by have := depth_st S; omega)
theorem eqv_any {α : Type} {f : α → PyData} {l : List α} {a : α} (h : a ∈ l) (hl : (f a).canLay0 = true) : ((l.map f).any fun z => PyData.eqv z (f a)) = true := by
  rw [List.any_eq_true]
  exact ⟨f a, List.mem_map_of_mem h, SeqAt.eqv_refl _ hl⟩
theorem walk_zipT {K : PySem.W.Frag} {a b : Addr} {xs ys : List V} {n : Nat} (hn : n = min xs.length ys.length) : Walk (RZ.ItzT K a b) n (fun H => SqT K H a xs ∧ SqT K H b ys) (YPair (fun i => xs[i]?) (fun i => ys[i]?)) := by
  subst hn
  refine ⟨fun i _ hi q => ?_, fun _ q => ⟨xs, ys, q.1, q.2, by omega⟩, fun i H v H' _ q y => ?_⟩
  · have h1 : i < xs.length := by omega
    have h2 : i < ys.length := by omega
    exact ⟨xs, ys, xs[i], ys[i], q.1, q.2, by simp [h1], by simp [h2]⟩
  · obtain ⟨T, x, z, h1, h2, h3, h4, h5⟩ := y
    exact ⟨T, x, z, h1, h2, h3, h4 xs q.1, h5 ys q.2⟩
theorem nodup_lt {m : Nat} {u : Way} (h : u.Nodup) (hl : ∀ i ∈ u, i < m) : u.length ≤ m := by
  have h1 : (u.map fun (i : Nat) => (i : Int)).Nodup := by
    rw [List.Nodup, List.pairwise_map]
    exact h.imp fun {a b} hab z => hab (by omega)
  have h2 := nodup_le (n := m) h1 (fun x hx => by
    obtain ⟨i, hi, rfl⟩ := List.mem_map.mp hx
    have := hl i hi
    omega)
  rw [List.length_map] at h2
  exact h2
theorem picks_way {G : Gm} (hok : GOk G) {S : List Way} (hS : Picks (WsOf G) S) {j : Nat} {u : Way} (e : S[j]? = some u) : ∃ p, G.P[j]? = some p ∧ u ∈ waysOf G.n (endsOf G) p.1 p.2 ∧ u.Nodup ∧ ∀ i ∈ u, i < G.R.length := by
  have hl : (WsOf G).length = G.P.length := by unfold WsOf; rw [List.length_map]
  have hj : j < G.P.length := by
    obtain ⟨h9, _⟩ := List.getElem?_eq_some_iff.mp e
    have := hS.1
    omega
  have e1 := List.getElem?_eq_getElem hj
  have e2 : (WsOf G)[j]? = some (waysOf G.n (endsOf G) G.P[j].1 G.P[j].2) := by
    unfold WsOf
    rw [List.getElem?_map, e1]
    rfl
  have hm := hS.2 j _ u e2 e
  have hw := ways_ok (hok.net (List.getElem_mem hj)) u hm
  exact ⟨_, e1, hm, hw.2.1, fun i hi => by have := hw.2.2 i hi; rw [ends_len] at this; exact this⟩
theorem stok_of {G : Gm} (hok : GOk G) {S : List Way} (hS : Picks (WsOf G) S) : StOk G S ∧ G.P.length = S.length := by
  have hl : (WsOf G).length = G.P.length := by unfold WsOf; rw [List.length_map]
  have b4 := hok.r8
  have b6 := hok.p3
  have h1 := hS.1
  have hw : ∀ u ∈ S, u.Nodup ∧ ∀ i ∈ u, i < G.R.length := fun u hu => by
    obtain ⟨j, hj, e⟩ := List.getElem_of_mem hu
    obtain ⟨p, _, _, h3, h4⟩ := picks_way hok hS (j := j) (u := u) (by rw [List.getElem?_eq_getElem hj, e])
    exact ⟨h3, h4⟩
  refine ⟨⟨by omega, by omega, hw, fun u hu => ?_, fun r hr => ?_⟩, by omega⟩
  · have := nodup_lt (hw u hu).1 (hw u hu).2
    omega
  · have ht := (hok.roads r hr).tab
    exact ⟨by rw [ht.len]; omega, ht.rng⟩
section
variable {P : Program} {w : World} {K : PySem.W.Frag} {mg : Str → Option Value} {base : Heap} {tabs : List Addr}
theorem sc_isst : FnScope ["game", "value", "start", "goal", "way"] ["game", "value"] (defScope s_is_state) := ⟨rfl, rfl, rfl, by decide +kernel, rfl, by decide +kernel, by decide +kernel⟩
def spIsSt (K : PySem.W.Frag) (tabs : List Addr) : Sp := fun vs H Q _ => ∃ (vg v : V) (G : Gm) (S : List Way), vs = [vg, v] ∧ Dp K H vg (eGm G) ∧ Dp K H v (eS S) ∧ GOk G ∧ Picks (WsOf G) S ∧ Gd tabs H ∧ ∀ H', Sm H H' → Q (.bl true) H'
theorem ok_isst {f c Pt fi ci : Addr} (F : Fx K mg "is_state" s_is_state f c) (FI : Fx K mg "is_in" s_is_in fi ci) (T : Tx K mg) (TB : TabB base mg c Pt) (hPt : Pt ∈ tabs) (GN : Prom P w K mg base "net_of" ["game"] (spNet K) 1) (GW : Prom P w K mg base "all_ways" ["net", "start", "goal"] (spWays K) 1) :
    Prom P w K mg base "is_state" ["game", "value"] (spIsSt K tabs) 2 := by
  refine F.prom sc_isst (fun vs H Q E h => ?_) (fun _ _ _ _ _ _ us hl => match us, hl with | [_, _], _ => rfl) (fun A outer s H vs Q E hr h => ?_)
  · obtain ⟨_, _, _, _, rfl, _⟩ := h
    rfl
  · obtain ⟨vg, v, G, S, rfl, hg, hS, hok, hpk, hgd, q⟩ := h
    have nd := sc_isst.nd
    have hu : (A.deeper (envOfC "is_state" (defScope s_is_state) s.heap.objs.size f (.ref c))).units + 65 < cLine := by have := hr.un; omega
    obtain ⟨t2, hro⟩ := T.roads
    refine ⟨_, pss_cons (ps_if (pw_or (pt_not (pt_val (pe_callB call_isi (by rfl) T.isi (by decide +kernel) (pa_cons (pv 1) (pa_cons (pe_bltn (v := .ty "tuple") (by rfl) T.tuple (by decide +kernel) rfl) pa_nil)))))
        (pw_or1 (pt_cmpR op_ne (pe_callB call_len_seq (by rfl) T.len PySem.boot_len (pa_cons (pv 1) pa_nil)) (pe_callB call_len_seq (by rfl) T.len PySem.boot_len (pa_cons (pe_ix ix_tup (pv 0) pe_int (fun _ _ => rfl)) pa_nil)) (by rfl)))).pt (pss_one (ps_ret pe_bl)) pss_nil)
      (pss_cons (ps_for PassesOwn.never rfl (RZ.pi_zipA (by rfl) T.zip (pa_cons (pe_ix ix_tup (pv 0) pe_int (fun _ _ => rfl)) (pa_cons (pv 1) pa_nil))) (pg_tup rfl (pgs_cons (pg_tup rfl (pgs_cons (pg_name (i := 2) nd rfl (Or.inl rfl)) (pgs_cons (pg_name (i := 3) nd rfl (Or.inl rfl)) pgs_nil))) (pgs_cons (pg_name (i := 4) nd rfl (Or.inl rfl)) pgs_nil)))
        (pss_cons (ps_if (pw_or (pt_not (pt_val (pe_callB call_isi (by rfl) T.isi (by decide +kernel) (pa_cons (pv 4) (pa_cons (pe_bltn (v := .ty "tuple") (by rfl) T.tuple (by decide +kernel) rfl) pa_nil)))))
          (pw_or1 (pt_not (pt_val (pe_allN (P := Pt) (caps := []) hr (by rfl) T.all (by decide +kernel) TB rfl (by rfl) (by rfl) (pv 4) (fun _ => rfl)))))).pt (pss_one (ps_ret pe_bl)) pss_nil)
        (pss_one (ps_if (pt_cmpR (op_notInD hu) (pv 4) (pe_prom GW hr (by rfl) (pa_cons (pe_prom GN hr (by rfl) (pa_cons (pv 0) pa_nil)) (pa_cons (pv 2) (pa_cons (pv 3) pa_nil)))) (by rfl)) (pss_one (ps_ret pe_bl)) pss_nil))))
      (pss_one (ps_ret pe_bl))), ?_⟩
    obtain ⟨ga, gb, gc, xs, ys, rfl, h1, h2, h3, h4, h5⟩ := dp_gm hg
    obtain ⟨sa, ss, rfl, g1, g2⟩ := dp_tup hS
    have hly : ys.length = G.P.length := by rw [h5.length, List.length_map]
    have hls : ss.length = S.length := by rw [g2.length, List.length_map]
    obtain ⟨hst, hPS⟩ := stok_of hok hpk
    have b4 := hok.r8
    refine ⟨_, rfl, _, _, _, _, true, rfl, .ty "tuple", tyT g1, kit_ty (by decide +kernel), true, rfl, ?_⟩
    refine ifF (by decide) ?_
    refine ⟨_, rfl, sa, _, rfl, .inr g1, _, rfl, _, _, _, _, rfl, rfl, h1, atI_nat (j := 2) rfl, gc, _, rfl, .inr h4, rfl, _, rfl, ?_⟩
    refine ifF (by rw [hls, hly, hPS]; simp) ?_
    refine ⟨_, rfl, _, _, _, _, rfl, rfl, h1, atI_nat (j := 2) rfl, _, rfl, gc, sa, ys, ss, rfl, .inr ⟨h4, g1, ?_⟩⟩
    refine for_it (walk_zipT (K := K) (a := gc) (b := sa) (xs := ys) (ys := ss) rfl) (fun i σ Hc => Sm H Hc ∧ ∃ o2 o3 o4, σ = [some (.ref ga), some (.ref sa), o2, o3, o4]) ⟨Sm.refl H, _, _, _, rfl⟩ (fun i σ Hc _ z => ⟨z.1.sqT h4, z.1.sqT g1⟩) ?_ ?_
    · rintro i x σ Hc Hc' hi ⟨s1, o2, o3, o4, rfl⟩ ⟨Tp, x0, y0, rfl, hT, rfl, ex0, ey0⟩
      have s2 := s1.trans (Sm.upd (o := .tup [x0, y0]) hT)
      obtain ⟨pl, er, dr⟩ := dpAll_map_get' h5 ex0
      obtain ⟨u, eu, du⟩ := dpAll_map_get' g2 ey0
      obtain ⟨pa, rfl, sp⟩ := dp_pl dr
      obtain ⟨ua, rfl, su⟩ := dp_way du
      obtain ⟨pl', er', hmem, hnd, hlt⟩ := picks_way hok hpk eu
      rw [er] at er'
      cases er'
      have gT : TabG _ Pt := s2.gd hgd Pt hPt
      refine ⟨Tp, _, rfl, .inl (.inl upd_same), rfl, _, _, rfl, pa, _, rfl, s2.sqT sp, rfl, _, _, rfl, _, _, rfl, rfl, _, _, rfl, rfl, ?_⟩
      refine ⟨_, rfl, _, _, _, _, true, rfl, .ty "tuple", tyT (s2.sqT su), kit_ty (by decide +kernel), true, rfl, ?_⟩
      refine ifF (by decide) ?_
      refine ⟨_, rfl, _, fun _ => true, .tup (s2.sqT su), gT, ?_, fun H1 hT1 => ⟨_, rfl, ?_⟩⟩
      · intro k y hy A' cenv hA hsc
        rw [List.getElem?_map] at hy
        cases ek : u[k]? with
        | none => rw [ek] at hy; cases hy
        | some z =>
          rw [ek] at hy
          have ey : V.int (z : Int) = y := Option.some.inj hy
          subst ey
          have hz := hlt z (List.mem_of_getElem? ek)
          show QX _ _ _ _ _ _ (V.bl true)
          rw [show true = decide ((0 : Int) ≤ (z : Int) ∧ (z : Int) ≤ 8) from (decide_eq_true (by omega)).symm]
          exact qx_isin FI T (ga_lt hA hr) (by unfold Env.kindOf; rw [hsc]; rfl) (qx_name rfl) qx_int (qx_glob (by unfold Env.kindOf; rw [hsc]; rfl) hro ⟨_, rfl⟩)
      · refine ifF (by show ¬ (!(List.range _).all (fun _ => true)) = true; rw [all_true]; decide) ?_
        have s3 := s2.trans (Sm.tabbed hT1 gT)
        refine ⟨_, rfl, _, rfl, .ref ga, G, rfl, s3.dp _ hg, by omega, fun vn H4 s4 hn => ?_⟩
        refine ⟨_, rfl, _, rfl, vn, G.n, endsOf G, pl.1, pl.2, rfl, hn, hok.net (List.mem_of_getElem? er), fun p zs H5 s5 hpn hpz dz => ?_⟩
        refine ⟨eW u, (waysOf G.n (endsOf G) pl.1 pl.2).map eW, (s3.trans (s4.trans s5)).dp _ du, .lst (.inl (.inl hpz)) dz, shaped_way u, shaped_ways _, _, rfl, ?_⟩
        refine ifF (by rw [eqv_any hmem (lay_way u)]; decide) ?_
        exact ⟨s3.trans (s4.trans s5), _, _, _, rfl⟩
    · rintro σ Hc ⟨s1, o2, o3, o4, rfl⟩
      exact q Hc s1
/-! ### need_state -/
theorem sc_nst : FnScope ["game", "state"] ["game", "state"] (defScope s_need_state) := ⟨rfl, rfl, rfl, by decide +kernel, rfl, by decide +kernel, by decide +kernel⟩
def spNst (K : PySem.W.Frag) (tabs : List Addr) : Sp := fun vs H Q _ => ∃ (vg v : V) (G : Gm) (S : List Way), vs = [vg, v] ∧ Dp K H vg (eGm G) ∧ Dp K H v (eS S) ∧ GOk G ∧ W8 G ∧ Picks (WsOf G) S ∧ Gd tabs H ∧ ∀ H', Sm H H' → Q .non H'
theorem ok_nst {f c : Addr} (F : Fx K mg "need_state" s_need_state f c) (T : Tx K mg) (G1 : Prom P w K mg base "need_game" ["game", "length"] (spNeed K tabs) 4) (G2 : Prom P w K mg base "is_state" ["game", "value"] (spIsSt K tabs) 2) (G3 : Prom P w K mg base "choices_of" ["game"] (spCh K tabs) 2) :
    Prom P w K mg base "need_state" ["game", "state"] (spNst K tabs) 5 := by
  refine F.prom sc_nst (fun vs H Q E h => ?_) (fun _ _ _ _ _ _ us hl => match us, hl with | [_, _], _ => rfl) (fun A outer s H vs Q E hr h => ?_)
  · obtain ⟨_, _, _, _, rfl, _⟩ := h
    rfl
  · obtain ⟨vg, v, G, S, rfl, hg, hS, hok, h8, hpk, hgd, q⟩ := h
    have g2 := G2.mono (k := 4) (by decide)
    have g3 := G3.mono (k := 4) (by decide)
    refine ⟨_, pss_cons (ps_expr (pe_prom G1 hr (by rfl) (pa_cons (pv 0) (pa_cons pe_non pa_nil)))) (pss_cons (ps_if (pt_not (pt_val (pe_prom g2 hr (by rfl) (pa_cons (pv 0) (pa_cons (pv 1) pa_nil))))) pss_never pss_nil) (pss_one (ps_expr (pe_prom g3 hr (by rfl) (pa_cons (pv 0) pa_nil))))), ?_⟩
    refine ⟨_, rfl, vg, G, rfl, hg, hok, hgd, fun H1 s1 => ?_⟩
    refine ⟨_, rfl, _, rfl, vg, v, G, S, rfl, s1.dp _ hg, s1.dp _ hS, hok, hpk, s1.gd hgd, fun H2 s2 => ⟨true, rfl, ?_⟩⟩
    have s12 := s1.trans s2
    refine ifF (by decide) ?_
    exact ⟨_, rfl, vg, G, rfl, s12.dp _ hg, hok, h8, s12.gd hgd, fun p H3 s3 _ _ => q H3 (s12.trans s3)⟩
theorem sc_gpot : FnScope ["game", "state"] ["game", "state"] (defScope s_game_potential) := ⟨rfl, rfl, rfl, by decide +kernel, rfl, by decide +kernel, by decide +kernel⟩
def spGpot (K : PySem.W.Frag) (tabs : List Addr) : Sp := fun vs H Q _ => ∃ (vg v : V) (G : Gm) (S : List Way), vs = [vg, v] ∧ Dp K H vg (eGm G) ∧ Dp K H v (eS S) ∧ GOk G ∧ W8 G ∧ Picks (WsOf G) S ∧ Gd tabs H ∧ ∀ H', Sm H H' → Q (.int (potOf (costsOf G) S)) H'
theorem ok_gpot {f c : Addr} (F : Fx K mg "game_potential" s_game_potential f c) (T : Tx K mg) (G1 : Prom P w K mg base "need_state" ["game", "state"] (spNst K tabs) 5) (G2 : Prom P w K mg base "potential_in" ["game", "state"] (spPot K tabs) 3) :
    Prom P w K mg base "game_potential" ["game", "state"] (spGpot K tabs) 6 := by
  refine F.prom sc_gpot (fun vs H Q E h => ?_) (fun _ _ _ _ _ _ us hl => match us, hl with | [_, _], _ => rfl) (fun A outer s H vs Q E hr h => ?_)
  · obtain ⟨_, _, _, _, rfl, _⟩ := h
    rfl
  · obtain ⟨vg, v, G, S, rfl, hg, hS, hok, h8, hpk, hgd, q⟩ := h
    have g2 := G2.mono (k := 5) (by decide)
    refine ⟨_, pss_cons (ps_expr (pe_prom G1 hr (by rfl) (pa_cons (pv 0) (pa_cons (pv 1) pa_nil)))) (pss_one (ps_ret (pe_prom g2 hr (by rfl) (pa_cons (pv 0) (pa_cons (pv 1) pa_nil))))), ?_⟩
    obtain ⟨hst, hPS⟩ := stok_of hok hpk
    refine ⟨_, rfl, _, rfl, vg, v, G, S, rfl, hg, hS, hok, h8, hpk, hgd, fun H1 s1 => ?_⟩
    exact ⟨_, rfl, _, rfl, vg, v, G, S, rfl, s1.dp _ hg, s1.dp _ hS, s1.gd hgd, hst, hPS, fun H2 s2 => q H2 (s1.trans s2)⟩
end
end Tr

/-! Defs: ratio, steps_in. -/
namespace Tr
open PySem PySem.Spec PyProof.Rows L2 GxR Gq
open PySem.W (AllAlike dataLt dataLe EachIs alike alikeAll)
section
variable {K : PySem.W.Frag} {H : Hp} {Q : VK} {a : Addr} {xs : List V}
theorem sl_pre {k : Nat} (hq : SqT K H a xs) (h : ∀ p H', Sm H H' → SqT K H' p (xs.take k) → Q (.ref p) H') : rSlA K (.ref a) none (some (k : Int)) H Q := by
  refine ⟨a, xs, rfl, hq, fun hw => ?_, fun _ p hp => ?_⟩
  · have e := hw.2
    rw [HT.sIx_nat] at e
    refine h a H (Sm.refl H) ?_
    rw [List.take_of_length_le (by omega)]
    exact hq
  · refine h p _ (Sm.upd hp) (.inl (.inl ?_))
    rw [upd_same]
    unfold cutV
    rw [HT.sIx_nat, HT.sIx_none, Nat.sub_zero, List.drop_zero, ← List.take_take, List.take_length]
theorem sl_suf {k : Nat} (hq : SqT K H a xs) (h : ∀ p H', Sm H H' → SqT K H' p (xs.drop k) → Q (.ref p) H') : rSlA K (.ref a) (some (k : Int)) none H Q := by
  refine ⟨a, xs, rfl, hq, fun hw => ?_, fun _ p hp => ?_⟩
  · have e := hw.1
    rw [HT.sIx_nat] at e
    refine h a H (Sm.refl H) ?_
    by_cases h0 : xs = []
    · rw [h0, List.drop_nil]
      rw [h0] at hq
      exact hq
    · have hl : 0 < xs.length := List.length_pos_iff.mpr h0
      rw [show k = 0 by omega, List.drop_zero]
      exact hq
  · refine h p _ (Sm.upd hp) (.inl (.inl ?_))
    rw [upd_same]
    unfold cutV
    rw [HT.sIx_nat, HT.sIx_none]
    by_cases hk : k ≤ xs.length
    · rw [Nat.min_eq_left hk, List.take_of_length_le (by rw [List.length_drop]; exact Nat.le_refl _)]
    · rw [Nat.min_eq_right (by omega), Nat.sub_self, List.take_zero, List.drop_of_length_le (by omega)]
end
def eStep (st : Nat × Way) : PyData := .tuple [.int (st.1 : Int), eW st.2]
theorem to_step (st : Nat × Way) : tupOnly (eStep st) = true := by
  show (tupOnly (.int (st.1 : Int)) && (tupOnly (eW st.2) && true)) = true
  rw [to_way]
  rfl
theorem set_parts {α : Type} {l : List α} {p : Nat} {x : α} (h : p < l.length) : l.take p ++ x :: l.drop (p + 1) = l.set p x := (List.set_eq_take_append_cons_drop.trans (by rw [if_pos h])).symm
theorem DpAll_set {K : PySem.W.Frag} {H : Hp} : ∀ {xs : List V} {ds : List PyData} (p : Nat) {x : V} {d : PyData}, DpAll K H xs ds → Dp K H x d → DpAll K H (xs.set p x) (ds.set p d)
  | _, _, _, _, _, .nil, _ => .nil
  | _, _, 0, _, _, .cons _ t, h => .cons h t
  | _, _, p + 1, _, _, .cons r t, h => .cons r (DpAll_set p t h)
theorem dp_stateSet {K : PySem.W.Frag} {H : Hp} {a : Addr} {ss : List V} {S : List Way} {p : Nat} {y : V} {u : Way} (h : DpAll K H ss (S.map eW)) (hy : Dp K H y (eW u)) (hT : SqT K H a (ss.set p y)) : Dp K H (.ref a) (eS (S.set p u)) := by
  unfold eS
  rw [List.map_set]
  exact .tup hT (DpAll_set p h hy)
section
variable {P : Program} {w : World} {K : PySem.W.Frag} {mg : Str → Option Value} {base : Heap} {tabs : List Addr}
theorem sc_ratio : FnScope ["top", "bottom", "common"] ["top", "bottom"] (defScope s_ratio) := ⟨rfl, rfl, rfl, by decide +kernel, rfl, by decide +kernel, by decide +kernel⟩
def spRatio : Sp := fun vs H Q _ => ∃ (a b : Int), vs = [.int a, .int b] ∧ 0 < b ∧ b < 2 ^ 29 ∧ ∀ p, H p = none → Q (.ref p) (L2.upd H p (.tup [.int (a / ((Nat.gcd a.natAbs b.natAbs : Nat) : Int)), .int (b / ((Nat.gcd a.natAbs b.natAbs : Nat) : Int))]))
theorem ok_ratio {f c : Addr} (F : Fx K mg "ratio" s_ratio f c) (T : Tx K mg) : Prom P w K mg base "ratio" ["top", "bottom"] spRatio 1 := by
  refine F.prom sc_ratio (fun vs H Q E h => ?_) (fun _ _ _ _ _ _ us hl => match us, hl with | [_, _], _ => rfl) (fun A outer s H vs Q E hr h => ?_)
  · obtain ⟨_, _, rfl, _⟩ := h
    rfl
  · obtain ⟨a, b, rfl, hb, hb2, q⟩ := h
    have nd := sc_ratio.nd
    refine ⟨_, pss_cons (ps_set (i := 2) nd rfl (Or.inl rfl) (pe_ifExp (pt_cmpR op_gt (pv 1) pe_int (nomark _)) (pe_callBfun cr_gcd (by rfl) T.gcd (pa_cons (pv 0) (pa_cons (pv 1) pa_nil))) (pe_op op_sub pe_int (pe_callBfun cr_gcd (by rfl) T.gcd (pa_cons (pv 0) (pa_cons (pv 1) pa_nil))))))
      (pss_one (ps_ret (pe_tup (pa_cons (pe_op op_fdiv (pv 0) (pv 2)) (pa_cons (pe_op op_fdiv (pv 1) (pv 2)) pa_nil))))), ?_⟩
    refine ⟨_, rfl, _, _, rfl, rfl, _, rfl, ?_⟩
    refine ifT (decide_eq_true hb) ?_
    refine ⟨_, rfl, _, rfl, a, b, rfl, ?_⟩
    have hg0 : 0 < Nat.gcd a.natAbs b.natAbs := Nat.gcd_pos_of_pos_right _ (by omega)
    have hg1 : Nat.gcd a.natAbs b.natAbs ≤ b.natAbs := Nat.gcd_le_right _ (by omega)
    have hc : (0 : Int) < ((Nat.gcd a.natAbs b.natAbs : Nat) : Int) ∧ ((Nat.gcd a.natAbs b.natAbs : Nat) : Int) < 1073741824 := by
      constructor <;> omega
    exact ⟨_, rfl, _, rfl, _, _, rfl, rfl, hc, _, rfl, _, rfl, _, _, rfl, rfl, hc, (by show 2 ≤ sizeLine; decide), fun p hp => q p hp⟩
/-! ### steps_in -/
theorem sc_steps : FnScope ["game", "some", "state", "weights", "found", "player", "ways", "here", "way", "other"] ["game", "some", "state", "weights"] (defScope s_steps_in) := ⟨rfl, rfl, rfl, by decide +kernel, rfl, by decide +kernel, by decide +kernel⟩
def spSteps (K : PySem.W.Frag) (tabs : List Addr) : Sp := fun vs H Q _ => ∃ (vg vc vs_ vw : V) (G : Gm) (S : List Way), vs = [vg, vc, vs_, vw] ∧ Dp K H vg (eGm G) ∧ Dp K H vc (eCh (WsOf G)) ∧ Dp K H vs_ (eS S) ∧ Dp K H vw (eOnes S.length) ∧ GOk G ∧ W8 G ∧ Picks (WsOf G) S ∧ Gd tabs H ∧
  ∀ p xs H', Sm H H' → H p = none → H' p = some (.lst xs) → DpAll K H' xs ((stepsOf (costsOf G) (WsOf G) S).map eStep) → Q (.ref p) H'
/-- the steps of player i among the first j ways -/
def stepsTo (C : List (List Int)) (S : List Way) (i : Nat) (ways : List Way) : List (Nat × Way) := (ways.filter fun w => decide (timeOf C (S.set i w) i < timeOf C S i)).map fun w => (i, w)
def stepsUp (C : List (List Int)) (Ws : List (List Way)) (S : List Way) (i : Nat) : List (Nat × Way) := (Ws.zipIdx.take i).flatMap fun wp => stepsTo C S wp.2 wp.1
theorem stepsUp_all (C : List (List Int)) (Ws : List (List Way)) (S : List Way) : stepsUp C Ws S Ws.length = stepsOf C Ws S := by
  unfold stepsUp
  rw [List.take_of_length_le (by simp)]
  rfl
theorem stepsUp_succ {C : List (List Int)} {Ws : List (List Way)} {S : List Way} {i : Nat} {ways : List Way} (h : Ws[i]? = some ways) : stepsUp C Ws S (i + 1) = stepsUp C Ws S i ++ stepsTo C S i ways := by
  unfold stepsUp
  have e : Ws.zipIdx[i]? = some (ways, i) := by
    rw [List.getElem?_zipIdx, h]
    simp
  obtain ⟨hj, ej⟩ := List.getElem?_eq_some_iff.mp e
  rw [← List.take_append_getElem hj, ej, List.flatMap_append]
  simp
theorem stepsTo_succ {C : List (List Int)} {S : List Way} {i j : Nat} {ways : List Way} {u : Way} (h : ways[j]? = some u) : stepsTo C S i (ways.take (j + 1)) = stepsTo C S i (ways.take j) ++ if timeOf C (S.set i u) i < timeOf C S i then [(i, u)] else [] := by
  obtain ⟨hj, ej⟩ := List.getElem?_eq_some_iff.mp h
  unfold stepsTo
  rw [← List.take_append_getElem hj, ej, List.filter_append, List.map_append]
  congr 1
  by_cases h1 : timeOf C (S.set i u) i < timeOf C S i
  · rw [if_pos h1]
    simp [h1]
  · rw [if_neg h1]
    simp [h1]
theorem stepsTo_len (C : List (List Int)) (S : List Way) (i : Nat) (ways : List Way) : (stepsTo C S i ways).length ≤ ways.length := by
  unfold stepsTo
  rw [List.length_map]
  exact List.length_filter_le ..
theorem stepsUp_len {C : List (List Int)} {Ws : List (List Way)} {S : List Way} (h8 : ∀ ways ∈ Ws, ways.length ≤ 8) : ∀ i, (stepsUp C Ws S i).length ≤ 8 * i
  | 0 => Nat.le_refl _
  | i + 1 => by
    have ih := stepsUp_len (C := C) (S := S) h8 i
    cases e : Ws[i]? with
    | none =>
      have h1 : Ws.length ≤ i := List.getElem?_eq_none_iff.mp e
      unfold stepsUp at ih ⊢
      rw [List.take_of_length_le (by simp; omega)] at ih ⊢
      omega
    | some ways =>
      rw [stepsUp_succ e, List.length_append]
      have h2 := stepsTo_len C S i ways
      have h3 := h8 ways (List.mem_of_getElem? e)
      omega
theorem ok_steps {f c : Addr} (F : Fx K mg "steps_in" s_steps_in f c) (T : Tx K mg) (GT : Prom P w K mg base "time_in" ["game", "state", "weights", "player"] (spTime K tabs) 3) :
    Prom P w K mg base "steps_in" ["game", "some", "state", "weights"] (spSteps K tabs) 4 := by
  refine F.prom sc_steps (fun vs H Q E h => ?_) (fun _ _ _ _ _ _ us hl => match us, hl with | [_, _, _, _], _ => rfl) (fun A outer s H vs Q E hr h => ?_)
  · obtain ⟨_, _, _, _, _, _, rfl, _⟩ := h
    rfl
  · obtain ⟨vg, vc, vs_, vw, G, S, rfl, hg, hC, hS, hw, hok, h8, hpk, hgd, q⟩ := h
    have nd := sc_steps.nd
    refine ⟨_, pss_cons (ps_set (i := 4) nd rfl (Or.inl rfl) (pe_lst pa_nil))
      (pss_cons (ps_for PassesOwn.never rfl (pi_enum (by rfl) T.enum (pa_cons (pv 1) pa_nil)) (pg_tup rfl (pgs_cons (pg_name (i := 5) nd rfl (Or.inl rfl)) (pgs_cons (pg_name (i := 6) nd rfl (Or.inl rfl)) pgs_nil)))
        (pss_cons (ps_set (i := 7) nd rfl (Or.inl rfl) (pe_prom GT hr (by rfl) (pa_cons (pv 0) (pa_cons (pv 2) (pa_cons (pv 3) (pa_cons (pv 5) pa_nil))))))
        (pss_one (ps_for PassesOwn.never rfl (pi_list (pv 6)) (pg_name (i := 8) nd rfl (Or.inl rfl))
          (pss_cons (ps_set (i := 9) nd rfl (Or.inl rfl) (pe_tup (StX.pa_star (pe_slice sl_tupA (pv 2) po_none (po_some (pv 5))) (pa_cons (pv 8) (StX.pa_star (pe_slice sl_tupA (pv 2) (po_some (pe_op op_add (pv 5) pe_int)) po_none) pa_nil)))))
          (pss_one (ps_if (pt_cmpR op_lt (pe_prom GT hr (by rfl) (pa_cons (pv 0) (pa_cons (pv 9) (pa_cons (pv 3) (pa_cons (pv 5) pa_nil))))) (pv 7) (nomark _))
            (pss_one (ps_expr (pe_bm PySem.F.plainAttrs_list PySem.F.slot_list_append PySem.F.type_list_append mt_append (pv 4) (pa_cons (pe_tup (pa_cons (pv 5) (pa_cons (pv 8) pa_nil))) pa_nil)))) pss_nil)))))))
      (pss_one (ps_ret (pv 4)))), ?_⟩
    obtain ⟨hst, hPS⟩ := stok_of hok hpk
    obtain ⟨ca, cs, rfl, c1, c2⟩ := dp_lst hC
    obtain ⟨sa, ss, rfl, g1, g2⟩ := dp_tup hS
    have hlc : cs.length = (WsOf G).length := by rw [c2.length, List.length_map]
    have hls : ss.length = S.length := by rw [g2.length, List.length_map]
    have hWS := hpk.1
    have hSl := hst.l
    have hs : sizeLine = 16777216 := by decide
    refine ⟨Nat.zero_le _, fun Fa hF => ?_⟩
    have o1 : Own K H _ [(Fa, [])] := (Own.nil (Sm.refl H)).new hF rfl .nil
    refine ⟨_, rfl, ca, cs, rfl, o1.sm.sqL c1, ?_⟩
    refine for_it (walk_enum (K := K) (a := ca) (xs := cs)) (fun i σ Hc => ∃ o5 o6 o7 o8 o9, σ = [some vg, some (.ref ca), some (.ref sa), some vw, some (.ref Fa), o5, o6, o7, o8, o9] ∧ Own K H Hc [(Fa, (stepsUp (costsOf G) (WsOf G) S i).map eStep)]) ?_ ?_ ?_ ?_
    · exact ⟨_, _, _, _, _, rfl, o1⟩
    · rintro i σ Hc hi ⟨o5, o6, o7, o8, o9, rfl, ow⟩
      exact ow.sm.sqL c1
    · rintro i x σ Hc Hc' hi ⟨o5, o6, o7, o8, o9, rfl, ow⟩ ⟨Tp, x0, y0, rfl, hT, rfl, ex0, ey0⟩
      cases ex0
      have ow1 := ow.up (Sm.upd (o := .tup [.int (i : Int), y0]) hT)
      obtain ⟨ways, ew, dw⟩ := dpAll_map_get' c2 ey0
      obtain ⟨wa, ws, rfl, w1, w2⟩ := dp_lst dw
      have hlw : ws.length = ways.length := by rw [w2.length, List.length_map]
      have h8w := h8 ways (List.mem_of_getElem? ew)
      have hiS : i < S.length := by omega
      refine ⟨Tp, _, rfl, .inl (.inl upd_same), rfl, _, _, rfl, _, _, rfl, rfl, ?_⟩
      refine ⟨_, rfl, _, rfl, _, rfl, _, rfl, vg, .ref sa, vw, G, S, i, rfl, ow1.sm.dp _ hg, ow1.sm.dp _ hS, ow1.sm.dp _ hw, ow1.sm.gd hgd, hst, hiS, fun H3 s3 => ?_⟩
      have ow2 := ow1.up s3
      refine ⟨_, rfl, wa, rfl, ⟨ws, ow2.sm.sqL w1⟩, ?_⟩
      refine for_list (xs := ws) (fun j σ Hd => ∃ p8 p9, σ = [some vg, some (.ref ca), some (.ref sa), some vw, some (.ref Fa), some (.int (i : Int)), some (.ref wa), some (.int (timeOf (costsOf G) S i)), p8, p9] ∧ Own K H Hd [(Fa, (stepsUp (costsOf G) (WsOf G) S i ++ stepsTo (costsOf G) S i (ways.take j)).map eStep)]) ?_ ?_ ?_ ?_
      · refine ⟨_, _, rfl, ?_⟩
        rw [show stepsTo (costsOf G) S i (ways.take 0) = [] from rfl, List.append_nil]
        exact ow2
      · rintro j σ Hd hj ⟨p8, p9, rfl, od⟩
        exact od.sm.sqL w1
      · rintro j x σ Hd hx ⟨p8, p9, rfl, od⟩
        obtain ⟨u, eu, du⟩ := dpAll_map_get' w2 hx
        have hmem : u ∈ ways := List.mem_of_getElem? eu
        have hpk2 := picks_set hpk ew hmem
        obtain ⟨hst2, hPS2⟩ := stok_of hok hpk2
        refine ⟨_, rfl, _, rfl, _, rfl, sl_pre (od.sm.sqT g1) fun p1 H4 s4 q4 => ⟨p1, _, rfl, .inl q4, _, rfl, _, rfl, _, rfl, _, _, rfl, rfl, ((i + 1 : Nat) : Int), congrArg V.int (Int.natCast_succ i).symm, ?_⟩⟩
        have od4 := od.up s4
        dsimp only [tNoPart]
        refine sl_suf (k := i + 1) (od4.sm.sqT g1) ?_
        intro p2 H5 s5 q5
        refine ⟨p2, _, rfl, .inl q5, ?_, fun t ht => ?_⟩
        · rw [List.append_nil]
          have h1 : (ss.take i).length ≤ ss.length := by rw [List.length_take]; omega
          have h2 : (ss.drop (i + 1)).length ≤ ss.length := by rw [List.length_drop]; omega
          rw [List.length_append, List.length_cons]
          omega
        · have od5 := od4.up s5
          have od6 := od5.up (Sm.upd (o := .tup (ss.take i ++ x :: (ss.drop (i + 1) ++ []))) ht)
          have dO : Dp K (L2.upd H5 t (.tup (ss.take i ++ x :: (ss.drop (i + 1) ++ [])))) (.ref t) (eS (S.set i u)) := by
            refine dp_stateSet (od6.sm.dpAll _ g2) (od6.sm.dp _ du) (.inl (.inl ?_))
            rw [upd_same, List.append_nil, set_parts (by omega)]
          refine ⟨_, rfl, _, rfl, _, rfl, _, rfl, vg, .ref t, vw, G, S.set i u, i, rfl, od6.sm.dp _ hg, dO, ?_, od6.sm.gd hgd, hst2, by rw [List.length_set]; exact hiS, fun H7 s7 => ?_⟩
          · rw [List.length_set]
            exact od6.sm.dp _ hw
          · have od7 := od6.up s7
            refine ⟨_, rfl, _, _, rfl, rfl, _, rfl, ?_⟩
            have esucc := stepsTo_succ (C := costsOf G) (S := S) (i := i) eu
            by_cases hlt : timeOf (costsOf G) (S.set i u) i < timeOf (costsOf G) S i
            · rw [if_pos hlt] at esucc
              refine ifT (decide_eq_true hlt) ?_
              obtain ⟨fs, hfs, dfs⟩ := od7.head
              refine ⟨_, rfl, .inl ⟨rfl, _, .inl (.inl hfs)⟩, ?_⟩
              refine ⟨_, rfl, _, rfl, (by show 2 ≤ sizeLine; decide), fun t2 ht2 => ⟨Fa, fs, _, rfl, rfl, (Sm.upd ht2).keep _ _ hfs (fun _ z => nomatch z), ?_, ?_⟩⟩
              · rw [dfs.length, List.length_map, List.length_append]
                have h1 := stepsUp_len (C := costsOf G) (S := S) h8 i
                have h2 := stepsTo_len (costsOf G) S i (ways.take j)
                rw [List.length_take] at h2
                omega
              · have od8 := od7.up (Sm.upd (o := .tup [.int (i : Int), x]) ht2)
                refine ⟨_, _, rfl, ?_⟩
                rw [esucc, ← List.append_assoc, List.map_append]
                exact od8.app (v := .ref t2) (d := eStep (i, u)) ((Sm.upd ht2).keep _ _ hfs fun _ z => nomatch z) (.tup (.inl (.inl upd_same)) (.cons (.int _) (.cons (od8.sm.dp _ du) .nil))) (to_step _)
            · rw [if_neg hlt, List.append_nil] at esucc
              refine ifF (by rw [decide_eq_false hlt]; decide) ?_
              exact ⟨_, _, rfl, by rw [esucc]; exact od7⟩
      · rintro σ Hd ⟨p8, p9, rfl, od⟩
        rw [show ways.take ws.length = ways from List.take_of_length_le (by omega), ← stepsUp_succ ew] at od
        exact ⟨_, _, _, _, _, rfl, od⟩
    · rintro σ Hc ⟨o5, o6, o7, o8, o9, rfl, ow⟩
      rw [hlc, stepsUp_all] at ow
      obtain ⟨fs, hfs, dfs⟩ := ow.head
      exact ⟨_, rfl, q Fa fs Hc ow.sm ((ow.at_ (Fa, _) (List.mem_singleton.mpr rfl)).1) hfs dfs⟩
end
end Tr

/-! Def: all_states. -/
namespace Tr
open PySem PySem.Spec PyProof.Rows L2 GxR Gq
open PySem.W (AllAlike dataLt dataLe EachIs alike alikeAll)
theorem stepS_succ {rows : List (List Way)} {ways : List Way} {i : Nat} {row : List Way} (h : rows[i]? = some row) : stepS (rows.take (i + 1)) ways = stepS (rows.take i) ways ++ ways.map fun w => row ++ [w] := by
  obtain ⟨hj, ej⟩ := List.getElem?_eq_some_iff.mp h
  unfold stepS
  rw [← List.take_append_getElem hj, ej, List.flatMap_append]
  simp
theorem allSt_succ {Ws : List (List Way)} {i : Nat} {ways : List Way} (h : Ws[i]? = some ways) : allSt (Ws.take (i + 1)) = stepS (allSt (Ws.take i)) ways := by
  obtain ⟨hj, ej⟩ := List.getElem?_eq_some_iff.mp h
  rw [← List.take_append_getElem hj, ej]
  exact allSt_snoc _ _
theorem to_sts (l : List (List Way)) : tupOnlyAll (l.map eS) = true := tupOnlyAll_map fun u _ => to_st u
section
variable {P : Program} {w : World} {K : PySem.W.Frag} {mg : Str → Option Value} {base : Heap} {tabs : List Addr}
theorem sc_alls : FnScope ["some", "rows", "ways", "row", "way"] ["some"] (defScope s_all_states) := ⟨rfl, rfl, rfl, by decide +kernel, rfl, by decide +kernel, by decide +kernel⟩
def spAll (K : PySem.W.Frag) : Sp := fun vs H Q _ => ∃ (vc : V) (Ws : List (List Way)), vs = [vc] ∧ Dp K H vc (eCh Ws) ∧ Ws.length ≤ 3 ∧ (∀ ways ∈ Ws, ways.length ≤ 8) ∧
  ∀ p xs H', Sm H H' → H p = none → H' p = some (.lst xs) → DpAll K H' xs ((allSt Ws).map eS) → Q (.ref p) H'
theorem ok_alls {f c : Addr} (F : Fx K mg "all_states" s_all_states f c) (T : Tx K mg) : Prom P w K mg base "all_states" ["some"] (spAll K) 1 := by
  refine F.prom sc_alls (fun vs H Q E h => ?_) (fun _ _ _ _ _ _ us hl => match us, hl with | [_], _ => rfl) (fun A outer s H vs Q E hr h => ?_)
  · obtain ⟨_, _, rfl, _⟩ := h
    rfl
  · obtain ⟨vc, Ws, rfl, hC, h3, h8, q⟩ := h
    have nd := sc_alls.nd
    refine ⟨_, pss_cons (ps_set (i := 1) nd rfl (Or.inl rfl) (pe_lst (pa_cons (pe_tup pa_nil) pa_nil)))
      (pss_cons (ps_for PassesOwn.never rfl (pi_list (pv 0)) (pg_name (i := 2) nd rfl (Or.inr rfl))
        (pss_one (ps_setLc2 (X := (cxOf CX0 P w K mg base ["some", "rows", "ways", "row", "way"] "all_states" (defScope s_all_states) f (.ref c) A outer s H E).nox) (i := 1) (own := [("row", 3), ("way", 4)]) (vs1 := [4]) (g := gName 3) (g1 := gName 4) (tt := tYes) (tt1 := tYes) (wi1 := iList K (tVar 2)) (te := tTup (StX.tStar K (tVar 3) (tCons (tVar 4) tNil))) rfl nd rfl rfl (sw_true rfl rfl rfl (by decide +kernel)) (pi_list (pv 1))
          (blkOk_by (N := ["some", "rows", "ways", "row", "way"]) (sc := defScope s_all_states) (by decide +kernel)) (by decide)
          (fun _ _ _ _ _ => pg_name (i := 3) nd rfl (Or.inl rfl)) (fun _ _ _ _ _ => pts_nil) (fun _ _ _ _ _ => pi_list (pv 2)) (fun _ _ _ _ _ => pg_name (i := 4) nd rfl (Or.inl rfl)) (fun _ _ _ _ _ => pts_nil)
          (fun _ _ _ _ _ => pe_tup (StX.pa_star (pv 3) (pa_cons (pv 4) pa_nil))))))
      (pss_one (ps_ret (pv 1)))), ?_⟩
    obtain ⟨ca, cs, rfl, c1, c2⟩ := dp_lst hC
    have hlc : cs.length = Ws.length := by rw [c2.length, List.length_map]
    have hs : sizeLine = 16777216 := by decide
    refine ⟨Nat.zero_le _, fun t0 h0 => ⟨(by show 1 ≤ sizeLine; decide), fun RO hRO => ?_⟩⟩
    have o1 := (Own.nil (K := K) (Sm.refl H)).up (Sm.upd (o := .tup []) h0)
    have o2 := o1.new (ds := [eS []]) hRO (by rw [tupOnlyAll, to_st]; rfl) (.cons (.tup (.inl (.inl upd_same)) .nil) .nil)
    refine ⟨_, rfl, ca, rfl, ⟨cs, o2.sm.sqL c1⟩, ?_⟩
    refine for_list (xs := cs) (fun i σ Hc => ∃ RO' o2 o3 o4, σ = [some (.ref ca), some (.ref RO'), o2, o3, o4] ∧ Own K H Hc [(RO', (allSt (Ws.take i)).map eS)]) ⟨RO, _, _, _, rfl, o2⟩ ?_ ?_ ?_
    · rintro i σ Hc hi ⟨RO', p2, p3, p4, rfl, ow⟩
      exact ow.sm.sqL c1
    · rintro i x σ Hc hx ⟨RO', p2, p3, p4, rfl, ow⟩
      obtain ⟨ways, ew, dw⟩ := dpAll_map_get' c2 hx
      obtain ⟨wa, ws, rfl, w1, w2⟩ := dp_lst dw
      have hlw : ws.length = ways.length := by rw [w2.length, List.length_map]
      have h8w := h8 ways (List.mem_of_getElem? ew)
      obtain ⟨rs, hrs, drs⟩ := ow.head
      have hlr : rs.length = (allSt (Ws.take i)).length := by rw [drs.length, List.length_map]
      have hi3 : i < Ws.length := by
        obtain ⟨h9, _⟩ := List.getElem?_eq_some_iff.mp ew
        exact h9
      have hl512 : (allSt (Ws.take i)).length ≤ 512 := by
        have h1 := allSt_len (m := 8) (by decide) (Ws.take i) (fun u hu => h8 u (List.mem_of_mem_take hu))
        rw [List.length_take, Nat.min_eq_left (by omega)] at h1
        exact Nat.le_trans h1 (pow_le3 (by omega))
      have hcap : ∀ (k j : Nat), (stepS ((allSt (Ws.take i)).take k) ways).length ≤ 512 * 8 := fun k j => by
        rw [stepS_len]
        refine Nat.mul_le_mul ?_ h8w
        rw [List.length_take]
        omega
      refine ⟨_, rfl, RO', rfl, ⟨rs, .inl (.inl hrs)⟩, fun D hD => ?_⟩
      have oD := ow.new (ds := []) hD rfl .nil
      have hrs1 : L2.upd Hc D (.lst []) RO' = some (.lst rs) := (Sm.upd hD).keep _ _ hrs fun _ z => nomatch z
      refine ⟨fun k m Hd => m = rs.length - k ∧ k ≤ rs.length ∧ Own K H Hd [(D, (stepS ((allSt (Ws.take i)).take k) ways).map eS), (RO', (allSt (Ws.take i)).map eS)] ∧ Hd RO' = some (.lst rs), ⟨_, rfl, Nat.zero_le _, oD, hrs1⟩, ?_⟩
      rintro k m Hd ⟨rfl, hk, od, hd1⟩
      by_cases hkl : k < rs.length
      · refine .inr ⟨walk_list.goes k Hd hkl (.inl (.inl hd1)), _, fun H' z => ⟨rs.length - (k + 1), by omega, rfl, hkl, z⟩, fun x H' hy => ?_⟩
        obtain ⟨rfl, ex⟩ := walk_list.yields k Hd x H' hkl (.inl (.inl hd1)) hy
        have dr : DpAll K H' rs ((allSt (Ws.take i)).map eS) := by
          obtain ⟨ys, e1, e2⟩ := od.swap.head
          rw [show H' (RO', (allSt (Ws.take i)).map eS).1 = H' RO' from rfl, hd1] at e1
          cases e1
          exact e2
        obtain ⟨row, erow, drow⟩ := dpAll_map_get' dr ex
        obtain ⟨ra, rw_, rfl, r1, r2⟩ := dp_tup drow
        refine ⟨rfl, ?_⟩
        refine ⟨_, rfl, wa, rfl, ⟨ws, od.sm.sqL w1⟩, ?_⟩
        refine ⟨fun j m Hd => m = ws.length - j ∧ j ≤ ws.length ∧ Own K H Hd [(D, (stepS ((allSt (Ws.take i)).take k) ways ++ (ways.take j).map fun w => row ++ [w]).map eS), (RO', (allSt (Ws.take i)).map eS)] ∧ Hd RO' = some (.lst rs) ∧ SqT K Hd ra rw_ ∧ DpAll K Hd rw_ (row.map eW), ⟨_, rfl, Nat.zero_le _, by rw [List.take_zero, List.map_nil, List.append_nil]; exact od, hd1, r1, r2⟩, ?_⟩
        rintro j m He ⟨rfl, hj, oe, he1, he2, he3⟩
        by_cases hjl : j < ws.length
        · refine .inr ⟨walk_list.goes j He hjl (oe.sm.sqL w1), _, fun H' z => ⟨ws.length - (j + 1), by omega, rfl, hjl, z⟩, fun x H' hy => ?_⟩
          obtain ⟨rfl, ex⟩ := walk_list.yields j He x H' hjl (oe.sm.sqL w1) hy
          obtain ⟨u, eu, du⟩ := dpAll_map_get' w2 ex
          refine ⟨rfl, ?_⟩
          refine ⟨_, rfl, ra, _, rfl, .inl he2, _, rfl, ?_, fun t ht => ?_⟩
          · have h1 := (mem_allSt.mp (List.mem_of_getElem? erow)).1
            have h2 := r2.length
            rw [List.length_map] at h2
            rw [List.length_append, List.length_singleton, h2, h1, List.length_take]
            omega
          · obtain ⟨as, has, das⟩ := oe.head
            have has2 := (Sm.upd (o := .tup (rw_ ++ [x])) ht).keep _ _ has fun _ z => nomatch z
            have oe2 := (oe.up (Sm.upd (o := .tup (rw_ ++ [x])) ht)).app (v := .ref t) (d := eS (row ++ [u])) has2 (by
              unfold eS
              rw [List.map_append]
              exact .tup (.inl (.inl upd_same)) (((Sm.upd ht).dpAll _ he3).append (.cons ((Sm.upd ht).dp _ (oe.sm.dp _ du)) .nil))) (to_st _)
            have tk : TK H' (L2.upd (L2.upd H' t (.tup (rw_ ++ [x]))) D (.lst (as ++ [V.ref t]))) := (Sm.upd ht).tk.trans (TK.lst has2)
            have hne : RO' ≠ D := fun z => by
              have := oe.nd
              simp [z] at this
            refine ⟨as, has2, ?_, ?_⟩
            · rw [das.length, List.length_map, List.length_append, List.length_map, List.length_take]
              have := hcap k j
              omega
            · refine ⟨?_, ?_, tk.sqT he2, tk.dpAll _ (tupOnlyAll_map fun u _ => to_way u) he3⟩
              · have e1 : ways.take (j + 1) = ways.take j ++ [u] := by
                  obtain ⟨h9, h10⟩ := List.getElem?_eq_some_iff.mp eu
                  rw [← List.take_append_getElem h9, h10]
                have e2 : (ways.take (j + 1)).map (fun w => row ++ [w]) = (ways.take j).map (fun w => row ++ [w]) ++ [row ++ [u]] := by
                  rw [e1, List.map_append]
                  rfl
                rw [e2, ← List.append_assoc, List.map_append]
                exact oe2
              · rw [upd_ne hne]
                exact (Sm.upd ht).keep _ _ he1 fun _ z => nomatch z
        · have e : j = ws.length := by omega
          subst e
          refine .inl ⟨walk_list.stops He (oe.sm.sqL w1), ?_, he1⟩
          rw [stepS_succ erow]
          rw [show ways.take ws.length = ways from List.take_of_length_le (by omega)] at oe
          exact oe
      · have e : k = rs.length := by omega
        subst e
        refine .inl ⟨walk_list.stops Hd (.inl (.inl hd1)), D, _, _, _, rfl, ?_⟩
        rw [show (allSt (Ws.take i)).take rs.length = allSt (Ws.take i) from List.take_of_length_le (by omega)] at od
        rw [allSt_succ ew]
        exact od.swap.tail
    · rintro σ Hc ⟨RO', p2, p3, p4, rfl, ow⟩
      rw [show Ws.take cs.length = Ws from List.take_of_length_le (by omega)] at ow
      obtain ⟨fs, hfs, dfs⟩ := ow.head
      exact ⟨_, rfl, q RO' fs Hc ow.sm ((ow.at_ (RO', _) (List.mem_singleton.mpr rfl)).1) hfs dfs⟩
end
end Tr

/-! Defs: standing_of, standing_states. -/
namespace Tr
open PySem PySem.Spec PyProof.Rows L2 GxR Gq
open PySem.W (AllAlike dataLt dataLe EachIs alike alikeAll)
theorem filter_range {α β : Type} (l : List α) (d : α) (p : α → Bool) (f : α → β) : (((List.range l.length).filter fun i => p (l.getD i d)).map fun i => f (l.getD i d)) = (l.filter p).map f := by
  have e2 : l = (List.range l.length).map fun j => l.getD j d := by
    refine List.ext_getElem (by simp) fun k h1 h2 => ?_
    simp only [List.getElem_map, List.getElem_range]
    rw [List.getD_eq_getElem?_getD, List.getElem?_eq_getElem h1]
    rfl
  conv => rhs; rw [e2]
  rw [List.filter_map, List.map_map]
  rfl
theorem ws_len (G : Gm) : (WsOf G).length = G.P.length := by unfold WsOf; rw [List.length_map]
theorem allSt_512 {G : Gm} (hok : GOk G) (h8 : W8 G) : (allSt (WsOf G)).length ≤ 512 := by
  have h1 := allSt_len (m := 8) (by decide) (WsOf G) h8
  rw [ws_len] at h1
  exact Nat.le_trans h1 (pow_le3 hok.p3)
section
variable {P : Program} {w : World} {K : PySem.W.Frag} {mg : Str → Option Value} {base : Heap} {tabs : List Addr}
theorem sc_stof : FnScope ["game", "weights", "some", "state"] ["game", "weights"] (defScope s_standing_of) := ⟨rfl, rfl, rfl, by decide +kernel, rfl, by decide +kernel, by decide +kernel⟩
def spStOf (K : PySem.W.Frag) (tabs : List Addr) : Sp := fun vs H Q _ => ∃ (vg vw : V) (G : Gm), vs = [vg, vw] ∧ Dp K H vg (eGm G) ∧ Dp K H vw (eOnes G.P.length) ∧ GOk G ∧ W8 G ∧ Gd tabs H ∧
  ∀ p xs H', Sm H H' → H p = none → H' p = some (.lst xs) → DpAll K H' xs ((standing (costsOf G) (WsOf G)).map eS) → Q (.ref p) H'
def tNotT (K : PySem.W.Frag) (t : TE) : TT := tNot (fun σ H Q => t σ H fun x H' => ∃ k, TruV K x H' k ∧ Q k H')
theorem ok_stof {f c : Addr} (F : Fx K mg "standing_of" s_standing_of f c) (T : Tx K mg) (GC : Prom P w K mg base "choices_of" ["game"] (spCh K tabs) 2) (GA_ : Prom P w K mg base "all_states" ["some"] (spAll K) 1) (GS : Prom P w K mg base "steps_in" ["game", "some", "state", "weights"] (spSteps K tabs) 4) :
    Prom P w K mg base "standing_of" ["game", "weights"] (spStOf K tabs) 5 := by
  refine F.prom sc_stof (fun vs H Q E h => ?_) (fun _ _ _ _ _ _ us hl => match us, hl with | [_, _], _ => rfl) (fun A outer s H vs Q E hr h => ?_)
  · obtain ⟨_, _, _, rfl, _⟩ := h
    rfl
  · obtain ⟨vg, vw, G, rfl, hg, hw, hok, h8, hgd, q⟩ := h
    have nd := sc_stof.nd
    have gc := GC.mono (k := 4) (by decide)
    have ga := GA_.mono (k := 4) (by decide)
    refine ⟨_, pss_cons (ps_set (i := 2) nd rfl (Or.inr rfl) (pe_prom gc hr (by rfl) (pa_cons (pv 0) pa_nil)))
      (pss_one (ps_ret (pe_lc (own := [("state", 3)]) (g := gName 3) (tt := tNotT K (tCall (spSteps K tabs) [] E0 (tCons (tVar 0) (tCons (tVar 2) (tCons (tVar 3) (tCons (tVar 1) tNil)))))) rfl nd (pi_list (pe_prom ga hr (by rfl) (pa_cons (pv 2) pa_nil)))
        (blkOk_by (N := ["game", "weights", "some", "state"]) (sc := defScope s_standing_of) (by decide +kernel)) (fun _ _ _ _ _ => pg_name (i := 3) nd rfl (Or.inl rfl)) (fun _ _ _ _ _ => pts_one (pt_not (pt_truth (pe_prom GS hr (by rfl) (pa_cons (pv 0) (pa_cons (pv 2) (pa_cons (pv 3) (pa_cons (pv 1) pa_nil))))) (fun _ => rfl)))) (fun _ _ _ _ _ => pv 3)))), ?_⟩
    have hs : sizeLine = 16777216 := by decide
    have hWl := ws_len G
    have b6 := hok.p3
    refine ⟨_, rfl, vg, G, rfl, hg, hok, h8, hgd, fun pc H1 s1 hpc hC => ?_⟩
    refine ⟨_, rfl, .ref pc, WsOf G, rfl, hC, by omega, h8, fun pa xs H2 s2 hpa hxs dxs => ⟨pa, rfl, ⟨xs, .inl (.inl hxs)⟩, fun D hD => ?_⟩⟩
    have s12 := s1.trans s2
    have hlx : xs.length = (allSt (WsOf G)).length := by rw [dxs.length, List.length_map]
    have h512 := allSt_512 hok h8
    refine lc_itD walk_list hD (by omega) (fun H' s => s.sqL (.inl (.inl hxs))) (fun i => (stepsOf (costsOf G) (WsOf G) ((allSt (WsOf G)).getD i [])).isEmpty) (fun i y H => Dp K H y (eS ((allSt (WsOf G)).getD i []))) (fun i y H2 H3 h hl e => okD (to_st _) h hl e) ?_ ?_
    · intro i x H3 H3' Nx hi hsm hl hy k1 k0
      obtain ⟨rfl, ex⟩ := hy
      obtain ⟨S, eS', dS⟩ := dpAll_map_get' (hsm.dpAll _ dxs) ex
      have eg : (allSt (WsOf G)).getD i [] = S := by rw [List.getD_eq_getElem?_getD, eS']; rfl
      have hpk := mem_allSt.mp (List.mem_of_getElem? eS')
      have hSl : S.length = G.P.length := by rw [hpk.1, hWl]
      have s13 := s12.trans hsm
      rw [eg] at k1 k0
      refine ⟨rfl, ?_⟩
      refine ⟨_, rfl, _, rfl, _, rfl, _, rfl, vg, .ref pc, x, vw, G, S, rfl, s13.dp _ hg, (s2.trans hsm).dp _ hC, dS, by rw [hSl]; exact s13.dp _ hw, hok, h8, hpk, s13.gd hgd, fun ps zs H4 s4 hps hzs dzs => ?_⟩
      refine ⟨!zs.isEmpty, .inl ⟨zs, .inl (.inl hzs), rfl⟩, ?_⟩
      have hlz : zs.length = (stepsOf (costsOf G) (WsOf G) S).length := by rw [dzs.length, List.length_map]
      have hemp : zs.isEmpty = (stepsOf (costsOf G) (WsOf G) S).isEmpty := by
        cases zs <;> cases hh : stepsOf (costsOf G) (WsOf G) S <;> simp_all
      rw [hemp]
      cases hb : (stepsOf (costsOf G) (WsOf G) S).isEmpty with
      | true =>
        rw [hb] at k1
        exact ifT rfl ⟨x, rfl, k1 rfl x H4 s4 (s4.dp _ dS)⟩
      | false =>
        rw [hb] at k0
        exact ifF (by decide) (k0 rfl H4 s4)
    · intro H3 acc hsm hacc hp
      refine q D acc H3 (s12.trans hsm) (s12.fr _ hD) hacc ?_
      have hd := dpAll_paired (es := fun i => eS ((allSt (WsOf G)).getD i [])) hp
      rw [hlx, filter_range (allSt (WsOf G)) [] (fun S => (stepsOf (costsOf G) (WsOf G) S).isEmpty) eS] at hd
      exact hd
theorem sc_ststs : FnScope ["game"] ["game"] (defScope s_standing_states) := ⟨rfl, rfl, rfl, by decide +kernel, rfl, by decide +kernel, by decide +kernel⟩
def spStSts (K : PySem.W.Frag) (tabs : List Addr) : Sp := fun vs H Q _ => ∃ (vg : V) (G : Gm), vs = [vg] ∧ Dp K H vg (eGm G) ∧ GOk G ∧ W8 G ∧ Gd tabs H ∧ ∀ v H', Sm H H' → Dp K H' v (.tuple ((standing (costsOf G) (WsOf G)).map eS)) → Q v H'
theorem ok_ststs {f c : Addr} (F : Fx K mg "standing_states" s_standing_states f c) (T : Tx K mg) (G1 : Prom P w K mg base "need_game" ["game", "length"] (spNeed K tabs) 4) (G2 : Prom P w K mg base "standing_of" ["game", "weights"] (spStOf K tabs) 5) (G3 : Prom P w K mg base "ones" ["game"] (spOnes K) 1) :
    Prom P w K mg base "standing_states" ["game"] (spStSts K tabs) 6 := by
  refine F.prom sc_ststs (fun vs H Q E h => ?_) (fun _ _ _ _ _ _ us hl => match us, hl with | [_], _ => rfl) (fun A outer s H vs Q E hr h => ?_)
  · obtain ⟨_, _, rfl, _⟩ := h
    rfl
  · obtain ⟨vg, G, rfl, hg, hok, h8, hgd, q⟩ := h
    have g1 := G1.mono (k := 5) (by decide)
    have g3 := G3.mono (k := 5) (by decide)
    refine ⟨_, pss_cons (ps_expr (pe_prom g1 hr (by rfl) (pa_cons (pv 0) (pa_cons pe_non pa_nil)))) (pss_one (ps_ret (pe_callTy call_tuple_of (by rfl) T.tuple (by decide +kernel) (pa_cons (pe_prom G2 hr (by rfl) (pa_cons (pv 0) (pa_cons (pe_prom g3 hr (by rfl) (pa_cons (pv 0) pa_nil)) pa_nil))) pa_nil)))), ?_⟩
    have b6 := hok.p3
    refine ⟨_, rfl, vg, G, rfl, hg, hok, hgd, fun H1 s1 => ?_⟩
    refine ⟨_, rfl, _, rfl, vg, G, rfl, s1.dp _ hg, by omega, fun vo H2 s2 ho => ?_⟩
    have s12 := s1.trans s2
    refine ⟨vg, vo, G, rfl, s12.dp _ hg, ho, hok, h8, s12.gd hgd, fun p xs H3 s3 hpn hxs dxs => ?_⟩
    exact ⟨_, _, rfl, .inl ⟨.inl (.inl hxs), fun t ht => q (.ref t) _ (s12.trans (s3.trans (Sm.upd ht))) (.tup (.inl (.inl upd_same)) ((Sm.upd ht).dpAll _ dxs))⟩⟩
end
end Tr

/-! Defs: best_state, lowest_state, standing_prices. -/
namespace Tr
open PySem PySem.Spec PyProof.Rows L2 GxR Gq
open PySem.W (AllAlike dataLt dataLe EachIs alike alikeAll)
def eBest (z : Int) (S : List Way) : PyData := .tuple [.int z, eS S]
theorem alikeAll_ways : ∀ S O : List Way, alikeAll (S.map eW) (O.map eW) = true
  | [], m => by simp [alikeAll]
  | _ :: _, [] => by simp [alikeAll]
  | a :: l, b :: m => by
    rw [List.map_cons, List.map_cons, alikeAll, alikeAll_ways l m, alike_ways]
    rfl
theorem alike_best (z y : Int) (S O : List Way) : alike (eBest z S) (eBest y O) = true := by
  unfold eBest eS
  rw [alike, alikeAll, alikeAll, alikeAll, alike, alike, alikeAll_ways]
  rfl
theorem depth_best (z : Int) (S : List Way) : (eBest z S).depth ≤ 60 := by
  unfold eBest
  rw [PyData.depth, PyData.depthAll, PyData.depthAll, PyData.depthAll, PyData.depth]
  have := depth_st S
  omega
theorem lt_first {z y : Int} {S O : List Way} (h : z < y) : dataLt (eBest z S) (eBest y O) = true := by
  unfold eBest
  rw [PySem.W.dataLt_tuple, PySem.W.dataLt_all_no (by rfl) (by show (z == y) = false; simp; omega), PySem.W.dataLt_int, decide_eq_true h]
theorem nlt_first {z y : Int} {S O : List Way} (h : y < z) : dataLt (eBest z S) (eBest y O) = false := by
  unfold eBest
  rw [PySem.W.dataLt_tuple, PySem.W.dataLt_all_no (by rfl) (by show (z == y) = false; simp; omega), PySem.W.dataLt_int, decide_eq_false (by omega)]
/-- the comparisons pick a least first item -/
theorem best_least {lt : Nat → Nat → Bool} {fz : Nat → Int} {n : Nat} (h1 : ∀ i j, i ≤ n → j ≤ n → fz i < fz j → lt i j = true) (h2 : ∀ i j, i ≤ n → j ≤ n → fz j < fz i → lt i j = false) : ∀ k, k ≤ n → argBest lt k ≤ k ∧ ∀ j, j ≤ k → fz (argBest lt k) ≤ fz j
  | 0, _ => ⟨Nat.le_refl _, fun j hj => by rw [show j = 0 by omega]; exact Int.le_refl _⟩
  | k + 1, hk => by
    obtain ⟨ih1, ih2⟩ := best_least h1 h2 k (by omega)
    show (if lt (k + 1) (argBest lt k) = true then k + 1 else argBest lt k) ≤ k + 1 ∧ ∀ j, j ≤ k + 1 → fz (if lt (k + 1) (argBest lt k) = true then k + 1 else argBest lt k) ≤ fz j
    cases hb : lt (k + 1) (argBest lt k) with
    | true =>
      rw [if_pos rfl]
      have hle : fz (k + 1) ≤ fz (argBest lt k) := by
        refine Int.not_lt.mp fun z => ?_
        rw [h2 _ _ hk (by omega) z] at hb
        cases hb
      refine ⟨Nat.le_refl _, fun j hj => ?_⟩
      by_cases e : j = k + 1
      · rw [e]; exact Int.le_refl _
      · exact Int.le_trans hle (ih2 j (by omega))
    | false =>
      rw [if_neg (by decide)]
      have hle : fz (argBest lt k) ≤ fz (k + 1) := by
        refine Int.not_lt.mp fun z => ?_
        rw [h1 _ _ hk (by omega) z] at hb
        cases hb
      refine ⟨by omega, fun j hj => ?_⟩
      by_cases e : j = k + 1
      · rw [e]; exact hle
      · exact ih2 j (by omega)
theorem to_best (z : Int) (S : List Way) : tupOnly (eBest z S) = true := by
  show (tupOnly (.int z) && (tupOnly (eS S) && true)) = true
  rw [to_st]
  rfl
/-- min of a list of pairs -/
theorem min_best {K : PySem.W.Frag} {H : Hp} {Q : VK} {a : Addr} {xs : List V} {fz : List Way → Int} {l : List (List Way)} (hs : SqL K H a xs) (hd : DpAll K H xs (l.map fun S => eBest (fz S) S)) (hne : l ≠ [])
    (q : ∀ v S, S ∈ l → (∀ O ∈ l, fz S ≤ fz O) → Dp K H v (eBest (fz S) S) → Q v H) : rMinD K [.ref a] H Q := by
  have hl : 0 < l.length := List.length_pos_iff.mpr hne
  refine ⟨a, xs, _, rfl, hs, hd, by rw [List.length_map]; exact hl, fun d hd d' hd' => ?_, fun d hd => ?_, fun v d e dv => ?_⟩
  · obtain ⟨S, _, rfl⟩ := List.mem_map.mp hd
    obtain ⟨O, _, rfl⟩ := List.mem_map.mp hd'
    exact alike_best _ _ _ _
  · obtain ⟨S, _, rfl⟩ := List.mem_map.mp hd
    exact ⟨fun z => (by unfold eBest at z; cases z), depth_best _ _⟩
  · have gd : ∀ i, i ≤ l.length - 1 → (l.map fun S => eBest (fz S) S).getD i .none = eBest (fz (l.getD i [])) (l.getD i []) := fun i hi => by
      rw [List.getD_eq_getElem?_getD, List.getElem?_map, List.getD_eq_getElem?_getD, List.getElem?_eq_getElem (show i < l.length by omega)]
      rfl
    rw [List.length_map] at e
    obtain ⟨k1, k2⟩ := best_least (fz := fun i => fz (l.getD i [])) (n := l.length - 1) (lt := fun i j => dataLt ((l.map fun S => eBest (fz S) S).getD i .none) ((l.map fun S => eBest (fz S) S).getD j .none))
      (fun i j hi hj h => by show dataLt _ _ = true; rw [gd i hi, gd j hj]; exact lt_first h) (fun i j hi hj h => by show dataLt _ _ = false; rw [gd i hi, gd j hj]; exact nlt_first h) (l.length - 1) (Nat.le_refl _)
    generalize argBest _ (l.length - 1) = b at e k1 k2
    have hb : b < l.length := by omega
    have eb : l.getD b [] = l[b] := by rw [List.getD_eq_getElem?_getD, List.getElem?_eq_getElem hb]; rfl
    rw [List.getElem?_map, List.getElem?_eq_getElem hb] at e
    have ed : eBest (fz l[b]) l[b] = d := Option.some.inj e
    subst ed
    refine q v l[b] (List.getElem_mem hb) (fun O hO => ?_) dv
    obtain ⟨j, hj, ej⟩ := List.getElem_of_mem hO
    have h9 := k2 j (by omega)
    simp only [eb] at h9
    rw [List.getD_eq_getElem?_getD, List.getElem?_eq_getElem hj, ej] at h9
    exact h9
section
variable {P : Program} {w : World} {K : PySem.W.Frag} {mg : Str → Option Value} {base : Heap} {tabs : List Addr}
theorem sc_best : FnScope ["game", "state"] ["game"] (defScope s_best_state) := ⟨rfl, rfl, rfl, by decide +kernel, rfl, by decide +kernel, by decide +kernel⟩
theorem sc_low : FnScope ["game", "state"] ["game"] (defScope s_lowest_state) := ⟨rfl, rfl, rfl, by decide +kernel, rfl, by decide +kernel, by decide +kernel⟩
def spBest (fz : List (List Int) → List Way → Int) (K : PySem.W.Frag) (tabs : List Addr) : Sp := fun vs H Q _ => ∃ (vg : V) (G : Gm), vs = [vg] ∧ Dp K H vg (eGm G) ∧ GOk G ∧ W8 G ∧ Gd tabs H ∧ ∀ v S H', Sm H H' → Picks (WsOf G) S → (∀ O, Picks (WsOf G) O → fz (costsOf G) S ≤ fz (costsOf G) O) → Dp K H' v (eBest (fz (costsOf G) S) S) → Q v H'
theorem some_state {G : Gm} (hok : GOk G) : allSt (WsOf G) ≠ [] := by
  have h : ∀ Ws : List (List Way), (∀ ways ∈ Ws, ways ≠ []) → ∃ S, Picks Ws S := by
    intro Ws
    induction Ws with
    | nil => exact fun _ => ⟨[], rfl, fun i ways w e => by simp at e⟩
    | cons ways Ws ih =>
      intro hw
      obtain ⟨S, h1, h2⟩ := ih fun x hx => hw x (by simp [hx])
      cases hh : ways with
      | nil => exact absurd hh (hw ways (by simp))
      | cons u us =>
        refine ⟨u :: S, by simp [h1], fun i ws w e1 e2 => ?_⟩
        cases i with
        | zero =>
          have e1' : u :: us = ws := Option.some.inj (by simpa using e1)
          have e2' : u = w := Option.some.inj (by simpa using e2)
          rw [← e1', ← e2']
          simp
        | succ i => exact h2 i ws w (by simpa using e1) (by simpa using e2)
  obtain ⟨S, hS⟩ := h (WsOf G) fun ways hw => by
    unfold WsOf at hw
    obtain ⟨p, hp, rfl⟩ := List.mem_map.mp hw
    exact (hok.players p hp).way
  intro z
  have := mem_allSt.mpr hS
  rw [z] at this
  cases this
theorem map_range {α β : Type} (l : List α) (d : α) (f : α → β) : ((List.range l.length).map fun i => f (l.getD i d)) = l.map f := by
  have h := filter_range l d (fun _ => true) f
  rw [filter_all] at h
  rw [h, List.filter_eq_self.mpr fun _ _ => rfl]
theorem ok_best {f c : Addr} (F : Fx K mg "best_state" s_best_state f c) (T : Tx K mg) (G1 : Prom P w K mg base "need_game" ["game", "length"] (spNeed K tabs) 4) (GC : Prom P w K mg base "choices_of" ["game"] (spCh K tabs) 2) (GA_ : Prom P w K mg base "all_states" ["some"] (spAll K) 1) (GT : Prom P w K mg base "times_in" ["game", "state"] (spTimes K tabs) 4) :
    Prom P w K mg base "best_state" ["game"] (spBest totalOf K tabs) 5 := by
  refine F.prom sc_best (fun vs H Q E h => ?_) (fun _ _ _ _ _ _ us hl => match us, hl with | [_], _ => rfl) (fun A outer s H vs Q E hr h => ?_)
  · obtain ⟨_, _, rfl, _⟩ := h
    rfl
  · obtain ⟨vg, G, rfl, hg, hok, h8, hgd, q⟩ := h
    have nd := sc_best.nd
    have gc := GC.mono (k := 4) (by decide)
    have ga := GA_.mono (k := 4) (by decide)
    have hu : (A.deeper (envOfC "best_state" (defScope s_best_state) s.heap.objs.size f (.ref c))).units + 200 < cLine := by have := hr.un; omega
    refine ⟨_, pss_cons (ps_expr (pe_prom G1 hr (by rfl) (pa_cons (pv 0) (pa_cons pe_non pa_nil)))) (pss_one (ps_ret (pe_callB (cr_minD hr.hd hu) (by rfl) T.min (by decide +kernel) (pa_cons (pe_lc (own := [("state", 1)]) (g := gName 1) (tt := tYes) (te := tTup (tCons (tCB (rSum K) (tCons (tCall (spTimes K tabs) [] E0 (tCons (tVar 0) (tCons (tVar 1) tNil))) tNil)) (tCons (tVar 1) tNil))) rfl nd
      (pi_list (pe_prom ga hr (by rfl) (pa_cons (pe_prom gc hr (by rfl) (pa_cons (pv 0) pa_nil)) pa_nil)))
      (blkOk_by (N := ["game", "state"]) (sc := defScope s_best_state) (by decide +kernel)) (fun _ _ _ _ _ => pg_name (i := 1) nd rfl (Or.inl rfl)) (fun _ _ _ _ _ => pts_nil)
      (fun _ _ _ _ _ => pe_tup (pa_cons (pe_callB (cr_sum rfl) (by rfl) T.sum (by decide +kernel) (pa_cons (pe_prom GT hr (by rfl) (pa_cons (pv 0) (pa_cons (pv 1) pa_nil))) pa_nil)) (pa_cons (pv 1) pa_nil)))) pa_nil)))), ?_⟩
    have hs : sizeLine = 16777216 := by decide
    have hWl := ws_len G
    have b6 := hok.p3
    refine ⟨_, rfl, vg, G, rfl, hg, hok, hgd, fun H0 s0 => ?_⟩
    refine ⟨_, rfl, vg, G, rfl, s0.dp _ hg, hok, h8, s0.gd hgd, fun pc H1 s1 hpc hC => ?_⟩
    refine ⟨.ref pc, WsOf G, rfl, hC, by omega, h8, fun pa xs H2 s2 hpa hxs dxs => ⟨pa, rfl, ⟨xs, .inl (.inl hxs)⟩, fun D hD => ?_⟩⟩
    have s12 := s0.trans (s1.trans s2)
    have hlx : xs.length = (allSt (WsOf G)).length := by rw [dxs.length, List.length_map]
    have h512 := allSt_512 hok h8
    refine lc_itA walk_list hD (by omega) (fun H' s => s.sqL (.inl (.inl hxs))) (fun i y H => Dp K H y (eBest (totalOf (costsOf G) ((allSt (WsOf G)).getD i [])) ((allSt (WsOf G)).getD i []))) (fun i y H2 H3 h hl e => okD (to_best _ _) h hl e) ?_ ?_
    · intro i x H3 H3' Nx hi hsm hl hy k1
      obtain ⟨rfl, ex⟩ := hy
      obtain ⟨S, eS', dS⟩ := dpAll_map_get' (hsm.dpAll _ dxs) ex
      have eg : (allSt (WsOf G)).getD i [] = S := by rw [List.getD_eq_getElem?_getD, eS']; rfl
      have hpk := mem_allSt.mp (List.mem_of_getElem? eS')
      obtain ⟨hst, hPS⟩ := stok_of hok hpk
      have s13 := s12.trans hsm
      rw [eg] at k1
      refine ⟨rfl, ?_⟩
      refine ⟨_, rfl, _, rfl, vg, x, G, S, rfl, s13.dp _ hg, dS, s13.gd hgd, hst, hPS, fun pt H4 s4 hpt0 hpt => ⟨pt, _, rfl, .inl (.inl hpt), _, rfl, (by show 2 ≤ sizeLine; decide), fun t ht => ?_⟩⟩
      exact k1 _ _ (s4.trans (Sm.upd ht)) (.tup (.inl (.inl upd_same)) (.cons (.int _) (.cons ((s4.trans (Sm.upd ht)).dp _ dS) .nil)))
    · intro H3 acc hsm hacc hp
      have hd := dpAll_paired (es := fun i => eBest (totalOf (costsOf G) ((allSt (WsOf G)).getD i [])) ((allSt (WsOf G)).getD i [])) hp
      rw [hlx, map_range (allSt (WsOf G)) [] (fun S => eBest (totalOf (costsOf G) S) S)] at hd
      refine min_best (fz := totalOf (costsOf G)) (.inl (.inl hacc)) hd (some_state hok) fun v S hS hmin dv => ?_
      exact q v S H3 (s12.trans hsm) (mem_allSt.mp hS) (fun O hO => hmin O (mem_allSt.mpr hO)) dv
theorem ok_low {f c : Addr} (F : Fx K mg "lowest_state" s_lowest_state f c) (T : Tx K mg) (G1 : Prom P w K mg base "need_game" ["game", "length"] (spNeed K tabs) 4) (GC : Prom P w K mg base "choices_of" ["game"] (spCh K tabs) 2) (GA_ : Prom P w K mg base "all_states" ["some"] (spAll K) 1) (GP : Prom P w K mg base "potential_in" ["game", "state"] (spPot K tabs) 3) :
    Prom P w K mg base "lowest_state" ["game"] (spBest potOf K tabs) 5 := by
  refine F.prom sc_low (fun vs H Q E h => ?_) (fun _ _ _ _ _ _ us hl => match us, hl with | [_], _ => rfl) (fun A outer s H vs Q E hr h => ?_)
  · obtain ⟨_, _, rfl, _⟩ := h
    rfl
  · obtain ⟨vg, G, rfl, hg, hok, h8, hgd, q⟩ := h
    have nd := sc_low.nd
    have gc := GC.mono (k := 4) (by decide)
    have ga := GA_.mono (k := 4) (by decide)
    have gp := GP.mono (k := 4) (by decide)
    have hu : (A.deeper (envOfC "lowest_state" (defScope s_lowest_state) s.heap.objs.size f (.ref c))).units + 200 < cLine := by have := hr.un; omega
    refine ⟨_, pss_cons (ps_expr (pe_prom G1 hr (by rfl) (pa_cons (pv 0) (pa_cons pe_non pa_nil)))) (pss_one (ps_ret (pe_callB (cr_minD hr.hd hu) (by rfl) T.min (by decide +kernel) (pa_cons (pe_lc (own := [("state", 1)]) (g := gName 1) (tt := tYes) (te := tTup (tCons (tCall (spPot K tabs) [] E0 (tCons (tVar 0) (tCons (tVar 1) tNil))) (tCons (tVar 1) tNil))) rfl nd
      (pi_list (pe_prom ga hr (by rfl) (pa_cons (pe_prom gc hr (by rfl) (pa_cons (pv 0) pa_nil)) pa_nil)))
      (blkOk_by (N := ["game", "state"]) (sc := defScope s_lowest_state) (by decide +kernel)) (fun _ _ _ _ _ => pg_name (i := 1) nd rfl (Or.inl rfl)) (fun _ _ _ _ _ => pts_nil)
      (fun _ _ _ _ _ => pe_tup (pa_cons (pe_prom gp hr (by rfl) (pa_cons (pv 0) (pa_cons (pv 1) pa_nil))) (pa_cons (pv 1) pa_nil)))) pa_nil)))), ?_⟩
    have hs : sizeLine = 16777216 := by decide
    have hWl := ws_len G
    have b6 := hok.p3
    refine ⟨_, rfl, vg, G, rfl, hg, hok, hgd, fun H0 s0 => ?_⟩
    refine ⟨_, rfl, vg, G, rfl, s0.dp _ hg, hok, h8, s0.gd hgd, fun pc H1 s1 hpc hC => ?_⟩
    refine ⟨.ref pc, WsOf G, rfl, hC, by omega, h8, fun pa xs H2 s2 hpa hxs dxs => ⟨pa, rfl, ⟨xs, .inl (.inl hxs)⟩, fun D hD => ?_⟩⟩
    have s12 := s0.trans (s1.trans s2)
    have hlx : xs.length = (allSt (WsOf G)).length := by rw [dxs.length, List.length_map]
    have h512 := allSt_512 hok h8
    refine lc_itA walk_list hD (by omega) (fun H' s => s.sqL (.inl (.inl hxs))) (fun i y H => Dp K H y (eBest (potOf (costsOf G) ((allSt (WsOf G)).getD i [])) ((allSt (WsOf G)).getD i []))) (fun i y H2 H3 h hl e => okD (to_best _ _) h hl e) ?_ ?_
    · intro i x H3 H3' Nx hi hsm hl hy k1
      obtain ⟨rfl, ex⟩ := hy
      obtain ⟨S, eS', dS⟩ := dpAll_map_get' (hsm.dpAll _ dxs) ex
      have eg : (allSt (WsOf G)).getD i [] = S := by rw [List.getD_eq_getElem?_getD, eS']; rfl
      have hpk := mem_allSt.mp (List.mem_of_getElem? eS')
      obtain ⟨hst, hPS⟩ := stok_of hok hpk
      have s13 := s12.trans hsm
      rw [eg] at k1
      refine ⟨rfl, ?_⟩
      refine ⟨_, rfl, _, rfl, vg, x, G, S, rfl, s13.dp _ hg, dS, s13.gd hgd, hst, hPS, fun H4 s4 => ⟨_, rfl, (by show 2 ≤ sizeLine; decide), fun t ht => ?_⟩⟩
      exact k1 _ _ (s4.trans (Sm.upd ht)) (.tup (.inl (.inl upd_same)) (.cons (.int _) (.cons ((s4.trans (Sm.upd ht)).dp _ dS) .nil)))
    · intro H3 acc hsm hacc hp
      have hd := dpAll_paired (es := fun i => eBest (potOf (costsOf G) ((allSt (WsOf G)).getD i [])) ((allSt (WsOf G)).getD i [])) hp
      rw [hlx, map_range (allSt (WsOf G)) [] (fun S => eBest (potOf (costsOf G) S) S)] at hd
      refine min_best (fz := potOf (costsOf G)) (.inl (.inl hacc)) hd (some_state hok) fun v S hS hmin dv => ?_
      exact q v S H3 (s12.trans hsm) (mem_allSt.mp hS) (fun O hO => hmin O (mem_allSt.mpr hO)) dv
end
end Tr

/-! Defs: standing_prices, walk_to_standing. -/
namespace Tr
open PySem PySem.Spec PyProof.Rows L2 GxR Gq
open PySem.W (AllAlike dataLt dataLe EachIs alike alikeAll)
theorem sum_bndB {B : Int} {l : List Int} (h : ∀ z ∈ l, 0 ≤ z ∧ z ≤ B) : 0 ≤ l.sum ∧ l.sum ≤ B * (l.length : Int) := by
  induction l with
  | nil => simp
  | cons x l ih =>
    have hx := h x (by simp)
    have := ih fun z hz => h z (by simp [hz])
    rw [List.sum_cons, List.length_cons, Int.natCast_succ, Int.mul_add, Int.mul_one]
    omega
theorem time_bnd {G : Gm} {S : List Way} (h : StOk G S) {p : Nat} (hp : p < S.length) : 0 ≤ timeOf (costsOf G) S p ∧ timeOf (costsOf G) S p ≤ 100000 := by
  have e := List.getElem?_eq_getElem hp
  have e1 : S.getD p [] = S[p] := by rw [List.getD_eq_getElem?_getD, e]; rfl
  unfold timeOf timeAt
  rw [e1]
  have h1 := sum_bndB (B := 1000) (l := S[p].map fun i => ((costsOf G).getD i []).getD (cnt i S - 1) 0) fun z hz => by
    obtain ⟨i, hi, rfl⟩ := List.mem_map.mp hz
    obtain ⟨r, _, _, _, h4, h5⟩ := h.cost e hi
    exact ⟨h4, h5⟩
  rw [List.length_map] at h1
  have h2 := h.wl S[p] (List.getElem_mem hp)
  omega
theorem total_bnd {G : Gm} {S : List Way} (h : StOk G S) : 0 ≤ totalOf (costsOf G) S ∧ totalOf (costsOf G) S ≤ 10000000 := by
  unfold totalOf timesOf
  have h1 := sum_bndB (B := 100000) (l := (List.range S.length).map (timeOf (costsOf G) S)) fun z hz => by
    obtain ⟨i, hi, rfl⟩ := List.mem_map.mp hz
    exact time_bnd h (List.mem_range.mp hi)
  rw [List.length_map, List.length_range] at h1
  have h2 := h.l
  omega
theorem pot_bnd {G : Gm} {S : List Way} (h : StOk G S) : 0 ≤ potOf (costsOf G) S ∧ potOf (costsOf G) S ≤ 10000000 := by
  unfold potOf
  have h1 := sum_bndB (B := 100000) (l := (List.range (costsOf G).length).map fun i => (((costsOf G).getD i []).take (cnt i S)).sum) fun z hz => by
    obtain ⟨i, hi, rfl⟩ := List.mem_map.mp hz
    have h3 : ∀ z ∈ ((costsOf G).getD i []).take (cnt i S), 0 ≤ z ∧ z ≤ 1000 := fun z hz => by
      have hz' := List.mem_of_mem_take hz
      rw [List.getD_eq_getElem?_getD] at hz'
      unfold costsOf at hz'
      rw [List.getElem?_map] at hz'
      cases er : G.R[i]? with
      | none => rw [er] at hz'; cases hz'
      | some r =>
        rw [er] at hz'
        exact (h.tab r (List.mem_of_getElem? er)).2 z hz'
    have h4 := sum_bnd h3
    have h5 : (((costsOf G).getD i []).take (cnt i S)).length ≤ 100 := by
      have := cnt_le i S
      have := h.l
      rw [List.length_take]
      omega
    omega
  rw [List.length_map, List.length_range] at h1
  have h2 := h.r
  have h3 : (costsOf G).length = G.R.length := by unfold costsOf; rw [List.length_map]
  omega
/-! ### paths -/
def runS (S : List Way) (L : List (Nat × Way)) : List Way := L.foldl (fun S st => S.set st.1 st.2) S
def Path (C : List (List Int)) (Ws : List (List Way)) : List Way → List (Nat × Way) → Prop
  | _, [] => True
  | S, st :: L => st ∈ stepsOf C Ws S ∧ Path C Ws (S.set st.1 st.2) L
theorem Path.snoc {C : List (List Int)} {Ws : List (List Way)} {st : Nat × Way} : ∀ {S : List Way} {L : List (Nat × Way)}, Path C Ws S L → st ∈ stepsOf C Ws (runS S L) → Path C Ws S (L ++ [st])
  | _, [], _, h => ⟨h, trivial⟩
  | _, _ :: _, ⟨h1, h2⟩, h => ⟨h1, Path.snoc h2 h⟩
theorem run_snoc (S : List Way) (L : List (Nat × Way)) (st : Nat × Way) : runS S (L ++ [st]) = (runS S L).set st.1 st.2 := by
  unfold runS
  rw [List.foldl_append]
  rfl
def gcdI (a b : Int) : Int := ((Nat.gcd a.natAbs b.natAbs : Nat) : Int)
def eRt (a t : Int) : PyData := .tuple [.int (a / gcdI a t), .int (t / gcdI a t)]
def LeastT (C : List (List Int)) (Ws : List (List Way)) (t : Int) : Prop := (∃ O, Picks Ws O ∧ t = totalOf C O) ∧ ∀ S, Picks Ws S → t ≤ totalOf C S
def LeastS (C : List (List Int)) (Ws : List (List Way)) (a : Int) : Prop := (∃ S ∈ standing C Ws, a = totalOf C S) ∧ ∀ S ∈ standing C Ws, a ≤ totalOf C S
def MostS (C : List (List Int)) (Ws : List (List Way)) (b : Int) : Prop := (∃ S ∈ standing C Ws, b = totalOf C S) ∧ ∀ S ∈ standing C Ws, totalOf C S ≤ b
section
variable {P : Program} {w : World} {K : PySem.W.Frag} {mg : Str → Option Value} {base : Heap} {tabs : List Addr}
theorem sc_prices : FnScope ["game", "least", "totals", "state"] ["game"] (defScope s_standing_prices) := ⟨rfl, rfl, rfl, by decide +kernel, rfl, by decide +kernel, by decide +kernel⟩
def spPrices (K : PySem.W.Frag) (tabs : List Addr) : Sp := fun vs H Q _ => ∃ (vg : V) (G : Gm), vs = [vg] ∧ Dp K H vg (eGm G) ∧ GOk G ∧ W8 G ∧ Gd tabs H ∧ standing (costsOf G) (WsOf G) ≠ [] ∧
  (∀ H', Sm H H' → LeastT (costsOf G) (WsOf G) 0 → Q .non H') ∧ ∀ t a b v H', Sm H H' → 0 < t → LeastT (costsOf G) (WsOf G) t → LeastS (costsOf G) (WsOf G) a → MostS (costsOf G) (WsOf G) b → Dp K H' v (.tuple [eRt a t, eRt b t]) → Q v H'
theorem ok_prices {f c : Addr} (F : Fx K mg "standing_prices" s_standing_prices f c) (T : Tx K mg) (GB : Prom P w K mg base "best_state" ["game"] (spBest totalOf K tabs) 5) (GT : Prom P w K mg base "times_in" ["game", "state"] (spTimes K tabs) 4) (GO : Prom P w K mg base "standing_of" ["game", "weights"] (spStOf K tabs) 5) (G1 : Prom P w K mg base "ones" ["game"] (spOnes K) 1) (GR : Prom P w K mg base "ratio" ["top", "bottom"] spRatio 1) :
    Prom P w K mg base "standing_prices" ["game"] (spPrices K tabs) 6 := by
  refine F.prom sc_prices (fun vs H Q E h => ?_) (fun _ _ _ _ _ _ us hl => match us, hl with | [_], _ => rfl) (fun A outer s H vs Q E hr h => ?_)
  · obtain ⟨_, _, rfl, _⟩ := h
    rfl
  · obtain ⟨vg, G, rfl, hg, hok, h8, hgd, hne, q0, q1⟩ := h
    have nd := sc_prices.nd
    have gt := GT.mono (k := 5) (by decide)
    have g1 := G1.mono (k := 5) (by decide)
    have gr := GR.mono (k := 5) (by decide)
    refine ⟨_, pss_cons (ps_set (i := 1) nd rfl (Or.inl rfl) (pe_ix ix_tup (pe_prom GB hr (by rfl) (pa_cons (pv 0) pa_nil)) pe_int (fun _ _ => rfl)))
      (pss_cons (ps_if (pt_cmpR op_eq (pv 1) pe_int (nomark _)) (pss_one (ps_ret pe_non)) pss_nil)
      (pss_cons (ps_setLc (i := 2) (own := [("state", 3)]) (g := gName 3) (tt := tYes) (te := tCB (rSum K) (tCons (tCall (spTimes K tabs) [] E0 (tCons (tVar 0) (tCons (tVar 3) tNil))) tNil)) rfl nd rfl rfl (sw_true rfl rfl rfl (by decide +kernel))
        (pi_list (pe_prom GO hr (by rfl) (pa_cons (pv 0) (pa_cons (pe_prom g1 hr (by rfl) (pa_cons (pv 0) pa_nil)) pa_nil))))
        (blkOk_by (N := ["game", "least", "totals", "state"]) (sc := defScope s_standing_prices) (by decide +kernel)) (fun _ _ _ _ _ => pg_name (i := 3) nd rfl (Or.inl rfl)) (fun _ _ _ _ _ => pts_nil)
        (fun _ _ _ _ _ => pe_callB (cr_sum rfl) (by rfl) T.sum (by decide +kernel) (pa_cons (pe_prom gt hr (by rfl) (pa_cons (pv 0) (pa_cons (pv 3) pa_nil))) pa_nil)))
      (pss_one (ps_ret (pe_tup (pa_cons (pe_prom gr hr (by rfl) (pa_cons (pe_callB (cr_min rfl) (by rfl) T.min (by decide +kernel) (pa_cons (pv 2) pa_nil)) (pa_cons (pv 1) pa_nil))) (pa_cons (pe_prom gr hr (by rfl) (pa_cons (pe_callB (cr_max rfl) (by rfl) T.max (by decide +kernel) (pa_cons (pv 2) pa_nil)) (pa_cons (pv 1) pa_nil))) pa_nil))))))), ?_⟩
    have hs : sizeLine = 16777216 := by decide
    have b6 := hok.p3
    have hcov : ∀ S ∈ standing (costsOf G) (WsOf G), Picks (WsOf G) S := fun S hS => (mem_standing.mp hS).1
    refine ⟨_, rfl, vg, G, rfl, hg, hok, h8, hgd, fun vb S0 H1 s1 hpk hmin dv => ?_⟩
    obtain ⟨ba, bs, rfl, b1, b2⟩ := dp_tup dv
    have hT : LeastT (costsOf G) (WsOf G) (totalOf (costsOf G) S0) := ⟨⟨S0, hpk, rfl⟩, hmin⟩
    have hbnd := total_bnd (stok_of hok hpk).1
    cases b2 with
    | cons d1 t1 =>
      rw [dp_int d1] at b1
      refine ⟨_, _, _, _, rfl, rfl, b1, atI_nat (j := 0) rfl, ?_⟩
      refine ⟨_, rfl, rfl, _, rfl, ?_⟩
      by_cases h0 : totalOf (costsOf G) S0 = 0
      · refine ifT (by rw [h0]; decide) ?_
        rw [h0] at hT
        exact q0 H1 s1 hT
      · refine ifF (by simp [h0]) ?_
        refine ⟨_, rfl, _, rfl, vg, G, rfl, s1.dp _ hg, by omega, fun vo H2 s2 ho => ?_⟩
        have s12 := s1.trans s2
        refine ⟨vg, vo, G, rfl, s12.dp _ hg, ho, hok, h8, s12.gd hgd, fun pa xs H3 s3 hpa hxs dxs => ⟨pa, rfl, ⟨xs, .inl (.inl hxs)⟩, fun D hD => ?_⟩⟩
        have s13 := s12.trans s3
        have hlx : xs.length = (standing (costsOf G) (WsOf G)).length := by rw [dxs.length, List.length_map]
        have h512 : (standing (costsOf G) (WsOf G)).length ≤ 512 := Nat.le_trans (List.length_filter_le ..) (allSt_512 hok h8)
        refine lc_itA walk_list hD (by omega) (fun H' s => s.sqL (.inl (.inl hxs))) (fun i y H => y = .int (totalOf (costsOf G) ((standing (costsOf G) (WsOf G)).getD i []))) (fun _ _ _ _ h _ _ => h) ?_ ?_
        · intro i x H4 H4' Nx hi hsm hl hy k1
          obtain ⟨rfl, ex⟩ := hy
          obtain ⟨S, eS', dS⟩ := dpAll_map_get' (hsm.dpAll _ dxs) ex
          have eg : (standing (costsOf G) (WsOf G)).getD i [] = S := by rw [List.getD_eq_getElem?_getD, eS']; rfl
          have hpk2 := hcov S (List.mem_of_getElem? eS')
          obtain ⟨hst, hPS⟩ := stok_of hok hpk2
          have s14 := s13.trans hsm
          rw [eg] at k1
          exact ⟨rfl, _, rfl, _, rfl, vg, x, G, S, rfl, s14.dp _ hg, dS, s14.gd hgd, hst, hPS, fun pt H5 s5 hpt0 hpt => ⟨pt, _, rfl, .inl (.inl hpt), k1 _ _ s5 rfl⟩⟩
        · intro H4 acc hsm hacc hp
          have s14 := s13.trans hsm
          have ex : acc = ((standing (costsOf G) (WsOf G)).map (totalOf (costsOf G))).map V.int := by
            rw [paired_range (f := fun i => totalOf (costsOf G) ((standing (costsOf G) (WsOf G)).getD i [])) (cv := V.int) hp (fun _ _ h => h), hlx, map_range]
          have hacc2 : SqL K H4 D (((standing (costsOf G) (WsOf G)).map (totalOf (costsOf G))).map V.int) := .inl (.inl (by rw [hacc, ex]))
          have hpos : 0 < ((standing (costsOf G) (WsOf G)).map (totalOf (costsOf G))).length := by rw [List.length_map]; exact List.length_pos_iff.mpr hne
          have ht0 : 0 < totalOf (costsOf G) S0 := by omega
          have ht1 : totalOf (costsOf G) S0 < 2 ^ 29 := by
            have : (2 : Int) ^ 29 = 536870912 := by decide
            omega
          refine ⟨_, rfl, D, _, rfl, hacc2, hpos, fun m hm1 hm2 => ?_⟩
          refine ⟨_, rfl, _, _, rfl, ht0, ht1, fun p1 hp1 => ?_⟩
          refine ⟨_, rfl, D, _, rfl, (Sm.upd hp1).sqL hacc2, hpos, fun b hb1 hb2 => ?_⟩
          refine ⟨_, rfl, _, _, rfl, ht0, ht1, fun p2 hp2 => ⟨(by show 2 ≤ sizeLine; decide), fun p3 hp3 => ?_⟩⟩
          refine q1 (totalOf (costsOf G) S0) m b (.ref p3) _ (s14.trans ((Sm.upd hp1).trans ((Sm.upd hp2).trans (Sm.upd hp3)))) ht0 hT ?_ ?_ ?_
          · obtain ⟨S, hS, e⟩ := List.mem_map.mp hm1
            exact ⟨⟨S, hS, e.symm⟩, fun O hO => hm2 _ (List.mem_map_of_mem hO)⟩
          · obtain ⟨S, hS, e⟩ := List.mem_map.mp hb1
            exact ⟨⟨S, hS, e.symm⟩, fun O hO => hb2 _ (List.mem_map_of_mem hO)⟩
          · refine .tup (.inl (.inl upd_same)) (.cons (.tup ((Sm.upd hp3).sqT ((Sm.upd hp2).sqT (.inl (.inl upd_same)))) ?_) (.cons (.tup ((Sm.upd hp3).sqT (.inl (.inl upd_same))) ?_) .nil))
            · exact .cons (.int _) (.cons (.int _) .nil)
            · exact .cons (.int _) (.cons (.int _) .nil)
end
end Tr

/-! Def: walk_to_standing. -/
namespace Tr
open PySem PySem.Spec PyProof.Rows L2 GxR Gq
open PySem.W (AllAlike dataLt dataLe EachIs alike alikeAll)
section
variable {P : Program} {w : World} {K : PySem.W.Frag} {mg : Str → Option Value} {base : Heap} {tabs : List Addr}
theorem dp_step {K : PySem.W.Frag} {H : Hp} {v : V} {st : Nat × Way} (h : Dp K H v (eStep st)) : ∃ a y, v = .ref a ∧ SqT K H a [.int (st.1 : Int), y] ∧ Dp K H y (eW st.2) := by
  obtain ⟨a, zs, rfl, h1, h2⟩ := dp_tup h
  cases h2 with
  | cons d1 t1 =>
    cases t1 with
    | cons d2 t2 =>
      cases t2
      rw [dp_int d1] at h1
      exact ⟨a, _, rfl, h1, d2⟩
/-- steps lower the potential -/
def Lowers (G : Gm) : Prop := ∀ S, Picks (WsOf G) S → ∀ st ∈ stepsOf (costsOf G) (WsOf G) S, potOf (costsOf G) (S.set st.1 st.2) < potOf (costsOf G) S
theorem sc_walk : FnScope ["game", "state", "some", "found", "steps", "player", "way"] ["game", "state"] (defScope s_walk_to_standing) := ⟨rfl, rfl, rfl, by decide +kernel, rfl, by decide +kernel, by decide +kernel⟩
def spWalk (K : PySem.W.Frag) (tabs : List Addr) : Sp := fun vs H Q _ => ∃ (vg v : V) (G : Gm) (S : List Way), vs = [vg, v] ∧ Dp K H vg (eGm G) ∧ Dp K H v (eS S) ∧ GOk G ∧ W8 G ∧ Picks (WsOf G) S ∧ Gd tabs H ∧ Lowers G ∧
  ∀ v' L H', Sm H H' → Path (costsOf G) (WsOf G) S L → stepsOf (costsOf G) (WsOf G) (runS S L) = [] → Dp K H' v' (.tuple (L.map eStep)) → Q v' H'
theorem ok_walk {f c : Addr} (F : Fx K mg "walk_to_standing" s_walk_to_standing f c) (T : Tx K mg) (GN : Prom P w K mg base "need_state" ["game", "state"] (spNst K tabs) 5) (GC : Prom P w K mg base "choices_of" ["game"] (spCh K tabs) 2) (GS : Prom P w K mg base "steps_in" ["game", "some", "state", "weights"] (spSteps K tabs) 4) (G1 : Prom P w K mg base "ones" ["game"] (spOnes K) 1) :
    Prom P w K mg base "walk_to_standing" ["game", "state"] (spWalk K tabs) 6 := by
  refine F.prom sc_walk (fun vs H Q E h => ?_) (fun _ _ _ _ _ _ us hl => match us, hl with | [_, _], _ => rfl) (fun A outer s H vs Q E hr h => ?_)
  · obtain ⟨_, _, _, _, rfl, _⟩ := h
    rfl
  · obtain ⟨vg, vS, G, S, rfl, hg, hS, hok, h8, hpk, hgd, hlow, q⟩ := h
    have nd := sc_walk.nd
    have gc := GC.mono (k := 5) (by decide)
    have gs := GS.mono (k := 5) (by decide)
    have g1 := G1.mono (k := 5) (by decide)
    refine ⟨_, pss_cons (ps_expr (pe_prom GN hr (by rfl) (pa_cons (pv 0) (pa_cons (pv 1) pa_nil))))
      (pss_cons (ps_par (i := 2) (j := 3) rfl nd rfl rfl (by decide) rfl rfl (pa_cons (pe_prom gc hr (by rfl) (pa_cons (pv 0) pa_nil)) (pa_cons (pe_lst pa_nil) pa_nil)) (by rfl))
      (pss_cons (ps_set (i := 4) nd rfl (Or.inl rfl) (pe_prom gs hr (by rfl) (pa_cons (pv 0) (pa_cons (pv 2) (pa_cons (pv 1) (pa_cons (pe_prom g1 hr (by rfl) (pa_cons (pv 0) pa_nil)) pa_nil))))))
      (pss_cons (ps_while PassesOwn.never (pt_truth (pv 4) (fun _ => rfl))
        (pss_cons (ps_asg (pe_ix ix_list (pv 4) pe_int (fun _ _ => rfl)) (pg_tup rfl (pgs_cons (pg_name (i := 5) nd rfl (Or.inl rfl)) (pgs_cons (pg_name (i := 6) nd rfl (Or.inl rfl)) pgs_nil))))
        (pss_cons (ps_expr (pe_bm PySem.F.plainAttrs_list PySem.F.slot_list_append PySem.F.type_list_append mt_append (pv 3) (pa_cons (pe_tup (pa_cons (pv 5) (pa_cons (pv 6) pa_nil))) pa_nil)))
        (pss_cons (ps_set (i := 1) nd rfl (Or.inl rfl) (pe_tup (StX.pa_star (pe_slice sl_tupA (pv 1) po_none (po_some (pv 5))) (pa_cons (pv 6) (StX.pa_star (pe_slice sl_tupA (pv 1) (po_some (pe_op op_add (pv 5) pe_int)) po_none) pa_nil)))))
        (pss_one (ps_set (i := 4) nd rfl (Or.inl rfl) (pe_prom gs hr (by rfl) (pa_cons (pv 0) (pa_cons (pv 2) (pa_cons (pv 1) (pa_cons (pe_prom g1 hr (by rfl) (pa_cons (pv 0) pa_nil)) pa_nil)))))))))))
      (pss_one (ps_ret (pe_callTy call_tuple_of (by rfl) T.tuple (by decide +kernel) (pa_cons (pv 3) pa_nil))))))), ?_⟩
    have hs : sizeLine = 16777216 := by decide
    have b6 := hok.p3
    refine ⟨_, rfl, _, rfl, vg, vS, G, S, rfl, hg, hS, hok, h8, hpk, hgd, fun H1 s1 => ?_⟩
    refine ⟨_, rfl, vg, G, rfl, s1.dp _ hg, hok, h8, s1.gd hgd, fun pc H2 s2 hpc hC => ⟨Nat.zero_le _, fun Fa hF => ⟨_, _, rfl, ?_⟩⟩⟩
    have s12 := s1.trans s2
    have oF := (Own.nil (K := K) (Sm.refl H2)).new (ds := []) hF rfl .nil
    have hcall : ∀ (S' : List Way) (vst : V) (Hc : Hp) (L : List (Nat × Way)) (Qx Q' : VK) (Ex Ey : XK), Own K H2 Hc [(Fa, L.map eStep)] → Dp K Hc vst (eS S') → Picks (WsOf G) S' →
        (∀ pz zs Hd, Own K H2 Hd [(Fa, L.map eStep)] → Dp K Hd vst (eS S') → pz ≠ Fa → Hd pz = some (.lst zs) → DpAll K Hd zs ((stepsOf (costsOf G) (WsOf G) S').map eStep) → Qx (.ref pz) Hd) →
        (∀ vo H3, spSteps K tabs [vg, .ref pc, vst, vo] H3 Qx Ex → Q' vo H3) → spOnes K [vg] Hc Q' Ey := fun S' vst Hc L Qx Q' Ex Ey ow hv hp k kk => by
      have hSl : S'.length = G.P.length := by rw [hp.1, ws_len]
      refine ⟨vg, G, rfl, ow.sm.dp _ (s12.dp _ hg), by omega, fun vo H3 s3 ho => ?_⟩
      have ow3 := ow.up s3
      refine kk vo H3 ⟨vg, .ref pc, vst, vo, G, S', rfl, ow3.sm.dp _ (s12.dp _ hg), ow3.sm.dp _ hC, s3.dp _ hv, by rw [hSl]; exact ho, hok, h8, hp, ow3.sm.gd (s12.gd hgd), fun pz zs H4 s4 hpz hzs dzs => ?_⟩
      refine k pz zs H4 (ow3.up s4) (s4.dp _ (s3.dp _ hv)) (fun z => ?_) hzs dzs
      obtain ⟨ys, e1, _⟩ := ow3.head
      rw [show H3 (Fa, L.map eStep).1 = H3 Fa from rfl, ← z, hpz] at e1
      cases e1
    refine ⟨_, rfl, _, rfl, _, rfl, _, rfl, ?_⟩
    dsimp only [tNil]
    refine hcall S vS _ [] _ _ _ _ oF ((Sm.upd hF).dp _ (s12.dp _ hS)) hpk ?_ (fun vo H3 z => z)
    intro pz zs H4 o4 dS4 hne hzs dzs
    refine ⟨fun m σ Hc => ∃ L vst p5 p6 pz zs, m = (potOf (costsOf G) (runS S L)).toNat ∧ σ = [some vg, some vst, some (.ref pc), some (.ref Fa), some (.ref pz), p5, p6] ∧ Own K H2 Hc [(Fa, L.map eStep)] ∧ Dp K Hc vst (eS (runS S L)) ∧ pz ≠ Fa ∧ Hc pz = some (.lst zs) ∧
      DpAll K Hc zs ((stepsOf (costsOf G) (WsOf G) (runS S L)).map eStep) ∧ Path (costsOf G) (WsOf G) S L ∧ Picks (WsOf G) (runS S L) ∧ (L.length : Int) + potOf (costsOf G) (runS S L) ≤ potOf (costsOf G) S, ⟨_, [], vS, _, _, pz, zs, rfl, rfl, o4, dS4, hne, hzs, dzs, trivial, hpk, by simp [runS]⟩, ?_⟩
    rintro m σ Hc ⟨L, vst, p5, p6, pz, zs, rfl, rfl, ow, dst, hne, hzs, dzs, hpath, hpkL, hbnd⟩
    have hlz : zs.length = (stepsOf (costsOf G) (WsOf G) (runS S L)).length := by rw [dzs.length, List.length_map]
    refine ⟨_, rfl, !zs.isEmpty, .inl ⟨zs, .inl (.inl hzs), rfl⟩, ?_⟩
    show if (!zs.isEmpty) = true then _ else _
    cases hcs : zs with
    | nil =>
      rw [if_neg (by decide)]
      have hemp : stepsOf (costsOf G) (WsOf G) (runS S L) = [] := List.length_eq_zero_iff.mp (by rw [← hlz, hcs]; rfl)
      obtain ⟨fs, hfs, dfs⟩ := ow.head
      exact ⟨_, rfl, _, _, rfl, .inl ⟨.inl (.inl hfs), fun t ht => q (.ref t) L _ (s12.trans (ow.sm.trans (Sm.upd ht))) hpath hemp (.tup (.inl (.inl upd_same)) ((Sm.upd ht).dpAll _ dfs))⟩⟩
    | cons z0 zr =>
      refine ifT rfl ?_
      rw [hcs] at hzs dzs
      obtain ⟨st, est, dst0⟩ := dpAll_map_get' dzs (i := 0) (x := z0) rfl
      have hmem : st ∈ stepsOf (costsOf G) (WsOf G) (runS S L) := List.mem_of_getElem? est
      obtain ⟨p, u⟩ := st
      obtain ⟨ta, y, rfl, st1, st2⟩ := dp_step dst0
      obtain ⟨ways, hw1, hw2, hw3⟩ := mem_steps.mp hmem
      have hpk2 := picks_set hpkL hw1 hw2
      have hlt := hlow (runS S L) hpkL (p, u) hmem
      have hp0 := pot_bnd (stok_of hok hpk2).1
      have hp1 := pot_bnd (stok_of hok hpk).1
      have hpl : p < (runS S L).length := by
        obtain ⟨h9, _⟩ := List.getElem?_eq_some_iff.mp hw1
        rw [hpkL.1]
        exact h9
      obtain ⟨sa, ss, rfl, g1', g2'⟩ := dp_tup dst
      have hls : ss.length = (runS S L).length := by rw [g2'.length, List.length_map]
      have hSl := (stok_of hok hpkL).1.l
      refine ⟨fun σ' H' => ∃ vst p5 p6 pz zs, σ' = [some vg, some vst, some (.ref pc), some (.ref Fa), some (.ref pz), p5, p6] ∧ Own K H2 H' [(Fa, (L ++ [(p, u)]).map eStep)] ∧ Dp K H' vst (eS (runS S (L ++ [(p, u)]))) ∧ pz ≠ Fa ∧ H' pz = some (.lst zs) ∧
        DpAll K H' zs ((stepsOf (costsOf G) (WsOf G) (runS S (L ++ [(p, u)]))).map eStep), fun σ' H' ⟨vst, p5, p6, pz, zs, e1, e2, e3, e4, e5, e6⟩ => ⟨(potOf (costsOf G) (runS S (L ++ [(p, u)]))).toNat, ?_, L ++ [(p, u)], vst, p5, p6, pz, zs, rfl, e1, e2, e3, e4, e5, e6, hpath.snoc hmem, ?_, ?_⟩, ?_⟩
      · rw [run_snoc]
        have hlt' : potOf (costsOf G) ((runS S L).set p u) < potOf (costsOf G) (runS S L) := hlt
        have hp0' : 0 ≤ potOf (costsOf G) ((runS S L).set p u) := hp0.1
        show (potOf (costsOf G) ((runS S L).set p u)).toNat < _
        omega
      · rw [run_snoc]
        exact hpk2
      · rw [run_snoc, List.length_append]
        have hlt' : potOf (costsOf G) ((runS S L).set p u) < potOf (costsOf G) (runS S L) := hlt
        show ((L.length + 1 : Nat) : Int) + potOf (costsOf G) ((runS S L).set p u) ≤ _
        omega
      · have hsq : SqL K Hc pz (V.ref ta :: zr) := .inl (.inl hzs)
        refine ⟨_, rfl, _, _, _, _, rfl, rfl, hsq, atI_nat (j := 0) rfl, ?_⟩
        refine ⟨ta, _, rfl, st1, rfl, _, _, rfl, _, _, rfl, rfl, ?_⟩
        obtain ⟨fs, hfs, dfs⟩ := ow.head
        refine ⟨_, rfl, .inl ⟨rfl, _, .inl (.inl hfs)⟩, ?_⟩
        refine ⟨_, rfl, _, rfl, (by show 2 ≤ sizeLine; decide), fun t2 ht2 => ⟨Fa, fs, _, rfl, rfl, (Sm.upd ht2).keep _ _ hfs (fun _ z => nomatch z), ?_, ?_⟩⟩
        · rw [dfs.length, List.length_map]
          have h7 := pot_bnd (stok_of hok hpkL).1
          omega
        · have hfs2 := (Sm.upd (o := .tup [.int (p : Int), y]) ht2).keep _ _ hfs fun _ z => nomatch z
          have o2 := (ow.up (Sm.upd (o := .tup [.int (p : Int), y]) ht2)).app (v := .ref t2) (d := eStep (p, u)) hfs2 (.tup (.inl (.inl upd_same)) (.cons (.int _) (.cons ((Sm.upd ht2).dp _ st2) .nil))) (to_step _)
          have tk : TK Hc (L2.upd (L2.upd Hc t2 (.tup [.int (p : Int), y])) Fa (.lst (fs ++ [V.ref t2]))) := (Sm.upd ht2).tk.trans (TK.lst hfs2)
          have g1x := tk.sqT g1'
          have g2x := tk.dpAll _ (tupOnlyAll_map fun u _ => to_way u) g2'
          have dux := tk.dp _ (to_way u) st2
          refine ⟨_, rfl, _, rfl, _, rfl, sl_pre g1x fun p1 H4 s4 q4 => ⟨p1, _, rfl, .inl q4, _, rfl, _, rfl, _, rfl, _, _, rfl, rfl, ((p + 1 : Nat) : Int), congrArg V.int (Int.natCast_succ p).symm, ?_⟩⟩
          have o4 := o2.up s4
          dsimp only [tNoPart]
          refine sl_suf (k := p + 1) (s4.sqT g1x) ?_
          intro p2 H5 s5 q5
          refine ⟨p2, _, rfl, .inl q5, ?_, fun t ht => ?_⟩
          · rw [List.append_nil]
            have h1 : (ss.take p).length ≤ ss.length := by rw [List.length_take]; omega
            have h2 : (ss.drop (p + 1)).length ≤ ss.length := by rw [List.length_drop]; omega
            rw [List.length_append, List.length_cons]
            omega
          · have o5 := (o4.up s5).up (Sm.upd (o := .tup (ss.take p ++ y :: (ss.drop (p + 1) ++ []))) ht)
            have s45 := s4.trans (s5.trans (Sm.upd (o := .tup (ss.take p ++ y :: (ss.drop (p + 1) ++ []))) ht))
            have dO : Dp K (L2.upd H5 t (.tup (ss.take p ++ y :: (ss.drop (p + 1) ++ [])))) (.ref t) (eS ((runS S L).set p u)) := by
              refine dp_stateSet (s45.dpAll _ g2x) (s45.dp _ dux) (.inl (.inl ?_))
              rw [upd_same, List.append_nil, set_parts (by omega)]
            refine ⟨_, rfl, _, rfl, _, rfl, _, rfl, ?_⟩
            dsimp only [tNil]
            refine hcall ((runS S L).set p u) (.ref t) _ (L ++ [(p, u)]) _ _ _ _ (by rw [List.map_append]; exact o5) dO hpk2 ?_ (fun vo H3 z => z)
            intro pz' zs' H6 o6 dS6 hne6 hzs6 dzs6
            refine ⟨.ref t, _, _, pz', zs', rfl, o6, by rw [run_snoc]; exact dS6, hne6, hzs6, by rw [run_snoc]; exact dzs6⟩
end
end Tr

/-! Law defs: _law_taken, _law_pick. -/
namespace Tr
open PySem PySem.Spec PyProof.Rows L2 GxR Gq
/-- the script: where it stands, what it holds -/
structure Sc where
  a : Addr
  l : List Int
theorem sqL_or {K : PySem.W.Frag} {H H' : Hp} {a r : Addr} {xs : List V} (h : a ≠ r ∨ ∀ H', SqL K H' a xs) (e : Sx [r] H H') (hs : SqL K H a xs) : SqL K H' a xs := by
  rcases h with h | h
  · exact e.sqL (by simp [h]) hs
  · exact h H'
/-- the row of the script -/
def RowSt (K : PySem.W.Frag) (H : Hp) (r : Addr) (ns : Sc) : Prop := ∃ (i x c : Int), H r = some (.lst [.ref ns.a, .int i, .int x, .int c]) ∧ SqL K H ns.a (ns.l.map V.int) ∧ (ns.a ≠ r ∨ ∀ H', SqL K H' ns.a (ns.l.map V.int)) ∧ 0 ≤ i ∧ 0 ≤ x ∧ x < 2147483648 ∧ ns.l.length ≤ 63
theorem RowSt.sm {K : PySem.W.Frag} {H H' : Hp} {r : Addr} {ns : Sc} (h : RowSt K H r ns) (e : Sm H H') : RowSt K H' r ns := by
  obtain ⟨i, x, c, h1, h2, h3, h4⟩ := h
  exact ⟨i, x, c, e.keep _ _ h1 (fun _ z => nomatch z), e.sqL h2, h3, h4⟩
theorem RowSt.put {K : PySem.W.Frag} {H : Hp} {r a : Addr} {l : List Int} {xs : List V} {i x c : Int} (hr : H r = some (.lst xs)) (hs : SqL K H a (l.map V.int)) (hne : a ≠ r ∨ ∀ H', SqL K H' a (l.map V.int)) (hi : 0 ≤ i) (hx : 0 ≤ x ∧ x < 2147483648) (hn : l.length ≤ 63) :
    RowSt K (L2.upd H r (.lst [.ref a, .int i, .int x, .int c])) r ⟨a, l⟩ ∧ Sx [r] H (L2.upd H r (.lst [.ref a, .int i, .int x, .int c])) := by
  have sx : Sx [r] H (L2.upd H r (.lst [.ref a, .int i, .int x, .int c])) := Sx.updL (by simp) fun ps z => by rw [hr] at z; cases z
  exact ⟨⟨i, x, c, upd_same, sqL_or hne sx hs, hne, hi, hx.1, hx.2, hn⟩, sx⟩
section
variable {P : Program} {w : World} {K : PySem.W.Frag} {mg : Str → Option Value} {base : Heap} {tabs : List Addr}
theorem sc_taken : FnScope ["_law_row", "_law_many", "_law_found", "_law_cell"] ["_law_row", "_law_many"] (defScope s_law_taken) := ⟨rfl, rfl, rfl, by decide +kernel, rfl, by decide +kernel, by decide +kernel⟩
def spTaken (K : PySem.W.Frag) : Sp := fun vs H Q _ => ∃ (r : Addr) (ns : Sc) (many : Int), vs = [.ref r, .int many] ∧ RowSt K H r ns ∧ 0 < many ∧ many < 1000 ∧ ∀ z H', 0 ≤ z → z < many → Sx [r] H H' → RowSt K H' r ns → Q (.int z) H'
theorem ok_taken {f c : Addr} (F : Fx K mg "_law_taken" s_law_taken f c) (T : Tx K mg) : Prom P w K mg base "_law_taken" ["_law_row", "_law_many"] (spTaken K) 1 := by
  refine F.prom sc_taken (fun vs H Q E h => ?_) (fun _ _ _ _ _ _ us hl => match us, hl with | [_, _], _ => rfl) (fun A outer s H vs Q E hr h => ?_)
  · obtain ⟨_, _, _, rfl, _⟩ := h
    rfl
  · obtain ⟨r, ⟨a, l⟩, many, rfl, ⟨i, x, c, h1, h2, hne, hi, hx0, hx1, hn⟩, hm0, hm1, q⟩ := h
    have nd := sc_taken.nd
    refine ⟨_, pss_cons (ps_if (pt_cmpR op_gt (pe_ix ix_list (pv 0) pe_int (fun _ _ => rfl)) pe_int (nomark _))
        (pss_cons (ps_set (i := 2) nd rfl (Or.inl rfl) (pe_op op_mod (pe_callTy call_int1 (by rfl) T.int boot_int (pa_cons (pe_ix ix_list (pv 0) pe_int (fun _ _ => rfl)) pa_nil)) (pv 1)))
        (pss_cons (ps_asg (pe_op op_fdiv (pe_ix ix_list (pv 0) pe_int (fun _ _ => rfl)) (pv 1)) (pg_sub (pv 0) pe_int set_list)) (pss_one (ps_ret (pv 2))))) pss_nil)
      (pss_cons (ps_asg (pe_op op_add (pe_ix ix_list (pv 0) pe_int (fun _ _ => rfl)) pe_int) (pg_sub (pv 0) pe_int set_list))
      (pss_cons (ps_if (pt_cmpR op_gt (pe_ix ix_list (pv 0) pe_int (fun _ _ => rfl)) (pe_callB call_len_seq (by rfl) T.len PySem.boot_len (pa_cons (pe_ix ix_list (pv 0) pe_int (fun _ _ => rfl)) pa_nil)) (by rfl))
        (pss_cons (ps_asg (pe_op op_mod (pe_callTy call_int1 (by rfl) T.int boot_int (pa_cons (pe_op op_add (pe_op op_mul (pe_ix ix_list (pv 0) pe_int (fun _ _ => rfl)) pe_int) pe_int) pa_nil)) pe_int) (pg_sub (pv 0) pe_int set_list))
        (pss_one (ps_ret (pe_op op_mod (pe_callTy call_int1 (by rfl) T.int boot_int (pa_cons (pe_op op_fdiv (pe_ix ix_list (pv 0) pe_int (fun _ _ => rfl)) pe_int) pa_nil)) (pv 1))))) pss_nil)
      (pss_cons (ps_set (i := 3) nd rfl (Or.inl rfl) (pe_ix ix_list (pe_ix ix_list (pv 0) pe_int (fun _ _ => rfl)) (pe_op op_sub (pe_ix ix_list (pv 0) pe_int (fun _ _ => rfl)) pe_int) (fun _ _ => rfl)))
      (pss_cons (ps_asg (pe_op op_mod (pe_callTy call_int1 (by rfl) T.int boot_int (pa_cons (pe_op op_add (pe_op op_add (pe_op op_mul (pe_ix ix_list (pv 0) pe_int (fun _ _ => rfl)) pe_int) (pv 3)) pe_int) pa_nil)) pe_int) (pg_sub (pv 0) pe_int set_list))
      (pss_cons (ps_if (pt_cmpR op_ge (pv 3) (pe_op op_pow pe_int pe_int) (by rfl)) (pss_one (ps_asg (pe_op op_fdiv (pv 3) (pv 1)) (pg_sub (pv 0) pe_int set_list))) pss_nil)
      (pss_one (ps_ret (pe_op op_mod (pe_callTy call_int1 (by rfl) T.int boot_int (pa_cons (pv 3) pa_nil)) (pv 1))))))))), ?_⟩
    have hq1 : SqL K H r [.ref a, .int i, .int x, .int c] := .inl (.inl h1)
    refine ⟨_, rfl, _, _, _, _, rfl, rfl, hq1, atI_nat (j := 3) rfl, _, _, rfl, rfl, _, rfl, ?_⟩
    by_cases hc : 0 < c
    · refine ifT (decide_eq_true hc) ?_
      refine ⟨_, rfl, _, _, _, _, rfl, rfl, hq1, atI_nat (j := 3) rfl, .inl ⟨c, rfl, _, rfl, _, _, rfl, rfl, hm0, ?_⟩⟩
      refine ⟨_, rfl, _, _, _, _, rfl, rfl, hq1, atI_nat (j := 3) rfl, _, rfl, _, _, rfl, rfl, ⟨hm0, by omega⟩, ?_⟩
      refine ⟨_, rfl, r, _, 3, 3, rfl, rfl, h1, rfl, ?_⟩
      obtain ⟨p1, p2⟩ := RowSt.put (c := c / many) h1 h2 hne hi ⟨hx0, hx1⟩ hn
      exact ⟨_, rfl, q _ _ (Int.emod_nonneg _ (by omega)) (Int.emod_lt_of_pos _ hm0) p2 p1⟩
    · refine ifF (by rw [decide_eq_false hc]; decide) ?_
      refine ⟨_, rfl, _, _, _, _, rfl, rfl, hq1, atI_nat (j := 1) rfl, _, _, rfl, rfl, ?_⟩
      refine ⟨_, rfl, r, _, 1, 1, rfl, rfl, h1, rfl, ?_⟩
      have h1b : L2.upd H r (.lst [V.ref a, .int (i + 1), .int x, .int c]) r = some (.lst [V.ref a, .int (i + 1), .int x, .int c]) := upd_same
      obtain ⟨p1, p2⟩ := RowSt.put (i := i + 1) (x := x) (c := c) h1 h2 hne (by omega) ⟨hx0, hx1⟩ hn
      have hq2 : SqL K (L2.upd H r (.lst [V.ref a, .int (i + 1), .int x, .int c])) r [V.ref a, .int (i + 1), .int x, .int c] := .inl (.inl h1b)
      have h2b : SqL K (L2.upd H r (.lst [V.ref a, .int (i + 1), .int x, .int c])) a (l.map V.int) := sqL_or hne p2 h2
      refine ⟨_, rfl, _, _, _, _, rfl, rfl, hq2, atI_nat (j := 1) rfl, _, rfl, _, _, _, _, rfl, rfl, hq2, atI_nat (j := 0) rfl, a, _, rfl, .inl h2b, _, _, rfl, rfl, _, rfl, ?_⟩
      by_cases hl : ((l.map V.int).length : Int) < i + 1
      · refine ifT (decide_eq_true hl) ?_
        refine ⟨_, rfl, _, _, _, _, rfl, rfl, hq2, atI_nat (j := 2) rfl, _, _, rfl, rfl, .inl ⟨by omega, by omega⟩, _, _, rfl, rfl, .inl ⟨_, rfl, _, _, rfl, rfl, (by decide : (0 : Int) < 2147483647), ?_⟩⟩
        refine ⟨_, rfl, r, _, 2, 2, rfl, rfl, h1b, rfl, ?_⟩
        have hm1' := Int.emod_nonneg (x * 48271 + 11) (show (2147483647 : Int) ≠ 0 by decide)
        have hm2' := Int.emod_lt_of_pos (x * 48271 + 11) (show (0 : Int) < 2147483647 by decide)
        obtain ⟨p3, p4⟩ := RowSt.put (i := i + 1) (x := (x * 48271 + 11) % 2147483647) (c := c) h1b h2b hne (by omega) ⟨hm1', by omega⟩ hn
        have hq3 : SqL K (L2.upd (L2.upd H r (.lst [V.ref a, .int (i + 1), .int x, .int c])) r (.lst [V.ref a, .int (i + 1), .int ((x * 48271 + 11) % 2147483647), .int c])) r [V.ref a, .int (i + 1), .int ((x * 48271 + 11) % 2147483647), .int c] := .inl (.inl upd_same)
        refine ⟨_, rfl, _, _, _, _, rfl, rfl, hq3, atI_nat (j := 2) rfl, _, _, rfl, rfl, ⟨by decide, by decide⟩, .inl ⟨_, rfl, _, rfl, _, _, rfl, rfl, hm0, ?_⟩⟩
        exact q _ _ (Int.emod_nonneg _ (by omega)) (Int.emod_lt_of_pos _ hm0) (p2.trans p4) p3
      · refine ifF (by rw [decide_eq_false hl]; decide) ?_
        have hl2 : i.toNat < l.length := by rw [List.length_map] at hl; omega
        have hat : atI (l.map V.int) (i + 1 - 1) = some (.int l[i.toNat]) := by
          rw [show i + 1 - 1 = (i.toNat : Int) by omega]
          exact atI_nat (by rw [List.getElem?_map, List.getElem?_eq_getElem hl2]; rfl)
        generalize l[i.toNat] = cell at hat
        refine ⟨_, rfl, _, _, _, _, rfl, rfl, hq2, atI_nat (j := 0) rfl, _, rfl, _, _, _, _, rfl, rfl, hq2, atI_nat (j := 1) rfl, _, _, rfl, rfl, _, _, _, _, rfl, rfl, h2b, hat, ?_⟩
        refine ⟨_, rfl, _, _, _, _, rfl, rfl, hq2, atI_nat (j := 2) rfl, _, _, rfl, rfl, .inl ⟨by omega, by omega⟩, _, rfl, _, _, rfl, rfl, _, _, rfl, rfl, .inl ⟨_, rfl, _, _, rfl, rfl, (by decide : (0 : Int) < 2147483647), ?_⟩⟩
        refine ⟨_, rfl, r, _, 2, 2, rfl, rfl, h1b, rfl, ?_⟩
        have hm1' := Int.emod_nonneg (x * 48271 + cell + 11) (show (2147483647 : Int) ≠ 0 by decide)
        have hm2' := Int.emod_lt_of_pos (x * 48271 + cell + 11) (show (0 : Int) < 2147483647 by decide)
        obtain ⟨p3, p4⟩ := RowSt.put (i := i + 1) (x := (x * 48271 + cell + 11) % 2147483647) (c := c) h1b h2b hne (by omega) ⟨hm1', by omega⟩ hn
        have h1c : L2.upd (L2.upd H r (.lst [V.ref a, .int (i + 1), .int x, .int c])) r (.lst [V.ref a, .int (i + 1), .int ((x * 48271 + cell + 11) % 2147483647), .int c]) r = some (.lst [V.ref a, .int (i + 1), .int ((x * 48271 + cell + 11) % 2147483647), .int c]) := upd_same
        have h2c := sqL_or hne p4 h2b
        refine ⟨_, rfl, _, _, rfl, rfl, ⟨by decide, by decide, by decide⟩, _, _, rfl, rfl, _, rfl, ?_⟩
        cases hb : decide ((10 : Int) ^ (Int.toNat 18) ≤ cell) with
        | true =>
          refine ifT rfl ?_
          refine ⟨_, rfl, _, rfl, _, _, rfl, rfl, ⟨hm0, by omega⟩, ?_⟩
          refine ⟨_, rfl, r, _, 3, 3, rfl, rfl, h1c, rfl, ?_⟩
          obtain ⟨p5, p6⟩ := RowSt.put (i := i + 1) (x := (x * 48271 + cell + 11) % 2147483647) (c := cell / many) h1c h2c hne (by omega) ⟨hm1', by omega⟩ hn
          refine ⟨_, rfl, .inl ⟨_, rfl, _, rfl, _, _, rfl, rfl, hm0, ?_⟩⟩
          exact q _ _ (Int.emod_nonneg _ (by omega)) (Int.emod_lt_of_pos _ hm0) ((p2.trans p4).trans p6) p5
        | false =>
          refine ifF (by decide) ?_
          refine ⟨_, rfl, .inl ⟨_, rfl, _, rfl, _, _, rfl, rfl, hm0, ?_⟩⟩
          exact q _ _ (Int.emod_nonneg _ (by omega)) (Int.emod_lt_of_pos _ hm0) (p2.trans p4) p3
end
end Tr

/-! Law defs: _law_pick, _law_table. -/
namespace Tr
open PySem PySem.Spec PyProof.Rows L2 GxR Gq
theorem RowSt.there {K : PySem.W.Frag} {H : Hp} {r : Addr} {ns : Sc} (h : RowSt K H r ns) : ∃ xs, H r = some (.lst xs) := by
  obtain ⟨i, x, c, h1, _⟩ := h
  exact ⟨_, h1⟩
/-- data of tuples stands while the row turns -/
theorem RowSt.tk {K : PySem.W.Frag} {H H' : Hp} {r : Addr} {ns : Sc} (h : RowSt K H r ns) (e : Sx [r] H H') : TK H H' := e.tk fun b hb => .inr (by
  have : b = r := by simpa using hb
  rw [this]; exact h.there)
section
variable {P : Program} {w : World} {K : PySem.W.Frag} {mg : Str → Option Value} {base : Heap} {tabs : List Addr}
theorem sc_pick : FnScope ["_law_row", "_law_things"] ["_law_row", "_law_things"] (defScope s_law_pick) := ⟨rfl, rfl, rfl, by decide +kernel, rfl, by decide +kernel, by decide +kernel⟩
def spPick (K : PySem.W.Frag) : Sp := fun vs H Q _ => ∃ (r t : Addr) (ns : Sc) (xs : List V), vs = [.ref r, .ref t] ∧ RowSt K H r ns ∧ SqL K H t xs ∧ t ≠ r ∧ 0 < xs.length ∧ xs.length < 1000 ∧ ∀ (j : Nat) x H', xs[j]? = some x → Sx [r] H H' → RowSt K H' r ns → Q x H'
theorem ok_pick {f c : Addr} (F : Fx K mg "_law_pick" s_law_pick f c) (T : Tx K mg) (GT : Prom P w K mg base "_law_taken" ["_law_row", "_law_many"] (spTaken K) 1) : Prom P w K mg base "_law_pick" ["_law_row", "_law_things"] (spPick K) 2 := by
  refine F.prom sc_pick (fun vs H Q E h => ?_) (fun _ _ _ _ _ _ us hl => match us, hl with | [_, _], _ => rfl) (fun A outer s H vs Q E hr h => ?_)
  · obtain ⟨_, _, _, _, rfl, _⟩ := h
    rfl
  · obtain ⟨r, t, ns, xs, rfl, hrow, hx, hne, hl0, hl1, q⟩ := h
    refine ⟨_, pss_one (ps_ret (pe_ix ix_list (pv 1) (pe_prom GT hr (by rfl) (pa_cons (pv 0) (pa_cons (pe_callB call_len_seq (by rfl) T.len PySem.boot_len (pa_cons (pv 1) pa_nil)) pa_nil))) (fun _ _ => rfl))), ?_⟩
    refine ⟨_, rfl, _, rfl, _, rfl, t, _, rfl, .inl hx, r, ns, (xs.length : Int), rfl, hrow, by omega, by omega, fun z H1 hz0 hz1 sx hrow' => ?_⟩
    have hz : z.toNat < xs.length := by omega
    have hat : atI xs z = some xs[z.toNat] := by
      have h := atI_nat (List.getElem?_eq_getElem hz)
      rw [Int.toNat_of_nonneg hz0] at h
      exact h
    refine ⟨_, _, _, _, rfl, rfl, sx.sqL (by simp [hne]) hx, hat, q _ _ _ (List.getElem?_eq_getElem hz) sx hrow'⟩
/-- a list of small whole numbers, written -/
theorem sc_ltab : FnScope ["_law_row", "_law_length", "_law_is_straight", "_law_step", "_law_here", "_law_found", "_law_k"] ["_law_row", "_law_length", "_law_is_straight"] (defScope s_law_table) := ⟨rfl, rfl, rfl, by decide +kernel, rfl, by decide +kernel, by decide +kernel⟩
def spLtab (K : PySem.W.Frag) : Sp := fun vs H Q _ => ∃ (r : Addr) (ns : Sc) (m : Nat), vs = [.ref r, .int (m : Int), .bl true] ∧ RowSt K H r ns ∧ m ≤ 3 ∧ ∀ (ab : Int × Int) p H', 0 ≤ ab.1 → ab.1 ≤ 5 → 0 ≤ ab.2 → ab.2 ≤ 10 → Sx [r] H H' → RowSt K H' r ns → H p = none → SqT K H' p ((tableOf m ab).map V.int) → Q (.ref p) H'
theorem ok_ltab {f c : Addr} (F : Fx K mg "_law_table" s_law_table f c) (T : Tx K mg) (GP : Prom P w K mg base "_law_pick" ["_law_row", "_law_things"] (spPick K) 2) : Prom P w K mg base "_law_table" ["_law_row", "_law_length", "_law_is_straight"] (spLtab K) 3 := by
  refine F.prom sc_ltab (fun vs H Q E h => ?_) (fun _ _ _ _ _ _ us hl => match us, hl with | [_, _, _], _ => rfl) (fun A outer s H vs Q E hr h => ?_)
  · obtain ⟨_, _, _, rfl, _⟩ := h
    rfl
  · obtain ⟨r, ns, m, rfl, hrow, hm, q⟩ := h
    have nd := sc_ltab.nd
    refine ⟨_, pss_cons (ps_asg (pe_tup (pa_cons (pe_prom GP hr (by rfl) (pa_cons (pv 0) (pa_cons (pe_lst (pa_cons pe_int (pa_cons pe_int (pa_cons pe_int (pa_cons pe_int pa_nil))))) pa_nil))) (pa_cons (pe_prom GP hr (by rfl) (pa_cons (pv 0) (pa_cons (pe_lst (pa_cons pe_int (pa_cons pe_int (pa_cons pe_int (pa_cons pe_int pa_nil))))) pa_nil))) (pa_cons (pe_lst pa_nil) pa_nil))))
        (pg_tup rfl (pgs_cons (pg_name (i := 3) nd rfl (Or.inr rfl)) (pgs_cons (pg_name (i := 4) nd rfl (Or.inr rfl)) (pgs_cons (pg_name (i := 5) nd rfl (Or.inl rfl)) pgs_nil)))))
      (pss_cons (ps_if (pt_truth (pv 2) (fun _ => rfl)) (pss_one (ps_ret (pe_callTy call_tuple_of (by rfl) T.tuple (by decide +kernel) (pa_cons (pe_lc (own := [("_law_k", 6)]) (g := gName 6) (tt := tYes) rfl nd (pi_range1 rfl T.range (pa_cons (pv 1) pa_nil))
        (blkOk_by (N := ["_law_row", "_law_length", "_law_is_straight", "_law_step", "_law_here", "_law_found", "_law_k"]) (sc := defScope s_law_table) (by decide +kernel)) (fun _ _ _ _ _ => pg_name (i := 6) nd rfl (Or.inl rfl)) (fun _ _ _ _ _ => pts_nil)
        (fun _ _ _ _ _ => pe_op op_add (pe_op op_mul (pv 3) (pe_op op_add (pv 6) pe_int)) (pv 4))) pa_nil)))) pss_nil) pss_never), ?_⟩
    have hs : sizeLine = 16777216 := by decide
    refine ⟨_, rfl, (by show 4 ≤ sizeLine; decide), fun l1 hl1 => ?_⟩
    have s1 := Sm.upd (o := .lst [V.int 0, .int 1, .int 2, .int 5]) hl1
    have hne1 : l1 ≠ r := fun z => by
      obtain ⟨xs, e⟩ := hrow.there
      rw [← z, hl1] at e
      cases e
    refine ⟨r, l1, ns, _, rfl, hrow.sm s1, .inl (.inl upd_same), hne1, (by decide), (by decide), fun j x H1 hx sx hrow1 => ?_⟩
    obtain ⟨st, rfl, b1, b2⟩ : ∃ st : Int, x = .int st ∧ 0 ≤ st ∧ st ≤ 5 := by
      match j, hx with
      | 0, hx => exact ⟨0, (Option.some.inj hx).symm, by decide, by decide⟩
      | 1, hx => exact ⟨1, (Option.some.inj hx).symm, by decide, by decide⟩
      | 2, hx => exact ⟨2, (Option.some.inj hx).symm, by decide, by decide⟩
      | 3, hx => exact ⟨5, (Option.some.inj hx).symm, by decide, by decide⟩
      | j + 4, hx => simp at hx
    refine ⟨_, rfl, (by show 4 ≤ sizeLine; decide), fun l2 hl2 => ?_⟩
    have s2 := Sm.upd (o := .lst [V.int 0, .int 1, .int 3, .int 10]) hl2
    have hne2 : l2 ≠ r := fun z => by
      obtain ⟨xs, e⟩ := hrow1.there
      rw [← z, hl2] at e
      cases e
    refine ⟨r, l2, ns, _, rfl, hrow1.sm s2, .inl (.inl upd_same), hne2, (by decide), (by decide), fun j x H2 hx sx2 hrow2 => ?_⟩
    obtain ⟨he, rfl, b3, b4⟩ : ∃ st : Int, x = .int st ∧ 0 ≤ st ∧ st ≤ 10 := by
      match j, hx with
      | 0, hx => exact ⟨0, (Option.some.inj hx).symm, by decide, by decide⟩
      | 1, hx => exact ⟨1, (Option.some.inj hx).symm, by decide, by decide⟩
      | 2, hx => exact ⟨3, (Option.some.inj hx).symm, by decide, by decide⟩
      | 3, hx => exact ⟨10, (Option.some.inj hx).symm, by decide, by decide⟩
      | j + 4, hx => simp at hx
    refine ⟨Nat.zero_le _, fun l3 hl3 => ⟨(by show 3 ≤ sizeLine; decide), fun t3 ht3 => ?_⟩⟩
    refine ⟨t3, _, rfl, .inl (.inl upd_same), rfl, _, _, rfl, _, _, rfl, _, _, rfl, rfl, ?_⟩
    have s3 := (Sm.upd (o := .lst []) hl3).trans (Sm.upd (o := .tup [V.int st, .int he, .ref l3]) ht3)
    have sxA : Sx [r] H _ := (s1.sx [r]).trans (sx.trans ((s2.sx [r]).trans (sx2.trans (s3.sx [r]))))
    have hrow3 := hrow2.sm s3
    refine ⟨_, rfl, true, rfl, ?_⟩
    refine ifT rfl ?_
    refine ⟨_, rfl, (m : Int), rfl, by omega, by omega, fun D hD => ?_⟩
    rw [show ((m : Int)).toNat = m by omega]
    refine lc_itA walk_range hD (small1000 (by omega)) (fun _ _ => trivial) (fun i y H => y = .int (st * ((i : Int) + 1) + he)) (fun _ _ _ _ h _ _ => h) ?_ ?_
    · intro i x H4 H4' Nx hi hsm hl hy k1
      obtain ⟨rfl, rfl⟩ := hy
      refine ⟨rfl, _, rfl, _, rfl, _, _, rfl, rfl, _, _, rfl, rfl, .inl ⟨by omega, by omega⟩, _, rfl, _, _, rfl, rfl, ?_⟩
      refine k1 _ _ (Sm.refl _) ?_
      show V.int (st * (0 + (i : Int) + 1) + he) = _
      rw [Int.zero_add]
    · intro H4 acc hsm hacc hp
      refine ⟨_, _, rfl, .inl ⟨.inl (.inl hacc), fun p hp2 => ?_⟩⟩
      have sxB := sxA.trans ((hsm.trans (Sm.upd (o := .tup acc) hp2)).sx [r])
      refine q (st, he) p _ b1 b2 b3 b4 sxB ((hrow3.sm hsm).sm (Sm.upd hp2)) ((sxA.trans (hsm.sx [r])).fr _ hp2) (.inl (.inl ?_))
      rw [upd_same, paired_range (f := fun (i : Nat) => st * ((i : Int) + 1) + he) (cv := V.int) hp (fun _ _ h => h)]
      rfl
end
end Tr

/-! Law defs: _law_game_ways. -/
namespace Tr
open PySem PySem.Spec PyProof.Rows L2 GxR Gq
open PySem.W (AllAlike)
theorem cat_any {K : PySem.W.Frag} {H : Hp} {Q : VK} {a b : Addr} {xs ys : List V} (ha : SqT K H a xs) (hb : SqT K H b ys) (hz : xs.length + ys.length ≤ sizeLine) (h : ∀ p H', Sm H H' → SqT K H' p (xs ++ ys) → Q (.ref p) H') : rCatA K (.ref a) (.ref b) H Q := by
  refine ⟨a, b, xs, ys, rfl, rfl, ha, hb, hz, fun e => h b H (Sm.refl H) (by rw [e]; exact hb), fun _ e => h a H (Sm.refl H) (by rw [e, List.append_nil]; exact ha), fun _ _ p hp => h p _ (Sm.upd hp) (.inl (.inl upd_same))⟩
theorem Own.comp {K : PySem.W.Frag} {H Hc Hd : Hp} {L : List (Addr × List PyData)} {p : Addr} {ds : List PyData} {xs : List V} (o : Own K H Hc L) (hp : Hc p = none) (e : Sm Hc Hd) (hx : Hd p = some (.lst xs)) (hd : DpAll K Hd xs ds) (ht : tupOnlyAll ds = true) : Own K H Hd ((p, ds) :: L) := by
  have o2 := o.up e
  refine ⟨o2.sm, ?_, fun q hq => ?_⟩
  · rw [List.map_cons, List.nodup_cons]
    refine ⟨fun z => ?_, o.nd⟩
    obtain ⟨q, hq, e⟩ := List.mem_map.mp z
    obtain ⟨_, _, xs', h3, _⟩ := o.at_ q hq
    have e' : q.1 = p := e
    rw [e', hp] at h3
    cases h3
  · rcases List.mem_cons.mp hq with rfl | hq
    · exact ⟨o.sm.fr _ hp, ht, xs, hx, hd⟩
    · exact o2.at_ q hq
def endsR (rds : List (Int × Int × List Int)) : List (Int × Int) := rds.map fun r => (r.1, r.2.1)
section
variable {P : Program} {w : World} {K : PySem.W.Frag} {mg : Str → Option Value} {base : Heap} {tabs : List Addr}
theorem sc_lgw : FnScope ["_law_game_here", "_law_player", "_law_found", "_law_rows", "_law_turn", "_law_more", "_law_way", "_law_nodes", "_law_k", "_law_one"] ["_law_game_here", "_law_player"] (defScope s_law_game_ways) := ⟨rfl, rfl, rfl, by decide +kernel, rfl, by decide +kernel, by decide +kernel⟩
def spLgw (K : PySem.W.Frag) : Sp := fun vs H Q _ => ∃ (ga b : Addr) (vp : V) (zs rs : List V) (n : Nat) (rds : List (Int × Int × List Int)) (s g : Int), vs = [.ref ga, vp] ∧ SqT K H ga zs ∧ zs[0]? = some (.int (n : Int)) ∧ zs[1]? = some (.ref b) ∧ SqT K H b rs ∧ DpAll K H rs (rds.map eRoad) ∧ Dp K H vp (ePl (s, g)) ∧ NetOk n (endsR rds) s g ∧
  ∀ p xs H', Sm H H' → H p = none → H' p = some (.lst xs) → DpAll K H' xs ((waysOf n (endsR rds) s g).map eW) → Q (.ref p) H'
theorem goals_filter (g : Int) (l : List Row) : (((List.range l.length).filter fun i => isGoal g (l.getD i ([], []))).map fun i => eW (l.getD i ([], [])).1) = (goalsOf g l).map eW := by
  rw [filter_range l ([], []) (isGoal g) (fun r => eW r.1)]
  unfold goalsOf
  rw [List.map_map]
  rfl
theorem rest_filter (g : Int) (l : List Row) : (((List.range l.length).filter fun i => !isGoal g (l.getD i ([], []))).map fun i => eRow (l.getD i ([], []))) = (restOf g l).map eRow := filter_range l ([], []) (fun r => !isGoal g r) eRow
abbrev lgN : List Str := ["_law_game_here", "_law_player", "_law_found", "_law_rows", "_law_turn", "_law_more", "_law_way", "_law_nodes", "_law_k", "_law_one"]
theorem ok_lgw {f c : Addr} (F : Fx K mg "_law_game_ways" s_law_game_ways f c) (T : Tx K mg) : Prom P w K mg base "_law_game_ways" ["_law_game_here", "_law_player"] (spLgw K) 1 := by
  refine F.prom sc_lgw (fun vs H Q E h => ?_) (fun _ _ _ _ _ _ us hl => match us, hl with | [_, _], _ => rfl) (fun A outer s H vs Q E hr h => ?_)
  · obtain ⟨_, _, _, _, _, _, _, _, _, rfl, _⟩ := h
    rfl
  · obtain ⟨ga, b, vp, zs, rs0, n, rds, st, g, rfl, hga, hz0, hz1, hb, hrds, hpl, hok, q⟩ := h
    have nd := sc_lgw.nd
    have hu : (A.deeper (envOfC "_law_game_ways" (defScope s_law_game_ways) s.heap.objs.size f (.ref c))).units + 200 < cLine := by have := hr.un; omega
    refine ⟨_, pss_cons (ps_par (i := 2) (j := 3) rfl nd rfl rfl (by decide) rfl rfl (pa_cons (pe_lst pa_nil) (pa_cons (pe_lst (pa_cons (pe_tup (pa_cons (pe_tup pa_nil) (pa_cons (pe_tup (pa_cons (pe_ix ix_tup (pv 1) pe_int (fun _ _ => rfl)) pa_nil)) pa_nil))) pa_nil)) pa_nil)) (by rfl))
      (pss_cons (ps_for PassesOwn.never rfl (pi_range1 rfl T.range (pa_cons (pe_ix ix_tup (pv 0) pe_int (fun _ _ => rfl)) pa_nil)) (pg_name (i := 4) nd rfl (Or.inl rfl))
        (pss_cons (ps_set (i := 5) nd rfl (Or.inl rfl) (pe_lst pa_nil))
        (pss_cons (ps_for PassesOwn.never rfl (pi_list (pv 3)) (pg_tup rfl (pgs_cons (pg_name (i := 6) nd rfl (Or.inl rfl)) (pgs_cons (pg_name (i := 7) nd rfl (Or.inl rfl)) pgs_nil)))
          (pss_one (ps_for PassesOwn.never rfl (pi_range1 rfl T.range (pa_cons (pe_callB call_len_seq (by rfl) T.len PySem.boot_len (pa_cons (pe_ix ix_tup (pv 0) pe_int (fun _ _ => rfl)) pa_nil)) pa_nil)) (pg_name (i := 8) nd rfl (Or.inl rfl))
            (pss_one (ps_if (pw_and (pt_cmpR op_eq (pe_ix ix_tup (pe_ix ix_tup (pe_ix ix_tup (pv 0) pe_int (fun _ _ => rfl)) (pv 8) (fun _ _ => rfl)) pe_int (fun _ _ => rfl)) (pe_ix ix_tup (pv 7) (pe_un un_neg pe_int) (fun _ _ => rfl)) (nomark _)) (pw_and1 (pt_cmpR op_notIn_seq (pe_ix ix_tup (pe_ix ix_tup (pe_ix ix_tup (pv 0) pe_int (fun _ _ => rfl)) (pv 8) (fun _ _ => rfl)) pe_int (fun _ _ => rfl)) (pv 7) (by rfl)))).pt
              (pss_one (ps_expr (pe_bm PySem.F.plainAttrs_list PySem.F.slot_list_append PySem.F.type_list_append mt_append (pv 5) (pa_cons (pe_tup (pa_cons (pe_op op_catA (pv 6) (pe_tup (pa_cons (pv 8) pa_nil))) (pa_cons (pe_op op_catA (pv 7) (pe_tup (pa_cons (pe_ix ix_tup (pe_ix ix_tup (pe_ix ix_tup (pv 0) pe_int (fun _ _ => rfl)) (pv 8) (fun _ _ => rfl)) pe_int (fun _ _ => rfl)) pa_nil))) pa_nil))) pa_nil))))
              pss_nil)))))
        (pss_cons (ps_set (i := 2) nd rfl (Or.inl rfl) (pe_op op_cat (pv 2) (pe_lc (own := [("_law_way", 6), ("_law_nodes", 7)]) (g := gTup K 2 (gCons (gName 6) (gCons (gName 7) gNil))) (tt := tTest (tOp rEq (tOp (rIxT K) (tVar 7) (tUn (rU fun i => .int (-i)) (tC (.int 1)))) (tOp (rIxT K) (tVar 1) (tC (.int 1))))) (te := tVar 6) rfl nd (pi_list (pv 5))
          (blkOk_by (N := lgN) (sc := defScope s_law_game_ways) (by decide +kernel)) (fun _ _ _ _ _ => pg_tup rfl (pgs_cons (pg_name (i := 6) nd rfl (Or.inl rfl)) (pgs_cons (pg_name (i := 7) nd rfl (Or.inl rfl)) pgs_nil)))
          (fun _ _ _ _ _ => pts_one (pt_cmpR op_eq (pe_ix ix_tup (pv 7) (pe_un un_neg pe_int) (fun _ _ => rfl)) (pe_ix ix_tup (pv 1) pe_int (fun _ _ => rfl)) (by rfl))) (fun _ _ _ _ _ => pv 6))))
        (pss_one (ps_setLc (i := 3) (own := [("_law_one", 9)]) (g := gName 9) (tt := tTest (tOp rNe (tOp (rIxT K) (tOp (rIxT K) (tVar 9) (tC (.int 1))) (tUn (rU fun i => .int (-i)) (tC (.int 1)))) (tOp (rIxT K) (tVar 1) (tC (.int 1))))) (te := tVar 9) rfl nd rfl rfl (sw_true rfl rfl rfl (by decide +kernel)) (pi_list (pv 5))
          (blkOk_by (N := lgN) (sc := defScope s_law_game_ways) (by decide +kernel)) (fun _ _ _ _ _ => pg_name (i := 9) nd rfl (Or.inl rfl))
          (fun _ _ _ _ _ => pts_one (pt_cmpR op_ne (pe_ix ix_tup (pe_ix ix_tup (pv 9) pe_int (fun _ _ => rfl)) (pe_un un_neg pe_int) (fun _ _ => rfl)) (pe_ix ix_tup (pv 1) pe_int (fun _ _ => rfl)) (by rfl))) (fun _ _ _ _ _ => pv 9)))))))
      (pss_one (ps_ret (pe_callB (cr_sortedD (enc := eW) hu) (by rfl) T.sorted (by decide +kernel) (pa_cons (pv 2) pa_nil))))), ?_⟩
    obtain ⟨pa, rfl, sp⟩ := dp_pl hpl
    have hlr0 : rs0.length = rds.length := by rw [hrds.length, List.length_map]
    have hlR : (endsR rds).length = rds.length := by unfold endsR; rw [List.length_map]
    have hm8 := hok.m8
    have hn6 := hok.n6
    have one : (1 : Nat) ≤ sizeLine := by decide
    have two : (2 : Nat) ≤ sizeLine := by decide
    have hs : sizeLine = 16777216 := by decide
    refine ⟨Nat.zero_le _, fun Fa hF => ⟨Nat.zero_le _, fun t0 h0 => ⟨_, rfl, _, _, _, _, rfl, rfl, ((Sm.upd hF).trans (Sm.upd h0)).sqT sp, atI_nat (j := 0) rfl, one, fun t1 h1 => ⟨two, fun t2 h2 => ⟨one, fun RO hRO => ⟨_, _, rfl, ?_⟩⟩⟩⟩⟩⟩
    have o1 : Own K H _ [(Fa, [])] := (Own.nil (Sm.refl H)).new hF rfl .nil
    have o2 := ((o1.up (Sm.upd (o := .tup []) h0)).up (Sm.upd (o := .tup [.int st]) h1)).up (Sm.upd (o := .tup [.ref t0, .ref t1]) h2)
    have o3 := o2.new (ds := [eRow ([], [st])]) hRO (by rw [tupOnlyAll, to_row]; rfl) (.cons (.tup (.inl (.inl upd_same)) (.cons (dp_wayOf (w := []) ((Sm.upd h2).sqT ((Sm.upd h1).sqT (.inl (.inl upd_same))))) (.cons (dp_intsOf (l := [st]) ((Sm.upd h2).sqT (.inl (.inl upd_same)))) .nil))) .nil)
    refine ⟨_, rfl, _, _, _, _, rfl, rfl, o3.sm.sqT hga, atI_nat (j := 0) hz0, (n : Int), rfl, by omega, by omega, ?_⟩
    rw [show ((n : Int)).toNat = n by omega]
    refine for_range (fun k σ Hc => ∃ Fa RO o4 o5 o6 o7 o8 o9, σ = [some (.ref ga), some (.ref pa), some (.ref Fa), some (.ref RO), o4, o5, o6, o7, o8, o9] ∧ Own K H Hc [(RO, (iterW (endsR rds) g k (startW st)).2.map eRow), (Fa, (iterW (endsR rds) g k (startW st)).1.map eW)]) ⟨Fa, RO, _, _, _, _, _, _, rfl, o3⟩ ?_ ?_
    · rintro k σ Hc hk ⟨Fa, RO, o4, o5, o6, o7, o8, o9, rfl, ow⟩
      obtain ⟨rs, hrs, drs⟩ := ow.head
      have hlr : rs.length = (iterW (endsR rds) g k (startW st)).2.length := by rw [drs.length, List.length_map]
      have inv := winv (g := g) hok.rng hok.s0 hok.s1 k
      generalize hst : iterW (endsR rds) g k (startW st) = S at *
      obtain ⟨a, rows⟩ := S
      obtain ⟨z1, z2⟩ := iter_len (R := endsR rds) (g := g) (s := st) (m := 8) hm8 (by decide) k
      rw [hst] at z1 z2
      have z4 := pow8 (k := k) (by omega)
      have z3 : rows.length * (endsR rds).length ≤ 8 ^ k * 8 := Nat.mul_le_mul z1 hm8
      have z7 : a.length ≤ k * 8 ^ k := z2
      have hcl : ∀ i row j, rows[i]? = some row → (candsAll (endsR rds) (rows.take i) ++ candsTo (endsR rds) row j).length ≤ rows.length * (endsR rds).length := fun i row j hr => by
        obtain ⟨hi, _⟩ := List.getElem?_eq_some_iff.mp hr
        have y1 := candsAll_len (endsR rds) (rows.take i)
        have y2 : (candsTo (endsR rds) row j).length ≤ (endsR rds).length := by
          unfold candsTo
          refine Nat.le_trans (List.length_filterMap_le _ _) ?_
          rw [List.length_take, List.length_zipIdx]
          exact Nat.min_le_right _ _
        rw [List.length_take, Nat.min_eq_left (Nat.le_of_lt hi)] at y1
        rw [List.length_append]
        have y3 : i * (endsR rds).length + (endsR rds).length ≤ rows.length * (endsR rds).length := by
          rw [← Nat.succ_mul]
          exact Nat.mul_le_mul_right _ hi
        omega
      refine ⟨Nat.zero_le _, fun M hM => ?_⟩
      have ow1 := ow.new (ds := []) hM rfl .nil
      have hrs1 : L2.upd Hc M (.lst []) RO = some (.lst rs) := (Sm.upd hM).keep _ _ hrs fun _ z => nomatch z
      refine ⟨_, rfl, RO, rfl, ⟨rs, .inl (.inl hrs1)⟩, ?_⟩
      refine for_list (xs := rs) (fun i σ Hd => ∃ q4 q6 q7 q8 q9, σ = [some (.ref ga), some (.ref pa), some (.ref Fa), some (.ref RO), q4, some (.ref M), q6, q7, q8, q9] ∧ Own K H Hd [(M, (candsAll (endsR rds) (rows.take i)).map eRow), (RO, rows.map eRow), (Fa, a.map eW)] ∧ Hd RO = some (.lst rs)) ⟨_, _, _, _, _, rfl, ow1, hrs1⟩ ?_ ?_ ?_
      · rintro i σ Hd hi ⟨q4, q6, q7, q8, q9, rfl, o, h9⟩
        exact .inl (.inl h9)
      · rintro i x σ Hd hx ⟨q4, q6, q7, q8, q9, rfl, o, h9⟩
        have dr : DpAll K Hd rs (rows.map eRow) := by
          obtain ⟨ys, e1, e2⟩ := (o.at_ (RO, rows.map eRow) (by simp)).2.2
          rw [show Hd (RO, rows.map eRow).1 = Hd RO from rfl, h9] at e1
          cases e1
          exact e2
        obtain ⟨row, erow, drow⟩ := dpAll_map_get' dr hx
        obtain ⟨xa, wa, na, rfl, g1, g2, g3⟩ := dp_row drow
        refine ⟨xa, _, rfl, g1, rfl, _, _, rfl, _, _, rfl, rfl, ?_⟩
        refine ⟨_, rfl, _, _, _, _, rfl, rfl, o.sm.sqT hga, atI_nat (j := 1) hz1, b, _, rfl, .inr (o.sm.sqT hb), (rs0.length : Int), rfl, by omega, by omega, ?_⟩
        rw [show ((rs0.length : Int)).toNat = rs0.length by omega]
        refine for_range (fun j σ He => ∃ q4 r8 r9, σ = [some (.ref ga), some (.ref pa), some (.ref Fa), some (.ref RO), q4, some (.ref M), some (.ref wa), some (.ref na), r8, r9] ∧ Own K H He [(M, (candsAll (endsR rds) (rows.take i) ++ candsTo (endsR rds) row j).map eRow), (RO, rows.map eRow), (Fa, a.map eW)] ∧ He RO = some (.lst rs) ∧ SqT K He wa (row.1.map fun (i : Nat) => V.int (i : Int)) ∧ SqT K He na (row.2.map V.int)) ?_ ?_ ?_
        · refine ⟨_, _, _, rfl, ?_, h9, g2, g3⟩
          rw [candsTo_zero, List.append_nil]
          exact o
        · rintro j σ He hj ⟨q4, r8, r9, rfl, oe, k1, k2, k3⟩
          have ey0 := List.getElem?_eq_getElem hj
          obtain ⟨rd, erd, dr'⟩ := dpAll_map_get' (oe.sm.dpAll _ hrds) ey0
          obtain ⟨ra, rb, era, g4, g5⟩ := dp_road dr'
          rw [era] at ey0
          have er : (endsR rds)[j]? = some (rd.1, rd.2.1) := by
            unfold endsR
            rw [List.getElem?_map, erd]
            rfl
          have rok := (inv.rows row (List.mem_of_getElem? erow)).1
          have hl2 := hcl i row j erow
          obtain ⟨last, hlast⟩ : ∃ z, row.2.getLast? = some z := by
            cases h8 : row.2.getLast? with
            | none =>
              have := rok.len
              rw [List.getLast?_eq_none_iff.mp h8] at this
              simp at this
            | some z => exact ⟨z, rfl⟩
          have hlastV : (row.2.map V.int).getLast? = some (.int last) := by
            rw [List.getLast?_map, hlast]
            rfl
          have esucc := candsTo_succ (row := row) er
          have gga := oe.sm.sqT hga
          have gb := oe.sm.sqT hb
          have hj0 : atI rs0 (0 + (j : Int)) = some (.ref ra) := by rw [Int.zero_add]; exact atI_nat ey0
          refine ⟨_, rfl, _, _, _, _, rfl, rfl, gga, atI_nat (j := 1) hz1, _, rfl, _, _, _, _, rfl, rfl, gb, hj0, _, _, _, _, rfl, rfl, g4, atI_nat (j := 0) rfl, _, rfl, _, rfl, _, _, _, _, rfl, rfl, k3, atI_end hlastV, rfl, _, rfl, ?_⟩
          by_cases c1 : rd.1 = last
          · refine ifT (by rw [c1]; simp) ?_
            refine ⟨_, rfl, _, _, _, _, rfl, rfl, gga, atI_nat (j := 1) hz1, _, rfl, _, _, _, _, rfl, rfl, gb, hj0, _, _, _, _, rfl, rfl, g4, atI_nat (j := 1) rfl, _, rfl, _, _, rfl, .inr k3, rfl, flat_ints _, _, rfl, ?_⟩
            rw [if_pos rfl, inV_ints]
            by_cases c2 : rd.2.1 ∈ row.2
            · refine ifF (by simp [c2]) ?_
              have e0 : stepR row ((rd.1, rd.2.1), j) = none := by
                unfold stepR
                rw [if_neg (fun z => z.2 c2)]
              rw [e0, Option.toList_none, List.append_nil] at esucc
              exact ⟨_, _, _, rfl, by rw [esucc]; exact oe, k1, k2, k3⟩
            · refine ifT (by simp [c2]) ?_
              have e0 : stepR row ((rd.1, rd.2.1), j) = some (row.1 ++ [j], row.2 ++ [rd.2.1]) := by
                unfold stepR
                rw [if_pos ⟨by rw [hlast, c1], c2⟩]
              rw [e0, Option.toList_some] at esucc
              obtain ⟨ms, hms, dms⟩ := oe.head
              have hlw : row.1.length ≤ 6 := by
                have := (inv.rows row (List.mem_of_getElem? erow)).2
                omega
              have hl4 := rok.len
              refine ⟨_, rfl, .inl ⟨rfl, _, .inl (.inl hms)⟩, ?_⟩
              refine ⟨_, rfl, _, rfl, one, fun t ht => ?_⟩
              have oe1 := oe.up (Sm.upd (o := .tup [.int (0 + (j : Int))]) ht)
              refine cat_any ((Sm.upd ht).sqT k2) (.inl (.inl upd_same)) (by rw [List.length_map]; show row.1.length + 1 ≤ _; omega) fun p1 H1 s1 q1 => ?_
              have oe2 := oe1.up s1
              have sA := (Sm.upd (o := .tup [.int (0 + (j : Int))]) ht).trans s1
              refine ⟨_, rfl, _, rfl, _, _, _, _, rfl, rfl, sA.sqT gga, atI_nat (j := 1) hz1, _, rfl, _, _, _, _, rfl, rfl, sA.sqT gb, hj0, _, _, _, _, rfl, rfl, sA.sqT g4, atI_nat (j := 1) rfl, one, fun t2 ht2 => ?_⟩
              have s2 := Sm.upd (o := .tup [.int rd.2.1]) ht2
              refine cat_any ((sA.trans s2).sqT k3) (.inl (.inl upd_same)) (by rw [List.length_map]; show row.2.length + 1 ≤ _; omega) fun p2 H3 s3 q3 => ⟨two, fun t4 ht4 => ?_⟩
              have s4 := Sm.upd (o := .tup [V.ref p1, .ref p2]) ht4
              have sB := sA.trans (s2.trans (s3.trans s4))
              have hm4 := sB.keep _ _ hms fun _ z => nomatch z
              refine ⟨M, ms, _, rfl, rfl, hm4, ?_, ?_⟩
              · rw [dms.length, List.length_map]
                omega
              · have oe5 := (oe.up sB).app (v := .ref t4) (d := eRow (row.1 ++ [j], row.2 ++ [rd.2.1])) hm4
                  (.tup (.inl (.inl upd_same)) (.cons (dp_wayOf ((s2.trans (s3.trans s4)).sqT (by rw [← way_snoc, ← Int.zero_add (j : Int)]; exact q1))) (.cons (dp_intsOf (s4.sqT (by rw [List.map_append]; exact q3))) .nil))) (to_row _)
                have tk := sB.tk.trans (TK.lst (o := .lst (ms ++ [V.ref t4])) hm4)
                refine ⟨_, _, _, rfl, ?_, ?_, tk.sqT k2, tk.sqT k3⟩
                · rw [esucc, ← List.append_assoc, List.map_append]
                  exact oe5
                · have hne2 : RO ≠ M := fun z => by
                    have := oe.nd
                    simp [z] at this
                  rw [upd_ne hne2]
                  exact sB.keep _ _ k1 fun _ z => nomatch z
          · refine ifF (by simp [c1]) ?_
            refine ifF (by decide) ?_
            have e0 : stepR row ((rd.1, rd.2.1), j) = none := by
              unfold stepR
              rw [if_neg (fun z => by
                rw [hlast] at z
                exact c1 (Option.some.inj z.1).symm)]
            rw [e0, Option.toList_none, List.append_nil] at esucc
            exact ⟨_, _, _, rfl, by rw [esucc]; exact oe, k1, k2, k3⟩
        · rintro σ He ⟨q4, r8, r9, rfl, oe, k1, k2, k3⟩
          rw [hlr0, ← hlR, candsTo_all, ← candsAll_succ erow] at oe
          exact ⟨_, _, _, _, _, rfl, oe, k1⟩
      · rintro σ Hd ⟨q4, q6, q7, q8, q9, rfl, o, h9⟩
        rw [show rows.take rs.length = rows from List.take_of_length_le (by rw [hlr]; exact Nat.le_refl _)] at o
        obtain ⟨ms, hms, dms⟩ := o.head
        have hlm : ms.length = (candsAll (endsR rds) rows).length := by rw [dms.length, List.length_map]
        have hll : (candsAll (endsR rds) rows).length ≤ 500000 := by
          have := candsAll_len (endsR rds) rows
          omega
        have hrow : ∀ row ∈ candsAll (endsR rds) rows, ∃ last, row.2.getLast? = some last := fun row hr => by
          obtain ⟨row0, hr0, ri, hri, e⟩ := mem_cands hr
          have rok := (RowOk.step hok.rng (inv.rows row0 hr0).1 hri e).1
          cases h8 : row.2.getLast? with
          | none =>
            have := rok.len
            rw [List.getLast?_eq_none_iff.mp h8] at this
            simp at this
          | some z => exact ⟨z, rfl⟩
        refine ⟨_, rfl, _, rfl, M, rfl, ⟨ms, .inl (.inl hms)⟩, fun D hD => ?_⟩
        refine lc_itD walk_list hD (by omega) (fun H' s => s.sqL (.inl (.inl hms))) (fun i => isGoal g ((candsAll (endsR rds) rows).getD i ([], []))) (fun i y H => Dp K H y (eW ((candsAll (endsR rds) rows).getD i ([], [])).1)) (fun i y H2 H3 h hl e => okD (to_way _) h hl e) ?_ ?_
        · intro i x H3 H3' Nx hi hsm hl hy k1 k0
          obtain ⟨rfl, ex⟩ := hy
          obtain ⟨row, erow, drow⟩ := dpAll_map_get' (hsm.dpAll _ dms) ex
          have eg : (candsAll (endsR rds) rows).getD i ([], []) = row := by rw [List.getD_eq_getElem?_getD, erow]; rfl
          obtain ⟨xa, wa, na, rfl, g1, g2, g3⟩ := dp_row drow
          obtain ⟨last, hlast⟩ := hrow row (List.mem_of_getElem? erow)
          have hlastV : (row.2.map V.int).getLast? = some (.int last) := by
            rw [List.getLast?_map, hlast]
            rfl
          rw [eg] at k1 k0
          refine ⟨xa, _, rfl, g1, rfl, _, _, rfl, _, _, rfl, rfl, rfl, ?_⟩
          refine ⟨_, rfl, _, rfl, _, _, _, _, rfl, rfl, g3, atI_end hlastV, _, rfl, _, _, _, _, rfl, rfl, (o.sm.trans hsm).sqT sp, atI_nat (j := 1) rfl, rfl, _, rfl, ?_⟩
          have egoal : isGoal g row = decide (last = g) := by
            unfold isGoal
            rw [hlast]
            simp
          by_cases c : last = g
          · refine ifT (by rw [c]; simp) ?_
            exact ⟨_, rfl, k1 (by rw [egoal]; exact decide_eq_true c) _ H3' (Sm.refl _) (dp_wayOf g2)⟩
          · refine ifF (by simp [c]) ?_
            exact k0 (by rw [egoal]; exact decide_eq_false c) H3' (Sm.refl _)
        · intro H3 acc hsm hacc hp
          have hd := dpAll_paired (es := fun i => eW ((candsAll (endsR rds) rows).getD i ([], [])).1) hp
          rw [hlm, goals_filter] at hd
          have oD := o.comp hD hsm hacc hd (to_ways _)
          obtain ⟨fs, hfs, dfs⟩ := (oD.at_ (Fa, a.map eW) (by simp)).2.2
          have hlf : fs.length = a.length := by rw [dfs.length, List.length_map]
          have hla : acc.length = (goalsOf g (candsAll (endsR rds) rows)).length := by rw [hd.length, List.length_map]
          have hlg := goals_len g (candsAll (endsR rds) rows)
          refine ⟨Fa, D, fs, acc, rfl, rfl, hfs, hacc, by omega, fun p hp2 => ?_⟩
          have oP := oD.new (ds := (a ++ goalsOf g (candsAll (endsR rds) rows)).map eW) (xs := fs ++ acc) hp2 (to_ways _) (by rw [List.map_append]; exact dfs.append hd)
          have s34 := hsm.trans (Sm.upd (o := .lst (fs ++ acc)) hp2)
          have hms4 := s34.keep _ _ hms fun _ z => nomatch z
          refine ⟨_, rfl, M, rfl, ⟨ms, .inl (.inl hms4)⟩, fun D2 hD2 => ?_⟩
          refine lc_itD walk_list hD2 (by omega) (fun H' s => s.sqL (.inl (.inl hms4))) (fun i => !isGoal g ((candsAll (endsR rds) rows).getD i ([], []))) (fun i y H => Dp K H y (eRow ((candsAll (endsR rds) rows).getD i ([], [])))) (fun i y H2 H3 h hl e => okD (to_row _) h hl e) ?_ ?_
          · intro i x H5 H5' Nx hi hsm5 hl hy k1 k0
            obtain ⟨rfl, ex⟩ := hy
            obtain ⟨row, erow, drow⟩ := dpAll_map_get' (hsm5.dpAll _ (s34.dpAll _ dms)) ex
            have eg : (candsAll (endsR rds) rows).getD i ([], []) = row := by rw [List.getD_eq_getElem?_getD, erow]; rfl
            obtain ⟨xa, wa, na, rfl, g1, g2, g3⟩ := dp_row drow
            obtain ⟨last, hlast⟩ := hrow row (List.mem_of_getElem? erow)
            have hlastV : (row.2.map V.int).getLast? = some (.int last) := by
              rw [List.getLast?_map, hlast]
              rfl
            rw [eg] at k1 k0
            refine ⟨rfl, ?_⟩
            refine ⟨_, rfl, _, _, _, _, rfl, rfl, g1, atI_nat (j := 1) rfl, _, rfl, _, _, _, _, rfl, rfl, g3, atI_end hlastV, _, rfl, _, _, _, _, rfl, rfl, (o.sm.trans (s34.trans hsm5)).sqT sp, atI_nat (j := 1) rfl, rfl, _, rfl, ?_⟩
            have egoal : isGoal g row = decide (last = g) := by
              unfold isGoal
              rw [hlast]
              simp
            by_cases c : last = g
            · refine ifF (by rw [c]; simp) ?_
              exact k0 (by show (!isGoal g row) = false; rw [egoal, decide_eq_true c]; rfl) H5' (Sm.refl _)
            · refine ifT (by simp [c]) ?_
              exact ⟨_, rfl, k1 (by show (!isGoal g row) = true; rw [egoal, decide_eq_false c]; rfl) _ H5' (Sm.refl _) drow⟩
          · intro H5 acc2 hsm5 hacc2 hp5
            have hd5 := dpAll_paired (es := fun i => eRow ((candsAll (endsR rds) rows).getD i ([], []))) hp5
            rw [hlm, rest_filter] at hd5
            have oR := oP.comp hD2 hsm5 hacc2 hd5 (tupOnlyAll_map fun r _ => to_row r)
            refine ⟨p, D2, _, _, _, _, _, _, rfl, ?_⟩
            rw [iter_succ, hst]
            refine ⟨oR.sm, ?_, fun q hq => oR.at_ q ?_⟩
            · have h9 := oR.nd
              simp only [List.map_cons, List.nodup_cons, List.mem_cons] at h9
              show ([D2, p] : List Addr).Nodup
              simp only [List.nodup_cons, List.mem_cons, List.not_mem_nil, or_false, not_false_eq_true, List.nodup_nil, and_true]
              exact fun z => h9.1 (.inl z)
            · rcases List.mem_cons.mp hq with h | h
              · rw [h]; simp [turnW]
              · rw [List.mem_singleton.mp h]; simp [turnW]
    · rintro σ Hc ⟨Fa, RO, o4, o5, o6, o7, o8, o9, rfl, ow⟩
      obtain ⟨fs, hfs, dfs⟩ := ow.tail.head
      have inv := winv (g := g) hok.rng hok.s0 hok.s1 n
      refine ⟨_, rfl, Fa, fs, (iterW (endsR rds) g n (startW st)).1, rfl, .inl (.inl hfs), dfs, AllAlike.of fun u v => alike_ways u v, fun w hw => ⟨?_, depth_way w⟩, fun p ys hp hd => ?_⟩
      · have hne := (inv.found w hw).1
        cases w with
        | nil => exact absurd rfl hne
        | cons i w => exact ⟨_, _, rfl⟩
      · exact q p ys _ (ow.sm.trans (Sm.upd hp)) (ow.sm.fr _ hp) upd_same ((Sm.upd hp).dpAll _ hd)
end
end Tr

/-! What the law's games are; lists of our own beside the row. -/
namespace Tr
open PySem PySem.Spec PyProof.Rows L2 GxR Gq
/-! ### the fallback player has a way -/
theorem iter_found {R : List (Int × Int)} {g : Int} {st : List Way × List Row} {w : Way} : ∀ {k : Nat} (j : Nat), w ∈ (iterW R g k st).1 → w ∈ (iterW R g (k + j) st).1
  | _, 0, h => h
  | k, j + 1, h => by
    have ih := iter_found j h
    show w ∈ (turnW R g (iterW R g (k + j) st)).1
    exact List.mem_append_left _ ih
theorem turn_step {R : List (Int × Int)} {g : Int} {st : List Way × List Row} {row : Row} {j : Nat} {a d : Int} (h : row ∈ st.2) (hj : R[j]? = some (a, d)) (hl : row.2.getLast? = some a) (hd : d ∉ row.2) :
    (d = g → row.1 ++ [j] ∈ (turnW R g st).1) ∧ (d ≠ g → (row.1 ++ [j], row.2 ++ [d]) ∈ (turnW R g st).2) := by
  have hm : (row.1 ++ [j], row.2 ++ [d]) ∈ candsAll R st.2 := by
    refine List.mem_flatMap.mpr ⟨row, h, List.mem_filterMap.mpr ⟨((a, d), j), ?_, ?_⟩⟩
    · refine List.mem_of_getElem? (i := j) ?_
      rw [List.getElem?_zipIdx, hj]
      simp
    · unfold stepR
      rw [if_pos ⟨hl, hd⟩]
  have hg : isGoal g (row.1 ++ [j], row.2 ++ [d]) = decide (d = g) := by
    unfold isGoal
    rw [List.getLast?_concat]
    simp
  constructor
  · intro e
    refine List.mem_append_right _ (List.mem_map.mpr ⟨_, List.mem_filter.mpr ⟨hm, ?_⟩, rfl⟩)
    rw [hg, decide_eq_true e]
  · intro e
    refine List.mem_filter.mpr ⟨hm, ?_⟩
    rw [hg, decide_eq_false e]
    rfl
/-- roads that lead from 0 to the last node -/
def Leads (n : Nat) (R : List (Int × Int)) : Prop := (n = 2 ∧ R[0]? = some (0, 1)) ∨ (2 < n ∧ R[0]? = some (0, 1) ∧ R[1]? = some (1, (n : Int) - 1))
theorem leads_ways {n : Nat} {R : List (Int × Int)} (h : Leads n R) : waysOf n R 0 ((n : Int) - 1) ≠ [] := by
  have hraw : ∃ w, w ∈ rawW n R 0 ((n : Int) - 1) := by
    have h0 : ([], [0]) ∈ (startW 0).2 := by simp [startW]
    rcases h with ⟨rfl, h1⟩ | ⟨hn, h1, h2⟩
    · have q := (turn_step (g := ((2 : Nat) : Int) - 1) h0 h1 rfl (by decide)).1 (by decide)
      exact ⟨_, iter_found (k := 1) 1 q⟩
    · have q := (turn_step (g := (n : Int) - 1) h0 h1 rfl (by decide)).2 (by omega)
      have q2 := (turn_step (g := (n : Int) - 1) q h2 rfl (by simp; omega)).1 rfl
      have e : n = 2 + (n - 2) := by omega
      have q3 := iter_found (k := 2) (n - 2) q2
      unfold rawW
      rw [← e] at q3
      exact ⟨_, q3⟩
  obtain ⟨w, hw⟩ := hraw
  intro z
  have : w ∈ waysOf n R 0 ((n : Int) - 1) := (List.mergeSort_perm _ _).mem_iff.mpr hw
  rw [z] at this
  cases this
/-! ### straight roads -/
structure RdS (n m : Nat) (r : Int × Int × List Int) : Prop where
  n1 : 0 ≤ r.1 ∧ r.1 < (n : Int)
  n2 : 0 ≤ r.2.1 ∧ r.2.1 < (n : Int)
  ne : r.1 ≠ r.2.1
  tab : ∃ ab : Int × Int, 0 ≤ ab.1 ∧ ab.1 ≤ 5 ∧ 0 ≤ ab.2 ∧ ab.2 ≤ 10 ∧ r.2.2 = tableOf m ab
theorem RdS.road {n m : Nat} {r : Int × Int × List Int} (h : RdS n m r) (h1 : 1 ≤ m) (h3 : m ≤ 3) : RoadOk n m r := by
  obtain ⟨ab, a0, a5, b0, b10, e⟩ := h.tab
  refine ⟨h.n1, h.n2, h.ne, by rw [e]; exact tableOf_len _ _, by omega, h1, fun z hz => ?_, fun i x y hx hy => ?_⟩
  · rw [e] at hz
    unfold tableOf at hz
    obtain ⟨k, hk, rfl⟩ := List.mem_map.mp hz
    have hk' := List.mem_range.mp hk
    have h4 : ab.1 * ((k : Int) + 1) ≤ 5 * 3 := Int.mul_le_mul a5 (by omega) (by omega) (by decide)
    have h5 : 0 ≤ ab.1 * ((k : Int) + 1) := Int.mul_nonneg a0 (by omega)
    omega
  · rw [e] at hx hy
    unfold tableOf at hx hy
    rw [List.getElem?_map] at hx hy
    cases ei : (List.range m)[i]? with
    | none => rw [ei] at hx; cases hx
    | some k =>
      cases ej : (List.range m)[i + 1]? with
      | none => rw [ej] at hy; cases hy
      | some l =>
        rw [ei] at hx
        rw [ej] at hy
        have e1 : ab.1 * ((k : Int) + 1) + ab.2 = x := Option.some.inj hx
        have e2 : ab.1 * ((l : Int) + 1) + ab.2 = y := Option.some.inj hy
        obtain ⟨h6, h7⟩ := List.getElem?_eq_some_iff.mp ei
        obtain ⟨h8, h9⟩ := List.getElem?_eq_some_iff.mp ej
        rw [List.getElem_range] at h7 h9
        subst h7 h9
        have h10 : ab.1 * ((i : Int) + 1) ≤ ab.1 * (((i + 1 : Nat) : Int) + 1) := Int.mul_le_mul_of_nonneg_left (by omega) a0
        omega
/-- all roads are straight -/
def Straight (m : Nat) (G : Gm) : Prop := ∃ Ls : List (Int × Int), costsOf G = Ls.map (tableOf m) ∧ ∀ l ∈ Ls, 0 ≤ l.1 ∧ 0 ≤ l.2
theorem straight_of {m n : Nat} {G : Gm} (h : ∀ r ∈ G.R, RdS n m r) : Straight m G := by
  unfold Straight costsOf
  generalize G.R = R at h
  induction R with
  | nil => exact ⟨[], rfl, fun _ h => by cases h⟩
  | cons r R ih =>
    obtain ⟨Ls, e1, e2⟩ := ih fun x hx => h x (by simp [hx])
    obtain ⟨ab, a0, a5, b0, b10, e⟩ := (h r (by simp)).tab
    refine ⟨ab :: Ls, by rw [List.map_cons, List.map_cons, e1, e], fun l hl => ?_⟩
    rcases List.mem_cons.mp hl with rfl | hl
    · exact ⟨a0, b0⟩
    · exact e2 l hl
/-! ### lists of our own beside the row -/
structure OwnR (K : PySem.W.Frag) (r : Addr) (ns : Sc) (H Hc : Hp) (L : List (Addr × List PyData)) : Prop where
  sx : Sx [r] H Hc
  row : RowSt K Hc r ns
  sc : SqL K H ns.a (ns.l.map V.int)
  nd : (r :: L.map Prod.fst).Nodup
  at_ : ∀ q ∈ L, H q.1 = none ∧ tupOnlyAll q.2 = true ∧ ∃ xs, Hc q.1 = some (.lst xs) ∧ DpAll K Hc xs q.2
section
variable {K : PySem.W.Frag} {r : Addr} {ns : Sc} {H Hc Hd : Hp} {L L' : List (Addr × List PyData)} {p : Addr} {ds : List PyData} {xs : List V}
theorem OwnR.nil (e : Sx [r] H Hc) (h : RowSt K Hc r ns) (hs : SqL K H ns.a (ns.l.map V.int)) : OwnR K r ns H Hc [] := ⟨e, h, hs, by simp, fun _ h => by cases h⟩
theorem OwnR.turn (o : OwnR K r ns H Hc L) (e : Sx [r] Hc Hd) (h : RowSt K Hd r ns) : OwnR K r ns H Hd L := ⟨o.sx.trans e, h, o.sc, o.nd, fun q hq => by
  obtain ⟨h1, h2, xs, h3, h4⟩ := o.at_ q hq
  have hne : q.1 ∉ [r] := fun z => by
    have h5 := (List.nodup_cons.mp o.nd).1
    have : q.1 = r := by simpa using z
    rw [← this] at h5
    exact h5 (List.mem_map_of_mem hq)
  exact ⟨h1, h2, xs, e.keep _ _ hne h3 (fun _ z => nomatch z), (o.row.tk e).dpAll _ h2 h4⟩⟩
theorem OwnR.up (o : OwnR K r ns H Hc L) (e : Sm Hc Hd) : OwnR K r ns H Hd L := o.turn (e.sx [r]) (o.row.sm e)
theorem OwnR.new (o : OwnR K r ns H Hc L) (hp : Hc p = none) (ht : tupOnlyAll ds = true) (hd : DpAll K Hc xs ds) : OwnR K r ns H (upd Hc p (.lst xs)) ((p, ds) :: L) := by
  have o2 := o.up (Sm.upd (o := .lst xs) hp)
  refine ⟨o2.sx, o2.row, o.sc, ?_, fun q hq => ?_⟩
  · have h1 := List.nodup_cons.mp o.nd
    have hpr : r ≠ p := fun z => by
      obtain ⟨ys, e⟩ := o.row.there
      rw [z, hp] at e
      cases e
    have hpl : p ∉ L.map Prod.fst := fun z => by
      obtain ⟨q, hq, e⟩ := List.mem_map.mp z
      obtain ⟨_, _, xs', h3, _⟩ := o.at_ q hq
      have e' : q.1 = p := e
      rw [e', hp] at h3
      cases h3
    show (r :: p :: L.map Prod.fst).Nodup
    rw [List.nodup_cons, List.nodup_cons]
    exact ⟨fun z => by
      rcases List.mem_cons.mp z with z | z
      · exact hpr z
      · exact h1.1 z, hpl, h1.2⟩
  · rcases List.mem_cons.mp hq with rfl | hq
    · exact ⟨o.sx.fr _ hp, ht, xs, upd_same, (Sm.upd hp).dpAll _ hd⟩
    · exact o2.at_ q hq
theorem OwnR.head {q : Addr × List PyData} (o : OwnR K r ns H Hc (q :: L)) : ∃ xs, Hc q.1 = some (.lst xs) ∧ DpAll K Hc xs q.2 := (o.at_ q (by simp)).2.2
theorem OwnR.swap {a b : Addr × List PyData} (o : OwnR K r ns H Hc (a :: b :: L)) : OwnR K r ns H Hc (b :: a :: L) := by
  have h : (a :: b :: L).Perm (b :: a :: L) := .swap _ _ _
  exact ⟨o.sx, o.row, o.sc, ((h.map Prod.fst).cons r).nodup_iff.mp o.nd, fun q hq => o.at_ q (h.mem_iff.mpr hq)⟩
theorem OwnR.app {v : V} {d : PyData} (o : OwnR K r ns H Hc ((p, ds) :: L)) (hx : Hc p = some (.lst xs)) (hv : Dp K Hc v d) (ht : tupOnly d = true) : OwnR K r ns H (upd Hc p (.lst (xs ++ [v]))) ((p, ds ++ [d]) :: L) := by
  obtain ⟨hn, t1, xs', hx', hd⟩ := o.at_ (p, ds) (by simp)
  rw [show Hc (p, ds).1 = Hc p from rfl, hx] at hx'
  cases hx'
  have tk : TK Hc (upd Hc p (.lst (xs ++ [v]))) := TK.lst hx
  have hpr : p ≠ r := fun z => by
    have := (List.nodup_cons.mp o.nd).1
    exact this (by rw [← z]; simp)
  have sx : Sx [r] H (upd Hc p (.lst (xs ++ [v]))) := by
    refine ⟨fun b u hb e n => ?_, fun b hb => ?_, fun b e => o.sx.fr b (upd_fr b e)⟩
    · rw [upd_ne (fun z => by rw [z] at e; rw [show H p = none from hn] at e; cases e)]
      exact o.sx.keep b u hb e n
    · obtain ⟨ps, e, t⟩ := o.sx.tab b hb
      exact ⟨ps, by rw [upd_ne (fun z => by rw [z, hx] at e; cases e)]; exact e, t⟩
  refine ⟨sx, ?_, o.sc, o.nd, fun q hq => ?_⟩
  · obtain ⟨i, x, c, h1, h2, h3, h4⟩ := o.row
    exact ⟨i, x, c, by rw [upd_ne (Ne.symm hpr)]; exact h1, sqL_or h3 sx o.sc, h3, h4⟩
  · rcases List.mem_cons.mp hq with rfl | hq
    · refine ⟨hn, ?_, _, upd_same, ?_⟩
      · exact tupOnlyAll_iff.mpr fun x hx => by
          rcases List.mem_append.mp hx with z | z
          · exact tupOnlyAll_iff.mp t1 x z
          · rw [List.mem_singleton.mp z]; exact ht
      · exact (tk.dpAll _ t1 hd).append (.cons (tk.dp _ ht hv) .nil)
    · obtain ⟨h1, h2, ys, h3, h4⟩ := o.at_ q (List.mem_cons_of_mem _ hq)
      have hne : q.1 ≠ p := fun z => by
        have := (List.nodup_cons.mp (List.nodup_cons.mp o.nd).2).1
        exact this (show p ∈ L.map Prod.fst by rw [← show q.1 = p from z]; exact List.mem_map_of_mem hq)
      exact ⟨h1, h2, ys, by rw [upd_ne hne]; exact h3, tk.dpAll _ h2 h4⟩
end
end Tr

/-! Law defs: _law_game. -/
namespace Tr
open PySem PySem.Spec PyProof.Rows L2 GxR Gq
theorem to_ints (l : List Int) : tupOnlyAll (l.map PyData.int) = true := tupOnlyAll_map fun _ _ => rfl
theorem to_road (r : Int × Int × List Int) : tupOnly (eRoad r) = true := by
  show (tupOnly (.int r.1) && (tupOnly (.int r.2.1) && (tupOnlyAll (r.2.2.map PyData.int) && true))) = true
  rw [to_ints]
  rfl
theorem to_pl (p : Int × Int) : tupOnly (ePl p) = true := rfl
theorem mod_ne {n : Nat} {s z : Int} (h2 : 2 ≤ n) (h4 : n ≤ 4) (hs0 : 0 ≤ s) (hs1 : s < (n : Int)) (hz0 : 0 ≤ z) (hz1 : z < (n : Int) - 1) : 0 ≤ (s + 1 + z) % (n : Int) ∧ (s + 1 + z) % (n : Int) < (n : Int) ∧ s ≠ (s + 1 + z) % (n : Int) := by
  have : n = 2 ∨ n = 3 ∨ n = 4 := by omega
  rcases this with rfl | rfl | rfl
  · omega
  · omega
  · omega
theorem leads_app {n : Nat} {R S : List (Int × Int)} (h : Leads n R) : Leads n (R ++ S) := by
  have key : ∀ {i : Nat} {x : Int × Int}, R[i]? = some x → (R ++ S)[i]? = some x := fun {i x} e => by
    obtain ⟨hi, _⟩ := List.getElem?_eq_some_iff.mp e
    rw [List.getElem?_append_left hi]
    exact e
  rcases h with ⟨h1, h2⟩ | ⟨h1, h2, h3⟩
  · exact .inl ⟨h1, key h2⟩
  · exact .inr ⟨h1, key h2, key h3⟩
section
variable {P : Program} {w : World} {K : PySem.W.Frag} {mg : Str → Option Value} {base : Heap} {tabs : List Addr}
abbrev lmN : List Str := ["_law_row", "_law_many", "_law_length", "_law_is_straight", "_law_size", "_law_roads", "_law_turn", "_law_start", "_law_players", "_law_k", "_law_player", "_law_has_way"]
theorem sc_lgame : FnScope lmN ["_law_row", "_law_many", "_law_length", "_law_is_straight"] (defScope s_law_game) := ⟨rfl, rfl, rfl, by decide +kernel, rfl, by decide +kernel, by decide +kernel⟩
def spLgame (K : PySem.W.Frag) : Sp := fun vs H Q _ => ∃ (r : Addr) (ns : Sc) (m : Nat), vs = [.ref r, .int (m : Int), .int (m : Int), .bl true] ∧ RowSt K H r ns ∧ 1 ≤ m ∧ m ≤ 3 ∧
  ∀ v G H', Sx [r] H H' → RowSt K H' r ns → GOk G → G.P.length = m → Straight m G → Dp K H' v (eGm G) → Q v H'
/-- the game's roads are made: what follows -/
def Made (K : PySem.W.Frag) (r : Addr) (ns : Sc) (m n : Nat) (H : Hp) (j : Nat) (σ : L2.St) (Hc : Hp) : Prop := ∃ (RL : Addr) (rds : List (Int × Int × List Int)) (o6 o7 o8 o9 o10 o11 : Option V), σ = [some (.ref r), some (.int (m : Int)), some (.int (m : Int)), some (.bl true), some (.int (n : Int)), some (.ref RL), o6, o7, o8, o9, o10, o11] ∧ OwnR K r ns H Hc [(RL, rds.map eRoad)] ∧ (∀ x ∈ rds, RdS n m x) ∧ 1 ≤ rds.length ∧ rds.length ≤ 2 + j ∧ Leads n (endsR rds)
def MadeP (K : PySem.W.Frag) (r : Addr) (ns : Sc) (m n : Nat) (H : Hp) (rds : List (Int × Int × List Int)) (RL PL : Addr) (j : Nat) (σ : L2.St) (Hc : Hp) : Prop := ∃ (pls : List (Int × Int)) (o6 o7 o9 o10 o11 : Option V), σ = [some (.ref r), some (.int (m : Int)), some (.int (m : Int)), some (.bl true), some (.int (n : Int)), some (.ref RL), o6, o7, some (.ref PL), o9, o10, o11] ∧ OwnR K r ns H Hc [(PL, pls.map ePl), (RL, rds.map eRoad)] ∧ pls.length = j ∧ ∀ p ∈ pls, PlOk n (endsR rds) p
theorem road_of {K : PySem.W.Frag} {n m : Nat} {x y : Int} {ab : Int × Int} {p t : Addr} {Hc : Hp} (hx : 0 ≤ x ∧ x < (n : Int)) (hy : 0 ≤ y ∧ y < (n : Int)) (hne : x ≠ y) (a0 : 0 ≤ ab.1) (a5 : ab.1 ≤ 5) (b0 : 0 ≤ ab.2) (b10 : ab.2 ≤ 10) (hp : SqT K Hc p ((tableOf m ab).map V.int)) (ht : SqT K Hc t [.int x, .int y, .ref p]) :
    RdS n m (x, y, tableOf m ab) ∧ Dp K Hc (.ref t) (eRoad (x, y, tableOf m ab)) := ⟨⟨hx, hy, hne, ab, a0, a5, b0, b10, rfl⟩, .tup ht (.cons (.int _) (.cons (.int _) (.cons (dp_intsOf hp) .nil)))⟩
theorem lgame_rest {f c : Addr} {A : Around} {outer : List Env} {s : Shared} {H : Hp} {E : XK} (T : Tx K mg) (hr : Room 3 (A.deeper (envOfC "_law_game" (defScope s_law_game) s.heap.objs.size f (.ref c)))) (GT : Prom P w K mg base "_law_taken" ["_law_row", "_law_many"] (spTaken K) 1) (GB : Prom P w K mg base "_law_table" ["_law_row", "_law_length", "_law_is_straight"] (spLtab K) 3) (GW : Prom P w K mg base "_law_game_ways" ["_law_game_here", "_law_player"] (spLgw K) 1) :
    ∃ t, PSs (cxOf CX0 P w K mg base lmN "_law_game" (defScope s_law_game) f (.ref c) A outer s H E).nox ((defBody s_law_game).drop 3) t ∧ ∀ (Q : VK) (r : Addr) (ns : Sc) (m n : Nat) (H0 : Hp) σ Hc, 1 ≤ m → m ≤ 3 → 2 ≤ n → n ≤ 4 → Made K r ns m n H0 0 σ Hc →
      (∀ v G H', Sx [r] H0 H' → RowSt K H' r ns → GOk G → G.P.length = m → Straight m G → Dp K H' v (eGm G) → Q v H') → t { nx := fun _ H' => Q .non H', rt := Q } σ Hc := by
  have nd := sc_lgame.nd
  have gt := GT.mono (k := 3) (by decide)
  have gw := GW.mono (k := 3) (by decide)
  have hu : (A.deeper (envOfC "_law_game" (defScope s_law_game) s.heap.objs.size f (.ref c))).units + 64 < cLine := by have := hr.un; omega
  refine ⟨_, (pss_cons (ps_for PassesOwn.never rfl (pi_range1 rfl T.range (pa_cons (pe_op op_add pe_int (pe_prom gt hr (by rfl) (pa_cons (pv 0) (pa_cons pe_int pa_nil)))) pa_nil)) (pg_name (i := 6) nd rfl (Or.inl rfl))
        (pss_cons (ps_set (i := 7) nd rfl (Or.inl rfl) (pe_prom gt hr (by rfl) (pa_cons (pv 0) (pa_cons (pv 4) pa_nil))))
        (pss_one (ps_expr (pe_bm PySem.F.plainAttrs_list PySem.F.slot_list_append PySem.F.type_list_append mt_append (pv 5) (pa_cons (pe_tup (pa_cons (pv 7) (pa_cons (pe_op op_mod (pe_callTy call_int1 (by rfl) T.int boot_int (pa_cons (pe_op op_add (pe_op op_add (pv 7) pe_int) (pe_prom gt hr (by rfl) (pa_cons (pv 0) (pa_cons (pe_op op_sub (pv 4) pe_int) pa_nil)))) pa_nil)) (pv 4))
          (pa_cons (pe_prom GB hr (by rfl) (pa_cons (pv 0) (pa_cons (pv 2) (pa_cons (pv 3) pa_nil)))) pa_nil)))) pa_nil))))))
      (pss_cons (ps_set (i := 8) nd rfl (Or.inl rfl) (pe_lst pa_nil))
      (pss_cons (ps_for PassesOwn.never rfl (pi_range1 rfl T.range (pa_cons (pv 1) pa_nil)) (pg_name (i := 9) nd rfl (Or.inl rfl))
        (pss_cons (ps_set (i := 7) nd rfl (Or.inl rfl) (pe_prom gt hr (by rfl) (pa_cons (pv 0) (pa_cons (pv 4) pa_nil))))
        (pss_cons (ps_set (i := 10) nd rfl (Or.inl rfl) (pe_tup (pa_cons (pv 7) (pa_cons (pe_op op_mod (pe_callTy call_int1 (by rfl) T.int boot_int (pa_cons (pe_op op_add (pe_op op_add (pv 7) pe_int) (pe_prom gt hr (by rfl) (pa_cons (pv 0) (pa_cons (pe_op op_sub (pv 4) pe_int) pa_nil)))) pa_nil)) (pv 4)) pa_nil))))
        (pss_cons (ps_set (i := 11) nd rfl (Or.inl rfl) (pe_cmpR (op_neD hu) (pe_prom gw hr (by rfl) (pa_cons (pe_tup (pa_cons (pv 4) (pa_cons (pe_callTy call_tuple_of (by rfl) T.tuple (by decide +kernel) (pa_cons (pv 5) pa_nil)) pa_nil))) (pa_cons (pv 10) pa_nil))) (pe_lst pa_nil) (by rfl)))
        (pss_one (ps_expr (pe_bm PySem.F.plainAttrs_list PySem.F.slot_list_append PySem.F.type_list_append mt_append (pv 8) (pa_cons (pe_ifExp (pw_and (pt_truth (pv 11) (fun _ => rfl)) (pw_and1 (pt_cmpR op_eq (pe_prom gt hr (by rfl) (pa_cons (pv 0) (pa_cons pe_int pa_nil))) pe_int (nomark _)))).pt (pv 10) (pe_tup (pa_cons pe_int (pa_cons (pe_op op_sub (pv 4) pe_int) pa_nil)))) pa_nil))))))))
      (pss_one (ps_ret (pe_tup (pa_cons (pv 4) (pa_cons (pe_callTy call_tuple_of (by rfl) T.tuple (by decide +kernel) (pa_cons (pv 5) pa_nil)) (pa_cons (pe_callTy call_tuple_of (by rfl) T.tuple (by decide +kernel) (pa_cons (pv 8) pa_nil)) pa_nil))))))))), ?_⟩
  intro Q r ns m n H0 σ Hc hm1 hm3 hn2 hn4 made q
  have hs : sizeLine = 16777216 := by decide
  have two : (2 : Nat) ≤ sizeLine := by decide
  have three : (3 : Nat) ≤ sizeLine := by decide
  obtain ⟨RL, rds, o6, o7, o8, o9, o10, o11, rfl, ow, hrd, hl1, hl2, hlead⟩ := made
  refine ⟨_, rfl, r, ns, 4, rfl, ow.row, by decide, by decide, fun z0 H1 hz0 hz1 sx1 row1 => ⟨_, _, rfl, rfl, ?_⟩⟩
  have ow1 := ow.turn sx1 row1
  refine ⟨1 + z0, rfl, by omega, by omega, ?_⟩
  refine for_range (n := (1 + z0).toNat) (fun j σ Hc => Made K r ns m n H0 j σ Hc) ⟨RL, rds, o6, o7, o8, o9, o10, o11, rfl, ow1, hrd, hl1, hl2, hlead⟩ ?_ ?_
  · rintro j σ Hd hj ⟨RL, rds, o6, o7, o8, o9, o10, o11, rfl, ow, hrd, hl1, hl2, hlead⟩
    refine ⟨_, rfl, _, rfl, r, ns, (n : Int), rfl, ow.row, by omega, by omega, fun st H2 hs0 hs1 sx2 row2 => ?_⟩
    have ow2 := ow.turn sx2 row2
    obtain ⟨xs, hxs, _⟩ := ow2.head
    refine ⟨_, rfl, .inl ⟨rfl, _, .inl (.inl hxs)⟩, ?_⟩
    refine ⟨_, rfl, _, rfl, _, _, rfl, rfl, _, rfl, _, rfl, _, _, rfl, rfl, r, ns, (n : Int) - 1, rfl, ow2.row, by omega, by omega, fun z2 H3 hz20 hz21 sx3 row3 => ⟨_, _, rfl, rfl, .inl ⟨_, rfl, _, rfl, _, _, rfl, rfl, (by omega : (0 : Int) < (n : Int)), ?_⟩⟩⟩
    have ow3 := ow2.turn sx3 row3
    obtain ⟨e1, e2, e3⟩ := mod_ne hn2 hn4 hs0 hs1 hz20 hz21
    refine ⟨_, rfl, _, rfl, _, rfl, r, ns, m, rfl, ow3.row, hm3, fun ab p H4 a0 a5 b0 b10 sx4 row4 hp hq => ⟨three, fun t ht => ?_⟩⟩
    have ow4 := (ow3.turn sx4 row4).up (Sm.upd (o := .tup [.int st, .int ((st + 1 + z2) % (n : Int)), .ref p]) ht)
    obtain ⟨rd, dr⟩ := road_of (n := n) (m := m) (x := st) (y := (st + 1 + z2) % (n : Int)) (ab := ab) (p := p) (t := t) ⟨hs0, hs1⟩ ⟨e1, e2⟩ e3 a0 a5 b0 b10 ((Sm.upd (o := .tup [.int st, .int ((st + 1 + z2) % (n : Int)), .ref p]) ht).sqT hq) (.inl (.inl upd_same))
    obtain ⟨ys, hys, dys⟩ := ow4.head
    refine ⟨RL, ys, _, rfl, rfl, hys, ?_, ?_⟩
    · rw [dys.length, List.length_map]
      omega
    · refine ⟨RL, rds ++ [(st, (st + 1 + z2) % (n : Int), tableOf m ab)], _, _, _, _, _, _, rfl, ?_, ?_, ?_, ?_, ?_⟩
      · rw [List.map_append]
        exact ow4.app hys dr (to_road _)
      · intro x hx
        rcases List.mem_append.mp hx with h | h
        · exact hrd x h
        · rw [List.mem_singleton.mp h]; exact rd
      · rw [List.length_append]; omega
      · rw [List.length_append]
        show rds.length + 1 ≤ _
        omega
      · unfold endsR
        rw [List.map_append]
        exact leads_app hlead
  · rintro σ Hd ⟨RL, rds, o6, o7, o8, o9, o10, o11, rfl, ow, hrd, hl1, hl2, hlead⟩
    have hl6 : rds.length ≤ 6 := by omega
    refine ⟨Nat.zero_le _, fun PL hPL => ?_⟩
    have owP := ow.new (ds := []) hPL rfl .nil
    refine ⟨_, rfl, (m : Int), rfl, by omega, by omega, ?_⟩
    refine for_range (n := ((m : Int)).toNat) (fun j σ Hc => MadeP K r ns m n H0 rds RL PL j σ Hc) ⟨[], _, _, _, _, _, rfl, owP, rfl, fun _ h => by cases h⟩ ?_ ?_
    · rintro j σ He hj ⟨pls, o6, o7, o9, o10, o11, rfl, ow, hpl, hpk⟩
      refine ⟨_, rfl, _, rfl, r, ns, (n : Int), rfl, ow.row, by omega, by omega, fun st H2 hs0 hs1 sx2 row2 => ?_⟩
      have ow2 := ow.turn sx2 row2
      refine ⟨_, rfl, _, rfl, _, _, rfl, rfl, _, rfl, _, rfl, _, _, rfl, rfl, r, ns, (n : Int) - 1, rfl, ow2.row, by omega, by omega, fun z2 H3 hz20 hz21 sx3 row3 => ⟨_, _, rfl, rfl, .inl ⟨_, rfl, _, rfl, _, _, rfl, rfl, (by omega : (0 : Int) < (n : Int)), two, fun pt hpt => ?_⟩⟩⟩
      obtain ⟨e1, e2, e3⟩ := mod_ne hn2 hn4 hs0 hs1 hz20 hz21
      have ow3 := (ow2.turn sx3 row3).up (Sm.upd (o := .tup [.int st, .int ((st + 1 + z2) % (n : Int))]) hpt)
      obtain ⟨ys, hys, dys⟩ := ow3.swap.head
      have hlR : (endsR rds).length = rds.length := by unfold endsR; rw [List.length_map]
      have hnet : ∀ x y : Int, 0 ≤ x → x < (n : Int) → NetOk n (endsR rds) x y := fun x y h0 h1 => ⟨by omega, by rw [hlR]; omega, fun e he => by
        unfold endsR at he
        obtain ⟨rd, hrd', rfl⟩ := List.mem_map.mp he
        exact (hrd rd hrd').n2, h0, h1⟩
      have fin : ∀ (Hx : Hp) (v : V) (pl : Int × Int) (Qx : VK), OwnR K r ns H0 Hx [(PL, pls.map ePl), (RL, rds.map eRoad)] → Dp K Hx v (ePl pl) → (∀ Hy, OwnR K r ns H0 Hy [(PL, (pls ++ [pl]).map ePl), (RL, rds.map eRoad)] → Qx .non Hy) → rAppend (.ref PL) [v] Hx Qx := fun Hx v pl Qx o dv k => by
        obtain ⟨zs, hzs, dzs⟩ := o.head
        refine ⟨PL, zs, v, rfl, rfl, hzs, ?_, k _ ?_⟩
        · rw [dzs.length, List.length_map, hpl]
          omega
        · rw [List.map_append]
          exact o.app hzs dv (to_pl pl)
      have dpl : ∀ Hx, Sm (L2.upd H3 pt (.tup [.int st, .int ((st + 1 + z2) % (n : Int))])) Hx → Dp K Hx (.ref pt) (ePl (st, (st + 1 + z2) % (n : Int))) := fun Hx e => e.dp _ (.tup (.inl (.inl upd_same)) (.cons (.int _) (.cons (.int _) .nil)))
      refine ⟨_, rfl, _, rfl, _, _, rfl, .inl ⟨.inl (.inl hys), fun tr htr => ⟨two, fun tg htg => ⟨_, rfl, ?_⟩⟩⟩⟩
      have sA := (Sm.upd (o := .tup ys) htr).trans (Sm.upd (o := .tup [.int (n : Int), .ref tr]) htg)
      have ow4 := ow3.up sA
      refine ⟨tg, tr, .ref pt, _, ys, n, rds, st, (st + 1 + z2) % (n : Int), rfl, .inl (.inl upd_same), rfl, rfl, (Sm.upd htg).sqT (.inl (.inl upd_same)), sA.dpAll _ dys, dpl _ sA, hnet _ _ hs0 hs1, fun pw ws H5 s5 hpw hws dws => ⟨Nat.zero_le _, fun pe hpe => ?_⟩⟩
      have ow5 := (ow4.up s5).up (Sm.upd (o := .lst []) hpe)
      have sB := sA.trans (s5.trans (Sm.upd (o := .lst []) hpe))
      refine ⟨.list ((waysOf n (endsR rds) st ((st + 1 + z2) % (n : Int))).map eW), .list [], .lst ((Sm.upd hpe).sqL (.inl (.inl hws))) ((Sm.upd hpe).dpAll _ dws), .lst (.inl (.inl upd_same)) .nil, shaped_ways _, shaped_ways [], ?_⟩
      have hb : ∃ b : Bool, (!PyData.eqv (.list ((waysOf n (endsR rds) st ((st + 1 + z2) % (n : Int))).map eW)) (.list [])) = b ∧ (b = true → waysOf n (endsR rds) st ((st + 1 + z2) % (n : Int)) ≠ []) := by
        refine ⟨_, rfl, fun h z => ?_⟩
        rw [z] at h
        exact absurd h (by decide)
      obtain ⟨b, eb, hb⟩ := hb
      rw [eb]
      obtain ⟨us, hus, _⟩ := ow5.head
      have fall : ∀ (Hx : Hp) (o6 o7 o9 o10 o11 : Option V), OwnR K r ns H0 Hx [(PL, pls.map ePl), (RL, rds.map eRoad)] → ∀ t, Hx t = none → rAppend (.ref PL) [.ref t] (L2.upd Hx t (.tup [.int 0, .int ((n : Int) - 1)])) (fun v Hy => MadeP K r ns m n H0 rds RL PL (j + 1) [some (.ref r), some (.int (m : Int)), some (.int (m : Int)), some (.bl true), some (.int (n : Int)), some (.ref RL), o6, o7, some (.ref PL), o9, o10, o11] Hy) := fun Hx o6 o7 o9 o10 o11 o t ht => by
        refine fin _ _ (0, (n : Int) - 1) _ (o.up (Sm.upd ht)) (.tup (.inl (.inl upd_same)) (.cons (.int _) (.cons (.int _) .nil))) fun Hy oy => ⟨_, _, _, _, _, _, rfl, oy, by rw [List.length_append, hpl]; rfl, fun p hp => ?_⟩
        rcases List.mem_append.mp hp with h | h
        · exact hpk p h
        · rw [List.mem_singleton.mp h]
          exact ⟨⟨by show (0 : Int) ≤ 0; omega, by show (0 : Int) < n; omega⟩, ⟨by show (0 : Int) ≤ (n : Int) - 1; omega, by show (n : Int) - 1 < n; omega⟩, by show (0 : Int) ≠ (n : Int) - 1; omega, leads_ways hlead⟩
      have good : ∀ (Hx : Hp) (o6 o7 o9 o10 o11 : Option V), OwnR K r ns H0 Hx [(PL, pls.map ePl), (RL, rds.map eRoad)] → Dp K Hx (.ref pt) (ePl (st, (st + 1 + z2) % (n : Int))) → waysOf n (endsR rds) st ((st + 1 + z2) % (n : Int)) ≠ [] → rAppend (.ref PL) [.ref pt] Hx (fun v Hy => MadeP K r ns m n H0 rds RL PL (j + 1) [some (.ref r), some (.int (m : Int)), some (.int (m : Int)), some (.bl true), some (.int (n : Int)), some (.ref RL), o6, o7, some (.ref PL), o9, o10, o11] Hy) := fun Hx o6 o7 o9 o10 o11 o dv hw => by
        refine fin _ _ (st, (st + 1 + z2) % (n : Int)) _ o dv fun Hy oy => ⟨_, _, _, _, _, _, rfl, oy, by rw [List.length_append, hpl]; rfl, fun p hp => ?_⟩
        rcases List.mem_append.mp hp with h | h
        · exact hpk p h
        · rw [List.mem_singleton.mp h]
          exact ⟨⟨hs0, hs1⟩, ⟨e1, e2⟩, e3, hw⟩
      refine ⟨_, rfl, .inl ⟨rfl, _, .inl (.inl hus)⟩, ?_⟩
      refine ⟨_, rfl, b, rfl, ?_⟩
      cases b with
      | false =>
        refine ifF (by decide) ?_
        refine ifF (by decide) ?_
        exact ⟨_, rfl, _, _, rfl, rfl, two, fun t ht => fall _ _ _ _ _ _ ow5 t ht⟩
      | true =>
        refine ifT rfl ?_
        refine ⟨_, rfl, r, ns, 3, rfl, ow5.row, by decide, by decide, fun z6 H6 hz60 hz61 sx6 row6 => ⟨rfl, _, rfl, ?_⟩⟩
        have ow6 := ow5.turn sx6 row6
        cases hd : decide (V.int z6 = V.int 0) with
        | true =>
          refine ifT rfl ?_
          refine ⟨_, rfl, ?_⟩
          exact good _ _ _ _ _ _ ow6 ((ow5.row.tk sx6).dp _ rfl (dpl _ sB)) (hb rfl)
        | false =>
          refine ifF (by decide) ?_
          exact ⟨_, rfl, _, _, rfl, rfl, two, fun t ht => fall _ _ _ _ _ _ ow6 t ht⟩
    · rintro σ He ⟨pls, o6, o7, o9, o10, o11, rfl, ow, hpl, hpk⟩
      rw [show ((m : Int)).toNat = m by omega] at hpl
      obtain ⟨ys, hys, dys⟩ := ow.swap.head
      obtain ⟨us, hus, dus⟩ := ow.head
      refine ⟨_, rfl, _, rfl, _, _, rfl, .inl ⟨.inl (.inl hys), fun tr htr => ⟨_, rfl, _, _, rfl, .inl ⟨.inl (.inl ((Sm.upd htr).keep _ _ hus fun _ z => nomatch z)), fun tp htp => ⟨three, fun tg htg => ?_⟩⟩⟩⟩⟩
      have s1 := Sm.upd (o := .tup ys) htr
      have s2 := Sm.upd (o := .tup us) htp
      have s3 := Sm.upd (o := .tup [.int (n : Int), .ref tr, .ref tp]) htg
      have owF := ow.up (s1.trans (s2.trans s3))
      refine q (.ref tg) ⟨n, rds, pls⟩ _ owF.sx owF.row ?_ hpl (straight_of (n := n) hrd) ?_
      · exact ⟨hn2, by show n ≤ 6; omega, hl1, by show rds.length ≤ 8; omega, by show 1 ≤ pls.length; omega, by show pls.length ≤ 3; omega, fun r hr => (by
          have h := (hrd r hr).road hm1 hm3
          rw [← hpl] at h
          exact h), fun p hp => hpk p hp⟩
      · exact .tup (.inl (.inl upd_same)) (.cons (.int _) (.cons (.tup ((s2.trans s3).sqT (.inl (.inl upd_same))) ((s1.trans (s2.trans s3)).dpAll _ dys)) (.cons (.tup (s3.sqT (.inl (.inl upd_same))) ((s1.trans (s2.trans s3)).dpAll _ dus)) .nil)))
theorem ok_lgame {f c : Addr} (F : Fx K mg "_law_game" s_law_game f c) (T : Tx K mg) (GT : Prom P w K mg base "_law_taken" ["_law_row", "_law_many"] (spTaken K) 1) (GB : Prom P w K mg base "_law_table" ["_law_row", "_law_length", "_law_is_straight"] (spLtab K) 3) (GW : Prom P w K mg base "_law_game_ways" ["_law_game_here", "_law_player"] (spLgw K) 1) :
    Prom P w K mg base "_law_game" ["_law_row", "_law_many", "_law_length", "_law_is_straight"] (spLgame K) 4 := by
  refine F.prom sc_lgame (fun vs H Q E h => ?_) (fun _ _ _ _ _ _ us hl => match us, hl with | [_, _, _, _], _ => rfl) (fun A outer s H vs Q E hr h => ?_)
  · obtain ⟨_, _, _, rfl, _⟩ := h
    rfl
  · obtain ⟨r, ns, m, rfl, hrow, hm1, hm3, q⟩ := h
    have nd := sc_lgame.nd
    have gt := GT.mono (k := 3) (by decide)
    have gw := GW.mono (k := 3) (by decide)
    have hu : (A.deeper (envOfC "_law_game" (defScope s_law_game) s.heap.objs.size f (.ref c))).units + 64 < cLine := by have := hr.un; omega
    obtain ⟨tR, hR1, hR2⟩ := lgame_rest (P := P) (w := w) (K := K) (mg := mg) (base := base) (f := f) (c := c) (A := A) (outer := outer) (s := s) (H := H) (E := E) T hr GT GB GW
    refine ⟨_, pss_cons (ps_set (i := 4) nd rfl (Or.inl rfl) (pe_op op_add pe_int (pe_prom gt hr (by rfl) (pa_cons (pv 0) (pa_cons pe_int pa_nil)))))
      (pss_cons (ps_set (i := 5) nd rfl (Or.inl rfl) (pe_lst (pa_cons (pe_tup (pa_cons pe_int (pa_cons (pe_op op_sub (pv 4) pe_int) (pa_cons (pe_prom GB hr (by rfl) (pa_cons (pv 0) (pa_cons (pv 2) (pa_cons (pv 3) pa_nil)))) pa_nil)))) pa_nil)))
      (pss_cons (ps_if (pt_cmpR op_gt (pv 4) pe_int (nomark _)) (pss_one (ps_set (i := 5) nd rfl (Or.inl rfl) (pe_lst (pa_cons (pe_tup (pa_cons pe_int (pa_cons pe_int (pa_cons (pe_prom GB hr (by rfl) (pa_cons (pv 0) (pa_cons (pv 2) (pa_cons (pv 3) pa_nil)))) pa_nil))))
          (pa_cons (pe_tup (pa_cons pe_int (pa_cons (pe_op op_sub (pv 4) pe_int) (pa_cons (pe_prom GB hr (by rfl) (pa_cons (pv 0) (pa_cons (pv 2) (pa_cons (pv 3) pa_nil)))) pa_nil)))) pa_nil))))) pss_nil)
      hR1)), ?_⟩
    have hs : sizeLine = 16777216 := by decide
    have two : (2 : Nat) ≤ sizeLine := by decide
    have three : (3 : Nat) ≤ sizeLine := by decide
    have hscr : SqL K H ns.a (ns.l.map V.int) := by
      obtain ⟨i, x, c, h1, h2, _⟩ := hrow
      exact h2
    refine ⟨_, rfl, r, ns, 3, rfl, hrow, by decide, by decide, fun z0 H1 hz0 hz1 sx1 row1 => ⟨_, _, rfl, rfl, ?_⟩⟩
    obtain ⟨n, en, hn2, hn4⟩ : ∃ n : Nat, 2 + z0 = (n : Int) ∧ 2 ≤ n ∧ n ≤ 4 := ⟨(2 + z0).toNat, by omega, by omega, by omega⟩
    have en' : (fun i j : Int => V.int (i + j)) 2 z0 = V.int (n : Int) := congrArg V.int en
    rw [en']
    have o1 : OwnR K r ns H H1 [] := OwnR.nil sx1 row1 hscr
    -- one road
    have hroad : ∀ (x y : Int) (ab : Int × Int) (p t : Addr) (Hc Hd : Hp), 0 ≤ x ∧ x < (n : Int) → 0 ≤ y ∧ y < (n : Int) → x ≠ y → 0 ≤ ab.1 → ab.1 ≤ 5 → 0 ≤ ab.2 → ab.2 ≤ 10 → SqT K Hc p ((tableOf m ab).map V.int) → SqT K Hc t [.int x, .int y, .ref p] → RdS n m (x, y, tableOf m ab) ∧ Dp K Hc (.ref t) (eRoad (x, y, tableOf m ab)) := fun x y ab p t Hc Hd hx hy hne a0 a5 b0 b10 hp ht =>
      ⟨⟨hx, hy, hne, ab, a0, a5, b0, b10, rfl⟩, .tup ht (.cons (.int _) (.cons (.int _) (.cons (dp_intsOf hp) .nil)))⟩
    refine ⟨_, rfl, _, _, rfl, rfl, _, rfl, _, rfl, _, rfl, r, ns, m, rfl, row1, hm3, fun ab1 p1 H2 a0 a5 b0 b10 sx2 row2 hp1 hq1 => ⟨three, fun t1 ht1 => ⟨(by show 1 ≤ sizeLine; decide), fun RL hRL => ?_⟩⟩⟩
    have o2 := (o1.turn sx2 row2).up (Sm.upd (o := .tup [.int 0, .int ((n : Int) - 1), .ref p1]) ht1)
    obtain ⟨rd1, dr1⟩ := hroad 0 ((n : Int) - 1) ab1 p1 t1 _ H ⟨by omega, by omega⟩ ⟨by omega, by omega⟩ (by omega) a0 a5 b0 b10 ((Sm.upd ht1).sqT hq1) (.inl (.inl upd_same))
    have o3 := o2.new (ds := [eRoad (0, (n : Int) - 1, tableOf m ab1)]) hRL (by rw [tupOnlyAll, to_road]; rfl) (.cons dr1 .nil)
    refine ⟨_, rfl, _, _, rfl, rfl, _, rfl, ?_⟩
    by_cases h2 : (2 : Int) < (n : Int)
    · refine ifT (decide_eq_true h2) ?_
      refine ⟨_, rfl, _, rfl, _, rfl, r, ns, m, rfl, o3.row, hm3, fun ab3 p3 H5 a0' a5' b0' b10' sx5 row5 hp3 hq3 => ⟨three, fun t3 ht3 => ?_⟩⟩
      have o4 := (o1.turn ((sx2.trans ((Sm.upd (o := .tup [.int 0, .int ((n : Int) - 1), .ref p1]) ht1).sx [r])).trans (((Sm.upd (o := .lst [.ref t1]) hRL).sx [r]).trans sx5)) row5).up (Sm.upd (o := .tup [.int 0, .int 1, .ref p3]) ht3)
      obtain ⟨rd3, dr3⟩ := road_of (n := n) (m := m) (x := 0) (y := 1) (ab := ab3) (p := p3) (t := t3) ⟨by omega, by omega⟩ ⟨by omega, by omega⟩ (by decide) a0' a5' b0' b10' ((Sm.upd (o := .tup [.int 0, .int 1, .ref p3]) ht3).sqT hq3) (.inl (.inl upd_same))
      refine ⟨_, rfl, _, _, rfl, rfl, _, rfl, _, rfl, _, rfl, r, ns, m, rfl, o4.row, hm3, fun ab4 p4 H6 c0 c5 d0 d10 sx6 row6 hp4 hq4 => ⟨three, fun t4 ht4 => ⟨two, fun RL2 hRL2 => ?_⟩⟩⟩
      have o5 := (o4.turn sx6 row6).up (Sm.upd (o := .tup [.int 1, .int ((n : Int) - 1), .ref p4]) ht4)
      obtain ⟨rd4, dr4⟩ := road_of (n := n) (m := m) (x := 1) (y := (n : Int) - 1) (ab := ab4) (p := p4) (t := t4) ⟨by omega, by omega⟩ ⟨by omega, by omega⟩ (by omega) c0 c5 d0 d10 ((Sm.upd (o := .tup [.int 1, .int ((n : Int) - 1), .ref p4]) ht4).sqT hq4) (.inl (.inl upd_same))
      have dr3' := (Sm.upd (o := .tup [.int 1, .int ((n : Int) - 1), .ref p4]) ht4).dp _ ((o4.row.tk sx6).dp _ (to_road _) dr3)
      have o6 := o5.new (ds := [eRoad (0, 1, tableOf m ab3), eRoad (1, (n : Int) - 1, tableOf m ab4)]) hRL2 (by rw [tupOnlyAll, tupOnlyAll, to_road, to_road]; rfl) (.cons dr3' (.cons dr4 .nil))
      refine hR2 Q r ns m n H _ _ hm1 hm3 hn2 hn4 ⟨RL2, [(0, 1, tableOf m ab3), (1, (n : Int) - 1, tableOf m ab4)], _, _, _, _, _, _, rfl, o6, ?_, by simp, by simp, .inr ⟨by omega, rfl, rfl⟩⟩ q
      intro x hx
      rcases List.mem_cons.mp hx with h | h
      · rw [h]; exact rd3
      · rw [List.mem_singleton.mp h]; exact rd4
    · refine ifF (by rw [decide_eq_false h2]; decide) ?_
      have en2 : n = 2 := by omega
      refine hR2 Q r ns m n H _ _ hm1 hm3 hn2 hn4 ⟨RL, [(0, (n : Int) - 1, tableOf m ab1)], _, _, _, _, _, _, rfl, o3, ?_, by simp, by simp, .inl ⟨en2, ?_⟩⟩ q
      · intro x hx
        rw [List.mem_singleton.mp hx]
        exact rd1
      · rw [en2]
        rfl
end
end Tr

/-! Law defs: _law_states. -/
namespace Tr
open PySem PySem.Spec PyProof.Rows L2 GxR Gq
section
variable {P : Program} {w : World} {K : PySem.W.Frag} {mg : Str → Option Value} {base : Heap} {tabs : List Addr}
abbrev lsN : List Str := ["_law_game_here", "_law_some", "_law_rows", "_law_player", "_law_one", "_law_ways", "_law_more", "_law_way"]
def rLenSq (K : PySem.W.Frag) : List V → Hp → VK → Prop := fun xs H Q => ∃ p ys, xs = [.ref p] ∧ (SqL K H p ys ∨ SqT K H p ys) ∧ Q (.int ys.length) H
theorem sc_lst : FnScope lsN ["_law_game_here"] (defScope s_law_states) := ⟨rfl, rfl, rfl, by decide +kernel, rfl, by decide +kernel, by decide +kernel⟩
def spLst (K : PySem.W.Frag) : Sp := fun vs H Q _ => ∃ (vg : V) (G : Gm), vs = [vg] ∧ Dp K H vg (eGm G) ∧ GOk G ∧ (∀ H', Sm H H' → Q .non H') ∧ (W8 G → ∀ p xs H', Sm H H' → H p = none → H' p = some (.lst xs) → DpAll K H' xs ((allSt (WsOf G)).map eS) → Q (.ref p) H')
theorem ok_lst {f c : Addr} (F : Fx K mg "_law_states" s_law_states f c) (T : Tx K mg) (GW : Prom P w K mg base "_law_game_ways" ["_law_game_here", "_law_player"] (spLgw K) 1) : Prom P w K mg base "_law_states" ["_law_game_here"] (spLst K) 2 := by
  refine F.prom sc_lst (fun vs H Q E h => ?_) (fun _ _ _ _ _ _ us hl => match us, hl with | [_], _ => rfl) (fun A outer s H vs Q E hr h => ?_)
  · obtain ⟨_, _, rfl, _⟩ := h
    rfl
  · obtain ⟨vg, G, rfl, hg, hok, q0, q1⟩ := h
    have nd := sc_lst.nd
    refine ⟨_, pss_cons (ps_par (i := 1) (j := 2) rfl nd rfl rfl (by decide) rfl rfl (pa_cons (pe_lc (own := [("_law_player", 3)]) (g := gName 3) (tt := tYes) (te := tCall (spLgw K) [] E0 (tCons (tVar 0) (tCons (tVar 3) tNil))) rfl nd (pi_tup (pe_ix ix_tup (pv 0) pe_int (fun _ _ => rfl)))
          (blkOk_by (N := lsN) (sc := defScope s_law_states) (by decide +kernel)) (fun _ _ _ _ _ => pg_name (i := 3) nd rfl (Or.inl rfl)) (fun _ _ _ _ _ => pts_nil) (fun _ _ _ _ _ => pe_prom GW hr (by rfl) (pa_cons (pv 0) (pa_cons (pv 3) pa_nil))))
        (pa_cons (pe_lst (pa_cons (pe_tup pa_nil) pa_nil)) pa_nil)) (by rfl))
      (pss_cons (ps_if (pt_cmpR op_gt (pe_callB (cr_max rfl) (by rfl) T.max (by decide +kernel) (pa_cons (pe_lc (own := [("_law_one", 4)]) (g := gName 4) (tt := tYes) (te := tCB (rLenSq K) (tCons (tVar 4) tNil)) rfl nd (pi_list (pv 1))
          (blkOk_by (N := lsN) (sc := defScope s_law_states) (by decide +kernel)) (fun _ _ _ _ _ => pg_name (i := 4) nd rfl (Or.inl rfl)) (fun _ _ _ _ _ => pts_nil) (fun _ _ _ _ _ => pe_callB call_len_seq (by rfl) T.len PySem.boot_len (pa_cons (pv 4) pa_nil))) pa_nil)) pe_int (nomark _)) (pss_one (ps_ret pe_non)) pss_nil)
      (pss_cons (ps_for PassesOwn.never rfl (pi_list (pv 1)) (pg_name (i := 5) nd rfl (Or.inl rfl))
        (pss_cons (ps_set (i := 6) nd rfl (Or.inl rfl) (pe_lst pa_nil))
        (pss_cons (ps_for PassesOwn.never rfl (pi_list (pv 2)) (pg_name (i := 4) nd rfl (Or.inr rfl))
          (pss_one (ps_set (i := 6) nd rfl (Or.inl rfl) (pe_op op_cat (pv 6) (pe_lc (own := [("_law_way", 7)]) (g := gName 7) (tt := tYes) (te := tOp (rCatA K) (tVar 4) (tTup (tCons (tVar 7) tNil))) rfl nd (pi_list (pv 5))
            (blkOk_by (N := lsN) (sc := defScope s_law_states) (by decide +kernel)) (fun _ _ _ _ _ => pg_name (i := 7) nd rfl (Or.inl rfl)) (fun _ _ _ _ _ => pts_nil) (fun _ _ _ _ _ => pe_op op_catA (pv 4) (pe_tup (pa_cons (pv 7) pa_nil))))))))
        (pss_one (ps_set (i := 2) nd rfl (Or.inl rfl) (pv 6))))))
      (pss_one (ps_ret (pe_ifExp (pt_cmpR op_le (pe_callB call_len_seq (by rfl) T.len PySem.boot_len (pa_cons (pv 2) pa_nil)) pe_int (nomark _)) (pv 2) pe_non))))), ?_⟩
    obtain ⟨ga, gb, gc, xs, ys, rfl, h1, h2, h3, h4, h5⟩ := dp_gm hg
    have hly : ys.length = G.P.length := by rw [h5.length, List.length_map]
    have hWl := ws_len G
    have b6 := hok.p3
    have b5 := hok.p1
    have hs : sizeLine = 16777216 := by decide
    refine ⟨_, rfl, _, _, _, _, rfl, rfl, h1, atI_nat (j := 2) rfl, gc, rfl, ⟨ys, h4⟩, fun So hSo => ?_⟩
    refine lc_itA walk_tup hSo (small1000 (by omega)) (fun H' s => s.sqT h4) (fun i y H => ∃ l zs, y = .ref l ∧ l ≠ So ∧ H l = some (.lst zs) ∧ DpAll K H zs (((WsOf G).getD i []).map eW))
      (fun i y H2 H3 ⟨l, zs, e1, e2, e3, e4⟩ hl e => ⟨l, zs, e1, e2, e.keep _ _ (by simp [e2]) e3 (fun _ z => nomatch z), TK.dpAll (e.tk fun b hb => .inr (by
        have : b = So := by simpa using hb
        rw [this]; exact hl)) _ (to_ways _) e4⟩) ?_ ?_
    · intro i x H2 H2' Nx hi hsm hl hy k1
      obtain ⟨rfl, ex⟩ := hy
      obtain ⟨pl, er, dr⟩ := dpAll_map_get' (hsm.dpAll _ h5) ex
      have hmem := List.mem_of_getElem? er
      have ew : (WsOf G).getD i [] = waysOf G.n (endsOf G) pl.1 pl.2 := by
        unfold WsOf
        rw [List.getD_eq_getElem?_getD, List.getElem?_map, er]
        rfl
      rw [ew] at k1
      refine ⟨rfl, _, rfl, _, rfl, ga, gb, x, _, xs, G.n, G.R, pl.1, pl.2, rfl, hsm.sqT h1, rfl, rfl, hsm.sqT h2, hsm.dpAll _ h3, dr, hok.net hmem, fun l zs H3 s3 hl0 hl1 dz => k1 _ _ s3 ⟨l, zs, rfl, fun z => ?_, hl1, dz⟩⟩
      obtain ⟨us, hus⟩ := hl
      rw [z, hus] at hl0
      cases hl0
    · intro H1 acc hsm hacc hp
      have hC : DpAll K H1 acc ((WsOf G).map eWs) := by
        have hd := dpAll_paired (K := K) (H := H1) (es := fun i => eWs ((WsOf G).getD i [])) (paired_mono hp fun (a : V) (i : Nat) ⟨l, zs, e1, e2, e3, e4⟩ => by
          rw [e1]
          exact .lst (.inl (.inl e3)) e4)
        rw [hly, ← hWl, map_range (WsOf G) [] eWs] at hd
        exact hd
      have hla : acc.length = (WsOf G).length := by rw [hC.length, List.length_map]
      refine ⟨Nat.zero_le _, fun t0 h0 => ⟨(by show 1 ≤ sizeLine; decide), fun RO hRO => ⟨_, _, rfl, ?_⟩⟩⟩
      have s0 := hsm.trans (Sm.upd (o := .tup []) h0)
      have hacc0 := (Sm.upd (o := .tup []) h0).keep _ _ hacc fun _ z => nomatch z
      have oR := (Own.nil (K := K) (Sm.refl (L2.upd H1 t0 (.tup [])))).new (ds := [eS []]) hRO (by rw [tupOnlyAll, to_st]; rfl) (.cons (.tup (.inl (.inl upd_same)) .nil) .nil)
      have hC0 := (Sm.upd (o := .tup []) h0).dpAll _ hC
      have haccR := (Sm.upd (o := .lst [V.ref t0]) hRO).keep _ _ hacc0 fun _ z => nomatch z
      refine ⟨_, rfl, So, rfl, ⟨acc, .inl (.inl haccR)⟩, fun D hD => ?_⟩
      refine lc_itA walk_list hD (small1000 (by omega)) (fun H' s => s.sqL (.inl (.inl haccR))) (fun i y H => y = .int (((WsOf G).getD i []).length : Int)) (fun _ _ _ _ h _ _ => h) ?_ ?_
      · intro i x H2 H2' Nx hi hsm2 hl hy k1
        obtain ⟨rfl, ex⟩ := hy
        obtain ⟨ways, ew, dw⟩ := dpAll_map_get' ((oR.sm.trans hsm2).dpAll _ hC0) ex
        obtain ⟨wa, ws, rfl, w1, w2⟩ := dp_lst dw
        have eg : (WsOf G).getD i [] = ways := by rw [List.getD_eq_getElem?_getD, ew]; rfl
        refine ⟨rfl, _, rfl, wa, ws, rfl, .inl w1, k1 _ _ (Sm.refl _) ?_⟩
        rw [eg, w2.length, List.length_map]
      · intro H2 acc2 hsm2 hacc2 hp2
        have ex : acc2 = ((WsOf G).map fun ws => (ws.length : Int)).map V.int := by
          rw [paired_range (f := fun i => (((WsOf G).getD i []).length : Int)) (cv := V.int) hp2 (fun _ _ h => h), hla, map_range (WsOf G) [] (fun ws => (ws.length : Int))]
        refine ⟨D, (WsOf G).map fun ws => (ws.length : Int), rfl, .inl (.inl (by rw [hacc2, ex])), by rw [List.length_map]; omega, fun mx hmx hmax => ⟨_, _, rfl, rfl, _, rfl, ?_⟩⟩
        have o2 := oR.up hsm2
        have s02 := s0.trans (o2.sm)
        by_cases h8 : (8 : Int) < mx
        · refine ifT (decide_eq_true h8) ?_
          exact q0 H2 s02
        · refine ifF (by rw [decide_eq_false h8]; decide) ?_
          have hW8 : W8 G := fun ways hw => by
            have := hmax _ (List.mem_map_of_mem (f := fun ws : List Way => (ws.length : Int)) hw)
            omega
          have haccB := hsm2.keep _ _ haccR fun _ z => nomatch z
          refine ⟨_, rfl, So, rfl, ⟨acc, .inl (.inl haccB)⟩, ?_⟩
          refine for_list (xs := acc) (fun i σ Hc => ∃ RO' o3 o4 o5 o6 o7, σ = [some (.ref ga), some (.ref So), some (.ref RO'), o3, o4, o5, o6, o7] ∧ Own K (L2.upd H1 t0 (.tup [])) Hc [(RO', (allSt ((WsOf G).take i)).map eS)]) ⟨RO, _, _, _, _, _, rfl, o2⟩ ?_ ?_ ?_
          · rintro i σ Hc hi ⟨RO', p3, p4, p5, p6, p7, rfl, ow⟩
            exact ow.sm.sqL (.inl (.inl hacc0))
          · rintro i x σ Hc hx ⟨RO', p3, p4, p5, p6, p7, rfl, ow⟩
            obtain ⟨ways, ew, dw⟩ := dpAll_map_get' hC0 hx
            obtain ⟨wa, ws, rfl, w1, w2⟩ := dp_lst dw
            have hlw : ws.length = ways.length := by rw [w2.length, List.length_map]
            have h8w := hW8 ways (List.mem_of_getElem? ew)
            obtain ⟨rs, hrs, drs⟩ := ow.head
            have hlr : rs.length = (allSt ((WsOf G).take i)).length := by rw [drs.length, List.length_map]
            have hi3 : i < (WsOf G).length := by
              obtain ⟨h9, _⟩ := List.getElem?_eq_some_iff.mp ew
              exact h9
            have hl512 : (allSt ((WsOf G).take i)).length ≤ 512 := by
              have h1 := allSt_len (m := 8) (by decide) ((WsOf G).take i) (fun u hu => hW8 u (List.mem_of_mem_take hu))
              rw [List.length_take, Nat.min_eq_left (by omega)] at h1
              exact Nat.le_trans h1 (pow_le3 (by omega))
            have hcap : ∀ k : Nat, (stepS ((allSt ((WsOf G).take i)).take k) ways).length ≤ 512 * 8 := fun k => by
              rw [stepS_len]
              refine Nat.mul_le_mul ?_ h8w
              rw [List.length_take]
              omega
            refine ⟨Nat.zero_le _, fun M hM => ?_⟩
            have oM := ow.new (ds := []) hM rfl .nil
            have hrs1 : L2.upd Hc M (.lst []) RO' = some (.lst rs) := (Sm.upd hM).keep _ _ hrs fun _ z => nomatch z
            refine ⟨_, rfl, RO', rfl, ⟨rs, .inl (.inl hrs1)⟩, ?_⟩
            refine for_list (xs := rs) (fun k σ Hd => ∃ M' q3 q4 q7, σ = [some (.ref ga), some (.ref So), some (.ref RO'), q3, q4, some (.ref wa), some (.ref M'), q7] ∧ Own K (L2.upd H1 t0 (.tup [])) Hd [(M', (stepS ((allSt ((WsOf G).take i)).take k) ways).map eS), (RO', (allSt ((WsOf G).take i)).map eS)] ∧ Hd RO' = some (.lst rs)) ⟨M, _, _, _, rfl, oM, hrs1⟩ ?_ ?_ ?_
            · rintro k σ Hd hk ⟨M', q3, q4, q7, rfl, od, hd1⟩
              exact .inl (.inl hd1)
            · rintro k x σ Hd hx ⟨M', q3, q4, q7, rfl, od, hd1⟩
              have dr : DpAll K Hd rs ((allSt ((WsOf G).take i)).map eS) := by
                obtain ⟨ys, e1, e2⟩ := od.swap.head
                rw [show Hd (RO', (allSt ((WsOf G).take i)).map eS).1 = Hd RO' from rfl, hd1] at e1
                cases e1
                exact e2
              obtain ⟨row, erow, drow⟩ := dpAll_map_get' dr hx
              obtain ⟨ra, rw_, rfl, r1, r2⟩ := dp_tup drow
              have hrl : rw_.length ≤ 3 := by
                have h1 := (mem_allSt.mp (List.mem_of_getElem? erow)).1
                have h2 := r2.length
                rw [List.length_map] at h2
                rw [h2, h1, List.length_take]
                omega
              refine ⟨_, rfl, _, rfl, wa, rfl, ⟨ws, od.sm.sqL w1⟩, fun D5 hD5 => ?_⟩
              refine lc_itA walk_list hD5 (by omega) (fun H' s => (od.sm.trans s).sqL w1) (fun j y H => Dp K H y (eS (row ++ [ways.getD j []]))) (fun j y H2 H3 h hl e => okD (to_st _) h hl e) ?_ ?_
              · intro j x H6 H6' Nx hj hsm6 hl6 hy k1
                obtain ⟨rfl, ex⟩ := hy
                obtain ⟨u, eu, du⟩ := dpAll_map_get' ((od.sm.trans hsm6).dpAll _ w2) ex
                have eg : ways.getD j [] = u := by rw [List.getD_eq_getElem?_getD, eu]; rfl
                rw [eg] at k1
                refine ⟨rfl, _, rfl, _, rfl, (by show 1 ≤ sizeLine; decide), fun t ht => ?_⟩
                refine cat_any ((hsm6.trans (Sm.upd ht)).sqT r1) (.inl (.inl upd_same)) (by show rw_.length + 1 ≤ _; omega) fun p H7 s7 q7 => ?_
                refine k1 _ _ ((Sm.upd ht).trans s7) ?_
                unfold eS
                rw [List.map_append]
                exact .tup q7 (((hsm6.trans ((Sm.upd ht).trans s7)).dpAll _ r2).append (.cons (((Sm.upd ht).trans s7).dp _ du) .nil))
              · intro H6 acc6 hsm6 hacc6 hp6
                have hd6 := dpAll_paired (es := fun j => eS (row ++ [ways.getD j []])) hp6
                rw [hlw, map_range ways [] (fun w => eS (row ++ [w]))] at hd6
                have hd6' : DpAll K H6 acc6 ((ways.map fun w => row ++ [w]).map eS) := by
                  rw [List.map_map]
                  exact hd6
                have o6 := od.comp hD5 hsm6 hacc6 hd6' (to_sts _)
                obtain ⟨ms, hms, dms⟩ := (o6.at_ (M', (stepS ((allSt ((WsOf G).take i)).take k) ways).map eS) (by simp)).2.2
                refine ⟨M', D5, ms, acc6, rfl, rfl, hms, hacc6, ?_, fun p hp => ?_⟩
                · rw [dms.length, hd6'.length, List.length_map, List.length_map, List.length_map]
                  have := hcap k
                  omega
                · have oP := o6.new (ds := (stepS ((allSt ((WsOf G).take i)).take (k + 1)) ways).map eS) (xs := ms ++ acc6) hp (to_sts _) (by rw [stepS_succ erow, List.map_append]; exact dms.append hd6')
                  refine ⟨p, _, _, _, rfl, ⟨oP.sm, ?_, fun q hq => oP.at_ q ?_⟩, ?_⟩
                  · have h9 := oP.nd
                    simp only [List.map_cons, List.nodup_cons, List.mem_cons] at h9
                    show ([p, RO'] : List Addr).Nodup
                    simp only [List.nodup_cons, List.mem_cons, List.not_mem_nil, or_false, not_false_eq_true, List.nodup_nil, and_true]
                    exact fun z => h9.1 (.inr (.inr (.inl z)))
                  · rcases List.mem_cons.mp hq with h | h
                    · rw [h]; simp
                    · rw [List.mem_singleton.mp h]; simp
                  · exact (hsm6.trans (Sm.upd hp)).keep _ _ hd1 fun _ z => nomatch z
            · rintro σ Hd ⟨M', q3, q4, q7, rfl, od, hd1⟩
              rw [show (allSt ((WsOf G).take i)).take rs.length = allSt ((WsOf G).take i) from List.take_of_length_le (by omega)] at od
              refine ⟨_, rfl, M', _, _, _, _, _, rfl, ?_⟩
              rw [allSt_succ ew]
              exact od.swap.tail
          · rintro σ Hc ⟨RO', p3, p4, p5, p6, p7, rfl, ow⟩
            rw [show (WsOf G).take acc.length = WsOf G from List.take_of_length_le (by omega)] at ow
            obtain ⟨fs, hfs, dfs⟩ := ow.head
            have hl5 := allSt_512 hok hW8
            have hlf : fs.length = (allSt (WsOf G)).length := by rw [dfs.length, List.length_map]
            refine ⟨_, rfl, RO', fs, rfl, .inl (.inl (.inl hfs)), _, _, rfl, rfl, _, rfl, ?_⟩
            refine ifT (decide_eq_true (by omega)) ?_
            exact ⟨_, rfl, q1 hW8 RO' fs Hc (s0.trans ow.sm) (s0.fr _ ((ow.at_ (RO', _) (List.mem_singleton.mpr rfl)).1)) hfs dfs⟩
end
end Tr

/-! The law. -/
namespace Tr
open PySem PySem.Spec PyProof.Rows L2 GxR Gq
theorem gcd_parts {a t : Int} (t0 : 0 < t) : 0 < gcdI a t ∧ gcdI a t * (a / gcdI a t) = a ∧ gcdI a t * (t / gcdI a t) = t := by
  unfold gcdI
  have h0 : 0 < Nat.gcd a.natAbs t.natAbs := Nat.gcd_pos_of_pos_right _ (by omega)
  refine ⟨by omega, Int.mul_ediv_cancel' (Int.ofNat_dvd_left.mpr (Nat.gcd_dvd_left _ _)), Int.mul_ediv_cancel' (Int.ofNat_dvd_left.mpr (Nat.gcd_dvd_right _ _))⟩
theorem price_law {t a b : Int} (t0 : 0 < t) (h1 : t ≤ a) (h2 : a ≤ b) (h3 : 2 * b ≤ 5 * t) (h4 : 5 * a ≤ 8 * t) :
    ¬ (a / gcdI a t < t / gcdI a t) ∧ ¬ (b / gcdI b t * (t / gcdI a t) < a / gcdI a t * (t / gcdI b t)) ∧ ¬ (5 * (t / gcdI b t) < 2 * (b / gcdI b t)) ∧ ¬ (8 * (t / gcdI a t) < 5 * (a / gcdI a t)) := by
  obtain ⟨g0, ga, gt⟩ := gcd_parts (a := a) t0
  obtain ⟨k0, kb, kt⟩ := gcd_parts (a := b) t0
  generalize gcdI a t = g at *
  generalize gcdI b t = k at *
  generalize a / g = a' at *
  generalize t / g = t' at *
  generalize b / k = b' at *
  generalize t / k = u' at *
  refine ⟨fun z => ?_, fun z => ?_, fun z => ?_, fun z => ?_⟩
  · have := Int.mul_lt_mul_of_pos_left z g0
    omega
  · have h5 := Int.mul_lt_mul_of_pos_left z (Int.mul_pos g0 k0)
    have e1 : g * k * (b' * t') = b * t := by
      rw [← kb]
      conv => rhs; rw [← gt]
      simp only [Int.mul_comm, Int.mul_left_comm, Int.mul_assoc]
    have e2 : g * k * (a' * u') = a * t := by
      rw [← ga]
      conv => rhs; rw [← kt]
      simp only [Int.mul_comm, Int.mul_left_comm, Int.mul_assoc]
    rw [e1, e2] at h5
    have := Int.mul_le_mul_of_nonneg_right h2 (Int.le_of_lt t0)
    omega
  · have h5 := Int.mul_lt_mul_of_pos_left z k0
    rw [Int.mul_left_comm, Int.mul_left_comm k 2, kb, kt] at h5
    omega
  · have h5 := Int.mul_lt_mul_of_pos_left z g0
    rw [Int.mul_left_comm, Int.mul_left_comm g 5, ga, gt] at h5
    omega
theorem div_bnd {a g : Int} (h0 : 0 ≤ a) (h : 0 < g) : 0 ≤ a / g ∧ a / g ≤ a := ⟨Int.ediv_nonneg h0 (Int.le_of_lt h), Int.ediv_le_self _ h0⟩
theorem eRt_one {t : Int} (t0 : 0 < t) : eRt t t = .tuple [.int 1, .int 1] := by
  have e : gcdI t t = t := by
    unfold gcdI
    rw [Nat.gcd_self]
    omega
  unfold eRt
  rw [e, Int.ediv_self (by omega)]
theorem Path.get {C : List (List Int)} {Ws : List (List Way)} {st : Nat × Way} : ∀ {S : List Way} {L : List (Nat × Way)} {k : Nat}, Path C Ws S L → L[k]? = some st → st ∈ stepsOf C Ws (runS S (L.take k))
  | _, [], _, _, e => by simp at e
  | S, s0 :: L, 0, ⟨h1, _⟩, e => by
    have e' : s0 = st := by simpa using e
    rw [← e']
    exact h1
  | S, s0 :: L, k + 1, ⟨_, h2⟩, e => Path.get (k := k) h2 (by simpa using e)
theorem run_succ {S : List Way} {L : List (Nat × Way)} {k : Nat} {st : Nat × Way} (e : L[k]? = some st) : runS S (L.take (k + 1)) = (runS S (L.take k)).set st.1 st.2 := by
  obtain ⟨hj, ej⟩ := List.getElem?_eq_some_iff.mp e
  rw [← List.take_append_getElem hj, ej, run_snoc]
theorem least_uniq {C : List (List Int)} {Ws : List (List Way)} {s t : Int} (h1 : LeastT C Ws s) (h2 : LeastT C Ws t) : s = t := by
  obtain ⟨⟨S, hS, e1⟩, l1⟩ := h1
  obtain ⟨⟨O, hO, e2⟩, l2⟩ := h2
  have a := l1 O hO
  have b := l2 S hS
  omega
theorem net_law {m : Nat} {G : Gm} {Ls : List (Int × Int)} (hok : GOk G) (hm : G.P.length = m) (hc : costsOf G = Ls.map (tableOf m)) (hL : ∀ l ∈ Ls, 0 ≤ l.1 ∧ 0 ≤ l.2) : Net m Ls (WsOf G) := by
  have hl : Ls.length = G.R.length := by
    have h := congrArg List.length hc
    unfold costsOf at h
    rw [List.length_map, List.length_map] at h
    exact h.symm
  refine ⟨by have := hok.p3; omega, hL, by rw [ws_len, hm], fun ways hw w hww => ?_, fun ways hw => ?_⟩
  · unfold WsOf at hw
    obtain ⟨p, hp, rfl⟩ := List.mem_map.mp hw
    have h := ways_ok (hok.net hp) w hww
    exact ⟨h.2.1, fun i hi => by rw [hl, ← ends_len]; exact h.2.2 i hi⟩
  · unfold WsOf at hw
    obtain ⟨p, hp, rfl⟩ := List.mem_map.mp hw
    exact (hok.players p hp).way
section
variable {P : Program} {w : World} {K : PySem.W.Frag} {mg : Str → Option Value} {base : Heap} {tabs : List Addr}
abbrev lawN : List Str := ["_law_script", "_law_row", "_law_many", "_law_game_here", "_law_states_here", "_law_found", "_law_least", "_law_low", "_law_high", "_law_state", "_law_last", "_law_player", "_law_way", "_law_here"]
theorem sc_law : FnScope lawN ["_law_script"] (defScope s_law) := ⟨rfl, rfl, rfl, by decide +kernel, rfl, by decide +kernel, by decide +kernel⟩
def spLaw (K : PySem.W.Frag) (tabs : List Addr) : Sp := fun vs H Q _ => ∃ (a : Addr) (ns : List Int), vs = [.ref a] ∧ SqL K H a (ns.map V.int) ∧ ns.length ≤ 63 ∧ Gd tabs H ∧ ∀ H', Q (.bl true) H'
theorem dp_rt {K : PySem.W.Frag} {H : Hp} {v : V} {a t : Int} (h : Dp K H v (eRt a t)) : ∃ p, v = .ref p ∧ SqT K H p [.int (a / gcdI a t), .int (t / gcdI a t)] := by
  obtain ⟨p, zs, rfl, h1, h2⟩ := dp_tup h
  cases h2 with
  | cons d1 t1 =>
    cases t1 with
    | cons d2 t2 =>
      cases t2
      rw [dp_int d1, dp_int d2] at h1
      exact ⟨p, rfl, h1⟩
theorem to_gm (G : Gm) : tupOnly (eGm G) = true := by
  have h1 : tupOnlyAll (G.R.map eRoad) = true := tupOnlyAll_map fun r _ => to_road r
  have h2 : tupOnlyAll (G.P.map ePl) = true := tupOnlyAll_map fun r _ => to_pl r
  show (tupOnly (.int G.n) && (tupOnly (.tuple (G.R.map eRoad)) && (tupOnly (.tuple (G.P.map ePl)) && true))) = true
  rw [show tupOnly (.tuple (G.R.map eRoad)) = tupOnlyAll (G.R.map eRoad) from rfl, show tupOnly (.tuple (G.P.map ePl)) = tupOnlyAll (G.P.map ePl) from rfl, h1, h2]
  rfl
theorem shaped_sts (l : List (List Way)) : SeqAt.shaped (.tuple (l.map eS)) = true := shaped_of (by rw [PyData.canLay0]; exact lay_maps lay_st) (by
  rw [PyData.depth]
  have := depth_maps (l := l) depth_st
  omega)
theorem law_rest {f c : Addr} {A : Around} {outer : List Env} {s : Shared} {H : Hp} {E : XK} (T : Tx K mg) (hr : Room 6 (A.deeper (envOfC "law" (defScope s_law) s.heap.objs.size f (.ref c))))
    (GK : Prom P w K mg base "_law_pick" ["_law_row", "_law_things"] (spPick K) 2) (GO : Prom P w K mg base "game_potential" ["game", "state"] (spGpot K tabs) 6) (GW : Prom P w K mg base "walk_to_standing" ["game", "state"] (spWalk K tabs) 6) (GZ : Prom P w K mg base "standing_states" ["game"] (spStSts K tabs) 6) (GL : Prom P w K mg base "lowest_state" ["game"] (spBest potOf K tabs) 5) :
    ∃ t, PSs (cxOf CX0 P w K mg base lawN "law" (defScope s_law) f (.ref c) A outer s H E).nox ((defBody s_law).drop 10) t ∧ ∀ (Q : VK) (r ps : Addr) (ns : Sc) (vg : V) (G : Gm) (xs : List V) (o0 o2 o5 o6 o7 o8 o9 o10 o11 o12 o13 : Option V) (Hx : Hp),
      RowSt K Hx r ns → Dp K Hx vg (eGm G) → GOk G → W8 G → Gd tabs Hx → Lowers G → Hx ps = some (.lst xs) → ps ≠ r → DpAll K Hx xs ((allSt (WsOf G)).map eS) → (∀ H', Q (.bl true) H') → t { nx := fun _ H' => Q .non H', rt := Q } [o0, some (.ref r), o2, some vg, some (.ref ps), o5, o6, o7, o8, o9, o10, o11, o12, o13] Hx := by
  have nd := sc_law.nd
  have gk := GK.mono (k := 6) (by decide)
  have gl := GL.mono (k := 6) (by decide)
  have hu65 : (A.deeper (envOfC "law" (defScope s_law) s.heap.objs.size f (.ref c))).units + 65 < cLine := by have := hr.un; omega
  refine ⟨_, (pss_cons (ps_set (i := 9) nd rfl (Or.inl rfl) (pe_prom gk hr (by rfl) (pa_cons (pv 1) (pa_cons (pv 4) pa_nil))))
      (pss_cons (ps_set (i := 10) nd rfl (Or.inl rfl) (pe_prom GO hr (by rfl) (pa_cons (pv 3) (pa_cons (pv 9) pa_nil))))
      (pss_cons (ps_for PassesOwn.never rfl (pi_tup (pe_prom GW hr (by rfl) (pa_cons (pv 3) (pa_cons (pv 9) pa_nil)))) (pg_tup rfl (pgs_cons (pg_name (i := 11) nd rfl (Or.inl rfl)) (pgs_cons (pg_name (i := 12) nd rfl (Or.inl rfl)) pgs_nil)))
        (pss_cons (ps_set (i := 9) nd rfl (Or.inl rfl) (pe_op op_catA (pe_op op_catA (pe_slice sl_tupA (pv 9) po_none (po_some (pv 11))) (pe_tup (pa_cons (pv 12) pa_nil))) (pe_slice sl_tupA (pv 9) (po_some (pe_op op_add (pv 11) pe_int)) po_none)))
        (pss_cons (ps_set (i := 13) nd rfl (Or.inl rfl) (pe_prom GO hr (by rfl) (pa_cons (pv 3) (pa_cons (pv 9) pa_nil))))
        (pss_cons (ps_if (pt_cmpR op_ge (pv 13) (pv 10) (nomark _)) (pss_one (ps_ret pe_bl)) pss_nil)
        (pss_one (ps_set (i := 10) nd rfl (Or.inl rfl) (pv 13)))))))
      (pss_one (ps_ret (pe_and (pe_cmpR (op_inTD hu65) (pv 9) (pe_prom GZ hr (by rfl) (pa_cons (pv 3) pa_nil)) (by rfl)) (pe_one (pe_cmpR op_le (pe_ix ix_tup (pe_prom gl hr (by rfl) (pa_cons (pv 3) pa_nil)) pe_int (fun _ _ => rfl)) (pv 10) (nomark _))))))))), ?_⟩
  intro Q r ps ns vg G xs o0 o2 o5 o6 o7 o8 o9 o10 o11 o12 o13 Hx row hg hok h8 hgd hlow hps hne dxs q
  have hs : sizeLine = 16777216 := by decide
  have hl512 := allSt_512 hok h8
  have hlx : xs.length = (allSt (WsOf G)).length := by rw [dxs.length, List.length_map]
  have hx0 : 0 < xs.length := by
    rw [hlx]
    exact List.length_pos_iff.mpr (some_state hok)
  refine ⟨_, rfl, _, rfl, r, ps, ns, xs, rfl, row, .inl (.inl hps), hne, hx0, by omega, fun j x H1 hx sx row1 => ?_⟩
  obtain ⟨S, eS', dS0⟩ := dpAll_map_get' dxs hx
  have hpk := mem_allSt.mp (List.mem_of_getElem? eS')
  have dS := (row.tk sx).dp _ (to_st S) dS0
  have g1 := (row.tk sx).dp _ (to_gm G) hg
  have gd1 := sx.gd hgd
  refine ⟨_, rfl, _, rfl, vg, x, G, S, rfl, g1, dS, hok, h8, hpk, gd1, fun H2 s2 => ?_⟩
  refine ⟨_, rfl, _, rfl, vg, x, G, S, rfl, s2.dp _ g1, s2.dp _ dS, hok, h8, hpk, s2.gd gd1, hlow, fun v' L H3 s3 hpath hend dv => ?_⟩
  obtain ⟨la, ls, rfl, q1, q2⟩ := dp_tup dv
  have s23 := s2.trans s3
  have hll : ls.length = L.length := by rw [q2.length, List.length_map]
  refine ⟨la, rfl, ⟨ls, q1⟩, ?_⟩
  refine for_tup (xs := ls) (fun k σ Hc => ∃ vst p11 p12 p13, σ = [o0, some (.ref r), o2, some vg, some (.ref ps), o5, o6, o7, o8, some vst, some (.int (potOf (costsOf G) (runS S (L.take k)))), p11, p12, p13] ∧ Sm H3 Hc ∧ Dp K Hc vst (eS (runS S (L.take k))) ∧ Picks (WsOf G) (runS S (L.take k))) ?_ ?_ ?_ ?_
  · exact ⟨x, _, _, _, rfl, Sm.refl H3, s23.dp _ dS, hpk⟩
  · rintro k σ Hc hk ⟨vst, p11, p12, p13, rfl, sc, _⟩
    exact sc.sqT q1
  · rintro k x' σ Hc hx' ⟨vst, p11, p12, p13, rfl, sc, dst, hpkk⟩
    obtain ⟨st, est, dstep⟩ := dpAll_map_get' (sc.dpAll _ q2) hx'
    obtain ⟨p, u⟩ := st
    obtain ⟨ta, y, rfl, st1, st2⟩ := dp_step dstep
    have hmem := hpath.get est
    obtain ⟨ways, hw1, hw2, hw3⟩ := mem_steps.mp hmem
    have hpk2 := picks_set hpkk hw1 hw2
    have hlt := hlow _ hpkk (p, u) hmem
    have erun := run_succ (S := S) est
    have hpl : p < (runS S (L.take k)).length := by
      obtain ⟨h9, _⟩ := List.getElem?_eq_some_iff.mp hw1
      rw [hpkk.1]
      exact h9
    obtain ⟨sa, ss, rfl, g1', g2'⟩ := dp_tup dst
    have hls : ss.length = (runS S (L.take k)).length := by rw [g2'.length, List.length_map]
    have hSl := (stok_of hok hpkk).1.l
    have hb1 : (ss.take p).length ≤ ss.length := by rw [List.length_take]; omega
    have hb2 : (ss.drop (p + 1)).length ≤ ss.length := by rw [List.length_drop]; omega
    refine ⟨ta, _, rfl, st1, rfl, _, _, rfl, _, _, rfl, rfl, ?_⟩
    refine ⟨_, rfl, _, rfl, _, rfl, sl_pre g1' fun p1 H4 s4 q4 => ⟨_, rfl, (by show 1 ≤ sizeLine; decide), fun t ht => ?_⟩⟩
    refine cat_any ((Sm.upd ht).sqT q4) (.inl (.inl upd_same)) (by show (ss.take p).length + 1 ≤ _; omega) fun p2 H5 s5 q5 => ⟨_, rfl, _, rfl, _, _, rfl, rfl, ((p + 1 : Nat) : Int), congrArg V.int (Int.natCast_succ p).symm, ?_⟩
    have s45 := s4.trans ((Sm.upd (o := .tup [y]) ht).trans s5)
    dsimp only [tNoPart]
    refine sl_suf (k := p + 1) (s45.sqT g1') ?_
    intro p3 H6 s6 q6
    refine cat_any (s6.sqT q5) q6 (by rw [List.length_append]; show (ss.take p).length + 1 + (ss.drop (p + 1)).length ≤ _; omega) fun p4 H7 s7 q7 => ?_
    have s47 := s45.trans (s6.trans s7)
    have sC := sc.trans s47
    have dO : Dp K H7 (.ref p4) (eS ((runS S (L.take k)).set p u)) := by
      refine dp_stateSet (s47.dpAll _ g2') (s47.dp _ st2) ?_
      rw [List.append_assoc] at q7
      have e9 : ss.take p ++ ([y] ++ ss.drop (p + 1)) = ss.set p y := set_parts (by omega)
      rw [e9] at q7
      exact q7
    refine ⟨_, rfl, _, rfl, vg, .ref p4, G, _, rfl, (s23.trans sC).dp _ g1, dO, hok, h8, hpk2, (s23.trans sC).gd gd1, fun H8 s8 => ?_⟩
    refine ⟨_, rfl, _, rfl, _, _, rfl, rfl, _, rfl, ?_⟩
    refine ifF (by rw [decide_eq_false (Int.not_le.mpr hlt)]; decide) ?_
    refine ⟨_, rfl, .ref p4, some (.int (p : Int)), some y, some (.int (potOf (costsOf G) ((runS S (L.take k)).set p u))), ?_, sC.trans s8, ?_, ?_⟩
    · rw [erun]
      rfl
    · rw [erun]
      exact s8.dp _ dO
    · rw [erun]
      exact hpk2
  · rintro σ Hc ⟨vst, p11, p12, p13, rfl, sc, dst, hpkk⟩
    rw [show L.take ls.length = L from List.take_of_length_le (by omega)] at dst hpkk ⊢
    have sD := s23.trans sc
    refine ⟨_, rfl, _, rfl, vg, G, rfl, sD.dp _ g1, hok, h8, sD.gd gd1, fun vz H4 s4 dz => ?_⟩
    refine ⟨eS (runS S L), (standing (costsOf G) (WsOf G)).map eS, s4.dp _ dst, dz, shaped_st _, shaped_sts _, true, ?_, ifT rfl ?_⟩
    · exact congrArg V.bl (eqv_any (mem_standing.mpr ⟨hpkk, hend⟩) (lay_st _))
    · have sE := sD.trans s4
      refine ⟨_, rfl, vg, G, rfl, sE.dp _ g1, hok, h8, sE.gd gd1, fun vb S2 H5 s5 hpk2 hmin dvb => ?_⟩
      obtain ⟨ba, bs, rfl, b1, b2⟩ := dp_tup dvb
      cases b2 with
      | cons d1 t1 =>
        rw [dp_int d1] at b1
        refine ⟨_, _, _, _, rfl, rfl, b1, atI_nat (j := 0) rfl, _, rfl, _, _, rfl, rfl, ?_⟩
        have e := decide_eq_true (hmin _ hpkk)
        show Q (V.bl (decide (potOf (costsOf G) S2 ≤ potOf (costsOf G) (runS S L)))) H5
        rw [e]
        exact q H5
theorem ok_law {f c : Addr} (F : Fx K mg "law" s_law f c) (T : Tx K mg)
    (GT : Prom P w K mg base "_law_taken" ["_law_row", "_law_many"] (spTaken K) 1) (GG : Prom P w K mg base "_law_game" ["_law_row", "_law_many", "_law_length", "_law_is_straight"] (spLgame K) 4) (GS : Prom P w K mg base "_law_states" ["_law_game_here"] (spLst K) 2)
    (GP : Prom P w K mg base "standing_prices" ["game"] (spPrices K tabs) 6) (GB : Prom P w K mg base "best_state" ["game"] (spBest totalOf K tabs) 5) (GK : Prom P w K mg base "_law_pick" ["_law_row", "_law_things"] (spPick K) 2)
    (GO : Prom P w K mg base "game_potential" ["game", "state"] (spGpot K tabs) 6) (GW : Prom P w K mg base "walk_to_standing" ["game", "state"] (spWalk K tabs) 6) (GZ : Prom P w K mg base "standing_states" ["game"] (spStSts K tabs) 6) (GL : Prom P w K mg base "lowest_state" ["game"] (spBest potOf K tabs) 5) :
    Prom P w K mg base "law" ["_law_script"] (spLaw K tabs) 7 := by
  refine F.prom sc_law (fun vs H Q E h => ?_) (fun _ _ _ _ _ _ us hl => match us, hl with | [_], _ => rfl) (fun A outer s H vs Q E hr h => ?_)
  · obtain ⟨_, _, rfl, _⟩ := h
    rfl
  · obtain ⟨a0, l0, rfl, hscr, hlen, hgd, q⟩ := h
    have nd := sc_law.nd
    have gt := GT.mono (k := 6) (by decide)
    have gg := GG.mono (k := 6) (by decide)
    have gs := GS.mono (k := 6) (by decide)
    have gb := GB.mono (k := 6) (by decide)
    have gk := GK.mono (k := 6) (by decide)
    have gl := GL.mono (k := 6) (by decide)
    have hu64 : (A.deeper (envOfC "law" (defScope s_law) s.heap.objs.size f (.ref c))).units + 64 < cLine := by have := hr.un; omega
    have hu65 : (A.deeper (envOfC "law" (defScope s_law) s.heap.objs.size f (.ref c))).units + 65 < cLine := by have := hr.un; omega
    obtain ⟨tR, hR1, hR2⟩ := law_rest (P := P) (w := w) (K := K) (mg := mg) (base := base) (tabs := tabs) (f := f) (c := c) (A := A) (outer := outer) (s := s) (H := H) (E := E) T hr GK GO GW GZ GL
    refine ⟨_, pss_cons (ps_set (i := 1) nd rfl (Or.inl rfl) (pe_lst (pa_cons (pv 0) (pa_cons pe_int (pa_cons pe_int (pa_cons pe_int pa_nil))))))
      (pss_cons (ps_set (i := 2) nd rfl (Or.inl rfl) (pe_op op_add pe_int (pe_prom gt hr (by rfl) (pa_cons (pv 1) (pa_cons pe_int pa_nil)))))
      (pss_cons (ps_set (i := 3) nd rfl (Or.inl rfl) (pe_prom gg hr (by rfl) (pa_cons (pv 1) (pa_cons (pv 2) (pa_cons (pv 2) (pa_cons pe_bl pa_nil))))))
      (pss_cons (ps_set (i := 4) nd rfl (Or.inl rfl) (pe_prom gs hr (by rfl) (pa_cons (pv 3) pa_nil)))
      (pss_cons (ps_if (pt_cmp (pc_isN (pv 4))) (pss_one (ps_ret pe_bl)) pss_nil)
      (pss_cons (ps_par (i := 5) (j := 6) rfl nd rfl rfl (by decide) rfl rfl (pa_cons (pe_prom GP hr (by rfl) (pa_cons (pv 3) pa_nil)) (pa_cons (pe_ix ix_tup (pe_prom gb hr (by rfl) (pa_cons (pv 3) pa_nil)) pe_int (fun _ _ => rfl)) pa_nil)) (by rfl))
      (pss_cons (ps_if (pt_cmp (pc_isN (pv 5))) (pss_one (ps_ret (pe_cmpR op_eq (pv 6) pe_int (nomark _)))) pss_nil)
      (pss_cons (ps_asg (pv 5) (pg_tup rfl (pgs_cons (pg_name (i := 7) nd rfl (Or.inl rfl)) (pgs_cons (pg_name (i := 8) nd rfl (Or.inl rfl)) pgs_nil))))
      (pss_cons (ps_if (pw_or (pt_cmpR op_lt (pe_ix ix_tup (pv 7) pe_int (fun _ _ => rfl)) (pe_ix ix_tup (pv 7) pe_int (fun _ _ => rfl)) (nomark _))
        (pw_or (pt_cmpR op_lt (pe_op op_mul (pe_ix ix_tup (pv 8) pe_int (fun _ _ => rfl)) (pe_ix ix_tup (pv 7) pe_int (fun _ _ => rfl))) (pe_op op_mul (pe_ix ix_tup (pv 7) pe_int (fun _ _ => rfl)) (pe_ix ix_tup (pv 8) pe_int (fun _ _ => rfl))) (by rfl))
        (pw_or (pt_cmpR op_gt (pe_op op_mul pe_int (pe_ix ix_tup (pv 8) pe_int (fun _ _ => rfl))) (pe_op op_mul pe_int (pe_ix ix_tup (pv 8) pe_int (fun _ _ => rfl))) (by rfl))
        (pw_or1 (pt_cmpR op_gt (pe_op op_mul pe_int (pe_ix ix_tup (pv 7) pe_int (fun _ _ => rfl))) (pe_op op_mul pe_int (pe_ix ix_tup (pv 7) pe_int (fun _ _ => rfl))) (by rfl)))))).pt (pss_one (ps_ret pe_bl)) pss_nil)
      (pss_cons (ps_if (pw_and (pt_cmpR op_eq (pv 2) pe_int (nomark _)) (pw_and1 (pt_cmpR (op_neD hu64) (pe_tup (pa_cons (pv 7) (pa_cons (pv 8) pa_nil))) (pe_tup (pa_cons (pe_tup (pa_cons pe_int (pa_cons pe_int pa_nil))) (pa_cons (pe_tup (pa_cons pe_int (pa_cons pe_int pa_nil))) pa_nil))) (by rfl)))).pt (pss_one (ps_ret pe_bl)) pss_nil)
      hR1))))))))), ?_⟩
    have hs : sizeLine = 16777216 := by decide
    have two : (2 : Nat) ≤ sizeLine := by decide
    refine ⟨_, rfl, (by show 4 ≤ sizeLine; decide), fun r hr0 => ?_⟩
    have s1 := Sm.upd (o := .lst [.ref a0, .int 0, .int 4225, .int 0]) hr0
    have hne : a0 ≠ r ∨ ∀ H', SqL K H' a0 (l0.map V.int) := by
      rcases hscr with (h | ⟨u, h⟩) | h
      · exact .inl fun z => by rw [z, hr0] at h; cases h
      · exact .inl fun z => by rw [z, hr0] at h; cases h
      · exact .inr fun _ => .inr h
    have row1 : RowSt K (L2.upd H r (.lst [.ref a0, .int 0, .int 4225, .int 0])) r ⟨a0, l0⟩ := ⟨0, 4225, 0, upd_same, s1.sqL hscr, hne, Int.le_refl _, by decide, by decide, hlen⟩
    refine ⟨_, rfl, r, ⟨a0, l0⟩, 3, rfl, row1, by decide, by decide, fun z0 H2 hz0 hz1 sx2 row2 => ⟨_, _, rfl, rfl, ?_⟩⟩
    obtain ⟨m, em, hm1, hm3⟩ : ∃ m : Nat, 1 + z0 = (m : Int) ∧ 1 ≤ m ∧ m ≤ 3 := ⟨(1 + z0).toNat, by omega, by omega, by omega⟩
    have em' : (fun i j : Int => V.int (i + j)) 1 z0 = V.int (m : Int) := congrArg V.int em
    rw [em']
    refine ⟨_, rfl, _, rfl, _, rfl, r, ⟨a0, l0⟩, m, rfl, row2, hm1, hm3, fun vg G H3 sx3 row3 hok hPm hstr hg => ?_⟩
    obtain ⟨Ls, hcL, hLs⟩ := hstr
    have N := net_law hok hPm hcL hLs
    have gd3 : Gd tabs H3 := sx3.gd (sx2.gd (s1.gd hgd))
    have hstand : standing (costsOf G) (WsOf G) ≠ [] := by rw [hcL]; exact N.standing_ne
    have hlow : Lowers G := fun S hS st hst => by
      obtain ⟨p, u⟩ := st
      rw [hcL] at hst ⊢
      exact (N.lower hS hst).2
    refine ⟨_, rfl, vg, G, rfl, hg, hok, fun H4 s4 => ?_, fun h8 ps xs H4 s4 hps hxs dxs => ?_⟩
    · exact ⟨_, rfl, true, rfl, ifT rfl (q H4)⟩
    · refine ⟨_, rfl, false, rfl, ?_⟩
      refine ifF (by decide) ?_
      have g4 := s4.dp _ hg
      have gd4 := s4.gd gd3
      have row4 := row3.sm s4
      have hl512 := allSt_512 hok h8
      have hlx : xs.length = (allSt (WsOf G)).length := by rw [dxs.length, List.length_map]
      have hx0 : 0 < xs.length := by
        rw [hlx]
        exact List.length_pos_iff.mpr (some_state hok)
      refine ⟨_, rfl, vg, G, rfl, g4, hok, h8, gd4, hstand, fun H5 s5 hT0 => ?_, fun t a b v H5 s5 t0 hT hA hB dv => ?_⟩
      · refine ⟨_, rfl, vg, G, rfl, s5.dp _ g4, hok, h8, s5.gd gd4, fun vb S0 H6 s6 hpk hmin dvb => ?_⟩
        obtain ⟨ba, bs, rfl, b1, b2⟩ := dp_tup dvb
        cases b2 with
        | cons d1 t1 =>
          rw [dp_int d1] at b1
          have e0 : totalOf (costsOf G) S0 = 0 := least_uniq ⟨⟨S0, hpk, rfl⟩, hmin⟩ hT0
          refine ⟨_, _, _, _, rfl, rfl, b1, atI_nat (j := 0) rfl, _, _, rfl, ?_⟩
          refine ⟨_, rfl, true, rfl, ifT rfl ?_⟩
          refine ⟨_, rfl, rfl, ?_⟩
          rw [e0]
          exact q H6
      · refine ⟨_, rfl, vg, G, rfl, s5.dp _ g4, hok, h8, s5.gd gd4, fun vb S0 H6 s6 hpk hmin dvb => ?_⟩
        obtain ⟨ba, bs, rfl, b1, b2⟩ := dp_tup dvb
        cases b2 with
        | cons d1 t1 =>
          rw [dp_int d1] at b1
          refine ⟨_, _, _, _, rfl, rfl, b1, atI_nat (j := 0) rfl, _, _, rfl, ?_⟩
          obtain ⟨va, vs_, rfl, v1, v2⟩ := dp_tup dv
          cases v2 with
          | cons dl t2 =>
            cases t2 with
            | cons dh t3 =>
              cases t3
              obtain ⟨pl, rfl, ql⟩ := dp_rt (s6.dp _ dl)
              obtain ⟨ph, rfl, qh⟩ := dp_rt (s6.dp _ dh)
              refine ⟨_, rfl, false, rfl, ifF (by decide) ?_⟩
              refine ⟨_, rfl, va, _, rfl, s6.sqT v1, rfl, _, _, rfl, _, _, rfl, rfl, ?_⟩
              have hpr := N.prices (t := t) (a := a) (b := b) (by rw [← hcL]; exact hT) (by rw [← hcL]; exact hA) (by rw [← hcL]; exact hB)
              obtain ⟨c1, c2, c3, c4, c5⟩ := hpr
              obtain ⟨k1, k2, k3, k4⟩ := price_law t0 c1 c2 c3 c4
              have tb : t ≤ 10000000 := by
                have e1 := least_uniq hT ⟨⟨S0, hpk, rfl⟩, hmin⟩
                have := (total_bnd (stok_of hok hpk).1).2
                omega
              have hg1 := (gcd_parts (a := a) t0).1
              have hg2 := (gcd_parts (a := b) t0).1
              have d1 := div_bnd (a := a) (by omega) hg1
              have d2 := div_bnd (a := t) (by omega) hg1
              have d3 := div_bnd (a := b) (by omega) hg2
              have d4 := div_bnd (a := t) (by omega) hg2
              refine ⟨_, rfl, _, _, _, _, rfl, rfl, ql, atI_nat (j := 0) rfl, _, rfl, _, _, _, _, rfl, rfl, ql, atI_nat (j := 1) rfl, _, _, rfl, rfl, _, rfl, ?_⟩
              refine ifF (by rw [decide_eq_false k1]; decide) ?_
              refine ⟨_, rfl, _, _, _, _, rfl, rfl, qh, atI_nat (j := 0) rfl, _, rfl, _, _, _, _, rfl, rfl, ql, atI_nat (j := 1) rfl, _, _, rfl, rfl, .inl ⟨by omega, by omega⟩, _, rfl, _, _, _, _, rfl, rfl, ql, atI_nat (j := 0) rfl, _, rfl, _, _, _, _, rfl, rfl, qh, atI_nat (j := 1) rfl, _, _, rfl, rfl, .inl ⟨by omega, by omega⟩, _, _, rfl, rfl, _, rfl, ?_⟩
              refine ifF (by rw [decide_eq_false k2]; decide) ?_
              refine ⟨_, rfl, _, _, _, _, rfl, rfl, qh, atI_nat (j := 0) rfl, _, _, rfl, rfl, .inl ⟨by omega, by omega⟩, _, rfl, _, _, _, _, rfl, rfl, qh, atI_nat (j := 1) rfl, _, _, rfl, rfl, .inl ⟨by omega, by omega⟩, _, _, rfl, rfl, _, rfl, ?_⟩
              refine ifF (by rw [decide_eq_false k3]; decide) ?_
              refine ⟨_, rfl, _, _, _, _, rfl, rfl, ql, atI_nat (j := 0) rfl, _, _, rfl, rfl, .inl ⟨by omega, by omega⟩, _, rfl, _, _, _, _, rfl, rfl, ql, atI_nat (j := 1) rfl, _, _, rfl, rfl, .inl ⟨by omega, by omega⟩, _, _, rfl, rfl, _, rfl, ?_⟩
              refine ifF (by rw [decide_eq_false k4]; decide) ?_
              have s46 := s5.trans s6
              have hpsr : ps ≠ r := fun z => by
                obtain ⟨ys, e⟩ := row3.there
                rw [← z, hps] at e
                cases e
              have fin : ∀ Hx, Sm H6 Hx → ∀ o0 o2 o5 o6 o7 o8 o9 o10 o11 o12 o13, tR { nx := fun _ H' => Q .non H', rt := Q } [o0, some (.ref r), o2, some vg, some (.ref ps), o5, o6, o7, o8, o9, o10, o11, o12, o13] Hx := fun Hx sx o0 o2 o5 o6 o7 o8 o9 o10 o11 o12 o13 =>
                hR2 Q r ps ⟨a0, l0⟩ vg G xs o0 o2 o5 o6 o7 o8 o9 o10 o11 o12 o13 Hx (row4.sm (s46.trans sx)) ((s46.trans sx).dp _ g4) hok h8 ((s46.trans sx).gd gd4) hlow ((s46.trans sx).keep _ _ hxs fun _ z => nomatch z) hpsr ((s46.trans sx).dpAll _ dxs) q
              refine ⟨_, rfl, rfl, _, rfl, ?_⟩
              by_cases hm : m = 1
              · refine ifT (by rw [hm]; decide) ?_
                obtain ⟨ea, eb⟩ := c5 hm
                refine ⟨_, rfl, _, rfl, two, fun t1' h1' => ⟨two, fun t2' h2' => ⟨two, fun t3' h3' => ⟨two, fun t4' h4' => ?_⟩⟩⟩⟩
                have z1 := Sm.upd (o := .tup [V.ref pl, .ref ph]) h1'
                have z2 := Sm.upd (o := .tup [V.int 1, .int 1]) h2'
                have z3 := Sm.upd (o := .tup [V.int 1, .int 1]) h3'
                have z4 := Sm.upd (o := .tup [V.ref t2', .ref t3']) h4'
                have z14 := z1.trans (z2.trans (z3.trans z4))
                refine ⟨.tuple [eRt a t, eRt b t], .tuple [.tuple [.int 1, .int 1], .tuple [.int 1, .int 1]], .tup ((z2.trans (z3.trans z4)).sqT (.inl (.inl upd_same))) (.cons (z14.dp _ (s6.dp _ dl)) (.cons (z14.dp _ (s6.dp _ dh)) .nil)),
                  .tup (.inl (.inl upd_same)) (.cons (.tup ((z3.trans z4).sqT (.inl (.inl upd_same))) (.cons (.int _) (.cons (.int _) .nil))) (.cons (.tup (z4.sqT (.inl (.inl upd_same))) (.cons (.int _) (.cons (.int _) .nil))) .nil)), ?_, by decide, false, ?_, ?_⟩
                · rw [ea, eb, eRt_one t0]; decide
                · rw [ea, eb, eRt_one t0]; decide
                · exact ifF (by decide) (fin _ z14 _ _ _ _ _ _ _ _ _ _ _)
              · refine ifF (by simp; omega) ?_
                exact ifF (by decide) (fin _ (Sm.refl _) _ _ _ _ _ _ _ _ _ _ _)
end
end Tr

namespace Tr
open PySem PySem.Spec PyProof.Rows L2
def d_is_in : He.DefD := ⟨("is_in", none), "is_in", "is_in", defArgs s_is_in, defBody s_is_in, defScope s_is_in, [], []⟩
def d_all_ways : He.DefD := ⟨("all_ways", none), "all_ways", "all_ways", defArgs s_all_ways, defBody s_all_ways, defScope s_all_ways, [], []⟩
def d_is_table : He.DefD := ⟨("is_table", none), "is_table", "is_table", defArgs s_is_table, defBody s_is_table, defScope s_is_table, [], []⟩
def d_is_game_road : He.DefD := ⟨("is_game_road", none), "is_game_road", "is_game_road", defArgs s_is_game_road, defBody s_is_game_road, defScope s_is_game_road, [], []⟩
def d_net_of : He.DefD := ⟨("net_of", none), "net_of", "net_of", defArgs s_net_of, defBody s_net_of, defScope s_net_of, [], []⟩
def d_is_player : He.DefD := ⟨("is_player", none), "is_player", "is_player", defArgs s_is_player, defBody s_is_player, defScope s_is_player, [], []⟩
def d_need_game : He.DefD := ⟨("need_game", none), "need_game", "need_game", defArgs s_need_game, defBody s_need_game, defScope s_need_game, [], []⟩
def d_choices_of : He.DefD := ⟨("choices_of", none), "choices_of", "choices_of", defArgs s_choices_of, defBody s_choices_of, defScope s_choices_of, [], []⟩
def d_is_state : He.DefD := ⟨("is_state", none), "is_state", "is_state", defArgs s_is_state, defBody s_is_state, defScope s_is_state, [], []⟩
def d_need_state : He.DefD := ⟨("need_state", none), "need_state", "need_state", defArgs s_need_state, defBody s_need_state, defScope s_need_state, [], []⟩
def d_loads_of : He.DefD := ⟨("loads_of", none), "loads_of", "loads_of", defArgs s_loads_of, defBody s_loads_of, defScope s_loads_of, [], []⟩
def d_time_in : He.DefD := ⟨("time_in", none), "time_in", "time_in", defArgs s_time_in, defBody s_time_in, defScope s_time_in, [], []⟩
def d_ones : He.DefD := ⟨("ones", none), "ones", "ones", defArgs s_ones, defBody s_ones, defScope s_ones, [], []⟩
def d_times_in : He.DefD := ⟨("times_in", none), "times_in", "times_in", defArgs s_times_in, defBody s_times_in, defScope s_times_in, [], []⟩
def d_potential_in : He.DefD := ⟨("potential_in", none), "potential_in", "potential_in", defArgs s_potential_in, defBody s_potential_in, defScope s_potential_in, [], []⟩
def d_game_potential : He.DefD := ⟨("game_potential", none), "game_potential", "game_potential", defArgs s_game_potential, defBody s_game_potential, defScope s_game_potential, [], []⟩
def d_ratio : He.DefD := ⟨("ratio", none), "ratio", "ratio", defArgs s_ratio, defBody s_ratio, defScope s_ratio, [], []⟩
def d_steps_in : He.DefD := ⟨("steps_in", none), "steps_in", "steps_in", defArgs s_steps_in, defBody s_steps_in, defScope s_steps_in, [], []⟩
def d_all_states : He.DefD := ⟨("all_states", none), "all_states", "all_states", defArgs s_all_states, defBody s_all_states, defScope s_all_states, [], []⟩
def d_standing_of : He.DefD := ⟨("standing_of", none), "standing_of", "standing_of", defArgs s_standing_of, defBody s_standing_of, defScope s_standing_of, [], []⟩
def d_standing_states : He.DefD := ⟨("standing_states", none), "standing_states", "standing_states", defArgs s_standing_states, defBody s_standing_states, defScope s_standing_states, [], []⟩
def d_walk_to_standing : He.DefD := ⟨("walk_to_standing", none), "walk_to_standing", "walk_to_standing", defArgs s_walk_to_standing, defBody s_walk_to_standing, defScope s_walk_to_standing, [], []⟩
def d_best_state : He.DefD := ⟨("best_state", none), "best_state", "best_state", defArgs s_best_state, defBody s_best_state, defScope s_best_state, [], []⟩
def d_lowest_state : He.DefD := ⟨("lowest_state", none), "lowest_state", "lowest_state", defArgs s_lowest_state, defBody s_lowest_state, defScope s_lowest_state, [], []⟩
def d_standing_prices : He.DefD := ⟨("standing_prices", none), "standing_prices", "standing_prices", defArgs s_standing_prices, defBody s_standing_prices, defScope s_standing_prices, [], []⟩
def d_law_taken : He.DefD := ⟨("_law_taken", none), "_law_taken", "_law_taken", defArgs s_law_taken, defBody s_law_taken, defScope s_law_taken, [], []⟩
def d_law_pick : He.DefD := ⟨("_law_pick", none), "_law_pick", "_law_pick", defArgs s_law_pick, defBody s_law_pick, defScope s_law_pick, [], []⟩
def d_law_game_ways : He.DefD := ⟨("_law_game_ways", none), "_law_game_ways", "_law_game_ways", defArgs s_law_game_ways, defBody s_law_game_ways, defScope s_law_game_ways, [], []⟩
def d_law_table : He.DefD := ⟨("_law_table", none), "_law_table", "_law_table", defArgs s_law_table, defBody s_law_table, defScope s_law_table, [], []⟩
def d_law_game : He.DefD := ⟨("_law_game", none), "_law_game", "_law_game", defArgs s_law_game, defBody s_law_game, defScope s_law_game, [], []⟩
def d_law_states : He.DefD := ⟨("_law_states", none), "_law_states", "_law_states", defArgs s_law_states, defBody s_law_states, defScope s_law_states, [], []⟩
def d_law : He.DefD := ⟨("law", none), "law", "law", defArgs s_law, defBody s_law, defScope s_law, [], []⟩
def hFn : List He.DefD := [d_is_in, d_all_ways, d_is_table, d_is_game_road, d_net_of, d_is_player, d_need_game, d_choices_of, d_is_state, d_need_state, d_loads_of, d_time_in, d_ones, d_times_in, d_potential_in, d_game_potential, d_ratio, d_steps_in, d_all_states, d_standing_of, d_standing_states, d_walk_to_standing, d_best_state, d_lowest_state, d_standing_prices, d_law_taken, d_law_pick, d_law_game_ways, d_law_table, d_law_game, d_law_states, d_law]
def hFa1 : List He.Fa := [.glo "is_in", .glo "all_ways", .glo "is_table", .glo "is_game_road", .glo "net_of", .glo "is_player", .glo "need_game", .glo "choices_of", .glo "is_state", .glo "need_state", .glo "loads_of", .glo "time_in", .glo "ones", .glo "times_in", .glo "potential_in", .glo "game_potential", .glo "ratio", .glo "steps_in", .glo "all_states", .glo "standing_of", .glo "standing_states", .glo "walk_to_standing", .glo "best_state", .glo "lowest_state", .glo "standing_prices", .glo "_law_taken", .glo "_law_pick", .glo "_law_game_ways", .glo "_law_table", .glo "_law_game"]
def hFa2 : List He.Fa := [.glo "_law_states", .glo "law", .free "int", .free "len", .free "isinstance", .free "bool", .free "tuple", .free "sum", .free "all", .free "any", .free "min", .free "max", .free "sorted", .free "range", .free "zip", .free "enumerate", .int "MOST_NODES" 6, .int "MOST_ROADS" 8, .int "MOST_PLAYERS" 4, .int "MOST_COST" 1000, .int "MOST_CHOICES" 8, .int "MOST_STATES" 1000]
def hFa : List He.Fa := hFa1 ++ hFa2
def hTf : List He.Defn := [("is_table", none), ("is_game_road", none), ("is_player", none), ("choices_of", none), ("is_state", none), ("loads_of", none), ("time_in", none), ("potential_in", none)]
def hEx (K : PySem.W.Frag) : Bool := He.eqO (PySem.W.nsIn K mainGlobals "gcd") (some (some (.builtin "math.gcd")))
abbrev hR : PySem.W.OpenRow := PySem.W.OpenLaw.row PySem.Challenge.rw_tollroads_k25_across_prices_of_standing
abbrev hHk : PySem.W.Hook := He.hookX 4 hFa hFn [] hTf hEx
def hOb (s : PySem.W.SharedT) : He.AlX := He.obsX 4 hFa hFn [] hTf hEx (HandSHeadRun.getT s)
theorem hOb_eq (s : PySem.W.SharedT) : hOb s = hHk.obs s.abs := He.obsX_eq (HandSHeadRun.getT_eq s)
def hL1 : List PySem.Str := ["__name__", "RoadError", "BadGame", "BadState", "TooMany", "MOST_NODES", "is_in", "all_ways", "MOST_ROADS", "MOST_PLAYERS", "MOST_COST", "MOST_CHOICES", "MOST_STATES", "is_table", "is_game_road", "net_of", "is_player", "need_game", "choices_of", "is_state", "need_state", "loads_of", "time_in", "ones"]
def hL2 : List PySem.Str := ["times_in", "potential_in", "game_potential", "ratio", "steps_in", "all_states", "standing_of", "standing_states", "walk_to_standing", "best_state", "lowest_state", "standing_prices", "_law_taken", "_law_pick", "_law_alike", "_law_game_ways", "_law_table", "_law_game", "_law_states", "_law_player_time", "_law_steps", "_law_whole", "_law_height"]
def hLoose : List PySem.Str := hL1 ++ hL2
theorem hRun (w : World) : HandSHeadRun.RunEqI hR (PySem.W.view hR.prog [0, 53]) hHk hOb 3000 hLoose w := by
  show (HandSHeadRun.wholeF _ _ _ _).map _ = _
  kernel_rfl
end Tr

/-! The end. -/
namespace Tr
open PySem PySem.Spec PyProof.Rows L2 GxR Gq
section
variable {w : World} {K : PySem.W.Frag} {h : Heap} {mg : Str → Option Value}
theorem fx_of (X : K.In h) (G : h.Ns mainGlobals mg) (c : He.SaysD hFa hFn K) (i : Nat) {x : Str} {st : Stmt} (hd : hFn[i]? = some ⟨(x, none), x, x, defArgs st, defBody st, defScope st, [], []⟩) (hg : hFa[i]? = some (.glo x)) : Fx K mg x st (He.fAd K (x, none)) (He.codeOf K (x, none)) := by
  obtain ⟨fd, FD⟩ := c.def_ i hd
  obtain ⟨oc, od, dV, kV, doc, pm, an, cdv, ct, osl, rfl, lk, hcd, hD, hK⟩ := FD.ex
  obtain ⟨cc, rfl⟩ := He.codeIn_ref hcd
  have e : He.codeOf K (x, none) = cc := He.codeOf_eq lk rfl
  have ed : dV = .none := by
    rcases hD with ⟨_, z⟩ | ⟨z, _⟩
    · exact z
    · exact absurd rfl z
  subst ed
  rw [e]
  exact ⟨⟨oc, od, kV, doc, pm, an, ct, osl, lk⟩, hcd, FD.kp, He.glo_ok X G (c.fact i hg)⟩
theorem tx_of (X : K.In h) (G : h.Ns mainGlobals mg) (c : He.SaysD hFa hFn K) (hx : hEx K = true) : Tx K mg where
  int := He.free_ok X G (c.fact 32 (f := .free "int") rfl)
  len := He.free_ok X G (c.fact 33 (f := .free "len") rfl)
  isi := He.free_ok X G (c.fact 34 (f := .free "isinstance") rfl)
  bool := He.free_ok X G (c.fact 35 (f := .free "bool") rfl)
  tuple := He.free_ok X G (c.fact 36 (f := .free "tuple") rfl)
  sum := He.free_ok X G (c.fact 37 (f := .free "sum") rfl)
  all := He.free_ok X G (c.fact 38 (f := .free "all") rfl)
  any := He.free_ok X G (c.fact 39 (f := .free "any") rfl)
  min := He.free_ok X G (c.fact 40 (f := .free "min") rfl)
  max := He.free_ok X G (c.fact 41 (f := .free "max") rfl)
  sorted := He.free_ok X G (c.fact 42 (f := .free "sorted") rfl)
  range := He.free_ok X G (c.fact 43 (f := .free "range") rfl)
  zip := He.free_ok X G (c.fact 44 (f := .free "zip") rfl)
  enum := He.free_ok X G (c.fact 45 (f := .free "enumerate") rfl)
  nodes := He.int_ok X G (c.fact 46 (f := .int "MOST_NODES" 6) rfl)
  roads := He.int_ok X G (c.fact 47 (f := .int "MOST_ROADS" 8) rfl)
  players := He.int_ok X G (c.fact 48 (f := .int "MOST_PLAYERS" 4) rfl)
  cost := He.int_ok X G (c.fact 49 (f := .int "MOST_COST" 1000) rfl)
  choices := He.int_ok X G (c.fact 50 (f := .int "MOST_CHOICES" 8) rfl)
  states := He.int_ok X G (c.fact 51 (f := .int "MOST_STATES" 1000) rfl)
  gcd := PySem.W.mg_of X G (He.eqO_ok hx)
abbrev tabsOf (K : PySem.W.Frag) : List Addr := (hTf.map (He.cT K)).map (·.2)
theorem law_prom {P : Program} {base : Heap} (X : K.In h) (G : h.Ns mainGlobals mg) (c : He.SaysD hFa hFn K) (hx : hEx K = true) (TB : ∀ p ∈ hTf.map (He.cT K), TabB base mg p.1 p.2) : Prom P w K mg base "law" ["_law_script"] (spLaw K (tabsOf K)) 7 := by
  have T := tx_of X G c hx
  have tb : ∀ x : Str, (x, none) ∈ hTf → TabB base mg (He.codeOf K (x, none)) (He.tabOf K (He.codeOf K (x, none))) ∧ He.tabOf K (He.codeOf K (x, none)) ∈ tabsOf K := fun x hx => ⟨TB _ (List.mem_map_of_mem (f := He.cT K) hx), List.mem_map_of_mem (f := fun p : Addr × Addr => p.2) (List.mem_map_of_mem (f := He.cT K) hx)⟩
  have m0 := tb "is_table" (List.mem_of_getElem? (i := 0) rfl)
  have m1 := tb "is_game_road" (List.mem_of_getElem? (i := 1) rfl)
  have m2 := tb "is_player" (List.mem_of_getElem? (i := 2) rfl)
  have m3 := tb "choices_of" (List.mem_of_getElem? (i := 3) rfl)
  have m4 := tb "is_state" (List.mem_of_getElem? (i := 4) rfl)
  have m5 := tb "loads_of" (List.mem_of_getElem? (i := 5) rfl)
  have m6 := tb "time_in" (List.mem_of_getElem? (i := 6) rfl)
  have m7 := tb "potential_in" (List.mem_of_getElem? (i := 7) rfl)
  have f0 := fx_of X G c 0 (x := "is_in") (st := s_is_in) rfl rfl
  have f1 := fx_of X G c 1 (x := "all_ways") (st := s_all_ways) rfl rfl
  have f2 := fx_of X G c 2 (x := "is_table") (st := s_is_table) rfl rfl
  have f3 := fx_of X G c 3 (x := "is_game_road") (st := s_is_game_road) rfl rfl
  have f4 := fx_of X G c 4 (x := "net_of") (st := s_net_of) rfl rfl
  have f5 := fx_of X G c 5 (x := "is_player") (st := s_is_player) rfl rfl
  have f6 := fx_of X G c 6 (x := "need_game") (st := s_need_game) rfl rfl
  have f7 := fx_of X G c 7 (x := "choices_of") (st := s_choices_of) rfl rfl
  have f8 := fx_of X G c 8 (x := "is_state") (st := s_is_state) rfl rfl
  have f9 := fx_of X G c 9 (x := "need_state") (st := s_need_state) rfl rfl
  have f10 := fx_of X G c 10 (x := "loads_of") (st := s_loads_of) rfl rfl
  have f11 := fx_of X G c 11 (x := "time_in") (st := s_time_in) rfl rfl
  have f12 := fx_of X G c 12 (x := "ones") (st := s_ones) rfl rfl
  have f13 := fx_of X G c 13 (x := "times_in") (st := s_times_in) rfl rfl
  have f14 := fx_of X G c 14 (x := "potential_in") (st := s_potential_in) rfl rfl
  have f15 := fx_of X G c 15 (x := "game_potential") (st := s_game_potential) rfl rfl
  have f16 := fx_of X G c 16 (x := "ratio") (st := s_ratio) rfl rfl
  have f17 := fx_of X G c 17 (x := "steps_in") (st := s_steps_in) rfl rfl
  have f18 := fx_of X G c 18 (x := "all_states") (st := s_all_states) rfl rfl
  have f19 := fx_of X G c 19 (x := "standing_of") (st := s_standing_of) rfl rfl
  have f20 := fx_of X G c 20 (x := "standing_states") (st := s_standing_states) rfl rfl
  have f21 := fx_of X G c 21 (x := "walk_to_standing") (st := s_walk_to_standing) rfl rfl
  have f22 := fx_of X G c 22 (x := "best_state") (st := s_best_state) rfl rfl
  have f23 := fx_of X G c 23 (x := "lowest_state") (st := s_lowest_state) rfl rfl
  have f24 := fx_of X G c 24 (x := "standing_prices") (st := s_standing_prices) rfl rfl
  have f25 := fx_of X G c 25 (x := "_law_taken") (st := s_law_taken) rfl rfl
  have f26 := fx_of X G c 26 (x := "_law_pick") (st := s_law_pick) rfl rfl
  have f27 := fx_of X G c 27 (x := "_law_game_ways") (st := s_law_game_ways) rfl rfl
  have f28 := fx_of X G c 28 (x := "_law_table") (st := s_law_table) rfl rfl
  have f29 := fx_of X G c 29 (x := "_law_game") (st := s_law_game) rfl rfl
  have f30 := fx_of X G c 30 (x := "_law_states") (st := s_law_states) rfl rfl
  have f31 := fx_of X G c 31 (x := "law") (st := s_law) rfl rfl
  have p0 := ok_is_in (P := P) (w := w) (base := base) f0 T
  have p1 := ok_ways (P := P) (w := w) (base := base) f1 T
  have p2 := ok_table (P := P) (w := w) (tabs := tabsOf K) f2 f0 T m0.1 m0.2
  have p3 := ok_groad f3 f0 T m1.1 m1.2 p2
  have p4 := ok_net_of (P := P) (w := w) (base := base) f4 T
  have p5 := ok_player (tabs := tabsOf K) f5 f0 T m2.1 m2.2 p4 p1
  have p6 := ok_need f6 T p0 p3 p5
  have p7 := ok_choices (tabs := tabsOf K) f7 T m3.1 m3.2 p4 p1
  have p8 := ok_isst (tabs := tabsOf K) f8 f0 T m4.1 m4.2 p4 p1
  have p9 := ok_nst f9 T p6 p8 p7
  have p10 := ok_loads (P := P) (w := w) (tabs := tabsOf K) f10 T m5.1 m5.2
  have p11 := ok_time f11 T m6.1 m6.2 p10
  have p12 := ok_ones (P := P) (w := w) (base := base) f12 T
  have p13 := ok_times f13 T p12 p11
  have p14 := ok_pot f14 T m7.1 m7.2 p12 p10
  have p15 := ok_gpot f15 T p9 p14
  have p16 := ok_ratio (P := P) (w := w) (base := base) f16 T
  have p17 := ok_steps f17 T p11
  have p18 := ok_alls (P := P) (w := w) (base := base) f18 T
  have p19 := ok_stof f19 T p7 p18 p17
  have p20 := ok_ststs f20 T p6 p19 p12
  have p21 := ok_walk f21 T p9 p7 p17 p12
  have p22 := ok_best f22 T p6 p7 p18 p13
  have p23 := ok_low f23 T p6 p7 p18 p14
  have p24 := ok_prices f24 T p22 p13 p19 p12 p16
  have p25 := ok_taken (P := P) (w := w) (base := base) f25 T
  have p26 := ok_pick f26 T p25
  have p27 := ok_lgw (P := P) (w := w) (base := base) f27 T
  have p28 := ok_ltab f28 T p26
  have p29 := ok_lgame f29 T p25 p28 p27
  have p30 := ok_lst f30 T p27
  exact ok_law f31 T p25 p29 p30 p24 p22 p26 p15 p21 p20 p23
theorem law_at {fa : Addr} (X : K.In h) (c : He.SaysX hFa hFn [] hTf hEx w h K) (G : h.Ns mainGlobals mg) (hmg : mg "law" = some (.ref fa)) : LamX.LawAtS PySem.Challenge.rw_tollroads_k25_across_prices_of_standing w K CX0 7 63 "_law_script" mg fa h := by
  obtain ⟨fd, FD⟩ := c.t.d.def_ 31 (d := d_law) rfl
  have e := hmg.symm.trans (He.glo_ok X G (c.t.d.fact 31 (f := .glo "law") rfl))
  cases e
  have b := FunD.bindsA (ps := ["_law_script"]) FD fun _ _ _ _ _ _ us hl => match us, hl with | [_], _ => rfl
  refine ⟨fd, hTf.map (He.cT K), spLaw K (tabsOf K), fun p hp => ?_, fun p hp => ?_, fun p hp => ?_, fun s v => b s [v] rfl, fun H a ns hl _ hT hS => ⟨a, ns, rfl, hS, hl, fun Q hQ => ?_, fun _ => rfl⟩, fun base _ _ TB => ?_⟩
  · obtain ⟨q, hq, rfl⟩ := List.mem_map.mp hp
    exact c.empty q hq
  · obtain ⟨q, hq, rfl⟩ := List.mem_map.mp hp
    exact c.out q hq
  · obtain ⟨q, hq, rfl⟩ := List.mem_map.mp hp
    exact PySem.W.codeHd_of_K X (c.hd q hq)
  · obtain ⟨p, hp, rfl⟩ := List.mem_map.mp hQ
    exact ⟨#[], hT p hp, trivial⟩
  · obtain ⟨f, fd', h1, h2, h3, h4, oc, od, osl, lk⟩ := law_prom (P := (PySem.Challenge.rw_tollroads_k25_across_prices_of_standing).prog) (w := w) (base := base) X G c.t.d c.more (fun p hp => ⟨(TB p hp).code, (TB p hp).bm, (TB p hp).gP⟩)
    have e1 := hmg.symm.trans h1
    cases e1
    obtain ⟨oc2, od2, dV, kV, doc, pm, an, cdv, ct, osl2, rfl, lk2, _⟩ := FD.ex
    have e2 := lk.symm.trans lk2
    obtain ⟨_, _, e4, _⟩ := Obj.mk.inj (Option.some.inj e2)
    have e5 := Data.func.inj e4
    rw [← e5]
    exact h3
end
end Tr
open PySem PySem.W PySem.Calls PyProof.Rows
theorem PySem.Challenge.cw_tollroads_k25_across_prices_of_standing_holds : PySem.Challenge.rw_tollroads_k25_across_prices_of_standing.Holds := by
  w_on; o_law
  refine HandSHeadRun.head_imp (r := OpenLaw.row PySem.Challenge.rw_tollroads_k25_across_prices_of_standing) (q := view (OpenLaw.row PySem.Challenge.rw_tollroads_k25_across_prices_of_standing).prog [0, 53]) (H := Tr.hHk) (ob := Tr.hOb) (M := 3000) (loose := Tr.hLoose) (d := HandSHeadRun.topDef (OpenLaw.row PySem.Challenge.rw_tollroads_k25_across_prices_of_standing).prog 53) (kwd := []) Tr.hOb_eq Tr.hRun
    (by kernel_rfl) (by kernel_rfl) (by kernel_rfl) (by rfl) (by first | assumption | decide +kernel) (by decide +kernel) ⟨rfl, rfl, rfl, rfl, rfl, by decide +kernel⟩ ?hw ?hc
  case hw => w_witness2
  case hc =>
    refine LamX.walk_ofTsE (l := PySem.Challenge.rw_tollroads_k25_across_prices_of_standing) (n := 63) (k := 7) (x := "_law_script") (CX := fun _ => L2.CX0) rfl (by decide) (by kernel_rfl) ⟨rfl, by decide, by decide⟩ ?F (fun _ _ _ _ _ z => z)
    intro w mg fa h Y G hmg0
    obtain ⟨K, KX, c⟩ := Y
    have hmg : mg ("law" : PySem.Str) = some (.ref fa) := by
      have e : (HandSHeadRun.topDef (OpenLaw.row PySem.Challenge.rw_tollroads_k25_across_prices_of_standing).prog 53).name = ("law" : PySem.Str) := by kernel_rfl
      rw [← e]
      exact hmg0
    exact ⟨K, KX, Tr.law_at KX c G hmg⟩
