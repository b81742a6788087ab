import PyProof.Rows.All
import Wide.All
import OpenK.AllK
import Wide.FinOn
import HandS.Base
import HandS.Call
import HandS.List
import HandS.Words
import HandS.Defaults
import HandS.Head0
import HandS.Head1
import HandS.Head2
import HandS.Head3
import HandS.HeadEnd
import HandS.HeadHook1
import HandS.HeadHook2
import PySem.Challenge.RW_dealtseats_k45_main_a_list_that_parts
import HandS.ForMost
import HandS.TupAny
import HandS.Wide
import HandS.Gcd
import HandS.IsInst
import HandS.Zip
import HandS.Style
import HandS.Flow
import KE.DataEq
import KE.KTupSum
import HandS.Deep
import KE.GoesEnum
import KE.GoesMore
section
set_option Elab.async false
set_option linter.all false
set_option maxRecDepth 100000
/-! The head's part: constants of the top read off K, a Hook with a Bool more. -/
noncomputable section
namespace Dl
open PySem PySem.Spec PyProof.Rows L2

mutual
/-- the value v stands for the data d, by K alone -/
def litB (K : PySem.W.Frag) : PyData → Value → Bool
  | .none, v => (match v with | .none => true | _ => false)
  | .bool b, v => (match v with | .bool c => decide (c = b) | _ => false)
  | .int i, v => (match v with | .int j _ => decide (j = i) | _ => false)
  | .str y, v => (match v with | .str z _ => decide (z = y) | _ => false)
  | .tuple ds, v => (match v with
    | .ref a => (match K.lookup a with
      | some ⟨.type c, none, .seq its _, _⟩ => decide (c = "tuple") && (decide (its.size ≤ sizeLine) && litsB K ds its.toList)
      | _ => false)
    | _ => false)
  | _, _ => false
def litsB (K : PySem.W.Frag) : List PyData → List Value → Bool
  | [], vs => vs.isEmpty
  | d :: ds, vs => (match vs with
    | v :: r => litB K d v && litsB K ds r
    | [] => false)
end
/-- the top binds x to the data d -/
def gloB (K : PySem.W.Frag) (x : Str) (d : PyData) : Bool := match PySem.W.nsIn K mainGlobals x with
  | some (some v) => litB K d v
  | _ => false
def bltB (K : PySem.W.Frag) (x : Str) (id : String) : Bool := He.eqO (PySem.W.nsIn K mainGlobals x) (some (some (.builtin id)))
/-- the Hook of the facts, with a Bool more -/
def hookL (n : Nat) (fa : List He.Fa) (fn : List He.DefD) (ex : PySem.W.Frag → Bool) : PySem.W.Hook where
  α := He.AlD × Bool
  obs := fun s => (He.obsDG n fa fn s.heap.get?, ex (He.frG s.heap.get? (He.asD s.heap.get? n)))
  val := fun _ => (He.valD fn, true)
  says := fun _ h => ∃ K : PySem.W.Frag, K.In h ∧ He.SaysD fa fn K ∧ ex K = true
  of := fun _ _ e => ⟨_, He.frG_in, congrArg (fun z : He.AlD × Bool => z.1) e, congrArg (fun z : He.AlD × Bool => z.2) e⟩
  keeps := fun _ _ _ ⟨K, hK, c⟩ k => ⟨K, PySem.W.Frag.In.keeps hK k, c⟩
def obsL (n : Nat) (fa : List He.Fa) (fn : List He.DefD) (ex : PySem.W.Frag → Bool) (g : Addr → Option Obj) : He.AlD × Bool := (He.obsDG n fa fn g, ex (He.frG g (He.asD g n)))
theorem obsL_eq {n : Nat} {fa : List He.Fa} {fn : List He.DefD} {ex : PySem.W.Frag → Bool} {g : Addr → Option Obj} {s : Shared} (h : ∀ a, g a = s.heap.get? a) : obsL n fa fn ex g = (hookL n fa fn ex).obs s := by
  have e : g = s.heap.get? := funext h
  rw [e] <;> rfl
end Dl
end
end

section
set_option Elab.async false
set_option linter.all false
set_option maxRecDepth 100000
set_option maxHeartbeats 0
namespace K45
open PySem PySem.Spec PyProof.Rows L2 Dl
def topS (i : Nat) : Stmt := PySem.Challenge.pw_dealtseats_k45_main_a_list_that_parts.main.body.getD i (.Pass ⟨0, 0, 0, 0⟩)
abbrev st__law_box : Stmt := topS 57
abbrev st__law_take : Stmt := topS 58
abbrev st__law_of : Stmt := topS 61
abbrev st__law_fraction : Stmt := topS 62
abbrev st__law_rule : Stmt := topS 63
abbrev st_tuple_of : Stmt := topS 7
abbrev st_even_posts : Stmt := topS 22
abbrev st__law_cells : Stmt := topS 59
abbrev st__law_votes : Stmt := topS 64
abbrev st_lowest : Stmt := topS 10
abbrev st_plus : Stmt := topS 12
abbrev st_whole : Stmt := topS 11
abbrev st_post_in : Stmt := topS 21
abbrev st_bare_lists : Stmt := topS 26
abbrev st_is_less : Stmt := topS 15
abbrev st_times : Stmt := topS 13
abbrev st_next_list : Stmt := topS 35
abbrev st_next_in : Stmt := topS 37
abbrev st_dealt_in : Stmt := topS 36
abbrev st_greatest_of : Stmt := topS 18
abbrev st_is_wronged : Stmt := topS 27
abbrev st_faults_in : Stmt := topS 28
abbrev st_over : Stmt := topS 14
abbrev st_least_of : Stmt := topS 17
abbrev st_divider_ends : Stmt := topS 31
abbrev st_divider_of : Stmt := topS 32
abbrev st_seats_above : Stmt := topS 33
abbrev st_is_most : Stmt := topS 16
abbrev st_seats_most : Stmt := topS 34
abbrev st_ties_in : Stmt := topS 38
abbrev st_deals_of : Stmt := topS 39
abbrev st_is_number : Stmt := topS 6
abbrev st_sure_list : Stmt := topS 40
abbrev st_seat_ends : Stmt := topS 41
abbrev st_sure_two : Stmt := topS 48
abbrev st_joined_votes : Stmt := topS 49
abbrev st__law_same : Stmt := topS 60
abbrev st_faults_of : Stmt := topS 29
abbrev st_is_deal : Stmt := topS 30
abbrev st_joined_seats : Stmt := topS 50
abbrev st_keeps_promise : Stmt := topS 51
abbrev st_is_kept_at : Stmt := topS 52
abbrev st_starts_bare : Stmt := topS 43
abbrev st_limit_of : Stmt := topS 53
abbrev st_is_broken_by : Stmt := topS 54
abbrev st_keeps_always : Stmt := topS 55
abbrev st_law : Stmt := topS 65
abbrev dd (x : Str) (st : Stmt) : He.DefD := ⟨(x, none), x, x, defArgs st, defBody st, defScope st, [], []⟩
def fn : List He.DefD := [dd "_law_box" st__law_box, dd "_law_take" st__law_take, dd "_law_of" st__law_of, dd "_law_fraction" st__law_fraction, dd "_law_rule" st__law_rule, dd "tuple_of" st_tuple_of, dd "even_posts" st_even_posts, dd "_law_cells" st__law_cells, dd "_law_votes" st__law_votes, dd "lowest" st_lowest, dd "plus" st_plus, dd "whole" st_whole, dd "post_in" st_post_in, dd "bare_lists" st_bare_lists, dd "is_less" st_is_less, dd "times" st_times, dd "next_list" st_next_list, dd "next_in" st_next_in, dd "dealt_in" st_dealt_in, dd "greatest_of" st_greatest_of, dd "is_wronged" st_is_wronged, dd "faults_in" st_faults_in, dd "over" st_over, dd "least_of" st_least_of, dd "divider_ends" st_divider_ends, dd "divider_of" st_divider_of, dd "seats_above" st_seats_above, dd "is_most" st_is_most, dd "seats_most" st_seats_most, dd "ties_in" st_ties_in, dd "deals_of" st_deals_of, dd "is_number" st_is_number, dd "sure_list" st_sure_list, dd "seat_ends" st_seat_ends, dd "sure_two" st_sure_two, dd "joined_votes" st_joined_votes, dd "_law_same" st__law_same, dd "faults_of" st_faults_of, dd "is_deal" st_is_deal, dd "joined_seats" st_joined_seats, dd "keeps_promise" st_keeps_promise, dd "is_kept_at" st_is_kept_at, dd "starts_bare" st_starts_bare, dd "limit_of" st_limit_of, dd "is_broken_by" st_is_broken_by, dd "keeps_always" st_keeps_always, dd "law" st_law]
def fa : List He.Fa := [.glo "_law_box", .glo "_law_take", .glo "_law_of", .glo "_law_fraction", .glo "_law_rule", .glo "tuple_of", .glo "even_posts", .glo "_law_cells", .glo "_law_votes", .glo "lowest", .glo "plus", .glo "whole", .glo "post_in", .glo "bare_lists", .glo "is_less", .glo "times", .glo "next_list", .glo "next_in", .glo "dealt_in", .glo "greatest_of", .glo "is_wronged", .glo "faults_in", .glo "over", .glo "least_of", .glo "divider_ends", .glo "divider_of", .glo "seats_above", .glo "is_most", .glo "seats_most", .glo "ties_in", .glo "deals_of", .glo "is_number", .glo "sure_list", .glo "seat_ends", .glo "sure_two", .glo "joined_votes", .glo "_law_same", .glo "faults_of", .glo "is_deal", .glo "joined_seats", .glo "keeps_promise", .glo "is_kept_at", .glo "starts_bare", .glo "limit_of", .glo "is_broken_by", .glo "keeps_always", .glo "law", .free "len", .free "abs", .free "int", .free "range", .free "list", .free "tuple", .free "isinstance", .free "enumerate", .free "zip", .free "sum", .free "bool", .free "max", .free "min", .free "all", .free "str"]
def ex (K : PySem.W.Frag) : Bool := gloB K "ZERO" (.tuple [.int 0, .int 1]) && gloB K "BARE" (.str "bare") && gloB K "WRONGED" (.str "wronged") && gloB K "NO_FEWER" (.str "no fewer") && gloB K "ONE_FEWER" (.str "one fewer") && gloB K "NO_MORE" (.str "no more") && gloB K "MOST_ROW" (.int 12) && bltB K "gcd" "math.gcd" && true
def lo0 : List Str := ["NoList", "CanNot", "Unfit", "is_number", "tuple_of", "ZERO", "lowest", "whole", "plus", "times", "over", "is_less", "is_most", "least_of", "greatest_of", "MOST_ROW", "post_in", "even_posts", "BARE", "WRONGED"]
def lo1 : List Str := ["bare_lists", "is_wronged", "faults_in", "faults_of", "is_deal", "divider_ends", "divider_of", "seats_above", "seats_most", "next_list", "dealt_in", "next_in", "ties_in", "deals_of", "sure_list", "seat_ends", "starts_bare", "NO_FEWER", "ONE_FEWER", "NO_MORE"]
def lo2 : List Str := ["sure_two", "joined_votes", "joined_seats", "keeps_promise", "is_kept_at", "limit_of", "is_broken_by", "keeps_always", "_law_box", "_law_take", "_law_cells", "_law_same", "_law_of", "_law_fraction", "_law_rule", "_law_votes"]
def loose : List Str := lo0 ++ lo1 ++ lo2
abbrev R : PySem.W.OpenRow := PySem.W.OpenLaw.row PySem.Challenge.rw_dealtseats_k45_main_a_list_that_parts
abbrev hk : PySem.W.Hook := hookL 4 fa fn ex
def ob (s : PySem.W.SharedT) : He.AlD × Bool := obsL 4 fa fn ex (HandSHeadRun.getT s)
theorem ob_eq (s : PySem.W.SharedT) : ob s = hk.obs s.abs := obsL_eq (HandSHeadRun.getT_eq s)
abbrev qv : Program := PySem.W.view R.prog [0, 65]
end K45
namespace K45
open PySem PySem.W PySem.Calls PyProof.Rows
theorem run (w : World) : HandSHeadRun.RunEqI R qv hk ob 20000 loose w := by
  unfold HandSHeadRun.RunEqI
  kernel_rfl
end K45
end

section
set_option Elab.async false
set_option linter.all false
set_option maxRecDepth 100000
/-! The data layer, part A: slots and results as data, how they stand in the abstract heap, growth. -/
namespace Dl
open PySem PySem.Spec PyProof.Rows L2

abbrev D := PyData

theorem same_seqT {K : PySem.W.Frag} {H H' : Hp} {a : Addr} {xs : List V} (e : Same H H') (h : SqT K H a xs) : SqT K H' a xs := by
  rcases h with (h | ⟨o, h⟩) | h
  · exact .inl (.inl (e _ _ h))
  · exact .inl (.inr ⟨o, e _ _ h⟩)
  · exact .inr h
mutual
theorem dp_mono {K : PySem.W.Frag} {G G' : Hp} (h : Same G G') : ∀ (d : D) (v : V), Dp K G v d → Dp K G' v d
  | .none, _, x => by cases x; exact .non
  | .bool _, _, x => by cases x; exact .bl _
  | .int _, _, x => by cases x; exact .int _
  | .str _, _, x => by cases x; exact .str _
  | .list ds, _, x => by cases x with | lst s a => exact .lst (h.seq s) (dpa_mono h ds _ a)
  | .tuple ds, _, x => by cases x with | tup s a => exact .tup (same_seqT h s) (dpa_mono h ds _ a)
  | .dict _, _, x => by cases x
theorem dpa_mono {K : PySem.W.Frag} {G G' : Hp} (h : Same G G') : ∀ (ds : List D) (vs : List V), DpAll K G vs ds → DpAll K G' vs ds
  | [], _, x => by cases x; exact .nil
  | d :: ds, _, x => by cases x with | cons a b => exact .cons (dp_mono h d _ a) (dpa_mono h ds _ b)
end

/-! ### lists of data -/
section
variable {K : PySem.W.Frag} {G : Hp}
theorem dpa_len : ∀ {vs : List V} {ds : List D}, DpAll K G vs ds → vs.length = ds.length
  | _, _, .nil => rfl
  | _, _, .cons _ t => congrArg Nat.succ (dpa_len t)
theorem dpa_get : ∀ {vs : List V} {ds : List D} {i : Nat} {d : D}, DpAll K G vs ds → ds[i]? = some d → ∃ v, vs[i]? = some v ∧ Dp K G v d
  | _, _, _, _, .nil, e => by simp at e
  | _, _, 0, _, .cons r _, e => by simp at e; subst e; exact ⟨_, rfl, r⟩
  | _, _, i + 1, d, .cons _ t, e => by
    obtain ⟨v, h1, h2⟩ := dpa_get (i := i) (d := d) t (by simpa using e)
    exact ⟨v, by simpa using h1, h2⟩
theorem dpa_getv : ∀ {vs : List V} {ds : List D} {i : Nat} {v : V}, DpAll K G vs ds → vs[i]? = some v → ∃ d, ds[i]? = some d ∧ Dp K G v d
  | _, _, _, _, .nil, e => by simp at e
  | _, _, 0, _, .cons r _, e => by simp at e; subst e; exact ⟨_, rfl, r⟩
  | _, _, i + 1, d, .cons _ t, e => by
    obtain ⟨v, h1, h2⟩ := dpa_getv (i := i) (v := d) t (by simpa using e)
    exact ⟨v, by simpa using h1, h2⟩
theorem dpa_app : ∀ {vs ws : List V} {ds es : List D}, DpAll K G vs ds → DpAll K G ws es → DpAll K G (vs ++ ws) (ds ++ es)
  | _, _, _, _, .nil, s => s
  | _, _, _, _, .cons r t, s => .cons r (dpa_app t s)
theorem dpa_take : ∀ {vs : List V} {ds : List D} (n : Nat), DpAll K G vs ds → DpAll K G (vs.take n) (ds.take n)
  | _, _, 0, _ => .nil
  | _, _, _ + 1, .nil => .nil
  | _, _, n + 1, .cons r t => .cons r (dpa_take n t)
theorem dpa_drop : ∀ {vs : List V} {ds : List D} (n : Nat), DpAll K G vs ds → DpAll K G (vs.drop n) (ds.drop n)
  | _, _, 0, r => r
  | _, _, _ + 1, .nil => .nil
  | _, _, n + 1, .cons _ t => dpa_drop n t
theorem dpa_set {v : V} {d : D} (r : Dp K G v d) : ∀ {vs : List V} {ds : List D} (i : Nat), DpAll K G vs ds → DpAll K G (vs.set i v) (ds.set i d)
  | _, _, _, .nil => .nil
  | _, _, 0, .cons _ t => .cons r t
  | _, _, i + 1, .cons q t => .cons q (dpa_set r i t)
theorem dpa_rep {vs : List V} {ds : List D} (h : DpAll K G vs ds) : ∀ k : Nat, DpAll K G (List.replicate k vs).flatten (List.replicate k ds).flatten
  | 0 => .nil
  | k + 1 => by
    rw [List.replicate_succ, List.replicate_succ, List.flatten_cons, List.flatten_cons]
    exact dpa_app h (dpa_rep h k)
theorem dpa_cut {vs : List V} {ds : List D} (h : DpAll K G vs ds) (lo hi : Option Int) :
    DpAll K G (cutV vs lo hi) ((ds.drop (HT.sIx ds.length 0 lo)).take (HT.sIx ds.length ds.length hi - HT.sIx ds.length 0 lo)) := by
  unfold cutV
  rw [dpa_len h]
  exact dpa_take _ (dpa_drop _ h)
theorem dpa_ints : ∀ {vs : List V} {ns : List Int}, DpAll K G vs (ns.map PyData.int) → vs = ns.map V.int
  | _, [], h => by cases h; rfl
  | _, n :: ns, h => by
    cases h with
    | cons a b =>
      cases a
      rw [dpa_ints b]
      rfl
theorem dpa_bools : ∀ {vs : List V} {ns : List Bool}, DpAll K G vs (ns.map PyData.bool) → vs = ns.map V.bl
  | _, [], h => by cases h; rfl
  | _, n :: ns, h => by
    cases h with
    | cons a b =>
      cases a
      rw [dpa_bools b]
      rfl
theorem ints_dpa : ∀ (ns : List Int), DpAll K G (ns.map V.int) (ns.map PyData.int)
  | [] => .nil
  | n :: ns => .cons (.int n) (ints_dpa ns)
end

/-! ### slots, results -/
inductive Sl where
  | un
  | val (d : D)
  | own (ds : List D)
  | urn
inductive Rs where
  | val (d : D)
  | own (ds : List D)
  | bor (i : Nat) (ds : List D)
  | urn

structure Cc where
  K : PySem.W.Frag
  U : Option Addr
  H_0 : Hp
  G_0 : Hp

def SlOk (c : Cc) (G H : Hp) (vo : Option V) : Sl → Prop
  | .un => True
  | .val d => ∃ v, vo = some v ∧ Dp c.K G v d
  | .own ds => ∃ a vs, vo = some (.ref a) ∧ G a = none ∧ c.H_0 a = none ∧ c.U ≠ some a ∧ H a = some (.lst vs) ∧ DpAll c.K G vs ds
  | .urn => ∃ a, c.U = some a ∧ vo = some (.ref a)

abbrev Ev := List Sl
abbrev Ur := List Int

structure SR (c : Cc) (G : Hp) (σ : L2.St) (H : Hp) (ε : Ev) (u : Ur) : Prop where
  gh : Same G H
  g0 : Same c.G_0 G
  gn : ∀ a, c.H_0 a ≠ none → G a = c.G_0 a
  fr : ∀ a o, c.H_0 a = some o → c.U ≠ some a → H a = some o
  ur : ∀ a, c.U = some a → c.H_0 a ≠ none ∧ c.G_0 a = none ∧ H a = some (.lst (u.map V.int))
  len : σ.length = ε.length
  sl : ∀ (i : Nat) (s : Sl), ε[i]? = some s → ∃ vo, σ[i]? = some vo ∧ SlOk c G H vo s
  ds : ∀ (i j : Nat) (ds es : List D) (a : Addr), ε[i]? = some (.own ds) → ε[j]? = some (.own es) → σ[i]? = some (some (.ref a)) → σ[j]? = some (some (.ref a)) → i = j

structure Ext (U : Option Addr) (G H G' H' : Hp) : Prop where
  g : Same G G'
  n : ∀ a, H a ≠ none → G' a = G a
  h : ∀ a o, H a = some o → U ≠ some a → H' a = some o
  t : ∀ a, H a ≠ none → H' a ≠ none

def RsOk (c : Cc) (Hs G H : Hp) (σ : L2.St) (ε : Ev) (v : V) : Rs → Prop
  | .val d => Dp c.K G v d
  | .own ds => ∃ a vs, v = .ref a ∧ Hs a = none ∧ c.H_0 a = none ∧ c.U ≠ some a ∧ G a = none ∧ H a = some (.lst vs) ∧ DpAll c.K G vs ds
  | .bor i ds => ε[i]? = some (.own ds) ∧ σ[i]? = some (some v)
  | .urn => ∃ a, c.U = some a ∧ v = .ref a

theorem Ext.refl {U : Option Addr} {G H : Hp} : Ext U G H G H := ⟨Same.refl _, fun _ _ => rfl, fun _ _ e _ => e, fun _ e => e⟩
theorem Ext.trans {U : Option Addr} {G H G1 H1 G2 H2 : Hp} (x : Ext U G H G1 H1) (y : Ext U G1 H1 G2 H2) : Ext U G H G2 H2 :=
  ⟨x.g.trans y.g, fun a e => (y.n a (x.t a e)).trans (x.n a e), fun a o e hu => y.h a o (x.h a o e hu) hu, fun a e => y.t a (x.t a e)⟩
theorem Ext.free {U : Option Addr} {G H G' H' : Hp} (x : Ext U G H G' H') {a : Addr} (e : H' a = none) : H a = none := by
  cases q : H a with
  | none => rfl
  | some o => exact absurd e (x.t a (by rw [q]; exact fun z => nomatch z))

section
variable {c : Cc} {G H G' H' Hs : Hp} {σ : L2.St} {ε : Ev} {u u' : Ur} {v : V} {r : Rs}
theorem SR.gnone (S : SR c G σ H ε u) {a : Addr} (e : H a = none) : G a = none := S.gh.free e
theorem SR.h0none (S : SR c G σ H ε u) {a : Addr} (e : H a = none) : c.H_0 a = none := by
  cases q : c.H_0 a with
  | none => rfl
  | some o =>
    by_cases hu : c.U = some a
    · have z := (S.ur a hu).2.2
      rw [e] at z
      cases z
    · have z := S.fr a o q hu
      rw [e] at z
      cases z
theorem SR.une (S : SR c G σ H ε u) {a : Addr} (e : H a = none) : c.U ≠ some a := fun hu => by
  have z := (S.ur a hu).2.2
  rw [e] at z
  cases z
theorem RsOk.ext (R : RsOk c Hs G H σ ε v r) (x : Ext c.U G H G' H') : RsOk c Hs G' H' σ ε v r := by
  cases r with
  | val d => exact dp_mono x.g d v R
  | own ds =>
    obtain ⟨a, vs, e, h1, h2, h3, h4, h5, h6⟩ := R
    exact ⟨a, vs, e, h1, h2, h3, (x.n a (by rw [h5]; exact fun z => nomatch z)).trans h4, x.h a _ h5 h3, dpa_mono x.g ds vs h6⟩
  | bor i ds => exact R
  | urn => exact R
/-- a slot's content stands under growth -/
theorem SlOk.ext {vo : Option V} {s : Sl} (R : SlOk c G H vo s) (x : Ext c.U G H G' H') : SlOk c G' H' vo s := by
  cases s with
  | un => exact True.intro
  | val d =>
    obtain ⟨w, e, h⟩ := R
    exact ⟨w, e, dp_mono x.g d w h⟩
  | own ds =>
    obtain ⟨a, vs, e, h4, h2, h3, h5, h6⟩ := R
    exact ⟨a, vs, e, (x.n a (by rw [h5]; exact fun z => nomatch z)).trans h4, h2, h3, x.h a _ h5 h3, dpa_mono x.g ds vs h6⟩
  | urn => exact R
/-- the state grows: G', H' over G, H -/
theorem SR.grow (S : SR c G σ H ε u) (x : Ext c.U G H G' H') (gh : Same G' H') (hu : ∀ a, c.U = some a → H' a = some (.lst (u'.map V.int))) : SR c G' σ H' ε u' where
  gh := gh
  g0 := S.g0.trans x.g
  gn := fun a e => by
    refine (x.n a ?_).trans (S.gn a e)
    intro z
    exact e (S.h0none z)
  fr := fun a o e h => x.h a o (S.fr a o e h) h
  ur := fun a e => ⟨(S.ur a e).1, (S.ur a e).2.1, hu a e⟩
  len := S.len
  sl := fun i s e => by
    obtain ⟨vo, h1, h2⟩ := S.sl i s e
    exact ⟨vo, h1, h2.ext x⟩
  ds := S.ds
/-- a new tuple is laid, and is data -/
theorem SR.tup (S : SR c G σ H ε u) {p : Addr} (hp : H p = none) {vs : List V} {ds : List D} (hd : DpAll c.K G vs ds) :
    SR c (upd G p (.tup vs)) σ (upd H p (.tup vs)) ε u ∧ Ext c.U G H (upd G p (.tup vs)) (upd H p (.tup vs)) ∧ Dp c.K (upd G p (.tup vs)) (.ref p) (.tuple ds) := by
  have gp := S.gnone hp
  have sg : Same G (upd G p (.tup vs)) := fun b o e => by rw [upd_ne (ne_of_none e gp)]; exact e
  have x : Ext c.U G H (upd G p (.tup vs)) (upd H p (.tup vs)) := by
    refine ⟨sg, fun a e => ?_, fun a o e _ => by rw [upd_ne (ne_of_none e hp)]; exact e, fun a e => ?_⟩
    · rw [upd_ne (fun z => e (by rw [z]; exact hp))]
    · rw [upd_ne (fun z => e (by rw [z]; exact hp))]; exact e
  refine ⟨S.grow x ?_ (fun a e => ?_), x, .tup (.inl (.inl upd_same)) (dpa_mono sg ds vs hd)⟩
  · intro b o e
    by_cases hb : b = p
    · subst hb; rw [upd_same] at e ⊢; exact e
    · rw [upd_ne hb] at e ⊢; exact S.gh b o e
  · have z := (S.ur a e).2.2
    rw [upd_ne (ne_of_none z hp)]; exact z
/-- a new list is laid, owned -/
theorem SR.lst (S : SR c G σ H ε u) {p : Addr} (hp : H p = none) (hs : Hs p = none) {vs : List V} {ds : List D} (hd : DpAll c.K G vs ds) :
    SR c G σ (upd H p (.lst vs)) ε u ∧ Ext c.U G H G (upd H p (.lst vs)) ∧ RsOk c Hs G (upd H p (.lst vs)) σ ε (.ref p) (.own ds) := by
  have gp := S.gnone hp
  have x : Ext c.U G H G (upd H p (.lst vs)) := by
    refine ⟨Same.refl _, fun a e => rfl, fun a o e _ => by rw [upd_ne (ne_of_none e hp)]; exact e, fun a e => ?_⟩
    rw [upd_ne (fun z => e (by rw [z]; exact hp))]; exact e
  refine ⟨S.grow x ?_ (fun a e => ?_), x, p, vs, rfl, hs, S.h0none hp, S.une hp, gp, upd_same, hd⟩
  · intro b o e
    rw [upd_ne (ne_of_none e gp)]
    exact S.gh b o e
  · have z := (S.ur a e).2.2
    rw [upd_ne (ne_of_none z hp)]; exact z
/-- an owned list that no slot holds becomes data -/
theorem SR.freeze (S : SR c G σ H ε u) {ds : List D} (hs : ∀ (i : Nat) (es : List D) (a : Addr), ε[i]? = some (.own es) → σ[i]? = some (some (.ref a)) → Hs a ≠ none) (R : RsOk c Hs G H σ ε v (.own ds)) :
    ∃ G', Same G G' ∧ (∀ a, Hs a ≠ none → G' a = G a) ∧ SR c G' σ H ε u ∧ Dp c.K G' v (.list ds) := by
  obtain ⟨a, vs, rfl, h1, h2, h3, h4, h5, h6⟩ := R
  have sg : Same G (upd G a (.lst vs)) := fun b o e => by rw [upd_ne (ne_of_none e h4)]; exact e
  refine ⟨upd G a (.lst vs), sg, fun b e => ?_, ⟨?_, S.g0.trans sg, fun b e => ?_, S.fr, S.ur, S.len, fun i s e => ?_, S.ds⟩, .lst (.inl (.inl upd_same)) (dpa_mono sg ds vs h6)⟩
  · rw [upd_ne (fun z => e (by rw [z]; exact h1))]
  · intro b o e
    by_cases hb : b = a
    · subst hb; rw [upd_same] at e; cases e; exact h5
    · rw [upd_ne hb] at e; exact S.gh b o e
  · rw [upd_ne (fun z => e (by rw [z]; exact h2))]
    exact S.gn b e
  · obtain ⟨vo, k1, k2⟩ := S.sl i s e
    refine ⟨vo, k1, ?_⟩
    cases s with
    | un => exact True.intro
    | val d =>
      obtain ⟨w, e1, k⟩ := k2
      exact ⟨w, e1, dp_mono sg d w k⟩
    | own es =>
      obtain ⟨b, ws, e1, q1, q2, q3, q4, q5⟩ := k2
      have hb : b ≠ a := fun z => hs i es b e (by rw [k1, e1]) (by rw [z]; exact h1)
      exact ⟨b, ws, e1, by rw [upd_ne hb]; exact q1, q2, q3, q4, dpa_mono sg es ws q5⟩
    | urn => exact k2
/-- the owned list of a slot, read -/
theorem SR.bor (S : SR c G σ H ε u) {i : Nat} {ds : List D} (e : ε[i]? = some (.own ds)) (ev : σ[i]? = some (some v)) :
    ∃ a vs, v = .ref a ∧ G a = none ∧ c.H_0 a = none ∧ c.U ≠ some a ∧ H a = some (.lst vs) ∧ DpAll c.K G vs ds := by
  obtain ⟨vo, k1, a, vs, e1, q⟩ := S.sl i _ e
  rw [k1] at ev
  have z := Option.some.inj ev
  rw [e1] at z
  have z' := Option.some.inj z
  exact ⟨a, vs, z'.symm, q⟩
end
end Dl
end

section
set_option Elab.async false
set_option linter.all false
set_option maxRecDepth 100000
/-! The data layer, part B: expressions. -/
noncomputable section
namespace Dl
open PySem PySem.Spec PyProof.Rows L2

abbrev DE := Ev → Ur → Option (Rs × Ur)
abbrev DA := Ev → Ur → Option (List Rs × Ur)
abbrev DT := Ev → Ur → Option (Bool × Ur)
abbrev Fn := List Sl → Ur → Option (Rs × Ur)

def tD (K : PySem.W.Frag) (f : DE) : TE := fun σ H Q => ∃ (c : Cc) (G : Hp) (ε : Ev) (u : Ur) (r : Rs) (u' : Ur), c.K = K ∧ SR c G σ H ε u ∧ f ε u = some (r, u') ∧
  ∀ v G' H', SR c G' σ H' ε u' → Ext c.U G H G' H' → RsOk c H G' H' σ ε v r → Q v H'
def tB (K : PySem.W.Frag) (f : DT) : TT := fun σ H Q => ∃ (c : Cc) (G : Hp) (ε : Ev) (u : Ur) (b : Bool) (u' : Ur), c.K = K ∧ SR c G σ H ε u ∧ f ε u = some (b, u') ∧
  ∀ G' H', SR c G' σ H' ε u' → Ext c.U G H G' H' → Q b H'
/-- an argument: no owned list that no slot holds -/
def AOk (c : Cc) (G : Hp) (σ : L2.St) (ε : Ev) (v : V) : Rs → Prop
  | .val d => Dp c.K G v d
  | .own _ => False
  | .bor i ds => ε[i]? = some (.own ds) ∧ σ[i]? = some (some v)
  | .urn => ∃ a, c.U = some a ∧ v = .ref a
inductive ArOk (c : Cc) (G : Hp) (σ : L2.St) (ε : Ev) : List V → List Rs → Prop
  | nil : ArOk c G σ ε [] []
  | cons {v : V} {vs : List V} {r : Rs} {rs : List Rs} : AOk c G σ ε v r → ArOk c G σ ε vs rs → ArOk c G σ ε (v :: vs) (r :: rs)
def tA (K : PySem.W.Frag) (f : DA) : TA := fun σ H Q => ∃ (c : Cc) (G : Hp) (ε : Ev) (u : Ur) (rs : List Rs) (u' : Ur), c.K = K ∧ SR c G σ H ε u ∧ f ε u = some (rs, u') ∧
  ∀ vs G' H', SR c G' σ H' ε u' → Ext c.U G H G' H' → ArOk c G' σ ε vs rs → Q vs H'

theorem pe_imp {X : Cx} {e : Expr} {t t' : TE} (h : PE X e t) (k : ∀ σ H Q, t' σ H Q → t σ H Q) : PE X e t' := ⟨fun pins s σ H Q I q => h.run pins s σ H Q I (k σ H Q q)⟩
theorem pt_imp {X : Cx} {e : Expr} {t t' : TT} (h : PT X e t) (k : ∀ σ H Q, t' σ H Q → t σ H Q) : PT X e t' := ⟨fun pins s σ H Q I q => h.run pins s σ H Q I (k σ H Q q)⟩
theorem pw_imp {X : Cx} {e : Expr} {t t' : TT} (h : PW X e t) (k : ∀ σ H Q, t' σ H Q → t σ H Q) : PW X e t' := ⟨fun w pins s σ H Q I q => h.run w pins s σ H Q I (k σ H Q q)⟩
theorem pa_imp {X : Cx} {e : List Expr} {t t' : TA} (h : PA X e t) (k : ∀ σ H Q, t' σ H Q → t σ H Q) : PA X e t' := ⟨fun p pins s σ H Q I q => h.run p pins s σ H Q I (k σ H Q q)⟩

section
variable {c : Cc} {G H G' H' Hs : Hp} {σ : L2.St} {ε : Ev} {u u' : Ur} {v : V} {r : Rs}
theorem AOk.ext (R : AOk c G σ ε v r) (x : Same G G') : AOk c G' σ ε v r := by
  cases r with
  | val d => exact dp_mono x d v R
  | own ds => exact R
  | bor i ds => exact R
  | urn => exact R
theorem ArOk.ext {vs : List V} {rs : List Rs} (R : ArOk c G σ ε vs rs) (x : Same G G') : ArOk c G' σ ε vs rs := by
  induction R with
  | nil => exact .nil
  | cons a _ ih => exact .cons (a.ext x) ih
def thaw : Rs → Rs
  | .own ds => .val (.list ds)
  | r => r
theorem thaw_ok {u0 : Ur} {G1 H1 : Hp} (S0 : SR c G σ H ε u0) (S1 : SR c G1 σ H1 ε u) (x : Ext c.U G H G1 H1) (R : RsOk c H G1 H1 σ ε v r) :
    ∃ G2, SR c G2 σ H1 ε u ∧ Ext c.U G H G2 H1 ∧ AOk c G2 σ ε v (thaw r) ∧ RsOk c H G2 H1 σ ε v (thaw r) := by
  cases r with
  | val d => exact ⟨G1, S1, x, R, R⟩
  | bor i ds => exact ⟨G1, S1, x, R, R⟩
  | urn => exact ⟨G1, S1, x, R, R⟩
  | own ds =>
    obtain ⟨G2, h1, h2, h3, h4⟩ := S1.freeze (Hs := H) (fun i es a e1 e2 => by
      obtain ⟨b, vs, k1, _, _, _, k2, _⟩ := S0.bor e1 e2
      cases k1
      rw [k2]
      exact fun z => nomatch z) R
    exact ⟨G2, h3, ⟨x.g.trans h1, fun a e => (h2 a e).trans (x.n a e), x.h, x.t⟩, h4, h4⟩
end

/-! ### sequences -/
/-- the items of a list or a tuple: true: a tuple -/
def seqA : Rs → Option (Bool × List D)
  | .val (.list ds) => some (false, ds)
  | .val (.tuple ds) => some (true, ds)
  | .own ds => some (false, ds)
  | .bor _ ds => some (false, ds)
  | _ => none
/-- as data, to be read -/
def view : Rs → Option D
  | .val d => some d
  | .own ds => some (.list ds)
  | .bor _ ds => some (.list ds)
  | .urn => none
/-- a list that may be added to another one -/
def lstA : Rs → Option (List D)
  | .own ds => some ds
  | .bor _ ds => some ds
  | _ => none
section
variable {c : Cc} {G H G' H' Hs : Hp} {σ : L2.St} {ε : Ev} {u u' : Ur} {v : V} {r : Rs}
def SqB (K : PySem.W.Frag) (H : Hp) (b : Bool) (a : Addr) (vs : List V) : Prop := if b = true then SqT K H a vs else SqL K H a vs
theorem seqA_ok (S : SR c G σ H ε u) (R : RsOk c Hs G H σ ε v r) {b : Bool} {ds : List D} (e : seqA r = some (b, ds)) : ∃ a vs, v = .ref a ∧ SqB c.K H b a vs ∧ DpAll c.K G vs ds := by
  cases r with
  | val d =>
    cases d with
    | list xs =>
      cases e
      cases (show Dp c.K G v (.list ds) from R) with
      | lst s k => exact ⟨_, _, rfl, S.gh.seq s, k⟩
    | tuple xs =>
      cases e
      cases (show Dp c.K G v (.tuple ds) from R) with
      | tup s k => exact ⟨_, _, rfl, same_seqT S.gh s, k⟩
    | none => cases e
    | bool _ => cases e
    | int _ => cases e
    | str _ => cases e
    | dict _ => cases e
  | own xs =>
    cases e
    obtain ⟨a, vs, rfl, _, _, _, _, h5, h6⟩ := R
    exact ⟨a, vs, rfl, SqL.of h5, h6⟩
  | bor i xs =>
    cases e
    obtain ⟨a, vs, rfl, _, _, _, h5, h6⟩ := S.bor R.1 R.2
    exact ⟨a, vs, rfl, SqL.of h5, h6⟩
  | urn => cases e
theorem AOk.rs (R : AOk c G σ ε v r) : RsOk c Hs G H σ ε v r := by
  cases r with
  | val d => exact R
  | own _ => exact R.elim
  | bor _ _ => exact R
  | urn => exact R
theorem view_ok (S : SR c G σ H ε u) (R : RsOk c Hs G H σ ε v r) {d : D} (e : view r = some d) : Dp c.K H v d := by
  cases r with
  | val d' =>
    cases e
    exact dp_mono S.gh d v R
  | own xs =>
    cases e
    obtain ⟨a, vs, rfl, _, _, _, _, h5, h6⟩ := R
    exact .lst (SqL.of h5) (dpa_mono S.gh xs vs h6)
  | bor i xs =>
    cases e
    obtain ⟨a, vs, rfl, _, _, _, h5, h6⟩ := S.bor R.1 R.2
    exact .lst (SqL.of h5) (dpa_mono S.gh xs vs h6)
  | urn => cases e
theorem lstA_ok (S : SR c G σ H ε u) (R : RsOk c Hs G H σ ε v r) {ds : List D} (e : lstA r = some ds) : ∃ a vs, v = .ref a ∧ H a = some (.lst vs) ∧ DpAll c.K G vs ds := by
  cases r with
  | val d' => cases e
  | own xs =>
    cases e
    obtain ⟨a, vs, rfl, _, _, _, _, h5, h6⟩ := R
    exact ⟨a, vs, rfl, h5, h6⟩
  | bor i xs =>
    cases e
    obtain ⟨a, vs, rfl, _, _, _, h5, h6⟩ := S.bor R.1 R.2
    exact ⟨a, vs, rfl, h5, h6⟩
  | urn => cases e
end

/-! ### what a rule over values is worth -/
def Op2Ok (X : Cx) (r : R2) (k : Ur → Rs → Rs → Option Rs) : Prop :=
  ∀ (c : Cc) (Hs G H : Hp) (σ : L2.St) (ε : Ev) (u : Ur) (x y : V) (rx ry rz : Rs) (Q : VK), c.K = X.K → SR c G σ H ε u → (∀ a, H a = none → Hs a = none) → RsOk c Hs G H σ ε x rx → RsOk c Hs G H σ ε y ry → k u rx ry = some rz →
    (∀ v G' H', SR c G' σ H' ε u → Ext c.U G H G' H' → RsOk c Hs G' H' σ ε v rz → Q v H') → r x y H Q
def CallOk (X : Cx) (r : List V → Hp → VK → Prop) (k : List Rs → Option Rs) : Prop :=
  ∀ (c : Cc) (Hs G H : Hp) (σ : L2.St) (ε : Ev) (u : Ur) (vs : List V) (as : List Rs) (rz : Rs) (Q : VK), c.K = X.K → SR c G σ H ε u → (∀ a, H a = none → Hs a = none) → ArOk c G σ ε vs as → k as = some rz →
    (∀ v G' H', SR c G' σ H' ε u → Ext c.U G H G' H' → RsOk c Hs G' H' σ ε v rz → Q v H') → r vs H Q

def e_bin (k : Ur → Rs → Rs → Option Rs) (f g : DE) : DE := fun ε u => (f ε u).bind fun p => (g ε p.2).bind fun q => (k q.2 p.1 q.1).map fun r => (r, q.2)
def e_un (k : Rs → Option Rs) (f : DE) : DE := fun ε u => (f ε u).bind fun p => (k p.1).map fun r => (r, p.2)
def a_nil : DA := fun _ u => some ([], u)
def a_cons (f : DE) (g : DA) : DA := fun ε u => (f ε u).bind fun p => (g ε p.2).map fun q => (thaw p.1 :: q.1, q.2)
def e_callB (k : List Rs → Option Rs) (g : DA) : DE := fun ε u => (g ε u).bind fun p => (k p.1).map fun r => (r, p.2)

section
variable {X : Cx}
theorem seq2 {r : R2} {k : Ur → Rs → Rs → Option Rs} {f g : DE} (hk : Op2Ok X r k) : ∀ σ H Q, tD X.K (e_bin k f g) σ H Q → tOp r (tD X.K f) (tD X.K g) σ H Q := by
  rintro σ H Q ⟨c, G, ε, u, z, u', hK, S, e, q⟩
  obtain ⟨⟨r1, u1⟩, e1, e⟩ := Option.bind_eq_some_iff.mp e
  obtain ⟨⟨r2, u2⟩, e2, e⟩ := Option.bind_eq_some_iff.mp e
  obtain ⟨r3, e3, e⟩ := Option.map_eq_some_iff.mp e
  cases e
  refine ⟨c, G, ε, u, r1, u1, hK, S, e1, fun x G1 H1 S1 x1 R1 => ⟨c, G1, ε, u1, r2, u2, hK, S1, e2, fun y G2 H2 S2 x2 R2 => ?_⟩⟩
  have R2' : RsOk c H G2 H2 σ ε y r2 := by
    cases r2 with
    | own ds =>
      obtain ⟨a, vs, k0, k1, k2⟩ := R2
      exact ⟨a, vs, k0, x1.free k1, k2⟩
    | val _ => exact R2
    | bor _ _ => exact R2
    | urn => exact R2
  exact hk c H G2 H2 σ ε u2 x y r1 r2 z Q hK S2 (fun a ea => (x1.trans x2).free ea) (R1.ext x2) R2' e3 fun v G' H' S' x' R' => q v G' H' S' ((x1.trans x2).trans x') R'
variable {a b e : Expr} {es : List Expr} {pos : Pos} {f g : DE}
theorem r_op {op : Operator} {r : R2} {k : Ur → Rs → Rs → Option Rs} (ho : OpR X (binaryOp op) r) (hk : Op2Ok X r k) (ha : PE X a (tD X.K f)) (hb : PE X b (tD X.K g)) : PE X (.BinOp a op b pos) (tD X.K (e_bin k f g)) :=
  pe_imp (pe_op ho ha hb) (seq2 hk)
theorem r_cmp {op : CmpOp} {r : R2} {k : Ur → Rs → Rs → Option Rs} (ho : OpR X (compareOp op) r) (hk : Op2Ok X r k) (ha : PE X a (tD X.K f)) (hb : PE X b (tD X.K g)) (hm : behindInMarks op b = false) :
    PE X (.Compare a [op] [b] pos) (tD X.K (e_bin k f g)) := pe_imp (pe_cmpR ho ha hb hm) (seq2 hk)
theorem r_ix {r : R2} {k : Ur → Rs → Rs → Option Rs} (ho : IxR X r) (hk : Op2Ok X r k) (ha : PE X a (tD X.K f)) (hb : PE X b (tD X.K g)) (hs : PlainIx b) : PE X (.Subscript a b pos) (tD X.K (e_bin k f g)) :=
  pe_imp (pe_ix ho ha hb hs) (seq2 hk)
/-- a test by an expression that gives a bool -/
def asB : Rs → Option Bool
  | .val (.bool b) => some b
  | _ => none
theorem asB_some {r : Rs} {b : Bool} (h : asB r = some b) : r = .val (.bool b) := by
  unfold asB at h
  split at h
  · cases h; rfl
  · cases h
def b_of (f : DE) : DT := fun ε u => (f ε u).bind fun p => (asB p.1).map fun b => (b, p.2)
theorem b_of_some {f : DE} {ε : Ev} {u : Ur} {b : Bool} {u' : Ur} (h : b_of f ε u = some (b, u')) : f ε u = some (.val (.bool b), u') := by
  obtain ⟨⟨r, u1⟩, e1, e2⟩ := Option.bind_eq_some_iff.mp h
  obtain ⟨b', e3, e4⟩ := Option.map_eq_some_iff.mp e2
  cases e4
  have e5 : r = .val (.bool b) := asB_some e3
  rw [e1, e5]
theorem rt_cmp {op : CmpOp} {r : R2} {k : Ur → Rs → Rs → Option Rs} (ho : OpR X (compareOp op) r) (hk : Op2Ok X r k) (ha : PE X a (tD X.K f)) (hb : PE X b (tD X.K g)) (hm : behindInMarks op b = false) :
    PT X (.Compare a [op] [b] pos) (tB X.K (b_of (e_bin k f g))) := by
  refine pt_imp (pt_cmpR ho ha hb hm) fun σ H Q h => ?_
  obtain ⟨c, G, ε, u, z, u', hK, S, e, q⟩ := h
  refine seq2 hk σ H _ ⟨c, G, ε, u, _, u', hK, S, b_of_some e, fun v G' H' S' x' R' => ?_⟩
  cases (show Dp c.K G' v (.bool z) from R')
  exact ⟨z, rfl, q G' H' S' x'⟩
theorem rt_val {e : Expr} (h : PE X e (tD X.K f)) (he : ∀ whole, isTrue e X.env whole = (do let v ← whole; standAt e.pos; holding [v] (truthy v)) := by intro _; rfl) : PT X e (tB X.K (b_of f)) := by
  refine pt_imp (pt_val h he) fun σ H Q h => ?_
  obtain ⟨c, G, ε, u, z, u', hK, S, e, q⟩ := h
  refine ⟨c, G, ε, u, _, u', hK, S, b_of_some e, fun v G' H' S' x' R' => ?_⟩
  cases (show Dp c.K G' v (.bool z) from R')
  exact ⟨z, rfl, q G' H' S' x'⟩
/-! ### arguments, calls of built-ins -/
theorem ra_nil : PA X [] (tA X.K a_nil) := pa_imp pa_nil fun σ H Q h => by
  obtain ⟨c, G, ε, u, rs, u', hK, S, e, q⟩ := h
  cases e
  exact q [] G H S Ext.refl .nil
theorem ra_cons {h : DA} (ha : PE X e (tD X.K f)) (hr : PA X es (tA X.K h)) (hs : starEach (e :: es) X.env = (false, eval e X.env) :: starEach es X.env := by rfl) : PA X (e :: es) (tA X.K (a_cons f h)) := by
  refine pa_imp (pa_cons ha hr hs) fun σ H Q q => ?_
  obtain ⟨c, G, ε, u, rs, u', hK, S, e, q⟩ := q
  obtain ⟨⟨r1, u1⟩, e1, e⟩ := Option.bind_eq_some_iff.mp e
  obtain ⟨⟨r2, u2⟩, e2, e⟩ := Option.map_eq_some_iff.mp e
  cases e
  refine ⟨c, G, ε, u, r1, u1, hK, S, e1, fun x G1 H1 S1 x1 R1 => ?_⟩
  obtain ⟨G2, S2, x2, A2, _⟩ := thaw_ok S S1 x1 R1
  exact ⟨c, G2, ε, u1, r2, u2, hK, S2, e2, fun xs G3 H3 S3 x3 A3 => q (x :: xs) G3 H3 S3 (x2.trans x3) (.cons (A2.ext x3.g) A3)⟩
theorem tcb {r : List V → Hp → VK → Prop} {k : List Rs → Option Rs} {h : DA} (hk : CallOk X r k) : ∀ σ H Q, tD X.K (e_callB k h) σ H Q → tCB r (tA X.K h) σ H Q := by
  rintro σ H Q ⟨c, G, ε, u, z, u', hK, S, e, q⟩
  obtain ⟨⟨r1, u1⟩, e1, e⟩ := Option.bind_eq_some_iff.mp e
  obtain ⟨r3, e3, e⟩ := Option.map_eq_some_iff.mp e
  cases e
  exact ⟨c, G, ε, u, r1, u1, hK, S, e1, fun vs G1 H1 S1 x1 A1 => hk c H G1 H1 σ ε u1 vs r1 z Q hK S1 (fun a ea => x1.free ea) A1 e3 fun v G' H' S' x' R' => q v G' H' S' (x1.trans x') R'⟩
variable {x : Str} {p : Pos} {h : DA} {id T : String} {r : List V → Hp → VK → Prop} {k : List Rs → Option Rs}
theorem r_callB (hk : CallOk X r k) (hc : CallR X (.builtin id) r) (hg : Gl X x) (hm : X.mg x = none) (hv : bootBuiltins x = some (.builtin id)) (ha : PA X (e :: es) (tA X.K h)) (hn : x ≠ "__name__" := by decide) (hdb : (x == ("__debug__" : Str)) = false := by decide)
    (he : starEach (e :: es) X.env = (false, eval e X.env) :: starEach es X.env := by rfl) (hpl : (backTo pos (starEach es X.env)).any (·.1) = false := by rfl) : PE X (.Call (.Name x p) (e :: es) [] pos) (tD X.K (e_callB k h)) :=
  pe_imp (pe_callB hc hg hm hv ha hn hdb he hpl) (tcb hk)
theorem r_callTy (hk : CallOk X r k) (hc : CallR X (.type T) r) (hg : Gl X x) (hm : X.mg x = none) (hv : bootBuiltins x = some (.type T)) (ha : PA X (e :: es) (tA X.K h)) (hn : x ≠ "__name__" := by decide) (hdb : (x == ("__debug__" : Str)) = false := by decide)
    (he : starEach (e :: es) X.env = (false, eval e X.env) :: starEach es X.env := by rfl) (hpl : (backTo pos (starEach es X.env)).any (·.1) = false := by rfl) : PE X (.Call (.Name x p) (e :: es) [] pos) (tD X.K (e_callB k h)) :=
  pe_imp (pe_callTy hc hg hm hv ha hn hdb he hpl) (tcb hk)
theorem r_callBfun (hk : CallOk X r k) (hc : CallR X (.builtin id) r) (hg : Gl X x) (hm : X.mg x = some (.builtin id)) (ha : PA X (e :: es) (tA X.K h)) (hdb : (x == ("__debug__" : Str)) = false := by decide)
    (he : starEach (e :: es) X.env = (false, eval e X.env) :: starEach es X.env := by rfl) (hpl : (backTo pos (starEach es X.env)).any (·.1) = false := by rfl) : PE X (.Call (.Name x p) (e :: es) [] pos) (tD X.K (e_callB k h)) :=
  pe_imp (pe_callBfun hc hg hm ha hdb he hpl) (tcb hk)
end

/-! ### names and constants -/
def e_c (d : D) : DE := fun _ u => some (.val d, u)
def e_var (i : Nat) : DE := fun ε u => match ε[i]? with
  | some (.val d) => some (.val d, u)
  | some (.own ds) => some (.bor i ds, u)
  | some .urn => some (.urn, u)
  | _ => none
/-- a constant of the module, as data -/
structure CV (K : PySem.W.Frag) (mg : Str → Option Value) (x : Str) (d : D) : Prop where
  ex : ∃ v u, mg x = some u ∧ RelV v u ∧ ∀ G, Dp K G v d
section
variable {X : Cx} {pos : Pos}
theorem r_tC {e : Expr} {v : V} {d : D} (h : PE X e (tC v)) (hd : ∀ G, Dp X.K G v d) : PE X e (tD X.K (e_c d)) := pe_imp h fun σ H Q q => by
  obtain ⟨c, G, ε, u, rs, u', hK, S, e, q⟩ := q
  cases e
  exact q v G H S Ext.refl (by rw [← hK] at hd; exact hd G)
theorem r_int {i : Int} {j : Nat} : PE X (.Constant (.int i) j pos) (tD X.K (e_c (.int i))) := r_tC pe_int fun _ => .int i
theorem r_bl {i : Bool} {j : Nat} : PE X (.Constant (.bool i) j pos) (tD X.K (e_c (.bool i))) := r_tC pe_bl fun _ => .bl i
theorem r_non {j : Nat} : PE X (.Constant .none j pos) (tD X.K (e_c .none)) := r_tC pe_non fun _ => .non
theorem r_str {i : Str} {j : Nat} : PE X (.Constant (.str i) j pos) (tD X.K (e_c (.str i))) := r_tC pe_str fun _ => .str i
theorem r_glob {x : Str} {d : D} (hc : CV X.K X.mg x d) (hg : Gl X x) (hd : (x == ("__debug__" : Str)) = false := by decide) : PE X (.Name x pos) (tD X.K (e_c d)) := by
  obtain ⟨v, u, hm, r, h⟩ := hc.ex
  exact r_tC (pe_glob hg hm r hd) h
theorem r_var (i : Nat) {x : Str} (hN : X.N[i]? = some x := by rfl) (hv : Vis X.env.scope x := by first | exact Or.inl rfl | exact Or.inr (Or.inl rfl) | exact Or.inr (Or.inr rfl)) (hd : (x == ("__debug__" : Str)) = false := by decide)
    (hcd : (x == ("__classdict__" : Str)) = false := by decide) : PE X (.Name x pos) (tD X.K (e_var i)) := pe_imp (pe_var hN hv hd hcd) fun σ H Q q => by
  obtain ⟨c, G, ε, u, r, u', hK, S, e, q⟩ := q
  have e : (match ε[i]? with
    | some (.val d) => some (Rs.val d, u)
    | some (.own ds) => some (.bor i ds, u)
    | some .urn => some (.urn, u)
    | _ => none) = some (r, u') := e
  cases ei : ε[i]? with
  | none => rw [ei] at e; cases e
  | some s =>
    rw [ei] at e
    obtain ⟨vo, k1, k2⟩ := S.sl i s ei
    cases s with
    | un => cases e
    | val d =>
      cases e
      obtain ⟨v, rfl, k⟩ := k2
      exact ⟨v, k1, q v G H S Ext.refl k⟩
    | own ds =>
      cases e
      obtain ⟨a, vs, rfl, _⟩ := id k2
      exact ⟨.ref a, k1, q (.ref a) G H S Ext.refl ⟨ei, k1⟩⟩
    | urn =>
      cases e
      obtain ⟨a, k3, rfl⟩ := k2
      exact ⟨.ref a, k1, q (.ref a) G H S Ext.refl ⟨a, k3, rfl⟩⟩
end

/-! ### displays -/
def dats : List Rs → Option (List D)
  | [] => some []
  | .val d :: rs => (dats rs).map (d :: ·)
  | _ :: _ => none
theorem dats_ok {c : Cc} {G : Hp} {σ : L2.St} {ε : Ev} : ∀ {vs : List V} {rs : List Rs} {ds : List D}, ArOk c G σ ε vs rs → dats rs = some ds → DpAll c.K G vs ds
  | _, _, _, .nil, e => by cases e; exact .nil
  | _, r :: rs, ds, .cons a t, e => by
    cases r with
    | val d =>
      obtain ⟨es, e1, e2⟩ := Option.map_eq_some_iff.mp e
      cases e2
      exact .cons a (dats_ok t e1)
    | own _ => cases e
    | bor _ _ => cases e
    | urn => cases e
/-- a question that the kernel never answers by reckoning -/
def cd (p : Prop) : Bool := @decide p (Classical.propDecidable p)
theorem cd_t {p : Prop} (h : p) : cd p = true := @decide_eq_true p (Classical.propDecidable p) h
theorem cd_of {p : Prop} (h : cd p = true) : p := @of_decide_eq_true p (Classical.propDecidable p) h
def lim (n : Nat) : Bool := cd (n ≤ 16777216)
theorem lim_ok {n : Nat} (h : lim n = true) : n ≤ sizeLine := by
  rw [sizeLine_eq]
  exact cd_of h
def e_tup (g : DA) : DE := fun ε u => (g ε u).bind fun p => (dats p.1).bind fun ds => if lim ds.length then some (.val (.tuple ds), p.2) else none
def e_lst (g : DA) : DE := fun ε u => (g ε u).bind fun p => (dats p.1).bind fun ds => if lim ds.length then some (.own ds, p.2) else none
section
variable {X : Cx} {pos : Pos} {es : List Expr} {g : DA}
theorem r_tup {x1} (h : PA X es (tA X.K g)) : PE X (.Tuple es x1 pos) (tD X.K (e_tup g)) := pe_imp (pe_tup h) fun σ H Q q => by
  obtain ⟨c, G, ε, u, r, u', hK, S, e, q⟩ := q
  obtain ⟨⟨r1, u1⟩, e1, e⟩ := Option.bind_eq_some_iff.mp e
  obtain ⟨ds, e2, e⟩ := Option.bind_eq_some_iff.mp e
  have e : (if lim ds.length = true then some (Rs.val (.tuple ds), u1) else none) = some (r, u') := e
  split at e
  · rename_i hl
    cases e
    refine ⟨c, G, ε, u, r1, _, hK, S, e1, fun vs G1 H1 S1 x1 A1 => ?_⟩
    have hd := dats_ok A1 e2
    refine ⟨by rw [dpa_len hd]; exact lim_ok hl, fun p hp => ?_⟩
    obtain ⟨S2, x2, d2⟩ := S1.tup hp hd
    exact q _ _ _ S2 (x1.trans x2) d2
  · cases e
theorem r_lst (h : PA X es (tA X.K g)) : PE X (.List es pos) (tD X.K (e_lst g)) := pe_imp (pe_lst h) fun σ H Q q => by
  obtain ⟨c, G, ε, u, r, u', hK, S, e, q⟩ := q
  obtain ⟨⟨r1, u1⟩, e1, e⟩ := Option.bind_eq_some_iff.mp e
  obtain ⟨ds, e2, e⟩ := Option.bind_eq_some_iff.mp e
  have e : (if lim ds.length = true then some (Rs.own ds, u1) else none) = some (r, u') := e
  split at e
  · rename_i hl
    cases e
    refine ⟨c, G, ε, u, r1, _, hK, S, e1, fun vs G1 H1 S1 x1 A1 => ?_⟩
    have hd := dats_ok A1 e2
    refine ⟨by rw [dpa_len hd]; exact lim_ok hl, fun p hp => ?_⟩
    obtain ⟨S2, x2, d2⟩ := S1.lst hp (x1.free hp) hd
    exact q _ _ _ S2 (x1.trans x2) d2
  · cases e
end

/-! ### and, or, not, if .. else -/
def e_and (f g : DE) : DE := fun ε u => (b_of f ε u).bind fun p => if p.1 then g ε p.2 else some (.val (.bool false), p.2)
def e_or (f g : DE) : DE := fun ε u => (b_of f ε u).bind fun p => if p.1 then some (.val (.bool true), p.2) else g ε p.2
def e_not (f : DE) : DE := fun ε u => (b_of f ε u).map fun p => (.val (.bool (!p.1)), p.2)
def b_and (f g : DT) : DT := fun ε u => (f ε u).bind fun p => if p.1 then g ε p.2 else some (false, p.2)
def b_or (f g : DT) : DT := fun ε u => (f ε u).bind fun p => if p.1 then some (true, p.2) else g ε p.2
def b_not (f : DT) : DT := fun ε u => (f ε u).map fun p => (!p.1, p.2)
def e_if (t : DT) (f g : DE) : DE := fun ε u => (t ε u).bind fun p => if p.1 then f ε p.2 else g ε p.2
section
variable {X : Cx} {pos : Pos} {a b cnd : Expr} {rest : List Expr} {f g : DE} {t s : DT}
/-- a result found later in growth -/
theorem RsOk.back {c : Cc} {U : Option Addr} {G H G1 H1 G2 H2 : Hp} {σ : L2.St} {ε : Ev} {v : V} {r : Rs} (x : Ext U G H G1 H1) (R : RsOk c H1 G2 H2 σ ε v r) : RsOk c H G2 H2 σ ε v r := by
  cases r with
  | own ds =>
    obtain ⟨a, vs, k0, k1, k2⟩ := R
    exact ⟨a, vs, k0, x.free k1, k2⟩
  | val _ => exact R
  | bor _ _ => exact R
  | urn => exact R
theorem r_one {op} (h : PE X a (tD X.K f)) : PE X (.BoolOp op [a] pos) (tD X.K f) := pe_one h
theorem r_and (ha : PE X a (tD X.K f)) (hb : PE X (.BoolOp .And (b :: rest) pos) (tD X.K g)) : PE X (.BoolOp .And (a :: b :: rest) pos) (tD X.K (e_and f g)) := pe_imp (pe_and ha hb) fun σ H Q q => by
  obtain ⟨c, G, ε, u, r, u', hK, S, e, q⟩ := q
  obtain ⟨⟨k, u1⟩, e1, e⟩ := Option.bind_eq_some_iff.mp e
  refine ⟨c, G, ε, u, _, u1, hK, S, b_of_some e1, fun v G1 H1 S1 x1 R1 => ?_⟩
  cases (show Dp c.K G1 v (.bool k) from R1)
  refine ⟨k, rfl, ?_⟩
  cases k with
  | true =>
    rw [if_pos rfl]
    exact ⟨c, G1, ε, u1, r, u', hK, S1, e, fun v G' H' S' x' R' => q v G' H' S' (x1.trans x') (R'.back x1)⟩
  | false =>
    rw [if_neg Bool.false_ne_true]
    cases e
    exact q _ G1 H1 S1 x1 (.bl false)
theorem r_or (ha : PE X a (tD X.K f)) (hb : PE X (.BoolOp .Or (b :: rest) pos) (tD X.K g)) : PE X (.BoolOp .Or (a :: b :: rest) pos) (tD X.K (e_or f g)) := pe_imp (pe_or ha hb) fun σ H Q q => by
  obtain ⟨c, G, ε, u, r, u', hK, S, e, q⟩ := q
  obtain ⟨⟨k, u1⟩, e1, e⟩ := Option.bind_eq_some_iff.mp e
  refine ⟨c, G, ε, u, _, u1, hK, S, b_of_some e1, fun v G1 H1 S1 x1 R1 => ?_⟩
  cases (show Dp c.K G1 v (.bool k) from R1)
  refine ⟨k, rfl, ?_⟩
  cases k with
  | false =>
    rw [if_neg Bool.false_ne_true]
    exact ⟨c, G1, ε, u1, r, u', hK, S1, e, fun v G' H' S' x' R' => q v G' H' S' (x1.trans x') (R'.back x1)⟩
  | true =>
    rw [if_pos rfl]
    cases e
    exact q _ G1 H1 S1 x1 (.bl true)
theorem r_not (ha : PE X a (tD X.K f)) : PE X (.UnaryOp .Not a pos) (tD X.K (e_not f)) := pe_imp (pe_not ha) fun σ H Q q => by
  obtain ⟨c, G, ε, u, r, u', hK, S, e, q⟩ := q
  obtain ⟨⟨k, u1⟩, e1, e⟩ := Option.map_eq_some_iff.mp e
  cases e
  refine ⟨c, G, ε, u, _, u1, hK, S, b_of_some e1, fun v G1 H1 S1 x1 R1 => ?_⟩
  cases (show Dp c.K G1 v (.bool k) from R1)
  exact ⟨k, rfl, q _ G1 H1 S1 x1 (.bl _)⟩
theorem rw_and1 (h : PT X a (tB X.K t)) : PW X (.BoolOp .And [a] pos) (tB X.K t) := pw_and1 h
theorem rw_or1 (h : PT X a (tB X.K t)) : PW X (.BoolOp .Or [a] pos) (tB X.K t) := pw_or1 h
theorem rw_and (ha : PT X a (tB X.K t)) (hb : PW X (.BoolOp .And (b :: rest) pos) (tB X.K s)) : PW X (.BoolOp .And (a :: b :: rest) pos) (tB X.K (b_and t s)) := pw_imp (pw_and ha hb) fun σ H Q q => by
  obtain ⟨c, G, ε, u, r, u', hK, S, e, q⟩ := q
  obtain ⟨⟨k, u1⟩, e1, e⟩ := Option.bind_eq_some_iff.mp e
  refine ⟨c, G, ε, u, _, u1, hK, S, e1, fun G1 H1 S1 x1 => ?_⟩
  cases k with
  | true =>
    rw [if_pos rfl]
    exact ⟨c, G1, ε, u1, r, u', hK, S1, e, fun G' H' S' x' => q G' H' S' (x1.trans x')⟩
  | false =>
    rw [if_neg Bool.false_ne_true]
    cases e
    exact q G1 H1 S1 x1
theorem rw_or (ha : PT X a (tB X.K t)) (hb : PW X (.BoolOp .Or (b :: rest) pos) (tB X.K s)) : PW X (.BoolOp .Or (a :: b :: rest) pos) (tB X.K (b_or t s)) := pw_imp (pw_or ha hb) fun σ H Q q => by
  obtain ⟨c, G, ε, u, r, u', hK, S, e, q⟩ := q
  obtain ⟨⟨k, u1⟩, e1, e⟩ := Option.bind_eq_some_iff.mp e
  refine ⟨c, G, ε, u, _, u1, hK, S, e1, fun G1 H1 S1 x1 => ?_⟩
  cases k with
  | false =>
    rw [if_neg Bool.false_ne_true]
    exact ⟨c, G1, ε, u1, r, u', hK, S1, e, fun G' H' S' x' => q G' H' S' (x1.trans x')⟩
  | true =>
    rw [if_pos rfl]
    cases e
    exact q G1 H1 S1 x1
theorem rt_not (ha : PT X a (tB X.K t)) : PT X (.UnaryOp .Not a pos) (tB X.K (b_not t)) := pt_imp (pt_not ha) fun σ H Q q => by
  obtain ⟨c, G, ε, u, r, u', hK, S, e, q⟩ := q
  obtain ⟨⟨k, u1⟩, e1, e⟩ := Option.map_eq_some_iff.mp e
  cases e
  exact ⟨c, G, ε, u, _, u1, hK, S, e1, fun G1 H1 S1 x1 => q G1 H1 S1 x1⟩
theorem r_if (hc : PT X cnd (tB X.K t)) (ha : PE X a (tD X.K f)) (hb : PE X b (tD X.K g)) : PE X (.IfExp cnd a b pos) (tD X.K (e_if t f g)) := pe_imp (pe_ifExp hc ha hb) fun σ H Q q => by
  obtain ⟨c, G, ε, u, r, u', hK, S, e, q⟩ := q
  obtain ⟨⟨k, u1⟩, e1, e⟩ := Option.bind_eq_some_iff.mp e
  refine ⟨c, G, ε, u, _, u1, hK, S, e1, fun G1 H1 S1 x1 => ?_⟩
  cases k with
  | true =>
    rw [if_pos rfl]
    exact ⟨c, G1, ε, u1, r, u', hK, S1, e, fun v G' H' S' x' R' => q v G' H' S' (x1.trans x') (R'.back x1)⟩
  | false =>
    rw [if_neg Bool.false_ne_true]
    exact ⟨c, G1, ε, u1, r, u', hK, S1, e, fun v G' H' S' x' R' => q v G' H' S' (x1.trans x') (R'.back x1)⟩
end
end Dl
end
end

section
set_option Elab.async false
set_option linter.all false
set_option maxRecDepth 100000
/-! The data layer, part C: operators and built-ins. -/
noncomputable section
namespace Dl
open PySem PySem.Spec PyProof.Rows L2

/-! ### operators -/
def addD : D → D → Option Rs
  | .int i, .int j => some (.val (.int (i + j)))
  | .tuple xs, .tuple ys => if lim (xs.length + ys.length) then some (.val (.tuple (xs ++ ys))) else none
  | .str x, .str y => if lim (x.length + y.length) then some (.val (.str (x ++ y))) else none
  | _, _ => none
def k_add : Ur → Rs → Rs → Option Rs := fun _ a b => match a, b with
  | .val d, .val e => addD d e
  | a, b => (lstA a).bind fun xs => (lstA b).bind fun ys => if lim (xs.length + ys.length) then some (.own (xs ++ ys)) else none
def intI (f : Int → Int → Option D) : Rs → Rs → Option Rs
  | .val (.int i), .val (.int j) => (f i j).map .val
  | _, _ => none
def k_sub : Ur → Rs → Rs → Option Rs := fun _ => intI fun i j => some (.int (i - j))
def BIG : Nat := 2 ^ 8000
def mulOk (i j : Int) : Bool := cd (i.natAbs < 2 ^ 64 ∨ j.natAbs < 2 ^ 64 ∨ (i.natAbs < BIG ∧ j.natAbs < BIG))
def mulD : D → D → Option Rs
  | .int i, .int j => if mulOk i j then some (.val (.int (i * j))) else none
  | _, _ => none
def k_mul : Ur → Rs → Rs → Option Rs := fun _ a b => match a, b with
  | .val d, .val e => mulD d e
  | a, .val (.int n) => (lstA a).bind fun xs => if cd (0 ≤ n ∧ n < 2 ^ 62) && lim (xs.length * n.toNat) then some (.own (List.replicate n.toNat xs).flatten) else none
  | _, _ => none
def k_div : Ur → Rs → Rs → Option Rs := fun _ => intI fun i j => if cd (0 < j ∧ j.natAbs < BIG) = true then some (.int (i / j)) else none
def k_mod : Ur → Rs → Rs → Option Rs := fun _ => intI fun i j => if 0 < j then some (.int (i % j)) else none
def k_pow : Ur → Rs → Rs → Option Rs := fun _ => intI fun i j => if cd (0 ≤ j ∧ j ≤ 1000 ∧ i.natAbs < 2 ^ 64) = true then some (.int (i ^ j.toNat)) else none
def k_lt : Ur → Rs → Rs → Option Rs := fun _ => intI fun i j => some (.bool (decide (i < j)))
def k_le : Ur → Rs → Rs → Option Rs := fun _ => intI fun i j => some (.bool (decide (i ≤ j)))
def k_gt : Ur → Rs → Rs → Option Rs := fun _ => intI fun i j => some (.bool (decide (j < i)))
def k_ge : Ur → Rs → Rs → Option Rs := fun _ => intI fun i j => some (.bool (decide (j ≤ i)))
def k_neg : Rs → Option Rs
  | .val (.int i) => some (.val (.int (-i)))
  | _ => none
def eqD (d e : D) : Option Bool := if SeqAt.shaped d && SeqAt.shaped e then some (PyData.eqv d e) else none
def k_eq : Ur → Rs → Rs → Option Rs := fun _ a b => (view a).bind fun d => (view b).bind fun e => (eqD d e).map fun k => .val (.bool k)
def k_ne : Ur → Rs → Rs → Option Rs := fun _ a b => (view a).bind fun d => (view b).bind fun e => (eqD d e).map fun k => .val (.bool (!k))
def isNon : Rs → Bool
  | .val .none => true
  | _ => false
def k_isN : Ur → Rs → Rs → Option Rs := fun _ a b => match b with
  | .val .none => some (.val (.bool (isNon a)))
  | _ => none
def k_notN : Ur → Rs → Rs → Option Rs := fun _ a b => match b with
  | .val .none => some (.val (.bool (!isNon a)))
  | _ => none
def k_isB : Ur → Rs → Rs → Option Rs := fun _ a b => (asB a).bind fun x => (asB b).map fun y => .val (.bool (decide (x = y)))
def k_notB : Ur → Rs → Rs → Option Rs := fun _ a b => (asB a).bind fun x => (asB b).map fun y => .val (.bool (!decide (x = y)))
def inD (d : D) (ds : List D) : Option Bool := if SeqAt.shaped d && SeqAt.shaped (.list ds) then some (ds.any fun y => PyData.eqv y d) else none
def k_in : Ur → Rs → Rs → Option Rs := fun _ a b => (view a).bind fun d => (seqA b).bind fun q => (inD d q.2).map fun k => .val (.bool k)
def k_notin : Ur → Rs → Rs → Option Rs := fun _ a b => (view a).bind fun d => (seqA b).bind fun q => (inD d q.2).map fun k => .val (.bool (!k))
def k_ix : Ur → Rs → Rs → Option Rs := fun u a b => match a, b with
  | .urn, .val (.int i) => (atI u i).map fun z => .val (.int z)
  | a, .val (.int i) => (seqA a).bind fun q => (atI q.2 i).map .val
  | _, _ => none

section
variable {X : Cx}
theorem intI_some {f : Int → Int → Option D} {a b z : Rs} (h : intI f a b = some z) : ∃ i j d, a = .val (.int i) ∧ b = .val (.int j) ∧ f i j = some d ∧ z = .val d := by
  unfold intI at h
  split at h
  · obtain ⟨d, e1, e2⟩ := Option.map_eq_some_iff.mp h
    exact ⟨_, _, d, rfl, rfl, e1, e2.symm⟩
  · cases h
/-- two ints -/
theorem ok_int {C : Int → Int → Prop} {g : Int → Int → V} {f : Int → Int → Option D} (h : ∀ i j d, f i j = some d → C i j ∧ ∀ K G, Dp K G (g i j) d) : Op2Ok X (rI C g) (fun _ => intI f) := by
  intro c Hs G H σ ε u x y rx ry rz Q hK S hs R1 R2 e q
  obtain ⟨i, j, d, rfl, rfl, e1, rfl⟩ := intI_some e
  cases (show Dp c.K G x (.int i) from R1)
  cases (show Dp c.K G y (.int j) from R2)
  exact ⟨i, j, rfl, rfl, (h i j d e1).1, q _ G H S Ext.refl ((h i j d e1).2 _ _)⟩
theorem ok_int0 {g : Int → Int → V} {f : Int → Int → Option D} (h : ∀ i j d, f i j = some d → ∀ K G, Dp K G (g i j) d) : Op2Ok X (rI0 g) (fun _ => intI f) := by
  intro c Hs G H σ ε u x y rx ry rz Q hK S hs R1 R2 e q
  obtain ⟨i, j, d, rfl, rfl, e1, rfl⟩ := intI_some e
  cases (show Dp c.K G x (.int i) from R1)
  cases (show Dp c.K G y (.int j) from R2)
  exact ⟨i, j, rfl, rfl, q _ G H S Ext.refl (h i j d e1 _ _)⟩
theorem ok_sub : Op2Ok X (rI0 fun i j => .int (i - j)) k_sub := ok_int0 fun i j d e K G => by cases e; exact .int _
theorem ok_lt : Op2Ok X (rI0 fun i j => .bl (decide (i < j))) k_lt := ok_int0 fun i j d e K G => by cases e; exact .bl _
theorem ok_le : Op2Ok X (rI0 fun i j => .bl (decide (i ≤ j))) k_le := ok_int0 fun i j d e K G => by cases e; exact .bl _
theorem ok_gt : Op2Ok X (rI0 fun i j => .bl (decide (j < i))) k_gt := ok_int0 fun i j d e K G => by cases e; exact .bl _
theorem ok_ge : Op2Ok X (rI0 fun i j => .bl (decide (j ≤ i))) k_ge := ok_int0 fun i j d e K G => by cases e; exact .bl _
theorem ok_mod : Op2Ok X (rI (fun _ j => 0 < j) fun i j => .int (i % j)) k_mod := ok_int fun i j d e => by
  split at e
  · rename_i h
    cases e
    exact ⟨h, fun K G => .int _⟩
  · cases e
theorem ok_div : Op2Ok X (rI CDivW fun i j => .int (i / j)) k_div := ok_int fun i j d e => by
  split at e
  · rename_i h
    cases e
    exact ⟨wide_div (cd_of h).1 (b := 8000) (cd_of h).2 (by decide) (by decide), fun K G => .int _⟩
  · cases e
theorem ok_pow : Op2Ok X (rI CPow fun i j => .int (i ^ j.toNat)) k_pow := ok_int fun i j d e => by
  split at e
  · rename_i h
    cases e
    have h := cd_of h
    exact ⟨⟨h.1, by omega, h.2.2⟩, fun K G => .int _⟩
  · cases e
theorem ok_mulI {i j : Int} (h : mulOk i j = true) : CMul i j ∨ CMulW i j := by
  rcases cd_of h with h | h | h
  · exact .inl (.inl ⟨by omega, by omega⟩)
  · exact .inl (.inr ⟨by omega, by omega⟩)
  · exact .inr (wide_mul (a := 8000) (b := 8000) h.1 h.2 (by decide) (by decide) (by decide))

/-- + -/
def rAddS : R2 := fun x y H Q => ∃ i j, x = .str i ∧ y = .str j ∧ i.length + j.length ≤ sizeLine ∧ Q (.str (i ++ j)) H
def rAddA (K : PySem.W.Frag) : R2 := fun x y H Q => (rI0 fun i j => .int (i + j)) x y H Q ∨ (rCatA K x y H Q ∨ (rAddS x y H Q ∨ rCat x y H Q))
theorem op_addA : OpR X (binaryOp .Add) (rAddA X.K) := op_add.or (op_catA.or (op_add_str.or op_cat))
theorem ok_add : Op2Ok X (rAddA X.K) k_add := by
  intro c Hs G H σ ε u x y rx ry rz Q hK S hs R1 R2 e q
  have lists : ∀ (e : ((lstA rx).bind fun xs => (lstA ry).bind fun ys => if lim (xs.length + ys.length) = true then some (Rs.own (xs ++ ys)) else none) = some rz), rAddA X.K x y H Q := fun e => by
    obtain ⟨xs, e1, e⟩ := Option.bind_eq_some_iff.mp e
    obtain ⟨ys, e2, e⟩ := Option.bind_eq_some_iff.mp e
    have e : (if lim (xs.length + ys.length) = true then some (Rs.own (xs ++ ys)) else none) = some rz := e
    split at e
    · rename_i hl
      cases e
      obtain ⟨a, vs, rfl, h1, k1⟩ := lstA_ok S R1 e1
      obtain ⟨b, ws, rfl, h2, k2⟩ := lstA_ok S R2 e2
      refine .inr (.inr (.inr ⟨a, b, vs, ws, rfl, rfl, h1, h2, ?_, fun p hp => ?_⟩))
      · rw [dpa_len k1, dpa_len k2]; exact lim_ok hl
      · obtain ⟨S2, x2, d2⟩ := S.lst hp (hs p hp) (dpa_app k1 k2)
        exact q _ _ _ S2 x2 d2
    · cases e
  cases rx with
  | val d =>
    cases ry with
    | val d' =>
      have e : addD d d' = some rz := e
      cases d with
      | int i =>
        cases d' with
        | int j =>
          cases e
          cases (show Dp c.K G x (.int _) from R1)
          cases (show Dp c.K G y (.int _) from R2)
          exact .inl ⟨_, _, rfl, rfl, q _ G H S Ext.refl (.int _)⟩
        | _ => cases e
      | tuple xs =>
        cases d' with
        | tuple ys =>
          have e : (if lim (xs.length + ys.length) = true then some (Rs.val (.tuple (xs ++ ys))) else none) = some rz := e
          split at e
          · rename_i hl
            cases e
            obtain ⟨a, vs, rfl, h1, k1⟩ := seqA_ok (b := true) (ds := xs) S R1 rfl
            obtain ⟨b, ws, rfl, h2, k2⟩ := seqA_ok (b := true) (ds := ys) S R2 rfl
            have h1 : SqT X.K H a vs := by rw [← hK]; exact h1
            have h2 : SqT X.K H b ws := by rw [← hK]; exact h2
            have l1 := dpa_len k1
            have l2 := dpa_len k2
            refine .inr (.inl ⟨a, b, vs, ws, rfl, rfl, h1, h2, by rw [l1, l2]; exact lim_ok hl, fun z => ?_, fun z1 z => ?_, fun z1 z2 p hp => ?_⟩)
            · subst z
              have z' : xs = [] := List.eq_nil_of_length_eq_zero l1.symm
              subst z'
              exact q _ G H S Ext.refl R2
            · subst z
              have z' : ys = [] := List.eq_nil_of_length_eq_zero l2.symm
              subst z'
              rw [List.append_nil] at q
              exact q _ G H S Ext.refl R1
            · obtain ⟨S2, x2, d2⟩ := S.tup hp (dpa_app k1 k2)
              exact q _ _ _ S2 x2 d2
          · cases e
        | _ => cases e
      | str x' =>
        cases d' with
        | str y' =>
          have e : (if lim (x'.length + y'.length) = true then some (Rs.val (.str (x' ++ y'))) else none) = some rz := e
          split at e
          · rename_i hl
            cases e
            cases (show Dp c.K G x (.str _) from R1)
            cases (show Dp c.K G y (.str _) from R2)
            exact .inr (.inr (.inl ⟨_, _, rfl, rfl, lim_ok hl, q _ G H S Ext.refl (.str _)⟩))
          · cases e
        | _ => cases e
      | none => cases e
      | bool _ => cases e
      | list _ => cases e
      | dict _ => cases e
    | own _ => exact lists e
    | bor _ _ => exact lists e
    | urn => exact lists e
  | own _ => exact lists e
  | bor _ _ => exact lists e
  | urn => exact lists e
/-- * -/
def rMulA : R2 := fun x y H Q => (rI CMul fun i j => .int (i * j)) x y H Q ∨ ((rI CMulW fun i j => .int (i * j)) x y H Q ∨ rRep x y H Q)
theorem op_mulA : OpR X (binaryOp .Mult) rMulA := op_mul.or (op_mulW.or op_rep)
theorem ok_mul : Op2Ok X rMulA k_mul := by
  intro c Hs G H σ ε u x y rx ry rz Q hK S hs R1 R2 e q
  have lists : ∀ (n : Int), ry = .val (.int n) → ((lstA rx).bind fun xs => if (cd (0 ≤ n ∧ n < 2 ^ 62) && lim (xs.length * n.toNat)) = true then some (Rs.own (List.replicate n.toNat xs).flatten) else none) = some rz → rMulA x y H Q := fun n en e' => by
    subst en
    obtain ⟨xs, e1, e⟩ := Option.bind_eq_some_iff.mp e'
    have e : (if (cd (0 ≤ n ∧ n < 2 ^ 62) && lim (xs.length * n.toNat)) = true then some (Rs.own (List.replicate n.toNat xs).flatten) else none) = some rz := e
    split at e
    · rename_i hl
      cases e
      rw [Bool.and_eq_true] at hl
      obtain ⟨a, vs, rfl, h1, k1⟩ := lstA_ok S R1 e1
      cases (show Dp c.K G y (.int _) from R2)
      have hb := cd_of hl.1
      refine .inr (.inr ⟨a, n, vs, rfl, rfl, h1, by omega, by omega, ?_, fun p hp => ?_⟩)
      · rw [dpa_len k1]; exact lim_ok hl.2
      · obtain ⟨S2, x2, d2⟩ := S.lst hp (hs p hp) (dpa_rep k1 n.toNat)
        exact q _ _ _ S2 x2 d2
    · cases e
  cases rx with
  | val d =>
    cases ry with
    | val d' =>
      have e : mulD d d' = some rz := e
      unfold mulD at e
      split at e
      · split at e
        · rename_i hl
          cases e
          cases (show Dp c.K G x (.int _) from R1)
          cases (show Dp c.K G y (.int _) from R2)
          rcases ok_mulI hl with hl | hl
          · exact .inl ⟨_, _, rfl, rfl, hl, q _ G H S Ext.refl (.int _)⟩
          · exact .inr (.inl ⟨_, _, rfl, rfl, hl, q _ G H S Ext.refl (.int _)⟩)
        · cases e
      · cases e
    | own _ => cases e
    | bor _ _ => cases e
    | urn => cases e
  | own xs =>
    cases ry with
    | val d' =>
      cases d' with
      | int n => exact lists n rfl e
      | _ => cases e
    | own _ => cases e
    | bor _ _ => cases e
    | urn => cases e
  | bor i xs =>
    cases ry with
    | val d' =>
      cases d' with
      | int n => exact lists n rfl e
      | _ => cases e
    | own _ => cases e
    | bor _ _ => cases e
    | urn => cases e
  | urn =>
    cases ry with
    | val d' =>
      cases d' with
      | int n => exact lists n rfl e
      | _ => cases e
    | own _ => cases e
    | bor _ _ => cases e
    | urn => cases e
/-- == and != -/
theorem eqD_some {d e : D} {k : Bool} (h : eqD d e = some k) : SeqAt.shaped d = true ∧ SeqAt.shaped e = true ∧ k = PyData.eqv d e := by
  unfold eqD at h
  split at h
  · rename_i z
    rw [Bool.and_eq_true] at z
    cases h
    exact ⟨z.1, z.2, rfl⟩
  · cases h
theorem ok_eq : Op2Ok X (rEqD X.K) k_eq := by
  intro c Hs G H σ ε u x y rx ry rz Q hK S hs R1 R2 e q
  obtain ⟨d, e1, e⟩ := Option.bind_eq_some_iff.mp e
  obtain ⟨d', e2, e⟩ := Option.bind_eq_some_iff.mp e
  obtain ⟨k, e3, e⟩ := Option.map_eq_some_iff.mp e
  cases e
  obtain ⟨s1, s2, rfl⟩ := eqD_some e3
  have h1 := view_ok S R1 e1
  have h2 := view_ok S R2 e2
  rw [hK] at h1 h2
  exact ⟨d, d', h1, h2, s1, s2, q _ G H S Ext.refl (.bl _)⟩
theorem ok_ne : Op2Ok X (rNeD X.K) k_ne := by
  intro c Hs G H σ ε u x y rx ry rz Q hK S hs R1 R2 e q
  obtain ⟨d, e1, e⟩ := Option.bind_eq_some_iff.mp e
  obtain ⟨d', e2, e⟩ := Option.bind_eq_some_iff.mp e
  obtain ⟨k, e3, e⟩ := Option.map_eq_some_iff.mp e
  cases e
  obtain ⟨s1, s2, rfl⟩ := eqD_some e3
  have h1 := view_ok S R1 e1
  have h2 := view_ok S R2 e2
  rw [hK] at h1 h2
  exact ⟨d, d', h1, h2, s1, s2, q _ G H S Ext.refl (.bl _)⟩
/-- is None -/
theorem isNon_ok {c : Cc} {Hs G H : Hp} {σ : L2.St} {ε : Ev} {v : V} {r : Rs} (R : RsOk c Hs G H σ ε v r) (S : ∀ i ds, r = .bor i ds → ∃ a, v = .ref a) : decide (v = V.non) = isNon r := by
  cases r with
  | val d =>
    cases d with
    | none => cases (show Dp c.K G v .none from R); rfl
    | bool b => cases (show Dp c.K G v (.bool b) from R); rfl
    | int b => cases (show Dp c.K G v (.int b) from R); rfl
    | str b => cases (show Dp c.K G v (.str b) from R); rfl
    | list b => cases (show Dp c.K G v (.list b) from R); rfl
    | tuple b => cases (show Dp c.K G v (.tuple b) from R); rfl
    | dict b => cases (show Dp c.K G v (.dict b) from R)
  | own ds => obtain ⟨a, vs, rfl, _⟩ := R; rfl
  | bor i ds => obtain ⟨a, rfl⟩ := S i ds rfl; rfl
  | urn => obtain ⟨a, _, rfl⟩ := R; rfl
theorem ok_isN : Op2Ok X (fun x y H Q => y = .non ∧ Q (.bl (decide (x = .non))) H) k_isN := by
  intro c Hs G H σ ε u x y rx ry rz Q hK S hs R1 R2 e q
  unfold k_isN at e
  split at e
  · cases e
    cases (show Dp c.K G y .none from R2)
    refine ⟨rfl, ?_⟩
    rw [isNon_ok R1 fun i ds z => by
      subst z
      obtain ⟨a, vs, h, _⟩ := S.bor R1.1 R1.2
      exact ⟨a, h⟩]
    exact q _ G H S Ext.refl (.bl _)
  · cases e
theorem ok_notN : Op2Ok X (fun x y H Q => y = .non ∧ Q (.bl (!decide (x = .non))) H) k_notN := by
  intro c Hs G H σ ε u x y rx ry rz Q hK S hs R1 R2 e q
  unfold k_notN at e
  split at e
  · cases e
    cases (show Dp c.K G y .none from R2)
    refine ⟨rfl, ?_⟩
    rw [isNon_ok R1 fun i ds z => by
      subst z
      obtain ⟨a, vs, h, _⟩ := S.bor R1.1 R1.2
      exact ⟨a, h⟩]
    exact q _ G H S Ext.refl (.bl _)
  · cases e
theorem ok_isB : Op2Ok X rIsB k_isB := by
  intro c Hs G H σ ε u x y rx ry rz Q hK S hs R1 R2 e q
  obtain ⟨d, e1, e⟩ := Option.bind_eq_some_iff.mp e
  obtain ⟨d', e2, e⟩ := Option.map_eq_some_iff.mp e
  cases e
  cases asB_some e1
  cases asB_some e2
  cases (show Dp c.K G x (.bool d) from R1)
  cases (show Dp c.K G y (.bool d') from R2)
  exact ⟨d, d', rfl, rfl, q _ G H S Ext.refl (.bl _)⟩
theorem ok_notB : Op2Ok X rNotB k_notB := by
  intro c Hs G H σ ε u x y rx ry rz Q hK S hs R1 R2 e q
  obtain ⟨d, e1, e⟩ := Option.bind_eq_some_iff.mp e
  obtain ⟨d', e2, e⟩ := Option.map_eq_some_iff.mp e
  cases e
  cases asB_some e1
  cases asB_some e2
  cases (show Dp c.K G x (.bool d) from R1)
  cases (show Dp c.K G y (.bool d') from R2)
  exact ⟨d, d', rfl, rfl, q _ G H S Ext.refl (.bl _)⟩
/-- in -/
def rInA (K : PySem.W.Frag) (neg : Bool) : R2 := fun x y H Q => ∃ d ds, Dp K H x d ∧ (Dp K H y (.list ds) ∨ Dp K H y (.tuple ds)) ∧ SeqAt.shaped d = true ∧ SeqAt.shaped (.list ds) = true ∧ Q (.bl (if neg then !(ds.any fun y => PyData.eqv y d) else ds.any fun y => PyData.eqv y d)) H
theorem op_inA (hu : X.A.units + 65 < cLine) : OpR X (compareOp .In) (rInA X.K false) := by
  intro pins s σ H x y v u Q I rx ry h
  obtain ⟨d, ds, hd, he, sd, se, q⟩ := h
  obtain ⟨as, r1⟩ := Dp.reads I d x v hd rx
  rcases he with he | he
  · obtain ⟨bs, r2⟩ := Dp.reads I (.list ds) y u he ry
    exact SeqAt.in_list_reads r2 r1 (SeqAt.canLay_of_shaped se) (SeqAt.canLay_of_shaped sd) (room_in_shaped sd hu) ⟨.bl _, H, I, rfl, q⟩
  · obtain ⟨bs, r2⟩ := Dp.reads I (.tuple ds) y u he ry
    exact SeqAt.in_tuple_reads r2 r1 (SeqAt.canLay_of_shaped se) (SeqAt.canLay_of_shaped sd) (room_in_shaped sd hu) ⟨.bl _, H, I, rfl, q⟩
theorem op_notInA (hu : X.A.units + 65 < cLine) : OpR X (compareOp .NotIn) (rInA X.K true) := by
  intro pins s σ H x y v u Q I rx ry h
  obtain ⟨d, ds, hd, he, sd, se, q⟩ := h
  obtain ⟨as, r1⟩ := Dp.reads I d x v hd rx
  rcases he with he | he
  · obtain ⟨bs, r2⟩ := Dp.reads I (.list ds) y u he ry
    exact SeqAt.notIn_list_reads r2 r1 (SeqAt.canLay_of_shaped se) (SeqAt.canLay_of_shaped sd) (room_in_shaped sd hu) ⟨.bl _, H, I, rfl, q⟩
  · obtain ⟨bs, r2⟩ := Dp.reads I (.tuple ds) y u he ry
    exact SeqAt.notIn_tuple_reads r2 r1 (SeqAt.canLay_of_shaped se) (SeqAt.canLay_of_shaped sd) (room_in_shaped sd hu) ⟨.bl _, H, I, rfl, q⟩
theorem sqb_dp {K : PySem.W.Frag} {H : Hp} {b : Bool} {a : Addr} {vs : List V} {ds : List D} (h : SqB K H b a vs) (k : DpAll K H vs ds) : Dp K H (.ref a) (.list ds) ∨ Dp K H (.ref a) (.tuple ds) := by
  cases b with
  | true => exact .inr (.tup h k)
  | false => exact .inl (.lst h k)
theorem inD_some {d : D} {ds : List D} {k : Bool} (h : inD d ds = some k) : SeqAt.shaped d = true ∧ SeqAt.shaped (.list ds) = true ∧ k = ds.any fun y => PyData.eqv y d := by
  unfold inD at h
  split at h
  · rename_i z
    rw [Bool.and_eq_true] at z
    cases h
    exact ⟨z.1, z.2, rfl⟩
  · cases h
theorem ok_in : Op2Ok X (rInA X.K false) k_in := by
  intro c Hs G H σ ε u x y rx ry rz Q hK S hs R1 R2 e q
  obtain ⟨d, e1, e⟩ := Option.bind_eq_some_iff.mp e
  obtain ⟨⟨b, ds⟩, e2, e⟩ := Option.bind_eq_some_iff.mp e
  obtain ⟨k, e3, e⟩ := Option.map_eq_some_iff.mp e
  cases e
  obtain ⟨s1, s2, rfl⟩ := inD_some e3
  have h1 := view_ok S R1 e1
  obtain ⟨a, vs, rfl, h2, k2⟩ := seqA_ok S R2 e2
  rw [hK] at h1 h2 k2
  exact ⟨d, ds, h1, sqb_dp h2 (dpa_mono S.gh _ _ k2), s1, s2, q _ G H S Ext.refl (.bl _)⟩
theorem ok_notin : Op2Ok X (rInA X.K true) k_notin := by
  intro c Hs G H σ ε u x y rx ry rz Q hK S hs R1 R2 e q
  obtain ⟨d, e1, e⟩ := Option.bind_eq_some_iff.mp e
  obtain ⟨⟨b, ds⟩, e2, e⟩ := Option.bind_eq_some_iff.mp e
  obtain ⟨k, e3, e⟩ := Option.map_eq_some_iff.mp e
  cases e
  obtain ⟨s1, s2, rfl⟩ := inD_some e3
  have h1 := view_ok S R1 e1
  obtain ⟨a, vs, rfl, h2, k2⟩ := seqA_ok S R2 e2
  rw [hK] at h1 h2 k2
  exact ⟨d, ds, h1, sqb_dp h2 (dpa_mono S.gh _ _ k2), s1, s2, q _ G H S Ext.refl (.bl _)⟩
/-- x[i] -/
def rIxA (K : PySem.W.Frag) : R2 := fun x y H Q => rIxL K x y H Q ∨ rIxT K x y H Q
theorem ix_any : IxR X (rIxA X.K) := ix_list.or ix_tup
theorem atI_dpa {K : PySem.W.Frag} {G : Hp} {vs : List V} {ds : List D} {i : Int} {d : D} (h : DpAll K G vs ds) (e : atI ds i = some d) : ∃ v, atI vs i = some v ∧ Dp K G v d := by
  unfold atI at e
  obtain ⟨j, e1, e2⟩ := Option.bind_eq_some_iff.mp e
  obtain ⟨v, k1, k2⟩ := dpa_get h e2
  refine ⟨v, ?_, k2⟩
  unfold atI
  rw [dpa_len h, e1]
  exact k1
theorem atI_map {u : List Int} {i z : Int} (e : atI u i = some z) : atI (u.map V.int) i = some (.int z) := by
  unfold atI at e ⊢
  obtain ⟨j, e1, e2⟩ := Option.bind_eq_some_iff.mp e
  rw [List.length_map, e1]
  show (u.map V.int)[j]? = some (.int z)
  rw [List.getElem?_map, e2]
  rfl
theorem ok_ix : Op2Ok X (rIxA X.K) k_ix := by
  intro c Hs G H σ ε u x y rx ry rz Q hK S hs R1 R2 e q
  have seqs : ∀ (i : Int), ry = .val (.int i) → ((seqA rx).bind fun q => (atI q.2 i).map Rs.val) = some rz → rIxA X.K x y H Q := fun i ei e' => by
    subst ei
    obtain ⟨⟨b, ds⟩, e1, e⟩ := Option.bind_eq_some_iff.mp e'
    obtain ⟨d, e2, e⟩ := Option.map_eq_some_iff.mp e
    cases e
    cases (show Dp c.K G y (.int i) from R2)
    obtain ⟨a, vs, rfl, h1, k1⟩ := seqA_ok S R1 e1
    obtain ⟨v, h2, k2⟩ := atI_dpa k1 e2
    rw [hK] at h1
    cases b with
    | true => exact .inr ⟨a, vs, i, v, rfl, rfl, h1, h2, q v G H S Ext.refl k2⟩
    | false => exact .inl ⟨a, vs, i, v, rfl, rfl, h1, h2, q v G H S Ext.refl k2⟩
  cases rx with
  | urn =>
    cases ry with
    | val d' =>
      cases d' with
      | int i =>
        obtain ⟨z, e1, e⟩ := Option.map_eq_some_iff.mp e
        cases e
        cases (show Dp c.K G y (.int i) from R2)
        obtain ⟨a, hu, rfl⟩ := R1
        exact .inl ⟨a, _, i, .int z, rfl, rfl, SqL.of (S.ur a hu).2.2, atI_map e1, q _ G H S Ext.refl (.int z)⟩
      | _ => cases e
    | own _ => cases e
    | bor _ _ => cases e
    | urn => cases e
  | val _ =>
    cases ry with
    | val d' =>
      cases d' with
      | int i => exact seqs i rfl e
      | _ => cases e
    | own _ => cases e
    | bor _ _ => cases e
    | urn => cases e
  | own _ =>
    cases ry with
    | val d' =>
      cases d' with
      | int i => exact seqs i rfl e
      | _ => cases e
    | own _ => cases e
    | bor _ _ => cases e
    | urn => cases e
  | bor _ _ =>
    cases ry with
    | val d' =>
      cases d' with
      | int i => exact seqs i rfl e
      | _ => cases e
    | own _ => cases e
    | bor _ _ => cases e
    | urn => cases e
end
end Dl
end
end

section
set_option Elab.async false
set_option linter.all false
set_option maxRecDepth 100000
/-! The data layer, part E: chains, slices, built-in calls. -/
noncomputable section
namespace Dl
open PySem PySem.Spec PyProof.Rows L2

/-! ### unary minus, chains -/
def e_chain (k k' : Ur → Rs → Rs → Option Rs) (f g h : DE) : DE := fun ε u => (f ε u).bind fun p => (g ε p.2).bind fun q => (k q.2 p.1 q.1).bind fun z => (asB z).bind fun b =>
  if b then (h ε q.2).bind fun s => (k' s.2 q.1 s.1).map fun r => (r, s.2) else some (.val (.bool false), q.2)
section
variable {X : Cx} {a b c' e : Expr} {pos : Pos} {f g h : DE}
theorem r_neg (ha : PE X a (tD X.K f)) : PE X (.UnaryOp .USub a pos) (tD X.K (e_un k_neg f)) := pe_imp (pe_un un_neg ha) fun σ H Q q => by
  obtain ⟨c, G, ε, u, r, u', hK, S, e, q⟩ := q
  obtain ⟨⟨r1, u1⟩, e1, e⟩ := Option.bind_eq_some_iff.mp e
  obtain ⟨r3, e3, e⟩ := Option.map_eq_some_iff.mp e
  cases e
  refine ⟨c, G, ε, u, r1, _, hK, S, e1, fun v G1 H1 S1 x1 R1 => ?_⟩
  have e3 : k_neg r1 = some r := e3
  cases r1 with
  | val d =>
    cases d with
    | int i =>
      cases e3
      cases (show Dp c.K G1 v (.int i) from R1)
      exact ⟨i, rfl, q _ G1 H1 S1 x1 (.int _)⟩
    | _ => cases e3
  | own _ => cases e3
  | bor _ _ => cases e3
  | urn => cases e3
theorem seqC {r r' : R2} {k k' : Ur → Rs → Rs → Option Rs} (hk : Op2Ok X r k) (hk' : Op2Ok X r' k') : ∀ σ H Q, tD X.K (e_chain k k' f g h) σ H Q → tChain r r' (tD X.K f) (tD X.K g) (tD X.K h) σ H Q := by
  rintro σ H Q ⟨c, G, ε, u, z, u', hK, S, e, q⟩
  obtain ⟨⟨r1, u1⟩, e1, e⟩ := Option.bind_eq_some_iff.mp e
  obtain ⟨⟨r2, u2⟩, e2, e⟩ := Option.bind_eq_some_iff.mp e
  obtain ⟨r3, e3, e⟩ := Option.bind_eq_some_iff.mp e
  obtain ⟨b, e4, ee⟩ := Option.bind_eq_some_iff.mp e
  have e5 : r3 = .val (.bool b) := asB_some e4
  subst e5
  have ee : (if b = true then (h ε u2).bind fun s => (k' s.2 r2 s.1).map fun r => (r, s.2) else some (Rs.val (.bool false), u2)) = some (z, u') := ee
  refine ⟨c, G, ε, u, r1, u1, hK, S, e1, fun x G1 H1 S1 x1 R1 => ⟨c, G1, ε, u1, r2, u2, hK, S1, e2, fun y G2 H2 S2 x2 R2 => ?_⟩⟩
  refine hk c H G2 H2 σ ε u2 x y r1 r2 _ _ hK S2 (fun a ea => (x1.trans x2).free ea) (R1.ext x2) (R2.back x1) e3 fun v G3 H3 S3 x3 R3 => ?_
  cases (show Dp c.K G3 v (.bool b) from R3)
  refine ⟨b, rfl, ?_⟩
  cases b with
  | true =>
    rw [if_pos rfl]
    rw [if_pos rfl] at ee
    obtain ⟨⟨r5, u5⟩, e5, ee⟩ := Option.bind_eq_some_iff.mp ee
    obtain ⟨r6, e6, ee⟩ := Option.map_eq_some_iff.mp ee
    cases ee
    refine ⟨c, G3, ε, u2, r5, u5, hK, S3, e5, fun w G4 H4 S4 x4 R4 => ?_⟩
    exact hk' c H G4 H4 σ ε u5 y w r2 r5 z Q hK S4 (fun a ea => (((x1.trans x2).trans x3).trans x4).free ea) (((R2.back x1).ext x3).ext x4) (R4.back ((x1.trans x2).trans x3)) e6
      fun v G' H' S' x' R' => q v G' H' S' ((((x1.trans x2).trans x3).trans x4).trans x') R'
  | false =>
    rw [if_neg Bool.false_ne_true]
    rw [if_neg Bool.false_ne_true] at ee
    cases ee
    exact q _ G3 H3 S3 ((x1.trans x2).trans x3) (.bl false)
theorem r_chain {op op' : CmpOp} {r r' : R2} {k k' : Ur → Rs → Rs → Option Rs} (ho : OpR X (compareOp op) r) (ho' : OpR X (compareOp op') r') (hk : Op2Ok X r k) (hk' : Op2Ok X r' k') (ha : PE X a (tD X.K f)) (hb : PE X b (tD X.K g)) (hc : PE X c' (tD X.K h))
    (hm : lastMarks [op, op'] [b, c'] = false := by with_unfolding_all rfl) : PE X (.Compare a [op, op'] [b, c'] pos) (tD X.K (e_chain k k' f g h)) := pe_imp (pe_chain ho ho' ha hb hc hm) (seqC hk hk')
theorem rt_chain {op op' : CmpOp} {r r' : R2} {k k' : Ur → Rs → Rs → Option Rs} (ho : OpR X (compareOp op) r) (ho' : OpR X (compareOp op') r') (hk : Op2Ok X r k) (hk' : Op2Ok X r' k') (ha : PE X a (tD X.K f)) (hb : PE X b (tD X.K g)) (hc : PE X c' (tD X.K h))
    (hm : lastMarks [op, op'] [b, c'] = false := by with_unfolding_all rfl) : PT X (.Compare a [op, op'] [b, c'] pos) (tB X.K (b_of (e_chain k k' f g h))) := by
  refine pt_imp (pt_chain ho ho' ha hb hc hm) fun σ H Q q => ?_
  obtain ⟨c, G, ε, u, z, u', hK, S, e, q⟩ := q
  refine seqC hk hk' σ H _ ⟨c, G, ε, u, _, u', hK, S, b_of_some e, fun v G' H' S' x' R' => ?_⟩
  cases (show Dp c.K G' v (.bool z) from R')
  exact ⟨z, rfl, q G' H' S' x'⟩
end

/-! ### slices -/
def cutD (ds : List D) (lo hi : Option Int) : List D := (ds.drop (HT.sIx ds.length 0 lo)).take (HT.sIx ds.length ds.length hi - HT.sIx ds.length 0 lo)
def asI : Rs → Option Int
  | .val (.int i) => some i
  | _ => none
theorem asI_some {r : Rs} {b : Int} (h : asI r = some b) : r = .val (.int b) := by
  unfold asI at h
  split at h
  · cases h; rfl
  · cases h
abbrev DO := Ev → Ur → Option (Option Int × Ur)
def o_no : DO := fun _ u => some (none, u)
def o_so (f : DE) : DO := fun ε u => (f ε u).bind fun p => (asI p.1).map fun i => (some i, p.2)
def k_cut (a : Rs) (lo hi : Option Int) : Option Rs := (seqA a).map fun q => if q.1 then .val (.tuple (cutD q.2 lo hi)) else .own (cutD q.2 lo hi)
def e_slice (f : DE) (lo hi : DO) : DE := fun ε u => (f ε u).bind fun p => (lo ε p.2).bind fun l => (hi ε l.2).bind fun h => (k_cut p.1 l.1 h.1).map fun r => (r, h.2)
def tO (K : PySem.W.Frag) (f : DO) : TO := fun σ H Q => ∃ (c : Cc) (G : Hp) (ε : Ev) (u : Ur) (r : Option Int) (u' : Ur), c.K = K ∧ SR c G σ H ε u ∧ f ε u = some (r, u') ∧
  ∀ G' H', SR c G' σ H' ε u' → Ext c.U G H G' H' → Q r H'
theorem po_imp {X : Cx} {e : Option Expr} {t t' : TO} (h : PO X e t) (k : ∀ σ H Q, t' σ H Q → t σ H Q) : PO X e t' := ⟨fun pins s σ H Q I q => h.run pins s σ H Q I (k σ H Q q)⟩
section
variable {X : Cx} {e lo hi : Expr} {pos p2 : Pos} {f g h : DE}
theorem ro_no : PO X none (tO X.K o_no) := po_imp po_none fun σ H Q q => by
  obtain ⟨c, G, ε, u, r, u', hK, S, e, q⟩ := q
  cases e
  exact q G H S Ext.refl
theorem ro_so (he : PE X e (tD X.K f)) : PO X (some e) (tO X.K (o_so f)) := po_imp (po_some he) fun σ H Q q => by
  obtain ⟨c, G, ε, u, r, u', hK, S, e, q⟩ := q
  obtain ⟨⟨r1, u1⟩, e1, e⟩ := Option.bind_eq_some_iff.mp e
  obtain ⟨i, e3, e⟩ := Option.map_eq_some_iff.mp e
  cases e
  have e3 : r1 = .val (.int i) := asI_some e3
  subst e3
  refine ⟨c, G, ε, u, _, _, hK, S, e1, fun v G1 H1 S1 x1 R1 => ?_⟩
  cases (show Dp c.K G1 v (.int i) from R1)
  exact ⟨i, rfl, q G1 H1 S1 x1⟩
theorem r_slice {lo hi : Option Expr} {l h : DO} (he : PE X e (tD X.K f)) (hl : PO X lo (tO X.K l)) (hh : PO X hi (tO X.K h)) : PE X (.Subscript e (.Slice lo hi none p2) pos) (tD X.K (e_slice f l h)) := by
  refine pe_imp (pe_slice (SlR.or sl_tupA sl_list) he hl hh) fun σ H Q q => ?_
  obtain ⟨c, G, ε, u, r, u', hK, S, e, q⟩ := q
  obtain ⟨⟨r1, u1⟩, e1, e⟩ := Option.bind_eq_some_iff.mp e
  obtain ⟨⟨o1, u2⟩, e2, e⟩ := Option.bind_eq_some_iff.mp e
  obtain ⟨⟨o2, u3⟩, e3, e⟩ := Option.bind_eq_some_iff.mp e
  obtain ⟨r4, e4, e⟩ := Option.map_eq_some_iff.mp e
  cases e
  refine ⟨c, G, ε, u, r1, u1, hK, S, e1, fun x G1 H1 S1 x1 R1 => ⟨c, G1, ε, u1, o1, u2, hK, S1, e2, fun G2 H2 S2 x2 => ⟨c, G2, ε, u2, o2, _, hK, S2, e3, fun G3 H3 S3 x3 => ?_⟩⟩⟩
  obtain ⟨⟨b, ds⟩, e5, e6⟩ := Option.map_eq_some_iff.mp e4
  have R3 := (R1.ext x2).ext x3
  have x13 := (x1.trans x2).trans x3
  obtain ⟨a, vs, rfl, h1, k1⟩ := seqA_ok S3 R3 e5
  have hcut : DpAll c.K G3 (cutV vs o1 o2) (cutD ds o1 o2) := dpa_cut k1 o1 o2
  rw [hK] at h1
  cases b with
  | true =>
    have e6 : Rs.val (.tuple (cutD ds o1 o2)) = r := e6
    subst e6
    refine .inl ⟨a, vs, rfl, h1, fun w => ?_, fun w p hp => ?_⟩
    · have ew : cutD ds o1 o2 = ds := by
        unfold cutD
        rw [dpa_len k1] at w
        rw [w.1, w.2]
        simp
      rw [ew] at q
      have er : r1 = .val (.tuple ds) := by
        cases r1 with
        | val d =>
          cases d with
          | tuple xs => cases e5; rfl
          | list xs => cases e5
          | none => cases e5
          | bool _ => cases e5
          | int _ => cases e5
          | str _ => cases e5
          | dict _ => cases e5
        | own _ => cases e5
        | bor _ _ => cases e5
        | urn => cases e5
      subst er
      exact q _ G3 H3 S3 x13 R3
    · obtain ⟨S4, x4, d4⟩ := S3.tup hp hcut
      exact q _ _ _ S4 (x13.trans x4) d4
  | false =>
    have e6 : Rs.own (cutD ds o1 o2) = r := e6
    subst e6
    refine .inr ⟨a, vs, rfl, h1, fun p hp => ?_⟩
    obtain ⟨S4, x4, d4⟩ := S3.lst hp (x13.free hp) hcut
    exact q _ _ _ S4 (x13.trans x4) d4
end

/-! ### built-in calls -/
def intsD : List D → Option (List Int)
  | [] => some []
  | .int i :: r => (intsD r).map (i :: ·)
  | _ :: _ => none
def boolsD : List D → Option (List Bool)
  | [] => some []
  | .bool i :: r => (boolsD r).map (i :: ·)
  | _ :: _ => none
theorem intsD_some : ∀ {ds : List D} {ns : List Int}, intsD ds = some ns → ds = ns.map PyData.int
  | [], _, e => by cases e; rfl
  | d :: r, ns, e => by
    cases d with
    | int i =>
      obtain ⟨ms, e1, e2⟩ := Option.map_eq_some_iff.mp e
      cases e2
      rw [intsD_some e1]
      rfl
    | _ => cases e
theorem boolsD_some : ∀ {ds : List D} {ns : List Bool}, boolsD ds = some ns → ds = ns.map PyData.bool
  | [], _, e => by cases e; rfl
  | d :: r, ns, e => by
    cases d with
    | bool i =>
      obtain ⟨ms, e1, e2⟩ := Option.map_eq_some_iff.mp e
      cases e2
      rw [boolsD_some e1]
      rfl
    | _ => cases e
def maxI : List Int → Int
  | [] => 0
  | n :: r => r.foldl max n
def minI : List Int → Int
  | [] => 0
  | n :: r => r.foldl min n
theorem foldl_max : ∀ (r : List Int) (n : Int), n ≤ r.foldl max n ∧ (∀ y ∈ r, y ≤ r.foldl max n) ∧ (r.foldl max n = n ∨ r.foldl max n ∈ r)
  | [], n => ⟨Int.le_refl _, (fun y h => nomatch h), .inl rfl⟩
  | m :: r, n => by
    obtain ⟨h1, h2, h3⟩ := foldl_max r (max n m)
    rw [List.foldl_cons]
    refine ⟨by omega, fun y hy => ?_, ?_⟩
    · rcases List.mem_cons.mp hy with rfl | hy
      · omega
      · exact h2 y hy
    · rcases h3 with h3 | h3
      · by_cases q : n ≤ m
        · exact .inr (by rw [h3, show max n m = m by omega]; exact List.mem_cons_self ..)
        · exact .inl (by rw [h3]; omega)
      · exact .inr (List.mem_cons_of_mem _ h3)
theorem foldl_min : ∀ (r : List Int) (n : Int), r.foldl min n ≤ n ∧ (∀ y ∈ r, r.foldl min n ≤ y) ∧ (r.foldl min n = n ∨ r.foldl min n ∈ r)
  | [], n => ⟨Int.le_refl _, (fun y h => nomatch h), .inl rfl⟩
  | m :: r, n => by
    obtain ⟨h1, h2, h3⟩ := foldl_min r (min n m)
    rw [List.foldl_cons]
    refine ⟨by omega, fun y hy => ?_, ?_⟩
    · rcases List.mem_cons.mp hy with rfl | hy
      · omega
      · exact h2 y hy
    · rcases h3 with h3 | h3
      · by_cases q : m ≤ n
        · exact .inr (by rw [h3, show min n m = m by omega]; exact List.mem_cons_self ..)
        · exact .inl (by rw [h3]; omega)
      · exact .inr (List.mem_cons_of_mem _ h3)
theorem maxI_mem {ns : List Int} (h : ns ≠ []) : maxI ns ∈ ns ∧ ∀ y ∈ ns, y ≤ maxI ns := by
  cases ns with
  | nil => exact absurd rfl h
  | cons n r =>
    obtain ⟨h1, h2, h3⟩ := foldl_max r n
    refine ⟨?_, fun y hy => ?_⟩
    · rcases h3 with h3 | h3
      · show r.foldl max n ∈ n :: r
        rw [h3]; exact List.mem_cons_self ..
      · exact List.mem_cons_of_mem _ h3
    · rcases List.mem_cons.mp hy with rfl | hy
      · exact h1
      · exact h2 y hy
theorem minI_mem {ns : List Int} (h : ns ≠ []) : minI ns ∈ ns ∧ ∀ y ∈ ns, minI ns ≤ y := by
  cases ns with
  | nil => exact absurd rfl h
  | cons n r =>
    obtain ⟨h1, h2, h3⟩ := foldl_min r n
    refine ⟨?_, fun y hy => ?_⟩
    · rcases h3 with h3 | h3
      · show r.foldl min n ∈ n :: r
        rw [h3]; exact List.mem_cons_self ..
      · exact List.mem_cons_of_mem _ h3
    · rcases List.mem_cons.mp hy with rfl | hy
      · exact h1
      · exact h2 y hy

def k_len : List Rs → Option Rs
  | [r] => (seqA r).map fun q => .val (.int q.2.length)
  | _ => none
def k_tuple : List Rs → Option Rs
  | [r] => (seqA r).map fun q => .val (.tuple q.2)
  | _ => none
def k_list : List Rs → Option Rs
  | [r] => (seqA r).map fun q => .own q.2
  | _ => none
def k_sum : List Rs → Option Rs
  | [r] => (seqA r).bind fun q => (intsD q.2).map fun ns => .val (.int ns.sum)
  | _ => none
def k_max : List Rs → Option Rs
  | [r] => (seqA r).bind fun q => (intsD q.2).bind fun ns => if q.1 = false ∧ ns ≠ [] then some (.val (.int (maxI ns))) else none
  | [.val (.int i), .val (.int j)] => some (.val (.int (max i j)))
  | _ => none
def k_min : List Rs → Option Rs
  | [r] => (seqA r).bind fun q => (intsD q.2).bind fun ns => if q.1 = false ∧ ns ≠ [] then some (.val (.int (minI ns))) else none
  | [.val (.int i), .val (.int j)] => some (.val (.int (min i j)))
  | _ => none
def k_abs : List Rs → Option Rs
  | [.val (.int i)] => some (.val (.int i.natAbs))
  | _ => none
def k_int : List Rs → Option Rs
  | [.val (.int i)] => some (.val (.int i))
  | [.val (.bool b)] => some (.val (.int (if b then 1 else 0)))
  | _ => none
def k_all : List Rs → Option Rs
  | [r] => (seqA r).bind fun q => (boolsD q.2).bind fun bs => if q.1 = false then some (.val (.bool (bs.all id))) else none
  | _ => none
def k_any : List Rs → Option Rs
  | [r] => (seqA r).bind fun q => (boolsD q.2).bind fun bs => if q.1 = false then some (.val (.bool (bs.any id))) else none
  | _ => none
def k_gcd : List Rs → Option Rs
  | [.val (.int i), .val (.int j)] => some (.val (.int (Nat.gcd i.natAbs j.natAbs)))
  | _ => none
section
variable {X : Cx}
theorem ar1 {c : Cc} {G : Hp} {σ : L2.St} {ε : Ev} {vs : List V} {r : Rs} (A : ArOk c G σ ε vs [r]) : ∃ v, vs = [v] ∧ AOk c G σ ε v r := by
  cases A with
  | cons a t => cases t; exact ⟨_, rfl, a⟩
theorem ar2 {c : Cc} {G : Hp} {σ : L2.St} {ε : Ev} {vs : List V} {r r' : Rs} (A : ArOk c G σ ε vs [r, r']) : ∃ v w, vs = [v, w] ∧ AOk c G σ ε v r ∧ AOk c G σ ε w r' := by
  cases A with
  | cons a t =>
    obtain ⟨w, rfl, b⟩ := ar1 t
    exact ⟨_, w, rfl, a, b⟩
/-- one argument, a list or a tuple -/
theorem one_seq {c : Cc} {Hs G H : Hp} {σ : L2.St} {ε : Ev} {u : Ur} {v : V} {r : Rs} {b : Bool} {ds : List D} (hK : c.K = X.K) (S : SR c G σ H ε u) (A : AOk c G σ ε v r) (e : seqA r = some (b, ds)) :
    ∃ p vs, v = .ref p ∧ (SqL X.K H p vs ∨ SqT X.K H p vs) ∧ (b = false → SqL X.K H p vs) ∧ (b = true → SqT X.K H p vs) ∧ DpAll c.K G vs ds := by
  obtain ⟨p, vs, e1, h1, k1⟩ := seqA_ok (Hs := Hs) S A.rs e
  rw [hK] at h1
  cases b with
  | true => exact ⟨p, vs, e1, .inr h1, (fun z => nomatch z), fun _ => h1, k1⟩
  | false => exact ⟨p, vs, e1, .inl h1, fun _ => h1, (fun z => nomatch z), k1⟩
theorem ok_len : CallOk X (fun xs H Q => ∃ p ys, xs = [.ref p] ∧ (SqL X.K H p ys ∨ SqT X.K H p ys) ∧ Q (.int ys.length) H) k_len := by
  intro c Hs G H σ ε u vs as rz Q hK S hs A e q
  unfold k_len at e
  split at e
  · obtain ⟨v, rfl, A1⟩ := ar1 A
    obtain ⟨⟨b, ds⟩, e1, e2⟩ := Option.map_eq_some_iff.mp e
    obtain ⟨p, ws, rfl, h, _, _, k⟩ := one_seq (Hs := Hs) hK S A1 e1
    cases e2
    refine ⟨p, ws, rfl, h, ?_⟩
    rw [dpa_len k]
    exact q _ G H S Ext.refl (.int _)
  · cases e
theorem ok_tuple : CallOk X (fun xs H Q => ∃ p ys, xs = [.ref p] ∧ ((SqL X.K H p ys ∧ ∀ l, H l = none → Q (.ref l) (upd H l (.tup ys))) ∨ (SqT X.K H p ys ∧ Q (.ref p) H))) k_tuple := by
  intro c Hs G H σ ε u vs as rz Q hK S hs A e q
  unfold k_tuple at e
  split at e
  · rename_i r
    obtain ⟨v, rfl, A1⟩ := ar1 A
    obtain ⟨⟨b, ds⟩, e1, e2⟩ := Option.map_eq_some_iff.mp e
    obtain ⟨p, ws, rfl, h, hl, ht, k⟩ := one_seq (Hs := Hs) hK S A1 e1
    have e2 : Rs.val (.tuple ds) = rz := e2
    subst e2
    cases b with
    | false =>
      refine ⟨p, ws, rfl, .inl ⟨hl rfl, fun l hn => ?_⟩⟩
      obtain ⟨S2, x2, d2⟩ := S.tup hn k
      exact q _ _ _ S2 x2 d2
    | true =>
      refine ⟨p, ws, rfl, .inr ⟨ht rfl, ?_⟩⟩
      have er : r = .val (.tuple ds) := by
        cases r with
        | val d =>
          cases d with
          | tuple xs => cases e1; rfl
          | list xs => cases e1
          | none => cases e1
          | bool _ => cases e1
          | int _ => cases e1
          | str _ => cases e1
          | dict _ => cases e1
        | own _ => cases e1
        | bor _ _ => cases e1
        | urn => cases e1
      subst er
      exact q _ G H S Ext.refl A1
  · cases e
theorem ok_list : CallOk X (fun xs H Q => ∃ p ys, xs = [.ref p] ∧ (SqL X.K H p ys ∨ SqT X.K H p ys) ∧ ∀ l, H l = none → Q (.ref l) (upd H l (.lst ys))) k_list := by
  intro c Hs G H σ ε u vs as rz Q hK S hs A e q
  unfold k_list at e
  split at e
  · obtain ⟨v, rfl, A1⟩ := ar1 A
    obtain ⟨⟨b, ds⟩, e1, e2⟩ := Option.map_eq_some_iff.mp e
    obtain ⟨p, ws, rfl, h, _, _, k⟩ := one_seq (Hs := Hs) hK S A1 e1
    cases e2
    refine ⟨p, ws, rfl, h, fun l hn => ?_⟩
    obtain ⟨S2, x2, d2⟩ := S.lst hn (hs l hn) k
    exact q _ _ _ S2 x2 d2
  · cases e
def rSumA (K : PySem.W.Frag) : List V → Hp → VK → Prop := fun vs H Q => ∃ (a : Addr) (ns : List Int), vs = [V.ref a] ∧ (SqL K H a (ns.map V.int) ∨ SqT K H a (ns.map V.int)) ∧ Q (.int ns.sum) H
theorem cr_sumA (hc : X.calm = true) : CallR X (.builtin "sum") (rSumA X.K) := by
  intro pins s σ H vs us Q I r h
  obtain ⟨a, ns, rfl, hs | hs, q⟩ := h
  · exact cr_sum hc pins s σ H _ us Q I r ⟨a, ns, rfl, hs, q⟩
  · obtain ⟨its, rv, hl, _⟩ := I.tuple hs
    rw [Vals.ref1 r]
    obtain ⟨xs, hx⟩ := rv.ints.allInts.items
    have hn : numsOf its.toArray.toList = ns := by rw [show its.toArray.toList = its from rfl, rv.ints.numsOf]
    rw [hx] at hl hn
    rw [nums_intItems] at hn
    refine PySem.W.ktm_sumG (I.ok.hd hc) hl fun h' tk t' hk => ?_
    rw [preSum_eq, List.take_of_length_le (by simp), hn]
    exact ⟨.int _, H, I.kept hk, ⟨_, rfl⟩, q⟩
theorem ok_sum : CallOk X (rSumA X.K) k_sum := by
  intro c Hs G H σ ε u vs as rz Q hK S hs A e q
  unfold k_sum at e
  split at e
  · obtain ⟨v, rfl, A1⟩ := ar1 A
    obtain ⟨⟨b, ds⟩, e1, e⟩ := Option.bind_eq_some_iff.mp e
    obtain ⟨ns, e3, e2⟩ := Option.map_eq_some_iff.mp e
    obtain ⟨p, ws, rfl, h, _, _, k⟩ := one_seq (Hs := Hs) hK S A1 e1
    cases e2
    have e3 : ds = ns.map PyData.int := intsD_some e3
    subst e3
    have ew := dpa_ints k
    subst ew
    exact ⟨p, ns, rfl, h, q _ G H S Ext.refl (.int _)⟩
  · cases e
def rMaxA (K : PySem.W.Frag) : List V → Hp → VK → Prop := fun vs H Q => (∃ i j, vs = [.int i, .int j] ∧ Q (.int (if j > i then j else i)) H) ∨ rMax K vs H Q
def rMinA (K : PySem.W.Frag) : List V → Hp → VK → Prop := fun vs H Q => (∃ i j, vs = [.int i, .int j] ∧ Q (.int (if j < i then j else i)) H) ∨ rMin K vs H Q
theorem cr_maxA (hc : X.calm = true) : CallR X (.builtin "max") (rMaxA X.K) := (call_max2 hc).or (cr_max hc)
theorem cr_minA (hc : X.calm = true) : CallR X (.builtin "min") (rMinA X.K) := (call_min2 hc).or (cr_min hc)
theorem ok_max : CallOk X (rMaxA X.K) k_max := by
  intro c Hs G H σ ε u vs as rz Q hK S hs A e q
  unfold k_max at e
  split at e
  · obtain ⟨v, rfl, A1⟩ := ar1 A
    obtain ⟨⟨b, ds⟩, e1, e⟩ := Option.bind_eq_some_iff.mp e
    obtain ⟨ns, e3, e2⟩ := Option.bind_eq_some_iff.mp e
    obtain ⟨p, ws, rfl, h, hl, _, k⟩ := one_seq (Hs := Hs) hK S A1 e1
    have e2 : (if b = false ∧ ns ≠ [] then some (Rs.val (.int (maxI ns))) else none) = some rz := e2
    split at e2
    · rename_i hb
      cases e2
      have e3 : ds = ns.map PyData.int := intsD_some e3
      subst e3
      have ew := dpa_ints k
      subst ew
      obtain ⟨m1, m2⟩ := maxI_mem hb.2
      refine .inr ⟨p, ns, rfl, hl hb.1, List.length_pos_iff.mpr hb.2, fun m h1 h2 => ?_⟩
      have em : m = maxI ns := Int.le_antisymm (m2 m h1) (h2 _ m1)
      subst em
      exact q _ G H S Ext.refl (.int _)
    · cases e2
  · cases e
    obtain ⟨v, w, rfl, A1, A2⟩ := ar2 A
    rename_i i j
    cases (show Dp c.K G v (.int i) from A1)
    cases (show Dp c.K G w (.int j) from A2)
    refine .inl ⟨i, j, rfl, ?_⟩
    rw [show (if j > i then j else i) = max i j by split <;> omega]
    exact q _ G H S Ext.refl (.int _)
  · cases e
theorem ok_min : CallOk X (rMinA X.K) k_min := by
  intro c Hs G H σ ε u vs as rz Q hK S hs A e q
  unfold k_min at e
  split at e
  · obtain ⟨v, rfl, A1⟩ := ar1 A
    obtain ⟨⟨b, ds⟩, e1, e⟩ := Option.bind_eq_some_iff.mp e
    obtain ⟨ns, e3, e2⟩ := Option.bind_eq_some_iff.mp e
    obtain ⟨p, ws, rfl, h, hl, _, k⟩ := one_seq (Hs := Hs) hK S A1 e1
    have e2 : (if b = false ∧ ns ≠ [] then some (Rs.val (.int (minI ns))) else none) = some rz := e2
    split at e2
    · rename_i hb
      cases e2
      have e3 : ds = ns.map PyData.int := intsD_some e3
      subst e3
      have ew := dpa_ints k
      subst ew
      obtain ⟨m1, m2⟩ := minI_mem hb.2
      refine .inr ⟨p, ns, rfl, hl hb.1, List.length_pos_iff.mpr hb.2, fun m h1 h2 => ?_⟩
      have em : m = minI ns := Int.le_antisymm (h2 _ m1) (m2 m h1)
      subst em
      exact q _ G H S Ext.refl (.int _)
    · cases e2
  · cases e
    obtain ⟨v, w, rfl, A1, A2⟩ := ar2 A
    rename_i i j
    cases (show Dp c.K G v (.int i) from A1)
    cases (show Dp c.K G w (.int j) from A2)
    refine .inl ⟨i, j, rfl, ?_⟩
    rw [show (if j < i then j else i) = min i j by split <;> omega]
    exact q _ G H S Ext.refl (.int _)
  · cases e
theorem ok_abs : CallOk X (fun xs H Q => ∃ i, xs = [.int i] ∧ Q (.int (if i < 0 then -i else i)) H) k_abs := by
  intro c Hs G H σ ε u vs as rz Q hK S hs A e q
  unfold k_abs at e
  split at e
  · rename_i i
    cases e
    obtain ⟨v, rfl, A1⟩ := ar1 A
    cases (show Dp c.K G v (.int i) from A1)
    refine ⟨i, rfl, ?_⟩
    rw [show (if i < 0 then -i else i) = (i.natAbs : Int) by split <;> omega]
    exact q _ G H S Ext.refl (.int _)
  · cases e
theorem ok_int1 : CallOk X (fun xs H Q => (∃ i, xs = [.int i] ∧ Q (.int i) H) ∨ ∃ k, xs = [.bl k] ∧ Q (.int (if k then 1 else 0)) H) k_int := by
  intro c Hs G H σ ε u vs as rz Q hK S hs A e q
  unfold k_int at e
  split at e
  · rename_i i
    cases e
    obtain ⟨v, rfl, A1⟩ := ar1 A
    cases (show Dp c.K G v (.int i) from A1)
    exact .inl ⟨i, rfl, q _ G H S Ext.refl (.int _)⟩
  · rename_i i
    cases e
    obtain ⟨v, rfl, A1⟩ := ar1 A
    cases (show Dp c.K G v (.bool i) from A1)
    exact .inr ⟨i, rfl, q _ G H S Ext.refl (.int _)⟩
  · cases e
theorem ok_all : CallOk X (rAll X.K) k_all := by
  intro c Hs G H σ ε u vs as rz Q hK S hs A e q
  unfold k_all at e
  split at e
  · obtain ⟨v, rfl, A1⟩ := ar1 A
    obtain ⟨⟨b, ds⟩, e1, e⟩ := Option.bind_eq_some_iff.mp e
    obtain ⟨ns, e3, e2⟩ := Option.bind_eq_some_iff.mp e
    obtain ⟨p, ws, rfl, h, hl, _, k⟩ := one_seq (Hs := Hs) hK S A1 e1
    have e2 : (if b = false then some (Rs.val (.bool (ns.all id))) else none) = some rz := e2
    split at e2
    · rename_i hb
      cases e2
      have e3 : ds = ns.map PyData.bool := boolsD_some e3
      subst e3
      have ew := dpa_bools k
      subst ew
      exact ⟨p, ns, rfl, hl hb, q _ G H S Ext.refl (.bl _)⟩
    · cases e2
  · cases e
theorem ok_any : CallOk X (rAny X.K) k_any := by
  intro c Hs G H σ ε u vs as rz Q hK S hs A e q
  unfold k_any at e
  split at e
  · obtain ⟨v, rfl, A1⟩ := ar1 A
    obtain ⟨⟨b, ds⟩, e1, e⟩ := Option.bind_eq_some_iff.mp e
    obtain ⟨ns, e3, e2⟩ := Option.bind_eq_some_iff.mp e
    obtain ⟨p, ws, rfl, h, hl, _, k⟩ := one_seq (Hs := Hs) hK S A1 e1
    have e2 : (if b = false then some (Rs.val (.bool (ns.any id))) else none) = some rz := e2
    split at e2
    · rename_i hb
      cases e2
      have e3 : ds = ns.map PyData.bool := boolsD_some e3
      subst e3
      have ew := dpa_bools k
      subst ew
      exact ⟨p, ns, rfl, hl hb, q _ G H S Ext.refl (.bl _)⟩
    · cases e2
  · cases e
theorem ok_gcd : CallOk X rGcd k_gcd := by
  intro c Hs G H σ ε u vs as rz Q hK S hs A e q
  unfold k_gcd at e
  split at e
  · rename_i i j
    cases e
    obtain ⟨v, w, rfl, A1, A2⟩ := ar2 A
    cases (show Dp c.K G v (.int i) from A1)
    cases (show Dp c.K G w (.int j) from A2)
    exact ⟨i, j, rfl, q _ G H S Ext.refl (.int _)⟩
  · cases e
end

/-! ### x or y by truth (lists, tuples) -/
def e_orT (f g : DE) : DE := fun ε u => (f ε u).bind fun p => (seqA p.1).bind fun q => if q.2.isEmpty then g ε p.2 else some p
section
variable {X : Cx} {a b : Expr} {rest : List Expr} {pos : Pos} {f g : DE}
theorem tru_seq {K : PySem.W.Frag} {H : Hp} {b : Bool} {a : Addr} {vs : List V} (h : SqB K H b a vs) : TruV K (.ref a) H (!vs.isEmpty) := by
  cases b with
  | true => exact .inr (.inl ⟨vs, h, rfl⟩)
  | false => exact .inl ⟨vs, h, rfl⟩
theorem r_orT (ha : PE X a (tD X.K f)) (hb : PE X (.BoolOp .Or (b :: rest) pos) (tD X.K g)) : PE X (.BoolOp .Or (a :: b :: rest) pos) (tD X.K (e_orT f g)) := pe_imp (pe_orT ha hb) fun σ H Q q => by
  obtain ⟨c, G, ε, u, r, u', hK, S, e, q⟩ := q
  obtain ⟨⟨r1, u1⟩, e1, e⟩ := Option.bind_eq_some_iff.mp e
  obtain ⟨⟨t, ds⟩, e2, e⟩ := Option.bind_eq_some_iff.mp e
  have e : (if ds.isEmpty = true then g ε u1 else some (r1, u1)) = some (r, u') := e
  refine ⟨c, G, ε, u, _, u1, hK, S, e1, fun v G1 H1 S1 x1 R1 => ?_⟩
  obtain ⟨p, vs, rfl, h1, k1⟩ := seqA_ok S1 R1 e2
  rw [hK] at h1
  refine ⟨_, tru_seq h1, ?_⟩
  have el : vs.isEmpty = ds.isEmpty := by
    have := dpa_len k1
    cases vs <;> cases ds <;> first | rfl | (simp at this)
  rw [el]
  by_cases hd : ds.isEmpty = true
  · rw [if_pos hd] at e
    rw [hd, if_neg (by decide)]
    exact ⟨c, G1, ε, u1, r, u', hK, S1, e, fun v G' H' S' x' R' => q v G' H' S' (x1.trans x') (R'.back x1)⟩
  · rw [if_neg hd] at e
    have hd' : ds.isEmpty = false := by cases h : ds.isEmpty <;> simp_all
    rw [hd', if_pos (by decide)]
    cases e
    exact q _ G1 H1 S1 x1 R1
end
end Dl
end
end

section
set_option Elab.async false
set_option linter.all false
set_option maxRecDepth 100000
/-! The data layer, part F: what a def promises, its call, isinstance. -/
noncomputable section
namespace Dl
open PySem PySem.Spec PyProof.Rows L2

def ArgSl (K : PySem.W.Frag) (U : Option Addr) (G : Hp) (v : V) : Sl → Prop
  | .val d => Dp K G v d
  | .urn => ∃ a, U = some a ∧ v = .ref a
  | _ => False
inductive SlsOk (K : PySem.W.Frag) (U : Option Addr) (G : Hp) : List V → List Sl → Prop
  | nil : SlsOk K U G [] []
  | cons {v : V} {vs : List V} {s : Sl} {ss : List Sl} : ArgSl K U G v s → SlsOk K U G vs ss → SlsOk K U G (v :: vs) (s :: ss)
theorem SlsOk.mono {K : PySem.W.Frag} {U : Option Addr} {G G' : Hp} {vs : List V} {ss : List Sl} (h : SlsOk K U G vs ss) (x : Same G G') : SlsOk K U G' vs ss := by
  induction h with
  | nil => exact .nil
  | @cons v vs s ss a _ ih =>
    refine .cons ?_ ih
    cases s with
    | val d => exact dp_mono x d v a
    | urn => exact a
    | un => exact a
    | own _ => exact a
def ResOk (K : PySem.W.Frag) (H G' H' : Hp) (v : V) : Rs → Prop
  | .val d => Dp K G' v d
  | .own ds => ∃ a vs, v = .ref a ∧ H a = none ∧ G' a = none ∧ H' a = some (.lst vs) ∧ DpAll K G' vs ds
  | _ => False
/-- what a def has done: G, H before, G', H' behind it -/
structure PF (K : PySem.W.Frag) (U : Option Addr) (G H G' H' : Hp) (u' : Ur) (v : V) (r : Rs) : Prop where
  g : Same G G'
  n : ∀ a, H a ≠ none → G' a = G a
  gh : Same G' H'
  h : ∀ a o, H a = some o → U ≠ some a → H' a = some o
  ur : ∀ a, U = some a → H' a = some (.lst (u'.map V.int))
  res : ResOk K H G' H' v r
/-- the promise: on data as it gives what F says -/
def spD (K : PySem.W.Frag) (n : Nat) (F : Fn) : Sp := fun vs H Q _ => ∃ (U : Option Addr) (G : Hp) (as : List Sl) (u : Ur) (r : Rs) (u' : Ur), vs.length = n ∧ Same G H ∧ (∀ a, U = some a → G a = none ∧ H a = some (.lst (u.map V.int))) ∧
  SlsOk K U G vs as ∧ F as u = some (r, u') ∧ ∀ v G' H', PF K U G H G' H' u' v r → Q v H'

/-! ### no list within -/
mutual
def noList : D → Bool
  | .list _ => false
  | .dict _ => false
  | .tuple xs => noListAll xs
  | _ => true
def noListAll : List D → Bool
  | [] => true
  | x :: xs => noList x && noListAll xs
end
mutual
theorem noList_dp {K : PySem.W.Frag} {G G' : Hp} (h : ∀ a o, G a = some o → (∀ vs, o ≠ .lst vs) → G' a = some o) : ∀ (d : D) (v : V), noList d = true → Dp K G v d → Dp K G' v d
  | .none, _, _, x => by cases x; exact .non
  | .bool _, _, _, x => by cases x; exact .bl _
  | .int _, _, _, x => by cases x; exact .int _
  | .str _, _, _, x => by cases x; exact .str _
  | .list ds, _, n, _ => by simp [noList] at n
  | .dict ds, _, n, _ => by simp [noList] at n
  | .tuple ds, _, n, x => by
    cases x with
    | tup s a =>
      refine .tup ?_ (noListAll_dp h ds _ (by simpa [noList] using n) a)
      rcases s with (s | ⟨o, s⟩) | s
      · exact .inl (.inl (h _ _ s fun vs z => nomatch z))
      · exact .inl (.inr ⟨o, h _ _ s fun vs z => nomatch z⟩)
      · exact .inr s
theorem noListAll_dp {K : PySem.W.Frag} {G G' : Hp} (h : ∀ a o, G a = some o → (∀ vs, o ≠ .lst vs) → G' a = some o) : ∀ (ds : List D) (vs : List V), noListAll ds = true → DpAll K G vs ds → DpAll K G' vs ds
  | [], _, _, x => by cases x; exact .nil
  | d :: ds, _, n, x => by
    have n' : noList d = true ∧ noListAll ds = true := by simpa [noListAll] using n
    cases x with
    | cons a b => exact .cons (noList_dp h d _ n'.1 a) (noListAll_dp h ds _ n'.2 b)
end

/-! ### a call -/
def isBor : Rs → Bool
  | .bor _ _ => true
  | _ => false
def toSl : Rs → Sl
  | .val d => .val d
  | .own _ => .un
  | .bor _ ds => .val (.list ds)
  | .urn => .urn
def noL : Rs → Bool
  | .val d => noList d
  | .own ds => noListAll ds
  | _ => false
def e_call (F : Fn) (g : DA) : DE := fun ε u => (g ε u).bind fun p => (F (p.1.map toSl) p.2).bind fun q => if !(p.1.any isBor) || noL q.1 then some q else none
/-- the borrowed lists at B count as data -/
def fz (B : List Addr) (G H : Hp) : Hp := fun b => if b ∈ B then H b else G b
theorem fz_mono {B B' : List Addr} {G H : Hp} (gh : Same G H) (hb : ∀ b ∈ B, b ∈ B') : Same (fz B G H) (fz B' G H) := fun b o e => by
  unfold fz at e ⊢
  by_cases h : b ∈ B
  · rw [if_pos h] at e
    rw [if_pos (hb b h)]; exact e
  · rw [if_neg h] at e
    by_cases h' : b ∈ B'
    · rw [if_pos h']; exact gh b o e
    · rw [if_neg h']; exact e
theorem fz_nil {G H : Hp} : fz [] G H = G := by
  funext b
  unfold fz
  rw [if_neg (by simp)]
section
variable {c : Cc} {G H : Hp} {σ : L2.St} {ε : Ev} {u : Ur}
theorem borrow (S : SR c G σ H ε u) {vs : List V} {as : List Rs} (A : ArOk c G σ ε vs as) :
    ∃ B : List Addr, (∀ b ∈ B, G b = none ∧ c.H_0 b = none ∧ c.U ≠ some b ∧ ∃ ws, H b = some (.lst ws)) ∧ (as.any isBor = false → B = []) ∧ SlsOk c.K c.U (fz B G H) vs (as.map toSl) := by
  induction A with
  | nil => exact ⟨[], (fun b hb => nomatch hb), fun _ => rfl, .nil⟩
  | @cons v vs r rs a t ih =>
    obtain ⟨B, h1, h2, h3⟩ := ih
    cases r with
    | own _ => exact a.elim
    | val d =>
      refine ⟨B, h1, fun z => h2 (by simpa [isBor] using z), .cons ?_ h3⟩
      refine dp_mono (G := G) ?_ d v a
      have := fz_mono (B := []) (B' := B) S.gh (fun b hb => nomatch hb)
      rw [fz_nil] at this
      exact this
    | urn => exact ⟨B, h1, fun z => h2 (by simpa [isBor] using z), .cons a h3⟩
    | bor i ds =>
      obtain ⟨p, ws, rfl, k1, k2, k3, k4, k5⟩ := S.bor a.1 a.2
      refine ⟨p :: B, fun b hb => ?_, (fun z => by simp [isBor] at z), .cons ?_ (h3.mono (fz_mono S.gh fun b hb => List.mem_cons_of_mem _ hb))⟩
      · rcases List.mem_cons.mp hb with rfl | hb
        · exact ⟨k1, k2, k3, ws, k4⟩
        · exact h1 b hb
      · refine .lst (.inl (.inl ?_)) (dpa_mono ?_ ds ws k5)
        · show fz (p :: B) G H p = some (.lst ws)
          unfold fz
          rw [if_pos (List.mem_cons_self ..)]
          exact k4
        · have := fz_mono (B := []) (B' := p :: B) S.gh (fun b hb => nomatch hb)
          rw [fz_nil] at this
          exact this
/-- behind a call -/
theorem called (S : SR c G σ H ε u) {B : List Addr} (hB : ∀ b ∈ B, G b = none ∧ c.H_0 b = none ∧ c.U ≠ some b ∧ ∃ ws, H b = some (.lst ws)) {G' H' : Hp} {u' : Ur} {v : V} {r : Rs}
    (x : PF c.K c.U (fz B G H) H G' H' u' v r) (hr : B = [] ∨ noL r = true) : ∃ G2, SR c G2 σ H' ε u' ∧ Ext c.U G H G2 H' ∧ RsOk c H G2 H' σ ε v r := by
  have key : ∀ b, b ∈ B → ∃ ws, G' b = some (.lst ws) := fun b hb => by
    obtain ⟨_, _, _, ws, e⟩ := hB b hb
    exact ⟨ws, x.g b _ (by unfold fz; rw [if_pos hb]; exact e)⟩
  have g : Same G (fun b => if b ∈ B then none else G' b) := fun b o e => by
    have hn : b ∉ B := fun z => by
      rw [(hB b z).1] at e
      cases e
    show (if b ∈ B then none else G' b) = some o
    rw [if_neg hn]
    exact x.g b o (by unfold fz; rw [if_neg hn]; exact e)
  have n : ∀ a, H a ≠ none → (if a ∈ B then none else G' a) = G a := fun a e => by
    by_cases hn : a ∈ B
    · rw [if_pos hn, (hB a hn).1]
    · rw [if_neg hn, x.n a e]
      unfold fz
      rw [if_neg hn]
  have t : ∀ a, H a ≠ none → H' a ≠ none := fun a e => by
    by_cases hu : c.U = some a
    · rw [x.ur a hu]
      exact fun z => nomatch z
    · cases q : H a with
      | none => exact absurd q e
      | some o =>
        rw [x.h a o q hu]
        exact fun z => nomatch z
  have X : Ext c.U G H (fun b => if b ∈ B then none else G' b) H' := ⟨g, n, x.h, t⟩
  refine ⟨_, S.grow X (fun b o e => ?_) x.ur, X, ?_⟩
  · have e : (if b ∈ B then none else G' b) = some o := e
    split at e
    · cases e
    · exact x.gh b o e
  · have back : ∀ a o, G' a = some o → (∀ vs, o ≠ .lst vs) → (if a ∈ B then none else G' a) = some o := fun a o e hl => by
      by_cases hn : a ∈ B
      · obtain ⟨ws, z⟩ := key a hn
        rw [e] at z
        exact absurd (Option.some.inj z) (hl ws)
      · rw [if_neg hn]; exact e
    have hres := x.res
    cases r with
    | val d =>
      rcases hr with hr | hr
      · subst hr
        exact dp_mono (G := G') (fun b o e => by show (if b ∈ ([] : List Addr) then none else G' b) = some o; rw [if_neg (by simp)]; exact e) d v hres
      · exact noList_dp back d v hr hres
    | own ds =>
      obtain ⟨a, vs, rfl, h1, h2, h3, h4⟩ := hres
      refine ⟨a, vs, rfl, h1, S.h0none h1, S.une h1, ?_, h3, ?_⟩
      · show (if a ∈ B then none else G' a) = none
        rw [h2]
        split <;> rfl
      · rcases hr with hr | hr
        · subst hr
          exact dpa_mono (G := G') (fun b o e => by show (if b ∈ ([] : List Addr) then none else G' b) = some o; rw [if_neg (by simp)]; exact e) ds vs h4
        · exact noListAll_dp back ds vs hr h4
    | bor _ _ => exact hres.elim
    | urn => exact hres.elim
end
theorem aok_len {c : Cc} {G : Hp} {σ : L2.St} {ε : Ev} {vs : List V} {rs : List Rs} (A : ArOk c G σ ε vs rs) : vs.length = rs.length := by
  induction A with
  | nil => rfl
  | cons _ _ ih => exact congrArg Nat.succ ih
section
variable {X : Cx} {CX : CXT} {k : Nat} {f : Addr} {fd : FuncData} {ps : List Str} {E : XK} {x : Str} {p pos : Pos} {e : Expr} {es : List Expr} {g : DA} {F : Fn} {n : Nat}
theorem r_call (Fo : FnOk X.prog X.w X.K X.mg X.base CX k f fd ps (spD X.K n F)) (hr : Room k X.A) (hg : Gl X x) (hm : X.mg x = some (.ref f)) (hk : PySem.W.keepIn X.K (.ref f) = true) (hb : Binds X.K fd ps []) (hx : Passes CX X E) (hn : (e :: es).length = n)
    (ha : PA X (e :: es) (tA X.K g)) (hl : ∀ ε u rs u', g ε u = some (rs, u') → rs.length = n) (hdb : (x == ("__debug__" : Str)) = false := by decide) (he : starEach (e :: es) X.env = (false, eval e X.env) :: starEach es X.env := by rfl) (hpl : (backTo pos (starEach es X.env)).any (·.1) = false := by rfl) :
    PE X (.Call (.Name x p) (e :: es) [] pos) (tD X.K (e_call F g)) := by
  refine pe_imp (pe_call Fo hr hg hm hk hb .nil hx ha hdb he hpl) fun σ H Q q => ?_
  obtain ⟨c, G, ε, u, r, u', hK, S, e, q⟩ := q
  obtain ⟨⟨rs, u1⟩, e1, e⟩ := Option.bind_eq_some_iff.mp e
  obtain ⟨⟨r2, u2⟩, e2, e⟩ := Option.bind_eq_some_iff.mp e
  have e : (if (!(rs.any isBor) || noL r2) = true then some (r2, u2) else none) = some (r, u') := e
  split at e
  · rename_i hc
    cases e
    refine ⟨c, G, ε, u, rs, u1, hK, S, e1, fun vs G1 H1 S1 x1 A1 => ?_⟩
    obtain ⟨B, h1, h2, h3⟩ := borrow S1 A1
    have gf : Same (fz B G1 H1) H1 := fun b o eb => by
      unfold fz at eb
      split at eb
      · exact eb
      · exact S1.gh b o eb
    have hlen : vs.length = n := by
      rw [← hl ε u rs u1 e1]
      exact aok_len A1
    rw [hK] at h3
    show spD X.K n F (vs ++ []) H1 Q E
    rw [List.append_nil]
    refine ⟨c.U, fz B G1 H1, _, u1, r, _, hlen, gf, fun a ea => ⟨?_, (S1.ur a ea).2.2⟩, h3, e2, fun v G' H' x => ?_⟩
    · have hnb : a ∉ B := fun z => (h1 a z).2.2.1 ea
      unfold fz
      rw [if_neg hnb, S1.gn a (S1.ur a ea).1]
      exact (S1.ur a ea).2.1
    · rw [← hK] at x
      obtain ⟨G2, S2, x2, R2⟩ := called S1 h1 x (by
        rw [Bool.or_eq_true, Bool.not_eq_true'] at hc
        rcases hc with hc | hc
        · exact .inl (h2 hc)
        · exact .inr hc)
      exact q v G2 H' S2 (x1.trans x2) (R2.back x1)
  · cases e
end
/-- an argument list's length -/
theorem al_nil : ∀ (ε : Ev) (u : Ur) rs u', a_nil ε u = some (rs, u') → rs.length = 0 := fun ε u rs u' h => by cases h; rfl
theorem al_cons {f : DE} {g : DA} {n : Nat} (h : ∀ (ε : Ev) (u : Ur) rs u', g ε u = some (rs, u') → rs.length = n) : ∀ (ε : Ev) (u : Ur) rs u', a_cons f g ε u = some (rs, u') → rs.length = n + 1 := fun ε u rs u' e => by
  obtain ⟨⟨r1, u1⟩, e1, e⟩ := Option.bind_eq_some_iff.mp e
  obtain ⟨⟨r2, u2⟩, e2, e⟩ := Option.map_eq_some_iff.mp e
  cases e
  exact congrArg Nat.succ (h ε u1 r2 _ e2)

/-! ### isinstance -/
def tyN : D → String
  | .none => "NoneType"
  | .bool _ => "bool"
  | .int _ => "int"
  | .str _ => "str"
  | .list _ => "list"
  | .tuple _ => "tuple"
  | .dict _ => "dict"
def kitL (a : String) : List String → Option Bool
  | [] => some false
  | b :: r => match kitB a b with
    | some true => some true
    | some false => kitL a r
    | none => none
def e_isi (ts : List String) (f : DE) : DE := fun ε u => (f ε u).bind fun p => (view p.1).bind fun d => (kitL (tyN d) ts).map fun b => (.val (.bool b), p.2)
theorem tyN_ok {K : PySem.W.Frag} {H : Hp} {v : V} {d : D} (h : Dp K H v d) : TyX K H v (.type (tyN d)) := by
  cases h with
  | non => exact .base .non
  | bl b => exact .base (.bl b)
  | int i => exact .base (.int i)
  | str x => exact .base (.str x)
  | lst s a =>
    rcases s with (s | ⟨o, s⟩) | ⟨o, _, _, s, t, _⟩
    · exact .base (.lst s)
    · exact .base (.frz s)
    · exact .kList s t
  | tup s a =>
    rcases s with (s | ⟨o, s⟩) | ⟨o, _, _, s, t, _⟩
    · exact .base (.tup s)
    · exact .fTuple s
    · exact .kTuple s t
theorem kitL_ok {K : PySem.W.Frag} {a : String} : ∀ {ts : List String} {b : Bool}, kitL a ts = some b → PySem.W.kitAny K (.type a) (ts.map Value.type) = some b
  | [], b, e => by cases e; exact kitAny_nil
  | t :: r, b, e => by
    unfold kitL at e
    cases hk : kitB a t with
    | none => rw [hk] at e; cases e
    | some z =>
      rw [hk] at e
      cases z with
      | true =>
        cases e
        exact kitAny_cons (kit_ty hk) (fun z => nomatch z) fun _ => rfl
      | false => exact kitAny_cons (kit_ty hk) (fun _ => kitL_ok e) fun z => nomatch z
section
variable {X : Cx} {e : Expr} {f : DE} {p p1 p2 p3 pos : Pos}
theorem r_isi1 {x1 : Str} {t1 : String} (hg : Gl X "isinstance") (hm : X.mg "isinstance" = none) (h1 : PE X (.Name x1 p1) (tC (.ty t1))) (he : PE X e (tD X.K f))
    (hs : starEach [e, .Name x1 p1] X.env = (false, eval e X.env) :: starEach [.Name x1 p1] X.env := by rfl) (hs1 : starEach [.Name x1 p1] X.env = (false, eval (.Name x1 p1) X.env) :: starEach [] X.env := by rfl) (hpl : (backTo pos (starEach [.Name x1 p1] X.env)).any (·.1) = false := by rfl) :
    PE X (.Call (.Name "isinstance" p) [e, .Name x1 p1] [] pos) (tD X.K (e_isi [t1] f)) := by
  refine pe_imp (pe_callB call_isi hg hm (by decide +kernel) (pa_cons he (pa_cons h1 pa_nil hs1) hs) (by decide) (by decide) hs hpl) fun σ H Q q => ?_
  obtain ⟨c, G, ε, u, r, u', hK, S, e, q⟩ := q
  obtain ⟨⟨r1, u1⟩, e1, e⟩ := Option.bind_eq_some_iff.mp e
  obtain ⟨d, e2, e⟩ := Option.bind_eq_some_iff.mp e
  obtain ⟨b, e3, e⟩ := Option.map_eq_some_iff.mp e
  cases e
  refine ⟨c, G, ε, u, r1, _, hK, S, e1, fun x G1 H1 S1 x1 R1 => ?_⟩
  have hd := view_ok S1 R1 e2
  rw [hK] at hd
  have e4 : kitL (tyN d) [t1] = some b := e3
  refine ⟨x, .ty t1, .type (tyN d), .type t1, b, rfl, .ty t1, tyN_ok hd, ?_, q _ G1 H1 S1 x1 (.bl b)⟩
  unfold kitL at e4
  cases hk : kitB (tyN d) t1 with
  | none => rw [hk] at e4; cases e4
  | some z =>
    rw [hk] at e4
    cases z with
    | true => cases e4; exact kit_ty hk
    | false => cases e4; exact kit_ty hk
theorem r_isi2 {x1 x2 : Str} {t1 t2 : String} {kk : Nat} (hg : Gl X "isinstance") (hm : X.mg "isinstance" = none) (h1 : PE X (.Name x1 p1) (tC (.ty t1))) (h2 : PE X (.Name x2 p2) (tC (.ty t2))) (he : PE X e (tD X.K f))
    (hs : starEach [e, .Tuple [.Name x1 p1, .Name x2 p2] kk p3] X.env = (false, eval e X.env) :: starEach [.Tuple [.Name x1 p1, .Name x2 p2] kk p3] X.env := by rfl)
    (hs1 : starEach [.Tuple [.Name x1 p1, .Name x2 p2] kk p3] X.env = (false, eval (.Tuple [.Name x1 p1, .Name x2 p2] kk p3) X.env) :: starEach [] X.env := by rfl)
    (hs2 : starEach [.Name x1 p1, .Name x2 p2] X.env = (false, eval (.Name x1 p1) X.env) :: starEach [.Name x2 p2] X.env := by rfl) (hs3 : starEach [.Name x2 p2] X.env = (false, eval (.Name x2 p2) X.env) :: starEach [] X.env := by rfl)
    (hpl : (backTo pos (starEach [.Tuple [.Name x1 p1, .Name x2 p2] kk p3] X.env)).any (·.1) = false := by rfl) :
    PE X (.Call (.Name "isinstance" p) [e, .Tuple [.Name x1 p1, .Name x2 p2] kk p3] [] pos) (tD X.K (e_isi [t1, t2] f)) := by
  refine pe_imp (pe_callB call_isiT hg hm (by decide +kernel) (pa_cons he (pa_cons (pe_tup (pa_cons h1 (pa_cons h2 pa_nil hs3) hs2)) pa_nil hs1) hs) (by decide) (by decide) hs hpl) fun σ H Q q => ?_
  obtain ⟨c, G, ε, u, r, u', hK, S, e, q⟩ := q
  obtain ⟨⟨r1, u1⟩, e1, e⟩ := Option.bind_eq_some_iff.mp e
  obtain ⟨d, e2, e⟩ := Option.bind_eq_some_iff.mp e
  obtain ⟨b, e3, e⟩ := Option.map_eq_some_iff.mp e
  cases e
  refine ⟨c, G, ε, u, r1, _, hK, S, e1, fun x G1 H1 S1 x1 R1 => ?_⟩
  refine ⟨by show 2 ≤ sizeLine; decide, fun tp hp => ?_⟩
  obtain ⟨S2, x2, _⟩ := S1.tup (ds := [.none, .none]) (vs := [.non, .non]) hp (.cons .non (.cons .non .nil))
  have hd := view_ok S1 R1 e2
  rw [hK] at hd
  have same : Same H1 (upd H1 tp (.tup [.ty t1, .ty t2])) := fun b o eb => by rw [upd_ne (ne_of_none eb hp)]; exact eb
  have e4 : kitL (tyN d) [t1, t2] = some b := e3
  refine ⟨x, tp, _, .type (tyN d), [.type t1, .type t2], b, rfl, upd_same, .cons (.ty t1) (.cons (.ty t2) .nil), tyN_ok (dp_mono same d x hd), kitL_ok e4, ?_⟩
  -- the pair of classes is tracked, but is no data
  refine q _ G1 _ (S1.grow ⟨Same.refl _, fun _ _ => rfl, fun a o ea _ => same a o ea, fun a ea z => ?_⟩ (S1.gh.trans same) fun a ea => same a _ (S1.ur a ea).2.2) (x1.trans ⟨Same.refl _, fun _ _ => rfl, fun a o ea _ => same a o ea, fun a ea z => ?_⟩) (.bl b)
  · by_cases ha : a = tp
    · subst ha; exact ea hp
    · rw [upd_ne ha] at z; exact ea z
  · by_cases ha : a = tp
    · subst ha; exact ea hp
    · rw [upd_ne ha] at z; exact ea z
end
end Dl
end
end

section
set_option Elab.async false
set_option linter.all false
set_option maxRecDepth 100000
/-! The data layer, part G: enumerate of tuples, what loops walk, targets. -/
noncomputable section
namespace Dl
open PySem PySem.Spec PyProof.Rows L2
set_option maxHeartbeats 1000000 in
theorem meets_enum1 {v : Value} {o : Obj} {H : Heap → Prop} (B : Begins v o H) :
    Meets (Builtin.«enumerate.__new__» ⟨[.type "enumerate", v], []⟩) (fun _ R s => H s.heap ∧
      R (.ok (.ret (.ref (s.heap.push o).objs.size))) { s with heap := (s.heap.push o).push { cls := .type "enumerate", data := .fields #[.none, .bool false, .ref s.heap.objs.size, rawInt 0, .none, .none] } }) :=
  .of_wp fun prog w A R s h => by
    obtain ⟨hp, g, d, tk, os⟩ := s; obtain ⟨h1, h⟩ := h
    have hsub := sub_enumerate
    have q1 : ∀ {A' : Around} {E : Value → Shared → Prop} {Q : Value → Shared → Prop}, Q (.ref hp.objs.size) ⟨hp.push o, g, d, tk, os⟩ → wpAny (model prog w) A' (pyIter v) Q E ⟨hp, g, d, tk, os⟩ :=
      fun q => B.iter prog w _ _ ⟨hp, g, d, tk, os⟩ _ h1 q
    wp_walk using q1
    refine wpAny_stack_any fun st => wpAny_pure ?_
    split
    · rename_i c _ _ _ _ _
      cases (c == Value.type "enumerate")
      · wp_walk using q1
        exact ⟨_, rfl, h⟩
      · wp_walk using q1
        exact ⟨_, rfl, h⟩
    · wp_walk using q1
      exact ⟨_, rfl, h⟩
section
variable {prog : Program} {w : World} {A : Around} {E : Value → Shared → Prop} {s : Shared}
theorem enum_begins1 {v : Value} {o : Obj} {H : Heap → Prop} {Q : Value → Shared → Prop} (B : Begins v o H) (h1 : H s.heap)
    (h : ∀ h', IsEnum h' (s.heap.objs.size + 1) s.heap.objs.size 0 .none → h'.get? s.heap.objs.size = some o → h'.objs.size = s.heap.objs.size + 2 →
      (∀ b o, s.heap.get? b = some o → h'.get? b = some o) → Q (.ref (s.heap.objs.size + 1)) { s with heap := h' }) :
    wpAny (model prog w) A (call (.type "enumerate") [v]) Q E s := by
  refine callType_new F.called_enumerate (by decide) (F.typeCall_enumerate_1 _) (F.newCall_enumerate_1 _) (fun obj => F.args_object_init_2 obj _) F.entry_enumerate_new
    (meets_enum1 B) ⟨h1, ?_⟩
  have hz : (s.heap.push o).objs.size = s.heap.objs.size + 1 := Heap.size_push ..
  show _ ∧ _
  rw [hz]
  have he : IsEnum ((s.heap.push o).push { cls := .type "enumerate", data := .fields #[.none, .bool false, .ref s.heap.objs.size, rawInt 0, .none, .none] }) (s.heap.objs.size + 1) s.heap.objs.size 0 .none := by
    have := Heap.get?_push_size (s.heap.push o) (o := { cls := .type "enumerate", data := .fields #[.none, .bool false, .ref s.heap.objs.size, rawInt 0, .none, .none] }) rfl
    rw [hz] at this; exact this
  refine ⟨⟨_, he, rfl⟩, h _ he (Heap.get?_push_of_some _ (Heap.get?_push_size _ B.free)) (by rw [Heap.size_push, hz]) fun b o x => Heap.get?_push_of_some _ (Heap.get?_push_of_some _ x)⟩
end
/-- the tuple at a, each item in a new pair -/
def IteT (K : PySem.W.Frag) (a : Addr) : It :=
  ⟨fun i H => ∃ (xs : List V) (x : V), SqT K H a xs ∧ xs[i]? = some x, fun i H v H' => ∃ T x, v = .ref T ∧ H T = none ∧ H' = upd H T (.tup [.int (i : Nat), x]) ∧ ∀ xs, SqT K H a xs → xs[i]? = some x, fun i H => ∃ xs : List V, SqT K H a xs ∧ xs.length = i⟩
set_option maxHeartbeats 1000000 in
theorem turn_enumT {P : Program} {w : World} {K : PySem.W.Frag} {elts : List Expr} {kk : Nat} {tpos : Pos} (a e it : Addr) (hai : a ≠ it) (hae : a ≠ e) :
    Turn P w K (.Tuple elts kk tpos) (IteT K a) [e, it] e (fun i h => (∃ old, IsEnum h e it ((i : Nat) : Int) old) ∧ h.IsTupleIter it a i ∧ e ≠ it) where
  mem := by simp
  obj := fun i h st b hb => by
    obtain ⟨⟨old, he⟩, ⟨o, ho, hc, hd⟩, _⟩ := st
    have e' : b = e ∨ b = it := by simpa using hb
    rcases e' with z | z
    · rw [z]; exact ⟨_, he, fun v q => nomatch q⟩
    · rw [z]; exact ⟨o, ho, fun v q => by rw [hd] at q; cases q⟩
  keep := fun i h h' st k => let ⟨⟨old, he⟩, hi, hne⟩ := st; ⟨⟨old, k e (by simp) _ he⟩, hi.at fun o q => k it (by simp) o q, hne⟩
  item := by
    intro X hP hw hK hc i pins s σ H E I hf st hg
    subst hP hw hK
    obtain ⟨⟨old, he⟩, hit, hne⟩ := st
    obtain ⟨xs, x, hq, hx⟩ := hg
    obtain ⟨its, rv, p, hz⟩ := I.tuple hq
    obtain ⟨u, hu, ru⟩ := rv.get hx
    have hlt : i < its.toArray.size := by
      have := (List.getElem?_eq_some_iff.mp hu).1
      simpa using this
    have hel : e < s.heap.objs.size := Heap.lt_size he
    have hil : it < s.heap.objs.size := by obtain ⟨_, q, _⟩ := hit; exact Heap.lt_size q
    have Dr := Draws.tuple (prog := X.prog) (w := X.w) (A := X.A.in1) (I.ok.hd hc) it a hai its.toArray
    refine wpAny_pyNext_enum_itemC Dr he ⟨hit, p⟩ hlt hne (by simp; exact ⟨hne, fun z => hae z.symm⟩) fun y h' tk hP ho hs' hT hsz hk => ?_
    have hy : y = u := by
      have hP : its.toArray[i]? = some y := hP
      have : its[i]? = some y := by simpa using hP
      rw [hu] at this
      exact (Option.some.inj this).symm
    subst hy
    refine ⟨_, rfl, wpAny_letOwnedTupleGo_enum (s := { s with heap := h', toks := tk + 1 }) ho fun h'' he' sb => ?_⟩
    have hT2 : h''.get? s.heap.objs.size = some { cls := .type "tuple", data := .seq #[.int i tk, y] } := (sb.2 _ (Nat.ne_of_gt hel)).trans hT
    have new : ObjOk X.prog X.w (upd H s.heap.objs.size (.tup [.int (i : Nat), x])) h'' s.heap.objs.size (.tup [.int (i : Nat), x]) :=
      ⟨by show 2 ≤ sizeLine; decide, [.int i tk, y], .cons ⟨_, rfl⟩ (.cons ru .nil), ⟨_, hT2, rfl, _, rfl⟩⟩
    have I1 : Inv X pins σ (upd H s.heap.objs.size (.tup [.int (i : Nat), x])) { s with heap := h'', toks := tk + 1 } :=
      I.turnedNew (ch := [e, it]) (fun b ob hb q => (sb.2 b (fun z => hb (by simp [z]))).trans (hk b ob (fun z => hb (by simp [z])) (fun z => hb (by simp [z])) q)) hf (Nat.le_refl _) new
    refine ⟨.ref s.heap.objs.size, _, I1, rfl, ⟨_, x, rfl, I.hok.fresh (Nat.le_refl _), rfl, fun ys hy => by rw [I.tuple_inj hy hq]; exact hx⟩, ⟨⟨y, ?_⟩, hs'.1.at fun o q => (sb.2 it (Ne.symm hne)).trans q, hne⟩, fun b hb => ?_⟩
    · have e1 : ((i + 1 : Nat) : Int) = (i : Int) + 1 := by omega
      rw [e1]; exact he'
    · have hb' : b < s.heap.objs.size := by
        have e' : b = e ∨ b = it := by simpa using hb
        rcases e' with z | z
        · rw [z]; exact hel
        · rw [z]; exact hil
      rw [upd_ne (Nat.ne_of_lt hb')]
      exact (hf b hb).1
  done := by
    intro X hP hw hK hc i pins s σ H E I hf st hg
    subst hP hw hK
    obtain ⟨⟨old, he⟩, hit, hne⟩ := st
    obtain ⟨xs, hq, hx⟩ := hg
    obtain ⟨its, rv, p, hz⟩ := I.tuple hq
    obtain ⟨f0, f1, f2, f3, f4, f5⟩ := hf it (by simp)
    have hl := rv.length
    have Dr := Draws.tuple (prog := X.prog) (w := X.w) (A := X.A.in1) (I.ok.hd hc) it a hai its.toArray
    have hsz : its.toArray.size = i := by simp; omega
    exact wpAny_pyNext_enum_endD Dr he (by rw [hsz]; exact ⟨hit, p⟩) fun h' eb => ⟨rfl, I.turned (t' := s.toks) (fun b o hb q => eb b o hb q) f0 f1 f3 f4 f5⟩
  self := fun A i s Q E st h => let ⟨⟨_, he⟩, _⟩ := st; wpAny_pyIter_enum he h

def iEnumA (K : PySem.W.Frag) (ta : TA) : TI := fun σ H R => ta σ H fun vs H1 => ∃ a xs, vs = [.ref a] ∧ ((SqL K H1 a xs ∧ R (Ite K a) H1) ∨ (SqT K H1 a xs ∧ R (IteT K a) H1))
theorem pi_enumA {X : Cx} {e : Expr} {ta : TA} {p pos tpos : Pos} {elts : List Expr} {kk : Nat} (hg : Gl X "enumerate") (hm : X.mg "enumerate" = none) (ha : PA X [e] ta) (hs : starEach [e] X.env = [(false, eval e X.env)] := by rfl) :
    PI X (.Tuple elts kk tpos) (.Call (.Name "enumerate" p) [e] [] pos) (iEnumA X.K ta) := by
  refine ⟨fun pins s σ H R I h => ?_⟩
  refine Call_ (ld_blt I hg hm boot_enumerate (PyProof.Rows.callWith_type1 (thn (ha.run pos pins s σ H _ I h) fun us s1 ⟨vs, H1, I1, r1, q1⟩ => ?_) hs rfl))
  obtain ⟨a, xs, ex, q1⟩ := q1
  subst ex
  cases r1 with
  | cons r rr =>
    cases rr
    cases r
    have fresh : ∀ (b : Addr), b ∈ [s1.heap.objs.size + 1, s1.heap.objs.size] → FpOk X pins H1 b := fun b hb => by
      have e' : b = s1.heap.objs.size + 1 ∨ b = s1.heap.objs.size := by simpa using hb
      have hle : s1.heap.objs.size ≤ b := by
        rcases e' with z | z
        · rw [z]; exact Nat.le_add_right _ _
        · rw [z]; exact Nat.le_refl _
      exact I1.fpOk hle (I1.hok.fresh hle)
    rcases q1 with ⟨hq, q⟩ | ⟨hq, q⟩
    · obtain ⟨its, rv, p', hz⟩ := I1.list hq
      refine call_enumerate_list p'.isList fun h' he hit hsz hk => wpAny_pyIter_enum he ?_
      have I2 : Inv X pins σ H1 { s1 with heap := h' } := I1.kept (t' := s1.toks) hk
      exact ⟨s1.heap.objs.size + 1, [s1.heap.objs.size + 1, s1.heap.objs.size], _, _, H1, rfl, I2, turn_enum a (s1.heap.objs.size + 1) s1.heap.objs.size, ⟨⟨.none, he⟩, hit, Nat.succ_ne_self _⟩, fresh, q⟩
    · obtain ⟨its, rv, p', hz⟩ := I1.tuple hq
      refine enum_begins1 (begins_tuple a its.toArray) (show s1.heap.IsTuple a its.toArray from p') fun h' he hit hsz hk => wpAny_pyIter_enum he ?_
      have I2 : Inv X pins σ H1 { s1 with heap := h' } := I1.kept (t' := s1.toks) hk
      have hlt : a < s1.heap.objs.size := p'.lt
      exact ⟨s1.heap.objs.size + 1, [s1.heap.objs.size + 1, s1.heap.objs.size], _, _, H1, rfl, I2, turn_enumT a (s1.heap.objs.size + 1) s1.heap.objs.size (Nat.ne_of_lt hlt) (Nat.ne_of_lt (Nat.lt_succ_of_lt hlt)), ⟨⟨.none, he⟩, ⟨_, hit, rfl, rfl⟩, Nat.succ_ne_self _⟩, fresh, q⟩
/-- a list or a tuple -/
def iSeq (K : PySem.W.Frag) (tl : TE) : TI := fun σ H R => tl σ H fun x H1 => ∃ a xs, x = .ref a ∧ ((SqL K H1 a xs ∧ R (Itl K a) H1) ∨ (SqT K H1 a xs ∧ R (Itt K a) H1))
theorem pi_seq {X : Cx} {tg l : Expr} {tl : TE} (hl : PE X l tl) : PI X tg l (iSeq X.K tl) := by
  refine ⟨fun pins s σ H R I h => ?_⟩
  refine thn (hl.run pins s σ H _ I h) fun v s1 ⟨x, H1, I1, r1, q1⟩ => ?_
  obtain ⟨a, xs, e, q1⟩ := q1
  subst e
  cases r1
  have fresh : ∀ (b : Addr), b ∈ [s1.heap.objs.size] → FpOk X pins H1 b := fun b hb => by
    have e : b = s1.heap.objs.size := by simpa using hb
    subst e
    exact I1.fpOk (Nat.le_refl _) (I1.hok.fresh (Nat.le_refl _))
  rcases q1 with ⟨hq, q⟩ | ⟨hq, q⟩
  · obtain ⟨its, rv, p, hz⟩ := I1.list hq
    refine wpAny_pyIter_list p.isList ?_
    exact ⟨s1.heap.objs.size, [s1.heap.objs.size], _, _, H1, rfl, I1.kept (t' := s1.toks) fun b o e => Heap.get?_push_of_some _ e, turn_list a _, ⟨_, Heap.get?_push_size _ rfl, rfl, rfl⟩, fresh, q⟩
  · obtain ⟨its, rv, p, hz⟩ := I1.tuple hq
    refine wpAny_pyIter_tuple (show s1.heap.IsTuple a its.toArray from p) ?_
    exact ⟨s1.heap.objs.size, [s1.heap.objs.size], _, _, H1, rfl, I1.kept (t' := s1.toks) fun b o e => Heap.get?_push_of_some _ e, turn_tuple a _, ⟨_, Heap.get?_push_size _ rfl, rfl, rfl⟩, fresh, q⟩

/-! ### what a loop walks, as data -/
def Yok (K : PySem.W.Frag) (G H : Hp) (x : V) (H' : Hp) (d : D) : Prop :=
  (H' = H ∧ Dp K G x d) ∨ ∃ T vs ds, H T = none ∧ H' = upd H T (.tup vs) ∧ x = .ref T ∧ d = .tuple ds ∧ DpAll K G vs ds
structure Wk (K : PySem.W.Frag) (J : It) (its : List D) (St : Hp → Hp → Prop) : Prop where
  go : ∀ (G H : Hp) (i : Nat) (d : D), Same G H → St G H → its[i]? = some d → J.go i H ∧ ∀ x H', J.yld i H x H' → Yok K G H x H' d
  stop : ∀ (G H : Hp), Same G H → St G H → J.stop its.length H
abbrev DI := Ev → Ur → Option ((List Rs × List D) × Ur)
def tI (K : PySem.W.Frag) (f : DI) : TI := fun σ H R => ∃ (c : Cc) (G : Hp) (ε : Ev) (u : Ur) (rs : List Rs) (its : List D) (u' : Ur), c.K = K ∧ SR c G σ H ε u ∧ f ε u = some ((rs, its), u') ∧
  ∀ (J : It) (G' H' : Hp) (St : Hp → Hp → Prop), SR c G' σ H' ε u' → Ext c.U G H G' H' → Wk K J its St → St G' H' → (∀ G1 H1 G2 H2, Ext c.U G1 H1 G2 H2 → St G1 H1 → St G2 H2) → (rs.any isBor = false → ∀ G1 H1 G2 H2, Same G1 G2 → St G1 H1 → St G2 H2) → R J H'
theorem pi_imp {X : Cx} {tg iter : Expr} {t t' : TI} (h : PI X tg iter t) (k : ∀ σ H R, t' σ H R → t σ H R) : PI X tg iter t' := ⟨fun pins s σ H R I q => h.run pins s σ H R I (k σ H R q)⟩
/-- one source as it stands -/
def Src (c : Cc) (r : Rs) (b : Bool) (a : Addr) (vs : List V) (ds : List D) (G H : Hp) : Prop := match r with
  | .bor _ _ => b = false ∧ c.U ≠ some a ∧ H a = some (.lst vs) ∧ DpAll c.K G vs ds
  | _ => SqB c.K G b a vs ∧ DpAll c.K G vs ds
section
variable {c : Cc} {G H G' H' : Hp} {σ : L2.St} {ε : Ev} {u : Ur} {v : V} {r : Rs} {b : Bool} {a : Addr} {vs : List V} {ds : List D}
theorem SqB.mono {K : PySem.W.Frag} (h : SqB K G b a vs) (x : Same G G') : SqB K G' b a vs := by
  cases b with
  | true => exact same_seqT x h
  | false => exact x.seq h
theorem Src.sq (h : Src c r b a vs ds G H) (gh : Same G H) : SqB c.K H b a vs ∧ DpAll c.K G vs ds := by
  cases r with
  | bor _ _ =>
    obtain ⟨rfl, _, h1, h2⟩ := h
    exact ⟨SqL.of h1, h2⟩
  | val _ => exact ⟨SqB.mono (show SqB c.K G b a vs from h.1) gh, h.2⟩
  | own _ => exact ⟨SqB.mono (show SqB c.K G b a vs from h.1) gh, h.2⟩
  | urn => exact ⟨SqB.mono (show SqB c.K G b a vs from h.1) gh, h.2⟩
theorem Src.ext (h : Src c r b a vs ds G H) (x : Ext c.U G H G' H') : Src c r b a vs ds G' H' := by
  cases r with
  | bor _ _ =>
    obtain ⟨h1, h2, h3, h4⟩ := h
    exact ⟨h1, h2, x.h a _ h3 h2, dpa_mono x.g _ _ h4⟩
  | val _ => exact ⟨SqB.mono (show SqB c.K G b a vs from h.1) x.g, dpa_mono x.g _ _ h.2⟩
  | own _ => exact ⟨SqB.mono (show SqB c.K G b a vs from h.1) x.g, dpa_mono x.g _ _ h.2⟩
  | urn => exact ⟨SqB.mono (show SqB c.K G b a vs from h.1) x.g, dpa_mono x.g _ _ h.2⟩
theorem Src.same (hb : isBor r = false) (h : Src c r b a vs ds G H) (x : Same G G') : Src c r b a vs ds G' H' := by
  cases r with
  | bor _ _ => cases hb
  | val _ => exact ⟨SqB.mono (show SqB c.K G b a vs from h.1) x, dpa_mono x _ _ h.2⟩
  | own _ => exact ⟨SqB.mono (show SqB c.K G b a vs from h.1) x, dpa_mono x _ _ h.2⟩
  | urn => exact ⟨SqB.mono (show SqB c.K G b a vs from h.1) x, dpa_mono x _ _ h.2⟩
theorem src_of (S : SR c G σ H ε u) (R : AOk c G σ ε v r) (e : seqA r = some (b, ds)) : ∃ a vs, v = .ref a ∧ Src c r b a vs ds G H := by
  cases r with
  | val d =>
    cases d with
    | list xs =>
      cases e
      cases (show Dp c.K G v (.list ds) from R) with
      | lst s k => exact ⟨_, _, rfl, s, k⟩
    | tuple xs =>
      cases e
      cases (show Dp c.K G v (.tuple ds) from R) with
      | tup s k => exact ⟨_, _, rfl, s, k⟩
    | none => cases e
    | bool _ => cases e
    | int _ => cases e
    | str _ => cases e
    | dict _ => cases e
  | own xs => exact R.elim
  | bor i xs =>
    cases e
    obtain ⟨a, vs, rfl, h1, h2, h3, h5, h6⟩ := S.bor R.1 R.2
    exact ⟨a, vs, rfl, rfl, h3, h5, h6⟩
  | urn => cases e
end
theorem seqA_thaw (r : Rs) : seqA (thaw r) = seqA r := by
  cases r with
  | val d => rfl
  | own ds => rfl
  | bor i ds => rfl
  | urn => rfl
def it_seq (f : DE) : DI := fun ε u => (f ε u).bind fun p => (seqA p.1).map fun q => (([thaw p.1], q.2), p.2)
def enumD : Nat → List D → List D
  | _, [] => []
  | k, d :: ds => .tuple [.int k, d] :: enumD (k + 1) ds
theorem enumD_len : ∀ (ds : List D) (k : Nat), (enumD k ds).length = ds.length
  | [], _ => rfl
  | _ :: ds, k => congrArg Nat.succ (enumD_len ds (k + 1))
theorem enumD_get : ∀ (ds : List D) (k i : Nat) (d : D), (enumD k ds)[i]? = some d → ∃ e, ds[i]? = some e ∧ d = .tuple [.int (k + i : Nat), e]
  | [], _, _, _, h => by simp [enumD] at h
  | e :: ds, k, 0, d, h => ⟨e, rfl, by
    have : (enumD k (e :: ds))[0]? = some (.tuple [.int k, e]) := rfl
    rw [this] at h
    exact (Option.some.inj h).symm⟩
  | _ :: ds, k, i + 1, d, h => by
    have h' : (enumD (k + 1) ds)[i]? = some d := by simpa [enumD] using h
    obtain ⟨e, h1, h2⟩ := enumD_get ds (k + 1) i d h'
    exact ⟨e, by simpa using h1, by rw [h2, show k + 1 + i = k + (i + 1) by omega]⟩
def it_enum (f : DE) : DI := fun ε u => (f ε u).bind fun p => (seqA p.1).map fun q => (([thaw p.1], enumD 0 q.2), p.2)
def zipD : List D → List D → List D
  | a :: as, b :: bs => .tuple [a, b] :: zipD as bs
  | _, _ => []
theorem zipD_get : ∀ (as bs : List D) (i : Nat) (d : D), (zipD as bs)[i]? = some d → ∃ a b, as[i]? = some a ∧ bs[i]? = some b ∧ d = .tuple [a, b]
  | [], _, _, _, h => by simp [zipD] at h
  | _ :: _, [], _, _, h => by simp [zipD] at h
  | a :: as, b :: bs, 0, d, h => ⟨a, b, rfl, rfl, by
    have : (zipD (a :: as) (b :: bs))[0]? = some (.tuple [a, b]) := rfl
    rw [this] at h
    exact (Option.some.inj h).symm⟩
  | _ :: as, _ :: bs, i + 1, d, h => by
    have h' : (zipD as bs)[i]? = some d := by simpa [zipD] using h
    obtain ⟨a, b, h1, h2, h3⟩ := zipD_get as bs i d h'
    exact ⟨a, b, by simpa using h1, by simpa using h2, h3⟩
theorem zipD_len : ∀ (as bs : List D), (zipD as bs).length = min as.length bs.length
  | [], _ => by simp [zipD]
  | _ :: _, [] => by simp [zipD]
  | _ :: as, _ :: bs => by simp [zipD, zipD_len as bs]
def zipK : List Rs → Option (List D)
  | [a, b] => (seqA a).bind fun q => (seqA b).bind fun q' => if q.1 = q'.1 then some (zipD q.2 q'.2) else none
  | _ => none
def it_zip (g : DA) : DI := fun ε u => (g ε u).bind fun p => (zipK p.1).map fun its => ((p.1, its), p.2)
def rgD (lo : Int) (n : Nat) : List D := (List.range n).map fun (k : Nat) => .int (lo + k)
def rg1K : List Rs → Option (List D)
  | [.val (.int j)] => if cd (j < 2 ^ 62 ∧ -(2 ^ 62) ≤ j) = true then some (rgD 0 j.toNat) else none
  | _ => none
def rg2K : List Rs → Option (List D)
  | [.val (.int i), .val (.int j)] => if cd ((j < 2 ^ 62 ∧ -(2 ^ 62) ≤ j) ∧ (i < 2 ^ 62 ∧ -(2 ^ 62) ≤ i)) = true then some (rgD i (j - i).toNat) else none
  | _ => none
theorem zipK_some {r : List Rs} {its : List D} (h : zipK r = some its) : ∃ ra rb b ds ds', r = [ra, rb] ∧ seqA ra = some (b, ds) ∧ seqA rb = some (b, ds') ∧ its = zipD ds ds' := by
  unfold zipK at h
  split at h
  · rename_i ra rb
    obtain ⟨⟨b, ds⟩, e2, ez⟩ := Option.bind_eq_some_iff.mp h
    obtain ⟨⟨b', ds'⟩, e3, ez⟩ := Option.bind_eq_some_iff.mp ez
    have ez : (if b = b' then some (zipD ds ds') else none) = some its := ez
    by_cases hb : b = b'
    · subst hb
      rw [if_pos rfl] at ez
      cases ez
      exact ⟨ra, rb, b, ds, ds', rfl, e2, e3, rfl⟩
    · rw [if_neg hb] at ez
      cases ez
  · cases h
theorem rg1K_some {r : List Rs} {its : List D} (h : rg1K r = some its) : ∃ j : Int, r = [.val (.int j)] ∧ (j < 2 ^ 62 ∧ -(2 ^ 62) ≤ j) ∧ its = rgD 0 j.toNat := by
  unfold rg1K at h
  split at h
  · rename_i j
    split at h
    · rename_i hj
      cases h
      exact ⟨j, rfl, cd_of hj, rfl⟩
    · cases h
  · cases h
theorem rg2K_some {r : List Rs} {its : List D} (h : rg2K r = some its) : ∃ i j : Int, r = [.val (.int i), .val (.int j)] ∧ ((j < 2 ^ 62 ∧ -(2 ^ 62) ≤ j) ∧ (i < 2 ^ 62 ∧ -(2 ^ 62) ≤ i)) ∧ its = rgD i (j - i).toNat := by
  unfold rg2K at h
  split at h
  · rename_i i j
    split at h
    · rename_i hj
      cases h
      exact ⟨i, j, rfl, cd_of hj, rfl⟩
    · cases h
  · cases h
def it_rg1 (g : DA) : DI := fun ε u => (g ε u).bind fun p => (rg1K p.1).map fun its => (([], its), p.2)
def it_rg2 (g : DA) : DI := fun ε u => (g ε u).bind fun p => (rg2K p.1).map fun its => (([], its), p.2)
section
variable {X : Cx} {tg e e2 : Expr} {f : DE} {g : DA} {p pos tpos : Pos} {elts : List Expr} {kk : Nat}
theorem getv {K : PySem.W.Frag} {G : Hp} {vs : List V} {ds : List D} {i : Nat} {d : D} {x : V} (k : DpAll K G vs ds) (e : ds[i]? = some d) (ex : vs[i]? = some x) : Dp K G x d := by
  obtain ⟨w, h1, h2⟩ := dpa_get k e
  rw [ex] at h1
  cases h1
  exact h2
theorem ri_seq (he : PE X e (tD X.K f)) : PI X tg e (tI X.K (it_seq f)) := pi_imp (pi_seq he) fun σ H R q => by
  obtain ⟨c, G, ε, u, rs, its, u', hK, S, e, q⟩ := q
  obtain ⟨⟨r1, u1⟩, e1, e⟩ := Option.bind_eq_some_iff.mp e
  obtain ⟨⟨b, ds⟩, e2, e⟩ := Option.map_eq_some_iff.mp e
  cases e
  refine ⟨c, G, ε, u, r1, _, hK, S, e1, fun x G1 H1 S1 x1 R1 => ?_⟩
  obtain ⟨G2, S2, x2, A2, _⟩ := thaw_ok S S1 x1 R1
  obtain ⟨a, vs, rfl, src⟩ := src_of S2 A2 (show seqA (thaw r1) = some (b, ds) by rw [seqA_thaw]; exact e2)
  have sq := (src.sq S2.gh).1
  rw [hK] at sq
  have stE : ∀ G1 H1 G2 H2, Ext c.U G1 H1 G2 H2 → Src c (thaw r1) b a vs ds G1 H1 → Src c (thaw r1) b a vs ds G2 H2 := fun _ _ _ _ x h => h.ext x
  have stG : [thaw r1].any isBor = false → ∀ G1 H1 G2 H2, Same G1 G2 → Src c (thaw r1) b a vs ds G1 H1 → Src c (thaw r1) b a vs ds G2 H2 := fun hb _ _ _ _ x h => h.same (by simpa using hb) x
  refine ⟨a, vs, rfl, ?_⟩
  cases b with
  | false =>
    refine .inl ⟨sq, q (Itl X.K a) G2 H1 _ S2 x2 ⟨fun G H i d gh st ed => ?_, fun G H gh st => ?_⟩ src stE stG⟩
    · obtain ⟨s1, k1⟩ := st.sq gh
      rw [hK] at s1 k1
      obtain ⟨w, hw, _⟩ := dpa_get k1 ed
      exact ⟨⟨vs, w, s1, hw⟩, fun x H' y => .inl ⟨y.1, getv k1 ed (y.2 vs s1)⟩⟩
    · obtain ⟨s1, k1⟩ := st.sq gh
      rw [hK] at s1
      exact ⟨vs, s1, Nat.le_of_eq (dpa_len k1)⟩
  | true =>
    refine .inr ⟨sq, q (Itt X.K a) G2 H1 _ S2 x2 ⟨fun G H i d gh st ed => ?_, fun G H gh st => ?_⟩ src stE stG⟩
    · obtain ⟨s1, k1⟩ := st.sq gh
      rw [hK] at s1 k1
      obtain ⟨w, hw, _⟩ := dpa_get k1 ed
      exact ⟨⟨vs, w, s1, hw⟩, fun x H' y => .inl ⟨y.1, getv k1 ed (y.2 vs s1)⟩⟩
    · obtain ⟨s1, k1⟩ := st.sq gh
      rw [hK] at s1
      exact ⟨vs, s1, Nat.le_of_eq (dpa_len k1)⟩
theorem ri_enum (hg : Gl X "enumerate") (hm : X.mg "enumerate" = none) (he : PE X e (tD X.K f)) (hs : starEach [e] X.env = [(false, eval e X.env)] := by rfl) :
    PI X (.Tuple elts kk tpos) (.Call (.Name "enumerate" p) [e] [] pos) (tI X.K (it_enum f)) := pi_imp (pi_enumA hg hm (ra_cons he ra_nil hs) hs) fun σ H R q => by
  obtain ⟨c, G, ε, u, rs, its, u', hK, S, e, q⟩ := q
  obtain ⟨⟨r1, u1⟩, e1, e⟩ := Option.bind_eq_some_iff.mp e
  obtain ⟨⟨b, ds⟩, e2, e⟩ := Option.map_eq_some_iff.mp e
  cases e
  refine ⟨c, G, ε, u, [thaw r1], _, hK, S, by unfold a_cons; rw [e1]; rfl, fun xs G2 H1 S2 x2 A2 => ?_⟩
  obtain ⟨x, rfl, A3⟩ := ar1 A2
  obtain ⟨a, vs, rfl, src⟩ := src_of S2 A3 (show seqA (thaw r1) = some (b, ds) by rw [seqA_thaw]; exact e2)
  have sq := (src.sq S2.gh).1
  rw [hK] at sq
  have stE : ∀ G1 H1 G2 H2, Ext c.U G1 H1 G2 H2 → Src c (thaw r1) b a vs ds G1 H1 → Src c (thaw r1) b a vs ds G2 H2 := fun _ _ _ _ x h => h.ext x
  have stG : [thaw r1].any isBor = false → ∀ G1 H1 G2 H2, Same G1 G2 → Src c (thaw r1) b a vs ds G1 H1 → Src c (thaw r1) b a vs ds G2 H2 := fun hb _ _ _ _ x h => h.same (by simpa using hb) x
  refine ⟨a, vs, rfl, ?_⟩
  cases b with
  | false =>
    refine .inl ⟨sq, q (Ite X.K a) G2 H1 _ S2 x2 ⟨fun G H i d gh st ed => ?_, fun G H gh st => ?_⟩ src stE stG⟩
    · obtain ⟨s1, k1⟩ := st.sq gh
      rw [hK] at s1 k1
      obtain ⟨d', ed', rfl⟩ := enumD_get ds 0 i d ed
      obtain ⟨w, hw, _⟩ := dpa_get k1 ed'
      refine ⟨⟨vs, w, s1, hw⟩, fun x H' y => ?_⟩
      obtain ⟨T, x', rfl, hT, rfl, hx⟩ := y
      exact .inr ⟨T, _, _, hT, rfl, rfl, rfl, .cons (by rw [Nat.zero_add]; exact .int _) (.cons (getv k1 ed' (hx vs s1)) .nil)⟩
    · obtain ⟨s1, k1⟩ := st.sq gh
      rw [hK] at s1
      exact ⟨vs, s1, by rw [enumD_len]; exact Nat.le_of_eq (dpa_len k1)⟩
  | true =>
    refine .inr ⟨sq, q (IteT X.K a) G2 H1 _ S2 x2 ⟨fun G H i d gh st ed => ?_, fun G H gh st => ?_⟩ src stE stG⟩
    · obtain ⟨s1, k1⟩ := st.sq gh
      rw [hK] at s1 k1
      obtain ⟨d', ed', rfl⟩ := enumD_get ds 0 i d ed
      obtain ⟨w, hw, _⟩ := dpa_get k1 ed'
      refine ⟨⟨vs, w, s1, hw⟩, fun x H' y => ?_⟩
      obtain ⟨T, x', rfl, hT, rfl, hx⟩ := y
      exact .inr ⟨T, _, _, hT, rfl, rfl, rfl, .cons (by rw [Nat.zero_add]; exact .int _) (.cons (getv k1 ed' (hx vs s1)) .nil)⟩
    · obtain ⟨s1, k1⟩ := st.sq gh
      rw [hK] at s1
      exact ⟨vs, s1, by rw [enumD_len]; exact dpa_len k1⟩
theorem ri_zip (hg : Gl X "zip") (hm : X.mg "zip" = none) (ha : PA X [e, e2] (tA X.K g)) (hs : starEach [e, e2] X.env = (false, eval e X.env) :: starEach [e2] X.env := by rfl) (hpl : (backTo pos (starEach [e2] X.env)).any (·.1) = false := by rfl) :
    PI X (.Tuple elts kk tpos) (.Call (.Name "zip" p) [e, e2] [] pos) (tI X.K (it_zip g)) := pi_imp (RZ.pi_zipA hg hm ha hs hpl) fun σ H R q => by
  obtain ⟨c, G, ε, u, rs, its, u', hK, S, e, q⟩ := q
  obtain ⟨⟨r1, u1⟩, e1, e⟩ := Option.bind_eq_some_iff.mp e
  obtain ⟨its', ez, e⟩ := Option.map_eq_some_iff.mp e
  cases e
  obtain ⟨ra, rb, b, ds, ds', rfl, e2, e3, rfl⟩ := zipK_some (show zipK r1 = some its from ez)
  refine ⟨c, G, ε, u, _, _, hK, S, e1, fun xs G2 H1 S2 x2 A2 => ?_⟩
  obtain ⟨x, y, rfl, A2, A3⟩ := ar2 A2
  obtain ⟨a, vs, rfl, src⟩ := src_of S2 A2 e2
  obtain ⟨a', vs', rfl, src'⟩ := src_of S2 A3 e3
  have sq := (src.sq S2.gh).1
  have sq' := (src'.sq S2.gh).1
  rw [hK] at sq sq'
  have stE : ∀ G1 H1 G2 H2, Ext c.U G1 H1 G2 H2 → (Src c ra b a vs ds G1 H1 ∧ Src c rb b a' vs' ds' G1 H1) → (Src c ra b a vs ds G2 H2 ∧ Src c rb b a' vs' ds' G2 H2) := fun _ _ _ _ x h => ⟨h.1.ext x, h.2.ext x⟩
  have stG : [ra, rb].any isBor = false → ∀ G1 H1 G2 H2, Same G1 G2 → (Src c ra b a vs ds G1 H1 ∧ Src c rb b a' vs' ds' G1 H1) → (Src c ra b a vs ds G2 H2 ∧ Src c rb b a' vs' ds' G2 H2) := fun hb _ _ _ _ x h => by
    have hb' : isBor ra = false ∧ isBor rb = false := by simpa using hb
    exact ⟨h.1.same hb'.1 x, h.2.same hb'.2 x⟩
  refine ⟨a, a', vs, vs', rfl, ?_⟩
  cases b with
  | false =>
    refine .inl ⟨sq, sq', q (Itz X.K a a') G2 H1 _ S2 x2 ⟨fun G H i d gh st ed => ?_, fun G H gh st => ?_⟩ ⟨src, src'⟩ stE stG⟩
    · obtain ⟨s1, k1⟩ := st.1.sq gh
      obtain ⟨s2, k2⟩ := st.2.sq gh
      rw [hK] at s1 k1 s2 k2
      obtain ⟨d1, d2, ed1, ed2, rfl⟩ := zipD_get ds ds' i d ed
      obtain ⟨w, hw, _⟩ := dpa_get k1 ed1
      obtain ⟨w', hw', _⟩ := dpa_get k2 ed2
      refine ⟨⟨vs, vs', w, w', s1, s2, hw, hw'⟩, fun x H' y => ?_⟩
      obtain ⟨T, x', y', rfl, hT, rfl, hx, hy⟩ := y
      exact .inr ⟨T, _, _, hT, rfl, rfl, rfl, .cons (getv k1 ed1 (hx vs s1)) (.cons (getv k2 ed2 (hy vs' s2)) .nil)⟩
    · obtain ⟨s1, k1⟩ := st.1.sq gh
      obtain ⟨s2, k2⟩ := st.2.sq gh
      rw [hK] at s1 s2
      have l1 := dpa_len k1
      have l2 := dpa_len k2
      exact ⟨vs, vs', s1, s2, by rw [zipD_len]; omega⟩
  | true =>
    refine .inr ⟨sq, sq', q (RZ.ItzT X.K a a') G2 H1 _ S2 x2 ⟨fun G H i d gh st ed => ?_, fun G H gh st => ?_⟩ ⟨src, src'⟩ stE stG⟩
    · obtain ⟨s1, k1⟩ := st.1.sq gh
      obtain ⟨s2, k2⟩ := st.2.sq gh
      rw [hK] at s1 k1 s2 k2
      obtain ⟨d1, d2, ed1, ed2, rfl⟩ := zipD_get ds ds' i d ed
      obtain ⟨w, hw, _⟩ := dpa_get k1 ed1
      obtain ⟨w', hw', _⟩ := dpa_get k2 ed2
      refine ⟨⟨vs, vs', w, w', s1, s2, hw, hw'⟩, fun x H' y => ?_⟩
      obtain ⟨T, x', y', rfl, hT, rfl, hx, hy⟩ := y
      exact .inr ⟨T, _, _, hT, rfl, rfl, rfl, .cons (getv k1 ed1 (hx vs s1)) (.cons (getv k2 ed2 (hy vs' s2)) .nil)⟩
    · obtain ⟨s1, k1⟩ := st.1.sq gh
      obtain ⟨s2, k2⟩ := st.2.sq gh
      rw [hK] at s1 s2
      have l1 := dpa_len k1
      have l2 := dpa_len k2
      exact ⟨vs, vs', s1, s2, by rw [zipD_len]; omega⟩
theorem rgD_wk {K : PySem.W.Frag} (lo : Int) (n : Nat) : Wk K (Itr lo n) (rgD lo n) (fun _ _ => True) := by
  have hl : (rgD lo n).length = n := by unfold rgD; rw [List.length_map, List.length_range]
  refine ⟨fun G H i d _ _ ed => ?_, fun G H _ _ => Nat.le_of_eq hl.symm⟩
  have hi : i < n := by
    have := (List.getElem?_eq_some_iff.mp ed).1
    rw [hl] at this
    exact this
  have hd : d = .int (lo + i) := by
    unfold rgD at ed
    rw [List.getElem?_map, List.getElem?_range hi] at ed
    exact (Option.some.inj ed).symm
  subst hd
  exact ⟨hi, fun x H' y => by
    obtain ⟨h1, h2⟩ := y
    subst h1 h2
    exact .inl ⟨rfl, .int _⟩⟩
theorem ri_rg1 (hg : Gl X "range") (hm : X.mg "range" = none) (ha : PA X [e] (tA X.K g)) (hs : starEach [e] X.env = [(false, eval e X.env)] := by rfl) : PI X tg (.Call (.Name "range" p) [e] [] pos) (tI X.K (it_rg1 g)) :=
  pi_imp (pi_range1 hg hm ha hs) fun σ H R q => by
    obtain ⟨c, G, ε, u, rs, its, u', hK, S, e, q⟩ := q
    obtain ⟨⟨r1, u1⟩, e1, e⟩ := Option.bind_eq_some_iff.mp e
    obtain ⟨its', ez, e⟩ := Option.map_eq_some_iff.mp e
    cases e
    obtain ⟨j, rfl, hj, rfl⟩ := rg1K_some (show rg1K r1 = some its from ez)
    refine ⟨c, G, ε, u, _, _, hK, S, e1, fun xs G2 H1 S2 x2 A2 => ?_⟩
    obtain ⟨x, rfl, A3⟩ := ar1 A2
    cases (show Dp c.K G2 x (.int j) from A3)
    exact ⟨j, rfl, hj.2, hj.1, q _ G2 H1 _ S2 x2 (rgD_wk 0 j.toNat) True.intro (fun _ _ _ _ _ _ => True.intro) fun _ _ _ _ _ _ _ => True.intro⟩
theorem ri_rg2 (hg : Gl X "range") (hm : X.mg "range" = none) (ha : PA X [e, e2] (tA X.K g)) (hs : starEach [e, e2] X.env = [(false, eval e X.env), (false, eval e2 X.env)] := by rfl) (hs2 : starEach [e2] X.env = [(false, eval e2 X.env)] := by rfl) :
    PI X tg (.Call (.Name "range" p) [e, e2] [] pos) (tI X.K (it_rg2 g)) :=
  pi_imp (pi_range2 hg hm ha hs hs2) fun σ H R q => by
    obtain ⟨c, G, ε, u, rs, its, u', hK, S, e, q⟩ := q
    obtain ⟨⟨r1, u1⟩, e1, e⟩ := Option.bind_eq_some_iff.mp e
    obtain ⟨its', ez, e⟩ := Option.map_eq_some_iff.mp e
    cases e
    obtain ⟨i, j, rfl, hj, rfl⟩ := rg2K_some (show rg2K r1 = some its from ez)
    refine ⟨c, G, ε, u, _, _, hK, S, e1, fun xs G2 H1 S2 x2 A2 => ?_⟩
    obtain ⟨x, y, rfl, A2, A3⟩ := ar2 A2
    cases (show Dp c.K G2 x (.int i) from A2)
    cases (show Dp c.K G2 y (.int j) from A3)
    exact ⟨i, j, rfl, ⟨hj.2.2, hj.2.1, hj.1.2, hj.1.1⟩, q _ G2 H1 _ S2 x2 (rgD_wk i (j - i).toNat) True.intro (fun _ _ _ _ _ _ => True.intro) fun _ _ _ _ _ _ _ => True.intro⟩
end
end Dl
end
end

section
set_option Elab.async false
set_option linter.all false
set_option maxRecDepth 100000
/-! The data layer, part H: targets, comprehensions. -/
noncomputable section
namespace Dl
open PySem PySem.Spec PyProof.Rows L2

section
variable {c : Cc} {G H G' H' : Hp} {σ : L2.St} {ε : Ev} {u : Ur} {v : V}
/-- a slot gets data -/
theorem SR.setVal (S : SR c G σ H ε u) (i : Nat) {d : D} (h : Dp c.K G v d) : SR c G (σ.set i (some v)) H (ε.set i (.val d)) u := by
  refine ⟨S.gh, S.g0, S.gn, S.fr, S.ur, by rw [List.length_set, List.length_set]; exact S.len, fun j s e => ?_, fun j k ds es a e1 e2 e3 e4 => ?_⟩
  · by_cases hj : i = j
    · subst hj
      have hl : i < ε.length := by
        have := (List.getElem?_eq_some_iff.mp e).1
        simpa using this
      rw [List.getElem?_set_self hl] at e
      cases e
      rw [List.getElem?_set_self (by rw [S.len]; exact hl)]
      exact ⟨_, rfl, v, rfl, h⟩
    · rw [List.getElem?_set_ne hj] at e
      rw [List.getElem?_set_ne hj]
      exact S.sl j s e
  · have ne : ∀ (j : Nat) (ds : List D), (ε.set i (.val d))[j]? = some (.own ds) → i ≠ j := fun j ds e z => by
      subst z
      have hl : i < ε.length := by
        have := (List.getElem?_eq_some_iff.mp e).1
        simpa using this
      rw [List.getElem?_set_self hl] at e
      cases e
    have h1 := ne j ds e1
    have h2 := ne k es e2
    rw [List.getElem?_set_ne h1] at e1 e3
    rw [List.getElem?_set_ne h2] at e2 e4
    exact S.ds j k ds es a e1 e2 e3 e4
def wipeE (ε : Ev) : List Nat → Ev
  | [] => ε
  | v :: vs => (wipeE ε vs).set v .un
theorem wipeE_len (ε : Ev) : ∀ vs : List Nat, (wipeE ε vs).length = ε.length
  | [] => rfl
  | v :: vs => by unfold wipeE; rw [List.length_set, wipeE_len ε vs]
theorem wipeE_at {ε : Ev} {i : Nat} : ∀ {vs : List Nat}, (wipeE ε vs)[i]? = if i ∈ vs ∧ i < ε.length then some .un else ε[i]?
  | [] => by rw [if_neg (by simp)]; rfl
  | v :: vs => by
    unfold wipeE
    by_cases hv : v = i
    · subst hv
      by_cases hl : v < ε.length
      · rw [List.getElem?_set_self (by rw [wipeE_len]; exact hl), if_pos ⟨List.mem_cons_self .., hl⟩]
      · rw [if_neg (fun z => hl z.2), List.getElem?_eq_none (by rw [List.length_set, wipeE_len]; omega), List.getElem?_eq_none (by omega)]
    · rw [List.getElem?_set_ne hv, wipeE_at (vs := vs)]
      by_cases hm : i ∈ vs ∧ i < ε.length
      · rw [if_pos hm, if_pos ⟨List.mem_cons_of_mem _ hm.1, hm.2⟩]
      · rw [if_neg hm, if_neg]
        rintro ⟨h1, h2⟩
        rcases List.mem_cons.mp h1 with z | z
        · exact hv z.symm
        · exact hm ⟨z, h2⟩
theorem wipe_at {σ : L2.St} {i : Nat} : ∀ {vs : List Nat}, (wipe σ vs)[i]? = if i ∈ vs ∧ i < σ.length then some none else σ[i]?
  | [] => by rw [if_neg (by simp)]; rfl
  | v :: vs => by
    unfold wipe
    by_cases hv : v = i
    · subst hv
      by_cases hl : v < σ.length
      · rw [List.getElem?_set_self (by rw [wipe_length]; exact hl), if_pos ⟨List.mem_cons_self .., hl⟩]
      · rw [if_neg (fun z => hl z.2), List.getElem?_eq_none (by rw [List.length_set, wipe_length]; omega), List.getElem?_eq_none (by omega)]
    · rw [List.getElem?_set_ne hv, wipe_at (vs := vs)]
      by_cases hm : i ∈ vs ∧ i < σ.length
      · rw [if_pos hm, if_pos ⟨List.mem_cons_of_mem _ hm.1, hm.2⟩]
      · rw [if_neg hm, if_neg]
        rintro ⟨h1, h2⟩
        rcases List.mem_cons.mp h1 with z | z
        · exact hv z.symm
        · exact hm ⟨z, h2⟩
theorem SR.wipe (S : SR c G σ H ε u) (vs : List Nat) : SR c G (L2.wipe σ vs) H (wipeE ε vs) u := by
  have own : ∀ (j : Nat) (ds : List D), (wipeE ε vs)[j]? = some (.own ds) → ¬ (j ∈ vs ∧ j < ε.length) := fun j ds e z => by
    rw [wipeE_at, if_pos z] at e
    cases e
  refine ⟨S.gh, S.g0, S.gn, S.fr, S.ur, by rw [wipe_length, wipeE_len]; exact S.len, fun j s e => ?_, fun j k ds es a e1 e2 e3 e4 => ?_⟩
  · rw [wipeE_at] at e
    rw [wipe_at, S.len]
    by_cases hj : j ∈ vs ∧ j < ε.length
    · rw [if_pos hj] at e
      cases e
      rw [if_pos hj]
      exact ⟨none, rfl, True.intro⟩
    · rw [if_neg hj] at e
      rw [if_neg hj]
      exact S.sl j s e
  · have h1 := own j ds e1
    have h2 := own k es e2
    rw [wipeE_at, if_neg h1] at e1
    rw [wipeE_at, if_neg h2] at e2
    rw [wipe_at, S.len, if_neg h1] at e3
    rw [wipe_at, S.len, if_neg h2] at e4
    exact S.ds j k ds es a e1 e2 e3 e4
end

/-! ### targets -/
abbrev TgD := D → Ev → Option Ev
structure TgOk (K : PySem.W.Frag) (g : TG) (t : TgD) (is : List Nat) : Prop where
  run : ∀ (c : Cc) (G : Hp) (σ : L2.St) (H : Hp) (ε : Ev) (u : Ur) (v : V) (d : D) (ε' : Ev) (Q : L2.St → Hp → Prop), c.K = K → SR c G σ H ε u → Dp c.K G v d → t d ε = some ε' →
    (∀ σ', SR c G σ' H ε' u → σ'.length = σ.length → (∀ j, j ∉ is → σ'[j]? = σ[j]?) → Q σ' H) → g v σ H Q
  keep : ∀ (d : D) (ε ε' : Ev), t d ε = some ε' → ε'.length = ε.length ∧ ∀ j, j ∉ is → ε'[j]? = ε[j]?
structure TgsOk (K : PySem.W.Frag) (g : TGs) (t : List D → Ev → Option Ev) (is : List Nat) (n : Nat) : Prop where
  run : ∀ (c : Cc) (G : Hp) (σ : L2.St) (H : Hp) (ε : Ev) (u : Ur) (vs : List V) (ds : List D) (ε' : Ev) (Q : L2.St → Hp → Prop), c.K = K → SR c G σ H ε u → DpAll c.K G vs ds → t ds ε = some ε' →
    (∀ σ', SR c G σ' H ε' u → σ'.length = σ.length → (∀ j, j ∉ is → σ'[j]? = σ[j]?) → Q σ' H) → g vs σ H Q
  keep : ∀ (d : List D) (ε ε' : Ev), t d ε = some ε' → ε'.length = ε.length ∧ (∀ j, j ∉ is → ε'[j]? = ε[j]?) ∧ d.length = n
def t_name (i : Nat) : TgD := fun d ε => some (ε.set i (.val d))
def t_nil : List D → Ev → Option Ev
  | [], ε => some ε
  | _ :: _, _ => none
def t_cons (t : TgD) (ts : List D → Ev → Option Ev) : List D → Ev → Option Ev
  | [], _ => none
  | d :: ds, ε => (t d ε).bind fun ε => ts ds ε
def t_tup (ts : List D → Ev → Option Ev) : TgD := fun d ε => match d with
  | .tuple ds => ts ds ε
  | _ => none
section
variable {K : PySem.W.Frag}
theorem tg_name (i : Nat) : TgOk K (gName i) (t_name i) [i] where
  run := fun c G σ H ε u v d ε' Q hK S h e q => by
    cases e
    exact q _ (S.setVal i h) List.length_set fun j hj => List.getElem?_set_ne (fun z => hj (by simp [z]))
  keep := fun d ε ε' e => by
    cases e
    exact ⟨List.length_set, fun j hj => List.getElem?_set_ne (fun z => hj (by simp [z]))⟩
theorem tg_nil : TgsOk K gNil t_nil [] 0 where
  run := fun c G σ H ε u vs ds ε' Q hK S h e q => by
    cases h with
    | nil =>
      cases e
      exact ⟨rfl, q σ S rfl fun _ _ => rfl⟩
    | cons _ _ => cases e
  keep := fun ds ε ε' e => by
    cases ds with
    | nil => cases e; exact ⟨rfl, fun _ _ => rfl, rfl⟩
    | cons _ _ => cases e
theorem tg_cons {g : TG} {t : TgD} {is : List Nat} {gs : TGs} {ts : List D → Ev → Option Ev} {js : List Nat} {n : Nat} (h1 : TgOk K g t is) (h2 : TgsOk K gs ts js n) : TgsOk K (gCons g gs) (t_cons t ts) (is ++ js) (n + 1) where
  run := fun c G σ H ε u vs ds ε' Q hK S h e q => by
    cases h with
    | nil => cases e
    | cons a b =>
      obtain ⟨ε1, e1, e2⟩ := Option.bind_eq_some_iff.mp e
      refine ⟨_, _, rfl, h1.run c G σ H ε u _ _ ε1 _ hK S a e1 fun σ1 S1 l1 k1 => ?_⟩
      refine h2.run c G σ1 H ε1 u _ _ ε' _ hK S1 b e2 fun σ2 S2 l2 k2 => q σ2 S2 (l2.trans l1) fun j hj => ?_
      rw [List.mem_append, not_or] at hj
      exact (k2 j hj.2).trans (k1 j hj.1)
  keep := fun ds ε ε' e => by
    cases ds with
    | nil => cases e
    | cons d ds =>
      obtain ⟨ε1, e1, e2⟩ := Option.bind_eq_some_iff.mp e
      obtain ⟨l1, k1⟩ := h1.keep d ε ε1 e1
      obtain ⟨l2, k2, n2⟩ := h2.keep ds ε1 ε' e2
      refine ⟨l2.trans l1, fun j hj => ?_, congrArg Nat.succ n2⟩
      rw [List.mem_append, not_or] at hj
      exact (k2 j hj.2).trans (k1 j hj.1)
theorem tg_tup {gs : TGs} {ts : List D → Ev → Option Ev} {is : List Nat} {n : Nat} (h : TgsOk K gs ts is n) : TgOk K (gTup K n gs) (t_tup ts) is where
  run := fun c G σ H ε u v d ε' Q hK S hd e q => by
    cases d with
    | tuple ds =>
      cases hd with
      | tup s a =>
        refine ⟨_, _, rfl, ?_, ?_, h.run c G σ H ε u _ ds ε' Q hK S a e q⟩
        · rw [← hK]; exact same_seqT S.gh s
        · rw [dpa_len a]; exact (h.keep ds ε ε' e).2.2
    | _ => cases e
  keep := fun d ε ε' e => by
    cases d with
    | tuple ds => exact ⟨(h.keep ds ε ε' e).1, (h.keep ds ε ε' e).2.1⟩
    | _ => cases e
end

/-! ### a turn's item -/
theorem yok_ok {c : Cc} {G H H' : Hp} {σ : L2.St} {ε : Ev} {u : Ur} {x : V} {d : D} (S : SR c G σ H ε u) (y : Yok c.K G H x H' d) : ∃ G', SR c G' σ H' ε u ∧ Ext c.U G H G' H' ∧ Dp c.K G' x d := by
  rcases y with ⟨rfl, h⟩ | ⟨T, vs, ds, hT, rfl, rfl, rfl, h⟩
  · exact ⟨G, S, Ext.refl, h⟩
  · obtain ⟨h1, h2, h3⟩ := S.tup hT h
    exact ⟨_, h1, h2, h3⟩

/-! ### comprehensions -/
def b_yes : DT := fun _ u => some (true, u)
def dat1 : Rs → Option D
  | .val d => some d
  | .own ds => some (.list ds)
  | _ => none
def lcD (tg : TgD) (tt : DT) (te : DE) : List D → Ev → Ur → Option (List D × Ur)
  | [], _, u => some ([], u)
  | d :: ds, ε, u => (tg d ε).bind fun ε1 => (tt ε1 u).bind fun b => if b.1 then (te ε1 b.2).bind fun r => (dat1 r.1).bind fun e => (lcD tg tt te ds ε r.2).map fun q => (e :: q.1, q.2) else lcD tg tt te ds ε b.2
def e_lc (it : DI) (vs : List Nat) (tg : TgD) (tt : DT) (te : DE) : DE := fun ε u => (it ε u).bind fun p => (lcD tg tt te p.1.2 (wipeE ε vs) p.2).bind fun q => if lim q.1.length then some (.own q.1, q.2) else none

section
variable {c : Cc} {G H : Hp} {σ : L2.St} {ε : Ev} {u : Ur}
/-- the list that is being made grows -/
theorem SR.updD (S : SR c G σ H ε u) {L : Addr} {xs ys : List V} (hL : H L = some (.lst xs)) (g : G L = none) (h0 : c.H_0 L = none) (hu : c.U ≠ some L) (hs : ∀ (i : Nat) (ds : List D), ε[i]? = some (.own ds) → σ[i]? ≠ some (some (.ref L))) : SR c G σ (upd H L (.lst ys)) ε u where
  gh := fun b o e => by
    rw [upd_ne (fun z => by subst z; rw [g] at e; cases e)]
    exact S.gh b o e
  g0 := S.g0
  gn := S.gn
  fr := fun a o e h => by
    rw [upd_ne (fun z => by subst z; rw [h0] at e; cases e)]
    exact S.fr a o e h
  ur := fun a e => ⟨(S.ur a e).1, (S.ur a e).2.1, by
    rw [upd_ne (fun z => by subst z; exact hu e)]
    exact (S.ur a e).2.2⟩
  len := S.len
  sl := fun i s e => by
    obtain ⟨vo, h1, h2⟩ := S.sl i s e
    refine ⟨vo, h1, ?_⟩
    cases s with
    | un => exact h2
    | val d => exact h2
    | urn => exact h2
    | own ds =>
      obtain ⟨a, vs, rfl, k1, k2, k3, k4, k5⟩ := h2
      refine ⟨a, vs, rfl, k1, k2, k3, ?_, k5⟩
      rw [upd_ne (fun z => by subst z; exact hs i ds e h1)]
      exact k4
  ds := S.ds
end
theorem dat1_ok {c : Cc} {G H G1 H1 : Hp} {σ : L2.St} {ε : Ev} {u u0 : Ur} {v : V} {r : Rs} {d : D} (S0 : SR c G σ H ε u0) (S1 : SR c G1 σ H1 ε u) (x : Ext c.U G H G1 H1) (R : RsOk c H G1 H1 σ ε v r) (e : dat1 r = some d) :
    ∃ G2, SR c G2 σ H1 ε u ∧ Ext c.U G H G2 H1 ∧ Dp c.K G2 v d := by
  obtain ⟨G2, h1, h2, h3, _⟩ := thaw_ok S0 S1 x R
  refine ⟨G2, h1, h2, ?_⟩
  cases r with
  | val _ => cases e; exact h3
  | own _ => cases e; exact h3
  | bor _ _ => cases e
  | urn => cases e

section
variable {X : Cx} {elt tg iter : Expr} {ifs : List Expr} {scope : Scope} {own : List (Str × Nat)} {pos : Pos} {it : DI} {g : TG} {t : TgD} {is : List Nat} {tt : DT} {te : DE}
theorem pts_nilB : PTs X [] (tB X.K b_yes) := ⟨fun pins s σ H Q I h => (pts_nil (X := X)).run pins s σ H Q I (by
  obtain ⟨c, G, ε, u, b, u', hK, S, e, q⟩ := h
  cases e
  exact q G H S Ext.refl)⟩
theorem pts_oneB {e : Expr} {f : DT} (h : PT X e (tB X.K f)) : PTs X [e] (tB X.K f) := pts_one h
theorem wipe_eq {σ σ' : L2.St} {vs is : List Nat} (hl : σ'.length = σ.length) (hs : ∀ i ∈ is, i ∈ vs) (h : ∀ j, j ∉ is → σ'[j]? = σ[j]?) : wipe σ' vs = wipe σ vs := by
  refine List.ext_getElem? fun j => ?_
  rw [wipe_at, wipe_at, hl]
  by_cases hj : j ∈ vs ∧ j < σ.length
  · rw [if_pos hj, if_pos hj]
  · rw [if_neg hj, if_neg hj]
    by_cases hi : j ∈ is
    · have hv := hs j hi
      have hlt : ¬ j < σ.length := fun z => hj ⟨hv, z⟩
      rw [List.getElem?_eq_none (by omega), List.getElem?_eq_none (by omega)]
    · exact h j hi
theorem wipeE_eq {σ σ' : Ev} {vs is : List Nat} (hl : σ'.length = σ.length) (hs : ∀ i ∈ is, i ∈ vs) (h : ∀ j, j ∉ is → σ'[j]? = σ[j]?) : wipeE σ' vs = wipeE σ vs := by
  refine List.ext_getElem? fun j => ?_
  rw [wipeE_at, wipeE_at, hl]
  by_cases hj : j ∈ vs ∧ j < σ.length
  · rw [if_pos hj, if_pos hj]
  · rw [if_neg hj, if_neg hj]
    by_cases hi : j ∈ is
    · have hv := hs j hi
      have hlt : ¬ j < σ.length := fun z => hj ⟨hv, z⟩
      rw [List.getElem?_eq_none (by omega), List.getElem?_eq_none (by omega)]
    · exact h j hi
theorem wipe_wipe (σ : L2.St) (vs : List Nat) : wipe (wipe σ vs) vs = wipe σ vs := by
  refine List.ext_getElem? fun j => ?_
  rw [wipe_at, wipe_length, wipe_at]
  by_cases hj : j ∈ vs ∧ j < σ.length
  · rw [if_pos hj, if_pos hj]
  · rw [if_neg hj]
theorem wipeE_wipe (σ : Ev) (vs : List Nat) : wipeE (wipeE σ vs) vs = wipeE σ vs := by
  refine List.ext_getElem? fun j => ?_
  rw [wipeE_at, wipeE_len, wipeE_at]
  by_cases hj : j ∈ vs ∧ j < σ.length
  · rw [if_pos hj, if_pos hj]
  · rw [if_neg hj]

/-- the state between two turns of a comprehension -/
structure LcW (K : PySem.W.Frag) (c : Cc) (σ : L2.St) (ε : Ev) (vs : List Nat) (t : TgD) (tt : DT) (te : DE) (its : List D) (St : Hp → Hp → Prop) (G1 H1 : Hp) (L : Addr) (es : List D) (uf : Ur) (i : Nat) (H : Hp) : Prop where
  ex : ∃ (G : Hp) (u : Ur) (acc : List V) (ds ds' : List D), SR c G (wipe σ vs) H (wipeE ε vs) u ∧ Ext c.U G1 H1 G H ∧ St G H ∧ G L = none ∧ H L = some (.lst acc) ∧ DpAll c.K G acc ds ∧
    lcD t tt te (its.drop i) (wipeE ε vs) u = some (ds', uf) ∧ ds ++ ds' = es
theorem lc_read {K : PySem.W.Frag} {it : DI} {g : TG} {t : TgD} {is vs : List Nat} {tt : DT} {te : DE} (tk : TgOk K g t is) (his : ∀ i ∈ is, i ∈ vs) : ∀ σ H Q, tD K (e_lc it vs t tt te) σ H Q → tLc (tI K it) g (tB K tt) (tD K te) vs σ H Q := by
  intro σ H Q q
  obtain ⟨c, G, ε, u, r, u', hK, S, e, q⟩ := q
  obtain ⟨⟨⟨rs, its⟩, u1⟩, e1, e⟩ := Option.bind_eq_some_iff.mp e
  obtain ⟨⟨es, uf⟩, e2, e⟩ := Option.bind_eq_some_iff.mp e
  have e : (if lim es.length = true then some (Rs.own es, uf) else none) = some (r, u') := e
  have hl : lim es.length = true := by
    by_cases z : lim es.length = true
    · exact z
    · rw [if_neg z] at e; cases e
  rw [if_pos hl] at e
  cases e
  have hlim := lim_ok hl
  refine ⟨c, G, ε, u, rs, its, u1, hK, S, e1, fun J G1 H1 St S1 x1 W st stE _ => fun L hL => ?_⟩
  have S1w := S1.wipe vs
  obtain ⟨SL, xL, RL⟩ := S1w.lst (Hs := H1) (vs := []) (ds := []) hL hL .nil
  obtain ⟨a0, vs0, ea0, _, h0L, hUL, gL, _, _⟩ := RL
  cases ea0
  have hLs : ∀ (i : Nat) (ds : List D), (wipeE ε vs)[i]? = some (.own ds) → (wipe σ vs)[i]? ≠ some (some (.ref L)) := fun i ds e1 e2 => by
    obtain ⟨a, ws, ea, _, _, _, k, _⟩ := S1w.bor e1 e2
    cases ea
    rw [hL] at k
    cases k
  refine ⟨fun i m H => m = its.length - i ∧ i ≤ its.length ∧ LcW K c σ ε vs t tt te its St G1 H1 L es u' i H, ⟨its.length, rfl, Nat.zero_le _, ⟨G1, u1, [], [], es, SL, xL, stE _ _ _ _ xL st, gL, upd_same, .nil, e2, rfl⟩⟩, ?_⟩
  rintro i m H2 ⟨rfl, hi2, ⟨G2, u2, acc, ds, ds', S2, x2, st2, g2, hL2, k2, e3, e4⟩⟩
  by_cases hlt : i < its.length
  · have ed : its[i]? = some its[i] := List.getElem?_eq_getElem hlt
    obtain ⟨hgo, hy⟩ := W.go G2 H2 i _ S2.gh st2 ed
    refine .inr ⟨hgo, fun H' => LcW K c σ ε vs t tt te its St G1 H1 L es u' (i + 1) H', fun H' p => ⟨its.length - (i + 1), by omega, rfl, hlt, p⟩, fun x H' yld => ?_⟩
    rw [List.drop_eq_getElem_cons hlt] at e3
    obtain ⟨ε1, et, e3⟩ := Option.bind_eq_some_iff.mp e3
    obtain ⟨⟨b, u3⟩, eb, e3⟩ := Option.bind_eq_some_iff.mp e3
    have yk := hy x H' yld
    rw [← hK] at yk
    obtain ⟨G3, S3, x3, d3⟩ := yok_ok S2 yk
    refine tk.run c G3 (wipe σ vs) H' (wipeE ε vs) u2 x _ ε1 _ hK S3 d3 et fun σ4 S4 l4 k4 => ?_
    have w4 : wipe σ4 vs = wipe σ vs := by rw [wipe_eq l4 his k4, wipe_wipe]
    have w4E : wipeE ε1 vs = wipeE ε vs := by
      obtain ⟨lk, kk⟩ := tk.keep _ _ _ et
      rw [wipeE_eq lk his kk, wipeE_wipe]
    refine ⟨w4, c, G3, ε1, u2, b, u3, hK, S4, eb, fun G5 H5 S5 x5 => ?_⟩
    have xx := (x2.trans x3).trans x5
    have nL : ∀ {G' H'' : Hp}, Ext c.U G2 H2 G' H'' → G' L = none ∧ H'' L = some (.lst acc) := fun {G' H''} z => ⟨(z.n L (by rw [hL2]; exact fun w => nomatch w)).trans g2, z.h L _ hL2 hUL⟩
    cases b with
    | true =>
      refine iteT ?_
      obtain ⟨⟨r6, u6⟩, e6, e3⟩ := Option.bind_eq_some_iff.mp e3
      obtain ⟨d6, e7, e3⟩ := Option.bind_eq_some_iff.mp e3
      obtain ⟨⟨es7, u7⟩, e8, e3⟩ := Option.map_eq_some_iff.mp e3
      cases e3
      refine ⟨c, G5, ε1, u3, r6, u6, hK, S5, e6, fun y G6 H6 S6 x6 R6 => ?_⟩
      obtain ⟨G7, S7, x7, d7⟩ := dat1_ok S5 S6 x6 R6 e7
      obtain ⟨n1, n2⟩ := nL ((x3.trans x5).trans x7)
      have S7w := S7.wipe vs
      rw [w4, w4E] at S7w
      have kacc := dpa_mono ((x3.trans x5).trans x7).g _ _ k2
      have hlen : acc.length < sizeLine := by
        have h1 := dpa_len k2
        have h2 : es.length = ds.length + (es7.length + 1) := by
          rw [← e4, List.length_append]
          rfl
        omega
      have xfin := xx.trans x7
      have xfin' : Ext c.U G1 H1 G7 (upd H6 L (.lst (acc ++ [y]))) := by
        refine ⟨xfin.g, xfin.n, fun a o ea hu => ?_, fun a ea z => ?_⟩
        · rw [upd_ne (fun z => by subst z; rw [hL] at ea; cases ea)]
          exact xfin.h a o ea hu
        · by_cases ha : a = L
          · subst ha; exact ea hL
          · rw [upd_ne ha] at z
            exact xfin.t a ea z
      exact ⟨acc, n2, hlen, G7, u6, acc ++ [y], ds ++ [d6], es7, S7w.updD n2 n1 h0L hUL hLs, xfin', stE _ _ _ _ xfin' st, n1, upd_same, dpa_app kacc (.cons d7 .nil), e8, by rw [← e4, List.append_assoc]; rfl⟩
    | false =>
      refine iteF ?_
      obtain ⟨n1, n2⟩ := nL (x3.trans x5)
      have S5w := S5.wipe vs
      rw [w4, w4E] at S5w
      exact ⟨G5, u3, acc, ds, ds', S5w, xx, stE _ _ _ _ xx st, n1, n2, dpa_mono (x3.trans x5).g _ _ k2, e3, e4⟩
  · have hie : i = its.length := by omega
    subst hie
    rw [List.drop_length] at e3
    cases e3
    rw [List.append_nil] at e4
    subst e4
    refine .inl ⟨W.stop G2 H2 S2.gh st2, ?_⟩
    have xx := x1.trans x2
    refine q _ G2 H2 (S.grow xx S2.gh fun a ea => (S2.ur a ea).2.2) xx ⟨L, acc, rfl, x1.free hL, h0L, hUL, g2, hL2, k2⟩
theorem r_lc (hc : X.calm = true) (hN : X.N.Nodup) (hi : PI X tg iter (tI X.K it)) (ok : BlkOk X.N X.env.scope scope own)
    (hg : ∀ (s : Shared) (H : Hp) (C : Addr) (cl : List (Str × Addr)) (fp : List Addr), PG (X.blk s H scope (compEnvC scope cl C X.env) fp) tg g) (ht : ∀ (s : Shared) (H : Hp) (C : Addr) (cl : List (Str × Addr)) (fp : List Addr), PTs (X.blk s H scope (compEnvC scope cl C X.env) fp) ifs (tB X.K tt))
    (he : ∀ (s : Shared) (H : Hp) (C : Addr) (cl : List (Str × Addr)) (fp : List Addr), PE (X.blk s H scope (compEnvC scope cl C X.env) fp) elt (tD X.K te)) (tk : TgOk X.K g t is) (his : ∀ i ∈ is, i ∈ own.map (·.2)) (hs : ∀ x, foldedSetIterable iter X.env x = pure x := by intro _; rfl) :
    PE X (.ListComp elt [⟨tg, iter, ifs, 0⟩] scope pos) (tD X.K (e_lc it (own.map (·.2)) t tt te)) := by
  exact pe_imp (pe_lc hc hN hi ok hg ht he hs) (lc_read tk his)
end
end Dl
end
end

section
set_option Elab.async false
set_option linter.all false
set_option maxRecDepth 100000
/-! The data layer, part S: statements, loops, a def. -/
noncomputable section
namespace Dl
open PySem PySem.Spec PyProof.Rows L2

inductive Out where
  | nx (ε : Ev)
  | rt (r : Rs)
  | bk (ε : Ev)
  | ct (ε : Ev)
abbrev DS := Ev → Ur → Option (Out × Ur)
def OutK (c : Cc) (G : Hp) (D : Ends) (u' : Ur) : Out → Prop
  | .nx ε' => ∀ G' σ' H', SR c G' σ' H' ε' u' → Same G G' → D.nx σ' H'
  | .bk ε' => ∀ G' σ' H', SR c G' σ' H' ε' u' → Same G G' → D.bk σ' H'
  | .ct ε' => ∀ G' σ' H', SR c G' σ' H' ε' u' → Same G G' → D.ct σ' H'
  | .rt r => ∀ v G' H', PF c.K c.U c.G_0 c.H_0 G' H' u' v r → D.rt v H'
def tS (K : PySem.W.Frag) (f : DS) : TS := fun D σ H => ∃ (c : Cc) (G : Hp) (ε : Ev) (u : Ur) (o : Out) (u' : Ur), c.K = K ∧ SR c G σ H ε u ∧ f ε u = some (o, u') ∧ OutK c G D u' o
theorem ps_imp {X : Cx} {st : Stmt} {t t' : TS} (h : PS X st t) (k : ∀ D σ H, t' D σ H → t D σ H) : PS X st t' := ⟨fun pins s σ H D I q => h.run pins s σ H D I (k D σ H q)⟩
theorem pss_imp {X : Cx} {st : List Stmt} {t t' : TS} (h : PSs X st t) (k : ∀ D σ H, t' D σ H → t D σ H) : PSs X st t' := ⟨fun pins s σ H D I q => h.run pins s σ H D I (k D σ H q)⟩
theorem OutK.mono {c : Cc} {G G' : Hp} {D : Ends} {u' : Ur} {o : Out} (h : OutK c G D u' o) (x : Same G G') : OutK c G' D u' o := by
  cases o with
  | nx ε => exact fun G1 σ' H' S k => h G1 σ' H' S (x.trans k)
  | bk ε => exact fun G1 σ' H' S k => h G1 σ' H' S (x.trans k)
  | ct ε => exact fun G1 σ' H' S k => h G1 σ' H' S (x.trans k)
  | rt r => exact h

def s_nop : DS := fun ε u => some (.nx ε, u)
def s_seq (f g : DS) : DS := fun ε u => (f ε u).bind fun p => match p.1 with
  | .nx ε' => g ε' p.2
  | o => some (o, p.2)
section
variable {X : Cx} {st : Stmt} {rest : List Stmt} {f g : DS}
theorem rs_nil : PSs X [] (tS X.K s_nop) := pss_imp pss_nil fun D σ H q => by
  obtain ⟨c, G, ε, u, o, u', hK, S, e, q⟩ := q
  cases e
  exact q G σ H S (Same.refl _)
theorem rs_cons (h1 : PS X st (tS X.K f)) (h2 : PSs X rest (tS X.K g)) : PSs X (st :: rest) (tS X.K (s_seq f g)) := pss_imp (pss_cons h1 h2) fun D σ H q => by
  obtain ⟨c, G, ε, u, o, u', hK, S, e, q⟩ := q
  obtain ⟨⟨o1, u1⟩, e1, e⟩ := Option.bind_eq_some_iff.mp e
  refine ⟨c, G, ε, u, o1, u1, hK, S, e1, ?_⟩
  cases o1 with
  | nx ε1 => exact fun G' σ' H' S' k => ⟨c, G', ε1, u1, o, u', hK, S', e, q.mono k⟩
  | bk ε1 => cases e; exact q
  | ct ε1 => cases e; exact q
  | rt r => cases e; exact q
theorem rs_one (h1 : PS X st (tS X.K f)) : PSs X [st] (tS X.K f) := pss_one h1
/-- what is never reached -/
def s_never : DS := fun _ _ => none
theorem rs_never : PS X st (tS X.K s_never) := ps_imp ps_never fun D σ H q => by
  obtain ⟨c, G, ε, u, o, u', hK, S, e, q⟩ := q
  cases e
variable {pos : Pos} {e : Expr} {h : DE}
def s_pass : DS := s_nop
theorem rs_pass : PS X (.Pass pos) (tS X.K s_nop) := ps_imp ps_pass fun D σ H q => by
  obtain ⟨c, G, ε, u, o, u', hK, S, e, q⟩ := q
  cases e
  exact q G σ H S (Same.refl _)
def s_brk : DS := fun ε u => some (.bk ε, u)
theorem rs_brk : PS X (.Break pos) (tS X.K s_brk) := ps_imp ps_break fun D σ H q => by
  obtain ⟨c, G, ε, u, o, u', hK, S, e, q⟩ := q
  cases e
  exact q G σ H S (Same.refl _)
def s_cnt : DS := fun ε u => some (.ct ε, u)
theorem rs_cnt : PS X (.Continue pos) (tS X.K s_cnt) := ps_imp ps_continue fun D σ H q => by
  obtain ⟨c, G, ε, u, o, u', hK, S, e, q⟩ := q
  cases e
  exact q G σ H S (Same.refl _)
def s_expr (f : DE) : DS := fun ε u => (f ε u).map fun p => (.nx ε, p.2)
theorem rs_expr (he : PE X e (tD X.K h)) (hs : swapsWith e none pos.line X.env = pure false := by rfl) : PS X (.Expr e pos) (tS X.K (s_expr h)) := ps_imp (ps_expr he hs) fun D σ H q => by
  obtain ⟨c, G, ε, u, o, u', hK, S, e, q⟩ := q
  obtain ⟨⟨r, u1⟩, e1, e⟩ := Option.map_eq_some_iff.mp e
  cases e
  exact ⟨c, G, ε, u, r, _, hK, S, e1, fun v G' H' S' x R => q G' σ H' S' x.g⟩
/-- return -/
def rfin : Rs → Option Rs
  | .val d => some (.val d)
  | .own ds => some (.own ds)
  | .bor _ ds => some (.own ds)
  | .urn => none
def s_ret (f : DE) : DS := fun ε u => (f ε u).bind fun p => (rfin p.1).map fun r => (.rt r, p.2)
theorem SR.pf {c : Cc} {G H Hs : Hp} {σ : L2.St} {ε : Ev} {u : Ur} {v : V} {r r' : Rs} (S : SR c G σ H ε u) (R : RsOk c Hs G H σ ε v r) (e : rfin r = some r') : PF c.K c.U c.G_0 c.H_0 G H u v r' := by
  refine ⟨S.g0, S.gn, S.gh, S.fr, fun a ea => (S.ur a ea).2.2, ?_⟩
  cases r with
  | val d => cases e; exact R
  | own ds =>
    cases e
    obtain ⟨a, vs, rfl, h1, h2, h3, h4, h5, h6⟩ := R
    exact ⟨a, vs, rfl, h2, h4, h5, h6⟩
  | bor i ds =>
    cases e
    obtain ⟨a, vs, rfl, h1, h2, h3, h5, h6⟩ := S.bor R.1 R.2
    exact ⟨a, vs, rfl, h2, h1, h5, h6⟩
  | urn => cases e
theorem rs_ret (he : PE X e (tD X.K h)) : PS X (.Return (some e) pos) (tS X.K (s_ret h)) := ps_imp (ps_ret he) fun D σ H q => by
  obtain ⟨c, G, ε, u, o, u', hK, S, e, q⟩ := q
  obtain ⟨⟨r, u1⟩, e1, e⟩ := Option.bind_eq_some_iff.mp e
  obtain ⟨r', e2, e⟩ := Option.map_eq_some_iff.mp e
  cases e
  exact ⟨c, G, ε, u, r, _, hK, S, e1, fun v G' H' S' x R => q v G' H' (S'.pf R e2)⟩
def s_retN : DS := fun _ u => some (.rt (.val .none), u)
theorem rs_retN : PS X (.Return none pos) (tS X.K s_retN) := ps_imp ps_retN fun D σ H q => by
  obtain ⟨c, G, ε, u, o, u', hK, S, e, q⟩ := q
  cases e
  exact q _ G H (SR.pf (Hs := H) (r := .val .none) S .non rfl)
def s_if (t : DT) (f g : DS) : DS := fun ε u => (t ε u).bind fun p => if p.1 then f ε p.2 else g ε p.2
theorem rs_if {cnd : Expr} {a b : List Stmt} {t : DT} (hc : PT X cnd (tB X.K t)) (ha : PSs X a (tS X.K f)) (hb : PSs X b (tS X.K g)) : PS X (.If cnd a b pos) (tS X.K (s_if t f g)) := ps_imp (ps_if hc ha hb) fun D σ H q => by
  obtain ⟨c, G, ε, u, o, u', hK, S, e, q⟩ := q
  obtain ⟨⟨k, u1⟩, e1, e⟩ := Option.bind_eq_some_iff.mp e
  refine ⟨c, G, ε, u, k, u1, hK, S, e1, fun G1 H1 S1 x1 => ?_⟩
  cases k with
  | true => exact iteT ⟨c, G1, ε, u1, o, u', hK, S1, e, q.mono x1.g⟩
  | false => exact iteF ⟨c, G1, ε, u1, o, u', hK, S1, e, q.mono x1.g⟩
end

/-! ### slots are set -/
def noB : Rs → Bool
  | .bor _ _ => false
  | _ => true
def setR (ε : Ev) (i : Nat) : Rs → Ev
  | .val d => ε.set i (.val d)
  | .own ds => ε.set i (.own ds)
  | .bor j ds => (ε.set j (.val (.list ds))).set i (.val (.list ds))
  | .urn => ε.set i .urn
section
variable {c : Cc} {G H Hs : Hp} {σ : L2.St} {ε : Ev} {u : Ur} {v : V}
theorem SR.setUrn (S : SR c G σ H ε u) (i : Nat) {a : Addr} (h : c.U = some a) : SR c G (σ.set i (some (.ref a))) H (ε.set i .urn) u := by
  refine ⟨S.gh, S.g0, S.gn, S.fr, S.ur, by rw [List.length_set, List.length_set]; exact S.len, fun j s e => ?_, fun j k ds es a e1 e2 e3 e4 => ?_⟩
  · by_cases hj : i = j
    · subst hj
      have hl : i < ε.length := by
        have := (List.getElem?_eq_some_iff.mp e).1
        simpa using this
      rw [List.getElem?_set_self hl] at e
      cases e
      rw [List.getElem?_set_self (by rw [S.len]; exact hl)]
      exact ⟨_, rfl, a, h, rfl⟩
    · rw [List.getElem?_set_ne hj] at e
      rw [List.getElem?_set_ne hj]
      exact S.sl j s e
  · have ne : ∀ (j : Nat) (ds : List D), (ε.set i .urn)[j]? = some (.own ds) → i ≠ j := fun j ds e z => by
      subst z
      have hl : i < ε.length := by
        have := (List.getElem?_eq_some_iff.mp e).1
        simpa using this
      rw [List.getElem?_set_self hl] at e
      cases e
    have h1 := ne j ds e1
    have h2 := ne k es e2
    rw [List.getElem?_set_ne h1] at e1 e3
    rw [List.getElem?_set_ne h2] at e2 e4
    exact S.ds j k ds es a e1 e2 e3 e4
/-- a slot gets an owned list that no slot holds -/
theorem SR.setOwn (S : SR c G σ H ε u) (i : Nat) {a : Addr} {vs : List V} {ds : List D} (h0 : c.H_0 a = none) (hu : c.U ≠ some a) (hg : G a = none) (hh : H a = some (.lst vs)) (hd : DpAll c.K G vs ds)
    (hs : ∀ (j : Nat) (es : List D), ε[j]? = some (.own es) → σ[j]? ≠ some (some (.ref a))) : SR c G (σ.set i (some (.ref a))) H (ε.set i (.own ds)) u := by
  have at_ : ∀ (j : Nat) (s : Sl), (ε.set i (.own ds))[j]? = some s → (i = j ∧ s = .own ds ∧ j < ε.length) ∨ (i ≠ j ∧ ε[j]? = some s) := fun j s e => by
    by_cases hj : i = j
    · subst hj
      have hl : i < ε.length := by
        have := (List.getElem?_eq_some_iff.mp e).1
        simpa using this
      rw [List.getElem?_set_self hl] at e
      cases e
      exact .inl ⟨rfl, rfl, hl⟩
    · rw [List.getElem?_set_ne hj] at e
      exact .inr ⟨hj, e⟩
  refine ⟨S.gh, S.g0, S.gn, S.fr, S.ur, by rw [List.length_set, List.length_set]; exact S.len, fun j s e => ?_, fun j k ds' es b e1 e2 e3 e4 => ?_⟩
  · rcases at_ j s e with ⟨rfl, rfl, hl⟩ | ⟨hj, e⟩
    · rw [List.getElem?_set_self (by rw [S.len]; exact hl)]
      exact ⟨_, rfl, a, vs, rfl, hg, h0, hu, hh, hd⟩
    · rw [List.getElem?_set_ne hj]
      exact S.sl j s e
  · rcases at_ j _ e1 with ⟨rfl, z1, hl⟩ | ⟨hj, e1⟩
    · rw [List.getElem?_set_self (by rw [S.len]; exact hl)] at e3
      cases e3
      rcases at_ k _ e2 with ⟨rfl, _, _⟩ | ⟨hk, e2⟩
      · rfl
      · rw [List.getElem?_set_ne hk] at e4
        exact absurd e4 (hs k es e2)
    · rw [List.getElem?_set_ne hj] at e3
      rcases at_ k _ e2 with ⟨rfl, z1, hl⟩ | ⟨hk, e2⟩
      · rw [List.getElem?_set_self (by rw [S.len]; exact hl)] at e4
        cases e4
        exact absurd e3 (hs j ds' e1)
      · rw [List.getElem?_set_ne hk] at e4
        exact S.ds j k ds' es b e1 e2 e3 e4
/-- a slot's owned list becomes data -/
theorem SR.ghost (S : SR c G σ H ε u) {i : Nat} {ds : List D} (e : ε[i]? = some (.own ds)) : ∃ G' v, σ[i]? = some (some v) ∧ Same G G' ∧ SR c G' σ H (ε.set i (.val (.list ds))) u ∧ Dp c.K G' v (.list ds) := by
  obtain ⟨vo, k1, a, vs, rfl, h1, h2, h3, h4, h5⟩ := S.sl i _ e
  have sg : Same G (upd G a (.lst vs)) := fun b o e => by rw [upd_ne (ne_of_none e h1)]; exact e
  have hd : Dp c.K (upd G a (.lst vs)) (.ref a) (.list ds) := .lst (.inl (.inl upd_same)) (dpa_mono sg ds vs h5)
  have at_ : ∀ (j : Nat) (s : Sl), (ε.set i (.val (.list ds)))[j]? = some s → (i = j ∧ s = .val (.list ds)) ∨ (i ≠ j ∧ ε[j]? = some s) := fun j s e => by
    by_cases hj : i = j
    · subst hj
      have hl : i < ε.length := by
        have := (List.getElem?_eq_some_iff.mp e).1
        simpa using this
      rw [List.getElem?_set_self hl] at e
      cases e
      exact .inl ⟨rfl, rfl⟩
    · rw [List.getElem?_set_ne hj] at e
      exact .inr ⟨hj, e⟩
  refine ⟨upd G a (.lst vs), .ref a, k1, sg, ⟨?_, S.g0.trans sg, fun b eb => ?_, S.fr, S.ur, by rw [List.length_set]; exact S.len, fun j s ej => ?_, fun j k ds' es b e1 e2 e3 e4 => ?_⟩, hd⟩
  · intro b o eb
    by_cases hb : b = a
    · subst hb; rw [upd_same] at eb; cases eb; exact h4
    · rw [upd_ne hb] at eb; exact S.gh b o eb
  · rw [upd_ne (fun z => eb (by rw [z]; exact h2))]
    exact S.gn b eb
  · rcases at_ j s ej with ⟨rfl, rfl⟩ | ⟨hj, ej⟩
    · exact ⟨_, k1, _, rfl, hd⟩
    · obtain ⟨vo', q1, q2⟩ := S.sl j s ej
      refine ⟨vo', q1, ?_⟩
      cases s with
      | un => exact True.intro
      | val d =>
        obtain ⟨w, e1, k⟩ := q2
        exact ⟨w, e1, dp_mono sg d w k⟩
      | own es =>
        obtain ⟨b, ws, rfl, p1, p2, p3, p4, p5⟩ := q2
        have hb : b ≠ a := fun z => by
          subst z
          exact hj (S.ds i j ds es b e ej k1 q1)
        exact ⟨b, ws, rfl, by rw [upd_ne hb]; exact p1, p2, p3, p4, dpa_mono sg es ws p5⟩
      | urn => exact q2
  · rcases at_ j _ e1 with ⟨_, z⟩ | ⟨_, e1⟩
    · cases z
    · rcases at_ k _ e2 with ⟨_, z⟩ | ⟨_, e2⟩
      · cases z
      · exact S.ds j k ds' es b e1 e2 e3 e4
/-- a slot gets a result that is no borrowed one -/
theorem SR.setRsN {r : Rs} (S : SR c G σ H ε u) (i : Nat) (R : RsOk c Hs G H σ ε v r) (hs : ∀ (j : Nat) (es : List D) (a : Addr), ε[j]? = some (.own es) → σ[j]? = some (some (.ref a)) → Hs a ≠ none) (hb : noB r = true) :
    SR c G (σ.set i (some v)) H (setR ε i r) u := by
  cases r with
  | val d => exact S.setVal i R
  | own ds =>
    obtain ⟨a, vs, rfl, h1, h2, h3, h4, h5, h6⟩ := R
    exact S.setOwn i h2 h3 h4 h5 h6 fun j es e1 e2 => hs j es a e1 e2 h1
  | bor j ds => cases hb
  | urn =>
    obtain ⟨a, h, rfl⟩ := R
    exact S.setUrn i h
/-- a slot gets a result -/
theorem SR.setRs {r : Rs} (S : SR c G σ H ε u) (i : Nat) (R : RsOk c Hs G H σ ε v r) (hs : ∀ (j : Nat) (es : List D) (a : Addr), ε[j]? = some (.own es) → σ[j]? = some (some (.ref a)) → Hs a ≠ none) :
    ∃ G', Same G G' ∧ SR c G' (σ.set i (some v)) H (setR ε i r) u := by
  cases r with
  | val d => exact ⟨G, Same.refl _, S.setVal i R⟩
  | own ds =>
    obtain ⟨a, vs, rfl, h1, h2, h3, h4, h5, h6⟩ := R
    exact ⟨G, Same.refl _, S.setOwn i h2 h3 h4 h5 h6 fun j es e1 e2 => hs j es a e1 e2 h1⟩
  | bor j ds =>
    obtain ⟨G', w, k1, k2, k3, k4⟩ := S.ghost R.1
    have ew : w = v := by
      have := R.2
      rw [k1] at this
      exact Option.some.inj (Option.some.inj this)
    subst ew
    exact ⟨G', k2, k3.setVal i k4⟩
  | urn =>
    obtain ⟨a, h, rfl⟩ := R
    exact ⟨G, Same.refl _, S.setUrn i h⟩
theorem SR.ownHs {G1 H1 : Hp} {u1 : Ur} (S : SR c G σ H ε u) : ∀ (j : Nat) (es : List D) (a : Addr), ε[j]? = some (.own es) → σ[j]? = some (some (.ref a)) → H a ≠ none := fun j es a e1 e2 => by
  obtain ⟨b, ws, k, _, _, _, k4, _⟩ := S.bor e1 e2
  cases k
  rw [k4]
  exact fun z => nomatch z
end
def s_set (i : Nat) (f : DE) : DS := fun ε u => (f ε u).map fun p => (.nx (setR ε i p.1), p.2)
def s_tg (t : TgD) (f : DE) : DS := fun ε u => (f ε u).bind fun p => (dat1 p.1).bind fun d => (t d ε).map fun ε' => (.nx ε', p.2)
def s_par2 (i j : Nat) (f g : DE) : DS := fun ε u => (f ε u).bind fun p => (g ε p.2).bind fun q => match p.1, q.1 with
  | .bor _ _, _ => none
  | _, .bor _ _ => none
  | a, b => some (.nx (setR (setR ε i a) j b), q.2)
def s_par3 (i j l : Nat) (f g h : DE) : DS := fun ε u => (f ε u).bind fun p => (g ε p.2).bind fun q => (h ε q.2).bind fun s => match p.1, q.1, s.1 with
  | .bor _ _, _, _ => none
  | _, .bor _ _, _ => none
  | _, _, .bor _ _ => none
  | a, b, d => some (.nx (setR (setR (setR ε i a) j b) l d), s.2)
section
variable {X : Cx} {e a b cc : Expr} {f g h : DE} {pos : Pos}
theorem rs_set (i : Nat) {x : Str} {pos' : Pos} (hN : X.N.Nodup) (hi : X.N[i]? = some x) (hx : Loc X.env.scope x) (he : PE X e (tD X.K f)) (hs : swapsWith e (some (.Name x pos')) pos.line X.env = pure false := by rfl) (hf : X.fn x = true ∨ X.env.scope.names.lookup x = some .local := by first | exact .inl rfl | exact .inr rfl | assumption) :
    PS X (.Assign [.Name x pos'] e pos) (tS X.K (s_set i f)) := ps_imp (ps_set hN hi hx he hs hf) fun D σ H q => by
  obtain ⟨c, G, ε, u, o, u', hK, S, e, q⟩ := q
  obtain ⟨⟨r, u1⟩, e1, e⟩ := Option.map_eq_some_iff.mp e
  cases e
  refine ⟨c, G, ε, u, r, _, hK, S, e1, fun v G' H' S' x R => ?_⟩
  obtain ⟨G2, g2, S2⟩ := S'.setRs i R (S.ownHs (G1 := G) (H1 := H) (u1 := u))
  exact q G2 _ H' S2 (x.g.trans g2)
/-- name = [.. for ..] on one line -/
theorem rs_setLc (i : Nat) {y : Str} {py : Pos} {elt tg iter : Expr} {ifs : List Expr} {scope : Scope} {own : List (Str × Nat)} {spos : Pos} {it : DI} {gg : TG} {t : TgD} {is : List Nat} {tt : DT} {te : DE} (hc : X.calm = true) (hN : X.N.Nodup) (hy : X.N[i]? = some y) (hyl : X.env.scope.names.lookup y = some .local)
    (hsw : swapsWith (.ListComp elt [⟨tg, iter, ifs, 0⟩] scope pos) (some (.Name y py)) spos.line X.env = pure true) (hi : PI X tg iter (tI X.K it)) (ok : BlkOk X.N X.env.scope scope own)
    (hg : ∀ (s : Shared) (H : Hp) (C : Addr) (cl : List (Str × Addr)) (fp : List Addr), PG (X.blk s H scope (compEnvC scope cl C X.env) fp) tg gg) (ht : ∀ (s : Shared) (H : Hp) (C : Addr) (cl : List (Str × Addr)) (fp : List Addr), PTs (X.blk s H scope (compEnvC scope cl C X.env) fp) ifs (tB X.K tt))
    (he : ∀ (s : Shared) (H : Hp) (C : Addr) (cl : List (Str × Addr)) (fp : List Addr), PE (X.blk s H scope (compEnvC scope cl C X.env) fp) elt (tD X.K te)) (tk : TgOk X.K gg t is) (his : ∀ i ∈ is, i ∈ own.map (·.2)) (hs : ∀ x, foldedSetIterable iter X.env x = pure x := by intro _; rfl) :
    PS X (.Assign [.Name y py] (.ListComp elt [⟨tg, iter, ifs, 0⟩] scope pos) spos) (tS X.K (s_set i (e_lc it (own.map (·.2)) t tt te))) := by
  refine ps_imp (ps_setLc hc hN hy hyl hsw hi ok hg ht he hs) fun D σ H q => ?_
  obtain ⟨c, G, ε, u, o, u', hK, S, e, q⟩ := q
  obtain ⟨⟨r, u1⟩, e1, e⟩ := Option.map_eq_some_iff.mp e
  cases e
  refine lc_read tk his σ H _ ⟨c, G, ε, u, r, _, hK, S, e1, fun v G' H' S' x R => ?_⟩
  obtain ⟨G2, g2, S2⟩ := S'.setRs i R (S.ownHs (G1 := G) (H1 := H) (u1 := u))
  exact q G2 _ H' S2 (x.g.trans g2)
theorem rs_tg {tg : Expr} {gg : TG} {t : TgD} {is : List Nat} (he : PE X e (tD X.K f)) (hg : PG X tg gg) (tk : TgOk X.K gg t is) (hs : swapsWithSole [tg] e pos.line X.env = pure false := by rfl) (hw : swappedStores [tg] e X.env = pure none := by rfl)
    (h1 : (assignEach [tg] X.env).map (·.2) = [assign tg X.env] := by rfl) : PS X (.Assign [tg] e pos) (tS X.K (s_tg t f)) := ps_imp (ps_asg he hg hs hw h1) fun D σ H q => by
  obtain ⟨c, G, ε, u, o, u', hK, S, e, q⟩ := q
  obtain ⟨⟨r, u1⟩, e1, e⟩ := Option.bind_eq_some_iff.mp e
  obtain ⟨d, e2, e⟩ := Option.bind_eq_some_iff.mp e
  obtain ⟨ε', e3, e⟩ := Option.map_eq_some_iff.mp e
  cases e
  refine ⟨c, G, ε, u, r, _, hK, S, e1, fun v G' H' S' x R => ?_⟩
  obtain ⟨G2, S2, x2, d2⟩ := dat1_ok S S' x R e2
  exact tk.run c G2 σ H' ε _ v d ε' _ hK S2 d2 e3 fun σ' S3 _ _ => q G2 σ' H' S3 x2.g

/-- two results in two slots -/
theorem SR.set2 {c : Cc} {G H Hs G1 H1 : Hp} {σ : L2.St} {ε : Ev} {u u0 : Ur} {v w : V} {r s : Rs} (S0 : SR c G σ H ε u0) {G2 H2 : Hp} (S : SR c G2 σ H2 ε u) (i : Nat) (x1 : Ext c.U G H G1 H1) (x2 : Ext c.U G1 H1 G2 H2) (R1 : RsOk c H G1 H1 σ ε v r) (R2 : RsOk c H1 G2 H2 σ ε w s) (hr : noB r = true) (hs : noB s = true) :
    SR c G2 (σ.set i (some v)) H2 (setR ε i r) u ∧ RsOk c H1 G2 H2 (σ.set i (some v)) (setR ε i r) w s ∧ ∀ (j : Nat) (es : List D) (a : Addr), (setR ε i r)[j]? = some (.own es) → (σ.set i (some v))[j]? = some (some (.ref a)) → H1 a ≠ none := by
  have R1' := R1.ext x2
  have own0 : ∀ (j : Nat) (es : List D) (a : Addr), ε[j]? = some (.own es) → σ[j]? = some (some (.ref a)) → H1 a ≠ none := fun j es a e1 e2 => x1.t a (S0.ownHs (G1 := G) (H1 := H) (u1 := u) j es a e1 e2)
  have cas : ∀ (s' : Sl), (∀ es, s' = .own es → ∃ a, v = .ref a ∧ H1 a ≠ none) → ∀ (j : Nat) (es : List D) (a : Addr), (ε.set i s')[j]? = some (.own es) → (σ.set i (some v))[j]? = some (some (.ref a)) → H1 a ≠ none := fun s' hs' j es a e1 e2 => by
    by_cases hj : i = j
    · subst hj
      have hl : i < ε.length := by
        have := (List.getElem?_eq_some_iff.mp e1).1
        simpa using this
      rw [List.getElem?_set_self hl] at e1
      rw [List.getElem?_set_self (by rw [S.len]; exact hl)] at e2
      obtain ⟨b, rfl, hb⟩ := hs' es (Option.some.inj e1)
      cases e2
      exact hb
    · rw [List.getElem?_set_ne hj] at e1 e2
      exact own0 j es a e1 e2
  have two : RsOk c H1 G2 H2 (σ.set i (some v)) (setR ε i r) w s := by
    cases s with
    | val d => exact R2
    | own ds => exact R2
    | bor _ _ => cases hs
    | urn => exact R2
  cases r with
  | val d => exact ⟨S.setVal i R1', two, cas _ (fun es z => nomatch z)⟩
  | urn =>
    obtain ⟨a, h, rfl⟩ := R1'
    exact ⟨S.setUrn i h, two, cas _ (fun es z => nomatch z)⟩
  | bor _ _ => cases hr
  | own ds =>
    obtain ⟨a, vs, rfl, h1, h2, h3, h4, h5, h6⟩ := R1'
    obtain ⟨a', vs', ea, _, _, _, _, h5', _⟩ := R1
    cases ea
    exact ⟨S.setOwn i h2 h3 h4 h5 h6 fun j es e1 e2 => S0.ownHs (G1 := G) (H1 := H) (u1 := u) j es a e1 e2 h1, two, cas _ fun es _ => ⟨a, rfl, by rw [h5']; exact fun z => nomatch z⟩⟩
def s_parA (i j : Nat) (f g : DE) : DS := fun ε u => (f ε u).bind fun p => (g ε p.2).bind fun q => if noB p.1 && noB q.1 then some (.nx (setR (setR ε i p.1) j q.1), q.2) else none
theorem rs_par2 (i j : Nat) {x y : Str} {px py pt : Pos} {kt k2 : Nat} {pt2} (hc : X.calm = true) (hN : X.N.Nodup) (hi : X.N[i]? = some x) (hj : X.N[j]? = some y) (hij : i ≠ j)
    (hx : X.env.scope.names.lookup x = some .local) (hy : X.env.scope.names.lookup y = some .local) (ha : PE X a (tD X.K f)) (hb : PE X b (tD X.K g))
    (hw : swappedStores [.Tuple [.Name x px, .Name y py] kt pt] (.Tuple [a, b] k2 pt2) X.env = pure (some [x, y]))
    (hs : swapsWithSole [.Tuple [.Name x px, .Name y py] kt pt] (.Tuple [a, b] k2 pt2) pos.line X.env = pure false := by rfl) (h1 : starEach [a, b] X.env = (false, eval a X.env) :: starEach [b] X.env := by rfl) (h2 : starEach [b] X.env = (false, eval b X.env) :: starEach [] X.env := by rfl) :
    PS X (.Assign [.Tuple [.Name x px, .Name y py] kt pt] (.Tuple [a, b] k2 pt2) pos) (tS X.K (s_parA i j f g)) := ps_imp (ps_par hc hN hi hj hij hx hy (pa_cons ha (pa_cons hb pa_nil h2) h1) hw hs) fun D σ H q => by
  obtain ⟨c, G, ε, u, o, u', hK, S, e, q⟩ := q
  obtain ⟨⟨r1, u1⟩, e1, e⟩ := Option.bind_eq_some_iff.mp e
  obtain ⟨⟨r2, u2⟩, e2, e⟩ := Option.bind_eq_some_iff.mp e
  have e : (if (noB r1 && noB r2) = true then some (Out.nx (setR (setR ε i r1) j r2), u2) else none) = some (o, u') := e
  by_cases hb : (noB r1 && noB r2) = true
  · rw [if_pos hb] at e
    cases e
    rw [Bool.and_eq_true] at hb
    refine ⟨c, G, ε, u, r1, u1, hK, S, e1, fun v G1 H1 S1 x1 R1 => ⟨c, G1, ε, u1, r2, _, hK, S1, e2, fun w G2 H2 S2 x2 R2 => ⟨v, w, rfl, ?_⟩⟩⟩
    obtain ⟨T1, T2, T3⟩ := SR.set2 (Hs := H) S S2 i x1 x2 R1 R2 hb.1 hb.2
    obtain ⟨G3, g3, S3⟩ := T1.setRs j T2 T3
    exact q G3 _ H2 S3 ((x1.trans x2).g.trans g3)
  · rw [if_neg hb] at e
    cases e
def s_parB (i j l : Nat) (f g h : DE) : DS := fun ε u => (f ε u).bind fun p => (g ε p.2).bind fun q => (h ε q.2).bind fun s => if noB p.1 && (noB q.1 && noB s.1) then some (.nx (setR (setR (setR ε i p.1) j q.1) l s.1), s.2) else none
theorem SR.set3 {c : Cc} {G H G1 H1 G2 H2 G3 H3 : Hp} {σ : L2.St} {ε : Ev} {u u0 : Ur} {v w z : V} {r s t : Rs} (S0 : SR c G σ H ε u0) (S : SR c G3 σ H3 ε u) (i j : Nat) (x1 : Ext c.U G H G1 H1) (x2 : Ext c.U G1 H1 G2 H2) (x3 : Ext c.U G2 H2 G3 H3)
    (R1 : RsOk c H G1 H1 σ ε v r) (R2 : RsOk c H1 G2 H2 σ ε w s) (R3 : RsOk c H2 G3 H3 σ ε z t) (hr : noB r = true) (hs : noB s = true) (ht : noB t = true) (l : Nat) :
    SR c G3 (((σ.set i (some v)).set j (some w)).set l (some z)) H3 (setR (setR (setR ε i r) j s) l t) u := by
  have R2' : RsOk c H1 G3 H3 σ ε w s := R2.ext x3
  obtain ⟨T1, T2, T3⟩ := SR.set2 (Hs := H) S0 S i x1 (x2.trans x3) R1 R2' hr hs
  have S4 := T1.setRsN j T2 T3 hs
  -- the owned lists of the first two slots are no newer than H2
  have own2 : ∀ (k : Nat) (es : List D) (a : Addr), (setR (setR ε i r) j s)[k]? = some (.own es) → ((σ.set i (some v)).set j (some w))[k]? = some (some (.ref a)) → H2 a ≠ none := by
    have base : ∀ (k : Nat) (es : List D) (a : Addr), (setR ε i r)[k]? = some (.own es) → (σ.set i (some v))[k]? = some (some (.ref a)) → H2 a ≠ none := fun k es a e1 e2 => x2.t a (T3 k es a e1 e2)
    have cas : ∀ (s' : Sl), (∀ es, s' = .own es → ∃ a, w = .ref a ∧ H2 a ≠ none) → ∀ (k : Nat) (es : List D) (a : Addr), ((setR ε i r).set j s')[k]? = some (.own es) → ((σ.set i (some v)).set j (some w))[k]? = some (some (.ref a)) → H2 a ≠ none := fun s' hs' k es a e1 e2 => by
      by_cases hj : j = k
      · subst hj
        have hl : j < (setR ε i r).length := by
          have := (List.getElem?_eq_some_iff.mp e1).1
          simpa using this
        rw [List.getElem?_set_self hl] at e1
        rw [List.getElem?_set_self (by rw [T1.len]; exact hl)] at e2
        obtain ⟨b, rfl, hb⟩ := hs' es (Option.some.inj e1)
        cases e2
        exact hb
      · rw [List.getElem?_set_ne hj] at e1 e2
        exact base k es a e1 e2
    cases s with
    | val d => exact cas _ (fun es z => nomatch z)
    | urn => exact cas _ (fun es z => nomatch z)
    | bor _ _ => cases hs
    | own ds =>
      obtain ⟨a, vs, rfl, _, _, _, _, h5, _⟩ := R2
      exact cas _ fun es _ => ⟨a, rfl, by rw [h5]; exact fun z => nomatch z⟩
  have R3b : RsOk c H2 G3 H3 ((σ.set i (some v)).set j (some w)) (setR (setR ε i r) j s) z t := by
    cases t with
    | val d => exact R3
    | bor _ _ => cases ht
    | urn => exact R3
    | own ds => exact R3
  exact S4.setRsN l R3b own2 ht
theorem rs_par3 (i j l : Nat) {x y z : Str} {px py pz pt : Pos} {kt k2 : Nat} {pt2} (hc : X.calm = true) (hN : X.N.Nodup) (hi : X.N[i]? = some x) (hj : X.N[j]? = some y) (hl : X.N[l]? = some z) (hij : i ≠ j) (hil : i ≠ l) (hjl : j ≠ l)
    (hx : X.env.scope.names.lookup x = some .local) (hy : X.env.scope.names.lookup y = some .local) (hz : X.env.scope.names.lookup z = some .local) (ha : PE X a (tD X.K f)) (hb : PE X b (tD X.K g)) (hcc : PE X cc (tD X.K h))
    (hw : swappedStores [.Tuple [.Name x px, .Name y py, .Name z pz] kt pt] (.Tuple [a, b, cc] k2 pt2) X.env = pure (some [x, y, z]))
    (hs : swapsWithSole [.Tuple [.Name x px, .Name y py, .Name z pz] kt pt] (.Tuple [a, b, cc] k2 pt2) pos.line X.env = pure false := by rfl) (h1 : starEach [a, b, cc] X.env = (false, eval a X.env) :: starEach [b, cc] X.env := by rfl) (h2 : starEach [b, cc] X.env = (false, eval b X.env) :: starEach [cc] X.env := by rfl)
    (h3 : starEach [cc] X.env = (false, eval cc X.env) :: starEach [] X.env := by rfl) :
    PS X (.Assign [.Tuple [.Name x px, .Name y py, .Name z pz] kt pt] (.Tuple [a, b, cc] k2 pt2) pos) (tS X.K (s_parB i j l f g h)) := ps_imp (ps_par3 hc hN hi hj hl hij hil hjl hx hy hz (pa_cons ha (pa_cons hb (pa_cons hcc pa_nil h3) h2) h1) hw hs) fun D σ H q => by
  obtain ⟨c, G, ε, u, o, u', hK, S, e, q⟩ := q
  obtain ⟨⟨r1, u1⟩, e1, e⟩ := Option.bind_eq_some_iff.mp e
  obtain ⟨⟨r2, u2⟩, e2, e⟩ := Option.bind_eq_some_iff.mp e
  obtain ⟨⟨r3, u3⟩, e3, e⟩ := Option.bind_eq_some_iff.mp e
  have e : (if (noB r1 && (noB r2 && noB r3)) = true then some (Out.nx (setR (setR (setR ε i r1) j r2) l r3), u3) else none) = some (o, u') := e
  by_cases hb : (noB r1 && (noB r2 && noB r3)) = true
  · rw [if_pos hb] at e
    cases e
    rw [Bool.and_eq_true, Bool.and_eq_true] at hb
    refine ⟨c, G, ε, u, r1, u1, hK, S, e1, fun v G1 H1 S1 x1 R1 => ⟨c, G1, ε, u1, r2, u2, hK, S1, e2, fun w G2 H2 S2 x2 R2 => ⟨c, G2, ε, u2, r3, _, hK, S2, e3, fun z G3 H3 S3 x3 R3 => ⟨v, w, z, rfl, ?_⟩⟩⟩⟩
    exact q G3 _ H3 (SR.set3 S S3 i j x1 x2 x3 R1 R2 R3 hb.1 hb.2.1 hb.2.2 l) ((x1.trans x2).trans x3).g
  · rw [if_neg hb] at e
    cases e
end

/-! ### an owned list changes -/
section
variable {c : Cc} {G H Hs : Hp} {σ : L2.St} {ε : Ev} {u : Ur} {v : V}
theorem SR.chg (S : SR c G σ H ε u) {i : Nat} {ds ds' : List D} (e : ε[i]? = some (.own ds)) {a : Addr} (ea : σ[i]? = some (some (.ref a))) {ws : List V} (k : DpAll c.K G ws ds') : SR c G σ (upd H a (.lst ws)) (ε.set i (.own ds')) u := by
  obtain ⟨b, vs, eb, h1, h2, h3, h4, h5⟩ := S.bor e ea
  cases eb
  have hl : i < ε.length := (List.getElem?_eq_some_iff.mp e).1
  have at_ : ∀ (j : Nat) (s : Sl), (ε.set i (.own ds'))[j]? = some s → (i = j ∧ s = .own ds') ∨ (i ≠ j ∧ ε[j]? = some s) := fun j s e => by
    by_cases hj : i = j
    · subst hj
      rw [List.getElem?_set_self hl] at e
      cases e
      exact .inl ⟨rfl, rfl⟩
    · rw [List.getElem?_set_ne hj] at e
      exact .inr ⟨hj, e⟩
  refine ⟨fun b o eb => ?_, S.g0, S.gn, fun b o eb hu => ?_, fun b eb => ⟨(S.ur b eb).1, (S.ur b eb).2.1, ?_⟩, by rw [List.length_set]; exact S.len, fun j s ej => ?_, fun j k ds1 es b e1 e2 e3 e4 => ?_⟩
  · rw [upd_ne (fun z => by subst z; rw [h1] at eb; cases eb)]
    exact S.gh b o eb
  · rw [upd_ne (fun z => by subst z; rw [h2] at eb; cases eb)]
    exact S.fr b o eb hu
  · rw [upd_ne (fun z => by subst z; exact h3 eb)]
    exact (S.ur b eb).2.2
  · rcases at_ j s ej with ⟨rfl, rfl⟩ | ⟨hj, ej⟩
    · exact ⟨_, ea, a, ws, rfl, h1, h2, h3, upd_same, k⟩
    · obtain ⟨vo, q1, q2⟩ := S.sl j s ej
      refine ⟨vo, q1, ?_⟩
      cases s with
      | un => exact q2
      | val d => exact q2
      | urn => exact q2
      | own es =>
        obtain ⟨b, us, rfl, p1, p2, p3, p4, p5⟩ := q2
        have hb : b ≠ a := fun z => by
          subst z
          exact hj (S.ds i j ds es b e ej ea q1)
        exact ⟨b, us, rfl, p1, p2, p3, by rw [upd_ne hb]; exact p4, p5⟩
  · have e1' : ∃ es', ε[j]? = some (.own es') := by
      rcases at_ j _ e1 with ⟨rfl, _⟩ | ⟨_, e1⟩
      · exact ⟨_, e⟩
      · exact ⟨_, e1⟩
    have e2' : ∃ es', ε[k]? = some (.own es') := by
      rcases at_ k _ e2 with ⟨rfl, _⟩ | ⟨_, e2⟩
      · exact ⟨_, e⟩
      · exact ⟨_, e2⟩
    obtain ⟨_, e1'⟩ := e1'
    obtain ⟨_, e2'⟩ := e2'
    exact S.ds j k _ _ b e1' e2' e3 e4
/-- the urn changes -/
theorem SR.chgU (S : SR c G σ H ε u) {a : Addr} (ea : c.U = some a) (u' : Ur) : SR c G σ (upd H a (.lst (u'.map V.int))) ε u' := by
  have ga : G a = none := by rw [S.gn a (S.ur a ea).1]; exact (S.ur a ea).2.1
  refine ⟨fun b o eb => ?_, S.g0, S.gn, fun b o eb hu => ?_, fun b eb => ⟨(S.ur b eb).1, (S.ur b eb).2.1, ?_⟩, S.len, fun j s ej => ?_, S.ds⟩
  · rw [upd_ne (fun z => by subst z; rw [ga] at eb; cases eb)]
    exact S.gh b o eb
  · rw [upd_ne (fun z => by subst z; exact hu ea)]
    exact S.fr b o eb hu
  · rw [ea] at eb
    cases eb
    exact upd_same
  · obtain ⟨vo, q1, q2⟩ := S.sl j s ej
    refine ⟨vo, q1, ?_⟩
    cases s with
    | un => exact q2
    | val d => exact q2
    | urn => exact q2
    | own es =>
      obtain ⟨b, us, rfl, p1, p2, p3, p4, p5⟩ := q2
      exact ⟨b, us, rfl, p1, p2, p3, by rw [upd_ne (fun z => by subst z; exact p3 ea)]; exact p4, p5⟩
end
def s_app (i : Nat) (f : DE) : DS := fun ε u => (f ε u).bind fun p => (dat1 p.1).bind fun d => match ε[i]? with
  | some (.own ds) => if lim (ds.length + 1) then some (.nx (ε.set i (.own (ds ++ [d]))), p.2) else none
  | _ => none
/-- o[k] = d where o stands in slot i -/
def putA (i : Nat) (k : Int) (d : D) (ε : Ev) (u : Ur) : Option (Out × Ur) := match ε[i]? with
  | some (.own ds) => (ixN ds.length k).map fun j => (.nx (ε.set i (.own (ds.set j d))), u)
  | some .urn => match d with
    | .int z => (ixN u.length k).map fun j => (.nx ε, u.set j z)
    | _ => none
  | _ => none
def s_put (i : Nat) (kf f : DE) : DS := fun ε u => (f ε u).bind fun p => (dat1 p.1).bind fun d => (kf ε p.2).bind fun q => (asI q.1).bind fun k => putA i k d ε q.2
def s_augI (i : Nat) (kf f : DE) (op : Int → Int → Int) : DS := fun ε u => (kf ε u).bind fun q => (asI q.1).bind fun k => (e_var i ε q.2).bind fun o => (k_ix q.2 o.1 (.val (.int k))).bind fun x => (asI x).bind fun x => (f ε q.2).bind fun p => (asI p.1).bind fun y => putA i k (.int (op x y)) ε p.2
section
variable {X : Cx} {e ke : Expr} {f kf : DE} {pos : Pos}
theorem rs_app (i : Nat) {x : Str} {px apos cpos : Pos} (hN : X.N[i]? = some x) (hv : Vis X.env.scope x) (he : PE X e (tD X.K f)) (hd : (x == ("__debug__" : Str)) = false := by decide) (hcd : (x == ("__classdict__" : Str)) = false := by decide)
    (hbase : attributeBase (.Name x px) "append" X.env (eval (.Name x px) X.env) = eval (.Name x px) X.env := by rfl)
    (hfew : ((backTo cpos (starEach [e] X.env)).all (fun x => !x.1) && (backToKw cpos (keywordEach [] X.env)).all (fun x => x.1.isSome)
      && decide ([e].length + ([] : List Keyword).length + (if ([] : List Keyword).isEmpty then 0 else 1) < 30)) = true := by rfl)
    (hline : (apos.endLine == cpos.line) = true := by rfl) (hs : starEach [e] X.env = (false, eval e X.env) :: starEach [] X.env := by rfl) (hplain : (backTo cpos (starEach [] X.env)).any (·.1) = false := by rfl)
    (hsw : swapsWith (.Call (.Attribute (.Name x px) "append" apos) [e] [] cpos) none pos.line X.env = pure false := by rfl) :
    PS X (.Expr (.Call (.Attribute (.Name x px) "append" apos) [e] [] cpos) pos) (tS X.K (s_app i f)) := by
  refine ps_imp (ps_expr (pe_bm PySem.F.plainAttrs_list PySem.F.slot_list_append PySem.F.type_list_append mt_append (pe_var hN hv hd hcd) (pa_cons he pa_nil hs) hbase hfew hline hs hplain) hsw) fun D σ H q => ?_
  obtain ⟨c, G, ε, u, o, u', hK, S, e, q⟩ := q
  obtain ⟨⟨r1, u1⟩, e1, e⟩ := Option.bind_eq_some_iff.mp e
  obtain ⟨d, e2, e⟩ := Option.bind_eq_some_iff.mp e
  cases ei : ε[i]? with
  | none => rw [ei] at e; cases e
  | some s =>
    rw [ei] at e
    cases s with
    | un => cases e
    | val _ => cases e
    | urn => cases e
    | own ds =>
      have e : (if lim (ds.length + 1) = true then some (Out.nx (ε.set i (.own (ds ++ [d]))), u1) else none) = some (o, u') := e
      by_cases hl : lim (ds.length + 1) = true
      · rw [if_pos hl] at e
        cases e
        obtain ⟨vo, k1, a, vs, rfl, h1, h2, h3, h4, h5⟩ := S.sl i _ ei
        refine ⟨.ref a, k1, .inl ⟨rfl, vs, SqL.of h4⟩, c, G, ε, u, r1, _, hK, S, e1, fun v G1 H1 S1 x1 R1 => ?_⟩
        obtain ⟨G2, S2, x2, d2⟩ := dat1_ok S S1 x1 R1 e2
        obtain ⟨b, vs', eb, h1', h2', h3', h4', h5'⟩ := S2.bor ei k1
        cases eb
        refine ⟨a, vs', v, rfl, rfl, h4', ?_, ?_⟩
        · have := lim_ok hl
          rw [dpa_len h5']
          omega
        · exact q G2 σ _ (S2.chg ei k1 (dpa_app h5' (.cons d2 .nil))) x2.g
      · rw [if_neg hl] at e
        cases e
theorem put_ok {c : Cc} {G H : Hp} {σ : L2.St} {ε : Ev} {u : Ur} {i : Nat} {k : Int} {d : D} {o : Out} {u' : Ur} {v : V} {D : Ends} (S : SR c G σ H ε u) (hd : Dp c.K G v d) (e : putA i k d ε u = some (o, u')) (q : OutK c G D u' o) :
    ∃ x, σ[i]? = some (some x) ∧ rSetL x (.int k) v H (fun H' => D.nx σ H') := by
  unfold putA at e
  cases ei : ε[i]? with
  | none => rw [ei] at e; cases e
  | some s =>
    rw [ei] at e
    obtain ⟨vo, k1, k2⟩ := S.sl i s ei
    cases s with
    | un => cases e
    | val _ => cases e
    | own ds =>
      obtain ⟨j, e1, e⟩ := Option.map_eq_some_iff.mp e
      cases e
      obtain ⟨a, vs, rfl, h1, h2, h3, h4, h5⟩ := k2
      refine ⟨.ref a, k1, a, vs, k, j, rfl, rfl, h4, by rw [dpa_len h5]; exact e1, ?_⟩
      exact q G σ _ (S.chg ei k1 (dpa_set hd j h5)) (Same.refl _)
    | urn =>
      cases d with
      | int z =>
        obtain ⟨j, e1, e⟩ := Option.map_eq_some_iff.mp e
        cases e
        cases hd
        obtain ⟨a, ea, rfl⟩ := k2
        refine ⟨.ref a, k1, a, _, k, j, rfl, rfl, (S.ur a ea).2.2, by rw [List.length_map]; exact e1, ?_⟩
        have em : (u.map V.int).set j (.int z) = (u.set j z).map V.int := by rw [List.map_set]
        rw [em]
        exact q G σ _ (S.chgU ea _) (Same.refl _)
      | _ => cases e
theorem rs_put (i : Nat) {x : Str} {px tpos : Pos} (hN : X.N[i]? = some x) (hv : Vis X.env.scope x) (hk : PE X ke (tD X.K kf)) (he : PE X e (tD X.K f)) (hd : (x == ("__debug__" : Str)) = false := by decide) (hcd : (x == ("__classdict__" : Str)) = false := by decide)
    (ha : ∀ v, assign (.Subscript (.Name x px) ke tpos) X.env v = (do
      let ov ← holding [v] (eval (.Name x px) X.env)
      let iv ← holding [v, ov] (eval ke X.env)
      standAt tpos
      holding [v, ov, iv] (setItem ov iv v)
      release [v, ov, iv] []) := by intro _; rfl) (hs : swapsWithSole [.Subscript (.Name x px) ke tpos] e pos.line X.env = pure false := by rfl) (hw : swappedStores [.Subscript (.Name x px) ke tpos] e X.env = pure none := by rfl)
    (h1 : (assignEach [.Subscript (.Name x px) ke tpos] X.env).map (·.2) = [assign (.Subscript (.Name x px) ke tpos) X.env] := by rfl) :
    PS X (.Assign [.Subscript (.Name x px) ke tpos] e pos) (tS X.K (s_put i kf f)) := by
  refine ps_imp (ps_asg he (pg_sub (pe_var hN hv hd hcd) hk set_list ha) hs hw h1) fun D σ H q => ?_
  obtain ⟨c, G, ε, u, o, u', hK, S, e, q⟩ := q
  obtain ⟨⟨r1, u1⟩, e1, e⟩ := Option.bind_eq_some_iff.mp e
  obtain ⟨d, e2, e⟩ := Option.bind_eq_some_iff.mp e
  obtain ⟨⟨r3, u3⟩, e3, e⟩ := Option.bind_eq_some_iff.mp e
  obtain ⟨k, e4, e⟩ := Option.bind_eq_some_iff.mp e
  have e4 : r3 = .val (.int k) := asI_some e4
  subst e4
  refine ⟨c, G, ε, u, r1, _, hK, S, e1, fun v G1 H1 S1 x1 R1 => ?_⟩
  obtain ⟨G2, S2, x2, d2⟩ := dat1_ok S S1 x1 R1 e2
  -- the target's object is read ahead of the index: the same slot
  have hx : ∃ x, σ[i]? = some (some x) := by
    unfold putA at e
    cases ei : ε[i]? with
    | none => rw [ei] at e; cases e
    | some s =>
      rw [ei] at e
      obtain ⟨vo, k1, k2⟩ := S2.sl i s ei
      cases s with
      | un => cases e
      | val _ => cases e
      | own _ => obtain ⟨a, _, rfl, _⟩ := k2; exact ⟨_, k1⟩
      | urn => obtain ⟨a, _, rfl⟩ := k2; exact ⟨_, k1⟩
  obtain ⟨xo, hxo⟩ := hx
  refine ⟨xo, hxo, c, G2, ε, u1, _, u3, hK, S2, e3, fun w G3 H3 S3 x3 R3 => ?_⟩
  cases (show Dp c.K G3 w (.int k) from R3)
  obtain ⟨x', hx', hset⟩ := put_ok (D := D) S3 (dp_mono x3.g d v d2) e (q.mono (x2.trans x3).g)
  rw [hxo] at hx'
  cases hx'
  exact hset
end

/-! ### ghosts, loops -/
def ghost (i : Nat) (f : DS) : DS := fun ε u => match ε[i]? with
  | some (.own ds) => f (ε.set i (.val (.list ds))) u
  | _ => f ε u
section
variable {X : Cx} {st : Stmt} {f g : DS}
theorem rs_ghost (i : Nat) (h : PS X st (tS X.K f)) : PS X st (tS X.K (ghost i f)) := ps_imp h fun D σ H q => by
  obtain ⟨c, G, ε, u, o, u', hK, S, e, q⟩ := q
  unfold ghost at e
  cases ei : ε[i]? with
  | none => rw [ei] at e; exact ⟨c, G, ε, u, o, u', hK, S, e, q⟩
  | some s =>
    rw [ei] at e
    cases s with
    | un => exact ⟨c, G, ε, u, o, u', hK, S, e, q⟩
    | val _ => exact ⟨c, G, ε, u, o, u', hK, S, e, q⟩
    | urn => exact ⟨c, G, ε, u, o, u', hK, S, e, q⟩
    | own ds =>
      obtain ⟨G', v, _, g, S', _⟩ := S.ghost ei
      exact ⟨c, G', _, u, o, u', hK, S', e, q.mono g⟩
end
def forD (tg : TgD) (body : DS) : List D → Ev → Ur → Option (Out × Ur)
  | [], ε, u => some (.nx ε, u)
  | d :: ds, ε, u => (tg d ε).bind fun ε1 => (body ε1 u).bind fun p => match p.1 with
    | .nx ε2 => forD tg body ds ε2 p.2
    | .ct ε2 => forD tg body ds ε2 p.2
    | .bk ε2 => some (.nx ε2, p.2)
    | .rt r => some (.rt r, p.2)
def s_for (it : DI) (tg : TgD) (body : DS) : DS := fun ε u => (it ε u).bind fun p => if p.1.1.any isBor then none else forD tg body p.1.2 ε p.2
def whileD (t : DT) (body : DS) : Nat → Ev → Ur → Option (Out × Ur)
  | 0, _, _ => none
  | n + 1, ε, u => (t ε u).bind fun b => if b.1 then (body ε b.2).bind fun p => match p.1 with
      | .nx ε2 => whileD t body n ε2 p.2
      | .ct ε2 => whileD t body n ε2 p.2
      | .bk ε2 => some (.nx ε2, p.2)
      | .rt r => some (.rt r, p.2)
    else some (.nx ε, b.2)
theorem whileD_mono {t : DT} {body : DS} : ∀ (n m : Nat) (ε : Ev) (u : Ur) (r : Out × Ur), whileD t body n ε u = some r → n ≤ m → whileD t body m ε u = some r
  | 0, _, _, _, _, h, _ => by cases h
  | n + 1, 0, _, _, _, _, h => by omega
  | n + 1, m + 1, ε, u, r, h, hm => by
    unfold whileD at h ⊢
    obtain ⟨b, e1, h⟩ := Option.bind_eq_some_iff.mp h
    rw [e1]
    show (if b.1 = true then _ else _) = _
    by_cases hb : b.1 = true
    · rw [if_pos hb] at h ⊢
      obtain ⟨p, e2, h⟩ := Option.bind_eq_some_iff.mp h
      rw [e2]
      show (match p.1 with | .nx ε2 => _ | .ct ε2 => _ | .bk ε2 => _ | .rt r => _) = _
      cases hp : p.1 with
      | nx ε2 => rw [hp] at h; exact whileD_mono n m ε2 p.2 r h (by omega)
      | ct ε2 => rw [hp] at h; exact whileD_mono n m ε2 p.2 r h (by omega)
      | bk ε2 => rw [hp] at h; exact h
      | rt z => rw [hp] at h; exact h
    · rw [if_neg hb] at h ⊢
      exact h
open Classical in
def s_while (t : DT) (body : DS) : DS := fun ε u => if h : ∃ (n : Nat) (r : Out × Ur), whileD t body n ε u = some r then some h.choose_spec.choose else none
theorem s_while_of {t : DT} {body : DS} {n : Nat} {ε : Ev} {u : Ur} {r : Out × Ur} (h : whileD t body n ε u = some r) : s_while t body ε u = some r := by
  have hx : ∃ (n : Nat) (r : Out × Ur), whileD t body n ε u = some r := ⟨n, r, h⟩
  unfold s_while
  rw [dif_pos hx]
  have h2 := hx.choose_spec.choose_spec
  have h3 := whileD_mono _ (max n hx.choose) _ _ _ h (by omega)
  have h4 := whileD_mono _ (max n hx.choose) _ _ _ h2 (by omega)
  rw [h3] at h4
  exact h4.symm
theorem s_while_some {t : DT} {body : DS} {ε : Ev} {u : Ur} {r : Out × Ur} (h : s_while t body ε u = some r) : ∃ n, whileD t body n ε u = some r := by
  unfold s_while at h
  split at h
  · rename_i hx
    have h2 := hx.choose_spec.choose_spec
    cases h
    exact ⟨_, h2⟩
  · cases h
section
variable {X : Cx} {tg iter cnd : Expr} {body : List Stmt} {it : DI} {g : TG} {t : TgD} {is : List Nat} {b : DS} {cd : DT} {pos : Pos}
theorem rs_for (hp : PassesOwn (model X.prog X.w) X.A X.env X.xe) (hc : X.calm = true) (hi : PI X tg iter (tI X.K it)) (hg : PG X tg g) (tk : TgOk X.K g t is) (hb : PSs X body (tS X.K b))
    (hs : ∀ x, foldedSetIterable iter X.env x = pure x := by intro _; rfl) : PS X (.For tg iter body [] pos) (tS X.K (s_for it t b)) := ps_imp (ps_for hp hc hi hg hb hs) fun D σ H q => by
  obtain ⟨c, G, ε, u, o, u', hK, S, e, q⟩ := q
  obtain ⟨⟨⟨rs, its⟩, u1⟩, e1, e⟩ := Option.bind_eq_some_iff.mp e
  have e : (if rs.any isBor = true then none else forD t b its ε u1) = some (o, u') := e
  by_cases hbo : rs.any isBor = true
  · rw [if_pos hbo] at e; cases e
  · rw [if_neg hbo] at e
    have hbo : rs.any isBor = false := by cases h : rs.any isBor with | true => exact absurd h hbo | false => rfl
    refine ⟨c, G, ε, u, rs, its, u1, hK, S, e1, fun J G1 H1 St S1 x1 W st _ stG => ?_⟩
    have stG := stG hbo
    refine ⟨fun i m σ' H' => m = its.length - i ∧ i ≤ its.length ∧ ∃ (G' : Hp) (ε' : Ev) (u2 : Ur), SR c G' σ' H' ε' u2 ∧ Same G1 G' ∧ St G' H' ∧ forD t b (its.drop i) ε' u2 = some (o, u'), ⟨its.length, rfl, Nat.zero_le _, G1, ε, u1, S1, Same.refl _, st, e⟩, ?_⟩
    rintro i m σ2 H2 ⟨rfl, hi2, G2, ε2, u2, S2, g2, st2, e2⟩
    by_cases hlt : i < its.length
    · have ed : its[i]? = some its[i] := List.getElem?_eq_getElem hlt
      obtain ⟨hgo, hy⟩ := W.go G2 H2 i _ S2.gh st2 ed
      refine .inr ⟨hgo, fun σ' H' => ∃ (G' : Hp) (ε' : Ev) (u2 : Ur), SR c G' σ' H' ε' u2 ∧ Same G1 G' ∧ St G' H' ∧ forD t b (its.drop (i + 1)) ε' u2 = some (o, u'), fun σ' H' p => ⟨its.length - (i + 1), by omega, rfl, hlt, p⟩, fun x H' yld => ?_⟩
      rw [List.drop_eq_getElem_cons hlt] at e2
      obtain ⟨ε3, et, e2⟩ := Option.bind_eq_some_iff.mp e2
      obtain ⟨⟨o4, u4⟩, eb, e2⟩ := Option.bind_eq_some_iff.mp e2
      have yk := hy x H' yld
      rw [← hK] at yk
      obtain ⟨G3, S3, x3, d3⟩ := yok_ok S2 yk
      refine tk.run c G3 σ2 H' ε2 u2 x _ ε3 _ hK S3 d3 et fun σ4 S4 l4 k4 => ?_
      refine ⟨c, G3, ε3, u2, o4, u4, hK, S4, eb, ?_⟩
      cases o4 with
      | nx ε5 => exact fun G5 σ5 H5 S5 g5 => ⟨G5, ε5, u4, S5, (g2.trans x3.g).trans g5, stG _ _ _ _ (x3.g.trans g5) st2, e2⟩
      | ct ε5 => exact fun G5 σ5 H5 S5 g5 => ⟨G5, ε5, u4, S5, (g2.trans x3.g).trans g5, stG _ _ _ _ (x3.g.trans g5) st2, e2⟩
      | bk ε5 =>
        cases e2
        exact fun G5 σ5 H5 S5 g5 => q G5 σ5 H5 S5 (((x1.g.trans g2).trans x3.g).trans g5)
      | rt r =>
        cases e2
        exact q
    · have hie : i = its.length := by omega
      subst hie
      rw [List.drop_length] at e2
      cases e2
      exact .inl ⟨W.stop G2 H2 S2.gh st2, q G2 σ2 H2 S2 (x1.g.trans g2)⟩
theorem rs_while (hp : PassesOwn (model X.prog X.w) X.A X.env X.xe) (hc : PT X cnd (tB X.K cd)) (hb : PSs X body (tS X.K b)) : PS X (.While cnd body [] pos) (tS X.K (s_while cd b)) := ps_imp (ps_while hp hc hb) fun D σ H q => by
  obtain ⟨c, G, ε, u, o, u', hK, S, e, q⟩ := q
  obtain ⟨n, e⟩ := s_while_some e
  refine ⟨fun m σ' H' => ∃ (G' : Hp) (ε' : Ev) (u2 : Ur), SR c G' σ' H' ε' u2 ∧ Same G G' ∧ whileD cd b m ε' u2 = some (o, u'), ⟨n, G, ε, u, S, Same.refl _, e⟩, ?_⟩
  rintro m σ1 H1 ⟨G1, ε1, u1, S1, g1, e1⟩
  cases m with
  | zero => cases e1
  | succ m =>
    unfold whileD at e1
    obtain ⟨⟨k, u2⟩, e2, e1⟩ := Option.bind_eq_some_iff.mp e1
    refine ⟨c, G1, ε1, u1, k, u2, hK, S1, e2, fun G2 H2 S2 x2 => ?_⟩
    cases k with
    | false =>
      cases e1
      exact iteF (q G2 σ1 H2 S2 (g1.trans x2.g))
    | true =>
      obtain ⟨⟨o3, u3⟩, e3, e1⟩ := Option.bind_eq_some_iff.mp e1
      refine iteT ⟨fun σ' H' => ∃ (G' : Hp) (ε' : Ev) (u2 : Ur), SR c G' σ' H' ε' u2 ∧ Same G G' ∧ whileD cd b m ε' u2 = some (o, u'), fun σ' H' p => ⟨m, Nat.lt_succ_self m, p⟩, c, G2, ε1, u2, o3, u3, hK, S2, e3, ?_⟩
      cases o3 with
      | nx ε5 => exact fun G5 σ5 H5 S5 g5 => ⟨G5, ε5, u3, S5, (g1.trans x2.g).trans g5, e1⟩
      | ct ε5 => exact fun G5 σ5 H5 S5 g5 => ⟨G5, ε5, u3, S5, (g1.trans x2.g).trans g5, e1⟩
      | bk ε5 =>
        cases e1
        exact fun G5 σ5 H5 S5 g5 => q G5 σ5 H5 S5 ((g1.trans x2.g).trans g5)
      | rt r =>
        cases e1
        exact q
end

/-! ### a def -/
def run (n : Nat) (body : DS) : Fn := fun as u => match body (as ++ List.replicate (n - as.length) .un) u with
  | some (.rt r, u') => some (r, u')
  | some (.nx _, u') => some (.val .none, u')
  | _ => none
theorem sr_start {K : PySem.W.Frag} {U : Option Addr} {G H : Hp} {vs : List V} {as : List Sl} {u : Ur} (N : List Str) (gh : Same G H) (hu : ∀ a, U = some a → G a = none ∧ H a = some (.lst (u.map V.int))) (A : SlsOk K U G vs as) :
    SR ⟨K, U, H, G⟩ G (L2.start N vs) H (as ++ List.replicate (N.length - as.length) .un) u := by
  have hl : vs.length = as.length := by
    clear hu gh
    induction A with
    | nil => rfl
    | cons _ _ ih => exact congrArg Nat.succ ih
  have noown : ∀ (i : Nat) (ds : List D), (as ++ List.replicate (N.length - as.length) .un)[i]? ≠ some (.own ds) := fun i ds e => by
    have key : ∀ (vs : List V) (as : List Sl), SlsOk K U G vs as → ∀ s ∈ as, ∀ ds, s ≠ .own ds := by
      intro vs as A
      induction A with
      | nil => intro s hs; cases hs
      | cons a _ ih =>
        intro s hs ds z
        rcases List.mem_cons.mp hs with rfl | hs
        · subst z; exact a
        · exact ih s hs ds z
    have hm := List.mem_of_getElem? e
    rcases List.mem_append.mp hm with h | h
    · exact key vs as A _ h ds rfl
    · have := List.eq_of_mem_replicate h
      cases this
  refine ⟨gh, Same.refl _, fun _ _ => rfl, fun a o e _ => e, fun a e => ⟨?_, (hu a e).1, (hu a e).2⟩, ?_, fun i s e => ?_, fun i j ds es a e1 => absurd e1 (noown i ds)⟩
  · show H a ≠ none
    rw [(hu a e).2]
    exact fun z => nomatch z
  · unfold L2.start
    rw [List.length_append, List.length_append, List.length_map, List.length_replicate, List.length_replicate, hl]
  · unfold L2.start
    rw [hl]
    have key : ∀ (vs : List V) (as : List Sl), SlsOk K U G vs as → ∀ (i : Nat) (s : Sl), (as ++ List.replicate (N.length - as.length) Sl.un)[i]? = some s ∨ as[i]? = some s → True := fun _ _ _ _ _ _ => True.intro
    by_cases hi : i < as.length
    · rw [List.getElem?_append_left hi] at e
      rw [List.getElem?_append_left (by rw [List.length_map, hl]; exact hi), List.getElem?_map]
      have get : ∀ (vs : List V) (as : List Sl), SlsOk K U G vs as → ∀ (i : Nat) (s : Sl), as[i]? = some s → ∃ v, vs[i]? = some v ∧ ArgSl K U G v s := by
        intro vs as A
        induction A with
        | nil => intro i s e; simp at e
        | cons a _ ih =>
          intro i s e
          cases i with
          | zero => simp at e; subst e; exact ⟨_, rfl, a⟩
          | succ i =>
            obtain ⟨v, h1, h2⟩ := ih i s (by simpa using e)
            exact ⟨v, by simpa using h1, h2⟩
      obtain ⟨v, h1, h2⟩ := get vs as A i s e
      refine ⟨some v, by rw [h1]; rfl, ?_⟩
      cases s with
      | un => exact True.intro
      | val d => exact ⟨v, rfl, h2⟩
      | own _ => exact h2.elim
      | urn => obtain ⟨a, h3, rfl⟩ := h2; exact ⟨a, h3, rfl⟩
    · have hi' : as.length ≤ i := by omega
      rw [List.getElem?_append_right hi'] at e
      have hu' : s = .un := List.eq_of_mem_replicate (List.mem_of_getElem? e)
      subst hu'
      rw [List.getElem?_append_right (by rw [List.length_map, hl]; exact hi'), List.length_map, hl]
      have hlt : i - as.length < N.length - as.length := by
        have := (List.getElem?_eq_some_iff.mp e).1
        simpa using this
      exact ⟨none, by rw [List.getElem?_replicate, if_pos hlt], True.intro⟩
/-- the def x of the text st, as the head tells it -/
abbrev FnP (K : PySem.W.Frag) (x : Str) (st : Stmt) (f : Addr) (fd : FuncData) : Prop := FunD K x x (defArgs st) (defBody st) (defScope st) [] [] f fd
section
variable {P : Program} {w : World} {K : PySem.W.Frag} {mg : Str → Option Value} {base : Heap} {x : Str} {st : Stmt} {f : Addr} {fd : FuncData} {N ps : List Str} {k : Nat} {body : DS}
theorem ok_def (F : FnP K x st f fd) (S : FnScope N ps (defScope st))
    (hb : ∀ (cdv : Value) (A : Around) (outer : List Env) (s : Shared) (H : Hp) (E : XK), Room k (A.deeper (envOfC x (defScope st) s.heap.objs.size f cdv)) →
      PSs (cxOf CX0 P w K mg base N x (defScope st) f cdv A outer s H E).nox (defBody st) (tS K body)) : FnOk P w K mg base CX0 (k + 1) f fd ps (spD K ps.length (run N.length body)) := by
  refine F.ok S (fun vs H Q E h => ?_) (fun cdv A outer s H vs Q E hr h => ⟨tS K body, (hb cdv A outer s H E hr).nox, ?_⟩)
  · obtain ⟨_, _, _, _, _, _, h, _⟩ := h
    exact h
  · obtain ⟨U, G, as, u, r, u', hl, gh, hu, A, e, q⟩ := h
    have S0 := sr_start N gh hu A
    unfold run at e
    cases eb : body (as ++ List.replicate (N.length - as.length) .un) u with
    | none => rw [eb] at e; cases e
    | some p =>
      obtain ⟨o, u1⟩ := p
      rw [eb] at e
      refine ⟨⟨K, U, H, G⟩, G, _, u, o, u1, rfl, S0, eb, ?_⟩
      cases o with
      | nx ε' =>
        cases e
        exact fun G' σ' H' S' _ => q .non G' H' (SR.pf (Hs := H) (r := .val .none) S' .non rfl)
      | rt r =>
        cases e
        exact fun v G' H' p => q v G' H' p
      | bk _ => cases e
      | ct _ => cases e
end
end Dl
end
end

section
set_option Elab.async false
set_option linter.all false
set_option maxRecDepth 100000
/-! The data layer, part T: x[k] += e, calls by names, constants of the module. -/
noncomputable section
namespace Dl
open PySem PySem.Spec PyProof.Rows L2
section
variable {X : Cx}
theorem get_list : PGet X (rIxL X.K) := by
  intro pins s σ H x y v u Q I rx ry h
  obtain ⟨p, xs, i, z, rfl, rfl, hq, he, q⟩ := h
  cases rx
  obtain ⟨t, rfl⟩ := ry
  obtain ⟨its, r, pl, hz⟩ := I.list hq
  obtain ⟨j, h1, h2, h3, h4, h5⟩ := atI_get he
  obtain ⟨w, ew, rw'⟩ := r.get h2
  have hl := r.length
  have hn := line63
  have fin : EP X pins σ Q w s := ⟨z, H, I, rw', q⟩
  by_cases h0 : 0 ≤ i
  · have hj : i.toNat = j := by
      rw [seqIndex_of h0 h5] at h1
      exact Option.some.inj h1
    exact wpAny_getItem_list pl.isList h0 (by omega) (by rw [hj]; simpa using ew) fin
  · have hj : (i + (its.toArray.size : Int)).toNat = j := by
      rw [seqIndex_neg (by omega) h4] at h1
      rw [List.size_toArray, ← hl]
      exact Option.some.inj h1
    exact wpAny_getItem_list_neg pl.isList (by omega) (by rw [List.size_toArray] <;> omega) (by omega) (by rw [hj]; simpa using ew) fin
variable {e ke : Expr} {f kf : DE} {pos : Pos}
theorem rs_augI (i : Nat) {x : Str} {px tpos : Pos} {op : Operator} {g : Int → Int → Int} (hop : PIp X op (ipI g)) (hN : X.N[i]? = some x) (hv : Vis X.env.scope x) (hk : PE X ke (tD X.K kf)) (he : PE X e (tD X.K f)) (hd : (x == ("__debug__" : Str)) = false := by decide) (hcd : (x == ("__classdict__" : Str)) = false := by decide)
    (ha : ∀ ov iv new, augStore ke ov iv new = (do holding [new, ov, iv] (setItem ov iv new); release [new, ov, iv] []; pure .next) := by intros; rfl) :
    PS X (.AugAssign (.Subscript (.Name x px) ke tpos) op e pos) (tS X.K (s_augI i kf f g)) := by
  refine ps_imp (ps_augS (pe_var hN hv hd hcd) hk get_list he hop set_list ha) fun D σ H q => ?_
  obtain ⟨c, G, ε, u, o, u', hK, S, e, q⟩ := q
  obtain ⟨⟨r1, u1⟩, e1, e⟩ := Option.bind_eq_some_iff.mp e
  obtain ⟨k, e2, e⟩ := Option.bind_eq_some_iff.mp e
  obtain ⟨⟨ro, u2⟩, e3, e⟩ := Option.bind_eq_some_iff.mp e
  obtain ⟨rx, e4, e⟩ := Option.bind_eq_some_iff.mp e
  obtain ⟨xi, e5, e⟩ := Option.bind_eq_some_iff.mp e
  obtain ⟨⟨r6, u6⟩, e6, e⟩ := Option.bind_eq_some_iff.mp e
  obtain ⟨yi, e7, ep⟩ := Option.bind_eq_some_iff.mp e
  have z2 : r1 = .val (.int k) := asI_some e2
  have z5 : rx = .val (.int xi) := asI_some e5
  have z7 : r6 = .val (.int yi) := asI_some e7
  subst z2 z5 z7
  -- the object
  have hx : ∃ xo, σ[i]? = some (some xo) := by
    have e : putA i k (.int (g xi yi)) ε u6 = some (o, u') := ep
    unfold putA at e
    cases ei : ε[i]? with
    | none => rw [ei] at e; cases e
    | some s =>
      rw [ei] at e
      obtain ⟨vo, k1, k2⟩ := S.sl i s ei
      cases s with
      | un => cases e
      | val _ => cases e
      | own _ => obtain ⟨a, _, rfl, _⟩ := k2; exact ⟨_, k1⟩
      | urn => obtain ⟨a, _, rfl⟩ := k2; exact ⟨_, k1⟩
  obtain ⟨xo, hxo⟩ := hx
  refine ⟨xo, hxo, c, G, ε, u, _, u1, hK, S, e1, fun w G1 H1 S1 x1 R1 => ?_⟩
  cases (show Dp c.K G1 w (.int k) from R1)
  -- what stands there
  have hget : ∃ p vs, xo = .ref p ∧ SqL c.K H1 p vs ∧ atI vs k = some (.int xi) := by
    have e3 : e_var i ε u1 = some (ro, u2) := e3
    unfold e_var at e3
    cases ei : ε[i]? with
    | none => rw [ei] at e3; cases e3
    | some s =>
      rw [ei] at e3
      obtain ⟨vo, k1, k2⟩ := S1.sl i s ei
      cases s with
      | un => cases e3
      | val d =>
        have e : putA i k (.int (g xi yi)) ε u6 = some (o, u') := ep
        unfold putA at e
        rw [ei] at e
        cases e
      | own ds =>
        cases e3
        obtain ⟨d, e8, e9⟩ := Option.map_eq_some_iff.mp (show (atI ds k).map Rs.val = some (.val (.int xi)) from e4)
        cases e9
        obtain ⟨a, vs, rfl, h1, h2, h3, h4, h5⟩ := k2
        rw [hxo] at k1
        cases k1
        obtain ⟨v, h6, h7⟩ := atI_dpa h5 e8
        cases h7
        exact ⟨a, vs, rfl, SqL.of h4, h6⟩
      | urn =>
        cases e3
        obtain ⟨z, e8, e9⟩ := Option.map_eq_some_iff.mp (show (atI u1 k).map (fun z => Rs.val (.int z)) = some (.val (.int xi)) from e4)
        cases e9
        obtain ⟨a, ea, rfl⟩ := k2
        rw [hxo] at k1
        cases k1
        exact ⟨a, _, rfl, SqL.of (S1.ur a ea).2.2, atI_map e8⟩
  obtain ⟨p, vs, rfl, hsq, hat⟩ := hget
  rw [hK] at hsq
  have eu : u1 = u2 := by
    have e3 : e_var i ε u1 = some (ro, u2) := e3
    unfold e_var at e3
    split at e3 <;> first | (cases e3; rfl) | cases e3
  subst eu
  refine ⟨p, vs, k, .int xi, rfl, rfl, hsq, hat, c, G1, ε, u1, _, u6, hK, S1, e6, fun y G2 H2 S2 x2 R2 => ?_⟩
  cases (show Dp c.K G2 y (.int yi) from R2)
  refine ⟨xi, yi, rfl, rfl, ?_⟩
  obtain ⟨x', hx', hset⟩ := put_ok (D := D) S2 (.int (g xi yi)) ep (q.mono (x1.trans x2).g)
  rw [hxo] at hx'
  cases hx'
  exact hset
end

/-! ### calls by names -/
structure FO (P : Program) (w : World) (K : PySem.W.Frag) (mg : Str → Option Value) (base : Heap) (x : Str) (ps : List Str) (k : Nat) (F : Fn) : Prop where
  ex : ∃ f fd, mg x = some (.ref f) ∧ PySem.W.keepIn K (.ref f) = true ∧ Binds K fd ps [] ∧ FnOk P w K mg base CX0 k f fd ps (spD K ps.length F)
section
variable {X : Cx} {k : Nat} {ps : List Str} {E : XK} {x : Str} {p pos : Pos} {e : Expr} {es : List Expr} {g : DA} {F : Fn}
theorem r_callF (h : FO X.prog X.w X.K X.mg X.base x ps k F) (hr : Room k X.A) (hg : Gl X x) (hn : (e :: es).length = ps.length)
    (ha : PA X (e :: es) (tA X.K g)) (hl : ∀ ε u rs u', g ε u = some (rs, u') → rs.length = ps.length) (hdb : (x == ("__debug__" : Str)) = false := by decide) (he : starEach (e :: es) X.env = (false, eval e X.env) :: starEach es X.env := by rfl) (hpl : (backTo pos (starEach es X.env)).any (·.1) = false := by rfl) :
    PE X (.Call (.Name x p) (e :: es) [] pos) (tD X.K (e_call F g)) := by
  obtain ⟨f, fd, hm, hk, hb, Fo⟩ := h.ex
  exact r_call (E := E0) Fo hr hg hm hk hb pass0 hn ha hl hdb he hpl
end
theorem FO.mono {P : Program} {w : World} {K : PySem.W.Frag} {mg : Str → Option Value} {base : Heap} {x : Str} {ps : List Str} {k k' : Nat} {F : Fn} (h : FO P w K mg base x ps k F) (hk : k ≤ k') : FO P w K mg base x ps k' F := by
  obtain ⟨f, fd, h1, h2, h3, h4⟩ := h.ex
  exact ⟨f, fd, h1, h2, h3, h4.mono hk⟩

/-! ### constants of the module -/
theorem cv_tup {K : PySem.W.Frag} {mg : Str → Option Value} {x : Str} {a : Addr} {o : Obj} {its : Array Value} {n : Nat} {vs : List V} {ds : List D} (hm : mg x = some (.ref a)) (hl : K.lookup a = some o) (hc : o.cls = .type "tuple") (hd : o.data = .seq its n) (hz : its.size ≤ sizeLine) (hv : Vals vs its.toList) (h : ∀ G, DpAll K G vs ds) : CV K mg x (.tuple ds) :=
  ⟨.ref a, .ref a, hm, rfl, fun G => .tup (.inr ⟨o, its, n, hl, hc, hd, hz, hv⟩) (h G)⟩
theorem cv_int {K : PySem.W.Frag} {mg : Str → Option Value} {x : Str} {i : Int} (h : ∃ t, mg x = some (.int i t)) : CV K mg x (.int i) := by
  obtain ⟨t, h⟩ := h
  exact ⟨.int i, _, h, ⟨t, rfl⟩, fun _ => .int i⟩
theorem cv_str {K : PySem.W.Frag} {mg : Str → Option Value} {x z : Str} (h : ∃ t, mg x = some (.str z t)) : CV K mg x (.str z) := by
  obtain ⟨t, h⟩ := h
  exact ⟨.str z, _, h, ⟨t, rfl⟩, fun _ => .str z⟩
end Dl
end
end

section
set_option Elab.async false
set_option linter.all false
set_option maxRecDepth 100000
/-! The data layer, part U: the law's def: its first statement makes the urn. -/
noncomputable section
namespace Dl
open PySem PySem.Spec PyProof.Rows L2

theorem rmU {k : Nat} {A : Around} (r : Room k A) : A.units + 65 < cLine := by have := r.un; omega
/-- the law's body: slot i gets the list of ints that f makes; from there it is the urn -/
def tTop (K : PySem.W.Frag) (i : Nat) (f : DE) (g : DS) : TS := fun D σ H => ∃ (G : Hp) (ε : Ev) (ns : Ur) (u0 u' : Ur),
  SR ⟨K, none, H, G⟩ G σ H ε [] ∧ (∀ s ∈ ε, s = .un ∨ ∃ d, s = .val d) ∧ f ε [] = some (.own (ns.map PyData.int), u0) ∧ g (ε.set i .urn) ns = some (.rt (.val (.bool true)), u') ∧ ∀ H', D.rt (.bl true) H'
section
variable {X : Cx} {e : Expr} {f : DE} {g : DS} {rest : List Stmt} {pos : Pos}
theorem rs_urn (i : Nat) {x : Str} {pos' : Pos} (hN : X.N.Nodup) (hi : X.N[i]? = some x) (hx : Loc X.env.scope x) (he : PE X e (tD X.K f)) (hr : PSs X rest (tS X.K g)) (hs : swapsWith e (some (.Name x pos')) pos.line X.env = pure false := by rfl) (hf : X.fn x = true ∨ X.env.scope.names.lookup x = some .local := by first | exact .inl rfl | exact .inr rfl | assumption) :
    PSs X (.Assign [.Name x pos'] e pos :: rest) (tTop X.K i f g) := pss_imp (pss_cons (ps_set hN hi hx he hs hf) hr) fun D σ H q => by
  obtain ⟨G, ε, ns, u0, u', S, hv, e1, e2, q⟩ := q
  refine ⟨⟨X.K, none, H, G⟩, G, ε, [], _, u0, rfl, S, e1, fun v G1 H1 S1 x1 R1 => ?_⟩
  obtain ⟨a, vs, rfl, h1, h2, h3, h4, h5, h6⟩ := R1
  have ev := dpa_ints h6
  subst ev
  have own : ∀ (j : Nat) (ds : List PyData), (ε.set i Sl.urn)[j]? ≠ some (.own ds) := fun j ds e => by
    by_cases hj : i = j
    · subst hj
      have hl : i < ε.length := by
        have := (List.getElem?_eq_some_iff.mp e).1
        simpa using this
      rw [List.getElem?_set_self hl] at e
      cases e
    · rw [List.getElem?_set_ne hj] at e
      rcases hv _ (List.mem_of_getElem? e) with h | ⟨d, h⟩ <;> cases h
  refine ⟨⟨X.K, some a, H1, G1⟩, G1, ε.set i .urn, ns, _, u', rfl, ?_, e2, fun v G' H' p => ?_⟩
  · refine ⟨S1.gh, Same.refl _, fun _ _ => rfl, fun _ _ h _ => h, fun b hb => ?_, ?_, fun j s ej => ?_, fun j k ds es b e1 => absurd e1 (own j ds)⟩
    · cases hb
      refine ⟨?_, h4, h5⟩
      show H1 a ≠ none
      rw [h5]
      exact fun z => nomatch z
    · rw [List.length_set, List.length_set]; exact S1.len
    · by_cases hj : i = j
      · subst hj
        have hl : i < ε.length := by
          have := (List.getElem?_eq_some_iff.mp ej).1
          simpa using this
        rw [List.getElem?_set_self hl] at ej
        cases ej
        rw [List.getElem?_set_self (by rw [S1.len]; exact hl)]
        exact ⟨_, rfl, a, rfl, rfl⟩
      · rw [List.getElem?_set_ne hj] at ej ⊢
        obtain ⟨vo, k1, k2⟩ := S1.sl j s ej
        refine ⟨vo, k1, ?_⟩
        rcases hv _ (List.mem_of_getElem? ej) with rfl | ⟨d, rfl⟩
        · exact True.intro
        · exact k2
  · have d : Dp X.K G' v (.bool true) := p.res
    cases d
    exact q H'
end
section
variable {P : Program} {w : World} {K : PySem.W.Frag} {mg : Str → Option Value} {base : Heap} {x : Str} {st : Stmt} {f : Addr} {fd : FuncData} {N : List Str} {p : Str} {k i : Nat} {ff : DE} {g : DS}
def spLaw (K : PySem.W.Frag) : Sp := fun vs H Q _ => ∃ (a : Addr) (ns : List Int), vs = [.ref a] ∧ ns.length ≤ 63 ∧ SqL K H a (ns.map V.int) ∧ ∀ H', Q (.bl true) H'
theorem dpa_ofInts {G : Hp} : ∀ ns : List Int, DpAll K G (ns.map V.int) (ns.map PyData.int)
  | [] => .nil
  | n :: ns => .cons (.int n) (dpa_ofInts ns)
/-- the law's start -/
def ev0 (n : Nat) (ns : List Int) : Ev := Sl.val (.list (ns.map PyData.int)) :: List.replicate n .un
theorem ok_top (F : FnP K x st f fd) (S : FnScope N [p] (defScope st))
    (hb : ∀ (cdv : Value) (A : Around) (outer : List Env) (s : Shared) (H : Hp) (E : XK), Room k (A.deeper (envOfC x (defScope st) s.heap.objs.size f cdv)) →
      PSs (cxOf CX0 P w K mg base N x (defScope st) f cdv A outer s H E).nox (defBody st) (tTop K i ff g))
    (hp : ∀ ns : List Int, ns.length ≤ 63 → ∃ (ms : Ur) (u0 u' : Ur), ff (ev0 (N.length - 1) ns) [] = some (.own (ms.map PyData.int), u0) ∧ g ((ev0 (N.length - 1) ns).set i .urn) ms = some (.rt (.val (.bool true)), u')) :
    FnOk P w K mg base CX0 (k + 1) f fd [p] (spLaw K) := by
  refine F.ok S (fun vs H Q E h => ?_) (fun cdv A outer s H vs Q E hr h => ⟨_, (hb cdv A outer s H E hr).nox, ?_⟩)
  · obtain ⟨_, _, rfl, _⟩ := h
    rfl
  · obtain ⟨a, ns, rfl, hl, hq, q⟩ := h
    obtain ⟨ms, u0, u', e1, e2⟩ := hp ns hl
    have A0 : SlsOk K none H [.ref a] [.val (.list (ns.map PyData.int))] := .cons (show Dp K H (.ref a) (.list (ns.map PyData.int)) from .lst hq (dpa_ofInts ns)) .nil
    have S0 := sr_start (u := []) N (Same.refl H) (fun _ h => by cases h) A0
    exact ⟨H, _, ms, u0, u', S0, fun s hs => by
      rcases List.mem_cons.mp hs with rfl | hs
      · exact .inr ⟨_, rfl⟩
      · exact .inl (List.eq_of_mem_replicate hs), e1, e2, q⟩
theorem ok_defN {ps : List Str} {body : DS} {m n : Nat} (F : FnP K x st f fd) (S : FnScope N ps (defScope st)) (hm : ps.length = m) (hn : N.length = n)
    (hb : ∀ (cdv : Value) (A : Around) (outer : List Env) (s : Shared) (H : Hp) (E : XK), Room k (A.deeper (envOfC x (defScope st) s.heap.objs.size f cdv)) →
      PSs (cxOf CX0 P w K mg base N x (defScope st) f cdv A outer s H E).nox (defBody st) (tS K body)) : FnOk P w K mg base CX0 (k + 1) f fd ps (spD K m (run n body)) := by
  subst hm hn
  exact ok_def F S hb
end
end Dl
end
end

section
set_option Elab.async false
set_option linter.all false
set_option maxRecDepth 100000
/-! The data layer, part V: the head: constants of the top read off K, a Hook with a Bool more. -/
noncomputable section
namespace Dl
open PySem PySem.Spec PyProof.Rows L2

mutual
theorem litB_ok {K : PySem.W.Frag} : ∀ (d : D) (v : Value), litB K d v = true → ∃ w, RelV w v ∧ ∀ G, Dp K G w d
  | .none, v, h => by
    cases v with
    | none => exact ⟨.non, rfl, fun _ => .non⟩
    | _ => cases h
  | .bool b, v, h => by
    cases v with
    | bool c =>
      have e : c = b := of_decide_eq_true h
      subst e
      exact ⟨.bl c, rfl, fun _ => .bl c⟩
    | _ => cases h
  | .int i, v, h => by
    cases v with
    | int j t =>
      have e : j = i := of_decide_eq_true h
      subst e
      exact ⟨.int j, ⟨t, rfl⟩, fun _ => .int j⟩
    | _ => cases h
  | .str y, v, h => by
    cases v with
    | str z t =>
      have e : z = y := of_decide_eq_true h
      subst e
      exact ⟨.str z, ⟨t, rfl⟩, fun _ => .str z⟩
    | _ => cases h
  | .tuple ds, v, h => by
    cases v with
    | ref a =>
      simp only [litB] at h
      split at h
      · rename_i c its n sl hl
        obtain ⟨h1, h⟩ := Bool.and_eq_true_iff.mp h
        obtain ⟨h2, h3⟩ := Bool.and_eq_true_iff.mp h
        have ec : c = "tuple" := of_decide_eq_true h1
        subst ec
        obtain ⟨ws, hv, hd⟩ := litsB_ok ds _ h3
        exact ⟨.ref a, rfl, fun G => .tup (.inr ⟨_, its, n, hl, rfl, rfl, of_decide_eq_true h2, hv⟩) (hd G)⟩
      · cases h
    | _ => cases h
  | .list _, v, h => by cases v <;> cases h
  | .dict _, v, h => by cases v <;> cases h
theorem litsB_ok {K : PySem.W.Frag} : ∀ (ds : List D) (vs : List Value), litsB K ds vs = true → ∃ ws, Vals ws vs ∧ ∀ G, DpAll K G ws ds
  | [], vs, h => by
    cases vs with
    | nil => exact ⟨[], .nil, fun _ => .nil⟩
    | cons _ _ => cases h
  | d :: ds, vs, h => by
    cases vs with
    | nil => cases h
    | cons v r =>
      obtain ⟨h1, h2⟩ := Bool.and_eq_true_iff.mp h
      obtain ⟨w, r1, d1⟩ := litB_ok d v h1
      obtain ⟨ws, r2, d2⟩ := litsB_ok ds r h2
      exact ⟨w :: ws, .cons r1 r2, fun G => .cons (d1 G) (d2 G)⟩
end
theorem gloB_ok {K : PySem.W.Frag} {h : Heap} {mg : Str → Option Value} {x : Str} {d : D} (X : K.In h) (G : h.Ns mainGlobals mg) (e : gloB K x d = true) : CV K mg x d := by
  unfold gloB at e
  split at e
  · rename_i v hv
    obtain ⟨w, r, k⟩ := litB_ok d v e
    exact ⟨w, v, PySem.W.mg_of X G hv, r, k⟩
  · cases e
theorem bltB_ok {K : PySem.W.Frag} {h : Heap} {mg : Str → Option Value} {x : Str} {id : String} (X : K.In h) (G : h.Ns mainGlobals mg) (e : bltB K x id = true) : mg x = some (.builtin id) := PySem.W.mg_of X G (He.eqO_ok e)
theorem FO.zero {P : Program} {w : World} {K : PySem.W.Frag} {mg : Str → Option Value} {base : Heap} {x : Str} {ps : List Str} {f : Addr} {fd : FuncData} (hm : mg x = some (.ref f)) (hk : PySem.W.keepIn K (.ref f) = true) (hb : Binds K fd ps []) :
    FO P w K mg base x ps 0 (fun _ _ => none) := ⟨f, fd, hm, hk, hb, fun vs H Q E h => by
    obtain ⟨_, _, _, _, _, _, h, _⟩ := h
    exact h, fun A outer s H args us vs Q E _ _ _ _ h => by
    obtain ⟨_, _, _, _, _, _, _, _, _, _, e, _⟩ := h
    cases e⟩
end Dl
end
end

section
set_option Elab.async false
set_option linter.all false
set_option maxRecDepth 100000
namespace K45
open PySem PySem.Spec PyProof.Rows L2 Dl
abbrev LV_tuple_of : Nat := 6
abbrev LV__law_same : Nat := 6
abbrev c_ZERO : D := .tuple [.int 0, .int 1]
abbrev c_MOST_ROW : D := .int 12
abbrev c_BARE : D := .str "bare"
abbrev c_WRONGED : D := .str "wronged"
abbrev c_NO_FEWER : D := .str "no fewer"
abbrev c_ONE_FEWER : D := .str "one fewer"
abbrev c_NO_MORE : D := .str "no more"
noncomputable def d__law_box : DS := s_seq (s_set 2 (e_if (b_of (e_bin k_lt (e_var 1) (e_callB k_len (a_cons (e_var 0) (a_nil))))) (e_bin k_ix (e_var 0) (e_var 1)) (e_c (.int 0))))
    (s_ret (e_lst (a_cons (e_bin k_mul (e_callB k_abs (a_cons (e_var 2) (a_nil))) (e_callB k_int (a_cons (e_bin k_ge (e_callB k_abs (a_cons (e_var 2) (a_nil))) (e_bin k_pow (e_c (.int 10)) (e_c (.int 18)))) (a_nil)))) (a_cons (e_bin k_add (e_bin k_add (e_bin k_mod (e_callB k_int (a_cons (e_var 2) (a_nil))) (e_c (.int 2305843009213693951))) (e_bin k_mul (e_c (.int 41477)) (e_var 1))) (e_c (.int 22360680))) (a_cons (e_c (.int 0)) (a_nil))))))
noncomputable def F__law_box : Fn := Dl.run 3 d__law_box
noncomputable def d__law_take : DS := s_seq (s_if (b_of (e_bin k_gt (e_bin k_ix (e_var 0) (e_c (.int 0))) (e_c (.int 0)))) (s_seq (s_set 2 (e_bin k_mod (e_callB k_int (a_cons (e_bin k_ix (e_var 0) (e_c (.int 0))) (a_nil))) (e_var 1)))
    (s_seq (s_put 0 (e_c (.int 0)) (e_bin k_div (e_bin k_ix (e_var 0) (e_c (.int 0))) (e_var 1)))
    (s_ret (e_var 2)))) (s_nop))
    (s_seq (s_put 0 (e_c (.int 2)) (e_bin k_add (e_bin k_ix (e_var 0) (e_c (.int 2))) (e_c (.int 1))))
    (s_seq (s_set 3 (e_bin k_mod (e_callB k_int (a_cons (e_bin k_mul (e_bin k_add (e_bin k_ix (e_var 0) (e_c (.int 1))) (e_bin k_mul (e_c (.int 48271)) (e_bin k_ix (e_var 0) (e_c (.int 2))))) (e_bin k_add (e_c (.int 39373)) (e_bin k_ix (e_var 0) (e_c (.int 2))))) (a_nil))) (e_c (.int 2147483647))))
    (s_seq (s_set 4 (e_bin k_add (e_bin k_mod (e_callB k_int (a_cons (e_var 3) (a_nil))) (e_c (.int 40009))) (e_c (.int 7))))
    (s_seq (s_set 5 (e_bin k_mod (e_callB k_int (a_cons (e_bin k_mul (e_bin k_add (e_bin k_add (e_var 3) (e_bin k_ix (e_var 0) (e_c (.int 2)))) (e_bin k_div (e_bin k_ix (e_var 0) (e_c (.int 1))) (e_c (.int 1000003)))) (e_var 4)) (a_nil))) (e_c (.int 2147483629))))
    (s_ret (e_bin k_mod (e_callB k_int (a_cons (e_bin k_div (e_bin k_mod (e_callB k_int (a_cons (e_bin k_add (e_bin k_mul (e_var 5) (e_c (.int 48271))) (e_var 3)) (a_nil))) (e_c (.int 2147483587))) (e_c (.int 64))) (a_nil))) (e_var 1)))))))
noncomputable def F__law_take : Fn := Dl.run 6 d__law_take
noncomputable def d__law_of : DS := s_ret (e_bin k_ix (e_var 1) (e_call F__law_take (a_cons (e_var 0) (a_cons (e_callB k_len (a_cons (e_var 1) (a_nil))) (a_nil)))))
noncomputable def F__law_of : Fn := Dl.run 2 d__law_of
noncomputable def C__law_fraction_0 : DT := b_of (e_bin k_gt (e_var 3) (e_c (.int 0)))
noncomputable def B__law_fraction_1 : DS := s_parA 2 3 (e_var 3) (e_bin k_mod (e_callB k_int (a_cons (e_var 2) (a_nil))) (e_var 3))
noncomputable def d__law_fraction : DS := s_seq (s_parA 2 3 (e_callB k_abs (a_cons (e_var 0) (a_nil))) (e_var 1))
    (s_seq (s_while (C__law_fraction_0) (B__law_fraction_1))
    (s_ret (e_tup (a_cons (e_bin k_div (e_var 0) (e_var 2)) (a_cons (e_bin k_div (e_var 1) (e_var 2)) (a_nil))))))
noncomputable def F__law_fraction : Fn := Dl.run 4 d__law_fraction
noncomputable def B__law_rule_0 : DS := s_seq (s_set 3 (e_bin k_add (e_c (.int 1)) (e_call F__law_take (a_cons (e_var 0) (a_cons (e_c (.int 4)) (a_nil))))))
    (s_set 1 (e_bin k_add (e_var 1) (e_tup (a_cons (e_call F__law_fraction (a_cons (e_bin k_add (e_bin k_mul (e_var 2) (e_var 3)) (e_call F__law_take (a_cons (e_var 0) (a_cons (e_bin k_add (e_var 3) (e_c (.int 1))) (a_nil))))) (a_cons (e_var 3) (a_nil)))) (a_nil)))))
noncomputable def d__law_rule : DS := s_seq (s_set 1 (e_tup (a_nil)))
    (s_seq (s_for (it_rg1 (a_cons (e_call F__law_take (a_cons (e_var 0) (a_cons (e_c (.int 4)) (a_nil)))) (a_nil))) (t_name 2) (B__law_rule_0))
    (s_ret (e_tup (a_cons (e_var 1) (a_cons (e_call F__law_of (a_cons (e_var 0) (a_cons (e_lst (a_cons (e_tup (a_cons (e_c (.int 0)) (a_cons (e_c (.int 1)) (a_nil)))) (a_cons (e_tup (a_cons (e_c (.int 1)) (a_cons (e_c (.int 1)) (a_nil)))) (a_cons (e_tup (a_cons (e_c (.int 1)) (a_cons (e_c (.int 2)) (a_nil)))) (a_cons (e_tup (a_cons (e_c (.int 1)) (a_cons (e_c (.int 3)) (a_nil)))) (a_cons (e_tup (a_cons (e_c (.int 2)) (a_cons (e_c (.int 5)) (a_nil)))) (a_cons (e_tup (a_cons (e_c (.int 3)) (a_cons (e_c (.int 4)) (a_nil)))) (a_nil)))))))) (a_nil)))) (a_nil))))))
noncomputable def F__law_rule : Fn := Dl.run 4 d__law_rule
noncomputable def E_tuple_of_0 (Fr : Fn) : DE := e_call Fr (a_cons (e_var 1) (a_nil))
noncomputable def d_tuple_of (Fr : Fn) : DS := s_seq (s_if (b_of (e_isi ["list", "tuple"] (e_var 0))) (s_ret (e_callB k_tuple (a_cons (e_lc (it_seq (e_var 0)) [1] (t_name 1) (b_yes) (E_tuple_of_0 Fr)) (a_nil)))) (s_nop))
    (s_ret (e_var 0))
noncomputable def F_tuple_of_n : Nat → Fn
  | 0 => fun _ _ => none
  | n + 1 => Dl.run 2 (d_tuple_of (F_tuple_of_n n))
noncomputable abbrev F_tuple_of : Fn := F_tuple_of_n LV_tuple_of
noncomputable def d_even_posts : DS := s_ret (e_tup (a_cons (e_tup (a_nil)) (a_cons (e_call F_tuple_of (a_cons (e_var 0) (a_nil))) (a_nil))))
noncomputable def F_even_posts : Fn := Dl.run 1 d_even_posts
noncomputable def B__law_cells_0 : DS := s_seq (s_set 5 (e_bin k_mod (e_callB k_int (a_cons (e_var 3) (a_nil))) (e_callB k_len (a_cons (e_var 2) (a_nil)))))
    (s_put 2 (e_var 5) (e_bin k_add (e_bin k_ix (e_var 2) (e_var 5)) (e_bin k_mul (e_var 4) (e_bin k_add (e_var 3) (e_c (.int 2))))))
noncomputable def d__law_cells : DS := s_seq (s_set 2 (e_orT (e_callB k_list (a_cons (e_slice (e_var 0) (o_no) (o_so (e_var 1))) (a_nil))) (e_lst (a_cons (e_c (.int 0)) (a_nil)))))
    (s_seq (s_for (it_enum (e_slice (e_var 0) (o_so (e_var 1)) (o_so (e_c (.int 63))))) (t_tup (t_cons (t_name 3) (t_cons (t_name 4) (t_nil)))) (B__law_cells_0))
    (s_ret (e_var 2)))
noncomputable def F__law_cells : Fn := Dl.run 6 d__law_cells
noncomputable def B__law_votes_0 : DS := s_seq (s_set 4 (e_call F__law_take (a_cons (e_var 0) (a_cons (e_c (.int 4)) (a_nil)))))
    (s_if (b_and (b_of (e_bin k_eq (e_var 4) (e_c (.int 0)))) (b_of (e_bin k_ne (e_var 2) (e_lst (a_nil))))) (s_app 2 (e_call F__law_of (a_cons (e_var 0) (a_cons (e_var 2) (a_nil))))) (s_if (b_and (b_of (e_bin k_eq (e_var 4) (e_c (.int 1)))) (b_of (e_bin k_ne (e_var 2) (e_lst (a_nil))))) (s_app 2 (e_bin k_mul (e_call F__law_of (a_cons (e_var 0) (a_cons (e_var 2) (a_nil)))) (e_bin k_add (e_c (.int 2)) (e_call F__law_take (a_cons (e_var 0) (a_cons (e_c (.int 2)) (a_nil))))))) (s_app 2 (e_bin k_add (e_c (.int 1)) (e_call F__law_take (a_cons (e_var 0) (a_cons (e_c (.int 60)) (a_nil))))))))
noncomputable def d__law_votes : DS := s_seq (s_set 2 (e_lst (a_nil)))
    (s_seq (s_for (it_rg1 (a_cons (e_var 1) (a_nil))) (t_name 3) (B__law_votes_0))
    (s_ret (e_callB k_tuple (a_cons (e_var 2) (a_nil)))))
noncomputable def F__law_votes : Fn := Dl.run 5 d__law_votes
noncomputable def d_lowest : DS := s_seq (s_set 2 (e_callB k_gcd (a_cons (e_var 0) (a_cons (e_var 1) (a_nil)))))
    (s_seq (s_if (b_of (e_bin k_lt (e_var 1) (e_c (.int 0)))) (s_set 2 (e_un k_neg (e_var 2))) (s_nop))
    (s_ret (e_tup (a_cons (e_bin k_div (e_var 0) (e_var 2)) (a_cons (e_bin k_div (e_var 1) (e_var 2)) (a_nil))))))
noncomputable def F_lowest : Fn := Dl.run 3 d_lowest
noncomputable def d_plus : DS := s_ret (e_call F_lowest (a_cons (e_bin k_add (e_bin k_mul (e_bin k_ix (e_var 0) (e_c (.int 0))) (e_bin k_ix (e_var 1) (e_c (.int 1)))) (e_bin k_mul (e_bin k_ix (e_var 1) (e_c (.int 0))) (e_bin k_ix (e_var 0) (e_c (.int 1))))) (a_cons (e_bin k_mul (e_bin k_ix (e_var 0) (e_c (.int 1))) (e_bin k_ix (e_var 1) (e_c (.int 1)))) (a_nil))))
noncomputable def F_plus : Fn := Dl.run 2 d_plus
noncomputable def d_whole : DS := s_ret (e_tup (a_cons (e_var 0) (a_cons (e_c (.int 1)) (a_nil))))
noncomputable def F_whole : Fn := Dl.run 1 d_whole
noncomputable def d_post_in : DS := s_seq (s_if (b_of (e_bin k_lt (e_var 1) (e_c (.int 0)))) (s_ret (e_c c_ZERO)) (s_nop))
    (s_ret (e_if (b_of (e_bin k_lt (e_var 1) (e_callB k_len (a_cons (e_bin k_ix (e_var 0) (e_c (.int 0))) (a_nil))))) (e_bin k_ix (e_bin k_ix (e_var 0) (e_c (.int 0))) (e_var 1)) (e_call F_plus (a_cons (e_call F_whole (a_cons (e_var 1) (a_nil))) (a_cons (e_bin k_ix (e_var 0) (e_c (.int 1))) (a_nil))))))
noncomputable def F_post_in : Fn := Dl.run 2 d_post_in
noncomputable def T_bare_lists_0 : DT := b_of (e_bin k_eq (e_call F_post_in (a_cons (e_var 0) (a_cons (e_var 3) (a_nil)))) (e_c c_ZERO))
noncomputable def d_bare_lists : DS := s_ret (e_lc (it_enum (e_var 1)) [2, 3] (t_tup (t_cons (t_name 2) (t_cons (t_name 3) (t_nil)))) (T_bare_lists_0) (e_var 2))
noncomputable def F_bare_lists : Fn := Dl.run 4 d_bare_lists
noncomputable def d_is_less : DS := s_ret (e_bin k_lt (e_bin k_mul (e_bin k_ix (e_var 0) (e_c (.int 0))) (e_bin k_ix (e_var 1) (e_c (.int 1)))) (e_bin k_mul (e_bin k_ix (e_var 1) (e_c (.int 0))) (e_bin k_ix (e_var 0) (e_c (.int 1)))))
noncomputable def F_is_less : Fn := Dl.run 2 d_is_less
noncomputable def d_times : DS := s_ret (e_call F_lowest (a_cons (e_bin k_mul (e_bin k_ix (e_var 0) (e_c (.int 0))) (e_bin k_ix (e_var 1) (e_c (.int 0)))) (a_cons (e_bin k_mul (e_bin k_ix (e_var 0) (e_c (.int 1))) (e_bin k_ix (e_var 1) (e_c (.int 1)))) (a_nil))))
noncomputable def F_times : Fn := Dl.run 2 d_times
noncomputable def B_next_list_0 : DS := s_seq (s_parA 5 6 (e_call F_post_in (a_cons (e_var 0) (a_cons (e_bin k_ix (e_var 2) (e_var 3)) (a_nil)))) (e_call F_post_in (a_cons (e_var 0) (a_cons (e_bin k_ix (e_var 2) (e_var 4)) (a_nil)))))
    (s_if (b_of (e_call F_is_less (a_cons (e_call F_times (a_cons (e_call F_whole (a_cons (e_bin k_ix (e_var 1) (e_var 3)) (a_nil))) (a_cons (e_var 6) (a_nil)))) (a_cons (e_call F_times (a_cons (e_call F_whole (a_cons (e_bin k_ix (e_var 1) (e_var 4)) (a_nil))) (a_cons (e_var 5) (a_nil)))) (a_nil))))) (s_set 3 (e_var 4)) (s_nop))
noncomputable def d_next_list : DS := s_seq (s_set 3 (e_c (.int 0)))
    (s_seq (s_for (it_rg2 (a_cons (e_c (.int 1)) (a_cons (e_callB k_len (a_cons (e_var 1) (a_nil))) (a_nil)))) (t_name 4) (B_next_list_0))
    (s_ret (e_var 3)))
noncomputable def F_next_list : Fn := Dl.run 7 d_next_list
noncomputable def d_next_in : DS := s_seq (s_set 3 (e_call F_bare_lists (a_cons (e_var 0) (a_cons (e_var 2) (a_nil)))))
    (s_ret (e_if (b_of (e_bin k_ne (e_var 3) (e_lst (a_nil)))) (e_bin k_ix (e_var 3) (e_c (.int 0))) (e_call F_next_list (a_cons (e_var 0) (a_cons (e_var 1) (a_cons (e_var 2) (a_nil)))))))
noncomputable def F_next_in : Fn := Dl.run 4 d_next_in
noncomputable def B_dealt_in_0 : DS := s_augI 3 (e_call F_next_in (a_cons (e_var 0) (a_cons (e_var 1) (a_cons (e_var 3) (a_nil))))) (e_c (.int 1)) (fun a b => a + b)
noncomputable def d_dealt_in : DS := s_seq (s_set 3 (e_bin k_mul (e_lst (a_cons (e_c (.int 0)) (a_nil))) (e_callB k_len (a_cons (e_var 1) (a_nil)))))
    (s_seq (s_for (it_rg1 (a_cons (e_var 2) (a_nil))) (t_name 4) (B_dealt_in_0))
    (s_ret (e_callB k_tuple (a_cons (e_var 3) (a_nil)))))
noncomputable def F_dealt_in : Fn := Dl.run 5 d_dealt_in
noncomputable def B_greatest_of_0 : DS := s_set 2 (e_if (b_of (e_call F_is_less (a_cons (e_var 2) (a_cons (e_var 3) (a_nil))))) (e_var 3) (e_var 2))
noncomputable def d_greatest_of : DS := s_seq (s_set 1 (e_call F_tuple_of (a_cons (e_var 0) (a_nil))))
    (s_seq (s_if (b_of (e_bin k_eq (e_var 1) (e_tup (a_nil)))) (s_never) (s_nop))
    (s_seq (s_set 2 (e_bin k_ix (e_var 1) (e_c (.int 0))))
    (s_seq (ghost 1 (s_for (it_seq (e_var 1)) (t_name 3) (B_greatest_of_0)))
    (s_ret (e_var 2)))))
noncomputable def F_greatest_of : Fn := Dl.run 4 d_greatest_of
noncomputable def d_is_wronged : DS := s_seq (s_parA 5 6 (e_call F_post_in (a_cons (e_var 0) (a_cons (e_bin k_sub (e_bin k_ix (e_var 2) (e_var 4)) (e_c (.int 1))) (a_nil)))) (e_call F_post_in (a_cons (e_var 0) (a_cons (e_bin k_ix (e_var 2) (e_var 3)) (a_nil)))))
    (s_ret (e_call F_is_less (a_cons (e_call F_times (a_cons (e_call F_whole (a_cons (e_bin k_ix (e_var 1) (e_var 4)) (a_nil))) (a_cons (e_var 6) (a_nil)))) (a_cons (e_call F_times (a_cons (e_call F_whole (a_cons (e_bin k_ix (e_var 1) (e_var 3)) (a_nil))) (a_cons (e_var 5) (a_nil)))) (a_nil)))))
noncomputable def F_is_wronged : Fn := Dl.run 7 d_is_wronged
noncomputable def E_faults_in_0 : DE := e_tup (a_cons (e_c c_BARE) (a_cons (e_var 6) (a_nil)))
noncomputable def B_faults_in_1 : DS := s_if (b_and (b_of (e_bin k_ne (e_var 4) (e_var 5))) (b_of (e_call F_is_wronged (a_cons (e_var 0) (a_cons (e_var 1) (a_cons (e_var 2) (a_cons (e_var 4) (a_cons (e_var 5) (a_nil))))))))) (s_app 3 (e_tup (a_cons (e_c c_WRONGED) (a_cons (e_var 4) (a_cons (e_var 5) (a_nil)))))) (s_nop)
noncomputable def B_faults_in_2 : DS := s_for (it_rg1 (a_cons (e_callB k_len (a_cons (e_var 1) (a_nil))) (a_nil))) (t_name 5) (B_faults_in_1)
noncomputable def d_faults_in : DS := s_seq (s_set 3 (e_lc (it_seq (e_call F_bare_lists (a_cons (e_var 0) (a_cons (e_var 2) (a_nil))))) [6] (t_name 6) (b_yes) (E_faults_in_0)))
    (s_seq (s_for (it_rg1 (a_cons (e_callB k_len (a_cons (e_var 1) (a_nil))) (a_nil))) (t_name 4) (B_faults_in_2))
    (s_ret (e_var 3)))
noncomputable def F_faults_in : Fn := Dl.run 7 d_faults_in
noncomputable def d_over : DS := s_seq (s_if (b_of (e_bin k_eq (e_bin k_ix (e_var 1) (e_c (.int 0))) (e_c (.int 0)))) (s_never) (s_nop))
    (s_ret (e_call F_lowest (a_cons (e_bin k_mul (e_bin k_ix (e_var 0) (e_c (.int 0))) (e_bin k_ix (e_var 1) (e_c (.int 1)))) (a_cons (e_bin k_mul (e_bin k_ix (e_var 0) (e_c (.int 1))) (e_bin k_ix (e_var 1) (e_c (.int 0)))) (a_nil)))))
noncomputable def F_over : Fn := Dl.run 2 d_over
noncomputable def B_least_of_0 : DS := s_set 2 (e_if (b_of (e_call F_is_less (a_cons (e_var 3) (a_cons (e_var 2) (a_nil))))) (e_var 3) (e_var 2))
noncomputable def d_least_of : DS := s_seq (s_set 1 (e_call F_tuple_of (a_cons (e_var 0) (a_nil))))
    (s_seq (s_if (b_of (e_bin k_eq (e_var 1) (e_tup (a_nil)))) (s_never) (s_nop))
    (s_seq (s_set 2 (e_bin k_ix (e_var 1) (e_c (.int 0))))
    (s_seq (ghost 1 (s_for (it_seq (e_var 1)) (t_name 3) (B_least_of_0)))
    (s_ret (e_var 2)))))
noncomputable def F_least_of : Fn := Dl.run 4 d_least_of
noncomputable def E_divider_ends_0 : DE := e_call F_over (a_cons (e_call F_whole (a_cons (e_var 9) (a_nil))) (a_cons (e_call F_post_in (a_cons (e_var 3) (a_cons (e_var 10) (a_nil)))) (a_nil)))
noncomputable def E_divider_ends_1 : DE := e_tup (a_cons (e_var 9) (a_cons (e_call F_post_in (a_cons (e_var 3) (a_cons (e_bin k_sub (e_var 10) (e_c (.int 1))) (a_nil)))) (a_nil)))
noncomputable def T_divider_ends_2 : DT := b_of (e_bin k_ne (e_var 11) (e_c c_ZERO))
noncomputable def E_divider_ends_3 : DE := e_call F_over (a_cons (e_call F_whole (a_cons (e_var 9) (a_nil))) (a_cons (e_var 11) (a_nil)))
noncomputable def d_divider_ends : DS := s_seq (s_tg (t_tup (t_cons (t_name 3) (t_cons (t_name 4) (t_cons (t_name 5) (t_nil))))) (e_tup (a_cons (e_call F_tuple_of (a_cons (e_var 0) (a_nil))) (a_cons (e_call F_tuple_of (a_cons (e_var 1) (a_nil))) (a_cons (e_call F_tuple_of (a_cons (e_var 2) (a_nil))) (a_nil))))))
    (s_seq (s_if (b_of (e_bin k_ne (e_call F_faults_in (a_cons (e_var 3) (a_cons (e_var 4) (a_cons (e_var 5) (a_nil))))) (e_lst (a_nil)))) (s_never) (s_nop))
    (s_seq (s_set 6 (e_call F_greatest_of (a_cons (e_lc (it_zip (a_cons (e_var 4) (a_cons (e_var 5) (a_nil)))) [9, 10] (t_tup (t_cons (t_name 9) (t_cons (t_name 10) (t_nil)))) (b_yes) (E_divider_ends_0)) (a_nil))))
    (s_seq (s_set 7 (e_lc (it_zip (a_cons (e_var 4) (a_cons (e_var 5) (a_nil)))) [9, 10] (t_tup (t_cons (t_name 9) (t_cons (t_name 10) (t_nil)))) (b_yes) (E_divider_ends_1)))
    (s_seq (s_set 8 (e_lc (it_seq (e_var 7)) [9, 11] (t_tup (t_cons (t_name 9) (t_cons (t_name 11) (t_nil)))) (T_divider_ends_2) (E_divider_ends_3)))
    (s_ret (e_tup (a_cons (e_var 6) (a_cons (e_if (b_of (e_bin k_ne (e_var 8) (e_lst (a_nil)))) (e_call F_least_of (a_cons (e_var 8) (a_nil))) (e_c .none)) (a_nil)))))))))
noncomputable def F_divider_ends : Fn := Dl.run 12 d_divider_ends
noncomputable def d_divider_of : DS := s_ret (e_bin k_ix (e_call F_divider_ends (a_cons (e_var 0) (a_cons (e_var 1) (a_cons (e_var 2) (a_nil))))) (e_c (.int 0)))
noncomputable def F_divider_of : Fn := Dl.run 3 d_divider_of
noncomputable def C_seats_above_0 : DT := b_of (e_call F_is_less (a_cons (e_call F_times (a_cons (e_var 2) (a_cons (e_call F_post_in (a_cons (e_var 0) (a_cons (e_var 3) (a_nil)))) (a_nil)))) (a_cons (e_call F_whole (a_cons (e_var 1) (a_nil))) (a_nil))))
noncomputable def B_seats_above_1 : DS := s_set 3 (e_bin k_add (e_var 3) (e_c (.int 1)))
noncomputable def d_seats_above : DS := s_seq (s_set 3 (e_c (.int 0)))
    (s_seq (s_while (C_seats_above_0) (B_seats_above_1))
    (s_ret (e_var 3)))
noncomputable def F_seats_above : Fn := Dl.run 4 d_seats_above
noncomputable def d_is_most : DS := s_ret (e_bin k_le (e_bin k_mul (e_bin k_ix (e_var 0) (e_c (.int 0))) (e_bin k_ix (e_var 1) (e_c (.int 1)))) (e_bin k_mul (e_bin k_ix (e_var 1) (e_c (.int 0))) (e_bin k_ix (e_var 0) (e_c (.int 1)))))
noncomputable def F_is_most : Fn := Dl.run 2 d_is_most
noncomputable def C_seats_most_0 : DT := b_of (e_call F_is_most (a_cons (e_call F_times (a_cons (e_var 2) (a_cons (e_call F_post_in (a_cons (e_var 0) (a_cons (e_var 3) (a_nil)))) (a_nil)))) (a_cons (e_call F_whole (a_cons (e_var 1) (a_nil))) (a_nil))))
noncomputable def B_seats_most_1 : DS := s_set 3 (e_bin k_add (e_var 3) (e_c (.int 1)))
noncomputable def d_seats_most : DS := s_seq (s_set 3 (e_c (.int 0)))
    (s_seq (s_while (C_seats_most_0) (B_seats_most_1))
    (s_ret (e_var 3)))
noncomputable def F_seats_most : Fn := Dl.run 4 d_seats_most
noncomputable def E_ties_in_0 : DE := e_call F_seats_above (a_cons (e_var 0) (a_cons (e_var 7) (a_cons (e_var 4) (a_nil))))
noncomputable def E_ties_in_1 : DE := e_call F_seats_most (a_cons (e_var 0) (a_cons (e_var 7) (a_cons (e_var 4) (a_nil))))
noncomputable def d_ties_in : DS := s_seq (s_set 3 (e_call F_dealt_in (a_cons (e_var 0) (a_cons (e_var 1) (a_cons (e_var 2) (a_nil))))))
    (s_seq (s_if (b_of (e_bin k_ne (e_call F_bare_lists (a_cons (e_var 0) (a_cons (e_var 3) (a_nil)))) (e_lst (a_nil)))) (s_ret (e_c .none)) (s_nop))
    (s_seq (s_set 4 (e_call F_divider_of (a_cons (e_var 0) (a_cons (e_var 1) (a_cons (e_var 3) (a_nil))))))
    (s_seq (s_set 5 (e_callB k_tuple (a_cons (e_lc (it_seq (e_var 1)) [7] (t_name 7) (b_yes) (E_ties_in_0)) (a_nil))))
    (s_seq (s_set 6 (e_callB k_tuple (a_cons (e_lc (it_seq (e_var 1)) [7] (t_name 7) (b_yes) (E_ties_in_1)) (a_nil))))
    (s_ret (e_tup (a_cons (e_var 5) (a_cons (e_var 6) (a_nil)))))))))
noncomputable def F_ties_in : Fn := Dl.run 8 d_ties_in
noncomputable def B_deals_of_0 : DS := s_seq (s_set 12 (e_bin k_sub (e_bin k_sub (e_var 2) (e_callB k_sum (a_cons (e_var 10) (a_nil)))) (e_var 11)))
    (s_if (b_of (e_chain k_le k_le (e_bin k_ix (e_var 8) (e_c (.int 0))) (e_var 12) (e_bin k_ix (e_var 8) (e_c (.int 1))))) (s_app 9 (e_bin k_add (e_var 10) (e_tup (a_cons (e_var 11) (a_nil))))) (s_nop))
noncomputable def B_deals_of_1 : DS := s_for (it_rg2 (a_cons (e_bin k_ix (e_var 4) (e_var 7)) (a_cons (e_bin k_add (e_bin k_ix (e_var 5) (e_var 7)) (e_c (.int 1))) (a_nil)))) (t_name 11) (B_deals_of_0)
noncomputable def B_deals_of_2 : DS := s_seq (s_set 8 (e_tup (a_cons (e_callB k_sum (a_cons (e_slice (e_var 4) (o_so (e_bin k_add (e_var 7) (e_c (.int 1)))) (o_no)) (a_nil))) (a_cons (e_callB k_sum (a_cons (e_slice (e_var 5) (o_so (e_bin k_add (e_var 7) (e_c (.int 1)))) (o_no)) (a_nil))) (a_nil)))))
    (s_seq (s_set 9 (e_lst (a_nil)))
    (s_seq (ghost 6 (s_for (it_seq (e_var 6)) (t_name 10) (B_deals_of_1)))
    (s_set 6 (e_var 9))))
noncomputable def d_deals_of : DS := s_seq (s_set 3 (e_call F_ties_in (a_cons (e_call F_tuple_of (a_cons (e_var 0) (a_nil))) (a_cons (e_call F_tuple_of (a_cons (e_var 1) (a_nil))) (a_cons (e_var 2) (a_nil))))))
    (s_seq (s_if (b_of (e_bin k_isN (e_var 3) (e_c .none))) (s_ret (e_lst (a_nil))) (s_nop))
    (s_seq (s_tg (t_tup (t_cons (t_name 4) (t_cons (t_name 5) (t_nil)))) (e_var 3))
    (s_seq (s_set 6 (e_lst (a_cons (e_tup (a_nil)) (a_nil))))
    (s_seq (s_for (it_rg1 (a_cons (e_callB k_len (a_cons (e_var 4) (a_nil))) (a_nil))) (t_name 7) (B_deals_of_2))
    (s_ret (e_var 6))))))
noncomputable def F_deals_of : Fn := Dl.run 13 d_deals_of
noncomputable def d_is_number : DS := s_ret (e_and (e_isi ["int"] (e_var 0)) (e_not (e_isi ["bool"] (e_var 0))))
noncomputable def F_is_number : Fn := Dl.run 1 d_is_number
noncomputable def d_sure_list : DS := s_if (b_or (b_not (b_of (e_call F_is_number (a_cons (e_var 1) (a_nil))))) (b_not (b_of (e_chain k_le k_lt (e_c (.int 0)) (e_var 1) (e_callB k_len (a_cons (e_var 0) (a_nil))))))) (s_never) (s_nop)
noncomputable def F_sure_list : Fn := Dl.run 2 d_sure_list
noncomputable def d_seat_ends : DS := s_seq (s_parA 4 5 (e_call F_tuple_of (a_cons (e_var 0) (a_nil))) (e_call F_tuple_of (a_cons (e_var 1) (a_nil))))
    (s_seq (s_expr (e_call F_sure_list (a_cons (e_var 5) (a_cons (e_var 3) (a_nil)))))
    (s_seq (s_set 6 (e_call F_ties_in (a_cons (e_var 4) (a_cons (e_var 5) (a_cons (e_var 2) (a_nil))))))
    (s_seq (s_if (b_of (e_bin k_isN (e_var 6) (e_c .none))) (s_never) (s_nop))
    (s_seq (s_tg (t_tup (t_cons (t_name 7) (t_cons (t_name 8) (t_nil)))) (e_var 6))
    (s_seq (s_set 9 (e_tup (a_cons (e_bin k_sub (e_callB k_sum (a_cons (e_var 7) (a_nil))) (e_bin k_ix (e_var 7) (e_var 3))) (a_cons (e_bin k_sub (e_callB k_sum (a_cons (e_var 8) (a_nil))) (e_bin k_ix (e_var 8) (e_var 3))) (a_nil)))))
    (s_ret (e_tup (a_cons (e_callB k_max (a_cons (e_bin k_ix (e_var 7) (e_var 3)) (a_cons (e_bin k_sub (e_var 2) (e_bin k_ix (e_var 9) (e_c (.int 1)))) (a_nil)))) (a_cons (e_callB k_min (a_cons (e_bin k_ix (e_var 8) (e_var 3)) (a_cons (e_bin k_sub (e_var 2) (e_bin k_ix (e_var 9) (e_c (.int 0)))) (a_nil)))) (a_nil))))))))))
noncomputable def F_seat_ends : Fn := Dl.run 10 d_seat_ends
noncomputable def B_sure_two_0 : DS := s_if (b_not (b_of (e_chain k_le k_lt (e_c (.int 0)) (e_var 3) (e_var 0)))) (s_never) (s_nop)
noncomputable def d_sure_two : DS := s_seq (s_for (it_seq (e_tup (a_cons (e_var 1) (a_cons (e_var 2) (a_nil))))) (t_name 3) (B_sure_two_0))
    (s_if (b_of (e_bin k_eq (e_var 1) (e_var 2))) (s_never) (s_nop))
noncomputable def F_sure_two : Fn := Dl.run 4 d_sure_two
noncomputable def d_joined_votes : DS := s_seq (s_expr (e_call F_sure_two (a_cons (e_callB k_len (a_cons (e_var 0) (a_nil))) (a_cons (e_var 1) (a_cons (e_var 2) (a_nil))))))
    (s_seq (s_parA 3 4 (e_callB k_min (a_cons (e_var 1) (a_cons (e_var 2) (a_nil)))) (e_callB k_max (a_cons (e_var 1) (a_cons (e_var 2) (a_nil)))))
    (s_seq (s_set 5 (e_callB k_list (a_cons (e_var 0) (a_nil))))
    (s_seq (s_put 5 (e_var 3) (e_bin k_add (e_bin k_ix (e_var 5) (e_var 3)) (e_bin k_ix (e_var 5) (e_var 4))))
    (s_ret (e_callB k_tuple (a_cons (e_bin k_add (e_slice (e_var 5) (o_no) (o_so (e_var 4))) (e_slice (e_var 5) (o_so (e_bin k_add (e_var 4) (e_c (.int 1)))) (o_no))) (a_nil)))))))
noncomputable def F_joined_votes : Fn := Dl.run 6 d_joined_votes
noncomputable def E__law_same_0 (Fr : Fn) : DE := e_call Fr (a_cons (e_var 2) (a_cons (e_var 3) (a_nil)))
noncomputable def d__law_same (Fr : Fn) : DS := s_seq (s_if (b_of (e_isi ["list", "tuple"] (e_var 1))) (s_seq (s_if (b_or (b_of (e_bin k_ne (e_isi ["list"] (e_var 0)) (e_isi ["list"] (e_var 1)))) (b_of (e_bin k_ne (e_isi ["tuple"] (e_var 0)) (e_isi ["tuple"] (e_var 1))))) (s_ret (e_c (.bool false))) (s_nop))
    (s_ret (e_and (e_bin k_eq (e_callB k_len (a_cons (e_var 0) (a_nil))) (e_callB k_len (a_cons (e_var 1) (a_nil)))) (e_callB k_all (a_cons (e_lc (it_zip (a_cons (e_var 0) (a_cons (e_var 1) (a_nil)))) [2, 3] (t_tup (t_cons (t_name 2) (t_cons (t_name 3) (t_nil)))) (b_yes) (E__law_same_0 Fr)) (a_nil)))))) (s_nop))
    (s_seq (s_if (b_or (b_of (e_bin k_isN (e_var 1) (e_c .none))) (b_of (e_isi ["bool", "str"] (e_var 1)))) (s_ret (e_and (e_bin k_eq (e_var 0) (e_var 1)) (e_and (e_bin k_eq (e_isi ["str"] (e_var 0)) (e_isi ["str"] (e_var 1))) (e_and (e_bin k_eq (e_isi ["bool"] (e_var 0)) (e_isi ["bool"] (e_var 1))) (e_bin k_eq (e_bin k_isN (e_var 0) (e_c .none)) (e_bin k_isN (e_var 1) (e_c .none))))))) (s_nop))
    (s_ret (e_and (e_isi ["int"] (e_var 0)) (e_and (e_not (e_isi ["bool"] (e_var 0))) (e_bin k_eq (e_var 0) (e_var 1))))))
noncomputable def F__law_same_n : Nat → Fn
  | 0 => fun _ _ => none
  | n + 1 => Dl.run 4 (d__law_same (F__law_same_n n))
noncomputable abbrev F__law_same : Fn := F__law_same_n LV__law_same
noncomputable def d_faults_of : DS := s_ret (e_call F_faults_in (a_cons (e_call F_tuple_of (a_cons (e_var 0) (a_nil))) (a_cons (e_call F_tuple_of (a_cons (e_var 1) (a_nil))) (a_cons (e_call F_tuple_of (a_cons (e_var 2) (a_nil))) (a_nil)))))
noncomputable def F_faults_of : Fn := Dl.run 3 d_faults_of
noncomputable def d_is_deal : DS := s_ret (e_bin k_eq (e_call F_faults_of (a_cons (e_var 0) (a_cons (e_var 1) (a_cons (e_var 2) (a_nil))))) (e_lst (a_nil)))
noncomputable def F_is_deal : Fn := Dl.run 3 d_is_deal
noncomputable def d_joined_seats : DS := s_seq (s_set 5 (e_call F_joined_votes (a_cons (e_var 1) (a_cons (e_var 3) (a_cons (e_var 4) (a_nil))))))
    (s_seq (s_set 6 (e_call F_tuple_of (a_cons (e_var 0) (a_nil))))
    (s_seq (s_if (b_not (b_of (e_call F_is_deal (a_cons (e_var 6) (a_cons (e_var 1) (a_cons (e_var 2) (a_nil))))))) (s_never) (s_nop))
    (s_seq (s_tg (t_tup (t_cons (t_name 7) (t_cons (t_name 8) (t_nil)))) (e_call F_seat_ends (a_cons (e_var 6) (a_cons (e_var 5) (a_cons (e_callB k_sum (a_cons (e_var 2) (a_nil))) (a_cons (e_callB k_min (a_cons (e_var 3) (a_cons (e_var 4) (a_nil)))) (a_nil)))))))
    (s_ret (e_tup (a_cons (e_bin k_add (e_bin k_ix (e_var 2) (e_var 3)) (e_bin k_ix (e_var 2) (e_var 4))) (a_cons (e_var 7) (a_cons (e_var 8) (a_nil)))))))))
noncomputable def F_joined_seats : Fn := Dl.run 9 d_joined_seats
noncomputable def d_keeps_promise : DS := s_seq (s_if (b_of (e_bin k_eq (e_var 0) (e_c c_NO_FEWER))) (s_ret (e_bin k_ge (e_var 3) (e_var 1))) (s_nop))
    (s_seq (s_if (b_of (e_bin k_eq (e_var 0) (e_c c_ONE_FEWER))) (s_ret (e_bin k_ge (e_var 3) (e_bin k_sub (e_var 1) (e_c (.int 1))))) (s_nop))
    (s_ret (e_if (b_of (e_bin k_eq (e_var 0) (e_c c_NO_MORE))) (e_bin k_le (e_var 2) (e_var 1)) (e_bin k_le (e_var 2) (e_bin k_add (e_var 1) (e_c (.int 1)))))))
noncomputable def F_keeps_promise : Fn := Dl.run 4 d_keeps_promise
noncomputable def d_is_kept_at : DS := s_seq (s_tg (t_tup (t_cons (t_name 6) (t_cons (t_name 7) (t_cons (t_name 8) (t_nil))))) (e_call F_joined_seats (a_cons (e_var 0) (a_cons (e_var 2) (a_cons (e_var 3) (a_cons (e_var 4) (a_cons (e_var 5) (a_nil))))))))
    (s_ret (e_call F_keeps_promise (a_cons (e_var 1) (a_cons (e_var 6) (a_cons (e_var 7) (a_cons (e_var 8) (a_nil)))))))
noncomputable def F_is_kept_at : Fn := Dl.run 9 d_is_kept_at
noncomputable def d_starts_bare : DS := s_ret (e_bin k_eq (e_call F_post_in (a_cons (e_var 0) (a_cons (e_c (.int 0)) (a_nil)))) (e_c c_ZERO))
noncomputable def F_starts_bare : Fn := Dl.run 1 d_starts_bare
noncomputable def d_limit_of : DS := s_seq (s_if (b_of (e_bin k_in (e_var 1) (e_tup (a_cons (e_c c_NO_FEWER) (a_cons (e_c c_ONE_FEWER) (a_nil)))))) (s_seq (s_set 4 (e_call F_plus (a_cons (e_call F_post_in (a_cons (e_var 0) (a_cons (e_bin k_sub (e_var 2) (e_c (.int 1))) (a_nil)))) (a_cons (e_call F_post_in (a_cons (e_var 0) (a_cons (e_bin k_sub (e_var 3) (e_c (.int 1))) (a_nil)))) (a_nil)))))
    (s_ret (e_tup (a_cons (e_var 4) (a_cons (e_call F_post_in (a_cons (e_var 0) (a_cons (e_bin k_sub (e_bin k_add (e_var 2) (e_var 3)) (e_if (b_of (e_bin k_eq (e_var 1) (e_c c_NO_FEWER))) (e_c (.int 1)) (e_c (.int 2)))) (a_nil)))) (a_nil)))))) (s_nop))
    (s_seq (s_set 4 (e_call F_plus (a_cons (e_call F_post_in (a_cons (e_var 0) (a_cons (e_var 2) (a_nil)))) (a_cons (e_call F_post_in (a_cons (e_var 0) (a_cons (e_var 3) (a_nil)))) (a_nil)))))
    (s_ret (e_tup (a_cons (e_var 4) (a_cons (e_call F_post_in (a_cons (e_var 0) (a_cons (e_bin k_add (e_bin k_add (e_var 2) (e_var 3)) (e_if (b_of (e_bin k_eq (e_var 1) (e_c c_NO_MORE))) (e_c (.int 0)) (e_c (.int 1)))) (a_nil)))) (a_nil))))))
noncomputable def F_limit_of : Fn := Dl.run 5 d_limit_of
noncomputable def d_is_broken_by : DS := s_seq (s_tg (t_tup (t_cons (t_name 4) (t_cons (t_name 5) (t_nil)))) (e_call F_limit_of (a_cons (e_var 0) (a_cons (e_var 1) (a_cons (e_var 2) (a_cons (e_var 3) (a_nil)))))))
    (s_ret (e_if (b_of (e_bin k_in (e_var 1) (e_tup (a_cons (e_c c_NO_FEWER) (a_cons (e_c c_ONE_FEWER) (a_nil)))))) (e_call F_is_less (a_cons (e_var 4) (a_cons (e_var 5) (a_nil)))) (e_call F_is_less (a_cons (e_var 5) (a_cons (e_var 4) (a_nil))))))
noncomputable def F_is_broken_by : Fn := Dl.run 6 d_is_broken_by
noncomputable def E_keeps_always_0 : DE := e_bin k_eq (e_var 7) (e_call F_whole (a_cons (e_bin k_add (e_var 6) (e_c (.int 1))) (a_nil)))
noncomputable def E_keeps_always_1 : DE := e_bin k_eq (e_var 7) (e_call F_whole (a_cons (e_var 6) (a_nil)))
noncomputable def B_keeps_always_2 : DS := s_if (b_of (e_call F_is_broken_by (a_cons (e_var 2) (a_cons (e_var 1) (a_cons (e_var 4) (a_cons (e_var 5) (a_nil))))))) (s_ret (e_c (.bool false))) (s_nop)
noncomputable def B_keeps_always_3 : DS := s_for (it_rg2 (a_cons (e_var 3) (a_cons (e_bin k_add (e_var 4) (e_c (.int 1))) (a_nil)))) (t_name 5) (B_keeps_always_2)
noncomputable def d_keeps_always : DS := s_seq (s_set 2 (e_call F_tuple_of (a_cons (e_var 0) (a_nil))))
    (s_seq (s_set 3 (e_callB k_int (a_cons (e_call F_starts_bare (a_cons (e_var 2) (a_nil))) (a_nil))))
    (s_seq (s_if (b_of (e_bin k_eq (e_var 1) (e_c c_NO_FEWER))) (s_ret (e_and (e_bin k_eq (e_bin k_ix (e_var 2) (e_c (.int 1))) (e_tup (a_cons (e_c (.int 1)) (a_cons (e_c (.int 1)) (a_nil))))) (e_callB k_all (a_cons (e_lc (it_enum (e_bin k_ix (e_var 2) (e_c (.int 0)))) [6, 7] (t_tup (t_cons (t_name 6) (t_cons (t_name 7) (t_nil)))) (b_yes) (E_keeps_always_0)) (a_nil))))) (s_nop))
    (s_seq (s_if (b_of (e_bin k_eq (e_var 1) (e_c c_NO_MORE))) (s_ret (e_and (e_bin k_eq (e_bin k_ix (e_var 2) (e_c (.int 1))) (e_c c_ZERO)) (e_callB k_all (a_cons (e_lc (it_enum (e_bin k_ix (e_var 2) (e_c (.int 0)))) [6, 7] (t_tup (t_cons (t_name 6) (t_cons (t_name 7) (t_nil)))) (b_yes) (E_keeps_always_1)) (a_nil))))) (s_nop))
    (s_seq (s_for (it_rg2 (a_cons (e_var 3) (a_cons (e_bin k_add (e_c c_MOST_ROW) (e_c (.int 2))) (a_nil)))) (t_name 4) (B_keeps_always_3))
    (s_ret (e_c (.bool true)))))))
noncomputable def F_keeps_always : Fn := Dl.run 8 d_keeps_always
noncomputable def E_law_0 : DE := e_bin k_add (e_var 11) (e_c (.int 1))
noncomputable def E_law_1 : DE := e_bin k_add (e_bin k_ix (e_var 11) (e_var 4)) (e_bin k_ix (e_var 11) (e_un k_neg (e_c (.int 1))))
noncomputable def E_law_2 : DE := e_bin k_ix (e_var 11) (e_var 4)
noncomputable def B_law_3 : DS := s_if (b_or (b_and (b_of (e_bin k_eq (e_var 7) (e_tup (a_cons (e_c (.int 1)) (a_cons (e_c (.int 1)) (a_nil)))))) (b_of (e_bin k_gt (e_callB k_min (a_cons (e_var 9) (a_nil))) (e_var 11)))) (b_and (b_of (e_bin k_eq (e_var 7) (e_tup (a_cons (e_c (.int 0)) (a_cons (e_c (.int 1)) (a_nil)))))) (b_of (e_bin k_lt (e_callB k_max (a_cons (e_var 9) (a_nil))) (e_var 11))))) (s_ret (e_c (.bool false))) (s_nop)
noncomputable def B_law_4 : DS := s_seq (s_set 8 (e_call F_even_posts (a_cons (e_var 7) (a_nil))))
    (s_seq (s_set 9 (e_lc (it_seq (e_call F_deals_of (a_cons (e_var 8) (a_cons (e_var 6) (a_cons (e_var 3) (a_nil)))))) [11] (t_name 11) (b_yes) (E_law_1)))
    (s_seq (s_set 10 (e_lc (it_seq (e_call F_deals_of (a_cons (e_var 8) (a_cons (e_var 2) (a_cons (e_var 3) (a_nil)))))) [11] (t_name 11) (b_yes) (E_law_2)))
    (s_seq (s_if (b_and (b_of (e_bin k_ne (e_var 9) (e_lst (a_nil)))) (b_of (e_bin k_ne (e_var 10) (e_lst (a_nil))))) (s_seq (s_if (b_or (b_and (b_of (e_bin k_eq (e_var 7) (e_tup (a_cons (e_c (.int 1)) (a_cons (e_c (.int 1)) (a_nil)))))) (b_of (e_bin k_gt (e_callB k_min (a_cons (e_var 9) (a_nil))) (e_callB k_max (a_cons (e_var 10) (a_nil)))))) (b_and (b_of (e_bin k_eq (e_var 7) (e_tup (a_cons (e_c (.int 0)) (a_cons (e_c (.int 1)) (a_nil)))))) (b_of (e_bin k_lt (e_callB k_max (a_cons (e_var 9) (a_nil))) (e_callB k_min (a_cons (e_var 10) (a_nil))))))) (s_ret (e_c (.bool false))) (s_nop))
    (s_seq (s_if (b_or (b_of (e_bin k_gt (e_callB k_max (a_cons (e_var 9) (a_nil))) (e_bin k_add (e_callB k_max (a_cons (e_var 10) (a_nil))) (e_c (.int 1))))) (b_of (e_bin k_lt (e_callB k_min (a_cons (e_var 9) (a_nil))) (e_bin k_sub (e_callB k_min (a_cons (e_var 10) (a_nil))) (e_c (.int 1)))))) (s_ret (e_c (.bool false))) (s_nop))
    (s_seq (ghost 10 (s_for (it_seq (e_var 10)) (t_name 11) (B_law_3)))
    (s_if (b_of (e_bin k_ne (e_tup (a_cons (e_callB k_min (a_cons (e_var 10) (a_nil))) (a_cons (e_callB k_max (a_cons (e_var 10) (a_nil))) (a_nil)))) (e_call F_seat_ends (a_cons (e_var 8) (a_cons (e_var 2) (a_cons (e_var 3) (a_cons (e_var 4) (a_nil)))))))) (s_ret (e_c (.bool false))) (s_nop))))) (s_nop))
    (s_if (b_not (b_of (e_call F__law_same (a_cons (e_lst (a_cons (e_call F_keeps_always (a_cons (e_var 8) (a_cons (e_c (.str "no fewer")) (a_nil)))) (a_cons (e_call F_keeps_always (a_cons (e_var 8) (a_cons (e_c (.str "no more")) (a_nil)))) (a_nil)))) (a_cons (e_lst (a_cons (e_bin k_eq (e_var 7) (e_tup (a_cons (e_c (.int 1)) (a_cons (e_c (.int 1)) (a_nil))))) (a_cons (e_bin k_eq (e_var 7) (e_tup (a_cons (e_c (.int 0)) (a_cons (e_c (.int 1)) (a_nil))))) (a_nil)))) (a_nil)))))) (s_ret (e_c (.bool false))) (s_nop)))))
noncomputable def E_law_5 : DE := e_bin k_ix (e_var 11) (e_var 4)
noncomputable def E_law_6 : DE := e_call F_is_kept_at (a_cons (e_var 8) (a_cons (e_var 11) (a_cons (e_var 6) (a_cons (e_var 13) (a_cons (e_var 4) (a_cons (e_callB k_len (a_cons (e_var 2) (a_nil))) (a_nil)))))))
noncomputable def B_law_7 : DS := s_seq (s_set 14 (e_bin k_add (e_bin k_ix (e_var 13) (e_var 4)) (e_bin k_ix (e_var 13) (e_un k_neg (e_c (.int 1))))))
    (s_seq (s_if (b_of (e_bin k_ne (e_call F_joined_seats (a_cons (e_var 8) (a_cons (e_var 6) (a_cons (e_var 13) (a_cons (e_var 4) (a_cons (e_callB k_len (a_cons (e_var 2) (a_nil))) (a_nil))))))) (e_tup (a_cons (e_var 14) (a_cons (e_callB k_min (a_cons (e_var 12) (a_nil))) (a_cons (e_callB k_max (a_cons (e_var 12) (a_nil))) (a_nil))))))) (s_ret (e_c (.bool false))) (s_nop))
    (s_seq (s_set 15 (e_lst (a_cons (e_bin k_ge (e_callB k_max (a_cons (e_var 12) (a_nil))) (e_var 14)) (a_cons (e_bin k_ge (e_callB k_max (a_cons (e_var 12) (a_nil))) (e_bin k_sub (e_var 14) (e_c (.int 1)))) (a_cons (e_bin k_le (e_callB k_min (a_cons (e_var 12) (a_nil))) (e_var 14)) (a_cons (e_bin k_le (e_callB k_min (a_cons (e_var 12) (a_nil))) (e_bin k_add (e_var 14) (e_c (.int 1)))) (a_nil)))))))
    (s_if (b_of (e_bin k_ne (e_lc (it_seq (e_tup (a_cons (e_c (.str "no fewer")) (a_cons (e_c (.str "one fewer")) (a_cons (e_c (.str "no more")) (a_cons (e_c (.str "one more")) (a_nil))))))) [11] (t_name 11) (b_yes) (E_law_6)) (e_var 15))) (s_ret (e_c (.bool false))) (s_nop))))
noncomputable def d_law : DS := s_seq (s_tg (t_tup (t_cons (t_name 2) (t_cons (t_name 3) (t_nil)))) (e_tup (a_cons (e_call F__law_votes (a_cons (e_var 1) (a_cons (e_bin k_add (e_c (.int 2)) (e_call F__law_take (a_cons (e_var 1) (a_cons (e_c (.int 3)) (a_nil))))) (a_nil)))) (a_cons (e_call F__law_take (a_cons (e_var 1) (a_cons (e_c (.int 8)) (a_nil)))) (a_nil)))))
    (s_seq (s_set 2 (e_callB k_tuple (a_cons (e_lc (it_seq (e_var 2)) [11] (t_name 11) (b_yes) (E_law_0)) (a_nil))))
    (s_seq (s_set 4 (e_call F__law_take (a_cons (e_var 1) (a_cons (e_callB k_len (a_cons (e_var 2) (a_nil))) (a_nil)))))
    (s_seq (s_set 5 (e_bin k_add (e_c (.int 1)) (e_call F__law_take (a_cons (e_var 1) (a_cons (e_bin k_sub (e_bin k_ix (e_var 2) (e_var 4)) (e_c (.int 1))) (a_nil))))))
    (s_seq (s_set 6 (e_bin k_add (e_bin k_add (e_bin k_add (e_slice (e_var 2) (o_no) (o_so (e_var 4))) (e_tup (a_cons (e_var 5) (a_nil)))) (e_slice (e_var 2) (o_so (e_bin k_add (e_var 4) (e_c (.int 1)))) (o_no))) (e_tup (a_cons (e_bin k_sub (e_bin k_ix (e_var 2) (e_var 4)) (e_var 5)) (a_nil)))))
    (s_seq (s_if (b_or (b_of (e_bin k_ne (e_call F_joined_votes (a_cons (e_var 6) (a_cons (e_var 4) (a_cons (e_callB k_len (a_cons (e_var 2) (a_nil))) (a_nil))))) (e_var 2))) (b_of (e_bin k_ne (e_call F_joined_votes (a_cons (e_var 6) (a_cons (e_callB k_len (a_cons (e_var 2) (a_nil))) (a_cons (e_var 4) (a_nil))))) (e_var 2)))) (s_ret (e_c (.bool false))) (s_nop))
    (s_seq (s_for (it_seq (e_tup (a_cons (e_tup (a_cons (e_c (.int 1)) (a_cons (e_c (.int 1)) (a_nil)))) (a_cons (e_tup (a_cons (e_c (.int 0)) (a_cons (e_c (.int 1)) (a_nil)))) (a_cons (e_call F__law_of (a_cons (e_var 1) (a_cons (e_lst (a_cons (e_tup (a_cons (e_c (.int 1)) (a_cons (e_c (.int 2)) (a_nil)))) (a_cons (e_tup (a_cons (e_c (.int 1)) (a_cons (e_c (.int 3)) (a_nil)))) (a_cons (e_tup (a_cons (e_c (.int 4)) (a_cons (e_c (.int 5)) (a_nil)))) (a_nil))))) (a_nil)))) (a_nil)))))) (t_name 7) (B_law_4))
    (s_seq (s_set 8 (e_call F__law_rule (a_cons (e_var 1) (a_nil))))
    (s_seq (s_set 12 (e_lc (it_seq (e_call F_deals_of (a_cons (e_var 8) (a_cons (e_var 2) (a_cons (e_var 3) (a_nil)))))) [11] (t_name 11) (b_yes) (E_law_5)))
    (s_seq (s_for (it_seq (e_slice (e_call F_deals_of (a_cons (e_var 8) (a_cons (e_var 6) (a_cons (e_var 3) (a_nil))))) (o_no) (o_so (e_c (.int 5))))) (t_name 13) (B_law_7))
    (s_seq (s_set 16 (e_bin k_add (e_bin k_add (e_bin k_add (e_slice (e_var 2) (o_no) (o_so (e_var 4))) (e_tup (a_cons (e_bin k_sub (e_bin k_ix (e_var 2) (e_var 4)) (e_c (.int 1))) (a_nil)))) (e_slice (e_var 2) (o_so (e_bin k_add (e_var 4) (e_c (.int 1)))) (o_no))) (e_tup (a_cons (e_c (.int 1)) (a_nil)))))
    (s_seq (s_set 17 (e_call F_even_posts (a_cons (e_tup (a_cons (e_c (.int 1)) (a_cons (e_c (.int 1)) (a_nil)))) (a_nil))))
    (s_seq (s_parA 18 19 (e_call F_seat_ends (a_cons (e_var 17) (a_cons (e_var 16) (a_cons (e_var 3) (a_cons (e_var 4) (a_nil)))))) (e_call F_seat_ends (a_cons (e_var 17) (a_cons (e_var 2) (a_cons (e_var 3) (a_cons (e_var 4) (a_nil)))))))
    (s_ret (e_and (e_bin k_le (e_bin k_ix (e_var 18) (e_c (.int 0))) (e_bin k_ix (e_var 19) (e_c (.int 0)))) (e_bin k_le (e_bin k_ix (e_var 18) (e_c (.int 1))) (e_bin k_ix (e_var 19) (e_c (.int 1))))))))))))))))))
noncomputable def F_law : Fn := Dl.run 20 d_law
noncomputable def u_law : DE := e_call F__law_box (a_cons (e_call F__law_cells (a_cons (e_var 0) (a_cons (e_c (.int 1)) (a_nil)))) (a_cons (e_c (.int 0)) (a_nil)))
end K45
end

section
set_option Elab.async false
set_option linter.all false
set_option maxRecDepth 100000
/-! The plain law, part 1: fractions. -/
namespace K45
open PySem PySem.Spec PyProof.Rows L2 Dl

theorem atI0 {α : Type} {x : α} {xs : List α} : atI (x :: xs) 0 = some x := by
  unfold atI ixN; simp
theorem atI1 {α : Type} {x y : α} {xs : List α} : atI (x :: y :: xs) 1 = some y := by
  unfold atI ixN
  simp only [List.length_cons]
  rw [if_pos (by omega), if_pos (by omega)]
  rfl
abbrev fr (p q : Int) : D := .tuple [.int p, .int q]
theorem lim0 : lim 0 = true := cd_t (by decide)
theorem lim1 : lim 1 = true := cd_t (by decide)
theorem lim2 : lim 2 = true := cd_t (by decide)
theorem lim3 : lim 3 = true := cd_t (by decide)
theorem lim4 : lim 4 = true := cd_t (by decide)
theorem BIG_64 : 2 ^ 64 < BIG := by unfold BIG; exact Nat.pow_lt_pow_right (by decide) (by decide)
theorem mulOk_l {i j : Int} (h : i.natAbs < 2 ^ 64) : mulOk i j = true := cd_t (.inl h)
theorem mulOk_r {i j : Int} (h : j.natAbs < 2 ^ 64) : mulOk i j = true := cd_t (.inr (.inl h))

/-! ### lowest terms -/
def gg (n d : Int) : Int := (Nat.gcd n.natAbs d.natAbs : Nat)
def red (n d : Int) : D := fr (n / gg n d) (d / gg n d)
theorem gg_pos {n d : Int} (h : 0 < d) : 0 < gg n d := by
  unfold gg
  have : 0 < Nat.gcd n.natAbs d.natAbs := Nat.gcd_pos_of_pos_right _ (by omega)
  omega
theorem gg_l {n d : Int} : n / gg n d * gg n d = n := Int.ediv_mul_cancel (by
  unfold gg; exact Int.ofNat_dvd_left.mpr (Nat.gcd_dvd_left _ _))
theorem gg_r {n d : Int} : d / gg n d * gg n d = d := Int.ediv_mul_cancel (by
  unfold gg; exact Int.ofNat_dvd_left.mpr (Nat.gcd_dvd_right _ _))
theorem gg_scale {k n d : Int} (h : 0 < k) : gg (k * n) (k * d) = k * gg n d := by
  unfold gg
  rw [Int.natAbs_mul, Int.natAbs_mul, Nat.gcd_mul_left]
  push_cast
  rw [show ((k.natAbs : Nat) : Int) = k by omega]
theorem red_scale {k n d : Int} (h : 0 < k) (hd : 0 < d) : red (k * n) (k * d) = red n d := by
  unfold red
  rw [gg_scale h, Int.mul_ediv_mul_of_pos _ _ h, Int.mul_ediv_mul_of_pos _ _ h]
theorem red_of {n d m e : Int} (hd : 0 < d) (he : 0 < e) (h : n * e = m * d) : red n d = red m e := by
  rw [← red_scale (n := n) (d := d) he hd, ← red_scale (n := m) (d := e) hd he, Int.mul_comm e n, h, Int.mul_comm m d, Int.mul_comm e d]
/-- parts of a fraction in lowest terms -/
theorem red_parts {n d : Int} (hd : 0 < d) : ∃ p q g : Int, red n d = fr p q ∧ 0 < q ∧ 0 < g ∧ n = p * g ∧ d = q * g ∧ p.natAbs ≤ n.natAbs ∧ q ≤ d := by
  have h := gg_pos (n := n) hd
  have e1 := gg_l (n := n) (d := d)
  have e2 := gg_r (n := n) (d := d)
  have hq : 0 < d / gg n d := by
    rcases Int.lt_trichotomy 0 (d / gg n d) with h1 | h1 | h1
    · exact h1
    · rw [← h1] at e2; omega
    · have := Int.mul_neg_of_neg_of_pos h1 h; omega
  refine ⟨_, _, gg n d, rfl, hq, h, e1.symm, e2.symm, ?_, ?_⟩
  · have h3 := Int.natAbs_mul (n / gg n d) (gg n d)
    rw [e1] at h3
    have h4 := Nat.mul_le_mul_left (n / gg n d).natAbs (show 1 ≤ (gg n d).natAbs by omega)
    omega
  · have h4 := Int.mul_le_mul_of_nonneg_left (show 1 ≤ gg n d by omega) (Int.le_of_lt hq)
    omega
theorem red_zero {d : Int} (hd : 0 < d) : red 0 d = fr 0 1 := by
  have h : red 0 d = red 0 1 := red_of hd (by decide) (by simp)
  rw [h]; rfl
theorem red_one {n : Int} : red n 1 = fr n 1 := by
  unfold red
  have h : gg n 1 = 1 := by unfold gg; simp
  rw [h]; simp
theorem red_self {d : Int} (hd : 0 < d) : red d d = fr 1 1 := by
  rw [← red_one (n := 1)]; exact red_of hd (by decide) (by simp)

/-! ### the functions of fractions -/
variable {u : Ur}
theorem ev_lowest {n d : Int} (hd : 0 < d) (hb : d < 2 ^ 64) : F_lowest [.val (.int n), .val (.int d)] u = some (.val (red n d), u) := by
  have h := gg_pos (n := n) hd
  have h2 : gg n d ≤ d := by
    have := Nat.le_of_dvd (by omega) (Nat.gcd_dvd_right n.natAbs d.natAbs)
    unfold gg; omega
  have h3 : 0 < gg n d ∧ (gg n d).natAbs < BIG := ⟨h, Nat.lt_trans (by omega) BIG_64⟩
  have h4 : ¬ d < 0 := by omega
  simp only [F_lowest, d_lowest, lim0, lim1, lim2, lim3, lim4, Dl.run, s_seq, s_nop, s_ret, s_retN, s_if, s_set, s_put, s_app, s_augI, putA, s_expr, s_tg, s_parA, s_parB, noB, t_name, t_nil, t_cons, t_tup, e_bin, e_un, e_c, e_var, e_tup, e_lst, e_if, e_and, e_or, e_not, e_chain, e_orT, b_of, b_and, b_or, b_not, asB, asI, a_nil, a_cons, e_call, e_callB, toSl, thaw, isBor, noL, noList, noListAll, dats, dat1, k_add, addD, k_sub, k_mul, mulD, k_div, k_mod, k_pow, k_lt, k_le, k_gt, k_ge, k_neg, k_ix, intI, seqA, view, lstA, rfin, setR, k_len, k_tuple, k_list, k_sum, k_max, k_min, k_abs, k_int, k_gcd, k_all, k_isN, k_notN, k_isB, k_notB, isNon, e_slice, o_no, o_so, k_cut, Option.bind_some, Option.map_some, Option.bind_none, Option.map_none, List.getElem?_cons_zero, List.getElem?_cons_succ, List.set_cons_zero, List.set_cons_succ, List.map_cons, List.map_nil, List.any_cons, List.any_nil, List.length_cons, List.length_nil, List.replicate, List.cons_append, List.nil_append, Bool.or_false, Bool.false_or, Bool.or_true, Bool.true_or, Bool.not_false, Bool.not_true, Bool.and_true, Bool.true_and, Bool.and_false, Bool.false_and, if_true, ite_true, Bool.false_eq_true, if_false, ite_false, reduceIte, Nat.zero_add, Nat.add_zero, Nat.reduceAdd, Nat.reduceSub, Nat.sub_self, decide_eq_false h4]
  rw [show ((Nat.gcd n.natAbs d.natAbs : Nat) : Int) = gg n d from rfl]
  simp only [cd_t h3, lim0, lim1, lim2, lim3, lim4, Dl.run, s_seq, s_nop, s_ret, s_retN, s_if, s_set, s_put, s_app, s_augI, putA, s_expr, s_tg, s_parA, s_parB, noB, t_name, t_nil, t_cons, t_tup, e_bin, e_un, e_c, e_var, e_tup, e_lst, e_if, e_and, e_or, e_not, e_chain, e_orT, b_of, b_and, b_or, b_not, asB, asI, a_nil, a_cons, e_call, e_callB, toSl, thaw, isBor, noL, noList, noListAll, dats, dat1, k_add, addD, k_sub, k_mul, mulD, k_div, k_mod, k_pow, k_lt, k_le, k_gt, k_ge, k_neg, k_ix, intI, seqA, view, lstA, rfin, setR, k_len, k_tuple, k_list, k_sum, k_max, k_min, k_abs, k_int, k_gcd, k_all, k_isN, k_notN, k_isB, k_notB, isNon, e_slice, o_no, o_so, k_cut, Option.bind_some, Option.map_some, Option.bind_none, Option.map_none, List.getElem?_cons_zero, List.getElem?_cons_succ, List.set_cons_zero, List.set_cons_succ, List.map_cons, List.map_nil, List.any_cons, List.any_nil, List.length_cons, List.length_nil, List.replicate, List.cons_append, List.nil_append, Bool.or_false, Bool.false_or, Bool.or_true, Bool.true_or, Bool.not_false, Bool.not_true, Bool.and_true, Bool.true_and, Bool.and_false, Bool.false_and, if_true, ite_true, Bool.false_eq_true, if_false, ite_false, reduceIte, Nat.zero_add, Nat.add_zero, Nat.reduceAdd, Nat.reduceSub, Nat.sub_self]
  rfl
theorem ev_whole {p : Int} : F_whole [.val (.int p)] u = some (.val (red p 1), u) := by
  rw [red_one]
  simp only [F_whole, d_whole, lim0, lim1, lim2, lim3, lim4, Dl.run, s_seq, s_nop, s_ret, s_retN, s_if, s_set, s_put, s_app, s_augI, putA, s_expr, s_tg, s_parA, s_parB, noB, t_name, t_nil, t_cons, t_tup, e_bin, e_un, e_c, e_var, e_tup, e_lst, e_if, e_and, e_or, e_not, e_chain, e_orT, b_of, b_and, b_or, b_not, asB, asI, a_nil, a_cons, e_call, e_callB, toSl, thaw, isBor, noL, noList, noListAll, dats, dat1, k_add, addD, k_sub, k_mul, mulD, k_div, k_mod, k_pow, k_lt, k_le, k_gt, k_ge, k_neg, k_ix, intI, seqA, view, lstA, rfin, setR, k_len, k_tuple, k_list, k_sum, k_max, k_min, k_abs, k_int, k_gcd, k_all, k_isN, k_notN, k_isB, k_notB, isNon, e_slice, o_no, o_so, k_cut, Option.bind_some, Option.map_some, Option.bind_none, Option.map_none, List.getElem?_cons_zero, List.getElem?_cons_succ, List.set_cons_zero, List.set_cons_succ, List.map_cons, List.map_nil, List.any_cons, List.any_nil, List.length_cons, List.length_nil, List.replicate, List.cons_append, List.nil_append, Bool.or_false, Bool.false_or, Bool.or_true, Bool.true_or, Bool.not_false, Bool.not_true, Bool.and_true, Bool.true_and, Bool.and_false, Bool.false_and, if_true, ite_true, Bool.false_eq_true, if_false, ite_false, reduceIte, Nat.zero_add, Nat.add_zero, Nat.reduceAdd, Nat.reduceSub, Nat.sub_self]
theorem ev_plus {a b c d : Int} (hb : 0 < b) (hd : 0 < d) (b1 : a.natAbs < 2 ^ 64) (b2 : b < 2 ^ 31) (b3 : c.natAbs < 2 ^ 64) (b4 : d < 2 ^ 31) : F_plus [.val (red a b), .val (red c d)] u = some (.val (red (a * d + c * b) (b * d)), u) := by
  obtain ⟨p, q, g, e1, hq, hg, ea, eb, ba, bb⟩ := red_parts (n := a) hb
  obtain ⟨r, s, k, e2, hs, hk, ec, ed, bc, bd⟩ := red_parts (n := c) hd
  have m1 : mulOk p s = true := mulOk_l (by omega)
  have m2 : mulOk r q = true := mulOk_l (by omega)
  have m3 : mulOk q s = true := mulOk_l (by omega)
  have hqs : 0 < q * s := Int.mul_pos hq hs
  have hqs2 : q * s < 2 ^ 64 := by
    have h1 : q * s ≤ q * 2 ^ 31 := Int.mul_le_mul_of_nonneg_left (by omega) (by omega)
    omega
  rw [e1, e2]
  simp only [F_plus, d_plus, lim0, lim1, lim2, lim3, lim4, Dl.run, s_seq, s_nop, s_ret, s_retN, s_if, s_set, s_put, s_app, s_augI, putA, s_expr, s_tg, s_parA, s_parB, noB, t_name, t_nil, t_cons, t_tup, e_bin, e_un, e_c, e_var, e_tup, e_lst, e_if, e_and, e_or, e_not, e_chain, e_orT, b_of, b_and, b_or, b_not, asB, asI, a_nil, a_cons, e_call, e_callB, toSl, thaw, isBor, noL, noList, noListAll, dats, dat1, k_add, addD, k_sub, k_mul, mulD, k_div, k_mod, k_pow, k_lt, k_le, k_gt, k_ge, k_neg, k_ix, intI, seqA, view, lstA, rfin, setR, k_len, k_tuple, k_list, k_sum, k_max, k_min, k_abs, k_int, k_gcd, k_all, k_isN, k_notN, k_isB, k_notB, isNon, e_slice, o_no, o_so, k_cut, Option.bind_some, Option.map_some, Option.bind_none, Option.map_none, List.getElem?_cons_zero, List.getElem?_cons_succ, List.set_cons_zero, List.set_cons_succ, List.map_cons, List.map_nil, List.any_cons, List.any_nil, List.length_cons, List.length_nil, List.replicate, List.cons_append, List.nil_append, Bool.or_false, Bool.false_or, Bool.or_true, Bool.true_or, Bool.not_false, Bool.not_true, Bool.and_true, Bool.true_and, Bool.and_false, Bool.false_and, if_true, ite_true, Bool.false_eq_true, if_false, ite_false, reduceIte, Nat.zero_add, Nat.add_zero, Nat.reduceAdd, Nat.reduceSub, Nat.sub_self, atI0, atI1, m1, m2, m3, ev_lowest hqs hqs2]
  have e : red (p * s + r * q) (q * s) = red (a * d + c * b) (b * d) := by
    refine red_of hqs (Int.mul_pos hb hd) ?_
    rw [ea, eb, ec, ed]; grind
  rw [e]
theorem ev_times {a b c d : Int} (hb : 0 < b) (hd : 0 < d) (b1 : a.natAbs < 2 ^ 64) (b2 : b < 2 ^ 31) (b4 : d < 2 ^ 31) : F_times [.val (red a b), .val (red c d)] u = some (.val (red (a * c) (b * d)), u) := by
  obtain ⟨p, q, g, e1, hq, hg, ea, eb, ba, bb⟩ := red_parts (n := a) hb
  obtain ⟨r, s, k, e2, hs, hk, ec, ed, bc, bd⟩ := red_parts (n := c) hd
  have m1 : mulOk p r = true := mulOk_l (by omega)
  have m3 : mulOk q s = true := mulOk_l (by omega)
  have hqs : 0 < q * s := Int.mul_pos hq hs
  have hqs2 : q * s < 2 ^ 64 := by
    have h1 : q * s ≤ q * 2 ^ 31 := Int.mul_le_mul_of_nonneg_left (by omega) (by omega)
    omega
  rw [e1, e2]
  simp only [F_times, d_times, lim0, lim1, lim2, lim3, lim4, Dl.run, s_seq, s_nop, s_ret, s_retN, s_if, s_set, s_put, s_app, s_augI, putA, s_expr, s_tg, s_parA, s_parB, noB, t_name, t_nil, t_cons, t_tup, e_bin, e_un, e_c, e_var, e_tup, e_lst, e_if, e_and, e_or, e_not, e_chain, e_orT, b_of, b_and, b_or, b_not, asB, asI, a_nil, a_cons, e_call, e_callB, toSl, thaw, isBor, noL, noList, noListAll, dats, dat1, k_add, addD, k_sub, k_mul, mulD, k_div, k_mod, k_pow, k_lt, k_le, k_gt, k_ge, k_neg, k_ix, intI, seqA, view, lstA, rfin, setR, k_len, k_tuple, k_list, k_sum, k_max, k_min, k_abs, k_int, k_gcd, k_all, k_isN, k_notN, k_isB, k_notB, isNon, e_slice, o_no, o_so, k_cut, Option.bind_some, Option.map_some, Option.bind_none, Option.map_none, List.getElem?_cons_zero, List.getElem?_cons_succ, List.set_cons_zero, List.set_cons_succ, List.map_cons, List.map_nil, List.any_cons, List.any_nil, List.length_cons, List.length_nil, List.replicate, List.cons_append, List.nil_append, Bool.or_false, Bool.false_or, Bool.or_true, Bool.true_or, Bool.not_false, Bool.not_true, Bool.and_true, Bool.true_and, Bool.and_false, Bool.false_and, if_true, ite_true, Bool.false_eq_true, if_false, ite_false, reduceIte, Nat.zero_add, Nat.add_zero, Nat.reduceAdd, Nat.reduceSub, Nat.sub_self, atI0, atI1, m1, m3, ev_lowest hqs hqs2]
  have e : red (p * r) (q * s) = red (a * c) (b * d) := by
    refine red_of hqs (Int.mul_pos hb hd) ?_
    rw [ea, eb, ec, ed]; grind
  rw [e]
theorem ev_over {a b c d : Int} (hb : 0 < b) (hd : 0 < d) (hc : 0 < c) (b1 : a.natAbs < 2 ^ 64) (b2 : b < 2 ^ 31) (b4 : c < 2 ^ 31) : F_over [.val (red a b), .val (red c d)] u = some (.val (red (a * d) (b * c)), u) := by
  obtain ⟨p, q, g, e1, hq, hg, ea, eb, ba, bb⟩ := red_parts (n := a) hb
  obtain ⟨r, s, k, e2, hs, hk, ec, ed, bc, bd⟩ := red_parts (n := c) hd
  have hr : 0 < r := by
    rcases Int.lt_trichotomy 0 r with h1 | h1 | h1
    · exact h1
    · rw [← h1] at ec; omega
    · have := Int.mul_neg_of_neg_of_pos h1 hk; omega
  have m1 : mulOk p s = true := mulOk_l (by omega)
  have m3 : mulOk q r = true := mulOk_l (by omega)
  have hqs : 0 < q * r := Int.mul_pos hq hr
  have hqs2 : q * r < 2 ^ 64 := by
    have h1 : q * r ≤ q * 2 ^ 31 := Int.mul_le_mul_of_nonneg_left (by omega) (by omega)
    omega
  have hz : k_eq u (.val (.int r)) (.val (.int 0)) = some (.val (.bool false)) := by
    have : (r == 0) = false := by simp; omega
    simp [k_eq, view, eqD, SeqAt.shaped, PyData.canLay0, PyData.depth, PyData.eqv, this]
  rw [e1, e2]
  simp only [F_over, d_over, lim0, lim1, lim2, lim3, lim4, Dl.run, s_seq, s_nop, s_ret, s_retN, s_if, s_set, s_put, s_app, s_augI, putA, s_expr, s_tg, s_parA, s_parB, noB, t_name, t_nil, t_cons, t_tup, e_bin, e_un, e_c, e_var, e_tup, e_lst, e_if, e_and, e_or, e_not, e_chain, e_orT, b_of, b_and, b_or, b_not, asB, asI, a_nil, a_cons, e_call, e_callB, toSl, thaw, isBor, noL, noList, noListAll, dats, dat1, k_add, addD, k_sub, k_mul, mulD, k_div, k_mod, k_pow, k_lt, k_le, k_gt, k_ge, k_neg, k_ix, intI, seqA, view, lstA, rfin, setR, k_len, k_tuple, k_list, k_sum, k_max, k_min, k_abs, k_int, k_gcd, k_all, k_isN, k_notN, k_isB, k_notB, isNon, e_slice, o_no, o_so, k_cut, Option.bind_some, Option.map_some, Option.bind_none, Option.map_none, List.getElem?_cons_zero, List.getElem?_cons_succ, List.set_cons_zero, List.set_cons_succ, List.map_cons, List.map_nil, List.any_cons, List.any_nil, List.length_cons, List.length_nil, List.replicate, List.cons_append, List.nil_append, Bool.or_false, Bool.false_or, Bool.or_true, Bool.true_or, Bool.not_false, Bool.not_true, Bool.and_true, Bool.true_and, Bool.and_false, Bool.false_and, if_true, ite_true, Bool.false_eq_true, if_false, ite_false, reduceIte, Nat.zero_add, Nat.add_zero, Nat.reduceAdd, Nat.reduceSub, Nat.sub_self, atI0, atI1, hz, m1, m3, ev_lowest hqs hqs2]
  have e : red (p * s) (q * r) = red (a * d) (b * c) := by
    refine red_of hqs (Int.mul_pos hb hc) ?_
    rw [ea, eb, ec, ed]; grind
  rw [e]
theorem lt_red {a b c d p q r s g k : Int} (hb : 0 < g) (hd : 0 < k) (ea : a = p * g) (eb : b = q * g) (ec : c = r * k) (ed : d = s * k) : (p * s < r * q) ↔ (a * d < c * b) := by
  have e1 : a * d = g * k * (p * s) := by rw [ea, ed]; grind
  have e2 : c * b = g * k * (r * q) := by rw [ec, eb]; grind
  rw [e1, e2]
  exact (Int.mul_lt_mul_left (Int.mul_pos hb hd)).symm
theorem ev_is_less {a b c d : Int} (hb : 0 < b) (hd : 0 < d) (b1 : a.natAbs < 2 ^ 64) (b3 : c.natAbs < 2 ^ 64) : F_is_less [.val (red a b), .val (red c d)] u = some (.val (.bool (decide (a * d < c * b))), u) := by
  obtain ⟨p, q, g, e1, hq, hg, ea, eb, ba, bb⟩ := red_parts (n := a) hb
  obtain ⟨r, s, k, e2, hs, hk, ec, ed, bc, bd⟩ := red_parts (n := c) hd
  have m1 : mulOk p s = true := mulOk_l (by omega)
  have m2 : mulOk r q = true := mulOk_l (by omega)
  rw [e1, e2]
  simp only [F_is_less, d_is_less, lim0, lim1, lim2, lim3, lim4, Dl.run, s_seq, s_nop, s_ret, s_retN, s_if, s_set, s_put, s_app, s_augI, putA, s_expr, s_tg, s_parA, s_parB, noB, t_name, t_nil, t_cons, t_tup, e_bin, e_un, e_c, e_var, e_tup, e_lst, e_if, e_and, e_or, e_not, e_chain, e_orT, b_of, b_and, b_or, b_not, asB, asI, a_nil, a_cons, e_call, e_callB, toSl, thaw, isBor, noL, noList, noListAll, dats, dat1, k_add, addD, k_sub, k_mul, mulD, k_div, k_mod, k_pow, k_lt, k_le, k_gt, k_ge, k_neg, k_ix, intI, seqA, view, lstA, rfin, setR, k_len, k_tuple, k_list, k_sum, k_max, k_min, k_abs, k_int, k_gcd, k_all, k_isN, k_notN, k_isB, k_notB, isNon, e_slice, o_no, o_so, k_cut, Option.bind_some, Option.map_some, Option.bind_none, Option.map_none, List.getElem?_cons_zero, List.getElem?_cons_succ, List.set_cons_zero, List.set_cons_succ, List.map_cons, List.map_nil, List.any_cons, List.any_nil, List.length_cons, List.length_nil, List.replicate, List.cons_append, List.nil_append, Bool.or_false, Bool.false_or, Bool.or_true, Bool.true_or, Bool.not_false, Bool.not_true, Bool.and_true, Bool.true_and, Bool.and_false, Bool.false_and, if_true, ite_true, Bool.false_eq_true, if_false, ite_false, reduceIte, Nat.zero_add, Nat.add_zero, Nat.reduceAdd, Nat.reduceSub, Nat.sub_self, atI0, atI1, m1, m2, decide_eq_decide.mpr (lt_red hg hk ea eb ec ed)]
theorem ev_is_most {a b c d : Int} (hb : 0 < b) (hd : 0 < d) (b1 : a.natAbs < 2 ^ 64) (b3 : c.natAbs < 2 ^ 64) : F_is_most [.val (red a b), .val (red c d)] u = some (.val (.bool (decide (a * d ≤ c * b))), u) := by
  obtain ⟨p, q, g, e1, hq, hg, ea, eb, ba, bb⟩ := red_parts (n := a) hb
  obtain ⟨r, s, k, e2, hs, hk, ec, ed, bc, bd⟩ := red_parts (n := c) hd
  have m1 : mulOk p s = true := mulOk_l (by omega)
  have m2 : mulOk r q = true := mulOk_l (by omega)
  have e : (p * s ≤ r * q) ↔ (a * d ≤ c * b) := by
    have := lt_red hk hg ec ed ea eb
    omega
  rw [e1, e2]
  simp only [F_is_most, d_is_most, lim0, lim1, lim2, lim3, lim4, Dl.run, s_seq, s_nop, s_ret, s_retN, s_if, s_set, s_put, s_app, s_augI, putA, s_expr, s_tg, s_parA, s_parB, noB, t_name, t_nil, t_cons, t_tup, e_bin, e_un, e_c, e_var, e_tup, e_lst, e_if, e_and, e_or, e_not, e_chain, e_orT, b_of, b_and, b_or, b_not, asB, asI, a_nil, a_cons, e_call, e_callB, toSl, thaw, isBor, noL, noList, noListAll, dats, dat1, k_add, addD, k_sub, k_mul, mulD, k_div, k_mod, k_pow, k_lt, k_le, k_gt, k_ge, k_neg, k_ix, intI, seqA, view, lstA, rfin, setR, k_len, k_tuple, k_list, k_sum, k_max, k_min, k_abs, k_int, k_gcd, k_all, k_isN, k_notN, k_isB, k_notB, isNon, e_slice, o_no, o_so, k_cut, Option.bind_some, Option.map_some, Option.bind_none, Option.map_none, List.getElem?_cons_zero, List.getElem?_cons_succ, List.set_cons_zero, List.set_cons_succ, List.map_cons, List.map_nil, List.any_cons, List.any_nil, List.length_cons, List.length_nil, List.replicate, List.cons_append, List.nil_append, Bool.or_false, Bool.false_or, Bool.or_true, Bool.true_or, Bool.not_false, Bool.not_true, Bool.and_true, Bool.true_and, Bool.and_false, Bool.false_and, if_true, ite_true, Bool.false_eq_true, if_false, ite_false, reduceIte, Nat.zero_add, Nat.add_zero, Nat.reduceAdd, Nat.reduceSub, Nat.sub_self, atI0, atI1, m1, m2, decide_eq_decide.mpr e]
end K45
end

section
set_option Elab.async false
set_option linter.all false
set_option maxRecDepth 100000
/-! The plain law, part 2: tuples of data, posts, bare lists. -/
namespace K45
open PySem PySem.Spec PyProof.Rows L2 Dl
variable {u : Ur}

/-! ### tuple_of -/
mutual
def tupD : D → D
  | .list ds => .tuple (tupDs ds)
  | .tuple ds => .tuple (tupDs ds)
  | d => d
def tupDs : List D → List D
  | [] => []
  | d :: ds => tupD d :: tupDs ds
end
def lay : Nat → D → Bool
  | _, .none => true
  | _, .bool _ => true
  | _, .int _ => true
  | _, .str _ => true
  | k + 1, .list ds => ds.all (lay k) && decide (ds.length ≤ 100000)
  | k + 1, .tuple ds => ds.all (lay k) && decide (ds.length ≤ 100000)
  | _, _ => false
theorem lim_of {n : Nat} (h : n ≤ 100000) : lim n = true := cd_t (by omega)
theorem tupDs_len : ∀ ds : List D, (tupDs ds).length = ds.length
  | [] => rfl
  | _ :: ds => congrArg Nat.succ (tupDs_len ds)
theorem tupDs_ints : ∀ ns : List Int, tupDs (ns.map PyData.int) = ns.map PyData.int
  | [] => rfl
  | n :: ns => by show PyData.int n :: tupDs (ns.map PyData.int) = _; rw [tupDs_ints ns]; rfl
theorem lc_tup {k j : Nat} {w : Sl} (ih : ∀ d, lay k d = true → ∀ u, F_tuple_of_n j [.val d] u = some (.val (tupD d), u)) : ∀ (ds : List D) (v : Sl), ds.all (lay k) = true →
    lcD (t_name 1) b_yes (E_tuple_of_0 (F_tuple_of_n j)) ds [w, v] u = some (tupDs ds, u)
  | [], _, _ => rfl
  | d :: ds, v, h => by
    rw [List.all_cons] at h
    obtain ⟨h1, h2⟩ := Bool.and_eq_true_iff.mp h
    have e1 : E_tuple_of_0 (F_tuple_of_n j) [w, .val d] u = some (.val (tupD d), u) := by simp only [E_tuple_of_0, lim0, lim1, lim2, lim3, lim4, Dl.run, s_seq, s_nop, s_ret, s_retN, s_if, s_set, s_put, s_app, s_augI, putA, s_expr, s_tg, s_parA, s_parB, noB, t_name, t_nil, t_cons, t_tup, e_bin, e_un, e_c, e_var, e_tup, e_lst, e_if, e_and, e_or, e_not, e_chain, e_orT, b_of, b_and, b_or, b_not, asB, asI, a_nil, a_cons, e_call, e_callB, toSl, thaw, isBor, noL, noList, noListAll, dats, dat1, k_add, addD, k_sub, k_mul, mulD, k_div, k_mod, k_pow, k_lt, k_le, k_gt, k_ge, k_neg, k_ix, intI, seqA, view, lstA, rfin, setR, k_len, k_tuple, k_list, k_sum, k_max, k_min, k_abs, k_int, k_gcd, k_all, k_isN, k_notN, k_isB, k_notB, isNon, e_slice, o_no, o_so, k_cut, Option.bind_some, Option.map_some, Option.bind_none, Option.map_none, List.getElem?_cons_zero, List.getElem?_cons_succ, List.set_cons_zero, List.set_cons_succ, List.map_cons, List.map_nil, List.any_cons, List.any_nil, List.length_cons, List.length_nil, List.replicate, List.cons_append, List.nil_append, Bool.or_false, Bool.false_or, Bool.or_true, Bool.true_or, Bool.not_false, Bool.not_true, Bool.and_true, Bool.true_and, Bool.and_false, Bool.false_and, if_true, ite_true, Bool.false_eq_true, if_false, ite_false, reduceIte, Nat.zero_add, Nat.add_zero, Nat.reduceAdd, Nat.reduceSub, Nat.sub_self, ih d h1]
    simp only [lcD, lim0, lim1, lim2, lim3, lim4, Dl.run, s_seq, s_nop, s_ret, s_retN, s_if, s_set, s_put, s_app, s_augI, putA, s_expr, s_tg, s_parA, s_parB, noB, t_name, t_nil, t_cons, t_tup, e_bin, e_un, e_c, e_var, e_tup, e_lst, e_if, e_and, e_or, e_not, e_chain, e_orT, b_of, b_and, b_or, b_not, asB, asI, a_nil, a_cons, e_call, e_callB, toSl, thaw, isBor, noL, noList, noListAll, dats, dat1, k_add, addD, k_sub, k_mul, mulD, k_div, k_mod, k_pow, k_lt, k_le, k_gt, k_ge, k_neg, k_ix, intI, seqA, view, lstA, rfin, setR, k_len, k_tuple, k_list, k_sum, k_max, k_min, k_abs, k_int, k_gcd, k_all, k_isN, k_notN, k_isB, k_notB, isNon, e_slice, o_no, o_so, k_cut, Option.bind_some, Option.map_some, Option.bind_none, Option.map_none, List.getElem?_cons_zero, List.getElem?_cons_succ, List.set_cons_zero, List.set_cons_succ, List.map_cons, List.map_nil, List.any_cons, List.any_nil, List.length_cons, List.length_nil, List.replicate, List.cons_append, List.nil_append, Bool.or_false, Bool.false_or, Bool.or_true, Bool.true_or, Bool.not_false, Bool.not_true, Bool.and_true, Bool.true_and, Bool.and_false, Bool.false_and, if_true, ite_true, Bool.false_eq_true, if_false, ite_false, reduceIte, Nat.zero_add, Nat.add_zero, Nat.reduceAdd, Nat.reduceSub, Nat.sub_self, b_yes, e1, lc_tup ih ds v h2, tupDs]
theorem ev_tup : ∀ (k : Nat) (d : D), lay k d = true → ∀ u, F_tuple_of_n (k + 1) [.val d] u = some (.val (tupD d), u)
  | k, .none, _, u => by simp only [F_tuple_of_n, d_tuple_of, lim0, lim1, lim2, lim3, lim4, Dl.run, s_seq, s_nop, s_ret, s_retN, s_if, s_set, s_put, s_app, s_augI, putA, s_expr, s_tg, s_parA, s_parB, noB, t_name, t_nil, t_cons, t_tup, e_bin, e_un, e_c, e_var, e_tup, e_lst, e_if, e_and, e_or, e_not, e_chain, e_orT, b_of, b_and, b_or, b_not, asB, asI, a_nil, a_cons, e_call, e_callB, toSl, thaw, isBor, noL, noList, noListAll, dats, dat1, k_add, addD, k_sub, k_mul, mulD, k_div, k_mod, k_pow, k_lt, k_le, k_gt, k_ge, k_neg, k_ix, intI, seqA, view, lstA, rfin, setR, k_len, k_tuple, k_list, k_sum, k_max, k_min, k_abs, k_int, k_gcd, k_all, k_isN, k_notN, k_isB, k_notB, isNon, e_slice, o_no, o_so, k_cut, Option.bind_some, Option.map_some, Option.bind_none, Option.map_none, List.getElem?_cons_zero, List.getElem?_cons_succ, List.set_cons_zero, List.set_cons_succ, List.map_cons, List.map_nil, List.any_cons, List.any_nil, List.length_cons, List.length_nil, List.replicate, List.cons_append, List.nil_append, Bool.or_false, Bool.false_or, Bool.or_true, Bool.true_or, Bool.not_false, Bool.not_true, Bool.and_true, Bool.true_and, Bool.and_false, Bool.false_and, if_true, ite_true, Bool.false_eq_true, if_false, ite_false, reduceIte, Nat.zero_add, Nat.add_zero, Nat.reduceAdd, Nat.reduceSub, Nat.sub_self, e_isi, tyN, show kitL "NoneType" ["list", "tuple"] = some false by decide, tupD]
  | k, .bool b, _, u => by simp only [F_tuple_of_n, d_tuple_of, lim0, lim1, lim2, lim3, lim4, Dl.run, s_seq, s_nop, s_ret, s_retN, s_if, s_set, s_put, s_app, s_augI, putA, s_expr, s_tg, s_parA, s_parB, noB, t_name, t_nil, t_cons, t_tup, e_bin, e_un, e_c, e_var, e_tup, e_lst, e_if, e_and, e_or, e_not, e_chain, e_orT, b_of, b_and, b_or, b_not, asB, asI, a_nil, a_cons, e_call, e_callB, toSl, thaw, isBor, noL, noList, noListAll, dats, dat1, k_add, addD, k_sub, k_mul, mulD, k_div, k_mod, k_pow, k_lt, k_le, k_gt, k_ge, k_neg, k_ix, intI, seqA, view, lstA, rfin, setR, k_len, k_tuple, k_list, k_sum, k_max, k_min, k_abs, k_int, k_gcd, k_all, k_isN, k_notN, k_isB, k_notB, isNon, e_slice, o_no, o_so, k_cut, Option.bind_some, Option.map_some, Option.bind_none, Option.map_none, List.getElem?_cons_zero, List.getElem?_cons_succ, List.set_cons_zero, List.set_cons_succ, List.map_cons, List.map_nil, List.any_cons, List.any_nil, List.length_cons, List.length_nil, List.replicate, List.cons_append, List.nil_append, Bool.or_false, Bool.false_or, Bool.or_true, Bool.true_or, Bool.not_false, Bool.not_true, Bool.and_true, Bool.true_and, Bool.and_false, Bool.false_and, if_true, ite_true, Bool.false_eq_true, if_false, ite_false, reduceIte, Nat.zero_add, Nat.add_zero, Nat.reduceAdd, Nat.reduceSub, Nat.sub_self, e_isi, tyN, show kitL "bool" ["list", "tuple"] = some false by decide, tupD]
  | k, .int b, _, u => by simp only [F_tuple_of_n, d_tuple_of, lim0, lim1, lim2, lim3, lim4, Dl.run, s_seq, s_nop, s_ret, s_retN, s_if, s_set, s_put, s_app, s_augI, putA, s_expr, s_tg, s_parA, s_parB, noB, t_name, t_nil, t_cons, t_tup, e_bin, e_un, e_c, e_var, e_tup, e_lst, e_if, e_and, e_or, e_not, e_chain, e_orT, b_of, b_and, b_or, b_not, asB, asI, a_nil, a_cons, e_call, e_callB, toSl, thaw, isBor, noL, noList, noListAll, dats, dat1, k_add, addD, k_sub, k_mul, mulD, k_div, k_mod, k_pow, k_lt, k_le, k_gt, k_ge, k_neg, k_ix, intI, seqA, view, lstA, rfin, setR, k_len, k_tuple, k_list, k_sum, k_max, k_min, k_abs, k_int, k_gcd, k_all, k_isN, k_notN, k_isB, k_notB, isNon, e_slice, o_no, o_so, k_cut, Option.bind_some, Option.map_some, Option.bind_none, Option.map_none, List.getElem?_cons_zero, List.getElem?_cons_succ, List.set_cons_zero, List.set_cons_succ, List.map_cons, List.map_nil, List.any_cons, List.any_nil, List.length_cons, List.length_nil, List.replicate, List.cons_append, List.nil_append, Bool.or_false, Bool.false_or, Bool.or_true, Bool.true_or, Bool.not_false, Bool.not_true, Bool.and_true, Bool.true_and, Bool.and_false, Bool.false_and, if_true, ite_true, Bool.false_eq_true, if_false, ite_false, reduceIte, Nat.zero_add, Nat.add_zero, Nat.reduceAdd, Nat.reduceSub, Nat.sub_self, e_isi, tyN, show kitL "int" ["list", "tuple"] = some false by decide, tupD]
  | k, .str b, _, u => by simp only [F_tuple_of_n, d_tuple_of, lim0, lim1, lim2, lim3, lim4, Dl.run, s_seq, s_nop, s_ret, s_retN, s_if, s_set, s_put, s_app, s_augI, putA, s_expr, s_tg, s_parA, s_parB, noB, t_name, t_nil, t_cons, t_tup, e_bin, e_un, e_c, e_var, e_tup, e_lst, e_if, e_and, e_or, e_not, e_chain, e_orT, b_of, b_and, b_or, b_not, asB, asI, a_nil, a_cons, e_call, e_callB, toSl, thaw, isBor, noL, noList, noListAll, dats, dat1, k_add, addD, k_sub, k_mul, mulD, k_div, k_mod, k_pow, k_lt, k_le, k_gt, k_ge, k_neg, k_ix, intI, seqA, view, lstA, rfin, setR, k_len, k_tuple, k_list, k_sum, k_max, k_min, k_abs, k_int, k_gcd, k_all, k_isN, k_notN, k_isB, k_notB, isNon, e_slice, o_no, o_so, k_cut, Option.bind_some, Option.map_some, Option.bind_none, Option.map_none, List.getElem?_cons_zero, List.getElem?_cons_succ, List.set_cons_zero, List.set_cons_succ, List.map_cons, List.map_nil, List.any_cons, List.any_nil, List.length_cons, List.length_nil, List.replicate, List.cons_append, List.nil_append, Bool.or_false, Bool.false_or, Bool.or_true, Bool.true_or, Bool.not_false, Bool.not_true, Bool.and_true, Bool.true_and, Bool.and_false, Bool.false_and, if_true, ite_true, Bool.false_eq_true, if_false, ite_false, reduceIte, Nat.zero_add, Nat.add_zero, Nat.reduceAdd, Nat.reduceSub, Nat.sub_self, e_isi, tyN, show kitL "str" ["list", "tuple"] = some false by decide, tupD]
  | 0, .list ds, h, u => by cases h
  | 0, .tuple ds, h, u => by cases h
  | k, .dict ds, h, u => by cases k <;> cases h
  | k + 1, .list ds, h, u => by
    obtain ⟨h1, h2⟩ := Bool.and_eq_true_iff.mp h
    have hl : lim (tupDs ds).length = true := by rw [tupDs_len]; exact lim_of (of_decide_eq_true h2)
    rw [F_tuple_of_n]
    simp only [d_tuple_of, lim0, lim1, lim2, lim3, lim4, Dl.run, s_seq, s_nop, s_ret, s_retN, s_if, s_set, s_put, s_app, s_augI, putA, s_expr, s_tg, s_parA, s_parB, noB, t_name, t_nil, t_cons, t_tup, e_bin, e_un, e_c, e_var, e_tup, e_lst, e_if, e_and, e_or, e_not, e_chain, e_orT, b_of, b_and, b_or, b_not, asB, asI, a_nil, a_cons, e_call, e_callB, toSl, thaw, isBor, noL, noList, noListAll, dats, dat1, k_add, addD, k_sub, k_mul, mulD, k_div, k_mod, k_pow, k_lt, k_le, k_gt, k_ge, k_neg, k_ix, intI, seqA, view, lstA, rfin, setR, k_len, k_tuple, k_list, k_sum, k_max, k_min, k_abs, k_int, k_gcd, k_all, k_isN, k_notN, k_isB, k_notB, isNon, e_slice, o_no, o_so, k_cut, Option.bind_some, Option.map_some, Option.bind_none, Option.map_none, List.getElem?_cons_zero, List.getElem?_cons_succ, List.set_cons_zero, List.set_cons_succ, List.map_cons, List.map_nil, List.any_cons, List.any_nil, List.length_cons, List.length_nil, List.replicate, List.cons_append, List.nil_append, Bool.or_false, Bool.false_or, Bool.or_true, Bool.true_or, Bool.not_false, Bool.not_true, Bool.and_true, Bool.true_and, Bool.and_false, Bool.false_and, if_true, ite_true, Bool.false_eq_true, if_false, ite_false, reduceIte, Nat.zero_add, Nat.add_zero, Nat.reduceAdd, Nat.reduceSub, Nat.sub_self, e_isi, tyN, show kitL "list" ["list", "tuple"] = some true by decide, e_lc, it_seq, wipeE, lc_tup (ev_tup k) ds _ h1, hl, tupD]
  | k + 1, .tuple ds, h, u => by
    obtain ⟨h1, h2⟩ := Bool.and_eq_true_iff.mp h
    have hl : lim (tupDs ds).length = true := by rw [tupDs_len]; exact lim_of (of_decide_eq_true h2)
    rw [F_tuple_of_n]
    simp only [d_tuple_of, lim0, lim1, lim2, lim3, lim4, Dl.run, s_seq, s_nop, s_ret, s_retN, s_if, s_set, s_put, s_app, s_augI, putA, s_expr, s_tg, s_parA, s_parB, noB, t_name, t_nil, t_cons, t_tup, e_bin, e_un, e_c, e_var, e_tup, e_lst, e_if, e_and, e_or, e_not, e_chain, e_orT, b_of, b_and, b_or, b_not, asB, asI, a_nil, a_cons, e_call, e_callB, toSl, thaw, isBor, noL, noList, noListAll, dats, dat1, k_add, addD, k_sub, k_mul, mulD, k_div, k_mod, k_pow, k_lt, k_le, k_gt, k_ge, k_neg, k_ix, intI, seqA, view, lstA, rfin, setR, k_len, k_tuple, k_list, k_sum, k_max, k_min, k_abs, k_int, k_gcd, k_all, k_isN, k_notN, k_isB, k_notB, isNon, e_slice, o_no, o_so, k_cut, Option.bind_some, Option.map_some, Option.bind_none, Option.map_none, List.getElem?_cons_zero, List.getElem?_cons_succ, List.set_cons_zero, List.set_cons_succ, List.map_cons, List.map_nil, List.any_cons, List.any_nil, List.length_cons, List.length_nil, List.replicate, List.cons_append, List.nil_append, Bool.or_false, Bool.false_or, Bool.or_true, Bool.true_or, Bool.not_false, Bool.not_true, Bool.and_true, Bool.true_and, Bool.and_false, Bool.false_and, if_true, ite_true, Bool.false_eq_true, if_false, ite_false, reduceIte, Nat.zero_add, Nat.add_zero, Nat.reduceAdd, Nat.reduceSub, Nat.sub_self, e_isi, tyN, show kitL "tuple" ["list", "tuple"] = some true by decide, e_lc, it_seq, wipeE, lc_tup (ev_tup k) ds _ h1, hl, tupD]
theorem ev_tuple_of {d : D} (h : lay 5 d = true) : F_tuple_of [.val d] u = some (.val (tupD d), u) := ev_tup 5 d h u
theorem lay_ints (k : Nat) (ns : List Int) (h : ns.length ≤ 100000) : lay (k + 1) (.tuple (ns.map PyData.int)) = true ∧ lay (k + 1) (.list (ns.map PyData.int)) = true := by
  have : (ns.map PyData.int).all (lay k) = true := List.all_eq_true.mpr fun d hd => by
    obtain ⟨n, _, rfl⟩ := List.mem_map.mp hd
    cases k <;> rfl
  constructor <;> (unfold lay; rw [this]; simpa using h)
theorem lay_red (k : Nat) (n d : Int) : lay (k + 1) (red n d) = true := by
  unfold red fr
  cases k <;> simp [lay]
theorem tup_red (n d : Int) : tupD (red n d) = red n d := by
  unfold red fr
  simp [tupD, tupDs]

/-! ### posts -/
structure PostOk (P : D) (s : Nat → Int) : Prop where
  ex : ∃ (row : List D) (σ : Int), P = .tuple [.tuple row, red σ 60] ∧ (∀ n d, row[n]? = some d → d = red (s n) 60) ∧ (∀ n : Nat, row.length ≤ n → s n = 60 * n + σ) ∧ row.length ≤ 100 ∧ 0 ≤ σ ∧ σ ≤ 60
  lo : ∀ n : Nat, 60 * (n : Int) ≤ s n
  hi : ∀ n : Nat, s n ≤ 60 * n + 60
def sI (s : Nat → Int) (n : Int) : Int := if n < 0 then 0 else s n.toNat
section
variable {P : D} {s : Nat → Int}
theorem PostOk.rowTup (h : PostOk P s) : lay 5 P = true ∧ tupD P = P := by
  obtain ⟨row, σ, rfl, h1, _, hl, _⟩ := h.ex
  have hr : ∀ d ∈ row, ∃ n, d = red n 60 := fun d hd => by
    obtain ⟨i, hi, e⟩ := List.mem_iff_getElem.mp hd
    exact ⟨_, h1 i d (by rw [List.getElem?_eq_getElem hi, e])⟩
  constructor
  · have : row.all (lay 3) = true := List.all_eq_true.mpr fun d hd => by
      obtain ⟨n, rfl⟩ := hr d hd
      exact lay_red 2 n 60
    have hl' : row.length ≤ 100000 := by omega
    simp [lay, this, lay_red, hl']
  · have : ∀ l : List D, (∀ d ∈ l, ∃ n, d = red n 60) → tupDs l = l := by
      intro l
      induction l with
      | nil => intro _; rfl
      | cons d l ih =>
        intro h
        obtain ⟨n, rfl⟩ := h d List.mem_cons_self
        show tupD _ :: tupDs l = _
        rw [tup_red, ih fun d hd => h d (List.mem_cons_of_mem _ hd)]
    show PyData.tuple [.tuple (tupDs row), tupD (red σ 60)] = _
    rw [this row hr, tup_red]
theorem atI_nat {α : Type} {xs : List α} {n : Nat} : atI xs (n : Int) = xs[n]? := by
  unfold atI ixN
  rw [if_pos (by omega)]
  by_cases h : n < xs.length
  · rw [if_pos (by omega)]; simp
  · rw [if_neg (by omega)]
    show none = _
    rw [List.getElem?_eq_none (by omega)]
theorem ev_post_in (h : PostOk P s) {n : Int} (hn : n < 2 ^ 20) : F_post_in [.val P, .val (.int n)] u = some (.val (red (sI s n) 60), u) := by
  obtain ⟨row, σ, rfl, h1, h2, hl, h3, h4⟩ := h.ex
  by_cases h0 : n < 0
  · have e : sI s n = 0 := if_pos h0
    rw [e, red_zero (by decide)]
    simp only [F_post_in, d_post_in, lim0, lim1, lim2, lim3, lim4, Dl.run, s_seq, s_nop, s_ret, s_retN, s_if, s_set, s_put, s_app, s_augI, putA, s_expr, s_tg, s_parA, s_parB, noB, t_name, t_nil, t_cons, t_tup, e_bin, e_un, e_c, e_var, e_tup, e_lst, e_if, e_and, e_or, e_not, e_chain, e_orT, b_of, b_and, b_or, b_not, asB, asI, a_nil, a_cons, e_call, e_callB, toSl, thaw, isBor, noL, noList, noListAll, dats, dat1, k_add, addD, k_sub, k_mul, mulD, k_div, k_mod, k_pow, k_lt, k_le, k_gt, k_ge, k_neg, k_ix, intI, seqA, view, lstA, rfin, setR, k_len, k_tuple, k_list, k_sum, k_max, k_min, k_abs, k_int, k_gcd, k_all, k_isN, k_notN, k_isB, k_notB, isNon, e_slice, o_no, o_so, k_cut, Option.bind_some, Option.map_some, Option.bind_none, Option.map_none, List.getElem?_cons_zero, List.getElem?_cons_succ, List.set_cons_zero, List.set_cons_succ, List.map_cons, List.map_nil, List.any_cons, List.any_nil, List.length_cons, List.length_nil, List.replicate, List.cons_append, List.nil_append, Bool.or_false, Bool.false_or, Bool.or_true, Bool.true_or, Bool.not_false, Bool.not_true, Bool.and_true, Bool.true_and, Bool.and_false, Bool.false_and, if_true, ite_true, Bool.false_eq_true, if_false, ite_false, reduceIte, Nat.zero_add, Nat.add_zero, Nat.reduceAdd, Nat.reduceSub, Nat.sub_self, decide_eq_true h0]
  · have e : sI s n = s n.toNat := if_neg h0
    obtain ⟨m, rfl⟩ : ∃ m : Nat, n = m := ⟨n.toNat, by omega⟩
    rw [e, Int.toNat_natCast]
    simp only [F_post_in, d_post_in, lim0, lim1, lim2, lim3, lim4, Dl.run, s_seq, s_nop, s_ret, s_retN, s_if, s_set, s_put, s_app, s_augI, putA, s_expr, s_tg, s_parA, s_parB, noB, t_name, t_nil, t_cons, t_tup, e_bin, e_un, e_c, e_var, e_tup, e_lst, e_if, e_and, e_or, e_not, e_chain, e_orT, b_of, b_and, b_or, b_not, asB, asI, a_nil, a_cons, e_call, e_callB, toSl, thaw, isBor, noL, noList, noListAll, dats, dat1, k_add, addD, k_sub, k_mul, mulD, k_div, k_mod, k_pow, k_lt, k_le, k_gt, k_ge, k_neg, k_ix, intI, seqA, view, lstA, rfin, setR, k_len, k_tuple, k_list, k_sum, k_max, k_min, k_abs, k_int, k_gcd, k_all, k_isN, k_notN, k_isB, k_notB, isNon, e_slice, o_no, o_so, k_cut, Option.bind_some, Option.map_some, Option.bind_none, Option.map_none, List.getElem?_cons_zero, List.getElem?_cons_succ, List.set_cons_zero, List.set_cons_succ, List.map_cons, List.map_nil, List.any_cons, List.any_nil, List.length_cons, List.length_nil, List.replicate, List.cons_append, List.nil_append, Bool.or_false, Bool.false_or, Bool.or_true, Bool.true_or, Bool.not_false, Bool.not_true, Bool.and_true, Bool.true_and, Bool.and_false, Bool.false_and, if_true, ite_true, Bool.false_eq_true, if_false, ite_false, reduceIte, Nat.zero_add, Nat.add_zero, Nat.reduceAdd, Nat.reduceSub, Nat.sub_self, decide_eq_false h0, atI0, atI1]
    by_cases hm : m < row.length
    · have hm' : ((m : Int) < (row.length : Int)) := by omega
      have e1 := h1 m row[m] (List.getElem?_eq_getElem hm)
      simp only [decide_eq_true hm', lim0, lim1, lim2, lim3, lim4, Dl.run, s_seq, s_nop, s_ret, s_retN, s_if, s_set, s_put, s_app, s_augI, putA, s_expr, s_tg, s_parA, s_parB, noB, t_name, t_nil, t_cons, t_tup, e_bin, e_un, e_c, e_var, e_tup, e_lst, e_if, e_and, e_or, e_not, e_chain, e_orT, b_of, b_and, b_or, b_not, asB, asI, a_nil, a_cons, e_call, e_callB, toSl, thaw, isBor, noL, noList, noListAll, dats, dat1, k_add, addD, k_sub, k_mul, mulD, k_div, k_mod, k_pow, k_lt, k_le, k_gt, k_ge, k_neg, k_ix, intI, seqA, view, lstA, rfin, setR, k_len, k_tuple, k_list, k_sum, k_max, k_min, k_abs, k_int, k_gcd, k_all, k_isN, k_notN, k_isB, k_notB, isNon, e_slice, o_no, o_so, k_cut, Option.bind_some, Option.map_some, Option.bind_none, Option.map_none, List.getElem?_cons_zero, List.getElem?_cons_succ, List.set_cons_zero, List.set_cons_succ, List.map_cons, List.map_nil, List.any_cons, List.any_nil, List.length_cons, List.length_nil, List.replicate, List.cons_append, List.nil_append, Bool.or_false, Bool.false_or, Bool.or_true, Bool.true_or, Bool.not_false, Bool.not_true, Bool.and_true, Bool.true_and, Bool.and_false, Bool.false_and, if_true, ite_true, Bool.false_eq_true, if_false, ite_false, reduceIte, Nat.zero_add, Nat.add_zero, Nat.reduceAdd, Nat.reduceSub, Nat.sub_self, atI_nat, List.getElem?_eq_getElem hm, e1]
    · have hm' : ¬ ((m : Int) < (row.length : Int)) := by omega
      have e1 := h2 m (by omega)
      simp only [decide_eq_false hm', lim0, lim1, lim2, lim3, lim4, Dl.run, s_seq, s_nop, s_ret, s_retN, s_if, s_set, s_put, s_app, s_augI, putA, s_expr, s_tg, s_parA, s_parB, noB, t_name, t_nil, t_cons, t_tup, e_bin, e_un, e_c, e_var, e_tup, e_lst, e_if, e_and, e_or, e_not, e_chain, e_orT, b_of, b_and, b_or, b_not, asB, asI, a_nil, a_cons, e_call, e_callB, toSl, thaw, isBor, noL, noList, noListAll, dats, dat1, k_add, addD, k_sub, k_mul, mulD, k_div, k_mod, k_pow, k_lt, k_le, k_gt, k_ge, k_neg, k_ix, intI, seqA, view, lstA, rfin, setR, k_len, k_tuple, k_list, k_sum, k_max, k_min, k_abs, k_int, k_gcd, k_all, k_isN, k_notN, k_isB, k_notB, isNon, e_slice, o_no, o_so, k_cut, Option.bind_some, Option.map_some, Option.bind_none, Option.map_none, List.getElem?_cons_zero, List.getElem?_cons_succ, List.set_cons_zero, List.set_cons_succ, List.map_cons, List.map_nil, List.any_cons, List.any_nil, List.length_cons, List.length_nil, List.replicate, List.cons_append, List.nil_append, Bool.or_false, Bool.false_or, Bool.or_true, Bool.true_or, Bool.not_false, Bool.not_true, Bool.and_true, Bool.true_and, Bool.and_false, Bool.false_and, if_true, ite_true, Bool.false_eq_true, if_false, ite_false, reduceIte, Nat.zero_add, Nat.add_zero, Nat.reduceAdd, Nat.reduceSub, Nat.sub_self, ev_whole, ev_plus (a := (m : Int)) (b := 1) (c := σ) (d := 60) (by decide) (by decide) (by omega) (by decide) (by omega) (by decide)]
      rw [e1, show (m : Int) * 60 + σ * 1 = 60 * m + σ by omega, Int.one_mul]
theorem sI_lo (h : PostOk P s) (n : Int) : 0 ≤ sI s n ∧ 60 * n ≤ sI s n := by
  unfold sI
  split
  · omega
  · have := h.lo n.toNat; omega
theorem sI_hi (h : PostOk P s) {n : Int} (hn : -1 ≤ n) : sI s n ≤ 60 * n + 60 := by
  unfold sI
  split
  · omega
  · have := h.hi n.toNat; omega
theorem sI_mono (h : PostOk P s) {n m : Int} (hn : n ≤ m) : sI s n ≤ sI s m := by
  rcases Int.lt_or_eq_of_le hn with h1 | h1
  · by_cases h0 : n < 0
    · have e : sI s n = 0 := if_pos h0
      have := sI_lo h m
      omega
    · have := sI_lo h m; have := sI_hi h (n := n) (by omega); omega
  · rw [h1]; exact Int.le_refl _
theorem k_eq0 {n : Int} : k_eq u (.val (red n 60)) (.val c_ZERO) = some (.val (.bool (decide (n = 0)))) := by
  by_cases hn : n = 0
  · subst hn
    rw [red_zero (by decide)]
    simp [k_eq, view, eqD, SeqAt.shaped, PyData.canLay0, PyData.canLayAll0, PyData.depth, PyData.depthAll, PyData.eqv, PyData.eqvAll]
  · obtain ⟨p, q, g, e, hq, hg, ea, eb, _⟩ := red_parts (n := n) (d := 60) (by decide)
    have hp : (p == 0) = false := by
      simp only [beq_eq_false_iff_ne]
      rintro rfl
      omega
    rw [e]
    simp [k_eq, view, eqD, SeqAt.shaped, PyData.canLay0, PyData.canLayAll0, PyData.depth, PyData.depthAll, PyData.eqv, PyData.eqvAll, hp, hn]

/-! ### bare lists -/
def bareF (s : Nat → Int) : Nat → List Int → List Int
  | _, [] => []
  | k, x :: xs => if sI s x = 0 then k :: bareF s (k + 1) xs else bareF s (k + 1) xs
theorem bareF_len : ∀ (xs : List Int) (k : Nat), (bareF s k xs).length ≤ xs.length
  | [], _ => Nat.le_refl _
  | x :: xs, k => by
    unfold bareF
    have := bareF_len xs (k + 1)
    split <;> simp <;> omega
theorem bareF_none : ∀ (xs : List Int) (k : Nat), (∀ x ∈ xs, sI s x ≠ 0) → bareF s k xs = []
  | [], _, _ => rfl
  | x :: xs, k, h => by
    unfold bareF
    rw [if_neg (h x List.mem_cons_self)]
    exact bareF_none xs (k + 1) fun y hy => h y (List.mem_cons_of_mem _ hy)
theorem bareF_nil : ∀ (xs : List Int) (k : Nat), bareF s k xs = [] → ∀ x ∈ xs, sI s x ≠ 0
  | x :: xs, k, h, y, hy => by
    unfold bareF at h
    split at h
    · cases h
    · rcases List.mem_cons.mp hy with rfl | hy
      · assumption
      · exact bareF_nil xs (k + 1) h y hy
theorem bareF_mem : ∀ (xs : List Int) (k : Nat) (b : Int), b ∈ bareF s k xs → ∃ i : Nat, b = (k + i : Nat) ∧ ∃ x, xs[i]? = some x ∧ sI s x = 0
  | x :: xs, k, b, h => by
    unfold bareF at h
    split at h
    · rcases List.mem_cons.mp h with rfl | h
      · exact ⟨0, rfl, x, rfl, by assumption⟩
      · obtain ⟨i, h1, y, h2, h3⟩ := bareF_mem xs (k + 1) b h
        exact ⟨i + 1, by rw [h1]; congr 1; omega, y, by simpa using h2, h3⟩
    · obtain ⟨i, h1, y, h2, h3⟩ := bareF_mem xs (k + 1) b h
      exact ⟨i + 1, by rw [h1]; congr 1; omega, y, by simpa using h2, h3⟩
theorem lc_bare (h : PostOk P s) {w : Sl} : ∀ (m : List Int) (k : Nat) (v x : Sl), (∀ n ∈ m, n < 2 ^ 20) →
    lcD (t_tup (t_cons (t_name 2) (t_cons (t_name 3) t_nil))) T_bare_lists_0 (e_var 2) (enumD k (m.map PyData.int)) [.val P, w, v, x] u = some ((bareF s k m).map PyData.int, u)
  | [], _, _, _, _ => rfl
  | n :: m, k, v, x, hm => by
    have e1 := ev_post_in (u := u) h (hm n List.mem_cons_self)
    have e2 := lc_bare h (w := w) m (k + 1) v x fun y hy => hm y (List.mem_cons_of_mem _ hy)
    have e3 : T_bare_lists_0 [.val P, w, .val (.int k), .val (.int n)] u = some (decide (sI s n = 0), u) := by simp only [T_bare_lists_0, lim0, lim1, lim2, lim3, lim4, Dl.run, s_seq, s_nop, s_ret, s_retN, s_if, s_set, s_put, s_app, s_augI, putA, s_expr, s_tg, s_parA, s_parB, noB, t_name, t_nil, t_cons, t_tup, e_bin, e_un, e_c, e_var, e_tup, e_lst, e_if, e_and, e_or, e_not, e_chain, e_orT, b_of, b_and, b_or, b_not, asB, asI, a_nil, a_cons, e_call, e_callB, toSl, thaw, isBor, noL, noList, noListAll, dats, dat1, k_add, addD, k_sub, k_mul, mulD, k_div, k_mod, k_pow, k_lt, k_le, k_gt, k_ge, k_neg, k_ix, intI, seqA, view, lstA, rfin, setR, k_len, k_tuple, k_list, k_sum, k_max, k_min, k_abs, k_int, k_gcd, k_all, k_isN, k_notN, k_isB, k_notB, isNon, e_slice, o_no, o_so, k_cut, Option.bind_some, Option.map_some, Option.bind_none, Option.map_none, List.getElem?_cons_zero, List.getElem?_cons_succ, List.set_cons_zero, List.set_cons_succ, List.map_cons, List.map_nil, List.any_cons, List.any_nil, List.length_cons, List.length_nil, List.replicate, List.cons_append, List.nil_append, Bool.or_false, Bool.false_or, Bool.or_true, Bool.true_or, Bool.not_false, Bool.not_true, Bool.and_true, Bool.true_and, Bool.and_false, Bool.false_and, if_true, ite_true, Bool.false_eq_true, if_false, ite_false, reduceIte, Nat.zero_add, Nat.add_zero, Nat.reduceAdd, Nat.reduceSub, Nat.sub_self, e1, k_eq0]
    by_cases hz : sI s n = 0
    · simp only [List.map_cons, enumD, lcD, lim0, lim1, lim2, lim3, lim4, Dl.run, s_seq, s_nop, s_ret, s_retN, s_if, s_set, s_put, s_app, s_augI, putA, s_expr, s_tg, s_parA, s_parB, noB, t_name, t_nil, t_cons, t_tup, e_bin, e_un, e_c, e_var, e_tup, e_lst, e_if, e_and, e_or, e_not, e_chain, e_orT, b_of, b_and, b_or, b_not, asB, asI, a_nil, a_cons, e_call, e_callB, toSl, thaw, isBor, noL, noList, noListAll, dats, dat1, k_add, addD, k_sub, k_mul, mulD, k_div, k_mod, k_pow, k_lt, k_le, k_gt, k_ge, k_neg, k_ix, intI, seqA, view, lstA, rfin, setR, k_len, k_tuple, k_list, k_sum, k_max, k_min, k_abs, k_int, k_gcd, k_all, k_isN, k_notN, k_isB, k_notB, isNon, e_slice, o_no, o_so, k_cut, Option.bind_some, Option.map_some, Option.bind_none, Option.map_none, List.getElem?_cons_zero, List.getElem?_cons_succ, List.set_cons_zero, List.set_cons_succ, List.map_cons, List.map_nil, List.any_cons, List.any_nil, List.length_cons, List.length_nil, List.replicate, List.cons_append, List.nil_append, Bool.or_false, Bool.false_or, Bool.or_true, Bool.true_or, Bool.not_false, Bool.not_true, Bool.and_true, Bool.true_and, Bool.and_false, Bool.false_and, if_true, ite_true, Bool.false_eq_true, if_false, ite_false, reduceIte, Nat.zero_add, Nat.add_zero, Nat.reduceAdd, Nat.reduceSub, Nat.sub_self, e3, decide_eq_true hz, e2, bareF, if_pos hz]
    · simp only [List.map_cons, enumD, lcD, lim0, lim1, lim2, lim3, lim4, Dl.run, s_seq, s_nop, s_ret, s_retN, s_if, s_set, s_put, s_app, s_augI, putA, s_expr, s_tg, s_parA, s_parB, noB, t_name, t_nil, t_cons, t_tup, e_bin, e_un, e_c, e_var, e_tup, e_lst, e_if, e_and, e_or, e_not, e_chain, e_orT, b_of, b_and, b_or, b_not, asB, asI, a_nil, a_cons, e_call, e_callB, toSl, thaw, isBor, noL, noList, noListAll, dats, dat1, k_add, addD, k_sub, k_mul, mulD, k_div, k_mod, k_pow, k_lt, k_le, k_gt, k_ge, k_neg, k_ix, intI, seqA, view, lstA, rfin, setR, k_len, k_tuple, k_list, k_sum, k_max, k_min, k_abs, k_int, k_gcd, k_all, k_isN, k_notN, k_isB, k_notB, isNon, e_slice, o_no, o_so, k_cut, Option.bind_some, Option.map_some, Option.bind_none, Option.map_none, List.getElem?_cons_zero, List.getElem?_cons_succ, List.set_cons_zero, List.set_cons_succ, List.map_cons, List.map_nil, List.any_cons, List.any_nil, List.length_cons, List.length_nil, List.replicate, List.cons_append, List.nil_append, Bool.or_false, Bool.false_or, Bool.or_true, Bool.true_or, Bool.not_false, Bool.not_true, Bool.and_true, Bool.true_and, Bool.and_false, Bool.false_and, if_true, ite_true, Bool.false_eq_true, if_false, ite_false, reduceIte, Nat.zero_add, Nat.add_zero, Nat.reduceAdd, Nat.reduceSub, Nat.sub_self, e3, decide_eq_false hz, e2, bareF, if_neg hz]
theorem ev_bare_lists (h : PostOk P s) {q : D} {b : Bool} {m : List Int} (hq : seqA (.val q) = some (b, m.map PyData.int)) (hm : ∀ n ∈ m, n < 2 ^ 20) (hl : m.length ≤ 1000) :
    F_bare_lists [.val P, .val q] u = some (.own ((bareF s 0 m).map PyData.int), u) := by
  have hl2 : lim ((bareF s 0 m).map PyData.int).length = true := by
    have := bareF_len (s := s) m 0
    exact lim_of (by rw [List.length_map]; omega)
  have e := lc_bare (u := u) h (w := .val q) m 0 .un .un hm
  unfold F_bare_lists d_bare_lists Dl.run s_ret e_lc it_enum
  simp only [List.length_cons, List.length_nil, List.replicate, List.cons_append, List.nil_append, e_var, List.getElem?_cons_zero, List.getElem?_cons_succ, Option.bind_some, hq, Option.map_some, wipeE, List.set_cons_zero, List.set_cons_succ, e, hl2, if_true, rfin]
end
end K45
end

section
set_option Elab.async false
set_option linter.all false
set_option maxRecDepth 100000
/-! The plain law, part 3: seats are dealt. -/
namespace K45
open PySem PySem.Spec PyProof.Rows L2 Dl
variable {u : Ur}

theorem forD_inv {tg : TgD} {body : DS} (I : Nat → Ev → Prop) : ∀ (ds : List D) (k : Nat) (ε : Ev), I k ε →
    (∀ i d ε, ds[i]? = some d → I (k + i) ε → ∃ ε1 ε2, tg d ε = some ε1 ∧ body ε1 u = some (.nx ε2, u) ∧ I (k + i + 1) ε2) →
    ∃ ε', forD tg body ds ε u = some (.nx ε', u) ∧ I (k + ds.length) ε'
  | [], k, ε, h, _ => ⟨ε, rfl, h⟩
  | d :: ds, k, ε, h, hs => by
    obtain ⟨ε1, ε2, e1, e2, h2⟩ := hs 0 d ε rfl h
    obtain ⟨ε', e3, h3⟩ := forD_inv I ds (k + 1) ε2 h2 fun i d' ε' e q => by
      have := hs (i + 1) d' ε' (by simpa using e) (by rw [show k + (i + 1) = k + 1 + i by omega]; exact q)
      rw [show k + (i + 1) + 1 = k + 1 + i + 1 by omega] at this
      exact this
    refine ⟨ε', ?_, by rw [List.length_cons, show k + (ds.length + 1) = k + 1 + ds.length by omega]; exact h3⟩
    simp only [forD, e1, e2, Option.bind_some, e3]
theorem rgD_get {lo : Int} {n i : Nat} {d : D} (h : (rgD lo n)[i]? = some d) : i < n ∧ d = .int (lo + i) := by
  unfold rgD at h
  rw [List.getElem?_map] at h
  by_cases hi : i < n
  · rw [List.getElem?_range hi] at h
    exact ⟨hi, (Option.some.inj h).symm⟩
  · rw [List.getElem?_eq_none (by simpa using hi)] at h
    cases h
theorem rgD_len {lo : Int} {n : Nat} : (rgD lo n).length = n := by unfold rgD; simp
abbrev gd (v : List Int) (i : Nat) : Int := v.getD i 0
theorem gd_get {v : List Int} {i : Nat} (h : i < v.length) : v[i]? = some (gd v i) := by
  unfold gd
  rw [List.getD_eq_getElem?_getD, List.getElem?_eq_getElem h]; rfl
theorem gd_mem {v : List Int} {i : Nat} (h : i < v.length) : gd v i ∈ v := List.mem_of_getElem? (gd_get h)
theorem mem_gd {v : List Int} {x : Int} (h : x ∈ v) : ∃ i, i < v.length ∧ x = gd v i := by
  obtain ⟨i, hi, e⟩ := List.mem_iff_getElem.mp h
  refine ⟨i, hi, ?_⟩
  have := gd_get hi
  rw [List.getElem?_eq_getElem hi, e] at this
  exact Option.some.inj this
theorem ix_val {q : D} {b : Bool} {m : List Int} {i : Nat} (hq : seqA (.val q) = some (b, m.map PyData.int)) (h : i < m.length) : k_ix u (.val q) (.val (.int (i : Nat))) = some (.val (.int (gd m i))) := by
  unfold k_ix
  simp only [hq, Option.bind_some, atI_nat, List.getElem?_map, gd_get h, Option.map_some]
theorem cross {x vf sf vn vj sj : Int} (h1 : x * vf ≤ sf * vn) (h2 : sf * vj ≤ sj * vf) (hf : 0 < vf) (hj : 0 < vj) (hn : 0 < vn) : x * vj ≤ sj * vn := by
  have a1 : x * vf * vj ≤ sf * vn * vj := Int.mul_le_mul_of_nonneg_right h1 (Int.le_of_lt hj)
  have a2 : sf * vj * vn ≤ sj * vf * vn := Int.mul_le_mul_of_nonneg_right h2 (Int.le_of_lt hn)
  have a3 : (x * vj) * vf ≤ (sj * vn) * vf := by
    have e1 : x * vj * vf = x * vf * vj := by grind
    have e2 : sj * vn * vf = sj * vf * vn := by grind
    have e3 : sf * vn * vj = sf * vj * vn := by grind
    omega
  exact Int.le_of_mul_le_mul_right a3 hf
section
variable {P : D} {s : Nat → Int}
theorem sI_small (h : PostOk P s) {n : Int} (h1 : n ≤ 100000) : (sI s n).natAbs < 2 ^ 31 := by
  have a := sI_lo h n
  have b := sI_hi h (n := max n (-1)) (by omega)
  have c := sI_mono h (n := n) (m := max n (-1)) (by omega)
  omega
/-- votes, seats -/
structure Vs (v : List Int) : Prop where
  pos : ∀ x ∈ v, 0 < x
  sm : ∀ x ∈ v, x < 2 ^ 20
structure Ms (m : List Int) : Prop where
  lo : ∀ x ∈ m, 0 ≤ x
  hi : ∀ x ∈ m, x ≤ 1000
theorem rg1_ok {j : Int} (h : j ≤ 2 ^ 40) (h2 : -(2 ^ 40) ≤ j) : rg1K [.val (.int j)] = some (rgD 0 j.toNat) := by
  simp only [rg1K]
  rw [cd_t (by omega), if_pos rfl]
theorem rg2_ok {i j : Int} (h : j ≤ 2 ^ 40) (h2 : -(2 ^ 40) ≤ j) (h3 : i ≤ 2 ^ 40) (h4 : -(2 ^ 40) ≤ i) : rg2K [.val (.int i), .val (.int j)] = some (rgD i (j - i).toNat) := by
  simp only [rg2K]
  rw [cd_t (by omega), if_pos rfl]
theorem it1 {g : DA} {ε : Ev} {u u' : Ur} {j : Int} (e : g ε u = some ([.val (.int j)], u')) (h : j ≤ 2 ^ 40) (h2 : -(2 ^ 40) ≤ j) : it_rg1 g ε u = some (([], rgD 0 j.toNat), u') := by
  unfold it_rg1
  rw [e, Option.bind_some, rg1_ok h h2, Option.map_some]
theorem it2 {g : DA} {ε : Ev} {u u' : Ur} {i j : Int} (e : g ε u = some ([.val (.int i), .val (.int j)], u')) (h : j ≤ 2 ^ 40) (h2 : -(2 ^ 40) ≤ j) (h3 : i ≤ 2 ^ 40) (h4 : -(2 ^ 40) ≤ i) : it_rg2 g ε u = some (([], rgD i (j - i).toNat), u') := by
  unfold it_rg2
  rw [e, Option.bind_some, rg2_ok h h2 h3 h4, Option.map_some]
theorem for_ok {it : DI} {tg : TgD} {b : DS} {ε : Ev} {u u' : Ur} {rs : List Rs} {its : List D} {r : Option (Out × Ur)} (e : it ε u = some ((rs, its), u')) (h : rs.any isBor = false) (e2 : forD tg b its ε u' = r) : s_for it tg b ε u = r := by
  unfold s_for
  rw [e, Option.bind_some]
  show (if rs.any isBor = true then none else _) = _
  rw [h, if_neg (by decide)]
  exact e2
theorem len_ok {q : D} {b : Bool} {m : List Int} (hq : seqA (.val q) = some (b, m.map PyData.int)) : k_len [.val q] = some (.val (.int m.length)) := by
  simp only [k_len, hq, Option.map_some, List.length_map]
theorem mul64 {a c : Int} (h1 : a.natAbs < 2 ^ 20) (h2 : c.natAbs < 2 ^ 31) : (a * c).natAbs < 2 ^ 64 := by
  rw [Int.natAbs_mul]
  exact Nat.lt_of_lt_of_le (Nat.mul_lt_mul'' h1 h2) (by decide)
theorem sm_val {v : List Int} (V : Vs v) {i : Nat} (h : i < v.length) : 0 < gd v i ∧ (gd v i).natAbs < 2 ^ 20 := by
  have a := V.pos _ (gd_mem h)
  have b := V.sm _ (gd_mem h)
  omega
/-- votes times posts, side by side -/
theorem ev_side (h : PostOk P s) {a b n m : Int} (ha : 0 < a ∧ a.natAbs < 2 ^ 20) (hb : 0 < b ∧ b.natAbs < 2 ^ 20) (hn : n ≤ 100000) (hm : m ≤ 100000) :
    (∀ u, F_times [.val (red a 1), .val (red (sI s n) 60)] u = some (.val (red (a * sI s n) 60), u)) ∧ (∀ u, F_times [.val (red b 1), .val (red (sI s m) 60)] u = some (.val (red (b * sI s m) 60), u)) ∧
    ∀ u, F_is_less [.val (red (a * sI s n) 60), .val (red (b * sI s m) 60)] u = some (.val (.bool (decide (a * sI s n < b * sI s m))), u) := by
  refine ⟨fun u => ?_, fun u => ?_, fun u => ?_⟩
  · have := ev_times (u := u) (a := a) (b := 1) (c := sI s n) (d := 60) (by decide) (by decide) (by omega) (by decide) (by decide)
    exact this
  · have := ev_times (u := u) (a := b) (b := 1) (c := sI s m) (d := 60) (by decide) (by decide) (by omega) (by decide) (by decide)
    exact this
  · have := ev_is_less (u := u) (a := a * sI s n) (b := 60) (c := b * sI s m) (d := 60) (by decide) (by decide) (mul64 ha.2 (sI_small h hn)) (mul64 hb.2 (sI_small h hm))
    rw [this, decide_eq_decide.mpr (show a * sI s n * 60 < b * sI s m * 60 ↔ a * sI s n < b * sI s m by omega)]
theorem next_step (h : PostOk P s) {vd q : D} {b b' : Bool} {v m : List Int} (hv : seqA (.val vd) = some (b', v.map PyData.int)) (hq : seqA (.val q) = some (b, m.map PyData.int)) (hl : v.length = m.length) (V : Vs v) (M : Ms m) {f g : Nat} (hf : f < m.length) (hg : g < m.length) {y z : Sl} :
    B_next_list_0 [.val P, .val vd, .val q, .val (.int (f : Nat)), .val (.int (g : Nat)), y, z] u = some (.nx [.val P, .val vd, .val q, .val (.int ((if gd v f * sI s (gd m g) < gd v g * sI s (gd m f) then g else f : Nat) : Int)), .val (.int (g : Nat)), .val (red (sI s (gd m f)) 60), .val (red (sI s (gd m g)) 60)], u) := by
  have e1 := ev_post_in (u := u) h (n := gd m f) (by have := M.hi _ (gd_mem hf); omega)
  have e2 := ev_post_in (u := u) h (n := gd m g) (by have := M.hi _ (gd_mem hg); omega)
  obtain ⟨e3, e4, e5⟩ := ev_side h (a := gd v f) (b := gd v g) (n := gd m g) (m := gd m f) (sm_val V (by omega)) (sm_val V (by omega)) (by have := M.hi _ (gd_mem hg); omega) (by have := M.hi _ (gd_mem hf); omega)
  by_cases hlt : gd v f * sI s (gd m g) < gd v g * sI s (gd m f)
  · simp only [B_next_list_0, lim0, lim1, lim2, lim3, lim4, Dl.run, s_seq, s_nop, s_ret, s_retN, s_if, s_set, s_put, s_app, s_augI, putA, s_expr, s_tg, s_parA, s_parB, noB, t_name, t_nil, t_cons, t_tup, e_bin, e_un, e_c, e_var, e_tup, e_lst, e_if, e_and, e_or, e_not, e_chain, e_orT, b_of, b_and, b_or, b_not, asB, asI, a_nil, a_cons, e_call, e_callB, toSl, thaw, isBor, noL, noList, noListAll, dats, dat1, k_add, addD, k_sub, k_mul, mulD, k_div, k_mod, k_pow, k_lt, k_le, k_gt, k_ge, k_neg, intI, seqA, view, lstA, rfin, setR, k_len, k_tuple, k_list, k_sum, k_max, k_min, k_abs, k_int, k_gcd, k_all, k_isN, k_notN, k_isB, k_notB, isNon, e_slice, o_no, o_so, k_cut, Option.bind_some, Option.map_some, Option.bind_none, Option.map_none, List.getElem?_cons_zero, List.getElem?_cons_succ, List.set_cons_zero, List.set_cons_succ, List.map_cons, List.map_nil, List.any_cons, List.any_nil, List.length_cons, List.length_nil, List.replicate, List.cons_append, List.nil_append, Bool.or_false, Bool.false_or, Bool.or_true, Bool.true_or, Bool.not_false, Bool.not_true, Bool.and_true, Bool.true_and, Bool.and_false, Bool.false_and, if_true, ite_true, Bool.false_eq_true, if_false, ite_false, reduceIte, Nat.zero_add, Nat.add_zero, Nat.reduceAdd, Nat.reduceSub, Nat.sub_self, ix_val hq hf, ix_val hq hg, ix_val hv (show f < v.length by omega), ix_val hv (show g < v.length by omega), e1, e2, ev_whole, e3, e4, e5, decide_eq_true hlt, if_pos hlt]
  · simp only [B_next_list_0, lim0, lim1, lim2, lim3, lim4, Dl.run, s_seq, s_nop, s_ret, s_retN, s_if, s_set, s_put, s_app, s_augI, putA, s_expr, s_tg, s_parA, s_parB, noB, t_name, t_nil, t_cons, t_tup, e_bin, e_un, e_c, e_var, e_tup, e_lst, e_if, e_and, e_or, e_not, e_chain, e_orT, b_of, b_and, b_or, b_not, asB, asI, a_nil, a_cons, e_call, e_callB, toSl, thaw, isBor, noL, noList, noListAll, dats, dat1, k_add, addD, k_sub, k_mul, mulD, k_div, k_mod, k_pow, k_lt, k_le, k_gt, k_ge, k_neg, intI, seqA, view, lstA, rfin, setR, k_len, k_tuple, k_list, k_sum, k_max, k_min, k_abs, k_int, k_gcd, k_all, k_isN, k_notN, k_isB, k_notB, isNon, e_slice, o_no, o_so, k_cut, Option.bind_some, Option.map_some, Option.bind_none, Option.map_none, List.getElem?_cons_zero, List.getElem?_cons_succ, List.set_cons_zero, List.set_cons_succ, List.map_cons, List.map_nil, List.any_cons, List.any_nil, List.length_cons, List.length_nil, List.replicate, List.cons_append, List.nil_append, Bool.or_false, Bool.false_or, Bool.or_true, Bool.true_or, Bool.not_false, Bool.not_true, Bool.and_true, Bool.true_and, Bool.and_false, Bool.false_and, if_true, ite_true, Bool.false_eq_true, if_false, ite_false, reduceIte, Nat.zero_add, Nat.add_zero, Nat.reduceAdd, Nat.reduceSub, Nat.sub_self, ix_val hq hf, ix_val hq hg, ix_val hv (show f < v.length by omega), ix_val hv (show g < v.length by omega), e1, e2, ev_whole, e3, e4, e5, decide_eq_false hlt, if_neg hlt]
theorem ev_next_list (h : PostOk P s) {vd q : D} {b b' : Bool} {v m : List Int} (hv : seqA (.val vd) = some (b', v.map PyData.int)) (hq : seqA (.val q) = some (b, m.map PyData.int)) (hl : v.length = m.length) (h0 : 0 < v.length) (hl2 : v.length ≤ 1000) (V : Vs v) (M : Ms m) :
    ∃ f : Nat, F_next_list [.val P, .val vd, .val q] u = some (.val (.int (f : Nat)), u) ∧ f < m.length ∧ ∀ j, j < m.length → sI s (gd m f) * gd v j ≤ sI s (gd m j) * gd v f := by
  obtain ⟨ε', e1, f, x, y, z, rfl, hf, hx⟩ := forD_inv (u := u) (tg := t_name 4) (body := B_next_list_0)
    (fun i ε => ∃ (f : Nat) (x y z : Sl), ε = [.val P, .val vd, .val q, .val (.int (f : Nat)), x, y, z] ∧ f < m.length ∧ ∀ j, j < i + 1 → j < m.length → sI s (gd m f) * gd v j ≤ sI s (gd m j) * gd v f)
    (rgD 1 (v.length - 1)) 0 [.val P, .val vd, .val q, .val (.int 0), .un, .un, .un]
    ⟨0, .un, .un, .un, rfl, by omega, fun j hj _ => by
      have : j = 0 := by omega
      subst this; exact Int.le_refl _⟩
    (fun i d ε hd hI => by
      obtain ⟨hi, rfl⟩ := rgD_get hd
      obtain ⟨f, x, y, z, rfl, hf, hx⟩ := hI
      have hn : 1 + i < m.length := by omega
      have en : (1 : Int) + (i : Nat) = ((1 + i : Nat) : Int) := by omega
      rw [en]
      refine ⟨_, _, rfl, next_step h hv hq hl V M hf hn, _, _, _, _, rfl, ?_, fun j hj hjm => ?_⟩
      · split <;> assumption
      · have e6 : sI s (gd m (1 + i)) * gd v f = gd v f * sI s (gd m (1 + i)) := Int.mul_comm _ _
        have e7 : sI s (gd m f) * gd v (1 + i) = gd v (1 + i) * sI s (gd m f) := Int.mul_comm _ _
        by_cases hlt : gd v f * sI s (gd m (1 + i)) < gd v (1 + i) * sI s (gd m f)
        · rw [if_pos hlt]
          by_cases hj2 : j < i + 1
          · exact cross (vf := gd v f) (sf := sI s (gd m f)) (by omega) (hx j (by omega) hjm) (sm_val V (by omega)).1 (sm_val V (by omega)).1 (sm_val V (by omega)).1
          · have : j = 1 + i := by omega
            subst this
            exact Int.le_refl _
        · rw [if_neg hlt]
          by_cases hj2 : j < i + 1
          · exact hx j (by omega) hjm
          · have : j = 1 + i := by omega
            subst this
            omega)
  refine ⟨f, ?_, hf, fun j hj => hx j (by rw [rgD_len]; omega) hj⟩
  have e9 : (a_cons (e_c (.int 1)) (a_cons (e_callB k_len (a_cons (e_var 1) a_nil)) a_nil)) [.val P, .val vd, .val q, .val (.int 0), .un, .un, .un] u = some ([.val (.int 1), .val (.int v.length)], u) := by
    simp only [lim0, lim1, lim2, lim3, lim4, Dl.run, s_seq, s_nop, s_ret, s_retN, s_if, s_set, s_put, s_app, s_augI, putA, s_expr, s_tg, s_parA, s_parB, noB, t_name, t_nil, t_cons, t_tup, e_bin, e_un, e_c, e_var, e_tup, e_lst, e_if, e_and, e_or, e_not, e_chain, e_orT, b_of, b_and, b_or, b_not, asB, asI, a_nil, a_cons, e_call, e_callB, toSl, thaw, isBor, noL, noList, noListAll, dats, dat1, k_add, addD, k_sub, k_mul, mulD, k_div, k_mod, k_pow, k_lt, k_le, k_gt, k_ge, k_neg, k_ix, intI, seqA, view, lstA, rfin, setR, k_tuple, k_list, k_sum, k_max, k_min, k_abs, k_int, k_gcd, k_all, k_isN, k_notN, k_isB, k_notB, isNon, e_slice, o_no, o_so, k_cut, Option.bind_some, Option.map_some, Option.bind_none, Option.map_none, List.getElem?_cons_zero, List.getElem?_cons_succ, List.set_cons_zero, List.set_cons_succ, List.map_cons, List.map_nil, List.any_cons, List.any_nil, List.length_cons, List.length_nil, List.replicate, List.cons_append, List.nil_append, Bool.or_false, Bool.false_or, Bool.or_true, Bool.true_or, Bool.not_false, Bool.not_true, Bool.and_true, Bool.true_and, Bool.and_false, Bool.false_and, if_true, ite_true, Bool.false_eq_true, if_false, ite_false, reduceIte, Nat.zero_add, Nat.add_zero, Nat.reduceAdd, Nat.reduceSub, Nat.sub_self, len_ok hv]
  rw [← show ((v.length : Int) - 1).toNat = v.length - 1 by omega] at e1
  have e3 := for_ok (it2 e9 (by omega) (by omega) (by decide) (by decide)) rfl e1
  simp only [F_next_list, d_next_list, lim0, lim1, lim2, lim3, lim4, Dl.run, s_seq, s_nop, s_ret, s_retN, s_if, s_set, s_put, s_app, s_augI, putA, s_expr, s_tg, s_parA, s_parB, noB, t_name, t_nil, t_cons, t_tup, e_bin, e_un, e_c, e_var, e_tup, e_lst, e_if, e_and, e_or, e_not, e_chain, e_orT, b_of, b_and, b_or, b_not, asB, asI, a_nil, a_cons, e_call, e_callB, toSl, thaw, isBor, noL, noList, noListAll, dats, dat1, k_add, addD, k_sub, k_mul, mulD, k_div, k_mod, k_pow, k_lt, k_le, k_gt, k_ge, k_neg, k_ix, intI, seqA, view, lstA, rfin, setR, k_tuple, k_list, k_sum, k_max, k_min, k_abs, k_int, k_gcd, k_all, k_isN, k_notN, k_isB, k_notB, isNon, e_slice, o_no, o_so, k_cut, Option.bind_some, Option.map_some, Option.bind_none, Option.map_none, List.getElem?_cons_zero, List.getElem?_cons_succ, List.set_cons_zero, List.set_cons_succ, List.map_cons, List.map_nil, List.any_cons, List.any_nil, List.length_cons, List.length_nil, List.replicate, List.cons_append, List.nil_append, Bool.or_false, Bool.false_or, Bool.or_true, Bool.true_or, Bool.not_false, Bool.not_true, Bool.and_true, Bool.true_and, Bool.and_false, Bool.false_and, if_true, ite_true, Bool.false_eq_true, if_false, ite_false, reduceIte, Nat.zero_add, Nat.add_zero, Nat.reduceAdd, Nat.reduceSub, Nat.sub_self, e3]
end
end K45
end

section
set_option Elab.async false
set_option linter.all false
set_option maxRecDepth 100000
/-! The plain law, part 4: the deal. -/
namespace K45
open PySem PySem.Spec PyProof.Rows L2 Dl
variable {u : Ur}

/-! ### equality of data -/
theorem lay_all_ints : ∀ ns : List Int, PyData.canLayAll0 (ns.map PyData.int) = true ∧ PyData.depthAll (ns.map PyData.int) = 0
  | [] => ⟨rfl, rfl⟩
  | n :: ns => by
    obtain ⟨h1, h2⟩ := lay_all_ints ns
    simp [PyData.canLayAll0, PyData.canLay0, PyData.depthAll, PyData.depth, h1, h2]
theorem sh_ints (ns : List Int) : SeqAt.shaped (.list (ns.map PyData.int)) = true ∧ SeqAt.shaped (.tuple (ns.map PyData.int)) = true := by
  obtain ⟨h1, h2⟩ := lay_all_ints ns
  simp [SeqAt.shaped, PyData.canLay0, PyData.depth, h1, h2]
theorem eqv_ints : ∀ ns ms : List Int, PyData.eqvAll (ns.map PyData.int) (ms.map PyData.int) = decide (ns = ms)
  | [], [] => rfl
  | [], _ :: _ => rfl
  | _ :: _, [] => rfl
  | n :: ns, m :: ms => by
    show (PyData.eqv (.int n) (.int m) && PyData.eqvAll (ns.map PyData.int) (ms.map PyData.int)) = _
    rw [eqv_ints ns ms]
    by_cases h : n = m
    · subst h; simp [PyData.eqv]
    · simp [PyData.eqv, h]
theorem ne_nil {i : Nat} (ns : List Int) : k_ne u (.bor i (ns.map PyData.int)) (.own []) = some (.val (.bool (decide (ns ≠ [])))) := by
  have h := eqv_ints ns []
  have h2 := (sh_ints ns).1
  have h3 := (sh_ints []).1
  simp only [List.map_nil] at h h3
  simp only [k_ne, view, Option.bind_some, eqD, h2, h3, Bool.and_self, if_true, Option.map_some, PyData.eqv, h]
  by_cases hn : ns = [] <;> simp [hn]
section
variable {P : D} {s : Nat → Int}
theorem ix_bor {i : Nat} {m : List Int} {j : Nat} (h : j < m.length) : k_ix u (.bor i (m.map PyData.int)) (.val (.int (j : Nat))) = some (.val (.int (gd m j))) := by
  unfold k_ix
  simp only [seqA, Option.bind_some, atI_nat, List.getElem?_map, gd_get h, Option.map_some]
theorem ev_next_in (h : PostOk P s) {vd q : D} {b b' : Bool} {v m : List Int} (hv : seqA (.val vd) = some (b', v.map PyData.int)) (hq : seqA (.val q) = some (b, m.map PyData.int)) (hl : v.length = m.length) (h0 : 0 < v.length) (hl2 : v.length ≤ 1000) (V : Vs v) (M : Ms m) :
    ∃ f : Nat, F_next_in [.val P, .val vd, .val q] u = some (.val (.int (f : Nat)), u) ∧ f < m.length ∧ (∀ j, j < m.length → sI s (gd m f) * gd v j ≤ sI s (gd m j) * gd v f) ∧ ((∃ j, j < m.length ∧ sI s (gd m j) = 0) → sI s (gd m f) = 0) := by
  have e1 := ev_bare_lists (u := u) h hq (fun n hn => by have := M.hi n hn; omega) (by omega)
  by_cases hb : bareF s 0 m = []
  · obtain ⟨f, e2, hf, hx⟩ := ev_next_list (u := u) h hv hq hl h0 hl2 V M
    refine ⟨f, ?_, hf, hx, fun ⟨j, hj, hz⟩ => absurd hz (bareF_nil m 0 hb _ (gd_mem hj))⟩
    rw [hb] at e1
    have e3 := ne_nil (u := u) (i := 3) []
    simp only [List.map_nil] at e1 e3
    simp only [F_next_in, d_next_in, lim0, lim1, lim2, lim3, lim4, Dl.run, s_seq, s_nop, s_ret, s_retN, s_if, s_set, s_put, s_app, s_augI, putA, s_expr, s_tg, s_parA, s_parB, noB, t_name, t_nil, t_cons, t_tup, e_bin, e_un, e_c, e_var, e_tup, e_lst, e_if, e_and, e_or, e_not, e_chain, e_orT, b_of, b_and, b_or, b_not, asB, asI, a_nil, a_cons, e_call, e_callB, toSl, thaw, isBor, noL, noList, noListAll, dats, dat1, k_add, addD, k_sub, k_mul, mulD, k_div, k_mod, k_pow, k_lt, k_le, k_gt, k_ge, k_neg, k_ix, intI, seqA, view, lstA, rfin, setR, k_len, k_tuple, k_list, k_sum, k_max, k_min, k_abs, k_int, k_gcd, k_all, k_isN, k_notN, k_isB, k_notB, isNon, e_slice, o_no, o_so, k_cut, Option.bind_some, Option.map_some, Option.bind_none, Option.map_none, List.getElem?_cons_zero, List.getElem?_cons_succ, List.set_cons_zero, List.set_cons_succ, List.map_cons, List.map_nil, List.any_cons, List.any_nil, List.length_cons, List.length_nil, List.replicate, List.cons_append, List.nil_append, Bool.or_false, Bool.false_or, Bool.or_true, Bool.true_or, Bool.not_false, Bool.not_true, Bool.and_true, Bool.true_and, Bool.and_false, Bool.false_and, if_true, ite_true, Bool.false_eq_true, if_false, ite_false, reduceIte, Nat.zero_add, Nat.add_zero, Nat.reduceAdd, Nat.reduceSub, Nat.sub_self, e1, e3, e2, show decide (([] : List Int) ≠ []) = false by decide]
  · obtain ⟨x, l, hx⟩ := List.exists_cons_of_ne_nil hb
    obtain ⟨i, hi, y, hy, hz⟩ := bareF_mem m 0 x (by rw [hx]; exact List.mem_cons_self)
    have hi2 : x = (i : Nat) := by rw [hi]; congr 1; omega
    have him : i < m.length := (List.getElem?_eq_some_iff.mp hy).1
    have hg : gd m i = y := by rw [gd_get him] at hy; exact Option.some.inj hy
    refine ⟨i, ?_, him, fun j hj => ?_, fun _ => by rw [hg]; exact hz⟩
    · have e3 := ne_nil (u := u) (i := 3) (bareF s 0 m)
      have e4 := ix_bor (u := u) (i := 3) (m := bareF s 0 m) (j := 0) (by rw [hx]; simp)
      have e5 : gd (bareF s 0 m) 0 = (i : Nat) := by rw [hx, ← hi2]; rfl
      have e6 : k_ix u (.bor 3 ((bareF s 0 m).map PyData.int)) (.val (.int 0)) = some (.val (.int (i : Nat))) := by rw [← e5]; exact e4
      simp only [F_next_in, d_next_in, lim0, lim1, lim2, lim3, lim4, Dl.run, s_seq, s_nop, s_ret, s_retN, s_if, s_set, s_put, s_app, s_augI, putA, s_expr, s_tg, s_parA, s_parB, noB, t_name, t_nil, t_cons, t_tup, e_bin, e_un, e_c, e_var, e_tup, e_lst, e_if, e_and, e_or, e_not, e_chain, e_orT, b_of, b_and, b_or, b_not, asB, asI, a_nil, a_cons, e_call, e_callB, toSl, thaw, isBor, noL, noList, noListAll, dats, dat1, k_add, addD, k_sub, k_mul, mulD, k_div, k_mod, k_pow, k_lt, k_le, k_gt, k_ge, k_neg, intI, seqA, view, lstA, rfin, setR, k_len, k_tuple, k_list, k_sum, k_max, k_min, k_abs, k_int, k_gcd, k_all, k_isN, k_notN, k_isB, k_notB, isNon, e_slice, o_no, o_so, k_cut, Option.bind_some, Option.map_some, Option.bind_none, Option.map_none, List.getElem?_cons_zero, List.getElem?_cons_succ, List.set_cons_zero, List.set_cons_succ, List.map_cons, List.map_nil, List.any_cons, List.any_nil, List.length_cons, List.length_nil, List.replicate, List.cons_append, List.nil_append, Bool.or_false, Bool.false_or, Bool.or_true, Bool.true_or, Bool.not_false, Bool.not_true, Bool.and_true, Bool.true_and, Bool.and_false, Bool.false_and, if_true, ite_true, Bool.false_eq_true, if_false, ite_false, reduceIte, Nat.zero_add, Nat.add_zero, Nat.reduceAdd, Nat.reduceSub, Nat.sub_self, e1, e3, e6, decide_eq_true hb]
    · rw [hg, hz, Int.zero_mul]
      exact Int.mul_nonneg (sI_lo h _).1 (Int.le_of_lt (sm_val V (by omega)).1)

/-! ### the deal -/
structure Deal (s : Nat → Int) (v m : List Int) (k : Nat) : Prop where
  len : m.length = v.length
  lo : ∀ x ∈ m, 0 ≤ x
  sum : m.sum = k
  ok : ∀ a b, a < v.length → b < v.length → sI s (gd m a - 1) * gd v b ≤ sI s (gd m b) * gd v a
  bare : (∃ j, j < v.length ∧ sI s (gd m j) = 0) → ∀ j, j < v.length → gd m j ≤ 1
theorem gd_set {m : List Int} {f j : Nat} {x : Int} (hf : f < m.length) : gd (m.set f x) j = if j = f then x else gd m j := by
  unfold gd
  rw [List.getD_eq_getElem?_getD, List.getD_eq_getElem?_getD]
  by_cases h : j = f
  · subst h; rw [List.getElem?_set_self hf, if_pos rfl]; rfl
  · rw [List.getElem?_set_ne (Ne.symm h), if_neg h]
theorem sum_set : ∀ {m : List Int} {f : Nat}, f < m.length → (m.set f (gd m f + 1)).sum = m.sum + 1
  | x :: m, 0, _ => by
    show ((x + 1) :: m).sum = (x :: m).sum + 1
    simp only [List.sum_cons]; omega
  | x :: m, f + 1, h => by
    have ih := sum_set (m := m) (f := f) (by simpa using h)
    have e : gd (x :: m) (f + 1) = gd m f := rfl
    rw [e, List.set_cons_succ, List.sum_cons, List.sum_cons, ih]; omega
theorem sum_nonneg : ∀ {m : List Int}, (∀ x ∈ m, 0 ≤ x) → 0 ≤ m.sum
  | [], _ => by simp
  | x :: m, h => by
    have := sum_nonneg (m := m) fun y hy => h y (List.mem_cons_of_mem _ hy)
    have := h x List.mem_cons_self
    simp only [List.sum_cons]; omega
theorem le_sum : ∀ {m : List Int}, (∀ x ∈ m, 0 ≤ x) → ∀ x ∈ m, x ≤ m.sum
  | x :: m, h, y, hy => by
    have h1 := sum_nonneg (m := m) fun y hy => h y (List.mem_cons_of_mem _ hy)
    have h2 := h x List.mem_cons_self
    rcases List.mem_cons.mp hy with rfl | hy
    · simp only [List.sum_cons]; omega
    · have := le_sum (m := m) (fun y hy => h y (List.mem_cons_of_mem _ hy)) y hy
      simp only [List.sum_cons]; omega
theorem Deal.ms {v m : List Int} {k : Nat} (d : Deal s v m k) (hk : k ≤ 1000) : Ms m := ⟨d.lo, fun x hx => by have := le_sum d.lo x hx; have := d.sum; omega⟩
theorem Deal.next {v m : List Int} {k f : Nat} (h : PostOk P s) (V : Vs v) (d : Deal s v m k) (hf : f < m.length) (hx : ∀ j, j < m.length → sI s (gd m f) * gd v j ≤ sI s (gd m j) * gd v f)
    (hb : (∃ j, j < m.length ∧ sI s (gd m j) = 0) → sI s (gd m f) = 0) : Deal s v (m.set f (gd m f + 1)) (k + 1) := by
  have hl := d.len
  have up : ∀ j, gd m j ≤ gd (m.set f (gd m f + 1)) j := fun j => by
    rw [gd_set hf]
    split
    · rename_i e; rw [e]; omega
    · omega
  refine ⟨by rw [List.length_set, hl], fun x hx => ?_, by rw [sum_set hf, d.sum]; omega, fun a b ha hb' => ?_, fun ⟨j, hj, hz⟩ => ?_⟩
  · obtain ⟨i, hi, rfl⟩ := mem_gd hx
    rw [List.length_set] at hi
    have := d.lo _ (gd_mem hi)
    have := up i
    omega
  · have h1 : sI s (gd m b) * gd v a ≤ sI s (gd (m.set f (gd m f + 1)) b) * gd v a := Int.mul_le_mul_of_nonneg_right (sI_mono h (up b)) (Int.le_of_lt (sm_val V ha).1)
    refine Int.le_trans ?_ h1
    rw [gd_set (j := a) hf]
    split
    · rename_i e
      rw [e, show gd m f + 1 - 1 = gd m f by omega]
      exact hx b (by omega)
    · exact d.ok a b ha hb'
  · have hz2 : sI s (gd m j) = 0 := by
      have := sI_mono h (up j)
      have := (sI_lo h (gd m j)).1
      omega
    have h1 := d.bare ⟨j, hj, hz2⟩
    have h2 := hb ⟨j, by omega, hz2⟩
    intro i hi
    rw [gd_set hf]
    split
    · have := (sI_lo h (gd m f)).2
      omega
    · exact h1 i hi
theorem rep_ok (n : Nat) : (List.replicate n [PyData.int 0]).flatten = (List.replicate n (0 : Int)).map PyData.int := by
  induction n with
  | zero => rfl
  | succ n ih => rw [List.replicate_succ, List.flatten_cons, ih, List.replicate_succ]; rfl
theorem mul_rep {n : Nat} (h : n ≤ 1000) : k_mul u (.own [.int 0]) (.val (.int (n : Nat))) = some (.own ((List.replicate n (0 : Int)).map PyData.int)) := by
  have h1 : cd (0 ≤ ((n : Nat) : Int) ∧ ((n : Nat) : Int) < 2 ^ 62) = true := cd_t (by omega)
  have h2 : lim (1 * n) = true := lim_of (by omega)
  simp only [k_mul, lstA, Option.bind_some, List.length_cons, List.length_nil, Nat.zero_add, Int.toNat_natCast, h1, h2, Bool.and_self, if_true, rep_ok]
theorem gd_rep {n j : Nat} : gd (List.replicate n (0 : Int)) j = 0 := by
  unfold gd
  rw [List.getD_eq_getElem?_getD, List.getElem?_replicate]
  split <;> rfl
theorem deal0 (h : PostOk P s) {v : List Int} (V : Vs v) : Deal s v (List.replicate v.length 0) 0 := by
  refine ⟨by simp, fun x hx => by rw [List.eq_of_mem_replicate hx]; omega, ?_, fun a b ha hb => ?_, fun _ j hj => ?_⟩
  · induction v.length with
    | zero => rfl
    | succ n ih => rw [List.replicate_succ, List.sum_cons, ih]; rfl
  · rw [gd_rep, gd_rep, show sI s (0 - 1) = 0 from rfl, Int.zero_mul]
    exact Int.mul_nonneg (sI_lo h _).1 (Int.le_of_lt (sm_val V ha).1)
  · rw [gd_rep]; omega
theorem put_own {i f : Nat} {m : List Int} {x : Int} {ε : Ev} (he : ε[i]? = some (.own (m.map PyData.int))) (hf : f < m.length) : putA i (f : Nat) (.int x) ε u = some (.nx (ε.set i (.own ((m.set f x).map PyData.int))), u) := by
  have h1 : ixN (m.map PyData.int).length ((f : Nat) : Int) = some f := by
    unfold ixN
    rw [if_pos (by omega), if_pos (by rw [List.length_map]; omega), Int.toNat_natCast]
  simp only [putA, he, h1, Option.map_some, List.map_set]
theorem deal_step (h : PostOk P s) {vd : D} {b' : Bool} {v m : List Int} (hv : seqA (.val vd) = some (b', v.map PyData.int)) (h0 : 0 < v.length) (hl2 : v.length ≤ 1000) (V : Vs v) {k : Nat} (d : Deal s v m k) (hk : k ≤ 1000) {w z : Sl} :
    ∃ m', B_dealt_in_0 [.val P, .val vd, w, .own (m.map PyData.int), z] u = some (.nx [.val P, .val vd, w, .own (m'.map PyData.int), z], u) ∧ Deal s v m' (k + 1) := by
  obtain ⟨f, e1, hf, hx, hb⟩ := ev_next_in (u := u) h hv (q := .list (m.map PyData.int)) (b := false) (m := m) rfl d.len.symm h0 hl2 V (d.ms hk)
  refine ⟨m.set f (gd m f + 1), ?_, d.next h V hf hx hb⟩
  have e2 := put_own (u := u) (i := 3) (x := gd m f + 1) (ε := [.val P, .val vd, w, .own (m.map PyData.int), z]) rfl hf
  simp only [B_dealt_in_0, lim0, lim1, lim2, lim3, lim4, Dl.run, s_seq, s_nop, s_ret, s_retN, s_if, s_set, s_put, s_app, s_augI, s_expr, s_tg, s_parA, s_parB, noB, t_name, t_nil, t_cons, t_tup, e_bin, e_un, e_c, e_var, e_tup, e_lst, e_if, e_and, e_or, e_not, e_chain, e_orT, b_of, b_and, b_or, b_not, asB, asI, a_nil, a_cons, e_call, e_callB, toSl, thaw, isBor, noL, noList, noListAll, dats, dat1, k_add, addD, k_sub, k_mul, mulD, k_div, k_mod, k_pow, k_lt, k_le, k_gt, k_ge, k_neg, intI, seqA, view, lstA, rfin, setR, k_len, k_tuple, k_list, k_sum, k_max, k_min, k_abs, k_int, k_gcd, k_all, k_isN, k_notN, k_isB, k_notB, isNon, e_slice, o_no, o_so, k_cut, Option.bind_some, Option.map_some, Option.bind_none, Option.map_none, List.getElem?_cons_zero, List.getElem?_cons_succ, List.set_cons_zero, List.set_cons_succ, List.map_cons, List.map_nil, List.any_cons, List.any_nil, List.length_cons, List.length_nil, List.replicate, List.cons_append, List.nil_append, Bool.or_false, Bool.false_or, Bool.or_true, Bool.true_or, Bool.not_false, Bool.not_true, Bool.and_true, Bool.true_and, Bool.and_false, Bool.false_and, if_true, ite_true, Bool.false_eq_true, if_false, ite_false, reduceIte, Nat.zero_add, Nat.add_zero, Nat.reduceAdd, Nat.reduceSub, Nat.sub_self, e1, ix_bor hf, e2]
theorem ev_dealt_in (h : PostOk P s) {vd : D} {b' : Bool} {v : List Int} (hv : seqA (.val vd) = some (b', v.map PyData.int)) (h0 : 0 < v.length) (hl2 : v.length ≤ 1000) (V : Vs v) {k : Nat} (hk : k ≤ 1000) :
    ∃ m, F_dealt_in [.val P, .val vd, .val (.int (k : Nat))] u = some (.val (.tuple (m.map PyData.int)), u) ∧ Deal s v m k := by
  obtain ⟨ε', e1, m, z, rfl, d⟩ := forD_inv (u := u) (tg := t_name 4) (body := B_dealt_in_0)
    (fun i ε => ∃ (m : List Int) (z : Sl), ε = [.val P, .val vd, .val (.int (k : Nat)), .own (m.map PyData.int), z] ∧ Deal s v m i)
    (rgD 0 k) 0 [.val P, .val vd, .val (.int (k : Nat)), .own ((List.replicate v.length (0 : Int)).map PyData.int), .un]
    ⟨_, _, rfl, deal0 h V⟩
    (fun i d ε hd hI => by
      obtain ⟨hi, rfl⟩ := rgD_get hd
      obtain ⟨m, z, rfl, dl⟩ := hI
      obtain ⟨m', e, d'⟩ := deal_step (u := u) h hv h0 hl2 V dl (by omega) (w := .val (.int (k : Nat))) (z := .val (.int (0 + i)))
      exact ⟨_, _, rfl, e, m', _, rfl, d'⟩)
  refine ⟨m, ?_, by rw [rgD_len, Nat.zero_add] at d; exact d⟩
  have e9 : (a_cons (e_var 2) a_nil) [.val P, .val vd, .val (.int (k : Nat)), .own ((List.replicate v.length (0 : Int)).map PyData.int), .un] u = some ([.val (.int (k : Nat))], u) := by
    simp only [lim0, lim1, lim2, lim3, lim4, Dl.run, s_seq, s_nop, s_ret, s_retN, s_if, s_set, s_put, s_app, s_augI, putA, s_expr, s_tg, s_parA, s_parB, noB, t_name, t_nil, t_cons, t_tup, e_bin, e_un, e_c, e_var, e_tup, e_lst, e_if, e_and, e_or, e_not, e_chain, e_orT, b_of, b_and, b_or, b_not, asB, asI, a_nil, a_cons, e_call, e_callB, toSl, thaw, isBor, noL, noList, noListAll, dats, dat1, k_add, addD, k_sub, k_mul, mulD, k_div, k_mod, k_pow, k_lt, k_le, k_gt, k_ge, k_neg, k_ix, intI, seqA, view, lstA, rfin, setR, k_len, k_tuple, k_list, k_sum, k_max, k_min, k_abs, k_int, k_gcd, k_all, k_isN, k_notN, k_isB, k_notB, isNon, e_slice, o_no, o_so, k_cut, Option.bind_some, Option.map_some, Option.bind_none, Option.map_none, List.getElem?_cons_zero, List.getElem?_cons_succ, List.set_cons_zero, List.set_cons_succ, List.map_cons, List.map_nil, List.any_cons, List.any_nil, List.length_cons, List.length_nil, List.replicate, List.cons_append, List.nil_append, Bool.or_false, Bool.false_or, Bool.or_true, Bool.true_or, Bool.not_false, Bool.not_true, Bool.and_true, Bool.true_and, Bool.and_false, Bool.false_and, if_true, ite_true, Bool.false_eq_true, if_false, ite_false, reduceIte, Nat.zero_add, Nat.add_zero, Nat.reduceAdd, Nat.reduceSub, Nat.sub_self]
  rw [← show ((k : Nat) : Int).toNat = k from Int.toNat_natCast k] at e1
  have e3 := for_ok (it1 e9 (by omega) (by omega)) rfl e1
  have e4 := mul_rep (u := u) (n := v.length) hl2
  simp only [Int.toNat_natCast] at e3
  simp only [F_dealt_in, d_dealt_in, lim0, lim1, lim2, lim3, lim4, Dl.run, s_seq, s_nop, s_ret, s_retN, s_if, s_set, s_put, s_app, s_augI, putA, s_expr, s_tg, s_parA, s_parB, noB, t_name, t_nil, t_cons, t_tup, e_bin, e_un, e_c, e_var, e_tup, e_lst, e_if, e_and, e_or, e_not, e_chain, e_orT, b_of, b_and, b_or, b_not, asB, asI, a_nil, a_cons, e_call, e_callB, toSl, thaw, isBor, noL, noList, noListAll, dats, dat1, k_add, addD, k_sub, mulD, k_div, k_mod, k_pow, k_lt, k_le, k_gt, k_ge, k_neg, k_ix, intI, seqA, view, lstA, rfin, setR, k_tuple, k_list, k_sum, k_max, k_min, k_abs, k_int, k_gcd, k_all, k_isN, k_notN, k_isB, k_notB, isNon, e_slice, o_no, o_so, k_cut, Option.bind_some, Option.map_some, Option.bind_none, Option.map_none, List.getElem?_cons_zero, List.getElem?_cons_succ, List.set_cons_zero, List.set_cons_succ, List.map_cons, List.map_nil, List.any_cons, List.any_nil, List.length_cons, List.length_nil, List.replicate, List.cons_append, List.nil_append, Bool.or_false, Bool.false_or, Bool.or_true, Bool.true_or, Bool.not_false, Bool.not_true, Bool.and_true, Bool.true_and, Bool.and_false, Bool.false_and, if_true, ite_true, Bool.false_eq_true, if_false, ite_false, reduceIte, Nat.zero_add, Nat.add_zero, Nat.reduceAdd, Nat.reduceSub, Nat.sub_self, len_ok hv, e4, e3]
end
end K45
end

section
set_option Elab.async false
set_option linter.all false
set_option maxRecDepth 100000
/-! The plain law, part 5: faults, dividers. -/
namespace K45
open PySem PySem.Spec PyProof.Rows L2 Dl
variable {u : Ur}

theorem ne_int {i j : Int} : k_ne u (.val (.int i)) (.val (.int j)) = some (.val (.bool (!decide (i = j)))) := by
  simp only [k_ne, view, Option.bind_some, eqD, SeqAt.shaped, PyData.canLay0, PyData.depth, PyData.eqv]
  by_cases h : i = j <;> simp [h]
section
variable {P : D} {s : Nat → Int}
theorem ev_is_wronged (h : PostOk P s) {vd q : D} {b b' : Bool} {v m : List Int} (hv : seqA (.val vd) = some (b', v.map PyData.int)) (hq : seqA (.val q) = some (b, m.map PyData.int)) (hl : v.length = m.length) (V : Vs v) (M : Ms m) {i j : Nat} (hi : i < m.length) (hj : j < m.length) :
    F_is_wronged [.val P, .val vd, .val q, .val (.int (i : Nat)), .val (.int (j : Nat))] u = some (.val (.bool (decide (gd v j * sI s (gd m i) < gd v i * sI s (gd m j - 1)))), u) := by
  have e1 := ev_post_in (u := u) h (n := gd m j - 1) (by have := M.hi _ (gd_mem hj); omega)
  have e2 := ev_post_in (u := u) h (n := gd m i) (by have := M.hi _ (gd_mem hi); omega)
  obtain ⟨e3, e4, e5⟩ := ev_side h (a := gd v j) (b := gd v i) (n := gd m i) (m := gd m j - 1) (sm_val V (by omega)) (sm_val V (by omega)) (by have := M.hi _ (gd_mem hi); omega) (by have := M.hi _ (gd_mem hj); omega)
  simp only [F_is_wronged, d_is_wronged, lim0, lim1, lim2, lim3, lim4, Dl.run, s_seq, s_nop, s_ret, s_retN, s_if, s_set, s_put, s_app, s_augI, putA, s_expr, s_tg, s_parA, s_parB, noB, t_name, t_nil, t_cons, t_tup, e_bin, e_un, e_c, e_var, e_tup, e_lst, e_if, e_and, e_or, e_not, e_chain, e_orT, b_of, b_and, b_or, b_not, asB, asI, a_nil, a_cons, e_call, e_callB, toSl, thaw, isBor, noL, noList, noListAll, dats, dat1, k_add, addD, k_sub, k_mul, mulD, k_div, k_mod, k_pow, k_lt, k_le, k_gt, k_ge, k_neg, intI, seqA, view, lstA, rfin, setR, k_len, k_tuple, k_list, k_sum, k_max, k_min, k_abs, k_int, k_gcd, k_all, k_isN, k_notN, k_isB, k_notB, isNon, e_slice, o_no, o_so, k_cut, Option.bind_some, Option.map_some, Option.bind_none, Option.map_none, List.getElem?_cons_zero, List.getElem?_cons_succ, List.set_cons_zero, List.set_cons_succ, List.map_cons, List.map_nil, List.any_cons, List.any_nil, List.length_cons, List.length_nil, List.replicate, List.cons_append, List.nil_append, Bool.or_false, Bool.false_or, Bool.or_true, Bool.true_or, Bool.not_false, Bool.not_true, Bool.and_true, Bool.true_and, Bool.and_false, Bool.false_and, if_true, ite_true, Bool.false_eq_true, if_false, ite_false, reduceIte, Nat.zero_add, Nat.add_zero, Nat.reduceAdd, Nat.reduceSub, Nat.sub_self, ix_val hq hi, ix_val hq hj, ix_val hv (show i < v.length by omega), ix_val hv (show j < v.length by omega), e1, e2, ev_whole, e3, e4, e5]
/-- no list is bare, none wronged -/
structure Fair (s : Nat → Int) (v m : List Int) : Prop where
  len : m.length = v.length
  ok : ∀ a b, a < v.length → b < v.length → sI s (gd m a - 1) * gd v b ≤ sI s (gd m b) * gd v a
  nb : ∀ x ∈ m, sI s x ≠ 0
theorem ev_faults_in (h : PostOk P s) {vd q : D} {b b' : Bool} {v m : List Int} (hv : seqA (.val vd) = some (b', v.map PyData.int)) (hq : seqA (.val q) = some (b, m.map PyData.int)) (V : Vs v) (M : Ms m) (hl2 : v.length ≤ 1000) (f : Fair s v m) :
    F_faults_in [.val P, .val vd, .val q] u = some (.own [], u) := by
  have hl := f.len
  have e1 := ev_bare_lists (u := u) h hq (fun n hn => by have := M.hi n hn; omega) (by omega)
  rw [bareF_none m 0 f.nb, List.map_nil] at e1
  have step : ∀ (i j : Nat) (w : Sl), i < v.length → j < v.length → B_faults_in_1 [.val P, .val vd, .val q, .own [], .val (.int (i : Nat)), .val (.int (j : Nat)), w] u = some (.nx [.val P, .val vd, .val q, .own [], .val (.int (i : Nat)), .val (.int (j : Nat)), w], u) := fun i j w hi hj => by
    have e2 := ev_is_wronged (u := u) h hv hq hl.symm V M (i := i) (j := j) (by omega) (by omega)
    have e3 : ¬ (gd v j * sI s (gd m i) < gd v i * sI s (gd m j - 1)) := by
      have := f.ok j i hj hi
      have e6 : gd v j * sI s (gd m i) = sI s (gd m i) * gd v j := Int.mul_comm _ _
      have e7 : gd v i * sI s (gd m j - 1) = sI s (gd m j - 1) * gd v i := Int.mul_comm _ _
      omega
    rw [decide_eq_false e3] at e2
    by_cases hij : (i : Int) = (j : Int)
    · simp only [B_faults_in_1, lim0, lim1, lim2, lim3, lim4, Dl.run, s_seq, s_nop, s_ret, s_retN, s_if, s_set, s_put, s_app, s_augI, putA, s_expr, s_tg, s_parA, s_parB, noB, t_name, t_nil, t_cons, t_tup, e_bin, e_un, e_c, e_var, e_tup, e_lst, e_if, e_and, e_or, e_not, e_chain, e_orT, b_of, b_and, b_or, b_not, asB, asI, a_nil, a_cons, e_call, e_callB, toSl, thaw, isBor, noL, noList, noListAll, dats, dat1, k_add, addD, k_sub, k_mul, mulD, k_div, k_mod, k_pow, k_lt, k_le, k_gt, k_ge, k_neg, k_ix, intI, seqA, view, lstA, rfin, setR, k_len, k_tuple, k_list, k_sum, k_max, k_min, k_abs, k_int, k_gcd, k_all, k_isN, k_notN, k_isB, k_notB, isNon, e_slice, o_no, o_so, k_cut, Option.bind_some, Option.map_some, Option.bind_none, Option.map_none, List.getElem?_cons_zero, List.getElem?_cons_succ, List.set_cons_zero, List.set_cons_succ, List.map_cons, List.map_nil, List.any_cons, List.any_nil, List.length_cons, List.length_nil, List.replicate, List.cons_append, List.nil_append, Bool.or_false, Bool.false_or, Bool.or_true, Bool.true_or, Bool.not_false, Bool.not_true, Bool.and_true, Bool.true_and, Bool.and_false, Bool.false_and, if_true, ite_true, Bool.false_eq_true, if_false, ite_false, reduceIte, Nat.zero_add, Nat.add_zero, Nat.reduceAdd, Nat.reduceSub, Nat.sub_self, ne_int, decide_eq_true hij]
    · simp only [B_faults_in_1, lim0, lim1, lim2, lim3, lim4, Dl.run, s_seq, s_nop, s_ret, s_retN, s_if, s_set, s_put, s_app, s_augI, putA, s_expr, s_tg, s_parA, s_parB, noB, t_name, t_nil, t_cons, t_tup, e_bin, e_un, e_c, e_var, e_tup, e_lst, e_if, e_and, e_or, e_not, e_chain, e_orT, b_of, b_and, b_or, b_not, asB, asI, a_nil, a_cons, e_call, e_callB, toSl, thaw, isBor, noL, noList, noListAll, dats, dat1, k_add, addD, k_sub, k_mul, mulD, k_div, k_mod, k_pow, k_lt, k_le, k_gt, k_ge, k_neg, k_ix, intI, seqA, view, lstA, rfin, setR, k_len, k_tuple, k_list, k_sum, k_max, k_min, k_abs, k_int, k_gcd, k_all, k_isN, k_notN, k_isB, k_notB, isNon, e_slice, o_no, o_so, k_cut, Option.bind_some, Option.map_some, Option.bind_none, Option.map_none, List.getElem?_cons_zero, List.getElem?_cons_succ, List.set_cons_zero, List.set_cons_succ, List.map_cons, List.map_nil, List.any_cons, List.any_nil, List.length_cons, List.length_nil, List.replicate, List.cons_append, List.nil_append, Bool.or_false, Bool.false_or, Bool.or_true, Bool.true_or, Bool.not_false, Bool.not_true, Bool.and_true, Bool.true_and, Bool.and_false, Bool.false_and, if_true, ite_true, Bool.false_eq_true, if_false, ite_false, reduceIte, Nat.zero_add, Nat.add_zero, Nat.reduceAdd, Nat.reduceSub, Nat.sub_self, ne_int, decide_eq_false hij, e2]
  have hrow : ∀ (ε : Ev), ε[1]? = some (.val vd) → (a_cons (e_callB k_len (a_cons (e_var 1) a_nil)) a_nil) ε u = some ([.val (.int v.length)], u) := fun ε he => by
    simp only [lim0, lim1, lim2, lim3, lim4, Dl.run, s_seq, s_nop, s_ret, s_retN, s_if, s_set, s_put, s_app, s_augI, putA, s_expr, s_tg, s_parA, s_parB, noB, t_name, t_nil, t_cons, t_tup, e_bin, e_un, e_c, e_var, e_tup, e_lst, e_if, e_and, e_or, e_not, e_chain, e_orT, b_of, b_and, b_or, b_not, asB, asI, a_nil, a_cons, e_call, e_callB, toSl, thaw, isBor, noL, noList, noListAll, dats, dat1, k_add, addD, k_sub, k_mul, mulD, k_div, k_mod, k_pow, k_lt, k_le, k_gt, k_ge, k_neg, k_ix, intI, seqA, view, lstA, rfin, setR, k_tuple, k_list, k_sum, k_max, k_min, k_abs, k_int, k_gcd, k_all, k_isN, k_notN, k_isB, k_notB, isNon, e_slice, o_no, o_so, k_cut, Option.bind_some, Option.map_some, Option.bind_none, Option.map_none, List.getElem?_cons_zero, List.getElem?_cons_succ, List.set_cons_zero, List.set_cons_succ, List.map_cons, List.map_nil, List.any_cons, List.any_nil, List.length_cons, List.length_nil, List.replicate, List.cons_append, List.nil_append, Bool.or_false, Bool.false_or, Bool.or_true, Bool.true_or, Bool.not_false, Bool.not_true, Bool.and_true, Bool.true_and, Bool.and_false, Bool.false_and, if_true, ite_true, Bool.false_eq_true, if_false, ite_false, reduceIte, Nat.zero_add, Nat.add_zero, Nat.reduceAdd, Nat.reduceSub, Nat.sub_self, he, len_ok hv]
  have inner : ∀ (i : Nat) (x w : Sl), i < v.length → ∃ y, B_faults_in_2 [.val P, .val vd, .val q, .own [], .val (.int (i : Nat)), x, w] u = some (.nx [.val P, .val vd, .val q, .own [], .val (.int (i : Nat)), y, w], u) := fun i x w hi => by
    obtain ⟨ε', e4, y, rfl⟩ := forD_inv (u := u) (tg := t_name 5) (body := B_faults_in_1)
      (fun _ ε => ∃ y, ε = [.val P, .val vd, .val q, .own [], .val (.int (i : Nat)), y, w]) (rgD 0 ((v.length : Nat) : Int).toNat) 0 [.val P, .val vd, .val q, .own [], .val (.int (i : Nat)), x, w] ⟨x, rfl⟩
      (fun j d ε hd hI => by
        obtain ⟨hj, rfl⟩ := rgD_get hd
        obtain ⟨y, rfl⟩ := hI
        have := step i j w hi (by omega)
        rw [show (0 : Int) + (j : Nat) = (j : Nat) by omega]
        exact ⟨_, _, rfl, this, _, rfl⟩)
    exact ⟨y, for_ok (it1 (hrow _ rfl) (by omega) (by omega)) rfl e4⟩
  obtain ⟨ε', e4, x, y, rfl⟩ := forD_inv (u := u) (tg := t_name 4) (body := B_faults_in_2)
    (fun _ ε => ∃ x y, ε = [.val P, .val vd, .val q, .own [], x, y, .un]) (rgD 0 ((v.length : Nat) : Int).toNat) 0 [.val P, .val vd, .val q, .own [], .un, .un, .un] ⟨.un, .un, rfl⟩
    (fun j d ε hd hI => by
      obtain ⟨hj, rfl⟩ := rgD_get hd
      obtain ⟨x, y, rfl⟩ := hI
      obtain ⟨z, e5⟩ := inner j y .un (by omega)
      rw [show (0 : Int) + (j : Nat) = (j : Nat) by omega]
      exact ⟨_, _, rfl, e5, _, _, rfl⟩)
  have e5 := for_ok (it1 (hrow [.val P, .val vd, .val q, .own [], .un, .un, .un] rfl) (by omega) (by omega)) rfl e4
  simp only [F_faults_in, d_faults_in, lim0, lim1, lim2, lim3, lim4, Dl.run, s_seq, s_nop, s_ret, s_retN, s_if, s_set, s_put, s_app, s_augI, putA, s_expr, s_tg, s_parA, s_parB, noB, t_name, t_nil, t_cons, t_tup, e_bin, e_un, e_c, e_var, e_tup, e_lst, e_if, e_and, e_or, e_not, e_chain, e_orT, b_of, b_and, b_or, b_not, asB, asI, a_nil, a_cons, e_call, e_callB, toSl, thaw, isBor, noL, noList, noListAll, dats, dat1, k_add, addD, k_sub, k_mul, mulD, k_div, k_mod, k_pow, k_lt, k_le, k_gt, k_ge, k_neg, k_ix, intI, seqA, view, lstA, rfin, setR, k_tuple, k_list, k_sum, k_max, k_min, k_abs, k_int, k_gcd, k_all, k_isN, k_notN, k_isB, k_notB, isNon, e_slice, o_no, o_so, k_cut, Option.bind_some, Option.map_some, Option.bind_none, Option.map_none, List.getElem?_cons_zero, List.getElem?_cons_succ, List.set_cons_zero, List.set_cons_succ, List.map_cons, List.map_nil, List.any_cons, List.any_nil, List.length_cons, List.length_nil, List.replicate, List.cons_append, List.nil_append, Bool.or_false, Bool.false_or, Bool.or_true, Bool.true_or, Bool.not_false, Bool.not_true, Bool.and_true, Bool.true_and, Bool.and_false, Bool.false_and, if_true, ite_true, Bool.false_eq_true, if_false, ite_false, reduceIte, Nat.zero_add, Nat.add_zero, Nat.reduceAdd, Nat.reduceSub, Nat.sub_self, e_lc, it_seq, e1, wipeE, lcD, e5]

/-! ### the greatest, the least -/
def rd (x : Int × Int) : D := red x.1 x.2
structure Rds (L : List (Int × Int)) : Prop where
  pos : ∀ x ∈ L, 0 < x.2
  sm : ∀ x ∈ L, x.1.natAbs < 2 ^ 64
  len : L.length ≤ 1000
theorem lay_rds : ∀ L : List (Int × Int), PyData.canLayAll0 (L.map rd) = true ∧ PyData.depthAll (L.map rd) ≤ 1
  | [] => ⟨rfl, by simp [PyData.depthAll]⟩
  | x :: L => by
    obtain ⟨h1, h2⟩ := lay_rds L
    simp only [List.map_cons, rd, red, fr, PyData.canLayAll0, PyData.canLay0, PyData.depthAll, PyData.depth, Bool.and_self, Bool.true_and]
    exact ⟨h1, by omega⟩
theorem sh_rds (L : List (Int × Int)) : SeqAt.shaped (.list (L.map rd)) = true ∧ SeqAt.shaped (.tuple (L.map rd)) = true := by
  obtain ⟨h1, h2⟩ := lay_rds L
  have h3 : decide (PyData.depthAll (L.map rd) + 1 ≤ 64) = true := decide_eq_true (by omega)
  constructor <;> (simp only [SeqAt.shaped, PyData.canLay0, PyData.depth, h1, Bool.true_and]; exact decide_eq_true (by omega))
theorem tup_rds : ∀ L : List (Int × Int), tupDs (L.map rd) = L.map rd
  | [] => rfl
  | x :: L => by
    show tupD (red x.1 x.2) :: tupDs (L.map rd) = _
    rw [tup_red, tup_rds L]; rfl
theorem lay5_rds {L : List (Int × Int)} (h : Rds L) : lay 5 (.list (L.map rd)) = true := by
  have : (L.map rd).all (lay 4) = true := List.all_eq_true.mpr fun d hd => by
    obtain ⟨x, _, rfl⟩ := List.mem_map.mp hd
    exact lay_red 3 _ _
  have h2 := h.len
  have h3 : (L.map rd).length ≤ 100000 := by rw [List.length_map]; omega
  simp [lay, this] <;> omega
theorem eq_emp {x : Int × Int} {L : List (Int × Int)} : k_eq u (.val (.tuple ((x :: L).map rd))) (.val (.tuple [])) = some (.val (.bool false)) := by
  have h1 := (sh_rds (x :: L)).2
  have h2 : SeqAt.shaped (.tuple []) = true := (sh_rds []).2
  rw [List.map_cons] at h1
  simp only [k_eq, view, Option.bind_some, eqD, h1, h2, Bool.and_self, if_true, Option.map_some, List.map_cons, PyData.eqv, PyData.eqvAll]
theorem rds_at {L : List (Int × Int)} {i : Nat} {d : D} (h : (L.map rd)[i]? = some d) : ∃ x, L[i]? = some x ∧ d = rd x := by
  rw [List.getElem?_map] at h
  obtain ⟨x, h1, h2⟩ := Option.map_eq_some_iff.mp h
  exact ⟨x, h1, h2.symm⟩
theorem ev_greatest_of {L : List (Int × Int)} (h : Rds L) (hn : L ≠ []) : ∃ x ∈ L, F_greatest_of [.val (.list (L.map rd))] u = some (.val (rd x), u) ∧ ∀ y ∈ L, y.1 * x.2 ≤ x.1 * y.2 := by
  obtain ⟨x0, L0, rfl⟩ := List.exists_cons_of_ne_nil hn
  have e0 := ev_tuple_of (u := u) (lay5_rds h)
  rw [show tupD (.list ((x0 :: L0).map rd)) = .tuple ((x0 :: L0).map rd) by rw [tupD, tup_rds]] at e0
  obtain ⟨ε', e1, x, z, rfl, hx, hm⟩ := forD_inv (u := u) (tg := t_name 3) (body := B_greatest_of_0)
    (fun i ε => ∃ x z, ε = [.val (.list ((x0 :: L0).map rd)), .val (.tuple ((x0 :: L0).map rd)), .val (rd x), z] ∧ x ∈ x0 :: L0 ∧ ∀ j y, j < i → (x0 :: L0)[j]? = some y → y.1 * x.2 ≤ x.1 * y.2)
    ((x0 :: L0).map rd) 0 [.val (.list ((x0 :: L0).map rd)), .val (.tuple ((x0 :: L0).map rd)), .val (rd x0), .un]
    ⟨x0, .un, rfl, List.mem_cons_self, fun j y hj => by omega⟩
    (fun i d ε hd hI => by
      obtain ⟨y, hy, rfl⟩ := rds_at hd
      obtain ⟨x, z, rfl, hx, hm⟩ := hI
      have hyL := List.mem_of_getElem? hy
      have e2 := ev_is_less (u := u) (a := x.1) (b := x.2) (c := y.1) (d := y.2) (h.pos x hx) (h.pos y hyL) (h.sm x hx) (h.sm y hyL)
      have e3 : B_greatest_of_0 [.val (.list ((x0 :: L0).map rd)), .val (.tuple ((x0 :: L0).map rd)), .val (rd x), .val (rd y)] u = some (.nx [.val (.list ((x0 :: L0).map rd)), .val (.tuple ((x0 :: L0).map rd)), .val (rd (if x.1 * y.2 < y.1 * x.2 then y else x)), .val (rd y)], u) := by
        by_cases hlt : x.1 * y.2 < y.1 * x.2
        · rw [decide_eq_true hlt] at e2
          rw [if_pos hlt]
          simp only [B_greatest_of_0, lim0, lim1, lim2, lim3, lim4, Dl.run, s_seq, s_nop, s_ret, s_retN, s_if, s_set, s_put, s_app, s_augI, putA, s_expr, s_tg, s_parA, s_parB, noB, t_name, t_nil, t_cons, t_tup, e_bin, e_un, e_c, e_var, e_tup, e_lst, e_if, e_and, e_or, e_not, e_chain, e_orT, b_of, b_and, b_or, b_not, asB, asI, a_nil, a_cons, e_call, e_callB, toSl, thaw, isBor, noL, noList, noListAll, dats, dat1, k_add, addD, k_sub, k_mul, mulD, k_div, k_mod, k_pow, k_lt, k_le, k_gt, k_ge, k_neg, k_ix, intI, seqA, view, lstA, rfin, setR, k_len, k_tuple, k_list, k_sum, k_max, k_min, k_abs, k_int, k_gcd, k_all, k_isN, k_notN, k_isB, k_notB, isNon, e_slice, o_no, o_so, k_cut, Option.bind_some, Option.map_some, Option.bind_none, Option.map_none, List.getElem?_cons_zero, List.getElem?_cons_succ, List.set_cons_zero, List.set_cons_succ, List.map_cons, List.map_nil, List.any_cons, List.any_nil, List.length_cons, List.length_nil, List.replicate, List.cons_append, List.nil_append, Bool.or_false, Bool.false_or, Bool.or_true, Bool.true_or, Bool.not_false, Bool.not_true, Bool.and_true, Bool.true_and, Bool.and_false, Bool.false_and, if_true, ite_true, Bool.false_eq_true, if_false, ite_false, reduceIte, Nat.zero_add, Nat.add_zero, Nat.reduceAdd, Nat.reduceSub, Nat.sub_self, rd, e2]
        · rw [decide_eq_false hlt] at e2
          rw [if_neg hlt]
          simp only [B_greatest_of_0, lim0, lim1, lim2, lim3, lim4, Dl.run, s_seq, s_nop, s_ret, s_retN, s_if, s_set, s_put, s_app, s_augI, putA, s_expr, s_tg, s_parA, s_parB, noB, t_name, t_nil, t_cons, t_tup, e_bin, e_un, e_c, e_var, e_tup, e_lst, e_if, e_and, e_or, e_not, e_chain, e_orT, b_of, b_and, b_or, b_not, asB, asI, a_nil, a_cons, e_call, e_callB, toSl, thaw, isBor, noL, noList, noListAll, dats, dat1, k_add, addD, k_sub, k_mul, mulD, k_div, k_mod, k_pow, k_lt, k_le, k_gt, k_ge, k_neg, k_ix, intI, seqA, view, lstA, rfin, setR, k_len, k_tuple, k_list, k_sum, k_max, k_min, k_abs, k_int, k_gcd, k_all, k_isN, k_notN, k_isB, k_notB, isNon, e_slice, o_no, o_so, k_cut, Option.bind_some, Option.map_some, Option.bind_none, Option.map_none, List.getElem?_cons_zero, List.getElem?_cons_succ, List.set_cons_zero, List.set_cons_succ, List.map_cons, List.map_nil, List.any_cons, List.any_nil, List.length_cons, List.length_nil, List.replicate, List.cons_append, List.nil_append, Bool.or_false, Bool.false_or, Bool.or_true, Bool.true_or, Bool.not_false, Bool.not_true, Bool.and_true, Bool.true_and, Bool.and_false, Bool.false_and, if_true, ite_true, Bool.false_eq_true, if_false, ite_false, reduceIte, Nat.zero_add, Nat.add_zero, Nat.reduceAdd, Nat.reduceSub, Nat.sub_self, rd, e2]
      refine ⟨_, _, rfl, e3, _, _, rfl, by split <;> assumption, fun j w hj hw => ?_⟩
      have hwL := List.mem_of_getElem? hw
      by_cases hlt : x.1 * y.2 < y.1 * x.2
      · rw [if_pos hlt]
        by_cases hj2 : j < 0 + i
        · have h1 := hm j w hj2 hw
          -- w/.. <= x/.. < y/..
          have := cross (x := w.1) (vf := x.2) (sf := x.1) (vn := w.2) (vj := y.2) (sj := y.1) h1 (Int.le_of_lt hlt) (h.pos x hx) (h.pos y hyL) (h.pos w hwL)
          exact this
        · have : j = i := by omega
          subst this
          rw [hy] at hw
          cases hw
          exact Int.le_refl _
      · rw [if_neg hlt]
        by_cases hj2 : j < 0 + i
        · exact hm j w hj2 hw
        · have : j = i := by omega
          subst this
          rw [hy] at hw
          cases hw
          omega)
  refine ⟨x, hx, ?_, fun y hy => ?_⟩
  · have e3 : s_for (it_seq (e_var 1)) (t_name 3) B_greatest_of_0 [.val (.list ((x0 :: L0).map rd)), .val (.tuple ((x0 :: L0).map rd)), .val (rd x0), .un] u = _ :=
      for_ok (rs := [.val (.tuple ((x0 :: L0).map rd))]) (its := (x0 :: L0).map rd) (u' := u) (by simp only [it_seq, lim0, lim1, lim2, lim3, lim4, Dl.run, s_seq, s_nop, s_ret, s_retN, s_if, s_set, s_put, s_app, s_augI, putA, s_expr, s_tg, s_parA, s_parB, noB, t_name, t_nil, t_cons, t_tup, e_bin, e_un, e_c, e_var, e_tup, e_lst, e_if, e_and, e_or, e_not, e_chain, e_orT, b_of, b_and, b_or, b_not, asB, asI, a_nil, a_cons, e_call, e_callB, toSl, thaw, isBor, noL, noList, noListAll, dats, dat1, k_add, addD, k_sub, k_mul, mulD, k_div, k_mod, k_pow, k_lt, k_le, k_gt, k_ge, k_neg, k_ix, intI, seqA, view, lstA, rfin, setR, k_len, k_tuple, k_list, k_sum, k_max, k_min, k_abs, k_int, k_gcd, k_all, k_isN, k_notN, k_isB, k_notB, isNon, e_slice, o_no, o_so, k_cut, Option.bind_some, Option.map_some, Option.bind_none, Option.map_none, List.getElem?_cons_zero, List.getElem?_cons_succ, List.set_cons_zero, List.set_cons_succ, List.map_cons, List.map_nil, List.any_cons, List.any_nil, List.length_cons, List.length_nil, List.replicate, List.cons_append, List.nil_append, Bool.or_false, Bool.false_or, Bool.or_true, Bool.true_or, Bool.not_false, Bool.not_true, Bool.and_true, Bool.true_and, Bool.and_false, Bool.false_and, if_true, ite_true, Bool.false_eq_true, if_false, ite_false, reduceIte, Nat.zero_add, Nat.add_zero, Nat.reduceAdd, Nat.reduceSub, Nat.sub_self]) rfl e1
    have e4 : k_ix u (.val (.tuple ((x0 :: L0).map rd))) (.val (.int 0)) = some (.val (rd x0)) := by
      simp only [k_ix, seqA, Option.bind_some, List.map_cons, atI0, Option.map_some]
    have e5 := eq_emp (u := u) (x := x0) (L := L0)
    generalize (x0 :: L0).map rd = ds at e0 e3 e4 e5 ⊢
    simp only [F_greatest_of, d_greatest_of, ghost, lim0, lim1, lim2, lim3, lim4, Dl.run, s_seq, s_nop, s_ret, s_retN, s_if, s_set, s_put, s_app, s_augI, putA, s_expr, s_tg, s_parA, s_parB, noB, t_name, t_nil, t_cons, t_tup, e_bin, e_un, e_c, e_var, e_tup, e_lst, e_if, e_and, e_or, e_not, e_chain, e_orT, b_of, b_and, b_or, b_not, asB, asI, a_nil, a_cons, e_call, e_callB, toSl, thaw, isBor, noL, noList, noListAll, dats, dat1, k_add, addD, k_sub, k_mul, mulD, k_div, k_mod, k_pow, k_lt, k_le, k_gt, k_ge, k_neg, intI, seqA, view, lstA, rfin, setR, k_len, k_tuple, k_list, k_sum, k_max, k_min, k_abs, k_int, k_gcd, k_all, k_isN, k_notN, k_isB, k_notB, isNon, e_slice, o_no, o_so, k_cut, Option.bind_some, Option.map_some, Option.bind_none, Option.map_none, List.getElem?_cons_zero, List.getElem?_cons_succ, List.set_cons_zero, List.set_cons_succ, List.map_cons, List.map_nil, List.any_cons, List.any_nil, List.length_cons, List.length_nil, List.replicate, List.cons_append, List.nil_append, Bool.or_false, Bool.false_or, Bool.or_true, Bool.true_or, Bool.not_false, Bool.not_true, Bool.and_true, Bool.true_and, Bool.and_false, Bool.false_and, if_true, ite_true, Bool.false_eq_true, if_false, ite_false, reduceIte, Nat.zero_add, Nat.add_zero, Nat.reduceAdd, Nat.reduceSub, Nat.sub_self, e0, e5, e4, e3]
  · obtain ⟨i, hi, e⟩ := List.mem_iff_getElem.mp hy
    exact hm i y (by rw [List.length_map]; omega) (by rw [List.getElem?_eq_getElem hi, e])
theorem ev_least_of {L : List (Int × Int)} (h : Rds L) (hn : L ≠ []) : ∃ x ∈ L, F_least_of [.val (.list (L.map rd))] u = some (.val (rd x), u) := by
  obtain ⟨x0, L0, rfl⟩ := List.exists_cons_of_ne_nil hn
  have e0 := ev_tuple_of (u := u) (lay5_rds h)
  rw [show tupD (.list ((x0 :: L0).map rd)) = .tuple ((x0 :: L0).map rd) by rw [tupD, tup_rds]] at e0
  obtain ⟨ε', e1, x, z, rfl, hx⟩ := forD_inv (u := u) (tg := t_name 3) (body := B_least_of_0)
    (fun i ε => ∃ x z, ε = [.val (.list ((x0 :: L0).map rd)), .val (.tuple ((x0 :: L0).map rd)), .val (rd x), z] ∧ x ∈ x0 :: L0)
    ((x0 :: L0).map rd) 0 [.val (.list ((x0 :: L0).map rd)), .val (.tuple ((x0 :: L0).map rd)), .val (rd x0), .un]
    ⟨x0, .un, rfl, List.mem_cons_self⟩
    (fun i d ε hd hI => by
      obtain ⟨y, hy, rfl⟩ := rds_at hd
      obtain ⟨x, z, rfl, hx⟩ := hI
      have hyL := List.mem_of_getElem? hy
      have e2 := ev_is_less (u := u) (a := y.1) (b := y.2) (c := x.1) (d := x.2) (h.pos y hyL) (h.pos x hx) (h.sm y hyL) (h.sm x hx)
      have e3 : B_least_of_0 [.val (.list ((x0 :: L0).map rd)), .val (.tuple ((x0 :: L0).map rd)), .val (rd x), .val (rd y)] u = some (.nx [.val (.list ((x0 :: L0).map rd)), .val (.tuple ((x0 :: L0).map rd)), .val (rd (if y.1 * x.2 < x.1 * y.2 then y else x)), .val (rd y)], u) := by
        by_cases hlt : y.1 * x.2 < x.1 * y.2
        · rw [decide_eq_true hlt] at e2
          rw [if_pos hlt]
          simp only [B_least_of_0, lim0, lim1, lim2, lim3, lim4, Dl.run, s_seq, s_nop, s_ret, s_retN, s_if, s_set, s_put, s_app, s_augI, putA, s_expr, s_tg, s_parA, s_parB, noB, t_name, t_nil, t_cons, t_tup, e_bin, e_un, e_c, e_var, e_tup, e_lst, e_if, e_and, e_or, e_not, e_chain, e_orT, b_of, b_and, b_or, b_not, asB, asI, a_nil, a_cons, e_call, e_callB, toSl, thaw, isBor, noL, noList, noListAll, dats, dat1, k_add, addD, k_sub, k_mul, mulD, k_div, k_mod, k_pow, k_lt, k_le, k_gt, k_ge, k_neg, k_ix, intI, seqA, view, lstA, rfin, setR, k_len, k_tuple, k_list, k_sum, k_max, k_min, k_abs, k_int, k_gcd, k_all, k_isN, k_notN, k_isB, k_notB, isNon, e_slice, o_no, o_so, k_cut, Option.bind_some, Option.map_some, Option.bind_none, Option.map_none, List.getElem?_cons_zero, List.getElem?_cons_succ, List.set_cons_zero, List.set_cons_succ, List.map_cons, List.map_nil, List.any_cons, List.any_nil, List.length_cons, List.length_nil, List.replicate, List.cons_append, List.nil_append, Bool.or_false, Bool.false_or, Bool.or_true, Bool.true_or, Bool.not_false, Bool.not_true, Bool.and_true, Bool.true_and, Bool.and_false, Bool.false_and, if_true, ite_true, Bool.false_eq_true, if_false, ite_false, reduceIte, Nat.zero_add, Nat.add_zero, Nat.reduceAdd, Nat.reduceSub, Nat.sub_self, rd, e2]
        · rw [decide_eq_false hlt] at e2
          rw [if_neg hlt]
          simp only [B_least_of_0, lim0, lim1, lim2, lim3, lim4, Dl.run, s_seq, s_nop, s_ret, s_retN, s_if, s_set, s_put, s_app, s_augI, putA, s_expr, s_tg, s_parA, s_parB, noB, t_name, t_nil, t_cons, t_tup, e_bin, e_un, e_c, e_var, e_tup, e_lst, e_if, e_and, e_or, e_not, e_chain, e_orT, b_of, b_and, b_or, b_not, asB, asI, a_nil, a_cons, e_call, e_callB, toSl, thaw, isBor, noL, noList, noListAll, dats, dat1, k_add, addD, k_sub, k_mul, mulD, k_div, k_mod, k_pow, k_lt, k_le, k_gt, k_ge, k_neg, k_ix, intI, seqA, view, lstA, rfin, setR, k_len, k_tuple, k_list, k_sum, k_max, k_min, k_abs, k_int, k_gcd, k_all, k_isN, k_notN, k_isB, k_notB, isNon, e_slice, o_no, o_so, k_cut, Option.bind_some, Option.map_some, Option.bind_none, Option.map_none, List.getElem?_cons_zero, List.getElem?_cons_succ, List.set_cons_zero, List.set_cons_succ, List.map_cons, List.map_nil, List.any_cons, List.any_nil, List.length_cons, List.length_nil, List.replicate, List.cons_append, List.nil_append, Bool.or_false, Bool.false_or, Bool.or_true, Bool.true_or, Bool.not_false, Bool.not_true, Bool.and_true, Bool.true_and, Bool.and_false, Bool.false_and, if_true, ite_true, Bool.false_eq_true, if_false, ite_false, reduceIte, Nat.zero_add, Nat.add_zero, Nat.reduceAdd, Nat.reduceSub, Nat.sub_self, rd, e2]
      exact ⟨_, _, rfl, e3, _, _, rfl, by split <;> assumption⟩)
  refine ⟨x, hx, ?_⟩
  have e3 : s_for (it_seq (e_var 1)) (t_name 3) B_least_of_0 [.val (.list ((x0 :: L0).map rd)), .val (.tuple ((x0 :: L0).map rd)), .val (rd x0), .un] u = _ :=
    for_ok (rs := [.val (.tuple ((x0 :: L0).map rd))]) (its := (x0 :: L0).map rd) (u' := u) (by simp only [it_seq, lim0, lim1, lim2, lim3, lim4, Dl.run, s_seq, s_nop, s_ret, s_retN, s_if, s_set, s_put, s_app, s_augI, putA, s_expr, s_tg, s_parA, s_parB, noB, t_name, t_nil, t_cons, t_tup, e_bin, e_un, e_c, e_var, e_tup, e_lst, e_if, e_and, e_or, e_not, e_chain, e_orT, b_of, b_and, b_or, b_not, asB, asI, a_nil, a_cons, e_call, e_callB, toSl, thaw, isBor, noL, noList, noListAll, dats, dat1, k_add, addD, k_sub, k_mul, mulD, k_div, k_mod, k_pow, k_lt, k_le, k_gt, k_ge, k_neg, k_ix, intI, seqA, view, lstA, rfin, setR, k_len, k_tuple, k_list, k_sum, k_max, k_min, k_abs, k_int, k_gcd, k_all, k_isN, k_notN, k_isB, k_notB, isNon, e_slice, o_no, o_so, k_cut, Option.bind_some, Option.map_some, Option.bind_none, Option.map_none, List.getElem?_cons_zero, List.getElem?_cons_succ, List.set_cons_zero, List.set_cons_succ, List.map_cons, List.map_nil, List.any_cons, List.any_nil, List.length_cons, List.length_nil, List.replicate, List.cons_append, List.nil_append, Bool.or_false, Bool.false_or, Bool.or_true, Bool.true_or, Bool.not_false, Bool.not_true, Bool.and_true, Bool.true_and, Bool.and_false, Bool.false_and, if_true, ite_true, Bool.false_eq_true, if_false, ite_false, reduceIte, Nat.zero_add, Nat.add_zero, Nat.reduceAdd, Nat.reduceSub, Nat.sub_self]) rfl e1
  have e4 : k_ix u (.val (.tuple ((x0 :: L0).map rd))) (.val (.int 0)) = some (.val (rd x0)) := by
    simp only [k_ix, seqA, Option.bind_some, List.map_cons, atI0, Option.map_some]
  have e5 := eq_emp (u := u) (x := x0) (L := L0)
  generalize (x0 :: L0).map rd = ds at e0 e3 e4 e5 ⊢
  simp only [F_least_of, d_least_of, ghost, lim0, lim1, lim2, lim3, lim4, Dl.run, s_seq, s_nop, s_ret, s_retN, s_if, s_set, s_put, s_app, s_augI, putA, s_expr, s_tg, s_parA, s_parB, noB, t_name, t_nil, t_cons, t_tup, e_bin, e_un, e_c, e_var, e_tup, e_lst, e_if, e_and, e_or, e_not, e_chain, e_orT, b_of, b_and, b_or, b_not, asB, asI, a_nil, a_cons, e_call, e_callB, toSl, thaw, isBor, noL, noList, noListAll, dats, dat1, k_add, addD, k_sub, k_mul, mulD, k_div, k_mod, k_pow, k_lt, k_le, k_gt, k_ge, k_neg, intI, seqA, view, lstA, rfin, setR, k_len, k_tuple, k_list, k_sum, k_max, k_min, k_abs, k_int, k_gcd, k_all, k_isN, k_notN, k_isB, k_notB, isNon, e_slice, o_no, o_so, k_cut, Option.bind_some, Option.map_some, Option.bind_none, Option.map_none, List.getElem?_cons_zero, List.getElem?_cons_succ, List.set_cons_zero, List.set_cons_succ, List.map_cons, List.map_nil, List.any_cons, List.any_nil, List.length_cons, List.length_nil, List.replicate, List.cons_append, List.nil_append, Bool.or_false, Bool.false_or, Bool.or_true, Bool.true_or, Bool.not_false, Bool.not_true, Bool.and_true, Bool.true_and, Bool.and_false, Bool.false_and, if_true, ite_true, Bool.false_eq_true, if_false, ite_false, reduceIte, Nat.zero_add, Nat.add_zero, Nat.reduceAdd, Nat.reduceSub, Nat.sub_self, e0, e5, e4, e3]
end
end K45
end

section
set_option Elab.async false
set_option linter.all false
set_option maxRecDepth 100000
/-! The plain law, part 6: dividers, ties. -/
namespace K45
open PySem PySem.Spec PyProof.Rows L2 Dl
variable {u : Ur}

theorem ne_of_eq {a b : Rs} {k : Bool} (h : k_eq u a b = some (.val (.bool k))) : k_ne u a b = some (.val (.bool (!k))) := by
  unfold k_eq at h
  unfold k_ne
  cases ha : view a with
  | none => rw [ha] at h; cases h
  | some d =>
    cases hb : view b with
    | none => rw [ha, hb] at h; cases h
    | some e =>
      rw [ha, hb] at h
      simp only [Option.bind_some] at h ⊢
      cases he : eqD d e with
      | none => rw [he] at h; cases h
      | some k' => rw [he] at h; cases h; rfl
section
variable {P : D} {s : Nat → Int}
theorem lc_zip {tg : TgD} {te : DE} {ε : Ev} (f : Int → Int → D) : ∀ (v m : List Int), (∀ (i : Nat) (a b : Int), v[i]? = some a → m[i]? = some b → ∃ ε1, tg (.tuple [.int a, .int b]) ε = some ε1 ∧ te ε1 u = some (.val (f a b), u)) →
    lcD tg b_yes te (zipD (v.map PyData.int) (m.map PyData.int)) ε u = some (List.zipWith f v m, u)
  | [], _, _ => rfl
  | _ :: _, [], _ => rfl
  | a :: v, b :: m, h => by
    obtain ⟨ε1, e1, e2⟩ := h 0 a b rfl rfl
    have ih := lc_zip f v m fun i a b h1 h2 => h (i + 1) a b (by simpa using h1) (by simpa using h2)
    simp only [List.map_cons, zipD, lcD, e1, e2, b_yes, Option.bind_some, if_true, dat1, ih, Option.map_some, List.zipWith_cons_cons]
theorem sm60 {a : Int} (h : 0 < a ∧ a.natAbs < 2 ^ 20) : (a * 60).natAbs < 2 ^ 64 := mul64 h.2 (by decide)
theorem ev_over_post (h : PostOk P s) {a b : Int} (ha : 0 < a ∧ a.natAbs < 2 ^ 20) (hb : b ≤ 100000) (hp : sI s b ≠ 0) : F_over [.val (red a 1), .val (red (sI s b) 60)] u = some (.val (rd (a * 60, 1 * sI s b)), u) := by
  have h1 := (sI_lo h b).1
  have h2 := sI_small h hb
  exact ev_over (by decide) (by decide) (by omega) (by omega) (by decide) (by omega)
/-- the quotients' list -/
def qs (s : Nat → Int) (v m : List Int) : List (Int × Int) := List.zipWith (fun a b => (a * 60, 1 * sI s b)) v m
theorem qs_get {v m : List Int} {i : Nat} {x : Int × Int} (h : (qs s v m)[i]? = some x) : i < v.length ∧ i < m.length ∧ x = (gd v i * 60, 1 * sI s (gd m i)) := by
  unfold qs at h
  rw [List.getElem?_zipWith] at h
  cases hv : v[i]? with
  | none => rw [hv] at h; cases h
  | some a =>
    cases hm : m[i]? with
    | none => rw [hv, hm] at h; cases h
    | some b =>
      rw [hv, hm] at h
      have i1 := (List.getElem?_eq_some_iff.mp hv).1
      have i2 := (List.getElem?_eq_some_iff.mp hm).1
      rw [gd_get i1] at hv
      rw [gd_get i2] at hm
      cases hv; cases hm
      exact ⟨i1, i2, (Option.some.inj h).symm⟩
theorem qs_at {v m : List Int} {i : Nat} (h1 : i < v.length) (h2 : i < m.length) : (qs s v m)[i]? = some (gd v i * 60, 1 * sI s (gd m i)) := by
  unfold qs
  rw [List.getElem?_zipWith, gd_get h1, gd_get h2]
theorem noL_rd (x : Int × Int) : noList (rd x) = true := by
  simp [rd, red, fr, noList, noListAll]
theorem ne_nil_rd {i : Nat} (L : List (Int × Int)) : k_ne u (.bor i (L.map rd)) (.own []) = some (.val (.bool (decide (L ≠ [])))) := by
  have h2 := (sh_rds L).1
  have h3 : SeqAt.shaped (.list []) = true := (sh_rds []).1
  cases L with
  | nil =>
    simp only [List.map_nil] at h2
    simp only [k_ne, view, Option.bind_some, eqD, List.map_nil, h3, Bool.and_self, if_true, Option.map_some, PyData.eqv, PyData.eqvAll]
    rfl
  | cons x L =>
    rw [List.map_cons] at h2
    simp only [k_ne, view, Option.bind_some, eqD, List.map_cons, h2, h3, Bool.and_self, if_true, Option.map_some, PyData.eqv, PyData.eqvAll]
    simp
theorem lc_high (h : PostOk P s) {w1 w2 w3 w5 w6 : Sl} : ∀ (v m : List Int), (∀ a ∈ v, 0 < a ∧ a.natAbs < 2 ^ 20) → (∀ b ∈ m, b ≤ 1000) → ∀ (z9 z10 z11 z7 z8 z4 : Sl),
    ∃ H : List (Int × Int), lcD (t_tup (t_cons (t_name 9) (t_cons (t_name 11) t_nil))) T_divider_ends_2 E_divider_ends_3 (List.zipWith (fun a b => PyData.tuple [.int a, red (sI s (b - 1)) 60]) v m) [w1, w2, w3, .val P, z4, w5, w6, z7, z8, z9, z10, z11] u = some (H.map rd, u) ∧
      (∀ x ∈ H, 0 < x.2 ∧ x.1.natAbs < 2 ^ 64) ∧ H.length ≤ v.length
  | [], m, _, _, _, _, _, _, _, _ => ⟨[], by cases m <;> rfl, (fun _ h => by cases h), Nat.le_refl _⟩
  | _ :: _, [], _, _, _, _, _, _, _, _ => ⟨[], rfl, (fun _ h => by cases h), by simp⟩
  | a :: v, b :: m, hv, hm, z9, z10, z11, z7, z8, z4 => by
    obtain ⟨H, e1, h1, h2⟩ := lc_high h (w1 := w1) (w2 := w2) (w3 := w3) (w5 := w5) (w6 := w6) v m (fun x hx => hv x (List.mem_cons_of_mem _ hx)) (fun x hx => hm x (List.mem_cons_of_mem _ hx)) z9 z10 z11 z7 z8 z4
    have ha := hv a List.mem_cons_self
    have hb := hm b List.mem_cons_self
    have e2 : T_divider_ends_2 [w1, w2, w3, .val P, z4, w5, w6, z7, z8, .val (.int a), z10, .val (red (sI s (b - 1)) 60)] u = some (!decide (sI s (b - 1) = 0), u) := by
      simp only [T_divider_ends_2, lim0, lim1, lim2, lim3, lim4, Dl.run, s_seq, s_nop, s_ret, s_retN, s_if, s_set, s_put, s_app, s_augI, putA, s_expr, s_tg, s_parA, s_parB, noB, t_name, t_nil, t_cons, t_tup, e_bin, e_un, e_c, e_var, e_tup, e_lst, e_if, e_and, e_or, e_not, e_chain, e_orT, b_of, b_and, b_or, b_not, asB, asI, a_nil, a_cons, e_call, e_callB, toSl, thaw, isBor, noL, noList, noListAll, dats, dat1, k_add, addD, k_sub, k_mul, mulD, k_div, k_mod, k_pow, k_lt, k_le, k_gt, k_ge, k_neg, k_ix, intI, seqA, view, lstA, rfin, setR, k_len, k_tuple, k_list, k_sum, k_max, k_min, k_abs, k_int, k_gcd, k_all, k_isN, k_notN, k_isB, k_notB, isNon, e_slice, o_no, o_so, k_cut, Option.bind_some, Option.map_some, Option.bind_none, Option.map_none, List.getElem?_cons_zero, List.getElem?_cons_succ, List.set_cons_zero, List.set_cons_succ, List.map_cons, List.map_nil, List.any_cons, List.any_nil, List.length_cons, List.length_nil, List.replicate, List.cons_append, List.nil_append, Bool.or_false, Bool.false_or, Bool.or_true, Bool.true_or, Bool.not_false, Bool.not_true, Bool.and_true, Bool.true_and, Bool.and_false, Bool.false_and, if_true, ite_true, Bool.false_eq_true, if_false, ite_false, reduceIte, Nat.zero_add, Nat.add_zero, Nat.reduceAdd, Nat.reduceSub, Nat.sub_self, ne_of_eq k_eq0]
    by_cases hz : sI s (b - 1) = 0
    · rw [decide_eq_true hz] at e2
      refine ⟨H, ?_, h1, by simp; omega⟩
      simp only [List.zipWith_cons_cons, lcD, lim0, lim1, lim2, lim3, lim4, Dl.run, s_seq, s_nop, s_ret, s_retN, s_if, s_set, s_put, s_app, s_augI, putA, s_expr, s_tg, s_parA, s_parB, noB, t_name, t_nil, t_cons, t_tup, e_bin, e_un, e_c, e_var, e_tup, e_lst, e_if, e_and, e_or, e_not, e_chain, e_orT, b_of, b_and, b_or, b_not, asB, asI, a_nil, a_cons, e_call, e_callB, toSl, thaw, isBor, noL, noList, noListAll, dats, dat1, k_add, addD, k_sub, k_mul, mulD, k_div, k_mod, k_pow, k_lt, k_le, k_gt, k_ge, k_neg, k_ix, intI, seqA, view, lstA, rfin, setR, k_len, k_tuple, k_list, k_sum, k_max, k_min, k_abs, k_int, k_gcd, k_all, k_isN, k_notN, k_isB, k_notB, isNon, e_slice, o_no, o_so, k_cut, Option.bind_some, Option.map_some, Option.bind_none, Option.map_none, List.getElem?_cons_zero, List.getElem?_cons_succ, List.set_cons_zero, List.set_cons_succ, List.map_cons, List.map_nil, List.any_cons, List.any_nil, List.length_cons, List.length_nil, List.replicate, List.cons_append, List.nil_append, Bool.or_false, Bool.false_or, Bool.or_true, Bool.true_or, Bool.not_false, Bool.not_true, Bool.and_true, Bool.true_and, Bool.and_false, Bool.false_and, if_true, ite_true, Bool.false_eq_true, if_false, ite_false, reduceIte, Nat.zero_add, Nat.add_zero, Nat.reduceAdd, Nat.reduceSub, Nat.sub_self, e2, e1]
    · have e3 : E_divider_ends_3 [w1, w2, w3, .val P, z4, w5, w6, z7, z8, .val (.int a), z10, .val (red (sI s (b - 1)) 60)] u = some (.val (rd (a * 60, 1 * sI s (b - 1))), u) := by
        have := ev_over_post (u := u) h ha (b := b - 1) (by omega) hz
        simp only [E_divider_ends_3, lim0, lim1, lim2, lim3, lim4, Dl.run, s_seq, s_nop, s_ret, s_retN, s_if, s_set, s_put, s_app, s_augI, putA, s_expr, s_tg, s_parA, s_parB, noB, t_name, t_nil, t_cons, t_tup, e_bin, e_un, e_c, e_var, e_tup, e_lst, e_if, e_and, e_or, e_not, e_chain, e_orT, b_of, b_and, b_or, b_not, asB, asI, a_nil, a_cons, e_call, e_callB, toSl, thaw, isBor, noL, noList, noListAll, dats, dat1, k_add, addD, k_sub, k_mul, mulD, k_div, k_mod, k_pow, k_lt, k_le, k_gt, k_ge, k_neg, k_ix, intI, seqA, view, lstA, rfin, setR, k_len, k_tuple, k_list, k_sum, k_max, k_min, k_abs, k_int, k_gcd, k_all, k_isN, k_notN, k_isB, k_notB, isNon, e_slice, o_no, o_so, k_cut, Option.bind_some, Option.map_some, Option.bind_none, Option.map_none, List.getElem?_cons_zero, List.getElem?_cons_succ, List.set_cons_zero, List.set_cons_succ, List.map_cons, List.map_nil, List.any_cons, List.any_nil, List.length_cons, List.length_nil, List.replicate, List.cons_append, List.nil_append, Bool.or_false, Bool.false_or, Bool.or_true, Bool.true_or, Bool.not_false, Bool.not_true, Bool.and_true, Bool.true_and, Bool.and_false, Bool.false_and, if_true, ite_true, Bool.false_eq_true, if_false, ite_false, reduceIte, Nat.zero_add, Nat.add_zero, Nat.reduceAdd, Nat.reduceSub, Nat.sub_self, ev_whole, this]
      rw [decide_eq_false hz] at e2
      refine ⟨(a * 60, 1 * sI s (b - 1)) :: H, ?_, fun x hx => ?_, by simp; omega⟩
      · simp only [List.zipWith_cons_cons, lcD, lim0, lim1, lim2, lim3, lim4, Dl.run, s_seq, s_nop, s_ret, s_retN, s_if, s_set, s_put, s_app, s_augI, putA, s_expr, s_tg, s_parA, s_parB, noB, t_name, t_nil, t_cons, t_tup, e_bin, e_un, e_c, e_var, e_tup, e_lst, e_if, e_and, e_or, e_not, e_chain, e_orT, b_of, b_and, b_or, b_not, asB, asI, a_nil, a_cons, e_call, e_callB, toSl, thaw, isBor, noL, noList, noListAll, dats, dat1, k_add, addD, k_sub, k_mul, mulD, k_div, k_mod, k_pow, k_lt, k_le, k_gt, k_ge, k_neg, k_ix, intI, seqA, view, lstA, rfin, setR, k_len, k_tuple, k_list, k_sum, k_max, k_min, k_abs, k_int, k_gcd, k_all, k_isN, k_notN, k_isB, k_notB, isNon, e_slice, o_no, o_so, k_cut, Option.bind_some, Option.map_some, Option.bind_none, Option.map_none, List.getElem?_cons_zero, List.getElem?_cons_succ, List.set_cons_zero, List.set_cons_succ, List.map_cons, List.map_nil, List.any_cons, List.any_nil, List.length_cons, List.length_nil, List.replicate, List.cons_append, List.nil_append, Bool.or_false, Bool.false_or, Bool.or_true, Bool.true_or, Bool.not_false, Bool.not_true, Bool.and_true, Bool.true_and, Bool.and_false, Bool.false_and, if_true, ite_true, Bool.false_eq_true, if_false, ite_false, reduceIte, Nat.zero_add, Nat.add_zero, Nat.reduceAdd, Nat.reduceSub, Nat.sub_self, e2, e3, e1]
      · rcases List.mem_cons.mp hx with rfl | hx
        · have := (sI_lo h (b - 1)).1
          exact ⟨by show 0 < 1 * sI s (b - 1); omega, sm60 ha⟩
        · exact h1 x hx
theorem ev_divider_of (h : PostOk P s) {v m : List Int} (V : Vs v) (M : Ms m) (h0 : 0 < v.length) (hl2 : v.length ≤ 1000) (f : Fair s v m) :
    ∃ j, j < v.length ∧ F_divider_of [.val P, .val (.tuple (v.map PyData.int)), .val (.tuple (m.map PyData.int))] u = some (.val (red (gd v j * 60) (sI s (gd m j))), u) ∧ ∀ i, i < v.length → gd v i * sI s (gd m j) ≤ gd v j * sI s (gd m i) := by
  have hl := f.len
  have hpos : ∀ i, i < m.length → 0 < sI s (gd m i) := fun i hi => by
    have := f.nb _ (gd_mem hi)
    have := (sI_lo h (gd m i)).1
    omega
  have t1 := ev_tuple_of (u := u) h.rowTup.1
  rw [h.rowTup.2] at t1
  have t2 := ev_tuple_of (u := u) (lay_ints 4 v (by omega)).1
  have t3 := ev_tuple_of (u := u) (lay_ints 4 m (by omega)).1
  rw [show tupD (.tuple (v.map PyData.int)) = .tuple (v.map PyData.int) by rw [tupD, tupDs_ints]] at t2
  rw [show tupD (.tuple (m.map PyData.int)) = .tuple (m.map PyData.int) by rw [tupD, tupDs_ints]] at t3
  have e1 := ev_faults_in (u := u) h (vd := .tuple (v.map PyData.int)) (q := .tuple (m.map PyData.int)) (b := true) (b' := true) rfl rfl V M hl2 f
  -- low
  have R : Rds (qs s v m) := by
    refine ⟨fun x hx => ?_, fun x hx => ?_, ?_⟩
    · obtain ⟨i, hi, e⟩ := List.mem_iff_getElem.mp hx
      obtain ⟨i1, i2, rfl⟩ := qs_get (by rw [List.getElem?_eq_getElem hi, e])
      show 0 < 1 * sI s (gd m i)
      have := hpos i i2; omega
    · obtain ⟨i, hi, e⟩ := List.mem_iff_getElem.mp hx
      obtain ⟨i1, i2, rfl⟩ := qs_get (by rw [List.getElem?_eq_getElem hi, e])
      exact sm60 (sm_val V i1)
    · unfold qs; rw [List.length_zipWith]; omega
  have hne : qs s v m ≠ [] := fun hn => by
    have := qs_at (s := s) (v := v) (m := m) (i := 0) h0 (by omega)
    rw [hn] at this
    cases this
  obtain ⟨x, hx, g1, g2⟩ := ev_greatest_of (u := u) R hne
  obtain ⟨j, hj, ej⟩ := List.mem_iff_getElem.mp hx
  obtain ⟨j1, j2, rfl⟩ := qs_get (by rw [List.getElem?_eq_getElem hj, ej])
  have z1 : ∀ ε : Ev, ε = [.val P, .val (.tuple (v.map PyData.int)), .val (.tuple (m.map PyData.int)), .val P, .val (.tuple (v.map PyData.int)), .val (.tuple (m.map PyData.int)), .un, .un, .un, .un, .un, .un] →
      lcD (t_tup (t_cons (t_name 9) (t_cons (t_name 10) t_nil))) b_yes E_divider_ends_0 (zipD (v.map PyData.int) (m.map PyData.int)) ε u = some ((qs s v m).map rd, u) := fun ε he => by
    subst he
    have := lc_zip (u := u) (tg := t_tup (t_cons (t_name 9) (t_cons (t_name 10) t_nil))) (te := E_divider_ends_0) (ε := [.val P, .val (.tuple (v.map PyData.int)), .val (.tuple (m.map PyData.int)), .val P, .val (.tuple (v.map PyData.int)), .val (.tuple (m.map PyData.int)), .un, .un, .un, .un, .un, .un])
      (fun a b => rd (a * 60, 1 * sI s b)) v m fun i a b h1 h2 => by
        have i1 := (List.getElem?_eq_some_iff.mp h1).1
        have i2 := (List.getElem?_eq_some_iff.mp h2).1
        rw [gd_get i1] at h1
        rw [gd_get i2] at h2
        cases h1; cases h2
        have e2 := ev_post_in (u := u) h (n := gd m i) (by have := M.hi _ (gd_mem i2); omega)
        have e3 := ev_over_post (u := u) h (sm_val V i1) (b := gd m i) (by have := M.hi _ (gd_mem i2); omega) (by have := hpos i i2; omega)
        exact ⟨_, rfl, by simp only [E_divider_ends_0, lim0, lim1, lim2, lim3, lim4, Dl.run, s_seq, s_nop, s_ret, s_retN, s_if, s_set, s_put, s_app, s_augI, putA, s_expr, s_tg, s_parA, s_parB, noB, t_name, t_nil, t_cons, t_tup, e_bin, e_un, e_c, e_var, e_tup, e_lst, e_if, e_and, e_or, e_not, e_chain, e_orT, b_of, b_and, b_or, b_not, asB, asI, a_nil, a_cons, e_call, e_callB, toSl, thaw, isBor, noL, noList, noListAll, dats, dat1, k_add, addD, k_sub, k_mul, mulD, k_div, k_mod, k_pow, k_lt, k_le, k_gt, k_ge, k_neg, k_ix, intI, seqA, view, lstA, rfin, setR, k_len, k_tuple, k_list, k_sum, k_max, k_min, k_abs, k_int, k_gcd, k_all, k_isN, k_notN, k_isB, k_notB, isNon, e_slice, o_no, o_so, k_cut, Option.bind_some, Option.map_some, Option.bind_none, Option.map_none, List.getElem?_cons_zero, List.getElem?_cons_succ, List.set_cons_zero, List.set_cons_succ, List.map_cons, List.map_nil, List.any_cons, List.any_nil, List.length_cons, List.length_nil, List.replicate, List.cons_append, List.nil_append, Bool.or_false, Bool.false_or, Bool.or_true, Bool.true_or, Bool.not_false, Bool.not_true, Bool.and_true, Bool.true_and, Bool.and_false, Bool.false_and, if_true, ite_true, Bool.false_eq_true, if_false, ite_false, reduceIte, Nat.zero_add, Nat.add_zero, Nat.reduceAdd, Nat.reduceSub, Nat.sub_self, ev_whole, e2, e3]⟩
    rw [this]
    unfold qs
    rw [List.map_zipWith]
  have z2 : ∀ w6 : Sl, lcD (t_tup (t_cons (t_name 9) (t_cons (t_name 10) t_nil))) b_yes E_divider_ends_1 (zipD (v.map PyData.int) (m.map PyData.int)) [.val P, .val (.tuple (v.map PyData.int)), .val (.tuple (m.map PyData.int)), .val P, .val (.tuple (v.map PyData.int)), .val (.tuple (m.map PyData.int)), w6, .un, .un, .un, .un, .un] u = some (List.zipWith (fun a b => PyData.tuple [.int a, red (sI s (b - 1)) 60]) v m, u) := fun w6 => by
    refine lc_zip (u := u) _ v m fun i a b h1 h2 => ?_
    have i2 := (List.getElem?_eq_some_iff.mp h2).1
    have hb := M.hi b (List.mem_of_getElem? h2)
    have e2 := ev_post_in (u := u) h (n := b - 1) (by omega)
    exact ⟨_, rfl, by simp only [E_divider_ends_1, lim0, lim1, lim2, lim3, lim4, Dl.run, s_seq, s_nop, s_ret, s_retN, s_if, s_set, s_put, s_app, s_augI, putA, s_expr, s_tg, s_parA, s_parB, noB, t_name, t_nil, t_cons, t_tup, e_bin, e_un, e_c, e_var, e_tup, e_lst, e_if, e_and, e_or, e_not, e_chain, e_orT, b_of, b_and, b_or, b_not, asB, asI, a_nil, a_cons, e_call, e_callB, toSl, thaw, isBor, noL, noList, noListAll, dats, dat1, k_add, addD, k_sub, k_mul, mulD, k_div, k_mod, k_pow, k_lt, k_le, k_gt, k_ge, k_neg, k_ix, intI, seqA, view, lstA, rfin, setR, k_len, k_tuple, k_list, k_sum, k_max, k_min, k_abs, k_int, k_gcd, k_all, k_isN, k_notN, k_isB, k_notB, isNon, e_slice, o_no, o_so, k_cut, Option.bind_some, Option.map_some, Option.bind_none, Option.map_none, List.getElem?_cons_zero, List.getElem?_cons_succ, List.set_cons_zero, List.set_cons_succ, List.map_cons, List.map_nil, List.any_cons, List.any_nil, List.length_cons, List.length_nil, List.replicate, List.cons_append, List.nil_append, Bool.or_false, Bool.false_or, Bool.or_true, Bool.true_or, Bool.not_false, Bool.not_true, Bool.and_true, Bool.true_and, Bool.and_false, Bool.false_and, if_true, ite_true, Bool.false_eq_true, if_false, ite_false, reduceIte, Nat.zero_add, Nat.add_zero, Nat.reduceAdd, Nat.reduceSub, Nat.sub_self, e2]⟩
  have lz : lim ((qs s v m).map rd).length = true := by
    have := R.len
    exact lim_of (by rw [List.length_map]; omega)
  have lt : lim (List.zipWith (fun a b => PyData.tuple [.int a, red (sI s (b - 1)) 60]) v m).length = true := lim_of (by rw [List.length_zipWith]; omega)
  obtain ⟨H, z3, hH, hHl⟩ := lc_high (u := u) h (w1 := .val P) (w2 := .val (.tuple (v.map PyData.int))) (w3 := .val (.tuple (m.map PyData.int))) (w5 := .val (.tuple (m.map PyData.int))) (w6 := .val (rd (gd v j * 60, 1 * sI s (gd m j)))) v m
    (fun a ha => by obtain ⟨i, hi, rfl⟩ := mem_gd ha; exact sm_val V hi) M.hi .un .un .un (.own (List.zipWith (fun a b => PyData.tuple [.int a, red (sI s (b - 1)) 60]) v m)) .un (.val (.tuple (v.map PyData.int)))
  have lh : lim (H.map rd).length = true := lim_of (by rw [List.length_map]; omega)
  have RH : Rds H := ⟨fun x hx => (hH x hx).1, fun x hx => (hH x hx).2, by omega⟩
  have ne := ne_nil_rd (u := u) (i := 8) H
  have en : k_ne u (.own []) (.own []) = some (.val (.bool false)) := by
    have := ne_nil_rd (u := u) (i := 8) []
    exact this
  have key : ∃ hi : D, F_divider_ends [.val P, .val (.tuple (v.map PyData.int)), .val (.tuple (m.map PyData.int))] u = some (.val (.tuple [rd (gd v j * 60, 1 * sI s (gd m j)), hi]), u) := by
    have lists : ∀ L : List D, e_call F_least_of (a_cons (e_var 8) a_nil) = e_call F_least_of (a_cons (e_var 8) a_nil) := fun _ => rfl
    by_cases hn : H = []
    · subst hn
      refine ⟨.none, ?_⟩
      simp only [List.map_nil] at z3 ne lh
      generalize hA : (qs s v m).map rd = A at *
      generalize hB : List.zipWith (fun a b => PyData.tuple [.int a, red (sI s (b - 1)) 60]) v m = B at *
      generalize hvd : v.map PyData.int = vd at *
      generalize hmd : m.map PyData.int = md at *
      simp only [F_divider_ends, d_divider_ends, lim0, lim1, lim2, lim3, lim4, Dl.run, s_seq, s_nop, s_ret, s_retN, s_if, s_set, s_put, s_app, s_augI, putA, s_expr, s_tg, s_parA, s_parB, noB, t_name, t_nil, t_cons, t_tup, e_bin, e_un, e_c, e_var, e_tup, e_lst, e_if, e_and, e_or, e_not, e_chain, e_orT, b_of, b_and, b_or, b_not, asB, asI, a_nil, a_cons, e_call, e_callB, toSl, thaw, isBor, noL, noList, noListAll, dats, dat1, k_add, addD, k_sub, k_mul, mulD, k_div, k_mod, k_pow, k_lt, k_le, k_gt, k_ge, k_neg, k_ix, intI, seqA, view, lstA, rfin, setR, k_len, k_tuple, k_list, k_sum, k_max, k_min, k_abs, k_int, k_gcd, k_all, k_isN, k_notN, k_isB, k_notB, isNon, e_slice, o_no, o_so, k_cut, Option.bind_some, Option.map_some, Option.bind_none, Option.map_none, List.getElem?_cons_zero, List.getElem?_cons_succ, List.set_cons_zero, List.set_cons_succ, List.map_cons, List.map_nil, List.any_cons, List.any_nil, List.length_cons, List.length_nil, List.replicate, List.cons_append, List.nil_append, Bool.or_false, Bool.false_or, Bool.or_true, Bool.true_or, Bool.not_false, Bool.not_true, Bool.and_true, Bool.true_and, Bool.and_false, Bool.false_and, if_true, ite_true, Bool.false_eq_true, if_false, ite_false, reduceIte, Nat.zero_add, Nat.add_zero, Nat.reduceAdd, Nat.reduceSub, Nat.sub_self, t1, t2, t3, e1, en, e_lc, it_zip, zipK, it_seq, wipeE, z1 _ rfl, lz, g1, z2, lt, z3, lh, ne, show decide (([] : List (Int × Int)) ≠ []) = false by decide]
    · obtain ⟨y, hy, l1⟩ := ev_least_of (u := u) RH hn
      refine ⟨rd y, ?_⟩
      have nl := noL_rd y
      generalize hA : (qs s v m).map rd = A at *
      generalize hB : List.zipWith (fun a b => PyData.tuple [.int a, red (sI s (b - 1)) 60]) v m = B at *
      generalize hvd : v.map PyData.int = vd at *
      generalize hmd : m.map PyData.int = md at *
      generalize hC : H.map rd = C at *
      simp only [F_divider_ends, d_divider_ends, lim0, lim1, lim2, lim3, lim4, Dl.run, s_seq, s_nop, s_ret, s_retN, s_if, s_set, s_put, s_app, s_augI, putA, s_expr, s_tg, s_parA, s_parB, noB, t_name, t_nil, t_cons, t_tup, e_bin, e_un, e_c, e_var, e_tup, e_lst, e_if, e_and, e_or, e_not, e_chain, e_orT, b_of, b_and, b_or, b_not, asB, asI, a_nil, a_cons, e_call, e_callB, toSl, thaw, isBor, noL, noListAll, dats, dat1, k_add, addD, k_sub, k_mul, mulD, k_div, k_mod, k_pow, k_lt, k_le, k_gt, k_ge, k_neg, k_ix, intI, seqA, view, lstA, rfin, setR, k_len, k_tuple, k_list, k_sum, k_max, k_min, k_abs, k_int, k_gcd, k_all, k_isN, k_notN, k_isB, k_notB, isNon, e_slice, o_no, o_so, k_cut, Option.bind_some, Option.map_some, Option.bind_none, Option.map_none, List.getElem?_cons_zero, List.getElem?_cons_succ, List.set_cons_zero, List.set_cons_succ, List.map_cons, List.map_nil, List.any_cons, List.any_nil, List.length_cons, List.length_nil, List.replicate, List.cons_append, List.nil_append, Bool.or_false, Bool.false_or, Bool.or_true, Bool.true_or, Bool.not_false, Bool.not_true, Bool.and_true, Bool.true_and, Bool.and_false, Bool.false_and, if_true, ite_true, Bool.false_eq_true, if_false, ite_false, reduceIte, Nat.zero_add, Nat.add_zero, Nat.reduceAdd, Nat.reduceSub, Nat.sub_self, t1, t2, t3, e1, en, e_lc, it_zip, zipK, it_seq, wipeE, z1 _ rfl, lz, g1, z2, lt, z3, lh, ne, decide_eq_true hn, l1, nl]
  obtain ⟨hi, key⟩ := key
  refine ⟨j, j1, ?_, fun i hi => ?_⟩
  · have e : rd (gd v j * 60, 1 * sI s (gd m j)) = red (gd v j * 60) (sI s (gd m j)) := by unfold rd; rw [Int.one_mul]
    rw [e] at key
    simp only [F_divider_of, d_divider_of, lim0, lim1, lim2, lim3, lim4, Dl.run, s_seq, s_nop, s_ret, s_retN, s_if, s_set, s_put, s_app, s_augI, putA, s_expr, s_tg, s_parA, s_parB, noB, t_name, t_nil, t_cons, t_tup, e_bin, e_un, e_c, e_var, e_tup, e_lst, e_if, e_and, e_or, e_not, e_chain, e_orT, b_of, b_and, b_or, b_not, asB, asI, a_nil, a_cons, e_call, e_callB, toSl, thaw, isBor, noL, noList, noListAll, dats, dat1, k_add, addD, k_sub, k_mul, mulD, k_div, k_mod, k_pow, k_lt, k_le, k_gt, k_ge, k_neg, k_ix, intI, seqA, view, lstA, rfin, setR, k_len, k_tuple, k_list, k_sum, k_max, k_min, k_abs, k_int, k_gcd, k_all, k_isN, k_notN, k_isB, k_notB, isNon, e_slice, o_no, o_so, k_cut, Option.bind_some, Option.map_some, Option.bind_none, Option.map_none, List.getElem?_cons_zero, List.getElem?_cons_succ, List.set_cons_zero, List.set_cons_succ, List.map_cons, List.map_nil, List.any_cons, List.any_nil, List.length_cons, List.length_nil, List.replicate, List.cons_append, List.nil_append, Bool.or_false, Bool.false_or, Bool.or_true, Bool.true_or, Bool.not_false, Bool.not_true, Bool.and_true, Bool.true_and, Bool.and_false, Bool.false_and, if_true, ite_true, Bool.false_eq_true, if_false, ite_false, reduceIte, Nat.zero_add, Nat.add_zero, Nat.reduceAdd, Nat.reduceSub, Nat.sub_self, key, atI0]
  · have := g2 _ (List.mem_of_getElem? (qs_at (s := s) hi (by omega)))
    have e1 : gd v i * 60 * (1 * sI s (gd m j)) = 60 * (gd v i * sI s (gd m j)) := by grind
    have e2 : gd v j * 60 * (1 * sI s (gd m i)) = 60 * (gd v j * sI s (gd m i)) := by grind
    have : gd v i * 60 * (1 * sI s (gd m j)) ≤ gd v j * 60 * (1 * sI s (gd m i)) := this
    omega
end
end K45
end

section
set_option Elab.async false
set_option linter.all false
set_option maxRecDepth 100000
/-! The plain law, part 7: ties. -/
namespace K45
open PySem PySem.Spec PyProof.Rows L2 Dl
variable {u : Ur}

theorem while_go {t : DT} {b : DS} {ε : Nat → Ev} (p : Nat → Bool) (N : Nat) (hN : p N = false) (ht : ∀ n, n ≤ N → t (ε n) u = some (p n, u)) (hb : ∀ n, n < N → b (ε n) u = some (.nx (ε (n + 1)), u)) :
    ∀ k n0, n0 + k = N → (∀ j, j < n0 → p j = true) → ∃ n, n ≤ N ∧ whileD t b (k + 1) (ε n0) u = some (.nx (ε n), u) ∧ p n = false ∧ ∀ j, j < n → p j = true
  | 0, n0, h, hj => by
    have : n0 = N := by omega
    subst this
    refine ⟨n0, Nat.le_refl _, ?_, hN, hj⟩
    simp only [whileD, ht n0 (Nat.le_refl _), Option.bind_some, hN, Bool.false_eq_true, if_false]
  | k + 1, n0, h, hj => by
    by_cases hp : p n0 = true
    · obtain ⟨n, h1, h2, h3, h4⟩ := while_go p N hN ht hb k (n0 + 1) (by omega) (fun j hj2 => by
        by_cases e : j = n0
        · rw [e]; exact hp
        · exact hj j (by omega))
      refine ⟨n, h1, ?_, h3, h4⟩
      rw [whileD]
      simp only [ht n0 (by omega), Option.bind_some, hp, if_true, hb n0 (by omega)]
      exact h2
    · have hp2 : p n0 = false := by cases h : p n0 with | true => exact absurd h hp | false => rfl
      refine ⟨n0, by omega, ?_, hp2, hj⟩
      rw [whileD]
      simp only [ht n0 (by omega), Option.bind_some, hp2, Bool.false_eq_true, if_false]
theorem while_up {t : DT} {b : DS} (ε : Nat → Ev) (p : Nat → Bool) (N : Nat) (hN : p N = false) (ht : ∀ n, n ≤ N → t (ε n) u = some (p n, u)) (hb : ∀ n, n < N → b (ε n) u = some (.nx (ε (n + 1)), u)) :
    ∃ n, n ≤ N ∧ s_while t b (ε 0) u = some (.nx (ε n), u) ∧ p n = false ∧ ∀ j, j < n → p j = true := by
  obtain ⟨n, h1, h2, h3⟩ := while_go (u := u) p N hN ht hb N 0 (by omega) (fun j hj => by omega)
  exact ⟨n, h1, s_while_of h2, h3⟩
section
variable {P : D} {s : Nat → Int}
structure IsLow (s : Nat → Int) (X Y w n : Int) : Prop where
  lo : 0 ≤ n
  be : ∀ j, j < n → X * sI s j < w * Y
  at_ : w * Y ≤ X * sI s n
structure IsHigh (s : Nat → Int) (X Y w n : Int) : Prop where
  lo : 0 ≤ n
  be : ∀ j, j < n → X * sI s j ≤ w * Y
  at_ : w * Y < X * sI s n
/-- what a divider may be -/
structure Dv (X Y : Int) : Prop where
  x0 : 0 < X
  x1 : X < 2 ^ 20
  y0 : 0 < Y
  y1 : Y < 2 ^ 31
theorem sI_neg {j : Int} (h : j < 0) : sI s j = 0 := if_pos h
theorem ev_prod (h : PostOk P s) {X Y w n : Int} (d : Dv X Y) (hw : 0 < w ∧ w.natAbs < 2 ^ 20) (hn : n ≤ 100000) : (∀ u, F_times [.val (red (X * 60) Y), .val (red (sI s n) 60)] u = some (.val (red (X * 60 * sI s n) (Y * 60)), u)) ∧
    (∀ u, F_is_less [.val (red (X * 60 * sI s n) (Y * 60)), .val (red w 1)] u = some (.val (.bool (decide (X * sI s n < w * Y))), u)) ∧ ∀ u, F_is_most [.val (red (X * 60 * sI s n) (Y * 60)), .val (red w 1)] u = some (.val (.bool (decide (X * sI s n ≤ w * Y))), u) := by
  have h1 := d.x0
  have h2 := d.x1
  have h3 := d.y0
  have h4 := d.y1
  have hs := sI_small h hn
  have b1 : (X * 60 * sI s n).natAbs < 2 ^ 64 := by
    rw [Int.natAbs_mul]
    exact Nat.lt_of_lt_of_le (Nat.mul_lt_mul'' (show (X * 60).natAbs < 2 ^ 27 by omega) hs) (by decide)
  have e : X * 60 * sI s n * 1 = 60 * (X * sI s n) := by grind
  have e2 : w * (Y * 60) = 60 * (w * Y) := by grind
  refine ⟨fun u => ?_, fun u => ?_, fun u => ?_⟩
  · exact ev_times (by omega) (by decide) (by omega) (by omega) (by decide)
  · rw [ev_is_less (by omega) (by decide) b1 (by omega)]
    rw [decide_eq_decide.mpr (show X * 60 * sI s n * 1 < w * (Y * 60) ↔ X * sI s n < w * Y by omega)]
  · rw [ev_is_most (by omega) (by decide) b1 (by omega)]
    rw [decide_eq_decide.mpr (show X * 60 * sI s n * 1 ≤ w * (Y * 60) ↔ X * sI s n ≤ w * Y by omega)]
theorem ev_seats_above (h : PostOk P s) {X Y w : Int} (d : Dv X Y) (hw : 0 < w ∧ w.natAbs < 2 ^ 20) {N : Nat} (hN : N ≤ 10000) (hN2 : w * Y ≤ X * sI s N) :
    ∃ n : Nat, F_seats_above [.val P, .val (.int w), .val (red (X * 60) Y)] u = some (.val (.int (n : Nat)), u) ∧ n ≤ N ∧ IsLow s X Y w n := by
  obtain ⟨n, h1, h2, h3, h4⟩ := while_up (u := u) (t := C_seats_above_0) (b := B_seats_above_1) (fun n => [.val P, .val (.int w), .val (red (X * 60) Y), .val (.int (n : Nat))]) (fun n => decide (X * sI s (n : Nat) < w * Y)) N (decide_eq_false (by omega))
    (fun n hn => by
      obtain ⟨e1, e2, _⟩ := ev_prod h d hw (n := (n : Nat)) (by omega)
      have e3 := ev_post_in (u := u) h (n := (n : Nat)) (by omega)
      simp only [C_seats_above_0, lim0, lim1, lim2, lim3, lim4, Dl.run, s_seq, s_nop, s_ret, s_retN, s_if, s_set, s_put, s_app, s_augI, putA, s_expr, s_tg, s_parA, s_parB, noB, t_name, t_nil, t_cons, t_tup, e_bin, e_un, e_c, e_var, e_tup, e_lst, e_if, e_and, e_or, e_not, e_chain, e_orT, b_of, b_and, b_or, b_not, asB, asI, a_nil, a_cons, e_call, e_callB, toSl, thaw, isBor, noL, noList, noListAll, dats, dat1, k_add, addD, k_sub, k_mul, mulD, k_div, k_mod, k_pow, k_lt, k_le, k_gt, k_ge, k_neg, k_ix, intI, seqA, view, lstA, rfin, setR, k_len, k_tuple, k_list, k_sum, k_max, k_min, k_abs, k_int, k_gcd, k_all, k_isN, k_notN, k_isB, k_notB, isNon, e_slice, o_no, o_so, k_cut, Option.bind_some, Option.map_some, Option.bind_none, Option.map_none, List.getElem?_cons_zero, List.getElem?_cons_succ, List.set_cons_zero, List.set_cons_succ, List.map_cons, List.map_nil, List.any_cons, List.any_nil, List.length_cons, List.length_nil, List.replicate, List.cons_append, List.nil_append, Bool.or_false, Bool.false_or, Bool.or_true, Bool.true_or, Bool.not_false, Bool.not_true, Bool.and_true, Bool.true_and, Bool.and_false, Bool.false_and, if_true, ite_true, Bool.false_eq_true, if_false, ite_false, reduceIte, Nat.zero_add, Nat.add_zero, Nat.reduceAdd, Nat.reduceSub, Nat.sub_self, e3, e1, ev_whole, e2])
    (fun n hn => by
      simp only [B_seats_above_1, lim0, lim1, lim2, lim3, lim4, Dl.run, s_seq, s_nop, s_ret, s_retN, s_if, s_set, s_put, s_app, s_augI, putA, s_expr, s_tg, s_parA, s_parB, noB, t_name, t_nil, t_cons, t_tup, e_bin, e_un, e_c, e_var, e_tup, e_lst, e_if, e_and, e_or, e_not, e_chain, e_orT, b_of, b_and, b_or, b_not, asB, asI, a_nil, a_cons, e_call, e_callB, toSl, thaw, isBor, noL, noList, noListAll, dats, dat1, k_add, addD, k_sub, k_mul, mulD, k_div, k_mod, k_pow, k_lt, k_le, k_gt, k_ge, k_neg, k_ix, intI, seqA, view, lstA, rfin, setR, k_len, k_tuple, k_list, k_sum, k_max, k_min, k_abs, k_int, k_gcd, k_all, k_isN, k_notN, k_isB, k_notB, isNon, e_slice, o_no, o_so, k_cut, Option.bind_some, Option.map_some, Option.bind_none, Option.map_none, List.getElem?_cons_zero, List.getElem?_cons_succ, List.set_cons_zero, List.set_cons_succ, List.map_cons, List.map_nil, List.any_cons, List.any_nil, List.length_cons, List.length_nil, List.replicate, List.cons_append, List.nil_append, Bool.or_false, Bool.false_or, Bool.or_true, Bool.true_or, Bool.not_false, Bool.not_true, Bool.and_true, Bool.true_and, Bool.and_false, Bool.false_and, if_true, ite_true, Bool.false_eq_true, if_false, ite_false, reduceIte, Nat.zero_add, Nat.add_zero, Nat.reduceAdd, Nat.reduceSub, Nat.sub_self, Int.natCast_add, Int.natCast_one])
  refine ⟨n, ?_, h1, by omega, fun j hj => ?_, by have := of_decide_eq_false h3; omega⟩
  · have e : s_while C_seats_above_0 B_seats_above_1 [.val P, .val (.int w), .val (red (X * 60) Y), .val (.int 0)] u = _ := h2
    simp only [F_seats_above, d_seats_above, lim0, lim1, lim2, lim3, lim4, Dl.run, s_seq, s_nop, s_ret, s_retN, s_if, s_set, s_put, s_app, s_augI, putA, s_expr, s_tg, s_parA, s_parB, noB, t_name, t_nil, t_cons, t_tup, e_bin, e_un, e_c, e_var, e_tup, e_lst, e_if, e_and, e_or, e_not, e_chain, e_orT, b_of, b_and, b_or, b_not, asB, asI, a_nil, a_cons, e_call, e_callB, toSl, thaw, isBor, noL, noList, noListAll, dats, dat1, k_add, addD, k_sub, k_mul, mulD, k_div, k_mod, k_pow, k_lt, k_le, k_gt, k_ge, k_neg, k_ix, intI, seqA, view, lstA, rfin, setR, k_len, k_tuple, k_list, k_sum, k_max, k_min, k_abs, k_int, k_gcd, k_all, k_isN, k_notN, k_isB, k_notB, isNon, e_slice, o_no, o_so, k_cut, Option.bind_some, Option.map_some, Option.bind_none, Option.map_none, List.getElem?_cons_zero, List.getElem?_cons_succ, List.set_cons_zero, List.set_cons_succ, List.map_cons, List.map_nil, List.any_cons, List.any_nil, List.length_cons, List.length_nil, List.replicate, List.cons_append, List.nil_append, Bool.or_false, Bool.false_or, Bool.or_true, Bool.true_or, Bool.not_false, Bool.not_true, Bool.and_true, Bool.true_and, Bool.and_false, Bool.false_and, if_true, ite_true, Bool.false_eq_true, if_false, ite_false, reduceIte, Nat.zero_add, Nat.add_zero, Nat.reduceAdd, Nat.reduceSub, Nat.sub_self, e]
  · by_cases h0 : j < 0
    · rw [sI_neg h0, Int.mul_zero]; exact Int.mul_pos hw.1 d.y0
    · have := of_decide_eq_true (h4 j.toNat (by omega))
      rw [show ((j.toNat : Nat) : Int) = j by omega] at this
      exact this
theorem ev_seats_most (h : PostOk P s) {X Y w : Int} (d : Dv X Y) (hw : 0 < w ∧ w.natAbs < 2 ^ 20) {N : Nat} (hN : N ≤ 10000) (hN2 : w * Y < X * sI s N) :
    ∃ n : Nat, F_seats_most [.val P, .val (.int w), .val (red (X * 60) Y)] u = some (.val (.int (n : Nat)), u) ∧ n ≤ N ∧ IsHigh s X Y w n := by
  obtain ⟨n, h1, h2, h3, h4⟩ := while_up (u := u) (t := C_seats_most_0) (b := B_seats_most_1) (fun n => [.val P, .val (.int w), .val (red (X * 60) Y), .val (.int (n : Nat))]) (fun n => decide (X * sI s (n : Nat) ≤ w * Y)) N (decide_eq_false (by omega))
    (fun n hn => by
      obtain ⟨e1, _, e2⟩ := ev_prod h d hw (n := (n : Nat)) (by omega)
      have e3 := ev_post_in (u := u) h (n := (n : Nat)) (by omega)
      simp only [C_seats_most_0, lim0, lim1, lim2, lim3, lim4, Dl.run, s_seq, s_nop, s_ret, s_retN, s_if, s_set, s_put, s_app, s_augI, putA, s_expr, s_tg, s_parA, s_parB, noB, t_name, t_nil, t_cons, t_tup, e_bin, e_un, e_c, e_var, e_tup, e_lst, e_if, e_and, e_or, e_not, e_chain, e_orT, b_of, b_and, b_or, b_not, asB, asI, a_nil, a_cons, e_call, e_callB, toSl, thaw, isBor, noL, noList, noListAll, dats, dat1, k_add, addD, k_sub, k_mul, mulD, k_div, k_mod, k_pow, k_lt, k_le, k_gt, k_ge, k_neg, k_ix, intI, seqA, view, lstA, rfin, setR, k_len, k_tuple, k_list, k_sum, k_max, k_min, k_abs, k_int, k_gcd, k_all, k_isN, k_notN, k_isB, k_notB, isNon, e_slice, o_no, o_so, k_cut, Option.bind_some, Option.map_some, Option.bind_none, Option.map_none, List.getElem?_cons_zero, List.getElem?_cons_succ, List.set_cons_zero, List.set_cons_succ, List.map_cons, List.map_nil, List.any_cons, List.any_nil, List.length_cons, List.length_nil, List.replicate, List.cons_append, List.nil_append, Bool.or_false, Bool.false_or, Bool.or_true, Bool.true_or, Bool.not_false, Bool.not_true, Bool.and_true, Bool.true_and, Bool.and_false, Bool.false_and, if_true, ite_true, Bool.false_eq_true, if_false, ite_false, reduceIte, Nat.zero_add, Nat.add_zero, Nat.reduceAdd, Nat.reduceSub, Nat.sub_self, e3, e1, ev_whole, e2])
    (fun n hn => by
      simp only [B_seats_most_1, lim0, lim1, lim2, lim3, lim4, Dl.run, s_seq, s_nop, s_ret, s_retN, s_if, s_set, s_put, s_app, s_augI, putA, s_expr, s_tg, s_parA, s_parB, noB, t_name, t_nil, t_cons, t_tup, e_bin, e_un, e_c, e_var, e_tup, e_lst, e_if, e_and, e_or, e_not, e_chain, e_orT, b_of, b_and, b_or, b_not, asB, asI, a_nil, a_cons, e_call, e_callB, toSl, thaw, isBor, noL, noList, noListAll, dats, dat1, k_add, addD, k_sub, k_mul, mulD, k_div, k_mod, k_pow, k_lt, k_le, k_gt, k_ge, k_neg, k_ix, intI, seqA, view, lstA, rfin, setR, k_len, k_tuple, k_list, k_sum, k_max, k_min, k_abs, k_int, k_gcd, k_all, k_isN, k_notN, k_isB, k_notB, isNon, e_slice, o_no, o_so, k_cut, Option.bind_some, Option.map_some, Option.bind_none, Option.map_none, List.getElem?_cons_zero, List.getElem?_cons_succ, List.set_cons_zero, List.set_cons_succ, List.map_cons, List.map_nil, List.any_cons, List.any_nil, List.length_cons, List.length_nil, List.replicate, List.cons_append, List.nil_append, Bool.or_false, Bool.false_or, Bool.or_true, Bool.true_or, Bool.not_false, Bool.not_true, Bool.and_true, Bool.true_and, Bool.and_false, Bool.false_and, if_true, ite_true, Bool.false_eq_true, if_false, ite_false, reduceIte, Nat.zero_add, Nat.add_zero, Nat.reduceAdd, Nat.reduceSub, Nat.sub_self, Int.natCast_add, Int.natCast_one])
  refine ⟨n, ?_, h1, by omega, fun j hj => ?_, by have := of_decide_eq_false h3; omega⟩
  · have e : s_while C_seats_most_0 B_seats_most_1 [.val P, .val (.int w), .val (red (X * 60) Y), .val (.int 0)] u = _ := h2
    simp only [F_seats_most, d_seats_most, lim0, lim1, lim2, lim3, lim4, Dl.run, s_seq, s_nop, s_ret, s_retN, s_if, s_set, s_put, s_app, s_augI, putA, s_expr, s_tg, s_parA, s_parB, noB, t_name, t_nil, t_cons, t_tup, e_bin, e_un, e_c, e_var, e_tup, e_lst, e_if, e_and, e_or, e_not, e_chain, e_orT, b_of, b_and, b_or, b_not, asB, asI, a_nil, a_cons, e_call, e_callB, toSl, thaw, isBor, noL, noList, noListAll, dats, dat1, k_add, addD, k_sub, k_mul, mulD, k_div, k_mod, k_pow, k_lt, k_le, k_gt, k_ge, k_neg, k_ix, intI, seqA, view, lstA, rfin, setR, k_len, k_tuple, k_list, k_sum, k_max, k_min, k_abs, k_int, k_gcd, k_all, k_isN, k_notN, k_isB, k_notB, isNon, e_slice, o_no, o_so, k_cut, Option.bind_some, Option.map_some, Option.bind_none, Option.map_none, List.getElem?_cons_zero, List.getElem?_cons_succ, List.set_cons_zero, List.set_cons_succ, List.map_cons, List.map_nil, List.any_cons, List.any_nil, List.length_cons, List.length_nil, List.replicate, List.cons_append, List.nil_append, Bool.or_false, Bool.false_or, Bool.or_true, Bool.true_or, Bool.not_false, Bool.not_true, Bool.and_true, Bool.true_and, Bool.and_false, Bool.false_and, if_true, ite_true, Bool.false_eq_true, if_false, ite_false, reduceIte, Nat.zero_add, Nat.add_zero, Nat.reduceAdd, Nat.reduceSub, Nat.sub_self, e]
  · by_cases h0 : j < 0
    · rw [sI_neg h0, Int.mul_zero]; exact Int.le_of_lt (Int.mul_pos hw.1 d.y0)
    · have := of_decide_eq_true (h4 j.toNat (by omega))
      rw [show ((j.toNat : Nat) : Int) = j by omega] at this
      exact this
theorem lc_each {ε : Ev} {tg : TgD} {te : DE} : ∀ (v : List Int) (R : Nat → Int → Prop), (∀ i a, v[i]? = some a → ∃ (n : Int) (ε1 : Ev), tg (.int a) ε = some ε1 ∧ te ε1 u = some (.val (.int n), u) ∧ R i n) →
    ∃ l : List Int, lcD tg b_yes te (v.map PyData.int) ε u = some (l.map PyData.int, u) ∧ l.length = v.length ∧ ∀ i, i < v.length → R i (gd l i)
  | [], R, _ => ⟨[], rfl, rfl, fun i hi => by simp at hi⟩
  | a :: v, R, h => by
    obtain ⟨n, ε1, e1, e2, hR⟩ := h 0 a rfl
    obtain ⟨l, e3, hl, hr⟩ := lc_each v (fun i => R (i + 1)) fun i a ha => h (i + 1) a (by simpa using ha)
    refine ⟨n :: l, ?_, by simp [hl], fun i hi => ?_⟩
    · simp only [List.map_cons, lcD, e1, e2, b_yes, Option.bind_some, if_true, dat1, e3, Option.map_some]
    · cases i with
      | zero => exact hR
      | succ i => exact hr i (by simpa using hi)
structure Ties (s : Nat → Int) (v : List Int) (k : Nat) (low high : List Int) : Prop where
  ll : low.length = v.length
  hl : high.length = v.length
  dv : ∃ X Y, Dv X Y ∧ ∀ i, i < v.length → IsLow s X Y (gd v i) (gd low i) ∧ IsHigh s X Y (gd v i) (gd high i)
  ml : ∃ m : List Int, m.length = v.length ∧ m.sum = k ∧ ∀ i, i < v.length → gd low i ≤ gd m i ∧ gd m i ≤ gd high i
  sm : ∀ i, i < v.length → gd high i ≤ k + 2
theorem ne_own (ns : List Int) : k_ne u (.own (ns.map PyData.int)) (.own []) = some (.val (.bool (decide (ns ≠ [])))) := ne_nil (u := u) (i := 0) ns
theorem ev_ties_in (h : PostOk P s) {v : List Int} (h0 : 0 < v.length) (hl2 : v.length ≤ 1000) (V : Vs v) {k : Nat} (hk : k ≤ 1000) :
    ∃ m, Deal s v m k ∧ (((∃ j, j < v.length ∧ sI s (gd m j) = 0) ∧ F_ties_in [.val P, .val (.tuple (v.map PyData.int)), .val (.int (k : Nat))] u = some (.val .none, u)) ∨
      ((∀ x ∈ m, sI s x ≠ 0) ∧ ∃ low high, F_ties_in [.val P, .val (.tuple (v.map PyData.int)), .val (.int (k : Nat))] u = some (.val (.tuple [.tuple (low.map PyData.int), .tuple (high.map PyData.int)]), u) ∧ Ties s v k low high)) := by
  obtain ⟨m, e1, dl⟩ := ev_dealt_in (u := u) h (vd := .tuple (v.map PyData.int)) (b' := true) rfl h0 hl2 V hk
  have M := dl.ms hk
  have hlen := dl.len
  refine ⟨m, dl, ?_⟩
  have e2 := ev_bare_lists (u := u) h (q := .tuple (m.map PyData.int)) (b := true) rfl (fun n hn => by have := M.hi n hn; omega) (by omega)
  by_cases hb : bareF s 0 m = []
  · right
    have nb := bareF_nil m 0 hb
    have f : Fair s v m := ⟨dl.len, dl.ok, nb⟩
    have hpos : ∀ i, i < m.length → 0 < sI s (gd m i) := fun i hi => by
      have := nb _ (gd_mem hi)
      have := (sI_lo h (gd m i)).1
      omega
    obtain ⟨j, hj, e3, hd⟩ := ev_divider_of (u := u) h V M h0 hl2 f
    have hvj := sm_val V hj
    have hsj := sI_small h (n := gd m j) (by have := M.hi _ (gd_mem (v := m) (i := j) (by omega)); omega)
    have hpj := hpos j (by omega)
    have d : Dv (gd v j) (sI s (gd m j)) := ⟨hvj.1, by omega, hpj, by omega⟩
    -- the lower ends
    obtain ⟨low, l1, l2, l3⟩ := lc_each (u := u) (ε := [.val P, .val (.tuple (v.map PyData.int)), .val (.int (k : Nat)), .val (.tuple (m.map PyData.int)), .val (red (gd v j * 60) (sI s (gd m j))), .un, .un, .un]) (tg := t_name 7) (te := E_ties_in_0) v
      (fun i n => IsLow s (gd v j) (sI s (gd m j)) (gd v i) n ∧ n ≤ gd m i) fun i a ha => by
        have hi := (List.getElem?_eq_some_iff.mp ha).1
        rw [gd_get hi] at ha
        cases ha
        have hm0 := dl.lo _ (gd_mem (v := m) (i := i) (by omega))
        have hm1 := M.hi _ (gd_mem (v := m) (i := i) (by omega))
        have hdi := hd i hi
        obtain ⟨n, q1, q2, q3⟩ := ev_seats_above (u := u) h d (sm_val V hi) (N := (gd m i).toNat) (by omega) (by rw [show (((gd m i).toNat : Nat) : Int) = gd m i by omega]; exact hdi)
        exact ⟨(n : Nat), _, rfl, by simp only [E_ties_in_0, lim0, lim1, lim2, lim3, lim4, Dl.run, s_seq, s_nop, s_ret, s_retN, s_if, s_set, s_put, s_app, s_augI, putA, s_expr, s_tg, s_parA, s_parB, noB, t_name, t_nil, t_cons, t_tup, e_bin, e_un, e_c, e_var, e_tup, e_lst, e_if, e_and, e_or, e_not, e_chain, e_orT, b_of, b_and, b_or, b_not, asB, asI, a_nil, a_cons, e_call, e_callB, toSl, thaw, isBor, noL, noList, noListAll, dats, dat1, k_add, addD, k_sub, k_mul, mulD, k_div, k_mod, k_pow, k_lt, k_le, k_gt, k_ge, k_neg, k_ix, intI, seqA, view, lstA, rfin, setR, k_len, k_tuple, k_list, k_sum, k_max, k_min, k_abs, k_int, k_gcd, k_all, k_isN, k_notN, k_isB, k_notB, isNon, e_slice, o_no, o_so, k_cut, Option.bind_some, Option.map_some, Option.bind_none, Option.map_none, List.getElem?_cons_zero, List.getElem?_cons_succ, List.set_cons_zero, List.set_cons_succ, List.map_cons, List.map_nil, List.any_cons, List.any_nil, List.length_cons, List.length_nil, List.replicate, List.cons_append, List.nil_append, Bool.or_false, Bool.false_or, Bool.or_true, Bool.true_or, Bool.not_false, Bool.not_true, Bool.and_true, Bool.true_and, Bool.and_false, Bool.false_and, if_true, ite_true, Bool.false_eq_true, if_false, ite_false, reduceIte, Nat.zero_add, Nat.add_zero, Nat.reduceAdd, Nat.reduceSub, Nat.sub_self, q1], q3, by omega⟩
    obtain ⟨high, g1, g2, g3⟩ := lc_each (u := u) (ε := [.val P, .val (.tuple (v.map PyData.int)), .val (.int (k : Nat)), .val (.tuple (m.map PyData.int)), .val (red (gd v j * 60) (sI s (gd m j))), .val (.tuple (low.map PyData.int)), .un, .un]) (tg := t_name 7) (te := E_ties_in_1) v
      (fun i n => IsHigh s (gd v j) (sI s (gd m j)) (gd v i) n ∧ n ≤ gd m i + 2) fun i a ha => by
        have hi := (List.getElem?_eq_some_iff.mp ha).1
        rw [gd_get hi] at ha
        cases ha
        have hm0 := dl.lo _ (gd_mem (v := m) (i := i) (by omega))
        have hm1 := M.hi _ (gd_mem (v := m) (i := i) (by omega))
        have hdi := hd i hi
        have hlt : gd v i * sI s (gd m j) < gd v j * sI s (gd m i + 2) := by
          have a1 := (sI_lo h (gd m i + 2)).2
          have a2 := sI_hi h (n := gd m i) (by omega)
          have a3 : gd v j * sI s (gd m i) < gd v j * sI s (gd m i + 2) := (Int.mul_lt_mul_left hvj.1).mpr (by omega)
          omega
        obtain ⟨n, q1, q2, q3⟩ := ev_seats_most (u := u) h d (sm_val V hi) (N := (gd m i + 2).toNat) (by omega) (by rw [show (((gd m i + 2).toNat : Nat) : Int) = gd m i + 2 by omega]; exact hlt)
        exact ⟨(n : Nat), _, rfl, by simp only [E_ties_in_1, lim0, lim1, lim2, lim3, lim4, Dl.run, s_seq, s_nop, s_ret, s_retN, s_if, s_set, s_put, s_app, s_augI, putA, s_expr, s_tg, s_parA, s_parB, noB, t_name, t_nil, t_cons, t_tup, e_bin, e_un, e_c, e_var, e_tup, e_lst, e_if, e_and, e_or, e_not, e_chain, e_orT, b_of, b_and, b_or, b_not, asB, asI, a_nil, a_cons, e_call, e_callB, toSl, thaw, isBor, noL, noList, noListAll, dats, dat1, k_add, addD, k_sub, k_mul, mulD, k_div, k_mod, k_pow, k_lt, k_le, k_gt, k_ge, k_neg, k_ix, intI, seqA, view, lstA, rfin, setR, k_len, k_tuple, k_list, k_sum, k_max, k_min, k_abs, k_int, k_gcd, k_all, k_isN, k_notN, k_isB, k_notB, isNon, e_slice, o_no, o_so, k_cut, Option.bind_some, Option.map_some, Option.bind_none, Option.map_none, List.getElem?_cons_zero, List.getElem?_cons_succ, List.set_cons_zero, List.set_cons_succ, List.map_cons, List.map_nil, List.any_cons, List.any_nil, List.length_cons, List.length_nil, List.replicate, List.cons_append, List.nil_append, Bool.or_false, Bool.false_or, Bool.or_true, Bool.true_or, Bool.not_false, Bool.not_true, Bool.and_true, Bool.true_and, Bool.and_false, Bool.false_and, if_true, ite_true, Bool.false_eq_true, if_false, ite_false, reduceIte, Nat.zero_add, Nat.add_zero, Nat.reduceAdd, Nat.reduceSub, Nat.sub_self, q1], q3, by omega⟩
    refine ⟨nb, low, high, ?_, ⟨l2, g2, ⟨_, _, d, fun i hi => ⟨(l3 i hi).1, (g3 i hi).1⟩⟩, ⟨m, dl.len, dl.sum, fun i hi => ⟨(l3 i hi).2, ?_⟩⟩, fun i hi => ?_⟩⟩
    · rw [hb] at e2
      have en := ne_own (u := u) []
      have ll : lim (low.map PyData.int).length = true := lim_of (by rw [List.length_map]; omega)
      have lg : lim (high.map PyData.int).length = true := lim_of (by rw [List.length_map]; omega)
      simp only [List.map_nil] at e2 en
      generalize v.map PyData.int = vd at *
      generalize m.map PyData.int = md at *
      generalize low.map PyData.int = ld at *
      generalize high.map PyData.int = hd' at *
      simp only [F_ties_in, d_ties_in, lim0, lim1, lim2, lim3, lim4, Dl.run, s_seq, s_nop, s_ret, s_retN, s_if, s_set, s_put, s_app, s_augI, putA, s_expr, s_tg, s_parA, s_parB, noB, t_name, t_nil, t_cons, t_tup, e_bin, e_un, e_c, e_var, e_tup, e_lst, e_if, e_and, e_or, e_not, e_chain, e_orT, b_of, b_and, b_or, b_not, asB, asI, a_nil, a_cons, e_call, e_callB, toSl, thaw, isBor, noL, noList, noListAll, dats, dat1, k_add, addD, k_sub, k_mul, mulD, k_div, k_mod, k_pow, k_lt, k_le, k_gt, k_ge, k_neg, k_ix, intI, seqA, view, lstA, rfin, setR, k_len, k_tuple, k_list, k_sum, k_max, k_min, k_abs, k_int, k_gcd, k_all, k_isN, k_notN, k_isB, k_notB, isNon, e_slice, o_no, o_so, k_cut, Option.bind_some, Option.map_some, Option.bind_none, Option.map_none, List.getElem?_cons_zero, List.getElem?_cons_succ, List.set_cons_zero, List.set_cons_succ, List.map_cons, List.map_nil, List.any_cons, List.any_nil, List.length_cons, List.length_nil, List.replicate, List.cons_append, List.nil_append, Bool.or_false, Bool.false_or, Bool.or_true, Bool.true_or, Bool.not_false, Bool.not_true, Bool.and_true, Bool.true_and, Bool.and_false, Bool.false_and, if_true, ite_true, Bool.false_eq_true, if_false, ite_false, reduceIte, Nat.zero_add, Nat.add_zero, Nat.reduceAdd, Nat.reduceSub, Nat.sub_self, e1, e2, en, show decide (([] : List Int) ≠ []) = false by decide, e3, e_lc, it_seq, wipeE, l1, ll, g1, lg]
    · have q := (g3 i hi).1
      rcases Int.lt_or_le (gd high i) (gd m i) with hlt | hle
      · have a1 := sI_mono h (n := gd high i) (m := gd m i - 1) (by omega)
        have a2 : gd v j * sI s (gd high i) ≤ gd v j * sI s (gd m i - 1) := Int.mul_le_mul_of_nonneg_left a1 (Int.le_of_lt hvj.1)
        have a3 := dl.ok i j hi hj
        have a4 := q.at_
        have e6 : gd v j * sI s (gd m i - 1) = sI s (gd m i - 1) * gd v j := Int.mul_comm _ _
        have e7 : gd v i * sI s (gd m j) = sI s (gd m j) * gd v i := Int.mul_comm _ _
        omega
      · exact hle
    · have := (g3 i hi).2
      have hm1 := le_sum dl.lo _ (gd_mem (v := m) (i := i) (by omega))
      have := dl.sum
      omega
  · left
    obtain ⟨x, l, hx⟩ := List.exists_cons_of_ne_nil hb
    obtain ⟨i, hi, y, hy, hz⟩ := bareF_mem m 0 x (by rw [hx]; exact List.mem_cons_self)
    have him : i < m.length := (List.getElem?_eq_some_iff.mp hy).1
    refine ⟨⟨i, by omega, by rw [gd_get him] at hy; cases hy; exact hz⟩, ?_⟩
    have en := ne_own (u := u) (bareF s 0 m)
    rw [decide_eq_true hb] at en
    generalize v.map PyData.int = vd at *
    generalize m.map PyData.int = md at *
    generalize (bareF s 0 m).map PyData.int = bd at *
    simp only [F_ties_in, d_ties_in, lim0, lim1, lim2, lim3, lim4, Dl.run, s_seq, s_nop, s_ret, s_retN, s_if, s_set, s_put, s_app, s_augI, putA, s_expr, s_tg, s_parA, s_parB, noB, t_name, t_nil, t_cons, t_tup, e_bin, e_un, e_c, e_var, e_tup, e_lst, e_if, e_and, e_or, e_not, e_chain, e_orT, b_of, b_and, b_or, b_not, asB, asI, a_nil, a_cons, e_call, e_callB, toSl, thaw, isBor, noL, noList, noListAll, dats, dat1, k_add, addD, k_sub, k_mul, mulD, k_div, k_mod, k_pow, k_lt, k_le, k_gt, k_ge, k_neg, k_ix, intI, seqA, view, lstA, rfin, setR, k_len, k_tuple, k_list, k_sum, k_max, k_min, k_abs, k_int, k_gcd, k_all, k_isN, k_notN, k_isB, k_notB, isNon, e_slice, o_no, o_so, k_cut, Option.bind_some, Option.map_some, Option.bind_none, Option.map_none, List.getElem?_cons_zero, List.getElem?_cons_succ, List.set_cons_zero, List.set_cons_succ, List.map_cons, List.map_nil, List.any_cons, List.any_nil, List.length_cons, List.length_nil, List.replicate, List.cons_append, List.nil_append, Bool.or_false, Bool.false_or, Bool.or_true, Bool.true_or, Bool.not_false, Bool.not_true, Bool.and_true, Bool.true_and, Bool.and_false, Bool.false_and, if_true, ite_true, Bool.false_eq_true, if_false, ite_false, reduceIte, Nat.zero_add, Nat.add_zero, Nat.reduceAdd, Nat.reduceSub, Nat.sub_self, e1, e2, en]
end
end K45
end

section
set_option Elab.async false
set_option linter.all false
set_option maxRecDepth 100000
/-! The plain law, part 8: all deals, the ends of seats. -/
namespace K45
open PySem PySem.Spec PyProof.Rows L2 Dl
variable {u : Ur}

theorem cut_from {ds : List D} {n : Nat} : Dl.cutD ds (some (n : Int)) none = ds.drop n := by
  unfold Dl.cutD
  rw [HT.sIx_nat, HT.sIx_none]
  by_cases h : n ≤ ds.length
  · rw [Nat.min_eq_left h, List.take_of_length_le (by rw [List.length_drop]; omega)]
  · rw [Nat.min_eq_right (by omega), List.drop_eq_nil_of_le (Nat.le_refl _), List.drop_eq_nil_of_le (by omega)]; simp
theorem cut_to {ds : List D} {n : Nat} : Dl.cutD ds none (some (n : Int)) = ds.take n := by
  unfold Dl.cutD
  rw [HT.sIx_nat, HT.sIx_none, List.drop_zero, Nat.sub_zero]
  by_cases h : n ≤ ds.length
  · rw [Nat.min_eq_left h]
  · rw [Nat.min_eq_right (by omega), List.take_of_length_le (Nat.le_refl _), List.take_of_length_le (by omega)]
theorem ints_ok : ∀ ns : List Int, intsD (ns.map PyData.int) = some ns
  | [] => rfl
  | n :: ns => by
    show (intsD (ns.map PyData.int)).map (n :: ·) = _
    rw [ints_ok ns]; rfl
theorem sum_drop {l : List Int} {p : Nat} (h : p < l.length) : (l.drop p).sum = gd l p + (l.drop (p + 1)).sum := by
  rw [List.drop_eq_getElem_cons h, List.sum_cons]
  have := gd_get h
  rw [List.getElem?_eq_getElem h] at this
  rw [Option.some.inj this]
def ti (r : List Int) : D := .tuple (r.map PyData.int)
section
variable {P : D} {s : Nat → Int}
/-- a row of rows: what slot 6 may hold -/
def RowsSl (x : Sl) (L : List (List Int)) : Prop := x = .own (L.map ti) ∨ x = .val (.list (L.map ti))
theorem deals_one {w0 w1 w3 w4 w5 w6 w7 z : Sl} {k rl rh n : Int} {r : List Int} {acc : List (List Int)} (hl : acc.length ≤ 10000000) (hr : r.length ≤ 1000) :
    B_deals_of_0 [w0, w1, .val (.int k), w3, w4, w5, w6, w7, .val (.tuple [.int rl, .int rh]), .own (acc.map ti), .val (ti r), .val (.int n), z] u =
      some (.nx [w0, w1, .val (.int k), w3, w4, w5, w6, w7, .val (.tuple [.int rl, .int rh]), .own ((if rl ≤ k - r.sum - n ∧ k - r.sum - n ≤ rh then acc ++ [r ++ [n]] else acc).map ti), .val (ti r), .val (.int n), .val (.int (k - r.sum - n))], u) := by
  have e1 : k_sum [.val (.tuple (r.map PyData.int))] = some (.val (.int r.sum)) := by
    simp only [k_sum, seqA, Option.bind_some, ints_ok, Option.map_some]
  have e2 : lim ((acc.map ti).length + 1) = true := cd_t (by rw [List.length_map]; omega)
  have e3 : lim ((r.map PyData.int).length + 1) = true := lim_of (by rw [List.length_map]; omega)
  have e4 : ti (r ++ [n]) = .tuple (r.map PyData.int ++ [.int n]) := by unfold ti; rw [List.map_append]; rfl
  by_cases h1 : rl ≤ k - r.sum - n
  · by_cases h2 : k - r.sum - n ≤ rh
    · rw [if_pos ⟨h1, h2⟩, List.map_append, List.map_cons, List.map_nil, e4]
      generalize acc.map ti = A at *
      unfold ti
      generalize r.map PyData.int = R at *
      simp only [B_deals_of_0, lim0, lim1, lim2, lim3, lim4, Dl.run, s_seq, s_nop, s_ret, s_retN, s_if, s_set, s_put, s_app, s_augI, putA, s_expr, s_tg, s_parA, s_parB, noB, t_name, t_nil, t_cons, t_tup, e_bin, e_un, e_c, e_var, e_tup, e_lst, e_if, e_and, e_or, e_not, e_chain, e_orT, b_of, b_and, b_or, b_not, asB, asI, a_nil, a_cons, e_call, e_callB, toSl, thaw, isBor, noL, noList, noListAll, dats, dat1, k_add, addD, k_sub, k_mul, mulD, k_div, k_mod, k_pow, k_lt, k_le, k_gt, k_ge, k_neg, k_ix, intI, seqA, view, lstA, rfin, setR, k_len, k_tuple, k_list, k_max, k_min, k_abs, k_int, k_gcd, k_all, k_isN, k_notN, k_isB, k_notB, isNon, e_slice, o_no, o_so, k_cut, Option.bind_some, Option.map_some, Option.bind_none, Option.map_none, List.getElem?_cons_zero, List.getElem?_cons_succ, List.set_cons_zero, List.set_cons_succ, List.map_cons, List.map_nil, List.any_cons, List.any_nil, List.length_cons, List.length_nil, List.replicate, List.cons_append, List.nil_append, Bool.or_false, Bool.false_or, Bool.or_true, Bool.true_or, Bool.not_false, Bool.not_true, Bool.and_true, Bool.true_and, Bool.and_false, Bool.false_and, if_true, ite_true, Bool.false_eq_true, if_false, ite_false, reduceIte, Nat.zero_add, Nat.add_zero, Nat.reduceAdd, Nat.reduceSub, Nat.sub_self, e1, atI0, atI1, decide_eq_true h1, decide_eq_true h2, e3, e2]
    · rw [if_neg (fun h => h2 h.2)]
      generalize acc.map ti = A at *
      unfold ti
      generalize r.map PyData.int = R at *
      simp only [B_deals_of_0, lim0, lim1, lim2, lim3, lim4, Dl.run, s_seq, s_nop, s_ret, s_retN, s_if, s_set, s_put, s_app, s_augI, putA, s_expr, s_tg, s_parA, s_parB, noB, t_name, t_nil, t_cons, t_tup, e_bin, e_un, e_c, e_var, e_tup, e_lst, e_if, e_and, e_or, e_not, e_chain, e_orT, b_of, b_and, b_or, b_not, asB, asI, a_nil, a_cons, e_call, e_callB, toSl, thaw, isBor, noL, noList, noListAll, dats, dat1, k_add, addD, k_sub, k_mul, mulD, k_div, k_mod, k_pow, k_lt, k_le, k_gt, k_ge, k_neg, k_ix, intI, seqA, view, lstA, rfin, setR, k_len, k_tuple, k_list, k_max, k_min, k_abs, k_int, k_gcd, k_all, k_isN, k_notN, k_isB, k_notB, isNon, e_slice, o_no, o_so, k_cut, Option.bind_some, Option.map_some, Option.bind_none, Option.map_none, List.getElem?_cons_zero, List.getElem?_cons_succ, List.set_cons_zero, List.set_cons_succ, List.map_cons, List.map_nil, List.any_cons, List.any_nil, List.length_cons, List.length_nil, List.replicate, List.cons_append, List.nil_append, Bool.or_false, Bool.false_or, Bool.or_true, Bool.true_or, Bool.not_false, Bool.not_true, Bool.and_true, Bool.true_and, Bool.and_false, Bool.false_and, if_true, ite_true, Bool.false_eq_true, if_false, ite_false, reduceIte, Nat.zero_add, Nat.add_zero, Nat.reduceAdd, Nat.reduceSub, Nat.sub_self, e1, atI0, atI1, decide_eq_true h1, decide_eq_false h2]
  · rw [if_neg (fun h => h1 h.1)]
    generalize acc.map ti = A at *
    unfold ti
    generalize r.map PyData.int = R at *
    simp only [B_deals_of_0, lim0, lim1, lim2, lim3, lim4, Dl.run, s_seq, s_nop, s_ret, s_retN, s_if, s_set, s_put, s_app, s_augI, putA, s_expr, s_tg, s_parA, s_parB, noB, t_name, t_nil, t_cons, t_tup, e_bin, e_un, e_c, e_var, e_tup, e_lst, e_if, e_and, e_or, e_not, e_chain, e_orT, b_of, b_and, b_or, b_not, asB, asI, a_nil, a_cons, e_call, e_callB, toSl, thaw, isBor, noL, noList, noListAll, dats, dat1, k_add, addD, k_sub, k_mul, mulD, k_div, k_mod, k_pow, k_lt, k_le, k_gt, k_ge, k_neg, k_ix, intI, seqA, view, lstA, rfin, setR, k_len, k_tuple, k_list, k_max, k_min, k_abs, k_int, k_gcd, k_all, k_isN, k_notN, k_isB, k_notB, isNon, e_slice, o_no, o_so, k_cut, Option.bind_some, Option.map_some, Option.bind_none, Option.map_none, List.getElem?_cons_zero, List.getElem?_cons_succ, List.set_cons_zero, List.set_cons_succ, List.map_cons, List.map_nil, List.any_cons, List.any_nil, List.length_cons, List.length_nil, List.replicate, List.cons_append, List.nil_append, Bool.or_false, Bool.false_or, Bool.or_true, Bool.true_or, Bool.not_false, Bool.not_true, Bool.and_true, Bool.true_and, Bool.and_false, Bool.false_and, if_true, ite_true, Bool.false_eq_true, if_false, ite_false, reduceIte, Nat.zero_add, Nat.add_zero, Nat.reduceAdd, Nat.reduceSub, Nat.sub_self, e1, atI0, atI1, decide_eq_false h1]
theorem deals_row {w0 w1 w3 w6 y z : Sl} {k rl rh : Int} {low high r : List Int} {acc : List (List Int)} {p b : Nat} (hp : p < low.length) (hp2 : p < high.length) (hlh : gd low p ≤ gd high p) (hb : gd high p + 1 - gd low p ≤ b) (hb2 : b ≤ 1000) (h0 : 0 ≤ gd low p) (h9 : gd high p ≤ 100000) (hl : acc.length + b ≤ 10000000) (hr : r.length ≤ 1000) :
    ∃ (acc' : List (List Int)) (y' z' : Sl), B_deals_of_1 [w0, w1, .val (.int k), w3, .val (ti low), .val (ti high), w6, .val (.int (p : Nat)), .val (.tuple [.int rl, .int rh]), .own (acc.map ti), .val (ti r), y, z] u =
      some (.nx [w0, w1, .val (.int k), w3, .val (ti low), .val (ti high), w6, .val (.int (p : Nat)), .val (.tuple [.int rl, .int rh]), .own (acc'.map ti), .val (ti r), y', z'], u) ∧
      acc'.length ≤ acc.length + b ∧ ∀ x, x ∈ acc' ↔ x ∈ acc ∨ ∃ n, gd low p ≤ n ∧ n ≤ gd high p ∧ (rl ≤ k - r.sum - n ∧ k - r.sum - n ≤ rh) ∧ x = r ++ [n] := by
  obtain ⟨ε', e1, acc', y', z', rfl, h1, h2⟩ := forD_inv (u := u) (tg := t_name 11) (body := B_deals_of_0)
    (fun i ε => ∃ (acc' : List (List Int)) (y z : Sl), ε = [w0, w1, .val (.int k), w3, .val (ti low), .val (ti high), w6, .val (.int (p : Nat)), .val (.tuple [.int rl, .int rh]), .own (acc'.map ti), .val (ti r), y, z] ∧ acc'.length ≤ acc.length + i ∧
      ∀ x, x ∈ acc' ↔ x ∈ acc ∨ ∃ n, gd low p ≤ n ∧ n < gd low p + i ∧ (rl ≤ k - r.sum - n ∧ k - r.sum - n ≤ rh) ∧ x = r ++ [n])
    (rgD (gd low p) (gd high p + 1 - gd low p).toNat) 0 [w0, w1, .val (.int k), w3, .val (ti low), .val (ti high), w6, .val (.int (p : Nat)), .val (.tuple [.int rl, .int rh]), .own (acc.map ti), .val (ti r), y, z]
    ⟨acc, y, z, rfl, Nat.le_refl _, fun x => ⟨.inl, fun h => by
      rcases h with h | ⟨n, h1, h2, _⟩
      · exact h
      · omega⟩⟩
    (fun i d ε hd hI => by
      obtain ⟨hi, rfl⟩ := rgD_get hd
      obtain ⟨acc', y, z, rfl, h1, h2⟩ := hI
      have e := deals_one (u := u) (w0 := w0) (w1 := w1) (w3 := w3) (w4 := .val (ti low)) (w5 := .val (ti high)) (w6 := w6) (w7 := .val (.int (p : Nat))) (z := z) (k := k) (rl := rl) (rh := rh) (n := gd low p + i) (r := r) (acc := acc') (by omega) hr
      refine ⟨_, _, rfl, e, _, _, _, rfl, ?_, fun x => ?_⟩
      · split
        · rw [List.length_append]; simp; omega
        · omega
      · by_cases hc : rl ≤ k - r.sum - (gd low p + i) ∧ k - r.sum - (gd low p + i) ≤ rh
        · rw [if_pos hc, List.mem_append, h2 x, List.mem_singleton]
          constructor
          · rintro ((h | ⟨n, q1, q2, q3, q4⟩) | h)
            · exact .inl h
            · exact .inr ⟨n, q1, by omega, q3, q4⟩
            · exact .inr ⟨gd low p + i, by omega, by omega, hc, h⟩
          · rintro (h | ⟨n, q1, q2, q3, q4⟩)
            · exact .inl (.inl h)
            · by_cases hn : n < gd low p + i
              · exact .inl (.inr ⟨n, q1, by omega, q3, q4⟩)
              · have : n = gd low p + i := by omega
                subst this
                exact .inr q4
        · rw [if_neg hc, h2 x]
          constructor
          · rintro (h | ⟨n, q1, q2, q3, q4⟩)
            · exact .inl h
            · exact .inr ⟨n, q1, by omega, q3, q4⟩
          · rintro (h | ⟨n, q1, q2, q3, q4⟩)
            · exact .inl h
            · by_cases hn : n < gd low p + i
              · exact .inr ⟨n, q1, by omega, q3, q4⟩
              · have : n = gd low p + i := by omega
                subst this
                exact absurd q3 hc)
  rw [rgD_len] at h1 h2
  refine ⟨acc', y', z', ?_, by omega, fun x => ?_⟩
  · have e9 : (a_cons (e_bin k_ix (e_var 4) (e_var 7)) (a_cons (e_bin k_add (e_bin k_ix (e_var 5) (e_var 7)) (e_c (.int 1))) a_nil)) [w0, w1, .val (.int k), w3, .val (ti low), .val (ti high), w6, .val (.int (p : Nat)), .val (.tuple [.int rl, .int rh]), .own (acc.map ti), .val (ti r), y, z] u = some ([.val (.int (gd low p)), .val (.int (gd high p + 1))], u) := by
      have x1 := ix_val (u := u) (q := ti low) (b := true) (m := low) (i := p) rfl hp
      have x2 := ix_val (u := u) (q := ti high) (b := true) (m := high) (i := p) rfl hp2
      simp only [lim0, lim1, lim2, lim3, lim4, Dl.run, s_seq, s_nop, s_ret, s_retN, s_if, s_set, s_put, s_app, s_augI, putA, s_expr, s_tg, s_parA, s_parB, noB, t_name, t_nil, t_cons, t_tup, e_bin, e_un, e_c, e_var, e_tup, e_lst, e_if, e_and, e_or, e_not, e_chain, e_orT, b_of, b_and, b_or, b_not, asB, asI, a_nil, a_cons, e_call, e_callB, toSl, thaw, isBor, noL, noList, noListAll, dats, dat1, k_add, addD, k_sub, k_mul, mulD, k_div, k_mod, k_pow, k_lt, k_le, k_gt, k_ge, k_neg, intI, seqA, view, lstA, rfin, setR, k_len, k_tuple, k_list, k_sum, k_max, k_min, k_abs, k_int, k_gcd, k_all, k_isN, k_notN, k_isB, k_notB, isNon, e_slice, o_no, o_so, k_cut, Option.bind_some, Option.map_some, Option.bind_none, Option.map_none, List.getElem?_cons_zero, List.getElem?_cons_succ, List.set_cons_zero, List.set_cons_succ, List.map_cons, List.map_nil, List.any_cons, List.any_nil, List.length_cons, List.length_nil, List.replicate, List.cons_append, List.nil_append, Bool.or_false, Bool.false_or, Bool.or_true, Bool.true_or, Bool.not_false, Bool.not_true, Bool.and_true, Bool.true_and, Bool.and_false, Bool.false_and, if_true, ite_true, Bool.false_eq_true, if_false, ite_false, reduceIte, Nat.zero_add, Nat.add_zero, Nat.reduceAdd, Nat.reduceSub, Nat.sub_self, x1, x2]
    exact for_ok (it2 e9 (by omega) (by omega) (by omega) (by omega)) rfl e1
  · rw [h2 x]
    constructor
    · rintro (h | ⟨n, q1, q2, q3, q4⟩)
      · exact .inl h
      · exact .inr ⟨n, q1, by omega, q3, q4⟩
    · rintro (h | ⟨n, q1, q2, q3, q4⟩)
      · exact .inl h
      · exact .inr ⟨n, q1, by omega, q3, q4⟩
theorem deals_place {w0 w1 w3 x6 x8 x9 x10 x11 x12 : Sl} {k : Int} {low high : List Int} {L : List (List Int)} {p b : Nat} (hx : RowsSl x6 L) (hp : p < low.length) (hp2 : p < high.length) (hlh : gd low p ≤ gd high p) (hb : gd high p + 1 - gd low p ≤ b) (hb2 : b ≤ 1000) (h0 : 0 ≤ gd low p) (h9 : gd high p ≤ 100000) (hl : L.length * b ≤ 9000000) (hr : ∀ r ∈ L, r.length ≤ 1000) :
    ∃ (L' : List (List Int)) (y8 y10 y11 y12 : Sl), B_deals_of_2 [w0, w1, .val (.int k), w3, .val (ti low), .val (ti high), x6, .val (.int (p : Nat)), x8, x9, x10, x11, x12] u =
      some (.nx [w0, w1, .val (.int k), w3, .val (ti low), .val (ti high), .val (.list (L'.map ti)), .val (.int (p : Nat)), y8, .val (.list (L'.map ti)), y10, y11, y12], u) ∧ L'.length ≤ L.length * b ∧
      ∀ x, x ∈ L' ↔ ∃ r ∈ L, ∃ n, gd low p ≤ n ∧ n ≤ gd high p ∧ ((low.drop (p + 1)).sum ≤ k - r.sum - n ∧ k - r.sum - n ≤ (high.drop (p + 1)).sum) ∧ x = r ++ [n] := by
  have body : ∀ (x6 : Sl), x6 = .val (.list (L.map ti)) → ∃ (L' : List (List Int)) (y10 y11 y12 : Sl),
      forD (t_name 10) B_deals_of_1 (L.map ti) [w0, w1, .val (.int k), w3, .val (ti low), .val (ti high), x6, .val (.int (p : Nat)), .val (.tuple [.int (low.drop (p + 1)).sum, .int (high.drop (p + 1)).sum]), .own [], x10, x11, x12] u =
        some (.nx [w0, w1, .val (.int k), w3, .val (ti low), .val (ti high), x6, .val (.int (p : Nat)), .val (.tuple [.int (low.drop (p + 1)).sum, .int (high.drop (p + 1)).sum]), .own (L'.map ti), y10, y11, y12], u) ∧ L'.length ≤ L.length * b ∧
      ∀ x, x ∈ L' ↔ ∃ r ∈ L, ∃ n, gd low p ≤ n ∧ n ≤ gd high p ∧ ((low.drop (p + 1)).sum ≤ k - r.sum - n ∧ k - r.sum - n ≤ (high.drop (p + 1)).sum) ∧ x = r ++ [n] := fun x6 _ => by
    obtain ⟨ε', e1, L', y10, y11, y12, rfl, h1, h2⟩ := forD_inv (u := u) (tg := t_name 10) (body := B_deals_of_1)
      (fun i ε => ∃ (L' : List (List Int)) (y10 y11 y12 : Sl), ε = [w0, w1, .val (.int k), w3, .val (ti low), .val (ti high), x6, .val (.int (p : Nat)), .val (.tuple [.int (low.drop (p + 1)).sum, .int (high.drop (p + 1)).sum]), .own (L'.map ti), y10, y11, y12] ∧ L'.length ≤ i * b ∧
        ∀ x, x ∈ L' ↔ ∃ j r, j < i ∧ L[j]? = some r ∧ ∃ n, gd low p ≤ n ∧ n ≤ gd high p ∧ ((low.drop (p + 1)).sum ≤ k - r.sum - n ∧ k - r.sum - n ≤ (high.drop (p + 1)).sum) ∧ x = r ++ [n])
      (L.map ti) 0 [w0, w1, .val (.int k), w3, .val (ti low), .val (ti high), x6, .val (.int (p : Nat)), .val (.tuple [.int (low.drop (p + 1)).sum, .int (high.drop (p + 1)).sum]), .own [], x10, x11, x12]
      ⟨[], _, _, _, rfl, by simp, fun x => ⟨(fun h => by cases h), (fun ⟨j, r, hj, _⟩ => by omega)⟩⟩
      (fun i d ε hd hI => by
        rw [List.getElem?_map] at hd
        obtain ⟨r, hr1, rfl⟩ := Option.map_eq_some_iff.mp hd
        obtain ⟨L', y10, y11, y12, rfl, h1, h2⟩ := hI
        have hi := (List.getElem?_eq_some_iff.mp hr1).1
        have hib : (i + 1) * b ≤ L.length * b := Nat.mul_le_mul_right b hi
        have hib2 : (i + 1) * b = i * b + b := by rw [Nat.add_mul, Nat.one_mul]
        rw [Nat.zero_add] at h1 h2 ⊢
        obtain ⟨acc', y', z', e, q1, q2⟩ := deals_row (u := u) (w0 := w0) (w1 := w1) (w3 := w3) (w6 := x6) (y := y11) (z := y12) (k := k) (rl := (low.drop (p + 1)).sum) (rh := (high.drop (p + 1)).sum) (acc := L') hp hp2 hlh hb hb2 h0 h9 (by omega) (hr r (List.mem_of_getElem? hr1))
        refine ⟨_, _, rfl, e, acc', _, _, _, rfl, by omega, fun x => ?_⟩
        rw [q2 x, h2 x]
        constructor
        · rintro (⟨j, r', hj, hr', h⟩ | h)
          · exact ⟨j, r', by omega, hr', h⟩
          · exact ⟨i, r, by omega, hr1, h⟩
        · rintro ⟨j, r', hj, hr', h⟩
          by_cases hji : j < i
          · exact .inl ⟨j, r', hji, hr', h⟩
          · have : j = i := by omega
            subst this
            rw [hr1] at hr'
            cases hr'
            exact .inr h)
    refine ⟨L', y10, y11, y12, e1, by rw [List.length_map, Nat.zero_add] at h1; exact h1, fun x => ?_⟩
    rw [h2 x]
    constructor
    · rintro ⟨j, r, _, hr', h⟩
      exact ⟨r, List.mem_of_getElem? hr', h⟩
    · rintro ⟨r, hr', h⟩
      obtain ⟨j, hj, e⟩ := List.mem_iff_getElem.mp hr'
      exact ⟨j, r, by rw [List.length_map]; omega, by rw [List.getElem?_eq_getElem hj, e], h⟩
  obtain ⟨L', y10, y11, y12, e1, h1, h2⟩ := body _ rfl
  refine ⟨L', .val (.tuple [.int (low.drop (p + 1)).sum, .int (high.drop (p + 1)).sum]), y10, y11, y12, ?_, h1, h2⟩
  have s1 : k_cut (.val (ti low)) (some ((p : Int) + 1)) none = some (.val (ti (low.drop (p + 1)))) := by
    have := cut_from (ds := low.map PyData.int) (n := p + 1)
    simp only [k_cut, ti, seqA, Option.map_some, if_true, show ((p : Int) + 1) = ((p + 1 : Nat) : Int) by omega, this, List.map_drop]
  have s2 : k_cut (.val (ti high)) (some ((p : Int) + 1)) none = some (.val (ti (high.drop (p + 1)))) := by
    have := cut_from (ds := high.map PyData.int) (n := p + 1)
    simp only [k_cut, ti, seqA, Option.map_some, if_true, show ((p : Int) + 1) = ((p + 1 : Nat) : Int) by omega, this, List.map_drop]
  have s3 : ∀ l : List Int, k_sum [.val (ti l)] = some (.val (.int l.sum)) := fun l => by
    simp only [k_sum, ti, seqA, Option.bind_some, ints_ok, Option.map_some]
  have e3 : s_for (it_seq (e_var 6)) (t_name 10) B_deals_of_1 [w0, w1, .val (.int k), w3, .val (ti low), .val (ti high), .val (.list (L.map ti)), .val (.int (p : Nat)), .val (.tuple [.int (low.drop (p + 1)).sum, .int (high.drop (p + 1)).sum]), .own [], x10, x11, x12] u = _ :=
    for_ok (rs := [.val (.list (L.map ti))]) (its := L.map ti) (u' := u) (by simp only [it_seq, lim0, lim1, lim2, lim3, lim4, Dl.run, s_seq, s_nop, s_ret, s_retN, s_if, s_set, s_put, s_app, s_augI, putA, s_expr, s_tg, s_parA, s_parB, noB, t_name, t_nil, t_cons, t_tup, e_bin, e_un, e_c, e_var, e_tup, e_lst, e_if, e_and, e_or, e_not, e_chain, e_orT, b_of, b_and, b_or, b_not, asB, asI, a_nil, a_cons, e_call, e_callB, toSl, thaw, isBor, noL, noList, noListAll, dats, dat1, k_add, addD, k_sub, k_mul, mulD, k_div, k_mod, k_pow, k_lt, k_le, k_gt, k_ge, k_neg, k_ix, intI, seqA, view, lstA, rfin, setR, k_len, k_tuple, k_list, k_sum, k_max, k_min, k_abs, k_int, k_gcd, k_all, k_isN, k_notN, k_isB, k_notB, isNon, e_slice, o_no, o_so, k_cut, Option.bind_some, Option.map_some, Option.bind_none, Option.map_none, List.getElem?_cons_zero, List.getElem?_cons_succ, List.set_cons_zero, List.set_cons_succ, List.map_cons, List.map_nil, List.any_cons, List.any_nil, List.length_cons, List.length_nil, List.replicate, List.cons_append, List.nil_append, Bool.or_false, Bool.false_or, Bool.or_true, Bool.true_or, Bool.not_false, Bool.not_true, Bool.and_true, Bool.true_and, Bool.and_false, Bool.false_and, if_true, ite_true, Bool.false_eq_true, if_false, ite_false, reduceIte, Nat.zero_add, Nat.add_zero, Nat.reduceAdd, Nat.reduceSub, Nat.sub_self]) rfl e1
  rcases hx with rfl | rfl
  all_goals
    generalize L.map ti = A at *
    generalize L'.map ti = A' at *
    generalize hlo : ti low = lo at *
    generalize hhi : ti high = hi at *
  · simp only [B_deals_of_2, ghost, lim0, lim1, lim2, lim3, lim4, Dl.run, s_seq, s_nop, s_ret, s_retN, s_if, s_set, s_put, s_app, s_augI, putA, s_expr, s_tg, s_parA, s_parB, noB, t_name, t_nil, t_cons, t_tup, e_bin, e_un, e_c, e_var, e_tup, e_lst, e_if, e_and, e_or, e_not, e_chain, e_orT, b_of, b_and, b_or, b_not, asB, asI, a_nil, a_cons, e_call, e_callB, toSl, thaw, isBor, noL, noList, noListAll, dats, dat1, k_add, addD, k_sub, k_mul, mulD, k_div, k_mod, k_pow, k_lt, k_le, k_gt, k_ge, k_neg, k_ix, intI, seqA, view, lstA, rfin, setR, k_len, k_tuple, k_list, k_max, k_min, k_abs, k_int, k_gcd, k_all, k_isN, k_notN, k_isB, k_notB, isNon, e_slice, o_no, o_so, Option.bind_some, Option.map_some, Option.bind_none, Option.map_none, List.getElem?_cons_zero, List.getElem?_cons_succ, List.set_cons_zero, List.set_cons_succ, List.map_cons, List.map_nil, List.any_cons, List.any_nil, List.length_cons, List.length_nil, List.replicate, List.cons_append, List.nil_append, Bool.or_false, Bool.false_or, Bool.or_true, Bool.true_or, Bool.not_false, Bool.not_true, Bool.and_true, Bool.true_and, Bool.and_false, Bool.false_and, if_true, ite_true, Bool.false_eq_true, if_false, ite_false, reduceIte, Nat.zero_add, Nat.add_zero, Nat.reduceAdd, Nat.reduceSub, Nat.sub_self, s1, s2, s3, e3]
  · simp only [B_deals_of_2, ghost, lim0, lim1, lim2, lim3, lim4, Dl.run, s_seq, s_nop, s_ret, s_retN, s_if, s_set, s_put, s_app, s_augI, putA, s_expr, s_tg, s_parA, s_parB, noB, t_name, t_nil, t_cons, t_tup, e_bin, e_un, e_c, e_var, e_tup, e_lst, e_if, e_and, e_or, e_not, e_chain, e_orT, b_of, b_and, b_or, b_not, asB, asI, a_nil, a_cons, e_call, e_callB, toSl, thaw, isBor, noL, noList, noListAll, dats, dat1, k_add, addD, k_sub, k_mul, mulD, k_div, k_mod, k_pow, k_lt, k_le, k_gt, k_ge, k_neg, k_ix, intI, seqA, view, lstA, rfin, setR, k_len, k_tuple, k_list, k_max, k_min, k_abs, k_int, k_gcd, k_all, k_isN, k_notN, k_isB, k_notB, isNon, e_slice, o_no, o_so, Option.bind_some, Option.map_some, Option.bind_none, Option.map_none, List.getElem?_cons_zero, List.getElem?_cons_succ, List.set_cons_zero, List.set_cons_succ, List.map_cons, List.map_nil, List.any_cons, List.any_nil, List.length_cons, List.length_nil, List.replicate, List.cons_append, List.nil_append, Bool.or_false, Bool.false_or, Bool.or_true, Bool.true_or, Bool.not_false, Bool.not_true, Bool.and_true, Bool.true_and, Bool.and_false, Bool.false_and, if_true, ite_true, Bool.false_eq_true, if_false, ite_false, reduceIte, Nat.zero_add, Nat.add_zero, Nat.reduceAdd, Nat.reduceSub, Nat.sub_self, s1, s2, s3, e3]
/-- a prefix that can be gone on with -/
structure Pre (low high : List Int) (k : Int) (p : Nat) (r : List Int) : Prop where
  len : r.length = p
  be : ∀ i, i < p → gd low i ≤ gd r i ∧ gd r i ≤ gd high i
  lo : (low.drop p).sum ≤ k - r.sum
  hi : k - r.sum ≤ (high.drop p).sum
theorem gd_app1 {r : List Int} {n : Int} {i : Nat} (h : i < r.length) : gd (r ++ [n]) i = gd r i := by
  unfold gd
  rw [List.getD_eq_getElem?_getD, List.getD_eq_getElem?_getD, List.getElem?_append_left h]
theorem gd_app2 {r : List Int} {n : Int} : gd (r ++ [n]) r.length = n := by
  unfold gd
  rw [List.getD_eq_getElem?_getD, List.getElem?_append_right (Nat.le_refl _), Nat.sub_self]; rfl
theorem pre_step {low high : List Int} {k : Int} {p : Nat} (hp : p < low.length) (hp2 : p < high.length) (x : List Int) :
    (∃ r, Pre low high k p r ∧ ∃ n, gd low p ≤ n ∧ n ≤ gd high p ∧ ((low.drop (p + 1)).sum ≤ k - r.sum - n ∧ k - r.sum - n ≤ (high.drop (p + 1)).sum) ∧ x = r ++ [n]) ↔ Pre low high k (p + 1) x := by
  have s1 := sum_drop hp
  have s2 := sum_drop hp2
  constructor
  · rintro ⟨r, h, n, h1, h2, h3, rfl⟩
    have hl := h.len
    refine ⟨by simp [hl], fun i hi => ?_, ?_, ?_⟩
    · by_cases hip : i < p
      · rw [gd_app1 (by omega)]; exact h.be i hip
      · have : i = r.length := by omega
        subst this
        rw [gd_app2]; rw [hl]; exact ⟨h1, h2⟩
    · rw [List.sum_append]; simp; omega
    · rw [List.sum_append]; simp; omega
  · intro h
    have hl := h.len
    have e : x = x.take p ++ [gd x p] := by
      have h1 : p < x.length := by omega
      have := gd_get h1
      rw [List.getElem?_eq_getElem h1] at this
      rw [← Option.some.inj this, ← List.take_succ_eq_append_getElem h1, List.take_of_length_le (by omega)]
    have hb := h.be p (by omega)
    have hs : x.sum = (x.take p).sum + gd x p := by
      have := congrArg List.sum e
      rw [List.sum_append] at this
      simpa using this
    have hlo := h.lo
    have hhi := h.hi
    refine ⟨x.take p, ⟨by rw [List.length_take]; omega, fun i hi => ?_, by omega, by omega⟩, gd x p, hb.1, hb.2, ⟨by omega, by omega⟩, e⟩
    have := h.be i (by omega)
    have e2 : gd (x.take p) i = gd x i := by
      unfold gd
      rw [List.getD_eq_getElem?_getD, List.getD_eq_getElem?_getD, List.getElem?_take, if_pos hi]
    rw [e2]; exact this
theorem sum_le_sum : ∀ {a b : List Int}, a.length = b.length → (∀ i, i < a.length → gd a i ≤ gd b i) → a.sum ≤ b.sum
  | [], [], _, _ => Int.le_refl _
  | x :: a, y :: b, hl, h => by
    have h1 : x ≤ y := h 0 (by simp)
    have h2 := sum_le_sum (a := a) (b := b) (by simpa using hl) fun i hi => h (i + 1) (by simpa using hi)
    simp only [List.sum_cons]; omega
theorem Ties.sums {v low high : List Int} {k : Nat} (t : Ties s v k low high) : low.sum ≤ k ∧ (k : Int) ≤ high.sum := by
  obtain ⟨m, h1, h2, h3⟩ := t.ml
  have := t.ll
  have := t.hl
  constructor
  · rw [← h2]; exact sum_le_sum (by omega) fun i hi => (h3 i (by omega)).1
  · rw [← h2]; exact sum_le_sum (by omega) fun i hi => (h3 i (by omega)).2
/-- the rows of all deals -/
structure Rows (low high : List Int) (k : Nat) (L : List (List Int)) : Prop where
  mem : ∀ r, r ∈ L ↔ r.length = low.length ∧ (∀ i, i < low.length → gd low i ≤ gd r i ∧ gd r i ≤ gd high i) ∧ r.sum = k
  len : L.length ≤ 9000000
theorem ev_deals_of (h : PostOk P s) {v : List Int} (h0 : 0 < v.length) (hl2 : v.length ≤ 6) {k : Nat} (hk : k ≤ 7) {low high : List Int}
    (hT : F_ties_in [.val P, .val (.tuple (v.map PyData.int)), .val (.int (k : Nat))] u = some (.val (.tuple [.tuple (low.map PyData.int), .tuple (high.map PyData.int)]), u)) (t : Ties s v k low high) :
    ∃ L, F_deals_of [.val P, .val (.tuple (v.map PyData.int)), .val (.int (k : Nat))] u = some (.val (.list (L.map ti)), u) ∧ Rows low high k L := by
  have hll := t.ll
  have hhl := t.hl
  obtain ⟨X, Y, dX, hd⟩ := t.dv
  obtain ⟨m, m1, m2, m3⟩ := t.ml
  have t1 := ev_tuple_of (u := u) h.rowTup.1
  rw [h.rowTup.2] at t1
  have t2 := ev_tuple_of (u := u) (lay_ints 4 v (by omega)).1
  rw [show tupD (.tuple (v.map PyData.int)) = .tuple (v.map PyData.int) by rw [tupD, tupDs_ints]] at t2
  have pow : ∀ p, p ≤ 6 → 10 ^ p ≤ 1000000 := fun p hp => Nat.le_trans (Nat.pow_le_pow_right (by decide) hp) (by decide)
  obtain ⟨ε', e1, L, x6, x7, x8, x9, x10, x11, x12, rfl, hx, hL, hm⟩ := forD_inv (u := u) (tg := t_name 7) (body := B_deals_of_2)
    (fun p ε => ∃ (L : List (List Int)) (x6 x7 x8 x9 x10 x11 x12 : Sl), ε = [.val P, .val (.tuple (v.map PyData.int)), .val (.int (k : Nat)), .val (.tuple [ti low, ti high]), .val (ti low), .val (ti high), x6, x7, x8, x9, x10, x11, x12] ∧ ((p = 0 ∧ x6 = .own (L.map ti)) ∨ (0 < p ∧ x6 = .val (.list (L.map ti)))) ∧ L.length ≤ 10 ^ p ∧ ∀ r, r ∈ L ↔ Pre low high k p r)
    (rgD 0 low.length) 0 [.val P, .val (.tuple (v.map PyData.int)), .val (.int (k : Nat)), .val (.tuple [ti low, ti high]), .val (ti low), .val (ti high), .own [ti []], .un, .un, .un, .un, .un, .un]
    ⟨[[]], _, _, _, _, _, _, _, rfl, .inl ⟨rfl, rfl⟩, by simp, fun r => by
      obtain ⟨q1, q2⟩ := t.sums
      rw [List.mem_singleton]
      constructor
      · rintro rfl
        exact ⟨rfl, fun i hi => by omega, by simp; omega, by simp; omega⟩
      · intro q
        exact List.eq_nil_of_length_eq_zero q.len⟩
    (fun p d ε hd' hI => by
      obtain ⟨hp, rfl⟩ := rgD_get hd'
      obtain ⟨L, x6, x7, x8, x9, x10, x11, x12, rfl, hx, hL, hm⟩ := hI
      rw [Nat.zero_add] at hx hL hm ⊢
      rw [show (0 : Int) + (p : Nat) = (p : Nat) by omega]
      have q := hd p (by omega)
      have q1 := q.1.lo
      have q2 := t.sm p (by omega)
      have q3 := m3 p (by omega)
      have hp1 := pow (p + 1) (by omega)
      obtain ⟨L', y8, y10, y11, y12, e, l1, l2⟩ := deals_place (u := u) (w0 := .val P) (w1 := .val (.tuple (v.map PyData.int))) (w3 := .val (.tuple [ti low, ti high])) (x6 := x6) (x8 := x8) (x9 := x9) (x10 := x10) (x11 := x11) (x12 := x12) (k := (k : Nat)) (low := low) (high := high) (L := L) (p := p) (b := 10)
        (by rcases hx with hx | hx; exact .inl hx.2; exact .inr hx.2) hp (by omega) (by omega) (by omega) (by decide) q1 (by omega) (by
          have : L.length * 10 ≤ 10 ^ p * 10 := Nat.mul_le_mul_right 10 hL
          have : 10 ^ (p + 1) = 10 ^ p * 10 := Nat.pow_succ _ _
          omega) (fun r hr => by have := ((hm r).mp hr).len; omega)
      refine ⟨_, _, rfl, e, L', _, _, _, _, _, _, _, rfl, .inr ⟨by omega, rfl⟩, by rw [Nat.pow_succ]; exact Nat.le_trans l1 (Nat.mul_le_mul_right 10 hL), fun r => ?_⟩
      rw [l2 r, ← pre_step hp (by omega)]
      constructor
      · rintro ⟨r', h1, h2⟩
        exact ⟨r', (hm r').mp h1, h2⟩
      · rintro ⟨r', h1, h2⟩
        exact ⟨r', (hm r').mpr h1, h2⟩)
  rw [rgD_len, Nat.zero_add] at hx hL hm
  have hx2 : x6 = .val (.list (L.map ti)) := by
    rcases hx with hx | hx
    · omega
    · exact hx.2
  subst hx2
  refine ⟨L, ?_, fun r => ?_, by have := pow low.length (by omega); omega⟩
  · have e9 : (a_cons (e_callB k_len (a_cons (e_var 4) a_nil)) a_nil) [.val P, .val (.tuple (v.map PyData.int)), .val (.int (k : Nat)), .val (.tuple [ti low, ti high]), .val (ti low), .val (ti high), .own [ti []], .un, .un, .un, .un, .un, .un] u = some ([.val (.int low.length)], u) := by
      have := len_ok (q := ti low) (b := true) (m := low) rfl
      simp only [lim0, lim1, lim2, lim3, lim4, Dl.run, s_seq, s_nop, s_ret, s_retN, s_if, s_set, s_put, s_app, s_augI, putA, s_expr, s_tg, s_parA, s_parB, noB, t_name, t_nil, t_cons, t_tup, e_bin, e_un, e_c, e_var, e_tup, e_lst, e_if, e_and, e_or, e_not, e_chain, e_orT, b_of, b_and, b_or, b_not, asB, asI, a_nil, a_cons, e_call, e_callB, toSl, thaw, isBor, noL, noList, noListAll, dats, dat1, k_add, addD, k_sub, k_mul, mulD, k_div, k_mod, k_pow, k_lt, k_le, k_gt, k_ge, k_neg, k_ix, intI, seqA, view, lstA, rfin, setR, k_tuple, k_list, k_sum, k_max, k_min, k_abs, k_int, k_gcd, k_all, k_isN, k_notN, k_isB, k_notB, isNon, e_slice, o_no, o_so, k_cut, Option.bind_some, Option.map_some, Option.bind_none, Option.map_none, List.getElem?_cons_zero, List.getElem?_cons_succ, List.set_cons_zero, List.set_cons_succ, List.map_cons, List.map_nil, List.any_cons, List.any_nil, List.length_cons, List.length_nil, List.replicate, List.cons_append, List.nil_append, Bool.or_false, Bool.false_or, Bool.or_true, Bool.true_or, Bool.not_false, Bool.not_true, Bool.and_true, Bool.true_and, Bool.and_false, Bool.false_and, if_true, ite_true, Bool.false_eq_true, if_false, ite_false, reduceIte, Nat.zero_add, Nat.add_zero, Nat.reduceAdd, Nat.reduceSub, Nat.sub_self, this]
    rw [← show ((low.length : Nat) : Int).toNat = low.length from Int.toNat_natCast _] at e1
    have e3 := for_ok (it1 e9 (by omega) (by omega)) rfl e1
    have hT' : F_ties_in [.val P, .val (.tuple (v.map PyData.int)), .val (.int (k : Nat))] u = some (.val (.tuple [ti low, ti high]), u) := hT
    generalize L.map ti = A at *
    generalize v.map PyData.int = vd at *
    have e0 : ti [] = .tuple [] := rfl
    rw [e0] at e3
    generalize hlo : ti low = lo at *
    generalize hhi : ti high = hi at *
    simp only [F_deals_of, d_deals_of, lim0, lim1, lim2, lim3, lim4, Dl.run, s_seq, s_nop, s_ret, s_retN, s_if, s_set, s_put, s_app, s_augI, putA, s_expr, s_tg, s_parA, s_parB, noB, t_name, t_nil, t_cons, t_tup, e_bin, e_un, e_c, e_var, e_tup, e_lst, e_if, e_and, e_or, e_not, e_chain, e_orT, b_of, b_and, b_or, b_not, asB, asI, a_nil, a_cons, e_call, e_callB, toSl, thaw, isBor, noL, noList, noListAll, dats, dat1, k_add, addD, k_sub, k_mul, mulD, k_div, k_mod, k_pow, k_lt, k_le, k_gt, k_ge, k_neg, k_ix, intI, seqA, view, lstA, rfin, setR, k_tuple, k_list, k_sum, k_max, k_min, k_abs, k_int, k_gcd, k_all, k_isN, k_notN, k_isB, k_notB, isNon, e_slice, o_no, o_so, k_cut, Option.bind_some, Option.map_some, Option.bind_none, Option.map_none, List.getElem?_cons_zero, List.getElem?_cons_succ, List.set_cons_zero, List.set_cons_succ, List.map_cons, List.map_nil, List.any_cons, List.any_nil, List.length_cons, List.length_nil, List.replicate, List.cons_append, List.nil_append, Bool.or_false, Bool.false_or, Bool.or_true, Bool.true_or, Bool.not_false, Bool.not_true, Bool.and_true, Bool.true_and, Bool.and_false, Bool.false_and, if_true, ite_true, Bool.false_eq_true, if_false, ite_false, reduceIte, Nat.zero_add, Nat.add_zero, Nat.reduceAdd, Nat.reduceSub, Nat.sub_self, t1, t2, hT', e3]
  · rw [hm r]
    constructor
    · intro q
      have a1 := q.lo
      have a2 := q.hi
      rw [List.drop_eq_nil_of_le (by omega)] at a1 a2
      simp at a1 a2
      exact ⟨q.len, q.be, by omega⟩
    · rintro ⟨a1, a2, a3⟩
      refine ⟨a1, a2, ?_, ?_⟩
      · rw [List.drop_eq_nil_of_le (by omega)]; simp; omega
      · rw [List.drop_eq_nil_of_le (by omega)]; simp; omega
end
end K45
end

section
set_option Elab.async false
set_option linter.all false
set_option maxRecDepth 100000
/-! The plain law, part 9: the ends of seats, joined lists, promises. -/
namespace K45
open PySem PySem.Spec PyProof.Rows L2 Dl
variable {u : Ur}

theorem eq_int {i j : Int} : k_eq u (.val (.int i)) (.val (.int j)) = some (.val (.bool (decide (i = j)))) := by
  simp only [k_eq, view, Option.bind_some, eqD, SeqAt.shaped, PyData.canLay0, PyData.depth, PyData.eqv]
  by_cases h : i = j <;> simp [h]
theorem eq_emp_own : k_eq u (.own []) (.own []) = some (.val (.bool true)) := by
  have h3 : SeqAt.shaped (.list []) = true := (sh_rds []).1
  simp only [k_eq, view, Option.bind_some, eqD, h3, Bool.and_self, if_true, Option.map_some, PyData.eqv, PyData.eqvAll]
theorem len_ti (l : List Int) : k_len [.val (ti l)] = some (.val (.int l.length)) := len_ok (q := ti l) (b := true) rfl
theorem sum_ti (l : List Int) : k_sum [.val (ti l)] = some (.val (.int l.sum)) := by
  simp only [k_sum, ti, seqA, Option.bind_some, ints_ok, Option.map_some]
theorem ix_ti {l : List Int} {i : Nat} (h : i < l.length) : k_ix u (.val (ti l)) (.val (.int (i : Nat))) = some (.val (.int (gd l i))) := ix_val (q := ti l) (b := true) rfl h
theorem tup_ti {l : List Int} (h : l.length ≤ 1000) : F_tuple_of [.val (ti l)] u = some (.val (ti l), u) := by
  have t2 := ev_tuple_of (u := u) (lay_ints 4 l (by omega)).1
  rw [show tupD (.tuple (l.map PyData.int)) = .tuple (l.map PyData.int) by rw [tupD, tupDs_ints]] at t2
  exact t2
theorem ev_is_number {n : Int} : F_is_number [.val (.int n)] u = some (.val (.bool true), u) := by
  simp only [F_is_number, d_is_number, lim0, lim1, lim2, lim3, lim4, Dl.run, s_seq, s_nop, s_ret, s_retN, s_if, s_set, s_put, s_app, s_augI, putA, s_expr, s_tg, s_parA, s_parB, noB, t_name, t_nil, t_cons, t_tup, e_bin, e_un, e_c, e_var, e_tup, e_lst, e_if, e_and, e_or, e_not, e_chain, e_orT, b_of, b_and, b_or, b_not, asB, asI, a_nil, a_cons, e_call, e_callB, toSl, thaw, isBor, noL, noList, noListAll, dats, dat1, k_add, addD, k_sub, k_mul, mulD, k_div, k_mod, k_pow, k_lt, k_le, k_gt, k_ge, k_neg, k_ix, intI, seqA, view, lstA, rfin, setR, k_len, k_tuple, k_list, k_sum, k_max, k_min, k_abs, k_int, k_gcd, k_all, k_isN, k_notN, k_isB, k_notB, isNon, e_slice, o_no, o_so, k_cut, Option.bind_some, Option.map_some, Option.bind_none, Option.map_none, List.getElem?_cons_zero, List.getElem?_cons_succ, List.set_cons_zero, List.set_cons_succ, List.map_cons, List.map_nil, List.any_cons, List.any_nil, List.length_cons, List.length_nil, List.replicate, List.cons_append, List.nil_append, Bool.or_false, Bool.false_or, Bool.or_true, Bool.true_or, Bool.not_false, Bool.not_true, Bool.and_true, Bool.true_and, Bool.and_false, Bool.false_and, if_true, ite_true, Bool.false_eq_true, if_false, ite_false, reduceIte, Nat.zero_add, Nat.add_zero, Nat.reduceAdd, Nat.reduceSub, Nat.sub_self, e_isi, tyN, show kitL "int" ["int"] = some true by decide, show kitL "int" ["bool"] = some false by decide]
theorem ev_sure_list {v : List Int} {n : Nat} (h : n < v.length) : F_sure_list [.val (ti v), .val (.int (n : Nat))] u = some (.val .none, u) := by
  have h1 : (0 : Int) ≤ (n : Nat) := by omega
  have h2 : ((n : Nat) : Int) < (v.length : Nat) := by omega
  simp only [F_sure_list, d_sure_list, lim0, lim1, lim2, lim3, lim4, Dl.run, s_seq, s_nop, s_ret, s_retN, s_if, s_set, s_put, s_app, s_augI, putA, s_expr, s_tg, s_parA, s_parB, noB, t_name, t_nil, t_cons, t_tup, e_bin, e_un, e_c, e_var, e_tup, e_lst, e_if, e_and, e_or, e_not, e_chain, e_orT, b_of, b_and, b_or, b_not, asB, asI, a_nil, a_cons, e_call, e_callB, toSl, thaw, isBor, noL, noList, noListAll, dats, dat1, k_add, addD, k_sub, k_mul, mulD, k_div, k_mod, k_pow, k_lt, k_le, k_gt, k_ge, k_neg, k_ix, intI, seqA, view, lstA, rfin, setR, k_tuple, k_list, k_sum, k_max, k_min, k_abs, k_int, k_gcd, k_all, k_isN, k_notN, k_isB, k_notB, isNon, e_slice, o_no, o_so, k_cut, Option.bind_some, Option.map_some, Option.bind_none, Option.map_none, List.getElem?_cons_zero, List.getElem?_cons_succ, List.set_cons_zero, List.set_cons_succ, List.map_cons, List.map_nil, List.any_cons, List.any_nil, List.length_cons, List.length_nil, List.replicate, List.cons_append, List.nil_append, Bool.or_false, Bool.false_or, Bool.or_true, Bool.true_or, Bool.not_false, Bool.not_true, Bool.and_true, Bool.true_and, Bool.and_false, Bool.false_and, if_true, ite_true, Bool.false_eq_true, if_false, ite_false, reduceIte, Nat.zero_add, Nat.add_zero, Nat.reduceAdd, Nat.reduceSub, Nat.sub_self, ev_is_number, len_ti, decide_eq_true h1, decide_eq_true h2]
section
variable {P : D} {s : Nat → Int}
/-- least and most seats of list n -/
def endLo (low high : List Int) (k n : Nat) : Int := max (gd low n) (k - (high.sum - gd high n))
def endHi (low high : List Int) (k n : Nat) : Int := min (gd high n) (k - (low.sum - gd low n))
theorem ev_seat_ends (h : PostOk P s) {v : List Int} (hl2 : v.length ≤ 6) {k n : Nat} (hn : n < v.length) {low high : List Int}
    (hT : F_ties_in [.val P, .val (ti v), .val (.int (k : Nat))] u = some (.val (.tuple [ti low, ti high]), u)) (t : Ties s v k low high) :
    F_seat_ends [.val P, .val (ti v), .val (.int (k : Nat)), .val (.int (n : Nat))] u = some (.val (.tuple [.int (endLo low high k n), .int (endHi low high k n)]), u) := by
  have t1 := ev_tuple_of (u := u) h.rowTup.1
  rw [h.rowTup.2] at t1
  have t2 := tup_ti (u := u) (l := v) (by omega)
  have e1 := ev_sure_list (u := u) hn
  have i1 := ix_ti (u := u) (l := low) (i := n) (by have := t.ll; omega)
  have i2 := ix_ti (u := u) (l := high) (i := n) (by have := t.hl; omega)
  have s1 := sum_ti low
  have s2 := sum_ti high
  have j0 : ∀ a b : D, k_ix u (.val (.tuple [a, b])) (.val (.int 0)) = some (.val a) := fun a b => by simp only [k_ix, seqA, Option.bind_some, atI0, Option.map_some]
  have j1 : ∀ a b : D, k_ix u (.val (.tuple [a, b])) (.val (.int 1)) = some (.val b) := fun a b => by simp only [k_ix, seqA, Option.bind_some, atI1, Option.map_some]
  unfold endLo endHi
  generalize ti low = lo at *
  generalize ti high = hi at *
  generalize ti v = vd at *
  simp only [F_seat_ends, d_seat_ends, lim0, lim1, lim2, lim3, lim4, Dl.run, s_seq, s_nop, s_ret, s_retN, s_if, s_set, s_put, s_app, s_augI, putA, s_expr, s_tg, s_parA, s_parB, noB, t_name, t_nil, t_cons, t_tup, e_bin, e_un, e_c, e_var, e_tup, e_lst, e_if, e_and, e_or, e_not, e_chain, e_orT, b_of, b_and, b_or, b_not, asB, asI, a_nil, a_cons, e_call, e_callB, toSl, thaw, isBor, noL, noList, noListAll, dats, dat1, k_add, addD, k_sub, k_mul, mulD, k_div, k_mod, k_pow, k_lt, k_le, k_gt, k_ge, k_neg, intI, seqA, view, lstA, rfin, setR, k_len, k_tuple, k_list, k_max, k_min, k_abs, k_int, k_gcd, k_all, k_isN, k_notN, k_isB, k_notB, isNon, e_slice, o_no, o_so, k_cut, Option.bind_some, Option.map_some, Option.bind_none, Option.map_none, List.getElem?_cons_zero, List.getElem?_cons_succ, List.set_cons_zero, List.set_cons_succ, List.map_cons, List.map_nil, List.any_cons, List.any_nil, List.length_cons, List.length_nil, List.replicate, List.cons_append, List.nil_append, Bool.or_false, Bool.false_or, Bool.or_true, Bool.true_or, Bool.not_false, Bool.not_true, Bool.and_true, Bool.true_and, Bool.and_false, Bool.false_and, if_true, ite_true, Bool.false_eq_true, if_false, ite_false, reduceIte, Nat.zero_add, Nat.add_zero, Nat.reduceAdd, Nat.reduceSub, Nat.sub_self, t1, t2, e1, hT, i1, i2, s1, s2, j0, j1]
/-! ### joined lists -/
def joined (w : List Int) (a b : Nat) : List Int := (w.set a (gd w a + gd w b)).take b ++ (w.set a (gd w a + gd w b)).drop (b + 1)
theorem ev_sure_two {n a b : Nat} (ha : a < n) (hb : b < n) (hab : a ≠ b) : F_sure_two [.val (.int (n : Nat)), .val (.int (a : Nat)), .val (.int (b : Nat))] u = some (.val .none, u) := by
  have h1 : (0 : Int) ≤ (a : Nat) := by omega
  have h2 : ((a : Nat) : Int) < (n : Nat) := by omega
  have h3 : (0 : Int) ≤ (b : Nat) := by omega
  have h4 : ((b : Nat) : Int) < (n : Nat) := by omega
  have h5 : ¬ ((a : Int) = (b : Int)) := by omega
  simp only [F_sure_two, d_sure_two, B_sure_two_0, s_for, it_seq, forD, lim0, lim1, lim2, lim3, lim4, Dl.run, s_seq, s_nop, s_ret, s_retN, s_if, s_set, s_put, s_app, s_augI, putA, s_expr, s_tg, s_parA, s_parB, noB, t_name, t_nil, t_cons, t_tup, e_bin, e_un, e_c, e_var, e_tup, e_lst, e_if, e_and, e_or, e_not, e_chain, e_orT, b_of, b_and, b_or, b_not, asB, asI, a_nil, a_cons, e_call, e_callB, toSl, thaw, isBor, noL, noList, noListAll, dats, dat1, k_add, addD, k_sub, k_mul, mulD, k_div, k_mod, k_pow, k_lt, k_le, k_gt, k_ge, k_neg, k_ix, intI, seqA, view, lstA, rfin, setR, k_len, k_tuple, k_list, k_sum, k_max, k_min, k_abs, k_int, k_gcd, k_all, k_isN, k_notN, k_isB, k_notB, isNon, e_slice, o_no, o_so, k_cut, Option.bind_some, Option.map_some, Option.bind_none, Option.map_none, List.getElem?_cons_zero, List.getElem?_cons_succ, List.set_cons_zero, List.set_cons_succ, List.map_cons, List.map_nil, List.any_cons, List.any_nil, List.length_cons, List.length_nil, List.replicate, List.cons_append, List.nil_append, Bool.or_false, Bool.false_or, Bool.or_true, Bool.true_or, Bool.not_false, Bool.not_true, Bool.and_true, Bool.true_and, Bool.and_false, Bool.false_and, if_true, ite_true, Bool.false_eq_true, if_false, ite_false, reduceIte, Nat.zero_add, Nat.add_zero, Nat.reduceAdd, Nat.reduceSub, Nat.sub_self, decide_eq_true h1, decide_eq_true h2, decide_eq_true h3, decide_eq_true h4, eq_int, decide_eq_false h5]
theorem ev_joined_votes {w : List Int} {a b x y : Nat} (hab : a < b) (hb : b < w.length) (hl : w.length ≤ 1000) (hxy : (x = a ∧ y = b) ∨ (x = b ∧ y = a)) :
    F_joined_votes [.val (ti w), .val (.int (x : Nat)), .val (.int (y : Nat))] u = some (.val (ti (joined w a b)), u) := by
  have e1 := ev_sure_two (u := u) (n := w.length) (a := x) (b := y) (by omega) (by omega) (by omega)
  have hmin : min (x : Int) (y : Int) = (a : Nat) := by omega
  have hmax : max (x : Int) (y : Int) = (b : Nat) := by omega
  have l1 := len_ti w
  have i1 := ix_bor (u := u) (i := 5) (m := w) (j := a) (by omega)
  have i2 := ix_bor (u := u) (i := 5) (m := w) (j := b) hb
  have p1 := put_own (u := u) (i := 5) (f := a) (m := w) (x := gd w a + gd w b) (ε := [.val (ti w), .val (.int (x : Nat)), .val (.int (y : Nat)), .val (.int (a : Nat)), .val (.int (b : Nat)), .own (w.map PyData.int)]) rfl (by omega)
  have c1 : k_cut (.bor 5 ((w.set a (gd w a + gd w b)).map PyData.int)) none (some (b : Nat)) = some (.own (((w.set a (gd w a + gd w b)).take b).map PyData.int)) := by
    simp only [k_cut, seqA, Option.map_some, cut_to, List.map_take, Bool.false_eq_true, if_false]
  have c2 : k_cut (.bor 5 ((w.set a (gd w a + gd w b)).map PyData.int)) (some ((b : Nat) + 1 : Int)) none = some (.own (((w.set a (gd w a + gd w b)).drop (b + 1)).map PyData.int)) := by
    have := cut_from (ds := (w.set a (gd w a + gd w b)).map PyData.int) (n := b + 1)
    simp only [k_cut, seqA, Option.map_some, show ((b : Nat) + 1 : Int) = ((b + 1 : Nat) : Int) by omega, this, List.map_drop, Bool.false_eq_true, if_false]
  have a1 : ∀ xs ys : List Int, xs.length + ys.length ≤ 100000 → k_add u (.own (xs.map PyData.int)) (.own (ys.map PyData.int)) = some (.own ((xs ++ ys).map PyData.int)) := fun xs ys h => by
    have : lim ((xs.map PyData.int).length + (ys.map PyData.int).length) = true := lim_of (by rw [List.length_map, List.length_map]; exact h)
    simp only [k_add, lstA, Option.bind_some, this, if_true, List.map_append]
  have a2 := a1 ((w.set a (gd w a + gd w b)).take b) ((w.set a (gd w a + gd w b)).drop (b + 1)) (by rw [List.length_take, List.length_drop, List.length_set]; omega)
  have k1 : k_list [.val (ti w)] = some (.own (w.map PyData.int)) := rfl
  unfold joined
  generalize hA : (w.set a (gd w a + gd w b)).take b = A at *
  generalize hB : (w.set a (gd w a + gd w b)).drop (b + 1) = B at *
  generalize hC : w.set a (gd w a + gd w b) = C at *
  have e2 : k_tuple [.own ((A ++ B).map PyData.int)] = some (.val (ti (A ++ B))) := rfl
  have e3 : k_tuple [.val (.list ((A ++ B).map PyData.int))] = some (.val (ti (A ++ B))) := rfl
  generalize hwl : w.map PyData.int = wl at *
  generalize ti w = wd at *
  generalize C.map PyData.int = cl at *
  generalize (A ++ B).map PyData.int = ab at *
  generalize A.map PyData.int = al at *
  generalize B.map PyData.int = bl at *
  have add : k_add u (.val (.int (gd w a))) (.val (.int (gd w b))) = some (.val (.int (gd w a + gd w b))) := rfl
  have add1 : k_add u (.val (.int (b : Nat))) (.val (.int 1)) = some (.val (.int ((b : Nat) + 1 : Int))) := rfl
  simp only [F_joined_votes, d_joined_votes, lim0, lim1, lim2, lim3, lim4, Dl.run, s_seq, s_nop, s_ret, s_retN, s_if, s_set, s_put, s_app, s_augI, s_expr, s_tg, s_parA, s_parB, noB, t_name, t_nil, t_cons, t_tup, e_bin, e_un, e_c, e_var, e_tup, e_lst, e_if, e_and, e_or, e_not, e_chain, e_orT, b_of, b_and, b_or, b_not, asB, asI, a_nil, a_cons, e_call, e_callB, toSl, thaw, isBor, noL, noList, noListAll, dats, dat1, addD, k_sub, k_mul, mulD, k_div, k_mod, k_pow, k_lt, k_le, k_gt, k_ge, k_neg, intI, seqA, view, lstA, rfin, setR, k_sum, k_max, k_min, k_abs, k_int, k_gcd, k_all, k_isN, k_notN, k_isB, k_notB, isNon, e_slice, o_no, o_so, Option.bind_some, Option.map_some, Option.bind_none, Option.map_none, List.getElem?_cons_zero, List.getElem?_cons_succ, List.set_cons_zero, List.set_cons_succ, List.map_cons, List.map_nil, List.any_cons, List.any_nil, List.length_cons, List.length_nil, List.replicate, List.cons_append, List.nil_append, Bool.or_false, Bool.false_or, Bool.or_true, Bool.true_or, Bool.not_false, Bool.not_true, Bool.and_true, Bool.true_and, Bool.and_false, Bool.false_and, if_true, ite_true, Bool.false_eq_true, if_false, ite_false, reduceIte, Nat.zero_add, Nat.add_zero, Nat.reduceAdd, Nat.reduceSub, Nat.sub_self, l1, e1, hmin, hmax, k1, i1, i2, add, p1, c1, c2, add1, a2, e3]
theorem ev_is_deal (h : PostOk P s) {v r : List Int} (V : Vs v) (M : Ms r) (hl2 : v.length ≤ 1000) (f : Fair s v r) : F_is_deal [.val P, .val (ti v), .val (ti r)] u = some (.val (.bool true), u) := by
  have t1 := ev_tuple_of (u := u) h.rowTup.1
  rw [h.rowTup.2] at t1
  have t2 := tup_ti (u := u) (l := v) hl2
  have t3 := tup_ti (u := u) (l := r) (by have := f.len; omega)
  have e1 := ev_faults_in (u := u) h (vd := ti v) (q := ti r) (b := true) (b' := true) rfl rfl V M hl2 f
  generalize ti v = vd at *
  generalize ti r = rr at *
  have e2 : F_faults_of [.val P, .val vd, .val rr] u = some (.own [], u) := by
    simp only [F_faults_of, d_faults_of, lim0, lim1, lim2, lim3, lim4, Dl.run, s_seq, s_nop, s_ret, s_retN, s_if, s_set, s_put, s_app, s_augI, putA, s_expr, s_tg, s_parA, s_parB, noB, t_name, t_nil, t_cons, t_tup, e_bin, e_un, e_c, e_var, e_tup, e_lst, e_if, e_and, e_or, e_not, e_chain, e_orT, b_of, b_and, b_or, b_not, asB, asI, a_nil, a_cons, e_call, e_callB, toSl, thaw, isBor, noL, noList, noListAll, dats, dat1, k_add, addD, k_sub, k_mul, mulD, k_div, k_mod, k_pow, k_lt, k_le, k_gt, k_ge, k_neg, k_ix, intI, seqA, view, lstA, rfin, setR, k_len, k_tuple, k_list, k_sum, k_max, k_min, k_abs, k_int, k_gcd, k_all, k_isN, k_notN, k_isB, k_notB, isNon, e_slice, o_no, o_so, k_cut, Option.bind_some, Option.map_some, Option.bind_none, Option.map_none, List.getElem?_cons_zero, List.getElem?_cons_succ, List.set_cons_zero, List.set_cons_succ, List.map_cons, List.map_nil, List.any_cons, List.any_nil, List.length_cons, List.length_nil, List.replicate, List.cons_append, List.nil_append, Bool.or_false, Bool.false_or, Bool.or_true, Bool.true_or, Bool.not_false, Bool.not_true, Bool.and_true, Bool.true_and, Bool.and_false, Bool.false_and, if_true, ite_true, Bool.false_eq_true, if_false, ite_false, reduceIte, Nat.zero_add, Nat.add_zero, Nat.reduceAdd, Nat.reduceSub, Nat.sub_self, t1, t2, t3, e1]
  simp only [F_is_deal, d_is_deal, lim0, lim1, lim2, lim3, lim4, Dl.run, s_seq, s_nop, s_ret, s_retN, s_if, s_set, s_put, s_app, s_augI, putA, s_expr, s_tg, s_parA, s_parB, noB, t_name, t_nil, t_cons, t_tup, e_bin, e_un, e_c, e_var, e_tup, e_lst, e_if, e_and, e_or, e_not, e_chain, e_orT, b_of, b_and, b_or, b_not, asB, asI, a_nil, a_cons, e_call, e_callB, toSl, thaw, isBor, noL, noList, noListAll, dats, dat1, k_add, addD, k_sub, k_mul, mulD, k_div, k_mod, k_pow, k_lt, k_le, k_gt, k_ge, k_neg, k_ix, intI, seqA, view, lstA, rfin, setR, k_len, k_tuple, k_list, k_sum, k_max, k_min, k_abs, k_int, k_gcd, k_all, k_isN, k_notN, k_isB, k_notB, isNon, e_slice, o_no, o_so, k_cut, Option.bind_some, Option.map_some, Option.bind_none, Option.map_none, List.getElem?_cons_zero, List.getElem?_cons_succ, List.set_cons_zero, List.set_cons_succ, List.map_cons, List.map_nil, List.any_cons, List.any_nil, List.length_cons, List.length_nil, List.replicate, List.cons_append, List.nil_append, Bool.or_false, Bool.false_or, Bool.or_true, Bool.true_or, Bool.not_false, Bool.not_true, Bool.and_true, Bool.true_and, Bool.and_false, Bool.false_and, if_true, ite_true, Bool.false_eq_true, if_false, ite_false, reduceIte, Nat.zero_add, Nat.add_zero, Nat.reduceAdd, Nat.reduceSub, Nat.sub_self, e2, eq_emp_own]
theorem ev_joined_seats (h : PostOk P s) {w r : List Int} (V : Vs w) (M : Ms r) (hl2 : w.length ≤ 1000) (f : Fair s w r) {a b : Nat} (hab : a < b) (hb : b < w.length) {lo hi : Int}
    (hS : F_seat_ends [.val P, .val (ti (joined w a b)), .val (.int r.sum), .val (.int (a : Nat))] u = some (.val (.tuple [.int lo, .int hi]), u)) :
    F_joined_seats [.val P, .val (ti w), .val (ti r), .val (.int (a : Nat)), .val (.int (b : Nat))] u = some (.val (.tuple [.int (gd r a + gd r b), .int lo, .int hi]), u) := by
  have t1 := ev_tuple_of (u := u) h.rowTup.1
  rw [h.rowTup.2] at t1
  have e1 := ev_joined_votes (u := u) hab hb hl2 (.inl ⟨rfl, rfl⟩)
  have e2 := ev_is_deal (u := u) h V M hl2 f
  have s1 := sum_ti r
  have hmin : min (a : Int) (b : Int) = (a : Nat) := by omega
  have hl := f.len
  have i1 := ix_ti (u := u) (l := r) (i := a) (by omega)
  have i2 := ix_ti (u := u) (l := r) (i := b) (by omega)
  generalize ti w = wd at *
  generalize ti r = rr at *
  generalize ti (joined w a b) = jd at *
  simp only [F_joined_seats, d_joined_seats, lim0, lim1, lim2, lim3, lim4, Dl.run, s_seq, s_nop, s_ret, s_retN, s_if, s_set, s_put, s_app, s_augI, putA, s_expr, s_tg, s_parA, s_parB, noB, t_name, t_nil, t_cons, t_tup, e_bin, e_un, e_c, e_var, e_tup, e_lst, e_if, e_and, e_or, e_not, e_chain, e_orT, b_of, b_and, b_or, b_not, asB, asI, a_nil, a_cons, e_call, e_callB, toSl, thaw, isBor, noL, noList, noListAll, dats, dat1, k_add, addD, k_sub, k_mul, mulD, k_div, k_mod, k_pow, k_lt, k_le, k_gt, k_ge, k_neg, intI, seqA, view, lstA, rfin, setR, k_len, k_tuple, k_list, k_max, k_min, k_abs, k_int, k_gcd, k_all, k_isN, k_notN, k_isB, k_notB, isNon, e_slice, o_no, o_so, k_cut, Option.bind_some, Option.map_some, Option.bind_none, Option.map_none, List.getElem?_cons_zero, List.getElem?_cons_succ, List.set_cons_zero, List.set_cons_succ, List.map_cons, List.map_nil, List.any_cons, List.any_nil, List.length_cons, List.length_nil, List.replicate, List.cons_append, List.nil_append, Bool.or_false, Bool.false_or, Bool.or_true, Bool.true_or, Bool.not_false, Bool.not_true, Bool.and_true, Bool.true_and, Bool.and_false, Bool.false_and, if_true, ite_true, Bool.false_eq_true, if_false, ite_false, reduceIte, Nat.zero_add, Nat.add_zero, Nat.reduceAdd, Nat.reduceSub, Nat.sub_self, t1, e1, e2, s1, hmin, hS, i1, i2]
end
end K45
end

section
set_option Elab.async false
set_option linter.all false
set_option maxRecDepth 100000
/-! The plain law, part 10: promises, even posts, sameness. -/
namespace K45
open PySem PySem.Spec PyProof.Rows L2 Dl
variable {u : Ur}

theorem eq_str {x y : Str} {b : Bool} (hx : SeqAt.shaped (.str x) = true) (hy : SeqAt.shaped (.str y) = true) (hb : (x == y) = b) : k_eq u (.val (.str x)) (.val (.str y)) = some (.val (.bool b)) := by
  simp only [k_eq, view, Option.bind_some, eqD, hx, hy, Bool.and_self, if_true, Option.map_some, PyData.eqv, hb]
theorem eq_bl {x y : Bool} : k_eq u (.val (.bool x)) (.val (.bool y)) = some (.val (.bool (x == y))) := by
  simp [k_eq, view, eqD, SeqAt.shaped, PyData.canLay0, PyData.depth, PyData.eqv]
theorem eq_fr {a b c d : Int} : k_eq u (.val (.tuple [.int a, .int b])) (.val (.tuple [.int c, .int d])) = some (.val (.bool (decide (a = c ∧ b = d)))) := by
  by_cases h1 : a = c <;> by_cases h2 : b = d <;> simp [k_eq, view, eqD, SeqAt.shaped, PyData.canLay0, PyData.canLayAll0, PyData.depth, PyData.depthAll, PyData.eqv, PyData.eqvAll, h1, h2]
theorem p1 : SeqAt.shaped (.str ("no fewer" : Str)) = true := by decide +kernel
theorem p2 : SeqAt.shaped (.str ("one fewer" : Str)) = true := by decide +kernel
theorem p3 : SeqAt.shaped (.str ("no more" : Str)) = true := by decide +kernel
theorem p4 : SeqAt.shaped (.str ("one more" : Str)) = true := by decide +kernel
/-! promises -/
theorem ev_kp1 {b l h : Int} : F_keeps_promise [.val (.str "no fewer"), .val (.int b), .val (.int l), .val (.int h)] u = some (.val (.bool (decide (b ≤ h))), u) := by
  have e1 := eq_str (u := u) p1 p1 (b := true) (by decide +kernel)
  simp only [F_keeps_promise, d_keeps_promise, lim0, lim1, lim2, lim3, lim4, Dl.run, s_seq, s_nop, s_ret, s_retN, s_if, s_set, s_put, s_app, s_augI, putA, s_expr, s_tg, s_parA, s_parB, noB, t_name, t_nil, t_cons, t_tup, e_bin, e_un, e_c, e_var, e_tup, e_lst, e_if, e_and, e_or, e_not, e_chain, e_orT, b_of, b_and, b_or, b_not, asB, asI, a_nil, a_cons, e_call, e_callB, toSl, thaw, isBor, noL, noList, noListAll, dats, dat1, k_add, addD, k_sub, k_mul, mulD, k_div, k_mod, k_pow, k_lt, k_le, k_gt, k_ge, k_neg, k_ix, intI, seqA, view, lstA, rfin, setR, k_len, k_tuple, k_list, k_sum, k_max, k_min, k_abs, k_int, k_gcd, k_all, k_isN, k_notN, k_isB, k_notB, isNon, e_slice, o_no, o_so, k_cut, Option.bind_some, Option.map_some, Option.bind_none, Option.map_none, List.getElem?_cons_zero, List.getElem?_cons_succ, List.set_cons_zero, List.set_cons_succ, List.map_cons, List.map_nil, List.any_cons, List.any_nil, List.length_cons, List.length_nil, List.replicate, List.cons_append, List.nil_append, Bool.or_false, Bool.false_or, Bool.or_true, Bool.true_or, Bool.not_false, Bool.not_true, Bool.and_true, Bool.true_and, Bool.and_false, Bool.false_and, if_true, ite_true, Bool.false_eq_true, if_false, ite_false, reduceIte, Nat.zero_add, Nat.add_zero, Nat.reduceAdd, Nat.reduceSub, Nat.sub_self, e1]
theorem ev_kp2 {b l h : Int} : F_keeps_promise [.val (.str "one fewer"), .val (.int b), .val (.int l), .val (.int h)] u = some (.val (.bool (decide (b - 1 ≤ h))), u) := by
  have e1 := eq_str (u := u) p2 p1 (b := false) (by decide +kernel)
  have e2 := eq_str (u := u) p2 p2 (b := true) (by decide +kernel)
  simp only [F_keeps_promise, d_keeps_promise, lim0, lim1, lim2, lim3, lim4, Dl.run, s_seq, s_nop, s_ret, s_retN, s_if, s_set, s_put, s_app, s_augI, putA, s_expr, s_tg, s_parA, s_parB, noB, t_name, t_nil, t_cons, t_tup, e_bin, e_un, e_c, e_var, e_tup, e_lst, e_if, e_and, e_or, e_not, e_chain, e_orT, b_of, b_and, b_or, b_not, asB, asI, a_nil, a_cons, e_call, e_callB, toSl, thaw, isBor, noL, noList, noListAll, dats, dat1, k_add, addD, k_sub, k_mul, mulD, k_div, k_mod, k_pow, k_lt, k_le, k_gt, k_ge, k_neg, k_ix, intI, seqA, view, lstA, rfin, setR, k_len, k_tuple, k_list, k_sum, k_max, k_min, k_abs, k_int, k_gcd, k_all, k_isN, k_notN, k_isB, k_notB, isNon, e_slice, o_no, o_so, k_cut, Option.bind_some, Option.map_some, Option.bind_none, Option.map_none, List.getElem?_cons_zero, List.getElem?_cons_succ, List.set_cons_zero, List.set_cons_succ, List.map_cons, List.map_nil, List.any_cons, List.any_nil, List.length_cons, List.length_nil, List.replicate, List.cons_append, List.nil_append, Bool.or_false, Bool.false_or, Bool.or_true, Bool.true_or, Bool.not_false, Bool.not_true, Bool.and_true, Bool.true_and, Bool.and_false, Bool.false_and, if_true, ite_true, Bool.false_eq_true, if_false, ite_false, reduceIte, Nat.zero_add, Nat.add_zero, Nat.reduceAdd, Nat.reduceSub, Nat.sub_self, e1, e2]
theorem ev_kp3 {b l h : Int} : F_keeps_promise [.val (.str "no more"), .val (.int b), .val (.int l), .val (.int h)] u = some (.val (.bool (decide (l ≤ b))), u) := by
  have e1 := eq_str (u := u) p3 p1 (b := false) (by decide +kernel)
  have e2 := eq_str (u := u) p3 p2 (b := false) (by decide +kernel)
  have e3 := eq_str (u := u) p3 p3 (b := true) (by decide +kernel)
  simp only [F_keeps_promise, d_keeps_promise, lim0, lim1, lim2, lim3, lim4, Dl.run, s_seq, s_nop, s_ret, s_retN, s_if, s_set, s_put, s_app, s_augI, putA, s_expr, s_tg, s_parA, s_parB, noB, t_name, t_nil, t_cons, t_tup, e_bin, e_un, e_c, e_var, e_tup, e_lst, e_if, e_and, e_or, e_not, e_chain, e_orT, b_of, b_and, b_or, b_not, asB, asI, a_nil, a_cons, e_call, e_callB, toSl, thaw, isBor, noL, noList, noListAll, dats, dat1, k_add, addD, k_sub, k_mul, mulD, k_div, k_mod, k_pow, k_lt, k_le, k_gt, k_ge, k_neg, k_ix, intI, seqA, view, lstA, rfin, setR, k_len, k_tuple, k_list, k_sum, k_max, k_min, k_abs, k_int, k_gcd, k_all, k_isN, k_notN, k_isB, k_notB, isNon, e_slice, o_no, o_so, k_cut, Option.bind_some, Option.map_some, Option.bind_none, Option.map_none, List.getElem?_cons_zero, List.getElem?_cons_succ, List.set_cons_zero, List.set_cons_succ, List.map_cons, List.map_nil, List.any_cons, List.any_nil, List.length_cons, List.length_nil, List.replicate, List.cons_append, List.nil_append, Bool.or_false, Bool.false_or, Bool.or_true, Bool.true_or, Bool.not_false, Bool.not_true, Bool.and_true, Bool.true_and, Bool.and_false, Bool.false_and, if_true, ite_true, Bool.false_eq_true, if_false, ite_false, reduceIte, Nat.zero_add, Nat.add_zero, Nat.reduceAdd, Nat.reduceSub, Nat.sub_self, e1, e2, e3]
theorem ev_kp4 {b l h : Int} : F_keeps_promise [.val (.str "one more"), .val (.int b), .val (.int l), .val (.int h)] u = some (.val (.bool (decide (l ≤ b + 1))), u) := by
  have e1 := eq_str (u := u) p4 p1 (b := false) (by decide +kernel)
  have e2 := eq_str (u := u) p4 p2 (b := false) (by decide +kernel)
  have e3 := eq_str (u := u) p4 p3 (b := false) (by decide +kernel)
  simp only [F_keeps_promise, d_keeps_promise, lim0, lim1, lim2, lim3, lim4, Dl.run, s_seq, s_nop, s_ret, s_retN, s_if, s_set, s_put, s_app, s_augI, putA, s_expr, s_tg, s_parA, s_parB, noB, t_name, t_nil, t_cons, t_tup, e_bin, e_un, e_c, e_var, e_tup, e_lst, e_if, e_and, e_or, e_not, e_chain, e_orT, b_of, b_and, b_or, b_not, asB, asI, a_nil, a_cons, e_call, e_callB, toSl, thaw, isBor, noL, noList, noListAll, dats, dat1, k_add, addD, k_sub, k_mul, mulD, k_div, k_mod, k_pow, k_lt, k_le, k_gt, k_ge, k_neg, k_ix, intI, seqA, view, lstA, rfin, setR, k_len, k_tuple, k_list, k_sum, k_max, k_min, k_abs, k_int, k_gcd, k_all, k_isN, k_notN, k_isB, k_notB, isNon, e_slice, o_no, o_so, k_cut, Option.bind_some, Option.map_some, Option.bind_none, Option.map_none, List.getElem?_cons_zero, List.getElem?_cons_succ, List.set_cons_zero, List.set_cons_succ, List.map_cons, List.map_nil, List.any_cons, List.any_nil, List.length_cons, List.length_nil, List.replicate, List.cons_append, List.nil_append, Bool.or_false, Bool.false_or, Bool.or_true, Bool.true_or, Bool.not_false, Bool.not_true, Bool.and_true, Bool.true_and, Bool.and_false, Bool.false_and, if_true, ite_true, Bool.false_eq_true, if_false, ite_false, reduceIte, Nat.zero_add, Nat.add_zero, Nat.reduceAdd, Nat.reduceSub, Nat.sub_self, e1, e2, e3]
theorem ev_kept {P W R : D} {x : Str} {a b : Int} {t lo hi : Int} {r : Bool} (h1 : F_joined_seats [.val P, .val W, .val R, .val (.int a), .val (.int b)] u = some (.val (.tuple [.int t, .int lo, .int hi]), u)) (h2 : F_keeps_promise [.val (.str x), .val (.int t), .val (.int lo), .val (.int hi)] u = some (.val (.bool r), u)) :
    F_is_kept_at [.val P, .val (.str x), .val W, .val R, .val (.int a), .val (.int b)] u = some (.val (.bool r), u) := by
  simp only [F_is_kept_at, d_is_kept_at, lim0, lim1, lim2, lim3, lim4, Dl.run, s_seq, s_nop, s_ret, s_retN, s_if, s_set, s_put, s_app, s_augI, putA, s_expr, s_tg, s_parA, s_parB, noB, t_name, t_nil, t_cons, t_tup, e_bin, e_un, e_c, e_var, e_tup, e_lst, e_if, e_and, e_or, e_not, e_chain, e_orT, b_of, b_and, b_or, b_not, asB, asI, a_nil, a_cons, e_call, e_callB, toSl, thaw, isBor, noL, noList, noListAll, dats, dat1, k_add, addD, k_sub, k_mul, mulD, k_div, k_mod, k_pow, k_lt, k_le, k_gt, k_ge, k_neg, k_ix, intI, seqA, view, lstA, rfin, setR, k_len, k_tuple, k_list, k_sum, k_max, k_min, k_abs, k_int, k_gcd, k_all, k_isN, k_notN, k_isB, k_notB, isNon, e_slice, o_no, o_so, k_cut, Option.bind_some, Option.map_some, Option.bind_none, Option.map_none, List.getElem?_cons_zero, List.getElem?_cons_succ, List.set_cons_zero, List.set_cons_succ, List.map_cons, List.map_nil, List.any_cons, List.any_nil, List.length_cons, List.length_nil, List.replicate, List.cons_append, List.nil_append, Bool.or_false, Bool.false_or, Bool.or_true, Bool.true_or, Bool.not_false, Bool.not_true, Bool.and_true, Bool.true_and, Bool.and_false, Bool.false_and, if_true, ite_true, Bool.false_eq_true, if_false, ite_false, reduceIte, Nat.zero_add, Nat.add_zero, Nat.reduceAdd, Nat.reduceSub, Nat.sub_self, h1, h2]
/-! even posts -/
def evenS (σ : Int) (n : Nat) : Int := 60 * n + σ
theorem even_ok {σ : Int} (h0 : 0 ≤ σ) (h1 : σ ≤ 60) : PostOk (.tuple [.tuple [], red σ 60]) (evenS σ) where
  ex := ⟨[], σ, rfl, (fun n d h => by simp at h), (fun n _ => rfl), by decide, h0, h1⟩
  lo := fun n => by unfold evenS; omega
  hi := fun n => by unfold evenS; omega
theorem ev_even {n d : Int} : F_even_posts [.val (red n d)] u = some (.val (.tuple [.tuple [], red n d]), u) := by
  have t := ev_tuple_of (u := u) (lay_red 4 n d)
  rw [tup_red] at t
  simp only [F_even_posts, d_even_posts, lim0, lim1, lim2, lim3, lim4, Dl.run, s_seq, s_nop, s_ret, s_retN, s_if, s_set, s_put, s_app, s_augI, putA, s_expr, s_tg, s_parA, s_parB, noB, t_name, t_nil, t_cons, t_tup, e_bin, e_un, e_c, e_var, e_tup, e_lst, e_if, e_and, e_or, e_not, e_chain, e_orT, b_of, b_and, b_or, b_not, asB, asI, a_nil, a_cons, e_call, e_callB, toSl, thaw, isBor, noL, noList, noListAll, dats, dat1, k_add, addD, k_sub, k_mul, mulD, k_div, k_mod, k_pow, k_lt, k_le, k_gt, k_ge, k_neg, k_ix, intI, seqA, view, lstA, rfin, setR, k_len, k_tuple, k_list, k_sum, k_max, k_min, k_abs, k_int, k_gcd, k_all, k_isN, k_notN, k_isB, k_notB, isNon, e_slice, o_no, o_so, k_cut, Option.bind_some, Option.map_some, Option.bind_none, Option.map_none, List.getElem?_cons_zero, List.getElem?_cons_succ, List.set_cons_zero, List.set_cons_succ, List.map_cons, List.map_nil, List.any_cons, List.any_nil, List.length_cons, List.length_nil, List.replicate, List.cons_append, List.nil_append, Bool.or_false, Bool.false_or, Bool.or_true, Bool.true_or, Bool.not_false, Bool.not_true, Bool.and_true, Bool.true_and, Bool.and_false, Bool.false_and, if_true, ite_true, Bool.false_eq_true, if_false, ite_false, reduceIte, Nat.zero_add, Nat.add_zero, Nat.reduceAdd, Nat.reduceSub, Nat.sub_self, t]
theorem ev_ka1 {σ : Int} (h0 : 0 ≤ σ) (h1 : σ ≤ 60) {p q : Int} (e : red σ 60 = fr p q) : F_keeps_always [.val (.tuple [.tuple [], red σ 60]), .val (.str "no fewer")] u = some (.val (.bool (decide (p = 1 ∧ q = 1))), u) := by
  have h := even_ok h0 h1
  have t1 := ev_tuple_of (u := u) h.rowTup.1
  rw [h.rowTup.2] at t1
  have e1 := ev_post_in (u := u) h (n := 0) (by decide)
  have e2 := eq_str (u := u) p1 p1 (b := true) (by decide +kernel)
  have e3 : F_starts_bare [.val (.tuple [.tuple [], red σ 60])] u = some (.val (.bool (decide (sI (evenS σ) 0 = 0))), u) := by
    simp only [F_starts_bare, d_starts_bare, lim0, lim1, lim2, lim3, lim4, Dl.run, s_seq, s_nop, s_ret, s_retN, s_if, s_set, s_put, s_app, s_augI, putA, s_expr, s_tg, s_parA, s_parB, noB, t_name, t_nil, t_cons, t_tup, e_bin, e_un, e_c, e_var, e_tup, e_lst, e_if, e_and, e_or, e_not, e_chain, e_orT, b_of, b_and, b_or, b_not, asB, asI, a_nil, a_cons, e_call, e_callB, toSl, thaw, isBor, noL, noList, noListAll, dats, dat1, k_add, addD, k_sub, k_mul, mulD, k_div, k_mod, k_pow, k_lt, k_le, k_gt, k_ge, k_neg, k_ix, intI, seqA, view, lstA, rfin, setR, k_len, k_tuple, k_list, k_sum, k_max, k_min, k_abs, k_int, k_gcd, k_all, k_isN, k_notN, k_isB, k_notB, isNon, e_slice, o_no, o_so, k_cut, Option.bind_some, Option.map_some, Option.bind_none, Option.map_none, List.getElem?_cons_zero, List.getElem?_cons_succ, List.set_cons_zero, List.set_cons_succ, List.map_cons, List.map_nil, List.any_cons, List.any_nil, List.length_cons, List.length_nil, List.replicate, List.cons_append, List.nil_append, Bool.or_false, Bool.false_or, Bool.or_true, Bool.true_or, Bool.not_false, Bool.not_true, Bool.and_true, Bool.true_and, Bool.and_false, Bool.false_and, if_true, ite_true, Bool.false_eq_true, if_false, ite_false, reduceIte, Nat.zero_add, Nat.add_zero, Nat.reduceAdd, Nat.reduceSub, Nat.sub_self, e1, k_eq0]
  have e4 : k_eq u (.val (red σ 60)) (.val (.tuple [.int 1, .int 1])) = some (.val (.bool (decide (p = 1 ∧ q = 1)))) := by rw [e]; exact eq_fr
  generalize red σ 60 = R at *
  by_cases hp : p = 1 ∧ q = 1
  · rw [decide_eq_true hp] at e4 ⊢
    simp only [F_keeps_always, d_keeps_always, lim0, lim1, lim2, lim3, lim4, Dl.run, s_seq, s_nop, s_ret, s_retN, s_if, s_set, s_put, s_app, s_augI, putA, s_expr, s_tg, s_parA, s_parB, noB, t_name, t_nil, t_cons, t_tup, e_bin, e_un, e_c, e_var, e_tup, e_lst, e_if, e_and, e_or, e_not, e_chain, e_orT, b_of, b_and, b_or, b_not, asB, asI, a_nil, a_cons, e_call, e_callB, toSl, thaw, isBor, noL, noList, noListAll, dats, dat1, k_add, addD, k_sub, k_mul, mulD, k_div, k_mod, k_pow, k_lt, k_le, k_gt, k_ge, k_neg, k_ix, intI, seqA, view, lstA, rfin, setR, k_len, k_tuple, k_list, k_sum, k_max, k_min, k_abs, k_int, k_gcd, k_all, k_isN, k_notN, k_isB, k_notB, isNon, e_slice, o_no, o_so, k_cut, Option.bind_some, Option.map_some, Option.bind_none, Option.map_none, List.getElem?_cons_zero, List.getElem?_cons_succ, List.set_cons_zero, List.set_cons_succ, List.map_cons, List.map_nil, List.any_cons, List.any_nil, List.length_cons, List.length_nil, List.replicate, List.cons_append, List.nil_append, Bool.or_false, Bool.false_or, Bool.or_true, Bool.true_or, Bool.not_false, Bool.not_true, Bool.and_true, Bool.true_and, Bool.and_false, Bool.false_and, if_true, ite_true, Bool.false_eq_true, if_false, ite_false, reduceIte, Nat.zero_add, Nat.add_zero, Nat.reduceAdd, Nat.reduceSub, Nat.sub_self, t1, e3, e2, atI0, atI1, e4, e_lc, it_enum, enumD, lcD, boolsD, List.all_nil]
  · rw [decide_eq_false hp] at e4 ⊢
    simp only [F_keeps_always, d_keeps_always, lim0, lim1, lim2, lim3, lim4, Dl.run, s_seq, s_nop, s_ret, s_retN, s_if, s_set, s_put, s_app, s_augI, putA, s_expr, s_tg, s_parA, s_parB, noB, t_name, t_nil, t_cons, t_tup, e_bin, e_un, e_c, e_var, e_tup, e_lst, e_if, e_and, e_or, e_not, e_chain, e_orT, b_of, b_and, b_or, b_not, asB, asI, a_nil, a_cons, e_call, e_callB, toSl, thaw, isBor, noL, noList, noListAll, dats, dat1, k_add, addD, k_sub, k_mul, mulD, k_div, k_mod, k_pow, k_lt, k_le, k_gt, k_ge, k_neg, k_ix, intI, seqA, view, lstA, rfin, setR, k_len, k_tuple, k_list, k_sum, k_max, k_min, k_abs, k_int, k_gcd, k_all, k_isN, k_notN, k_isB, k_notB, isNon, e_slice, o_no, o_so, k_cut, Option.bind_some, Option.map_some, Option.bind_none, Option.map_none, List.getElem?_cons_zero, List.getElem?_cons_succ, List.set_cons_zero, List.set_cons_succ, List.map_cons, List.map_nil, List.any_cons, List.any_nil, List.length_cons, List.length_nil, List.replicate, List.cons_append, List.nil_append, Bool.or_false, Bool.false_or, Bool.or_true, Bool.true_or, Bool.not_false, Bool.not_true, Bool.and_true, Bool.true_and, Bool.and_false, Bool.false_and, if_true, ite_true, Bool.false_eq_true, if_false, ite_false, reduceIte, Nat.zero_add, Nat.add_zero, Nat.reduceAdd, Nat.reduceSub, Nat.sub_self, t1, e3, e2, atI0, atI1, e4]
theorem ev_ka2 {σ : Int} (h0 : 0 ≤ σ) (h1 : σ ≤ 60) {p q : Int} (e : red σ 60 = fr p q) : F_keeps_always [.val (.tuple [.tuple [], red σ 60]), .val (.str "no more")] u = some (.val (.bool (decide (p = 0 ∧ q = 1))), u) := by
  have h := even_ok h0 h1
  have t1 := ev_tuple_of (u := u) h.rowTup.1
  rw [h.rowTup.2] at t1
  have e1 := ev_post_in (u := u) h (n := 0) (by decide)
  have e2 := eq_str (u := u) p3 p1 (b := false) (by decide +kernel)
  have e5 := eq_str (u := u) p3 p3 (b := true) (by decide +kernel)
  have e3 : F_starts_bare [.val (.tuple [.tuple [], red σ 60])] u = some (.val (.bool (decide (sI (evenS σ) 0 = 0))), u) := by
    simp only [F_starts_bare, d_starts_bare, lim0, lim1, lim2, lim3, lim4, Dl.run, s_seq, s_nop, s_ret, s_retN, s_if, s_set, s_put, s_app, s_augI, putA, s_expr, s_tg, s_parA, s_parB, noB, t_name, t_nil, t_cons, t_tup, e_bin, e_un, e_c, e_var, e_tup, e_lst, e_if, e_and, e_or, e_not, e_chain, e_orT, b_of, b_and, b_or, b_not, asB, asI, a_nil, a_cons, e_call, e_callB, toSl, thaw, isBor, noL, noList, noListAll, dats, dat1, k_add, addD, k_sub, k_mul, mulD, k_div, k_mod, k_pow, k_lt, k_le, k_gt, k_ge, k_neg, k_ix, intI, seqA, view, lstA, rfin, setR, k_len, k_tuple, k_list, k_sum, k_max, k_min, k_abs, k_int, k_gcd, k_all, k_isN, k_notN, k_isB, k_notB, isNon, e_slice, o_no, o_so, k_cut, Option.bind_some, Option.map_some, Option.bind_none, Option.map_none, List.getElem?_cons_zero, List.getElem?_cons_succ, List.set_cons_zero, List.set_cons_succ, List.map_cons, List.map_nil, List.any_cons, List.any_nil, List.length_cons, List.length_nil, List.replicate, List.cons_append, List.nil_append, Bool.or_false, Bool.false_or, Bool.or_true, Bool.true_or, Bool.not_false, Bool.not_true, Bool.and_true, Bool.true_and, Bool.and_false, Bool.false_and, if_true, ite_true, Bool.false_eq_true, if_false, ite_false, reduceIte, Nat.zero_add, Nat.add_zero, Nat.reduceAdd, Nat.reduceSub, Nat.sub_self, e1, k_eq0]
  have e4 : k_eq u (.val (red σ 60)) (.val c_ZERO) = some (.val (.bool (decide (p = 0 ∧ q = 1)))) := by rw [e]; exact eq_fr
  generalize red σ 60 = R at *
  by_cases hp : p = 0 ∧ q = 1
  · rw [decide_eq_true hp] at e4 ⊢
    simp only [F_keeps_always, d_keeps_always, lim0, lim1, lim2, lim3, lim4, Dl.run, s_seq, s_nop, s_ret, s_retN, s_if, s_set, s_put, s_app, s_augI, putA, s_expr, s_tg, s_parA, s_parB, noB, t_name, t_nil, t_cons, t_tup, e_bin, e_un, e_c, e_var, e_tup, e_lst, e_if, e_and, e_or, e_not, e_chain, e_orT, b_of, b_and, b_or, b_not, asB, asI, a_nil, a_cons, e_call, e_callB, toSl, thaw, isBor, noL, noList, noListAll, dats, dat1, k_add, addD, k_sub, k_mul, mulD, k_div, k_mod, k_pow, k_lt, k_le, k_gt, k_ge, k_neg, k_ix, intI, seqA, view, lstA, rfin, setR, k_len, k_tuple, k_list, k_sum, k_max, k_min, k_abs, k_int, k_gcd, k_all, k_isN, k_notN, k_isB, k_notB, isNon, e_slice, o_no, o_so, k_cut, Option.bind_some, Option.map_some, Option.bind_none, Option.map_none, List.getElem?_cons_zero, List.getElem?_cons_succ, List.set_cons_zero, List.set_cons_succ, List.map_cons, List.map_nil, List.any_cons, List.any_nil, List.length_cons, List.length_nil, List.replicate, List.cons_append, List.nil_append, Bool.or_false, Bool.false_or, Bool.or_true, Bool.true_or, Bool.not_false, Bool.not_true, Bool.and_true, Bool.true_and, Bool.and_false, Bool.false_and, if_true, ite_true, Bool.false_eq_true, if_false, ite_false, reduceIte, Nat.zero_add, Nat.add_zero, Nat.reduceAdd, Nat.reduceSub, Nat.sub_self, t1, e3, e2, e5, atI0, atI1, e4, e_lc, it_enum, enumD, lcD, boolsD, List.all_nil]
  · rw [decide_eq_false hp] at e4 ⊢
    simp only [F_keeps_always, d_keeps_always, lim0, lim1, lim2, lim3, lim4, Dl.run, s_seq, s_nop, s_ret, s_retN, s_if, s_set, s_put, s_app, s_augI, putA, s_expr, s_tg, s_parA, s_parB, noB, t_name, t_nil, t_cons, t_tup, e_bin, e_un, e_c, e_var, e_tup, e_lst, e_if, e_and, e_or, e_not, e_chain, e_orT, b_of, b_and, b_or, b_not, asB, asI, a_nil, a_cons, e_call, e_callB, toSl, thaw, isBor, noL, noList, noListAll, dats, dat1, k_add, addD, k_sub, k_mul, mulD, k_div, k_mod, k_pow, k_lt, k_le, k_gt, k_ge, k_neg, k_ix, intI, seqA, view, lstA, rfin, setR, k_len, k_tuple, k_list, k_sum, k_max, k_min, k_abs, k_int, k_gcd, k_all, k_isN, k_notN, k_isB, k_notB, isNon, e_slice, o_no, o_so, k_cut, Option.bind_some, Option.map_some, Option.bind_none, Option.map_none, List.getElem?_cons_zero, List.getElem?_cons_succ, List.set_cons_zero, List.set_cons_succ, List.map_cons, List.map_nil, List.any_cons, List.any_nil, List.length_cons, List.length_nil, List.replicate, List.cons_append, List.nil_append, Bool.or_false, Bool.false_or, Bool.or_true, Bool.true_or, Bool.not_false, Bool.not_true, Bool.and_true, Bool.true_and, Bool.and_false, Bool.false_and, if_true, ite_true, Bool.false_eq_true, if_false, ite_false, reduceIte, Nat.zero_add, Nat.add_zero, Nat.reduceAdd, Nat.reduceSub, Nat.sub_self, t1, e3, e2, e5, atI0, atI1, e4]
/-! sameness -/
theorem same_bl {n : Nat} {b : Bool} : F__law_same_n (n + 1) [.val (.bool b), .val (.bool b)] u = some (.val (.bool true), u) := by
  rw [F__law_same_n]
  simp only [d__law_same, lim0, lim1, lim2, lim3, lim4, Dl.run, s_seq, s_nop, s_ret, s_retN, s_if, s_set, s_put, s_app, s_augI, putA, s_expr, s_tg, s_parA, s_parB, noB, t_name, t_nil, t_cons, t_tup, e_bin, e_un, e_c, e_var, e_tup, e_lst, e_if, e_and, e_or, e_not, e_chain, e_orT, b_of, b_and, b_or, b_not, asB, asI, a_nil, a_cons, e_call, e_callB, toSl, thaw, isBor, noL, noList, noListAll, dats, dat1, k_add, addD, k_sub, k_mul, mulD, k_div, k_mod, k_pow, k_lt, k_le, k_gt, k_ge, k_neg, k_ix, intI, seqA, view, lstA, rfin, setR, k_len, k_tuple, k_list, k_sum, k_max, k_min, k_abs, k_int, k_gcd, k_all, k_isN, k_notN, k_isB, k_notB, isNon, e_slice, o_no, o_so, k_cut, Option.bind_some, Option.map_some, Option.bind_none, Option.map_none, List.getElem?_cons_zero, List.getElem?_cons_succ, List.set_cons_zero, List.set_cons_succ, List.map_cons, List.map_nil, List.any_cons, List.any_nil, List.length_cons, List.length_nil, List.replicate, List.cons_append, List.nil_append, Bool.or_false, Bool.false_or, Bool.or_true, Bool.true_or, Bool.not_false, Bool.not_true, Bool.and_true, Bool.true_and, Bool.and_false, Bool.false_and, if_true, ite_true, Bool.false_eq_true, if_false, ite_false, reduceIte, Nat.zero_add, Nat.add_zero, Nat.reduceAdd, Nat.reduceSub, Nat.sub_self, e_isi, tyN, show kitL "bool" ["list", "tuple"] = some false by decide, show kitL "bool" ["bool", "str"] = some true by decide, show kitL "bool" ["str"] = some false by decide, show kitL "bool" ["bool"] = some true by decide, eq_bl, beq_self_eq_true]
theorem same_ls {a b : Bool} : F__law_same [.val (.list [.bool a, .bool b]), .val (.list [.bool a, .bool b])] u = some (.val (.bool true), u) := by
  have e1 : ∀ (w1 w2 w3 w4 : Sl) (x : Bool), E__law_same_0 (F__law_same_n 5) [w1, w2, .val (.bool x), .val (.bool x)] u = some (.val (.bool true), u) := fun w1 w2 w3 w4 x => by
    simp only [E__law_same_0, lim0, lim1, lim2, lim3, lim4, Dl.run, s_seq, s_nop, s_ret, s_retN, s_if, s_set, s_put, s_app, s_augI, putA, s_expr, s_tg, s_parA, s_parB, noB, t_name, t_nil, t_cons, t_tup, e_bin, e_un, e_c, e_var, e_tup, e_lst, e_if, e_and, e_or, e_not, e_chain, e_orT, b_of, b_and, b_or, b_not, asB, asI, a_nil, a_cons, e_call, e_callB, toSl, thaw, isBor, noL, noList, noListAll, dats, dat1, k_add, addD, k_sub, k_mul, mulD, k_div, k_mod, k_pow, k_lt, k_le, k_gt, k_ge, k_neg, k_ix, intI, seqA, view, lstA, rfin, setR, k_len, k_tuple, k_list, k_sum, k_max, k_min, k_abs, k_int, k_gcd, k_all, k_isN, k_notN, k_isB, k_notB, isNon, e_slice, o_no, o_so, k_cut, Option.bind_some, Option.map_some, Option.bind_none, Option.map_none, List.getElem?_cons_zero, List.getElem?_cons_succ, List.set_cons_zero, List.set_cons_succ, List.map_cons, List.map_nil, List.any_cons, List.any_nil, List.length_cons, List.length_nil, List.replicate, List.cons_append, List.nil_append, Bool.or_false, Bool.false_or, Bool.or_true, Bool.true_or, Bool.not_false, Bool.not_true, Bool.and_true, Bool.true_and, Bool.and_false, Bool.false_and, if_true, ite_true, Bool.false_eq_true, if_false, ite_false, reduceIte, Nat.zero_add, Nat.add_zero, Nat.reduceAdd, Nat.reduceSub, Nat.sub_self, same_bl (n := 4)]
  have ne : ∀ x : Bool, k_ne u (.val (.bool x)) (.val (.bool x)) = some (.val (.bool false)) := fun x => by
    have := ne_of_eq (eq_bl (u := u) (x := x) (y := x))
    rw [beq_self_eq_true] at this
    exact this
  show F__law_same_n (5 + 1) _ u = _
  rw [F__law_same_n]
  have e2 := fun x => e1 (.val (.list [.bool a, .bool b])) (.val (.list [.bool a, .bool b])) .un .un x
  have z : zipD [PyData.bool a, .bool b] [PyData.bool a, .bool b] = [.tuple [.bool a, .bool a], .tuple [.bool b, .bool b]] := rfl
  simp only [d__law_same, lim0, lim1, lim2, lim3, lim4, Dl.run, s_seq, s_nop, s_ret, s_retN, s_if, s_set, s_put, s_app, s_augI, putA, s_expr, s_tg, s_parA, s_parB, noB, t_name, t_nil, t_cons, t_tup, e_bin, e_un, e_c, e_var, e_tup, e_lst, e_if, e_and, e_or, e_not, e_chain, e_orT, b_of, b_and, b_or, b_not, asB, asI, a_nil, a_cons, e_call, e_callB, toSl, thaw, isBor, noL, noList, noListAll, dats, dat1, k_add, addD, k_sub, k_mul, mulD, k_div, k_mod, k_pow, k_lt, k_le, k_gt, k_ge, k_neg, k_ix, intI, seqA, view, lstA, rfin, setR, k_len, k_tuple, k_list, k_sum, k_max, k_min, k_abs, k_int, k_gcd, k_all, k_isN, k_notN, k_isB, k_notB, isNon, e_slice, o_no, o_so, k_cut, Option.bind_some, Option.map_some, Option.bind_none, Option.map_none, List.getElem?_cons_zero, List.getElem?_cons_succ, List.set_cons_zero, List.set_cons_succ, List.map_cons, List.map_nil, List.any_cons, List.any_nil, List.length_cons, List.length_nil, List.replicate, List.cons_append, List.nil_append, Bool.or_false, Bool.false_or, Bool.or_true, Bool.true_or, Bool.not_false, Bool.not_true, Bool.and_true, Bool.true_and, Bool.and_false, Bool.false_and, if_true, ite_true, Bool.false_eq_true, if_false, ite_false, reduceIte, Nat.zero_add, Nat.add_zero, Nat.reduceAdd, Nat.reduceSub, Nat.sub_self, e_isi, tyN, show kitL "list" ["list", "tuple"] = some true by decide, show kitL "list" ["list"] = some true by decide, show kitL "list" ["tuple"] = some false by decide, ne, eq_int, decide_true, e_lc, it_zip, zipK, z, wipeE, lcD, b_yes, e2, boolsD, List.all_cons, List.all_nil, id]
end K45
end

section
set_option Elab.async false
set_option linter.all false
set_option maxRecDepth 100000
/-! The plain law, part 11: the inequalities of a list that parts. -/
namespace K45
open PySem PySem.Spec PyProof.Rows L2 Dl

section
variable {s : Nat → Int} {P : D}
/-! ### one divider, two dividers -/
theorem low_le_high {X Y w l g : Int} (a : IsLow s X Y w l) (b : IsHigh s X Y w g) : l ≤ g := by
  rcases Int.lt_or_le g l with h | h
  · have := a.be g h; have := b.at_; omega
  · exact h
theorem mulX {X a b : Int} (hX : 0 < X) (h : a ≤ b) : X * a ≤ X * b := Int.mul_le_mul_of_nonneg_left h (Int.le_of_lt hX)
/-- monotone in the votes -/
theorem low_mono {X Y w w' l l' : Int} (hY : 0 < Y) (h : w ≤ w') (a : IsLow s X Y w l) (b : IsLow s X Y w' l') : l ≤ l' := by
  rcases Int.lt_or_le l' l with h1 | h1
  · have h2 := a.be l' h1
    have h3 := b.at_
    have h4 := Int.mul_le_mul_of_nonneg_right h (Int.le_of_lt hY)
    omega
  · exact h1
theorem high_mono {X Y w w' l l' : Int} (hY : 0 < Y) (h : w ≤ w') (a : IsHigh s X Y w l) (b : IsHigh s X Y w' l') : l ≤ l' := by
  rcases Int.lt_or_le l' l with h1 | h1
  · have h2 := a.be l' h1
    have h3 := b.at_
    have h4 := Int.mul_le_mul_of_nonneg_right h (Int.le_of_lt hY)
    omega
  · exact h1
/-- at a greater divider X'/Y' > X/Y the upper end is at most the lower one at X/Y -/
theorem high_le_low {X Y X' Y' w l g : Int} (d : Dv X Y) (d' : Dv X' Y') (hw : 0 < w) (hlt : X * Y' < X' * Y) (a : IsLow s X Y w l) (b : IsHigh s X' Y' w g) : g ≤ l := by
  rcases Int.lt_or_le l g with h1 | h1
  · have h2 := b.be l h1
    have h3 := a.at_
    -- w*Y <= X*s ; X'*s <= w*Y' ; so X' w Y <= X' X s <= X w Y' contradiction
    have a1 : X' * (w * Y) ≤ X' * (X * sI s l) := mulX d'.x0 h3
    have a2 : X * (X' * sI s l) ≤ X * (w * Y') := mulX d.x0 h2
    have e1 : X' * (X * sI s l) = X * (X' * sI s l) := by grind
    have e2 : X' * (w * Y) = w * (X' * Y) := by grind
    have e3 : X * (w * Y') = w * (X * Y') := by grind
    have a3 : w * (X * Y') < w * (X' * Y) := (Int.mul_lt_mul_left hw).mpr hlt
    omega
  · exact h1
/-- the same divider -/
theorem low_same {X Y X' Y' w l l' : Int} (d : Dv X Y) (d' : Dv X' Y') (he : X * Y' = X' * Y) (a : IsLow s X Y w l) (b : IsLow s X' Y' w l') : l = l' := by
  have key : ∀ {X Y X' Y' l l' : Int}, Dv X Y → Dv X' Y' → X * Y' = X' * Y → IsLow s X Y w l → IsLow s X' Y' w l' → l ≤ l' := fun {X Y X' Y' l l'} d d' he a b => by
    rcases Int.lt_or_le l' l with h1 | h1
    · have h2 := a.be l' h1
      have h3 := b.at_
      have a1 : X' * (X * sI s l') < X' * (w * Y) := (Int.mul_lt_mul_left d'.x0).mpr h2
      have a2 : X * (w * Y') ≤ X * (X' * sI s l') := mulX d.x0 h3
      have e1 : X' * (X * sI s l') = X * (X' * sI s l') := by grind
      have e2 : X' * (w * Y) = w * (X' * Y) := by grind
      have e3 : X * (w * Y') = w * (X * Y') := by grind
      rw [he] at e3
      omega
    · exact h1
  exact Int.le_antisymm (key d d' he a b) (key d' d he.symm b a)
theorem high_same {X Y X' Y' w l l' : Int} (d : Dv X Y) (d' : Dv X' Y') (he : X * Y' = X' * Y) (a : IsHigh s X Y w l) (b : IsHigh s X' Y' w l') : l = l' := by
  have key : ∀ {X Y X' Y' l l' : Int}, Dv X Y → Dv X' Y' → X * Y' = X' * Y → IsHigh s X Y w l → IsHigh s X' Y' w l' → l ≤ l' := fun {X Y X' Y' l l'} d d' he a b => by
    rcases Int.lt_or_le l' l with h1 | h1
    · have h2 := a.be l' h1
      have h3 := b.at_
      have a1 : X' * (X * sI s l') ≤ X' * (w * Y) := mulX d'.x0 h2
      have a2 : X * (w * Y') < X * (X' * sI s l') := (Int.mul_lt_mul_left d.x0).mpr h3
      have e1 : X' * (X * sI s l') = X * (X' * sI s l') := by grind
      have e2 : X' * (w * Y) = w * (X' * Y) := by grind
      have e3 : X * (w * Y') = w * (X * Y') := by grind
      rw [he] at e3
      omega
    · exact h1
  exact Int.le_antisymm (key d d' he a b) (key d' d he.symm b a)

/-! ### even posts: s n = 60 n + σ -/
theorem sI_even {σ n : Int} (h : 0 ≤ n) : sI (evenS σ) n = 60 * n + σ := by
  unfold sI evenS
  rw [if_neg (by omega)]
  omega
section
variable {X Y w1 w2 σ l1 l2 l h1 h2 h : Int}
/-- two lower ends and that of the sum: no less than one below -/
theorem ev_low_ge (d : Dv X Y) (hs : 0 ≤ σ) (hs2 : σ ≤ 60) (a : IsLow (evenS σ) X Y w1 l1) (b : IsLow (evenS σ) X Y w2 l2) (c : IsLow (evenS σ) X Y (w1 + w2) l) : l ≤ l1 + l2 + 1 := by
  rcases Int.lt_or_le (l1 + l2 + 1) l with hl | hl
  · have q := c.be (l1 + l2 + 1) hl
    have q1 := a.at_
    have q2 := b.at_
    have z1 := a.lo
    have z2 := b.lo
    rw [sI_even (by omega)] at q q1 q2
    have e : (w1 + w2) * Y = w1 * Y + w2 * Y := by grind
    have e1 : X * (60 * l1 + σ) + X * (60 * l2 + σ) = X * (60 * (l1 + l2) + 2 * σ) := by grind
    have e2 : X * (60 * (l1 + l2) + 2 * σ) ≤ X * (60 * (l1 + l2 + 1) + σ) := mulX d.x0 (by omega)
    omega
  · exact hl
/-- two upper ends: no more than one above -/
theorem ev_high_le (d : Dv X Y) (hw1 : 0 < w1) (hw2 : 0 < w2) (hs : 0 ≤ σ) (hs2 : σ ≤ 60) (a : IsHigh (evenS σ) X Y w1 h1) (b : IsHigh (evenS σ) X Y w2 h2) (c : IsHigh (evenS σ) X Y (w1 + w2) h) : h1 + h2 ≤ h + 1 := by
  by_cases z1 : h1 = 0
  · have := high_mono d.y0 (by omega) b c; omega
  by_cases z2 : h2 = 0
  · have := high_mono d.y0 (by omega) a c; omega
  rcases Int.lt_or_le (h + 1) (h1 + h2) with hl | hl
  · have k1 := a.lo
    have k2 := b.lo
    have q1 := a.be (h1 - 1) (by omega)
    have q2 := b.be (h2 - 1) (by omega)
    have q := c.at_
    have k := c.lo
    rw [sI_even (by omega)] at q q1 q2
    have e : (w1 + w2) * Y = w1 * Y + w2 * Y := by grind
    have e1 : X * (60 * (h1 - 1) + σ) + X * (60 * (h2 - 1) + σ) = X * (60 * (h1 + h2 - 2) + 2 * σ) := by grind
    have e2 : X * (60 * h + σ) ≤ X * (60 * (h1 + h2 - 2) + 2 * σ) := mulX d.x0 (by omega)
    omega
  · exact hl
/-- by ones: no more together -/
theorem one_low_le (d : Dv X Y) (hw1 : 0 < w1) (hw2 : 0 < w2) (a : IsLow (evenS 60) X Y w1 l1) (b : IsLow (evenS 60) X Y w2 l2) (c : IsLow (evenS 60) X Y (w1 + w2) l) : l1 + l2 ≤ l := by
  by_cases z1 : l1 = 0
  · have := low_mono d.y0 (by omega) b c; omega
  by_cases z2 : l2 = 0
  · have := low_mono d.y0 (by omega) a c; omega
  rcases Int.lt_or_le l (l1 + l2) with hl | hl
  · have k1 := a.lo
    have k2 := b.lo
    have q1 := a.be (l1 - 1) (by omega)
    have q2 := b.be (l2 - 1) (by omega)
    have q := c.at_
    have k := c.lo
    rw [sI_even (by omega)] at q q1 q2
    have e : (w1 + w2) * Y = w1 * Y + w2 * Y := by grind
    have e1 : X * (60 * (l1 - 1) + 60) + X * (60 * (l2 - 1) + 60) = X * (60 * (l1 + l2)) := by grind
    have e2 : X * (60 * l + 60) ≤ X * (60 * (l1 + l2)) := mulX d.x0 (by omega)
    omega
  · exact hl
theorem one_high_le (d : Dv X Y) (hw1 : 0 < w1) (hw2 : 0 < w2) (a : IsHigh (evenS 60) X Y w1 h1) (b : IsHigh (evenS 60) X Y w2 h2) (c : IsHigh (evenS 60) X Y (w1 + w2) h) : h1 + h2 ≤ h := by
  by_cases z1 : h1 = 0
  · have := high_mono d.y0 (by omega) b c; omega
  by_cases z2 : h2 = 0
  · have := high_mono d.y0 (by omega) a c; omega
  rcases Int.lt_or_le h (h1 + h2) with hl | hl
  · have k1 := a.lo
    have k2 := b.lo
    have q1 := a.be (h1 - 1) (by omega)
    have q2 := b.be (h2 - 1) (by omega)
    have q := c.at_
    have k := c.lo
    rw [sI_even (by omega)] at q q1 q2
    have e : (w1 + w2) * Y = w1 * Y + w2 * Y := by grind
    have e1 : X * (60 * (h1 - 1) + 60) + X * (60 * (h2 - 1) + 60) = X * (60 * (h1 + h2)) := by grind
    have e2 : X * (60 * h + 60) ≤ X * (60 * (h1 + h2)) := mulX d.x0 (by omega)
    omega
  · exact hl
/-- by noughts: no fewer -/
theorem zero_low_ge (d : Dv X Y) (a : IsLow (evenS 0) X Y w1 l1) (b : IsLow (evenS 0) X Y w2 l2) (c : IsLow (evenS 0) X Y (w1 + w2) l) : l ≤ l1 + l2 := by
  rcases Int.lt_or_le (l1 + l2) l with hl | hl
  · have q := c.be (l1 + l2) hl
    have q1 := a.at_
    have q2 := b.at_
    have z1 := a.lo
    have z2 := b.lo
    rw [sI_even (by omega)] at q q1 q2
    have e : (w1 + w2) * Y = w1 * Y + w2 * Y := by grind
    have e1 : X * (60 * l1 + 0) + X * (60 * l2 + 0) = X * (60 * (l1 + l2) + 0) := by grind
    omega
  · exact hl
theorem zero_high_ge (d : Dv X Y) (hw1 : 0 < w1) (hw2 : 0 < w2) (a : IsHigh (evenS 0) X Y w1 h1) (b : IsHigh (evenS 0) X Y w2 h2) (c : IsHigh (evenS 0) X Y (w1 + w2) h) : h ≤ h1 + h2 := by
  rcases Int.lt_or_le (h1 + h2) h with hl | hl
  · have q := c.be (h1 + h2) hl
    have q1 := a.at_
    have q2 := b.at_
    have z1 := a.lo
    have z2 := b.lo
    rw [sI_even (by omega)] at q q1 q2
    have e : (w1 + w2) * Y = w1 * Y + w2 * Y := by grind
    have e1 : X * (60 * h1 + 0) + X * (60 * h2 + 0) = X * (60 * (h1 + h2) + 0) := by grind
    omega
  · exact hl
end
end
end K45
end

section
set_option Elab.async false
set_option linter.all false
set_option maxRecDepth 100000
/-! The plain law, part 12: the urn. -/
namespace K45
open PySem PySem.Spec PyProof.Rows L2 Dl

structure UrnOk (k : Nat) (u : Ur) : Prop where
  ex : ∃ a b c : Int, u = [a, b, c] ∧ b.natAbs < 2 ^ 63 ∧ 0 ≤ c ∧ c ≤ k
theorem UrnOk.mono {k j : Nat} {u : Ur} (h : UrnOk k u) (hk : k ≤ j) : UrnOk j u := by
  obtain ⟨a, b, c, e, h1, h2, h3⟩ := h.ex
  exact ⟨a, b, c, e, h1, h2, by omega⟩
theorem atI2 {α : Type} {x y z : α} {xs : List α} : atI (x :: y :: z :: xs) 2 = some z := by
  unfold atI ixN
  simp only [List.length_cons]
  rw [if_pos (by omega), if_pos (by omega)]
  rfl
theorem ix3_0 : ixN 3 0 = some 0 := by decide
theorem ix3_2 : ixN 3 2 = some 2 := by decide
theorem ev_take {k : Nat} {u : Ur} {b : Int} (U : UrnOk k u) (hk : k ≤ 1000000) (h0 : 0 < b) (hb : b ≤ 1000000) :
    ∃ r u', F__law_take [.urn, .val (.int b)] u = some (.val (.int r), u') ∧ 0 ≤ r ∧ r < b ∧ UrnOk (k + 1) u' := by
  obtain ⟨x, y, c, rfl, h1, h2, h3⟩ := U.ex
  have hB : (2 : Nat) ^ 64 < BIG := BIG_64
  by_cases hx : 0 < x
  · have d1 : cd (True ∧ b.natAbs < BIG) = true := cd_t ⟨trivial, by omega⟩
    refine ⟨x % b, [x / b, y, c], ?_, Int.emod_nonneg _ (by omega), Int.emod_lt_of_pos _ h0, ⟨_, _, _, rfl, h1, h2, by omega⟩⟩
    simp only [F__law_take, d__law_take, lim0, lim1, lim2, lim3, lim4, Dl.run, s_seq, s_nop, s_ret, s_retN, s_if, s_set, s_put, s_app, s_augI, putA, s_expr, s_tg, s_parA, s_parB, noB, t_name, t_nil, t_cons, t_tup, e_bin, e_un, e_c, e_var, e_tup, e_lst, e_if, e_and, e_or, e_not, e_chain, e_orT, b_of, b_and, b_or, b_not, asB, asI, a_nil, a_cons, e_call, e_callB, toSl, thaw, isBor, noL, noList, noListAll, dats, dat1, k_add, addD, k_sub, k_mul, mulD, k_div, k_mod, k_pow, k_lt, k_le, k_gt, k_ge, k_neg, k_ix, intI, seqA, view, lstA, rfin, setR, k_len, k_tuple, k_list, k_sum, k_max, k_min, k_abs, k_int, k_gcd, k_all, k_isN, k_notN, k_isB, k_notB, isNon, e_slice, o_no, o_so, k_cut, Option.bind_some, Option.map_some, Option.bind_none, Option.map_none, List.getElem?_cons_zero, List.getElem?_cons_succ, List.set_cons_zero, List.set_cons_succ, List.map_cons, List.map_nil, List.any_cons, List.any_nil, List.length_cons, List.length_nil, List.replicate, List.cons_append, List.nil_append, Bool.or_false, Bool.false_or, Bool.or_true, Bool.true_or, Bool.not_false, Bool.not_true, Bool.and_true, Bool.true_and, Bool.and_false, Bool.false_and, if_true, ite_true, Bool.false_eq_true, if_false, ite_false, reduceIte, Nat.zero_add, Nat.add_zero, Nat.reduceAdd, Nat.reduceSub, Nat.sub_self, atI0, atI1, atI2, decide_eq_true hx, h0, d1, ix3_0]
  · have m1 : mulOk 48271 (c + 1) = true := mulOk_l (by decide)
    have m2 : mulOk (y + 48271 * (c + 1)) (39373 + (c + 1)) = true := mulOk_r (by omega)
    generalize ho : (y + 48271 * (c + 1)) * (39373 + (c + 1)) % 2147483647 = once
    have o1 : 0 ≤ once := by rw [← ho]; exact Int.emod_nonneg _ (by decide)
    have o2 : once < 2147483647 := by rw [← ho]; exact Int.emod_lt_of_pos _ (by decide)
    have f1 : 0 ≤ once % 40009 := Int.emod_nonneg _ (by decide)
    have f2 : once % 40009 < 40009 := Int.emod_lt_of_pos _ (by decide)
    have m3 : mulOk (once + (c + 1) + y / 1000003) (once % 40009 + 7) = true := mulOk_r (by omega)
    generalize ht : (once + (c + 1) + y / 1000003) * (once % 40009 + 7) % 2147483629 = twice
    have m4 : mulOk twice 48271 = true := mulOk_r (by decide)
    have q1 : (0 : Int) < 2147483647 := by decide
    have q2 : (0 : Int) < 40009 := by decide
    have q3 : (0 : Int) < 2147483629 := by decide
    have q4 : (0 : Int) < 2147483587 := by decide
    have d1 : cd ((0 : Int) < 1000003 ∧ (1000003 : Int).natAbs < BIG) = true := cd_t ⟨by decide, Nat.lt_trans (by decide) hB⟩
    have d2 : cd ((0 : Int) < 64 ∧ (64 : Int).natAbs < BIG) = true := cd_t ⟨by decide, Nat.lt_trans (by decide) hB⟩
    refine ⟨(twice * 48271 + once) % 2147483587 / 64 % b, [x, y, c + 1], ?_, Int.emod_nonneg _ (by omega), Int.emod_lt_of_pos _ h0, ⟨_, _, _, rfl, h1, by omega, by omega⟩⟩
    simp only [F__law_take, d__law_take, lim0, lim1, lim2, lim3, lim4, Dl.run, s_seq, s_nop, s_ret, s_retN, s_if, s_set, s_put, s_app, s_augI, putA, s_expr, s_tg, s_parA, s_parB, noB, t_name, t_nil, t_cons, t_tup, e_bin, e_un, e_c, e_var, e_tup, e_lst, e_if, e_and, e_or, e_not, e_chain, e_orT, b_of, b_and, b_or, b_not, asB, asI, a_nil, a_cons, e_call, e_callB, toSl, thaw, isBor, noL, noList, noListAll, dats, dat1, k_add, addD, k_sub, k_mul, mulD, k_div, k_mod, k_pow, k_lt, k_le, k_gt, k_ge, k_neg, k_ix, intI, seqA, view, lstA, rfin, setR, k_len, k_tuple, k_list, k_sum, k_max, k_min, k_abs, k_int, k_gcd, k_all, k_isN, k_notN, k_isB, k_notB, isNon, e_slice, o_no, o_so, k_cut, Option.bind_some, Option.map_some, Option.bind_none, Option.map_none, List.getElem?_cons_zero, List.getElem?_cons_succ, List.set_cons_zero, List.set_cons_succ, List.map_cons, List.map_nil, List.any_cons, List.any_nil, List.length_cons, List.length_nil, List.replicate, List.cons_append, List.nil_append, Bool.or_false, Bool.false_or, Bool.or_true, Bool.true_or, Bool.not_false, Bool.not_true, Bool.and_true, Bool.true_and, Bool.and_false, Bool.false_and, if_true, ite_true, Bool.false_eq_true, if_false, ite_false, reduceIte, Nat.zero_add, Nat.add_zero, Nat.reduceAdd, Nat.reduceSub, Nat.sub_self, atI0, atI1, atI2, decide_eq_false hx, h0, ix3_2, m1, m2, q1, q2, q3, q4, ho, m3, ht, m4, d1, d2]
theorem ev_law_of {k : Nat} {u : Ur} {ds : List D} (U : UrnOk k u) (hk : k ≤ 1000000) (h0 : 0 < ds.length) (hb : ds.length ≤ 1000000) :
    ∃ (r : Nat) (d : D) (u' : Ur), F__law_of [.urn, .val (.list ds)] u = some (.val d, u') ∧ ds[r]? = some d ∧ UrnOk (k + 1) u' := by
  obtain ⟨r, u', e, r0, r1, U'⟩ := ev_take (b := ds.length) U hk (by omega) (by omega)
  obtain ⟨n, rfl⟩ : ∃ n : Nat, r = n := ⟨r.toNat, by omega⟩
  have hn : n < ds.length := by omega
  have a : atI ds (n : Int) = some ds[n] := by rw [atI_nat, List.getElem?_eq_getElem hn]
  refine ⟨n, ds[n], u', ?_, List.getElem?_eq_getElem hn, U'⟩
  simp only [F__law_of, d__law_of, lim0, lim1, lim2, lim3, lim4, Dl.run, s_seq, s_nop, s_ret, s_retN, s_if, s_set, s_put, s_app, s_augI, putA, s_expr, s_tg, s_parA, s_parB, noB, t_name, t_nil, t_cons, t_tup, e_bin, e_un, e_c, e_var, e_tup, e_lst, e_if, e_and, e_or, e_not, e_chain, e_orT, b_of, b_and, b_or, b_not, asB, asI, a_nil, a_cons, e_call, e_callB, toSl, thaw, isBor, noL, noList, noListAll, dats, dat1, k_add, addD, k_sub, k_mul, mulD, k_div, k_mod, k_pow, k_lt, k_le, k_gt, k_ge, k_neg, k_ix, intI, seqA, view, lstA, rfin, setR, k_len, k_tuple, k_list, k_sum, k_max, k_min, k_abs, k_int, k_gcd, k_all, k_isN, k_notN, k_isB, k_notB, isNon, e_slice, o_no, o_so, k_cut, Option.bind_some, Option.map_some, Option.bind_none, Option.map_none, List.getElem?_cons_zero, List.getElem?_cons_succ, List.set_cons_zero, List.set_cons_succ, List.map_cons, List.map_nil, List.any_cons, List.any_nil, List.length_cons, List.length_nil, List.replicate, List.cons_append, List.nil_append, Bool.or_false, Bool.false_or, Bool.or_true, Bool.true_or, Bool.not_false, Bool.not_true, Bool.and_true, Bool.true_and, Bool.and_false, Bool.false_and, if_true, ite_true, Bool.false_eq_true, if_false, ite_false, reduceIte, Nat.zero_add, Nat.add_zero, Nat.reduceAdd, Nat.reduceSub, Nat.sub_self, e, a]
/-- for loops that draw -/
theorem forD_urn {tg : TgD} {body : DS} (I : Nat → Ev → Ur → Prop) : ∀ (ds : List D) (k : Nat) (ε : Ev) (u : Ur), I k ε u →
    (∀ i d ε u, ds[i]? = some d → I (k + i) ε u → ∃ ε1 ε2 u', tg d ε = some ε1 ∧ body ε1 u = some (.nx ε2, u') ∧ I (k + i + 1) ε2 u') →
    ∃ ε' u', forD tg body ds ε u = some (.nx ε', u') ∧ I (k + ds.length) ε' u'
  | [], k, ε, u, h, _ => ⟨ε, u, rfl, h⟩
  | d :: ds, k, ε, u, h, hs => by
    obtain ⟨ε1, ε2, u1, e1, e2, h2⟩ := hs 0 d ε u rfl h
    obtain ⟨ε', u', e3, h3⟩ := forD_urn I ds (k + 1) ε2 u1 h2 fun i d' ε' u' e q => by
      have := hs (i + 1) d' ε' u' (by simpa using e) (by rw [show k + (i + 1) = k + 1 + i by omega]; exact q)
      rw [show k + (i + 1) + 1 = k + 1 + i + 1 by omega] at this
      exact this
    refine ⟨ε', u', ?_, by rw [List.length_cons, show k + (ds.length + 1) = k + 1 + ds.length by omega]; exact h3⟩
    simp only [forD, e1, e2, Option.bind_some, e3]

/-! ### a fraction in lowest terms by Euclid -/
theorem frac_go {t b : Int} {u : Ur} : ∀ (n : Nat) (x y : Int), 0 ≤ x → 0 ≤ y → y.toNat ≤ n → ∃ g, whileD C__law_fraction_0 B__law_fraction_1 (n + 1) [.val (.int t), .val (.int b), .val (.int x), .val (.int y)] u = some (.nx [.val (.int t), .val (.int b), .val (.int (Nat.gcd x.toNat y.toNat : Nat)), .val (.int g)], u)
  | 0, x, y, hx, hy, hn => by
    have : y = 0 := by omega
    subst this
    refine ⟨0, ?_⟩
    have e : ((Nat.gcd x.toNat (0 : Int).toNat : Nat) : Int) = x := by simp; omega
    rw [e, whileD]
    simp only [C__law_fraction_0, lim0, lim1, lim2, lim3, lim4, Dl.run, s_seq, s_nop, s_ret, s_retN, s_if, s_set, s_put, s_app, s_augI, putA, s_expr, s_tg, s_parA, s_parB, noB, t_name, t_nil, t_cons, t_tup, e_bin, e_un, e_c, e_var, e_tup, e_lst, e_if, e_and, e_or, e_not, e_chain, e_orT, b_of, b_and, b_or, b_not, asB, asI, a_nil, a_cons, e_call, e_callB, toSl, thaw, isBor, noL, noList, noListAll, dats, dat1, k_add, addD, k_sub, k_mul, mulD, k_div, k_mod, k_pow, k_lt, k_le, k_gt, k_ge, k_neg, k_ix, intI, seqA, view, lstA, rfin, setR, k_len, k_tuple, k_list, k_sum, k_max, k_min, k_abs, k_int, k_gcd, k_all, k_isN, k_notN, k_isB, k_notB, isNon, e_slice, o_no, o_so, k_cut, Option.bind_some, Option.map_some, Option.bind_none, Option.map_none, List.getElem?_cons_zero, List.getElem?_cons_succ, List.set_cons_zero, List.set_cons_succ, List.map_cons, List.map_nil, List.any_cons, List.any_nil, List.length_cons, List.length_nil, List.replicate, List.cons_append, List.nil_append, Bool.or_false, Bool.false_or, Bool.or_true, Bool.true_or, Bool.not_false, Bool.not_true, Bool.and_true, Bool.true_and, Bool.and_false, Bool.false_and, if_true, ite_true, Bool.false_eq_true, if_false, ite_false, reduceIte, Nat.zero_add, Nat.add_zero, Nat.reduceAdd, Nat.reduceSub, Nat.sub_self, show decide ((0 : Int) < 0) = false by decide]
  | n + 1, x, y, hx, hy, hn => by
    by_cases h0 : 0 < y
    · have m1 := Int.emod_nonneg x (show y ≠ 0 by omega)
      have m2 := Int.emod_lt_of_pos x h0
      obtain ⟨g, e⟩ := frac_go n y (x % y) hy m1 (by omega)
      refine ⟨g, ?_⟩
      have e2 : Nat.gcd y.toNat (x % y).toNat = Nat.gcd x.toNat y.toNat := by
        have : (x % y).toNat = x.toNat % y.toNat := Int.toNat_emod hx hy
        rw [this, Nat.gcd_comm x.toNat, Nat.gcd_rec y.toNat x.toNat, Nat.gcd_comm]
      rw [e2] at e
      have hb : B__law_fraction_1 [.val (.int t), .val (.int b), .val (.int x), .val (.int y)] u = some (.nx [.val (.int t), .val (.int b), .val (.int y), .val (.int (x % y))], u) := by
        simp only [B__law_fraction_1, lim0, lim1, lim2, lim3, lim4, Dl.run, s_seq, s_nop, s_ret, s_retN, s_if, s_set, s_put, s_app, s_augI, putA, s_expr, s_tg, s_parA, s_parB, noB, t_name, t_nil, t_cons, t_tup, e_bin, e_un, e_c, e_var, e_tup, e_lst, e_if, e_and, e_or, e_not, e_chain, e_orT, b_of, b_and, b_or, b_not, asB, asI, a_nil, a_cons, e_call, e_callB, toSl, thaw, isBor, noL, noList, noListAll, dats, dat1, k_add, addD, k_sub, k_mul, mulD, k_div, k_mod, k_pow, k_lt, k_le, k_gt, k_ge, k_neg, k_ix, intI, seqA, view, lstA, rfin, setR, k_len, k_tuple, k_list, k_sum, k_max, k_min, k_abs, k_int, k_gcd, k_all, k_isN, k_notN, k_isB, k_notB, isNon, e_slice, o_no, o_so, k_cut, Option.bind_some, Option.map_some, Option.bind_none, Option.map_none, List.getElem?_cons_zero, List.getElem?_cons_succ, List.set_cons_zero, List.set_cons_succ, List.map_cons, List.map_nil, List.any_cons, List.any_nil, List.length_cons, List.length_nil, List.replicate, List.cons_append, List.nil_append, Bool.or_false, Bool.false_or, Bool.or_true, Bool.true_or, Bool.not_false, Bool.not_true, Bool.and_true, Bool.true_and, Bool.and_false, Bool.false_and, if_true, ite_true, Bool.false_eq_true, if_false, ite_false, reduceIte, Nat.zero_add, Nat.add_zero, Nat.reduceAdd, Nat.reduceSub, Nat.sub_self, h0]
      have hc : C__law_fraction_0 [.val (.int t), .val (.int b), .val (.int x), .val (.int y)] u = some (true, u) := by
        simp only [C__law_fraction_0, lim0, lim1, lim2, lim3, lim4, Dl.run, s_seq, s_nop, s_ret, s_retN, s_if, s_set, s_put, s_app, s_augI, putA, s_expr, s_tg, s_parA, s_parB, noB, t_name, t_nil, t_cons, t_tup, e_bin, e_un, e_c, e_var, e_tup, e_lst, e_if, e_and, e_or, e_not, e_chain, e_orT, b_of, b_and, b_or, b_not, asB, asI, a_nil, a_cons, e_call, e_callB, toSl, thaw, isBor, noL, noList, noListAll, dats, dat1, k_add, addD, k_sub, k_mul, mulD, k_div, k_mod, k_pow, k_lt, k_le, k_gt, k_ge, k_neg, k_ix, intI, seqA, view, lstA, rfin, setR, k_len, k_tuple, k_list, k_sum, k_max, k_min, k_abs, k_int, k_gcd, k_all, k_isN, k_notN, k_isB, k_notB, isNon, e_slice, o_no, o_so, k_cut, Option.bind_some, Option.map_some, Option.bind_none, Option.map_none, List.getElem?_cons_zero, List.getElem?_cons_succ, List.set_cons_zero, List.set_cons_succ, List.map_cons, List.map_nil, List.any_cons, List.any_nil, List.length_cons, List.length_nil, List.replicate, List.cons_append, List.nil_append, Bool.or_false, Bool.false_or, Bool.or_true, Bool.true_or, Bool.not_false, Bool.not_true, Bool.and_true, Bool.true_and, Bool.and_false, Bool.false_and, if_true, ite_true, Bool.false_eq_true, if_false, ite_false, reduceIte, Nat.zero_add, Nat.add_zero, Nat.reduceAdd, Nat.reduceSub, Nat.sub_self, decide_eq_true h0]
      rw [whileD]
      simp only [hc, Option.bind_some, if_true, hb]
      exact e
    · have : y = 0 := by omega
      subst this
      refine ⟨0, ?_⟩
      have e : ((Nat.gcd x.toNat (0 : Int).toNat : Nat) : Int) = x := by simp; omega
      rw [e, whileD]
      simp only [C__law_fraction_0, lim0, lim1, lim2, lim3, lim4, Dl.run, s_seq, s_nop, s_ret, s_retN, s_if, s_set, s_put, s_app, s_augI, putA, s_expr, s_tg, s_parA, s_parB, noB, t_name, t_nil, t_cons, t_tup, e_bin, e_un, e_c, e_var, e_tup, e_lst, e_if, e_and, e_or, e_not, e_chain, e_orT, b_of, b_and, b_or, b_not, asB, asI, a_nil, a_cons, e_call, e_callB, toSl, thaw, isBor, noL, noList, noListAll, dats, dat1, k_add, addD, k_sub, k_mul, mulD, k_div, k_mod, k_pow, k_lt, k_le, k_gt, k_ge, k_neg, k_ix, intI, seqA, view, lstA, rfin, setR, k_len, k_tuple, k_list, k_sum, k_max, k_min, k_abs, k_int, k_gcd, k_all, k_isN, k_notN, k_isB, k_notB, isNon, e_slice, o_no, o_so, k_cut, Option.bind_some, Option.map_some, Option.bind_none, Option.map_none, List.getElem?_cons_zero, List.getElem?_cons_succ, List.set_cons_zero, List.set_cons_succ, List.map_cons, List.map_nil, List.any_cons, List.any_nil, List.length_cons, List.length_nil, List.replicate, List.cons_append, List.nil_append, Bool.or_false, Bool.false_or, Bool.or_true, Bool.true_or, Bool.not_false, Bool.not_true, Bool.and_true, Bool.true_and, Bool.and_false, Bool.false_and, if_true, ite_true, Bool.false_eq_true, if_false, ite_false, reduceIte, Nat.zero_add, Nat.add_zero, Nat.reduceAdd, Nat.reduceSub, Nat.sub_self, show decide ((0 : Int) < 0) = false by decide]
theorem ev_fraction {t b : Int} {u : Ur} (ht : 0 ≤ t) (hb : 0 < b) (hb2 : b < 2 ^ 31) : F__law_fraction [.val (.int t), .val (.int b)] u = some (.val (red t b), u) := by
  obtain ⟨g, e⟩ := frac_go (t := t) (b := b) (u := u) b.toNat t b ht (by omega) (Nat.le_refl _)
  have e2 := s_while_of e
  have e3 : ((Nat.gcd t.toNat b.toNat : Nat) : Int) = gg t b := by
    unfold gg
    rw [show t.toNat = t.natAbs by omega, show b.toNat = b.natAbs by omega]
  rw [e3] at e2
  have h := gg_pos (n := t) hb
  have h2 : gg t b ≤ b := by
    have := Nat.le_of_dvd (by omega) (Nat.gcd_dvd_right t.natAbs b.natAbs)
    unfold gg; omega
  have d1 : cd (0 < gg t b ∧ (gg t b).natAbs < BIG) = true := cd_t ⟨h, Nat.lt_trans (by omega) BIG_64⟩
  have ha : ((t.natAbs : Nat) : Int) = t := by omega
  simp only [F__law_fraction, d__law_fraction, lim0, lim1, lim2, lim3, lim4, Dl.run, s_seq, s_nop, s_ret, s_retN, s_if, s_set, s_put, s_app, s_augI, putA, s_expr, s_tg, s_parA, s_parB, noB, t_name, t_nil, t_cons, t_tup, e_bin, e_un, e_c, e_var, e_tup, e_lst, e_if, e_and, e_or, e_not, e_chain, e_orT, b_of, b_and, b_or, b_not, asB, asI, a_nil, a_cons, e_call, e_callB, toSl, thaw, isBor, noL, noList, noListAll, dats, dat1, k_add, addD, k_sub, k_mul, mulD, k_div, k_mod, k_pow, k_lt, k_le, k_gt, k_ge, k_neg, k_ix, intI, seqA, view, lstA, rfin, setR, k_len, k_tuple, k_list, k_sum, k_max, k_min, k_abs, k_int, k_gcd, k_all, k_isN, k_notN, k_isB, k_notB, isNon, e_slice, o_no, o_so, k_cut, Option.bind_some, Option.map_some, Option.bind_none, Option.map_none, List.getElem?_cons_zero, List.getElem?_cons_succ, List.set_cons_zero, List.set_cons_succ, List.map_cons, List.map_nil, List.any_cons, List.any_nil, List.length_cons, List.length_nil, List.replicate, List.cons_append, List.nil_append, Bool.or_false, Bool.false_or, Bool.or_true, Bool.true_or, Bool.not_false, Bool.not_true, Bool.and_true, Bool.true_and, Bool.and_false, Bool.false_and, if_true, ite_true, Bool.false_eq_true, if_false, ite_false, reduceIte, Nat.zero_add, Nat.add_zero, Nat.reduceAdd, Nat.reduceSub, Nat.sub_self, ha, e2, d1]
  rfl
end K45
end

section
set_option Elab.async false
set_option linter.all false
set_option maxRecDepth 100000
/-! The plain law, part 13: drawn votes, a drawn rule, the box. -/
namespace K45
open PySem PySem.Spec PyProof.Rows L2 Dl

/-! ### votes -/
structure Dr (i : Nat) (l : List Int) : Prop where
  len : l.length = i
  be : ∀ x ∈ l, 0 < x ∧ x ≤ 60 * 3 ^ i
theorem Dr.app {i : Nat} {l : List Int} {x : Int} (h : Dr i l) (h0 : 0 < x) (h1 : x ≤ 60 * 3 ^ (i + 1)) : Dr (i + 1) (l ++ [x]) := by
  refine ⟨by simp [h.len], fun y hy => ?_⟩
  have e : (3 : Int) ^ (i + 1) = 3 ^ i * 3 := Int.pow_succ _ _
  have p : (0 : Int) < 3 ^ i := Int.pow_pos (by decide)
  rcases List.mem_append.mp hy with hy | hy
  · have := h.be y hy; omega
  · rw [List.mem_singleton] at hy
    subst hy
    exact ⟨h0, h1⟩
theorem law_of_ints {k : Nat} {u : Ur} {l : List Int} (U : UrnOk k u) (hk : k ≤ 1000000) (h0 : l ≠ []) (hb : l.length ≤ 1000) :
    ∃ x ∈ l, ∃ u', F__law_of [.urn, .val (.list (l.map PyData.int))] u = some (.val (.int x), u') ∧ UrnOk (k + 1) u' := by
  have hp : 0 < l.length := List.length_pos_iff.mpr h0
  obtain ⟨r, d, u', e, hr, U'⟩ := ev_law_of (ds := l.map PyData.int) U hk (by rw [List.length_map]; exact hp) (by rw [List.length_map]; omega)
  rw [List.getElem?_map] at hr
  obtain ⟨x, h1, rfl⟩ := Option.map_eq_some_iff.mp hr
  exact ⟨x, List.mem_of_getElem? h1, u', e, U'⟩
theorem votes_step {i k : Nat} {u : Ur} {l : List Int} {w1 x4 : Sl} {at_ : Int} (U : UrnOk k u) (hk : k ≤ 100000) (h : Dr i l) (hi : i ≤ 6) :
    ∃ l' y4 u', B__law_votes_0 [.urn, w1, .own (l.map PyData.int), .val (.int at_), x4] u = some (.nx [.urn, w1, .own (l'.map PyData.int), .val (.int at_), y4], u') ∧ Dr (i + 1) l' ∧ UrnOk (k + 3) u' := by
  obtain ⟨r, u1, e1, r0, r1, U1⟩ := ev_take (b := 4) U (by omega) (by decide) (by decide)
  have hl := h.len
  have ll : lim ((l.map PyData.int).length + 1) = true := lim_of (by rw [List.length_map]; omega)
  have p : (0 : Int) < 3 ^ i := Int.pow_pos (by decide)
  have e3 : (3 : Int) ^ (i + 1) = 3 ^ i * 3 := Int.pow_succ _ _
  have ne := ne_nil (u := u1) (i := 2) l
  have last : ∀ x, 0 < x → x ≤ 60 * 3 ^ (i + 1) → ∃ l', (l.map PyData.int) ++ [PyData.int x] = l'.map PyData.int ∧ Dr (i + 1) l' := fun x h0 h1 => ⟨l ++ [x], by rw [List.map_append]; rfl, h.app h0 h1⟩
  obtain ⟨t, u3, e5, t0, t1, U3⟩ := ev_take (b := 60) U1 (by omega) (by decide) (by decide)
  obtain ⟨lc, c1, c2⟩ := last (1 + t) (by omega) (by omega)
  have draw3 : ∀ (hc : r ≠ 0 ∨ l = []) (hd : r ≠ 1 ∨ l = []), ∃ l' y4 u', B__law_votes_0 [.urn, w1, .own (l.map PyData.int), .val (.int at_), x4] u = some (.nx [.urn, w1, .own (l'.map PyData.int), .val (.int at_), y4], u') ∧ Dr (i + 1) l' ∧ UrnOk (k + 3) u' := fun hc hd => by
    refine ⟨lc, .val (.int r), u3, ?_, c2, U3.mono (by omega)⟩
    rw [← c1]
    by_cases hln : l = []
    · have hd1 : decide (l ≠ []) = false := decide_eq_false (fun h => h hln)
      rw [hd1] at ne
      generalize l.map PyData.int = L at *
      by_cases h0 : r = 0
      · subst h0
        simp only [B__law_votes_0, lim0, lim1, lim2, lim3, lim4, Dl.run, s_seq, s_nop, s_ret, s_retN, s_if, s_set, s_put, s_app, s_augI, putA, s_expr, s_tg, s_parA, s_parB, noB, t_name, t_nil, t_cons, t_tup, e_bin, e_un, e_c, e_var, e_tup, e_lst, e_if, e_and, e_or, e_not, e_chain, e_orT, b_of, b_and, b_or, b_not, asB, asI, a_nil, a_cons, e_call, e_callB, toSl, thaw, isBor, noL, noList, noListAll, dats, dat1, k_add, addD, k_sub, k_mul, mulD, k_div, k_mod, k_pow, k_lt, k_le, k_gt, k_ge, k_neg, k_ix, intI, seqA, view, lstA, rfin, setR, k_len, k_tuple, k_list, k_sum, k_max, k_min, k_abs, k_int, k_gcd, k_all, k_isN, k_notN, k_isB, k_notB, isNon, e_slice, o_no, o_so, k_cut, Option.bind_some, Option.map_some, Option.bind_none, Option.map_none, List.getElem?_cons_zero, List.getElem?_cons_succ, List.set_cons_zero, List.set_cons_succ, List.map_cons, List.map_nil, List.any_cons, List.any_nil, List.length_cons, List.length_nil, List.replicate, List.cons_append, List.nil_append, Bool.or_false, Bool.false_or, Bool.or_true, Bool.true_or, Bool.not_false, Bool.not_true, Bool.and_true, Bool.true_and, Bool.and_false, Bool.false_and, if_true, ite_true, Bool.false_eq_true, if_false, ite_false, reduceIte, Nat.zero_add, Nat.add_zero, Nat.reduceAdd, Nat.reduceSub, Nat.sub_self, e1, eq_int, ne, e5, ll, decide_true, show decide ((0 : Int) = 1) = false by decide]
      · by_cases h1 : r = 1
        · subst h1
          simp only [B__law_votes_0, lim0, lim1, lim2, lim3, lim4, Dl.run, s_seq, s_nop, s_ret, s_retN, s_if, s_set, s_put, s_app, s_augI, putA, s_expr, s_tg, s_parA, s_parB, noB, t_name, t_nil, t_cons, t_tup, e_bin, e_un, e_c, e_var, e_tup, e_lst, e_if, e_and, e_or, e_not, e_chain, e_orT, b_of, b_and, b_or, b_not, asB, asI, a_nil, a_cons, e_call, e_callB, toSl, thaw, isBor, noL, noList, noListAll, dats, dat1, k_add, addD, k_sub, k_mul, mulD, k_div, k_mod, k_pow, k_lt, k_le, k_gt, k_ge, k_neg, k_ix, intI, seqA, view, lstA, rfin, setR, k_len, k_tuple, k_list, k_sum, k_max, k_min, k_abs, k_int, k_gcd, k_all, k_isN, k_notN, k_isB, k_notB, isNon, e_slice, o_no, o_so, k_cut, Option.bind_some, Option.map_some, Option.bind_none, Option.map_none, List.getElem?_cons_zero, List.getElem?_cons_succ, List.set_cons_zero, List.set_cons_succ, List.map_cons, List.map_nil, List.any_cons, List.any_nil, List.length_cons, List.length_nil, List.replicate, List.cons_append, List.nil_append, Bool.or_false, Bool.false_or, Bool.or_true, Bool.true_or, Bool.not_false, Bool.not_true, Bool.and_true, Bool.true_and, Bool.and_false, Bool.false_and, if_true, ite_true, Bool.false_eq_true, if_false, ite_false, reduceIte, Nat.zero_add, Nat.add_zero, Nat.reduceAdd, Nat.reduceSub, Nat.sub_self, e1, eq_int, ne, e5, ll, decide_true, show decide ((1 : Int) = 0) = false by decide]
        · simp only [B__law_votes_0, lim0, lim1, lim2, lim3, lim4, Dl.run, s_seq, s_nop, s_ret, s_retN, s_if, s_set, s_put, s_app, s_augI, putA, s_expr, s_tg, s_parA, s_parB, noB, t_name, t_nil, t_cons, t_tup, e_bin, e_un, e_c, e_var, e_tup, e_lst, e_if, e_and, e_or, e_not, e_chain, e_orT, b_of, b_and, b_or, b_not, asB, asI, a_nil, a_cons, e_call, e_callB, toSl, thaw, isBor, noL, noList, noListAll, dats, dat1, k_add, addD, k_sub, k_mul, mulD, k_div, k_mod, k_pow, k_lt, k_le, k_gt, k_ge, k_neg, k_ix, intI, seqA, view, lstA, rfin, setR, k_len, k_tuple, k_list, k_sum, k_max, k_min, k_abs, k_int, k_gcd, k_all, k_isN, k_notN, k_isB, k_notB, isNon, e_slice, o_no, o_so, k_cut, Option.bind_some, Option.map_some, Option.bind_none, Option.map_none, List.getElem?_cons_zero, List.getElem?_cons_succ, List.set_cons_zero, List.set_cons_succ, List.map_cons, List.map_nil, List.any_cons, List.any_nil, List.length_cons, List.length_nil, List.replicate, List.cons_append, List.nil_append, Bool.or_false, Bool.false_or, Bool.or_true, Bool.true_or, Bool.not_false, Bool.not_true, Bool.and_true, Bool.true_and, Bool.and_false, Bool.false_and, if_true, ite_true, Bool.false_eq_true, if_false, ite_false, reduceIte, Nat.zero_add, Nat.add_zero, Nat.reduceAdd, Nat.reduceSub, Nat.sub_self, e1, eq_int, ne, e5, ll, decide_eq_false h0, decide_eq_false h1]
    · have h0 : r ≠ 0 := by rcases hc with h | h; exact h; exact absurd h hln
      have h1 : r ≠ 1 := by rcases hd with h | h; exact h; exact absurd h hln
      generalize l.map PyData.int = L at *
      simp only [B__law_votes_0, lim0, lim1, lim2, lim3, lim4, Dl.run, s_seq, s_nop, s_ret, s_retN, s_if, s_set, s_put, s_app, s_augI, putA, s_expr, s_tg, s_parA, s_parB, noB, t_name, t_nil, t_cons, t_tup, e_bin, e_un, e_c, e_var, e_tup, e_lst, e_if, e_and, e_or, e_not, e_chain, e_orT, b_of, b_and, b_or, b_not, asB, asI, a_nil, a_cons, e_call, e_callB, toSl, thaw, isBor, noL, noList, noListAll, dats, dat1, k_add, addD, k_sub, k_mul, mulD, k_div, k_mod, k_pow, k_lt, k_le, k_gt, k_ge, k_neg, k_ix, intI, seqA, view, lstA, rfin, setR, k_len, k_tuple, k_list, k_sum, k_max, k_min, k_abs, k_int, k_gcd, k_all, k_isN, k_notN, k_isB, k_notB, isNon, e_slice, o_no, o_so, k_cut, Option.bind_some, Option.map_some, Option.bind_none, Option.map_none, List.getElem?_cons_zero, List.getElem?_cons_succ, List.set_cons_zero, List.set_cons_succ, List.map_cons, List.map_nil, List.any_cons, List.any_nil, List.length_cons, List.length_nil, List.replicate, List.cons_append, List.nil_append, Bool.or_false, Bool.false_or, Bool.or_true, Bool.true_or, Bool.not_false, Bool.not_true, Bool.and_true, Bool.true_and, Bool.and_false, Bool.false_and, if_true, ite_true, Bool.false_eq_true, if_false, ite_false, reduceIte, Nat.zero_add, Nat.add_zero, Nat.reduceAdd, Nat.reduceSub, Nat.sub_self, e1, eq_int, e5, ll, decide_eq_false h0, decide_eq_false h1]
  by_cases hln : l = []
  · exact draw3 (.inr hln) (.inr hln)
  · have hd1 : decide (l ≠ []) = true := decide_eq_true hln
    rw [hd1] at ne
    obtain ⟨x, hx, u2, e2, U2⟩ := law_of_ints U1 (by omega) hln (by omega)
    have hxb := h.be x hx
    by_cases h0 : r = 0
    · obtain ⟨l', q1, q2⟩ := last x hxb.1 (by omega)
      refine ⟨l', .val (.int r), u2, ?_, q2, U2.mono (by omega)⟩
      rw [← q1]
      subst h0
      generalize l.map PyData.int = L at *
      simp only [B__law_votes_0, lim0, lim1, lim2, lim3, lim4, Dl.run, s_seq, s_nop, s_ret, s_retN, s_if, s_set, s_put, s_app, s_augI, putA, s_expr, s_tg, s_parA, s_parB, noB, t_name, t_nil, t_cons, t_tup, e_bin, e_un, e_c, e_var, e_tup, e_lst, e_if, e_and, e_or, e_not, e_chain, e_orT, b_of, b_and, b_or, b_not, asB, asI, a_nil, a_cons, e_call, e_callB, toSl, thaw, isBor, noL, noList, noListAll, dats, dat1, k_add, addD, k_sub, k_mul, mulD, k_div, k_mod, k_pow, k_lt, k_le, k_gt, k_ge, k_neg, k_ix, intI, seqA, view, lstA, rfin, setR, k_len, k_tuple, k_list, k_sum, k_max, k_min, k_abs, k_int, k_gcd, k_all, k_isN, k_notN, k_isB, k_notB, isNon, e_slice, o_no, o_so, k_cut, Option.bind_some, Option.map_some, Option.bind_none, Option.map_none, List.getElem?_cons_zero, List.getElem?_cons_succ, List.set_cons_zero, List.set_cons_succ, List.map_cons, List.map_nil, List.any_cons, List.any_nil, List.length_cons, List.length_nil, List.replicate, List.cons_append, List.nil_append, Bool.or_false, Bool.false_or, Bool.or_true, Bool.true_or, Bool.not_false, Bool.not_true, Bool.and_true, Bool.true_and, Bool.and_false, Bool.false_and, if_true, ite_true, Bool.false_eq_true, if_false, ite_false, reduceIte, Nat.zero_add, Nat.add_zero, Nat.reduceAdd, Nat.reduceSub, Nat.sub_self, e1, eq_int, ne, e2, ll, decide_true]
    · by_cases h1 : r = 1
      · obtain ⟨z, u4, e4, z0, z1, U4⟩ := ev_take (b := 2) U2 (by omega) (by decide) (by decide)
        have hz : x * (2 + z) ≤ x * 3 := Int.mul_le_mul_of_nonneg_left (by omega) (by omega)
        have hz0 : 0 < x * (2 + z) := Int.mul_pos hxb.1 (by omega)
        have mm : mulOk x (2 + z) = true := mulOk_r (by omega)
        obtain ⟨l', q1, q2⟩ := last (x * (2 + z)) hz0 (by omega)
        refine ⟨l', .val (.int r), u4, ?_, q2, U4.mono (by omega)⟩
        rw [← q1]
        subst h1
        generalize l.map PyData.int = L at *
        simp only [B__law_votes_0, lim0, lim1, lim2, lim3, lim4, Dl.run, s_seq, s_nop, s_ret, s_retN, s_if, s_set, s_put, s_app, s_augI, putA, s_expr, s_tg, s_parA, s_parB, noB, t_name, t_nil, t_cons, t_tup, e_bin, e_un, e_c, e_var, e_tup, e_lst, e_if, e_and, e_or, e_not, e_chain, e_orT, b_of, b_and, b_or, b_not, asB, asI, a_nil, a_cons, e_call, e_callB, toSl, thaw, isBor, noL, noList, noListAll, dats, dat1, k_add, addD, k_sub, k_mul, mulD, k_div, k_mod, k_pow, k_lt, k_le, k_gt, k_ge, k_neg, k_ix, intI, seqA, view, lstA, rfin, setR, k_len, k_tuple, k_list, k_sum, k_max, k_min, k_abs, k_int, k_gcd, k_all, k_isN, k_notN, k_isB, k_notB, isNon, e_slice, o_no, o_so, k_cut, Option.bind_some, Option.map_some, Option.bind_none, Option.map_none, List.getElem?_cons_zero, List.getElem?_cons_succ, List.set_cons_zero, List.set_cons_succ, List.map_cons, List.map_nil, List.any_cons, List.any_nil, List.length_cons, List.length_nil, List.replicate, List.cons_append, List.nil_append, Bool.or_false, Bool.false_or, Bool.or_true, Bool.true_or, Bool.not_false, Bool.not_true, Bool.and_true, Bool.true_and, Bool.and_false, Bool.false_and, if_true, ite_true, Bool.false_eq_true, if_false, ite_false, reduceIte, Nat.zero_add, Nat.add_zero, Nat.reduceAdd, Nat.reduceSub, Nat.sub_self, e1, eq_int, ne, e2, e4, mm, ll, decide_true, show decide ((1 : Int) = 0) = false by decide]
      · exact draw3 (.inl h0) (.inl h1)
theorem ev_law_votes {k n : Nat} {u : Ur} (U : UrnOk k u) (hk : k ≤ 1000) (hn : n ≤ 6) : ∃ l u', F__law_votes [.urn, .val (.int (n : Nat))] u = some (.val (ti l), u') ∧ Dr n l ∧ UrnOk (k + 3 * n) u' := by
  obtain ⟨ε', u', e1, l, x3, x4, rfl, hl, U'⟩ := forD_urn (tg := t_name 3) (body := B__law_votes_0)
    (fun i ε u => ∃ (l : List Int) (x3 x4 : Sl), ε = [.urn, .val (.int (n : Nat)), .own (l.map PyData.int), x3, x4] ∧ Dr i l ∧ UrnOk (k + 3 * i) u)
    (rgD 0 ((n : Nat) : Int).toNat) 0 [.urn, .val (.int (n : Nat)), .own [], .un, .un] u ⟨[], _, _, rfl, ⟨rfl, fun x hx => by cases hx⟩, U⟩
    (fun i d ε u hd hI => by
      obtain ⟨hi, rfl⟩ := rgD_get hd
      obtain ⟨l, x3, x4, rfl, hl, U⟩ := hI
      obtain ⟨l', y4, u', e, hl', U'⟩ := votes_step (w1 := .val (.int (n : Nat))) (x4 := x4) (at_ := 0 + (i : Nat)) U (by omega) hl (by omega)
      exact ⟨_, _, _, rfl, e, l', _, _, rfl, hl', U'.mono (by omega)⟩)
  rw [rgD_len, Nat.zero_add] at hl U'
  rw [Int.toNat_natCast] at hl U'
  refine ⟨l, u', ?_, hl, U'⟩
  have e9 : (a_cons (e_var 1) a_nil) [.urn, .val (.int (n : Nat)), .own [], .un, .un] u = some ([.val (.int (n : Nat))], u) := by
    simp only [lim0, lim1, lim2, lim3, lim4, Dl.run, s_seq, s_nop, s_ret, s_retN, s_if, s_set, s_put, s_app, s_augI, putA, s_expr, s_tg, s_parA, s_parB, noB, t_name, t_nil, t_cons, t_tup, e_bin, e_un, e_c, e_var, e_tup, e_lst, e_if, e_and, e_or, e_not, e_chain, e_orT, b_of, b_and, b_or, b_not, asB, asI, a_nil, a_cons, e_call, e_callB, toSl, thaw, isBor, noL, noList, noListAll, dats, dat1, k_add, addD, k_sub, k_mul, mulD, k_div, k_mod, k_pow, k_lt, k_le, k_gt, k_ge, k_neg, k_ix, intI, seqA, view, lstA, rfin, setR, k_len, k_tuple, k_list, k_sum, k_max, k_min, k_abs, k_int, k_gcd, k_all, k_isN, k_notN, k_isB, k_notB, isNon, e_slice, o_no, o_so, k_cut, Option.bind_some, Option.map_some, Option.bind_none, Option.map_none, List.getElem?_cons_zero, List.getElem?_cons_succ, List.set_cons_zero, List.set_cons_succ, List.map_cons, List.map_nil, List.any_cons, List.any_nil, List.length_cons, List.length_nil, List.replicate, List.cons_append, List.nil_append, Bool.or_false, Bool.false_or, Bool.or_true, Bool.true_or, Bool.not_false, Bool.not_true, Bool.and_true, Bool.true_and, Bool.and_false, Bool.false_and, if_true, ite_true, Bool.false_eq_true, if_false, ite_false, reduceIte, Nat.zero_add, Nat.add_zero, Nat.reduceAdd, Nat.reduceSub, Nat.sub_self]
  have e3 := for_ok (it1 e9 (by omega) (by omega)) rfl e1
  unfold ti
  generalize l.map PyData.int = L at *
  simp only [F__law_votes, d__law_votes, lim0, lim1, lim2, lim3, lim4, Dl.run, s_seq, s_nop, s_ret, s_retN, s_if, s_set, s_put, s_app, s_augI, putA, s_expr, s_tg, s_parA, s_parB, noB, t_name, t_nil, t_cons, t_tup, e_bin, e_un, e_c, e_var, e_tup, e_lst, e_if, e_and, e_or, e_not, e_chain, e_orT, b_of, b_and, b_or, b_not, asB, asI, a_nil, a_cons, e_call, e_callB, toSl, thaw, isBor, noL, noList, noListAll, dats, dat1, k_add, addD, k_sub, k_mul, mulD, k_div, k_mod, k_pow, k_lt, k_le, k_gt, k_ge, k_neg, k_ix, intI, seqA, view, lstA, rfin, setR, k_len, k_tuple, k_list, k_sum, k_max, k_min, k_abs, k_int, k_gcd, k_all, k_isN, k_notN, k_isB, k_notB, isNon, e_slice, o_no, o_so, k_cut, Option.bind_some, Option.map_some, Option.bind_none, Option.map_none, List.getElem?_cons_zero, List.getElem?_cons_succ, List.set_cons_zero, List.set_cons_succ, List.map_cons, List.map_nil, List.any_cons, List.any_nil, List.length_cons, List.length_nil, List.replicate, List.cons_append, List.nil_append, Bool.or_false, Bool.false_or, Bool.or_true, Bool.true_or, Bool.not_false, Bool.not_true, Bool.and_true, Bool.true_and, Bool.and_false, Bool.false_and, if_true, ite_true, Bool.false_eq_true, if_false, ite_false, reduceIte, Nat.zero_add, Nat.add_zero, Nat.reduceAdd, Nat.reduceSub, Nat.sub_self, e3]

/-! ### a rule -/
theorem red_at {n g p q : Int} (h : gg n 60 = g) (hp : n / g = p) (hq : 60 / g = q) : (fr p q : D) = red n 60 := by unfold red; rw [h, hp, hq]
structure Row (i : Nat) (L : List Int) : Prop where
  len : L.length = i
  be : ∀ j, j < i → 60 * (j : Int) ≤ gd L j ∧ gd L j ≤ 60 * j + 60
def r60 (n : Int) : D := red n 60
theorem rule_step {i k : Nat} {u : Ur} {L : List Int} {x3 : Sl} (U : UrnOk k u) (hk : k ≤ 100000) (h : Row i L) (hi : i ≤ 6) :
    ∃ (L' : List Int) (y3 : Sl) (u' : Ur), B__law_rule_0 [.urn, .val (.tuple (L.map r60)), .val (.int (i : Nat)), x3] u = some (.nx [.urn, .val (.tuple (L'.map r60)), .val (.int (i : Nat)), y3], u') ∧ Row (i + 1) L' ∧ UrnOk (k + 2) u' := by
  obtain ⟨t, u1, e1, t0, t1, U1⟩ := ev_take (b := 4) U (by omega) (by decide) (by decide)
  obtain ⟨r, u2, e2, r0, r1, U2⟩ := ev_take (b := 1 + t + 1) U1 (by omega) (by omega) (by omega)
  have hb : 1 + t = 1 ∨ 1 + t = 2 ∨ 1 + t = 3 ∨ 1 + t = 4 := by omega
  have hm : mulOk (i : Int) (1 + t) = true := mulOk_l (by omega)
  have hp : (0 : Int) ≤ (i : Nat) * (1 + t) := Int.mul_nonneg (by omega) (by omega)
  have e3 := ev_fraction (u := u2) (t := (i : Nat) * (1 + t) + r) (b := 1 + t) (by omega) (by omega) (by omega)
  have hl := h.len
  obtain ⟨z, ez, z1, z2⟩ : ∃ z, red ((i : Nat) * (1 + t) + r) (1 + t) = r60 z ∧ 60 * (i : Int) ≤ z ∧ z ≤ 60 * i + 60 := by
    rcases hb with e | e | e | e
    · refine ⟨60 * ((i : Nat) * 1 + r), ?_, by omega, by omega⟩
      rw [e]; unfold r60
      exact red_of (by decide) (by decide) (by omega)
    · refine ⟨30 * ((i : Nat) * 2 + r), ?_, by omega, by omega⟩
      rw [e]; unfold r60
      exact red_of (by decide) (by decide) (by omega)
    · refine ⟨20 * ((i : Nat) * 3 + r), ?_, by omega, by omega⟩
      rw [e]; unfold r60
      exact red_of (by decide) (by decide) (by omega)
    · refine ⟨15 * ((i : Nat) * 4 + r), ?_, by omega, by omega⟩
      rw [e]; unfold r60
      exact red_of (by decide) (by decide) (by omega)
  rw [ez] at e3
  have ll : lim ((L.map r60).length + 1) = true := lim_of (by rw [List.length_map]; omega)
  refine ⟨L ++ [z], .val (.int (1 + t)), u2, ?_, ⟨by simp [hl], fun j hj => ?_⟩, U2.mono (by omega)⟩
  · rw [List.map_append, List.map_cons, List.map_nil]
    generalize L.map r60 = A at *
    simp only [B__law_rule_0, lim0, lim1, lim2, lim3, lim4, Dl.run, s_seq, s_nop, s_ret, s_retN, s_if, s_set, s_put, s_app, s_augI, putA, s_expr, s_tg, s_parA, s_parB, noB, t_name, t_nil, t_cons, t_tup, e_bin, e_un, e_c, e_var, e_tup, e_lst, e_if, e_and, e_or, e_not, e_chain, e_orT, b_of, b_and, b_or, b_not, asB, asI, a_nil, a_cons, e_call, e_callB, toSl, thaw, isBor, noL, noList, noListAll, dats, dat1, k_add, addD, k_sub, k_mul, mulD, k_div, k_mod, k_pow, k_lt, k_le, k_gt, k_ge, k_neg, k_ix, intI, seqA, view, lstA, rfin, setR, k_len, k_tuple, k_list, k_sum, k_max, k_min, k_abs, k_int, k_gcd, k_all, k_isN, k_notN, k_isB, k_notB, isNon, e_slice, o_no, o_so, k_cut, Option.bind_some, Option.map_some, Option.bind_none, Option.map_none, List.getElem?_cons_zero, List.getElem?_cons_succ, List.set_cons_zero, List.set_cons_succ, List.map_cons, List.map_nil, List.any_cons, List.any_nil, List.length_cons, List.length_nil, List.replicate, List.cons_append, List.nil_append, Bool.or_false, Bool.false_or, Bool.or_true, Bool.true_or, Bool.not_false, Bool.not_true, Bool.and_true, Bool.true_and, Bool.and_false, Bool.false_and, if_true, ite_true, Bool.false_eq_true, if_false, ite_false, reduceIte, Nat.zero_add, Nat.add_zero, Nat.reduceAdd, Nat.reduceSub, Nat.sub_self, e1, e2, hm, e3, ll]
  · by_cases hji : j < i
    · rw [gd_app1 (by omega)]; exact h.be j hji
    · have : j = L.length := by omega
      subst this
      rw [gd_app2]
      omega
theorem ev_law_rule {k : Nat} {u : Ur} (U : UrnOk k u) (hk : k ≤ 1000) : ∃ P s u', F__law_rule [.urn] u = some (.val P, u') ∧ PostOk P s ∧ UrnOk (k + 20) u' := by
  obtain ⟨n, u1, e1, n0, n1, U1⟩ := ev_take (b := 4) U (by omega) (by decide) (by decide)
  obtain ⟨ε', u', e2, L, x2, x3, rfl, hL, U'⟩ := forD_urn (tg := t_name 2) (body := B__law_rule_0)
    (fun i ε u => ∃ (L : List Int) (x2 x3 : Sl), ε = [.urn, .val (.tuple (L.map r60)), x2, x3] ∧ Row i L ∧ UrnOk (k + 1 + 2 * i) u)
    (rgD 0 n.toNat) 0 [.urn, .val (.tuple []), .un, .un] u1 ⟨[], _, _, rfl, ⟨rfl, fun j hj => by omega⟩, U1⟩
    (fun i d ε u hd hI => by
      obtain ⟨hi, rfl⟩ := rgD_get hd
      obtain ⟨L, x2, x3, rfl, hL, U⟩ := hI
      rw [Nat.zero_add] at hL U
      rw [show (0 : Int) + (i : Nat) = (i : Nat) by omega]
      obtain ⟨L', y3, u', e, hL', U'⟩ := rule_step (x3 := x3) U (by omega) hL (by omega)
      exact ⟨_, _, _, rfl, e, L', _, _, rfl, by rw [Nat.zero_add]; exact hL', U'.mono (by omega)⟩)
  rw [rgD_len, Nat.zero_add] at hL U'
  have e9 : (a_cons (e_call F__law_take (a_cons (e_var 0) (a_cons (e_c (.int 4)) a_nil))) a_nil) [.urn, .val (.tuple []), .un, .un] u = some ([.val (.int n)], u1) := by
    simp only [lim0, lim1, lim2, lim3, lim4, Dl.run, s_seq, s_nop, s_ret, s_retN, s_if, s_set, s_put, s_app, s_augI, putA, s_expr, s_tg, s_parA, s_parB, noB, t_name, t_nil, t_cons, t_tup, e_bin, e_un, e_c, e_var, e_tup, e_lst, e_if, e_and, e_or, e_not, e_chain, e_orT, b_of, b_and, b_or, b_not, asB, asI, a_nil, a_cons, e_call, e_callB, toSl, thaw, isBor, noL, noList, noListAll, dats, dat1, k_add, addD, k_sub, k_mul, mulD, k_div, k_mod, k_pow, k_lt, k_le, k_gt, k_ge, k_neg, k_ix, intI, seqA, view, lstA, rfin, setR, k_len, k_tuple, k_list, k_sum, k_max, k_min, k_abs, k_int, k_gcd, k_all, k_isN, k_notN, k_isB, k_notB, isNon, e_slice, o_no, o_so, k_cut, Option.bind_some, Option.map_some, Option.bind_none, Option.map_none, List.getElem?_cons_zero, List.getElem?_cons_succ, List.set_cons_zero, List.set_cons_succ, List.map_cons, List.map_nil, List.any_cons, List.any_nil, List.length_cons, List.length_nil, List.replicate, List.cons_append, List.nil_append, Bool.or_false, Bool.false_or, Bool.or_true, Bool.true_or, Bool.not_false, Bool.not_true, Bool.and_true, Bool.true_and, Bool.and_false, Bool.false_and, if_true, ite_true, Bool.false_eq_true, if_false, ite_false, reduceIte, Nat.zero_add, Nat.add_zero, Nat.reduceAdd, Nat.reduceSub, Nat.sub_self, e1]
  have e3 := for_ok (it1 e9 (by omega) (by omega)) rfl e2
  have f0 : (fr 0 1 : D) = red 0 60 := red_at (g := 60) (by decide) (by decide) (by decide)
  have f1 : (fr 1 1 : D) = red 60 60 := red_at (g := 60) (by decide) (by decide) (by decide)
  have f2 : (fr 1 2 : D) = red 30 60 := red_at (g := 30) (by decide) (by decide) (by decide)
  have f3 : (fr 1 3 : D) = red 20 60 := red_at (g := 20) (by decide) (by decide) (by decide)
  have f4 : (fr 2 5 : D) = red 24 60 := red_at (g := 12) (by decide) (by decide) (by decide)
  have f5 : (fr 3 4 : D) = red 45 60 := red_at (g := 15) (by decide) (by decide) (by decide)
  obtain ⟨r, d, u2, e4, hr, U2⟩ := ev_law_of (ds := [fr 0 1, fr 1 1, fr 1 2, fr 1 3, fr 2 5, fr 3 4]) U' (by omega) (by decide) (by decide)
  obtain ⟨σ, hσ, s0, s1⟩ : ∃ σ, d = red σ 60 ∧ 0 ≤ σ ∧ σ ≤ 60 := by
    have hm := List.mem_of_getElem? hr
    simp only [List.mem_cons, List.not_mem_nil, or_false] at hm
    rcases hm with rfl | rfl | rfl | rfl | rfl | rfl
    · exact ⟨0, f0, by decide, by decide⟩
    · exact ⟨60, f1, by decide, by decide⟩
    · exact ⟨30, f2, by decide, by decide⟩
    · exact ⟨20, f3, by decide, by decide⟩
    · exact ⟨24, f4, by decide, by decide⟩
    · exact ⟨45, f5, by decide, by decide⟩
  subst hσ
  have l6 : lim 6 = true := cd_t (by decide)
  refine ⟨.tuple [.tuple (L.map r60), red σ 60], fun j => if j < L.length then gd L j else 60 * j + σ, u2, ?_, ⟨⟨L.map r60, σ, rfl, fun j d hj => ?_, fun j hj => ?_, ?_, s0, s1⟩, fun j => ?_, fun j => ?_⟩, U2.mono (by omega)⟩
  · generalize L.map r60 = A at *
    simp only [F__law_rule, d__law_rule, lim0, lim1, lim2, lim3, lim4, Dl.run, s_seq, s_nop, s_ret, s_retN, s_if, s_set, s_put, s_app, s_augI, putA, s_expr, s_tg, s_parA, s_parB, noB, t_name, t_nil, t_cons, t_tup, e_bin, e_un, e_c, e_var, e_tup, e_lst, e_if, e_and, e_or, e_not, e_chain, e_orT, b_of, b_and, b_or, b_not, asB, asI, a_nil, a_cons, e_call, e_callB, toSl, thaw, isBor, noL, noList, noListAll, dats, dat1, k_add, addD, k_sub, k_mul, mulD, k_div, k_mod, k_pow, k_lt, k_le, k_gt, k_ge, k_neg, k_ix, intI, seqA, view, lstA, rfin, setR, k_len, k_tuple, k_list, k_sum, k_max, k_min, k_abs, k_int, k_gcd, k_all, k_isN, k_notN, k_isB, k_notB, isNon, e_slice, o_no, o_so, k_cut, Option.bind_some, Option.map_some, Option.bind_none, Option.map_none, List.getElem?_cons_zero, List.getElem?_cons_succ, List.set_cons_zero, List.set_cons_succ, List.map_cons, List.map_nil, List.any_cons, List.any_nil, List.length_cons, List.length_nil, List.replicate, List.cons_append, List.nil_append, Bool.or_false, Bool.false_or, Bool.or_true, Bool.true_or, Bool.not_false, Bool.not_true, Bool.and_true, Bool.true_and, Bool.and_false, Bool.false_and, if_true, ite_true, Bool.false_eq_true, if_false, ite_false, reduceIte, Nat.zero_add, Nat.add_zero, Nat.reduceAdd, Nat.reduceSub, Nat.sub_self, e3, l6, e4]
  · rw [List.getElem?_map] at hj
    obtain ⟨z, h1, rfl⟩ := Option.map_eq_some_iff.mp hj
    have hjl := (List.getElem?_eq_some_iff.mp h1).1
    rw [gd_get hjl] at h1
    cases h1
    rw [if_pos hjl]; rfl
  · rw [List.length_map] at hj
    rw [if_neg (by omega)]
  · rw [List.length_map]; have := hL.len; omega
  · have := hL.len
    split
    · exact (hL.be j (by omega)).1
    · omega
  · have := hL.len
    split
    · exact (hL.be j (by omega)).2
    · omega

/-! ### the box -/
theorem cells_step {u : Ur} {w0 x3 x4 x5 : Sl} {x c : Int} {k : Nat} (hk : k ≤ 1000) : ∃ y y5, B__law_cells_0 [w0, .val (.int 1), .own [.int x], .val (.int (k : Nat)), .val (.int c), x5] u = some (.nx [w0, .val (.int 1), .own [.int y], .val (.int (k : Nat)), .val (.int c), y5], u) := by
  have m1 : mulOk c ((k : Nat) + 2) = true := mulOk_r (by omega)
  have q : (0 : Int) < 1 := by decide
  have hm : ((k : Nat) : Int) % 1 = 0 := Int.emod_one _
  have i1 : ixN 1 0 = some 0 := by decide
  refine ⟨x + c * ((k : Nat) + 2), .val (.int 0), ?_⟩
  simp only [B__law_cells_0, lim0, lim1, lim2, lim3, lim4, Dl.run, s_seq, s_nop, s_ret, s_retN, s_if, s_set, s_put, s_app, s_augI, putA, s_expr, s_tg, s_parA, s_parB, noB, t_name, t_nil, t_cons, t_tup, e_bin, e_un, e_c, e_var, e_tup, e_lst, e_if, e_and, e_or, e_not, e_chain, e_orT, b_of, b_and, b_or, b_not, asB, asI, a_nil, a_cons, e_call, e_callB, toSl, thaw, isBor, noL, noList, noListAll, dats, dat1, k_add, addD, k_sub, k_mul, mulD, k_div, k_mod, k_pow, k_lt, k_le, k_gt, k_ge, k_neg, k_ix, intI, seqA, view, lstA, rfin, setR, k_len, k_tuple, k_list, k_sum, k_max, k_min, k_abs, k_int, k_gcd, k_all, k_isN, k_notN, k_isB, k_notB, isNon, e_slice, o_no, o_so, k_cut, Option.bind_some, Option.map_some, Option.bind_none, Option.map_none, List.getElem?_cons_zero, List.getElem?_cons_succ, List.set_cons_zero, List.set_cons_succ, List.map_cons, List.map_nil, List.any_cons, List.any_nil, List.length_cons, List.length_nil, List.replicate, List.cons_append, List.nil_append, Bool.or_false, Bool.false_or, Bool.or_true, Bool.true_or, Bool.not_false, Bool.not_true, Bool.and_true, Bool.true_and, Bool.and_false, Bool.false_and, if_true, ite_true, Bool.false_eq_true, if_false, ite_false, reduceIte, Nat.zero_add, Nat.add_zero, Nat.reduceAdd, Nat.reduceSub, Nat.sub_self, Int.natCast_one, Int.natCast_zero, Int.zero_add, q, hm, atI0, m1, i1]
theorem enum_get {ns : List Int} {j : Nat} {d : D} (h : (enumD 0 (ns.map PyData.int))[j]? = some d) : j < ns.length ∧ ∃ c : Int, d = .tuple [.int (j : Nat), .int c] := by
  obtain ⟨e, h1, h2⟩ := enumD_get _ _ _ _ h
  rw [List.getElem?_map] at h1
  obtain ⟨c, h3, rfl⟩ := Option.map_eq_some_iff.mp h1
  exact ⟨(List.getElem?_eq_some_iff.mp h3).1, c, by rw [h2, Nat.zero_add]⟩
theorem ev_law_cells {u : Ur} {ns : List Int} (hl : ns.length ≤ 63) : ∃ x, F__law_cells [.val (.list (ns.map PyData.int)), .val (.int 1)] u = some (.own [.int x], u) := by
  have c1 : k_cut (.val (.list (ns.map PyData.int))) none (some 1) = some (.own ((ns.take 1).map PyData.int)) := by
    have := cut_to (ds := ns.map PyData.int) (n := 1)
    simp only [k_cut, seqA, Option.map_some, show (1 : Int) = ((1 : Nat) : Int) from rfl, this, List.map_take, Bool.false_eq_true, if_false]
  obtain ⟨ms, c2, hms⟩ : ∃ ms : List Int, k_cut (.val (.list (ns.map PyData.int))) (some 1) (some 63) = some (.own (ms.map PyData.int)) ∧ ms.length ≤ 63 := by
    refine ⟨(ns.drop (HT.sIx ns.length 0 (some 1))).take (HT.sIx ns.length ns.length (some 63) - HT.sIx ns.length 0 (some 1)), ?_, ?_⟩
    · simp only [k_cut, seqA, Option.map_some, Dl.cutD, List.length_map, List.map_take, List.map_drop, Bool.false_eq_true, if_false]
    · rw [List.length_take, List.length_drop]; omega
  obtain ⟨x0, hx0⟩ : ∃ x0 : Int, (e_orT (e_callB k_list (a_cons (e_slice (e_var 0) o_no (o_so (e_var 1))) a_nil)) (e_lst (a_cons (e_c (.int 0)) a_nil))) [.val (.list (ns.map PyData.int)), .val (.int 1), .un, .un, .un, .un] u = some (.own [.int x0], u) := by
    cases ns with
    | nil =>
      refine ⟨0, ?_⟩
      simp only [List.map_nil, List.take_nil] at c1 ⊢
      simp only [lim0, lim1, lim2, lim3, lim4, Dl.run, s_seq, s_nop, s_ret, s_retN, s_if, s_set, s_put, s_app, s_augI, putA, s_expr, s_tg, s_parA, s_parB, noB, t_name, t_nil, t_cons, t_tup, e_bin, e_un, e_c, e_var, e_tup, e_lst, e_if, e_and, e_or, e_not, e_chain, e_orT, b_of, b_and, b_or, b_not, asB, asI, a_nil, a_cons, e_call, e_callB, toSl, thaw, isBor, noL, noList, noListAll, dats, dat1, k_add, addD, k_sub, k_mul, mulD, k_div, k_mod, k_pow, k_lt, k_le, k_gt, k_ge, k_neg, k_ix, intI, seqA, view, lstA, rfin, setR, k_len, k_tuple, k_list, k_sum, k_max, k_min, k_abs, k_int, k_gcd, k_all, k_isN, k_notN, k_isB, k_notB, isNon, e_slice, o_no, o_so, Option.bind_some, Option.map_some, Option.bind_none, Option.map_none, List.getElem?_cons_zero, List.getElem?_cons_succ, List.set_cons_zero, List.set_cons_succ, List.map_cons, List.map_nil, List.any_cons, List.any_nil, List.length_cons, List.length_nil, List.replicate, List.cons_append, List.nil_append, Bool.or_false, Bool.false_or, Bool.or_true, Bool.true_or, Bool.not_false, Bool.not_true, Bool.and_true, Bool.true_and, Bool.and_false, Bool.false_and, if_true, ite_true, Bool.false_eq_true, if_false, ite_false, reduceIte, Nat.zero_add, Nat.add_zero, Nat.reduceAdd, Nat.reduceSub, Nat.sub_self, c1, List.isEmpty_nil]
    | cons n ns =>
      refine ⟨n, ?_⟩
      have : ((n :: ns).take 1).map PyData.int = [.int n] := rfl
      rw [this] at c1
      generalize (n :: ns).map PyData.int = L at *
      simp only [lim0, lim1, lim2, lim3, lim4, Dl.run, s_seq, s_nop, s_ret, s_retN, s_if, s_set, s_put, s_app, s_augI, putA, s_expr, s_tg, s_parA, s_parB, noB, t_name, t_nil, t_cons, t_tup, e_bin, e_un, e_c, e_var, e_tup, e_lst, e_if, e_and, e_or, e_not, e_chain, e_orT, b_of, b_and, b_or, b_not, asB, asI, a_nil, a_cons, e_call, e_callB, toSl, thaw, isBor, noL, noList, noListAll, dats, dat1, k_add, addD, k_sub, k_mul, mulD, k_div, k_mod, k_pow, k_lt, k_le, k_gt, k_ge, k_neg, k_ix, intI, seqA, view, lstA, rfin, setR, k_len, k_tuple, k_list, k_sum, k_max, k_min, k_abs, k_int, k_gcd, k_all, k_isN, k_notN, k_isB, k_notB, isNon, e_slice, o_no, o_so, Option.bind_some, Option.map_some, Option.bind_none, Option.map_none, List.getElem?_cons_zero, List.getElem?_cons_succ, List.set_cons_zero, List.set_cons_succ, List.map_cons, List.map_nil, List.any_cons, List.any_nil, List.length_cons, List.length_nil, List.replicate, List.cons_append, List.nil_append, Bool.or_false, Bool.false_or, Bool.or_true, Bool.true_or, Bool.not_false, Bool.not_true, Bool.and_true, Bool.true_and, Bool.and_false, Bool.false_and, if_true, ite_true, Bool.false_eq_true, if_false, ite_false, reduceIte, Nat.zero_add, Nat.add_zero, Nat.reduceAdd, Nat.reduceSub, Nat.sub_self, c1, List.isEmpty_cons]
  obtain ⟨ε', e1, x, x3, x4, x5, rfl⟩ := forD_inv (u := u) (tg := t_tup (t_cons (t_name 3) (t_cons (t_name 4) t_nil))) (body := B__law_cells_0)
    (fun _ ε => ∃ (x : Int) (x3 x4 x5 : Sl), ε = [.val (.list (ns.map PyData.int)), .val (.int 1), .own [.int x], x3, x4, x5])
    (enumD 0 (ms.map PyData.int)) 0 [.val (.list (ns.map PyData.int)), .val (.int 1), .own [.int x0], .un, .un, .un] ⟨_, _, _, _, rfl⟩
    (fun i d ε hd hI => by
      obtain ⟨hi, c, rfl⟩ := enum_get hd
      obtain ⟨x, x3, x4, x5, rfl⟩ := hI
      obtain ⟨y, y5, e⟩ := cells_step (u := u) (w0 := .val (.list (ns.map PyData.int))) (x3 := x3) (x4 := x4) (x5 := x5) (x := x) (c := c) (k := i) (by omega)
      exact ⟨_, _, rfl, e, _, _, _, _, rfl⟩)
  refine ⟨x, ?_⟩
  have e9 : (it_enum (e_slice (e_var 0) (o_so (e_var 1)) (o_so (e_c (.int 63))))) [.val (.list (ns.map PyData.int)), .val (.int 1), .own [.int x0], .un, .un, .un] u = some (([.val (.list (ms.map PyData.int))], enumD 0 (ms.map PyData.int)), u) := by
    generalize ns.map PyData.int = L at *
    generalize ms.map PyData.int = L' at *
    simp only [it_enum, lim0, lim1, lim2, lim3, lim4, Dl.run, s_seq, s_nop, s_ret, s_retN, s_if, s_set, s_put, s_app, s_augI, putA, s_expr, s_tg, s_parA, s_parB, noB, t_name, t_nil, t_cons, t_tup, e_bin, e_un, e_c, e_var, e_tup, e_lst, e_if, e_and, e_or, e_not, e_chain, e_orT, b_of, b_and, b_or, b_not, asB, asI, a_nil, a_cons, e_call, e_callB, toSl, thaw, isBor, noL, noList, noListAll, dats, dat1, k_add, addD, k_sub, k_mul, mulD, k_div, k_mod, k_pow, k_lt, k_le, k_gt, k_ge, k_neg, k_ix, intI, seqA, view, lstA, rfin, setR, k_len, k_tuple, k_list, k_sum, k_max, k_min, k_abs, k_int, k_gcd, k_all, k_isN, k_notN, k_isB, k_notB, isNon, e_slice, o_no, o_so, Option.bind_some, Option.map_some, Option.bind_none, Option.map_none, List.getElem?_cons_zero, List.getElem?_cons_succ, List.set_cons_zero, List.set_cons_succ, List.map_cons, List.map_nil, List.any_cons, List.any_nil, List.length_cons, List.length_nil, List.replicate, List.cons_append, List.nil_append, Bool.or_false, Bool.false_or, Bool.or_true, Bool.true_or, Bool.not_false, Bool.not_true, Bool.and_true, Bool.true_and, Bool.and_false, Bool.false_and, if_true, ite_true, Bool.false_eq_true, if_false, ite_false, reduceIte, Nat.zero_add, Nat.add_zero, Nat.reduceAdd, Nat.reduceSub, Nat.sub_self, c2]
  have e3 := for_ok e9 rfl e1
  have hs : (s_set 2 (e_orT (e_callB k_list (a_cons (e_slice (e_var 0) o_no (o_so (e_var 1))) a_nil)) (e_lst (a_cons (e_c (.int 0)) a_nil)))) [.val (.list (ns.map PyData.int)), .val (.int 1), .un, .un, .un, .un] u = some (.nx [.val (.list (ns.map PyData.int)), .val (.int 1), .own [.int x0], .un, .un, .un], u) := by
    rw [s_set, hx0]; rfl
  generalize ns.map PyData.int = L at *
  unfold F__law_cells d__law_cells Dl.run
  simp only [List.length_cons, List.length_nil, Nat.reduceAdd, Nat.reduceSub, List.replicate, List.cons_append, List.nil_append, s_seq]
  rw [hs]
  simp only [Option.bind_some, e3, s_ret, e_var, List.getElem?_cons_succ, List.getElem?_cons_zero, rfin, Option.map_some]
theorem ev_law_box {u : Ur} {x : Int} : ∃ a b : Int, F__law_box [.val (.list [.int x]), .val (.int 0)] u = some (.own [.int a, .int b, .int 0], u) ∧ b.natAbs < 2 ^ 63 := by
  have q : (0 : Int) < 2305843009213693951 := by decide
  have p : cd ((0 : Int) ≤ 18 ∧ (18 : Int) ≤ 1000 ∧ (10 : Int).natAbs < 2 ^ 64) = true := cd_t (by decide)
  have m1 : mulOk 41477 0 = true := mulOk_r (by decide)
  have r0 : 0 ≤ x % 2305843009213693951 := Int.emod_nonneg _ (by decide)
  have r1 : x % 2305843009213693951 < 2305843009213693951 := Int.emod_lt_of_pos _ (by decide)
  have h01 : decide ((0 : Int) < ((0 + 1 : Nat) : Int)) = true := by decide
  have h01' : decide ((0 : Int) < ((1 : Nat) : Int)) = true := by decide
  by_cases hg : (10 : Int) ^ (18 : Int).toNat ≤ ((x.natAbs : Nat) : Int)
  · have m2 : mulOk ((x.natAbs : Nat) : Int) 1 = true := mulOk_r (by decide)
    refine ⟨((x.natAbs : Nat) : Int) * 1, x % 2305843009213693951 + 41477 * 0 + 22360680, ?_, by omega⟩
    simp only [F__law_box, d__law_box, lim0, lim1, lim2, lim3, lim4, Dl.run, s_seq, s_nop, s_ret, s_retN, s_if, s_set, s_put, s_app, s_augI, putA, s_expr, s_tg, s_parA, s_parB, noB, t_name, t_nil, t_cons, t_tup, e_bin, e_un, e_c, e_var, e_tup, e_lst, e_if, e_and, e_or, e_not, e_chain, e_orT, b_of, b_and, b_or, b_not, asB, asI, a_nil, a_cons, e_call, e_callB, toSl, thaw, isBor, noL, noList, noListAll, dats, dat1, k_add, addD, k_sub, k_mul, mulD, k_div, k_mod, k_pow, k_lt, k_le, k_gt, k_ge, k_neg, k_ix, intI, seqA, view, lstA, rfin, setR, k_len, k_tuple, k_list, k_sum, k_max, k_min, k_abs, k_int, k_gcd, k_all, k_isN, k_notN, k_isB, k_notB, isNon, e_slice, o_no, o_so, k_cut, Option.bind_some, Option.map_some, Option.bind_none, Option.map_none, List.getElem?_cons_zero, List.getElem?_cons_succ, List.set_cons_zero, List.set_cons_succ, List.map_cons, List.map_nil, List.any_cons, List.any_nil, List.length_cons, List.length_nil, List.replicate, List.cons_append, List.nil_append, Bool.or_false, Bool.false_or, Bool.or_true, Bool.true_or, Bool.not_false, Bool.not_true, Bool.and_true, Bool.true_and, Bool.and_false, Bool.false_and, if_true, ite_true, Bool.false_eq_true, if_false, ite_false, reduceIte, Nat.zero_add, Nat.add_zero, Nat.reduceAdd, Nat.reduceSub, Nat.sub_self, h01, h01', atI0, q, p, m1, m2, decide_eq_true hg]
  · have m2 : mulOk ((x.natAbs : Nat) : Int) 0 = true := mulOk_r (by decide)
    refine ⟨((x.natAbs : Nat) : Int) * 0, x % 2305843009213693951 + 41477 * 0 + 22360680, ?_, by omega⟩
    simp only [F__law_box, d__law_box, lim0, lim1, lim2, lim3, lim4, Dl.run, s_seq, s_nop, s_ret, s_retN, s_if, s_set, s_put, s_app, s_augI, putA, s_expr, s_tg, s_parA, s_parB, noB, t_name, t_nil, t_cons, t_tup, e_bin, e_un, e_c, e_var, e_tup, e_lst, e_if, e_and, e_or, e_not, e_chain, e_orT, b_of, b_and, b_or, b_not, asB, asI, a_nil, a_cons, e_call, e_callB, toSl, thaw, isBor, noL, noList, noListAll, dats, dat1, k_add, addD, k_sub, k_mul, mulD, k_div, k_mod, k_pow, k_lt, k_le, k_gt, k_ge, k_neg, k_ix, intI, seqA, view, lstA, rfin, setR, k_len, k_tuple, k_list, k_sum, k_max, k_min, k_abs, k_int, k_gcd, k_all, k_isN, k_notN, k_isB, k_notB, isNon, e_slice, o_no, o_so, k_cut, Option.bind_some, Option.map_some, Option.bind_none, Option.map_none, List.getElem?_cons_zero, List.getElem?_cons_succ, List.set_cons_zero, List.set_cons_succ, List.map_cons, List.map_nil, List.any_cons, List.any_nil, List.length_cons, List.length_nil, List.replicate, List.cons_append, List.nil_append, Bool.or_false, Bool.false_or, Bool.or_true, Bool.true_or, Bool.not_false, Bool.not_true, Bool.and_true, Bool.true_and, Bool.and_false, Bool.false_and, if_true, ite_true, Bool.false_eq_true, if_false, ite_false, reduceIte, Nat.zero_add, Nat.add_zero, Nat.reduceAdd, Nat.reduceSub, Nat.sub_self, h01, h01', atI0, q, p, m1, m2, decide_eq_false hg]
theorem ev_u_law {ns : List Int} (hl : ns.length ≤ 63) : ∃ ms : Ur, u_law (ev0 19 ns) [] = some (.own (ms.map PyData.int), []) ∧ UrnOk 0 ms := by
  obtain ⟨x, e1⟩ := ev_law_cells (u := []) hl
  obtain ⟨a, b, e2, hb⟩ := ev_law_box (u := []) (x := x)
  refine ⟨[a, b, 0], ?_, ⟨a, b, 0, rfl, hb, by decide, by decide⟩⟩
  unfold ev0
  generalize ns.map PyData.int = L at *
  simp only [u_law, lim0, lim1, lim2, lim3, lim4, Dl.run, s_seq, s_nop, s_ret, s_retN, s_if, s_set, s_put, s_app, s_augI, putA, s_expr, s_tg, s_parA, s_parB, noB, t_name, t_nil, t_cons, t_tup, e_bin, e_un, e_c, e_var, e_tup, e_lst, e_if, e_and, e_or, e_not, e_chain, e_orT, b_of, b_and, b_or, b_not, asB, asI, a_nil, a_cons, e_call, e_callB, toSl, thaw, isBor, noL, noList, noListAll, dats, dat1, k_add, addD, k_sub, k_mul, mulD, k_div, k_mod, k_pow, k_lt, k_le, k_gt, k_ge, k_neg, k_ix, intI, seqA, view, lstA, rfin, setR, k_len, k_tuple, k_list, k_sum, k_max, k_min, k_abs, k_int, k_gcd, k_all, k_isN, k_notN, k_isB, k_notB, isNon, e_slice, o_no, o_so, k_cut, Option.bind_some, Option.map_some, Option.bind_none, Option.map_none, List.getElem?_cons_zero, List.getElem?_cons_succ, List.set_cons_zero, List.set_cons_succ, List.map_cons, List.map_nil, List.any_cons, List.any_nil, List.length_cons, List.length_nil, List.replicate, List.cons_append, List.nil_append, Bool.or_false, Bool.false_or, Bool.or_true, Bool.true_or, Bool.not_false, Bool.not_true, Bool.and_true, Bool.true_and, Bool.and_false, Bool.false_and, if_true, ite_true, Bool.false_eq_true, if_false, ite_false, reduceIte, Nat.zero_add, Nat.add_zero, Nat.reduceAdd, Nat.reduceSub, Nat.sub_self, e1, e2]
end K45
end

section
set_option Elab.async false
set_option linter.all false
set_option maxRecDepth 100000
/-! The plain law, part 14: a list that parts, the ends of its seats. -/
namespace K45
open PySem PySem.Spec PyProof.Rows L2 Dl

/-! ### sums of all but one -/
theorem sum_set0 : ∀ {l : List Int} {a : Nat}, a < l.length → (l.set a 0).sum = l.sum - gd l a
  | x :: l, 0, _ => by
    show ((0 : Int) :: l).sum = (x :: l).sum - x
    simp only [List.sum_cons]; omega
  | x :: l, a + 1, h => by
    have := sum_set0 (l := l) (a := a) (by simpa using h)
    have e : gd (x :: l) (a + 1) = gd l a := rfl
    rw [List.set_cons_succ, List.sum_cons, List.sum_cons, this, e]; omega
theorem sum_setx {l : List Int} {a : Nat} {t : Int} (h : a < l.length) : (l.set a t).sum = (l.set a 0).sum + t := by
  have h1 := sum_set0 (l := l.set a t) (a := a) (by simpa using h)
  rw [List.set_set, gd_set h, if_pos rfl] at h1
  omega
theorem sum_take_last {l : List Int} {n : Nat} (h : l.length = n + 1) : (l.take n).sum = l.sum - gd l n := by
  have e : l.take n ++ l.drop n = l := List.take_append_drop n l
  have h1 := congrArg List.sum e
  rw [List.sum_append, sum_drop (by omega), List.drop_eq_nil_of_le (show l.length ≤ n + 1 by omega), List.sum_nil] at h1
  omega
theorem gd_take {l : List Int} {n i : Nat} (h : i < n) : gd (l.take n) i = gd l i := by
  unfold gd
  rw [List.getD_eq_getElem?_getD, List.getD_eq_getElem?_getD, List.getElem?_take, if_pos h]
def part (v : List Int) (a : Nat) (x y : Int) : List Int := v.set a x ++ [y]
theorem part_len {v : List Int} {a : Nat} {x y : Int} : (part v a x y).length = v.length + 1 := by unfold part; simp
theorem part_a {v : List Int} {a : Nat} {x y : Int} (h : a < v.length) : gd (part v a x y) a = x := by
  unfold part
  rw [gd_app1 (by simpa using h), gd_set h, if_pos rfl]
theorem part_n {v : List Int} {a : Nat} {x y : Int} : gd (part v a x y) v.length = y := by
  unfold part
  have := gd_app2 (r := v.set a x) (n := y)
  rw [List.length_set] at this
  exact this
theorem part_i {v : List Int} {a i : Nat} {x y : Int} (ha : a < v.length) (h : i < v.length) (hi : i ≠ a) : gd (part v a x y) i = gd v i := by
  unfold part
  rw [gd_app1 (by simpa using h), gd_set ha, if_neg hi]

/-! ### a row between, of a given sum -/
theorem fill : ∀ {l g : List Int} {T : Int}, l.length = g.length → (∀ i, i < l.length → gd l i ≤ gd g i) → l.sum ≤ T → T ≤ g.sum → ∃ r : List Int, r.length = l.length ∧ (∀ i, i < l.length → gd l i ≤ gd r i ∧ gd r i ≤ gd g i) ∧ r.sum = T
  | [], [], T, _, _, h1, h2 => ⟨[], rfl, fun i hi => by simp at hi, by simp at h1 h2 ⊢; omega⟩
  | x :: l, y :: g, T, hl, h, h1, h2 => by
    simp only [List.sum_cons] at h1 h2
    have hx : x ≤ y := h 0 (by simp)
    have hs := sum_le_sum (a := l) (b := g) (by simpa using hl) fun i hi => h (i + 1) (by simpa using hi)
    obtain ⟨z, z1, z2, z3, z4⟩ : ∃ z, x ≤ z ∧ z ≤ y ∧ l.sum ≤ T - z ∧ T - z ≤ g.sum := by
      by_cases hc : x ≤ T - g.sum
      · exact ⟨T - g.sum, by omega, by omega, by omega, by omega⟩
      · exact ⟨x, by omega, by omega, by omega, by omega⟩
    obtain ⟨r, r1, r2, r3⟩ := fill (l := l) (g := g) (T := T - z) (by simpa using hl) (fun i hi => h (i + 1) (by simpa using hi)) z3 z4
    refine ⟨z :: r, by simp [r1], fun i hi => ?_, by simp only [List.sum_cons]; omega⟩
    cases i with
    | zero => exact ⟨z1, z2⟩
    | succ i => exact r2 i (by simpa using hi)
/-! ### the least, the greatest -/
section
variable {s : Nat → Int} {P : D}
theorem exists_low (h : PostOk P s) {X Y w : Int} (d : Dv X Y) (hw : 0 < w) : ∃ n, IsLow s X Y w n := by
  have key : ∀ N : Nat, w * Y ≤ X * sI s N → ∃ n, IsLow s X Y w n := fun N => by
    induction N with
    | zero =>
      intro h0
      refine ⟨0, by omega, fun j hj => ?_, h0⟩
      rw [sI_neg hj, Int.mul_zero]; exact Int.mul_pos hw d.y0
    | succ N ih =>
      intro h0
      by_cases h1 : w * Y ≤ X * sI s N
      · exact ih h1
      · refine ⟨(N + 1 : Nat), by omega, fun j hj => ?_, h0⟩
        have := mulX d.x0 (sI_mono h (n := j) (m := N) (by omega))
        omega
  have hp : 0 < w * Y := Int.mul_pos hw d.y0
  refine key (w * Y).toNat ?_
  have a := (sI_lo h ((w * Y).toNat : Nat)).2
  have b : 1 * sI s ((w * Y).toNat : Nat) ≤ X * sI s ((w * Y).toNat : Nat) := Int.mul_le_mul_of_nonneg_right (by have := d.x0; omega) (sI_lo h _).1
  omega
theorem exists_high (h : PostOk P s) {X Y w : Int} (d : Dv X Y) (hw : 0 < w) : ∃ n, IsHigh s X Y w n := by
  have key : ∀ N : Nat, w * Y < X * sI s N → ∃ n, IsHigh s X Y w n := fun N => by
    induction N with
    | zero =>
      intro h0
      refine ⟨0, by omega, fun j hj => ?_, h0⟩
      rw [sI_neg hj, Int.mul_zero]; exact Int.le_of_lt (Int.mul_pos hw d.y0)
    | succ N ih =>
      intro h0
      by_cases h1 : w * Y < X * sI s N
      · exact ih h1
      · refine ⟨(N + 1 : Nat), by omega, fun j hj => ?_, h0⟩
        have := mulX d.x0 (sI_mono h (n := j) (m := N) (by omega))
        omega
  have hp : 0 < w * Y := Int.mul_pos hw d.y0
  refine key (w * Y).toNat ?_
  have a := (sI_lo h ((w * Y).toNat : Nat)).2
  have b : 1 * sI s ((w * Y).toNat : Nat) ≤ X * sI s ((w * Y).toNat : Nat) := Int.mul_le_mul_of_nonneg_right (by have := d.x0; omega) (sI_lo h _).1
  omega
/-- two deals, one of a list parted -/
structure Two (s : Nat → Int) (v : List Int) (a : Nat) (x y : Int) (k : Nat) (low high low' high' : List Int) (l h lp hp Lo Ho Lo' Ho' : Int) : Prop where
  eLo : Lo = low.sum - gd low a
  eHo : Ho = high.sum - gd high a
  eLo' : Lo' = low'.sum - gd low' a - gd low' v.length
  eHo' : Ho' = high'.sum - gd high' a - gd high' v.length
  el : l = gd low a
  eh : h = gd high a
  dv : ∃ X' Y', Dv X' Y' ∧ IsLow s X' Y' (gd v a) lp ∧ IsHigh s X' Y' (gd v a) hp ∧ IsLow s X' Y' x (gd low' a) ∧ IsHigh s X' Y' x (gd high' a) ∧ IsLow s X' Y' y (gd low' v.length) ∧ IsHigh s X' Y' y (gd high' v.length)
  cmp : (Lo' = Lo ∧ Ho' = Ho ∧ lp = l ∧ hp = h) ∨ (Ho' ≤ Lo ∧ hp ≤ l) ∨ (Ho ≤ Lo' ∧ h ≤ lp)
  s1 : l + Lo ≤ k
  s2 : k ≤ h + Ho
  s3 : gd low' a + gd low' v.length + Lo' ≤ k
  s4 : k ≤ gd high' a + gd high' v.length + Ho'
  lh : l ≤ h
  lhp : lp ≤ hp
  LH : Lo ≤ Ho
  LH' : Lo' ≤ Ho'
theorem two_of (hP : PostOk P s) {v : List Int} (V : Vs v) {a : Nat} (ha : a < v.length) {x y : Int} {k : Nat} {low high low' high' : List Int} (t : Ties s v k low high) (t' : Ties s (part v a x y) k low' high') :
    ∃ l h lp hp Lo Ho Lo' Ho', Two s v a x y k low high low' high' l h lp hp Lo Ho Lo' Ho' := by
  obtain ⟨X, Y, d, hd⟩ := t.dv
  obtain ⟨X', Y', d', hd'⟩ := t'.dv
  have ll := t.ll
  have hl := t.hl
  have ll' := t'.ll
  have hl' := t'.hl
  rw [part_len] at ll' hl' hd'
  have hva := V.pos _ (gd_mem ha)
  obtain ⟨lp, i1⟩ := exists_low hP d' hva
  obtain ⟨hp, i2⟩ := exists_high hP d' hva
  have q1 := hd a ha
  have q2 := hd' a (by omega)
  have q3 := hd' v.length (by omega)
  rw [part_a ha] at q2
  rw [part_n] at q3
  obtain ⟨z1, z2⟩ := t.sums
  obtain ⟨z3, z4⟩ := t'.sums
  -- the others, elementwise
  have oth : ∀ {A B : List Int}, A.length = v.length → B.length = v.length + 1 → (∀ i, i < v.length → i ≠ a → gd A i ≤ gd B i) → A.sum - gd A a ≤ B.sum - gd B a - gd B v.length := fun {A B} hA hB hh => by
    have e1 := sum_set0 (l := A) (a := a) (by omega)
    have e2 := sum_set0 (l := B) (a := a) (by omega)
    have e3 := sum_take_last (l := B.set a 0) (n := v.length) (by simpa using hB)
    rw [gd_set (by omega), if_neg (by omega)] at e3
    have := sum_le_sum (a := A.set a 0) (b := (B.set a 0).take v.length) (by simp; omega) fun i hi => by
      rw [List.length_set] at hi
      rw [gd_take (by omega), gd_set (by omega), gd_set (by omega)]
      by_cases hia : i = a
      · rw [if_pos hia, if_pos hia]; omega
      · rw [if_neg hia, if_neg hia]; exact hh i (by omega) hia
    omega
  have oth' : ∀ {A B : List Int}, A.length = v.length → B.length = v.length + 1 → (∀ i, i < v.length → i ≠ a → gd B i ≤ gd A i) → B.sum - gd B a - gd B v.length ≤ A.sum - gd A a := fun {A B} hA hB hh => by
    have e1 := sum_set0 (l := A) (a := a) (by omega)
    have e2 := sum_set0 (l := B) (a := a) (by omega)
    have e3 := sum_take_last (l := B.set a 0) (n := v.length) (by simpa using hB)
    rw [gd_set (by omega), if_neg (by omega)] at e3
    have := sum_le_sum (b := A.set a 0) (a := (B.set a 0).take v.length) (by simp; omega) fun i hi => by
      simp at hi
      rw [gd_take (by omega), gd_set (by omega), gd_set (by omega)]
      by_cases hia : i = a
      · rw [if_pos hia, if_pos hia]; omega
      · rw [if_neg hia, if_neg hia]; exact hh i (by omega) hia
    omega
  have hi' : ∀ i, i < v.length → i ≠ a → IsLow s X' Y' (gd v i) (gd low' i) ∧ IsHigh s X' Y' (gd v i) (gd high' i) := fun i hi hia => by
    have := hd' i (by omega)
    rw [part_i ha hi hia] at this
    exact this
  have LH : low.sum - gd low a ≤ high.sum - gd high a := by
    have e1 := sum_set0 (l := low) (a := a) (by omega)
    have e2 := sum_set0 (l := high) (a := a) (by omega)
    have := sum_le_sum (a := low.set a 0) (b := high.set a 0) (by simp; omega) fun i hi => by
      rw [List.length_set] at hi
      rw [gd_set (by omega), gd_set (by omega)]
      by_cases hia : i = a
      · rw [if_pos hia, if_pos hia]; omega
      · rw [if_neg hia, if_neg hia]; exact low_le_high (hd i (by omega)).1 (hd i (by omega)).2
    omega
  have LH' : low'.sum - gd low' a - gd low' v.length ≤ high'.sum - gd high' a - gd high' v.length := by
    have e1 := sum_set0 (l := low') (a := a) (by omega)
    have e2 := sum_set0 (l := high') (a := a) (by omega)
    have e3 := sum_take_last (l := low'.set a 0) (n := v.length) (by simpa using ll')
    have e4 := sum_take_last (l := high'.set a 0) (n := v.length) (by simpa using hl')
    rw [gd_set (by omega), if_neg (by omega)] at e3 e4
    have := sum_le_sum (a := (low'.set a 0).take v.length) (b := (high'.set a 0).take v.length) (by simp; omega) fun i hi => by
      simp at hi
      rw [gd_take (by omega), gd_take (by omega), gd_set (by omega), gd_set (by omega)]
      by_cases hia : i = a
      · rw [if_pos hia, if_pos hia]; omega
      · rw [if_neg hia, if_neg hia]; exact low_le_high (hi' i (by omega) hia).1 (hi' i (by omega) hia).2
    omega
  refine ⟨_, _, lp, hp, _, _, _, _, rfl, rfl, rfl, rfl, rfl, rfl, ⟨X', Y', d', i1, i2, q2.1, q2.2, q3.1, q3.2⟩, ?_, by omega, by omega, by omega, by omega, low_le_high q1.1 q1.2, low_le_high i1 i2, LH, LH'⟩
  rcases Int.lt_trichotomy (X * Y') (X' * Y) with hc | hc | hc
  · right; left
    exact ⟨oth' ll hl' fun i hi hia => high_le_low d d' (V.pos _ (gd_mem hi)) hc (hd i hi).1 (hi' i hi hia).2, high_le_low d d' hva hc q1.1 i2⟩
  · left
    have eL : ∀ i, i < v.length → i ≠ a → gd low i = gd low' i := fun i hi hia => low_same d d' hc (hd i hi).1 (hi' i hi hia).1
    have eH : ∀ i, i < v.length → i ≠ a → gd high i = gd high' i := fun i hi hia => high_same d d' hc (hd i hi).2 (hi' i hi hia).2
    refine ⟨?_, ?_, (low_same d d' hc q1.1 i1).symm, (high_same d d' hc q1.2 i2).symm⟩
    · exact Int.le_antisymm (oth' ll ll' fun i hi hia => by rw [eL i hi hia]; omega) (oth ll ll' fun i hi hia => by rw [eL i hi hia]; omega)
    · exact Int.le_antisymm (oth' hl hl' fun i hi hia => by rw [eH i hi hia]; omega) (oth hl hl' fun i hi hia => by rw [eH i hi hia]; omega)
  · right; right
    have hc' : X' * Y < X * Y' := hc
    exact ⟨oth hl ll' fun i hi hia => high_le_low d' d (V.pos _ (gd_mem hi)) hc' (hi' i hi hia).1 (hd i hi).2, high_le_low d' d hva hc' i1 q1.2⟩
/-! ### what the law asks of the ends -/
section
variable {v : List Int} {a : Nat} {x y : Int} {k : Nat} {low high low' high' : List Int} {l h lp hp Lo Ho Lo' Ho' : Int}
abbrev l1 (low' : List Int) (a : Nat) : Int := gd low' a
theorem two_all {σ : Int} (hs : 0 ≤ σ) (hs2 : σ ≤ 60) (hx : 0 < x) (hy : 0 < y) (hxy : x + y = gd v a) (T : Two (evenS σ) v a x y k low high low' high' l h lp hp Lo Ho Lo' Ho') :
    min (gd high' a + gd high' v.length) (k - Lo') ≤ min h (k - Lo) + 1 ∧ max l (k - Ho) - 1 ≤ max (gd low' a + gd low' v.length) (k - Ho') := by
  obtain ⟨X', Y', d', i1, i2, j1, j2, j3, j4⟩ := T.dv
  rw [← hxy] at i1 i2
  have f1 := ev_low_ge d' hs hs2 j1 j3 i1
  have f2 := ev_high_le d' hx hy hs hs2 j2 j4 i2
  have := T.s1; have := T.s2; have := T.s3; have := T.s4; have := T.lh; have := T.lhp; have := T.LH; have := T.LH'
  rcases T.cmp with ⟨c1, c2, c3, c4⟩ | ⟨c1, c2⟩ | ⟨c1, c2⟩ <;> omega
theorem two_one (hx : 0 < x) (hy : 0 < y) (hxy : x + y = gd v a) (T : Two (evenS 60) v a x y k low high low' high' l h lp hp Lo Ho Lo' Ho') :
    max (gd low' a + gd low' v.length) (k - Ho') ≤ max l (k - Ho) := by
  obtain ⟨X', Y', d', i1, i2, j1, j2, j3, j4⟩ := T.dv
  rw [← hxy] at i1 i2
  have f1 := one_low_le d' hx hy j1 j3 i1
  have f2 := one_high_le d' hx hy j2 j4 i2
  have g1 := low_le_high j1 j2
  have g2 := low_le_high j3 j4
  have := T.s1; have := T.s2; have := T.s3; have := T.s4; have := T.lh; have := T.lhp; have := T.LH; have := T.LH'
  rcases T.cmp with ⟨c1, c2, c3, c4⟩ | ⟨c1, c2⟩ | ⟨c1, c2⟩ <;> omega
theorem two_zero (hx : 0 < x) (hy : 0 < y) (hxy : x + y = gd v a) (T : Two (evenS 0) v a x y k low high low' high' l h lp hp Lo Ho Lo' Ho') :
    min h (k - Lo) ≤ min (gd high' a + gd high' v.length) (k - Lo') := by
  obtain ⟨X', Y', d', i1, i2, j1, j2, j3, j4⟩ := T.dv
  rw [← hxy] at i1 i2
  have f1 := zero_low_ge d' j1 j3 i1
  have f2 := zero_high_ge d' hx hy j2 j4 i2
  have g1 := low_le_high j1 j2
  have g2 := low_le_high j3 j4
  have := T.s1; have := T.s2; have := T.s3; have := T.s4; have := T.lh; have := T.lhp; have := T.LH; have := T.LH'
  rcases T.cmp with ⟨c1, c2, c3, c4⟩ | ⟨c1, c2⟩ | ⟨c1, c2⟩ <;> omega
/-- fewer votes, a list more: no more seats -/
theorem two_less (hx : x ≤ gd v a) (T : Two s v a x y k low high low' high' l h lp hp Lo Ho Lo' Ho') :
    max (gd low' a) (k - (Ho' + gd high' v.length)) ≤ max l (k - Ho) ∧ min (gd high' a) (k - (Lo' + gd low' v.length)) ≤ min h (k - Lo) := by
  obtain ⟨X', Y', d', i1, i2, j1, j2, j3, j4⟩ := T.dv
  have f1 := low_mono d'.y0 hx j1 i1
  have f2 := high_mono d'.y0 hx j2 i2
  have g1 := low_le_high j1 j2
  have g2 := low_le_high j3 j4
  have z1 := j3.lo
  have z2 := j4.lo
  have := T.s1; have := T.s2; have := T.s3; have := T.s4; have := T.lh; have := T.lhp; have := T.LH; have := T.LH'
  rcases T.cmp with ⟨c1, c2, c3, c4⟩ | ⟨c1, c2⟩ | ⟨c1, c2⟩ <;> omega
end
/-- the rows' own ends -/
theorem rows_ends {v low high : List Int} {k : Nat} {L : List (List Int)} (t : Ties s v k low high) (R : Rows low high k L) {a : Nat} (ha : a < v.length) :
    L.map (fun r => gd r a) ≠ [] ∧ minI (L.map fun r => gd r a) = endLo low high k a ∧ maxI (L.map fun r => gd r a) = endHi low high k a := by
  have ll := t.ll
  have hl := t.hl
  obtain ⟨X, Y, d, hd⟩ := t.dv
  have hle : ∀ i, i < low.length → gd low i ≤ gd high i := fun i hi => low_le_high (hd i (by omega)).1 (hd i (by omega)).2
  obtain ⟨z1, z2⟩ := t.sums
  have s0 := sum_set0 (l := low) (a := a) (by omega)
  have s1 := sum_set0 (l := high) (a := a) (by omega)
  have hs := sum_le_sum (a := low.set a 0) (b := high.set a 0) (by simp; omega) fun i hi => by
    rw [List.length_set] at hi
    rw [gd_set (by omega), gd_set (by omega)]
    by_cases hia : i = a
    · rw [if_pos hia, if_pos hia]; omega
    · rw [if_neg hia, if_neg hia]; exact hle i (by omega)
  have hla := hle a (by omega)
  have row : ∀ T, endLo low high k a ≤ T → T ≤ endHi low high k a → ∃ r ∈ L, gd r a = T := fun T h1 h2 => by
    unfold endLo at h1
    unfold endHi at h2
    have e1 := sum_setx (l := low) (a := a) (t := T) (by omega)
    have e2 := sum_setx (l := high) (a := a) (t := T) (by omega)
    obtain ⟨r, r1, r2, r3⟩ := fill (l := low.set a T) (g := high.set a T) (T := k) (by simp; omega) (fun i hi => by
      rw [List.length_set] at hi
      rw [gd_set (by omega), gd_set (by omega)]
      by_cases hia : i = a
      · rw [if_pos hia, if_pos hia]; omega
      · rw [if_neg hia, if_neg hia]; exact hle i (by omega)) (by omega) (by omega)
    rw [List.length_set] at r1 r2
    have hra := r2 a (by omega)
    rw [gd_set (by omega), gd_set (by omega), if_pos rfl, if_pos rfl] at hra
    refine ⟨r, (R.mem r).mpr ⟨r1, fun i hi => ?_, r3⟩, by omega⟩
    have := r2 i hi
    rw [gd_set (by omega), gd_set (by omega)] at this
    by_cases hia : i = a
    · subst hia; omega
    · rw [if_neg hia, if_neg hia] at this; exact this
  have bd : ∀ r ∈ L, endLo low high k a ≤ gd r a ∧ gd r a ≤ endHi low high k a := fun r hr => by
    obtain ⟨r1, r2, r3⟩ := (R.mem r).mp hr
    have q := r2 a (by omega)
    have s3 := sum_set0 (l := r) (a := a) (by omega)
    have h1 := sum_le_sum (a := low.set a 0) (b := r.set a 0) (by simp; omega) fun i hi => by
      rw [List.length_set] at hi
      rw [gd_set (by omega), gd_set (by omega)]
      by_cases hia : i = a
      · rw [if_pos hia, if_pos hia]; omega
      · rw [if_neg hia, if_neg hia]; exact (r2 i hi).1
    have h2 := sum_le_sum (a := r.set a 0) (b := high.set a 0) (by simp; omega) fun i hi => by
      rw [List.length_set] at hi
      rw [gd_set (by omega), gd_set (by omega)]
      by_cases hia : i = a
      · rw [if_pos hia, if_pos hia]; omega
      · rw [if_neg hia, if_neg hia]; exact (r2 i (by omega)).2
    unfold endLo endHi
    omega
  have hne : endLo low high k a ≤ endHi low high k a := by unfold endLo endHi; omega
  obtain ⟨r0, q0, e0⟩ := row _ (Int.le_refl _) hne
  obtain ⟨r1, q1, e1⟩ := row _ hne (Int.le_refl _)
  have ne : L.map (fun r => gd r a) ≠ [] := fun e => by
    rw [List.map_eq_nil_iff] at e
    rw [e] at q0
    cases q0
  obtain ⟨m1, m2⟩ := Dl.minI_mem ne
  obtain ⟨m3, m4⟩ := Dl.maxI_mem ne
  refine ⟨ne, ?_, ?_⟩
  · obtain ⟨r, hr, er⟩ := List.mem_map.mp m1
    have := (bd r hr).1
    have := m2 _ (List.mem_map.mpr ⟨r0, q0, rfl⟩)
    omega
  · obtain ⟨r, hr, er⟩ := List.mem_map.mp m3
    have := (bd r hr).2
    have := m4 _ (List.mem_map.mpr ⟨r1, q1, rfl⟩)
    omega
/-- the parted list's ends together -/
theorem rows_sums {v low high : List Int} {k n : Nat} {L : List (List Int)} (t : Ties s v k low high) (R : Rows low high k L) {a : Nat} (ha : a < n) (hn : v.length = n + 1) :
    L.map (fun r => gd r a + gd r n) ≠ [] ∧ minI (L.map fun r => gd r a + gd r n) = max (gd low a + gd low n) (k - (high.sum - gd high a - gd high n)) ∧ maxI (L.map fun r => gd r a + gd r n) = min (gd high a + gd high n) (k - (low.sum - gd low a - gd low n)) := by
  have ll := t.ll
  have hl := t.hl
  obtain ⟨X, Y, d, hd⟩ := t.dv
  have hle : ∀ i, i < low.length → gd low i ≤ gd high i := fun i hi => low_le_high (hd i (by omega)).1 (hd i (by omega)).2
  obtain ⟨z1, z2⟩ := t.sums
  have an : a ≠ n := by omega
  have two : ∀ {A : List Int} {p q : Int}, A.length = n + 1 → ((A.set a p).set n q).sum = A.sum - gd A a - gd A n + p + q := fun {A p q} hA => by
    have e1 := sum_set0 (l := A) (a := a) (by omega)
    have e2 := sum_setx (l := A) (a := a) (t := p) (by omega)
    have e3 := sum_set0 (l := A.set a p) (a := n) (by simp; omega)
    have e4 := sum_setx (l := A.set a p) (a := n) (t := q) (by simp; omega)
    rw [gd_set (by omega), if_neg (Ne.symm an)] at e3
    omega
  have g2 : ∀ {A : List Int} {p q : Int} {i : Nat}, A.length = n + 1 → gd ((A.set a p).set n q) i = if i = n then q else if i = a then p else gd A i := fun {A p q i} hA => by
    rw [gd_set (by simp; omega), gd_set (by omega)]
  have le2 : ∀ {A B : List Int} {p q p' q' : Int}, A.length = n + 1 → B.length = n + 1 → p ≤ p' → q ≤ q' → (∀ i, i < n + 1 → gd A i ≤ gd B i) → ∀ i, i < n + 1 → gd ((A.set a p).set n q) i ≤ gd ((B.set a p').set n q') i := fun {A B p q p' q'} hA hB h1 h2 h3 i hi => by
    rw [g2 hA, g2 hB]
    by_cases hin : i = n
    · rw [if_pos hin, if_pos hin]; exact h2
    · rw [if_neg hin, if_neg hin]
      by_cases hia : i = a
      · rw [if_pos hia, if_pos hia]; exact h1
      · rw [if_neg hia, if_neg hia]; exact h3 i hi
  have oth : ∀ {A B : List Int}, A.length = n + 1 → B.length = n + 1 → (∀ i, i < n + 1 → gd A i ≤ gd B i) → A.sum - gd A a - gd A n ≤ B.sum - gd B a - gd B n := fun {A B} hA hB hh => by
    have e1 := two (p := 0) (q := 0) hA
    have e2 := two (p := 0) (q := 0) hB
    have := sum_le_sum (a := (A.set a 0).set n 0) (b := (B.set a 0).set n 0) (by simp; omega) fun i hi => le2 hA hB (Int.le_refl _) (Int.le_refl _) hh i (by simp at hi; omega)
    omega
  have hs := oth (A := low) (B := high) (by omega) (by omega) fun i hi => hle i (by omega)
  have hla := hle a (by omega)
  have hln := hle n (by omega)
  have row : ∀ T, max (gd low a + gd low n) (k - (high.sum - gd high a - gd high n)) ≤ T → T ≤ min (gd high a + gd high n) (k - (low.sum - gd low a - gd low n)) → ∃ r ∈ L, gd r a + gd r n = T := fun T h1 h2 => by
    obtain ⟨p, q, p1, p2, q1, q2, pq⟩ : ∃ p q, gd low a ≤ p ∧ p ≤ gd high a ∧ gd low n ≤ q ∧ q ≤ gd high n ∧ p + q = T := by
      by_cases hc : T - gd low n ≤ gd high a
      · exact ⟨T - gd low n, gd low n, by omega, hc, by omega, hln, by omega⟩
      · exact ⟨gd high a, T - gd high a, hla, by omega, by omega, by omega, by omega⟩
    have e1 := two (A := low) (p := p) (q := q) (by omega)
    have e2 := two (A := high) (p := p) (q := q) (by omega)
    obtain ⟨r, r1, r2, r3⟩ := fill (l := (low.set a p).set n q) (g := (high.set a p).set n q) (T := k) (by simp; omega) (fun i hi => le2 (by omega) (by omega) (Int.le_refl _) (Int.le_refl _) (fun i hi => hle i (by omega)) i (by simp at hi; omega)) (by omega) (by omega)
    simp only [List.length_set] at r1 r2
    have ra := r2 a (by omega)
    have rn := r2 n (by omega)
    rw [g2 (by omega), g2 (by omega), if_neg an, if_neg an, if_pos rfl, if_pos rfl] at ra
    rw [g2 (by omega), g2 (by omega), if_pos rfl, if_pos rfl] at rn
    refine ⟨r, (R.mem r).mpr ⟨r1, fun i hi => ?_, r3⟩, by omega⟩
    have q := r2 i hi
    rw [g2 (by omega), g2 (by omega)] at q
    by_cases hin : i = n
    · subst hin; omega
    · rw [if_neg hin, if_neg hin] at q
      by_cases hia : i = a
      · subst hia; omega
      · rw [if_neg hia, if_neg hia] at q; exact q
  have bd : ∀ r ∈ L, max (gd low a + gd low n) (k - (high.sum - gd high a - gd high n)) ≤ gd r a + gd r n ∧ gd r a + gd r n ≤ min (gd high a + gd high n) (k - (low.sum - gd low a - gd low n)) := fun r hr => by
    obtain ⟨r1, r2, r3⟩ := (R.mem r).mp hr
    have q1 := r2 a (by omega)
    have q2 := r2 n (by omega)
    have h1 := oth (A := low) (B := r) (by omega) (by omega) fun i hi => (r2 i (by omega)).1
    have h2 := oth (A := r) (B := high) (by omega) (by omega) fun i hi => (r2 i (by omega)).2
    omega
  have hne : max (gd low a + gd low n) (k - (high.sum - gd high a - gd high n)) ≤ min (gd high a + gd high n) (k - (low.sum - gd low a - gd low n)) := by omega
  obtain ⟨r0, q0, e0⟩ := row _ (Int.le_refl _) hne
  obtain ⟨r1, q1, e1⟩ := row _ hne (Int.le_refl _)
  have ne : L.map (fun r => gd r a + gd r n) ≠ [] := fun e => by
    rw [List.map_eq_nil_iff] at e
    rw [e] at q0
    cases q0
  obtain ⟨m1, m2⟩ := Dl.minI_mem ne
  obtain ⟨m3, m4⟩ := Dl.maxI_mem ne
  refine ⟨ne, ?_, ?_⟩
  · obtain ⟨r, hr, er⟩ := List.mem_map.mp m1
    have := (bd r hr).1
    have := m2 _ (List.mem_map.mpr ⟨r0, q0, rfl⟩)
    omega
  · obtain ⟨r, hr, er⟩ := List.mem_map.mp m3
    have := (bd r hr).2
    have := m4 _ (List.mem_map.mpr ⟨r1, q1, rfl⟩)
    omega
/-- a row of the deals is fair -/
theorem row_fair (h : PostOk P s) {v low high : List Int} (V : Vs v) {k : Nat} {L : List (List Int)} (hk : k ≤ 1000) (t : Ties s v k low high) (R : Rows low high k L) {r : List Int} (hr : r ∈ L) : Fair s v r ∧ Ms r := by
  obtain ⟨X, Y, d, hd⟩ := t.dv
  obtain ⟨r1, r2, r3⟩ := (R.mem r).mp hr
  have ll := t.ll
  have h0 : ∀ x ∈ r, 0 ≤ x := fun x hx => by
    obtain ⟨i, hi, rfl⟩ := mem_gd hx
    have := (r2 i (by omega)).1
    have := (hd i (by omega)).1.lo
    omega
  have pos : ∀ i, i < v.length → gd v i * Y ≤ X * sI s (gd r i) := fun i hi => by
    have q := (hd i hi).1.at_
    have := mulX d.x0 (sI_mono h (r2 i (by omega)).1)
    omega
  have up : ∀ i, i < v.length → X * sI s (gd r i - 1) ≤ gd v i * Y := fun i hi => (hd i hi).2.be _ (by have := (r2 i (by omega)).2; omega)
  refine ⟨⟨by omega, fun a b ha hb => ?_, fun x hx hz => ?_⟩, ⟨h0, fun x hx => by have := le_sum h0 x hx; omega⟩⟩
  · have u := up a ha
    have p := pos b hb
    have va := V.pos _ (gd_mem ha)
    have vb := V.pos _ (gd_mem hb)
    have a1 : gd v b * (X * sI s (gd r a - 1)) ≤ gd v b * (gd v a * Y) := mulX vb u
    have a2 : gd v a * (gd v b * Y) ≤ gd v a * (X * sI s (gd r b)) := mulX va p
    have e1 : gd v b * (X * sI s (gd r a - 1)) = X * (sI s (gd r a - 1) * gd v b) := by grind
    have e2 : gd v a * (X * sI s (gd r b)) = X * (sI s (gd r b) * gd v a) := by grind
    have e3 : gd v b * (gd v a * Y) = gd v a * (gd v b * Y) := by grind
    have a3 : X * (sI s (gd r a - 1) * gd v b) ≤ X * (sI s (gd r b) * gd v a) := by omega
    exact Int.le_of_mul_le_mul_left a3 d.x0
  · obtain ⟨i, hi, rfl⟩ := mem_gd hx
    have p := pos i (by omega)
    rw [hz, Int.mul_zero] at p
    have := Int.mul_pos (V.pos _ (gd_mem (show i < v.length by omega))) d.y0
    omega
end
end K45
end

section
set_option Elab.async false
set_option linter.all false
set_option maxRecDepth 100000
/-! The plain law, part 15: one share. -/
namespace K45
open PySem PySem.Spec PyProof.Rows L2 Dl
variable {u u1 u2 : Ur} {ε ε1 : Ev}

theorem seq_nx {f g : DS} {r : Option (Out × Ur)} (h : f ε u = some (.nx ε1, u1)) (h2 : g ε1 u1 = r) : s_seq f g ε u = r := by
  unfold s_seq; rw [h]; exact h2
theorem if_f {t : DT} {a b : DS} {r : Option (Out × Ur)} (h : t ε u = some (false, u1)) (h2 : b ε u1 = r) : s_if t a b ε u = r := by
  unfold s_if; rw [h]; exact h2
theorem if_t {t : DT} {a b : DS} {r : Option (Out × Ur)} (h : t ε u = some (true, u1)) (h2 : a ε u1 = r) : s_if t a b ε u = r := by
  unfold s_if; rw [h]; exact h2
theorem set_ok {i : Nat} {f : DE} {r : Rs} (h : f ε u = some (r, u1)) : s_set i f ε u = some (.nx (setR ε i r), u1) := by
  unfold s_set; rw [h]; rfl
theorem lc_ok {it : DI} {vs : List Nat} {tg : TgD} {tt : DT} {te : DE} {rs : List Rs} {its l : List D} (h : it ε u = some ((rs, its), u1)) (h2 : lcD tg tt te its (wipeE ε vs) u1 = some (l, u2)) (hl : lim l.length = true) : e_lc it vs tg tt te ε u = some (.own l, u2) := by
  unfold e_lc; rw [h]
  simp only [Option.bind_some]
  rw [h2]
  simp only [Option.bind_some, hl, if_true]
theorem or_and {t1 t2 t3 t4 : DT} {J A g1 g2 : Bool} (h1 : t1 ε u = some (J, u)) (h2 : t2 ε u = some (g1, u)) (h3 : t3 ε u = some (A, u)) (h4 : t4 ε u = some (g2, u)) (c1 : J = true → g1 = false) (c2 : A = true → g2 = false) : b_or (b_and t1 t2) (b_and t3 t4) ε u = some (false, u) := by
  have e1 : b_and t1 t2 ε u = some (false, u) := by
    unfold b_and; rw [h1]
    cases J with
    | false => rfl
    | true => rw [c1 rfl] at h2; exact h2
  have e2 : b_and t3 t4 ε u = some (false, u) := by
    unfold b_and; rw [h3]
    cases A with
    | false => rfl
    | true => rw [c2 rfl] at h4; exact h4
  unfold b_or; rw [e1]; exact e2
section
variable {P : D} {s : Nat → Int}
/-- all that the deals of a rule and votes are -/
structure All (P : D) (s : Nat → Int) (v : List Int) (k : Nat) (u : Ur) (low high : List Int) (L : List (List Int)) : Prop where
  t : Ties s v k low high
  R : Rows low high k L
  hT : F_ties_in [.val P, .val (ti v), .val (.int (k : Nat))] u = some (.val (.tuple [ti low, ti high]), u)
theorem ev_deals (h : PostOk P s) {v : List Int} (h0 : 0 < v.length) (hl2 : v.length ≤ 6) (V : Vs v) {k : Nat} (hk : k ≤ 7) :
    ∃ m, Deal s v m k ∧ (((∃ j, j < v.length ∧ sI s (gd m j) = 0) ∧ F_deals_of [.val P, .val (ti v), .val (.int (k : Nat))] u = some (.own [], u)) ∨
      ((∀ x ∈ m, sI s x ≠ 0) ∧ ∃ low high L, All P s v k u low high L ∧ F_deals_of [.val P, .val (ti v), .val (.int (k : Nat))] u = some (.val (.list (L.map ti)), u))) := by
  obtain ⟨m, dl, hm | ⟨nb, low, high, hT, t⟩⟩ := ev_ties_in (u := u) h h0 (by omega) V (show k ≤ 1000 by omega)
  · refine ⟨m, dl, .inl ⟨hm.1, ?_⟩⟩
    have hT : F_ties_in [.val P, .val (ti v), .val (.int (k : Nat))] u = some (.val .none, u) := hm.2
    have t1 := ev_tuple_of (u := u) h.rowTup.1
    rw [h.rowTup.2] at t1
    have t2 := tup_ti (u := u) (l := v) (by omega)
    generalize ti v = vd at *
    simp only [F_deals_of, d_deals_of, lim0, lim1, lim2, lim3, lim4, Dl.run, s_seq, s_nop, s_ret, s_retN, s_if, s_set, s_put, s_app, s_augI, putA, s_expr, s_tg, s_parA, s_parB, noB, t_name, t_nil, t_cons, t_tup, e_bin, e_un, e_c, e_var, e_tup, e_lst, e_if, e_and, e_or, e_not, e_chain, e_orT, b_of, b_and, b_or, b_not, asB, asI, a_nil, a_cons, e_call, e_callB, toSl, thaw, isBor, noL, noList, noListAll, dats, dat1, k_add, addD, k_sub, k_mul, mulD, k_div, k_mod, k_pow, k_lt, k_le, k_gt, k_ge, k_neg, k_ix, intI, seqA, view, lstA, rfin, setR, k_len, k_tuple, k_list, k_sum, k_max, k_min, k_abs, k_int, k_gcd, k_all, k_isN, k_notN, k_isB, k_notB, isNon, e_slice, o_no, o_so, k_cut, Option.bind_some, Option.map_some, Option.bind_none, Option.map_none, List.getElem?_cons_zero, List.getElem?_cons_succ, List.set_cons_zero, List.set_cons_succ, List.map_cons, List.map_nil, List.any_cons, List.any_nil, List.length_cons, List.length_nil, List.replicate, List.cons_append, List.nil_append, Bool.or_false, Bool.false_or, Bool.or_true, Bool.true_or, Bool.not_false, Bool.not_true, Bool.and_true, Bool.true_and, Bool.and_false, Bool.false_and, if_true, ite_true, Bool.false_eq_true, if_false, ite_false, reduceIte, Nat.zero_add, Nat.add_zero, Nat.reduceAdd, Nat.reduceSub, Nat.sub_self, t1, t2, hT]
  · obtain ⟨L, e, R⟩ := ev_deals_of (u := u) h h0 hl2 hk hT t
    exact ⟨m, dl, .inr ⟨nb, low, high, L, ⟨t, R, hT⟩, e⟩⟩
/-- what leaves no list bare of the parted lists leaves none bare of the lists -/
theorem not_bare (h : PostOk P s) {v w : List Int} {k : Nat} {m m' : List Int} (hw : w.length = v.length + 1) (d : Deal s v m k) (d' : Deal s w m' k) (nb : ∀ x ∈ m', sI s x ≠ 0) : ¬ ∃ j, j < v.length ∧ sI s (gd m j) = 0 := by
  rintro ⟨j, hj, hz⟩
  have b := d.bare ⟨j, hj, hz⟩
  have hl := d.len
  have hl' := d'.len
  have hmj := d.lo _ (gd_mem (v := m) (i := j) (by omega))
  have h0 : gd m j = 0 := by
    have := (sI_lo h (gd m j)).2
    omega
  rw [h0] at hz
  have ge1 : ∀ i, i < w.length → 1 ≤ gd m' i := fun i hi => by
    have h1 := d'.lo _ (gd_mem (v := m') (i := i) (by omega))
    have h2 := nb _ (gd_mem (v := m') (i := i) (by omega))
    by_cases he : gd m' i = 0
    · rw [he] at h2; exact absurd hz h2
    · omega
  have s1 : m.sum ≤ (List.replicate v.length (1 : Int)).sum := sum_le_sum (by simp; omega) fun i hi => by
    have : gd (List.replicate v.length (1 : Int)) i = 1 := by
      unfold gd
      rw [List.getD_eq_getElem?_getD, List.getElem?_replicate, if_pos (by omega)]; rfl
    rw [this]; exact b i (by omega)
  have s2 : (List.replicate w.length (1 : Int)).sum ≤ m'.sum := sum_le_sum (by simp; omega) fun i hi => by
    have hi2 : i < w.length := by simpa using hi
    have : gd (List.replicate w.length (1 : Int)) i = 1 := by
      unfold gd
      rw [List.getD_eq_getElem?_getD, List.getElem?_replicate, if_pos hi2]; rfl
    rw [this]; exact ge1 i hi2
  have rs : ∀ n : Nat, (List.replicate n (1 : Int)).sum = n := fun n => by
    induction n with
    | zero => rfl
    | succ n ih => rw [List.replicate_succ, List.sum_cons, ih]; omega
  rw [rs] at s1 s2
  have := d.sum
  have := d'.sum
  omega
end
theorem map_int {α : Type} (L : List α) (f : α → Int) : L.map (fun r => PyData.int (f r)) = (L.map f).map PyData.int := by
  rw [List.map_map]; rfl
/-- own[at] of each row -/
theorem lc_at {te : DE} {tg : TgD} {f : List Int → Int} : ∀ (L : List (List Int)), (∀ r ∈ L, ∃ ε1, tg (ti r) ε = some ε1 ∧ te ε1 u = some (.val (.int (f r)), u)) → lcD tg b_yes te (L.map ti) ε u = some ((L.map f).map PyData.int, u)
  | [], _ => rfl
  | r :: L, h => by
    obtain ⟨ε1, e1, e2⟩ := h r List.mem_cons_self
    have ih := lc_at L fun r hr => h r (List.mem_cons_of_mem _ hr)
    simp only [List.map_cons, lcD, e1, e2, b_yes, Option.bind_some, if_true, dat1, ih, Option.map_some]
theorem ix_last {r : List Int} {n : Nat} (h : r.length = n + 1) : k_ix u (.val (ti r)) (.val (.int (-1))) = some (.val (.int (gd r n))) := by
  have : atI (r.map PyData.int) (-1) = (r.map PyData.int)[n]? := by
    unfold atI ixN
    rw [if_neg (by decide), if_pos (by rw [List.length_map]; omega)]
    show (r.map PyData.int)[_]? = _
    congr 1
    rw [List.length_map]; omega
  simp only [k_ix, ti, seqA, Option.bind_some, this, List.getElem?_map, gd_get (show n < r.length by omega), Option.map_some]
theorem min_bor {i : Nat} {ns : List Int} (h : ns ≠ []) : k_min [.bor i (ns.map PyData.int)] = some (.val (.int (minI ns))) := by
  simp only [k_min, seqA, Option.bind_some, ints_ok]
  rw [if_pos ⟨trivial, h⟩]
theorem max_bor {i : Nat} {ns : List Int} (h : ns ≠ []) : k_max [.bor i (ns.map PyData.int)] = some (.val (.int (maxI ns))) := by
  simp only [k_max, seqA, Option.bind_some, ints_ok]
  rw [if_pos ⟨trivial, h⟩]
theorem min_val {ns : List Int} (h : ns ≠ []) : k_min [.val (.list (ns.map PyData.int))] = some (.val (.int (minI ns))) := by
  simp only [k_min, seqA, Option.bind_some, ints_ok]
  rw [if_pos ⟨trivial, h⟩]
theorem max_val {ns : List Int} (h : ns ≠ []) : k_max [.val (.list (ns.map PyData.int))] = some (.val (.int (maxI ns))) := by
  simp only [k_max, seqA, Option.bind_some, ints_ok]
  rw [if_pos ⟨trivial, h⟩]
theorem ne_two {a b : Int} : k_ne u (.val (.tuple [.int a, .int b])) (.val (.tuple [.int a, .int b])) = some (.val (.bool false)) := by
  have := ne_of_eq (eq_fr (u := u) (a := a) (b := b) (c := a) (d := b))
  rw [decide_eq_true (by exact ⟨rfl, rfl⟩)] at this
  exact this
/-- the slots of the law from 12 on -/
abbrev L12 (w12 w13 w14 w15 w16 w17 w18 w19 : Sl) : Ev := [w12, w13, w14, w15, w16, w17, w18, w19]
/-- the law's slots -/
abbrev E20 (w0 v k a x w w7 w8 w9 w10 w11 : Sl) (tl : Ev) : Ev := w0 :: .urn :: v :: k :: a :: x :: w :: w7 :: w8 :: w9 :: w10 :: w11 :: tl
/-- each row of before -/
theorem own_step {v k a x w w8 w0 w10 : Sl} {tl : Ev} {p q o : Int} {ss : List Int} (hne : ss ≠ []) (c1 : decide (p = 1 ∧ q = 1) = true → minI ss ≤ o) (c2 : decide (p = 0 ∧ q = 1) = true → o ≤ maxI ss) :
    B_law_3 (E20 w0 v k a x w (.val (fr p q)) w8 (.own (ss.map PyData.int)) w10 (.val (.int o)) tl) u = some (.nx (E20 w0 v k a x w (.val (fr p q)) w8 (.own (ss.map PyData.int)) w10 (.val (.int o)) tl), u) := by
  have m1 := min_bor (i := 9) hne
  have m2 := max_bor (i := 9) hne
  generalize ss.map PyData.int = S at *
  refine if_f (u1 := u) (or_and (u := u) (J := decide (p = 1 ∧ q = 1)) (A := decide (p = 0 ∧ q = 1)) (g1 := decide (o < minI ss)) (g2 := decide (maxI ss < o)) ?_ ?_ ?_ ?_ (fun h => decide_eq_false (by have := c1 h; omega)) (fun h => decide_eq_false (by have := c2 h; omega))) rfl
  · simp only [lim0, lim1, lim2, lim3, lim4, Dl.run, s_seq, s_nop, s_ret, s_retN, s_if, s_set, s_put, s_app, s_augI, putA, s_expr, s_tg, s_parA, s_parB, noB, t_name, t_nil, t_cons, t_tup, e_bin, e_un, e_c, e_var, e_tup, e_lst, e_if, e_and, e_or, e_not, e_chain, e_orT, b_of, b_and, b_or, b_not, asB, asI, a_nil, a_cons, e_call, e_callB, toSl, thaw, isBor, noL, noList, noListAll, dats, dat1, k_add, addD, k_sub, k_mul, mulD, k_div, k_mod, k_pow, k_lt, k_le, k_gt, k_ge, k_neg, k_ix, intI, seqA, view, lstA, rfin, setR, k_len, k_tuple, k_list, k_sum, k_max, k_min, k_abs, k_int, k_gcd, k_all, k_isN, k_notN, k_isB, k_notB, isNon, e_slice, o_no, o_so, k_cut, Option.bind_some, Option.map_some, Option.bind_none, Option.map_none, List.getElem?_cons_zero, List.getElem?_cons_succ, List.set_cons_zero, List.set_cons_succ, List.map_cons, List.map_nil, List.any_cons, List.any_nil, List.length_cons, List.length_nil, List.replicate, List.cons_append, List.nil_append, Bool.or_false, Bool.false_or, Bool.or_true, Bool.true_or, Bool.not_false, Bool.not_true, Bool.and_true, Bool.true_and, Bool.and_false, Bool.false_and, if_true, ite_true, Bool.false_eq_true, if_false, ite_false, reduceIte, Nat.zero_add, Nat.add_zero, Nat.reduceAdd, Nat.reduceSub, Nat.sub_self, eq_fr]
  · simp only [lim0, lim1, lim2, lim3, lim4, Dl.run, s_seq, s_nop, s_ret, s_retN, s_if, s_set, s_put, s_app, s_augI, putA, s_expr, s_tg, s_parA, s_parB, noB, t_name, t_nil, t_cons, t_tup, e_bin, e_un, e_c, e_var, e_tup, e_lst, e_if, e_and, e_or, e_not, e_chain, e_orT, b_of, b_and, b_or, b_not, asB, asI, a_nil, a_cons, e_call, e_callB, toSl, thaw, isBor, noL, noList, noListAll, dats, dat1, k_add, addD, k_sub, k_mul, mulD, k_div, k_mod, k_pow, k_lt, k_le, k_gt, k_ge, k_neg, k_ix, intI, seqA, view, lstA, rfin, setR, k_len, k_tuple, k_list, k_sum, k_max, k_abs, k_int, k_gcd, k_all, k_isN, k_notN, k_isB, k_notB, isNon, e_slice, o_no, o_so, k_cut, Option.bind_some, Option.map_some, Option.bind_none, Option.map_none, List.getElem?_cons_zero, List.getElem?_cons_succ, List.set_cons_zero, List.set_cons_succ, List.map_cons, List.map_nil, List.any_cons, List.any_nil, List.length_cons, List.length_nil, List.replicate, List.cons_append, List.nil_append, Bool.or_false, Bool.false_or, Bool.or_true, Bool.true_or, Bool.not_false, Bool.not_true, Bool.and_true, Bool.true_and, Bool.and_false, Bool.false_and, if_true, ite_true, Bool.false_eq_true, if_false, ite_false, reduceIte, Nat.zero_add, Nat.add_zero, Nat.reduceAdd, Nat.reduceSub, Nat.sub_self, m1]
  · simp only [lim0, lim1, lim2, lim3, lim4, Dl.run, s_seq, s_nop, s_ret, s_retN, s_if, s_set, s_put, s_app, s_augI, putA, s_expr, s_tg, s_parA, s_parB, noB, t_name, t_nil, t_cons, t_tup, e_bin, e_un, e_c, e_var, e_tup, e_lst, e_if, e_and, e_or, e_not, e_chain, e_orT, b_of, b_and, b_or, b_not, asB, asI, a_nil, a_cons, e_call, e_callB, toSl, thaw, isBor, noL, noList, noListAll, dats, dat1, k_add, addD, k_sub, k_mul, mulD, k_div, k_mod, k_pow, k_lt, k_le, k_gt, k_ge, k_neg, k_ix, intI, seqA, view, lstA, rfin, setR, k_len, k_tuple, k_list, k_sum, k_max, k_min, k_abs, k_int, k_gcd, k_all, k_isN, k_notN, k_isB, k_notB, isNon, e_slice, o_no, o_so, k_cut, Option.bind_some, Option.map_some, Option.bind_none, Option.map_none, List.getElem?_cons_zero, List.getElem?_cons_succ, List.set_cons_zero, List.set_cons_succ, List.map_cons, List.map_nil, List.any_cons, List.any_nil, List.length_cons, List.length_nil, List.replicate, List.cons_append, List.nil_append, Bool.or_false, Bool.false_or, Bool.or_true, Bool.true_or, Bool.not_false, Bool.not_true, Bool.and_true, Bool.true_and, Bool.and_false, Bool.false_and, if_true, ite_true, Bool.false_eq_true, if_false, ite_false, reduceIte, Nat.zero_add, Nat.add_zero, Nat.reduceAdd, Nat.reduceSub, Nat.sub_self, eq_fr]
  · simp only [lim0, lim1, lim2, lim3, lim4, Dl.run, s_seq, s_nop, s_ret, s_retN, s_if, s_set, s_put, s_app, s_augI, putA, s_expr, s_tg, s_parA, s_parB, noB, t_name, t_nil, t_cons, t_tup, e_bin, e_un, e_c, e_var, e_tup, e_lst, e_if, e_and, e_or, e_not, e_chain, e_orT, b_of, b_and, b_or, b_not, asB, asI, a_nil, a_cons, e_call, e_callB, toSl, thaw, isBor, noL, noList, noListAll, dats, dat1, k_add, addD, k_sub, k_mul, mulD, k_div, k_mod, k_pow, k_lt, k_le, k_gt, k_ge, k_neg, k_ix, intI, seqA, view, lstA, rfin, setR, k_len, k_tuple, k_list, k_sum, k_min, k_abs, k_int, k_gcd, k_all, k_isN, k_notN, k_isB, k_notB, isNon, e_slice, o_no, o_so, k_cut, Option.bind_some, Option.map_some, Option.bind_none, Option.map_none, List.getElem?_cons_zero, List.getElem?_cons_succ, List.set_cons_zero, List.set_cons_succ, List.map_cons, List.map_nil, List.any_cons, List.any_nil, List.length_cons, List.length_nil, List.replicate, List.cons_append, List.nil_append, Bool.or_false, Bool.false_or, Bool.or_true, Bool.true_or, Bool.not_false, Bool.not_true, Bool.and_true, Bool.true_and, Bool.and_false, Bool.false_and, if_true, ite_true, Bool.false_eq_true, if_false, ite_false, reduceIte, Nat.zero_add, Nat.add_zero, Nat.reduceAdd, Nat.reduceSub, Nat.sub_self, m2]
end K45
end

section
set_option Elab.async false
set_option linter.all false
set_option maxRecDepth 100000
set_option maxHeartbeats 2000000
/-! The plain law, part 16: one share, whole. -/
namespace K45
open PySem PySem.Spec PyProof.Rows L2 Dl
variable {u : Ur}

theorem and_ok {t1 t2 : DT} {b1 b2 : Bool} {ε : Ev} (h1 : t1 ε u = some (b1, u)) (h2 : t2 ε u = some (b2, u)) : b_and t1 t2 ε u = some (b1 && b2, u) := by
  unfold b_and; rw [h1]
  cases b1 with
  | true => exact h2
  | false => rfl
/-- what deals_of gives, empty or not -/
theorem deals_any {P : D} {s : Nat → Int} (h : PostOk P s) {v : List Int} (h0 : 0 < v.length) (hl2 : v.length ≤ 6) (V : Vs v) {k : Nat} (hk : k ≤ 7) :
    ∃ r L, F_deals_of [.val P, .val (ti v), .val (.int (k : Nat))] u = some (r, u) ∧ seqA r = some (false, L.map ti) ∧ L.length ≤ 9000000 ∧ (∀ x ∈ L, x.length = v.length) ∧ isBor r = false ∧ (L ≠ [] → ∃ low high, All P s v k u low high L) := by
  obtain ⟨m, dl, ⟨_, e⟩ | ⟨_, low, high, L, A, e⟩⟩ := ev_deals (u := u) h h0 hl2 V hk
  · exact ⟨.own [], [], e, rfl, by simp, (fun x hx => by cases hx), rfl, fun hn => absurd rfl hn⟩
  · exact ⟨_, L, e, rfl, A.R.len, fun x hx => by rw [((A.R.mem x).mp hx).1, A.t.ll], rfl, fun _ => ⟨low, high, A⟩⟩
section
variable {v : List Int} {a : Nat} {x y : Int} {k : Nat} {σ p q : Int} {w0 w8 w9 w10 w11 : Sl} {tl : Ev}
theorem sums_ok {P : D} {w : List Int} {r : Rs} {L : List (List Int)} {n : Nat} {w0 v k' x' w7 w9 w10 w11 : Sl} {tl : Ev} {a : Nat} (e : F_deals_of [.val P, .val (ti w), k'] u = some (r, u)) (hk' : ∃ d, k' = .val d) (hq : seqA r = some (false, L.map ti)) (hl : L.length ≤ 9000000) (hr : ∀ x ∈ L, x.length = n + 1) (ha : a < n + 1) :
    e_lc (it_seq (e_call F_deals_of (a_cons (e_var 8) (a_cons (e_var 6) (a_cons (e_var 3) a_nil))))) [11] (t_name 11) b_yes E_law_1 (E20 w0 v k' (.val (.int (a : Nat))) x' (.val (ti w)) w7 (.val P) w9 w10 w11 tl) u = some (.own ((L.map fun r => gd r a + gd r n).map PyData.int), u) := by
  obtain ⟨d, rfl⟩ := hk'
  have h1 : it_seq (e_call F_deals_of (a_cons (e_var 8) (a_cons (e_var 6) (a_cons (e_var 3) a_nil)))) (E20 w0 v (.val d) (.val (.int (a : Nat))) x' (.val (ti w)) w7 (.val P) w9 w10 w11 tl) u = some (([thaw r], L.map ti), u) := by
    generalize ti w = wd at *
    simp only [it_seq, lim0, lim1, lim2, lim3, lim4, Dl.run, s_seq, s_nop, s_ret, s_retN, s_if, s_set, s_put, s_app, s_augI, putA, s_expr, s_tg, s_parA, s_parB, noB, t_name, t_nil, t_cons, t_tup, e_bin, e_un, e_c, e_var, e_tup, e_lst, e_if, e_and, e_or, e_not, e_chain, e_orT, b_of, b_and, b_or, b_not, asB, asI, a_nil, a_cons, e_call, e_callB, toSl, thaw, isBor, noL, noList, noListAll, dats, dat1, k_add, addD, k_sub, k_mul, mulD, k_div, k_mod, k_pow, k_lt, k_le, k_gt, k_ge, k_neg, k_ix, intI, view, lstA, rfin, setR, k_len, k_tuple, k_list, k_sum, k_max, k_min, k_abs, k_int, k_gcd, k_all, k_isN, k_notN, k_isB, k_notB, isNon, e_slice, o_no, o_so, k_cut, Option.bind_some, Option.map_some, Option.bind_none, Option.map_none, List.getElem?_cons_zero, List.getElem?_cons_succ, List.set_cons_zero, List.set_cons_succ, List.map_cons, List.map_nil, List.any_cons, List.any_nil, List.length_cons, List.length_nil, List.replicate, List.cons_append, List.nil_append, Bool.or_false, Bool.false_or, Bool.or_true, Bool.true_or, Bool.not_false, Bool.not_true, Bool.and_true, Bool.true_and, Bool.and_false, Bool.false_and, if_true, ite_true, Bool.false_eq_true, if_false, ite_false, reduceIte, Nat.zero_add, Nat.add_zero, Nat.reduceAdd, Nat.reduceSub, Nat.sub_self, e, hq]
  refine lc_ok h1 (lc_at L fun r hr' => ⟨_, rfl, ?_⟩) (cd_t (by rw [List.length_map, List.length_map]; omega))
  have i1 := ix_ti (u := u) (l := r) (i := a) (by have := hr r hr'; omega)
  have i2 := ix_last (u := u) (hr r hr')
  generalize ti r = rd at *
  simp only [E_law_1, wipeE, lim0, lim1, lim2, lim3, lim4, Dl.run, s_seq, s_nop, s_ret, s_retN, s_if, s_set, s_put, s_app, s_augI, putA, s_expr, s_tg, s_parA, s_parB, noB, t_name, t_nil, t_cons, t_tup, e_bin, e_un, e_c, e_var, e_tup, e_lst, e_if, e_and, e_or, e_not, e_chain, e_orT, b_of, b_and, b_or, b_not, asB, asI, a_nil, a_cons, e_call, e_callB, toSl, thaw, isBor, noL, noList, noListAll, dats, dat1, k_add, addD, k_sub, k_mul, mulD, k_div, k_mod, k_pow, k_lt, k_le, k_gt, k_ge, k_neg, intI, seqA, view, lstA, rfin, setR, k_len, k_tuple, k_list, k_sum, k_max, k_min, k_abs, k_int, k_gcd, k_all, k_isN, k_notN, k_isB, k_notB, isNon, e_slice, o_no, o_so, k_cut, Option.bind_some, Option.map_some, Option.bind_none, Option.map_none, List.getElem?_cons_zero, List.getElem?_cons_succ, List.set_cons_zero, List.set_cons_succ, List.map_cons, List.map_nil, List.any_cons, List.any_nil, List.length_cons, List.length_nil, List.replicate, List.cons_append, List.nil_append, Bool.or_false, Bool.false_or, Bool.or_true, Bool.true_or, Bool.not_false, Bool.not_true, Bool.and_true, Bool.true_and, Bool.and_false, Bool.false_and, if_true, ite_true, Bool.false_eq_true, if_false, ite_false, reduceIte, Nat.zero_add, Nat.add_zero, Nat.reduceAdd, Nat.reduceSub, Nat.sub_self, i1, i2]
theorem before_ok {P : D} {w : List Int} {r : Rs} {L : List (List Int)} {n : Nat} {w0 k' x' w6 w7 w9 w10 w11 : Sl} {tl : Ev} {a : Nat} (e : F_deals_of [.val P, .val (ti w), k'] u = some (r, u)) (hk' : ∃ d, k' = .val d) (hq : seqA r = some (false, L.map ti)) (hl : L.length ≤ 9000000) (hr : ∀ x ∈ L, x.length = n) (ha : a < n) :
    e_lc (it_seq (e_call F_deals_of (a_cons (e_var 8) (a_cons (e_var 2) (a_cons (e_var 3) a_nil))))) [11] (t_name 11) b_yes E_law_2 (E20 w0 (.val (ti w)) k' (.val (.int (a : Nat))) x' w6 w7 (.val P) w9 w10 w11 tl) u = some (.own ((L.map fun r => gd r a).map PyData.int), u) := by
  obtain ⟨d, rfl⟩ := hk'
  have h1 : it_seq (e_call F_deals_of (a_cons (e_var 8) (a_cons (e_var 2) (a_cons (e_var 3) a_nil)))) (E20 w0 (.val (ti w)) (.val d) (.val (.int (a : Nat))) x' w6 w7 (.val P) w9 w10 w11 tl) u = some (([thaw r], L.map ti), u) := by
    generalize ti w = wd at *
    simp only [it_seq, lim0, lim1, lim2, lim3, lim4, Dl.run, s_seq, s_nop, s_ret, s_retN, s_if, s_set, s_put, s_app, s_augI, putA, s_expr, s_tg, s_parA, s_parB, noB, t_name, t_nil, t_cons, t_tup, e_bin, e_un, e_c, e_var, e_tup, e_lst, e_if, e_and, e_or, e_not, e_chain, e_orT, b_of, b_and, b_or, b_not, asB, asI, a_nil, a_cons, e_call, e_callB, toSl, thaw, isBor, noL, noList, noListAll, dats, dat1, k_add, addD, k_sub, k_mul, mulD, k_div, k_mod, k_pow, k_lt, k_le, k_gt, k_ge, k_neg, k_ix, intI, view, lstA, rfin, setR, k_len, k_tuple, k_list, k_sum, k_max, k_min, k_abs, k_int, k_gcd, k_all, k_isN, k_notN, k_isB, k_notB, isNon, e_slice, o_no, o_so, k_cut, Option.bind_some, Option.map_some, Option.bind_none, Option.map_none, List.getElem?_cons_zero, List.getElem?_cons_succ, List.set_cons_zero, List.set_cons_succ, List.map_cons, List.map_nil, List.any_cons, List.any_nil, List.length_cons, List.length_nil, List.replicate, List.cons_append, List.nil_append, Bool.or_false, Bool.false_or, Bool.or_true, Bool.true_or, Bool.not_false, Bool.not_true, Bool.and_true, Bool.true_and, Bool.and_false, Bool.false_and, if_true, ite_true, Bool.false_eq_true, if_false, ite_false, reduceIte, Nat.zero_add, Nat.add_zero, Nat.reduceAdd, Nat.reduceSub, Nat.sub_self, e, hq]
  refine lc_ok h1 (lc_at L fun r hr' => ⟨_, rfl, ?_⟩) (cd_t (by rw [List.length_map, List.length_map]; omega))
  have i1 := ix_ti (u := u) (l := r) (i := a) (by have := hr r hr'; omega)
  generalize ti r = rd at *
  simp only [E_law_2, wipeE, lim0, lim1, lim2, lim3, lim4, Dl.run, s_seq, s_nop, s_ret, s_retN, s_if, s_set, s_put, s_app, s_augI, putA, s_expr, s_tg, s_parA, s_parB, noB, t_name, t_nil, t_cons, t_tup, e_bin, e_un, e_c, e_var, e_tup, e_lst, e_if, e_and, e_or, e_not, e_chain, e_orT, b_of, b_and, b_or, b_not, asB, asI, a_nil, a_cons, e_call, e_callB, toSl, thaw, isBor, noL, noList, noListAll, dats, dat1, k_add, addD, k_sub, k_mul, mulD, k_div, k_mod, k_pow, k_lt, k_le, k_gt, k_ge, k_neg, intI, seqA, view, lstA, rfin, setR, k_len, k_tuple, k_list, k_sum, k_max, k_min, k_abs, k_int, k_gcd, k_all, k_isN, k_notN, k_isB, k_notB, isNon, e_slice, o_no, o_so, k_cut, Option.bind_some, Option.map_some, Option.bind_none, Option.map_none, List.getElem?_cons_zero, List.getElem?_cons_succ, List.set_cons_zero, List.set_cons_succ, List.map_cons, List.map_nil, List.any_cons, List.any_nil, List.length_cons, List.length_nil, List.replicate, List.cons_append, List.nil_append, Bool.or_false, Bool.false_or, Bool.or_true, Bool.true_or, Bool.not_false, Bool.not_true, Bool.and_true, Bool.true_and, Bool.and_false, Bool.false_and, if_true, ite_true, Bool.false_eq_true, if_false, ite_false, reduceIte, Nat.zero_add, Nat.add_zero, Nat.reduceAdd, Nat.reduceSub, Nat.sub_self, i1]
theorem share_step (hs0 : 0 ≤ σ) (hs1 : σ ≤ 60) (e : (fr p q : D) = red σ 60) (hJ : p = 1 ∧ q = 1 → σ = 60) (hA : p = 0 ∧ q = 1 → σ = 0) (V : Vs v) (W : Vs (part v a x y)) (hv : v.length ≤ 4) (ha : a < v.length) (hx : 0 < x) (hy : 0 < y) (hxy : x + y = gd v a) (hk : k ≤ 7) :
    ∃ y8 y9 y10 y11, B_law_4 (E20 w0 (.val (ti v)) (.val (.int (k : Nat))) (.val (.int (a : Nat))) (.val (.int x)) (.val (ti (part v a x y))) (.val (fr p q)) w8 w9 w10 w11 tl) u =
      some (.nx (E20 w0 (.val (ti v)) (.val (.int (k : Nat))) (.val (.int (a : Nat))) (.val (.int x)) (.val (ti (part v a x y))) (.val (fr p q)) y8 y9 y10 y11 tl), u) := by
  have hP := even_ok hs0 hs1
  have e1 : F_even_posts [.val (fr p q)] u = some (.val (.tuple [.tuple [], red σ 60]), u) := by rw [e]; exact ev_even
  have hwl : (part v a x y).length = v.length + 1 := part_len
  obtain ⟨r', L', d1, q1, l1', len1, _, all1⟩ := deals_any (u := u) hP (v := part v a x y) (by omega) (by omega) W hk
  obtain ⟨r, L, d2, q2, l2', len2, _, all2⟩ := deals_any (u := u) hP (v := v) (by omega) (by omega) V hk
  have k1 := ev_ka1 (u := u) hs0 hs1 e.symm
  have k2 := ev_ka2 (u := u) hs0 hs1 e.symm
  have same : ∀ (y8 y9 y10 y11 : Sl), y8 = .val (.tuple [.tuple [], red σ 60]) → (s_if (b_not (b_of (e_call F__law_same (a_cons (e_lst (a_cons (e_call F_keeps_always (a_cons (e_var 8) (a_cons (e_c (.str "no fewer")) a_nil))) (a_cons (e_call F_keeps_always (a_cons (e_var 8) (a_cons (e_c (.str "no more")) a_nil))) a_nil))) (a_cons (e_lst (a_cons (e_bin k_eq (e_var 7) (e_tup (a_cons (e_c (.int 1)) (a_cons (e_c (.int 1)) a_nil)))) (a_cons (e_bin k_eq (e_var 7) (e_tup (a_cons (e_c (.int 0)) (a_cons (e_c (.int 1)) a_nil)))) a_nil))) a_nil))))) (s_ret (e_c (.bool false))) s_nop)
      (E20 w0 (.val (ti v)) (.val (.int (k : Nat))) (.val (.int (a : Nat))) (.val (.int x)) (.val (ti (part v a x y))) (.val (fr p q)) y8 y9 y10 y11 tl) u = some (.nx (E20 w0 (.val (ti v)) (.val (.int (k : Nat))) (.val (.int (a : Nat))) (.val (.int x)) (.val (ti (part v a x y))) (.val (fr p q)) y8 y9 y10 y11 tl), u) := fun y8 y9 y10 y11 h8 => by
    subst h8
    generalize ti v = vd
    generalize ti (part v a x y) = wd
    generalize red σ 60 = R at *
    refine if_f (u1 := u) ?_ rfl
    simp only [lim0, lim1, lim2, lim3, lim4, Dl.run, s_seq, s_nop, s_ret, s_retN, s_if, s_set, s_put, s_app, s_augI, putA, s_expr, s_tg, s_parA, s_parB, noB, t_name, t_nil, t_cons, t_tup, e_bin, e_un, e_c, e_var, e_tup, e_lst, e_if, e_and, e_or, e_not, e_chain, e_orT, b_of, b_and, b_or, b_not, asB, asI, a_nil, a_cons, e_call, e_callB, toSl, thaw, isBor, noL, noList, noListAll, dats, dat1, k_add, addD, k_sub, k_mul, mulD, k_div, k_mod, k_pow, k_lt, k_le, k_gt, k_ge, k_neg, k_ix, intI, seqA, view, lstA, rfin, setR, k_len, k_tuple, k_list, k_sum, k_max, k_min, k_abs, k_int, k_gcd, k_all, k_isN, k_notN, k_isB, k_notB, isNon, e_slice, o_no, o_so, k_cut, Option.bind_some, Option.map_some, Option.bind_none, Option.map_none, List.getElem?_cons_zero, List.getElem?_cons_succ, List.set_cons_zero, List.set_cons_succ, List.map_cons, List.map_nil, List.any_cons, List.any_nil, List.length_cons, List.length_nil, List.replicate, List.cons_append, List.nil_append, Bool.or_false, Bool.false_or, Bool.or_true, Bool.true_or, Bool.not_false, Bool.not_true, Bool.and_true, Bool.true_and, Bool.and_false, Bool.false_and, if_true, ite_true, Bool.false_eq_true, if_false, ite_false, reduceIte, Nat.zero_add, Nat.add_zero, Nat.reduceAdd, Nat.reduceSub, Nat.sub_self, k1, k2, eq_fr, same_ls]
  have st1 : (s_set 8 (e_call F_even_posts (a_cons (e_var 7) a_nil))) (E20 w0 (.val (ti v)) (.val (.int (k : Nat))) (.val (.int (a : Nat))) (.val (.int x)) (.val (ti (part v a x y))) (.val (fr p q)) w8 w9 w10 w11 tl) u = some (.nx (E20 w0 (.val (ti v)) (.val (.int (k : Nat))) (.val (.int (a : Nat))) (.val (.int x)) (.val (ti (part v a x y))) (.val (fr p q)) (.val (.tuple [.tuple [], red σ 60])) w9 w10 w11 tl), u) := by
    generalize red σ 60 = R at *
    simp only [lim0, lim1, lim2, lim3, lim4, Dl.run, s_seq, s_nop, s_ret, s_retN, s_if, s_set, s_put, s_app, s_augI, putA, s_expr, s_tg, s_parA, s_parB, noB, t_name, t_nil, t_cons, t_tup, e_bin, e_un, e_c, e_var, e_tup, e_lst, e_if, e_and, e_or, e_not, e_chain, e_orT, b_of, b_and, b_or, b_not, asB, asI, a_nil, a_cons, e_call, e_callB, toSl, thaw, isBor, noL, noList, noListAll, dats, dat1, k_add, addD, k_sub, k_mul, mulD, k_div, k_mod, k_pow, k_lt, k_le, k_gt, k_ge, k_neg, k_ix, intI, seqA, view, lstA, rfin, setR, k_len, k_tuple, k_list, k_sum, k_max, k_min, k_abs, k_int, k_gcd, k_all, k_isN, k_notN, k_isB, k_notB, isNon, e_slice, o_no, o_so, k_cut, Option.bind_some, Option.map_some, Option.bind_none, Option.map_none, List.getElem?_cons_zero, List.getElem?_cons_succ, List.set_cons_zero, List.set_cons_succ, List.map_cons, List.map_nil, List.any_cons, List.any_nil, List.length_cons, List.length_nil, List.replicate, List.cons_append, List.nil_append, Bool.or_false, Bool.false_or, Bool.or_true, Bool.true_or, Bool.not_false, Bool.not_true, Bool.and_true, Bool.true_and, Bool.and_false, Bool.false_and, if_true, ite_true, Bool.false_eq_true, if_false, ite_false, reduceIte, Nat.zero_add, Nat.add_zero, Nat.reduceAdd, Nat.reduceSub, Nat.sub_self, e1]
  have st2 := set_ok (i := 9) (sums_ok (u := u) (w0 := w0) (v := .val (ti v)) (x' := .val (.int x)) (w7 := .val (fr p q)) (w9 := w9) (w10 := w10) (w11 := w11) (tl := tl) (n := v.length) (a := a) d1 ⟨_, rfl⟩ q1 l1' (fun r hr => by rw [len1 r hr, hwl]) (by omega))
  have st3 := set_ok (i := 10) (before_ok (u := u) (w0 := w0) (x' := .val (.int x)) (w6 := .val (ti (part v a x y))) (w7 := .val (fr p q)) (w9 := .own ((L'.map fun r => gd r a + gd r v.length).map PyData.int)) (w10 := w10) (w11 := w11) (tl := tl) (n := v.length) (a := a) d2 ⟨_, rfl⟩ q2 l2' len2 ha)
  have mid : ∃ y10 y11, (s_if (b_and (b_of (e_bin k_ne (e_var 9) (e_lst a_nil))) (b_of (e_bin k_ne (e_var 10) (e_lst a_nil)))) (s_seq (s_if (b_or (b_and (b_of (e_bin k_eq (e_var 7) (e_tup (a_cons (e_c (.int 1)) (a_cons (e_c (.int 1)) a_nil))))) (b_of (e_bin k_gt (e_callB k_min (a_cons (e_var 9) a_nil)) (e_callB k_max (a_cons (e_var 10) a_nil))))) (b_and (b_of (e_bin k_eq (e_var 7) (e_tup (a_cons (e_c (.int 0)) (a_cons (e_c (.int 1)) a_nil))))) (b_of (e_bin k_lt (e_callB k_max (a_cons (e_var 9) a_nil)) (e_callB k_min (a_cons (e_var 10) a_nil)))))) (s_ret (e_c (.bool false))) s_nop)
    (s_seq (s_if (b_or (b_of (e_bin k_gt (e_callB k_max (a_cons (e_var 9) a_nil)) (e_bin k_add (e_callB k_max (a_cons (e_var 10) a_nil)) (e_c (.int 1))))) (b_of (e_bin k_lt (e_callB k_min (a_cons (e_var 9) a_nil)) (e_bin k_sub (e_callB k_min (a_cons (e_var 10) a_nil)) (e_c (.int 1)))))) (s_ret (e_c (.bool false))) s_nop)
    (s_seq (ghost 10 (s_for (it_seq (e_var 10)) (t_name 11) (B_law_3)))
    (s_if (b_of (e_bin k_ne (e_tup (a_cons (e_callB k_min (a_cons (e_var 10) a_nil)) (a_cons (e_callB k_max (a_cons (e_var 10) a_nil)) a_nil))) (e_call F_seat_ends (a_cons (e_var 8) (a_cons (e_var 2) (a_cons (e_var 3) (a_cons (e_var 4) a_nil))))))) (s_ret (e_c (.bool false))) s_nop)))) s_nop)
      (E20 w0 (.val (ti v)) (.val (.int (k : Nat))) (.val (.int (a : Nat))) (.val (.int x)) (.val (ti (part v a x y))) (.val (fr p q)) (.val (.tuple [.tuple [], red σ 60])) (.own ((L'.map fun r => gd r a + gd r v.length).map PyData.int)) (.own ((L.map fun r => gd r a).map PyData.int)) w11 tl) u =
      some (.nx (E20 w0 (.val (ti v)) (.val (.int (k : Nat))) (.val (.int (a : Nat))) (.val (.int x)) (.val (ti (part v a x y))) (.val (fr p q)) (.val (.tuple [.tuple [], red σ 60])) (.own ((L'.map fun r => gd r a + gd r v.length).map PyData.int)) y10 y11 tl), u) := by
    generalize hss : L'.map (fun r => gd r a + gd r v.length) = ss
    generalize hbb : L.map (fun r => gd r a) = bb
    have n1 := ne_nil (u := u) (i := 9) ss
    have n2 := ne_nil (u := u) (i := 10) bb
    by_cases hc : ss ≠ [] ∧ bb ≠ []
    · obtain ⟨c1, c2⟩ := hc
      obtain ⟨low', high', A'⟩ := all1 (fun e => by rw [e] at hss; exact c1 hss.symm)
      obtain ⟨low, high, A⟩ := all2 (fun e => by rw [e] at hbb; exact c2 hbb.symm)
      obtain ⟨l, h, lp, hp, Lo, Ho, Lo', Ho', T⟩ := two_of hP V ha A.t A'.t
      obtain ⟨_, mn, mx⟩ := rows_ends A.t A.R ha
      obtain ⟨_, mn', mx'⟩ := rows_sums A'.t A'.R ha hwl
      rw [hbb] at mn mx
      rw [hss] at mn' mx'
      unfold endLo at mn
      unfold endHi at mx
      obtain ⟨f1, f2⟩ := two_all hs0 hs1 hx hy hxy T
      have z1 := T.eLo; have z2 := T.eHo; have z3 := T.eLo'; have z4 := T.eHo'; have z5 := T.el; have z6 := T.eh
      have fJ : σ = 60 → minI ss ≤ minI bb := fun h => by subst h; have := two_one hx hy hxy T; omega
      have fA : σ = 0 → maxI bb ≤ maxI ss := fun h => by subst h; have := two_zero hx hy hxy T; omega
      obtain ⟨b1, b2⟩ := Dl.minI_mem c2
      obtain ⟨b3, b4⟩ := Dl.maxI_mem c2
      have b5 := b2 _ b3
      have se := ev_seat_ends (u := u) hP (v := v) (by omega) ha A.hT A.t
      unfold endLo endHi at se
      rw [← mn, ← mx] at se
      have m1 := min_bor (i := 9) c1
      have m2 := max_bor (i := 9) c1
      have m3 := min_bor (i := 10) c2
      have m4 := max_bor (i := 10) c2
      have m5 := min_val c2
      have m6 := max_val c2
      obtain ⟨ε', ef, y11, rfl⟩ := forD_inv (u := u) (tg := t_name 11) (body := B_law_3)
        (fun _ ε => ∃ y11, ε = E20 w0 (.val (ti v)) (.val (.int (k : Nat))) (.val (.int (a : Nat))) (.val (.int x)) (.val (ti (part v a x y))) (.val (fr p q)) (.val (.tuple [.tuple [], red σ 60])) (.own (ss.map PyData.int)) (.val (.list (bb.map PyData.int))) y11 tl)
        (bb.map PyData.int) 0 (E20 w0 (.val (ti v)) (.val (.int (k : Nat))) (.val (.int (a : Nat))) (.val (.int x)) (.val (ti (part v a x y))) (.val (fr p q)) (.val (.tuple [.tuple [], red σ 60])) (.own (ss.map PyData.int)) (.val (.list (bb.map PyData.int))) w11 tl) ⟨_, rfl⟩
        (fun i d ε hd hI => by
          rw [List.getElem?_map] at hd
          obtain ⟨o, ho, rfl⟩ := Option.map_eq_some_iff.mp hd
          obtain ⟨y11, rfl⟩ := hI
          have hob := List.mem_of_getElem? ho
          have g1 := b2 o hob
          have g2 := b4 o hob
          exact ⟨_, _, rfl, own_step c1 (fun h => by have := fJ (hJ (of_decide_eq_true h)); omega) (fun h => by have := fA (hA (of_decide_eq_true h)); omega), _, rfl⟩)
      refine ⟨.val (.list (bb.map PyData.int)), y11, ?_⟩
      rw [decide_eq_true c1] at n1
      rw [decide_eq_true c2] at n2
      have ef2 := for_ok (u := u) (it := it_seq (e_var 10)) (rs := [.val (.list (bb.map PyData.int))]) (its := bb.map PyData.int) (u' := u) (ε := E20 w0 (.val (ti v)) (.val (.int (k : Nat))) (.val (.int (a : Nat))) (.val (.int x)) (.val (ti (part v a x y))) (.val (fr p q)) (.val (.tuple [.tuple [], red σ 60])) (.own (ss.map PyData.int)) (.val (.list (bb.map PyData.int))) w11 tl) (by simp only [it_seq, lim0, lim1, lim2, lim3, lim4, Dl.run, s_seq, s_nop, s_ret, s_retN, s_if, s_set, s_put, s_app, s_augI, putA, s_expr, s_tg, s_parA, s_parB, noB, t_name, t_nil, t_cons, t_tup, e_bin, e_un, e_c, e_var, e_tup, e_lst, e_if, e_and, e_or, e_not, e_chain, e_orT, b_of, b_and, b_or, b_not, asB, asI, a_nil, a_cons, e_call, e_callB, toSl, thaw, isBor, noL, noList, noListAll, dats, dat1, k_add, addD, k_sub, k_mul, mulD, k_div, k_mod, k_pow, k_lt, k_le, k_gt, k_ge, k_neg, k_ix, intI, seqA, view, lstA, rfin, setR, k_len, k_tuple, k_list, k_sum, k_max, k_min, k_abs, k_int, k_gcd, k_all, k_isN, k_notN, k_isB, k_notB, isNon, e_slice, o_no, o_so, k_cut, Option.bind_some, Option.map_some, Option.bind_none, Option.map_none, List.getElem?_cons_zero, List.getElem?_cons_succ, List.set_cons_zero, List.set_cons_succ, List.map_cons, List.map_nil, List.any_cons, List.any_nil, List.length_cons, List.length_nil, List.replicate, List.cons_append, List.nil_append, Bool.or_false, Bool.false_or, Bool.or_true, Bool.true_or, Bool.not_false, Bool.not_true, Bool.and_true, Bool.true_and, Bool.and_false, Bool.false_and, if_true, ite_true, Bool.false_eq_true, if_false, ite_false, reduceIte, Nat.zero_add, Nat.add_zero, Nat.reduceAdd, Nat.reduceSub, Nat.sub_self]) rfl ef
      generalize red σ 60 = R at *
      generalize ti v = vd at *
      generalize ti (part v a x y) = wd at *
      generalize ss.map PyData.int = S at *
      generalize bb.map PyData.int = B at *
      refine if_t (u1 := u) (and_ok (u := u) (b1 := true) (b2 := true) ?_ ?_) ?_
      · simp only [lim0, lim1, lim2, lim3, lim4, Dl.run, s_seq, s_nop, s_ret, s_retN, s_if, s_set, s_put, s_app, s_augI, putA, s_expr, s_tg, s_parA, s_parB, noB, t_name, t_nil, t_cons, t_tup, e_bin, e_un, e_c, e_var, e_tup, e_lst, e_if, e_and, e_or, e_not, e_chain, e_orT, b_of, b_and, b_or, b_not, asB, asI, a_nil, a_cons, e_call, e_callB, toSl, thaw, isBor, noL, noList, noListAll, dats, dat1, k_add, addD, k_sub, k_mul, mulD, k_div, k_mod, k_pow, k_lt, k_le, k_gt, k_ge, k_neg, k_ix, intI, seqA, view, lstA, rfin, setR, k_len, k_tuple, k_list, k_sum, k_max, k_min, k_abs, k_int, k_gcd, k_all, k_isN, k_notN, k_isB, k_notB, isNon, e_slice, o_no, o_so, k_cut, Option.bind_some, Option.map_some, Option.bind_none, Option.map_none, List.getElem?_cons_zero, List.getElem?_cons_succ, List.set_cons_zero, List.set_cons_succ, List.map_cons, List.map_nil, List.any_cons, List.any_nil, List.length_cons, List.length_nil, List.replicate, List.cons_append, List.nil_append, Bool.or_false, Bool.false_or, Bool.or_true, Bool.true_or, Bool.not_false, Bool.not_true, Bool.and_true, Bool.true_and, Bool.and_false, Bool.false_and, if_true, ite_true, Bool.false_eq_true, if_false, ite_false, reduceIte, Nat.zero_add, Nat.add_zero, Nat.reduceAdd, Nat.reduceSub, Nat.sub_self, n1]
      · simp only [lim0, lim1, lim2, lim3, lim4, Dl.run, s_seq, s_nop, s_ret, s_retN, s_if, s_set, s_put, s_app, s_augI, putA, s_expr, s_tg, s_parA, s_parB, noB, t_name, t_nil, t_cons, t_tup, e_bin, e_un, e_c, e_var, e_tup, e_lst, e_if, e_and, e_or, e_not, e_chain, e_orT, b_of, b_and, b_or, b_not, asB, asI, a_nil, a_cons, e_call, e_callB, toSl, thaw, isBor, noL, noList, noListAll, dats, dat1, k_add, addD, k_sub, k_mul, mulD, k_div, k_mod, k_pow, k_lt, k_le, k_gt, k_ge, k_neg, k_ix, intI, seqA, view, lstA, rfin, setR, k_len, k_tuple, k_list, k_sum, k_max, k_min, k_abs, k_int, k_gcd, k_all, k_isN, k_notN, k_isB, k_notB, isNon, e_slice, o_no, o_so, k_cut, Option.bind_some, Option.map_some, Option.bind_none, Option.map_none, List.getElem?_cons_zero, List.getElem?_cons_succ, List.set_cons_zero, List.set_cons_succ, List.map_cons, List.map_nil, List.any_cons, List.any_nil, List.length_cons, List.length_nil, List.replicate, List.cons_append, List.nil_append, Bool.or_false, Bool.false_or, Bool.or_true, Bool.true_or, Bool.not_false, Bool.not_true, Bool.and_true, Bool.true_and, Bool.and_false, Bool.false_and, if_true, ite_true, Bool.false_eq_true, if_false, ite_false, reduceIte, Nat.zero_add, Nat.add_zero, Nat.reduceAdd, Nat.reduceSub, Nat.sub_self, n2]
      refine seq_nx (u1 := u) (if_f (u1 := u) (or_and (u := u) (J := decide (p = 1 ∧ q = 1)) (A := decide (p = 0 ∧ q = 1)) (g1 := decide (maxI bb < minI ss)) (g2 := decide (maxI ss < minI bb)) ?_ ?_ ?_ ?_ (fun h => decide_eq_false (by have := fJ (hJ (of_decide_eq_true h)); omega)) (fun h => decide_eq_false (by have := fA (hA (of_decide_eq_true h)); omega))) rfl) ?_
      · simp only [lim0, lim1, lim2, lim3, lim4, Dl.run, s_seq, s_nop, s_ret, s_retN, s_if, s_set, s_put, s_app, s_augI, putA, s_expr, s_tg, s_parA, s_parB, noB, t_name, t_nil, t_cons, t_tup, e_bin, e_un, e_c, e_var, e_tup, e_lst, e_if, e_and, e_or, e_not, e_chain, e_orT, b_of, b_and, b_or, b_not, asB, asI, a_nil, a_cons, e_call, e_callB, toSl, thaw, isBor, noL, noList, noListAll, dats, dat1, k_add, addD, k_sub, k_mul, mulD, k_div, k_mod, k_pow, k_lt, k_le, k_gt, k_ge, k_neg, k_ix, intI, seqA, view, lstA, rfin, setR, k_len, k_tuple, k_list, k_sum, k_max, k_min, k_abs, k_int, k_gcd, k_all, k_isN, k_notN, k_isB, k_notB, isNon, e_slice, o_no, o_so, k_cut, Option.bind_some, Option.map_some, Option.bind_none, Option.map_none, List.getElem?_cons_zero, List.getElem?_cons_succ, List.set_cons_zero, List.set_cons_succ, List.map_cons, List.map_nil, List.any_cons, List.any_nil, List.length_cons, List.length_nil, List.replicate, List.cons_append, List.nil_append, Bool.or_false, Bool.false_or, Bool.or_true, Bool.true_or, Bool.not_false, Bool.not_true, Bool.and_true, Bool.true_and, Bool.and_false, Bool.false_and, if_true, ite_true, Bool.false_eq_true, if_false, ite_false, reduceIte, Nat.zero_add, Nat.add_zero, Nat.reduceAdd, Nat.reduceSub, Nat.sub_self, eq_fr]
      · simp only [lim0, lim1, lim2, lim3, lim4, Dl.run, s_seq, s_nop, s_ret, s_retN, s_if, s_set, s_put, s_app, s_augI, putA, s_expr, s_tg, s_parA, s_parB, noB, t_name, t_nil, t_cons, t_tup, e_bin, e_un, e_c, e_var, e_tup, e_lst, e_if, e_and, e_or, e_not, e_chain, e_orT, b_of, b_and, b_or, b_not, asB, asI, a_nil, a_cons, e_call, e_callB, toSl, thaw, isBor, noL, noList, noListAll, dats, dat1, k_add, addD, k_sub, k_mul, mulD, k_div, k_mod, k_pow, k_lt, k_le, k_gt, k_ge, k_neg, k_ix, intI, seqA, view, lstA, rfin, setR, k_len, k_tuple, k_list, k_sum, k_abs, k_int, k_gcd, k_all, k_isN, k_notN, k_isB, k_notB, isNon, e_slice, o_no, o_so, k_cut, Option.bind_some, Option.map_some, Option.bind_none, Option.map_none, List.getElem?_cons_zero, List.getElem?_cons_succ, List.set_cons_zero, List.set_cons_succ, List.map_cons, List.map_nil, List.any_cons, List.any_nil, List.length_cons, List.length_nil, List.replicate, List.cons_append, List.nil_append, Bool.or_false, Bool.false_or, Bool.or_true, Bool.true_or, Bool.not_false, Bool.not_true, Bool.and_true, Bool.true_and, Bool.and_false, Bool.false_and, if_true, ite_true, Bool.false_eq_true, if_false, ite_false, reduceIte, Nat.zero_add, Nat.add_zero, Nat.reduceAdd, Nat.reduceSub, Nat.sub_self, m1, m4]
      · simp only [lim0, lim1, lim2, lim3, lim4, Dl.run, s_seq, s_nop, s_ret, s_retN, s_if, s_set, s_put, s_app, s_augI, putA, s_expr, s_tg, s_parA, s_parB, noB, t_name, t_nil, t_cons, t_tup, e_bin, e_un, e_c, e_var, e_tup, e_lst, e_if, e_and, e_or, e_not, e_chain, e_orT, b_of, b_and, b_or, b_not, asB, asI, a_nil, a_cons, e_call, e_callB, toSl, thaw, isBor, noL, noList, noListAll, dats, dat1, k_add, addD, k_sub, k_mul, mulD, k_div, k_mod, k_pow, k_lt, k_le, k_gt, k_ge, k_neg, k_ix, intI, seqA, view, lstA, rfin, setR, k_len, k_tuple, k_list, k_sum, k_max, k_min, k_abs, k_int, k_gcd, k_all, k_isN, k_notN, k_isB, k_notB, isNon, e_slice, o_no, o_so, k_cut, Option.bind_some, Option.map_some, Option.bind_none, Option.map_none, List.getElem?_cons_zero, List.getElem?_cons_succ, List.set_cons_zero, List.set_cons_succ, List.map_cons, List.map_nil, List.any_cons, List.any_nil, List.length_cons, List.length_nil, List.replicate, List.cons_append, List.nil_append, Bool.or_false, Bool.false_or, Bool.or_true, Bool.true_or, Bool.not_false, Bool.not_true, Bool.and_true, Bool.true_and, Bool.and_false, Bool.false_and, if_true, ite_true, Bool.false_eq_true, if_false, ite_false, reduceIte, Nat.zero_add, Nat.add_zero, Nat.reduceAdd, Nat.reduceSub, Nat.sub_self, eq_fr]
      · simp only [lim0, lim1, lim2, lim3, lim4, Dl.run, s_seq, s_nop, s_ret, s_retN, s_if, s_set, s_put, s_app, s_augI, putA, s_expr, s_tg, s_parA, s_parB, noB, t_name, t_nil, t_cons, t_tup, e_bin, e_un, e_c, e_var, e_tup, e_lst, e_if, e_and, e_or, e_not, e_chain, e_orT, b_of, b_and, b_or, b_not, asB, asI, a_nil, a_cons, e_call, e_callB, toSl, thaw, isBor, noL, noList, noListAll, dats, dat1, k_add, addD, k_sub, k_mul, mulD, k_div, k_mod, k_pow, k_lt, k_le, k_gt, k_ge, k_neg, k_ix, intI, seqA, view, lstA, rfin, setR, k_len, k_tuple, k_list, k_sum, k_abs, k_int, k_gcd, k_all, k_isN, k_notN, k_isB, k_notB, isNon, e_slice, o_no, o_so, k_cut, Option.bind_some, Option.map_some, Option.bind_none, Option.map_none, List.getElem?_cons_zero, List.getElem?_cons_succ, List.set_cons_zero, List.set_cons_succ, List.map_cons, List.map_nil, List.any_cons, List.any_nil, List.length_cons, List.length_nil, List.replicate, List.cons_append, List.nil_append, Bool.or_false, Bool.false_or, Bool.or_true, Bool.true_or, Bool.not_false, Bool.not_true, Bool.and_true, Bool.true_and, Bool.and_false, Bool.false_and, if_true, ite_true, Bool.false_eq_true, if_false, ite_false, reduceIte, Nat.zero_add, Nat.add_zero, Nat.reduceAdd, Nat.reduceSub, Nat.sub_self, m2, m3]
      refine seq_nx (u1 := u) (if_f (u1 := u) ?_ rfl) ?_
      · have g1 : ¬ (maxI bb + 1 < maxI ss) := by omega
        have g2 : ¬ (minI ss < minI bb - 1) := by omega
        simp only [lim0, lim1, lim2, lim3, lim4, Dl.run, s_seq, s_nop, s_ret, s_retN, s_if, s_set, s_put, s_app, s_augI, putA, s_expr, s_tg, s_parA, s_parB, noB, t_name, t_nil, t_cons, t_tup, e_bin, e_un, e_c, e_var, e_tup, e_lst, e_if, e_and, e_or, e_not, e_chain, e_orT, b_of, b_and, b_or, b_not, asB, asI, a_nil, a_cons, e_call, e_callB, toSl, thaw, isBor, noL, noList, noListAll, dats, dat1, k_add, addD, k_sub, k_mul, mulD, k_div, k_mod, k_pow, k_lt, k_le, k_gt, k_ge, k_neg, k_ix, intI, seqA, view, lstA, rfin, setR, k_len, k_tuple, k_list, k_sum, k_abs, k_int, k_gcd, k_all, k_isN, k_notN, k_isB, k_notB, isNon, e_slice, o_no, o_so, k_cut, Option.bind_some, Option.map_some, Option.bind_none, Option.map_none, List.getElem?_cons_zero, List.getElem?_cons_succ, List.set_cons_zero, List.set_cons_succ, List.map_cons, List.map_nil, List.any_cons, List.any_nil, List.length_cons, List.length_nil, List.replicate, List.cons_append, List.nil_append, Bool.or_false, Bool.false_or, Bool.or_true, Bool.true_or, Bool.not_false, Bool.not_true, Bool.and_true, Bool.true_and, Bool.and_false, Bool.false_and, if_true, ite_true, Bool.false_eq_true, if_false, ite_false, reduceIte, Nat.zero_add, Nat.add_zero, Nat.reduceAdd, Nat.reduceSub, Nat.sub_self, m1, m2, m3, m4, decide_eq_false g1, decide_eq_false g2]
      refine seq_nx (u1 := u) ef2 (if_f (u1 := u) ?_ rfl)
      simp only [lim0, lim1, lim2, lim3, lim4, Dl.run, s_seq, s_nop, s_ret, s_retN, s_if, s_set, s_put, s_app, s_augI, putA, s_expr, s_tg, s_parA, s_parB, noB, t_name, t_nil, t_cons, t_tup, e_bin, e_un, e_c, e_var, e_tup, e_lst, e_if, e_and, e_or, e_not, e_chain, e_orT, b_of, b_and, b_or, b_not, asB, asI, a_nil, a_cons, e_call, e_callB, toSl, thaw, isBor, noL, noList, noListAll, dats, dat1, k_add, addD, k_sub, k_mul, mulD, k_div, k_mod, k_pow, k_lt, k_le, k_gt, k_ge, k_neg, k_ix, intI, seqA, view, lstA, rfin, setR, k_len, k_tuple, k_list, k_sum, k_abs, k_int, k_gcd, k_all, k_isN, k_notN, k_isB, k_notB, isNon, e_slice, o_no, o_so, k_cut, Option.bind_some, Option.map_some, Option.bind_none, Option.map_none, List.getElem?_cons_zero, List.getElem?_cons_succ, List.set_cons_zero, List.set_cons_succ, List.map_cons, List.map_nil, List.any_cons, List.any_nil, List.length_cons, List.length_nil, List.replicate, List.cons_append, List.nil_append, Bool.or_false, Bool.false_or, Bool.or_true, Bool.true_or, Bool.not_false, Bool.not_true, Bool.and_true, Bool.true_and, Bool.and_false, Bool.false_and, if_true, ite_true, Bool.false_eq_true, if_false, ite_false, reduceIte, Nat.zero_add, Nat.add_zero, Nat.reduceAdd, Nat.reduceSub, Nat.sub_self, m5, m6, se, ne_two]
    · refine ⟨.own (bb.map PyData.int), w11, ?_⟩
      have hf : (decide (ss ≠ []) && decide (bb ≠ [])) = false := by
        by_cases c1 : ss ≠ []
        · rw [decide_eq_false (fun c2 => hc ⟨c1, c2⟩), Bool.and_false]
        · rw [decide_eq_false c1, Bool.false_and]
      generalize ti v = vd at *
      generalize ti (part v a x y) = wd at *
      generalize ss.map PyData.int = S at *
      generalize bb.map PyData.int = B at *
      refine if_f (u1 := u) (by rw [← hf]; exact and_ok (u := u) (by simp only [lim0, lim1, lim2, lim3, lim4, Dl.run, s_seq, s_nop, s_ret, s_retN, s_if, s_set, s_put, s_app, s_augI, putA, s_expr, s_tg, s_parA, s_parB, noB, t_name, t_nil, t_cons, t_tup, e_bin, e_un, e_c, e_var, e_tup, e_lst, e_if, e_and, e_or, e_not, e_chain, e_orT, b_of, b_and, b_or, b_not, asB, asI, a_nil, a_cons, e_call, e_callB, toSl, thaw, isBor, noL, noList, noListAll, dats, dat1, k_add, addD, k_sub, k_mul, mulD, k_div, k_mod, k_pow, k_lt, k_le, k_gt, k_ge, k_neg, k_ix, intI, seqA, view, lstA, rfin, setR, k_len, k_tuple, k_list, k_sum, k_max, k_min, k_abs, k_int, k_gcd, k_all, k_isN, k_notN, k_isB, k_notB, isNon, e_slice, o_no, o_so, k_cut, Option.bind_some, Option.map_some, Option.bind_none, Option.map_none, List.getElem?_cons_zero, List.getElem?_cons_succ, List.set_cons_zero, List.set_cons_succ, List.map_cons, List.map_nil, List.any_cons, List.any_nil, List.length_cons, List.length_nil, List.replicate, List.cons_append, List.nil_append, Bool.or_false, Bool.false_or, Bool.or_true, Bool.true_or, Bool.not_false, Bool.not_true, Bool.and_true, Bool.true_and, Bool.and_false, Bool.false_and, if_true, ite_true, Bool.false_eq_true, if_false, ite_false, reduceIte, Nat.zero_add, Nat.add_zero, Nat.reduceAdd, Nat.reduceSub, Nat.sub_self, n1]) (by simp only [lim0, lim1, lim2, lim3, lim4, Dl.run, s_seq, s_nop, s_ret, s_retN, s_if, s_set, s_put, s_app, s_augI, putA, s_expr, s_tg, s_parA, s_parB, noB, t_name, t_nil, t_cons, t_tup, e_bin, e_un, e_c, e_var, e_tup, e_lst, e_if, e_and, e_or, e_not, e_chain, e_orT, b_of, b_and, b_or, b_not, asB, asI, a_nil, a_cons, e_call, e_callB, toSl, thaw, isBor, noL, noList, noListAll, dats, dat1, k_add, addD, k_sub, k_mul, mulD, k_div, k_mod, k_pow, k_lt, k_le, k_gt, k_ge, k_neg, k_ix, intI, seqA, view, lstA, rfin, setR, k_len, k_tuple, k_list, k_sum, k_max, k_min, k_abs, k_int, k_gcd, k_all, k_isN, k_notN, k_isB, k_notB, isNon, e_slice, o_no, o_so, k_cut, Option.bind_some, Option.map_some, Option.bind_none, Option.map_none, List.getElem?_cons_zero, List.getElem?_cons_succ, List.set_cons_zero, List.set_cons_succ, List.map_cons, List.map_nil, List.any_cons, List.any_nil, List.length_cons, List.length_nil, List.replicate, List.cons_append, List.nil_append, Bool.or_false, Bool.false_or, Bool.or_true, Bool.true_or, Bool.not_false, Bool.not_true, Bool.and_true, Bool.true_and, Bool.and_false, Bool.false_and, if_true, ite_true, Bool.false_eq_true, if_false, ite_false, reduceIte, Nat.zero_add, Nat.add_zero, Nat.reduceAdd, Nat.reduceSub, Nat.sub_self, n2])) rfl
  obtain ⟨y10, y11, st4⟩ := mid
  refine ⟨.val (.tuple [.tuple [], red σ 60]), .own ((L'.map fun r => gd r a + gd r v.length).map PyData.int), y10, y11, ?_⟩
  unfold B_law_4
  exact seq_nx st1 (seq_nx st2 (seq_nx st3 (seq_nx st4 (same _ _ _ _ rfl))))
end
end K45
end

section
set_option Elab.async false
set_option linter.all false
set_option maxRecDepth 100000
set_option maxHeartbeats 2000000
/-! The plain law, part 17: rows, the last question. -/
namespace K45
open PySem PySem.Spec PyProof.Rows L2 Dl
variable {u : Ur}

theorem ne_three {a b c : Int} : k_ne u (.val (.tuple [.int a, .int b, .int c])) (.val (.tuple [.int a, .int b, .int c])) = some (.val (.bool false)) := by
  have : k_eq u (.val (.tuple [.int a, .int b, .int c])) (.val (.tuple [.int a, .int b, .int c])) = some (.val (.bool true)) := by
    simp [k_eq, view, eqD, SeqAt.shaped, PyData.canLay0, PyData.canLayAll0, PyData.depth, PyData.depthAll, PyData.eqv, PyData.eqvAll]
  exact ne_of_eq this
theorem ne_bools {i : Nat} {a b c d : Bool} : k_ne u (.own [.bool a, .bool b, .bool c, .bool d]) (.bor i [.bool a, .bool b, .bool c, .bool d]) = some (.val (.bool false)) := by
  have : k_eq u (.own [.bool a, .bool b, .bool c, .bool d]) (.bor i [.bool a, .bool b, .bool c, .bool d]) = some (.val (.bool true)) := by
    simp [k_eq, view, eqD, SeqAt.shaped, PyData.canLay0, PyData.canLayAll0, PyData.depth, PyData.depthAll, PyData.eqv, PyData.eqvAll]
  exact ne_of_eq this
theorem ne_ti {v : List Int} : k_ne u (.val (ti v)) (.val (ti v)) = some (.val (.bool false)) := by
  have h1 := (sh_ints v).2
  have h2 := eqv_ints v v
  have : k_eq u (.val (ti v)) (.val (ti v)) = some (.val (.bool true)) := by
    simp only [k_eq, view, ti, Option.bind_some, eqD, h1, Bool.and_self, if_true, Option.map_some, PyData.eqv, h2, decide_true]
  exact ne_of_eq this
theorem joined_part {v : List Int} {a : Nat} {x y : Int} (ha : a < v.length) (h : x + y = gd v a) : joined (part v a x y) a v.length = v := by
  unfold joined
  rw [part_a ha, part_n, h]
  unfold part
  have e1 : (v.set a x ++ [y]).set a (gd v a) = v ++ [y] := by
    rw [List.set_append_left _ _ (by simpa using ha), List.set_set]
    congr 1
    refine List.ext_getElem? fun i => ?_
    by_cases hi : i = a
    · subst hi
      rw [List.getElem?_set_self ha, gd_get ha]
    · rw [List.getElem?_set_ne (Ne.symm hi)]
  rw [e1, List.take_append_of_le_length (Nat.le_refl _), List.take_length, List.drop_eq_nil_of_le (by simp)]
  simp
section
variable {P : D} {s : Nat → Int} {v : List Int} {a : Nat} {x y : Int} {k : Nat} {w0 w5 w7 w9 w10 w11 w14 w15 w16 w17 w18 w19 : Sl}
theorem row_step (h : PostOk P s) (W : Vs (part v a x y)) (hv : v.length ≤ 4) (ha : a < v.length) (hxy : x + y = gd v a) (hk : k ≤ 7) {low high low' high' : List Int} {L L' : List (List Int)} (A : All P s v k u low high L) (A' : All P s (part v a x y) k u low' high' L') {r : List Int} (hr : r ∈ L') :
    ∃ y14 y15, B_law_7 (E20 w0 (.val (ti v)) (.val (.int (k : Nat))) (.val (.int (a : Nat))) w5 (.val (ti (part v a x y))) w7 (.val P) w9 w10 w11 [.own ((L.map fun r => gd r a).map PyData.int), .val (ti r), w14, w15, w16, w17, w18, w19]) u =
      some (.nx (E20 w0 (.val (ti v)) (.val (.int (k : Nat))) (.val (.int (a : Nat))) w5 (.val (ti (part v a x y))) w7 (.val P) w9 w10 w11 [.own ((L.map fun r => gd r a).map PyData.int), .val (ti r), y14, y15, w16, w17, w18, w19]), u) := by
  have hwl : (part v a x y).length = v.length + 1 := part_len
  obtain ⟨f, M⟩ := row_fair h W (by omega) A'.t A'.R hr
  obtain ⟨r1, r2, r3⟩ := (A'.R.mem r).mp hr
  have hrl : r.length = v.length + 1 := by rw [r1, A'.t.ll, hwl]
  obtain ⟨c2, mn, mx⟩ := rows_ends A.t A.R ha
  have se := ev_seat_ends (u := u) h (v := v) (by omega) ha A.hT A.t
  rw [← mn, ← mx] at se
  have js := ev_joined_seats (u := u) h W M (by omega) f (a := a) (b := v.length) ha (by omega) (lo := minI (L.map fun r => gd r a)) (hi := maxI (L.map fun r => gd r a)) (by rw [joined_part ha hxy, r3]; exact se)
  generalize hbb : L.map (fun r => gd r a) = bb at *
  have k1 := ev_kept js (ev_kp1 (u := u))
  have k2 := ev_kept js (ev_kp2 (u := u))
  have k3 := ev_kept js (ev_kp3 (u := u))
  have k4 := ev_kept js (ev_kp4 (u := u))
  have i1 := ix_ti (u := u) (l := r) (i := a) (by omega)
  have i2 := ix_last (u := u) hrl
  have m3 := min_bor (i := 12) c2
  have m4 := max_bor (i := 12) c2
  have l1 := len_ti v
  generalize ti v = vd at *
  generalize ti (part v a x y) = wd at *
  generalize ti r = rd at *
  generalize bb.map PyData.int = B at *
  generalize minI bb = mi at *
  generalize maxI bb = ma at *
  generalize hb : gd r a + gd r v.length = both at *
  have el : ∀ (z : Str) (b : Bool) (q14 q15 : Sl), F_is_kept_at [.val P, .val (.str z), .val wd, .val rd, .val (.int (a : Nat)), .val (.int (v.length : Nat))] u = some (.val (.bool b), u) →
      E_law_6 (E20 w0 (.val vd) (.val (.int (k : Nat))) (.val (.int (a : Nat))) w5 (.val wd) w7 (.val P) w9 w10 (.val (.str z)) [.own B, .val rd, q14, q15, w16, w17, w18, w19]) u = some (.val (.bool b), u) := fun z b q14 q15 hz => by
    simp only [E_law_6, lim0, lim1, lim2, lim3, lim4, Dl.run, s_seq, s_nop, s_ret, s_retN, s_if, s_set, s_put, s_app, s_augI, putA, s_expr, s_tg, s_parA, s_parB, noB, t_name, t_nil, t_cons, t_tup, e_bin, e_un, e_c, e_var, e_tup, e_lst, e_if, e_and, e_or, e_not, e_chain, e_orT, b_of, b_and, b_or, b_not, asB, asI, a_nil, a_cons, e_call, e_callB, toSl, thaw, isBor, noL, noList, noListAll, dats, dat1, k_add, addD, k_sub, k_mul, mulD, k_div, k_mod, k_pow, k_lt, k_le, k_gt, k_ge, k_neg, k_ix, intI, seqA, view, lstA, rfin, setR, k_tuple, k_list, k_sum, k_max, k_min, k_abs, k_int, k_gcd, k_all, k_isN, k_notN, k_isB, k_notB, isNon, e_slice, o_no, o_so, k_cut, Option.bind_some, Option.map_some, Option.bind_none, Option.map_none, List.getElem?_cons_zero, List.getElem?_cons_succ, List.set_cons_zero, List.set_cons_succ, List.map_cons, List.map_nil, List.any_cons, List.any_nil, List.length_cons, List.length_nil, List.replicate, List.cons_append, List.nil_append, Bool.or_false, Bool.false_or, Bool.or_true, Bool.true_or, Bool.not_false, Bool.not_true, Bool.and_true, Bool.true_and, Bool.and_false, Bool.false_and, if_true, ite_true, Bool.false_eq_true, if_false, ite_false, reduceIte, Nat.zero_add, Nat.add_zero, Nat.reduceAdd, Nat.reduceSub, Nat.sub_self, l1, hz]
  refine ⟨.val (.int both), .own [.bool (decide (both ≤ ma)), .bool (decide (both - 1 ≤ ma)), .bool (decide (mi ≤ both)), .bool (decide (mi ≤ both + 1))], ?_⟩
  have st1 : (s_set 14 (e_bin k_add (e_bin k_ix (e_var 13) (e_var 4)) (e_bin k_ix (e_var 13) (e_un k_neg (e_c (.int 1)))))) (E20 w0 (.val vd) (.val (.int (k : Nat))) (.val (.int (a : Nat))) w5 (.val wd) w7 (.val P) w9 w10 w11 [.own B, .val rd, w14, w15, w16, w17, w18, w19]) u =
      some (.nx (E20 w0 (.val vd) (.val (.int (k : Nat))) (.val (.int (a : Nat))) w5 (.val wd) w7 (.val P) w9 w10 w11 [.own B, .val rd, .val (.int both), w15, w16, w17, w18, w19]), u) := by
    simp only [lim0, lim1, lim2, lim3, lim4, Dl.run, s_seq, s_nop, s_ret, s_retN, s_if, s_set, s_put, s_app, s_augI, putA, s_expr, s_tg, s_parA, s_parB, noB, t_name, t_nil, t_cons, t_tup, e_bin, e_un, e_c, e_var, e_tup, e_lst, e_if, e_and, e_or, e_not, e_chain, e_orT, b_of, b_and, b_or, b_not, asB, asI, a_nil, a_cons, e_call, e_callB, toSl, thaw, isBor, noL, noList, noListAll, dats, dat1, k_add, addD, k_sub, k_mul, mulD, k_div, k_mod, k_pow, k_lt, k_le, k_gt, k_ge, k_neg, intI, seqA, view, lstA, rfin, setR, k_len, k_tuple, k_list, k_sum, k_max, k_min, k_abs, k_int, k_gcd, k_all, k_isN, k_notN, k_isB, k_notB, isNon, e_slice, o_no, o_so, k_cut, Option.bind_some, Option.map_some, Option.bind_none, Option.map_none, List.getElem?_cons_zero, List.getElem?_cons_succ, List.set_cons_zero, List.set_cons_succ, List.map_cons, List.map_nil, List.any_cons, List.any_nil, List.length_cons, List.length_nil, List.replicate, List.cons_append, List.nil_append, Bool.or_false, Bool.false_or, Bool.or_true, Bool.true_or, Bool.not_false, Bool.not_true, Bool.and_true, Bool.true_and, Bool.and_false, Bool.false_and, if_true, ite_true, Bool.false_eq_true, if_false, ite_false, reduceIte, Nat.zero_add, Nat.add_zero, Nat.reduceAdd, Nat.reduceSub, Nat.sub_self, i1, i2, hb]
  have st3 : (s_set 15 (e_lst (a_cons (e_bin k_ge (e_callB k_max (a_cons (e_var 12) a_nil)) (e_var 14)) (a_cons (e_bin k_ge (e_callB k_max (a_cons (e_var 12) a_nil)) (e_bin k_sub (e_var 14) (e_c (.int 1)))) (a_cons (e_bin k_le (e_callB k_min (a_cons (e_var 12) a_nil)) (e_var 14)) (a_cons (e_bin k_le (e_callB k_min (a_cons (e_var 12) a_nil)) (e_bin k_add (e_var 14) (e_c (.int 1)))) a_nil)))))) (E20 w0 (.val vd) (.val (.int (k : Nat))) (.val (.int (a : Nat))) w5 (.val wd) w7 (.val P) w9 w10 w11 [.own B, .val rd, .val (.int both), w15, w16, w17, w18, w19]) u =
      some (.nx (E20 w0 (.val vd) (.val (.int (k : Nat))) (.val (.int (a : Nat))) w5 (.val wd) w7 (.val P) w9 w10 w11 [.own B, .val rd, .val (.int both), .own [.bool (decide (both ≤ ma)), .bool (decide (both - 1 ≤ ma)), .bool (decide (mi ≤ both)), .bool (decide (mi ≤ both + 1))], w16, w17, w18, w19]), u) := by
    simp only [lim0, lim1, lim2, lim3, lim4, Dl.run, s_seq, s_nop, s_ret, s_retN, s_if, s_set, s_put, s_app, s_augI, putA, s_expr, s_tg, s_parA, s_parB, noB, t_name, t_nil, t_cons, t_tup, e_bin, e_un, e_c, e_var, e_tup, e_lst, e_if, e_and, e_or, e_not, e_chain, e_orT, b_of, b_and, b_or, b_not, asB, asI, a_nil, a_cons, e_call, e_callB, toSl, thaw, isBor, noL, noList, noListAll, dats, dat1, k_add, addD, k_sub, k_mul, mulD, k_div, k_mod, k_pow, k_lt, k_le, k_gt, k_ge, k_neg, k_ix, intI, seqA, view, lstA, rfin, setR, k_len, k_tuple, k_list, k_sum, k_abs, k_int, k_gcd, k_all, k_isN, k_notN, k_isB, k_notB, isNon, e_slice, o_no, o_so, k_cut, Option.bind_some, Option.map_some, Option.bind_none, Option.map_none, List.getElem?_cons_zero, List.getElem?_cons_succ, List.set_cons_zero, List.set_cons_succ, List.map_cons, List.map_nil, List.any_cons, List.any_nil, List.length_cons, List.length_nil, List.replicate, List.cons_append, List.nil_append, Bool.or_false, Bool.false_or, Bool.or_true, Bool.true_or, Bool.not_false, Bool.not_true, Bool.and_true, Bool.true_and, Bool.and_false, Bool.false_and, if_true, ite_true, Bool.false_eq_true, if_false, ite_false, reduceIte, Nat.zero_add, Nat.add_zero, Nat.reduceAdd, Nat.reduceSub, Nat.sub_self, m3, m4]
  unfold B_law_7
  refine seq_nx (u1 := u) st1 (seq_nx (u1 := u) (if_f (u1 := u) ?_ rfl) (seq_nx (u1 := u) st3 (if_f (u1 := u) ?_ rfl)))
  · simp only [lim0, lim1, lim2, lim3, lim4, Dl.run, s_seq, s_nop, s_ret, s_retN, s_if, s_set, s_put, s_app, s_augI, putA, s_expr, s_tg, s_parA, s_parB, noB, t_name, t_nil, t_cons, t_tup, e_bin, e_un, e_c, e_var, e_tup, e_lst, e_if, e_and, e_or, e_not, e_chain, e_orT, b_of, b_and, b_or, b_not, asB, asI, a_nil, a_cons, e_call, e_callB, toSl, thaw, isBor, noL, noList, noListAll, dats, dat1, k_add, addD, k_sub, k_mul, mulD, k_div, k_mod, k_pow, k_lt, k_le, k_gt, k_ge, k_neg, k_ix, intI, seqA, view, lstA, rfin, setR, k_tuple, k_list, k_sum, k_abs, k_int, k_gcd, k_all, k_isN, k_notN, k_isB, k_notB, isNon, e_slice, o_no, o_so, k_cut, Option.bind_some, Option.map_some, Option.bind_none, Option.map_none, List.getElem?_cons_zero, List.getElem?_cons_succ, List.set_cons_zero, List.set_cons_succ, List.map_cons, List.map_nil, List.any_cons, List.any_nil, List.length_cons, List.length_nil, List.replicate, List.cons_append, List.nil_append, Bool.or_false, Bool.false_or, Bool.or_true, Bool.true_or, Bool.not_false, Bool.not_true, Bool.and_true, Bool.true_and, Bool.and_false, Bool.false_and, if_true, ite_true, Bool.false_eq_true, if_false, ite_false, reduceIte, Nat.zero_add, Nat.add_zero, Nat.reduceAdd, Nat.reduceSub, Nat.sub_self, l1, js, m3, m4, ne_three]
  · have ne := ne_bools (u := u) (i := 15) (a := decide (both ≤ ma)) (b := decide (both - 1 ≤ ma)) (c := decide (mi ≤ both)) (d := decide (mi ≤ both + 1))
    have g1 := el _ _ (.val (.int both)) (.own [.bool (decide (both ≤ ma)), .bool (decide (both - 1 ≤ ma)), .bool (decide (mi ≤ both)), .bool (decide (mi ≤ both + 1))]) k1
    have g2 := el _ _ (.val (.int both)) (.own [.bool (decide (both ≤ ma)), .bool (decide (both - 1 ≤ ma)), .bool (decide (mi ≤ both)), .bool (decide (mi ≤ both + 1))]) k2
    have g3 := el _ _ (.val (.int both)) (.own [.bool (decide (both ≤ ma)), .bool (decide (both - 1 ≤ ma)), .bool (decide (mi ≤ both)), .bool (decide (mi ≤ both + 1))]) k3
    have g4 := el _ _ (.val (.int both)) (.own [.bool (decide (both ≤ ma)), .bool (decide (both - 1 ≤ ma)), .bool (decide (mi ≤ both)), .bool (decide (mi ≤ both + 1))]) k4
    generalize decide (both ≤ ma) = t1 at *
    generalize decide (both - 1 ≤ ma) = t2 at *
    generalize decide (mi ≤ both) = t3 at *
    generalize decide (mi ≤ both + 1) = t4 at *
    simp only [lim0, lim1, lim2, lim3, lim4, Dl.run, s_seq, s_nop, s_ret, s_retN, s_if, s_set, s_put, s_app, s_augI, putA, s_expr, s_tg, s_parA, s_parB, noB, t_name, t_nil, t_cons, t_tup, e_bin, e_un, e_c, e_var, e_tup, e_lst, e_if, e_and, e_or, e_not, e_chain, e_orT, b_of, b_and, b_or, b_not, asB, asI, a_nil, a_cons, e_call, e_callB, toSl, thaw, isBor, noL, noList, noListAll, dats, dat1, k_add, addD, k_sub, k_mul, mulD, k_div, k_mod, k_pow, k_lt, k_le, k_gt, k_ge, k_neg, k_ix, intI, seqA, view, lstA, rfin, setR, k_len, k_tuple, k_list, k_sum, k_max, k_min, k_abs, k_int, k_gcd, k_all, k_isN, k_notN, k_isB, k_notB, isNon, e_slice, o_no, o_so, k_cut, Option.bind_some, Option.map_some, Option.bind_none, Option.map_none, List.getElem?_cons_zero, List.getElem?_cons_succ, List.set_cons_zero, List.set_cons_succ, List.map_cons, List.map_nil, List.any_cons, List.any_nil, List.length_cons, List.length_nil, List.replicate, List.cons_append, List.nil_append, Bool.or_false, Bool.false_or, Bool.or_true, Bool.true_or, Bool.not_false, Bool.not_true, Bool.and_true, Bool.true_and, Bool.and_false, Bool.false_and, if_true, ite_true, Bool.false_eq_true, if_false, ite_false, reduceIte, Nat.zero_add, Nat.add_zero, Nat.reduceAdd, Nat.reduceSub, Nat.sub_self, e_lc, it_seq, lcD, b_yes, wipeE, g1, g2, g3, g4, ne]
end
end K45
end

section
set_option Elab.async false
set_option linter.all false
set_option maxRecDepth 100000
set_option maxHeartbeats 2000000
/-! The plain law, part 18: the law. -/
namespace K45
open PySem PySem.Spec PyProof.Rows L2 Dl
variable {u : Ur}

theorem add_tup {A B : List D} (h : A.length + B.length ≤ 100000) : k_add u (.val (.tuple A)) (.val (.tuple B)) = some (.val (.tuple (A ++ B))) := by
  simp only [k_add, addD, lim_of h, if_true]
theorem cut_tup_to {A : List Int} {n : Nat} : k_cut (.val (ti A)) none (some (n : Nat)) = some (.val (.tuple ((A.take n).map PyData.int))) := by
  simp only [k_cut, ti, seqA, Option.map_some, cut_to, List.map_take, if_true]
theorem cut_tup_from {A : List Int} {n : Nat} : k_cut (.val (ti A)) (some ((n : Nat) + 1 : Int)) none = some (.val (.tuple ((A.drop (n + 1)).map PyData.int))) := by
  have := cut_from (ds := A.map PyData.int) (n := n + 1)
  simp only [k_cut, ti, seqA, Option.map_some, show ((n : Int) + 1) = ((n + 1 : Nat) : Int) by omega, this, List.map_drop, if_true]
theorem part_data {v : List Int} {a : Nat} {x y : Int} (ha : a < v.length) : PyData.tuple ((((v.take a).map PyData.int ++ [PyData.int x]) ++ (v.drop (a + 1)).map PyData.int) ++ [PyData.int y]) = ti (part v a x y) := by
  unfold ti part
  rw [List.set_eq_take_append_cons_drop, if_pos ha]
  simp
/-- the expression of a parted row -/
theorem part_ok {v : List Int} {a : Nat} {x y : Int} {f g : DE} {w0 k w5 w6 w7 w8 w9 w10 w11 : Sl} {tl : Ev} (ha : a < v.length) (hl : v.length ≤ 100)
    (hf : f (E20 w0 (.val (ti v)) k (.val (.int (a : Nat))) w5 w6 w7 w8 w9 w10 w11 tl) u = some (.val (.int x), u)) (hg : g (E20 w0 (.val (ti v)) k (.val (.int (a : Nat))) w5 w6 w7 w8 w9 w10 w11 tl) u = some (.val (.int y), u)) :
    (e_bin k_add (e_bin k_add (e_bin k_add (e_slice (e_var 2) o_no (o_so (e_var 4))) (e_tup (a_cons f a_nil))) (e_slice (e_var 2) (o_so (e_bin k_add (e_var 4) (e_c (.int 1)))) o_no)) (e_tup (a_cons g a_nil))) (E20 w0 (.val (ti v)) k (.val (.int (a : Nat))) w5 w6 w7 w8 w9 w10 w11 tl) u = some (.val (ti (part v a x y)), u) := by
  have c1 := cut_tup_to (A := v) (n := a)
  have c2 := cut_tup_from (A := v) (n := a)
  have p := part_data (x := x) (y := y) ha
  have a1 := add_tup (u := u) (A := (v.take a).map PyData.int) (B := [PyData.int x]) (by simp; omega)
  have a2 := add_tup (u := u) (A := (v.take a).map PyData.int ++ [PyData.int x]) (B := (v.drop (a + 1)).map PyData.int) (by simp; omega)
  have a3 := add_tup (u := u) (A := ((v.take a).map PyData.int ++ [PyData.int x]) ++ (v.drop (a + 1)).map PyData.int) (B := [PyData.int y]) (by simp; omega)
  have b1 : k_add u (.val (.int (a : Nat))) (.val (.int 1)) = some (.val (.int ((a : Nat) + 1 : Int))) := rfl
  rw [p] at a3
  generalize ti v = vd at *
  generalize (v.take a).map PyData.int = A at *
  generalize (v.drop (a + 1)).map PyData.int = B at *
  generalize A ++ [PyData.int x] = C at *
  simp only [lim0, lim1, lim2, lim3, lim4, Dl.run, s_seq, s_nop, s_ret, s_retN, s_if, s_set, s_put, s_app, s_augI, putA, s_expr, s_tg, s_parA, s_parB, noB, t_name, t_nil, t_cons, t_tup, e_bin, e_un, e_c, e_var, e_tup, e_lst, e_if, e_and, e_or, e_not, e_chain, e_orT, b_of, b_and, b_or, b_not, asB, asI, a_nil, a_cons, e_call, e_callB, toSl, thaw, isBor, noL, noList, noListAll, dats, dat1, addD, k_sub, k_mul, mulD, k_div, k_mod, k_pow, k_lt, k_le, k_gt, k_ge, k_neg, k_ix, intI, seqA, view, lstA, rfin, setR, k_len, k_tuple, k_list, k_sum, k_max, k_min, k_abs, k_int, k_gcd, k_all, k_isN, k_notN, k_isB, k_notB, isNon, e_slice, o_no, o_so, Option.bind_some, Option.map_some, Option.bind_none, Option.map_none, List.getElem?_cons_zero, List.getElem?_cons_succ, List.set_cons_zero, List.set_cons_succ, List.map_cons, List.map_nil, List.any_cons, List.any_nil, List.length_cons, List.length_nil, List.replicate, List.cons_append, List.nil_append, Bool.or_false, Bool.false_or, Bool.or_true, Bool.true_or, Bool.not_false, Bool.not_true, Bool.and_true, Bool.true_and, Bool.and_false, Bool.false_and, if_true, ite_true, Bool.false_eq_true, if_false, ite_false, reduceIte, Nat.zero_add, Nat.add_zero, Nat.reduceAdd, Nat.reduceSub, Nat.sub_self, hf, hg, c1, c2, a1, a2, a3, b1]
theorem row_ok {P : D} {w : List Int} {r : Rs} {L : List (List Int)} {n : Nat} {w0 k' x' w6 w7 w9 w10 w11 : Sl} {tl : Ev} {a : Nat} (e : F_deals_of [.val P, .val (ti w), k'] u = some (r, u)) (hk' : ∃ d, k' = .val d) (hq : seqA r = some (false, L.map ti)) (hl : L.length ≤ 9000000) (hr : ∀ x ∈ L, x.length = n) (ha : a < n) :
    e_lc (it_seq (e_call F_deals_of (a_cons (e_var 8) (a_cons (e_var 2) (a_cons (e_var 3) a_nil))))) [11] (t_name 11) b_yes E_law_5 (E20 w0 (.val (ti w)) k' (.val (.int (a : Nat))) x' w6 w7 (.val P) w9 w10 w11 tl) u = some (.own ((L.map fun r => gd r a).map PyData.int), u) := before_ok e hk' hq hl hr ha
theorem even_all {σ : Int} (h0 : 0 < σ) (h1 : σ ≤ 60) {v : List Int} (hv0 : 0 < v.length) (hl2 : v.length ≤ 6) (V : Vs v) {k : Nat} (hk : k ≤ 7) :
    ∃ low high L, All (.tuple [.tuple [], red σ 60]) (evenS σ) v k u low high L := by
  obtain ⟨m, dl, ⟨⟨j, hj, hz⟩, _⟩ | ⟨_, low, high, L, A, _⟩⟩ := ev_deals (u := u) (even_ok (by omega) h1) hv0 hl2 V hk
  · have := dl.lo _ (gd_mem (v := m) (i := j) (by have := dl.len; omega))
    rw [sI_even this] at hz
    omega
  · exact ⟨low, high, L, A⟩
theorem law_pure {ns : List Int} (hl : ns.length ≤ 63) : ∃ (ms : Ur) (u0 u' : Ur), u_law (ev0 19 ns) [] = some (.own (ms.map PyData.int), u0) ∧ d_law ((ev0 19 ns).set 1 .urn) ms = some (.rt (.val (.bool true)), u') := by
  obtain ⟨ms, eb, U0⟩ := ev_u_law hl
  have hε : (ev0 19 ns).set 1 .urn = E20 (.val (.list (ns.map PyData.int))) .un .un .un .un .un .un .un .un .un .un [.un, .un, .un, .un, .un, .un, .un, .un] := rfl
  rw [hε]
  generalize (Sl.val (.list (ns.map PyData.int))) = w0
  -- the draws
  obtain ⟨r1, u1, e1, r10, r11, U1⟩ := ev_take (b := 3) U0 (by omega) (by decide) (by decide)
  obtain ⟨n, hn⟩ : ∃ n : Nat, 2 + r1 = (n : Nat) := ⟨(2 + r1).toNat, by omega⟩
  obtain ⟨l, u2, e2, D2, U2⟩ := ev_law_votes (n := n) U1 (by omega) (by omega)
  obtain ⟨r3, u3, e3, r30, r31, U3⟩ := ev_take (b := 8) U2 (by omega) (by decide) (by decide)
  obtain ⟨k, hk⟩ : ∃ k : Nat, r3 = (k : Nat) := ⟨r3.toNat, by omega⟩
  subst hk
  have hk7 : k ≤ 7 := by omega
  -- votes
  have hll := D2.len
  obtain ⟨v, ev, hvl, hvi⟩ := lc_each (u := u3) (ε := E20 w0 (.val (ti l)) (.val (.int (k : Nat))) .un .un .un .un .un .un .un .un [.un, .un, .un, .un, .un, .un, .un, .un]) (tg := t_name 11) (te := E_law_0) l (fun i z => z = gd l i + 1) fun i z hz => by
    have hi := (List.getElem?_eq_some_iff.mp hz).1
    rw [gd_get hi] at hz
    cases hz
    exact ⟨_, _, rfl, by simp only [E_law_0, lim0, lim1, lim2, lim3, lim4, Dl.run, s_seq, s_nop, s_ret, s_retN, s_if, s_set, s_put, s_app, s_augI, putA, s_expr, s_tg, s_parA, s_parB, noB, t_name, t_nil, t_cons, t_tup, e_bin, e_un, e_c, e_var, e_tup, e_lst, e_if, e_and, e_or, e_not, e_chain, e_orT, b_of, b_and, b_or, b_not, asB, asI, a_nil, a_cons, e_call, e_callB, toSl, thaw, isBor, noL, noList, noListAll, dats, dat1, k_add, addD, k_sub, k_mul, mulD, k_div, k_mod, k_pow, k_lt, k_le, k_gt, k_ge, k_neg, k_ix, intI, seqA, view, lstA, rfin, setR, k_len, k_tuple, k_list, k_sum, k_max, k_min, k_abs, k_int, k_gcd, k_all, k_isN, k_notN, k_isB, k_notB, isNon, e_slice, o_no, o_so, k_cut, Option.bind_some, Option.map_some, Option.bind_none, Option.map_none, List.getElem?_cons_zero, List.getElem?_cons_succ, List.set_cons_zero, List.set_cons_succ, List.map_cons, List.map_nil, List.any_cons, List.any_nil, List.length_cons, List.length_nil, List.replicate, List.cons_append, List.nil_append, Bool.or_false, Bool.false_or, Bool.or_true, Bool.true_or, Bool.not_false, Bool.not_true, Bool.and_true, Bool.true_and, Bool.and_false, Bool.false_and, if_true, ite_true, Bool.false_eq_true, if_false, ite_false, reduceIte, Nat.zero_add, Nat.add_zero, Nat.reduceAdd, Nat.reduceSub, Nat.sub_self], rfl⟩
  have pw : (3 : Int) ^ n ≤ 81 := by
    have : n = 2 ∨ n = 3 ∨ n = 4 := by omega
    rcases this with rfl | rfl | rfl <;> decide
  have hv4 : v.length ≤ 4 := by omega
  have hv2 : 2 ≤ v.length := by omega
  have vb : ∀ i, i < v.length → 2 ≤ gd v i ∧ gd v i ≤ 4861 := fun i hi => by
    have h1 := hvi i (by omega)
    have h2 := D2.be _ (gd_mem (v := l) (i := i) (by omega))
    omega
  have V : Vs v := ⟨fun z hz => by obtain ⟨i, hi, rfl⟩ := mem_gd hz; have := vb i hi; omega, fun z hz => by obtain ⟨i, hi, rfl⟩ := mem_gd hz; have := vb i hi; omega⟩
  -- at, near
  obtain ⟨r4, u4, e4, r40, r41, U4⟩ := ev_take (b := v.length) U3 (by omega) (by omega) (by omega)
  obtain ⟨a, ha'⟩ : ∃ a : Nat, r4 = (a : Nat) := ⟨r4.toNat, by omega⟩
  subst ha'
  have ha : a < v.length := by omega
  have hva := vb a ha
  obtain ⟨r5, u5, e5, r50, r51, U5⟩ := ev_take (b := gd v a - 1) U4 (by omega) (by omega) (by omega)
  have W : ∀ x y : Int, 0 < x → 0 < y → x ≤ 4861 → y ≤ 4861 → Vs (part v a x y) := fun x y hx hy hx2 hy2 => by
    have key : ∀ i, i < (part v a x y).length → 0 < gd (part v a x y) i ∧ gd (part v a x y) i ≤ 4861 := fun i hi => by
      rw [part_len] at hi
      by_cases h1 : i = v.length
      · subst h1; rw [part_n]; omega
      · by_cases h2 : i = a
        · subst h2; rw [part_a ha]; omega
        · rw [part_i ha (by omega) h2]; have := vb i (by omega); omega
    exact ⟨fun z hz => by obtain ⟨i, hi, rfl⟩ := mem_gd hz; exact (key i hi).1, fun z hz => by obtain ⟨i, hi, rfl⟩ := mem_gd hz; have := (key i hi).2; omega⟩
  obtain ⟨x, hx⟩ : ∃ x, x = 1 + r5 := ⟨_, rfl⟩
  obtain ⟨y, hy⟩ : ∃ y, y = gd v a - x := ⟨_, rfl⟩
  have hx0 : 0 < x := by omega
  have hy0 : 0 < y := by omega
  have hxy : x + y = gd v a := by omega
  have W1 := W x y hx0 hy0 (by omega) (by omega)
  have hwl : (part v a x y).length = v.length + 1 := part_len
  -- the shares
  have g0 : (fr 0 1 : D) = red 0 60 := red_at (g := 60) (by decide) (by decide) (by decide)
  have g1 : (fr 1 1 : D) = red 60 60 := red_at (g := 60) (by decide) (by decide) (by decide)
  have g2 : (fr 1 2 : D) = red 30 60 := red_at (g := 30) (by decide) (by decide) (by decide)
  have g3 : (fr 1 3 : D) = red 20 60 := red_at (g := 20) (by decide) (by decide) (by decide)
  have g4 : (fr 4 5 : D) = red 48 60 := red_at (g := 12) (by decide) (by decide) (by decide)
  obtain ⟨r6, d6, u6, e6, hr6, U6⟩ := ev_law_of (ds := [fr 1 2, fr 1 3, fr 4 5]) U5 (by omega) (by decide) (by decide)
  obtain ⟨p6, q6, σ6, hd6, hs6, s60, s61, c6, c6'⟩ : ∃ (p q σ : Int), d6 = fr p q ∧ (fr p q : D) = red σ 60 ∧ 0 ≤ σ ∧ σ ≤ 60 ∧ (p = 1 ∧ q = 1 → σ = 60) ∧ (p = 0 ∧ q = 1 → σ = 0) := by
    have hm := List.mem_of_getElem? hr6
    simp only [List.mem_cons, List.not_mem_nil, or_false] at hm
    rcases hm with rfl | rfl | rfl
    · exact ⟨1, 2, 30, rfl, g2, by decide, by decide, by omega, by omega⟩
    · exact ⟨1, 3, 20, rfl, g3, by decide, by decide, by omega, by omega⟩
    · exact ⟨4, 5, 48, rfl, g4, by decide, by decide, by omega, by omega⟩
  subst hd6
  let tl : Ev := [.un, .un, .un, .un, .un, .un, .un, .un]
  obtain ⟨a8, a9, a10, a11, sh1⟩ := share_step (u := u6) (w0 := w0) (w8 := .un) (w9 := .un) (w10 := .un) (w11 := .un) (tl := tl) (by decide) (by decide) g1 (by omega) (by omega) V W1 hv4 ha hx0 hy0 hxy hk7
  obtain ⟨b8, b9, b10, b11, sh2⟩ := share_step (u := u6) (w0 := w0) (w8 := a8) (w9 := a9) (w10 := a10) (w11 := a11) (tl := tl) (by decide) (by decide) g0 (by omega) (by omega) V W1 hv4 ha hx0 hy0 hxy hk7
  obtain ⟨c8, c9, c10, c11, sh3⟩ := share_step (u := u6) (w0 := w0) (w8 := b8) (w9 := b9) (w10 := b10) (w11 := b11) (tl := tl) s60 s61 hs6 c6 c6' V W1 hv4 ha hx0 hy0 hxy hk7
  -- the rule
  obtain ⟨P, s, u7, e7, hP, U7⟩ := ev_law_rule U6 (by omega)
  obtain ⟨rv, Lv, dv1, dv2, dv3, dv4, _, _⟩ := deals_any (u := u7) hP (v := v) (by omega) (by omega) V hk7
  obtain ⟨rw_, Lw, dw1, dw2, dw3, dw4, dw5, _⟩ := deals_any (u := u7) hP (v := part v a x y) (by omega) (by omega) W1 hk7
  have both : ∀ r ∈ Lw, ∃ low high low' high', All P s v k u7 low high Lv ∧ All P s (part v a x y) k u7 low' high' Lw := fun r hr => by
    obtain ⟨m', dl', hm' | ⟨nb', low', high', L', A', f'⟩⟩ := ev_deals (u := u7) hP (v := part v a x y) (by omega) (by omega) W1 hk7
    · rw [dw1] at hm'
      have := hm'.2
      cases this
      simp only [seqA, Option.some.injEq, Prod.mk.injEq, true_and] at dw2
      have := List.map_eq_nil_iff.mp dw2.symm
      rw [this] at hr
      cases hr
    · rw [dw1] at f'
      cases f'
      have inj : ∀ {A B : List (List Int)}, A.map ti = B.map ti → A = B := fun {A B} h => by
        have ti_inj : ∀ {x y : List Int}, ti x = ti y → x = y := fun {x y} h => by
          have h2 : x.map PyData.int = y.map PyData.int := by
            unfold ti at h
            injection h
          have := eqv_ints x y
          rw [h2, eqv_ints y y] at this
          simpa using this.symm
        induction A generalizing B with
        | nil => cases B with
          | nil => rfl
          | cons _ _ => cases h
        | cons p A ih => cases B with
          | nil => cases h
          | cons q B =>
            simp only [List.map_cons, List.cons.injEq] at h
            rw [ti_inj h.1, ih h.2]
      simp only [seqA, Option.some.injEq, Prod.mk.injEq, true_and] at dw2
      have := inj dw2
      subst this
      obtain ⟨m, dl, hm | ⟨nb, low, high, L, A, f⟩⟩ := ev_deals (u := u7) hP (v := v) (by omega) (by omega) V hk7
      · exact absurd hm.1 (not_bare hP hwl dl dl' nb')
      · rw [dv1] at f
        cases f
        simp only [seqA, Option.some.injEq, Prod.mk.injEq, true_and] at dv2
        have := inj dv2
        subst this
        exact ⟨low, high, low', high', A, A'⟩
  have rowst := row_ok (u := u7) (w0 := w0) (x' := .val (.int x)) (w6 := .val (ti (part v a x y))) (w7 := .val (fr p6 q6)) (w9 := c9) (w10 := c10) (w11 := c11) (tl := tl) (a := a) (n := v.length) dv1 ⟨_, rfl⟩ dv2 dv3 dv4 ha
  obtain ⟨ε9, lp9, z13, z14, z15, rfl⟩ := forD_inv (u := u7) (tg := t_name 13) (body := B_law_7)
    (fun _ ε => ∃ z13 z14 z15 : Sl, ε = E20 w0 (.val (ti v)) (.val (.int (k : Nat))) (.val (.int (a : Nat))) (.val (.int x)) (.val (ti (part v a x y))) (.val (fr p6 q6)) (.val P) c9 c10 c11 [.own ((Lv.map fun r => gd r a).map PyData.int), z13, z14, z15, .un, .un, .un, .un])
    ((Lw.take 5).map ti) 0 (E20 w0 (.val (ti v)) (.val (.int (k : Nat))) (.val (.int (a : Nat))) (.val (.int x)) (.val (ti (part v a x y))) (.val (fr p6 q6)) (.val P) c9 c10 c11 [.own ((Lv.map fun r => gd r a).map PyData.int), .un, .un, .un, .un, .un, .un, .un]) ⟨_, _, _, rfl⟩
    (fun i d ε hd hI => by
      rw [List.getElem?_map] at hd
      obtain ⟨r, hr, rfl⟩ := Option.map_eq_some_iff.mp hd
      obtain ⟨z13, z14, z15, rfl⟩ := hI
      have hrL : r ∈ Lw := List.mem_of_mem_take (List.mem_of_getElem? hr)
      obtain ⟨low, high, low', high', A, A'⟩ := both r hrL
      obtain ⟨y14, y15, e⟩ := row_step (u := u7) (w0 := w0) (w5 := .val (.int x)) (w7 := .val (fr p6 q6)) (w9 := c9) (w10 := c10) (w11 := c11) (w14 := z14) (w15 := z15) (w16 := .un) (w17 := .un) (w18 := .un) (w19 := .un) hP W1 hv4 ha hxy hk7 A A' hrL
      exact ⟨_, _, rfl, e, _, _, _, rfl⟩)
  have cut5 : k_cut rw_ none (some 5) = some (.own ((Lw.take 5).map ti)) := by
    have := cut_to (ds := Lw.map ti) (n := 5)
    simp only [k_cut, dw2, Option.map_some, show (5 : Int) = ((5 : Nat) : Int) from rfl, this, List.map_take, Bool.false_eq_true, if_false]
  -- the last question
  obtain ⟨lo1, hi1, L1, A1⟩ := even_all (u := u7) (σ := 60) (by decide) (by decide) (v := v) (by omega) (by omega) V hk7
  have W2 := W (gd v a - 1) 1 (by omega) (by omega) (by omega) (by omega)
  obtain ⟨lo2, hi2, L2', A2⟩ := even_all (u := u7) (σ := 60) (by decide) (by decide) (v := part v a (gd v a - 1) 1) (by rw [part_len]; omega) (by rw [part_len]; omega) W2 hk7
  obtain ⟨tl_, th_, lp_, hp_, Lo, Ho, Lo', Ho', T⟩ := two_of (even_ok (by decide) (by decide)) V ha A1.t A2.t
  obtain ⟨q1, q2⟩ := two_less (by omega) T
  have z1 := T.eLo; have z2 := T.eHo; have z3 := T.eLo'; have z4 := T.eHo'; have z5 := T.el; have z6 := T.eh
  have se1 := ev_seat_ends (u := u7) (even_ok (by decide) (by decide)) (v := v) (by omega) ha A1.hT A1.t
  have se2 := ev_seat_ends (u := u7) (even_ok (by decide) (by decide)) (v := part v a (gd v a - 1) 1) (by rw [part_len]; omega) (n := a) (by rw [part_len]; omega) A2.hT A2.t
  have k1 : endLo lo2 hi2 k a ≤ endLo lo1 hi1 k a := by
    unfold endLo
    have h1 : hi2.sum - gd hi2 a = Ho' + gd hi2 v.length := by omega
    rw [h1, ← z2, ← z5]; exact q1
  have k2 : endHi lo2 hi2 k a ≤ endHi lo1 hi1 k a := by
    unfold endHi
    have h1 : lo2.sum - gd lo2 a = Lo' + gd lo2 v.length := by omega
    rw [h1, ← z1, ← z6]; exact q2
  refine ⟨ms, _, u7, eb, ?_⟩
  have lcv : e_lc (it_seq (e_var 2)) [11] (t_name 11) b_yes E_law_0 (E20 w0 (.val (ti l)) (.val (.int (k : Nat))) .un .un .un .un .un .un .un .un tl) u3 = some (.own (v.map PyData.int), u3) :=
    lc_ok (rs := [.val (ti l)]) (its := l.map PyData.int) (u1 := u3) (by simp only [it_seq, ti, lim0, lim1, lim2, lim3, lim4, Dl.run, s_seq, s_nop, s_ret, s_retN, s_if, s_set, s_put, s_app, s_augI, putA, s_expr, s_tg, s_parA, s_parB, noB, t_name, t_nil, t_cons, t_tup, e_bin, e_un, e_c, e_var, e_tup, e_lst, e_if, e_and, e_or, e_not, e_chain, e_orT, b_of, b_and, b_or, b_not, asB, asI, a_nil, a_cons, e_call, e_callB, toSl, thaw, isBor, noL, noList, noListAll, dats, dat1, k_add, addD, k_sub, k_mul, mulD, k_div, k_mod, k_pow, k_lt, k_le, k_gt, k_ge, k_neg, k_ix, intI, seqA, view, lstA, rfin, setR, k_len, k_tuple, k_list, k_sum, k_max, k_min, k_abs, k_int, k_gcd, k_all, k_isN, k_notN, k_isB, k_notB, isNon, e_slice, o_no, o_so, k_cut, Option.bind_some, Option.map_some, Option.bind_none, Option.map_none, List.getElem?_cons_zero, List.getElem?_cons_succ, List.set_cons_zero, List.set_cons_succ, List.map_cons, List.map_nil, List.any_cons, List.any_nil, List.length_cons, List.length_nil, List.replicate, List.cons_append, List.nil_append, Bool.or_false, Bool.false_or, Bool.or_true, Bool.true_or, Bool.not_false, Bool.not_true, Bool.and_true, Bool.true_and, Bool.and_false, Bool.false_and, if_true, ite_true, Bool.false_eq_true, if_false, ite_false, reduceIte, Nat.zero_add, Nat.add_zero, Nat.reduceAdd, Nat.reduceSub, Nat.sub_self]) ev (lim_of (by rw [List.length_map]; omega))
  have mkv : k_tuple [.val (.list (v.map PyData.int))] = some (.val (ti v)) := rfl
  have lv := len_ti v
  have ia := ix_ti (u := u4) (l := v) (i := a) ha
  have ia5 := ix_ti (u := u5) (l := v) (i := a) ha
  have ia7 := ix_ti (u := u7) (l := v) (i := a) ha
  have p1 := part_ok (u := u5) (v := v) (a := a) (x := x) (y := y) (f := e_var 5) (g := e_bin k_sub (e_bin k_ix (e_var 2) (e_var 4)) (e_var 5)) (w0 := w0) (k := .val (.int (k : Nat))) (w5 := .val (.int x)) (w6 := .un) (w7 := .un) (w8 := .un) (w9 := .un) (w10 := .un) (w11 := .un) (tl := tl) ha (by omega) (by simp only [lim0, lim1, lim2, lim3, lim4, Dl.run, s_seq, s_nop, s_ret, s_retN, s_if, s_set, s_put, s_app, s_augI, putA, s_expr, s_tg, s_parA, s_parB, noB, t_name, t_nil, t_cons, t_tup, e_bin, e_un, e_c, e_var, e_tup, e_lst, e_if, e_and, e_or, e_not, e_chain, e_orT, b_of, b_and, b_or, b_not, asB, asI, a_nil, a_cons, e_call, e_callB, toSl, thaw, isBor, noL, noList, noListAll, dats, dat1, k_add, addD, k_sub, k_mul, mulD, k_div, k_mod, k_pow, k_lt, k_le, k_gt, k_ge, k_neg, k_ix, intI, seqA, view, lstA, rfin, setR, k_len, k_tuple, k_list, k_sum, k_max, k_min, k_abs, k_int, k_gcd, k_all, k_isN, k_notN, k_isB, k_notB, isNon, e_slice, o_no, o_so, k_cut, Option.bind_some, Option.map_some, Option.bind_none, Option.map_none, List.getElem?_cons_zero, List.getElem?_cons_succ, List.set_cons_zero, List.set_cons_succ, List.map_cons, List.map_nil, List.any_cons, List.any_nil, List.length_cons, List.length_nil, List.replicate, List.cons_append, List.nil_append, Bool.or_false, Bool.false_or, Bool.or_true, Bool.true_or, Bool.not_false, Bool.not_true, Bool.and_true, Bool.true_and, Bool.and_false, Bool.false_and, if_true, ite_true, Bool.false_eq_true, if_false, ite_false, reduceIte, Nat.zero_add, Nat.add_zero, Nat.reduceAdd, Nat.reduceSub, Nat.sub_self]) (by
    rw [hy]
    generalize ti v = vd at *
    simp only [lim0, lim1, lim2, lim3, lim4, Dl.run, s_seq, s_nop, s_ret, s_retN, s_if, s_set, s_put, s_app, s_augI, putA, s_expr, s_tg, s_parA, s_parB, noB, t_name, t_nil, t_cons, t_tup, e_bin, e_un, e_c, e_var, e_tup, e_lst, e_if, e_and, e_or, e_not, e_chain, e_orT, b_of, b_and, b_or, b_not, asB, asI, a_nil, a_cons, e_call, e_callB, toSl, thaw, isBor, noL, noList, noListAll, dats, dat1, k_add, addD, k_sub, k_mul, mulD, k_div, k_mod, k_pow, k_lt, k_le, k_gt, k_ge, k_neg, intI, seqA, view, lstA, rfin, setR, k_len, k_tuple, k_list, k_sum, k_max, k_min, k_abs, k_int, k_gcd, k_all, k_isN, k_notN, k_isB, k_notB, isNon, e_slice, o_no, o_so, k_cut, Option.bind_some, Option.map_some, Option.bind_none, Option.map_none, List.getElem?_cons_zero, List.getElem?_cons_succ, List.set_cons_zero, List.set_cons_succ, List.map_cons, List.map_nil, List.any_cons, List.any_nil, List.length_cons, List.length_nil, List.replicate, List.cons_append, List.nil_append, Bool.or_false, Bool.false_or, Bool.or_true, Bool.true_or, Bool.not_false, Bool.not_true, Bool.and_true, Bool.true_and, Bool.and_false, Bool.false_and, if_true, ite_true, Bool.false_eq_true, if_false, ite_false, reduceIte, Nat.zero_add, Nat.add_zero, Nat.reduceAdd, Nat.reduceSub, Nat.sub_self, ia5])
  have p2 := part_ok (u := u7) (v := v) (a := a) (x := gd v a - 1) (y := 1) (f := e_bin k_sub (e_bin k_ix (e_var 2) (e_var 4)) (e_c (.int 1))) (g := e_c (.int 1)) (w0 := w0) (k := .val (.int (k : Nat))) (w5 := .val (.int x)) (w6 := .val (ti (part v a x y))) (w7 := .val (fr p6 q6)) (w8 := .val P) (w9 := c9) (w10 := c10) (w11 := c11) (tl := [.own ((Lv.map fun r => gd r a).map PyData.int), z13, z14, z15, .un, .un, .un, .un]) ha (by omega) (by
    generalize ti v = vd at *
    generalize ti (part v a x y) = wd at *
    simp only [lim0, lim1, lim2, lim3, lim4, Dl.run, s_seq, s_nop, s_ret, s_retN, s_if, s_set, s_put, s_app, s_augI, putA, s_expr, s_tg, s_parA, s_parB, noB, t_name, t_nil, t_cons, t_tup, e_bin, e_un, e_c, e_var, e_tup, e_lst, e_if, e_and, e_or, e_not, e_chain, e_orT, b_of, b_and, b_or, b_not, asB, asI, a_nil, a_cons, e_call, e_callB, toSl, thaw, isBor, noL, noList, noListAll, dats, dat1, k_add, addD, k_sub, k_mul, mulD, k_div, k_mod, k_pow, k_lt, k_le, k_gt, k_ge, k_neg, intI, seqA, view, lstA, rfin, setR, k_len, k_tuple, k_list, k_sum, k_max, k_min, k_abs, k_int, k_gcd, k_all, k_isN, k_notN, k_isB, k_notB, isNon, e_slice, o_no, o_so, k_cut, Option.bind_some, Option.map_some, Option.bind_none, Option.map_none, List.getElem?_cons_zero, List.getElem?_cons_succ, List.set_cons_zero, List.set_cons_succ, List.map_cons, List.map_nil, List.any_cons, List.any_nil, List.length_cons, List.length_nil, List.replicate, List.cons_append, List.nil_append, Bool.or_false, Bool.false_or, Bool.or_true, Bool.true_or, Bool.not_false, Bool.not_true, Bool.and_true, Bool.true_and, Bool.and_false, Bool.false_and, if_true, ite_true, Bool.false_eq_true, if_false, ite_false, reduceIte, Nat.zero_add, Nat.add_zero, Nat.reduceAdd, Nat.reduceSub, Nat.sub_self, ia7]) (by simp only [lim0, lim1, lim2, lim3, lim4, Dl.run, s_seq, s_nop, s_ret, s_retN, s_if, s_set, s_put, s_app, s_augI, putA, s_expr, s_tg, s_parA, s_parB, noB, t_name, t_nil, t_cons, t_tup, e_bin, e_un, e_c, e_var, e_tup, e_lst, e_if, e_and, e_or, e_not, e_chain, e_orT, b_of, b_and, b_or, b_not, asB, asI, a_nil, a_cons, e_call, e_callB, toSl, thaw, isBor, noL, noList, noListAll, dats, dat1, k_add, addD, k_sub, k_mul, mulD, k_div, k_mod, k_pow, k_lt, k_le, k_gt, k_ge, k_neg, k_ix, intI, seqA, view, lstA, rfin, setR, k_len, k_tuple, k_list, k_sum, k_max, k_min, k_abs, k_int, k_gcd, k_all, k_isN, k_notN, k_isB, k_notB, isNon, e_slice, o_no, o_so, k_cut, Option.bind_some, Option.map_some, Option.bind_none, Option.map_none, List.getElem?_cons_zero, List.getElem?_cons_succ, List.set_cons_zero, List.set_cons_succ, List.map_cons, List.map_nil, List.any_cons, List.any_nil, List.length_cons, List.length_nil, List.replicate, List.cons_append, List.nil_append, Bool.or_false, Bool.false_or, Bool.or_true, Bool.true_or, Bool.not_false, Bool.not_true, Bool.and_true, Bool.true_and, Bool.and_false, Bool.false_and, if_true, ite_true, Bool.false_eq_true, if_false, ite_false, reduceIte, Nat.zero_add, Nat.add_zero, Nat.reduceAdd, Nat.reduceSub, Nat.sub_self])
  have j1 := ev_joined_votes (u := u5) (w := part v a x y) (a := a) (b := v.length) (x := a) (y := v.length) (by omega) (by omega) (by omega) (.inl ⟨rfl, rfl⟩)
  have j2 := ev_joined_votes (u := u5) (w := part v a x y) (a := a) (b := v.length) (x := v.length) (y := a) (by omega) (by omega) (by omega) (.inr ⟨rfl, rfl⟩)
  rw [joined_part ha hxy] at j1 j2
  have nv := ne_ti (u := u5) (v := v)
  have e9 : F_even_posts [.val (fr 1 1)] u7 = some (.val (.tuple [.tuple [], red 60 60]), u7) := by rw [g1]; exact ev_even
  unfold d_law
  -- votes, house
  refine seq_nx (u1 := u3) (ε1 := E20 w0 (.val (ti l)) (.val (.int (k : Nat))) .un .un .un .un .un .un .un .un tl) ?_ ?_
  · simp only [lim0, lim1, lim2, lim3, lim4, Dl.run, s_seq, s_nop, s_ret, s_retN, s_if, s_set, s_put, s_app, s_augI, putA, s_expr, s_tg, s_parA, s_parB, noB, t_name, t_nil, t_cons, t_tup, e_bin, e_un, e_c, e_var, e_tup, e_lst, e_if, e_and, e_or, e_not, e_chain, e_orT, b_of, b_and, b_or, b_not, asB, asI, a_nil, a_cons, e_call, e_callB, toSl, thaw, isBor, noL, noList, noListAll, dats, dat1, k_add, addD, k_sub, k_mul, mulD, k_div, k_mod, k_pow, k_lt, k_le, k_gt, k_ge, k_neg, k_ix, intI, seqA, view, lstA, rfin, setR, k_len, k_tuple, k_list, k_sum, k_max, k_min, k_abs, k_int, k_gcd, k_all, k_isN, k_notN, k_isB, k_notB, isNon, e_slice, o_no, o_so, k_cut, Option.bind_some, Option.map_some, Option.bind_none, Option.map_none, List.getElem?_cons_zero, List.getElem?_cons_succ, List.set_cons_zero, List.set_cons_succ, List.map_cons, List.map_nil, List.any_cons, List.any_nil, List.length_cons, List.length_nil, List.replicate, List.cons_append, List.nil_append, Bool.or_false, Bool.false_or, Bool.or_true, Bool.true_or, Bool.not_false, Bool.not_true, Bool.and_true, Bool.true_and, Bool.and_false, Bool.false_and, if_true, ite_true, Bool.false_eq_true, if_false, ite_false, reduceIte, Nat.zero_add, Nat.add_zero, Nat.reduceAdd, Nat.reduceSub, Nat.sub_self, e1, hn, e2, e3, tl]
  refine seq_nx (u1 := u3) (ε1 := E20 w0 (.val (ti v)) (.val (.int (k : Nat))) .un .un .un .un .un .un .un .un tl) ?_ ?_
  · generalize v.map PyData.int = vm at *
    generalize ti l = ld at *
    generalize ti v = vd at *
    simp only [lim0, lim1, lim2, lim3, lim4, Dl.run, s_seq, s_nop, s_ret, s_retN, s_if, s_set, s_put, s_app, s_augI, putA, s_expr, s_tg, s_parA, s_parB, noB, t_name, t_nil, t_cons, t_tup, e_bin, e_un, e_c, e_var, e_tup, e_lst, e_if, e_and, e_or, e_not, e_chain, e_orT, b_of, b_and, b_or, b_not, asB, asI, a_nil, a_cons, e_call, e_callB, toSl, thaw, isBor, noL, noList, noListAll, dats, dat1, k_add, addD, k_sub, k_mul, mulD, k_div, k_mod, k_pow, k_lt, k_le, k_gt, k_ge, k_neg, k_ix, intI, seqA, view, lstA, rfin, setR, k_len, k_list, k_sum, k_max, k_min, k_abs, k_int, k_gcd, k_all, k_isN, k_notN, k_isB, k_notB, isNon, e_slice, o_no, o_so, k_cut, Option.bind_some, Option.map_some, Option.bind_none, Option.map_none, List.getElem?_cons_zero, List.getElem?_cons_succ, List.set_cons_zero, List.set_cons_succ, List.map_cons, List.map_nil, List.any_cons, List.any_nil, List.length_cons, List.length_nil, List.replicate, List.cons_append, List.nil_append, Bool.or_false, Bool.false_or, Bool.or_true, Bool.true_or, Bool.not_false, Bool.not_true, Bool.and_true, Bool.true_and, Bool.and_false, Bool.false_and, if_true, ite_true, Bool.false_eq_true, if_false, ite_false, reduceIte, Nat.zero_add, Nat.add_zero, Nat.reduceAdd, Nat.reduceSub, Nat.sub_self, lcv, mkv]
  refine seq_nx (u1 := u4) (ε1 := E20 w0 (.val (ti v)) (.val (.int (k : Nat))) (.val (.int (a : Nat))) .un .un .un .un .un .un .un tl) ?_ ?_
  · generalize ti v = vd at *
    simp only [lim0, lim1, lim2, lim3, lim4, Dl.run, s_seq, s_nop, s_ret, s_retN, s_if, s_set, s_put, s_app, s_augI, putA, s_expr, s_tg, s_parA, s_parB, noB, t_name, t_nil, t_cons, t_tup, e_bin, e_un, e_c, e_var, e_tup, e_lst, e_if, e_and, e_or, e_not, e_chain, e_orT, b_of, b_and, b_or, b_not, asB, asI, a_nil, a_cons, e_call, e_callB, toSl, thaw, isBor, noL, noList, noListAll, dats, dat1, k_add, addD, k_sub, k_mul, mulD, k_div, k_mod, k_pow, k_lt, k_le, k_gt, k_ge, k_neg, k_ix, intI, seqA, view, lstA, rfin, setR, k_tuple, k_list, k_sum, k_max, k_min, k_abs, k_int, k_gcd, k_all, k_isN, k_notN, k_isB, k_notB, isNon, e_slice, o_no, o_so, k_cut, Option.bind_some, Option.map_some, Option.bind_none, Option.map_none, List.getElem?_cons_zero, List.getElem?_cons_succ, List.set_cons_zero, List.set_cons_succ, List.map_cons, List.map_nil, List.any_cons, List.any_nil, List.length_cons, List.length_nil, List.replicate, List.cons_append, List.nil_append, Bool.or_false, Bool.false_or, Bool.or_true, Bool.true_or, Bool.not_false, Bool.not_true, Bool.and_true, Bool.true_and, Bool.and_false, Bool.false_and, if_true, ite_true, Bool.false_eq_true, if_false, ite_false, reduceIte, Nat.zero_add, Nat.add_zero, Nat.reduceAdd, Nat.reduceSub, Nat.sub_self, lv, e4]
  refine seq_nx (u1 := u5) (ε1 := E20 w0 (.val (ti v)) (.val (.int (k : Nat))) (.val (.int (a : Nat))) (.val (.int x)) .un .un .un .un .un .un tl) ?_ ?_
  · rw [hx]
    generalize ti v = vd at *
    simp only [lim0, lim1, lim2, lim3, lim4, Dl.run, s_seq, s_nop, s_ret, s_retN, s_if, s_set, s_put, s_app, s_augI, putA, s_expr, s_tg, s_parA, s_parB, noB, t_name, t_nil, t_cons, t_tup, e_bin, e_un, e_c, e_var, e_tup, e_lst, e_if, e_and, e_or, e_not, e_chain, e_orT, b_of, b_and, b_or, b_not, asB, asI, a_nil, a_cons, e_call, e_callB, toSl, thaw, isBor, noL, noList, noListAll, dats, dat1, k_add, addD, k_sub, k_mul, mulD, k_div, k_mod, k_pow, k_lt, k_le, k_gt, k_ge, k_neg, intI, seqA, view, lstA, rfin, setR, k_len, k_tuple, k_list, k_sum, k_max, k_min, k_abs, k_int, k_gcd, k_all, k_isN, k_notN, k_isB, k_notB, isNon, e_slice, o_no, o_so, k_cut, Option.bind_some, Option.map_some, Option.bind_none, Option.map_none, List.getElem?_cons_zero, List.getElem?_cons_succ, List.set_cons_zero, List.set_cons_succ, List.map_cons, List.map_nil, List.any_cons, List.any_nil, List.length_cons, List.length_nil, List.replicate, List.cons_append, List.nil_append, Bool.or_false, Bool.false_or, Bool.or_true, Bool.true_or, Bool.not_false, Bool.not_true, Bool.and_true, Bool.true_and, Bool.and_false, Bool.false_and, if_true, ite_true, Bool.false_eq_true, if_false, ite_false, reduceIte, Nat.zero_add, Nat.add_zero, Nat.reduceAdd, Nat.reduceSub, Nat.sub_self, ia, e5]
  refine seq_nx (u1 := u5) (ε1 := E20 w0 (.val (ti v)) (.val (.int (k : Nat))) (.val (.int (a : Nat))) (.val (.int x)) (.val (ti (part v a x y))) .un .un .un .un .un tl) (set_ok p1) ?_
  refine seq_nx (u1 := u5) (if_f (u1 := u5) ?_ rfl) ?_
  · generalize ti v = vd at *
    generalize ti (part v a x y) = wd at *
    simp only [lim0, lim1, lim2, lim3, lim4, Dl.run, s_seq, s_nop, s_ret, s_retN, s_if, s_set, s_put, s_app, s_augI, putA, s_expr, s_tg, s_parA, s_parB, noB, t_name, t_nil, t_cons, t_tup, e_bin, e_un, e_c, e_var, e_tup, e_lst, e_if, e_and, e_or, e_not, e_chain, e_orT, b_of, b_and, b_or, b_not, asB, asI, a_nil, a_cons, e_call, e_callB, toSl, thaw, isBor, noL, noList, noListAll, dats, dat1, k_add, addD, k_sub, k_mul, mulD, k_div, k_mod, k_pow, k_lt, k_le, k_gt, k_ge, k_neg, k_ix, intI, seqA, view, lstA, rfin, setR, k_tuple, k_list, k_sum, k_max, k_min, k_abs, k_int, k_gcd, k_all, k_isN, k_notN, k_isB, k_notB, isNon, e_slice, o_no, o_so, k_cut, Option.bind_some, Option.map_some, Option.bind_none, Option.map_none, List.getElem?_cons_zero, List.getElem?_cons_succ, List.set_cons_zero, List.set_cons_succ, List.map_cons, List.map_nil, List.any_cons, List.any_nil, List.length_cons, List.length_nil, List.replicate, List.cons_append, List.nil_append, Bool.or_false, Bool.false_or, Bool.or_true, Bool.true_or, Bool.not_false, Bool.not_true, Bool.and_true, Bool.true_and, Bool.and_false, Bool.false_and, if_true, ite_true, Bool.false_eq_true, if_false, ite_false, reduceIte, Nat.zero_add, Nat.add_zero, Nat.reduceAdd, Nat.reduceSub, Nat.sub_self, lv, j1, j2, nv]
  refine seq_nx (u1 := u6) (ε1 := E20 w0 (.val (ti v)) (.val (.int (k : Nat))) (.val (.int (a : Nat))) (.val (.int x)) (.val (ti (part v a x y))) (.val (fr p6 q6)) c8 c9 c10 c11 tl) ?_ ?_
  · refine for_ok (rs := [.val (.tuple [fr 1 1, fr 0 1, fr p6 q6])]) (its := [fr 1 1, fr 0 1, fr p6 q6]) (u' := u6) ?_ rfl ?_
    · generalize ti v = vd at *
      generalize ti (part v a x y) = wd at *
      simp only [it_seq, lim0, lim1, lim2, lim3, lim4, Dl.run, s_seq, s_nop, s_ret, s_retN, s_if, s_set, s_put, s_app, s_augI, putA, s_expr, s_tg, s_parA, s_parB, noB, t_name, t_nil, t_cons, t_tup, e_bin, e_un, e_c, e_var, e_tup, e_lst, e_if, e_and, e_or, e_not, e_chain, e_orT, b_of, b_and, b_or, b_not, asB, asI, a_nil, a_cons, e_call, e_callB, toSl, thaw, isBor, noL, noList, noListAll, dats, dat1, k_add, addD, k_sub, k_mul, mulD, k_div, k_mod, k_pow, k_lt, k_le, k_gt, k_ge, k_neg, k_ix, intI, seqA, view, lstA, rfin, setR, k_len, k_tuple, k_list, k_sum, k_max, k_min, k_abs, k_int, k_gcd, k_all, k_isN, k_notN, k_isB, k_notB, isNon, e_slice, o_no, o_so, k_cut, Option.bind_some, Option.map_some, Option.bind_none, Option.map_none, List.getElem?_cons_zero, List.getElem?_cons_succ, List.set_cons_zero, List.set_cons_succ, List.map_cons, List.map_nil, List.any_cons, List.any_nil, List.length_cons, List.length_nil, List.replicate, List.cons_append, List.nil_append, Bool.or_false, Bool.false_or, Bool.or_true, Bool.true_or, Bool.not_false, Bool.not_true, Bool.and_true, Bool.true_and, Bool.and_false, Bool.false_and, if_true, ite_true, Bool.false_eq_true, if_false, ite_false, reduceIte, Nat.zero_add, Nat.add_zero, Nat.reduceAdd, Nat.reduceSub, Nat.sub_self, e6]
    · simp only [forD, t_name, List.set_cons_succ, List.set_cons_zero, Option.bind_some, sh1, sh2, sh3]
  refine seq_nx (u1 := u7) (ε1 := E20 w0 (.val (ti v)) (.val (.int (k : Nat))) (.val (.int (a : Nat))) (.val (.int x)) (.val (ti (part v a x y))) (.val (fr p6 q6)) (.val P) c9 c10 c11 tl) ?_ ?_
  · generalize ti v = vd at *
    generalize ti (part v a x y) = wd at *
    simp only [lim0, lim1, lim2, lim3, lim4, Dl.run, s_seq, s_nop, s_ret, s_retN, s_if, s_set, s_put, s_app, s_augI, putA, s_expr, s_tg, s_parA, s_parB, noB, t_name, t_nil, t_cons, t_tup, e_bin, e_un, e_c, e_var, e_tup, e_lst, e_if, e_and, e_or, e_not, e_chain, e_orT, b_of, b_and, b_or, b_not, asB, asI, a_nil, a_cons, e_call, e_callB, toSl, thaw, isBor, noL, noList, noListAll, dats, dat1, k_add, addD, k_sub, k_mul, mulD, k_div, k_mod, k_pow, k_lt, k_le, k_gt, k_ge, k_neg, k_ix, intI, seqA, view, lstA, rfin, setR, k_len, k_tuple, k_list, k_sum, k_max, k_min, k_abs, k_int, k_gcd, k_all, k_isN, k_notN, k_isB, k_notB, isNon, e_slice, o_no, o_so, k_cut, Option.bind_some, Option.map_some, Option.bind_none, Option.map_none, List.getElem?_cons_zero, List.getElem?_cons_succ, List.set_cons_zero, List.set_cons_succ, List.map_cons, List.map_nil, List.any_cons, List.any_nil, List.length_cons, List.length_nil, List.replicate, List.cons_append, List.nil_append, Bool.or_false, Bool.false_or, Bool.or_true, Bool.true_or, Bool.not_false, Bool.not_true, Bool.and_true, Bool.true_and, Bool.and_false, Bool.false_and, if_true, ite_true, Bool.false_eq_true, if_false, ite_false, reduceIte, Nat.zero_add, Nat.add_zero, Nat.reduceAdd, Nat.reduceSub, Nat.sub_self, e7]
  refine seq_nx (u1 := u7) (set_ok rowst) ?_
  refine seq_nx (u1 := u7) (ε1 := E20 w0 (.val (ti v)) (.val (.int (k : Nat))) (.val (.int (a : Nat))) (.val (.int x)) (.val (ti (part v a x y))) (.val (fr p6 q6)) (.val P) c9 c10 c11 [.own ((Lv.map fun r => gd r a).map PyData.int), z13, z14, z15, .un, .un, .un, .un]) ?_ ?_
  · refine for_ok (rs := [.val (.list ((Lw.take 5).map ti))]) (its := (Lw.take 5).map ti) (u' := u7) ?_ rfl lp9
    generalize ti v = vd at *
    generalize ti (part v a x y) = wd at *
    generalize (Lw.take 5).map ti = tk at *
    generalize (Lv.map fun r => gd r a).map PyData.int = rows at *
    simp only [it_seq, setR, tl, lim0, lim1, lim2, lim3, lim4, Dl.run, s_seq, s_nop, s_ret, s_retN, s_if, s_set, s_put, s_app, s_augI, putA, s_expr, s_tg, s_parA, s_parB, noB, t_name, t_nil, t_cons, t_tup, e_bin, e_un, e_c, e_var, e_tup, e_lst, e_if, e_and, e_or, e_not, e_chain, e_orT, b_of, b_and, b_or, b_not, asB, asI, a_nil, a_cons, e_call, e_callB, toSl, thaw, isBor, noL, noList, noListAll, dats, dat1, k_add, addD, k_sub, k_mul, mulD, k_div, k_mod, k_pow, k_lt, k_le, k_gt, k_ge, k_neg, k_ix, intI, seqA, view, lstA, rfin, setR, k_len, k_tuple, k_list, k_sum, k_max, k_min, k_abs, k_int, k_gcd, k_all, k_isN, k_notN, k_isB, k_notB, isNon, e_slice, o_no, o_so, Option.bind_some, Option.map_some, Option.bind_none, Option.map_none, List.getElem?_cons_zero, List.getElem?_cons_succ, List.set_cons_zero, List.set_cons_succ, List.map_cons, List.map_nil, List.any_cons, List.any_nil, List.length_cons, List.length_nil, List.replicate, List.cons_append, List.nil_append, Bool.or_false, Bool.false_or, Bool.or_true, Bool.true_or, Bool.not_false, Bool.not_true, Bool.and_true, Bool.true_and, Bool.and_false, Bool.false_and, if_true, ite_true, Bool.false_eq_true, if_false, ite_false, reduceIte, Nat.zero_add, Nat.add_zero, Nat.reduceAdd, Nat.reduceSub, Nat.sub_self, dw1, cut5]
  refine seq_nx (u1 := u7) (set_ok p2) ?_
  refine seq_nx (u1 := u7) (ε1 := E20 w0 (.val (ti v)) (.val (.int (k : Nat))) (.val (.int (a : Nat))) (.val (.int x)) (.val (ti (part v a x y))) (.val (fr p6 q6)) (.val P) c9 c10 c11 [.own ((Lv.map fun r => gd r a).map PyData.int), z13, z14, z15, .val (ti (part v a (gd v a - 1) 1)), .val (.tuple [.tuple [], red 60 60]), .un, .un]) ?_ ?_
  · generalize ti v = vd at *
    generalize ti (part v a x y) = wd at *
    generalize ti (part v a (gd v a - 1) 1) = pd at *
    generalize (Lv.map fun r => gd r a).map PyData.int = rows at *
    generalize red 60 60 = R at *
    simp only [lim0, lim1, lim2, lim3, lim4, Dl.run, s_seq, s_nop, s_ret, s_retN, s_if, s_set, s_put, s_app, s_augI, putA, s_expr, s_tg, s_parA, s_parB, noB, t_name, t_nil, t_cons, t_tup, e_bin, e_un, e_c, e_var, e_tup, e_lst, e_if, e_and, e_or, e_not, e_chain, e_orT, b_of, b_and, b_or, b_not, asB, asI, a_nil, a_cons, e_call, e_callB, toSl, thaw, isBor, noL, noList, noListAll, dats, dat1, k_add, addD, k_sub, k_mul, mulD, k_div, k_mod, k_pow, k_lt, k_le, k_gt, k_ge, k_neg, k_ix, intI, seqA, view, lstA, rfin, setR, k_len, k_tuple, k_list, k_sum, k_max, k_min, k_abs, k_int, k_gcd, k_all, k_isN, k_notN, k_isB, k_notB, isNon, e_slice, o_no, o_so, k_cut, Option.bind_some, Option.map_some, Option.bind_none, Option.map_none, List.getElem?_cons_zero, List.getElem?_cons_succ, List.set_cons_zero, List.set_cons_succ, List.map_cons, List.map_nil, List.any_cons, List.any_nil, List.length_cons, List.length_nil, List.replicate, List.cons_append, List.nil_append, Bool.or_false, Bool.false_or, Bool.or_true, Bool.true_or, Bool.not_false, Bool.not_true, Bool.and_true, Bool.true_and, Bool.and_false, Bool.false_and, if_true, ite_true, Bool.false_eq_true, if_false, ite_false, reduceIte, Nat.zero_add, Nat.add_zero, Nat.reduceAdd, Nat.reduceSub, Nat.sub_self, e9]
  refine seq_nx (u1 := u7) (ε1 := E20 w0 (.val (ti v)) (.val (.int (k : Nat))) (.val (.int (a : Nat))) (.val (.int x)) (.val (ti (part v a x y))) (.val (fr p6 q6)) (.val P) c9 c10 c11 [.own ((Lv.map fun r => gd r a).map PyData.int), z13, z14, z15, .val (ti (part v a (gd v a - 1) 1)), .val (.tuple [.tuple [], red 60 60]), .val (.tuple [.int (endLo lo2 hi2 k a), .int (endHi lo2 hi2 k a)]), .val (.tuple [.int (endLo lo1 hi1 k a), .int (endHi lo1 hi1 k a)])]) ?_ ?_
  · generalize ti v = vd at *
    generalize ti (part v a x y) = wd at *
    generalize ti (part v a (gd v a - 1) 1) = pd at *
    generalize (Lv.map fun r => gd r a).map PyData.int = rows at *
    generalize red 60 60 = R at *
    simp only [lim0, lim1, lim2, lim3, lim4, Dl.run, s_seq, s_nop, s_ret, s_retN, s_if, s_set, s_put, s_app, s_augI, putA, s_expr, s_tg, s_parA, s_parB, noB, t_name, t_nil, t_cons, t_tup, e_bin, e_un, e_c, e_var, e_tup, e_lst, e_if, e_and, e_or, e_not, e_chain, e_orT, b_of, b_and, b_or, b_not, asB, asI, a_nil, a_cons, e_call, e_callB, toSl, thaw, isBor, noL, noList, noListAll, dats, dat1, k_add, addD, k_sub, k_mul, mulD, k_div, k_mod, k_pow, k_lt, k_le, k_gt, k_ge, k_neg, k_ix, intI, seqA, view, lstA, rfin, setR, k_len, k_tuple, k_list, k_sum, k_max, k_min, k_abs, k_int, k_gcd, k_all, k_isN, k_notN, k_isB, k_notB, isNon, e_slice, o_no, o_so, k_cut, Option.bind_some, Option.map_some, Option.bind_none, Option.map_none, List.getElem?_cons_zero, List.getElem?_cons_succ, List.set_cons_zero, List.set_cons_succ, List.map_cons, List.map_nil, List.any_cons, List.any_nil, List.length_cons, List.length_nil, List.replicate, List.cons_append, List.nil_append, Bool.or_false, Bool.false_or, Bool.or_true, Bool.true_or, Bool.not_false, Bool.not_true, Bool.and_true, Bool.true_and, Bool.and_false, Bool.false_and, if_true, ite_true, Bool.false_eq_true, if_false, ite_false, reduceIte, Nat.zero_add, Nat.add_zero, Nat.reduceAdd, Nat.reduceSub, Nat.sub_self, se1, se2]
  · generalize ti v = vd at *
    generalize ti (part v a x y) = wd at *
    generalize ti (part v a (gd v a - 1) 1) = pd at *
    generalize (Lv.map fun r => gd r a).map PyData.int = rows at *
    generalize red 60 60 = R at *
    simp only [lim0, lim1, lim2, lim3, lim4, Dl.run, s_seq, s_nop, s_ret, s_retN, s_if, s_set, s_put, s_app, s_augI, putA, s_expr, s_tg, s_parA, s_parB, noB, t_name, t_nil, t_cons, t_tup, e_bin, e_un, e_c, e_var, e_tup, e_lst, e_if, e_and, e_or, e_not, e_chain, e_orT, b_of, b_and, b_or, b_not, asB, asI, a_nil, a_cons, e_call, e_callB, toSl, thaw, isBor, noL, noList, noListAll, dats, dat1, k_add, addD, k_sub, k_mul, mulD, k_div, k_mod, k_pow, k_lt, k_le, k_gt, k_ge, k_neg, k_ix, intI, seqA, view, lstA, rfin, setR, k_len, k_tuple, k_list, k_sum, k_max, k_min, k_abs, k_int, k_gcd, k_all, k_isN, k_notN, k_isB, k_notB, isNon, e_slice, o_no, o_so, k_cut, Option.bind_some, Option.map_some, Option.bind_none, Option.map_none, List.getElem?_cons_zero, List.getElem?_cons_succ, List.set_cons_zero, List.set_cons_succ, List.map_cons, List.map_nil, List.any_cons, List.any_nil, List.length_cons, List.length_nil, List.replicate, List.cons_append, List.nil_append, Bool.or_false, Bool.false_or, Bool.or_true, Bool.true_or, Bool.not_false, Bool.not_true, Bool.and_true, Bool.true_and, Bool.and_false, Bool.false_and, if_true, ite_true, Bool.false_eq_true, if_false, ite_false, reduceIte, Nat.zero_add, Nat.add_zero, Nat.reduceAdd, Nat.reduceSub, Nat.sub_self, atI0, atI1, decide_eq_true k1, decide_eq_true k2]
end K45
end

section
set_option Elab.async false
set_option linter.all false
set_option maxRecDepth 100000
set_option maxHeartbeats 400000
namespace K45
open PySem PySem.Spec PyProof.Rows L2 Dl
section
variable {P : Program} {w : World} {K : PySem.W.Frag} {mg : Str → Option Value} {base : Heap} {f : Addr} {fd : FuncData} {k : Nat}
/-! ### _law_box -/
theorem sc__law_box : FnScope ["script", "k", "cell"] ["script", "k"] (defScope st__law_box) := ⟨rfl, rfl, rfl, by decide +kernel, rfl, by decide +kernel, by decide +kernel⟩
theorem ok__law_box (F : FnP K "_law_box" st__law_box f fd)
    (m_len : mg "len" = none)
    (m_abs : mg "abs" = none)
    (m_int : mg "int" = none) :
    FnOk P w K mg base CX0 (k + 1) f fd ["script", "k"] (spD K 2 (Dl.run 3 (d__law_box))) :=
  ok_defN F sc__law_box rfl rfl fun cdv A outer s H E hr => by
    unfold d__law_box 
    exact (rs_cons (rs_set 2 sc__law_box.nd rfl (Or.inl rfl) (r_if (rt_cmp op_lt ok_lt (r_var 1) (r_callB ok_len call_len_seq rfl m_len (by rfl) (ra_cons (r_var 0) ra_nil)) (nomark _)) (r_ix ix_any ok_ix (r_var 0) (r_var 1) (fun _ _ => rfl)) r_int))
    (rs_one (rs_ret (r_lst (ra_cons (r_op op_mulA ok_mul (r_callB ok_abs call_abs rfl m_abs (by rfl) (ra_cons (r_var 2) ra_nil)) (r_callTy ok_int1 call_int1 rfl m_int (by rfl) (ra_cons (r_cmp op_ge ok_ge (r_callB ok_abs call_abs rfl m_abs (by rfl) (ra_cons (r_var 2) ra_nil)) (r_op op_pow ok_pow r_int r_int) (nomark _)) ra_nil))) (ra_cons (r_op op_addA ok_add (r_op op_addA ok_add (r_op op_mod ok_mod (r_callTy ok_int1 call_int1 rfl m_int (by rfl) (ra_cons (r_var 2) ra_nil)) r_int) (r_op op_mulA ok_mul r_int (r_var 1))) r_int) (ra_cons r_int ra_nil)))))))
/-! ### _law_take -/
theorem sc__law_take : FnScope ["urn", "below", "drawn", "once", "far", "twice"] ["urn", "below"] (defScope st__law_take) := ⟨rfl, rfl, rfl, by decide +kernel, rfl, by decide +kernel, by decide +kernel⟩
theorem ok__law_take (F : FnP K "_law_take" st__law_take f fd)
    (m_int : mg "int" = none) :
    FnOk P w K mg base CX0 (k + 1) f fd ["urn", "below"] (spD K 2 (Dl.run 6 (d__law_take))) :=
  ok_defN F sc__law_take rfl rfl fun cdv A outer s H E hr => by
    unfold d__law_take 
    exact (rs_cons (rs_if (rt_cmp op_gt ok_gt (r_ix ix_any ok_ix (r_var 0) r_int (fun _ _ => rfl)) r_int (nomark _)) (rs_cons (rs_set 2 sc__law_take.nd rfl (Or.inl rfl) (r_op op_mod ok_mod (r_callTy ok_int1 call_int1 rfl m_int (by rfl) (ra_cons (r_ix ix_any ok_ix (r_var 0) r_int (fun _ _ => rfl)) ra_nil)) (r_var 1)))
    (rs_cons (rs_put 0 rfl (Or.inl rfl) r_int (r_op op_fdivW ok_div (r_ix ix_any ok_ix (r_var 0) r_int (fun _ _ => rfl)) (r_var 1)))
    (rs_one (rs_ret (r_var 2))))) rs_nil)
    (rs_cons (rs_put 0 rfl (Or.inl rfl) r_int (r_op op_addA ok_add (r_ix ix_any ok_ix (r_var 0) r_int (fun _ _ => rfl)) r_int))
    (rs_cons (rs_set 3 sc__law_take.nd rfl (Or.inl rfl) (r_op op_mod ok_mod (r_callTy ok_int1 call_int1 rfl m_int (by rfl) (ra_cons (r_op op_mulA ok_mul (r_op op_addA ok_add (r_ix ix_any ok_ix (r_var 0) r_int (fun _ _ => rfl)) (r_op op_mulA ok_mul r_int (r_ix ix_any ok_ix (r_var 0) r_int (fun _ _ => rfl)))) (r_op op_addA ok_add r_int (r_ix ix_any ok_ix (r_var 0) r_int (fun _ _ => rfl)))) ra_nil)) r_int))
    (rs_cons (rs_set 4 sc__law_take.nd rfl (Or.inl rfl) (r_op op_addA ok_add (r_op op_mod ok_mod (r_callTy ok_int1 call_int1 rfl m_int (by rfl) (ra_cons (r_var 3) ra_nil)) r_int) r_int))
    (rs_cons (rs_set 5 sc__law_take.nd rfl (Or.inl rfl) (r_op op_mod ok_mod (r_callTy ok_int1 call_int1 rfl m_int (by rfl) (ra_cons (r_op op_mulA ok_mul (r_op op_addA ok_add (r_op op_addA ok_add (r_var 3) (r_ix ix_any ok_ix (r_var 0) r_int (fun _ _ => rfl))) (r_op op_fdivW ok_div (r_ix ix_any ok_ix (r_var 0) r_int (fun _ _ => rfl)) r_int)) (r_var 4)) ra_nil)) r_int))
    (rs_one (rs_ret (r_op op_mod ok_mod (r_callTy ok_int1 call_int1 rfl m_int (by rfl) (ra_cons (r_op op_fdivW ok_div (r_op op_mod ok_mod (r_callTy ok_int1 call_int1 rfl m_int (by rfl) (ra_cons (r_op op_addA ok_add (r_op op_mulA ok_mul (r_var 5) r_int) (r_var 3)) ra_nil)) r_int) r_int) ra_nil)) (r_var 1)))))))))
/-! ### _law_of -/
theorem sc__law_of : FnScope ["urn", "some"] ["urn", "some"] (defScope st__law_of) := ⟨rfl, rfl, rfl, by decide +kernel, rfl, by decide +kernel, by decide +kernel⟩
theorem ok__law_of (F : FnP K "_law_of" st__law_of f fd)
    (g__law_take : FO P w K mg base "_law_take" ["urn", "below"] k F__law_take)
    (m_len : mg "len" = none) :
    FnOk P w K mg base CX0 (k + 1) f fd ["urn", "some"] (spD K 2 (Dl.run 2 (d__law_of))) :=
  ok_defN F sc__law_of rfl rfl fun cdv A outer s H E hr => by
    unfold d__law_of 
    exact (rs_one (rs_ret (r_ix ix_any ok_ix (r_var 1) (r_callF g__law_take hr rfl rfl (ra_cons (r_var 0) (ra_cons (r_callB ok_len call_len_seq rfl m_len (by rfl) (ra_cons (r_var 1) ra_nil)) ra_nil)) (al_cons (al_cons al_nil))) (fun _ _ => rfl))))
/-! ### _law_fraction -/
theorem sc__law_fraction : FnScope ["top", "bottom", "one", "two"] ["top", "bottom"] (defScope st__law_fraction) := ⟨rfl, rfl, rfl, by decide +kernel, rfl, by decide +kernel, by decide +kernel⟩
theorem ok__law_fraction (F : FnP K "_law_fraction" st__law_fraction f fd)
    (m_abs : mg "abs" = none)
    (m_int : mg "int" = none) :
    FnOk P w K mg base CX0 (k + 1) f fd ["top", "bottom"] (spD K 2 (Dl.run 4 (d__law_fraction))) :=
  ok_defN F sc__law_fraction rfl rfl fun cdv A outer s H E hr => by
    unfold d__law_fraction B__law_fraction_1 C__law_fraction_0
    exact (rs_cons (rs_par2 2 3 rfl sc__law_fraction.nd rfl rfl (by decide) rfl rfl (r_callB ok_abs call_abs rfl m_abs (by rfl) (ra_cons (r_var 0) ra_nil)) (r_var 1) rfl)
    (rs_cons (rs_while PassesOwn.never (rt_cmp op_gt ok_gt (r_var 3) r_int (nomark _)) (rs_one (rs_par2 2 3 rfl sc__law_fraction.nd rfl rfl (by decide) rfl rfl (r_var 3) (r_op op_mod ok_mod (r_callTy ok_int1 call_int1 rfl m_int (by rfl) (ra_cons (r_var 2) ra_nil)) (r_var 3)) rfl)))
    (rs_one (rs_ret (r_tup (ra_cons (r_op op_fdivW ok_div (r_var 0) (r_var 2)) (ra_cons (r_op op_fdivW ok_div (r_var 1) (r_var 2)) ra_nil)))))))
/-! ### _law_rule -/
theorem sc__law_rule : FnScope ["urn", "row", "k", "bottom"] ["urn"] (defScope st__law_rule) := ⟨rfl, rfl, rfl, by decide +kernel, rfl, by decide +kernel, by decide +kernel⟩
theorem ok__law_rule (F : FnP K "_law_rule" st__law_rule f fd)
    (g__law_take : FO P w K mg base "_law_take" ["urn", "below"] k F__law_take)
    (g__law_fraction : FO P w K mg base "_law_fraction" ["top", "bottom"] k F__law_fraction)
    (g__law_of : FO P w K mg base "_law_of" ["urn", "some"] k F__law_of)
    (m_range : mg "range" = none) :
    FnOk P w K mg base CX0 (k + 1) f fd ["urn"] (spD K 1 (Dl.run 4 (d__law_rule))) :=
  ok_defN F sc__law_rule rfl rfl fun cdv A outer s H E hr => by
    unfold d__law_rule B__law_rule_0
    exact (rs_cons (rs_set 1 sc__law_rule.nd rfl (Or.inl rfl) (r_tup ra_nil))
    (rs_cons (rs_for PassesOwn.never rfl (ri_rg1 rfl m_range (ra_cons (r_callF g__law_take hr rfl rfl (ra_cons (r_var 0) (ra_cons r_int ra_nil)) (al_cons (al_cons al_nil))) ra_nil)) (pg_name (i := 2) sc__law_rule.nd rfl (Or.inl rfl)) (tg_name 2) (rs_cons (rs_set 3 sc__law_rule.nd rfl (Or.inl rfl) (r_op op_addA ok_add r_int (r_callF g__law_take hr rfl rfl (ra_cons (r_var 0) (ra_cons r_int ra_nil)) (al_cons (al_cons al_nil)))))
    (rs_one (rs_set 1 sc__law_rule.nd rfl (Or.inl rfl) (r_op op_addA ok_add (r_var 1) (r_tup (ra_cons (r_callF g__law_fraction hr rfl rfl (ra_cons (r_op op_addA ok_add (r_op op_mulA ok_mul (r_var 2) (r_var 3)) (r_callF g__law_take hr rfl rfl (ra_cons (r_var 0) (ra_cons (r_op op_addA ok_add (r_var 3) r_int) ra_nil)) (al_cons (al_cons al_nil)))) (ra_cons (r_var 3) ra_nil)) (al_cons (al_cons al_nil))) ra_nil)))))))
    (rs_one (rs_ret (r_tup (ra_cons (r_var 1) (ra_cons (r_callF g__law_of hr rfl rfl (ra_cons (r_var 0) (ra_cons (r_lst (ra_cons (r_tup (ra_cons r_int (ra_cons r_int ra_nil))) (ra_cons (r_tup (ra_cons r_int (ra_cons r_int ra_nil))) (ra_cons (r_tup (ra_cons r_int (ra_cons r_int ra_nil))) (ra_cons (r_tup (ra_cons r_int (ra_cons r_int ra_nil))) (ra_cons (r_tup (ra_cons r_int (ra_cons r_int ra_nil))) (ra_cons (r_tup (ra_cons r_int (ra_cons r_int ra_nil))) ra_nil))))))) ra_nil)) (al_cons (al_cons al_nil))) ra_nil)))))))
/-! ### tuple_of -/
theorem sc_tuple_of : FnScope ["thing", "part"] ["thing"] (defScope st_tuple_of) := ⟨rfl, rfl, rfl, by decide +kernel, rfl, by decide +kernel, by decide +kernel⟩
theorem ok_tuple_of {Fr : Fn} (F : FnP K "tuple_of" st_tuple_of f fd) (g_tuple_of : FO P w K mg base "tuple_of" ["thing"] k Fr)
    (m_list : mg "list" = none)
    (m_tuple : mg "tuple" = none)
    (m_isinstance : mg "isinstance" = none) :
    FnOk P w K mg base CX0 (k + 1) f fd ["thing"] (spD K 1 (Dl.run 2 (d_tuple_of Fr))) :=
  ok_defN F sc_tuple_of rfl rfl fun cdv A outer s H E hr => by
    unfold d_tuple_of E_tuple_of_0
    exact (rs_cons (rs_if (rt_val (r_isi2 rfl m_isinstance (pe_bltn rfl m_list (by rfl) rfl) (pe_bltn rfl m_tuple (by rfl) rfl) (r_var 0))) (rs_one (rs_ret (r_callTy ok_tuple call_tuple_of rfl m_tuple (by rfl) (ra_cons (r_lc (own := [("part", 1)]) rfl sc_tuple_of.nd (ri_seq (r_var 0)) (blkOk_by (N := ["thing", "part"]) (sc := defScope st_tuple_of) (by decide +kernel)) (fun _ _ _ _ _ => (pg_name (i := 1) sc_tuple_of.nd rfl (Or.inl rfl))) (fun _ _ _ _ _ => pts_nilB) (fun _ _ _ _ _ => (r_callF g_tuple_of hr rfl rfl (ra_cons (r_var 1) ra_nil) (al_cons al_nil))) (tg_name 1) (by decide)) ra_nil)))) rs_nil)
    (rs_one (rs_ret (r_var 0))))
/-! ### even_posts -/
theorem sc_even_posts : FnScope ["share"] ["share"] (defScope st_even_posts) := ⟨rfl, rfl, rfl, by decide +kernel, rfl, by decide +kernel, by decide +kernel⟩
theorem ok_even_posts (F : FnP K "even_posts" st_even_posts f fd)
    (g_tuple_of : FO P w K mg base "tuple_of" ["thing"] k F_tuple_of) :
    FnOk P w K mg base CX0 (k + 1) f fd ["share"] (spD K 1 (Dl.run 1 (d_even_posts))) :=
  ok_defN F sc_even_posts rfl rfl fun cdv A outer s H E hr => by
    unfold d_even_posts 
    exact (rs_one (rs_ret (r_tup (ra_cons (r_tup ra_nil) (ra_cons (r_callF g_tuple_of hr rfl rfl (ra_cons (r_var 0) ra_nil) (al_cons al_nil)) ra_nil)))))
/-! ### _law_cells -/
theorem sc__law_cells : FnScope ["script", "many", "cells", "k", "cell", "at"] ["script", "many"] (defScope st__law_cells) := ⟨rfl, rfl, rfl, by decide +kernel, rfl, by decide +kernel, by decide +kernel⟩
theorem ok__law_cells (F : FnP K "_law_cells" st__law_cells f fd)
    (m_list : mg "list" = none)
    (m_enumerate : mg "enumerate" = none)
    (m_int : mg "int" = none)
    (m_len : mg "len" = none) :
    FnOk P w K mg base CX0 (k + 1) f fd ["script", "many"] (spD K 2 (Dl.run 6 (d__law_cells))) :=
  ok_defN F sc__law_cells rfl rfl fun cdv A outer s H E hr => by
    unfold d__law_cells B__law_cells_0
    exact (rs_cons (rs_set 2 sc__law_cells.nd rfl (Or.inl rfl) (r_orT (r_callTy ok_list call_list_of rfl m_list (by rfl) (ra_cons (r_slice (r_var 0) ro_no (ro_so (r_var 1))) ra_nil)) (r_one (r_lst (ra_cons r_int ra_nil)))))
    (rs_cons (rs_for PassesOwn.never rfl (ri_enum rfl m_enumerate (r_slice (r_var 0) (ro_so (r_var 1)) (ro_so r_int))) (pg_tup rfl (pgs_cons (pg_name (i := 3) sc__law_cells.nd rfl (Or.inl rfl)) (pgs_cons (pg_name (i := 4) sc__law_cells.nd rfl (Or.inl rfl)) pgs_nil))) (tg_tup (tg_cons (tg_name 3) (tg_cons (tg_name 4) tg_nil))) (rs_cons (rs_set 5 sc__law_cells.nd rfl (Or.inl rfl) (r_op op_mod ok_mod (r_callTy ok_int1 call_int1 rfl m_int (by rfl) (ra_cons (r_var 3) ra_nil)) (r_callB ok_len call_len_seq rfl m_len (by rfl) (ra_cons (r_var 2) ra_nil))))
    (rs_one (rs_put 2 rfl (Or.inl rfl) (r_var 5) (r_op op_addA ok_add (r_ix ix_any ok_ix (r_var 2) (r_var 5) (fun _ _ => rfl)) (r_op op_mulA ok_mul (r_var 4) (r_op op_addA ok_add (r_var 3) r_int)))))))
    (rs_one (rs_ret (r_var 2)))))
/-! ### _law_votes -/
theorem sc__law_votes : FnScope ["urn", "many", "found", "at", "kind"] ["urn", "many"] (defScope st__law_votes) := ⟨rfl, rfl, rfl, by decide +kernel, rfl, by decide +kernel, by decide +kernel⟩
theorem ok__law_votes (F : FnP K "_law_votes" st__law_votes f fd)
    (g__law_take : FO P w K mg base "_law_take" ["urn", "below"] k F__law_take)
    (g__law_of : FO P w K mg base "_law_of" ["urn", "some"] k F__law_of)
    (m_range : mg "range" = none)
    (m_tuple : mg "tuple" = none) :
    FnOk P w K mg base CX0 (k + 1) f fd ["urn", "many"] (spD K 2 (Dl.run 5 (d__law_votes))) :=
  ok_defN F sc__law_votes rfl rfl fun cdv A outer s H E hr => by
    unfold d__law_votes B__law_votes_0
    exact (rs_cons (rs_set 2 sc__law_votes.nd rfl (Or.inl rfl) (r_lst ra_nil))
    (rs_cons (rs_for PassesOwn.never rfl (ri_rg1 rfl m_range (ra_cons (r_var 1) ra_nil)) (pg_name (i := 3) sc__law_votes.nd rfl (Or.inl rfl)) (tg_name 3) (rs_cons (rs_set 4 sc__law_votes.nd rfl (Or.inl rfl) (r_callF g__law_take hr rfl rfl (ra_cons (r_var 0) (ra_cons r_int ra_nil)) (al_cons (al_cons al_nil))))
    (rs_one (rs_if (PW.pt (rw_and (rt_cmp (op_eqD hr.units) ok_eq (r_var 4) r_int (nomark _)) (rw_and1 (rt_cmp (op_neD hr.units) ok_ne (r_var 2) (r_lst ra_nil) (nomark _))))) (rs_one (rs_app 2 rfl (Or.inl rfl) (r_callF g__law_of hr rfl rfl (ra_cons (r_var 0) (ra_cons (r_var 2) ra_nil)) (al_cons (al_cons al_nil))))) (rs_one (rs_if (PW.pt (rw_and (rt_cmp (op_eqD hr.units) ok_eq (r_var 4) r_int (nomark _)) (rw_and1 (rt_cmp (op_neD hr.units) ok_ne (r_var 2) (r_lst ra_nil) (nomark _))))) (rs_one (rs_app 2 rfl (Or.inl rfl) (r_op op_mulA ok_mul (r_callF g__law_of hr rfl rfl (ra_cons (r_var 0) (ra_cons (r_var 2) ra_nil)) (al_cons (al_cons al_nil))) (r_op op_addA ok_add r_int (r_callF g__law_take hr rfl rfl (ra_cons (r_var 0) (ra_cons r_int ra_nil)) (al_cons (al_cons al_nil))))))) (rs_one (rs_app 2 rfl (Or.inl rfl) (r_op op_addA ok_add r_int (r_callF g__law_take hr rfl rfl (ra_cons (r_var 0) (ra_cons r_int ra_nil)) (al_cons (al_cons al_nil))))))))))))
    (rs_one (rs_ret (r_callTy ok_tuple call_tuple_of rfl m_tuple (by rfl) (ra_cons (r_var 2) ra_nil))))))
/-! ### lowest -/
theorem sc_lowest : FnScope ["top", "bottom", "common"] ["top", "bottom"] (defScope st_lowest) := ⟨rfl, rfl, rfl, by decide +kernel, rfl, by decide +kernel, by decide +kernel⟩
theorem ok_lowest (F : FnP K "lowest" st_lowest f fd)
    (b_gcd : mg "gcd" = some (.builtin "math.gcd")) :
    FnOk P w K mg base CX0 (k + 1) f fd ["top", "bottom"] (spD K 2 (Dl.run 3 (d_lowest))) :=
  ok_defN F sc_lowest rfl rfl fun cdv A outer s H E hr => by
    unfold d_lowest 
    exact (rs_cons (rs_set 2 sc_lowest.nd rfl (Or.inl rfl) (r_callBfun ok_gcd (cr_gcd) rfl b_gcd (ra_cons (r_var 0) (ra_cons (r_var 1) ra_nil))))
    (rs_cons (rs_if (rt_cmp op_lt ok_lt (r_var 1) r_int (nomark _)) (rs_one (rs_set 2 sc_lowest.nd rfl (Or.inl rfl) (r_neg (r_var 2)))) rs_nil)
    (rs_one (rs_ret (r_tup (ra_cons (r_op op_fdivW ok_div (r_var 0) (r_var 2)) (ra_cons (r_op op_fdivW ok_div (r_var 1) (r_var 2)) ra_nil)))))))
/-! ### plus -/
theorem sc_plus : FnScope ["one", "other"] ["one", "other"] (defScope st_plus) := ⟨rfl, rfl, rfl, by decide +kernel, rfl, by decide +kernel, by decide +kernel⟩
theorem ok_plus (F : FnP K "plus" st_plus f fd)
    (g_lowest : FO P w K mg base "lowest" ["top", "bottom"] k F_lowest) :
    FnOk P w K mg base CX0 (k + 1) f fd ["one", "other"] (spD K 2 (Dl.run 2 (d_plus))) :=
  ok_defN F sc_plus rfl rfl fun cdv A outer s H E hr => by
    unfold d_plus 
    exact (rs_one (rs_ret (r_callF g_lowest hr rfl rfl (ra_cons (r_op op_addA ok_add (r_op op_mulA ok_mul (r_ix ix_any ok_ix (r_var 0) r_int (fun _ _ => rfl)) (r_ix ix_any ok_ix (r_var 1) r_int (fun _ _ => rfl))) (r_op op_mulA ok_mul (r_ix ix_any ok_ix (r_var 1) r_int (fun _ _ => rfl)) (r_ix ix_any ok_ix (r_var 0) r_int (fun _ _ => rfl)))) (ra_cons (r_op op_mulA ok_mul (r_ix ix_any ok_ix (r_var 0) r_int (fun _ _ => rfl)) (r_ix ix_any ok_ix (r_var 1) r_int (fun _ _ => rfl))) ra_nil)) (al_cons (al_cons al_nil)))))
/-! ### whole -/
theorem sc_whole : FnScope ["number"] ["number"] (defScope st_whole) := ⟨rfl, rfl, rfl, by decide +kernel, rfl, by decide +kernel, by decide +kernel⟩
theorem ok_whole (F : FnP K "whole" st_whole f fd)
     :
    FnOk P w K mg base CX0 (k + 1) f fd ["number"] (spD K 1 (Dl.run 1 (d_whole))) :=
  ok_defN F sc_whole rfl rfl fun cdv A outer s H E hr => by
    unfold d_whole 
    exact (rs_one (rs_ret (r_tup (ra_cons (r_var 0) (ra_cons r_int ra_nil)))))
/-! ### post_in -/
theorem sc_post_in : FnScope ["posts", "seats"] ["posts", "seats"] (defScope st_post_in) := ⟨rfl, rfl, rfl, by decide +kernel, rfl, by decide +kernel, by decide +kernel⟩
theorem ok_post_in (F : FnP K "post_in" st_post_in f fd)
    (g_whole : FO P w K mg base "whole" ["number"] k F_whole)
    (g_plus : FO P w K mg base "plus" ["one", "other"] k F_plus)
    (m_len : mg "len" = none)
    (h_ZERO : CV K mg "ZERO" c_ZERO) :
    FnOk P w K mg base CX0 (k + 1) f fd ["posts", "seats"] (spD K 2 (Dl.run 2 (d_post_in))) :=
  ok_defN F sc_post_in rfl rfl fun cdv A outer s H E hr => by
    unfold d_post_in 
    exact (rs_cons (rs_if (rt_cmp op_lt ok_lt (r_var 1) r_int (nomark _)) (rs_one (rs_ret (r_glob h_ZERO rfl))) rs_nil)
    (rs_one (rs_ret (r_if (rt_cmp op_lt ok_lt (r_var 1) (r_callB ok_len call_len_seq rfl m_len (by rfl) (ra_cons (r_ix ix_any ok_ix (r_var 0) r_int (fun _ _ => rfl)) ra_nil)) (nomark _)) (r_ix ix_any ok_ix (r_ix ix_any ok_ix (r_var 0) r_int (fun _ _ => rfl)) (r_var 1) (fun _ _ => rfl)) (r_callF g_plus hr rfl rfl (ra_cons (r_callF g_whole hr rfl rfl (ra_cons (r_var 1) ra_nil) (al_cons al_nil)) (ra_cons (r_ix ix_any ok_ix (r_var 0) r_int (fun _ _ => rfl)) ra_nil)) (al_cons (al_cons al_nil)))))))
/-! ### bare_lists -/
theorem sc_bare_lists : FnScope ["posts", "seats", "number", "many"] ["posts", "seats"] (defScope st_bare_lists) := ⟨rfl, rfl, rfl, by decide +kernel, rfl, by decide +kernel, by decide +kernel⟩
theorem ok_bare_lists (F : FnP K "bare_lists" st_bare_lists f fd)
    (g_post_in : FO P w K mg base "post_in" ["posts", "seats"] k F_post_in)
    (m_enumerate : mg "enumerate" = none)
    (h_ZERO : CV K mg "ZERO" c_ZERO) :
    FnOk P w K mg base CX0 (k + 1) f fd ["posts", "seats"] (spD K 2 (Dl.run 4 (d_bare_lists))) :=
  ok_defN F sc_bare_lists rfl rfl fun cdv A outer s H E hr => by
    unfold d_bare_lists T_bare_lists_0
    exact (rs_one (rs_ret (r_lc (own := [("number", 2), ("many", 3)]) rfl sc_bare_lists.nd (ri_enum rfl m_enumerate (r_var 1)) (blkOk_by (N := ["posts", "seats", "number", "many"]) (sc := defScope st_bare_lists) (by decide +kernel)) (fun _ _ _ _ _ => (pg_tup rfl (pgs_cons (pg_name (i := 2) sc_bare_lists.nd rfl (Or.inl rfl)) (pgs_cons (pg_name (i := 3) sc_bare_lists.nd rfl (Or.inl rfl)) pgs_nil)))) (fun _ _ _ _ _ => (pts_oneB (rt_cmp (op_eqD hr.units) ok_eq (r_callF g_post_in hr rfl rfl (ra_cons (r_var 0) (ra_cons (r_var 3) ra_nil)) (al_cons (al_cons al_nil))) (r_glob h_ZERO rfl) (nomark _)))) (fun _ _ _ _ _ => (r_var 2)) (tg_tup (tg_cons (tg_name 2) (tg_cons (tg_name 3) tg_nil))) (by decide))))
/-! ### is_less -/
theorem sc_is_less : FnScope ["one", "other"] ["one", "other"] (defScope st_is_less) := ⟨rfl, rfl, rfl, by decide +kernel, rfl, by decide +kernel, by decide +kernel⟩
theorem ok_is_less (F : FnP K "is_less" st_is_less f fd)
     :
    FnOk P w K mg base CX0 (k + 1) f fd ["one", "other"] (spD K 2 (Dl.run 2 (d_is_less))) :=
  ok_defN F sc_is_less rfl rfl fun cdv A outer s H E hr => by
    unfold d_is_less 
    exact (rs_one (rs_ret (r_cmp op_lt ok_lt (r_op op_mulA ok_mul (r_ix ix_any ok_ix (r_var 0) r_int (fun _ _ => rfl)) (r_ix ix_any ok_ix (r_var 1) r_int (fun _ _ => rfl))) (r_op op_mulA ok_mul (r_ix ix_any ok_ix (r_var 1) r_int (fun _ _ => rfl)) (r_ix ix_any ok_ix (r_var 0) r_int (fun _ _ => rfl))) (nomark _))))
/-! ### times -/
theorem sc_times : FnScope ["one", "other"] ["one", "other"] (defScope st_times) := ⟨rfl, rfl, rfl, by decide +kernel, rfl, by decide +kernel, by decide +kernel⟩
theorem ok_times (F : FnP K "times" st_times f fd)
    (g_lowest : FO P w K mg base "lowest" ["top", "bottom"] k F_lowest) :
    FnOk P w K mg base CX0 (k + 1) f fd ["one", "other"] (spD K 2 (Dl.run 2 (d_times))) :=
  ok_defN F sc_times rfl rfl fun cdv A outer s H E hr => by
    unfold d_times 
    exact (rs_one (rs_ret (r_callF g_lowest hr rfl rfl (ra_cons (r_op op_mulA ok_mul (r_ix ix_any ok_ix (r_var 0) r_int (fun _ _ => rfl)) (r_ix ix_any ok_ix (r_var 1) r_int (fun _ _ => rfl))) (ra_cons (r_op op_mulA ok_mul (r_ix ix_any ok_ix (r_var 0) r_int (fun _ _ => rfl)) (r_ix ix_any ok_ix (r_var 1) r_int (fun _ _ => rfl))) ra_nil)) (al_cons (al_cons al_nil)))))
/-! ### next_list -/
theorem sc_next_list : FnScope ["posts", "votes", "seats", "found", "number", "near", "far"] ["posts", "votes", "seats"] (defScope st_next_list) := ⟨rfl, rfl, rfl, by decide +kernel, rfl, by decide +kernel, by decide +kernel⟩
theorem ok_next_list (F : FnP K "next_list" st_next_list f fd)
    (g_post_in : FO P w K mg base "post_in" ["posts", "seats"] k F_post_in)
    (g_whole : FO P w K mg base "whole" ["number"] k F_whole)
    (g_times : FO P w K mg base "times" ["one", "other"] k F_times)
    (g_is_less : FO P w K mg base "is_less" ["one", "other"] k F_is_less)
    (m_len : mg "len" = none)
    (m_range : mg "range" = none) :
    FnOk P w K mg base CX0 (k + 1) f fd ["posts", "votes", "seats"] (spD K 3 (Dl.run 7 (d_next_list))) :=
  ok_defN F sc_next_list rfl rfl fun cdv A outer s H E hr => by
    unfold d_next_list B_next_list_0
    exact (rs_cons (rs_set 3 sc_next_list.nd rfl (Or.inl rfl) r_int)
    (rs_cons (rs_for PassesOwn.never rfl (ri_rg2 rfl m_range (ra_cons r_int (ra_cons (r_callB ok_len call_len_seq rfl m_len (by rfl) (ra_cons (r_var 1) ra_nil)) ra_nil))) (pg_name (i := 4) sc_next_list.nd rfl (Or.inl rfl)) (tg_name 4) (rs_cons (rs_par2 5 6 rfl sc_next_list.nd rfl rfl (by decide) rfl rfl (r_callF g_post_in hr rfl rfl (ra_cons (r_var 0) (ra_cons (r_ix ix_any ok_ix (r_var 2) (r_var 3) (fun _ _ => rfl)) ra_nil)) (al_cons (al_cons al_nil))) (r_callF g_post_in hr rfl rfl (ra_cons (r_var 0) (ra_cons (r_ix ix_any ok_ix (r_var 2) (r_var 4) (fun _ _ => rfl)) ra_nil)) (al_cons (al_cons al_nil))) rfl)
    (rs_one (rs_if (rt_val (r_callF g_is_less hr rfl rfl (ra_cons (r_callF g_times hr rfl rfl (ra_cons (r_callF g_whole hr rfl rfl (ra_cons (r_ix ix_any ok_ix (r_var 1) (r_var 3) (fun _ _ => rfl)) ra_nil) (al_cons al_nil)) (ra_cons (r_var 6) ra_nil)) (al_cons (al_cons al_nil))) (ra_cons (r_callF g_times hr rfl rfl (ra_cons (r_callF g_whole hr rfl rfl (ra_cons (r_ix ix_any ok_ix (r_var 1) (r_var 4) (fun _ _ => rfl)) ra_nil) (al_cons al_nil)) (ra_cons (r_var 5) ra_nil)) (al_cons (al_cons al_nil))) ra_nil)) (al_cons (al_cons al_nil)))) (rs_one (rs_set 3 sc_next_list.nd rfl (Or.inl rfl) (r_var 4))) rs_nil))))
    (rs_one (rs_ret (r_var 3)))))
/-! ### next_in -/
theorem sc_next_in : FnScope ["posts", "votes", "seats", "bare"] ["posts", "votes", "seats"] (defScope st_next_in) := ⟨rfl, rfl, rfl, by decide +kernel, rfl, by decide +kernel, by decide +kernel⟩
theorem ok_next_in (F : FnP K "next_in" st_next_in f fd)
    (g_bare_lists : FO P w K mg base "bare_lists" ["posts", "seats"] k F_bare_lists)
    (g_next_list : FO P w K mg base "next_list" ["posts", "votes", "seats"] k F_next_list) :
    FnOk P w K mg base CX0 (k + 1) f fd ["posts", "votes", "seats"] (spD K 3 (Dl.run 4 (d_next_in))) :=
  ok_defN F sc_next_in rfl rfl fun cdv A outer s H E hr => by
    unfold d_next_in 
    exact (rs_cons (rs_set 3 sc_next_in.nd rfl (Or.inl rfl) (r_callF g_bare_lists hr rfl rfl (ra_cons (r_var 0) (ra_cons (r_var 2) ra_nil)) (al_cons (al_cons al_nil))))
    (rs_one (rs_ret (r_if (rt_cmp (op_neD hr.units) ok_ne (r_var 3) (r_lst ra_nil) (nomark _)) (r_ix ix_any ok_ix (r_var 3) r_int (fun _ _ => rfl)) (r_callF g_next_list hr rfl rfl (ra_cons (r_var 0) (ra_cons (r_var 1) (ra_cons (r_var 2) ra_nil))) (al_cons (al_cons (al_cons al_nil))))))))
/-! ### dealt_in -/
theorem sc_dealt_in : FnScope ["posts", "votes", "house", "seats", "_"] ["posts", "votes", "house"] (defScope st_dealt_in) := ⟨rfl, rfl, rfl, by decide +kernel, rfl, by decide +kernel, by decide +kernel⟩
theorem ok_dealt_in (F : FnP K "dealt_in" st_dealt_in f fd)
    (g_next_in : FO P w K mg base "next_in" ["posts", "votes", "seats"] k F_next_in)
    (m_len : mg "len" = none)
    (m_range : mg "range" = none)
    (m_tuple : mg "tuple" = none) :
    FnOk P w K mg base CX0 (k + 1) f fd ["posts", "votes", "house"] (spD K 3 (Dl.run 5 (d_dealt_in))) :=
  ok_defN F sc_dealt_in rfl rfl fun cdv A outer s H E hr => by
    unfold d_dealt_in B_dealt_in_0
    exact (rs_cons (rs_set 3 sc_dealt_in.nd rfl (Or.inl rfl) (r_op op_mulA ok_mul (r_lst (ra_cons r_int ra_nil)) (r_callB ok_len call_len_seq rfl m_len (by rfl) (ra_cons (r_var 1) ra_nil))))
    (rs_cons (rs_for PassesOwn.never rfl (ri_rg1 rfl m_range (ra_cons (r_var 2) ra_nil)) (pg_name (i := 4) sc_dealt_in.nd rfl (Or.inl rfl)) (tg_name 4) (rs_one (rs_augI 3 ip_add rfl (Or.inl rfl) (r_callF g_next_in hr rfl rfl (ra_cons (r_var 0) (ra_cons (r_var 1) (ra_cons (r_var 3) ra_nil))) (al_cons (al_cons (al_cons al_nil)))) r_int)))
    (rs_one (rs_ret (r_callTy ok_tuple call_tuple_of rfl m_tuple (by rfl) (ra_cons (r_var 3) ra_nil))))))
/-! ### greatest_of -/
theorem sc_greatest_of : FnScope ["fractions", "some", "found", "own"] ["fractions"] (defScope st_greatest_of) := ⟨rfl, rfl, rfl, by decide +kernel, rfl, by decide +kernel, by decide +kernel⟩
theorem ok_greatest_of (F : FnP K "greatest_of" st_greatest_of f fd)
    (g_tuple_of : FO P w K mg base "tuple_of" ["thing"] k F_tuple_of)
    (g_is_less : FO P w K mg base "is_less" ["one", "other"] k F_is_less) :
    FnOk P w K mg base CX0 (k + 1) f fd ["fractions"] (spD K 1 (Dl.run 4 (d_greatest_of))) :=
  ok_defN F sc_greatest_of rfl rfl fun cdv A outer s H E hr => by
    unfold d_greatest_of B_greatest_of_0
    exact (rs_cons (rs_set 1 sc_greatest_of.nd rfl (Or.inl rfl) (r_callF g_tuple_of hr rfl rfl (ra_cons (r_var 0) ra_nil) (al_cons al_nil)))
    (rs_cons (rs_if (rt_cmp (op_eqD hr.units) ok_eq (r_var 1) (r_tup ra_nil) (nomark _)) (rs_one rs_never) rs_nil)
    (rs_cons (rs_set 2 sc_greatest_of.nd rfl (Or.inl rfl) (r_ix ix_any ok_ix (r_var 1) r_int (fun _ _ => rfl)))
    (rs_cons (rs_ghost 1 (rs_for PassesOwn.never rfl (ri_seq (r_var 1)) (pg_name (i := 3) sc_greatest_of.nd rfl (Or.inl rfl)) (tg_name 3) (rs_one (rs_set 2 sc_greatest_of.nd rfl (Or.inl rfl) (r_if (rt_val (r_callF g_is_less hr rfl rfl (ra_cons (r_var 2) (ra_cons (r_var 3) ra_nil)) (al_cons (al_cons al_nil)))) (r_var 3) (r_var 2))))))
    (rs_one (rs_ret (r_var 2)))))))
/-! ### is_wronged -/
theorem sc_is_wronged : FnScope ["posts", "votes", "seats", "one", "other", "taken", "wanted"] ["posts", "votes", "seats", "one", "other"] (defScope st_is_wronged) := ⟨rfl, rfl, rfl, by decide +kernel, rfl, by decide +kernel, by decide +kernel⟩
theorem ok_is_wronged (F : FnP K "is_wronged" st_is_wronged f fd)
    (g_post_in : FO P w K mg base "post_in" ["posts", "seats"] k F_post_in)
    (g_whole : FO P w K mg base "whole" ["number"] k F_whole)
    (g_times : FO P w K mg base "times" ["one", "other"] k F_times)
    (g_is_less : FO P w K mg base "is_less" ["one", "other"] k F_is_less) :
    FnOk P w K mg base CX0 (k + 1) f fd ["posts", "votes", "seats", "one", "other"] (spD K 5 (Dl.run 7 (d_is_wronged))) :=
  ok_defN F sc_is_wronged rfl rfl fun cdv A outer s H E hr => by
    unfold d_is_wronged 
    exact (rs_cons (rs_par2 5 6 rfl sc_is_wronged.nd rfl rfl (by decide) rfl rfl (r_callF g_post_in hr rfl rfl (ra_cons (r_var 0) (ra_cons (r_op op_sub ok_sub (r_ix ix_any ok_ix (r_var 2) (r_var 4) (fun _ _ => rfl)) r_int) ra_nil)) (al_cons (al_cons al_nil))) (r_callF g_post_in hr rfl rfl (ra_cons (r_var 0) (ra_cons (r_ix ix_any ok_ix (r_var 2) (r_var 3) (fun _ _ => rfl)) ra_nil)) (al_cons (al_cons al_nil))) rfl)
    (rs_one (rs_ret (r_callF g_is_less hr rfl rfl (ra_cons (r_callF g_times hr rfl rfl (ra_cons (r_callF g_whole hr rfl rfl (ra_cons (r_ix ix_any ok_ix (r_var 1) (r_var 4) (fun _ _ => rfl)) ra_nil) (al_cons al_nil)) (ra_cons (r_var 6) ra_nil)) (al_cons (al_cons al_nil))) (ra_cons (r_callF g_times hr rfl rfl (ra_cons (r_callF g_whole hr rfl rfl (ra_cons (r_ix ix_any ok_ix (r_var 1) (r_var 3) (fun _ _ => rfl)) ra_nil) (al_cons al_nil)) (ra_cons (r_var 5) ra_nil)) (al_cons (al_cons al_nil))) ra_nil)) (al_cons (al_cons al_nil))))))
/-! ### faults_in -/
theorem sc_faults_in : FnScope ["posts", "votes", "seats", "found", "one", "other", "number"] ["posts", "votes", "seats"] (defScope st_faults_in) := ⟨rfl, rfl, rfl, by decide +kernel, rfl, by decide +kernel, by decide +kernel⟩
theorem ok_faults_in (F : FnP K "faults_in" st_faults_in f fd)
    (g_bare_lists : FO P w K mg base "bare_lists" ["posts", "seats"] k F_bare_lists)
    (g_is_wronged : FO P w K mg base "is_wronged" ["posts", "votes", "seats", "one", "other"] k F_is_wronged)
    (m_len : mg "len" = none)
    (m_range : mg "range" = none)
    (h_BARE : CV K mg "BARE" c_BARE)
    (h_WRONGED : CV K mg "WRONGED" c_WRONGED) :
    FnOk P w K mg base CX0 (k + 1) f fd ["posts", "votes", "seats"] (spD K 3 (Dl.run 7 (d_faults_in))) :=
  ok_defN F sc_faults_in rfl rfl fun cdv A outer s H E hr => by
    unfold d_faults_in B_faults_in_2 B_faults_in_1 E_faults_in_0
    exact (rs_cons (rs_setLc 3 (own := [("number", 6)]) rfl sc_faults_in.nd rfl rfl (sw_true rfl rfl rfl rfl) (ri_seq (r_callF g_bare_lists hr rfl rfl (ra_cons (r_var 0) (ra_cons (r_var 2) ra_nil)) (al_cons (al_cons al_nil)))) (blkOk_by (N := ["posts", "votes", "seats", "found", "one", "other", "number"]) (sc := defScope st_faults_in) (by decide +kernel)) (fun _ _ _ _ _ => (pg_name (i := 6) sc_faults_in.nd rfl (Or.inl rfl))) (fun _ _ _ _ _ => pts_nilB) (fun _ _ _ _ _ => (r_tup (ra_cons (r_glob h_BARE rfl) (ra_cons (r_var 6) ra_nil)))) (tg_name 6) (by decide))
    (rs_cons (rs_for PassesOwn.never rfl (ri_rg1 rfl m_range (ra_cons (r_callB ok_len call_len_seq rfl m_len (by rfl) (ra_cons (r_var 1) ra_nil)) ra_nil)) (pg_name (i := 4) sc_faults_in.nd rfl (Or.inl rfl)) (tg_name 4) (rs_one (rs_for PassesOwn.never rfl (ri_rg1 rfl m_range (ra_cons (r_callB ok_len call_len_seq rfl m_len (by rfl) (ra_cons (r_var 1) ra_nil)) ra_nil)) (pg_name (i := 5) sc_faults_in.nd rfl (Or.inl rfl)) (tg_name 5) (rs_one (rs_if (PW.pt (rw_and (rt_cmp (op_neD hr.units) ok_ne (r_var 4) (r_var 5) (nomark _)) (rw_and1 (rt_val (r_callF g_is_wronged hr rfl rfl (ra_cons (r_var 0) (ra_cons (r_var 1) (ra_cons (r_var 2) (ra_cons (r_var 4) (ra_cons (r_var 5) ra_nil))))) (al_cons (al_cons (al_cons (al_cons (al_cons al_nil)))))))))) (rs_one (rs_app 3 rfl (Or.inl rfl) (r_tup (ra_cons (r_glob h_WRONGED rfl) (ra_cons (r_var 4) (ra_cons (r_var 5) ra_nil)))))) rs_nil)))))
    (rs_one (rs_ret (r_var 3)))))
/-! ### over -/
theorem sc_over : FnScope ["one", "other"] ["one", "other"] (defScope st_over) := ⟨rfl, rfl, rfl, by decide +kernel, rfl, by decide +kernel, by decide +kernel⟩
theorem ok_over (F : FnP K "over" st_over f fd)
    (g_lowest : FO P w K mg base "lowest" ["top", "bottom"] k F_lowest) :
    FnOk P w K mg base CX0 (k + 1) f fd ["one", "other"] (spD K 2 (Dl.run 2 (d_over))) :=
  ok_defN F sc_over rfl rfl fun cdv A outer s H E hr => by
    unfold d_over 
    exact (rs_cons (rs_if (rt_cmp (op_eqD hr.units) ok_eq (r_ix ix_any ok_ix (r_var 1) r_int (fun _ _ => rfl)) r_int (nomark _)) (rs_one rs_never) rs_nil)
    (rs_one (rs_ret (r_callF g_lowest hr rfl rfl (ra_cons (r_op op_mulA ok_mul (r_ix ix_any ok_ix (r_var 0) r_int (fun _ _ => rfl)) (r_ix ix_any ok_ix (r_var 1) r_int (fun _ _ => rfl))) (ra_cons (r_op op_mulA ok_mul (r_ix ix_any ok_ix (r_var 0) r_int (fun _ _ => rfl)) (r_ix ix_any ok_ix (r_var 1) r_int (fun _ _ => rfl))) ra_nil)) (al_cons (al_cons al_nil))))))
/-! ### least_of -/
theorem sc_least_of : FnScope ["fractions", "some", "found", "own"] ["fractions"] (defScope st_least_of) := ⟨rfl, rfl, rfl, by decide +kernel, rfl, by decide +kernel, by decide +kernel⟩
theorem ok_least_of (F : FnP K "least_of" st_least_of f fd)
    (g_tuple_of : FO P w K mg base "tuple_of" ["thing"] k F_tuple_of)
    (g_is_less : FO P w K mg base "is_less" ["one", "other"] k F_is_less) :
    FnOk P w K mg base CX0 (k + 1) f fd ["fractions"] (spD K 1 (Dl.run 4 (d_least_of))) :=
  ok_defN F sc_least_of rfl rfl fun cdv A outer s H E hr => by
    unfold d_least_of B_least_of_0
    exact (rs_cons (rs_set 1 sc_least_of.nd rfl (Or.inl rfl) (r_callF g_tuple_of hr rfl rfl (ra_cons (r_var 0) ra_nil) (al_cons al_nil)))
    (rs_cons (rs_if (rt_cmp (op_eqD hr.units) ok_eq (r_var 1) (r_tup ra_nil) (nomark _)) (rs_one rs_never) rs_nil)
    (rs_cons (rs_set 2 sc_least_of.nd rfl (Or.inl rfl) (r_ix ix_any ok_ix (r_var 1) r_int (fun _ _ => rfl)))
    (rs_cons (rs_ghost 1 (rs_for PassesOwn.never rfl (ri_seq (r_var 1)) (pg_name (i := 3) sc_least_of.nd rfl (Or.inl rfl)) (tg_name 3) (rs_one (rs_set 2 sc_least_of.nd rfl (Or.inl rfl) (r_if (rt_val (r_callF g_is_less hr rfl rfl (ra_cons (r_var 3) (ra_cons (r_var 2) ra_nil)) (al_cons (al_cons al_nil)))) (r_var 3) (r_var 2))))))
    (rs_one (rs_ret (r_var 2)))))))
/-! ### divider_ends -/
theorem sc_divider_ends : FnScope ["posts", "votes", "seats", "own", "row", "some", "low", "tops", "high", "number", "many", "taken"] ["posts", "votes", "seats"] (defScope st_divider_ends) := ⟨rfl, rfl, rfl, by decide +kernel, rfl, by decide +kernel, by decide +kernel⟩
theorem ok_divider_ends (F : FnP K "divider_ends" st_divider_ends f fd)
    (g_tuple_of : FO P w K mg base "tuple_of" ["thing"] k F_tuple_of)
    (g_faults_in : FO P w K mg base "faults_in" ["posts", "votes", "seats"] k F_faults_in)
    (g_whole : FO P w K mg base "whole" ["number"] k F_whole)
    (g_post_in : FO P w K mg base "post_in" ["posts", "seats"] k F_post_in)
    (g_over : FO P w K mg base "over" ["one", "other"] k F_over)
    (g_greatest_of : FO P w K mg base "greatest_of" ["fractions"] k F_greatest_of)
    (g_least_of : FO P w K mg base "least_of" ["fractions"] k F_least_of)
    (m_zip : mg "zip" = none)
    (h_ZERO : CV K mg "ZERO" c_ZERO) :
    FnOk P w K mg base CX0 (k + 1) f fd ["posts", "votes", "seats"] (spD K 3 (Dl.run 12 (d_divider_ends))) :=
  ok_defN F sc_divider_ends rfl rfl fun cdv A outer s H E hr => by
    unfold d_divider_ends E_divider_ends_3 T_divider_ends_2 E_divider_ends_1 E_divider_ends_0
    exact (rs_cons (rs_tg (r_tup (ra_cons (r_callF g_tuple_of hr rfl rfl (ra_cons (r_var 0) ra_nil) (al_cons al_nil)) (ra_cons (r_callF g_tuple_of hr rfl rfl (ra_cons (r_var 1) ra_nil) (al_cons al_nil)) (ra_cons (r_callF g_tuple_of hr rfl rfl (ra_cons (r_var 2) ra_nil) (al_cons al_nil)) ra_nil)))) (pg_tup rfl (pgs_cons (pg_name (i := 3) sc_divider_ends.nd rfl (Or.inr rfl)) (pgs_cons (pg_name (i := 4) sc_divider_ends.nd rfl (Or.inl rfl)) (pgs_cons (pg_name (i := 5) sc_divider_ends.nd rfl (Or.inl rfl)) pgs_nil)))) (tg_tup (tg_cons (tg_name 3) (tg_cons (tg_name 4) (tg_cons (tg_name 5) tg_nil)))))
    (rs_cons (rs_if (rt_cmp (op_neD hr.units) ok_ne (r_callF g_faults_in hr rfl rfl (ra_cons (r_var 3) (ra_cons (r_var 4) (ra_cons (r_var 5) ra_nil))) (al_cons (al_cons (al_cons al_nil)))) (r_lst ra_nil) (nomark _)) (rs_one rs_never) rs_nil)
    (rs_cons (rs_set 6 sc_divider_ends.nd rfl (Or.inl rfl) (r_callF g_greatest_of hr rfl rfl (ra_cons (r_lc (own := [("number", 9), ("many", 10)]) rfl sc_divider_ends.nd (ri_zip rfl m_zip (ra_cons (r_var 4) (ra_cons (r_var 5) ra_nil))) (blkOk_by (N := ["posts", "votes", "seats", "own", "row", "some", "low", "tops", "high", "number", "many", "taken"]) (sc := defScope st_divider_ends) (by decide +kernel)) (fun _ _ _ _ _ => (pg_tup rfl (pgs_cons (pg_name (i := 9) sc_divider_ends.nd rfl (Or.inl rfl)) (pgs_cons (pg_name (i := 10) sc_divider_ends.nd rfl (Or.inl rfl)) pgs_nil)))) (fun _ _ _ _ _ => pts_nilB) (fun _ _ _ _ _ => (r_callF g_over hr rfl rfl (ra_cons (r_callF g_whole hr rfl rfl (ra_cons (r_var 9) ra_nil) (al_cons al_nil)) (ra_cons (r_callF g_post_in hr rfl rfl (ra_cons (r_var 3) (ra_cons (r_var 10) ra_nil)) (al_cons (al_cons al_nil))) ra_nil)) (al_cons (al_cons al_nil)))) (tg_tup (tg_cons (tg_name 9) (tg_cons (tg_name 10) tg_nil))) (by decide)) ra_nil) (al_cons al_nil)))
    (rs_cons (rs_setLc 7 (own := [("number", 9), ("many", 10)]) rfl sc_divider_ends.nd rfl rfl (sw_true rfl rfl rfl rfl) (ri_zip rfl m_zip (ra_cons (r_var 4) (ra_cons (r_var 5) ra_nil))) (blkOk_by (N := ["posts", "votes", "seats", "own", "row", "some", "low", "tops", "high", "number", "many", "taken"]) (sc := defScope st_divider_ends) (by decide +kernel)) (fun _ _ _ _ _ => (pg_tup rfl (pgs_cons (pg_name (i := 9) sc_divider_ends.nd rfl (Or.inl rfl)) (pgs_cons (pg_name (i := 10) sc_divider_ends.nd rfl (Or.inl rfl)) pgs_nil)))) (fun _ _ _ _ _ => pts_nilB) (fun _ _ _ _ _ => (r_tup (ra_cons (r_var 9) (ra_cons (r_callF g_post_in hr rfl rfl (ra_cons (r_var 3) (ra_cons (r_op op_sub ok_sub (r_var 10) r_int) ra_nil)) (al_cons (al_cons al_nil))) ra_nil)))) (tg_tup (tg_cons (tg_name 9) (tg_cons (tg_name 10) tg_nil))) (by decide))
    (rs_cons (rs_setLc 8 (own := [("number", 9), ("taken", 11)]) rfl sc_divider_ends.nd rfl rfl (sw_true rfl rfl rfl rfl) (ri_seq (r_var 7)) (blkOk_by (N := ["posts", "votes", "seats", "own", "row", "some", "low", "tops", "high", "number", "many", "taken"]) (sc := defScope st_divider_ends) (by decide +kernel)) (fun _ _ _ _ _ => (pg_tup rfl (pgs_cons (pg_name (i := 9) sc_divider_ends.nd rfl (Or.inl rfl)) (pgs_cons (pg_name (i := 11) sc_divider_ends.nd rfl (Or.inl rfl)) pgs_nil)))) (fun _ _ _ _ _ => (pts_oneB (rt_cmp (op_neD hr.units) ok_ne (r_var 11) (r_glob h_ZERO rfl) (nomark _)))) (fun _ _ _ _ _ => (r_callF g_over hr rfl rfl (ra_cons (r_callF g_whole hr rfl rfl (ra_cons (r_var 9) ra_nil) (al_cons al_nil)) (ra_cons (r_var 11) ra_nil)) (al_cons (al_cons al_nil)))) (tg_tup (tg_cons (tg_name 9) (tg_cons (tg_name 11) tg_nil))) (by decide))
    (rs_one (rs_ret (r_tup (ra_cons (r_var 6) (ra_cons (r_if (rt_cmp (op_neD hr.units) ok_ne (r_var 8) (r_lst ra_nil) (nomark _)) (r_callF g_least_of hr rfl rfl (ra_cons (r_var 8) ra_nil) (al_cons al_nil)) r_non) ra_nil))))))))))
/-! ### divider_of -/
theorem sc_divider_of : FnScope ["posts", "votes", "seats"] ["posts", "votes", "seats"] (defScope st_divider_of) := ⟨rfl, rfl, rfl, by decide +kernel, rfl, by decide +kernel, by decide +kernel⟩
theorem ok_divider_of (F : FnP K "divider_of" st_divider_of f fd)
    (g_divider_ends : FO P w K mg base "divider_ends" ["posts", "votes", "seats"] k F_divider_ends) :
    FnOk P w K mg base CX0 (k + 1) f fd ["posts", "votes", "seats"] (spD K 3 (Dl.run 3 (d_divider_of))) :=
  ok_defN F sc_divider_of rfl rfl fun cdv A outer s H E hr => by
    unfold d_divider_of 
    exact (rs_one (rs_ret (r_ix ix_any ok_ix (r_callF g_divider_ends hr rfl rfl (ra_cons (r_var 0) (ra_cons (r_var 1) (ra_cons (r_var 2) ra_nil))) (al_cons (al_cons (al_cons al_nil)))) r_int (fun _ _ => rfl))))
/-! ### seats_above -/
theorem sc_seats_above : FnScope ["posts", "number", "divider", "many"] ["posts", "number", "divider"] (defScope st_seats_above) := ⟨rfl, rfl, rfl, by decide +kernel, rfl, by decide +kernel, by decide +kernel⟩
theorem ok_seats_above (F : FnP K "seats_above" st_seats_above f fd)
    (g_post_in : FO P w K mg base "post_in" ["posts", "seats"] k F_post_in)
    (g_times : FO P w K mg base "times" ["one", "other"] k F_times)
    (g_whole : FO P w K mg base "whole" ["number"] k F_whole)
    (g_is_less : FO P w K mg base "is_less" ["one", "other"] k F_is_less) :
    FnOk P w K mg base CX0 (k + 1) f fd ["posts", "number", "divider"] (spD K 3 (Dl.run 4 (d_seats_above))) :=
  ok_defN F sc_seats_above rfl rfl fun cdv A outer s H E hr => by
    unfold d_seats_above B_seats_above_1 C_seats_above_0
    exact (rs_cons (rs_set 3 sc_seats_above.nd rfl (Or.inl rfl) r_int)
    (rs_cons (rs_while PassesOwn.never (rt_val (r_callF g_is_less hr rfl rfl (ra_cons (r_callF g_times hr rfl rfl (ra_cons (r_var 2) (ra_cons (r_callF g_post_in hr rfl rfl (ra_cons (r_var 0) (ra_cons (r_var 3) ra_nil)) (al_cons (al_cons al_nil))) ra_nil)) (al_cons (al_cons al_nil))) (ra_cons (r_callF g_whole hr rfl rfl (ra_cons (r_var 1) ra_nil) (al_cons al_nil)) ra_nil)) (al_cons (al_cons al_nil)))) (rs_one (rs_set 3 sc_seats_above.nd rfl (Or.inl rfl) (r_op op_addA ok_add (r_var 3) r_int))))
    (rs_one (rs_ret (r_var 3)))))
/-! ### is_most -/
theorem sc_is_most : FnScope ["one", "other"] ["one", "other"] (defScope st_is_most) := ⟨rfl, rfl, rfl, by decide +kernel, rfl, by decide +kernel, by decide +kernel⟩
theorem ok_is_most (F : FnP K "is_most" st_is_most f fd)
     :
    FnOk P w K mg base CX0 (k + 1) f fd ["one", "other"] (spD K 2 (Dl.run 2 (d_is_most))) :=
  ok_defN F sc_is_most rfl rfl fun cdv A outer s H E hr => by
    unfold d_is_most 
    exact (rs_one (rs_ret (r_cmp op_le ok_le (r_op op_mulA ok_mul (r_ix ix_any ok_ix (r_var 0) r_int (fun _ _ => rfl)) (r_ix ix_any ok_ix (r_var 1) r_int (fun _ _ => rfl))) (r_op op_mulA ok_mul (r_ix ix_any ok_ix (r_var 1) r_int (fun _ _ => rfl)) (r_ix ix_any ok_ix (r_var 0) r_int (fun _ _ => rfl))) (nomark _))))
/-! ### seats_most -/
theorem sc_seats_most : FnScope ["posts", "number", "divider", "many"] ["posts", "number", "divider"] (defScope st_seats_most) := ⟨rfl, rfl, rfl, by decide +kernel, rfl, by decide +kernel, by decide +kernel⟩
theorem ok_seats_most (F : FnP K "seats_most" st_seats_most f fd)
    (g_post_in : FO P w K mg base "post_in" ["posts", "seats"] k F_post_in)
    (g_times : FO P w K mg base "times" ["one", "other"] k F_times)
    (g_whole : FO P w K mg base "whole" ["number"] k F_whole)
    (g_is_most : FO P w K mg base "is_most" ["one", "other"] k F_is_most) :
    FnOk P w K mg base CX0 (k + 1) f fd ["posts", "number", "divider"] (spD K 3 (Dl.run 4 (d_seats_most))) :=
  ok_defN F sc_seats_most rfl rfl fun cdv A outer s H E hr => by
    unfold d_seats_most B_seats_most_1 C_seats_most_0
    exact (rs_cons (rs_set 3 sc_seats_most.nd rfl (Or.inl rfl) r_int)
    (rs_cons (rs_while PassesOwn.never (rt_val (r_callF g_is_most hr rfl rfl (ra_cons (r_callF g_times hr rfl rfl (ra_cons (r_var 2) (ra_cons (r_callF g_post_in hr rfl rfl (ra_cons (r_var 0) (ra_cons (r_var 3) ra_nil)) (al_cons (al_cons al_nil))) ra_nil)) (al_cons (al_cons al_nil))) (ra_cons (r_callF g_whole hr rfl rfl (ra_cons (r_var 1) ra_nil) (al_cons al_nil)) ra_nil)) (al_cons (al_cons al_nil)))) (rs_one (rs_set 3 sc_seats_most.nd rfl (Or.inl rfl) (r_op op_addA ok_add (r_var 3) r_int))))
    (rs_one (rs_ret (r_var 3)))))
/-! ### ties_in -/
theorem sc_ties_in : FnScope ["posts", "votes", "house", "seats", "divider", "low", "high", "number"] ["posts", "votes", "house"] (defScope st_ties_in) := ⟨rfl, rfl, rfl, by decide +kernel, rfl, by decide +kernel, by decide +kernel⟩
theorem ok_ties_in (F : FnP K "ties_in" st_ties_in f fd)
    (g_dealt_in : FO P w K mg base "dealt_in" ["posts", "votes", "house"] k F_dealt_in)
    (g_bare_lists : FO P w K mg base "bare_lists" ["posts", "seats"] k F_bare_lists)
    (g_divider_of : FO P w K mg base "divider_of" ["posts", "votes", "seats"] k F_divider_of)
    (g_seats_above : FO P w K mg base "seats_above" ["posts", "number", "divider"] k F_seats_above)
    (g_seats_most : FO P w K mg base "seats_most" ["posts", "number", "divider"] k F_seats_most)
    (m_tuple : mg "tuple" = none) :
    FnOk P w K mg base CX0 (k + 1) f fd ["posts", "votes", "house"] (spD K 3 (Dl.run 8 (d_ties_in))) :=
  ok_defN F sc_ties_in rfl rfl fun cdv A outer s H E hr => by
    unfold d_ties_in E_ties_in_1 E_ties_in_0
    exact (rs_cons (rs_set 3 sc_ties_in.nd rfl (Or.inl rfl) (r_callF g_dealt_in hr rfl rfl (ra_cons (r_var 0) (ra_cons (r_var 1) (ra_cons (r_var 2) ra_nil))) (al_cons (al_cons (al_cons al_nil)))))
    (rs_cons (rs_if (rt_cmp (op_neD hr.units) ok_ne (r_callF g_bare_lists hr rfl rfl (ra_cons (r_var 0) (ra_cons (r_var 3) ra_nil)) (al_cons (al_cons al_nil))) (r_lst ra_nil) (nomark _)) (rs_one (rs_ret r_non)) rs_nil)
    (rs_cons (rs_set 4 sc_ties_in.nd rfl (Or.inr rfl) (r_callF g_divider_of hr rfl rfl (ra_cons (r_var 0) (ra_cons (r_var 1) (ra_cons (r_var 3) ra_nil))) (al_cons (al_cons (al_cons al_nil)))))
    (rs_cons (rs_set 5 sc_ties_in.nd rfl (Or.inl rfl) (r_callTy ok_tuple call_tuple_of rfl m_tuple (by rfl) (ra_cons (r_lc (own := [("number", 7)]) rfl sc_ties_in.nd (ri_seq (r_var 1)) (blkOk_by (N := ["posts", "votes", "house", "seats", "divider", "low", "high", "number"]) (sc := defScope st_ties_in) (by decide +kernel)) (fun _ _ _ _ _ => (pg_name (i := 7) sc_ties_in.nd rfl (Or.inl rfl))) (fun _ _ _ _ _ => pts_nilB) (fun _ _ _ _ _ => (r_callF g_seats_above hr rfl rfl (ra_cons (r_var 0) (ra_cons (r_var 7) (ra_cons (r_var 4) ra_nil))) (al_cons (al_cons (al_cons al_nil))))) (tg_name 7) (by decide)) ra_nil)))
    (rs_cons (rs_set 6 sc_ties_in.nd rfl (Or.inl rfl) (r_callTy ok_tuple call_tuple_of rfl m_tuple (by rfl) (ra_cons (r_lc (own := [("number", 7)]) rfl sc_ties_in.nd (ri_seq (r_var 1)) (blkOk_by (N := ["posts", "votes", "house", "seats", "divider", "low", "high", "number"]) (sc := defScope st_ties_in) (by decide +kernel)) (fun _ _ _ _ _ => (pg_name (i := 7) sc_ties_in.nd rfl (Or.inl rfl))) (fun _ _ _ _ _ => pts_nilB) (fun _ _ _ _ _ => (r_callF g_seats_most hr rfl rfl (ra_cons (r_var 0) (ra_cons (r_var 7) (ra_cons (r_var 4) ra_nil))) (al_cons (al_cons (al_cons al_nil))))) (tg_name 7) (by decide)) ra_nil)))
    (rs_one (rs_ret (r_tup (ra_cons (r_var 5) (ra_cons (r_var 6) ra_nil))))))))))
/-! ### deals_of -/
theorem sc_deals_of : FnScope ["posts", "votes", "house", "ends", "low", "high", "rows", "place", "rest", "later", "row", "many", "left"] ["posts", "votes", "house"] (defScope st_deals_of) := ⟨rfl, rfl, rfl, by decide +kernel, rfl, by decide +kernel, by decide +kernel⟩
theorem ok_deals_of (F : FnP K "deals_of" st_deals_of f fd)
    (g_tuple_of : FO P w K mg base "tuple_of" ["thing"] k F_tuple_of)
    (g_ties_in : FO P w K mg base "ties_in" ["posts", "votes", "house"] k F_ties_in)
    (m_len : mg "len" = none)
    (m_range : mg "range" = none)
    (m_sum : mg "sum" = none) :
    FnOk P w K mg base CX0 (k + 1) f fd ["posts", "votes", "house"] (spD K 3 (Dl.run 13 (d_deals_of))) :=
  ok_defN F sc_deals_of rfl rfl fun cdv A outer s H E hr => by
    unfold d_deals_of B_deals_of_2 B_deals_of_1 B_deals_of_0
    exact (rs_cons (rs_set 3 sc_deals_of.nd rfl (Or.inl rfl) (r_callF g_ties_in hr rfl rfl (ra_cons (r_callF g_tuple_of hr rfl rfl (ra_cons (r_var 0) ra_nil) (al_cons al_nil)) (ra_cons (r_callF g_tuple_of hr rfl rfl (ra_cons (r_var 1) ra_nil) (al_cons al_nil)) (ra_cons (r_var 2) ra_nil))) (al_cons (al_cons (al_cons al_nil)))))
    (rs_cons (rs_if (rt_cmp op_isN ok_isN (r_var 3) r_non (nomark _)) (rs_one (rs_ret (r_lst ra_nil))) rs_nil)
    (rs_cons (rs_tg (r_var 3) (pg_tup rfl (pgs_cons (pg_name (i := 4) sc_deals_of.nd rfl (Or.inl rfl)) (pgs_cons (pg_name (i := 5) sc_deals_of.nd rfl (Or.inl rfl)) pgs_nil))) (tg_tup (tg_cons (tg_name 4) (tg_cons (tg_name 5) tg_nil))))
    (rs_cons (rs_set 6 sc_deals_of.nd rfl (Or.inl rfl) (r_lst (ra_cons (r_tup ra_nil) ra_nil)))
    (rs_cons (rs_for PassesOwn.never rfl (ri_rg1 rfl m_range (ra_cons (r_callB ok_len call_len_seq rfl m_len (by rfl) (ra_cons (r_var 4) ra_nil)) ra_nil)) (pg_name (i := 7) sc_deals_of.nd rfl (Or.inl rfl)) (tg_name 7) (rs_cons (rs_set 8 sc_deals_of.nd rfl (Or.inl rfl) (r_tup (ra_cons (r_callB ok_sum (cr_sumA rfl) rfl m_sum (by rfl) (ra_cons (r_slice (r_var 4) (ro_so (r_op op_addA ok_add (r_var 7) r_int)) ro_no) ra_nil)) (ra_cons (r_callB ok_sum (cr_sumA rfl) rfl m_sum (by rfl) (ra_cons (r_slice (r_var 5) (ro_so (r_op op_addA ok_add (r_var 7) r_int)) ro_no) ra_nil)) ra_nil))))
    (rs_cons (rs_set 9 sc_deals_of.nd rfl (Or.inl rfl) (r_lst ra_nil))
    (rs_cons (rs_ghost 6 (rs_for PassesOwn.never rfl (ri_seq (r_var 6)) (pg_name (i := 10) sc_deals_of.nd rfl (Or.inl rfl)) (tg_name 10) (rs_one (rs_for PassesOwn.never rfl (ri_rg2 rfl m_range (ra_cons (r_ix ix_any ok_ix (r_var 4) (r_var 7) (fun _ _ => rfl)) (ra_cons (r_op op_addA ok_add (r_ix ix_any ok_ix (r_var 5) (r_var 7) (fun _ _ => rfl)) r_int) ra_nil))) (pg_name (i := 11) sc_deals_of.nd rfl (Or.inl rfl)) (tg_name 11) (rs_cons (rs_set 12 sc_deals_of.nd rfl (Or.inl rfl) (r_op op_sub ok_sub (r_op op_sub ok_sub (r_var 2) (r_callB ok_sum (cr_sumA rfl) rfl m_sum (by rfl) (ra_cons (r_var 10) ra_nil))) (r_var 11)))
    (rs_one (rs_if (rt_chain op_le op_le ok_le ok_le (r_ix ix_any ok_ix (r_var 8) r_int (fun _ _ => rfl)) (r_var 12) (r_ix ix_any ok_ix (r_var 8) r_int (fun _ _ => rfl))) (rs_one (rs_app 9 rfl (Or.inl rfl) (r_op op_addA ok_add (r_var 10) (r_tup (ra_cons (r_var 11) ra_nil))))) rs_nil)))))))
    (rs_one (rs_set 6 sc_deals_of.nd rfl (Or.inl rfl) (r_var 9)))))))
    (rs_one (rs_ret (r_var 6))))))))
/-! ### is_number -/
theorem sc_is_number : FnScope ["thing"] ["thing"] (defScope st_is_number) := ⟨rfl, rfl, rfl, by decide +kernel, rfl, by decide +kernel, by decide +kernel⟩
theorem ok_is_number (F : FnP K "is_number" st_is_number f fd)
    (m_int : mg "int" = none)
    (m_isinstance : mg "isinstance" = none)
    (m_bool : mg "bool" = none) :
    FnOk P w K mg base CX0 (k + 1) f fd ["thing"] (spD K 1 (Dl.run 1 (d_is_number))) :=
  ok_defN F sc_is_number rfl rfl fun cdv A outer s H E hr => by
    unfold d_is_number 
    exact (rs_one (rs_ret (r_and (r_isi1 rfl m_isinstance (pe_bltn rfl m_int (by rfl) rfl) (r_var 0)) (r_one (r_not (r_isi1 rfl m_isinstance (pe_bltn rfl m_bool (by rfl) rfl) (r_var 0)))))))
/-! ### sure_list -/
theorem sc_sure_list : FnScope ["votes", "number"] ["votes", "number"] (defScope st_sure_list) := ⟨rfl, rfl, rfl, by decide +kernel, rfl, by decide +kernel, by decide +kernel⟩
theorem ok_sure_list (F : FnP K "sure_list" st_sure_list f fd)
    (g_is_number : FO P w K mg base "is_number" ["thing"] k F_is_number)
    (m_len : mg "len" = none) :
    FnOk P w K mg base CX0 (k + 1) f fd ["votes", "number"] (spD K 2 (Dl.run 2 (d_sure_list))) :=
  ok_defN F sc_sure_list rfl rfl fun cdv A outer s H E hr => by
    unfold d_sure_list 
    exact (rs_one (rs_if (PW.pt (rw_or (rt_not (rt_val (r_callF g_is_number hr rfl rfl (ra_cons (r_var 1) ra_nil) (al_cons al_nil)))) (rw_or1 (rt_not (rt_chain op_le op_lt ok_le ok_lt r_int (r_var 1) (r_callB ok_len call_len_seq rfl m_len (by rfl) (ra_cons (r_var 0) ra_nil))))))) (rs_one rs_never) rs_nil))
/-! ### seat_ends -/
theorem sc_seat_ends : FnScope ["posts", "votes", "house", "number", "own", "row", "ends", "low", "high", "others"] ["posts", "votes", "house", "number"] (defScope st_seat_ends) := ⟨rfl, rfl, rfl, by decide +kernel, rfl, by decide +kernel, by decide +kernel⟩
theorem ok_seat_ends (F : FnP K "seat_ends" st_seat_ends f fd)
    (g_tuple_of : FO P w K mg base "tuple_of" ["thing"] k F_tuple_of)
    (g_sure_list : FO P w K mg base "sure_list" ["votes", "number"] k F_sure_list)
    (g_ties_in : FO P w K mg base "ties_in" ["posts", "votes", "house"] k F_ties_in)
    (m_sum : mg "sum" = none)
    (m_max : mg "max" = none)
    (m_min : mg "min" = none) :
    FnOk P w K mg base CX0 (k + 1) f fd ["posts", "votes", "house", "number"] (spD K 4 (Dl.run 10 (d_seat_ends))) :=
  ok_defN F sc_seat_ends rfl rfl fun cdv A outer s H E hr => by
    unfold d_seat_ends 
    exact (rs_cons (rs_par2 4 5 rfl sc_seat_ends.nd rfl rfl (by decide) rfl rfl (r_callF g_tuple_of hr rfl rfl (ra_cons (r_var 0) ra_nil) (al_cons al_nil)) (r_callF g_tuple_of hr rfl rfl (ra_cons (r_var 1) ra_nil) (al_cons al_nil)) rfl)
    (rs_cons (rs_expr (r_callF g_sure_list hr rfl rfl (ra_cons (r_var 5) (ra_cons (r_var 3) ra_nil)) (al_cons (al_cons al_nil))))
    (rs_cons (rs_set 6 sc_seat_ends.nd rfl (Or.inl rfl) (r_callF g_ties_in hr rfl rfl (ra_cons (r_var 4) (ra_cons (r_var 5) (ra_cons (r_var 2) ra_nil))) (al_cons (al_cons (al_cons al_nil)))))
    (rs_cons (rs_if (rt_cmp op_isN ok_isN (r_var 6) r_non (nomark _)) (rs_one rs_never) rs_nil)
    (rs_cons (rs_tg (r_var 6) (pg_tup rfl (pgs_cons (pg_name (i := 7) sc_seat_ends.nd rfl (Or.inl rfl)) (pgs_cons (pg_name (i := 8) sc_seat_ends.nd rfl (Or.inl rfl)) pgs_nil))) (tg_tup (tg_cons (tg_name 7) (tg_cons (tg_name 8) tg_nil))))
    (rs_cons (rs_set 9 sc_seat_ends.nd rfl (Or.inl rfl) (r_tup (ra_cons (r_op op_sub ok_sub (r_callB ok_sum (cr_sumA rfl) rfl m_sum (by rfl) (ra_cons (r_var 7) ra_nil)) (r_ix ix_any ok_ix (r_var 7) (r_var 3) (fun _ _ => rfl))) (ra_cons (r_op op_sub ok_sub (r_callB ok_sum (cr_sumA rfl) rfl m_sum (by rfl) (ra_cons (r_var 8) ra_nil)) (r_ix ix_any ok_ix (r_var 8) (r_var 3) (fun _ _ => rfl))) ra_nil))))
    (rs_one (rs_ret (r_tup (ra_cons (r_callB ok_max (cr_maxA rfl) rfl m_max (by rfl) (ra_cons (r_ix ix_any ok_ix (r_var 7) (r_var 3) (fun _ _ => rfl)) (ra_cons (r_op op_sub ok_sub (r_var 2) (r_ix ix_any ok_ix (r_var 9) r_int (fun _ _ => rfl))) ra_nil))) (ra_cons (r_callB ok_min (cr_minA rfl) rfl m_min (by rfl) (ra_cons (r_ix ix_any ok_ix (r_var 8) (r_var 3) (fun _ _ => rfl)) (ra_cons (r_op op_sub ok_sub (r_var 2) (r_ix ix_any ok_ix (r_var 9) r_int (fun _ _ => rfl))) ra_nil))) ra_nil)))))))))))
/-! ### sure_two -/
theorem sc_sure_two : FnScope ["many", "one", "other", "number"] ["many", "one", "other"] (defScope st_sure_two) := ⟨rfl, rfl, rfl, by decide +kernel, rfl, by decide +kernel, by decide +kernel⟩
theorem ok_sure_two (F : FnP K "sure_two" st_sure_two f fd)
     :
    FnOk P w K mg base CX0 (k + 1) f fd ["many", "one", "other"] (spD K 3 (Dl.run 4 (d_sure_two))) :=
  ok_defN F sc_sure_two rfl rfl fun cdv A outer s H E hr => by
    unfold d_sure_two B_sure_two_0
    exact (rs_cons (rs_for PassesOwn.never rfl (ri_seq (r_tup (ra_cons (r_var 1) (ra_cons (r_var 2) ra_nil)))) (pg_name (i := 3) sc_sure_two.nd rfl (Or.inl rfl)) (tg_name 3) (rs_one (rs_if (rt_not (rt_chain op_le op_lt ok_le ok_lt r_int (r_var 3) (r_var 0))) (rs_one rs_never) rs_nil)))
    (rs_one (rs_if (rt_cmp (op_eqD hr.units) ok_eq (r_var 1) (r_var 2) (nomark _)) (rs_one rs_never) rs_nil)))
/-! ### joined_votes -/
theorem sc_joined_votes : FnScope ["votes", "one", "other", "low", "high", "found"] ["votes", "one", "other"] (defScope st_joined_votes) := ⟨rfl, rfl, rfl, by decide +kernel, rfl, by decide +kernel, by decide +kernel⟩
theorem ok_joined_votes (F : FnP K "joined_votes" st_joined_votes f fd)
    (g_sure_two : FO P w K mg base "sure_two" ["many", "one", "other"] k F_sure_two)
    (m_len : mg "len" = none)
    (m_min : mg "min" = none)
    (m_max : mg "max" = none)
    (m_list : mg "list" = none)
    (m_tuple : mg "tuple" = none) :
    FnOk P w K mg base CX0 (k + 1) f fd ["votes", "one", "other"] (spD K 3 (Dl.run 6 (d_joined_votes))) :=
  ok_defN F sc_joined_votes rfl rfl fun cdv A outer s H E hr => by
    unfold d_joined_votes 
    exact (rs_cons (rs_expr (r_callF g_sure_two hr rfl rfl (ra_cons (r_callB ok_len call_len_seq rfl m_len (by rfl) (ra_cons (r_var 0) ra_nil)) (ra_cons (r_var 1) (ra_cons (r_var 2) ra_nil))) (al_cons (al_cons (al_cons al_nil)))))
    (rs_cons (rs_par2 3 4 rfl sc_joined_votes.nd rfl rfl (by decide) rfl rfl (r_callB ok_min (cr_minA rfl) rfl m_min (by rfl) (ra_cons (r_var 1) (ra_cons (r_var 2) ra_nil))) (r_callB ok_max (cr_maxA rfl) rfl m_max (by rfl) (ra_cons (r_var 1) (ra_cons (r_var 2) ra_nil))) rfl)
    (rs_cons (rs_set 5 sc_joined_votes.nd rfl (Or.inl rfl) (r_callTy ok_list call_list_of rfl m_list (by rfl) (ra_cons (r_var 0) ra_nil)))
    (rs_cons (rs_put 5 rfl (Or.inl rfl) (r_var 3) (r_op op_addA ok_add (r_ix ix_any ok_ix (r_var 5) (r_var 3) (fun _ _ => rfl)) (r_ix ix_any ok_ix (r_var 5) (r_var 4) (fun _ _ => rfl))))
    (rs_one (rs_ret (r_callTy ok_tuple call_tuple_of rfl m_tuple (by rfl) (ra_cons (r_op op_addA ok_add (r_slice (r_var 5) ro_no (ro_so (r_var 4))) (r_slice (r_var 5) (ro_so (r_op op_addA ok_add (r_var 4) r_int)) ro_no)) ra_nil))))))))
/-! ### _law_same -/
theorem sc__law_same : FnScope ["got", "goal", "mine", "own"] ["got", "goal"] (defScope st__law_same) := ⟨rfl, rfl, rfl, by decide +kernel, rfl, by decide +kernel, by decide +kernel⟩
theorem ok__law_same {Fr : Fn} (F : FnP K "_law_same" st__law_same f fd) (g__law_same : FO P w K mg base "_law_same" ["got", "goal"] k Fr)
    (m_list : mg "list" = none)
    (m_tuple : mg "tuple" = none)
    (m_isinstance : mg "isinstance" = none)
    (m_len : mg "len" = none)
    (m_zip : mg "zip" = none)
    (m_all : mg "all" = none)
    (m_bool : mg "bool" = none)
    (m_str : mg "str" = none)
    (m_int : mg "int" = none) :
    FnOk P w K mg base CX0 (k + 1) f fd ["got", "goal"] (spD K 2 (Dl.run 4 (d__law_same Fr))) :=
  ok_defN F sc__law_same rfl rfl fun cdv A outer s H E hr => by
    unfold d__law_same E__law_same_0
    exact (rs_cons (rs_if (rt_val (r_isi2 rfl m_isinstance (pe_bltn rfl m_list (by rfl) rfl) (pe_bltn rfl m_tuple (by rfl) rfl) (r_var 1))) (rs_cons (rs_if (PW.pt (rw_or (rt_cmp (op_neD hr.units) ok_ne (r_isi1 rfl m_isinstance (pe_bltn rfl m_list (by rfl) rfl) (r_var 0)) (r_isi1 rfl m_isinstance (pe_bltn rfl m_list (by rfl) rfl) (r_var 1)) (nomark _)) (rw_or1 (rt_cmp (op_neD hr.units) ok_ne (r_isi1 rfl m_isinstance (pe_bltn rfl m_tuple (by rfl) rfl) (r_var 0)) (r_isi1 rfl m_isinstance (pe_bltn rfl m_tuple (by rfl) rfl) (r_var 1)) (nomark _))))) (rs_one (rs_ret r_bl)) rs_nil)
    (rs_one (rs_ret (r_and (r_cmp (op_eqD hr.units) ok_eq (r_callB ok_len call_len_seq rfl m_len (by rfl) (ra_cons (r_var 0) ra_nil)) (r_callB ok_len call_len_seq rfl m_len (by rfl) (ra_cons (r_var 1) ra_nil)) (nomark _)) (r_one (r_callB ok_all (cr_all rfl) rfl m_all (by rfl) (ra_cons (r_lc (own := [("mine", 2), ("own", 3)]) rfl sc__law_same.nd (ri_zip rfl m_zip (ra_cons (r_var 0) (ra_cons (r_var 1) ra_nil))) (blkOk_by (N := ["got", "goal", "mine", "own"]) (sc := defScope st__law_same) (by decide +kernel)) (fun _ _ _ _ _ => (pg_tup rfl (pgs_cons (pg_name (i := 2) sc__law_same.nd rfl (Or.inl rfl)) (pgs_cons (pg_name (i := 3) sc__law_same.nd rfl (Or.inl rfl)) pgs_nil)))) (fun _ _ _ _ _ => pts_nilB) (fun _ _ _ _ _ => (r_callF g__law_same hr rfl rfl (ra_cons (r_var 2) (ra_cons (r_var 3) ra_nil)) (al_cons (al_cons al_nil)))) (tg_tup (tg_cons (tg_name 2) (tg_cons (tg_name 3) tg_nil))) (by decide)) ra_nil))))))) rs_nil)
    (rs_cons (rs_if (PW.pt (rw_or (rt_cmp op_isN ok_isN (r_var 1) r_non (nomark _)) (rw_or1 (rt_val (r_isi2 rfl m_isinstance (pe_bltn rfl m_bool (by rfl) rfl) (pe_bltn rfl m_str (by rfl) rfl) (r_var 1)))))) (rs_one (rs_ret (r_and (r_cmp (op_eqD hr.units) ok_eq (r_var 0) (r_var 1) (nomark _)) (r_and (r_cmp (op_eqD hr.units) ok_eq (r_isi1 rfl m_isinstance (pe_bltn rfl m_str (by rfl) rfl) (r_var 0)) (r_isi1 rfl m_isinstance (pe_bltn rfl m_str (by rfl) rfl) (r_var 1)) (nomark _)) (r_and (r_cmp (op_eqD hr.units) ok_eq (r_isi1 rfl m_isinstance (pe_bltn rfl m_bool (by rfl) rfl) (r_var 0)) (r_isi1 rfl m_isinstance (pe_bltn rfl m_bool (by rfl) rfl) (r_var 1)) (nomark _)) (r_one (r_cmp (op_eqD hr.units) ok_eq (r_cmp op_isN ok_isN (r_var 0) r_non (nomark _)) (r_cmp op_isN ok_isN (r_var 1) r_non (nomark _)) (nomark _)))))))) rs_nil)
    (rs_one (rs_ret (r_and (r_isi1 rfl m_isinstance (pe_bltn rfl m_int (by rfl) rfl) (r_var 0)) (r_and (r_not (r_isi1 rfl m_isinstance (pe_bltn rfl m_bool (by rfl) rfl) (r_var 0))) (r_one (r_cmp (op_eqD hr.units) ok_eq (r_var 0) (r_var 1) (nomark _)))))))))
/-! ### faults_of -/
theorem sc_faults_of : FnScope ["posts", "votes", "seats"] ["posts", "votes", "seats"] (defScope st_faults_of) := ⟨rfl, rfl, rfl, by decide +kernel, rfl, by decide +kernel, by decide +kernel⟩
theorem ok_faults_of (F : FnP K "faults_of" st_faults_of f fd)
    (g_tuple_of : FO P w K mg base "tuple_of" ["thing"] k F_tuple_of)
    (g_faults_in : FO P w K mg base "faults_in" ["posts", "votes", "seats"] k F_faults_in) :
    FnOk P w K mg base CX0 (k + 1) f fd ["posts", "votes", "seats"] (spD K 3 (Dl.run 3 (d_faults_of))) :=
  ok_defN F sc_faults_of rfl rfl fun cdv A outer s H E hr => by
    unfold d_faults_of 
    exact (rs_one (rs_ret (r_callF g_faults_in hr rfl rfl (ra_cons (r_callF g_tuple_of hr rfl rfl (ra_cons (r_var 0) ra_nil) (al_cons al_nil)) (ra_cons (r_callF g_tuple_of hr rfl rfl (ra_cons (r_var 1) ra_nil) (al_cons al_nil)) (ra_cons (r_callF g_tuple_of hr rfl rfl (ra_cons (r_var 2) ra_nil) (al_cons al_nil)) ra_nil))) (al_cons (al_cons (al_cons al_nil))))))
/-! ### is_deal -/
theorem sc_is_deal : FnScope ["posts", "votes", "seats"] ["posts", "votes", "seats"] (defScope st_is_deal) := ⟨rfl, rfl, rfl, by decide +kernel, rfl, by decide +kernel, by decide +kernel⟩
theorem ok_is_deal (F : FnP K "is_deal" st_is_deal f fd)
    (g_faults_of : FO P w K mg base "faults_of" ["posts", "votes", "seats"] k F_faults_of) :
    FnOk P w K mg base CX0 (k + 1) f fd ["posts", "votes", "seats"] (spD K 3 (Dl.run 3 (d_is_deal))) :=
  ok_defN F sc_is_deal rfl rfl fun cdv A outer s H E hr => by
    unfold d_is_deal 
    exact (rs_one (rs_ret (r_cmp (op_eqD hr.units) ok_eq (r_callF g_faults_of hr rfl rfl (ra_cons (r_var 0) (ra_cons (r_var 1) (ra_cons (r_var 2) ra_nil))) (al_cons (al_cons (al_cons al_nil)))) (r_lst ra_nil) (nomark _))))
/-! ### joined_seats -/
theorem sc_joined_seats : FnScope ["posts", "votes", "seats", "one", "other", "joined", "own", "low", "high"] ["posts", "votes", "seats", "one", "other"] (defScope st_joined_seats) := ⟨rfl, rfl, rfl, by decide +kernel, rfl, by decide +kernel, by decide +kernel⟩
theorem ok_joined_seats (F : FnP K "joined_seats" st_joined_seats f fd)
    (g_joined_votes : FO P w K mg base "joined_votes" ["votes", "one", "other"] k F_joined_votes)
    (g_tuple_of : FO P w K mg base "tuple_of" ["thing"] k F_tuple_of)
    (g_is_deal : FO P w K mg base "is_deal" ["posts", "votes", "seats"] k F_is_deal)
    (g_seat_ends : FO P w K mg base "seat_ends" ["posts", "votes", "house", "number"] k F_seat_ends)
    (m_sum : mg "sum" = none)
    (m_min : mg "min" = none) :
    FnOk P w K mg base CX0 (k + 1) f fd ["posts", "votes", "seats", "one", "other"] (spD K 5 (Dl.run 9 (d_joined_seats))) :=
  ok_defN F sc_joined_seats rfl rfl fun cdv A outer s H E hr => by
    unfold d_joined_seats 
    exact (rs_cons (rs_set 5 sc_joined_seats.nd rfl (Or.inl rfl) (r_callF g_joined_votes hr rfl rfl (ra_cons (r_var 1) (ra_cons (r_var 3) (ra_cons (r_var 4) ra_nil))) (al_cons (al_cons (al_cons al_nil)))))
    (rs_cons (rs_set 6 sc_joined_seats.nd rfl (Or.inl rfl) (r_callF g_tuple_of hr rfl rfl (ra_cons (r_var 0) ra_nil) (al_cons al_nil)))
    (rs_cons (rs_if (rt_not (rt_val (r_callF g_is_deal hr rfl rfl (ra_cons (r_var 6) (ra_cons (r_var 1) (ra_cons (r_var 2) ra_nil))) (al_cons (al_cons (al_cons al_nil)))))) (rs_one rs_never) rs_nil)
    (rs_cons (rs_tg (r_callF g_seat_ends hr rfl rfl (ra_cons (r_var 6) (ra_cons (r_var 5) (ra_cons (r_callB ok_sum (cr_sumA rfl) rfl m_sum (by rfl) (ra_cons (r_var 2) ra_nil)) (ra_cons (r_callB ok_min (cr_minA rfl) rfl m_min (by rfl) (ra_cons (r_var 3) (ra_cons (r_var 4) ra_nil))) ra_nil)))) (al_cons (al_cons (al_cons (al_cons al_nil))))) (pg_tup rfl (pgs_cons (pg_name (i := 7) sc_joined_seats.nd rfl (Or.inl rfl)) (pgs_cons (pg_name (i := 8) sc_joined_seats.nd rfl (Or.inl rfl)) pgs_nil))) (tg_tup (tg_cons (tg_name 7) (tg_cons (tg_name 8) tg_nil))))
    (rs_one (rs_ret (r_tup (ra_cons (r_op op_addA ok_add (r_ix ix_any ok_ix (r_var 2) (r_var 3) (fun _ _ => rfl)) (r_ix ix_any ok_ix (r_var 2) (r_var 4) (fun _ _ => rfl))) (ra_cons (r_var 7) (ra_cons (r_var 8) ra_nil))))))))))
/-! ### keeps_promise -/
theorem sc_keeps_promise : FnScope ["promise", "both", "low", "high"] ["promise", "both", "low", "high"] (defScope st_keeps_promise) := ⟨rfl, rfl, rfl, by decide +kernel, rfl, by decide +kernel, by decide +kernel⟩
theorem ok_keeps_promise (F : FnP K "keeps_promise" st_keeps_promise f fd)
    (h_NO_FEWER : CV K mg "NO_FEWER" c_NO_FEWER)
    (h_ONE_FEWER : CV K mg "ONE_FEWER" c_ONE_FEWER)
    (h_NO_MORE : CV K mg "NO_MORE" c_NO_MORE) :
    FnOk P w K mg base CX0 (k + 1) f fd ["promise", "both", "low", "high"] (spD K 4 (Dl.run 4 (d_keeps_promise))) :=
  ok_defN F sc_keeps_promise rfl rfl fun cdv A outer s H E hr => by
    unfold d_keeps_promise 
    exact (rs_cons (rs_if (rt_cmp (op_eqD hr.units) ok_eq (r_var 0) (r_glob h_NO_FEWER rfl) (nomark _)) (rs_one (rs_ret (r_cmp op_ge ok_ge (r_var 3) (r_var 1) (nomark _)))) rs_nil)
    (rs_cons (rs_if (rt_cmp (op_eqD hr.units) ok_eq (r_var 0) (r_glob h_ONE_FEWER rfl) (nomark _)) (rs_one (rs_ret (r_cmp op_ge ok_ge (r_var 3) (r_op op_sub ok_sub (r_var 1) r_int) (nomark _)))) rs_nil)
    (rs_one (rs_ret (r_if (rt_cmp (op_eqD hr.units) ok_eq (r_var 0) (r_glob h_NO_MORE rfl) (nomark _)) (r_cmp op_le ok_le (r_var 2) (r_var 1) (nomark _)) (r_cmp op_le ok_le (r_var 2) (r_op op_addA ok_add (r_var 1) r_int) (nomark _)))))))
/-! ### is_kept_at -/
theorem sc_is_kept_at : FnScope ["posts", "promise", "votes", "seats", "one", "other", "both", "low", "high"] ["posts", "promise", "votes", "seats", "one", "other"] (defScope st_is_kept_at) := ⟨rfl, rfl, rfl, by decide +kernel, rfl, by decide +kernel, by decide +kernel⟩
theorem ok_is_kept_at (F : FnP K "is_kept_at" st_is_kept_at f fd)
    (g_joined_seats : FO P w K mg base "joined_seats" ["posts", "votes", "seats", "one", "other"] k F_joined_seats)
    (g_keeps_promise : FO P w K mg base "keeps_promise" ["promise", "both", "low", "high"] k F_keeps_promise) :
    FnOk P w K mg base CX0 (k + 1) f fd ["posts", "promise", "votes", "seats", "one", "other"] (spD K 6 (Dl.run 9 (d_is_kept_at))) :=
  ok_defN F sc_is_kept_at rfl rfl fun cdv A outer s H E hr => by
    unfold d_is_kept_at 
    exact (rs_cons (rs_tg (r_callF g_joined_seats hr rfl rfl (ra_cons (r_var 0) (ra_cons (r_var 2) (ra_cons (r_var 3) (ra_cons (r_var 4) (ra_cons (r_var 5) ra_nil))))) (al_cons (al_cons (al_cons (al_cons (al_cons al_nil)))))) (pg_tup rfl (pgs_cons (pg_name (i := 6) sc_is_kept_at.nd rfl (Or.inl rfl)) (pgs_cons (pg_name (i := 7) sc_is_kept_at.nd rfl (Or.inl rfl)) (pgs_cons (pg_name (i := 8) sc_is_kept_at.nd rfl (Or.inl rfl)) pgs_nil)))) (tg_tup (tg_cons (tg_name 6) (tg_cons (tg_name 7) (tg_cons (tg_name 8) tg_nil)))))
    (rs_one (rs_ret (r_callF g_keeps_promise hr rfl rfl (ra_cons (r_var 1) (ra_cons (r_var 6) (ra_cons (r_var 7) (ra_cons (r_var 8) ra_nil)))) (al_cons (al_cons (al_cons (al_cons al_nil))))))))
/-! ### starts_bare -/
theorem sc_starts_bare : FnScope ["posts"] ["posts"] (defScope st_starts_bare) := ⟨rfl, rfl, rfl, by decide +kernel, rfl, by decide +kernel, by decide +kernel⟩
theorem ok_starts_bare (F : FnP K "starts_bare" st_starts_bare f fd)
    (g_post_in : FO P w K mg base "post_in" ["posts", "seats"] k F_post_in)
    (h_ZERO : CV K mg "ZERO" c_ZERO) :
    FnOk P w K mg base CX0 (k + 1) f fd ["posts"] (spD K 1 (Dl.run 1 (d_starts_bare))) :=
  ok_defN F sc_starts_bare rfl rfl fun cdv A outer s H E hr => by
    unfold d_starts_bare 
    exact (rs_one (rs_ret (r_cmp (op_eqD hr.units) ok_eq (r_callF g_post_in hr rfl rfl (ra_cons (r_var 0) (ra_cons r_int ra_nil)) (al_cons (al_cons al_nil))) (r_glob h_ZERO rfl) (nomark _))))
/-! ### limit_of -/
theorem sc_limit_of : FnScope ["posts", "promise", "a", "b", "parts"] ["posts", "promise", "a", "b"] (defScope st_limit_of) := ⟨rfl, rfl, rfl, by decide +kernel, rfl, by decide +kernel, by decide +kernel⟩
theorem ok_limit_of (F : FnP K "limit_of" st_limit_of f fd)
    (g_post_in : FO P w K mg base "post_in" ["posts", "seats"] k F_post_in)
    (g_plus : FO P w K mg base "plus" ["one", "other"] k F_plus)
    (h_NO_FEWER : CV K mg "NO_FEWER" c_NO_FEWER)
    (h_ONE_FEWER : CV K mg "ONE_FEWER" c_ONE_FEWER)
    (h_NO_MORE : CV K mg "NO_MORE" c_NO_MORE) :
    FnOk P w K mg base CX0 (k + 1) f fd ["posts", "promise", "a", "b"] (spD K 4 (Dl.run 5 (d_limit_of))) :=
  ok_defN F sc_limit_of rfl rfl fun cdv A outer s H E hr => by
    unfold d_limit_of 
    exact (rs_cons (rs_if (rt_cmp (op_inA (rmU hr)) ok_in (r_var 1) (r_tup (ra_cons (r_glob h_NO_FEWER rfl) (ra_cons (r_glob h_ONE_FEWER rfl) ra_nil))) (by with_unfolding_all rfl)) (rs_cons (rs_set 4 sc_limit_of.nd rfl (Or.inl rfl) (r_callF g_plus hr rfl rfl (ra_cons (r_callF g_post_in hr rfl rfl (ra_cons (r_var 0) (ra_cons (r_op op_sub ok_sub (r_var 2) r_int) ra_nil)) (al_cons (al_cons al_nil))) (ra_cons (r_callF g_post_in hr rfl rfl (ra_cons (r_var 0) (ra_cons (r_op op_sub ok_sub (r_var 3) r_int) ra_nil)) (al_cons (al_cons al_nil))) ra_nil)) (al_cons (al_cons al_nil))))
    (rs_one (rs_ret (r_tup (ra_cons (r_var 4) (ra_cons (r_callF g_post_in hr rfl rfl (ra_cons (r_var 0) (ra_cons (r_op op_sub ok_sub (r_op op_addA ok_add (r_var 2) (r_var 3)) (r_if (rt_cmp (op_eqD hr.units) ok_eq (r_var 1) (r_glob h_NO_FEWER rfl) (nomark _)) r_int r_int)) ra_nil)) (al_cons (al_cons al_nil))) ra_nil)))))) rs_nil)
    (rs_cons (rs_set 4 sc_limit_of.nd rfl (Or.inl rfl) (r_callF g_plus hr rfl rfl (ra_cons (r_callF g_post_in hr rfl rfl (ra_cons (r_var 0) (ra_cons (r_var 2) ra_nil)) (al_cons (al_cons al_nil))) (ra_cons (r_callF g_post_in hr rfl rfl (ra_cons (r_var 0) (ra_cons (r_var 3) ra_nil)) (al_cons (al_cons al_nil))) ra_nil)) (al_cons (al_cons al_nil))))
    (rs_one (rs_ret (r_tup (ra_cons (r_var 4) (ra_cons (r_callF g_post_in hr rfl rfl (ra_cons (r_var 0) (ra_cons (r_op op_addA ok_add (r_op op_addA ok_add (r_var 2) (r_var 3)) (r_if (rt_cmp (op_eqD hr.units) ok_eq (r_var 1) (r_glob h_NO_MORE rfl) (nomark _)) r_int r_int)) ra_nil)) (al_cons (al_cons al_nil))) ra_nil)))))))
/-! ### is_broken_by -/
theorem sc_is_broken_by : FnScope ["posts", "promise", "a", "b", "parts", "one"] ["posts", "promise", "a", "b"] (defScope st_is_broken_by) := ⟨rfl, rfl, rfl, by decide +kernel, rfl, by decide +kernel, by decide +kernel⟩
theorem ok_is_broken_by (F : FnP K "is_broken_by" st_is_broken_by f fd)
    (g_limit_of : FO P w K mg base "limit_of" ["posts", "promise", "a", "b"] k F_limit_of)
    (g_is_less : FO P w K mg base "is_less" ["one", "other"] k F_is_less)
    (h_NO_FEWER : CV K mg "NO_FEWER" c_NO_FEWER)
    (h_ONE_FEWER : CV K mg "ONE_FEWER" c_ONE_FEWER) :
    FnOk P w K mg base CX0 (k + 1) f fd ["posts", "promise", "a", "b"] (spD K 4 (Dl.run 6 (d_is_broken_by))) :=
  ok_defN F sc_is_broken_by rfl rfl fun cdv A outer s H E hr => by
    unfold d_is_broken_by 
    exact (rs_cons (rs_tg (r_callF g_limit_of hr rfl rfl (ra_cons (r_var 0) (ra_cons (r_var 1) (ra_cons (r_var 2) (ra_cons (r_var 3) ra_nil)))) (al_cons (al_cons (al_cons (al_cons al_nil))))) (pg_tup rfl (pgs_cons (pg_name (i := 4) sc_is_broken_by.nd rfl (Or.inl rfl)) (pgs_cons (pg_name (i := 5) sc_is_broken_by.nd rfl (Or.inl rfl)) pgs_nil))) (tg_tup (tg_cons (tg_name 4) (tg_cons (tg_name 5) tg_nil))))
    (rs_one (rs_ret (r_if (rt_cmp (op_inA (rmU hr)) ok_in (r_var 1) (r_tup (ra_cons (r_glob h_NO_FEWER rfl) (ra_cons (r_glob h_ONE_FEWER rfl) ra_nil))) (by with_unfolding_all rfl)) (r_callF g_is_less hr rfl rfl (ra_cons (r_var 4) (ra_cons (r_var 5) ra_nil)) (al_cons (al_cons al_nil))) (r_callF g_is_less hr rfl rfl (ra_cons (r_var 5) (ra_cons (r_var 4) ra_nil)) (al_cons (al_cons al_nil)))))))
/-! ### keeps_always -/
theorem sc_keeps_always : FnScope ["posts", "promise", "own", "least", "a", "b", "k", "part"] ["posts", "promise"] (defScope st_keeps_always) := ⟨rfl, rfl, rfl, by decide +kernel, rfl, by decide +kernel, by decide +kernel⟩
theorem ok_keeps_always (F : FnP K "keeps_always" st_keeps_always f fd)
    (g_tuple_of : FO P w K mg base "tuple_of" ["thing"] k F_tuple_of)
    (g_starts_bare : FO P w K mg base "starts_bare" ["posts"] k F_starts_bare)
    (g_whole : FO P w K mg base "whole" ["number"] k F_whole)
    (g_is_broken_by : FO P w K mg base "is_broken_by" ["posts", "promise", "a", "b"] k F_is_broken_by)
    (m_int : mg "int" = none)
    (m_enumerate : mg "enumerate" = none)
    (m_all : mg "all" = none)
    (m_range : mg "range" = none)
    (h_NO_FEWER : CV K mg "NO_FEWER" c_NO_FEWER)
    (h_NO_MORE : CV K mg "NO_MORE" c_NO_MORE)
    (h_ZERO : CV K mg "ZERO" c_ZERO)
    (h_MOST_ROW : CV K mg "MOST_ROW" c_MOST_ROW) :
    FnOk P w K mg base CX0 (k + 1) f fd ["posts", "promise"] (spD K 2 (Dl.run 8 (d_keeps_always))) :=
  ok_defN F sc_keeps_always rfl rfl fun cdv A outer s H E hr => by
    unfold d_keeps_always B_keeps_always_3 B_keeps_always_2 E_keeps_always_1 E_keeps_always_0
    exact (rs_cons (rs_set 2 sc_keeps_always.nd rfl (Or.inl rfl) (r_callF g_tuple_of hr rfl rfl (ra_cons (r_var 0) ra_nil) (al_cons al_nil)))
    (rs_cons (rs_set 3 sc_keeps_always.nd rfl (Or.inl rfl) (r_callTy ok_int1 call_int1 rfl m_int (by rfl) (ra_cons (r_callF g_starts_bare hr rfl rfl (ra_cons (r_var 2) ra_nil) (al_cons al_nil)) ra_nil)))
    (rs_cons (rs_if (rt_cmp (op_eqD hr.units) ok_eq (r_var 1) (r_glob h_NO_FEWER rfl) (nomark _)) (rs_one (rs_ret (r_and (r_cmp (op_eqD hr.units) ok_eq (r_ix ix_any ok_ix (r_var 2) r_int (fun _ _ => rfl)) (r_tup (ra_cons r_int (ra_cons r_int ra_nil))) (nomark _)) (r_one (r_callB ok_all (cr_all rfl) rfl m_all (by rfl) (ra_cons (r_lc (own := [("k", 6), ("part", 7)]) rfl sc_keeps_always.nd (ri_enum rfl m_enumerate (r_ix ix_any ok_ix (r_var 2) r_int (fun _ _ => rfl))) (blkOk_by (N := ["posts", "promise", "own", "least", "a", "b", "k", "part"]) (sc := defScope st_keeps_always) (by decide +kernel)) (fun _ _ _ _ _ => (pg_tup rfl (pgs_cons (pg_name (i := 6) sc_keeps_always.nd rfl (Or.inl rfl)) (pgs_cons (pg_name (i := 7) sc_keeps_always.nd rfl (Or.inl rfl)) pgs_nil)))) (fun _ _ _ _ _ => pts_nilB) (fun _ _ _ _ _ => (r_cmp (op_eqD hr.units) ok_eq (r_var 7) (r_callF g_whole hr rfl rfl (ra_cons (r_op op_addA ok_add (r_var 6) r_int) ra_nil) (al_cons al_nil)) (nomark _))) (tg_tup (tg_cons (tg_name 6) (tg_cons (tg_name 7) tg_nil))) (by decide)) ra_nil)))))) rs_nil)
    (rs_cons (rs_if (rt_cmp (op_eqD hr.units) ok_eq (r_var 1) (r_glob h_NO_MORE rfl) (nomark _)) (rs_one (rs_ret (r_and (r_cmp (op_eqD hr.units) ok_eq (r_ix ix_any ok_ix (r_var 2) r_int (fun _ _ => rfl)) (r_glob h_ZERO rfl) (nomark _)) (r_one (r_callB ok_all (cr_all rfl) rfl m_all (by rfl) (ra_cons (r_lc (own := [("k", 6), ("part", 7)]) rfl sc_keeps_always.nd (ri_enum rfl m_enumerate (r_ix ix_any ok_ix (r_var 2) r_int (fun _ _ => rfl))) (blkOk_by (N := ["posts", "promise", "own", "least", "a", "b", "k", "part"]) (sc := defScope st_keeps_always) (by decide +kernel)) (fun _ _ _ _ _ => (pg_tup rfl (pgs_cons (pg_name (i := 6) sc_keeps_always.nd rfl (Or.inl rfl)) (pgs_cons (pg_name (i := 7) sc_keeps_always.nd rfl (Or.inl rfl)) pgs_nil)))) (fun _ _ _ _ _ => pts_nilB) (fun _ _ _ _ _ => (r_cmp (op_eqD hr.units) ok_eq (r_var 7) (r_callF g_whole hr rfl rfl (ra_cons (r_var 6) ra_nil) (al_cons al_nil)) (nomark _))) (tg_tup (tg_cons (tg_name 6) (tg_cons (tg_name 7) tg_nil))) (by decide)) ra_nil)))))) rs_nil)
    (rs_cons (rs_for PassesOwn.never rfl (ri_rg2 rfl m_range (ra_cons (r_var 3) (ra_cons (r_op op_addA ok_add (r_glob h_MOST_ROW rfl) r_int) ra_nil))) (pg_name (i := 4) sc_keeps_always.nd rfl (Or.inl rfl)) (tg_name 4) (rs_one (rs_for PassesOwn.never rfl (ri_rg2 rfl m_range (ra_cons (r_var 3) (ra_cons (r_op op_addA ok_add (r_var 4) r_int) ra_nil))) (pg_name (i := 5) sc_keeps_always.nd rfl (Or.inl rfl)) (tg_name 5) (rs_one (rs_if (rt_val (r_callF g_is_broken_by hr rfl rfl (ra_cons (r_var 2) (ra_cons (r_var 1) (ra_cons (r_var 4) (ra_cons (r_var 5) ra_nil)))) (al_cons (al_cons (al_cons (al_cons al_nil)))))) (rs_one (rs_ret r_bl)) rs_nil)))))
    (rs_one (rs_ret r_bl)))))))
/-! ### law -/
theorem sc_law : FnScope ["script", "urn", "votes", "house", "at", "near", "parted", "share", "posts", "sums", "before", "own", "rows", "seats", "both", "due", "most", "ones", "kept", "was"] ["script"] (defScope st_law) := ⟨rfl, rfl, rfl, by decide +kernel, rfl, by decide +kernel, by decide +kernel⟩
theorem ok_law (F : FnP K "law" st_law f fd)
    (g__law_cells : FO P w K mg base "_law_cells" ["script", "many"] k F__law_cells)
    (g__law_box : FO P w K mg base "_law_box" ["script", "k"] k F__law_box)
    (g__law_take : FO P w K mg base "_law_take" ["urn", "below"] k F__law_take)
    (g__law_votes : FO P w K mg base "_law_votes" ["urn", "many"] k F__law_votes)
    (g_joined_votes : FO P w K mg base "joined_votes" ["votes", "one", "other"] k F_joined_votes)
    (g__law_of : FO P w K mg base "_law_of" ["urn", "some"] k F__law_of)
    (g_even_posts : FO P w K mg base "even_posts" ["share"] k F_even_posts)
    (g_deals_of : FO P w K mg base "deals_of" ["posts", "votes", "house"] k F_deals_of)
    (g_seat_ends : FO P w K mg base "seat_ends" ["posts", "votes", "house", "number"] k F_seat_ends)
    (g_keeps_always : FO P w K mg base "keeps_always" ["posts", "promise"] k F_keeps_always)
    (g__law_same : FO P w K mg base "_law_same" ["got", "goal"] k F__law_same)
    (g__law_rule : FO P w K mg base "_law_rule" ["urn"] k F__law_rule)
    (g_joined_seats : FO P w K mg base "joined_seats" ["posts", "votes", "seats", "one", "other"] k F_joined_seats)
    (g_is_kept_at : FO P w K mg base "is_kept_at" ["posts", "promise", "votes", "seats", "one", "other"] k F_is_kept_at)
    (m_tuple : mg "tuple" = none)
    (m_len : mg "len" = none)
    (m_min : mg "min" = none)
    (m_max : mg "max" = none)
    (hp : ∀ ns : List Int, ns.length ≤ 63 → ∃ (ms : Ur) (u0 u' : Ur), u_law (ev0 19 ns) [] = some (.own (ms.map PyData.int), u0) ∧ d_law ((ev0 19 ns).set 1 .urn) ms = some (.rt (.val (.bool true)), u')) :
    FnOk P w K mg base CX0 (k + 1) f fd ["script"] (spLaw K) :=
  ok_top (i := 1) (ff := u_law) (g := d_law) F sc_law (fun cdv A outer s H E hr => by
    unfold d_law u_law B_law_7 E_law_6 E_law_5 B_law_4 B_law_3 E_law_2 E_law_1 E_law_0
    exact (rs_urn 1 sc_law.nd rfl (Or.inl rfl) (r_callF g__law_box hr rfl rfl (ra_cons (r_callF g__law_cells hr rfl rfl (ra_cons (r_var 0) (ra_cons r_int ra_nil)) (al_cons (al_cons al_nil))) (ra_cons r_int ra_nil)) (al_cons (al_cons al_nil)))
    (rs_cons (rs_tg (r_tup (ra_cons (r_callF g__law_votes hr rfl rfl (ra_cons (r_var 1) (ra_cons (r_op op_addA ok_add r_int (r_callF g__law_take hr rfl rfl (ra_cons (r_var 1) (ra_cons r_int ra_nil)) (al_cons (al_cons al_nil)))) ra_nil)) (al_cons (al_cons al_nil))) (ra_cons (r_callF g__law_take hr rfl rfl (ra_cons (r_var 1) (ra_cons r_int ra_nil)) (al_cons (al_cons al_nil))) ra_nil))) (pg_tup rfl (pgs_cons (pg_name (i := 2) sc_law.nd rfl (Or.inr rfl)) (pgs_cons (pg_name (i := 3) sc_law.nd rfl (Or.inl rfl)) pgs_nil))) (tg_tup (tg_cons (tg_name 2) (tg_cons (tg_name 3) tg_nil))))
    (rs_cons (rs_set 2 sc_law.nd rfl (Or.inr rfl) (r_callTy ok_tuple call_tuple_of rfl m_tuple (by rfl) (ra_cons (r_lc (own := [("own", 11)]) rfl sc_law.nd (ri_seq (r_var 2)) (blkOk_by (N := ["script", "urn", "votes", "house", "at", "near", "parted", "share", "posts", "sums", "before", "own", "rows", "seats", "both", "due", "most", "ones", "kept", "was"]) (sc := defScope st_law) (by decide +kernel)) (fun _ _ _ _ _ => (pg_name (i := 11) sc_law.nd rfl (Or.inl rfl))) (fun _ _ _ _ _ => pts_nilB) (fun _ _ _ _ _ => (r_op op_addA ok_add (r_var 11) r_int)) (tg_name 11) (by decide)) ra_nil)))
    (rs_cons (rs_set 4 sc_law.nd rfl (Or.inr rfl) (r_callF g__law_take hr rfl rfl (ra_cons (r_var 1) (ra_cons (r_callB ok_len call_len_seq rfl m_len (by rfl) (ra_cons (r_var 2) ra_nil)) ra_nil)) (al_cons (al_cons al_nil))))
    (rs_cons (rs_set 5 sc_law.nd rfl (Or.inl rfl) (r_op op_addA ok_add r_int (r_callF g__law_take hr rfl rfl (ra_cons (r_var 1) (ra_cons (r_op op_sub ok_sub (r_ix ix_any ok_ix (r_var 2) (r_var 4) (fun _ _ => rfl)) r_int) ra_nil)) (al_cons (al_cons al_nil)))))
    (rs_cons (rs_set 6 sc_law.nd rfl (Or.inr rfl) (r_op op_addA ok_add (r_op op_addA ok_add (r_op op_addA ok_add (r_slice (r_var 2) ro_no (ro_so (r_var 4))) (r_tup (ra_cons (r_var 5) ra_nil))) (r_slice (r_var 2) (ro_so (r_op op_addA ok_add (r_var 4) r_int)) ro_no)) (r_tup (ra_cons (r_op op_sub ok_sub (r_ix ix_any ok_ix (r_var 2) (r_var 4) (fun _ _ => rfl)) (r_var 5)) ra_nil))))
    (rs_cons (rs_if (PW.pt (rw_or (rt_cmp (op_neD hr.units) ok_ne (r_callF g_joined_votes hr rfl rfl (ra_cons (r_var 6) (ra_cons (r_var 4) (ra_cons (r_callB ok_len call_len_seq rfl m_len (by rfl) (ra_cons (r_var 2) ra_nil)) ra_nil))) (al_cons (al_cons (al_cons al_nil)))) (r_var 2) (nomark _)) (rw_or1 (rt_cmp (op_neD hr.units) ok_ne (r_callF g_joined_votes hr rfl rfl (ra_cons (r_var 6) (ra_cons (r_callB ok_len call_len_seq rfl m_len (by rfl) (ra_cons (r_var 2) ra_nil)) (ra_cons (r_var 4) ra_nil))) (al_cons (al_cons (al_cons al_nil)))) (r_var 2) (nomark _))))) (rs_one (rs_ret r_bl)) rs_nil)
    (rs_cons (rs_for PassesOwn.never rfl (ri_seq (r_tup (ra_cons (r_tup (ra_cons r_int (ra_cons r_int ra_nil))) (ra_cons (r_tup (ra_cons r_int (ra_cons r_int ra_nil))) (ra_cons (r_callF g__law_of hr rfl rfl (ra_cons (r_var 1) (ra_cons (r_lst (ra_cons (r_tup (ra_cons r_int (ra_cons r_int ra_nil))) (ra_cons (r_tup (ra_cons r_int (ra_cons r_int ra_nil))) (ra_cons (r_tup (ra_cons r_int (ra_cons r_int ra_nil))) ra_nil)))) ra_nil)) (al_cons (al_cons al_nil))) ra_nil))))) (pg_name (i := 7) sc_law.nd rfl (Or.inl rfl)) (tg_name 7) (rs_cons (rs_set 8 sc_law.nd rfl (Or.inr rfl) (r_callF g_even_posts hr rfl rfl (ra_cons (r_var 7) ra_nil) (al_cons al_nil)))
    (rs_cons (rs_setLc 9 (own := [("own", 11)]) rfl sc_law.nd rfl rfl (sw_true rfl rfl rfl rfl) (ri_seq (r_callF g_deals_of hr rfl rfl (ra_cons (r_var 8) (ra_cons (r_var 6) (ra_cons (r_var 3) ra_nil))) (al_cons (al_cons (al_cons al_nil))))) (blkOk_by (N := ["script", "urn", "votes", "house", "at", "near", "parted", "share", "posts", "sums", "before", "own", "rows", "seats", "both", "due", "most", "ones", "kept", "was"]) (sc := defScope st_law) (by decide +kernel)) (fun _ _ _ _ _ => (pg_name (i := 11) sc_law.nd rfl (Or.inl rfl))) (fun _ _ _ _ _ => pts_nilB) (fun _ _ _ _ _ => (r_op op_addA ok_add (r_ix ix_any ok_ix (r_var 11) (r_var 4) (fun _ _ => rfl)) (r_ix ix_any ok_ix (r_var 11) (r_neg r_int) (fun _ _ => rfl)))) (tg_name 11) (by decide))
    (rs_cons (rs_setLc 10 (own := [("own", 11)]) rfl sc_law.nd rfl rfl (sw_true rfl rfl rfl rfl) (ri_seq (r_callF g_deals_of hr rfl rfl (ra_cons (r_var 8) (ra_cons (r_var 2) (ra_cons (r_var 3) ra_nil))) (al_cons (al_cons (al_cons al_nil))))) (blkOk_by (N := ["script", "urn", "votes", "house", "at", "near", "parted", "share", "posts", "sums", "before", "own", "rows", "seats", "both", "due", "most", "ones", "kept", "was"]) (sc := defScope st_law) (by decide +kernel)) (fun _ _ _ _ _ => (pg_name (i := 11) sc_law.nd rfl (Or.inl rfl))) (fun _ _ _ _ _ => pts_nilB) (fun _ _ _ _ _ => (r_ix ix_any ok_ix (r_var 11) (r_var 4) (fun _ _ => rfl))) (tg_name 11) (by decide))
    (rs_cons (rs_if (PW.pt (rw_and (rt_cmp (op_neD hr.units) ok_ne (r_var 9) (r_lst ra_nil) (nomark _)) (rw_and1 (rt_cmp (op_neD hr.units) ok_ne (r_var 10) (r_lst ra_nil) (nomark _))))) (rs_cons (rs_if (PW.pt (rw_or (PW.pt (rw_and (rt_cmp (op_eqD hr.units) ok_eq (r_var 7) (r_tup (ra_cons r_int (ra_cons r_int ra_nil))) (nomark _)) (rw_and1 (rt_cmp op_gt ok_gt (r_callB ok_min (cr_minA rfl) rfl m_min (by rfl) (ra_cons (r_var 9) ra_nil)) (r_callB ok_max (cr_maxA rfl) rfl m_max (by rfl) (ra_cons (r_var 10) ra_nil)) (nomark _))))) (rw_or1 (PW.pt (rw_and (rt_cmp (op_eqD hr.units) ok_eq (r_var 7) (r_tup (ra_cons r_int (ra_cons r_int ra_nil))) (nomark _)) (rw_and1 (rt_cmp op_lt ok_lt (r_callB ok_max (cr_maxA rfl) rfl m_max (by rfl) (ra_cons (r_var 9) ra_nil)) (r_callB ok_min (cr_minA rfl) rfl m_min (by rfl) (ra_cons (r_var 10) ra_nil)) (nomark _)))))))) (rs_one (rs_ret r_bl)) rs_nil)
    (rs_cons (rs_if (PW.pt (rw_or (rt_cmp op_gt ok_gt (r_callB ok_max (cr_maxA rfl) rfl m_max (by rfl) (ra_cons (r_var 9) ra_nil)) (r_op op_addA ok_add (r_callB ok_max (cr_maxA rfl) rfl m_max (by rfl) (ra_cons (r_var 10) ra_nil)) r_int) (nomark _)) (rw_or1 (rt_cmp op_lt ok_lt (r_callB ok_min (cr_minA rfl) rfl m_min (by rfl) (ra_cons (r_var 9) ra_nil)) (r_op op_sub ok_sub (r_callB ok_min (cr_minA rfl) rfl m_min (by rfl) (ra_cons (r_var 10) ra_nil)) r_int) (nomark _))))) (rs_one (rs_ret r_bl)) rs_nil)
    (rs_cons (rs_ghost 10 (rs_for PassesOwn.never rfl (ri_seq (r_var 10)) (pg_name (i := 11) sc_law.nd rfl (Or.inl rfl)) (tg_name 11) (rs_one (rs_if (PW.pt (rw_or (PW.pt (rw_and (rt_cmp (op_eqD hr.units) ok_eq (r_var 7) (r_tup (ra_cons r_int (ra_cons r_int ra_nil))) (nomark _)) (rw_and1 (rt_cmp op_gt ok_gt (r_callB ok_min (cr_minA rfl) rfl m_min (by rfl) (ra_cons (r_var 9) ra_nil)) (r_var 11) (nomark _))))) (rw_or1 (PW.pt (rw_and (rt_cmp (op_eqD hr.units) ok_eq (r_var 7) (r_tup (ra_cons r_int (ra_cons r_int ra_nil))) (nomark _)) (rw_and1 (rt_cmp op_lt ok_lt (r_callB ok_max (cr_maxA rfl) rfl m_max (by rfl) (ra_cons (r_var 9) ra_nil)) (r_var 11) (nomark _)))))))) (rs_one (rs_ret r_bl)) rs_nil))))
    (rs_one (rs_if (rt_cmp (op_neD hr.units) ok_ne (r_tup (ra_cons (r_callB ok_min (cr_minA rfl) rfl m_min (by rfl) (ra_cons (r_var 10) ra_nil)) (ra_cons (r_callB ok_max (cr_maxA rfl) rfl m_max (by rfl) (ra_cons (r_var 10) ra_nil)) ra_nil))) (r_callF g_seat_ends hr rfl rfl (ra_cons (r_var 8) (ra_cons (r_var 2) (ra_cons (r_var 3) (ra_cons (r_var 4) ra_nil)))) (al_cons (al_cons (al_cons (al_cons al_nil))))) (nomark _)) (rs_one (rs_ret r_bl)) rs_nil))))) rs_nil)
    (rs_one (rs_if (rt_not (rt_val (r_callF g__law_same hr rfl rfl (ra_cons (r_lst (ra_cons (r_callF g_keeps_always hr rfl rfl (ra_cons (r_var 8) (ra_cons r_str ra_nil)) (al_cons (al_cons al_nil))) (ra_cons (r_callF g_keeps_always hr rfl rfl (ra_cons (r_var 8) (ra_cons r_str ra_nil)) (al_cons (al_cons al_nil))) ra_nil))) (ra_cons (r_lst (ra_cons (r_cmp (op_eqD hr.units) ok_eq (r_var 7) (r_tup (ra_cons r_int (ra_cons r_int ra_nil))) (nomark _)) (ra_cons (r_cmp (op_eqD hr.units) ok_eq (r_var 7) (r_tup (ra_cons r_int (ra_cons r_int ra_nil))) (nomark _)) ra_nil))) ra_nil)) (al_cons (al_cons al_nil))))) (rs_one (rs_ret r_bl)) rs_nil)))))))
    (rs_cons (rs_set 8 sc_law.nd rfl (Or.inr rfl) (r_callF g__law_rule hr rfl rfl (ra_cons (r_var 1) ra_nil) (al_cons al_nil)))
    (rs_cons (rs_setLc 12 (own := [("own", 11)]) rfl sc_law.nd rfl rfl (sw_true rfl rfl rfl rfl) (ri_seq (r_callF g_deals_of hr rfl rfl (ra_cons (r_var 8) (ra_cons (r_var 2) (ra_cons (r_var 3) ra_nil))) (al_cons (al_cons (al_cons al_nil))))) (blkOk_by (N := ["script", "urn", "votes", "house", "at", "near", "parted", "share", "posts", "sums", "before", "own", "rows", "seats", "both", "due", "most", "ones", "kept", "was"]) (sc := defScope st_law) (by decide +kernel)) (fun _ _ _ _ _ => (pg_name (i := 11) sc_law.nd rfl (Or.inl rfl))) (fun _ _ _ _ _ => pts_nilB) (fun _ _ _ _ _ => (r_ix ix_any ok_ix (r_var 11) (r_var 4) (fun _ _ => rfl))) (tg_name 11) (by decide))
    (rs_cons (rs_for PassesOwn.never rfl (ri_seq (r_slice (r_callF g_deals_of hr rfl rfl (ra_cons (r_var 8) (ra_cons (r_var 6) (ra_cons (r_var 3) ra_nil))) (al_cons (al_cons (al_cons al_nil)))) ro_no (ro_so r_int))) (pg_name (i := 13) sc_law.nd rfl (Or.inr rfl)) (tg_name 13) (rs_cons (rs_set 14 sc_law.nd rfl (Or.inl rfl) (r_op op_addA ok_add (r_ix ix_any ok_ix (r_var 13) (r_var 4) (fun _ _ => rfl)) (r_ix ix_any ok_ix (r_var 13) (r_neg r_int) (fun _ _ => rfl))))
    (rs_cons (rs_if (rt_cmp (op_neD hr.units) ok_ne (r_callF g_joined_seats hr rfl rfl (ra_cons (r_var 8) (ra_cons (r_var 6) (ra_cons (r_var 13) (ra_cons (r_var 4) (ra_cons (r_callB ok_len call_len_seq rfl m_len (by rfl) (ra_cons (r_var 2) ra_nil)) ra_nil))))) (al_cons (al_cons (al_cons (al_cons (al_cons al_nil)))))) (r_tup (ra_cons (r_var 14) (ra_cons (r_callB ok_min (cr_minA rfl) rfl m_min (by rfl) (ra_cons (r_var 12) ra_nil)) (ra_cons (r_callB ok_max (cr_maxA rfl) rfl m_max (by rfl) (ra_cons (r_var 12) ra_nil)) ra_nil)))) (nomark _)) (rs_one (rs_ret r_bl)) rs_nil)
    (rs_cons (rs_set 15 sc_law.nd rfl (Or.inl rfl) (r_lst (ra_cons (r_cmp op_ge ok_ge (r_callB ok_max (cr_maxA rfl) rfl m_max (by rfl) (ra_cons (r_var 12) ra_nil)) (r_var 14) (nomark _)) (ra_cons (r_cmp op_ge ok_ge (r_callB ok_max (cr_maxA rfl) rfl m_max (by rfl) (ra_cons (r_var 12) ra_nil)) (r_op op_sub ok_sub (r_var 14) r_int) (nomark _)) (ra_cons (r_cmp op_le ok_le (r_callB ok_min (cr_minA rfl) rfl m_min (by rfl) (ra_cons (r_var 12) ra_nil)) (r_var 14) (nomark _)) (ra_cons (r_cmp op_le ok_le (r_callB ok_min (cr_minA rfl) rfl m_min (by rfl) (ra_cons (r_var 12) ra_nil)) (r_op op_addA ok_add (r_var 14) r_int) (nomark _)) ra_nil))))))
    (rs_one (rs_if (rt_cmp (op_neD hr.units) ok_ne (r_lc (own := [("own", 11)]) rfl sc_law.nd (ri_seq (r_tup (ra_cons r_str (ra_cons r_str (ra_cons r_str (ra_cons r_str ra_nil)))))) (blkOk_by (N := ["script", "urn", "votes", "house", "at", "near", "parted", "share", "posts", "sums", "before", "own", "rows", "seats", "both", "due", "most", "ones", "kept", "was"]) (sc := defScope st_law) (by decide +kernel)) (fun _ _ _ _ _ => (pg_name (i := 11) sc_law.nd rfl (Or.inl rfl))) (fun _ _ _ _ _ => pts_nilB) (fun _ _ _ _ _ => (r_callF g_is_kept_at hr rfl rfl (ra_cons (r_var 8) (ra_cons (r_var 11) (ra_cons (r_var 6) (ra_cons (r_var 13) (ra_cons (r_var 4) (ra_cons (r_callB ok_len call_len_seq rfl m_len (by rfl) (ra_cons (r_var 2) ra_nil)) ra_nil)))))) (al_cons (al_cons (al_cons (al_cons (al_cons (al_cons al_nil)))))))) (tg_name 11) (by decide)) (r_var 15) (nomark _)) (rs_one (rs_ret r_bl)) rs_nil))))))
    (rs_cons (rs_set 16 sc_law.nd rfl (Or.inl rfl) (r_op op_addA ok_add (r_op op_addA ok_add (r_op op_addA ok_add (r_slice (r_var 2) ro_no (ro_so (r_var 4))) (r_tup (ra_cons (r_op op_sub ok_sub (r_ix ix_any ok_ix (r_var 2) (r_var 4) (fun _ _ => rfl)) r_int) ra_nil))) (r_slice (r_var 2) (ro_so (r_op op_addA ok_add (r_var 4) r_int)) ro_no)) (r_tup (ra_cons r_int ra_nil))))
    (rs_cons (rs_set 17 sc_law.nd rfl (Or.inl rfl) (r_callF g_even_posts hr rfl rfl (ra_cons (r_tup (ra_cons r_int (ra_cons r_int ra_nil))) ra_nil) (al_cons al_nil)))
    (rs_cons (rs_par2 18 19 rfl sc_law.nd rfl rfl (by decide) rfl rfl (r_callF g_seat_ends hr rfl rfl (ra_cons (r_var 17) (ra_cons (r_var 16) (ra_cons (r_var 3) (ra_cons (r_var 4) ra_nil)))) (al_cons (al_cons (al_cons (al_cons al_nil))))) (r_callF g_seat_ends hr rfl rfl (ra_cons (r_var 17) (ra_cons (r_var 2) (ra_cons (r_var 3) (ra_cons (r_var 4) ra_nil)))) (al_cons (al_cons (al_cons (al_cons al_nil))))) rfl)
    (rs_one (rs_ret (r_and (r_cmp op_le ok_le (r_ix ix_any ok_ix (r_var 18) r_int (fun _ _ => rfl)) (r_ix ix_any ok_ix (r_var 19) r_int (fun _ _ => rfl)) (nomark _)) (r_one (r_cmp op_le ok_le (r_ix ix_any ok_ix (r_var 18) r_int (fun _ _ => rfl)) (r_ix ix_any ok_ix (r_var 19) r_int (fun _ _ => rfl)) (nomark _))))))))))))))))))))) hp
end
end K45
end

section
set_option Elab.async false
set_option linter.all false
set_option maxRecDepth 100000
set_option maxHeartbeats 0
namespace K45
open PySem PySem.Spec PyProof.Rows L2 Dl
theorem fo_tuple_of {P : Program} {w : World} {K : PySem.W.Frag} {mg : Str → Option Value} {base : Heap} {f : Addr} {fd : FuncData} (D : FnP K "tuple_of" st_tuple_of f fd) (hm : mg "tuple_of" = some (.ref f)) (m_list : mg "list" = none) (m_tuple : mg "tuple" = none) (m_isinstance : mg "isinstance" = none) : ∀ n, FO P w K mg base "tuple_of" ["thing"] n (F_tuple_of_n n)
  | 0 => FO.zero hm D.kp (D.bindsN fun _ _ _ _ _ _ us hl => match us, hl with | [_], _ => rfl)
  | n + 1 => ⟨f, fd, hm, D.kp, D.bindsN (fun _ _ _ _ _ _ us hl => match us, hl with | [_], _ => rfl), ok_tuple_of D (fo_tuple_of D hm m_list m_tuple m_isinstance n) m_list m_tuple m_isinstance⟩
theorem fo__law_same {P : Program} {w : World} {K : PySem.W.Frag} {mg : Str → Option Value} {base : Heap} {f : Addr} {fd : FuncData} (D : FnP K "_law_same" st__law_same f fd) (hm : mg "_law_same" = some (.ref f)) (m_list : mg "list" = none) (m_tuple : mg "tuple" = none) (m_isinstance : mg "isinstance" = none) (m_len : mg "len" = none) (m_zip : mg "zip" = none) (m_all : mg "all" = none) (m_bool : mg "bool" = none) (m_str : mg "str" = none) (m_int : mg "int" = none) : ∀ n, FO P w K mg base "_law_same" ["got", "goal"] n (F__law_same_n n)
  | 0 => FO.zero hm D.kp (D.bindsN fun _ _ _ _ _ _ us hl => match us, hl with | [_, _], _ => rfl)
  | n + 1 => ⟨f, fd, hm, D.kp, D.bindsN (fun _ _ _ _ _ _ us hl => match us, hl with | [_, _], _ => rfl), ok__law_same D (fo__law_same D hm m_list m_tuple m_isinstance m_len m_zip m_all m_bool m_str m_int n) m_list m_tuple m_isinstance m_len m_zip m_all m_bool m_str m_int⟩
/-- what the plain law must show -/
def Pure : Prop := ∀ ns : List Int, ns.length ≤ 63 → ∃ (ms : Ur) (u0 u' : Ur), u_law (ev0 19 ns) [] = some (.own (ms.map PyData.int), u0) ∧ d_law ((ev0 19 ns).set 1 .urn) ms = some (.rt (.val (.bool true)), u')
theorem facts (hp : Pure) {P : Program} {w : World} {K : PySem.W.Frag} {h : Heap} {mg : Str → Option Value} {f : Addr} (X : K.In h) (G : h.Ns mainGlobals mg) (hfa : mg ("law" : Str) = some (.ref f)) (c : He.SaysD fa fn K) (cx : ex K = true) :
    ∃ fd : FuncData, (∀ (s : Shared) (v : Value), BindsTo s fd ⟨[v], []⟩ [("script", v)]) ∧ ∀ base : Heap, K.In base → base.Ns mainGlobals mg → FnOk P w K mg base CX0 14 f fd ["script"] (spLaw K) := by
  have m_len : mg "len" = none := He.free_ok X G (c.fact 47 (f := .free "len") rfl)
  have m_abs : mg "abs" = none := He.free_ok X G (c.fact 48 (f := .free "abs") rfl)
  have m_int : mg "int" = none := He.free_ok X G (c.fact 49 (f := .free "int") rfl)
  have m_range : mg "range" = none := He.free_ok X G (c.fact 50 (f := .free "range") rfl)
  have m_list : mg "list" = none := He.free_ok X G (c.fact 51 (f := .free "list") rfl)
  have m_tuple : mg "tuple" = none := He.free_ok X G (c.fact 52 (f := .free "tuple") rfl)
  have m_isinstance : mg "isinstance" = none := He.free_ok X G (c.fact 53 (f := .free "isinstance") rfl)
  have m_enumerate : mg "enumerate" = none := He.free_ok X G (c.fact 54 (f := .free "enumerate") rfl)
  have m_zip : mg "zip" = none := He.free_ok X G (c.fact 55 (f := .free "zip") rfl)
  have m_sum : mg "sum" = none := He.free_ok X G (c.fact 56 (f := .free "sum") rfl)
  have m_bool : mg "bool" = none := He.free_ok X G (c.fact 57 (f := .free "bool") rfl)
  have m_max : mg "max" = none := He.free_ok X G (c.fact 58 (f := .free "max") rfl)
  have m_min : mg "min" = none := He.free_ok X G (c.fact 59 (f := .free "min") rfl)
  have m_all : mg "all" = none := He.free_ok X G (c.fact 60 (f := .free "all") rfl)
  have m_str : mg "str" = none := He.free_ok X G (c.fact 61 (f := .free "str") rfl)
  have cx2 : (gloB K "ZERO" (.tuple [.int 0, .int 1]) && gloB K "BARE" (.str "bare") && gloB K "WRONGED" (.str "wronged") && gloB K "NO_FEWER" (.str "no fewer") && gloB K "ONE_FEWER" (.str "one fewer") && gloB K "NO_MORE" (.str "no more") && gloB K "MOST_ROW" (.int 12) && bltB K "gcd" "math.gcd" && true) = true := cx
  simp only [Bool.and_eq_true] at cx2
  obtain ⟨⟨⟨⟨⟨⟨⟨⟨x0, x1⟩, x2⟩, x3⟩, x4⟩, x5⟩, x6⟩, x7⟩, _⟩ := cx2
  have h_ZERO : CV K mg "ZERO" c_ZERO := gloB_ok X G x0
  have h_BARE : CV K mg "BARE" c_BARE := gloB_ok X G x1
  have h_WRONGED : CV K mg "WRONGED" c_WRONGED := gloB_ok X G x2
  have h_NO_FEWER : CV K mg "NO_FEWER" c_NO_FEWER := gloB_ok X G x3
  have h_ONE_FEWER : CV K mg "ONE_FEWER" c_ONE_FEWER := gloB_ok X G x4
  have h_NO_MORE : CV K mg "NO_MORE" c_NO_MORE := gloB_ok X G x5
  have h_MOST_ROW : CV K mg "MOST_ROW" c_MOST_ROW := gloB_ok X G x6
  have b_gcd : mg "gcd" = some (.builtin "math.gcd") := bltB_ok X G x7
  obtain ⟨fd__law_box, D__law_box⟩ := c.def_ 0 (d := dd "_law_box" st__law_box) rfl
  have g__law_box : ∀ base : Heap, FO P w K mg base "_law_box" ["script", "k"] 1 F__law_box := fun base => ⟨_, fd__law_box, (He.glo_ok X G (c.fact 0 (f := .glo "_law_box") rfl)), D__law_box.kp, D__law_box.bindsN (fun _ _ _ _ _ _ us hl => match us, hl with | [_, _], _ => rfl), ok__law_box (k := 0) D__law_box m_len m_abs m_int⟩
  obtain ⟨fd__law_take, D__law_take⟩ := c.def_ 1 (d := dd "_law_take" st__law_take) rfl
  have g__law_take : ∀ base : Heap, FO P w K mg base "_law_take" ["urn", "below"] 1 F__law_take := fun base => ⟨_, fd__law_take, (He.glo_ok X G (c.fact 1 (f := .glo "_law_take") rfl)), D__law_take.kp, D__law_take.bindsN (fun _ _ _ _ _ _ us hl => match us, hl with | [_, _], _ => rfl), ok__law_take (k := 0) D__law_take m_int⟩
  obtain ⟨fd__law_of, D__law_of⟩ := c.def_ 2 (d := dd "_law_of" st__law_of) rfl
  have g__law_of : ∀ base : Heap, FO P w K mg base "_law_of" ["urn", "some"] 2 F__law_of := fun base => ⟨_, fd__law_of, (He.glo_ok X G (c.fact 2 (f := .glo "_law_of") rfl)), D__law_of.kp, D__law_of.bindsN (fun _ _ _ _ _ _ us hl => match us, hl with | [_, _], _ => rfl), ok__law_of (k := 1) D__law_of ((g__law_take base).mono (by decide)) m_len⟩
  obtain ⟨fd__law_fraction, D__law_fraction⟩ := c.def_ 3 (d := dd "_law_fraction" st__law_fraction) rfl
  have g__law_fraction : ∀ base : Heap, FO P w K mg base "_law_fraction" ["top", "bottom"] 1 F__law_fraction := fun base => ⟨_, fd__law_fraction, (He.glo_ok X G (c.fact 3 (f := .glo "_law_fraction") rfl)), D__law_fraction.kp, D__law_fraction.bindsN (fun _ _ _ _ _ _ us hl => match us, hl with | [_, _], _ => rfl), ok__law_fraction (k := 0) D__law_fraction m_abs m_int⟩
  obtain ⟨fd__law_rule, D__law_rule⟩ := c.def_ 4 (d := dd "_law_rule" st__law_rule) rfl
  have g__law_rule : ∀ base : Heap, FO P w K mg base "_law_rule" ["urn"] 3 F__law_rule := fun base => ⟨_, fd__law_rule, (He.glo_ok X G (c.fact 4 (f := .glo "_law_rule") rfl)), D__law_rule.kp, D__law_rule.bindsN (fun _ _ _ _ _ _ us hl => match us, hl with | [_], _ => rfl), ok__law_rule (k := 2) D__law_rule ((g__law_take base).mono (by decide)) ((g__law_fraction base).mono (by decide)) ((g__law_of base).mono (by decide)) m_range⟩
  obtain ⟨fd_tuple_of, D_tuple_of⟩ := c.def_ 5 (d := dd "tuple_of" st_tuple_of) rfl
  have g_tuple_of : ∀ base : Heap, FO P w K mg base "tuple_of" ["thing"] 6 F_tuple_of := fun base => fo_tuple_of D_tuple_of (He.glo_ok X G (c.fact 5 (f := .glo "tuple_of") rfl)) m_list m_tuple m_isinstance 6
  obtain ⟨fd_even_posts, D_even_posts⟩ := c.def_ 6 (d := dd "even_posts" st_even_posts) rfl
  have g_even_posts : ∀ base : Heap, FO P w K mg base "even_posts" ["share"] 7 F_even_posts := fun base => ⟨_, fd_even_posts, (He.glo_ok X G (c.fact 6 (f := .glo "even_posts") rfl)), D_even_posts.kp, D_even_posts.bindsN (fun _ _ _ _ _ _ us hl => match us, hl with | [_], _ => rfl), ok_even_posts (k := 6) D_even_posts ((g_tuple_of base).mono (by decide))⟩
  obtain ⟨fd__law_cells, D__law_cells⟩ := c.def_ 7 (d := dd "_law_cells" st__law_cells) rfl
  have g__law_cells : ∀ base : Heap, FO P w K mg base "_law_cells" ["script", "many"] 1 F__law_cells := fun base => ⟨_, fd__law_cells, (He.glo_ok X G (c.fact 7 (f := .glo "_law_cells") rfl)), D__law_cells.kp, D__law_cells.bindsN (fun _ _ _ _ _ _ us hl => match us, hl with | [_, _], _ => rfl), ok__law_cells (k := 0) D__law_cells m_list m_enumerate m_int m_len⟩
  obtain ⟨fd__law_votes, D__law_votes⟩ := c.def_ 8 (d := dd "_law_votes" st__law_votes) rfl
  have g__law_votes : ∀ base : Heap, FO P w K mg base "_law_votes" ["urn", "many"] 3 F__law_votes := fun base => ⟨_, fd__law_votes, (He.glo_ok X G (c.fact 8 (f := .glo "_law_votes") rfl)), D__law_votes.kp, D__law_votes.bindsN (fun _ _ _ _ _ _ us hl => match us, hl with | [_, _], _ => rfl), ok__law_votes (k := 2) D__law_votes ((g__law_take base).mono (by decide)) ((g__law_of base).mono (by decide)) m_range m_tuple⟩
  obtain ⟨fd_lowest, D_lowest⟩ := c.def_ 9 (d := dd "lowest" st_lowest) rfl
  have g_lowest : ∀ base : Heap, FO P w K mg base "lowest" ["top", "bottom"] 1 F_lowest := fun base => ⟨_, fd_lowest, (He.glo_ok X G (c.fact 9 (f := .glo "lowest") rfl)), D_lowest.kp, D_lowest.bindsN (fun _ _ _ _ _ _ us hl => match us, hl with | [_, _], _ => rfl), ok_lowest (k := 0) D_lowest b_gcd⟩
  obtain ⟨fd_plus, D_plus⟩ := c.def_ 10 (d := dd "plus" st_plus) rfl
  have g_plus : ∀ base : Heap, FO P w K mg base "plus" ["one", "other"] 2 F_plus := fun base => ⟨_, fd_plus, (He.glo_ok X G (c.fact 10 (f := .glo "plus") rfl)), D_plus.kp, D_plus.bindsN (fun _ _ _ _ _ _ us hl => match us, hl with | [_, _], _ => rfl), ok_plus (k := 1) D_plus ((g_lowest base).mono (by decide))⟩
  obtain ⟨fd_whole, D_whole⟩ := c.def_ 11 (d := dd "whole" st_whole) rfl
  have g_whole : ∀ base : Heap, FO P w K mg base "whole" ["number"] 1 F_whole := fun base => ⟨_, fd_whole, (He.glo_ok X G (c.fact 11 (f := .glo "whole") rfl)), D_whole.kp, D_whole.bindsN (fun _ _ _ _ _ _ us hl => match us, hl with | [_], _ => rfl), ok_whole (k := 0) D_whole ⟩
  obtain ⟨fd_post_in, D_post_in⟩ := c.def_ 12 (d := dd "post_in" st_post_in) rfl
  have g_post_in : ∀ base : Heap, FO P w K mg base "post_in" ["posts", "seats"] 3 F_post_in := fun base => ⟨_, fd_post_in, (He.glo_ok X G (c.fact 12 (f := .glo "post_in") rfl)), D_post_in.kp, D_post_in.bindsN (fun _ _ _ _ _ _ us hl => match us, hl with | [_, _], _ => rfl), ok_post_in (k := 2) D_post_in ((g_whole base).mono (by decide)) ((g_plus base).mono (by decide)) m_len h_ZERO⟩
  obtain ⟨fd_bare_lists, D_bare_lists⟩ := c.def_ 13 (d := dd "bare_lists" st_bare_lists) rfl
  have g_bare_lists : ∀ base : Heap, FO P w K mg base "bare_lists" ["posts", "seats"] 4 F_bare_lists := fun base => ⟨_, fd_bare_lists, (He.glo_ok X G (c.fact 13 (f := .glo "bare_lists") rfl)), D_bare_lists.kp, D_bare_lists.bindsN (fun _ _ _ _ _ _ us hl => match us, hl with | [_, _], _ => rfl), ok_bare_lists (k := 3) D_bare_lists ((g_post_in base).mono (by decide)) m_enumerate h_ZERO⟩
  obtain ⟨fd_is_less, D_is_less⟩ := c.def_ 14 (d := dd "is_less" st_is_less) rfl
  have g_is_less : ∀ base : Heap, FO P w K mg base "is_less" ["one", "other"] 1 F_is_less := fun base => ⟨_, fd_is_less, (He.glo_ok X G (c.fact 14 (f := .glo "is_less") rfl)), D_is_less.kp, D_is_less.bindsN (fun _ _ _ _ _ _ us hl => match us, hl with | [_, _], _ => rfl), ok_is_less (k := 0) D_is_less ⟩
  obtain ⟨fd_times, D_times⟩ := c.def_ 15 (d := dd "times" st_times) rfl
  have g_times : ∀ base : Heap, FO P w K mg base "times" ["one", "other"] 2 F_times := fun base => ⟨_, fd_times, (He.glo_ok X G (c.fact 15 (f := .glo "times") rfl)), D_times.kp, D_times.bindsN (fun _ _ _ _ _ _ us hl => match us, hl with | [_, _], _ => rfl), ok_times (k := 1) D_times ((g_lowest base).mono (by decide))⟩
  obtain ⟨fd_next_list, D_next_list⟩ := c.def_ 16 (d := dd "next_list" st_next_list) rfl
  have g_next_list : ∀ base : Heap, FO P w K mg base "next_list" ["posts", "votes", "seats"] 4 F_next_list := fun base => ⟨_, fd_next_list, (He.glo_ok X G (c.fact 16 (f := .glo "next_list") rfl)), D_next_list.kp, D_next_list.bindsN (fun _ _ _ _ _ _ us hl => match us, hl with | [_, _, _], _ => rfl), ok_next_list (k := 3) D_next_list ((g_post_in base).mono (by decide)) ((g_whole base).mono (by decide)) ((g_times base).mono (by decide)) ((g_is_less base).mono (by decide)) m_len m_range⟩
  obtain ⟨fd_next_in, D_next_in⟩ := c.def_ 17 (d := dd "next_in" st_next_in) rfl
  have g_next_in : ∀ base : Heap, FO P w K mg base "next_in" ["posts", "votes", "seats"] 5 F_next_in := fun base => ⟨_, fd_next_in, (He.glo_ok X G (c.fact 17 (f := .glo "next_in") rfl)), D_next_in.kp, D_next_in.bindsN (fun _ _ _ _ _ _ us hl => match us, hl with | [_, _, _], _ => rfl), ok_next_in (k := 4) D_next_in ((g_bare_lists base).mono (by decide)) ((g_next_list base).mono (by decide))⟩
  obtain ⟨fd_dealt_in, D_dealt_in⟩ := c.def_ 18 (d := dd "dealt_in" st_dealt_in) rfl
  have g_dealt_in : ∀ base : Heap, FO P w K mg base "dealt_in" ["posts", "votes", "house"] 6 F_dealt_in := fun base => ⟨_, fd_dealt_in, (He.glo_ok X G (c.fact 18 (f := .glo "dealt_in") rfl)), D_dealt_in.kp, D_dealt_in.bindsN (fun _ _ _ _ _ _ us hl => match us, hl with | [_, _, _], _ => rfl), ok_dealt_in (k := 5) D_dealt_in ((g_next_in base).mono (by decide)) m_len m_range m_tuple⟩
  obtain ⟨fd_greatest_of, D_greatest_of⟩ := c.def_ 19 (d := dd "greatest_of" st_greatest_of) rfl
  have g_greatest_of : ∀ base : Heap, FO P w K mg base "greatest_of" ["fractions"] 7 F_greatest_of := fun base => ⟨_, fd_greatest_of, (He.glo_ok X G (c.fact 19 (f := .glo "greatest_of") rfl)), D_greatest_of.kp, D_greatest_of.bindsN (fun _ _ _ _ _ _ us hl => match us, hl with | [_], _ => rfl), ok_greatest_of (k := 6) D_greatest_of ((g_tuple_of base).mono (by decide)) ((g_is_less base).mono (by decide))⟩
  obtain ⟨fd_is_wronged, D_is_wronged⟩ := c.def_ 20 (d := dd "is_wronged" st_is_wronged) rfl
  have g_is_wronged : ∀ base : Heap, FO P w K mg base "is_wronged" ["posts", "votes", "seats", "one", "other"] 4 F_is_wronged := fun base => ⟨_, fd_is_wronged, (He.glo_ok X G (c.fact 20 (f := .glo "is_wronged") rfl)), D_is_wronged.kp, D_is_wronged.bindsN (fun _ _ _ _ _ _ us hl => match us, hl with | [_, _, _, _, _], _ => rfl), ok_is_wronged (k := 3) D_is_wronged ((g_post_in base).mono (by decide)) ((g_whole base).mono (by decide)) ((g_times base).mono (by decide)) ((g_is_less base).mono (by decide))⟩
  obtain ⟨fd_faults_in, D_faults_in⟩ := c.def_ 21 (d := dd "faults_in" st_faults_in) rfl
  have g_faults_in : ∀ base : Heap, FO P w K mg base "faults_in" ["posts", "votes", "seats"] 5 F_faults_in := fun base => ⟨_, fd_faults_in, (He.glo_ok X G (c.fact 21 (f := .glo "faults_in") rfl)), D_faults_in.kp, D_faults_in.bindsN (fun _ _ _ _ _ _ us hl => match us, hl with | [_, _, _], _ => rfl), ok_faults_in (k := 4) D_faults_in ((g_bare_lists base).mono (by decide)) ((g_is_wronged base).mono (by decide)) m_len m_range h_BARE h_WRONGED⟩
  obtain ⟨fd_over, D_over⟩ := c.def_ 22 (d := dd "over" st_over) rfl
  have g_over : ∀ base : Heap, FO P w K mg base "over" ["one", "other"] 2 F_over := fun base => ⟨_, fd_over, (He.glo_ok X G (c.fact 22 (f := .glo "over") rfl)), D_over.kp, D_over.bindsN (fun _ _ _ _ _ _ us hl => match us, hl with | [_, _], _ => rfl), ok_over (k := 1) D_over ((g_lowest base).mono (by decide))⟩
  obtain ⟨fd_least_of, D_least_of⟩ := c.def_ 23 (d := dd "least_of" st_least_of) rfl
  have g_least_of : ∀ base : Heap, FO P w K mg base "least_of" ["fractions"] 7 F_least_of := fun base => ⟨_, fd_least_of, (He.glo_ok X G (c.fact 23 (f := .glo "least_of") rfl)), D_least_of.kp, D_least_of.bindsN (fun _ _ _ _ _ _ us hl => match us, hl with | [_], _ => rfl), ok_least_of (k := 6) D_least_of ((g_tuple_of base).mono (by decide)) ((g_is_less base).mono (by decide))⟩
  obtain ⟨fd_divider_ends, D_divider_ends⟩ := c.def_ 24 (d := dd "divider_ends" st_divider_ends) rfl
  have g_divider_ends : ∀ base : Heap, FO P w K mg base "divider_ends" ["posts", "votes", "seats"] 8 F_divider_ends := fun base => ⟨_, fd_divider_ends, (He.glo_ok X G (c.fact 24 (f := .glo "divider_ends") rfl)), D_divider_ends.kp, D_divider_ends.bindsN (fun _ _ _ _ _ _ us hl => match us, hl with | [_, _, _], _ => rfl), ok_divider_ends (k := 7) D_divider_ends ((g_tuple_of base).mono (by decide)) ((g_faults_in base).mono (by decide)) ((g_whole base).mono (by decide)) ((g_post_in base).mono (by decide)) ((g_over base).mono (by decide)) ((g_greatest_of base).mono (by decide)) ((g_least_of base).mono (by decide)) m_zip h_ZERO⟩
  obtain ⟨fd_divider_of, D_divider_of⟩ := c.def_ 25 (d := dd "divider_of" st_divider_of) rfl
  have g_divider_of : ∀ base : Heap, FO P w K mg base "divider_of" ["posts", "votes", "seats"] 9 F_divider_of := fun base => ⟨_, fd_divider_of, (He.glo_ok X G (c.fact 25 (f := .glo "divider_of") rfl)), D_divider_of.kp, D_divider_of.bindsN (fun _ _ _ _ _ _ us hl => match us, hl with | [_, _, _], _ => rfl), ok_divider_of (k := 8) D_divider_of ((g_divider_ends base).mono (by decide))⟩
  obtain ⟨fd_seats_above, D_seats_above⟩ := c.def_ 26 (d := dd "seats_above" st_seats_above) rfl
  have g_seats_above : ∀ base : Heap, FO P w K mg base "seats_above" ["posts", "number", "divider"] 4 F_seats_above := fun base => ⟨_, fd_seats_above, (He.glo_ok X G (c.fact 26 (f := .glo "seats_above") rfl)), D_seats_above.kp, D_seats_above.bindsN (fun _ _ _ _ _ _ us hl => match us, hl with | [_, _, _], _ => rfl), ok_seats_above (k := 3) D_seats_above ((g_post_in base).mono (by decide)) ((g_times base).mono (by decide)) ((g_whole base).mono (by decide)) ((g_is_less base).mono (by decide))⟩
  obtain ⟨fd_is_most, D_is_most⟩ := c.def_ 27 (d := dd "is_most" st_is_most) rfl
  have g_is_most : ∀ base : Heap, FO P w K mg base "is_most" ["one", "other"] 1 F_is_most := fun base => ⟨_, fd_is_most, (He.glo_ok X G (c.fact 27 (f := .glo "is_most") rfl)), D_is_most.kp, D_is_most.bindsN (fun _ _ _ _ _ _ us hl => match us, hl with | [_, _], _ => rfl), ok_is_most (k := 0) D_is_most ⟩
  obtain ⟨fd_seats_most, D_seats_most⟩ := c.def_ 28 (d := dd "seats_most" st_seats_most) rfl
  have g_seats_most : ∀ base : Heap, FO P w K mg base "seats_most" ["posts", "number", "divider"] 4 F_seats_most := fun base => ⟨_, fd_seats_most, (He.glo_ok X G (c.fact 28 (f := .glo "seats_most") rfl)), D_seats_most.kp, D_seats_most.bindsN (fun _ _ _ _ _ _ us hl => match us, hl with | [_, _, _], _ => rfl), ok_seats_most (k := 3) D_seats_most ((g_post_in base).mono (by decide)) ((g_times base).mono (by decide)) ((g_whole base).mono (by decide)) ((g_is_most base).mono (by decide))⟩
  obtain ⟨fd_ties_in, D_ties_in⟩ := c.def_ 29 (d := dd "ties_in" st_ties_in) rfl
  have g_ties_in : ∀ base : Heap, FO P w K mg base "ties_in" ["posts", "votes", "house"] 10 F_ties_in := fun base => ⟨_, fd_ties_in, (He.glo_ok X G (c.fact 29 (f := .glo "ties_in") rfl)), D_ties_in.kp, D_ties_in.bindsN (fun _ _ _ _ _ _ us hl => match us, hl with | [_, _, _], _ => rfl), ok_ties_in (k := 9) D_ties_in ((g_dealt_in base).mono (by decide)) ((g_bare_lists base).mono (by decide)) ((g_divider_of base).mono (by decide)) ((g_seats_above base).mono (by decide)) ((g_seats_most base).mono (by decide)) m_tuple⟩
  obtain ⟨fd_deals_of, D_deals_of⟩ := c.def_ 30 (d := dd "deals_of" st_deals_of) rfl
  have g_deals_of : ∀ base : Heap, FO P w K mg base "deals_of" ["posts", "votes", "house"] 11 F_deals_of := fun base => ⟨_, fd_deals_of, (He.glo_ok X G (c.fact 30 (f := .glo "deals_of") rfl)), D_deals_of.kp, D_deals_of.bindsN (fun _ _ _ _ _ _ us hl => match us, hl with | [_, _, _], _ => rfl), ok_deals_of (k := 10) D_deals_of ((g_tuple_of base).mono (by decide)) ((g_ties_in base).mono (by decide)) m_len m_range m_sum⟩
  obtain ⟨fd_is_number, D_is_number⟩ := c.def_ 31 (d := dd "is_number" st_is_number) rfl
  have g_is_number : ∀ base : Heap, FO P w K mg base "is_number" ["thing"] 1 F_is_number := fun base => ⟨_, fd_is_number, (He.glo_ok X G (c.fact 31 (f := .glo "is_number") rfl)), D_is_number.kp, D_is_number.bindsN (fun _ _ _ _ _ _ us hl => match us, hl with | [_], _ => rfl), ok_is_number (k := 0) D_is_number m_int m_isinstance m_bool⟩
  obtain ⟨fd_sure_list, D_sure_list⟩ := c.def_ 32 (d := dd "sure_list" st_sure_list) rfl
  have g_sure_list : ∀ base : Heap, FO P w K mg base "sure_list" ["votes", "number"] 2 F_sure_list := fun base => ⟨_, fd_sure_list, (He.glo_ok X G (c.fact 32 (f := .glo "sure_list") rfl)), D_sure_list.kp, D_sure_list.bindsN (fun _ _ _ _ _ _ us hl => match us, hl with | [_, _], _ => rfl), ok_sure_list (k := 1) D_sure_list ((g_is_number base).mono (by decide)) m_len⟩
  obtain ⟨fd_seat_ends, D_seat_ends⟩ := c.def_ 33 (d := dd "seat_ends" st_seat_ends) rfl
  have g_seat_ends : ∀ base : Heap, FO P w K mg base "seat_ends" ["posts", "votes", "house", "number"] 11 F_seat_ends := fun base => ⟨_, fd_seat_ends, (He.glo_ok X G (c.fact 33 (f := .glo "seat_ends") rfl)), D_seat_ends.kp, D_seat_ends.bindsN (fun _ _ _ _ _ _ us hl => match us, hl with | [_, _, _, _], _ => rfl), ok_seat_ends (k := 10) D_seat_ends ((g_tuple_of base).mono (by decide)) ((g_sure_list base).mono (by decide)) ((g_ties_in base).mono (by decide)) m_sum m_max m_min⟩
  obtain ⟨fd_sure_two, D_sure_two⟩ := c.def_ 34 (d := dd "sure_two" st_sure_two) rfl
  have g_sure_two : ∀ base : Heap, FO P w K mg base "sure_two" ["many", "one", "other"] 1 F_sure_two := fun base => ⟨_, fd_sure_two, (He.glo_ok X G (c.fact 34 (f := .glo "sure_two") rfl)), D_sure_two.kp, D_sure_two.bindsN (fun _ _ _ _ _ _ us hl => match us, hl with | [_, _, _], _ => rfl), ok_sure_two (k := 0) D_sure_two ⟩
  obtain ⟨fd_joined_votes, D_joined_votes⟩ := c.def_ 35 (d := dd "joined_votes" st_joined_votes) rfl
  have g_joined_votes : ∀ base : Heap, FO P w K mg base "joined_votes" ["votes", "one", "other"] 2 F_joined_votes := fun base => ⟨_, fd_joined_votes, (He.glo_ok X G (c.fact 35 (f := .glo "joined_votes") rfl)), D_joined_votes.kp, D_joined_votes.bindsN (fun _ _ _ _ _ _ us hl => match us, hl with | [_, _, _], _ => rfl), ok_joined_votes (k := 1) D_joined_votes ((g_sure_two base).mono (by decide)) m_len m_min m_max m_list m_tuple⟩
  obtain ⟨fd__law_same, D__law_same⟩ := c.def_ 36 (d := dd "_law_same" st__law_same) rfl
  have g__law_same : ∀ base : Heap, FO P w K mg base "_law_same" ["got", "goal"] 6 F__law_same := fun base => fo__law_same D__law_same (He.glo_ok X G (c.fact 36 (f := .glo "_law_same") rfl)) m_list m_tuple m_isinstance m_len m_zip m_all m_bool m_str m_int 6
  obtain ⟨fd_faults_of, D_faults_of⟩ := c.def_ 37 (d := dd "faults_of" st_faults_of) rfl
  have g_faults_of : ∀ base : Heap, FO P w K mg base "faults_of" ["posts", "votes", "seats"] 7 F_faults_of := fun base => ⟨_, fd_faults_of, (He.glo_ok X G (c.fact 37 (f := .glo "faults_of") rfl)), D_faults_of.kp, D_faults_of.bindsN (fun _ _ _ _ _ _ us hl => match us, hl with | [_, _, _], _ => rfl), ok_faults_of (k := 6) D_faults_of ((g_tuple_of base).mono (by decide)) ((g_faults_in base).mono (by decide))⟩
  obtain ⟨fd_is_deal, D_is_deal⟩ := c.def_ 38 (d := dd "is_deal" st_is_deal) rfl
  have g_is_deal : ∀ base : Heap, FO P w K mg base "is_deal" ["posts", "votes", "seats"] 8 F_is_deal := fun base => ⟨_, fd_is_deal, (He.glo_ok X G (c.fact 38 (f := .glo "is_deal") rfl)), D_is_deal.kp, D_is_deal.bindsN (fun _ _ _ _ _ _ us hl => match us, hl with | [_, _, _], _ => rfl), ok_is_deal (k := 7) D_is_deal ((g_faults_of base).mono (by decide))⟩
  obtain ⟨fd_joined_seats, D_joined_seats⟩ := c.def_ 39 (d := dd "joined_seats" st_joined_seats) rfl
  have g_joined_seats : ∀ base : Heap, FO P w K mg base "joined_seats" ["posts", "votes", "seats", "one", "other"] 12 F_joined_seats := fun base => ⟨_, fd_joined_seats, (He.glo_ok X G (c.fact 39 (f := .glo "joined_seats") rfl)), D_joined_seats.kp, D_joined_seats.bindsN (fun _ _ _ _ _ _ us hl => match us, hl with | [_, _, _, _, _], _ => rfl), ok_joined_seats (k := 11) D_joined_seats ((g_joined_votes base).mono (by decide)) ((g_tuple_of base).mono (by decide)) ((g_is_deal base).mono (by decide)) ((g_seat_ends base).mono (by decide)) m_sum m_min⟩
  obtain ⟨fd_keeps_promise, D_keeps_promise⟩ := c.def_ 40 (d := dd "keeps_promise" st_keeps_promise) rfl
  have g_keeps_promise : ∀ base : Heap, FO P w K mg base "keeps_promise" ["promise", "both", "low", "high"] 1 F_keeps_promise := fun base => ⟨_, fd_keeps_promise, (He.glo_ok X G (c.fact 40 (f := .glo "keeps_promise") rfl)), D_keeps_promise.kp, D_keeps_promise.bindsN (fun _ _ _ _ _ _ us hl => match us, hl with | [_, _, _, _], _ => rfl), ok_keeps_promise (k := 0) D_keeps_promise h_NO_FEWER h_ONE_FEWER h_NO_MORE⟩
  obtain ⟨fd_is_kept_at, D_is_kept_at⟩ := c.def_ 41 (d := dd "is_kept_at" st_is_kept_at) rfl
  have g_is_kept_at : ∀ base : Heap, FO P w K mg base "is_kept_at" ["posts", "promise", "votes", "seats", "one", "other"] 13 F_is_kept_at := fun base => ⟨_, fd_is_kept_at, (He.glo_ok X G (c.fact 41 (f := .glo "is_kept_at") rfl)), D_is_kept_at.kp, D_is_kept_at.bindsN (fun _ _ _ _ _ _ us hl => match us, hl with | [_, _, _, _, _, _], _ => rfl), ok_is_kept_at (k := 12) D_is_kept_at ((g_joined_seats base).mono (by decide)) ((g_keeps_promise base).mono (by decide))⟩
  obtain ⟨fd_starts_bare, D_starts_bare⟩ := c.def_ 42 (d := dd "starts_bare" st_starts_bare) rfl
  have g_starts_bare : ∀ base : Heap, FO P w K mg base "starts_bare" ["posts"] 4 F_starts_bare := fun base => ⟨_, fd_starts_bare, (He.glo_ok X G (c.fact 42 (f := .glo "starts_bare") rfl)), D_starts_bare.kp, D_starts_bare.bindsN (fun _ _ _ _ _ _ us hl => match us, hl with | [_], _ => rfl), ok_starts_bare (k := 3) D_starts_bare ((g_post_in base).mono (by decide)) h_ZERO⟩
  obtain ⟨fd_limit_of, D_limit_of⟩ := c.def_ 43 (d := dd "limit_of" st_limit_of) rfl
  have g_limit_of : ∀ base : Heap, FO P w K mg base "limit_of" ["posts", "promise", "a", "b"] 4 F_limit_of := fun base => ⟨_, fd_limit_of, (He.glo_ok X G (c.fact 43 (f := .glo "limit_of") rfl)), D_limit_of.kp, D_limit_of.bindsN (fun _ _ _ _ _ _ us hl => match us, hl with | [_, _, _, _], _ => rfl), ok_limit_of (k := 3) D_limit_of ((g_post_in base).mono (by decide)) ((g_plus base).mono (by decide)) h_NO_FEWER h_ONE_FEWER h_NO_MORE⟩
  obtain ⟨fd_is_broken_by, D_is_broken_by⟩ := c.def_ 44 (d := dd "is_broken_by" st_is_broken_by) rfl
  have g_is_broken_by : ∀ base : Heap, FO P w K mg base "is_broken_by" ["posts", "promise", "a", "b"] 5 F_is_broken_by := fun base => ⟨_, fd_is_broken_by, (He.glo_ok X G (c.fact 44 (f := .glo "is_broken_by") rfl)), D_is_broken_by.kp, D_is_broken_by.bindsN (fun _ _ _ _ _ _ us hl => match us, hl with | [_, _, _, _], _ => rfl), ok_is_broken_by (k := 4) D_is_broken_by ((g_limit_of base).mono (by decide)) ((g_is_less base).mono (by decide)) h_NO_FEWER h_ONE_FEWER⟩
  obtain ⟨fd_keeps_always, D_keeps_always⟩ := c.def_ 45 (d := dd "keeps_always" st_keeps_always) rfl
  have g_keeps_always : ∀ base : Heap, FO P w K mg base "keeps_always" ["posts", "promise"] 7 F_keeps_always := fun base => ⟨_, fd_keeps_always, (He.glo_ok X G (c.fact 45 (f := .glo "keeps_always") rfl)), D_keeps_always.kp, D_keeps_always.bindsN (fun _ _ _ _ _ _ us hl => match us, hl with | [_, _], _ => rfl), ok_keeps_always (k := 6) D_keeps_always ((g_tuple_of base).mono (by decide)) ((g_starts_bare base).mono (by decide)) ((g_whole base).mono (by decide)) ((g_is_broken_by base).mono (by decide)) m_int m_enumerate m_all m_range h_NO_FEWER h_NO_MORE h_ZERO h_MOST_ROW⟩
  obtain ⟨fd_law, D_law⟩ := c.def_ 46 (d := dd "law" st_law) rfl
  have e := hfa.symm.trans (He.glo_ok X G (c.fact 46 (f := .glo "law") rfl))
  cases e
  have b := FunD.bindsA (ps := ["script"]) D_law fun _ _ _ _ _ _ us hl => match us, hl with | [_], _ => rfl
  exact ⟨fd_law, fun s v => b s [v] rfl, fun base _ _ => ok_law (k := 13) D_law ((g__law_cells base).mono (by decide)) ((g__law_box base).mono (by decide)) ((g__law_take base).mono (by decide)) ((g__law_votes base).mono (by decide)) ((g_joined_votes base).mono (by decide)) ((g__law_of base).mono (by decide)) ((g_even_posts base).mono (by decide)) ((g_deals_of base).mono (by decide)) ((g_seat_ends base).mono (by decide)) ((g_keeps_always base).mono (by decide)) ((g__law_same base).mono (by decide)) ((g__law_rule base).mono (by decide)) ((g_joined_seats base).mono (by decide)) ((g_is_kept_at base).mono (by decide)) m_tuple m_len m_min m_max hp⟩
end K45
open PySem PySem.W PySem.Calls PyProof.Rows
theorem K45.holds (hp : K45.Pure) : PySem.Challenge.rw_dealtseats_k45_main_a_list_that_parts.Holds := by
  w_on; o_law
  refine HandSHeadRun.head_imp (r := OpenLaw.row PySem.Challenge.rw_dealtseats_k45_main_a_list_that_parts) (q := K45.qv) (H := K45.hk) (ob := K45.ob) (M := 20000) (loose := K45.loose) (d := HandSHeadRun.topDef (OpenLaw.row PySem.Challenge.rw_dealtseats_k45_main_a_list_that_parts).prog 65) (kwd := []) K45.ob_eq
    K45.run (by kernel_rfl) (by kernel_rfl) (by kernel_rfl) (by rfl) (by first | assumption | decide +kernel) (by decide +kernel) ⟨rfl, rfl, rfl, rfl, rfl, by decide +kernel⟩ ?hw ?hc
  case hw => w_witness2
  case hc =>
    refine L2.walk_ofE (l := PySem.Challenge.rw_dealtseats_k45_main_a_list_that_parts) (n := 63) (k := 14) (x := "script") (CX := L2.CX0) rfl (by decide) (by kernel_rfl) ⟨rfl, by decide, by decide⟩ ?F (fun _ _ _ _ z => z)
    intro w mg fa h Y G hmg0
    obtain ⟨K, KX, c, cx⟩ := Y
    have hmg : mg ("law" : PySem.Str) = some (.ref fa) := by
      have e : (HandSHeadRun.topDef (OpenLaw.row PySem.Challenge.rw_dealtseats_k45_main_a_list_that_parts).prog 65).name = ("law" : PySem.Str) := by kernel_rfl
      rw [← e]
      exact hmg0
    obtain ⟨fd, hb, hF⟩ := K45.facts hp (P := (PySem.Challenge.rw_dealtseats_k45_main_a_list_that_parts).prog) (w := w) KX G hmg c cx
    exact ⟨K, fd, Dl.spLaw K, KX, hb, fun H a ns hl _ hS => ⟨a, ns, rfl, hl, hS, fun _ => rfl⟩, hF⟩
end
set_option maxRecDepth 100000 in
theorem PySem.Challenge.cw_dealtseats_k45_main_a_list_that_parts_holds : PySem.Challenge.rw_dealtseats_k45_main_a_list_that_parts.Holds := by
  exact K45.holds (fun _ hl => K45.law_pure hl)
