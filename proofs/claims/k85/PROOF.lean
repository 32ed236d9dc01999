import PyProof.Rows.All
import Wide.All
import OpenK.AllK
import Wide.FinOn
import HandS.CallLocal
import HandS.CallRecv
import HandS.CallSlots
import HandS.Comp
import HandS.Conv
import HandS.Dict
import HandS.DictComp
import HandS.EndTab
import HandS.Exc
import HandS.ExcOwn
import HandS.FStr
import HandS.ForMost
import HandS.Head0
import HandS.Head1
import HandS.Head2
import HandS.HeadEnd
import HandS.HeadHook1
import HandS.HeadHook2
import HandS.HeadHook3
import HandS.HeadHook4
import HandS.HeadWalk
import HandS.IsInst
import HandS.Iter
import HandS.MakeKw
import HandS.MakeKwOnly
import HandS.More
import HandS.Nested
import HandS.NestedK
import HandS.OwnEq
import HandS.StrMore
import HandS.Style
import HandS.Text
import HandS.TryOnly
import HandS.TupAny
import HandS.Wide
import HandS.WideBits
import HandS.Words
import HandS.WordsDict
import KE.KIsAll
import PyProof.FactsAll.object
import PyProof.IsiBase
import PyProof.StrOps2
import PySem.Challenge.RW_figuretexts_k85_whole_rounding_by_all_wa
section
set_option Elab.async false
set_option linter.all false
set_option maxRecDepth 100000
set_option maxHeartbeats 1000000
/-! Data, what stands for it in the heap, worlds and steps between them. -/
namespace Fx
open PySem L2
inductive Cn where
  | Number | Custom | Wish | WishWords | Desk | NoText | Unsorted | NoBottom | FigureError | NoCustom | NoWish | NoFit | NoRead | NoName
  deriving DecidableEq
/-- the fields of the text's classes -/
inductive Fl where
  | top | bottom
  | point | group | sizes | least | minus | plus | figures | words | between | about
  | places | step | way | signs | grouped | scaled | unit
  | left | gone | customs_kept | wishes_kept | answers | went
  | at_ | low | high | thing
  deriving DecidableEq
def Fl.s : Fl → Str
  | .top => "top" | .bottom => "bottom"
  | .point => "point" | .group => "group" | .sizes => "sizes" | .least => "least" | .minus => "minus" | .plus => "plus" | .figures => "figures" | .words => "words" | .between => "between" | .about => "about"
  | .places => "places" | .step => "step" | .way => "way" | .signs => "signs" | .grouped => "grouped" | .scaled => "scaled" | .unit => "unit"
  | .left => "left" | .gone => "gone" | .customs_kept => "customs_kept" | .wishes_kept => "wishes_kept" | .answers => "answers" | .went => "went"
  | .at_ => "at" | .low => "low" | .high => "high" | .thing => "thing"
theorem Fl.inj : ∀ {f g : Fl}, f.s = g.s → f = g := by
  intro f g h
  have : ∀ f g : Fl, decide (f.s = g.s) = true → f = g := by
    intro f g
    cases f <;> cases g <;> first | (intro _; rfl) | (intro h; exact absurd h (by decide +kernel))
  exact this f g (decide_eq_true h)
inductive F where
  | NoText_init | Unsorted_init | NoBottom_init | FigureError_init | divisor_of | ten | Number_init | Number_eq
  | Number_str | Number_repr | Number_more | Number_less | Number_times | Number_over | Number_below | Number_size
  | Number_floor | whole_in | read_number | times_in | places_of | by_ten | power_of | by_half
  | goes_up | goes_down | goes_high | goes_low | goes_half_up | goes_half_down | goes_half_even | goes_half_odd
  | counts_of | count_by | neighbours | rounded | round_paper | ten_to_figures | to_figures | is_whole_roundchecks
  | is_tie | is_greater | round_holds | quarters_apart | parts_twice | is_from_customs | is_text | is_point
  | is_group | are_sizes | is_least | are_sides | are_figures | is_word | are_words | is_joint
  | signs_in | fits_behind | Custom_init | Custom_by_names | Custom_eq | Custom_but | shown_sides | shown_field
  | show_custom | number_in_customtexts | words_in | field_in | read_field | field_of | read_custom | is_from_wishes
  | are_places | is_step_wishes | is_unit | is_one_of | fault_of | told_or | Wish_init | Wish_all_told
  | Wish_eq | Wish_but | show_wish | WishWords_init | WishWords_refuse | WishWords_is_next | WishWords_take_one | WishWords_take_number
  | WishWords_take_step | read_wish | signs_of | look_fit | ten_to_meaning | step_of | rounded_by | powers_for
  | stands | meant | places_for | plain_parts | in_figures | group_lengths | in_groups | body_of
  | pair_of | written | frames_for | within | plain_figures | size_of | read_strictly | ten_to_kindly
  | is_group_blank | signs_kept | figures_from | grouped_from | power_in | body_in | signed_body | stops_of
  | passed_in | number_of | read_kindly | read_by_all | bears_sign | range_written | number_in_ranges | halves_of
  | read_range | leads_back | counts_near | shortest | is_whole_shortchecks | are_next | is_back | shortest_holds
  | steps_from | group_steps | order_of | least_parted | sum_of | steps_of | beyond_of | first_greatest
  | parts_rounded | is_whole_sumchecks | is_threshold | is_put_so | sum_holds | ones_at | column | numbers_in
  | read_column | is_name | look_names | look_many | custom_but | wish_by | Desk_init | Desk_notes
  | Desk_custom_of | Desk_wish_of | Desk_keep_custom | Desk_keep_wish | Desk_drop | Desk_write | Desk_parted | Desk_told
  | Desk_all_names | Desk_read | Desk_read_so | Desk_by_words | Desk_answer | Desk_say | are_numbers | is_step_findings
  | fits | rounded_so | meant_so | shortest_so | sum_so | parted_so | finding_holds
  | L (i : Nat)

/-- the names of the text's own methods -/
inductive Mn where
  | more | less | times | over | below | size | floor | by_names | but | all_told | refuse | is_next | take_one | take_number | take_step
  | notes | custom_of | wish_of | keep_custom | keep_wish | drop | write | parted | told | all_names | read | read_so | by_words | answer | say
  deriving DecidableEq
def Mn.s : Mn → Str
  | .more => "more" | .less => "less" | .times => "times" | .over => "over" | .below => "below" | .size => "size" | .floor => "floor"
  | .by_names => "by_names" | .but => "but" | .all_told => "all_told" | .refuse => "refuse" | .is_next => "is_next" | .take_one => "take_one"
  | .take_number => "take_number" | .take_step => "take_step" | .notes => "notes" | .custom_of => "custom_of" | .wish_of => "wish_of"
  | .keep_custom => "keep_custom" | .keep_wish => "keep_wish" | .drop => "drop" | .write => "write" | .parted => "parted" | .told => "told"
  | .all_names => "all_names" | .read => "read" | .read_so => "read_so" | .by_words => "by_words" | .answer => "answer" | .say => "say"
/-! ### data -/
inductive D where
  | non | bl (b : Bool) | int (i : Int) | str (x : Str)
  | tup (l : List D) | lst (l : List D) | scr (l : List Int) | obj (c : Cn) (l : List (Fl × D))
  | dic (l : List (Key × D)) | fn (f : F) | clo (x : Str)
/-- a value of the core: data, or a mutable object of the store -/
inductive Sv where
  | d (x : D) | r (i : Nat)
inductive MO where
  | lst (l : List Sv) | dic (l : List (Key × Sv)) | ins (c : Cn) (l : List (Fl × Sv)) | gone
abbrev Gs := List MO
abbrev Sg := List (Option Sv)
/-- where the text's classes and defs stand -/
structure Ty where
  K : PySem.W.Frag
  cA : Cn → Addr
  fA : F → Addr
  has : Cn → Prop
  P : Program
  w : World
  mg : Str → Option Value
  base : Heap
  /-- a made function that holds the text -/
  cloR : Str → Addr → Hp → Prop
  cloM : ∀ x a (φ φ' : Hp), (∀ b o, φ b = some o → φ' b = some o) → cloR x a φ → cloR x a φ'
  /-- the tables of code objects -/
  tabs : List NdefX.NTab
/-- a table or a code object -/
def TabE (o : L2.HO) : Prop := (∃ ps, o = .tbl ps) ∨ ∃ φ, o = .ext φ
theorem tabs_ext {l : List NdefX.NTab} {H H' : Hp} (t : NdefX.TabsN l H) (e : ∀ b o, H b = some o → TabE o → H' b = some o) : NdefX.TabsN l H' := fun p hp => by
  obtain ⟨ps, h1, h2, h3⟩ := t p hp
  refine ⟨ps, e _ _ h1 (.inl ⟨_, rfl⟩), h2, fun pos cv hc => ?_⟩
  obtain ⟨c, e1, e2⟩ := h3 pos cv hc
  exact ⟨c, e1, e _ _ e2 (.inr ⟨_, rfl⟩)⟩
theorem tabs_new {l : List NdefX.NTab} {H : Hp} {p : Addr} {o : L2.HO} (t : NdefX.TabsN l H) (h : H p = none) : NdefX.TabsN l (upd H p o) := tabs_ext t fun b u e _ => (upd_ne (ne_of_none e h)).trans e
theorem tabs_old {l : List NdefX.NTab} {H : Hp} {p : Addr} {o u : L2.HO} (t : NdefX.TabsN l H) (h : H p = some u) (n : ¬ TabE u) : NdefX.TabsN l (upd H p o) := tabs_ext t fun b z e k => by
  by_cases c : b = p
  · subst c; rw [h] at e; cases e; exact absurd k n
  · exact (upd_ne c).trans e
mutual
def Rel (T : Ty) (φ : Hp) : D → V → Prop
  | .non, v => v = .non
  | .bl b, v => v = .bl b
  | .int i, v => v = .int i
  | .str x, v => v = .str x
  | .tup l, v => ∃ a vs, v = .ref a ∧ SqT T.K φ a vs ∧ Rels T φ l vs
  | .lst l, v => ∃ a vs, v = .ref a ∧ φ a = some (.lst vs) ∧ Rels T φ l vs
  | .scr l, v => ∃ a, v = .ref a ∧ SqL T.K φ a (l.map V.int)
  | .obj c l, v => T.has c ∧ ∃ a dx vs, v = .ref a ∧ φ a = some (.ins (T.cA c) dx vs) ∧ RelF T φ l vs
  | .dic l, v => ∃ a vs, v = .ref a ∧ φ a = some (.dK vs) ∧ RelK T φ l vs
  | .fn f, v => v = .ref (T.fA f)
  | .clo x, v => ∃ a, v = .ref a ∧ T.cloR x a φ
def Rels (T : Ty) (φ : Hp) : List D → List V → Prop
  | [], vs => vs = []
  | d :: l, vs => ∃ v r, vs = v :: r ∧ Rel T φ d v ∧ Rels T φ l r
def RelF (T : Ty) (φ : Hp) : List (Fl × D) → List (Str × V) → Prop
  | [], vs => vs = []
  | (n, d) :: l, vs => ∃ v r, vs = (n.s, v) :: r ∧ Rel T φ d v ∧ RelF T φ l r
def RelK (T : Ty) (φ : Hp) : List (Key × D) → List (Key × V) → Prop
  | [], vs => vs = []
  | (n, d) :: l, vs => ∃ v r, vs = (n, v) :: r ∧ Rel T φ d v ∧ RelK T φ l r
end
def Le (φ φ' : Hp) : Prop := ∀ a o, φ a = some o → φ' a = some o
theorem Le.refl (φ : Hp) : Le φ φ := fun _ _ h => h
theorem Le.trans {a b c : Hp} (h : Le a b) (k : Le b c) : Le a c := fun x o e => k x o (h x o e)
theorem Le.rd {φ φ' : Hp} (h : Le φ φ') {a : Addr} {u : HO} (r : Rd φ a u) : Rd φ' a u := by
  rcases r with r | ⟨o, r⟩
  · exact .inl (h _ _ r)
  · exact .inr ⟨o, h _ _ r⟩
theorem Le.sqt {K : PySem.W.Frag} {φ φ' : Hp} (h : Le φ φ') {a : Addr} {vs : List V} (r : SqT K φ a vs) : SqT K φ' a vs := r.imp h.rd id
theorem Le.sql {K : PySem.W.Frag} {φ φ' : Hp} (h : Le φ φ') {a : Addr} {vs : List V} (r : SqL K φ a vs) : SqL K φ' a vs := r.imp h.rd id
theorem Le.upd {φ : Hp} {a : Addr} {o : HO} (h : φ a = none) : Le φ (upd φ a o) := fun b u e => by
  rw [upd_ne (ne_of_none e h)]; exact e
mutual
theorem Rel.mono {T : Ty} {φ φ' : Hp} (h : Le φ φ') : ∀ {d : D} {v : V}, Rel T φ d v → Rel T φ' d v
  | .non, _, r => r
  | .bl _, _, r => r
  | .int _, _, r => r
  | .str _, _, r => r
  | .fn _, _, r => r
  | .clo x, _, ⟨a, e, r⟩ => ⟨a, e, T.cloM x a φ φ' h r⟩
  | .tup l, _, ⟨a, vs, e, s, r⟩ => ⟨a, vs, e, h.sqt s, Rels.mono h r⟩
  | .lst l, _, ⟨a, vs, e, s, r⟩ => ⟨a, vs, e, h _ _ s, Rels.mono h r⟩
  | .scr l, _, ⟨a, e, s⟩ => ⟨a, e, h.sql s⟩
  | .obj c l, _, ⟨hc, a, dx, vs, e, s, r⟩ => ⟨hc, a, dx, vs, e, h _ _ s, RelF.mono h r⟩
  | .dic l, _, ⟨a, vs, e, s, r⟩ => ⟨a, vs, e, h _ _ s, RelK.mono h r⟩
theorem Rels.mono {T : Ty} {φ φ' : Hp} (h : Le φ φ') : ∀ {l : List D} {vs : List V}, Rels T φ l vs → Rels T φ' l vs
  | [], _, r => r
  | d :: l, _, ⟨v, r, e, r1, r2⟩ => ⟨v, r, e, Rel.mono h r1, Rels.mono h r2⟩
theorem RelF.mono {T : Ty} {φ φ' : Hp} (h : Le φ φ') : ∀ {l : List (Fl × D)} {vs : List (Str × V)}, RelF T φ l vs → RelF T φ' l vs
  | [], _, r => r
  | (n, d) :: l, _, ⟨v, r, e, r1, r2⟩ => ⟨v, r, e, Rel.mono h r1, RelF.mono h r2⟩
theorem RelK.mono {T : Ty} {φ φ' : Hp} (h : Le φ φ') : ∀ {l : List (Key × D)} {vs : List (Key × V)}, RelK T φ l vs → RelK T φ' l vs
  | [], _, r => r
  | (n, d) :: l, _, ⟨v, r, e, r1, r2⟩ => ⟨v, r, e, Rel.mono h r1, RelK.mono h r2⟩
end
section
variable {T : Ty} {φ : Hp}
theorem Rels.length : ∀ {l : List D} {vs : List V}, Rels T φ l vs → vs.length = l.length
  | [], _, r => by cases r; rfl
  | _ :: _, _, ⟨_, _, e, _, r⟩ => by subst e; simp [Rels.length r]
theorem Rels.get : ∀ {l : List D} {vs : List V} {i : Nat} {d : D}, Rels T φ l vs → l[i]? = some d → ∃ v, vs[i]? = some v ∧ Rel T φ d v
  | [], _, _, _, _, h => by simp at h
  | a :: l, _, 0, d, ⟨v, _, e, r1, _⟩, h => by
    subst e
    have : a = d := by simpa using h
    subst this
    exact ⟨v, rfl, r1⟩
  | a :: l, _, i + 1, d, ⟨v, _, e, _, r2⟩, h => by
    subst e
    simpa using Rels.get (i := i) r2 (by simpa using h)
theorem Rels.getV : ∀ {l : List D} {vs : List V} {i : Nat} {v : V}, Rels T φ l vs → vs[i]? = some v → ∃ d, l[i]? = some d ∧ Rel T φ d v
  | [], _, _, _, e, h => by cases e; simp at h
  | a :: l, _, 0, w, ⟨v, _, e, r1, _⟩, h => by
    subst e
    have : v = w := by simpa using h
    subst this
    exact ⟨a, rfl, r1⟩
  | a :: l, _, i + 1, d, ⟨v, _, e, _, r2⟩, h => by
    subst e
    simpa using Rels.getV (i := i) r2 (by simpa using h)
theorem Rels.append : ∀ {l m : List D} {vs us : List V}, Rels T φ l vs → Rels T φ m us → Rels T φ (l ++ m) (vs ++ us)
  | [], _, _, _, e, r => by cases e; exact r
  | _ :: _, _, _, _, ⟨v, _, e, r1, r2⟩, r => by subst e; exact ⟨v, _, rfl, r1, Rels.append r2 r⟩
theorem Rels.split : ∀ {l m : List D} {vs : List V}, Rels T φ (l ++ m) vs → ∃ us ws, vs = us ++ ws ∧ Rels T φ l us ∧ Rels T φ m ws
  | [], _, vs, r => ⟨[], vs, rfl, rfl, r⟩
  | _ :: _, _, _, ⟨v, _, e, r1, r2⟩ => by
    subst e
    obtain ⟨us, ws, e, h1, h2⟩ := Rels.split r2
    subst e
    exact ⟨v :: us, ws, rfl, ⟨v, us, rfl, r1, h1⟩, h2⟩
theorem Rels.take : ∀ {l : List D} {vs : List V} (n : Nat), Rels T φ l vs → Rels T φ (l.take n) (vs.take n)
  | _, _, 0, _ => by simp [Rels]
  | [], _, n + 1, e => by cases e; simp [Rels]
  | _ :: _, _, n + 1, ⟨v, r, e, r1, r2⟩ => by subst e; exact ⟨v, _, rfl, r1, Rels.take n r2⟩
theorem Rels.drop : ∀ {l : List D} {vs : List V} (n : Nat), Rels T φ l vs → Rels T φ (l.drop n) (vs.drop n)
  | _, _, 0, r => r
  | [], _, n + 1, e => by cases e; simp [Rels]
  | _ :: _, _, n + 1, ⟨v, r, e, r1, r2⟩ => by subst e; exact Rels.drop n r2
theorem Rels.reverse : ∀ {l : List D} {vs : List V}, Rels T φ l vs → Rels T φ l.reverse vs.reverse
  | [], _, e => by cases e; rfl
  | d :: l, _, ⟨v, r, e, r1, r2⟩ => by
    subst e
    rw [List.reverse_cons, List.reverse_cons]
    exact (Rels.reverse r2).append ⟨v, [], rfl, r1, rfl⟩
theorem Rels.ints : ∀ (l : List Int), Rels T φ (l.map D.int) (l.map V.int)
  | [] => rfl
  | i :: l => ⟨_, _, rfl, rfl, Rels.ints l⟩
theorem Rels.ints_eq : ∀ {l : List Int} {vs : List V}, Rels T φ (l.map D.int) vs → vs = l.map V.int
  | [], _, e => e
  | _ :: _, _, ⟨_, _, e, r1, r2⟩ => by subst e; rw [List.map_cons, Rels.ints_eq r2, show _ = _ from r1]
theorem Rels.strs : ∀ (l : List Str), Rels T φ (l.map D.str) (l.map V.str)
  | [] => rfl
  | i :: l => ⟨_, _, rfl, rfl, Rels.strs l⟩
theorem Rels.strs_eq : ∀ {l : List Str} {vs : List V}, Rels T φ (l.map D.str) vs → vs = l.map V.str
  | [], _, e => e
  | _ :: _, _, ⟨_, _, e, r1, r2⟩ => by subst e; rw [List.map_cons, Rels.strs_eq r2, show _ = _ from r1]
theorem Rels.bls_eq : ∀ {l : List Bool} {vs : List V}, Rels T φ (l.map D.bl) vs → vs = l.map V.bl
  | [], _, e => e
  | _ :: _, _, ⟨_, _, e, r1, r2⟩ => by subst e; rw [List.map_cons, Rels.bls_eq r2, show _ = _ from r1]
theorem RelF.lookup : ∀ {l : List (Fl × D)} {vs : List (Str × V)} {f : Fl} {d : D}, RelF T φ l vs → l.lookup f = some d → ∃ v, vs.lookup f.s = some v ∧ Rel T φ d v
  | [], _, _, _, _, h => by simp at h
  | (n, a) :: l, _, f, d, ⟨v, r, e, r1, r2⟩, h => by
    subst e
    rw [List.lookup_cons] at h ⊢
    by_cases q : f = n
    · subst q
      simp only [beq_self_eq_true] at h ⊢
      cases h
      exact ⟨v, rfl, r1⟩
    · have q1 : (f == n) = false := by simpa using q
      have q2 : (f.s == n.s) = false := by
        cases z : f.s == n.s with
        | false => rfl
        | true => exact absurd (Fl.inj (eq_of_beq z)) q
      rw [q1] at h
      rw [q2]
      exact RelF.lookup r2 h
theorem RelF.lookup_none : ∀ {l : List (Fl × D)} {vs : List (Str × V)} {m : Str}, RelF T φ l vs → (∀ f ∈ l.map (·.1), f.s ≠ m) → vs.lookup m = none
  | [], _, _, e, _ => by cases e; rfl
  | (n, a) :: l, _, m, ⟨v, r, e, r1, r2⟩, h => by
    subst e
    rw [List.lookup_cons]
    have q : (m == n.s) = false := by
      cases z : m == n.s with
      | false => rfl
      | true => exact absurd (eq_of_beq z).symm (h n (by simp))
    rw [q]
    exact RelF.lookup_none r2 fun f hf => h f (by simp at hf ⊢; exact .inr hf)
theorem RelF.length : ∀ {l : List (Fl × D)} {vs : List (Str × V)}, RelF T φ l vs → vs.length = l.length
  | [], _, r => by cases r; rfl
  | _ :: _, _, ⟨_, _, e, _, r⟩ => by subst e; simp [RelF.length r]
end
/-! ### worlds -/
/-- what is frozen; where the store's objects stand -/
structure Wd where
  φ : Hp
  ρ : List Addr
section
variable (T : Ty) (ω : Wd)
def RelW : Sv → V → Prop
  | .d x, v => Rel T ω.φ x v
  | .r i, v => ∃ a, ω.ρ[i]? = some a ∧ v = .ref a
def RelWs : List Sv → List V → Prop
  | [], vs => vs = []
  | d :: l, vs => ∃ v r, vs = v :: r ∧ RelW T ω d v ∧ RelWs l r
def RelWF : List (Fl × Sv) → List (Str × V) → Prop
  | [], vs => vs = []
  | (n, d) :: l, vs => ∃ v r, vs = (n.s, v) :: r ∧ RelW T ω d v ∧ RelWF l r
def RelWK : List (Key × Sv) → List (Key × V) → Prop
  | [], vs => vs = []
  | (n, d) :: l, vs => ∃ v r, vs = (n, v) :: r ∧ RelW T ω d v ∧ RelWK l r
def RelM : MO → HO → Prop
  | .lst l, o => ∃ vs, o = .lst vs ∧ RelWs T ω l vs
  | .dic l, o => ∃ vs, o = .dK vs ∧ RelWK T ω l vs
  | .ins c l, o => T.has c ∧ ∃ dx vs, o = .ins (T.cA c) dx vs ∧ RelWF T ω l vs
  | .gone, _ => True
def RelSt : Sg → St → Prop
  | [], l => l = []
  | none :: s, l => ∃ x r, l = x :: r ∧ RelSt s r
  | some w :: s, l => ∃ v r, l = some v :: r ∧ RelW T ω w v ∧ RelSt s r
end
/-- the later world knows all that the earlier one does -/
structure Wle (ω ω' : Wd) : Prop where
  le : Le ω.φ ω'.φ
  more : ∃ l, ω'.ρ = ω.ρ ++ l
theorem Wle.refl (ω : Wd) : Wle ω ω := ⟨Le.refl _, [], by simp⟩
theorem Wle.trans {a b c : Wd} (h : Wle a b) (k : Wle b c) : Wle a c := ⟨h.le.trans k.le, by
  obtain ⟨l, e⟩ := h.more
  obtain ⟨m, e2⟩ := k.more
  exact ⟨l ++ m, by rw [e2, e, List.append_assoc]⟩⟩
theorem Wle.at_ {ω ω' : Wd} (h : Wle ω ω') {i : Nat} {a : Addr} (e : ω.ρ[i]? = some a) : ω'.ρ[i]? = some a := by
  obtain ⟨l, q⟩ := h.more
  rw [q]
  have : i < ω.ρ.length := (List.getElem?_eq_some_iff.mp e).1
  rw [List.getElem?_append_left this]
  exact e
section
variable {T : Ty} {ω ω' : Wd}
theorem RelW.mono (h : Wle ω ω') : ∀ {w : Sv} {v : V}, RelW T ω w v → RelW T ω' w v
  | .d _, _, r => Rel.mono h.le r
  | .r _, _, ⟨a, e, q⟩ => ⟨a, h.at_ e, q⟩
theorem RelWs.mono (h : Wle ω ω') : ∀ {w : List Sv} {v : List V}, RelWs T ω w v → RelWs T ω' w v
  | [], _, r => r
  | _ :: _, _, ⟨v, r, e, r1, r2⟩ => ⟨v, r, e, r1.mono h, RelWs.mono h r2⟩
theorem RelWF.mono (h : Wle ω ω') : ∀ {w : List (Fl × Sv)} {v : List (Str × V)}, RelWF T ω w v → RelWF T ω' w v
  | [], _, r => r
  | (_, _) :: _, _, ⟨v, r, e, r1, r2⟩ => ⟨v, r, e, r1.mono h, RelWF.mono h r2⟩
theorem RelWK.mono (h : Wle ω ω') : ∀ {w : List (Key × Sv)} {v : List (Key × V)}, RelWK T ω w v → RelWK T ω' w v
  | [], _, r => r
  | (_, _) :: _, _, ⟨v, r, e, r1, r2⟩ => ⟨v, r, e, r1.mono h, RelWK.mono h r2⟩
theorem RelM.mono (h : Wle ω ω') : ∀ {m : MO} {o : HO}, RelM T ω m o → RelM T ω' m o
  | .lst _, _, ⟨vs, e, r⟩ => ⟨vs, e, r.mono h⟩
  | .dic _, _, ⟨vs, e, r⟩ => ⟨vs, e, r.mono h⟩
  | .ins _ _, _, ⟨hc, dx, vs, e, r⟩ => ⟨hc, dx, vs, e, r.mono h⟩
  | .gone, _, _ => trivial
theorem RelSt.mono (h : Wle ω ω') : ∀ {s : Sg} {l : St}, RelSt T ω s l → RelSt T ω' s l
  | [], _, r => r
  | none :: _, _, ⟨x, r, e, r2⟩ => ⟨x, r, e, r2.mono h⟩
  | some _ :: _, _, ⟨v, r, e, r1, r2⟩ => ⟨v, r, e, r1.mono h, r2.mono h⟩
theorem RelSt.length : ∀ {s : Sg} {l : St}, RelSt T ω s l → l.length = s.length
  | [], _, r => by cases r; rfl
  | none :: _, _, ⟨_, _, e, r2⟩ => by subst e; simp [RelSt.length r2]
  | some _ :: _, _, ⟨_, _, e, _, r2⟩ => by subst e; simp [RelSt.length r2]
theorem RelSt.get : ∀ {s : Sg} {l : St} {i : Nat} {w : Sv}, RelSt T ω s l → s[i]? = some (some w) → ∃ v, l[i]? = some (some v) ∧ RelW T ω w v
  | [], _, _, _, _, h => by simp at h
  | none :: _, _, 0, _, _, h => by simp at h
  | none :: _, _, i + 1, _, ⟨_, _, e, r2⟩, h => by subst e; simpa using RelSt.get (i := i) r2 (by simpa using h)
  | some a :: _, _, 0, w, ⟨v, _, e, r1, _⟩, h => by
    subst e
    have : a = w := by simpa using h
    subst this
    exact ⟨v, rfl, r1⟩
  | some _ :: _, _, i + 1, _, ⟨_, _, e, _, r2⟩, h => by subst e; simpa using RelSt.get (i := i) r2 (by simpa using h)
theorem RelSt.set : ∀ {s : Sg} {l : St} (i : Nat) {w : Sv} {v : V}, RelSt T ω s l → RelW T ω w v → RelSt T ω (s.set i (some w)) (l.set i (some v))
  | [], _, _, _, _, r, _ => by cases r; rfl
  | none :: _, _, 0, _, v, ⟨_, _, e, r2⟩, q => by subst e; exact ⟨v, _, rfl, q, r2⟩
  | none :: _, _, i + 1, _, _, ⟨x, _, e, r2⟩, q => by subst e; exact ⟨x, _, rfl, RelSt.set i r2 q⟩
  | some _ :: _, _, 0, _, v, ⟨_, _, e, _, r2⟩, q => by subst e; exact ⟨v, _, rfl, q, r2⟩
  | some _ :: _, _, i + 1, _, _, ⟨x, _, e, r1, r2⟩, q => by subst e; exact ⟨x, _, rfl, r1, RelSt.set i r2 q⟩
theorem RelSt.setN : ∀ {s : Sg} {l : St} (i : Nat) (x : Option V), RelSt T ω s l → RelSt T ω (s.set i none) (l.set i x)
  | [], _, _, _, r => by cases r; rfl
  | none :: _, _, 0, x, ⟨_, _, e, r2⟩ => by subst e; exact ⟨x, _, rfl, r2⟩
  | none :: _, _, i + 1, _, ⟨x, _, e, r2⟩ => by subst e; exact ⟨x, _, rfl, RelSt.setN i _ r2⟩
  | some _ :: _, _, 0, x, ⟨_, _, e, _, r2⟩ => by subst e; exact ⟨x, _, rfl, r2⟩
  | some _ :: _, _, i + 1, _, ⟨x, _, e, r1, r2⟩ => by subst e; exact ⟨x, _, rfl, r1, RelSt.setN i _ r2⟩
theorem RelWs.length : ∀ {l : List Sv} {vs : List V}, RelWs T ω l vs → vs.length = l.length
  | [], _, r => by cases r; rfl
  | _ :: _, _, ⟨_, _, e, _, r⟩ => by subst e; simp [RelWs.length r]
theorem RelWs.get : ∀ {l : List Sv} {vs : List V} {i : Nat} {d : Sv}, RelWs T ω l vs → l[i]? = some d → ∃ v, vs[i]? = some v ∧ RelW T ω d v
  | [], _, _, _, _, h => by simp at h
  | a :: l, _, 0, d, ⟨v, _, e, r1, _⟩, h => by
    subst e
    have : a = d := by simpa using h
    subst this
    exact ⟨v, rfl, r1⟩
  | a :: l, _, i + 1, d, ⟨v, _, e, _, r2⟩, h => by
    subst e
    simpa using RelWs.get (i := i) r2 (by simpa using h)
theorem RelWs.append : ∀ {l m : List Sv} {vs us : List V}, RelWs T ω l vs → RelWs T ω m us → RelWs T ω (l ++ m) (vs ++ us)
  | [], _, _, _, e, r => by cases e; exact r
  | _ :: _, _, _, _, ⟨v, _, e, r1, r2⟩, r => by subst e; exact ⟨v, _, rfl, r1, RelWs.append r2 r⟩
theorem RelWs.set : ∀ {l : List Sv} {vs : List V} (i : Nat) {w : Sv} {v : V}, RelWs T ω l vs → RelW T ω w v → RelWs T ω (l.set i w) (vs.set i v)
  | [], _, _, _, _, r, _ => by cases r; rfl
  | _ :: _, _, 0, _, v, ⟨_, _, e, _, r2⟩, q => by subst e; exact ⟨v, _, rfl, q, r2⟩
  | _ :: _, _, i + 1, _, _, ⟨x, _, e, r1, r2⟩, q => by subst e; exact ⟨x, _, rfl, r1, RelWs.set i r2 q⟩
theorem RelWs.dropLast : ∀ {l : List Sv} {vs : List V}, RelWs T ω l vs → RelWs T ω l.dropLast vs.dropLast
  | [], _, e => by cases e; rfl
  | [_], _, ⟨_, _, e, _, e2⟩ => by cases e2; subst e; rfl
  | _ :: b :: l, _, ⟨v, _, e, r1, ⟨v2, r, e2, r2, r3⟩⟩ => by
    subst e2; subst e
    exact ⟨v, _, rfl, r1, RelWs.dropLast (l := b :: l) ⟨v2, r, rfl, r2, r3⟩⟩
theorem RelWs.eraseIdx : ∀ {l : List Sv} {vs : List V} (i : Nat), RelWs T ω l vs → RelWs T ω (l.eraseIdx i) (vs.eraseIdx i)
  | [], _, _, e => by cases e; rfl
  | _ :: _, _, 0, ⟨_, _, e, _, r2⟩ => by subst e; exact r2
  | _ :: _, _, i + 1, ⟨v, _, e, r1, r2⟩ => by subst e; exact ⟨v, _, rfl, r1, RelWs.eraseIdx i r2⟩
theorem RelWs.of : ∀ {l : List D} {vs : List V}, Rels T ω.φ l vs → RelWs T ω (l.map Sv.d) vs
  | [], _, r => r
  | _ :: _, _, ⟨v, r, e, r1, r2⟩ => ⟨v, r, e, r1, RelWs.of r2⟩
theorem RelWs.to : ∀ {l : List D} {vs : List V}, RelWs T ω (l.map Sv.d) vs → Rels T ω.φ l vs
  | [], _, r => r
  | _ :: _, _, ⟨v, r, e, r1, r2⟩ => ⟨v, r, e, r1, RelWs.to r2⟩
theorem RelWF.of : ∀ {l : List (Fl × D)} {vs : List (Str × V)}, RelF T ω.φ l vs → RelWF T ω (l.map fun p => (p.1, Sv.d p.2)) vs
  | [], _, r => r
  | (_, _) :: _, _, ⟨v, r, e, r1, r2⟩ => ⟨v, r, e, r1, RelWF.of r2⟩
theorem RelWF.to : ∀ {l : List (Fl × D)} {vs : List (Str × V)}, RelWF T ω (l.map fun p => (p.1, Sv.d p.2)) vs → RelF T ω.φ l vs
  | [], _, r => r
  | (_, _) :: _, _, ⟨v, r, e, r1, r2⟩ => ⟨v, r, e, r1, RelWF.to r2⟩
theorem RelWK.of : ∀ {l : List (Key × D)} {vs : List (Key × V)}, RelK T ω.φ l vs → RelWK T ω (l.map fun p => (p.1, Sv.d p.2)) vs
  | [], _, r => r
  | (_, _) :: _, _, ⟨v, r, e, r1, r2⟩ => ⟨v, r, e, r1, RelWK.of r2⟩
theorem RelWK.to : ∀ {l : List (Key × D)} {vs : List (Key × V)}, RelWK T ω (l.map fun p => (p.1, Sv.d p.2)) vs → RelK T ω.φ l vs
  | [], _, r => r
  | (_, _) :: _, _, ⟨v, r, e, r1, r2⟩ => ⟨v, r, e, r1, RelWK.to r2⟩
theorem RelWF.lookup : ∀ {l : List (Fl × Sv)} {vs : List (Str × V)} {f : Fl} {d : Sv}, RelWF T ω l vs → l.lookup f = some d → ∃ v, vs.lookup f.s = some v ∧ RelW T ω d v
  | [], _, _, _, _, h => by simp at h
  | (n, a) :: l, _, f, d, ⟨v, r, e, r1, r2⟩, h => by
    subst e
    rw [List.lookup_cons] at h ⊢
    by_cases q : f = n
    · subst q
      simp only [beq_self_eq_true] at h ⊢
      cases h
      exact ⟨v, rfl, r1⟩
    · have q1 : (f == n) = false := by simpa using q
      have q2 : (f.s == n.s) = false := by
        cases z : f.s == n.s with
        | false => rfl
        | true => exact absurd (Fl.inj (eq_of_beq z)) q
      rw [q1] at h
      rw [q2]
      exact RelWF.lookup r2 h
theorem RelWF.lookup_none : ∀ {l : List (Fl × Sv)} {vs : List (Str × V)} {m : Str}, RelWF T ω l vs → (∀ f ∈ l.map (·.1), f.s ≠ m) → vs.lookup m = none
  | [], _, _, e, _ => by cases e; rfl
  | (n, a) :: l, _, m, ⟨v, r, e, r1, r2⟩, h => by
    subst e
    rw [List.lookup_cons]
    have q : (m == n.s) = false := by
      cases z : m == n.s with
      | false => rfl
      | true => exact absurd (eq_of_beq z).symm (h n (by simp))
    rw [q]
    exact RelWF.lookup_none r2 fun f hf => h f (by simp at hf ⊢; exact .inr hf)
theorem RelWF.length : ∀ {l : List (Fl × Sv)} {vs : List (Str × V)}, RelWF T ω l vs → vs.length = l.length
  | [], _, r => by cases r; rfl
  | (_, _) :: _, _, ⟨_, _, e, _, r⟩ => by subst e; simp [RelWF.length r]
/-- a field is put -/
def putL {α : Type} (f : Fl) (w : α) : List (Fl × α) → List (Fl × α)
  | [] => [(f, w)]
  | (g, x) :: r => if g = f then (g, w) :: r else (g, x) :: putL f w r
theorem RelWF.put {f : Fl} {w : Sv} {v : V} (q : RelW T ω w v) : ∀ {l : List (Fl × Sv)} {vs : List (Str × V)}, RelWF T ω l vs → RelWF T ω (putL f w l) (putF f.s v vs)
  | [], _, e => by cases e; exact ⟨v, [], rfl, q, rfl⟩
  | (n, a) :: l, _, ⟨x, r, e, r1, r2⟩ => by
    subst e
    by_cases z : n = f
    · subst z
      have e1 : putL n w ((n, a) :: l) = (n, w) :: l := if_pos rfl
      have e2 : putF n.s v ((n.s, x) :: r) = (n.s, v) :: r := if_pos rfl
      rw [e1, e2]
      exact ⟨v, r, rfl, q, r2⟩
    · have e1 : putL f w ((n, a) :: l) = (n, a) :: putL f w l := if_neg z
      have e2 : putF f.s v ((n.s, x) :: r) = (n.s, x) :: putF f.s v r := if_neg fun y => z (Fl.inj y)
      rw [e1, e2]
      exact ⟨x, _, rfl, r1, RelWF.put q r2⟩
end
/-- the world tells the heap and the store -/
structure Sim (T : Ty) (ω : Wd) (H : Hp) (G : Gs) : Prop where
  sub : Le ω.φ H
  nod : ω.ρ.Nodup
  len : ω.ρ.length = G.length
  at_ : ∀ (i : Nat) m a, G[i]? = some m → ω.ρ[i]? = some a → m = .gone ∨ (ω.φ a = none ∧ ∃ o, H a = some o ∧ RelM T ω m o)
  ex : ∀ a ∈ ω.ρ, H a ≠ none
  tb : NdefX.TabsN T.tabs H
  nt : ∀ a ps, ω.φ a ≠ some (.tbl ps)
/-- from one world and heap to a later one -/
structure Stp (ω : Wd) (H : Hp) (ω' : Wd) (H' : Hp) : Prop where
  w : Wle ω ω'
  kp : ∀ a o, H a = some o → (∀ ps, o ≠ .tbl ps) → a ∉ ω.ρ → H' a = some o
  nw : ∀ a, a ∈ ω'.ρ → a ∉ ω.ρ → H a = none
  fr : ∀ a, ω'.φ a ≠ none → ω.φ a = none → H a = none ∨ a ∈ ω.ρ ∨ ∃ ψ, H a = some (.ext ψ)
  al : ∀ a, H' a = none → H a = none
  tl : ∀ a ps, H a = some (.tbl ps) → ∃ qs, H' a = some (.tbl qs)
theorem Stp.refl (ω : Wd) (H : Hp) : Stp ω H ω H := ⟨Wle.refl _, fun _ _ h _ _ => h, fun _ h k => absurd h k, fun _ h k => absurd k h, fun _ h => h, fun _ ps h => ⟨ps, h⟩⟩
theorem Stp.trans {ω ω1 ω2 : Wd} {H H1 H2 : Hp} (a : Stp ω H ω1 H1) (b : Stp ω1 H1 ω2 H2) : Stp ω H ω2 H2 where
  w := a.w.trans b.w
  kp x o h t n := by
    refine b.kp x o (a.kp x o h t n) t fun q => ?_
    rw [a.nw x q n] at h
    cases h
  nw x h n := by
    by_cases q : x ∈ ω1.ρ
    · exact a.nw x q n
    · exact a.al x (b.nw x h q)
  fr x h n := by
    by_cases q : ω1.φ x = none
    · rcases b.fr x h q with z | z | ⟨ψ, z⟩
      · exact .inl (a.al x z)
      · by_cases y : x ∈ ω.ρ
        · exact .inr (.inl y)
        · exact .inl (a.nw x z y)
      · by_cases y : x ∈ ω.ρ
        · exact .inr (.inl y)
        · cases e : H x with
          | none => exact .inl rfl
          | some o =>
            by_cases t : ∃ ps, o = .tbl ps
            · obtain ⟨ps, rfl⟩ := t
              obtain ⟨qs, e2⟩ := a.tl x ps e
              rw [e2] at z; cases z
            · have := a.kp x o e (fun ps w => t ⟨ps, w⟩) y
              rw [this] at z
              exact .inr (.inr ⟨ψ, z⟩)
    · exact a.fr x q n
  al x h := a.al x (b.al x h)
  tl x ps h := by
    obtain ⟨qs, e⟩ := a.tl x ps h
    exact b.tl x qs e
theorem nodup_at {l : List Addr} (n : l.Nodup) {i j : Nat} {a : Addr} (h : l[i]? = some a) (k : l[j]? = some a) : i = j := by
  obtain ⟨hi, e⟩ := List.getElem?_eq_some_iff.mp h
  obtain ⟨hj, e2⟩ := List.getElem?_eq_some_iff.mp k
  rcases Nat.lt_trichotomy i j with q | q | q
  · exact absurd (e.trans e2.symm) (List.pairwise_iff_getElem.mp n i j hi hj q)
  · exact q
  · exact absurd (e2.trans e.symm) (List.pairwise_iff_getElem.mp n j i hj hi q)
theorem Sim.addr {T : Ty} {ω : Wd} {H : Hp} {G : Gs} (S : Sim T ω H G) {i : Nat} {m : MO} (h : G[i]? = some m) : ∃ a, ω.ρ[i]? = some a := by
  have : i < ω.ρ.length := by rw [S.len]; exact (List.getElem?_eq_some_iff.mp h).1
  exact ⟨_, List.getElem?_eq_getElem this⟩
/-- a new frozen object -/
theorem frozen_new {T : Ty} {ω : Wd} {H : Hp} {G : Gs} (S : Sim T ω H G) {p : Addr} {o : HO} (hp : H p = none) (ho : ∀ ps, o ≠ .tbl ps) :
    Sim T ⟨upd ω.φ p o, ω.ρ⟩ (upd H p o) G ∧ Stp ω H ⟨upd ω.φ p o, ω.ρ⟩ (upd H p o) := by
  have fp : ω.φ p = none := by
    cases e : ω.φ p with
    | none => rfl
    | some u => rw [S.sub _ _ e] at hp; cases hp
  have np : p ∉ ω.ρ := fun h => S.ex p h hp
  have W : Wle ω ⟨upd ω.φ p o, ω.ρ⟩ := ⟨Le.upd fp, [], by simp⟩
  refine ⟨⟨fun a u e => ?_, S.nod, S.len, fun i m a hm ha => ?_, fun a ha => ?_, tabs_new S.tb hp, fun a ps (z : upd ω.φ p o a = _) => by
    by_cases q : a = p
    · subst q; rw [upd_same] at z; exact ho ps (Option.some.inj z)
    · rw [upd_ne q] at z; exact S.nt a ps z⟩, W, fun a u e _ _ => ?_, fun a h n => absurd h n, fun a h n => ?_, fun a h => ?_, fun a ps e => ⟨ps, (upd_ne (ne_of_none e hp)).trans e⟩⟩
  · have e' : upd ω.φ p o a = some u := e
    by_cases q : a = p
    · subst q; rw [upd_same] at e' ⊢; exact e'
    · rw [upd_ne q] at e' ⊢; exact S.sub _ _ e'
  · rcases S.at_ i m a hm ha with h | ⟨h1, u, h2, h3⟩
    · exact .inl h
    · have q : a ≠ p := fun z => by subst z; rw [hp] at h2; cases h2
      exact .inr ⟨(upd_ne q).trans h1, u, (upd_ne q).trans h2, h3.mono W⟩
  · have q : a ≠ p := fun z => by subst z; exact np ha
    rw [upd_ne q]; exact S.ex a ha
  · have q : a ≠ p := fun z => by subst z; rw [hp] at e; cases e
    rw [upd_ne q]; exact e
  · by_cases q : a = p
    · subst q; exact .inl hp
    · exact absurd ((upd_ne q).trans n) h
  · by_cases q : a = p
    · subst q; exact hp
    · rw [upd_ne q] at h; exact h
/-- a new object of the store -/
theorem store_new {T : Ty} {ω : Wd} {H : Hp} {G : Gs} (S : Sim T ω H G) {p : Addr} {o : HO} {m : MO} (hp : H p = none) (hm : RelM T ω m o) :
    Sim T ⟨ω.φ, ω.ρ ++ [p]⟩ (upd H p o) (G ++ [m]) ∧ Stp ω H ⟨ω.φ, ω.ρ ++ [p]⟩ (upd H p o) := by
  have fp : ω.φ p = none := by
    cases e : ω.φ p with
    | none => rfl
    | some u => rw [S.sub _ _ e] at hp; cases hp
  have np : p ∉ ω.ρ := fun h => S.ex p h hp
  have W : Wle ω ⟨ω.φ, ω.ρ ++ [p]⟩ := ⟨Le.refl _, [p], rfl⟩
  refine ⟨⟨fun a u e => ?_, ?_, by simp [S.len], fun i m' a hm' ha => ?_, fun a ha => ?_, tabs_new S.tb hp, S.nt⟩, W, fun a u e _ _ => ?_, fun a h n => ?_, fun a h n => absurd n h, fun a h => ?_, fun a ps e => ⟨ps, (upd_ne (ne_of_none e hp)).trans e⟩⟩
  · have q : a ≠ p := fun z => by subst z; have := S.sub _ _ e; rw [hp] at this; cases this
    rw [upd_ne q]; exact S.sub _ _ e
  · exact List.nodup_append.mpr ⟨S.nod, by simp, fun a ha b hb => by
      have : b = p := by simpa using hb
      subst this
      exact fun z => np (z ▸ ha)⟩
  · by_cases hi : i < G.length
    · rw [List.getElem?_append_left hi] at hm'
      have ha' : ω.ρ[i]? = some a := by
        rw [show (⟨ω.φ, ω.ρ ++ [p]⟩ : Wd).ρ = ω.ρ ++ [p] from rfl, List.getElem?_append_left (by rw [S.len]; exact hi)] at ha
        exact ha
      rcases S.at_ i m' a hm' ha' with h | ⟨h1, u, h2, h3⟩
      · exact .inl h
      · have q : a ≠ p := fun z => by subst z; rw [hp] at h2; cases h2
        exact .inr ⟨h1, u, (upd_ne q).trans h2, h3.mono W⟩
    · have hi' : i = G.length := by
        have := (List.getElem?_eq_some_iff.mp hm').1
        simp at this
        omega
      subst hi'
      have e1 : m = m' := by simpa using hm'
      have e2 : p = a := by
        have : (ω.ρ ++ [p])[G.length]? = some a := ha
        rw [← S.len] at this
        simpa using this
      subst e1 e2
      exact .inr ⟨fp, o, upd_same, hm.mono W⟩
  · have ha' : a ∈ ω.ρ ∨ a = p := by simpa using ha
    rcases ha' with h | h
    · have q : a ≠ p := fun z => by subst z; exact np h
      rw [upd_ne q]; exact S.ex a h
    · subst h; rw [upd_same]; simp
  · have q : a ≠ p := fun z => by subst z; rw [hp] at e; cases e
    rw [upd_ne q]; exact e
  · have h' : a ∈ ω.ρ ∨ a = p := by simpa using h
    rcases h' with z | z
    · exact absurd z n
    · subst z; exact hp
  · by_cases q : a = p
    · subst q; exact hp
    · rw [upd_ne q] at h; exact h
theorem relM_te {T : Ty} {ω : Wd} {m : MO} {o : L2.HO} (h : RelM T ω m o) (g : m ≠ .gone) : ¬ TabE o := by
  cases m with
  | lst l => obtain ⟨vs, rfl, _⟩ := h; rintro (⟨ps, z⟩ | ⟨φ, z⟩) <;> cases z
  | dic l => obtain ⟨vs, rfl, _⟩ := h; rintro (⟨ps, z⟩ | ⟨φ, z⟩) <;> cases z
  | ins c l => obtain ⟨_, dx, vs, rfl, _⟩ := h; rintro (⟨ps, z⟩ | ⟨φ, z⟩) <;> cases z
  | gone => exact absurd rfl g
/-- an object of the store is written -/
theorem store_set {T : Ty} {ω : Wd} {H : Hp} {G : Gs} (S : Sim T ω H G) {i : Nat} {a : Addr} {o : HO} {m m0 : MO} (hi : G[i]? = some m0) (hg : m0 ≠ .gone) (ha : ω.ρ[i]? = some a) (hm : RelM T ω m o) :
    Sim T ω (upd H a o) (G.set i m) ∧ Stp ω H ω (upd H a o) := by
  have fa : ω.φ a = none := by
    rcases S.at_ i m0 a hi ha with h | ⟨h, _⟩
    · exact absurd h hg
    · exact h
  have ia : a ∈ ω.ρ := List.mem_of_getElem? ha
  refine ⟨⟨fun b u e => ?_, S.nod, by simp [S.len], fun j m' b hm' hb => ?_, fun b hb => ?_, ?_, S.nt⟩, Wle.refl _, fun b u e _ n => ?_, fun b h n => absurd h n, fun b h n => absurd n h, fun b h => ?_, fun b ps e => ⟨ps, ?_⟩⟩
  · have q : b ≠ a := fun z => by subst z; rw [fa] at e; cases e
    rw [upd_ne q]; exact S.sub _ _ e
  · by_cases q : j = i
    · subst q
      have e2 : a = b := Option.some.inj (ha.symm.trans hb)
      subst e2
      have : (G.set j m)[j]? = some m := by
        rw [List.getElem?_set_self ((List.getElem?_eq_some_iff.mp hi).1)]
      have e3 : m = m' := Option.some.inj (this.symm.trans hm')
      subst e3
      exact .inr ⟨fa, o, upd_same, hm⟩
    · rw [List.getElem?_set_ne (Ne.symm q)] at hm'
      rcases S.at_ j m' b hm' hb with h | ⟨h1, u, h2, h3⟩
      · exact .inl h
      · have z : b ≠ a := fun z => by subst z; exact q (nodup_at S.nod hb ha)
        exact .inr ⟨h1, u, (upd_ne z).trans h2, h3⟩
  · by_cases q : b = a
    · subst q; rw [upd_same]; simp
    · rw [upd_ne q]; exact S.ex b hb
  · rcases S.at_ i m0 a hi ha with h | ⟨_, u, h2, h3⟩
    · exact absurd h hg
    · exact tabs_old S.tb h2 (relM_te h3 hg)
  · have q : b ≠ a := fun z => by subst z; exact n ia
    rw [upd_ne q]; exact e
  · by_cases q : b = a
    · subst q; rw [upd_same] at h; cases h
    · rw [upd_ne q] at h; exact h
  · have q : b ≠ a := fun z => by
      subst z
      rcases S.at_ i m0 b hi ha with h | ⟨_, u, h2, h3⟩
      · exact hg h
      · rw [e] at h2; cases h2; exact relM_te h3 hg (.inl ⟨_, rfl⟩)
    exact (upd_ne q).trans e
end Fx

end

section
set_option Elab.async false
set_option linter.all false
set_option maxRecDepth 100000
set_option maxHeartbeats 1000000
/-! The core language and what it does: a big-step relation over data. -/
namespace Fx
open PySem L2 PyProof.Rows
inductive Bo where
  | add | sub | mul | fdiv | mod | pow | eq | ne | lt | le | gt | ge | in_ | notin | is_ | isnot
  deriving DecidableEq
inductive Tn where
  | int | bool | str | tuple | list | dict | cls (c : Cn)
inductive Pr where
  | len | abs | intp | strp | all_ | any_ | tuple_ | max2 | min2 | max1 | min1 | sum_ | isi (t : Tn)
  | startsw | endsw | partition | replace | zfill | join | strip0 | strip1 | lstrip1 | rstrip1 | index | count | upper | repr | get1 | get2
/-- builtins that make a new list -/
inductive Pn where
  | list_ | split1 | split2 | sorted_
/-- methods that change a list or a dict -/
inductive Mm where
  | append | extend | pop | popAt | remove | insert | update | setdefault
inductive Tg where
  | nm (i : Nat) | tup (l : List Tg) | star (l : List Nat) (i : Nat)
abbrev Ag := List (Sum Nat D)
mutual
inductive CE where
  | var (i : Nat) | con (d : D)
  | bin (o : Bo) (a b : CE) | neg (a : CE) | nt (a : CE)
  | chain (o p : Bo) (a b c : CE)
  | and (a b : CE) | or (a b : CE) | andT (a b : CE) | orT (a b : CE)
  | ifx (c : CT) (a b : CE)
  | tup (l : List CE) | lst (l : List CE)
  | call (f : F) (l : List CE) | callk (f : F) (l kl : List CE) (ag : Ag)
  | callv (i : Nat) (l : List CE)
  | meth (m : Mn) (o : CE) (l : List CE) | methk (m : Mn) (o : CE) (kl : List CE) (ag : Ag)
  | new (c : Cn) (l : List CE) (ds : List D) | newk (c : Cn) (kl : List CE) (ag : Ag)
  | newM (c : Cn) (l : List CE)
  | attr (o : CE) (f : Fl)
  | prim (p : Pr) (l : List CE) | primN (p : Pn) (l : List CE)
  | primM (p : Pr) (o : CE) (l : List CE) | primNM (p : Pn) (o : CE) (l : List CE)
  | sub (o i : CE) | slc (o : CE) (a b : Option CE) | rev (o : CE)
  | gdic (x : Str) (i : CE)
  | lc (el : CE) (tg : Tg) (it : It) (ifs : List CT) (vs : List Nat)
  | lc2 (el : CE) (tg : Tg) (it : It) (ifs : List CT) (tg1 : Tg) (it1 : It) (ifs1 : List CT) (vs vs1 : List Nat)
  | dc (k v : CE) (tg : Tg) (it : It) (ifs : List CT) (vs : List Nat)
  | scl (el : CE) (tg : Tg) (it : It) (vs : List Nat)
  | fstr (l : List (Sum Str CE))
  | dsp (l : List (CE × CE))
  | mut (e : CE)
  | mm (m : Mm) (o : CE) (l : List CE)
inductive CT where
  | tru (e : CE) | cmp (o : Bo) (a b : CE) | chain (o p : Bo) (a b c : CE) | nt (t : CT) | and (a b : CT) | or (a b : CT)
inductive It where
  | seq (e : CE) | enum (e : CE) | zip (a b : CE) | zips (a b : CE) | rng1 (e : CE) | rng2 (a b : CE) | items (e : CE)
end
inductive CS where
  | asg (t : Tg) (e : CE) | asg2 (t u : Tg) (e : CE)
  | par (l : List Nat) (es : List CE)
  | aug (i : Nat) (o : Bo) (e : CE)
  | fset (o : CE) (f : Fl) (e : CE) | faug (o : CE) (f : Fl) (b : Bo) (e : CE)
  | setx (o i e : CE)
  | ite (c : CT) (a b : List CS)
  | whl (c : CT) (b : List CS)
  | for_ (tg : Tg) (it : It) (b : List CS)
  | ret (e : CE) | retN
  | exp (e : CE)
  | raise (c : Cn) (l : List CE)
  | try1 (b : List CS) (c : Cn) (h : List CS)
  | tryThru (b : List CS)
  | brk | cnt | pass
  | frz (i : Nat)
structure FnDecl where
  np : Nat
  nn : Nat
  body : List CS
/-! ### operations on data -/
mutual
def eqD : D → D → Bool
  | .non, .non => true
  | .bl a, .bl b => a == b
  | .bl a, .int j => (if a then 1 else 0) == j
  | .int i, .bl b => i == (if b then 1 else 0)
  | .int i, .int j => i == j
  | .str x, .str y => x == y
  | .lst l, .lst m => eqDs l m
  | .tup l, .tup m => eqDs l m
  | .obj c l, .obj c' m => decide (c = c') && eqDF l m
  | _, _ => false
def eqDs : List D → List D → Bool
  | [], [] => true
  | x :: l, y :: m => eqD x y && eqDs l m
  | _, _ => false
def eqDF : List (Fl × D) → List (Fl × D) → Bool
  | [], [] => true
  | (f, x) :: l, (g, y) :: m => decide (f = g) && (eqD x y && eqDF l m)
  | _, _ => false
end
/-- the pairs that == tells at once -/
def scalD : D → D → Bool
  | .non, .non => true | .non, .int _ => true | .int _, .non => true | .non, .bl _ => true | .bl _, .non => true | .non, .str _ => true | .str _, .non => true
  | .int _, .int _ => true | .bl _, .bl _ => true | .str _, .str _ => true
  | .int _, .str _ => true | .str _, .int _ => true | .bl _, .str _ => true | .str _, .bl _ => true
  | _, _ => false
/- none, bools, ints, texts, lists and tuples of these, so deep at most -/
mutual
def plainD : Nat → D → Bool
  | _, .non => true
  | _, .bl _ => true
  | _, .int _ => true
  | _, .str x => PyData.strOk x
  | n + 1, .lst l => plainDs n l
  | n + 1, .tup l => plainDs n l
  | _, _ => false
def plainDs : Nat → List D → Bool
  | _, [] => true
  | n, x :: l => plainD n x && plainDs n l
end
/-- two that == compares as data -/
def eqOk (x y : D) : Prop := scalD x y = true ∨ (plainD 60 x = true ∧ plainD 60 y = true)
def flatD : D → Bool
  | .non => true
  | .bl _ => true
  | .int _ => true
  | .str _ => true
  | _ => false
def tru : D → Option Bool
  | .non => some false
  | .bl b => some b
  | .int i => some (i != 0)
  | .str x => some ((x.length : Int) != 0)
  | .tup l => some (!l.isEmpty)
  | .lst l => some (!l.isEmpty)
  | _ => none
def truOk : D → Prop
  | .str x => x.length ≤ sizeLine
  | _ => True
def isNon : D → Bool
  | .non => true
  | _ => false
def keyOf : D → Option Key
  | .int i => some (.inl i)
  | .str x => some (.inr x)
  | _ => none
def repStr (x : Str) (n : Nat) : Str := ⟨(List.replicate n x.cps.toList).flatten.toArray⟩
/-- the value of an operator that makes no list -/
def bo : Bo → D → D → Option D
  | .add, .int i, .int j => some (.int (i + j))
  | .add, .int i, .bl b => some (.int (i + b2i b))
  | .add, .str x, .str y => some (.str (x ++ y))
  | .add, .tup l, .tup m => some (.tup (l ++ m))
  | .sub, .int i, .int j => some (.int (i - j))
  | .mul, .int i, .int j => some (.int (i * j))
  | .mul, .str x, .int j => some (.str (repStr x j.toNat))
  | .fdiv, .int i, .int j => some (.int (i / j))
  | .mod, .int i, .int j => some (.int (i % j))
  | .pow, .int i, .int j => some (.int (i ^ j.toNat))
  | .eq, x, y => some (.bl (eqD x y))
  | .ne, x, y => some (.bl (!eqD x y))
  | .lt, .int i, .int j => some (.bl (decide (i < j)))
  | .le, .int i, .int j => some (.bl (decide (i ≤ j)))
  | .gt, .int i, .int j => some (.bl (decide (j < i)))
  | .ge, .int i, .int j => some (.bl (decide (j ≤ i)))
  | .in_, x, .tup l => some (.bl (l.any fun y => eqD y x))
  | .in_, x, .lst l => some (.bl (l.any fun y => eqD y x))
  | .in_, .str x, .str y => some (.bl (!(Builtin.Str.occurrences y x 0 y.length 1).isEmpty))
  | .in_, .str x, .dic l => some (.bl (l.any fun p => decide (p.1 = Sum.inr x)))
  | .in_, .int x, .dic l => some (.bl (l.any fun p => decide (p.1 = Sum.inl x)))
  | .notin, x, .tup l => some (.bl (!l.any fun y => eqD y x))
  | .notin, x, .lst l => some (.bl (!l.any fun y => eqD y x))
  | .notin, .str x, .str y => some (.bl (!(!(Builtin.Str.occurrences y x 0 y.length 1).isEmpty)))
  | .notin, .str x, .dic l => some (.bl (!l.any fun p => decide (p.1 = Sum.inr x)))
  | .is_, x, .non => some (.bl (isNon x))
  | .isnot, x, .non => some (.bl (!isNon x))
  | .is_, .bl a, .bl b => some (.bl (decide (a = b)))
  | .isnot, .bl a, .bl b => some (.bl (!decide (a = b)))
  | _, _, _ => none
/-- what it asks besides -/
def okB : Bo → D → D → Prop
  | .add, .str x, .str y => x.length + y.length ≤ sizeLine
  | .add, .tup l, .tup m => l.length + m.length ≤ sizeLine
  | .mul, .int i, .int j => CMulX i j
  | .mul, .str x, .int j => x.length = 1 ∧ 0 ≤ j ∧ j ≤ sizeLine
  | .fdiv, .int i, .int j => CDivW i j
  | .mod, .int _, .int j => 0 < j
  | .pow, .int i, .int j => CPow i j
  | .eq, x, y => eqOk x y
  | .ne, x, y => eqOk x y
  | .in_, x, .tup l => flatD x = true ∧ l.all flatD = true
  | .in_, x, .lst l => flatD x = true ∧ l.all flatD = true
  | .notin, x, .tup l => flatD x = true ∧ l.all flatD = true
  | .notin, x, .lst l => flatD x = true ∧ l.all flatD = true
  | _, _, _ => True
/-- an operator that makes a list -/
def boN : Bo → D → D → Option (List D)
  | .add, .lst l, .lst m => some (l ++ m)
  | .mul, .lst l, .int k => some (List.replicate k.toNat l).flatten
  | _, _, _ => none
def okBN : Bo → D → D → Prop
  | .add, .lst l, .lst m => l.length + m.length ≤ sizeLine
  | .mul, .lst l, .int k => -(2 ^ 63) ≤ k ∧ k < 2 ^ 63 ∧ l.length * k.toNat ≤ sizeLine
  | _, _, _ => True
/-- what is walked -/
def itemsD : D → Option (List D)
  | .tup l => some l
  | .lst l => some l
  | .str x => some (x.cps.toList.map fun c => .str ⟨#[c]⟩)
  | .scr l => some (l.map .int)
  | _ => none
def isiD : Tn → D → Bool
  | .int, .int _ => true
  | .int, .bl _ => true
  | .bool, .bl _ => true
  | .str, .str _ => true
  | .tuple, .tup _ => true
  | .list, .lst _ => true
  | .list, .scr _ => true
  | .dict, .dic _ => true
  | .cls c, .obj c' _ => decide (c = c')
  | _, _ => false
/-- what isinstance can be asked of -/
def isiOk : D → Prop
  | .fn _ => False
  | .clo _ => False
  | .scr _ => False
  | _ => True
def blsOf : List D → Option (List Bool)
  | [] => some []
  | .bl b :: l => (blsOf l).map (b :: ·)
  | _ => none
def intsOf : List D → Option (List Int)
  | [] => some []
  | .int b :: l => (intsOf l).map (b :: ·)
  | _ => none
def strsOf : List D → Option (List Str)
  | [] => some []
  | .str b :: l => (strsOf l).map (b :: ·)
  | _ => none
def prim : Pr → List D → Option D
  | .len, [.str x] => some (.int x.length)
  | .len, [.tup l] => some (.int l.length)
  | .len, [.lst l] => some (.int l.length)
  | .len, [.scr l] => some (.int l.length)
  | .abs, [.int i] => some (.int (if i < 0 then -i else i))
  | .intp, [.int i] => some (.int i)
  | .intp, [.bl b] => some (.int (if b then 1 else 0))
  | .intp, [.str x] => (PySem.intText? x).map .int
  | .strp, [.int i] => some (.str (toString i))
  | .all_, [.lst l] => (blsOf l).map fun b => .bl (b.all id)
  | .any_, [.lst l] => (blsOf l).map fun b => .bl (b.any id)
  | .tuple_, [.lst l] => some (.tup l)
  | .tuple_, [.tup l] => some (.tup l)
  | .max2, [.int i, .int j] => some (.int (if j > i then j else i))
  | .min2, [.int i, .int j] => some (.int (if j < i then j else i))
  | .sum_, [.lst l] => (intsOf l).map fun b => .int b.sum
  | .isi t, [d] => some (.bl (isiD t d))
  | .startsw, [.str x, .str y] => some (.bl (Txt.startswith x y))
  | .endsw, [.str x, .str y] => some (.bl (Txt.endswith x y))
  | .partition, [.str x, .str y] => some (.tup [.str (Txt.partition x y).1, .str (Txt.partition x y).2.1, .str (Txt.partition x y).2.2])
  | .zfill, [.str x, .int i] => some (.str (Txt.zfill x i))
  | .join, [.str x, .lst l] => (strsOf l).map fun b => .str (Txt.join x b)
  | .join, [.str x, .tup l] => (strsOf l).map fun b => .str (Txt.join x b)
  | .strip1, [.str x, .str y] => some (.str (Txt.stripChars x y))
  | .lstrip1, [.str x, .str y] => some (.str (Txt.lstripChars x y))
  | .rstrip1, [.str x, .str y] => some (.str (Txt.rstripChars x y))
  | .get1, [.dic l, k] => (keyOf k).map fun k => ((l.find? fun p => decide (p.1 = k)).map (·.2)).getD .non
  | .get2, [.dic l, k, x] => (keyOf k).map fun k => ((l.find? fun p => decide (p.1 = k)).map (·.2)).getD x
  | _, _ => none
def notLD : D → Bool
  | .lst _ => false
  | .dic _ => false
  | _ => true
def okP : Pr → List D → Prop
  | .len, [.str x] => x.length ≤ sizeLine
  | .intp, [.str x] => x.length ≤ 640
  | .strp, [.int i] => i.natAbs.log2 < 1920
  | .isi _, [d] => isiOk d
  | .partition, [.str x, .str y] => (y.length == 0) = false ∧ x.length ≤ sizeLine
  | .zfill, [.str _, .int i] => PadOk i = true
  | .join, [.str x, .lst l] => ∀ b, strsOf l = some b → (b.map (·.length)).sum + b.length * x.length ≤ 16777216
  | .join, [.str x, .tup l] => ∀ b, strsOf l = some b → (b.map (·.length)).sum + b.length * x.length ≤ 16777216
  | .strip1, [.str x, _] => x.length ≤ sizeLine
  | .lstrip1, [.str x, _] => x.length ≤ sizeLine
  | .rstrip1, [.str x, _] => x.length ≤ sizeLine
  | .get2, [_, _, x] => notLD x = true
  | _, _ => True
/-- whose method it is -/
def recvD : Pr → D → Bool
  | .get1, .dic _ => true
  | .get2, .dic _ => true
  | .get1, _ => false
  | .get2, _ => false
  | _, .str _ => true
  | _, _ => false
def isStr : D → Bool
  | .str _ => true
  | _ => false
/-- a subscript -/
def subD : D → D → Option D
  | .tup l, .int i => atI l i
  | .lst l, .int i => atI l i
  | .scr l, .int i => (atI l i).map .int
  | .str x, .int i => (atI x.cps.toList i).map fun c => .str ⟨#[c]⟩
  | .dic l, .int i => (l.find? fun p => decide (p.1 = Sum.inl i)).map (·.2)
  | .dic l, .str i => (l.find? fun p => decide (p.1 = Sum.inr i)).map (·.2)
  | _, _ => none
def subOk : D → Prop
  | .str x => x.length ≤ sizeLine
  | _ => True
def cutD {α : Type} (l : List α) (lo hi : Option Int) : List α := (l.drop (HT.sIx l.length 0 lo)).take (HT.sIx l.length l.length hi - HT.sIx l.length 0 lo)
/-- a slice that makes no list -/
def slcD : D → Option Int → Option Int → Option D
  | .str x, lo, hi => some (.str (cutS x lo hi))
  | .tup l, lo, hi => some (.tup (cutD l lo hi))
  | _, _, _ => none
def slcN : D → Option Int → Option Int → Option (List D)
  | .lst l, lo, hi => some (cutD l lo hi)
  | .scr l, lo, hi => some ((cutD l lo hi).map .int)
  | _, _, _ => none
def revN : D → Option (List D)
  | .lst l => some l.reverse
  | _ => none
def primN : Pn → List D → Option (List D)
  | .list_, [.lst l] => some l
  | .list_, [.tup l] => some l
  | .list_, [.scr l] => some (l.map .int)
  | .list_, [.str x] => some (x.cps.toList.map fun c => .str ⟨#[c]⟩)
  | .split1, [.str x, .str y] => some ((Txt.split x y).map .str)
  | _, _ => none
def okPN : Pn → List D → Prop
  | .list_, [.str x] => x.length ≤ sizeLine
  | .split1, [.str x, .str y] => (y.length == 0) = false ∧ x.length + 2 ≤ sizeLine
  | _, _ => True
/-! ### the store's data -/
def ofSv : Sv → Option D
  | .d x => some x
  | .r _ => none
def ofSvs : List Sv → Option (List D)
  | [] => some []
  | .d x :: l => (ofSvs l).map (x :: ·)
  | .r _ :: _ => none
def ofSvK : List (Key × Sv) → Option (List (Key × D))
  | [] => some []
  | (k, .d x) :: l => (ofSvK l).map ((k, x) :: ·)
  | (_, .r _) :: _ => none
def ofSvF : List (Fl × Sv) → Option (List (Fl × D))
  | [] => some []
  | (k, .d x) :: l => (ofSvF l).map ((k, x) :: ·)
  | (_, .r _) :: _ => none
/-- a value as data, a mutable object as it stands -/
def view (G : Gs) : Sv → Option D
  | .d x => some x
  | .r i => match G[i]? with
    | some (.lst l) => (ofSvs l).map .lst
    | some (.dic l) => (ofSvK l).map .dic
    | _ => none
def views (G : Gs) : List Sv → Option (List D)
  | [] => some []
  | w :: l => match view G w, views G l with
    | some d, some ds => some (d :: ds)
    | _, _ => none
/-- a subscript of a mutable object -/
def subG (G : Gs) : Sv → D → Option Sv
  | .d x, y => (subD x y).map .d
  | .r k, .int i => match G[k]? with
    | some (.lst l) => atI l i
    | some (.dic l) => (l.find? fun p => decide (p.1 = Sum.inl i)).map (·.2)
    | _ => none
  | .r k, .str i => match G[k]? with
    | some (.dic l) => (l.find? fun p => decide (p.1 = Sum.inr i)).map (·.2)
    | _ => none
  | _, _ => none
def putD (l : List (Key × Sv)) (k : Key) (w : Sv) : List (Key × Sv) := if (l.any fun kv => decide (kv.1 = k)) = true then l.map (fun kv => if kv.1 = k then (kv.1, w) else kv) else l ++ [(k, w)]
/-- the methods that change an object: the value, the object behind -/
def mmG : Mm → MO → List Sv → Option (Sv × MO)
  | .append, .lst l, [w] => some (.d .non, .lst (l ++ [w]))
  | .pop, .lst l, [] => (l[l.length - 1]?).map fun w => (w, .lst l.dropLast)
  | .popAt, .lst l, [.d (.int i)] => (seqIndex? i l.length).bind fun k => (l[k]?).map fun w => (w, .lst (l.eraseIdx k))
  | .extend, .lst l, [.d (.lst m)] => some (.d .non, .lst (l ++ m.map .d))
  | _, _, _ => none
def okMm : Mm → MO → List Sv → Prop
  | .append, .lst l, _ => l.length < sizeLine
  | .popAt, _, [.d (.int i)] => -(2 ^ 63) ≤ i ∧ i < 2 ^ 63
  | .extend, .lst l, [.d (.lst m)] => l.length + m.length ≤ sizeLine
  | _, _, _ => True
/-- the object is of the method's kind -/
def mmTy : Mm → Option MO → Bool
  | .update, some (.dic _) => true
  | .setdefault, some (.dic _) => true
  | .update, _ => false
  | .setdefault, _ => false
  | _, some (.lst _) => true
  | _, _ => false
/-- o[i] = w of a mutable object -/
def setG : MO → D → Sv → Option MO
  | .lst l, .int i, w => (ixN l.length i).map fun j => .lst (l.set j w)
  | .dic l, .str k, w => some (.dic (putD l (.inr k) w))
  | .dic l, .int k, w => some (.dic (putD l (.inl k) w))
  | _, _, _ => none
def setOk : MO → Prop
  | .dic l => l.length < sizeLine
  | _ => True
/-! ### targets -/
mutual
/-- the names behind a store; tuples are taken apart -/
def bindT : Tg → Sv → Sg → Option Sg
  | .nm i, w, σ => some (σ.set i (some w))
  | .tup l, .d (.tup ds), σ => bindTs l (ds.map .d) σ
  | .tup l, .d (.lst ds), σ => bindTs l (ds.map .d) σ
  | .star l i, .d (.lst ds), σ => if l.length ≤ ds.length then some ((bindNs l (ds.take l.length) σ).set i (some (.d (.lst (ds.drop l.length))))) else none
  | .star l i, .d (.tup ds), σ => if l.length ≤ ds.length then some ((bindNs l (ds.take l.length) σ).set i (some (.d (.lst (ds.drop l.length))))) else none
  | _, _, _ => none
def bindTs : List Tg → List Sv → Sg → Option Sg
  | [], [], σ => some σ
  | t :: ts, w :: ws, σ => (bindT t w σ).bind fun σ' => bindTs ts ws σ'
  | _, _, _ => none
def bindNs : List Nat → List D → Sg → Sg
  | i :: is, d :: ds, σ => bindNs is ds (σ.set i (some (.d d)))
  | _, _, σ => σ
end
def parS : List Nat → List Sv → Sg → Sg
  | i :: is, w :: ws, σ => parS is ws (σ.set i (some w))
  | _, _, σ => σ
/-! ### calls -/
def arr (ag : Ag) (ws : List Sv) : Option (List Sv) := ag.mapM fun a => match a with
  | .inl i => ws[i]?
  | .inr d => some (.d d)
/-- an instance's class -/
def clsG (G : Gs) : Sv → Option Cn
  | .d (.obj c _) => some c
  | .r k => match G[k]? with
    | some (.ins c _) => some c
    | _ => none
  | _ => none
def fldG (G : Gs) : Sv → Fl → Option Sv
  | .d (.obj _ l), f => (l.lookup f).map .d
  | .r k, f => match G[k]? with
    | some (.ins _ l) => l.lookup f
    | _ => none
  | _, _ => none
/-- the text's methods -/
def mtb : Cn → Mn → Option F
  | .Number, .more => some .Number_more
  | .Number, .less => some .Number_less
  | .Number, .times => some .Number_times
  | .Number, .over => some .Number_over
  | .Number, .below => some .Number_below
  | .Number, .size => some .Number_size
  | .Number, .floor => some .Number_floor
  | .Custom, .by_names => some .Custom_by_names
  | .Custom, .but => some .Custom_but
  | .Wish, .all_told => some .Wish_all_told
  | .Wish, .but => some .Wish_but
  | .WishWords, .refuse => some .WishWords_refuse
  | .WishWords, .is_next => some .WishWords_is_next
  | .WishWords, .take_one => some .WishWords_take_one
  | .WishWords, .take_number => some .WishWords_take_number
  | .WishWords, .take_step => some .WishWords_take_step
  | .Desk, .notes => some .Desk_notes
  | .Desk, .custom_of => some .Desk_custom_of
  | .Desk, .wish_of => some .Desk_wish_of
  | .Desk, .keep_custom => some .Desk_keep_custom
  | .Desk, .keep_wish => some .Desk_keep_wish
  | .Desk, .drop => some .Desk_drop
  | .Desk, .write => some .Desk_write
  | .Desk, .parted => some .Desk_parted
  | .Desk, .told => some .Desk_told
  | .Desk, .all_names => some .Desk_all_names
  | .Desk, .read => some .Desk_read
  | .Desk, .read_so => some .Desk_read_so
  | .Desk, .by_words => some .Desk_by_words
  | .Desk, .answer => some .Desk_answer
  | .Desk, .say => some .Desk_say
  | _, _ => none
def inib : Cn → Option F
  | .Number => some .Number_init
  | .Custom => some .Custom_init
  | .Wish => some .Wish_init
  | .WishWords => some .WishWords_init
  | .Desk => some .Desk_init
  | _ => none
/-- the fields of an exception that is made -/
def excF : Cn → List D → Option (List (Fl × D))
  | .NoText, [a] => some [(.at_, a)]
  | .Unsorted, [a, b] => some [(.low, a), (.high, b)]
  | .NoBottom, [a] => some [(.top, a)]
  | .FigureError, [a] => some [(.thing, a)]
  | .NoCustom, [a] => some [(.thing, a)]
  | .NoWish, [a] => some [(.thing, a)]
  | .NoFit, [a] => some [(.thing, a)]
  | .NoRead, [a] => some [(.thing, a)]
  | .NoName, [a] => some [(.thing, a)]
  | _, _ => none
/-- the first is the second or under it -/
def isExc : Cn → Cn → Bool
  | .NoCustom, .FigureError => true
  | .NoWish, .FigureError => true
  | .NoFit, .FigureError => true
  | .NoRead, .FigureError => true
  | .NoName, .FigureError => true
  | a, b => decide (a = b)
/-! ### judgements -/
inductive Oc where
  | ok (w : Sv) | ex (c : Cn) (l : List (Fl × D))
inductive Ao where
  | ok (ws : List Sv) | ex (c : Cn) (l : List (Fl × D))
inductive Ot where
  | nxt (σ : Sg) | ret (w : Sv) | brk (σ : Sg) | cnt (σ : Sg) | ex (c : Cn) (l : List (Fl × D)) (σ : Sg)
inductive J where
  | E (e : CE) (σ : Sg) (G : Gs) (o : Oc) (G' : Gs)
  | A (l : List CE) (σ : Sg) (G : Gs) (o : Ao) (G' : Gs)
  | N (e : CE) (σ : Sg) (G : Gs) (m : MO) (G' : Gs)
  | T (t : CT) (σ : Sg) (G : Gs) (b : Bool) (G' : Gs)
  | Ts (l : List CT) (σ : Sg) (G : Gs) (b : Bool) (G' : Gs)
  | O (e : Option CE) (σ : Sg) (G : Gs) (i : Option Int) (G' : Gs)
  | I (it : It) (σ : Sg) (G : Gs) (ds : List D) (G' : Gs)
  | C (el : CE) (tg : Tg) (ifs : List CT) (vs : List Nat) (ds : List D) (σ : Sg) (G : Gs) (ws : List Sv) (G' : Gs)
  | S (s : CS) (σ : Sg) (G : Gs) (o : Ot) (G' : Gs)
  | B (l : List CS) (σ : Sg) (G : Gs) (o : Ot) (G' : Gs)
  | R (tg : Tg) (b : List CS) (ds : List D) (σ : Sg) (G : Gs) (o : Ot) (G' : Gs)
  | F (f : F) (ws : List Sv) (G : Gs) (o : Oc) (G' : Gs)
/-- some names forgotten -/
inductive Sub : Sg → Sg → Prop where
  | nil : Sub [] []
  | keep {x : Option Sv} {s t : Sg} (h : Sub s t) : Sub (x :: s) (x :: t)
  | drop {x : Option Sv} {s t : Sg} (h : Sub s t) : Sub (none :: s) (x :: t)
/-- behind an outcome some names are forgotten -/
inductive SubO : Ot → Ot → Prop where
  | nxt {s t : Sg} (h : Sub s t) : SubO (.nxt s) (.nxt t)
  | brk {s t : Sg} (h : Sub s t) : SubO (.brk s) (.brk t)
  | cnt {s t : Sg} (h : Sub s t) : SubO (.cnt s) (.cnt t)
  | ex {c : Cn} {l : List (Fl × D)} {s t : Sg} (h : Sub s t) : SubO (.ex c l s) (.ex c l t)
  | ret {w : Sv} : SubO (.ret w) (.ret w)
def wipeS (σ : Sg) : List Nat → Sg
  | [] => σ
  | v :: vs => (wipeS σ vs).set v none
/-- a store whose objects name none beyond the first n -/
def belowSv (n : Nat) : Sv → Bool
  | .d _ => true
  | .r i => decide (i < n)
def belowM (n : Nat) : MO → Bool
  | .lst l => l.all (belowSv n)
  | .dic l => l.all fun p => belowSv n p.2
  | .ins _ l => l.all fun p => belowSv n p.2
  | .gone => true
end Fx

end

section
set_option Elab.async false
set_option linter.all false
set_option maxRecDepth 100000
set_option maxHeartbeats 1000000
/-! The big-step relation. -/
namespace Fx
open PySem L2 PyProof.Rows
inductive J2 where
  | j (x : J)
  | W (c : CT) (b : List CS) (σ : Sg) (G : Gs) (o : Ot) (G' : Gs)
  | C2 (el : CE) (tg : Tg) (ifs : List CT) (tg1 : Tg) (it1 : It) (ifs1 : List CT) (vs1 : List Nat) (ds : List D) (σ : Sg) (G : Gs) (ws : List Sv) (G' : Gs)
  | Dc (k v : CE) (tg : Tg) (ifs : List CT) (vs : List Nat) (ds : List D) (σ : Sg) (G : Gs) (acc out : List (Key × Sv)) (G' : Gs)
  | Fs (l : List (_root_.Sum Str CE)) (σ : Sg) (G : Gs) (x : Str) (G' : Gs)
  | Dp (l : List (CE × CE)) (σ : Sg) (G : Gs) (kvs : List (Key × Sv)) (G' : Gs)
def putsD (l : List (Key × Sv)) : List (Key × Sv) → List (Key × Sv)
  | [] => l
  | (k, w) :: r => putsD (putD l k w) r
/-- what the rules know besides: the defs, tables, functions told apart, functions that hold a text, who can be called how -/
structure Pg where
  fn : F → Option FnDecl
  gd : Str → D → Option D
  ext : F → List D → D → Prop
  clo : Str → List D → D → Prop
  bd : F → Prop
  nw : Cn → List D → Prop
  kw : F → Nat → List Str → Prop
  tb : Str → Prop
def eqb : Cn → Option F
  | .Number => some .Number_eq
  | .Custom => some .Custom_eq
  | .Wish => some .Wish_eq
  | _ => none
def start0 (d : FnDecl) (ws : List Sv) : Sg := ws.map some ++ List.replicate (d.nn - ws.length) none
inductive Ev (Γ : Pg) : Nat → J2 → Prop
  | var {n i σ G w} (h : σ[i]? = some (some w)) : Ev Γ n (.j (.E (.var i) σ G (.ok w) G))
  | con {n d σ G} : Ev Γ n (.j (.E (.con d) σ G (.ok (.d d)) G))
  | bin {n o a b σ G x G1 y G2 dx dy d} (h1 : Ev Γ n (.j (.E a σ G (.ok x) G1))) (h2 : Ev Γ n (.j (.E b σ G1 (.ok y) G2))) (v1 : view G2 x = some dx) (v2 : view G2 y = some dy) (e : bo o dx dy = some d) (k : okB o dx dy) :
      Ev Γ n (.j (.E (.bin o a b) σ G (.ok (.d d)) G2))
  | binN {n o a b σ G x G1 y G2 dx dy l} (h1 : Ev Γ n (.j (.E a σ G (.ok x) G1))) (h2 : Ev Γ n (.j (.E b σ G1 (.ok y) G2))) (v1 : view G2 x = some dx) (v2 : view G2 y = some dy) (e : boN o dx dy = some l) (k : okBN o dx dy) :
      Ev Γ n (.j (.N (.bin o a b) σ G (.lst (l.map .d)) G2))
  | neg {n a σ G i G1} (h1 : Ev Γ n (.j (.E a σ G (.ok (.d (.int i))) G1))) : Ev Γ n (.j (.E (.neg a) σ G (.ok (.d (.int (-i)))) G1))
  | nt {n a σ G b G1} (h1 : Ev Γ n (.j (.E a σ G (.ok (.d (.bl b))) G1))) : Ev Γ n (.j (.E (.nt a) σ G (.ok (.d (.bl (!b)))) G1))
  | chainT {n o p a b c σ G x G1 y G2 z G3 dx dy dz d} (h1 : Ev Γ n (.j (.E a σ G (.ok x) G1))) (h2 : Ev Γ n (.j (.E b σ G1 (.ok y) G2))) (h3 : Ev Γ n (.j (.E c σ G2 (.ok z) G3)))
      (v1 : view G2 x = some dx) (v2 : view G2 y = some dy) (e1 : bo o dx dy = some (.bl true)) (k1 : okB o dx dy) (v2' : view G3 y = some dy) (v3 : view G3 z = some dz) (e2 : bo p dy dz = some d) (k2 : okB p dy dz) :
      Ev Γ n (.j (.E (.chain o p a b c) σ G (.ok (.d d)) G3))
  | chainF {n o p a b c σ G x G1 y G2 dx dy} (h1 : Ev Γ n (.j (.E a σ G (.ok x) G1))) (h2 : Ev Γ n (.j (.E b σ G1 (.ok y) G2)))
      (v1 : view G2 x = some dx) (v2 : view G2 y = some dy) (e1 : bo o dx dy = some (.bl false)) (k1 : okB o dx dy) :
      Ev Γ n (.j (.E (.chain o p a b c) σ G (.ok (.d (.bl false))) G2))
  | andT {n a b σ G G1 o G2} (h1 : Ev Γ n (.j (.E a σ G (.ok (.d (.bl true))) G1))) (h2 : Ev Γ n (.j (.E b σ G1 (.ok o) G2))) : Ev Γ n (.j (.E (.and a b) σ G (.ok o) G2))
  | andF {n a b σ G G1} (h1 : Ev Γ n (.j (.E a σ G (.ok (.d (.bl false))) G1))) : Ev Γ n (.j (.E (.and a b) σ G (.ok (.d (.bl false))) G1))
  | orT {n a b σ G G1} (h1 : Ev Γ n (.j (.E a σ G (.ok (.d (.bl true))) G1))) : Ev Γ n (.j (.E (.or a b) σ G (.ok (.d (.bl true))) G1))
  | orF {n a b σ G G1 o G2} (h1 : Ev Γ n (.j (.E a σ G (.ok (.d (.bl false))) G1))) (h2 : Ev Γ n (.j (.E b σ G1 (.ok o) G2))) : Ev Γ n (.j (.E (.or a b) σ G (.ok o) G2))
  | ifT {n c a b σ G G1 o G2} (h1 : Ev Γ n (.j (.T c σ G true G1))) (h2 : Ev Γ n (.j (.E a σ G1 (.ok o) G2))) : Ev Γ n (.j (.E (.ifx c a b) σ G (.ok o) G2))
  | ifF {n c a b σ G G1 o G2} (h1 : Ev Γ n (.j (.T c σ G false G1))) (h2 : Ev Γ n (.j (.E b σ G1 (.ok o) G2))) : Ev Γ n (.j (.E (.ifx c a b) σ G (.ok o) G2))
  | tup {n l σ G ws ds G1} (h : Ev Γ n (.j (.A l σ G (.ok ws) G1))) (e : ofSvs ws = some ds) (k : ds.length ≤ sizeLine) : Ev Γ n (.j (.E (.tup l) σ G (.ok (.d (.tup ds))) G1))
  | lst {n l σ G ws G1} (h : Ev Γ n (.j (.A l σ G (.ok ws) G1))) (k : ws.length ≤ sizeLine) : Ev Γ n (.j (.N (.lst l) σ G (.lst ws) G1))
  | ofN {n e σ G ws ds G1} (h : Ev Γ n (.j (.N e σ G (.lst ws) G1))) (k : ofSvs ws = some ds) : Ev Γ n (.j (.E e σ G (.ok (.d (.lst ds))) G1))
  | ofNd {n e σ G ws kvs G1} (h : Ev Γ n (.j (.N e σ G (.dic ws) G1))) (k : ofSvK ws = some kvs) : Ev Γ n (.j (.E e σ G (.ok (.d (.dic kvs))) G1))
  | mtn {n e σ G m G1} (h : Ev Γ n (.j (.N e σ G m G1))) : Ev Γ n (.j (.E (.mut e) σ G (.ok (.r G1.length)) (G1 ++ [m])))
  | callP {n f l σ G ws ds G1 w} (hb : Γ.bd f) (h : Ev Γ n (.j (.A l σ G (.ok ws) G1))) (e : ofSvs ws = some ds) (k : Ev Γ n (.j (.F f ws [] (.ok (.d w)) []))) : Ev Γ n (.j (.E (.call f l) σ G (.ok (.d w)) G1))
  | callG {n f l σ G ws G1 w G2} (hb : Γ.bd f) (h : Ev Γ n (.j (.A l σ G (.ok ws) G1))) (k : Ev Γ n (.j (.F f ws G1 (.ok w) G2))) : Ev Γ n (.j (.E (.call f l) σ G (.ok w) G2))
  | callv {n i l σ G f ws ds G1 w} (hb : Γ.bd f) (hi : σ[i]? = some (some (.d (.fn f)))) (h : Ev Γ n (.j (.A l σ G (.ok ws) G1))) (e : ofSvs ws = some ds) (k : Ev Γ n (.j (.F f ws [] (.ok (.d w)) []))) :
      Ev Γ n (.j (.E (.callv i l) σ G (.ok (.d w)) G1))
  | methP {n m f e l σ G c fs G1 ws ds G2 w} (hb : Γ.bd f) (h1 : Ev Γ n (.j (.E e σ G (.ok (.d (.obj c fs))) G1))) (hm : mtb c m = some f) (hn : ∀ g ∈ fs.map (·.1), g.s ≠ m.s) (h : Ev Γ n (.j (.A l σ G1 (.ok ws) G2))) (e2 : ofSvs ws = some ds)
      (k : Ev Γ n (.j (.F f (.d (.obj c fs) :: ws) [] (.ok (.d w)) []))) : Ev Γ n (.j (.E (.meth m e l) σ G (.ok (.d w)) G2))
  | newP {n c f l dv σ G ws ds G1 gs fs} (hw : Γ.nw c dv) (hc : inib c = some f) (h : Ev Γ (n + 1) (.j (.A l σ G (.ok ws) G1))) (e : ofSvs ws = some ds)
      (k : Ev Γ n (.j (.F f (.r 0 :: (ws ++ dv.map .d)) [.ins c []] (.ok (.d .non)) [.ins c gs]))) (e2 : ofSvF gs = some fs) : Ev Γ (n + 1) (.j (.E (.new c l dv) σ G (.ok (.d (.obj c fs))) G1))
  | attr {n e f σ G w G1 u} (h : Ev Γ n (.j (.E e σ G (.ok w) G1))) (k : fldG G1 w f = some u) : Ev Γ n (.j (.E (.attr e f) σ G (.ok u) G1))
  | prim {n p l σ G ws G1 ds d} (h : Ev Γ n (.j (.A l σ G (.ok ws) G1))) (v : views G1 ws = some ds) (e : prim p ds = some d) (k : okP p ds) (np : ∀ t, p ≠ .isi t) : Ev Γ n (.j (.E (.prim p l) σ G (.ok (.d d)) G1))
  | primN {n p l σ G ws G1 ds m} (h : Ev Γ n (.j (.A l σ G (.ok ws) G1))) (v : views G1 ws = some ds) (e : primN p ds = some m) (k : okPN p ds) : Ev Γ n (.j (.N (.primN p l) σ G (.lst (m.map .d)) G1))
  | primM {n p e l σ G w d0 G1 ws G2 ds d} (h1 : Ev Γ n (.j (.E e σ G (.ok w) G1))) (v0 : view G1 w = some d0) (k0 : recvD p d0 = true) (h : Ev Γ n (.j (.A l σ G1 (.ok ws) G2))) (v : views G2 (w :: ws) = some ds) (eq : prim p ds = some d) (k : okP p ds) :
      Ev Γ n (.j (.E (.primM p e l) σ G (.ok (.d d)) G2))
  | primNM {n p e l σ G w d0 G1 ws G2 ds m} (h1 : Ev Γ n (.j (.E e σ G (.ok w) G1))) (v0 : view G1 w = some d0) (k0 : isStr d0 = true) (h : Ev Γ n (.j (.A l σ G1 (.ok ws) G2))) (v : views G2 (w :: ws) = some ds) (eq : primN p ds = some m) (k : okPN p ds) :
      Ev Γ n (.j (.N (.primNM p e l) σ G (.lst (m.map .d)) G2))
  | sub {n e i σ G w G1 u G2 di x} (h1 : Ev Γ n (.j (.E e σ G (.ok w) G1))) (h2 : Ev Γ n (.j (.E i σ G1 (.ok u) G2))) (vi : view G2 u = some di) (eq : subG G2 w di = some x) (k : ∀ d, w = .d d → subOk d) :
      Ev Γ n (.j (.E (.sub e i) σ G (.ok x) G2))
  | slc {n e a b σ G w G1 lo G2 hi G3 d x} (h1 : Ev Γ n (.j (.E e σ G (.ok w) G1))) (h2 : Ev Γ n (.j (.O a σ G1 lo G2))) (h3 : Ev Γ n (.j (.O b σ G2 hi G3))) (v : view G3 w = some d) (eq : slcD d lo hi = some x) (k : subOk d) :
      Ev Γ n (.j (.E (.slc e a b) σ G (.ok (.d x)) G3))
  | slcN {n e a b σ G w G1 lo G2 hi G3 d x} (h1 : Ev Γ n (.j (.E e σ G (.ok w) G1))) (h2 : Ev Γ n (.j (.O a σ G1 lo G2))) (h3 : Ev Γ n (.j (.O b σ G2 hi G3))) (v : view G3 w = some d) (eq : slcN d lo hi = some x) :
      Ev Γ n (.j (.N (.slc e a b) σ G (.lst (x.map .d)) G3))
  | rev {n e σ G w G1 d x} (h1 : Ev Γ n (.j (.E e σ G (.ok w) G1))) (v : view G1 w = some d) (eq : revN d = some x) : Ev Γ n (.j (.N (.rev e) σ G (.lst (x.map .d)) G1))
  | gdic {n x i σ G d G1 u} (ht : Γ.tb x) (h : Ev Γ n (.j (.E i σ G (.ok (.d d)) G1))) (e : Γ.gd x d = some u) : Ev Γ n (.j (.E (.gdic x i) σ G (.ok (.d u)) G1))
  | lc {n el tg it ifs vs σ G ds G1 ws G2} (h1 : Ev Γ n (.j (.I it σ G ds G1))) (h2 : Ev Γ n (.j (.C el tg ifs vs ds (wipeS σ vs) G1 ws G2))) (k : ds.length ≤ 1000000) : Ev Γ n (.j (.N (.lc el tg it ifs vs) σ G (.lst ws) G2))
  | dsp {n l σ G kvs G1} (h : Ev Γ n (.Dp l σ G kvs G1)) (k : l.length ≤ 15) (k2 : kvs.length ≤ 15) : Ev Γ n (.j (.N (.dsp l) σ G (.dic (putsD [] kvs)) G1))
  | nil {n σ G} : Ev Γ n (.j (.A [] σ G (.ok []) G))
  | cons {n e l σ G w G1 ws G2} (h1 : Ev Γ n (.j (.E e σ G (.ok w) G1))) (h2 : Ev Γ n (.j (.A l σ G1 (.ok ws) G2))) : Ev Γ n (.j (.A (e :: l) σ G (.ok (w :: ws)) G2))
  | oN {n σ G} : Ev Γ n (.j (.O none σ G none G))
  | oS {n e σ G i G1} (h : Ev Γ n (.j (.E e σ G (.ok (.d (.int i))) G1))) : Ev Γ n (.j (.O (some e) σ G (some i) G1))
  | dpN {n σ G} : Ev Γ n (.Dp [] σ G [] G)
  | dpC {n a b l σ G da k G1 w G2 kvs G3} (h1 : Ev Γ n (.j (.E a σ G (.ok (.d da)) G1))) (hk : keyOf da = some k) (h2 : Ev Γ n (.j (.E b σ G1 (.ok w) G2))) (h3 : Ev Γ n (.Dp l σ G2 kvs G3)) : Ev Γ n (.Dp ((a, b) :: l) σ G ((k, w) :: kvs) G3)
  | tru {n e σ G w G1 d b} (h : Ev Γ n (.j (.E e σ G (.ok w) G1))) (v : view G1 w = some d) (t : tru d = some b) (k : truOk d) : Ev Γ n (.j (.T (.tru e) σ G b G1))
  | cmp {n o a b σ G x G1 y G2 dx dy d} (h1 : Ev Γ n (.j (.E a σ G (.ok x) G1))) (h2 : Ev Γ n (.j (.E b σ G1 (.ok y) G2))) (v1 : view G2 x = some dx) (v2 : view G2 y = some dy) (e : bo o dx dy = some (.bl d)) (k : okB o dx dy) :
      Ev Γ n (.j (.T (.cmp o a b) σ G d G2))
  | tnt {n t σ G b G1} (h : Ev Γ n (.j (.T t σ G b G1))) : Ev Γ n (.j (.T (.nt t) σ G (!b) G1))
  | tandT {n a b σ G G1 r G2} (h1 : Ev Γ n (.j (.T a σ G true G1))) (h2 : Ev Γ n (.j (.T b σ G1 r G2))) : Ev Γ n (.j (.T (.and a b) σ G r G2))
  | tandF {n a b σ G G1} (h1 : Ev Γ n (.j (.T a σ G false G1))) : Ev Γ n (.j (.T (.and a b) σ G false G1))
  | torT {n a b σ G G1} (h1 : Ev Γ n (.j (.T a σ G true G1))) : Ev Γ n (.j (.T (.or a b) σ G true G1))
  | torF {n a b σ G G1 r G2} (h1 : Ev Γ n (.j (.T a σ G false G1))) (h2 : Ev Γ n (.j (.T b σ G1 r G2))) : Ev Γ n (.j (.T (.or a b) σ G r G2))
  | tsN {n σ G} : Ev Γ n (.j (.Ts [] σ G true G))
  | tsO {n t σ G b G1} (h : Ev Γ n (.j (.T t σ G b G1))) : Ev Γ n (.j (.Ts [t] σ G b G1))
  | iseq {n e σ G d G1 ds} (h : Ev Γ n (.j (.E e σ G (.ok (.d d)) G1))) (eq : itemsD d = some ds) : Ev Γ n (.j (.I (.seq e) σ G ds G1))
  | irng1 {n e σ G j G1} (h : Ev Γ n (.j (.E e σ G (.ok (.d (.int j))) G1))) (k : -(2 ^ 62) ≤ j ∧ j < 2 ^ 62) : Ev Γ n (.j (.I (.rng1 e) σ G ((List.range j.toNat).map fun (k : Nat) => .int (k : Int)) G1))
  | cN {n el tg ifs vs σ G} : Ev Γ n (.j (.C el tg ifs vs [] σ G [] G))
  | cT {n el tg ifs vs d ds σ σ1 G G1 w G2 ws G3} (b : bindT tg (.d d) σ = some σ1) (h1 : Ev Γ n (.j (.Ts ifs σ1 G true G1))) (h2 : Ev Γ n (.j (.E el σ1 G1 (.ok w) G2))) (h3 : Ev Γ n (.j (.C el tg ifs vs ds σ G2 ws G3))) :
      Ev Γ n (.j (.C el tg ifs vs (d :: ds) σ G (w :: ws) G3))
  | cF {n el tg ifs vs d ds σ σ1 G G1 ws G3} (b : bindT tg (.d d) σ = some σ1) (h1 : Ev Γ n (.j (.Ts ifs σ1 G false G1))) (h3 : Ev Γ n (.j (.C el tg ifs vs ds σ G1 ws G3))) :
      Ev Γ n (.j (.C el tg ifs vs (d :: ds) σ G ws G3))
  | asg {n t e σ G w G1 σ1} (h : Ev Γ n (.j (.E e σ G (.ok w) G1))) (b : bindT t w σ = some σ1) : Ev Γ n (.j (.S (.asg t e) σ G (.nxt σ1) G1))
  | par {n l es σ G ws G1} (h : Ev Γ n (.j (.A es σ G (.ok ws) G1))) (k : ws.length = l.length) : Ev Γ n (.j (.S (.par l es) σ G (.nxt (parS l ws σ)) G1))
  | fset {n e f v σ G w G1 i G2 c l} (h1 : Ev Γ n (.j (.E v σ G (.ok w) G1))) (h2 : Ev Γ n (.j (.E e σ G1 (.ok (.r i)) G2))) (hi : G2[i]? = some (.ins c l)) (k : l.length < 100) : Ev Γ n (.j (.S (.fset e f v) σ G (.nxt σ) (G2.set i (.ins c (putL f w l)))))
  | setx {n e i v σ G w G1 k G2 G3 ix l j} (h1 : Ev Γ n (.j (.E v σ G (.ok w) G1))) (h2 : Ev Γ n (.j (.E e σ G1 (.ok (.r k)) G2))) (h3 : Ev Γ n (.j (.E i σ G2 (.ok (.d (.int ix))) G3))) (hk : G3[k]? = some (.lst l)) (hj : ixN l.length ix = some j) :
      Ev Γ n (.j (.S (.setx e i v) σ G (.nxt σ) (G3.set k (.lst (l.set j w)))))
  | iteT {n c a b σ G G1 o G2} (h1 : Ev Γ n (.j (.T c σ G true G1))) (h2 : Ev Γ n (.j (.B a σ G1 o G2))) : Ev Γ n (.j (.S (.ite c a b) σ G o G2))
  | iteF {n c a b σ G G1 o G2} (h1 : Ev Γ n (.j (.T c σ G false G1))) (h2 : Ev Γ n (.j (.B b σ G1 o G2))) : Ev Γ n (.j (.S (.ite c a b) σ G o G2))
  | whl {n c b σ G o G1} (h : Ev Γ n (.W c b σ G o G1)) : Ev Γ n (.j (.S (.whl c b) σ G o G1))
  | wF {n c b σ G G1} (h : Ev Γ n (.j (.T c σ G false G1))) : Ev Γ n (.W c b σ G (.nxt σ) G1)
  | wT {n c b σ G G1 σ1 G2 o G3} (h1 : Ev Γ n (.j (.T c σ G true G1))) (h2 : Ev Γ n (.j (.B b σ G1 (.nxt σ1) G2))) (h3 : Ev Γ n (.W c b σ1 G2 o G3)) : Ev Γ n (.W c b σ G o G3)
  | wB {n c b σ G G1 σ1 G2} (h1 : Ev Γ n (.j (.T c σ G true G1))) (h2 : Ev Γ n (.j (.B b σ G1 (.brk σ1) G2))) : Ev Γ n (.W c b σ G (.nxt σ1) G2)
  | wR {n c b σ G G1 w G2} (h1 : Ev Γ n (.j (.T c σ G true G1))) (h2 : Ev Γ n (.j (.B b σ G1 (.ret w) G2))) : Ev Γ n (.W c b σ G (.ret w) G2)
  | for_ {n tg it b σ G ds G1 o G2} (h1 : Ev Γ n (.j (.I it σ G ds G1))) (h2 : Ev Γ n (.j (.R tg b ds σ G1 o G2))) : Ev Γ n (.j (.S (.for_ tg it b) σ G o G2))
  | rN {n tg b σ G} : Ev Γ n (.j (.R tg b [] σ G (.nxt σ) G))
  | rT {n tg b d ds σ σ1 G σ2 G1 o G2} (e : bindT tg (.d d) σ = some σ1) (h1 : Ev Γ n (.j (.B b σ1 G (.nxt σ2) G1))) (h2 : Ev Γ n (.j (.R tg b ds σ2 G1 o G2))) : Ev Γ n (.j (.R tg b (d :: ds) σ G o G2))
  | rC {n tg b d ds σ σ1 G σ2 G1 o G2} (e : bindT tg (.d d) σ = some σ1) (h1 : Ev Γ n (.j (.B b σ1 G (.cnt σ2) G1))) (h2 : Ev Γ n (.j (.R tg b ds σ2 G1 o G2))) : Ev Γ n (.j (.R tg b (d :: ds) σ G o G2))
  | rB {n tg b d ds σ σ1 G σ2 G1} (e : bindT tg (.d d) σ = some σ1) (h1 : Ev Γ n (.j (.B b σ1 G (.brk σ2) G1))) : Ev Γ n (.j (.R tg b (d :: ds) σ G (.nxt σ2) G1))
  | rR {n tg b d ds σ σ1 G w G1} (e : bindT tg (.d d) σ = some σ1) (h1 : Ev Γ n (.j (.B b σ1 G (.ret w) G1))) : Ev Γ n (.j (.R tg b (d :: ds) σ G (.ret w) G1))
  | ret {n e σ G w G1} (h : Ev Γ n (.j (.E e σ G (.ok w) G1))) : Ev Γ n (.j (.S (.ret e) σ G (.ret w) G1))
  | retN {n σ G} : Ev Γ n (.j (.S .retN σ G (.ret (.d .non)) G))
  | exp {n e σ G w G1} (h : Ev Γ n (.j (.E e σ G (.ok w) G1))) : Ev Γ n (.j (.S (.exp e) σ G (.nxt σ) G1))
  | tryThruN {n b σ G σ1 G1} (h : Ev Γ n (.j (.B b σ G (.nxt σ1) G1))) : Ev Γ n (.j (.S (.tryThru b) σ G (.nxt σ1) G1))
  | tryThruR {n b σ G w G1} (h : Ev Γ n (.j (.B b σ G (.ret w) G1))) : Ev Γ n (.j (.S (.tryThru b) σ G (.ret w) G1))
  | brk {n σ G} : Ev Γ n (.j (.S .brk σ G (.brk σ) G))
  | cnt {n σ G} : Ev Γ n (.j (.S .cnt σ G (.cnt σ) G))
  | pass {n σ G} : Ev Γ n (.j (.S .pass σ G (.nxt σ) G))
  | bN {n σ G} : Ev Γ n (.j (.B [] σ G (.nxt σ) G))
  | bC {n s l σ G σ1 G1 o G2} (h1 : Ev Γ n (.j (.S s σ G (.nxt σ1) G1))) (h2 : Ev Γ n (.j (.B l σ1 G1 o G2))) : Ev Γ n (.j (.B (s :: l) σ G o G2))
  | bX {n s l σ G o G1} (h1 : Ev Γ n (.j (.S s σ G o G1))) (k : ∀ τ, o ≠ .nxt τ) : Ev Γ n (.j (.B (s :: l) σ G o G1))
  | bS {n l σ τ G o G1} (s : Sub τ σ) (h : Ev Γ n (.j (.B l τ G o G1))) : Ev Γ n (.j (.B l σ G o G1))
  | bO {n l σ G o o' G1} (s : SubO o' o) (h : Ev Γ n (.j (.B l σ G o G1))) : Ev Γ n (.j (.B l σ G o' G1))
  | frz {n i l σ G k ws ds o G1} (hi : σ[i]? = some (some (.r k))) (hk : G[k]? = some (.lst ws)) (hd : ofSvs ws = some ds) (h : Ev Γ n (.j (.B l (σ.set i (some (.d (.lst ds)))) (G.set k .gone) o G1))) : Ev Γ n (.j (.B (.frz i :: l) σ G o G1))
  | frzD {n i l σ G k ws ds o G1} (hi : σ[i]? = some (some (.r k))) (hk : G[k]? = some (.dic ws)) (hd : ofSvK ws = some ds) (h : Ev Γ n (.j (.B l (σ.set i (some (.d (.dic ds)))) (G.set k .gone) o G1))) : Ev Γ n (.j (.B (.frz i :: l) σ G o G1))
  | fnR {n f d ws G w G1} (hf : Γ.fn f = some d) (hp : ws.length = d.np) (h : Ev Γ n (.j (.B d.body (start0 d ws) G (.ret w) G1))) : Ev Γ (n + 1) (.j (.F f ws G (.ok w) G1))
  | fnN {n f d ws G σ1 G1} (hf : Γ.fn f = some d) (hp : ws.length = d.np) (h : Ev Γ n (.j (.B d.body (start0 d ws) G (.nxt σ1) G1))) : Ev Γ (n + 1) (.j (.F f ws G (.ok (.d .non)) G1))
  | fnGc {n f ws G x G1 X} (h : Ev Γ n (.j (.F f ws G (.ok (.d x)) (G1 ++ X)))) (k : G1.all (belowM G1.length) = true) (k2 : G.length ≤ G1.length) : Ev Γ n (.j (.F f ws G (.ok (.d x)) G1))
  | fnUp {n f ws G o G1} (h : Ev Γ n (.j (.F f ws G o G1))) : Ev Γ (n + 1) (.j (.F f ws G o G1))
  | callk {n f l a σ G ws G1 u G2 ds w} (h : Ev Γ n (.j (.A l σ G (.ok ws) G1))) (h2 : Ev Γ n (.j (.E a σ G1 (.ok u) G2))) (e2 : ofSvs (ws ++ [u]) = some ds)
      (k : Ev Γ n (.j (.F f (ws ++ [u]) [] (.ok (.d w)) []))) : Ev Γ n (.j (.E (.callk f l [a] []) σ G (.ok (.d w)) G2))
  | own {n c f a b σ G l G1 m G2 r} (he : eqb c = some f) (hb : Γ.bd f) (h1 : Ev Γ n (.j (.E a σ G (.ok (.d (.obj c l))) G1))) (h2 : Ev Γ n (.j (.E b σ G1 (.ok (.d (.obj c m))) G2))) (k : Ev Γ n (.j (.F f [.d (.obj c l), .d (.obj c m)] [] (.ok (.d (.bl r))) []))) :
      Ev Γ n (.j (.E (.bin .eq a b) σ G (.ok (.d (.bl r))) G2))
  | town {n c f a b σ G l G1 m G2 r} (he : eqb c = some f) (hb : Γ.bd f) (h1 : Ev Γ n (.j (.E a σ G (.ok (.d (.obj c l))) G1))) (h2 : Ev Γ n (.j (.E b σ G1 (.ok (.d (.obj c m))) G2))) (k : Ev Γ n (.j (.F f [.d (.obj c l), .d (.obj c m)] [] (.ok (.d (.bl r))) []))) :
      Ev Γ n (.j (.T (.cmp .eq a b) σ G r G2))
  | mmA {n e a σ G i G1 l0 w G2 l} (h1 : Ev Γ n (.j (.E e σ G (.ok (.r i)) G1))) (ht : G1[i]? = some (.lst l0)) (h2 : Ev Γ n (.j (.E a σ G1 (.ok w) G2))) (hi : G2[i]? = some (.lst l)) (k : l.length < sizeLine) : Ev Γ n (.j (.E (.mm .append e [a]) σ G (.ok (.d .non)) (G2.set i (.lst (l ++ [w])))))
  | mmP {n e σ G i G1 l w} (h1 : Ev Γ n (.j (.E e σ G (.ok (.r i)) G1))) (hi : G1[i]? = some (.lst l)) (hw : l[l.length - 1]? = some w) : Ev Γ n (.j (.E (.mm .pop e []) σ G (.ok w) (G1.set i (.lst l.dropLast))))
  | isi {n e t w d σ G G1} (h : Ev Γ n (.j (.E e σ G (.ok w) G1))) (v : view G1 w = some d) (k : isiOk d) : Ev Γ n (.j (.E (.prim (.isi t) [e]) σ G (.ok (.d (.bl (isiD t d)))) G1))
  | isiC {n e t σ G x G1} (h : Ev Γ n (.j (.E e σ G (.ok (.d (.clo x))) G1))) (ht : t = .str) : Ev Γ n (.j (.E (.prim (.isi t) [e]) σ G (.ok (.d (.bl false))) G1))
  | callc {n i a l σ G x ws ds G1 w} (hi : σ[i]? = some (some (.d (.clo x)))) (h : Ev Γ (n + 4) (.j (.A (a :: l) σ G (.ok ws) G1))) (e : ofSvs ws = some ds) (k : Γ.clo x ds w) : Ev Γ (n + 4) (.j (.E (.callv i (a :: l)) σ G (.ok (.d w)) G1))
  | ext {n f ds d} (h : Γ.ext f ds d) : Ev Γ (n + 4) (.j (.F f (ds.map .d) [] (.ok (.d d)) []))
end Fx

end

section
set_option Elab.async false
set_option linter.all false
set_option maxRecDepth 100000
set_option maxHeartbeats 1000000
/-! Which piece of the text is which piece of the core. -/
namespace Fx
open PySem L2 PyProof.Rows
/-- what the module's names stand for -/
structure Tb where
  fn : Str → F → Prop
  cl : Str → Cn → Prop
  co : Str → D → Prop
  fr : Str → Prop
  gd : Str → Prop
  kw : F → Nat → Str → Prop
/-- a scope: all names by slot, the scope, the slots that are seen in it, the global names -/
structure Kx where
  N : List Str
  sc : Scope
  lv : List Nat
  gl : List Str
  fn : Bool := true
def visB (sc : Scope) (x : Str) : Bool := match sc.names.lookup x with
  | some .local => true
  | some .cell => true
  | some .free => true
  | _ => false
theorem visB_ok {sc : Scope} {x : Str} (h : visB sc x = true) : Vis sc x := by
  unfold visB at h
  unfold Vis
  cases e : sc.names.lookup x with
  | none => rw [e] at h; cases h
  | some k =>
    rw [e] at h
    cases k <;> first | exact .inl rfl | exact .inr (.inl rfl) | exact .inr (.inr rfl) | cases h
def nameOk (x : Str) : Bool := !(x == ("__debug__" : Str)) && !(x == ("__classdict__" : Str)) && !(x == ("__name__" : Str))
/-- the scope's names are as the lists say -/
def kxB (κ : Kx) : Bool := (κ.lv.all fun i => match κ.N[i]? with
    | some x => visB κ.sc x && nameOk x
    | none => false) && (κ.gl.all fun x => decide (κ.sc.names.lookup x = some .globalImplicit) && nameOk x)
structure KxOk (κ : Kx) : Prop where
  lv : ∀ i x, κ.lv.contains i = true → κ.N[i]? = some x → Vis κ.sc x ∧ nameOk x = true
  gl : ∀ (j : Nat) x, κ.gl[j]? = some x → κ.sc.names.lookup x = some .globalImplicit ∧ nameOk x = true
theorem kxB_ok {κ : Kx} (h : kxB κ = true) : KxOk κ := by
  obtain ⟨h1, h2⟩ := Bool.and_eq_true_iff.mp h
  refine ⟨fun i x hi hx => ?_, fun j x hx => ?_⟩
  · have := List.all_eq_true.mp h1 i (by simpa using hi)
    rw [hx] at this
    obtain ⟨a, b⟩ := Bool.and_eq_true_iff.mp this
    exact ⟨visB_ok a, b⟩
  · have := List.all_eq_true.mp h2 x (List.mem_of_getElem? hx)
    obtain ⟨a, b⟩ := Bool.and_eq_true_iff.mp this
    exact ⟨of_decide_eq_true a, b⟩
theorem nameOk_d {x : Str} (h : nameOk x = true) : (x == ("__debug__" : Str)) = false ∧ (x == ("__classdict__" : Str)) = false ∧ x ≠ "__name__" := by
  unfold nameOk at h
  obtain ⟨h1, h3⟩ := Bool.and_eq_true_iff.mp h
  obtain ⟨h1, h2⟩ := Bool.and_eq_true_iff.mp h1
  refine ⟨by simpa using h1, by simpa using h2, ?_⟩
  have : (x == ("__name__" : Str)) = false := by simpa using h3
  intro e
  rw [e, beq_self_eq_true] at this
  cases this
def isBo : Expr → Bool
  | .BoolOp _ _ _ => true
  | _ => false
def opOf : Operator → Option Bo
  | .Add => some .add | .Sub => some .sub | .Mult => some .mul | .FloorDiv => some .fdiv | .Mod => some .mod | .Pow => some .pow
  | _ => none
def cmOf : CmpOp → Option Bo
  | .Eq => some .eq | .NotEq => some .ne | .Lt => some .lt | .LtE => some .le | .Gt => some .gt | .GtE => some .ge
  | .In => some .in_ | .NotIn => some .notin | .Is => some .is_ | .IsNot => some .isnot
mutual
/-- the names that a target stores -/
def tgN : Tg → List Nat
  | .nm i => [i]
  | .tup l => tgNs l
  | .star l i => l ++ [i]
def tgNs : List Tg → List Nat
  | [] => []
  | t :: l => tgN t ++ tgNs l
end
mutual
inductive ErTg (N : List Str) (sc : Scope) (b : Bool) : Expr → Tg → Prop where
  | nm {x p} {i : Nat} (h : N[i]? = some x) (hl : sc.names.lookup x = some .local ∨ (sc.names.lookup x = some .cell ∧ b = true)) : ErTg N sc b (.Name x p) (.nm i)
  | tup {es l k p} (h : ErTgs N sc b es l) : ErTg N sc b (.Tuple es k p) (.tup l)
inductive ErTgs (N : List Str) (sc : Scope) (b : Bool) : List Expr → List Tg → Prop where
  | nil : ErTgs N sc b [] []
  | cons {e es t l} (h : ErTg N sc b e t) (hr : ErTgs N sc b es l) : ErTgs N sc b (e :: es) (t :: l)
end
/-- the builtin functions among the core's -/
inductive PrB : Str → Pr → Nat → Prop where
  | len : PrB "len" .len 1 | abs : PrB "abs" .abs 1 | int : PrB "int" .intp 1 | str : PrB "str" .strp 1 | all : PrB "all" .all_ 1 | any : PrB "any" .any_ 1
  | tuple : PrB "tuple" .tuple_ 1 | max2 : PrB "max" .max2 2 | min2 : PrB "min" .min2 2 | sum : PrB "sum" .sum_ 1
inductive PnB : Str → Pn → Nat → Prop where
  | list : PnB "list" .list_ 1
/-- the methods of texts and dicts -/
inductive PrM : Str → Pr → Nat → Prop where
  | startsw : PrM "startswith" .startsw 1 | endsw : PrM "endswith" .endsw 1 | partition : PrM "partition" .partition 1 | zfill : PrM "zfill" .zfill 1 | join : PrM "join" .join 1
  | strip1 : PrM "strip" .strip1 1 | lstrip1 : PrM "lstrip" .lstrip1 1 | rstrip1 : PrM "rstrip" .rstrip1 1 | get1 : PrM "get" .get1 1 | get2 : PrM "get" .get2 2
inductive PnM : Str → Pn → Nat → Prop where
  | split1 : PnM "split" .split1 1
inductive MmM : Str → Mm → Nat → Prop where
  | append : MmM "append" .append 1 | extend : MmM "extend" .extend 1 | pop : MmM "pop" .pop 0 | popAt : MmM "pop" .popAt 1
inductive TnB : Str → Tn → Prop where
  | int : TnB "int" .int | bool : TnB "bool" .bool | str : TnB "str" .str | tuple : TnB "tuple" .tuple | list : TnB "list" .list | dict : TnB "dict" .dict
section
variable (τ : Tb)
/-- keywords: the names, the values -/
inductive ErNm : List Keyword → List Str → List Expr → Prop where
  | nil : ErNm [] [] []
  | cons {n e p l ns es} (h : ErNm l ns es) : ErNm (⟨some n, e, p⟩ :: l) (n :: ns) (e :: es)
mutual
inductive ErE : Kx → Expr → CE → Prop where
  | var {κ x p} {i : Nat} (h : κ.N[i]? = some x) (hl : κ.lv.contains i = true) : ErE κ (.Name x p) (.var i)
  | int {κ i k p} : ErE κ (.Constant (.int i) k p) (.con (.int i))
  | bl {κ b k p} : ErE κ (.Constant (.bool b) k p) (.con (.bl b))
  | non {κ k p} : ErE κ (.Constant .none k p) (.con .non)
  | str {κ x k p} : ErE κ (.Constant (.str x) k p) (.con (.str x))
  | glob {κ x d p} {j : Nat} (h : κ.gl[j]? = some x) (hc : τ.co x d) : ErE κ (.Name x p) (.con d)
  | gfun {κ x f p} {j : Nat} (h : κ.gl[j]? = some x) (hc : τ.fn x f) : ErE κ (.Name x p) (.con (.fn f))
  | bin {κ op o a b ca cb p} (ho : opOf op = some o) (ha : ErE κ a ca) (hb : ErE κ b cb) : ErE κ (.BinOp a op b p) (.bin o ca cb)
  | cmp {κ op o a b ca cb p} (ho : cmOf op = some o) (ha : ErE κ a ca) (hb : ErE κ b cb) (hm : behindInMarks op b = false) : ErE κ (.Compare a [op] [b] p) (.bin o ca cb)
  | neg {κ a ca p} (ha : ErE κ a ca) : ErE κ (.UnaryOp .USub a p) (.neg ca)
  | nt {κ a ca p} (ha : ErE κ a ca) : ErE κ (.UnaryOp .Not a p) (.nt ca)
  | chain {κ op op' o o' a b c ca cb cc p} (ho : cmOf op = some o) (ho' : cmOf op' = some o') (ha : ErE κ a ca) (hb : ErE κ b cb) (hc : ErE κ c cc) (hm : lastMarks [op, op'] [b, c] = false) :
      ErE κ (.Compare a [op, op'] [b, c] p) (.chain o o' ca cb cc)
  | and2 {κ a b ca cb p} (ha : ErE κ a ca) (hb : ErE κ b cb) : ErE κ (.BoolOp .And [a, b] p) (.and ca cb)
  | or2 {κ a b ca cb p} (ha : ErE κ a ca) (hb : ErE κ b cb) : ErE κ (.BoolOp .Or [a, b] p) (.or ca cb)
  | and {κ a b c r ca cb p} (ha : ErE κ a ca) (hb : ErE κ (.BoolOp .And (b :: c :: r) p) cb) : ErE κ (.BoolOp .And (a :: b :: c :: r) p) (.and ca cb)
  | or {κ a b c r ca cb p} (ha : ErE κ a ca) (hb : ErE κ (.BoolOp .Or (b :: c :: r) p) cb) : ErE κ (.BoolOp .Or (a :: b :: c :: r) p) (.or ca cb)
  | ifx {κ c a b cc ca cb p} (hc : ErT κ c cc) (ha : ErE κ a ca) (hb : ErE κ b cb) : ErE κ (.IfExp c a b p) (.ifx cc ca cb)
  | tup {κ es l k p} (h : ErA κ es l) : ErE κ (.Tuple es k p) (.tup l)
  | lst {κ es l p} (h : ErA κ es l) : ErE κ (.List es p) (.lst l)
  | call {κ x f e es l q p} {j : Nat} (hx : κ.gl[j]? = some x) (hf : τ.fn x f) (h : ErA κ (e :: es) l) : ErE κ (.Call (.Name x q) (e :: es) [] p) (.call f l)
  | call0 {κ x f q p} {j : Nat} (hx : κ.gl[j]? = some x) (hf : τ.fn x f) : ErE κ (.Call (.Name x q) [] [] p) (.call f [])
  | callk {κ x f e es l nm a ca kp q p} {j : Nat} (hk : τ.kw f (e :: es).length nm) (hx : κ.gl[j]? = some x) (hf : τ.fn x f) (h : ErA κ (e :: es) l) (ha : ErE κ a ca) : ErE κ (.Call (.Name x q) (e :: es) [⟨some nm, a, kp⟩] p) (.callk f l [ca] [])
  | dsp {κ k v ks vs l p} (h : ErD κ (some k :: ks) (v :: vs) l) : ErE κ (.Dict (some k :: ks) (v :: vs) p) (.dsp l)
  | callv {κ x e es l q p} {i : Nat} (h : κ.N[i]? = some x) (hl : κ.lv.contains i = true) (ha : ErA κ (e :: es) l) : ErE κ (.Call (.Name x q) (e :: es) [] p) (.callv i l)
  | meth {κ m o co es l ap p} (ho : ErE κ o co) (h : ErA κ es l) (hb : ∀ env, attributeBase o (Mn.s m) env (eval o env) = eval o env) (hl : (ap.endLine == p.line) = true) (hn : es.length < 20) :
      ErE κ (.Call (.Attribute o (Mn.s m) ap) es [] p) (.meth m co l)
  | new {κ x c e es l ds q p} {j : Nat} (hx : κ.gl[j]? = some x) (hc : τ.cl x c) (h : ErA κ (e :: es) l) : ErE κ (.Call (.Name x q) (e :: es) [] p) (.new c l ds)
  | attr {κ f o co p} (ho : ErE κ o co) (hb : ∀ env, attributeBase o (Fl.s f) env (eval o env) = eval o env) : ErE κ (.Attribute o (Fl.s f) p) (.attr co f)
  | prim {κ x pr e es l q p} {j n : Nat} (hx : κ.gl[j]? = some x) (hf : τ.fr x) (hp : PrB x pr n) (hn : (e :: es).length = n) (h : ErA κ (e :: es) l) : ErE κ (.Call (.Name x q) (e :: es) [] p) (.prim pr l)
  | primN {κ x pr e es l q p} {j n : Nat} (hx : κ.gl[j]? = some x) (hf : τ.fr x) (hp : PnB x pr n) (hn : (e :: es).length = n) (h : ErA κ (e :: es) l) : ErE κ (.Call (.Name x q) (e :: es) [] p) (.primN pr l)
  | isi {κ e ce y t q r p} {j j2 : Nat} (hx : κ.gl[j]? = some ("isinstance" : Str)) (hf : τ.fr "isinstance") (he : ErE κ e ce) (hs : ∀ env, starEach [e, .Name y r] env = [(false, eval e env), (false, eval (.Name y r) env)]) (hs2 : ∀ env, starEach [.Name y r] env = [(false, eval (.Name y r) env)]) (hy : κ.gl[j2]? = some y) (hfy : τ.fr y) (ht : TnB y t) :
      ErE κ (.Call (.Name "isinstance" q) [e, .Name y r] [] p) (.prim (.isi t) [ce])
  | isiC {κ e ce y c q r p} {j j2 : Nat} (hx : κ.gl[j]? = some ("isinstance" : Str)) (hf : τ.fr "isinstance") (he : ErE κ e ce) (hs : ∀ env, starEach [e, .Name y r] env = [(false, eval e env), (false, eval (.Name y r) env)]) (hs2 : ∀ env, starEach [.Name y r] env = [(false, eval (.Name y r) env)]) (hy : κ.gl[j2]? = some y) (hc : τ.cl y c) :
      ErE κ (.Call (.Name "isinstance" q) [e, .Name y r] [] p) (.prim (.isi (.cls c)) [ce])
  | primM {κ x pr o co e es l ap p} {n : Nat} (hp : PrM x pr n) (hn : (e :: es).length = n) (ho : ErE κ o co) (h : ErA κ (e :: es) l) (hb : ∀ env, attributeBase o x env (eval o env) = eval o env) (hl : (ap.endLine == p.line) = true) :
      ErE κ (.Call (.Attribute o x ap) (e :: es) [] p) (.primM pr co l)
  | primNM {κ x pr o co e es l ap p} {n : Nat} (hp : PnM x pr n) (hn : (e :: es).length = n) (ho : ErE κ o co) (h : ErA κ (e :: es) l) (hb : ∀ env, attributeBase o x env (eval o env) = eval o env) (hl : (ap.endLine == p.line) = true) :
      ErE κ (.Call (.Attribute o x ap) (e :: es) [] p) (.primNM pr co l)
  | sub {κ a b ca cb p} (ha : ErE κ a ca) (hb : ErE κ b cb) (hs : ∀ o i, subscripted b false o i = operate [o, i] (getItem o i)) : ErE κ (.Subscript a b p) (.sub ca cb)
  | slc {κ a lo hi ca cl ch q p} (ha : ErE κ a ca) (hl : ErO κ lo cl) (hh : ErO κ hi ch) : ErE κ (.Subscript a (.Slice lo hi none q) p) (.slc ca cl ch)
  | rev {κ a ca k p1 p2 p3 p} (ha : ErE κ a ca) : ErE κ (.Subscript a (.Slice none none (some (.UnaryOp .USub (.Constant (.int 1) k p1) p2)) p3) p) (.rev ca)
  | gdic {κ x i ci q p} {j : Nat} (hx : κ.gl[j]? = some x) (hd : τ.gd x) (hi : ErE κ i ci) (hs : ∀ o i', subscripted i false o i' = operate [o, i'] (getItem o i')) : ErE κ (.Subscript (.Name x q) i p) (.gdic x ci)
  | lc {κ κ' elt tg it ifs scope own ce ctg ci cifs p} (hκ : κ'.N = κ.N ∧ κ'.fn = false) (hs : κ'.sc = relS scope κ.sc) (hk : kxB κ' = true) (hb : blkC κ.N κ.sc scope own = true) (hi : ErI κ tg it ci) (hg : ErTg κ.N scope false tg ctg) (hv : (tgN ctg).all (fun i => (own.map (·.2)).contains i) = true)
      (ht : ErTs κ' ifs cifs) (he : ErE κ' elt ce) (hf : ∀ env x, foldedSetIterable it env x = pure x) : ErE κ (.ListComp elt [⟨tg, it, ifs, 0⟩] scope p) (.lc ce ctg ci cifs (own.map (·.2)))
  | lc2 {κ κ' elt tg it ifs tg1 it1 ifs1 scope own vs1 ce ctg ci cifs ctg1 ci1 cifs1 p} (hκ : κ'.N = κ.N ∧ κ'.fn = false) (hs : κ'.sc = relS scope κ.sc) (hk : kxB κ' = true) (hb : blkC κ.N κ.sc scope own = true) (hi : ErI κ tg it ci) (hg : ErTg κ.N scope false tg ctg)
      (hv : (tgN ctg).all (fun i => (own.map (·.2)).contains i) = true) (ht : ErTs κ' ifs cifs) (hi1 : ErI κ' tg1 it1 ci1) (hg1 : ErTg κ.N scope false tg1 ctg1) (hv1 : (tgN ctg1).all (fun i => vs1.contains i) = true) (hw : vs1.all (fun i => (own.map (·.2)).contains i) = true)
      (ht1 : ErTs κ' ifs1 cifs1) (he : ErE κ' elt ce) (hf : ∀ env x, foldedSetIterable it env x = pure x) (hf1 : ∀ env x, foldedSetIterable it1 env x = pure x) :
      ErE κ (.ListComp elt [⟨tg, it, ifs, 0⟩, ⟨tg1, it1, ifs1, 0⟩] scope p) (.lc2 ce ctg ci cifs ctg1 ci1 cifs1 (own.map (·.2)) vs1)
  | dc {κ κ' k v tg it ifs scope own ck cv ctg ci cifs p} (hκ : κ'.N = κ.N ∧ κ'.fn = false) (hs : κ'.sc = relS scope κ.sc) (hk : kxB κ' = true) (hb : blkC κ.N κ.sc scope own = true) (hi : ErI κ tg it ci) (hg : ErTg κ.N scope false tg ctg) (hv : (tgN ctg).all (fun i => (own.map (·.2)).contains i) = true)
      (ht : ErTs κ' ifs cifs) (hkx : ErE κ' k ck) (he : ErE κ' v cv) (hf : ∀ env x, foldedSetIterable it env x = pure x) : ErE κ (.DictComp k v [⟨tg, it, ifs, 0⟩] scope p) (.dc ck cv ctg ci cifs (own.map (·.2)))
  | mut {κ e ce} (h : ErE κ e ce) : ErE κ e (.mut ce)
  | mm {κ x m o co e es l ap p} {n : Nat} (hp : MmM x m n) (hn : (e :: es).length = n) (ho : ErE κ o co) (h : ErA κ (e :: es) l) (hb : ∀ env, attributeBase o x env (eval o env) = eval o env) (hl : (ap.endLine == p.line) = true) :
      ErE κ (.Call (.Attribute o x ap) (e :: es) [] p) (.mm m co l)
  | mm0 {κ x m o co ap p} (hp : MmM x m 0) (ho : ErE κ o co) (hb : ∀ env, attributeBase o x env (eval o env) = eval o env) (hl : (ap.endLine == p.line) = true) :
      ErE κ (.Call (.Attribute o x ap) [] [] p) (.mm m co [])
inductive ErA : Kx → List Expr → List CE → Prop where
  | nil {κ} : ErA κ [] []
  | cons {κ e es c l} (he : ErE κ e c) (h : ErA κ es l) (hs : ∀ env, starEach (e :: es) env = (false, eval e env) :: starEach es env) : ErA κ (e :: es) (c :: l)
inductive ErD : Kx → List (Option Expr) → List Expr → List (CE × CE) → Prop where
  | nil {κ} : ErD κ [] [] []
  | cons {κ k v ck cv ks vs l} (hk : ErE κ k ck) (hv : ErE κ v cv) (h : ErD κ ks vs l) : ErD κ (some k :: ks) (v :: vs) ((ck, cv) :: l)
inductive ErO : Kx → Option Expr → Option CE → Prop where
  | none {κ} : ErO κ none none
  | some {κ e c} (h : ErE κ e c) : ErO κ (some e) (some c)
inductive ErT : Kx → Expr → CT → Prop where
  | tru {κ e c} (h : ErE κ e c) (hb : isBo e = false) (ht : ∀ env whole, isTrue e env whole = (do let v ← whole; standAt e.pos; holding [v] (truthy v))) : ErT κ e (.tru c)
  | cmp {κ op o a b ca cb p} (ho : cmOf op = some o) (ha : ErE κ a ca) (hb : ErE κ b cb) (hm : behindInMarks op b = false) : ErT κ (.Compare a [op] [b] p) (.cmp o ca cb)
  | chain {κ op op' o o' a b c ca cb cc p} (ho : cmOf op = some o) (ho' : cmOf op' = some o') (ha : ErE κ a ca) (hb : ErE κ b cb) (hc : ErE κ c cc) (hm : lastMarks [op, op'] [b, c] = false) :
      ErT κ (.Compare a [op, op'] [b, c] p) (.chain o o' ca cb cc)
  | nt {κ a ca p} (ha : ErT κ a ca) : ErT κ (.UnaryOp .Not a p) (.nt ca)
  | and2 {κ a b ca cb p} (ha : ErT κ a ca) (hb : ErT κ b cb) : ErT κ (.BoolOp .And [a, b] p) (.and ca cb)
  | or2 {κ a b ca cb p} (ha : ErT κ a ca) (hb : ErT κ b cb) : ErT κ (.BoolOp .Or [a, b] p) (.or ca cb)
  | and {κ a b c r ca cb p} (ha : ErT κ a ca) (hb : ErT κ (.BoolOp .And (b :: c :: r) p) cb) : ErT κ (.BoolOp .And (a :: b :: c :: r) p) (.and ca cb)
  | or {κ a b c r ca cb p} (ha : ErT κ a ca) (hb : ErT κ (.BoolOp .Or (b :: c :: r) p) cb) : ErT κ (.BoolOp .Or (a :: b :: c :: r) p) (.or ca cb)
inductive ErTs : Kx → List Expr → List CT → Prop where
  | nil {κ} : ErTs κ [] []
  | one {κ e c} (h : ErT κ e c) : ErTs κ [e] [c]
/-- what is walked; the target's form counts -/
inductive ErI : Kx → Expr → Expr → It → Prop where
  | seq {κ tg e c} (h : ErE κ e c) : ErI κ tg e (.seq c)
  | enum {κ ts k q e c p r} {j : Nat} (hx : κ.gl[j]? = some ("enumerate" : Str)) (hf : τ.fr "enumerate") (h : ErE κ e c) (hs : ∀ env, starEach [e] env = [(false, eval e env)]) : ErI κ (.Tuple ts k q) (.Call (.Name "enumerate" p) [e] [] r) (.enum c)
  | zip {κ ts k q a b ca cb p r} {j : Nat} (hx : κ.gl[j]? = some ("zip" : Str)) (hf : τ.fr "zip") (h : ErA κ [a, b] [ca, cb]) : ErI κ (.Tuple ts k q) (.Call (.Name "zip" p) [a, b] [] r) (.zip ca cb)
  | rng1 {κ tg e c p r} {j : Nat} (hx : κ.gl[j]? = some ("range" : Str)) (hf : τ.fr "range") (h : ErA κ [e] [c]) : ErI κ tg (.Call (.Name "range" p) [e] [] r) (.rng1 c)
  | rng2 {κ tg a b ca cb p r} {j : Nat} (hx : κ.gl[j]? = some ("range" : Str)) (hf : τ.fr "range") (h : ErA κ [a, b] [ca, cb]) : ErI κ tg (.Call (.Name "range" p) [a, b] [] r) (.rng2 ca cb)
end
mutual
inductive ErS : Kx → Stmt → CS → Prop where
  | asg {κ tg e t c p} (hg : ErTg κ.N κ.sc κ.fn tg t) (he : ErE τ κ e c) (hs : ∀ env : Env, env.scope = κ.sc → swapsWithSole [tg] e p.line env = pure false) (hw : ∀ env : Env, env.scope = κ.sc → swappedStores [tg] e env = pure none) : ErS κ (.Assign [tg] e p) (.asg t c)
  | asg2 {κ tg tg2 e t u c p} (hg : ErTg κ.N κ.sc κ.fn tg t) (hg2 : ErTg κ.N κ.sc κ.fn tg2 u) (he : ErE τ κ e c) (ha : ∀ env, (assignEach [tg, tg2] env).map (·.2) = [assign tg env, assign tg2 env]) (hw : ∀ env : Env, env.scope = κ.sc → swappedStores [tg, tg2] e env = pure none) :
      ErS κ (.Assign [tg, tg2] e p) (.asg2 t u c)
  | par {κ x y a b ca cb px py pt k1 k2 pt2 p} {i j : Nat} (hi : κ.N[i]? = some x) (hj : κ.N[j]? = some y) (hij : i ≠ j) (hx : κ.sc.names.lookup x = some .local) (hy : κ.sc.names.lookup y = some .local) (h : ErA τ κ [a, b] [ca, cb])
      (hw : ∀ env : Env, env.scope = κ.sc → swappedStores [.Tuple [.Name x px, .Name y py] k1 pt] (.Tuple [a, b] k2 pt2) env = pure (some [x, y])) (hs : ∀ env : Env, env.scope = κ.sc → swapsWithSole [.Tuple [.Name x px, .Name y py] k1 pt] (.Tuple [a, b] k2 pt2) p.line env = pure false) :
      ErS κ (.Assign [.Tuple [.Name x px, .Name y py] k1 pt] (.Tuple [a, b] k2 pt2) p) (.par [i, j] [ca, cb])
  | aug {κ x op o e c q p} {i : Nat} (hi : κ.N[i]? = some x) (hx : κ.sc.names.lookup x = some .local ∨ κ.sc.names.lookup x = some .cell) (ho : opOf op = some o) (he : ErE τ κ e c) : ErS κ (.AugAssign (.Name x q) op e p) (.aug i o c)
  | fset {κ f o co e c q p} (ho : ErE τ κ o co) (he : ErE τ κ e c) (hs : ∀ env : Env, swapsWith e (some (.Attribute o (Fl.s f) q)) p.line env = pure false) : ErS κ (.Assign [.Attribute o (Fl.s f) q] e p) (.fset co f c)
  | setx {κ o co i ci e c q p} (ho : ErE τ κ o co) (hi : ErE τ κ i ci) (he : ErE τ κ e c) (hs : ∀ env : Env, swapsWithSole [.Subscript o i q] e p.line env = pure false) (hw : ∀ env : Env, swappedStores [.Subscript o i q] e env = pure none)
      (ha : ∀ env v, assign (.Subscript o i q) env v = (do
        let ov ← holding [v] (eval o env)
        let iv ← holding [v, ov] (eval i env)
        standAt q
        holding [v, ov, iv] (setItem ov iv v)
        release [v, ov, iv] [])) : ErS κ (.Assign [.Subscript o i q] e p) (.setx co ci c)
  | ite {κ c a b cc ca cb p} (hc : ErT τ κ c cc) (ha : ErB κ a ca) (hb : ErB κ b cb) : ErS κ (.If c a b p) (.ite cc ca cb)
  | whl {κ c b cc cb p} (hc : ErT τ κ c cc) (hb : ErB κ b cb) : ErS κ (.While c b [] p) (.whl cc cb)
  | for_ {κ tg it b t ci cb p} (hg : ErTg κ.N κ.sc κ.fn tg t) (hi : ErI τ κ tg it ci) (hb : ErB κ b cb) (hf : ∀ env x, foldedSetIterable it env x = pure x) : ErS κ (.For tg it b [] p) (.for_ t ci cb)
  | ret {κ e c p} (h : ErE τ κ e c) : ErS κ (.Return (some e) p) (.ret c)
  | retN {κ p} : ErS κ (.Return none p) .retN
  | exp {κ e c p} (h : ErE τ κ e c) (hs : ∀ env : Env, swapsWith e none p.line env = pure false) : ErS κ (.Expr e p) (.exp c)
  | raise {κ x c es l q p r} {j : Nat} (hx : κ.gl[j]? = some x) (hc : τ.cl x c) (h : ErA τ κ es l) : ErS κ (.Raise (some (.Call (.Name x q) es [] p)) none r) (.raise c l)
  | brk {κ p} : ErS κ (.Break p) .brk
  | cnt {κ p} : ErS κ (.Continue p) .cnt
  | pass {κ p} : ErS κ (.Pass p) .pass
  | tryThru {κ body h hs cb p} (hb : ErB κ body cb) : ErS κ (.Try body (h :: hs) [] [] p) (.tryThru cb)
inductive ErB : Kx → List Stmt → List CS → Prop where
  | nil {κ} : ErB κ [] []
  | cons {κ s c ss cs} (h : ErS κ s c) (hr : ErB κ ss cs) : ErB κ (s :: ss) (c :: cs)
  | frz {κ ss cs} {i : Nat} (hr : ErB κ ss cs) : ErB κ ss (.frz i :: cs)
  | dead {κ ss} : ErB κ ss [.raise .Desk []]
end
end
end Fx

end

section
set_option Elab.async false
set_option linter.all false
set_option maxRecDepth 100000
set_option maxHeartbeats 1000000
/-! Operators: what the core says of them is what the model does. -/
namespace Fx
open PySem L2 PyProof.Rows
section
variable {T : Ty}
/-- a value as it stands in the heap now -/
def Top (T : Ty) (φ H : Hp) : D → V → Prop
  | .lst l, v => ∃ a vs, v = .ref a ∧ H a = some (.lst vs) ∧ Rels T φ l vs
  | .dic l, v => ∃ a vs, v = .ref a ∧ H a = some (.dK vs) ∧ RelK T φ l vs
  | d, v => Rel T φ d v
theorem Top.of {φ H : Hp} (h : Le φ H) : ∀ {d : D} {v : V}, Rel T φ d v → Top T φ H d v
  | .non, _, r => r
  | .bl _, _, r => r
  | .int _, _, r => r
  | .str _, _, r => r
  | .fn _, _, r => r
  | .tup _, _, r => r
  | .scr _, _, r => r
  | .obj _ _, _, r => r
  | .clo x, _, ⟨a, e, r⟩ => ⟨a, e, r⟩
  | .lst _, _, ⟨a, vs, e, s, r⟩ => ⟨a, vs, e, h _ _ s, r⟩
  | .dic _, _, ⟨a, vs, e, s, r⟩ => ⟨a, vs, e, h _ _ s, r⟩
theorem ofSvs_eq : ∀ {l : List Sv} {ds : List D}, ofSvs l = some ds → l = ds.map .d
  | [], ds, h => by
    have : ds = [] := by simpa [ofSvs] using h.symm
    subst this; rfl
  | .d x :: l, ds, h => by
    cases e : ofSvs l with
    | none => simp [ofSvs, e] at h
    | some m =>
      have : x :: m = ds := by simpa [ofSvs, e] using h
      subst this
      rw [ofSvs_eq e]; rfl
  | .r _ :: _, _, h => by simp [ofSvs] at h
theorem ofSvs_map : ∀ ds : List D, ofSvs (ds.map .d) = some ds
  | [] => rfl
  | d :: l => by
    show (ofSvs (l.map .d)).map (d :: ·) = _
    rw [ofSvs_map l]; rfl
theorem ofSvK_eq : ∀ {l : List (Key × Sv)} {ds : List (Key × D)}, ofSvK l = some ds → l = ds.map fun p => (p.1, .d p.2)
  | [], ds, h => by
    have : ds = [] := by simpa [ofSvK] using h.symm
    subst this; rfl
  | (k, .d x) :: l, ds, h => by
    cases e : ofSvK l with
    | none => simp [ofSvK, e] at h
    | some m =>
      have : (k, x) :: m = ds := by simpa [ofSvK, e] using h
      subst this
      rw [ofSvK_eq e]; rfl
  | (_, .r _) :: _, _, h => by simp [ofSvK] at h
theorem ofSvF_eq : ∀ {l : List (Fl × Sv)} {ds : List (Fl × D)}, ofSvF l = some ds → l = ds.map fun p => (p.1, .d p.2)
  | [], ds, h => by
    have : ds = [] := by simpa [ofSvF] using h.symm
    subst this; rfl
  | (k, .d x) :: l, ds, h => by
    cases e : ofSvF l with
    | none => simp [ofSvF, e] at h
    | some m =>
      have : (k, x) :: m = ds := by simpa [ofSvF, e] using h
      subst this
      rw [ofSvF_eq e]; rfl
  | (_, .r _) :: _, _, h => by simp [ofSvF] at h
theorem view_top {ω : Wd} {H : Hp} {G : Gs} {w : Sv} {d : D} {v : V} (S : Sim T ω H G) (h : view G w = some d) (r : RelW T ω w v) : Top T ω.φ H d v := by
  cases w with
  | d x =>
    have : x = d := by simpa [view] using h
    subst this
    exact Top.of S.sub r
  | r i =>
    obtain ⟨a, ha, rfl⟩ := r
    cases e : G[i]? with
    | none => simp [view, e] at h
    | some m =>
      cases m with
      | lst l =>
        have h2 : (ofSvs l).map D.lst = some d := by simpa only [view, e] using h
        cases e2 : ofSvs l with
        | none => rw [e2] at h2; cases h2
        | some ds =>
          rw [e2] at h2
          have : D.lst ds = d := by simpa using h2
          subst this
          rcases S.at_ i _ a e ha with q | ⟨_, o, ho, vs, rfl, rv⟩
          · cases q
          · rw [ofSvs_eq e2] at rv
            exact ⟨a, vs, rfl, ho, rv.to⟩
      | dic l =>
        have h2 : (ofSvK l).map D.dic = some d := by simpa only [view, e] using h
        cases e2 : ofSvK l with
        | none => rw [e2] at h2; cases h2
        | some ds =>
          rw [e2] at h2
          have : D.dic ds = d := by simpa using h2
          subst this
          rcases S.at_ i _ a e ha with q | ⟨_, o, ho, vs, rfl, rv⟩
          · cases q
          · rw [ofSvK_eq e2] at rv
            exact ⟨a, vs, rfl, ho, rv.to⟩
      | ins c l => simp [view, e] at h
      | gone => simp [view, e] at h
theorem PE.imp {X : Cx} {e : Expr} {t t' : TE} (h : PE X e t) (k : ∀ σ H Q, t' σ H Q → t σ H Q) : PE X e t' := ⟨fun pins s σ H Q I q => h.run pins s σ H Q I (k σ H Q q)⟩
theorem PT.imp {X : Cx} {e : Expr} {t t' : TT} (h : PT X e t) (k : ∀ σ H Q, t' σ H Q → t σ H Q) : PT X e t' := ⟨fun pins s σ H Q I q => h.run pins s σ H Q I (k σ H Q q)⟩
theorem PW.imp {X : Cx} {e : Expr} {t t' : TT} (h : PW X e t) (k : ∀ σ H Q, t' σ H Q → t σ H Q) : PW X e t' := ⟨fun wh pins s σ H Q I q => h.run wh pins s σ H Q I (k σ H Q q)⟩
theorem PA.imp {X : Cx} {e : List Expr} {t t' : TA} (h : PA X e t) (k : ∀ σ H Q, t' σ H Q → t σ H Q) : PA X e t' := ⟨fun p pins s σ H Q I q => h.run p pins s σ H Q I (k σ H Q q)⟩
theorem PS.imp {X : Cx} {e : Stmt} {t t' : TS} (h : PS X e t) (k : ∀ D σ H, t' D σ H → t D σ H) : PS X e t' := ⟨fun pins s σ H D I q => h.run pins s σ H D I (k D σ H q)⟩
theorem PSs.imp {X : Cx} {e : List Stmt} {t t' : TS} (h : PSs X e t) (k : ∀ D σ H, t' D σ H → t D σ H) : PSs X e t' := ⟨fun pins s σ H D I q => h.run pins s σ H D I (k D σ H q)⟩
theorem PO.imp {X : Cx} {e : Option Expr} {t t' : TO} (h : PO X e t) (k : ∀ σ H Q, t' σ H Q → t σ H Q) : PO X e t' := ⟨fun pins s σ H Q I q => h.run pins s σ H Q I (k σ H Q q)⟩
theorem PI.imp {X : Cx} {tg e : Expr} {t t' : TI} (h : PI X tg e t) (k : ∀ σ H Q, t' σ H Q → t σ H Q) : PI X tg e t' := ⟨fun pins s σ H Q I q => h.run pins s σ H Q I (k σ H Q q)⟩
theorem PG.imp {X : Cx} {e : Expr} {t t' : TG} (h : PG X e t) (k : ∀ v σ H Q, t' v σ H Q → t v σ H Q) : PG X e t' := ⟨fun pins s σ H v u Q I r q => h.run pins s σ H v u Q I r (k v σ H Q q)⟩
theorem PGs.imp {X : Cx} {e : List Expr} {t t' : TGs} (h : PGs X e t) (k : ∀ v σ H Q, t' v σ H Q → t v σ H Q) : PGs X e t' := ⟨fun pins s σ H v u Q I r q => h.run pins s σ H v u Q I r (k v σ H Q q)⟩
theorem PE.not {X : Cx} {e : Expr} {t : TE} (h : ∀ σ H Q, ¬ t σ H Q) : PE X e t := ⟨fun _ _ σ H Q _ q => absurd q (h σ H Q)⟩
theorem OpR.imp {X : Cx} {f : Value → Value → Sem Value} {r r' : R2} (h : OpR X f r) (k : ∀ x y H Q, r' x y H Q → r x y H Q) : OpR X f r' := fun pins s σ H x y v u Q I rx ry q => h pins s σ H x y v u Q I rx ry (k x y H Q q)
theorem CallR.imp {X : Cx} {f : Value} {r r' : List V → Hp → VK → Prop} (h : CallR X f r) (k : ∀ xs H Q, r' xs H Q → r xs H Q) : CallR X f r' := fun pins s σ H xs us Q I rx q => h pins s σ H xs us Q I rx (k xs H Q q)
theorem MtR.imp {X : Cx} {id : String} {r r' : V → List V → Hp → VK → Prop} (h : MtR X id r) (k : ∀ x xs H Q, r' x xs H Q → r x xs H Q) : MtR X id r' := fun pins s σ H x xs v us Q I rx ry q => h pins s σ H x xs v us Q I rx ry (k x xs H Q q)
end
/-- a value comes out, in a later world -/
def Out (T : Ty) (ω : Wd) (H : Hp) (G' : Gs) (w : Sv) (Q : VK) : Prop := ∀ ω' H' v, Stp ω H ω' H' → Sim T ω' H' G' → RelW T ω' w v → Q v H'
/-- nothing is made -/
theorem Out.here {T : Ty} {ω : Wd} {H : Hp} {G : Gs} {d : D} {v : V} {Q : VK} (k : Out T ω H G (.d d) Q) (S : Sim T ω H G) (r : Rel T ω.φ d v) : Q v H := k ω H v (Stp.refl _ _) S r
/-- a new frozen object -/
theorem Out.new {T : Ty} {ω : Wd} {H : Hp} {G : Gs} {d : D} {o : HO} {Q : VK} (k : Out T ω H G (.d d) Q) (S : Sim T ω H G) {p : Addr} (hp : H p = none) (r : ∀ φ, φ p = some o → Le ω.φ φ → Rel T φ d (.ref p)) (ho : ∀ ps, o ≠ .tbl ps := by intro _ h; cases h) : Q (.ref p) (upd H p o) := by
  obtain ⟨S', st⟩ := frozen_new S hp (o := o) ho
  exact k _ _ _ st S' (r _ upd_same st.w.le)
/-- the reading of an operator by the core's -/
def rBo (T : Ty) (o : Bo) : R2 := fun x y H Q => ∃ ω G dx dy d, Sim T ω H G ∧ Top T ω.φ H dx x ∧ Top T ω.φ H dy y ∧ bo o dx dy = some d ∧ okB o dx dy ∧ Out T ω H G (.d d) Q
theorem top_int {T : Ty} {φ H : Hp} {i : Int} {v : V} (h : Top T φ H (.int i) v) : v = .int i := h
theorem top_str {T : Ty} {φ H : Hp} {i : Str} {v : V} (h : Top T φ H (.str i) v) : v = .str i := h
theorem top_bl {T : Ty} {φ H : Hp} {i : Bool} {v : V} (h : Top T φ H (.bl i) v) : v = .bl i := h
theorem top_non {T : Ty} {φ H : Hp} {v : V} (h : Top T φ H .non v) : v = .non := h
end Fx

end

section
set_option Elab.async false
set_option linter.all false
set_option maxRecDepth 100000
set_option maxHeartbeats 2000000
/-! The arithmetic operators and the comparisons. -/
namespace Fx
open PySem L2 PyProof.Rows
section
variable {T : Ty} {X : Cx}
theorem foldl_rep (l : List Nat) : ∀ (k : Nat) (acc : Array Nat), (List.replicate k l.toArray).foldl (· ++ ·) acc = (acc.toList ++ (List.replicate k l).flatten).toArray
  | 0, acc => by simp
  | k + 1, acc => by
    rw [List.replicate_succ, List.foldl_cons, foldl_rep l k, List.replicate_succ, List.flatten_cons]
    simp
theorem repStr_one (x : Str) : repStr x 1 = x := by
  obtain ⟨c⟩ := x
  unfold repStr
  simp
theorem repStr_zero (x : Str) : repStr x 0 = Str.empty := rfl
theorem op_mul_str : OpR X (binaryOp .Mult) (fun x y H Q => ∃ z j, x = .str z ∧ y = .int j ∧ z.length = 1 ∧ 0 ≤ j ∧ j ≤ sizeLine ∧ Q (.str (repStr z j.toNat)) H) := by
  rintro pins s σ H x y v u Q I rx ry ⟨z, j, rfl, rfl, hz, h0, h1, q⟩
  obtain ⟨t, rfl⟩ := rx
  obtain ⟨t', rfl⟩ := ry
  have hl : sizeLine = 16777216 := sizeLine_eq
  have fin : ∀ (w : Str) (tk : Nat), w = repStr z j.toNat → EP X pins σ Q (.str w s.toks) { s with toks := tk } := fun w tk e => ⟨.str w, H, I.tok tk, ⟨_, rfl⟩, by rw [e]; exact q⟩
  refine PySem.P.mul_str ?_ (fun _ _ => ?_) (fun _ _ => ?_) ?_
  · have a : ¬ j < -(2 ^ 63 : Int) := by omega
    have b : ¬ j ≥ 2 ^ 63 := by omega
    rw [decide_eq_false a, decide_eq_false b]; rfl
  · rw [hz]
    have : (1 : Int) ≤ (2 ^ 63 - 1) / j := by
      rw [Int.le_ediv_iff_mul_le (by omega)]
      omega
    omega
  · rw [hz]
    show decide _ = false
    apply decide_eq_false
    omega
  · by_cases c : j < 1
    · rw [if_pos c]
      have e : j.toNat = 0 := by omega
      exact ⟨by decide, fin Str.empty _ (by rw [e, repStr_zero])⟩
    · rw [if_neg c]
      by_cases c2 : j = 1
      · subst c2
        rw [if_pos (by simp)]
        exact ⟨.str z, H, I, ⟨_, rfl⟩, by rw [show (1 : Int).toNat = 1 from rfl, repStr_one] at q; exact q⟩
      · have : (j == 1 || z.length == 0) = false := by
          rw [hz]
          simp [c2]
        rw [this, if_neg (by simp)]
        have e : (⟨(List.replicate j.toNat z.cps).foldl (· ++ ·) #[]⟩ : Str) = repStr z j.toNat := by
          unfold repStr
          have := foldl_rep z.cps.toList j.toNat #[]
          rw [show z.cps.toList.toArray = z.cps from by simp] at this
          rw [this]
          simp
        refine ⟨?_, ?_⟩
        · rw [e]
          have : (repStr z j.toNat).length = j.toNat := by
            show ((List.replicate j.toNat z.cps.toList).flatten.toArray).size = j.toNat
            have hz' : z.cps.toList.length = 1 := by
              have : z.cps.size = 1 := hz
              simpa using this
            simp [hz']
          rw [this]
          omega
        · rw [e]
          exact fin _ _ rfl
theorem op_bo {op : Operator} {o : Bo} (ho : opOf op = some o) : OpR X (binaryOp op) (fun x y H Q => X.K = T.K ∧ rBo T o x y H Q) := by
  rintro pins s σ H x y v u Q I rx ry ⟨hK, ω, G, dx, dy, d, S, tx, ty, e, k, out⟩
  cases op <;> first | cases ho | skip
  · -- add
    cases dx with
    | int i =>
      cases dy with
      | int j =>
        cases top_int tx; cases top_int ty; cases e
        exact op_add pins s σ H _ _ v u Q I rx ry ⟨i, j, rfl, rfl, out.here S rfl⟩
      | bl j =>
        cases top_int tx; cases top_bl ty; cases e
        exact op_add_ib pins s σ H _ _ v u Q I rx ry ⟨i, j, rfl, rfl, out.here S rfl⟩
      | _ => cases e
    | str i =>
      cases dy with
      | str j =>
        cases top_str tx; cases top_str ty; cases e
        exact op_add_str pins s σ H _ _ v u Q I rx ry ⟨i, j, rfl, rfl, k, out.here S rfl⟩
      | _ => cases e
    | tup l =>
      cases dy with
      | tup m =>
        obtain ⟨a, vs, rfl, sa, ra⟩ := tx
        obtain ⟨b, us, rfl, sb, rb⟩ := ty
        cases e
        have hl := ra.length
        have hm := rb.length
        refine op_catA pins s σ H _ _ v u Q I rx ry ⟨a, b, vs, us, rfl, rfl, hK ▸ S.sub.sqt sa, hK ▸ S.sub.sqt sb, ?_, ?_, ?_, ?_⟩
        · rw [hl, hm]; exact k
        · intro z
          subst z
          have : l = [] := List.eq_nil_of_length_eq_zero (by simpa using hl.symm)
          subst this
          exact out.here S ⟨b, us, rfl, sb, by simpa using rb⟩
        · intro _ z
          subst z
          have : m = [] := List.eq_nil_of_length_eq_zero (by simpa using hm.symm)
          subst this
          refine out.here S ⟨a, vs, rfl, sa, by simpa using ra⟩
        · intro _ _ p hp
          exact out.new S hp fun φ h1 h2 => ⟨p, _, rfl, SqT.of h1, (ra.mono h2).append (rb.mono h2)⟩
      | _ => cases e
    | _ => cases dy <;> cases e
  · -- sub
    cases dx with
    | int i =>
      cases dy with
      | int j =>
        cases top_int tx; cases top_int ty; cases e
        exact op_sub pins s σ H _ _ v u Q I rx ry ⟨i, j, rfl, rfl, out.here S rfl⟩
      | _ => cases e
    | _ => cases dy <;> cases e
  · -- mul
    cases dx with
    | int i =>
      cases dy with
      | int j =>
        cases top_int tx; cases top_int ty; cases e
        exact op_mulX pins s σ H _ _ v u Q I rx ry ⟨i, j, rfl, rfl, k, out.here S rfl⟩
      | _ => cases e
    | str i =>
      cases dy with
      | int j =>
        cases top_str tx; cases top_int ty; cases e
        exact op_mul_str pins s σ H _ _ v u Q I rx ry ⟨i, j, rfl, rfl, k.1, k.2.1, k.2.2, out.here S rfl⟩
      | _ => cases e
    | _ => cases dy <;> cases e
  · -- mod
    cases dx with
    | int i =>
      cases dy with
      | int j =>
        cases top_int tx; cases top_int ty; cases e
        exact op_mod pins s σ H _ _ v u Q I rx ry ⟨i, j, rfl, rfl, k, out.here S rfl⟩
      | _ => cases e
    | _ => cases dy <;> cases e
  · -- pow
    cases dx with
    | int i =>
      cases dy with
      | int j =>
        cases top_int tx; cases top_int ty; cases e
        exact op_pow pins s σ H _ _ v u Q I rx ry ⟨i, j, rfl, rfl, k, out.here S rfl⟩
      | _ => cases e
    | _ => cases dy <;> cases e
  · -- floor
    cases dx with
    | int i =>
      cases dy with
      | int j =>
        cases top_int tx; cases top_int ty; cases e
        exact op_fdivW pins s σ H _ _ v u Q I rx ry ⟨i, j, rfl, rfl, k, out.here S rfl⟩
      | _ => cases e
    | _ => cases dy <;> cases e
end
end Fx

end

section
set_option Elab.async false
set_option linter.all false
set_option maxRecDepth 100000
set_option maxHeartbeats 2000000
/-! The comparisons. -/
namespace Fx
open PySem L2 PyProof.Rows
mutual
def pdOf : D → PyData
  | .non => .none
  | .bl b => .bool b
  | .int i => .int i
  | .str x => .str x
  | .lst l => .list (pdsOf l)
  | .tup l => .tuple (pdsOf l)
  | _ => .none
def pdsOf : List D → List PyData
  | [] => []
  | x :: l => pdOf x :: pdsOf l
end
mutual
theorem pd_eqv : ∀ (n m : Nat) (x y : D), plainD n x = true → plainD m y = true → PyData.eqv (pdOf x) (pdOf y) = eqD x y
  | n, m, .non, y, h, k => by cases y <;> first | rfl | (cases m <;> simp [plainD] at k)
  | n, m, .bl b, y, h, k => by cases y <;> first | rfl | (cases m <;> simp [plainD] at k)
  | n, m, .int i, y, h, k => by cases y <;> first | rfl | (cases m <;> simp [plainD] at k)
  | n, m, .str x, y, h, k => by cases y <;> first | rfl | (cases m <;> simp [plainD] at k)
  | 0, m, .lst l, y, h, k => by simp [plainD] at h
  | n + 1, m, .lst l, y, h, k => by
    cases y with
    | lst l2 =>
      cases m with
      | zero => simp [plainD] at k
      | succ m => exact pds_eqv n m l l2 (by simpa [plainD] using h) (by simpa [plainD] using k)
    | _ => first | rfl | (cases m <;> simp [plainD] at k)
  | 0, m, .tup l, y, h, k => by simp [plainD] at h
  | n + 1, m, .tup l, y, h, k => by
    cases y with
    | tup l2 =>
      cases m with
      | zero => simp [plainD] at k
      | succ m => exact pds_eqv n m l l2 (by simpa [plainD] using h) (by simpa [plainD] using k)
    | _ => first | rfl | (cases m <;> simp [plainD] at k)
  | n, _, .scr _, _, h, _ => by cases n <;> simp [plainD] at h
  | n, _, .obj _ _, _, h, _ => by cases n <;> simp [plainD] at h
  | n, _, .dic _, _, h, _ => by cases n <;> simp [plainD] at h
  | n, _, .fn _, _, h, _ => by cases n <;> simp [plainD] at h
theorem pds_eqv : ∀ (n m : Nat) (l l2 : List D), plainDs n l = true → plainDs m l2 = true → PyData.eqvAll (pdsOf l) (pdsOf l2) = eqDs l l2
  | _, _, [], [], _, _ => rfl
  | _, _, [], _ :: _, _, _ => rfl
  | _, _, _ :: _, [], _, _ => rfl
  | n, m, x :: l, y :: l2, h, k => by
    have h' : plainD n x = true ∧ plainDs n l = true := by simpa [plainDs] using h
    have k' : plainD m y = true ∧ plainDs m l2 = true := by simpa [plainDs] using k
    show (PyData.eqv (pdOf x) (pdOf y) && PyData.eqvAll (pdsOf l) (pdsOf l2)) = (eqD x y && eqDs l l2)
    rw [pd_eqv n m x y h'.1 k'.1, pds_eqv n m l l2 h'.2 k'.2]
end
mutual
theorem pd_lay : ∀ (n : Nat) (x : D), plainD n x = true → (pdOf x).canLay0 = true ∧ (pdOf x).depth ≤ n
  | n, .non, _ => ⟨rfl, Nat.zero_le _⟩
  | n, .bl _, _ => ⟨rfl, Nat.zero_le _⟩
  | n, .int _, _ => ⟨rfl, Nat.zero_le _⟩
  | n, .str x, h => ⟨by
      have q : PyData.strOk x = true := by cases n <;> simpa [plainD] using h
      exact q, Nat.zero_le _⟩
  | 0, .lst _, h => by simp [plainD] at h
  | n + 1, .lst l, h => by
    obtain ⟨a, b⟩ := pds_lay n l (by simpa [plainD] using h)
    exact ⟨a, Nat.succ_le_succ b⟩
  | 0, .tup _, h => by simp [plainD] at h
  | n + 1, .tup l, h => by
    obtain ⟨a, b⟩ := pds_lay n l (by simpa [plainD] using h)
    exact ⟨a, Nat.succ_le_succ b⟩
  | n, .scr _, h => by cases n <;> simp [plainD] at h
  | n, .obj _ _, h => by cases n <;> simp [plainD] at h
  | n, .dic _, h => by cases n <;> simp [plainD] at h
  | n, .fn _, h => by cases n <;> simp [plainD] at h
theorem pds_lay : ∀ (n : Nat) (l : List D), plainDs n l = true → PyData.canLayAll0 (pdsOf l) = true ∧ PyData.depthAll (pdsOf l) ≤ n
  | _, [], _ => ⟨rfl, Nat.zero_le _⟩
  | n, x :: l, h => by
    have h' : plainD n x = true ∧ plainDs n l = true := by simpa [plainDs] using h
    obtain ⟨a, b⟩ := pd_lay n x h'.1
    obtain ⟨c, d⟩ := pds_lay n l h'.2
    refine ⟨?_, Nat.max_le.mpr ⟨b, d⟩⟩
    show ((pdOf x).canLay0 && PyData.canLayAll0 (pdsOf l)) = true
    rw [a, c]; rfl
end
theorem pd_shaped {x : D} (h : plainD 60 x = true) : SeqAt.shaped (pdOf x) = true := by
  obtain ⟨a, b⟩ := pd_lay 60 x h
  unfold SeqAt.shaped
  rw [a]
  exact decide_eq_true (by omega)
section
variable {T : Ty}
mutual
theorem rel_dp {φ H : Hp} (hs : Le φ H) : ∀ (n : Nat) {d : D} {v : V}, plainD n d = true → Rel T φ d v → Dp T.K H v (pdOf d)
  | n, .non, _, _, r => by cases (show _ = _ from r); exact .non
  | n, .bl _, _, _, r => by cases (show _ = _ from r); exact .bl _
  | n, .int _, _, _, r => by cases (show _ = _ from r); exact .int _
  | n, .str _, _, _, r => by cases (show _ = _ from r); exact .str _
  | 0, .lst _, _, h, _ => by simp [plainD] at h
  | n + 1, .lst l, _, h, ⟨a, vs, e, s, r⟩ => by
    subst e
    exact .lst (SqL.of (hs _ _ s)) (rel_dps hs n (by simpa [plainD] using h) r)
  | 0, .tup _, _, h, _ => by simp [plainD] at h
  | n + 1, .tup l, _, h, ⟨a, vs, e, s, r⟩ => by
    subst e
    exact .tup (hs.sqt s) (rel_dps hs n (by simpa [plainD] using h) r)
  | n, .scr _, _, h, _ => by cases n <;> simp [plainD] at h
  | n, .obj _ _, _, h, _ => by cases n <;> simp [plainD] at h
  | n, .dic _, _, h, _ => by cases n <;> simp [plainD] at h
  | n, .fn _, _, h, _ => by cases n <;> simp [plainD] at h
theorem rel_dps {φ H : Hp} (hs : Le φ H) : ∀ (n : Nat) {l : List D} {vs : List V}, plainDs n l = true → Rels T φ l vs → DpAll T.K H vs (pdsOf l)
  | _, [], _, _, r => by cases (show _ = _ from r); exact .nil
  | n, x :: l, _, h, ⟨v, r, e, r1, r2⟩ => by
    subst e
    have h' : plainD n x = true ∧ plainDs n l = true := by simpa [plainDs] using h
    exact .cons (rel_dp hs n h'.1 r1) (rel_dps hs n h'.2 r2)
end
theorem top_dp {φ H : Hp} (hs : Le φ H) {d : D} {v : V} (h : plainD 60 d = true) (r : Top T φ H d v) : Dp T.K H v (pdOf d) := by
  cases d with
  | lst l =>
    obtain ⟨a, vs, rfl, s, r⟩ := r
    exact .lst (SqL.of s) (rel_dps hs 59 (by simpa [plainD] using h) r)
  | dic _ => simp [plainD] at h
  | _ => exact rel_dp hs 60 h r
theorem flat_v {φ H : Hp} {d : D} {v : V} (h : flatD d = true) (r : Top T φ H d v) : flatV v = true := by
  cases d <;> first | (cases (show _ = _ from r); rfl) | cases h
theorem flat_vr {φ : Hp} {d : D} {v : V} (h : flatD d = true) (r : Rel T φ d v) : flatV v = true := by
  cases d <;> first | (cases (show _ = _ from r); rfl) | cases h
theorem flat_eq {φ φ' H : Hp} {d e : D} {v u : V} (h : flatD d = true) (k : flatD e = true) (r : Rel T φ' d v) (q : Top T φ H e u) : eqV v u = eqD d e := by
  cases d <;> first | cases h | skip
  all_goals (cases e <;> first | cases k | skip)
  all_goals (cases (show _ = _ from r); cases (show _ = _ from q); rfl)
theorem flat_all {φ : Hp} : ∀ {l : List D} {vs : List V}, l.all flatD = true → Rels T φ l vs → vs.all flatV = true
  | [], _, _, r => by cases (show _ = _ from r); rfl
  | d :: l, _, h, ⟨v, r, e, r1, r2⟩ => by
    subst e
    have h' : flatD d = true ∧ l.all flatD = true := by simpa using h
    simp [flat_vr h'.1 r1]
    simpa using flat_all h'.2 r2
theorem flat_any {φ φ' H : Hp} {x : D} {u : V} (hx : flatD x = true) (q : Top T φ H x u) : ∀ {l : List D} {vs : List V}, l.all flatD = true → Rels T φ' l vs → inV u vs = l.any fun y => eqD y x
  | [], _, _, r => by cases (show _ = _ from r); rfl
  | d :: l, _, h, ⟨v, r, e, r1, r2⟩ => by
    subst e
    have h' : flatD d = true ∧ l.all flatD = true := by simpa using h
    have ih := flat_any hx q h'.2 r2
    show (eqV v u || inV u r) = (eqD d x || l.any fun y => eqD y x)
    rw [flat_eq h'.1 hx r1 q, ih]
theorem scal_v {φ H : Hp} {x y : D} {v u : V} (h : scalD x y = true) (r : Top T φ H x v) (q : Top T φ H y u) : scal v u = true ∧ decide (v = u) = eqD x y := by
  cases x <;> cases y <;> first | cases h | skip
  all_goals (cases (show _ = _ from r); cases (show _ = _ from q); refine ⟨rfl, ?_⟩)
  all_goals first | rfl | exact dec_int | exact dec_bl | exact dec_str | (apply decide_eq_false; intro z; cases z)
theorem key_any {φ : Hp} {k : Key} : ∀ {l : List (Key × D)} {vs : List (Key × V)}, RelK T φ l vs → (valV vs k).isSome = l.any fun p => decide (p.1 = k)
  | [], _, r => by cases (show _ = _ from r); rfl
  | (g, d) :: l, _, ⟨v, r, e, r1, r2⟩ => by
    subst e
    have ih := key_any (k := k) r2
    by_cases c : g = k
    · subst c
      simp [valV]
    · have c' : decide (g = k) = false := decide_eq_false c
      rw [List.any_cons, c', Bool.false_or, ← ih]
      simp [valV, c]

variable {X : Cx}
theorem op_cm {op : CmpOp} {o : Bo} (ho : cmOf op = some o) (hu : X.A.units + 64 < cLine) : OpR X (compareOp op) (fun x y H Q => X.K = T.K ∧ rBo T o x y H Q) := by
  rintro pins s σ H x y v u Q I rx ry ⟨hK, ω, G, dx, dy, d, S, tx, ty, e, k, out⟩
  cases op <;> (cases ho)
  · -- eq
    cases e
    rcases k with k | ⟨k1, k2⟩
    · obtain ⟨a, b⟩ := scal_v k tx ty
      refine op_eq pins s σ H x y v u Q I rx ry ⟨a, ?_⟩
      rw [b]; exact out.here S rfl
    · refine op_eqD hu pins s σ H x y v u Q I rx ry ⟨pdOf dx, pdOf dy, hK ▸ top_dp S.sub k1 tx, hK ▸ top_dp S.sub k2 ty, pd_shaped k1, pd_shaped k2, ?_⟩
      rw [pd_eqv 60 60 dx dy k1 k2]; exact out.here S rfl
  · cases e
    rcases k with k | ⟨k1, k2⟩
    · obtain ⟨a, b⟩ := scal_v k tx ty
      refine op_ne pins s σ H x y v u Q I rx ry ⟨a, ?_⟩
      rw [b]; exact out.here S rfl
    · refine op_neD hu pins s σ H x y v u Q I rx ry ⟨pdOf dx, pdOf dy, hK ▸ top_dp S.sub k1 tx, hK ▸ top_dp S.sub k2 ty, pd_shaped k1, pd_shaped k2, ?_⟩
      rw [pd_eqv 60 60 dx dy k1 k2]; exact out.here S rfl
  · cases dx <;> cases dy <;> first | cases e | skip
    cases top_int tx; cases top_int ty
    exact op_lt pins s σ H _ _ v u Q I rx ry ⟨_, _, rfl, rfl, out.here S rfl⟩
  · cases dx <;> cases dy <;> first | cases e | skip
    cases top_int tx; cases top_int ty
    exact op_le pins s σ H _ _ v u Q I rx ry ⟨_, _, rfl, rfl, out.here S rfl⟩
  · cases dx <;> cases dy <;> first | cases e | skip
    cases top_int tx; cases top_int ty
    exact op_gt pins s σ H _ _ v u Q I rx ry ⟨_, _, rfl, rfl, out.here S rfl⟩
  · cases dx <;> cases dy <;> first | cases e | skip
    cases top_int tx; cases top_int ty
    exact op_ge pins s σ H _ _ v u Q I rx ry ⟨_, _, rfl, rfl, out.here S rfl⟩
  · -- is
    cases dy with
    | non =>
      have e' : d = .bl (isNon dx) := by cases dx <;> (cases e; rfl)
      subst e'
      cases top_non ty
      refine op_isN pins s σ H x .non v u Q I rx ry ⟨rfl, ?_⟩
      have : decide (x = .non) = isNon dx := by
        cases dx with
        | non => cases top_non tx; rfl
        | bl b => cases top_bl tx; rfl
        | int b => cases top_int tx; rfl
        | str b => cases top_str tx; rfl
        | fn f => cases (show _ = _ from tx); rfl
        | obj c l => (obtain ⟨_, a, _, _, hx, _⟩ := tx
                      subst hx; rfl)
        | _ => (obtain ⟨a, h⟩ := tx; have hx : x = .ref a := by first | exact h.1 | (obtain ⟨_, h, _⟩ := h; exact h) | (obtain ⟨_, _, h, _⟩ := h; exact h)
                subst hx; rfl)
      rw [this]
      exact out.here S rfl
    | bl b =>
      cases dx <;> first | cases e | skip
      cases top_bl tx; cases top_bl ty
      exact op_isBl pins s σ H _ _ v u Q I rx ry ⟨_, _, rfl, rfl, out.here S rfl⟩
    | _ => cases dx <;> cases e
  · cases dy with
    | non =>
      have e' : d = .bl (!isNon dx) := by cases dx <;> (cases e; rfl)
      subst e'
      cases top_non ty
      refine op_notN pins s σ H x .non v u Q I rx ry ⟨rfl, ?_⟩
      have : decide (x = .non) = isNon dx := by
        cases dx with
        | non => cases top_non tx; rfl
        | bl b => cases top_bl tx; rfl
        | int b => cases top_int tx; rfl
        | str b => cases top_str tx; rfl
        | fn f => cases (show _ = _ from tx); rfl
        | obj c l => (obtain ⟨_, a, _, _, hx, _⟩ := tx
                      subst hx; rfl)
        | _ => (obtain ⟨a, h⟩ := tx; have hx : x = .ref a := by first | exact h.1 | (obtain ⟨_, h, _⟩ := h; exact h) | (obtain ⟨_, _, h, _⟩ := h; exact h)
                subst hx; rfl)
      rw [this]
      exact out.here S rfl
    | bl b =>
      cases dx <;> first | cases e | skip
      cases top_bl tx; cases top_bl ty
      exact op_notBl pins s σ H _ _ v u Q I rx ry ⟨_, _, rfl, rfl, out.here S rfl⟩
    | _ => cases dx <;> cases e
  · -- in
    cases dy with
    | tup l =>
      have e' : d = .bl (l.any fun y => eqD y dx) := by cases dx <;> (cases e; rfl)
      have k' : flatD dx = true ∧ l.all flatD = true := by cases dx <;> exact k
      subst e'
      obtain ⟨a, vs, rfl, sa, ra⟩ := ty
      refine op_in_seq pins s σ H x _ v u Q I rx ry ⟨a, vs, rfl, .inr (hK ▸ S.sub.sqt sa), flat_v k'.1 tx, flat_all k'.2 ra, ?_⟩
      rw [flat_any k'.1 tx k'.2 ra]; exact out.here S rfl
    | lst l =>
      have e' : d = .bl (l.any fun y => eqD y dx) := by cases dx <;> (cases e; rfl)
      have k' : flatD dx = true ∧ l.all flatD = true := by cases dx <;> exact k
      subst e'
      obtain ⟨a, vs, rfl, sa, ra⟩ := ty
      refine op_in_seq pins s σ H x _ v u Q I rx ry ⟨a, vs, rfl, .inl (SqL.of sa), flat_v k'.1 tx, flat_all k'.2 ra, ?_⟩
      rw [flat_any k'.1 tx k'.2 ra]; exact out.here S rfl
    | str z =>
      cases dx <;> first | cases e | skip
      cases top_str tx; cases top_str ty
      exact op_in_str pins s σ H _ _ v u Q I rx ry ⟨_, _, rfl, rfl, out.here S rfl⟩
    | dic l =>
      obtain ⟨a, vs, rfl, sa, ra⟩ := ty
      obtain rfl : u = Value.ref a := ry
      cases dx <;> first | cases e | skip
      · cases top_int tx
        refine d_in (by omega) I (o := valV vs (.inl _)) (.inl ⟨vs, .inl _, .inl sa, rfl, rfl⟩) rx fun s3 I3 => ⟨.bl _, H, I3, rfl, ?_⟩
        rw [key_any ra]; exact out.here S rfl
      · cases top_str tx
        refine d_in (by omega) I (o := valV vs (.inr _)) (.inl ⟨vs, .inr _, .inl sa, rfl, rfl⟩) rx fun s3 I3 => ⟨.bl _, H, I3, rfl, ?_⟩
        rw [key_any ra]; exact out.here S rfl
    | _ => cases dx <;> cases e
  · cases dy with
    | tup l =>
      have e' : d = .bl (!l.any fun y => eqD y dx) := by cases dx <;> (cases e; rfl)
      have k' : flatD dx = true ∧ l.all flatD = true := by cases dx <;> exact k
      subst e'
      obtain ⟨a, vs, rfl, sa, ra⟩ := ty
      refine op_notIn_seq pins s σ H x _ v u Q I rx ry ⟨a, vs, rfl, .inr (hK ▸ S.sub.sqt sa), flat_v k'.1 tx, flat_all k'.2 ra, ?_⟩
      rw [flat_any k'.1 tx k'.2 ra]; exact out.here S rfl
    | lst l =>
      have e' : d = .bl (!l.any fun y => eqD y dx) := by cases dx <;> (cases e; rfl)
      have k' : flatD dx = true ∧ l.all flatD = true := by cases dx <;> exact k
      subst e'
      obtain ⟨a, vs, rfl, sa, ra⟩ := ty
      refine op_notIn_seq pins s σ H x _ v u Q I rx ry ⟨a, vs, rfl, .inl (SqL.of sa), flat_v k'.1 tx, flat_all k'.2 ra, ?_⟩
      rw [flat_any k'.1 tx k'.2 ra]; exact out.here S rfl
    | str z =>
      cases dx <;> first | cases e | skip
      cases top_str tx; cases top_str ty
      exact op_notIn_str pins s σ H _ _ v u Q I rx ry ⟨_, _, rfl, rfl, out.here S rfl⟩
    | dic l =>
      obtain ⟨a, vs, rfl, sa, ra⟩ := ty
      obtain rfl : u = Value.ref a := ry
      cases dx <;> first | cases e | skip
      · cases top_str tx
        refine d_notIn (by omega) I (o := valV vs (.inr _)) (.inl ⟨vs, .inr _, .inl sa, rfl, rfl⟩) rx fun s3 I3 => ⟨.bl _, H, I3, rfl, ?_⟩
        rw [key_any ra]; exact out.here S rfl
    | _ => cases dx <;> cases e
end
end Fx

end

section
set_option Elab.async false
set_option linter.all false
set_option maxRecDepth 100000
set_option maxHeartbeats 1000000
/-! The readings, the context, the plain expressions. -/
namespace Fx
open PySem L2 PyProof.Rows
/-- the context of a piece of text -/
structure Cok (T : Ty) (n : Nat) (κ : Kx) (X : Cx) : Prop where
  K : X.K = T.K
  P : X.prog = T.P
  w : X.w = T.w
  mg : X.mg = T.mg
  base : X.base = T.base
  calm : X.calm = true
  N : X.N = κ.N
  nd : κ.N.Nodup
  sc : X.env.scope = κ.sc
  ok : KxOk κ
  room : Room n X.A
  fn : κ.fn = true → ∀ x, X.fn x = true
  po : PassesOwn (model X.prog X.w) X.A X.env X.xe
/-- an exception comes out -/
def XOut (T : Ty) (W : WX) (σv : L2.St) (ω : Wd) (H : Hp) (G' : Gs) (c : Cn) (l : List (Fl × D)) : Prop :=
  ∀ ω' H' dd fv, Stp ω H ω' H' → Sim T ω' H' G' → ω'.φ dd = some (.xd fv) → RelF T ω'.φ l fv → W (.ref (T.cA c)) (some dd) σv H'
def tE (T : Ty) (W : WX) (σ : Sg) (G : Gs) (o : Oc) (G' : Gs) : TE := fun σv H Q =>
  ∃ ω, Sim T ω H G ∧ RelSt T ω σ σv ∧ match o with
    | .ok w => Out T ω H G' w Q
    | .ex c l => XOut T W σv ω H G' c l
/-- .. a list of values -/
def OutA (T : Ty) (ω : Wd) (H : Hp) (G' : Gs) (ws : List Sv) (Q : List V → Hp → Prop) : Prop := ∀ ω' H' vs, Stp ω H ω' H' → Sim T ω' H' G' → RelWs T ω' ws vs → Q vs H'
def tA (T : Ty) (W : WX) (σ : Sg) (G : Gs) (o : Ao) (G' : Gs) : TA := fun σv H Q =>
  ∃ ω, Sim T ω H G ∧ RelSt T ω σ σv ∧ match o with
    | .ok ws => OutA T ω H G' ws Q
    | .ex c l => XOut T W σv ω H G' c l
/-- a new object comes out, not yet in the store -/
def tN (T : Ty) (σ : Sg) (G : Gs) (m : MO) (G' : Gs) : TE := fun σv H Q =>
  ∃ ω, Sim T ω H G ∧ RelSt T ω σ σv ∧ ∀ ω' H' p o, Stp ω H ω' H' → Sim T ω' H' G' → H' p = none → RelM T ω' m o → Q (.ref p) (upd H' p o)
def tT (T : Ty) (σ : Sg) (G : Gs) (b : Bool) (G' : Gs) : TT := fun σv H Q =>
  ∃ ω, Sim T ω H G ∧ RelSt T ω σ σv ∧ ∀ ω' H', Stp ω H ω' H' → Sim T ω' H' G' → Q b H'
def tOI (T : Ty) (σ : Sg) (G : Gs) (i : Option Int) (G' : Gs) : TO := fun σv H Q =>
  ∃ ω, Sim T ω H G ∧ RelSt T ω σ σv ∧ ∀ ω' H', Stp ω H ω' H' → Sim T ω' H' G' → Q i H'
section
variable {T : Ty} {n : Nat} {κ : Kx}
def HE (T : Ty) (n : Nat) (κ : Kx) (e : Expr) (σ : Sg) (G : Gs) (o : Oc) (G' : Gs) : Prop := ∀ X, Cok T n κ X → ∀ W, Takes X W → PE X e (tE T W σ G o G')
def HA (T : Ty) (n : Nat) (κ : Kx) (e : List Expr) (σ : Sg) (G : Gs) (o : Ao) (G' : Gs) : Prop := ∀ X, Cok T n κ X → ∀ W, Takes X W → PA X e (tA T W σ G o G')
def HN (T : Ty) (n : Nat) (κ : Kx) (e : Expr) (σ : Sg) (G : Gs) (m : MO) (G' : Gs) : Prop := ∀ X, Cok T n κ X → PE X e (tN T σ G m G')
def HT (T : Ty) (n : Nat) (κ : Kx) (e : Expr) (σ : Sg) (G : Gs) (b : Bool) (G' : Gs) : Prop := ∀ X, Cok T n κ X → PT X e (tT T σ G b G')
def HO (T : Ty) (n : Nat) (κ : Kx) (e : Option Expr) (σ : Sg) (G : Gs) (i : Option Int) (G' : Gs) : Prop := ∀ X, Cok T n κ X → PO X e (tOI T σ G i G')
abbrev W0 : WX := fun _ _ _ _ => False
theorem takes_f (X : Cx) : Takes X W0 := fun _ _ ⟨_, _, _, _, _, _, _, _, _, _, _, _, _, _, _, _, h⟩ => h.elim
section
variable {W : WX} {σ : Sg} {σv : L2.St} {G G' : Gs} {ω : Wd} {H : Hp}
theorem tE.mk {w : Sv} {Q : VK} (S : Sim T ω H G) (R : RelSt T ω σ σv) (k : ∀ ω' H' v, Stp ω H ω' H' → Sim T ω' H' G' → RelSt T ω' σ σv → RelW T ω' w v → Q v H') : tE T W σ G (.ok w) G' σv H Q :=
  ⟨ω, S, R, fun ω' H' v st S' r => k ω' H' v st S' (R.mono st.w) r⟩
theorem tA.mk {ws : List Sv} {Q : List V → Hp → Prop} (S : Sim T ω H G) (R : RelSt T ω σ σv) (k : ∀ ω' H' vs, Stp ω H ω' H' → Sim T ω' H' G' → RelSt T ω' σ σv → RelWs T ω' ws vs → Q vs H') : tA T W σ G (.ok ws) G' σv H Q :=
  ⟨ω, S, R, fun ω' H' v st S' r => k ω' H' v st S' (R.mono st.w) r⟩
theorem tT.mk {b : Bool} {Q : Bool → Hp → Prop} (S : Sim T ω H G) (R : RelSt T ω σ σv) (k : ∀ ω' H', Stp ω H ω' H' → Sim T ω' H' G' → RelSt T ω' σ σv → Q b H') : tT T σ G b G' σv H Q :=
  ⟨ω, S, R, fun ω' H' st S' => k ω' H' st S' (R.mono st.w)⟩
theorem tOI.mk {b : Option Int} {Q : Option Int → Hp → Prop} (S : Sim T ω H G) (R : RelSt T ω σ σv) (k : ∀ ω' H', Stp ω H ω' H' → Sim T ω' H' G' → RelSt T ω' σ σv → Q b H') : tOI T σ G b G' σv H Q :=
  ⟨ω, S, R, fun ω' H' st S' => k ω' H' st S' (R.mono st.w)⟩
theorem Out.trans {w : Sv} {Q : VK} {ω1 : Wd} {H1 : Hp} (k : Out T ω H G' w Q) (st : Stp ω H ω1 H1) : Out T ω1 H1 G' w Q := fun ω2 H2 v st2 S r => k ω2 H2 v (st.trans st2) S r
theorem OutA.trans {w : List Sv} {Q : List V → Hp → Prop} {ω1 : Wd} {H1 : Hp} (k : OutA T ω H G' w Q) (st : Stp ω H ω1 H1) : OutA T ω1 H1 G' w Q := fun ω2 H2 v st2 S r => k ω2 H2 v (st.trans st2) S r
theorem XOut.trans {c : Cn} {l : List (Fl × D)} {ω1 : Wd} {H1 : Hp} (k : XOut T W σv ω H G' c l) (st : Stp ω H ω1 H1) : XOut T W σv ω1 H1 G' c l := fun ω2 H2 dd fv st2 S r q => k ω2 H2 dd fv (st.trans st2) S r q
/-- the same end, from a later world -/
theorem tE.later {o : Oc} {Q : VK} {ω1 : Wd} {H1 : Hp} {G1 : Gs} (S1 : Sim T ω1 H1 G1) (R1 : RelSt T ω1 σ σv) (st : Stp ω H ω1 H1)
    (k : match o with | .ok w => Out T ω H G' w Q | .ex c l => XOut T W σv ω H G' c l) : tE T W σ G1 o G' σv H1 Q := by
  refine ⟨ω1, S1, R1, ?_⟩
  cases o with
  | ok w => exact Out.trans k st
  | ex c l => exact XOut.trans k st
end
variable {σ : Sg} {G G1 G2 G3 : Gs} {X : Cx}
theorem Cok.vis (c : Cok T n κ X) {i : Nat} {x : Str} (h : κ.lv.contains i = true) (e : κ.N[i]? = some x) : Vis X.env.scope x := by rw [c.sc]; exact (c.ok.lv i x h e).1
theorem Cok.gl (c : Cok T n κ X) {j : Nat} {x : Str} (e : κ.gl[j]? = some x) : Gl X x := by
  show X.env.scope.names.lookup x = _
  rw [c.sc]; exact (c.ok.gl j x e).1
theorem he_var {x p} {i : Nat} {w : Sv} (h : κ.N[i]? = some x) (hl : κ.lv.contains i = true) (hw : σ[i]? = some (some w)) : HE T n κ (.Name x p) σ G (.ok w) G := by
  intro X c W tk
  obtain ⟨d1, d2, _⟩ := nameOk_d (c.ok.lv i x hl h).2
  refine PE.imp (pe_var (X := X) (i := i) (c.N ▸ h) (c.vis hl h) d1 d2) fun σv H Q ⟨ω, S, R, k⟩ => ?_
  obtain ⟨v, e, r⟩ := R.get hw
  exact ⟨v, e, k ω H v (Stp.refl _ _) S r⟩
/-- a value that stands for data everywhere -/
theorem he_const {e : Expr} {d : D} {v : V} (h : ∀ X, Cok T n κ X → PE X e (tC v)) (r : ∀ φ, Rel T φ d v) : HE T n κ e σ G (.ok (.d d)) G := fun X c W tk =>
  PE.imp (h X c) fun σv H Q ⟨ω, S, R, k⟩ => k ω H v (Stp.refl _ _) S (r ω.φ)
theorem he_bin {op o a b p x y dx dy d} (ho : opOf op = some o) (ha : HE T n κ a σ G (.ok x) G1) (hb : HE T n κ b σ G1 (.ok y) G2) (v1 : view G2 x = some dx) (v2 : view G2 y = some dy) (e : bo o dx dy = some d) (k : okB o dx dy) :
    HE T n κ (.BinOp a op b p) σ G (.ok (.d d)) G2 := by
  intro X c W tk
  refine PE.imp (pe_op (op_bo (T := T) ho) (ha X c W tk) (hb X c W tk)) fun σv H Q ⟨ω, S, R, out⟩ => ?_
  refine tE.mk S R fun ω1 H1 v st1 S1 R1 r1 => tE.mk S1 R1 fun ω2 H2 u st2 S2 R2 r2 => ⟨c.K, ω2, G2, dx, dy, d, S2, view_top S2 v1 (r1.mono st2.w), view_top S2 v2 r2, e, k, Out.trans out (st1.trans st2)⟩
theorem he_cmp {op o a b p x y dx dy d} (ho : cmOf op = some o) (ha : HE T n κ a σ G (.ok x) G1) (hb : HE T n κ b σ G1 (.ok y) G2) (hm : behindInMarks op b = false) (v1 : view G2 x = some dx) (v2 : view G2 y = some dy) (e : bo o dx dy = some d) (k : okB o dx dy) :
    HE T n κ (.Compare a [op] [b] p) σ G (.ok (.d d)) G2 := by
  intro X c W tk
  refine PE.imp (pe_cmpR (op_cm (T := T) ho c.room.units) (ha X c W tk) (hb X c W tk) hm) fun σv H Q ⟨ω, S, R, out⟩ => ?_
  refine tE.mk S R fun ω1 H1 v st1 S1 R1 r1 => tE.mk S1 R1 fun ω2 H2 u st2 S2 R2 r2 => ⟨c.K, ω2, G2, dx, dy, d, S2, view_top S2 v1 (r1.mono st2.w), view_top S2 v2 r2, e, k, Out.trans out (st1.trans st2)⟩
theorem ht_cmp {op o a b p x y dx dy d} (ho : cmOf op = some o) (ha : HE T n κ a σ G (.ok x) G1) (hb : HE T n κ b σ G1 (.ok y) G2) (hm : behindInMarks op b = false) (v1 : view G2 x = some dx) (v2 : view G2 y = some dy) (e : bo o dx dy = some (.bl d)) (k : okB o dx dy) :
    HT T n κ (.Compare a [op] [b] p) σ G d G2 := by
  intro X c
  have tk := takes_f X
  refine PT.imp (pt_cmpR (op_cm (T := T) ho c.room.units) (ha X c W0 tk) (hb X c W0 tk) hm) fun σv H Q ⟨ω, S, R, out⟩ => ?_
  refine tE.mk (W := W0) S R fun ω1 H1 v st1 S1 R1 r1 => tE.mk (W := W0) S1 R1 fun ω2 H2 u st2 S2 R2 r2 => ⟨c.K, ω2, G2, dx, dy, _, S2, view_top S2 v1 (r1.mono st2.w), view_top S2 v2 r2, e, k, fun ω3 H3 v3 st3 S3 r3 => ?_⟩
  cases (show _ = _ from r3)
  exact ⟨d, rfl, out ω3 H3 ((st1.trans st2).trans st3) S3⟩
theorem he_neg {a p i} (ha : HE T n κ a σ G (.ok (.d (.int i))) G1) : HE T n κ (.UnaryOp .USub a p) σ G (.ok (.d (.int (-i)))) G1 := by
  intro X c W tk
  refine PE.imp (pe_un un_neg (ha X c W tk)) fun σv H Q ⟨ω, S, R, out⟩ => tE.mk S R fun ω1 H1 v st1 S1 R1 r1 => ?_
  cases (show _ = _ from r1)
  exact ⟨i, rfl, out ω1 H1 _ st1 S1 rfl⟩
theorem he_nt {a p b} (ha : HE T n κ a σ G (.ok (.d (.bl b))) G1) : HE T n κ (.UnaryOp .Not a p) σ G (.ok (.d (.bl (!b)))) G1 := by
  intro X c W tk
  refine PE.imp (pe_not (ha X c W tk)) fun σv H Q ⟨ω, S, R, out⟩ => tE.mk S R fun ω1 H1 v st1 S1 R1 r1 => ?_
  cases (show _ = _ from r1)
  exact ⟨b, rfl, out ω1 H1 _ st1 S1 rfl⟩
theorem he_andT {a b r p o} (ha : HE T n κ a σ G (.ok (.d (.bl true))) G1) (hb : HE T n κ (.BoolOp .And (b :: r) p) σ G1 o G2) : HE T n κ (.BoolOp .And (a :: b :: r) p) σ G o G2 := by
  intro X c W tk
  refine PE.imp (pe_and (ha X c W tk) (hb X c W tk)) fun σv H Q ⟨ω, S, R, out⟩ => tE.mk S R fun ω1 H1 v st1 S1 R1 r1 => ?_
  cases (show _ = _ from r1)
  exact ⟨true, rfl, tE.later S1 R1 st1 out⟩
theorem he_never {e : Expr} (X : Cx) : PE X e fun _ _ _ => False := ⟨fun _ _ _ _ _ _ h => h.elim⟩
theorem he_andF {a b r p} (ha : HE T n κ a σ G (.ok (.d (.bl false))) G1) : HE T n κ (.BoolOp .And (a :: b :: r) p) σ G (.ok (.d (.bl false))) G1 := by
  intro X c W tk
  refine PE.imp (pe_and (ha X c W tk) (he_never X)) fun σv H Q ⟨ω, S, R, out⟩ => tE.mk S R fun ω1 H1 v st1 S1 R1 r1 => ?_
  cases (show _ = _ from r1)
  exact ⟨false, rfl, by rw [if_neg (by decide)]; exact out ω1 H1 _ st1 S1 rfl⟩
theorem he_orF {a b r p o} (ha : HE T n κ a σ G (.ok (.d (.bl false))) G1) (hb : HE T n κ (.BoolOp .Or (b :: r) p) σ G1 o G2) : HE T n κ (.BoolOp .Or (a :: b :: r) p) σ G o G2 := by
  intro X c W tk
  refine PE.imp (pe_or (ha X c W tk) (hb X c W tk)) fun σv H Q ⟨ω, S, R, out⟩ => tE.mk S R fun ω1 H1 v st1 S1 R1 r1 => ?_
  cases (show _ = _ from r1)
  exact ⟨false, rfl, by rw [if_neg (by decide)]; exact tE.later S1 R1 st1 out⟩
theorem he_orT {a b r p} (ha : HE T n κ a σ G (.ok (.d (.bl true))) G1) : HE T n κ (.BoolOp .Or (a :: b :: r) p) σ G (.ok (.d (.bl true))) G1 := by
  intro X c W tk
  refine PE.imp (pe_or (ha X c W tk) (he_never X)) fun σv H Q ⟨ω, S, R, out⟩ => tE.mk S R fun ω1 H1 v st1 S1 R1 r1 => ?_
  cases (show _ = _ from r1)
  exact ⟨true, rfl, by rw [if_pos rfl]; exact out ω1 H1 _ st1 S1 rfl⟩
theorem he_one {op a p o} (ha : HE T n κ a σ G o G1) : HE T n κ (.BoolOp op [a] p) σ G o G1 := fun X c W tk => pe_one (ha X c W tk)
theorem he_andT2 {a b p o} (ha : HE T n κ a σ G (.ok (.d (.bl true))) G1) (hb : HE T n κ b σ G1 o G2) : HE T n κ (.BoolOp .And [a, b] p) σ G o G2 := he_andT ha (he_one hb)
theorem he_orF2 {a b p o} (ha : HE T n κ a σ G (.ok (.d (.bl false))) G1) (hb : HE T n κ b σ G1 o G2) : HE T n κ (.BoolOp .Or [a, b] p) σ G o G2 := he_orF ha (he_one hb)
theorem he_ifT {e a b p o} (hc : HT T n κ e σ G true G1) (ha : HE T n κ a σ G1 o G2) : HE T n κ (.IfExp e a b p) σ G o G2 := by
  intro X c W tk
  refine PE.imp (pe_ifExp (hc X c) (ha X c W tk) (he_never X)) fun σv H Q ⟨ω, S, R, out⟩ => tT.mk S R fun ω1 H1 st1 S1 R1 => ?_
  rw [if_pos rfl]; exact tE.later S1 R1 st1 out
theorem he_ifF {e a b p o} (hc : HT T n κ e σ G false G1) (hb : HE T n κ b σ G1 o G2) : HE T n κ (.IfExp e a b p) σ G o G2 := by
  intro X c W tk
  refine PE.imp (pe_ifExp (hc X c) (he_never X) (hb X c W tk)) fun σv H Q ⟨ω, S, R, out⟩ => tT.mk S R fun ω1 H1 st1 S1 R1 => ?_
  rw [if_neg (by decide)]; exact tE.later S1 R1 st1 out
-- lists of expressions
theorem ha_nil : HA T n κ [] σ G (.ok []) G := fun X c W tk => PA.imp pa_nil fun σv H Q ⟨ω, S, R, k⟩ => k ω H [] (Stp.refl _ _) S rfl
theorem ha_cons {e es w ws} (he : HE T n κ e σ G (.ok w) G1) (h : HA T n κ es σ G1 (.ok ws) G2) (hs : ∀ env, starEach (e :: es) env = (false, eval e env) :: starEach es env) : HA T n κ (e :: es) σ G (.ok (w :: ws)) G2 := by
  intro X c W tk
  refine PA.imp (pa_cons (he X c W tk) (h X c W tk) (hs _)) fun σv H Q ⟨ω, S, R, out⟩ => tE.mk S R fun ω1 H1 v st1 S1 R1 r1 => tA.mk S1 R1 fun ω2 H2 vs st2 S2 R2 r2 => ?_
  exact out ω2 H2 _ (st1.trans st2) S2 ⟨v, vs, rfl, r1.mono st2.w, r2⟩
theorem pa_never {es : List Expr} (X : Cx) : PA X es fun _ _ _ => False := ⟨fun _ _ _ _ _ _ _ h => h.elim⟩
theorem ha_consX {e es cx l} (he : HE T n κ e σ G (.ex cx l) G1) (hs : ∀ env, starEach (e :: es) env = (false, eval e env) :: starEach es env) : HA T n κ (e :: es) σ G (.ex cx l) G1 := by
  intro X c W tk
  exact PA.imp (pa_cons (he X c W tk) (pa_never X) (hs _)) fun σv H Q ⟨ω, S, R, out⟩ => ⟨ω, S, R, out⟩
theorem ha_consY {e es w cx l} (he : HE T n κ e σ G (.ok w) G1) (h : HA T n κ es σ G1 (.ex cx l) G2) (hs : ∀ env, starEach (e :: es) env = (false, eval e env) :: starEach es env) : HA T n κ (e :: es) σ G (.ex cx l) G2 := by
  intro X c W tk
  exact PA.imp (pa_cons (he X c W tk) (h X c W tk) (hs _)) fun σv H Q ⟨ω, S, R, out⟩ => tE.mk S R fun ω1 H1 v st1 S1 R1 r1 => ⟨ω1, S1, R1, XOut.trans out st1⟩
theorem ho_none : HO T n κ none σ G none G := fun X c => PO.imp po_none fun σv H Q ⟨ω, S, R, k⟩ => k ω H (Stp.refl _ _) S
theorem ho_some {e i} (h : HE T n κ e σ G (.ok (.d (.int i))) G1) : HO T n κ (some e) σ G (some i) G1 := fun X c => PO.imp (po_some (h X c W0 (takes_f X))) fun σv H Q ⟨ω, S, R, k⟩ => tE.mk (W := W0) S R fun ω1 H1 v st1 S1 R1 r1 => by
  cases (show _ = _ from r1)
  exact ⟨i, rfl, k ω1 H1 st1 S1⟩
-- displays
theorem he_tup {es ws ds k p} (h : HA T n κ es σ G (.ok ws) G1) (e : ofSvs ws = some ds) (hk : ds.length ≤ sizeLine) : HE T n κ (.Tuple es k p) σ G (.ok (.d (.tup ds))) G1 := by
  intro X c W tk
  refine PE.imp (pe_tup (h X c W tk)) fun σv H Q ⟨ω, S, R, out⟩ => tA.mk S R fun ω1 H1 vs st1 S1 R1 r1 => ?_
  rw [ofSvs_eq e] at r1
  refine ⟨by rw [r1.length]; simpa using hk, fun p hp => ?_⟩
  exact (Out.trans out st1).new S1 hp fun φ h1 h2 => ⟨p, vs, rfl, SqT.of h1, r1.to.mono h2⟩
theorem hn_lst {es ws p} (h : HA T n κ es σ G (.ok ws) G1) (hk : ws.length ≤ sizeLine) : HN T n κ (.List es p) σ G (.lst ws) G1 := by
  intro X c
  refine PE.imp (pe_lst (h X c W0 (takes_f X))) fun σv H Q ⟨ω, S, R, out⟩ => tA.mk (W := W0) S R fun ω1 H1 vs st1 S1 R1 r1 => ?_
  exact ⟨by rw [r1.length]; exact hk, fun p hp => out ω1 H1 p _ st1 S1 hp ⟨vs, rfl, r1⟩⟩
theorem he_ofN {e ws ds} (h : HN T n κ e σ G (.lst ws) G1) (k : ofSvs ws = some ds) : HE T n κ e σ G (.ok (.d (.lst ds))) G1 := by
  intro X c W tk
  refine PE.imp (h X c) fun σv H Q ⟨ω, S, R, out⟩ => ⟨ω, S, R, fun ω1 H1 p o st1 S1 hp hm => ?_⟩
  obtain ⟨vs, rfl, r⟩ := hm
  rw [ofSvs_eq k] at r
  exact (Out.trans out st1).new S1 hp fun φ h1 h2 => ⟨p, vs, rfl, h1, r.to.mono h2⟩
theorem he_ofNd {e ws kvs} (h : HN T n κ e σ G (.dic ws) G1) (k : ofSvK ws = some kvs) : HE T n κ e σ G (.ok (.d (.dic kvs))) G1 := by
  intro X c W tk
  refine PE.imp (h X c) fun σv H Q ⟨ω, S, R, out⟩ => ⟨ω, S, R, fun ω1 H1 p o st1 S1 hp hm => ?_⟩
  obtain ⟨vs, rfl, r⟩ := hm
  rw [ofSvK_eq k] at r
  exact (Out.trans out st1).new S1 hp fun φ h1 h2 => ⟨p, vs, rfl, h1, r.to.mono h2⟩
theorem he_mut {e m} (h : HN T n κ e σ G m G1) : HE T n κ e σ G (.ok (.r G1.length)) (G1 ++ [m]) := by
  intro X c W tk
  refine PE.imp (h X c) fun σv H Q ⟨ω, S, R, out⟩ => ⟨ω, S, R, fun ω1 H1 p o st1 S1 hp hm => ?_⟩
  obtain ⟨S2, st2⟩ := store_new S1 hp hm
  refine out _ _ _ (st1.trans st2) S2 ⟨p, ?_, rfl⟩
  show (ω1.ρ ++ [p])[G1.length]? = some p
  rw [← S1.len]; simp
end
end Fx

end

section
set_option Elab.async false
set_option linter.all false
set_option maxRecDepth 100000
set_option maxHeartbeats 1000000
/-! Tests, chains, the built-in functions and methods, subscripts. -/
namespace Fx
open PySem L2 PyProof.Rows
/-- the type of a value, a class -/
def tyD (T : Ty) : D → Value
  | .non => .type "NoneType" | .bl _ => .type "bool" | .int _ => .type "int" | .str _ => .type "str" | .tup _ => .type "tuple" | .lst _ => .type "list" | .scr _ => .type "list"
  | .obj c _ => .ref (T.cA c) | .dic _ => .type "dict" | .fn _ => .type "function" | .clo _ => .type "function"
def kitV (T : Ty) : Tn → Value
  | .int => .type "int" | .bool => .type "bool" | .str => .type "str" | .tuple => .type "tuple" | .list => .type "list" | .dict => .type "dict" | .cls c => .ref (T.cA c)
/-- what is known of the module: the names, the classes -/
structure Fc (T : Ty) (τ : Tb) : Prop where
  fr : ∀ x, τ.fr x → T.mg x = none
  co : ∀ x d, τ.co x d → ∃ v u, T.mg x = some u ∧ RelV v u ∧ ∀ φ, Rel T φ d v
  fn : ∀ x f, τ.fn x f → T.mg x = some (.ref (T.fA f)) ∧ PySem.W.keepIn T.K (.ref (T.fA f)) = true
  cl : ∀ x c, τ.cl x c → T.mg x = some (.ref (T.cA c)) ∧ T.has c
  insc : ∀ c, T.has c → Cls T.K (T.cA c) ∧ PySem.W.findIn T.K (.ref (T.cA c)) "__class__" = some (some (.builtin "object.__class__")) ∧
    PySem.W.specialIn T.K (.builtin "object.__class__") "__get__" = some (some (.builtin "getset_descriptor.__get__")) ∧ PySem.W.takesIn T.K (.builtin "object.__class__") = some true ∧ PySem.W.mroIn T.K (T.cA c) (.type "object") = some true
  kit1 : ∀ c t l, T.has c → (∀ c', t = .cls c' → T.has c') → PySem.W.kitOne T.K (.ref (T.cA c)) (kitV T t) = some (isiD t (.obj c l))
  kit2 : ∀ c n, T.has c → n ∈ ["NoneType", "bool", "int", "str", "tuple", "list", "dict"] → PySem.W.kitOne T.K (.type n) (.ref (T.cA c)) = some false
  noat : ∀ c (f : Fl), T.has c → NoAttr T.K (T.cA c) f.s
  met : ∀ c m f, T.has c → mtb c m = some f → Meth T.K (T.cA c) m.s (T.fA f)
section
variable {T : Ty}
def Tops (T : Ty) (φ H : Hp) : List D → List V → Prop
  | [], vs => vs = []
  | d :: l, vs => ∃ v r, vs = v :: r ∧ Top T φ H d v ∧ Tops T φ H l r
theorem views_top {ω : Wd} {H : Hp} {G : Gs} (S : Sim T ω H G) : ∀ {ws : List Sv} {ds : List D} {vs : List V}, views G ws = some ds → RelWs T ω ws vs → Tops T ω.φ H ds vs
  | [], ds, vs, h, r => by
    have : ds = [] := by simpa [views] using h.symm
    subst this; exact r
  | w :: l, ds, vs, h, ⟨v, r, e, r1, r2⟩ => by
    subst e
    cases h1 : view G w with
    | none => simp [views, h1] at h
    | some d =>
      cases h2 : views G l with
      | none => simp [views, h1, h2] at h
      | some m =>
        have : d :: m = ds := by simpa [views, h1, h2] using h
        subst this
        exact ⟨v, r, rfl, view_top S h1 r1, views_top S h2 r2⟩
theorem tops0 {φ H : Hp} {vs : List V} (h : Tops T φ H [] vs) : vs = [] := h
theorem tops1 {φ H : Hp} {d : D} {vs : List V} (h : Tops T φ H [d] vs) : ∃ v, vs = [v] ∧ Top T φ H d v := by
  obtain ⟨v, r, e, h1, h2⟩ := h
  cases tops0 h2
  exact ⟨v, e, h1⟩
theorem tops2 {φ H : Hp} {d e : D} {vs : List V} (h : Tops T φ H [d, e] vs) : ∃ v u, vs = [v, u] ∧ Top T φ H d v ∧ Top T φ H e u := by
  obtain ⟨v, r, e, h1, h2⟩ := h
  obtain ⟨u, rfl, h3⟩ := tops1 h2
  exact ⟨v, u, e, h1, h3⟩
/-- the reading of a builtin's call -/
def rPr (T : Ty) (p : Pr) : List V → Hp → VK → Prop := fun vs H Q => ∃ ω G ds d, Sim T ω H G ∧ Tops T ω.φ H ds vs ∧ prim p ds = some d ∧ okP p ds ∧ Out T ω H G (.d d) Q
def rPn (T : Ty) (p : Pn) : List V → Hp → VK → Prop := fun vs H Q => ∃ ω G ds m, Sim T ω H G ∧ Tops T ω.φ H ds vs ∧ primN p ds = some m ∧ okPN p ds ∧
  ∀ p us, H p = none → Rels T ω.φ m us → Q (.ref p) (upd H p (.lst us))
theorem blsOf_eq : ∀ {l : List D} {b : List Bool}, blsOf l = some b → l = b.map .bl
  | [], b, h => by
    have : b = [] := by simpa [blsOf] using h.symm
    subst this; rfl
  | .bl x :: l, b, h => by
    cases e : blsOf l with
    | none => simp [blsOf, e] at h
    | some m =>
      have : x :: m = b := by simpa [blsOf, e] using h
      subst this
      rw [blsOf_eq e]; rfl
  | .non :: _, _, h => by simp [blsOf] at h
  | .int _ :: _, _, h => by simp [blsOf] at h
  | .str _ :: _, _, h => by simp [blsOf] at h
  | .tup _ :: _, _, h => by simp [blsOf] at h
  | .lst _ :: _, _, h => by simp [blsOf] at h
  | .scr _ :: _, _, h => by simp [blsOf] at h
  | .obj _ _ :: _, _, h => by simp [blsOf] at h
  | .dic _ :: _, _, h => by simp [blsOf] at h
  | .fn _ :: _, _, h => by simp [blsOf] at h
theorem intsOf_eq : ∀ {l : List D} {b : List Int}, intsOf l = some b → l = b.map .int
  | [], b, h => by
    have : b = [] := by simpa [intsOf] using h.symm
    subst this; rfl
  | .int x :: l, b, h => by
    cases e : intsOf l with
    | none => simp [intsOf, e] at h
    | some m =>
      have : x :: m = b := by simpa [intsOf, e] using h
      subst this
      rw [intsOf_eq e]; rfl
  | .non :: _, _, h => by simp [intsOf] at h
  | .bl _ :: _, _, h => by simp [intsOf] at h
  | .str _ :: _, _, h => by simp [intsOf] at h
  | .tup _ :: _, _, h => by simp [intsOf] at h
  | .lst _ :: _, _, h => by simp [intsOf] at h
  | .scr _ :: _, _, h => by simp [intsOf] at h
  | .obj _ _ :: _, _, h => by simp [intsOf] at h
  | .dic _ :: _, _, h => by simp [intsOf] at h
  | .fn _ :: _, _, h => by simp [intsOf] at h
theorem strsOf_eq : ∀ {l : List D} {b : List Str}, strsOf l = some b → l = b.map .str
  | [], b, h => by
    have : b = [] := by simpa [strsOf] using h.symm
    subst this; rfl
  | .str x :: l, b, h => by
    cases e : strsOf l with
    | none => simp [strsOf, e] at h
    | some m =>
      have : x :: m = b := by simpa [strsOf, e] using h
      subst this
      rw [strsOf_eq e]; rfl
  | .non :: _, _, h => by simp [strsOf] at h
  | .bl _ :: _, _, h => by simp [strsOf] at h
  | .int _ :: _, _, h => by simp [strsOf] at h
  | .tup _ :: _, _, h => by simp [strsOf] at h
  | .lst _ :: _, _, h => by simp [strsOf] at h
  | .scr _ :: _, _, h => by simp [strsOf] at h
  | .obj _ _ :: _, _, h => by simp [strsOf] at h
  | .dic _ :: _, _, h => by simp [strsOf] at h
  | .fn _ :: _, _, h => by simp [strsOf] at h
theorem Rels.map_str {φ : Hp} : ∀ l : List Str, Rels T φ (l.map D.str) (l.map V.str) := Rels.strs
variable {X : Cx}
theorem cr_len (hK : X.K = T.K) : CallR X (.builtin "len") (rPr T .len) := by
  rintro pins s σ H xs us Q I rx ⟨ω, G, ds, d, S, tp, e, k, out⟩
  rcases ds with _ | ⟨z, _ | ⟨y, r⟩⟩
  · cases e
  · cases z with
    | str x =>
      obtain ⟨v, rfl, t⟩ := tops1 tp
      cases top_str t; cases e
      exact call_len_str pins s σ H _ us Q I rx ⟨x, rfl, k, out.here S rfl⟩
    | tup l =>
      obtain ⟨v, rfl, a, vs, rfl, sq, r⟩ := tops1 tp
      cases e
      refine call_len_seq pins s σ H _ us Q I rx ⟨a, vs, rfl, .inr (hK ▸ S.sub.sqt sq), ?_⟩
      rw [r.length]; exact out.here S rfl
    | lst l =>
      obtain ⟨v, rfl, a, vs, rfl, sq, r⟩ := tops1 tp
      cases e
      refine call_len_seq pins s σ H _ us Q I rx ⟨a, vs, rfl, .inl (SqL.of sq), ?_⟩
      rw [r.length]; exact out.here S rfl
    | scr l =>
      obtain ⟨v, rfl, a, rfl, sq⟩ := tops1 tp
      cases e
      refine call_len_seq pins s σ H _ us Q I rx ⟨a, _, rfl, .inl (hK ▸ S.sub.sql sq), ?_⟩
      rw [List.length_map]; exact out.here S rfl
    | _ => cases e
  · cases z <;> cases e
theorem cr_abs : CallR X (.builtin "abs") (rPr T .abs) := by
  rintro pins s σ H xs us Q I rx ⟨ω, G, ds, d, S, tp, e, k, out⟩
  rcases ds with _ | ⟨z, _ | ⟨y, r⟩⟩
  · cases e
  · cases z with
    | int x =>
      obtain ⟨v, rfl, t⟩ := tops1 tp
      cases top_int t; cases e
      exact call_abs pins s σ H _ us Q I rx ⟨x, rfl, out.here S rfl⟩
    | _ => cases e
  · cases z <;> cases e
theorem cr_intp : CallR X (.type "int") (rPr T .intp) := by
  rintro pins s σ H xs us Q I rx ⟨ω, G, ds, d, S, tp, e, k, out⟩
  rcases ds with _ | ⟨z, _ | ⟨y, r⟩⟩
  · cases e
  · cases z with
    | int x =>
      obtain ⟨v, rfl, t⟩ := tops1 tp
      cases top_int t; cases e
      exact call_int1 pins s σ H _ us Q I rx (.inl ⟨x, rfl, out.here S rfl⟩)
    | bl x =>
      obtain ⟨v, rfl, t⟩ := tops1 tp
      cases top_bl t; cases e
      exact call_int1 pins s σ H _ us Q I rx (.inr ⟨x, rfl, out.here S rfl⟩)
    | str x =>
      obtain ⟨v, rfl, t⟩ := tops1 tp
      cases top_str t
      cases q : PySem.intText? x with
      | none => simp [prim, q] at e
      | some i =>
        have : D.int i = d := by simpa [prim, q] using e
        subst this
        exact call_int_str pins s σ H _ us Q I rx ⟨x, i, rfl, q, k, out.here S rfl⟩
    | _ => cases e
  · cases z <;> cases e
theorem cr_strp : CallR X (.type "str") (rPr T .strp) := by
  rintro pins s σ H xs us Q I rx ⟨ω, G, ds, d, S, tp, e, k, out⟩
  rcases ds with _ | ⟨z, _ | ⟨y, r⟩⟩
  · cases e
  · cases z with
    | int x =>
      obtain ⟨v, rfl, t⟩ := tops1 tp
      cases top_int t; cases e
      exact call_str_int pins s σ H _ us Q I rx ⟨x, rfl, k, out.here S rfl⟩
    | _ => cases e
  · cases z <;> cases e
theorem cr_all_ (hc : X.calm = true) : CallR X (.builtin "all") (rPr T .all_) := by
  rintro pins s σ H xs us Q I rx ⟨ω, G, ds, d, S, tp, e, k, out⟩
  rcases ds with _ | ⟨z, _ | ⟨y, r⟩⟩
  · cases e
  · cases z with
    | lst l =>
      obtain ⟨v, rfl, a, vs, rfl, sq, r⟩ := tops1 tp
      cases q : blsOf l with
      | none => simp [prim, q] at e
      | some b =>
        have : D.bl (b.all id) = d := by simpa [prim, q] using e
        subst this
        rw [blsOf_eq q] at r
        exact cr_all hc pins s σ H _ us Q I rx ⟨a, b, rfl, by rw [← r.bls_eq]; exact SqL.of sq, out.here S rfl⟩
    | _ => cases e
  · cases z <;> cases e
theorem cr_any_ (hc : X.calm = true) : CallR X (.builtin "any") (rPr T .any_) := by
  rintro pins s σ H xs us Q I rx ⟨ω, G, ds, d, S, tp, e, k, out⟩
  rcases ds with _ | ⟨z, _ | ⟨y, r⟩⟩
  · cases e
  · cases z with
    | lst l =>
      obtain ⟨v, rfl, a, vs, rfl, sq, r⟩ := tops1 tp
      cases q : blsOf l with
      | none => simp [prim, q] at e
      | some b =>
        have : D.bl (b.any id) = d := by simpa [prim, q] using e
        subst this
        rw [blsOf_eq q] at r
        exact cr_any hc pins s σ H _ us Q I rx ⟨a, b, rfl, by rw [← r.bls_eq]; exact SqL.of sq, out.here S rfl⟩
    | _ => cases e
  · cases z <;> cases e
theorem cr_tuple (hK : X.K = T.K) : CallR X (.type "tuple") (rPr T .tuple_) := by
  rintro pins s σ H xs us Q I rx ⟨ω, G, ds, d, S, tp, e, k, out⟩
  rcases ds with _ | ⟨z, _ | ⟨y, r⟩⟩
  · cases e
  · cases z with
    | lst l =>
      obtain ⟨v, rfl, a, vs, rfl, sq, r⟩ := tops1 tp
      cases e
      exact call_tuple_of pins s σ H _ us Q I rx ⟨a, vs, rfl, .inl ⟨SqL.of sq, fun p hp => out.new S hp fun φ h1 h2 => ⟨p, vs, rfl, SqT.of h1, r.mono h2⟩⟩⟩
    | tup l =>
      obtain ⟨v, rfl, a, vs, rfl, sq, r⟩ := tops1 tp
      cases e
      exact call_tuple_of pins s σ H _ us Q I rx ⟨a, vs, rfl, .inr ⟨hK ▸ S.sub.sqt sq, out.here S ⟨a, vs, rfl, sq, r⟩⟩⟩
    | _ => cases e
  · cases z <;> cases e
theorem cr_max2 (hc : X.calm = true) : CallR X (.builtin "max") (rPr T .max2) := by
  rintro pins s σ H xs us Q I rx ⟨ω, G, ds, d, S, tp, e, k, out⟩
  rcases ds with _ | ⟨z, _ | ⟨y, _ | ⟨z2, r⟩⟩⟩
  · cases e
  · cases z <;> cases e
  · cases z with
    | int x =>
      cases y with
      | int y0 =>
        obtain ⟨v, u, rfl, t, t'⟩ := tops2 tp
        cases top_int t; cases top_int t'; cases e
        exact call_max2 hc pins s σ H _ us Q I rx ⟨x, y0, rfl, out.here S rfl⟩
      | _ => cases e
    | _ => cases e
  · cases z <;> first | cases e | (cases y <;> cases e)
theorem cr_min2 (hc : X.calm = true) : CallR X (.builtin "min") (rPr T .min2) := by
  rintro pins s σ H xs us Q I rx ⟨ω, G, ds, d, S, tp, e, k, out⟩
  rcases ds with _ | ⟨z, _ | ⟨y, _ | ⟨z2, r⟩⟩⟩
  · cases e
  · cases z <;> cases e
  · cases z with
    | int x =>
      cases y with
      | int y0 =>
        obtain ⟨v, u, rfl, t, t'⟩ := tops2 tp
        cases top_int t; cases top_int t'; cases e
        exact call_min2 hc pins s σ H _ us Q I rx ⟨x, y0, rfl, out.here S rfl⟩
      | _ => cases e
    | _ => cases e
  · cases z <;> first | cases e | (cases y <;> cases e)
theorem cr_sum_ (hc : X.calm = true) : CallR X (.builtin "sum") (rPr T .sum_) := by
  rintro pins s σ H xs us Q I rx ⟨ω, G, ds, d, S, tp, e, k, out⟩
  rcases ds with _ | ⟨z, _ | ⟨y, r⟩⟩
  · cases e
  · cases z with
    | lst l =>
      obtain ⟨v, rfl, a, vs, rfl, sq, r⟩ := tops1 tp
      cases q : intsOf l with
      | none => simp [prim, q] at e
      | some b =>
        have : D.int b.sum = d := by simpa [prim, q] using e
        subst this
        rw [intsOf_eq q] at r
        exact cr_sum hc pins s σ H _ us Q I rx ⟨a, b, rfl, by rw [← r.ints_eq]; exact SqL.of sq, out.here S rfl⟩
    | _ => cases e
  · cases z <;> cases e
theorem signs_vals {x : Str} : ∀ {us : List Value}, us.length = x.cps.size → (∀ (j : Nat) (v : Value), us[j]? = some v → ∃ (c : Nat) (u : Tok), x.cps[j]? = some c ∧ v = Value.str ⟨#[c]⟩ u) → Vals (x.cps.toList.map fun c => V.str ⟨#[c]⟩) us := by
  obtain ⟨⟨l⟩⟩ := x
  intro us
  induction l generalizing us with
  | nil =>
    intro h _
    cases us with
    | nil => exact .nil
    | cons _ _ => cases h
  | cons c l ih =>
    intro h k
    cases us with
    | nil => cases h
    | cons u us =>
      obtain ⟨c', t, e, rfl⟩ := k 0 u rfl
      have : c = c' := by simpa using e
      subst this
      refine .cons ⟨t, rfl⟩ (ih (by simpa using h) fun j v e => ?_)
      obtain ⟨c2, t2, e2, rfl⟩ := k (j + 1) v (by simpa using e)
      exact ⟨c2, t2, by simpa using e2, rfl⟩
theorem cr_list (hK : X.K = T.K) (hc : X.calm = true) : CallR X (.type "list") (rPn T .list_) := by
  rintro pins s σ H xs us Q I rx ⟨ω, G, ds, m, S, tp, e, k, out⟩
  rcases ds with _ | ⟨z, _ | ⟨y, r⟩⟩
  · cases e
  · cases z with
    | lst l =>
      obtain ⟨v, rfl, a, vs, rfl, sq, r⟩ := tops1 tp
      cases e
      exact call_list_of pins s σ H _ us Q I rx ⟨a, vs, rfl, .inl (SqL.of sq), fun p hp => out p vs hp r⟩
    | tup l =>
      obtain ⟨v, rfl, a, vs, rfl, sq, r⟩ := tops1 tp
      cases e
      exact call_list_of pins s σ H _ us Q I rx ⟨a, vs, rfl, .inr (hK ▸ S.sub.sqt sq), fun p hp => out p vs hp r⟩
    | scr l =>
      obtain ⟨v, rfl, a, rfl, sq⟩ := tops1 tp
      cases e
      exact call_list_of pins s σ H _ us Q I rx ⟨a, _, rfl, .inl (hK ▸ S.sub.sql sq), fun p hp => out p _ hp (Rels.ints l)⟩
    | str x =>
      obtain ⟨v, rfl, t⟩ := tops1 tp
      cases top_str t; cases e
      obtain ⟨u, rfl, tk, rfl⟩ := vals1 rx
      refine call_list_str (I.ok.hd hc) x tk (hn := k) fun h' tk' acc c' hk hS hacc => ?_
      have hv : Vals (x.cps.toList.map fun c => V.str ⟨#[c]⟩) acc.toList := by
        refine signs_vals ?_ fun j v e => hacc.2 j v (by rw [← Array.getElem?_toList]; exact e)
        rw [Array.length_toList]; exact hacc.1
      refine ⟨.ref s.heap.objs.size, upd H s.heap.objs.size (.lst (x.cps.toList.map fun c => V.str ⟨#[c]⟩)), I.laid (t' := tk') hk (Nat.le_refl _)
        (show ObjOk X.prog X.w _ _ _ (.lst (x.cps.toList.map fun c => V.str ⟨#[c]⟩)) from ⟨by rw [List.length_map, Array.length_toList]; exact k, acc.toList, c', hv, by rw [Array.toArray_toList]; exact hS⟩), rfl, ?_⟩
      refine out _ _ (I.hok.fresh (Nat.le_refl _)) ?_
      have := Rels.strs (T := T) (φ := ω.φ) (x.cps.toList.map fun c => (⟨#[c]⟩ : Str))
      simpa [Function.comp_def] using this
    | _ => cases e
  · cases z <;> cases e
end
end Fx

end

section
set_option Elab.async false
set_option linter.all false
set_option maxRecDepth 100000
set_option maxHeartbeats 1000000
/-! Tests, chains, calls of built-ins, methods, subscripts, slices, fields. -/
namespace Fx
open PySem L2 PyProof.Rows
/-- a method's reading -/
abbrev rMt (r : List V → Hp → VK → Prop) : V → List V → Hp → VK → Prop := fun x xs H Q => r (x :: xs) H Q
section
variable {T : Ty} {τ : Tb} {n : Nat} {κ : Kx} {σ : Sg} {G G1 G2 G3 : Gs}
/-! ### tests -/
theorem tru_v {K : PySem.W.Frag} {φ H : Hp} (hK : K = T.K) (hs : Le φ H) {d : D} {b : Bool} {v : V} (t : tru d = some b) (k : truOk d) (r : Top T φ H d v) : TruV K v H b := by
  cases d with
  | non => cases top_non r; exact (Option.some.inj t).symm
  | bl x => cases top_bl r; exact (Option.some.inj t).symm
  | int x => cases top_int r; exact (Option.some.inj t).symm
  | str x => cases top_str r; exact ⟨k, (Option.some.inj t).symm⟩
  | tup l =>
    obtain ⟨a, vs, rfl, sq, r⟩ := r
    refine .inr (.inl ⟨vs, hK ▸ hs.sqt sq, (Option.some.inj t).symm.trans ?_⟩)
    have := r.length
    cases l <;> cases vs <;> first | rfl | simp at this
  | lst l =>
    obtain ⟨a, vs, rfl, sq, r⟩ := r
    refine .inl ⟨vs, SqL.of sq, (Option.some.inj t).symm.trans ?_⟩
    have := r.length
    cases l <;> cases vs <;> first | rfl | simp at this
  | _ => cases t
theorem ht_tru {e w d b} (h : HE T n κ e σ G (.ok w) G1) (ht : ∀ env whole, isTrue e env whole = (do let v ← whole; standAt e.pos; holding [v] (truthy v))) (v : view G1 w = some d) (t : tru d = some b) (k : truOk d) : HT T n κ e σ G b G1 := by
  intro X c
  refine PT.imp (pt_truth (h X c W0 (takes_f X)) (ht _)) fun σv H Q ⟨ω, S, R, out⟩ => tE.mk (W := W0) S R fun ω1 H1 v1 st1 S1 R1 r1 => ?_
  exact ⟨b, tru_v c.K S1.sub t k (view_top S1 v r1), out ω1 H1 st1 S1⟩
theorem ht_nt {a p b} (h : HT T n κ a σ G b G1) : HT T n κ (.UnaryOp .Not a p) σ G (!b) G1 := fun X c =>
  PT.imp (pt_not (h X c)) fun σv H Q ⟨ω, S, R, out⟩ => tT.mk S R fun ω1 H1 st1 S1 R1 => out ω1 H1 st1 S1
def HTW (T : Ty) (n : Nat) (κ : Kx) (e : Expr) (σ : Sg) (G : Gs) (b : Bool) (G' : Gs) : Prop := ∀ X, Cok T n κ X → PW X e (tT T σ G b G')
theorem HTW.ht {e b} (h : HTW T n κ e σ G b G1) : HT T n κ e σ G b G1 := fun X c => (h X c).pt
theorem pw_never {e : Expr} (X : Cx) : PW X e fun _ _ _ => False := ⟨fun _ _ _ _ _ _ _ h => h.elim⟩
theorem htw_andT {a b r p z} (ha : HT T n κ a σ G true G1) (hb : HTW T n κ (.BoolOp .And (b :: r) p) σ G1 z G2) : HTW T n κ (.BoolOp .And (a :: b :: r) p) σ G z G2 := by
  intro X c
  refine PW.imp (pw_and (ha X c) (hb X c)) fun σv H Q ⟨ω, S, R, out⟩ => tT.mk S R fun ω1 H1 st1 S1 R1 => ?_
  rw [if_pos rfl]
  exact ⟨ω1, S1, R1, fun ω2 H2 st2 S2 => out ω2 H2 (st1.trans st2) S2⟩
theorem htw_andF {a b r p} (ha : HT T n κ a σ G false G1) : HTW T n κ (.BoolOp .And (a :: b :: r) p) σ G false G1 := by
  intro X c
  refine PW.imp (pw_and (ha X c) (pw_never X)) fun σv H Q ⟨ω, S, R, out⟩ => tT.mk S R fun ω1 H1 st1 S1 R1 => ?_
  rw [if_neg (by decide)]
  exact out ω1 H1 st1 S1
theorem htw_orF {a b r p z} (ha : HT T n κ a σ G false G1) (hb : HTW T n κ (.BoolOp .Or (b :: r) p) σ G1 z G2) : HTW T n κ (.BoolOp .Or (a :: b :: r) p) σ G z G2 := by
  intro X c
  refine PW.imp (pw_or (ha X c) (hb X c)) fun σv H Q ⟨ω, S, R, out⟩ => tT.mk S R fun ω1 H1 st1 S1 R1 => ?_
  rw [if_neg (by decide)]
  exact ⟨ω1, S1, R1, fun ω2 H2 st2 S2 => out ω2 H2 (st1.trans st2) S2⟩
theorem htw_orT {a b r p} (ha : HT T n κ a σ G true G1) : HTW T n κ (.BoolOp .Or (a :: b :: r) p) σ G true G1 := by
  intro X c
  refine PW.imp (pw_or (ha X c) (pw_never X)) fun σv H Q ⟨ω, S, R, out⟩ => tT.mk S R fun ω1 H1 st1 S1 R1 => ?_
  rw [if_pos rfl]
  exact out ω1 H1 st1 S1
theorem htw_and1 {a p z} (ha : HT T n κ a σ G z G1) : HTW T n κ (.BoolOp .And [a] p) σ G z G1 := fun X c => pw_and1 (ha X c)
theorem htw_or1 {a p z} (ha : HT T n κ a σ G z G1) : HTW T n κ (.BoolOp .Or [a] p) σ G z G1 := fun X c => pw_or1 (ha X c)
/-! ### chains -/
section
variable {X : Cx} {op op' : CmpOp} {o o' : Bo} {a b e : Expr} {p : Pos} {x y z : Sv} {dx dy dz d : D}
theorem he_chainT (ho : cmOf op = some o) (ho' : cmOf op' = some o') (ha : HE T n κ a σ G (.ok x) G1) (hb : HE T n κ b σ G1 (.ok y) G2) (hc : HE T n κ e σ G2 (.ok z) G3) (hm : lastMarks [op, op'] [b, e] = false)
    (v1 : view G2 x = some dx) (v2 : view G2 y = some dy) (e1 : bo o dx dy = some (.bl true)) (k1 : okB o dx dy) (v2' : view G3 y = some dy) (v3 : view G3 z = some dz) (e2 : bo o' dy dz = some d) (k2 : okB o' dy dz) :
    HE T n κ (.Compare a [op, op'] [b, e] p) σ G (.ok (.d d)) G3 := by
  intro X c W tk
  refine PE.imp (pe_chain (op_cm (T := T) ho c.room.units) (op_cm (T := T) ho' c.room.units) (ha X c W tk) (hb X c W tk) (hc X c W tk) hm) fun σv H Q ⟨ω, S, R, out⟩ => ?_
  refine tE.mk S R fun ω1 H1 v st1 S1 R1 r1 => tE.mk S1 R1 fun ω2 H2 u st2 S2 R2 r2 => ⟨c.K, ω2, G2, dx, dy, _, S2, view_top S2 v1 (r1.mono st2.w), view_top S2 v2 r2, e1, k1, fun ω3 H3 v3' st3 S3 r3 => ?_⟩
  cases (show _ = _ from r3)
  refine ⟨true, rfl, ?_⟩
  rw [if_pos rfl]
  refine tE.mk S3 (R2.mono st3.w) fun ω4 H4 v4 st4 S4 R4 r4 => ⟨c.K, ω4, G3, dy, dz, d, S4, view_top S4 v2' ((r2.mono st3.w).mono st4.w), view_top S4 v3 r4, e2, k2, Out.trans out (((st1.trans st2).trans st3).trans st4)⟩
theorem he_chainF (ho : cmOf op = some o) (ho' : cmOf op' = some o') (ha : HE T n κ a σ G (.ok x) G1) (hb : HE T n κ b σ G1 (.ok y) G2) (hm : lastMarks [op, op'] [b, e] = false)
    (v1 : view G2 x = some dx) (v2 : view G2 y = some dy) (e1 : bo o dx dy = some (.bl false)) (k1 : okB o dx dy) :
    HE T n κ (.Compare a [op, op'] [b, e] p) σ G (.ok (.d (.bl false))) G2 := by
  intro X c W tk
  refine PE.imp (pe_chain (op_cm (T := T) ho c.room.units) (op_cm (T := T) ho' c.room.units) (ha X c W tk) (hb X c W tk) (he_never X) hm) fun σv H Q ⟨ω, S, R, out⟩ => ?_
  refine tE.mk S R fun ω1 H1 v st1 S1 R1 r1 => tE.mk S1 R1 fun ω2 H2 u st2 S2 R2 r2 => ⟨c.K, ω2, G2, dx, dy, _, S2, view_top S2 v1 (r1.mono st2.w), view_top S2 v2 r2, e1, k1, fun ω3 H3 v3' st3 S3 r3 => ?_⟩
  cases (show _ = _ from r3)
  refine ⟨false, rfl, ?_⟩
  rw [if_neg (by decide)]
  exact out ω3 H3 _ ((st1.trans st2).trans st3) S3 rfl
theorem ht_chainT {z' : Bool} (ho : cmOf op = some o) (ho' : cmOf op' = some o') (ha : HE T n κ a σ G (.ok x) G1) (hb : HE T n κ b σ G1 (.ok y) G2) (hc : HE T n κ e σ G2 (.ok z) G3) (hm : lastMarks [op, op'] [b, e] = false)
    (v1 : view G2 x = some dx) (v2 : view G2 y = some dy) (e1 : bo o dx dy = some (.bl true)) (k1 : okB o dx dy) (v2' : view G3 y = some dy) (v3 : view G3 z = some dz) (e2 : bo o' dy dz = some (.bl z')) (k2 : okB o' dy dz) :
    HT T n κ (.Compare a [op, op'] [b, e] p) σ G z' G3 := by
  intro X c
  have tk := takes_f X
  refine PT.imp (pt_chain (op_cm (T := T) ho c.room.units) (op_cm (T := T) ho' c.room.units) (ha X c W0 tk) (hb X c W0 tk) (hc X c W0 tk) hm) fun σv H Q ⟨ω, S, R, out⟩ => ?_
  refine tE.mk (W := W0) S R fun ω1 H1 v st1 S1 R1 r1 => tE.mk (W := W0) S1 R1 fun ω2 H2 u st2 S2 R2 r2 => ⟨c.K, ω2, G2, dx, dy, _, S2, view_top S2 v1 (r1.mono st2.w), view_top S2 v2 r2, e1, k1, fun ω3 H3 v3' st3 S3 r3 => ?_⟩
  cases (show _ = _ from r3)
  refine ⟨true, rfl, ?_⟩
  rw [if_pos rfl]
  refine tE.mk (W := W0) S3 (R2.mono st3.w) fun ω4 H4 v4 st4 S4 R4 r4 => ⟨c.K, ω4, G3, dy, dz, _, S4, view_top S4 v2' ((r2.mono st3.w).mono st4.w), view_top S4 v3 r4, e2, k2, fun ω5 H5 v5 st5 S5 r5 => ?_⟩
  cases (show _ = _ from r5)
  exact ⟨z', rfl, out ω5 H5 ((((st1.trans st2).trans st3).trans st4).trans st5) S5⟩
theorem ht_chainF (ho : cmOf op = some o) (ho' : cmOf op' = some o') (ha : HE T n κ a σ G (.ok x) G1) (hb : HE T n κ b σ G1 (.ok y) G2) (hm : lastMarks [op, op'] [b, e] = false)
    (v1 : view G2 x = some dx) (v2 : view G2 y = some dy) (e1 : bo o dx dy = some (.bl false)) (k1 : okB o dx dy) :
    HT T n κ (.Compare a [op, op'] [b, e] p) σ G false G2 := by
  intro X c
  have tk := takes_f X
  refine PT.imp (pt_chain (op_cm (T := T) ho c.room.units) (op_cm (T := T) ho' c.room.units) (ha X c W0 tk) (hb X c W0 tk) (he_never X) hm) fun σv H Q ⟨ω, S, R, out⟩ => ?_
  refine tE.mk (W := W0) S R fun ω1 H1 v st1 S1 R1 r1 => tE.mk (W := W0) S1 R1 fun ω2 H2 u st2 S2 R2 r2 => ⟨c.K, ω2, G2, dx, dy, _, S2, view_top S2 v1 (r1.mono st2.w), view_top S2 v2 r2, e1, k1, fun ω3 H3 v3' st3 S3 r3 => ?_⟩
  cases (show _ = _ from r3)
  refine ⟨false, rfl, ?_⟩
  rw [if_neg (by decide)]
  exact ⟨false, rfl, out ω3 H3 ((st1.trans st2).trans st3) S3⟩
end
/-! ### the argument lists are plain -/
theorem ErA.plain {es : List Expr} {l : List CE} (h : ErA τ κ es l) : ∀ (pos : Pos) (env : Env), (backTo pos (starEach es env)).any (·.1) = false := by
  induction es generalizing l with
  | nil => intro pos env; rfl
  | cons e es ih =>
    cases h with
    | cons he h hs =>
      intro pos env
      rw [hs]
      exact ih h pos env
theorem ErA.none {es : List Expr} {l : List CE} (h : ErA τ κ es l) : ∀ (pos : Pos) (env : Env), (backTo pos (starEach es env)).all (fun x => !x.1) = true := by
  induction es generalizing l with
  | nil => intro pos env; rfl
  | cons e es ih =>
    cases h with
    | cons he h hs =>
      intro pos env
      rw [hs]
      exact ih h pos env
theorem ErA.head {e : Expr} {es : List Expr} {l : List CE} (h : ErA τ κ (e :: es) l) : ∀ env, starEach (e :: es) env = (false, eval e env) :: starEach es env := by
  cases h with
  | cons _ _ hs => exact hs
theorem ErA.tl {e : Expr} {es : List Expr} {l : List CE} (h : ErA τ κ (e :: es) l) : ∃ l', ErA τ κ es l' := by
  cases h with
  | cons _ h _ => exact ⟨_, h⟩
theorem ErA.len {es : List Expr} : ∀ {l : List CE}, ErA τ κ es l → es.length = l.length := by
  induction es with
  | nil => intro l h; cases h; rfl
  | cons e es ih => intro l h; cases h with
    | cons _ h _ => simp [ih h]
/-! ### built-in functions -/
variable {x : Str} {e : Expr} {es : List Expr} {q p : Pos} {j : Nat} {ws : List Sv}
theorem he_callP {pr : Pr} {ds : List D} {d : D} {id : String} (F : Fc T τ) (hx : κ.gl[j]? = some x) (hf : τ.fr x) (hr : ∀ X, Cok T n κ X → CallR X (.builtin id) (rPr T pr)) (hv : bootBuiltins x = some (.builtin id)) {l : List CE} (el : ErA τ κ (e :: es) l)
    (h : HA T n κ (e :: es) σ G (.ok ws) G1) (v : views G1 ws = some ds) (eq : prim pr ds = some d) (k : okP pr ds) : HE T n κ (.Call (.Name x q) (e :: es) [] p) σ G (.ok (.d d)) G1 := by
  intro X c W tk
  obtain ⟨d1, _, d3⟩ := nameOk_d (c.ok.gl j x hx).2
  obtain ⟨l', el'⟩ := el.tl
  refine PE.imp (pe_callB (hr X c) (c.gl hx) (c.mg ▸ F.fr x hf) hv (h X c W tk) d3 d1 (el.head _) (el'.plain _ _)) fun σv H Q ⟨ω, S, R, out⟩ => tA.mk S R fun ω1 H1 vs st1 S1 R1 r1 => ?_
  exact ⟨ω1, G1, ds, d, S1, views_top S1 v r1, eq, k, Out.trans out st1⟩
theorem he_callTy {pr : Pr} {ds : List D} {d : D} {id : String} (F : Fc T τ) (hx : κ.gl[j]? = some x) (hf : τ.fr x) (hr : ∀ X, Cok T n κ X → CallR X (.type id) (rPr T pr)) (hv : bootBuiltins x = some (.type id)) {l : List CE} (el : ErA τ κ (e :: es) l)
    (h : HA T n κ (e :: es) σ G (.ok ws) G1) (v : views G1 ws = some ds) (eq : prim pr ds = some d) (k : okP pr ds) : HE T n κ (.Call (.Name x q) (e :: es) [] p) σ G (.ok (.d d)) G1 := by
  intro X c W tk
  obtain ⟨d1, _, d3⟩ := nameOk_d (c.ok.gl j x hx).2
  obtain ⟨l', el'⟩ := el.tl
  refine PE.imp (pe_callTy (hr X c) (c.gl hx) (c.mg ▸ F.fr x hf) hv (h X c W tk) d3 d1 (el.head _) (el'.plain _ _)) fun σv H Q ⟨ω, S, R, out⟩ => tA.mk S R fun ω1 H1 vs st1 S1 R1 r1 => ?_
  exact ⟨ω1, G1, ds, d, S1, views_top S1 v r1, eq, k, Out.trans out st1⟩
theorem hn_callTy {pr : Pn} {ds m : List D} {id : String} (F : Fc T τ) (hx : κ.gl[j]? = some x) (hf : τ.fr x) (hr : ∀ X, Cok T n κ X → CallR X (.type id) (rPn T pr)) (hv : bootBuiltins x = some (.type id)) {l : List CE} (el : ErA τ κ (e :: es) l)
    (h : HA T n κ (e :: es) σ G (.ok ws) G1) (v : views G1 ws = some ds) (eq : primN pr ds = some m) (k : okPN pr ds) : HN T n κ (.Call (.Name x q) (e :: es) [] p) σ G (.lst (m.map .d)) G1 := by
  intro X c
  obtain ⟨d1, _, d3⟩ := nameOk_d (c.ok.gl j x hx).2
  obtain ⟨l', el'⟩ := el.tl
  refine PE.imp (pe_callTy (hr X c) (c.gl hx) (c.mg ▸ F.fr x hf) hv (h X c W0 (takes_f X)) d3 d1 (el.head _) (el'.plain _ _)) fun σv H Q ⟨ω, S, R, out⟩ => tA.mk (W := W0) S R fun ω1 H1 vs st1 S1 R1 r1 => ?_
  exact ⟨ω1, G1, ds, m, S1, views_top S1 v r1, eq, k, fun p us hp r => out ω1 H1 p _ st1 S1 hp ⟨us, rfl, RelWs.of r⟩⟩
theorem he_prim {pr : Pr} {m : Nat} {ds : List D} {d : D} (F : Fc T τ) (hx : κ.gl[j]? = some x) (hf : τ.fr x) (hp : PrB x pr m) {l : List CE} (el : ErA τ κ (e :: es) l)
    (h : HA T n κ (e :: es) σ G (.ok ws) G1) (v : views G1 ws = some ds) (eq : prim pr ds = some d) (k : okP pr ds) : HE T n κ (.Call (.Name x q) (e :: es) [] p) σ G (.ok (.d d)) G1 := by
  cases hp with
  | len => exact he_callP F hx hf (fun X c => cr_len c.K) (by rfl) el h v eq k
  | abs => exact he_callP F hx hf (fun X c => cr_abs) (by rfl) el h v eq k
  | int => exact he_callTy F hx hf (fun X c => cr_intp) (by rfl) el h v eq k
  | str => exact he_callTy F hx hf (fun X c => cr_strp) (by rfl) el h v eq k
  | all => exact he_callP F hx hf (fun X c => cr_all_ c.calm) (by rfl) el h v eq k
  | any => exact he_callP F hx hf (fun X c => cr_any_ c.calm) (by rfl) el h v eq k
  | tuple => exact he_callTy F hx hf (fun X c => cr_tuple c.K) (by rfl) el h v eq k
  | max2 => exact he_callP F hx hf (fun X c => cr_max2 c.calm) (by rfl) el h v eq k
  | min2 => exact he_callP F hx hf (fun X c => cr_min2 c.calm) (by rfl) el h v eq k
  | sum => exact he_callP F hx hf (fun X c => cr_sum_ c.calm) (by rfl) el h v eq k
theorem hn_prim {pr : Pn} {m : Nat} {ds ms : List D} (F : Fc T τ) (hx : κ.gl[j]? = some x) (hf : τ.fr x) (hp : PnB x pr m) {l : List CE} (el : ErA τ κ (e :: es) l)
    (h : HA T n κ (e :: es) σ G (.ok ws) G1) (v : views G1 ws = some ds) (eq : primN pr ds = some ms) (k : okPN pr ds) : HN T n κ (.Call (.Name x q) (e :: es) [] p) σ G (.lst (ms.map .d)) G1 := by
  cases hp with
  | list => exact hn_callTy F hx hf (fun X c => cr_list c.K c.calm) (by rfl) el h v eq k
end
end Fx

end

section
set_option Elab.async false
set_option linter.all false
set_option maxRecDepth 100000
set_option maxHeartbeats 1000000
/-! Methods, subscripts, slices, fields, isinstance. -/
namespace Fx
open PySem L2 PyProof.Rows
section
variable {T : Ty} {τ : Tb} {n : Nat} {κ : Kx} {σ : Sg} {G G1 G2 G3 : Gs} {X : Cx}
/-! ### methods of texts and dicts -/
theorem tops_cons {φ H : Hp} {d : D} {l : List D} {v : V} {vs : List V} (h : Tops T φ H (d :: l) (v :: vs)) : Top T φ H d v ∧ Tops T φ H l vs := by
  obtain ⟨v', r, e, h1, h2⟩ := h
  cases e
  exact ⟨h1, h2⟩
theorem mt2 {id : String} {pr : Pr} (h : ∀ (a b : D), prim pr [a, b] ≠ none → okP pr [a, b] → ∀ (pins : List (Addr × Obj)) (s : Shared) (σ : L2.St) (H : Hp) (x y : V) (v u : Value) (Q : VK) ω G, Inv X pins σ H s → RelV x v → RelV y u → Sim T ω H G → Top T ω.φ H a x → Top T ω.φ H b y →
      (∀ d, prim pr [a, b] = some d → Out T ω H G (.d d) Q) → wpAny (model X.prog X.w) X.A (call (.builtin id) [v, u]) (EP X pins σ Q) X.xe s)
    (hn : ∀ ds, ds.length ≠ 2 → prim pr ds = none) : MtR X id (rMt (rPr T pr)) := by
  rintro pins s σ H x xs v us Q I rx rxs ⟨ω, G, ds, d, S, tp, e, k, out⟩
  rcases ds with _ | ⟨a, _ | ⟨b, _ | ⟨c, r⟩⟩⟩
  · rw [hn [] (by simp)] at e; cases e
  · rw [hn [a] (by simp)] at e; cases e
  · obtain ⟨v1, v2, ev, t1, t2⟩ := tops2 tp
    cases ev
    obtain ⟨u, rfl, ru⟩ := vals1 rxs
    exact h a b (by rw [e]; simp) k pins s σ H _ _ v u Q ω G I rx ru S t1 t2 fun d' e' => by
      rw [e] at e'; cases e'; exact out
  · rw [hn (a :: b :: c :: r) (by simp)] at e; cases e
theorem m_startsw : MtR X "str.startswith" (rMt (rPr T .startsw)) := by
  refine mt2 (fun a b e k pins s σ H x y v u Q ω G I rx ry S ta tb out => ?_) fun ds h => by rcases ds with _ | ⟨a, _ | ⟨b, _ | ⟨c, r⟩⟩⟩ <;> first | rfl | (cases a <;> first | rfl | (cases b <;> rfl)) | exact absurd rfl h
  cases a <;> first | exact absurd rfl e | skip
  cases b <;> first | exact absurd rfl e | skip
  cases top_str ta; cases top_str tb
  exact mt_startswith pins s σ H _ _ v [u] Q I rx (.cons ry .nil) ⟨_, _, rfl, rfl, (out _ rfl).here S rfl⟩
theorem m_endsw : MtR X "str.endswith" (rMt (rPr T .endsw)) := by
  refine mt2 (fun a b e k pins s σ H x y v u Q ω G I rx ry S ta tb out => ?_) fun ds h => by rcases ds with _ | ⟨a, _ | ⟨b, _ | ⟨c, r⟩⟩⟩ <;> first | rfl | (cases a <;> first | rfl | (cases b <;> rfl)) | exact absurd rfl h
  cases a <;> first | exact absurd rfl e | skip
  cases b <;> first | exact absurd rfl e | skip
  cases top_str ta; cases top_str tb
  exact mt_endswith pins s σ H _ _ v [u] Q I rx (.cons ry .nil) ⟨_, _, rfl, rfl, (out _ rfl).here S rfl⟩
theorem m_partition : MtR X "str.partition" (rMt (rPr T .partition)) := by
  refine mt2 (fun a b e k pins s σ H x y v u Q ω G I rx ry S ta tb out => ?_) fun ds h => by rcases ds with _ | ⟨a, _ | ⟨b, _ | ⟨c, r⟩⟩⟩ <;> first | rfl | (cases a <;> first | rfl | (cases b <;> rfl)) | exact absurd rfl h
  cases a <;> first | exact absurd rfl e | skip
  cases b <;> first | exact absurd rfl e | skip
  cases top_str ta; cases top_str tb
  refine mt_partition pins s σ H _ _ v [u] Q I rx (.cons ry .nil) ⟨_, _, rfl, rfl, k.1, k.2, fun p hp => ?_⟩
  exact (out _ rfl).new S hp fun φ h1 h2 => ⟨p, _, rfl, SqT.of h1, _, _, rfl, rfl, _, _, rfl, rfl, _, _, rfl, rfl, rfl⟩
theorem m_zfill : MtR X "str.zfill" (rMt (rPr T .zfill)) := by
  refine mt2 (fun a b e k pins s σ H x y v u Q ω G I rx ry S ta tb out => ?_) fun ds h => by rcases ds with _ | ⟨a, _ | ⟨b, _ | ⟨c, r⟩⟩⟩ <;> first | rfl | (cases a <;> first | rfl | (cases b <;> rfl)) | exact absurd rfl h
  cases a <;> first | exact absurd rfl e | skip
  cases b <;> first | exact absurd rfl e | skip
  cases top_str ta; cases top_int tb
  exact mt_zfill pins s σ H _ _ v [u] Q I rx (.cons ry .nil) ⟨_, _, rfl, rfl, k, (out _ rfl).here S rfl⟩
theorem m_join (hK : X.K = T.K) : MtR X "str.join" (rMt (rPr T .join)) := by
  refine mt2 (fun a b e k pins s σ H x y v u Q ω G I rx ry S ta tb out => ?_) fun ds h => by rcases ds with _ | ⟨a, _ | ⟨b, _ | ⟨c, r⟩⟩⟩ <;> first | rfl | (cases a <;> first | rfl | (cases b <;> rfl)) | exact absurd rfl h
  cases a <;> first | exact absurd rfl e | skip
  rename_i x0
  cases b <;> first | exact absurd rfl e | skip
  · rename_i l
    cases top_str ta
    obtain ⟨p, vs, rfl, sq, r⟩ := tb
    cases q : strsOf l with
    | none => exact absurd (by show (strsOf l).map _ = none; rw [q]; rfl) e
    | some bs =>
      rw [strsOf_eq q] at r
      have hk := k bs q
      refine mt_join pins s σ H _ _ v [u] Q I rx (.cons ry .nil) ⟨_, p, bs, rfl, rfl, .inr (by rw [← r.strs_eq]; exact hK ▸ S.sub.sqt sq), hk, (out (.str (Txt.join x0 bs)) ?_).here S rfl⟩
      show (strsOf l).map _ = _; rw [q]; rfl
  · rename_i l
    cases top_str ta
    obtain ⟨p, vs, rfl, sq, r⟩ := tb
    cases q : strsOf l with
    | none => exact absurd (by show (strsOf l).map _ = none; rw [q]; rfl) e
    | some bs =>
      rw [strsOf_eq q] at r
      have hk := k bs q
      refine mt_join pins s σ H _ _ v [u] Q I rx (.cons ry .nil) ⟨_, p, bs, rfl, rfl, .inl (by rw [← r.strs_eq]; exact SqL.of sq), hk, (out (.str (Txt.join x0 bs)) ?_).here S rfl⟩
      show (strsOf l).map _ = _; rw [q]; rfl
theorem m_strip1 : MtR X "str.strip" (rMt (rPr T .strip1)) := by
  refine mt2 (fun a b e k pins s σ H x y v u Q ω G I rx ry S ta tb out => ?_) fun ds h => by rcases ds with _ | ⟨a, _ | ⟨b, _ | ⟨c, r⟩⟩⟩ <;> first | rfl | (cases a <;> first | rfl | (cases b <;> rfl)) | exact absurd rfl h
  cases a <;> first | exact absurd rfl e | skip
  cases b <;> first | exact absurd rfl e | skip
  cases top_str ta; cases top_str tb
  exact mt_stripChars pins s σ H _ _ v [u] Q I rx (.cons ry .nil) ⟨_, _, rfl, rfl, k, (out _ rfl).here S rfl⟩
theorem m_lstrip1 : MtR X "str.lstrip" (rMt (rPr T .lstrip1)) := by
  refine mt2 (fun a b e k pins s σ H x y v u Q ω G I rx ry S ta tb out => ?_) fun ds h => by rcases ds with _ | ⟨a, _ | ⟨b, _ | ⟨c, r⟩⟩⟩ <;> first | rfl | (cases a <;> first | rfl | (cases b <;> rfl)) | exact absurd rfl h
  cases a <;> first | exact absurd rfl e | skip
  cases b <;> first | exact absurd rfl e | skip
  cases top_str ta; cases top_str tb
  exact mt_lstripChars pins s σ H _ _ v [u] Q I rx (.cons ry .nil) ⟨_, _, rfl, rfl, k, (out _ rfl).here S rfl⟩
theorem m_rstrip1 : MtR X "str.rstrip" (rMt (rPr T .rstrip1)) := by
  refine mt2 (fun a b e k pins s σ H x y v u Q ω G I rx ry S ta tb out => ?_) fun ds h => by rcases ds with _ | ⟨a, _ | ⟨b, _ | ⟨c, r⟩⟩⟩ <;> first | rfl | (cases a <;> first | rfl | (cases b <;> rfl)) | exact absurd rfl h
  cases a <;> first | exact absurd rfl e | skip
  cases b <;> first | exact absurd rfl e | skip
  cases top_str ta; cases top_str tb
  exact mt_rstripChars pins s σ H _ _ v [u] Q I rx (.cons ry .nil) ⟨_, _, rfl, rfl, k, (out _ rfl).here S rfl⟩
/-- a dict's value at a key -/
theorem key_val {φ : Hp} {k : Key} : ∀ {l : List (Key × D)} {vs : List (Key × V)}, RelK T φ l vs → match (l.find? fun p => decide (p.1 = k)).map (·.2) with
    | some d => ∃ v, valV vs k = some v ∧ Rel T φ d v
    | none => valV vs k = none
  | [], _, r => by cases (show _ = _ from r); rfl
  | (g, d) :: l, _, ⟨v, r, e, r1, r2⟩ => by
    subst e
    by_cases c : g = k
    · subst c
      have e1 : (((g, d) :: l).find? fun p => decide (p.1 = g)) = some (g, d) := by simp
      rw [e1]
      exact ⟨v, by simp [valV], r1⟩
    · have e1 : (((g, d) :: l).find? fun p => decide (p.1 = k)) = l.find? fun p => decide (p.1 = k) := by simp [c]
      have e2 : valV ((g, v) :: r) k = valV r k := by simp [valV, c]
      have ih := key_val (k := k) r2
      rw [e1, e2]
      exact ih
theorem keyOf_v {φ H : Hp} {d : D} {k : Key} {v : V} (h : keyOf d = some k) (r : Top T φ H d v) : v = kV k := by
  cases d <;> first | cases h | skip
  · cases top_int r; rfl
  · cases top_str r; rfl
theorem m_get1 (hu : X.A.units + 64 < cLine) : MtR X "dict.get" (rMt (rPr T .get1)) := by
  refine mt2 (fun a b e k pins s σ H x y v u Q ω G I rx ry S ta tb out => ?_) fun ds h => by rcases ds with _ | ⟨a, _ | ⟨b, _ | ⟨c, r⟩⟩⟩ <;> first | rfl | (cases a <;> first | rfl | (cases b <;> rfl)) | exact absurd rfl h
  cases a <;> first | exact absurd rfl e | skip
  rename_i l
  obtain ⟨p, vs, rfl, sq, r⟩ := ta
  obtain rfl : v = Value.ref p := rx
  cases q : keyOf b with
  | none => exact absurd (by show (keyOf b).map _ = none; rw [q]; rfl) e
  | some key =>
    cases keyOf_v q tb
    have kv := key_val (k := key) r
    have eo : prim .get1 [.dic l, b] = some (((l.find? fun p => decide (p.1 = key)).map (·.2)).getD .non) := by show (keyOf b).map _ = _; rw [q]; rfl
    have out := out _ eo
    cases c : (l.find? fun p => decide (p.1 = key)).map (·.2) with
    | none =>
      rw [c] at kv out
      refine d_get1 (by omega) I (o := none) (.inl ⟨vs, key, .inl sq, rfl, kv.symm⟩) ry fun w' s3 I3 rw' => ⟨.non, H, I3, rw', out.here S rfl⟩
    | some d =>
      rw [c] at kv out
      obtain ⟨v0, e0, r0⟩ := kv
      refine d_get1 (by omega) I (o := some v0) (.inl ⟨vs, key, .inl sq, rfl, e0.symm⟩) ry fun w' s3 I3 rw' => ⟨v0, H, I3, rw', out.here S r0⟩
theorem m_get2 (hu : X.A.units + 64 < cLine) : MtR X "dict.get" (rMt (rPr T .get2)) := by
  rintro pins s σ H x xs v us Q I rx rxs ⟨ω, G, ds, d, S, tp, e, k, out⟩
  rcases ds with _ | ⟨a, _ | ⟨b, _ | ⟨c, _ | ⟨d', r⟩⟩⟩⟩
  · cases e
  · cases a <;> cases e
  · cases a <;> cases e
  · cases a <;> first | cases e | skip
    rename_i l
    obtain ⟨t1, tp⟩ := tops_cons tp
    obtain ⟨vb, vc, rfl, tb, tc⟩ := tops2 tp
    obtain ⟨p, vs, rfl, sq, r⟩ := t1
    obtain rfl : v = Value.ref p := rx
    obtain ⟨u1, u2, rfl, ru1, ru2⟩ := vals2 rxs
    cases q : keyOf b with
    | none => have : prim .get2 [.dic l, b, c] = none := (by show (keyOf b).map _ = none; rw [q]; rfl)
              rw [this] at e; cases e
    | some key =>
      cases keyOf_v q tb
      have kv := key_val (k := key) r
      have eo : prim .get2 [.dic l, b, c] = some (((l.find? fun p => decide (p.1 = key)).map (·.2)).getD c) := by show (keyOf b).map _ = _; rw [q]; rfl
      rw [eo] at e
      cases e
      cases z : (l.find? fun p => decide (p.1 = key)).map (·.2) with
      | none =>
        rw [z] at kv out
        refine d_get2 (by omega) I (o := none) (.inl ⟨vs, key, .inl sq, rfl, kv.symm⟩) ru1 ru2 fun w' s3 I3 rw' => ⟨vc, H, I3, rw', ?_⟩
        have k : notLD c = true := k
        cases c <;> first | exact out.here S tc | cases k
      | some d =>
        rw [z] at kv out
        obtain ⟨v0, e0, r0⟩ := kv
        refine d_get2 (by omega) I (o := some v0) (.inl ⟨vs, key, .inl sq, rfl, e0.symm⟩) ru1 ru2 fun w' s3 I3 rw' => ⟨v0, H, I3, rw', out.here S r0⟩
  · cases a <;> first | cases e | (cases b <;> cases e)
end
end Fx

end

section
set_option Elab.async false
set_option linter.all false
set_option maxRecDepth 100000
set_option maxHeartbeats 1000000
/-! Method calls, subscripts, slices, fields, isinstance. -/
namespace Fx
open PySem L2 PyProof.Rows
section
variable {T : Ty} {τ : Tb} {n : Nat} {κ : Kx} {σ : Sg} {G G1 G2 G3 : Gs}
variable {x : Str} {o e : Expr} {es : List Expr} {ap p : Pos} {w : Sv} {ws : List Sv} {d0 : D} {ds : List D}
/-- the call of a text's or dict's method -/
theorem he_mt {Ty : String} {pr : Pr} {d : D} {id : String} {m : Nat} {l : List CE} (pa : PlainAttrs Ty) (slot : Slot Ty x id) (hty : typeOf (.builtin id) = pure (.type "method_descriptor")) (hr : ∀ X, Cok T n κ X → MtR X id (rMt (rPr T pr)))
    (ht : ∀ X, Cok T n κ X → ∀ φ H v, Top T φ H d0 v → tyV X.K Ty v H)
    (ho : HE T n κ o σ G (.ok w) G1) (v0 : view G1 w = some d0) (h : HA T n κ (e :: es) σ G1 (.ok ws) G2) (el : ErA τ κ (e :: es) l) (hl : (e :: es).length < 20) (hb : ∀ env, attributeBase o x env (eval o env) = eval o env) (hln : (ap.endLine == p.line) = true)
    (v : views G2 (w :: ws) = some ds) (eq : prim pr ds = some d) (k : okP pr ds) : HE T n κ (.Call (.Attribute o x ap) (e :: es) [] p) σ G (.ok (.d d)) G2 := by
  intro X c W tk
  obtain ⟨l', el'⟩ := el.tl
  refine PE.imp (pe_bm pa slot hty (hr X c) (ho X c W tk) (h X c W tk) (hb _) ?_ hln (el.head _) (el'.plain _ _)) fun σv H Q ⟨ω, S, R, out⟩ => ?_
  · rw [el.none]
    show (true && true && decide ((e :: es).length + 0 + 0 < 30)) = true
    have : (e :: es).length + 0 + 0 < 30 := by omega
    rw [decide_eq_true this]; rfl
  · refine tE.mk S R fun ω1 H1 v1 st1 S1 R1 r1 => ⟨ht X c _ _ _ (view_top S1 v0 r1), tA.mk S1 R1 fun ω2 H2 vs st2 S2 R2 r2 => ⟨ω2, G2, ds, d, S2, views_top S2 v ⟨v1, vs, rfl, r1.mono st2.w, r2⟩, eq, k, Out.trans out (st1.trans st2)⟩⟩
theorem ty_str {X : Cx} {φ H : Hp} {v : V} (h : isStr d0 = true) (r : Top T φ H d0 v) : tyV X.K "str" v H := by
  cases d0 <;> first | cases h | skip
  cases top_str r; rfl
theorem ty_dic {X : Cx} {φ H : Hp} {v : V} {l : List (Key × D)} (r : Top T φ H (.dic l) v) : tyV X.K "dict" v H := by
  obtain ⟨a, vs, rfl, sq, r⟩ := r
  exact .inr (.inr (.inl ⟨rfl, .inl ⟨vs, sq⟩⟩))
theorem he_primM {pr : Pr} {d : D} {m : Nat} {l : List CE} (hp : PrM x pr m) (hn : (e :: es).length = m)
    (ho : HE T n κ o σ G (.ok w) G1) (v0 : view G1 w = some d0) (k0 : recvD pr d0 = true) (h : HA T n κ (e :: es) σ G1 (.ok ws) G2) (el : ErA τ κ (e :: es) l) (hb : ∀ env, attributeBase o x env (eval o env) = eval o env) (hln : (ap.endLine == p.line) = true)
    (v : views G2 (w :: ws) = some ds) (eq : prim pr ds = some d) (k : okP pr ds) : HE T n κ (.Call (.Attribute o x ap) (e :: es) [] p) σ G (.ok (.d d)) G2 := by
  have st : ∀ pr', recvD pr' d0 = true → (∀ d, recvD pr' d = isStr d) → ∀ X, Cok T n κ X → ∀ φ H v, Top T φ H d0 v → tyV X.K "str" v H := fun pr' h1 h2 X c φ H v r => ty_str ((h2 d0).symm.trans h1) r
  have dc : ∀ pr', recvD pr' d0 = true → (∀ d, recvD pr' d = true → ∃ l, d = .dic l) → ∀ X, Cok T n κ X → ∀ φ H v, Top T φ H d0 v → tyV X.K "dict" v H := fun pr' h1 h2 X c φ H v r => by
    obtain ⟨l, e⟩ := h2 d0 h1
    subst e
    exact ty_dic r
  cases hp with
  | startsw => exact he_mt (m := 1) F.plainAttrs_str F.slot_str_startswith F.type_str_startswith (fun X c => m_startsw) (st _ k0 fun d => by cases d <;> rfl) ho v0 h el (by omega) hb hln v eq k
  | endsw => exact he_mt (m := 1) F.plainAttrs_str F.slot_str_endswith F.type_str_endswith (fun X c => m_endsw) (st _ k0 fun d => by cases d <;> rfl) ho v0 h el (by omega) hb hln v eq k
  | partition => exact he_mt (m := 1) F.plainAttrs_str F.slot_str_partition F.type_str_partition (fun X c => m_partition) (st _ k0 fun d => by cases d <;> rfl) ho v0 h el (by omega) hb hln v eq k
  | zfill => exact he_mt (m := 1) F.plainAttrs_str F.slot_str_zfill F.type_str_zfill (fun X c => m_zfill) (st _ k0 fun d => by cases d <;> rfl) ho v0 h el (by omega) hb hln v eq k
  | join => exact he_mt (m := 1) F.plainAttrs_str F.slot_str_join F.type_str_join (fun X c => m_join c.K) (st _ k0 fun d => by cases d <;> rfl) ho v0 h el (by omega) hb hln v eq k
  | strip1 => exact he_mt (m := 1) F.plainAttrs_str F.slot_str_strip F.type_str_strip (fun X c => m_strip1) (st _ k0 fun d => by cases d <;> rfl) ho v0 h el (by omega) hb hln v eq k
  | lstrip1 => exact he_mt (m := 1) F.plainAttrs_str F.slot_str_lstrip F.type_str_lstrip (fun X c => m_lstrip1) (st _ k0 fun d => by cases d <;> rfl) ho v0 h el (by omega) hb hln v eq k
  | rstrip1 => exact he_mt (m := 1) F.plainAttrs_str F.slot_str_rstrip F.type_str_rstrip (fun X c => m_rstrip1) (st _ k0 fun d => by cases d <;> rfl) ho v0 h el (by omega) hb hln v eq k
  | get1 => exact he_mt (m := 1) F.plainAttrs_dict F.slot_dict_get F.type_dict_get (fun X c => m_get1 c.room.units) (dc _ k0 fun d h => by cases d <;> first | exact ⟨_, rfl⟩ | cases h) ho v0 h el (by omega) hb hln v eq k
  | get2 => exact he_mt (m := 2) F.plainAttrs_dict F.slot_dict_get F.type_dict_get (fun X c => m_get2 c.room.units) (dc _ k0 fun d h => by cases d <;> first | exact ⟨_, rfl⟩ | cases h) ho v0 h el (by omega) hb hln v eq k
theorem m_split1 {X : Cx} : MtR X "str.split" (rMt (rPn T .split1)) := by
  rintro pins s σ H x xs v us Q I rx rxs ⟨ω, G, ds, m, S, tp, e, k, out⟩
  rcases ds with _ | ⟨a, _ | ⟨b, _ | ⟨c, r⟩⟩⟩
  · cases e
  · cases a <;> cases e
  · cases a <;> first | cases e | skip
    cases b <;> first | cases e | skip
    obtain ⟨v1, v2, ev, t1, t2⟩ := tops2 tp
    cases ev
    cases top_str t1; cases top_str t2
    refine mt_split pins s σ H _ _ v us Q I rx rxs ⟨_, _, rfl, rfl, k.1, k.2, fun p hp => ?_⟩
    exact out p _ hp (Rels.strs _)
  · cases a <;> first | cases e | (cases b <;> cases e)
theorem hn_primM {pr : Pn} {ms : List D} {m : Nat} {l : List CE} (hp : PnM x pr m) (hn : (e :: es).length = m)
    (ho : HE T n κ o σ G (.ok w) G1) (v0 : view G1 w = some d0) (k0 : isStr d0 = true) (h : HA T n κ (e :: es) σ G1 (.ok ws) G2) (el : ErA τ κ (e :: es) l) (hb : ∀ env, attributeBase o x env (eval o env) = eval o env) (hln : (ap.endLine == p.line) = true)
    (v : views G2 (w :: ws) = some ds) (eq : primN pr ds = some ms) (k : okPN pr ds) : HN T n κ (.Call (.Attribute o x ap) (e :: es) [] p) σ G (.lst (ms.map .d)) G2 := by
  cases hp with
  | split1 =>
    intro X c
    obtain ⟨l', el'⟩ := el.tl
    refine PE.imp (pe_bm F.plainAttrs_str F.slot_str_split F.type_str_split (m_split1 (T := T)) (ho X c W0 (takes_f X)) (h X c W0 (takes_f X)) (hb _) ?_ hln (el.head _) (el'.plain _ _)) fun σv H Q ⟨ω, S, R, out⟩ => ?_
    · rw [el.none]
      show (true && true && decide ((e :: es).length + 0 + 0 < 30)) = true
      have : (e :: es).length + 0 + 0 < 30 := by omega
      rw [decide_eq_true this]; rfl
    · refine tE.mk (W := W0) S R fun ω1 H1 v1 st1 S1 R1 r1 => ⟨ty_str k0 (view_top S1 v0 r1), tA.mk (W := W0) S1 R1 fun ω2 H2 vs st2 S2 R2 r2 => ⟨ω2, G2, ds, ms, S2, views_top S2 v ⟨v1, vs, rfl, r1.mono st2.w, r2⟩, eq, k, fun p us hp r => out ω2 H2 p _ (st1.trans st2) S2 hp ⟨us, rfl, RelWs.of r⟩⟩⟩
/-! ### subscripts -/
theorem RelWs.atI {ω : Wd} {l : List Sv} {vs : List V} {i : Int} {w : Sv} (r : RelWs T ω l vs) (h : L2.atI l i = some w) : ∃ v, L2.atI vs i = some v ∧ RelW T ω w v := by
  unfold L2.atI at h ⊢
  rw [r.length]
  cases c : ixN l.length i with
  | none => rw [c] at h; cases h
  | some j =>
    rw [c] at h
    obtain ⟨v, e, q⟩ := r.get (show l[j]? = some w from h)
    exact ⟨v, e, q⟩
theorem Rels.atI {φ : Hp} {l : List D} {vs : List V} {i : Int} {w : D} (r : Rels T φ l vs) (h : L2.atI l i = some w) : ∃ v, L2.atI vs i = some v ∧ Rel T φ w v := by
  unfold L2.atI at h ⊢
  rw [r.length]
  cases c : ixN l.length i with
  | none => rw [c] at h; cases h
  | some j =>
    rw [c] at h
    obtain ⟨v, e, q⟩ := r.get (show l[j]? = some w from h)
    exact ⟨v, e, q⟩
theorem RelWK.find {ω : Wd} {k : Key} {w : Sv} : ∀ {l : List (Key × Sv)} {vs : List (Key × V)}, RelWK T ω l vs → (l.find? fun p => decide (p.1 = k)).map (·.2) = some w → ∃ v, valV vs k = some v ∧ RelW T ω w v
  | [], _, _, h => by simp at h
  | (g, d) :: l, _, ⟨v, r, e, r1, r2⟩, h => by
    subst e
    by_cases c : g = k
    · subst c
      have : d = w := by simpa using h
      subst this
      exact ⟨v, by simp [valV], r1⟩
    · have e1 : (((g, d) :: l).find? fun p => decide (p.1 = k)) = l.find? fun p => decide (p.1 = k) := by simp [c]
      have e2 : valV ((g, v) :: r) k = valV r k := by simp [valV, c]
      rw [e1] at h
      rw [e2]
      exact RelWK.find r2 h
/-- the reading of a subscript -/
def rSub (T : Ty) : R2 := fun x y H Q => ∃ ω G w di u, Sim T ω H G ∧ RelW T ω w x ∧ Top T ω.φ H di y ∧ subG G w di = some u ∧ (∀ d, w = .d d → subOk d) ∧ Out T ω H G u Q
theorem ix_dic {X : Cx} (hu : X.A.units + 64 < cLine) : IxR X (fun x y H Q => ∃ p kvs k v, x = .ref p ∧ y = kV k ∧ H p = some (.dK kvs) ∧ valV kvs k = some v ∧ Q v H) := by
  intro value slice pins s σ H x y v u Q I rx ry ⟨p, kvs, k, z, e1, e2, hp, hv, q⟩ hs
  subst e1 e2
  obtain rfl : v = Value.ref p := rx
  have g : DGet H p (kV k) (some z) := .inl ⟨kvs, k, .inl hp, rfl, hv.symm⟩
  exact tail_any (dict_typeIs I g) slot_dict_getitem.lookup (d_getItem (by omega) I g ry fun w' s3 I3 rw' => ⟨z, H, I3, rw', q⟩) hs
theorem ix_sub {X : Cx} (hK : X.K = T.K) (hu : X.A.units + 64 < cLine) : IxR X (rSub T) := by
  intro value slice pins s σ H x y v u Q I rx ry ⟨ω, G, w, di, r, S, rw', ti, eq, k, out⟩ hs
  cases w with
  | d d =>
    have k := k d rfl
    cases d with
    | tup l =>
      cases di <;> first | cases eq | skip
      rename_i i
      cases top_int ti
      obtain ⟨a, vs, rfl, sq, rl⟩ := rw'
      cases c : L2.atI l i with
      | none => simp [subG, subD, c] at eq
      | some z =>
        have : Sv.d z = r := by simpa [subG, subD, c] using eq
        subst this
        obtain ⟨z', e', rz⟩ := rl.atI c
        exact ix_tup value slice pins s σ H _ _ v u Q I rx ry ⟨a, vs, i, z', rfl, rfl, hK ▸ S.sub.sqt sq, e', out.here S rz⟩ hs
    | lst l =>
      cases di <;> first | cases eq | skip
      rename_i i
      cases top_int ti
      obtain ⟨a, vs, rfl, sq, rl⟩ := rw'
      cases c : L2.atI l i with
      | none => simp [subG, subD, c] at eq
      | some z =>
        have : Sv.d z = r := by simpa [subG, subD, c] using eq
        subst this
        obtain ⟨z', e', rz⟩ := rl.atI c
        exact ix_list value slice pins s σ H _ _ v u Q I rx ry ⟨a, vs, i, z', rfl, rfl, SqL.of (S.sub _ _ sq), e', out.here S rz⟩ hs
    | scr l =>
      cases di <;> first | cases eq | skip
      rename_i i
      cases top_int ti
      obtain ⟨a, rfl, sq⟩ := rw'
      cases c : L2.atI l i with
      | none => simp [subG, subD, c] at eq
      | some z =>
        have : Sv.d (.int z) = r := by simpa [subG, subD, c] using eq
        subst this
        have c' : L2.atI (l.map D.int) i = some (.int z) := by
          unfold L2.atI at c ⊢
          rw [List.length_map]
          cases c2 : ixN l.length i with
          | none => rw [c2] at c; cases c
          | some j =>
            rw [c2] at c
            show (l.map D.int)[j]? = _
            have c : l[j]? = some z := c
            rw [List.getElem?_map, c]; rfl
        obtain ⟨z', e', rz⟩ := (Rels.ints (T := T) (φ := ω.φ) l).atI c'
        exact ix_list value slice pins s σ H _ _ v u Q I rx ry ⟨a, _, i, z', rfl, rfl, hK ▸ S.sub.sql sq, e', out.here S rz⟩ hs
    | str z =>
      cases di <;> first | cases eq | skip
      rename_i i
      cases top_int ti
      cases (show _ = _ from rw')
      cases c : L2.atI z.cps.toList i with
      | none => simp [subG, subD, c] at eq
      | some y =>
        have : Sv.d (.str ⟨#[y]⟩) = r := by simpa [subG, subD, c] using eq
        subst this
        exact ix_str value slice pins s σ H _ _ v u Q I rx ry ⟨z, i, y, rfl, rfl, k, c, out.here S rfl⟩ hs
    | dic l =>
      obtain ⟨a, vs, rfl, sq, rl⟩ := rw'
      have go : ∀ key : Key, y = kV key → (((l.find? fun p => decide (p.1 = key)).map (·.2)).map Sv.d) = some r → wpAny (model X.prog X.w) X.A (subscriptTail value slice v u) (EP X pins σ Q) X.xe s := by
        intro key ey eq'
        have kv := key_val (k := key) rl
        cases c : (l.find? fun p => decide (p.1 = key)).map (·.2) with
        | none => rw [c] at eq'; cases eq'
        | some z =>
          rw [c] at eq' kv
          cases eq'
          obtain ⟨v0, e0, r0⟩ := kv
          exact ix_dic hu value slice pins s σ H _ _ v u Q I rx ry ⟨a, vs, key, v0, rfl, ey, S.sub _ _ sq, e0, out.here S r0⟩ hs
      cases di <;> first | cases eq | skip
      · cases top_int ti; exact go (.inl _) rfl eq
      · cases top_str ti; exact go (.inr _) rfl eq
    | _ => cases di <;> cases eq
  | r j =>
    obtain ⟨a, ha, rfl⟩ := rw'
    cases c : G[j]? with
    | none => cases di <;> simp [subG, c] at eq
    | some m =>
      cases m with
      | lst l =>
        cases di <;> first | (simp [subG, c] at eq; done) | skip
        rename_i i
        cases top_int ti
        have eq' : L2.atI l i = some r := by simpa [subG, c] using eq
        rcases S.at_ j _ a c ha with q | ⟨_, ob, hob, vs, rfl, rv⟩
        · cases q
        · obtain ⟨z', e', rz⟩ := rv.atI eq'
          exact ix_list value slice pins s σ H _ _ v u Q I rx ry ⟨a, vs, i, z', rfl, rfl, SqL.of hob, e', out ω H z' (Stp.refl _ _) S rz⟩ hs
      | dic l =>
        rcases S.at_ j _ a c ha with q | ⟨_, ob, hob, vs, rfl, rv⟩
        · cases q
        · cases di <;> first | (simp [subG, c] at eq; done) | skip
          · rename_i i
            cases top_int ti
            have eq' : (l.find? fun p => decide (p.1 = Sum.inl i)).map (·.2) = some r := by simpa [subG, c] using eq
            obtain ⟨z', e', rz⟩ := rv.find eq'
            exact ix_dic hu value slice pins s σ H _ _ v u Q I rx ry ⟨a, vs, .inl i, z', rfl, rfl, hob, e', out ω H z' (Stp.refl _ _) S rz⟩ hs
          · rename_i i
            cases top_str ti
            have eq' : (l.find? fun p => decide (p.1 = Sum.inr i)).map (·.2) = some r := by simpa [subG, c] using eq
            obtain ⟨z', e', rz⟩ := rv.find eq'
            exact ix_dic hu value slice pins s σ H _ _ v u Q I rx ry ⟨a, vs, .inr i, z', rfl, rfl, hob, e', out ω H z' (Stp.refl _ _) S rz⟩ hs
      | ins c' l => cases di <;> simp [subG, c] at eq
      | gone => cases di <;> simp [subG, c] at eq
theorem he_sub {a b : Expr} {u r : Sv} {di : D} (ha : HE T n κ a σ G (.ok w) G1) (hb : HE T n κ b σ G1 (.ok u) G2) (vi : view G2 u = some di) (eq : subG G2 w di = some r) (k : ∀ d, w = .d d → subOk d) (hs : ∀ o i, subscripted b false o i = operate [o, i] (getItem o i)) :
    HE T n κ (.Subscript a b p) σ G (.ok r) G2 := by
  intro X c W tk
  refine PE.imp (pe_ix (ix_sub (T := T) c.K c.room.units) (ha X c W tk) (hb X c W tk) hs) fun σv H Q ⟨ω, S, R, out⟩ => ?_
  exact tE.mk S R fun ω1 H1 v st1 S1 R1 r1 => tE.mk S1 R1 fun ω2 H2 u2 st2 S2 R2 r2 => ⟨ω2, G2, w, di, r, S2, r1.mono st2.w, view_top S2 vi r2, eq, k, Out.trans out (st1.trans st2)⟩
/-! ### slices -/
def rSlc (T : Ty) : V → Option Int → Option Int → Hp → VK → Prop := fun x lo hi H Q => ∃ ω G d r, Sim T ω H G ∧ Top T ω.φ H d x ∧ slcD d lo hi = some r ∧ subOk d ∧ Out T ω H G (.d r) Q
def rSlcN (T : Ty) : V → Option Int → Option Int → Hp → VK → Prop := fun x lo hi H Q => ∃ ω G d m, Sim T ω H G ∧ Top T ω.φ H d x ∧ slcN d lo hi = some m ∧ ∀ p us, H p = none → Rels T ω.φ m us → Q (.ref p) (upd H p (.lst us))
theorem Rels.cut {φ : Hp} {l : List D} {vs : List V} (r : Rels T φ l vs) (lo hi : Option Int) : Rels T φ (cutD l lo hi) (cutV vs lo hi) := by
  unfold cutD cutV
  rw [r.length]
  exact (r.drop _).take _
theorem sl_slc {X : Cx} (hK : X.K = T.K) : SlR X (rSlc T) := by
  rintro pins s σ H x v vl vu lo hi sl Q I rx hsl pl pu ⟨ω, G, d, r, S, t, e, k, out⟩
  cases d <;> first | cases e | skip
  · cases top_str t
    exact sl_str pins s σ H _ v vl vu lo hi sl Q I rx hsl pl pu ⟨_, rfl, k, out.here S rfl⟩
  · obtain ⟨a, vs, rfl, sq, rl⟩ := t
    refine sl_tupA pins s σ H _ v vl vu lo hi sl Q I rx hsl pl pu ⟨a, vs, rfl, hK ▸ S.sub.sqt sq, fun hw => ?_, fun _ p hp => ?_⟩
    · have hc := rl.cut lo hi
      rename_i l
      have : cutV vs lo hi = vs := by
        unfold cutV
        rw [hw.1, hw.2]; simp
      rw [this] at hc
      exact out.here S ⟨a, vs, rfl, sq, hc⟩
    · exact out.new S hp fun φ h1 h2 => ⟨p, _, rfl, SqT.of h1, (rl.cut lo hi).mono h2⟩
theorem sl_slcN {X : Cx} (hK : X.K = T.K) : SlR X (rSlcN T) := by
  rintro pins s σ H x v vl vu lo hi sl Q I rx hsl pl pu ⟨ω, G, d, m, S, t, e, out⟩
  cases d <;> first | cases e | skip
  · obtain ⟨a, vs, rfl, sq, rl⟩ := t
    exact sl_list pins s σ H _ v vl vu lo hi sl Q I rx hsl pl pu ⟨a, vs, rfl, SqL.of sq, fun p hp => out p _ hp (rl.cut lo hi)⟩
  · obtain ⟨a, rfl, sq⟩ := t
    refine sl_list pins s σ H _ v vl vu lo hi sl Q I rx hsl pl pu ⟨a, _, rfl, hK ▸ S.sub.sql sq, fun p hp => out p _ hp ?_⟩
    rename_i l
    have := (Rels.ints (T := T) (φ := ω.φ) l).cut lo hi
    have e2 : cutD (l.map D.int) lo hi = (cutD l lo hi).map .int := by
      unfold cutD
      rw [List.length_map, List.map_take, List.map_drop]
    rw [e2] at this
    exact this
theorem he_slc {a : Expr} {lo hi : Option Expr} {q : Pos} {vl vh : Option Int} {d r : D} (ha : HE T n κ a σ G (.ok w) G1) (hl : HO T n κ lo σ G1 vl G2) (hh : HO T n κ hi σ G2 vh G3) (v : view G3 w = some d) (eq : slcD d vl vh = some r) (k : subOk d) :
    HE T n κ (.Subscript a (.Slice lo hi none q) p) σ G (.ok (.d r)) G3 := by
  intro X c W tk
  refine PE.imp (pe_slice (sl_slc (T := T) c.K) (ha X c W tk) (hl X c) (hh X c)) fun σv H Q ⟨ω, S, R, out⟩ => ?_
  exact tE.mk S R fun ω1 H1 v1 st1 S1 R1 r1 => tOI.mk S1 R1 fun ω2 H2 st2 S2 R2 => tOI.mk S2 R2 fun ω3 H3 st3 S3 R3 => ⟨ω3, G3, d, r, S3, view_top S3 v ((r1.mono st2.w).mono st3.w), eq, k, Out.trans out ((st1.trans st2).trans st3)⟩
theorem hn_slc {a : Expr} {lo hi : Option Expr} {q : Pos} {vl vh : Option Int} {d : D} {m : List D} (ha : HE T n κ a σ G (.ok w) G1) (hl : HO T n κ lo σ G1 vl G2) (hh : HO T n κ hi σ G2 vh G3) (v : view G3 w = some d) (eq : slcN d vl vh = some m) :
    HN T n κ (.Subscript a (.Slice lo hi none q) p) σ G (.lst (m.map .d)) G3 := by
  intro X c
  refine PE.imp (pe_slice (sl_slcN (T := T) c.K) (ha X c W0 (takes_f X)) (hl X c) (hh X c)) fun σv H Q ⟨ω, S, R, out⟩ => ?_
  exact tE.mk (W := W0) S R fun ω1 H1 v1 st1 S1 R1 r1 => tOI.mk S1 R1 fun ω2 H2 st2 S2 R2 => tOI.mk S2 R2 fun ω3 H3 st3 S3 R3 => ⟨ω3, G3, d, m, S3, view_top S3 v ((r1.mono st2.w).mono st3.w), eq, fun p us hp r => out ω3 H3 p _ ((st1.trans st2).trans st3) S3 hp ⟨us, rfl, RelWs.of r⟩⟩
theorem hn_rev {a : Expr} {k : Nat} {p1 p2 p3 : Pos} {d : D} {m : List D} (ha : HE T n κ a σ G (.ok w) G1) (v : view G1 w = some d) (eq : revN d = some m) :
    HN T n κ (.Subscript a (.Slice none none (some (.UnaryOp .USub (.Constant (.int 1) k p1) p2)) p3) p) σ G (.lst (m.map .d)) G1 := by
  intro X c
  refine PE.imp (pe_revL (ha X c W0 (takes_f X))) fun σv H Q ⟨ω, S, R, out⟩ => tE.mk (W := W0) S R fun ω1 H1 v1 st1 S1 R1 r1 => ?_
  cases d <;> first | cases eq | skip
  obtain ⟨a, vs, rfl, sq, rl⟩ := view_top S1 v r1
  exact ⟨a, vs, rfl, SqL.of sq, fun p hp => out ω1 H1 p _ st1 S1 hp ⟨_, rfl, RelWs.of rl.reverse⟩⟩
/-! ### fields -/
theorem he_attr {f : Fl} {u : Sv} (F : Fc T τ) (ho : HE T n κ o σ G (.ok w) G1) (k : fldG G1 w f = some u) (hb : ∀ env, attributeBase o (Fl.s f) env (eval o env) = eval o env) : HE T n κ (.Attribute o (Fl.s f) p) σ G (.ok u) G1 := by
  intro X c W tk
  refine PE.imp (pe_fld (ho X c W tk) (hb _)) fun σv H Q ⟨ω, S, R, out⟩ => tE.mk S R fun ω1 H1 v1 st1 S1 R1 r1 => ?_
  cases w with
  | d x =>
    cases x <;> first | (simp [fldG] at k; done) | skip
    rename_i cn l
    obtain ⟨hc, a, dx, vs, rfl, e, rf⟩ := r1
    cases q : l.lookup f with
    | none => simp [fldG, q] at k
    | some z =>
      have : Sv.d z = u := by simpa [fldG, q] using k
      subst this
      obtain ⟨v, ev, rv⟩ := rf.lookup q
      exact ⟨a, _, dx, vs, v, rfl, S1.sub _ _ e, c.K ▸ (F.insc cn hc).1, c.K ▸ F.noat cn f hc, ev, out ω1 H1 v st1 S1 rv⟩
  | r i =>
    obtain ⟨a, ha, rfl⟩ := r1
    cases q : G1[i]? with
    | none => simp [fldG, q] at k
    | some m =>
      cases m with
      | ins cn l =>
        have k' : l.lookup f = some u := by simpa [fldG, q] using k
        rcases S1.at_ i _ a q ha with z | ⟨_, ob, hob, hc, dx, vs, rfl, rf⟩
        · cases z
        · obtain ⟨v, ev, rv⟩ := rf.lookup k'
          exact ⟨a, _, dx, vs, v, rfl, hob, c.K ▸ (F.insc cn hc).1, c.K ▸ F.noat cn f hc, ev, out ω1 H1 v st1 S1 rv⟩
      | lst l => simp [fldG, q] at k
      | dic l => simp [fldG, q] at k
      | gone => simp [fldG, q] at k
/-! ### isinstance -/
theorem ty_of {X : Cx} (F : Fc T τ) (hK : X.K = T.K) {ω : Wd} {H : Hp} {G : Gs} (S : Sim T ω H G) {d : D} {v : V} (k : isiOk d) (r : Top T ω.φ H d v) : TyX X.K H v (tyD T d) := by
  cases d with
  | non => cases top_non r; exact .base .non
  | bl b => cases top_bl r; exact .base (.bl b)
  | int i => cases top_int r; exact .base (.int i)
  | str x => cases top_str r; exact .base (.str x)
  | tup l =>
    obtain ⟨a, vs, rfl, sq, r⟩ := r
    rcases S.sub.sqt sq with (h | ⟨ob, h⟩) | ⟨ob, its, m, h1, h2, _⟩
    · exact .base (.tup h)
    · exact .fTuple h
    · exact .kTuple (hK ▸ h1) h2
  | lst l =>
    obtain ⟨a, vs, rfl, sq, r⟩ := r
    exact .base (.lst sq)
  | scr l => cases k
  | obj c l =>
    obtain ⟨hc, a, dx, vs, rfl, e, rf⟩ := r
    obtain ⟨c1, c2, c3, c4, c5⟩ := F.insc c hc
    exact .base (.ins (S.sub _ _ e) (hK ▸ c1) (hK ▸ c2) (hK ▸ c3) (hK ▸ c4) (hK ▸ c5))
  | dic l =>
    obtain ⟨a, vs, rfl, sq, r⟩ := r
    exact .base (.dK sq)
  | fn f => cases k
  | clo x => cases k
theorem kit_bb (K : PySem.W.Frag) {d : D} {t : Tn} (hd : ∀ c l, d ≠ .obj c l) (ht : ∀ c, t ≠ .cls c) (hf : isiOk d) : PySem.W.kitOne K (tyD T d) (kitV T t) = some (isiD t d) := by
  cases d <;> first | exact absurd rfl (hd _ _) | cases hf | skip
  all_goals (cases t <;> first | exact absurd rfl (ht _) | exact kit_ty (by first | (show kitB _ _ = some true; decide +kernel) | (show kitB _ _ = some false; decide +kernel)))
theorem kit_all {X : Cx} (F : Fc T τ) (hK : X.K = T.K) {d : D} {t : Tn} (hf : isiOk d) (ht : ∀ c, t = .cls c → T.has c) (hd : ∀ c l, d = .obj c l → T.has c) : PySem.W.kitOne X.K (tyD T d) (kitV T t) = some (isiD t d) := by
  rw [hK]
  cases d with
  | obj c l => exact F.kit1 c t l (hd c l rfl) ht
  | _ =>
    cases t with
    | cls c => first | exact (show False from hf).elim | exact F.kit2 c _ (ht c rfl) (by simp)
    | _ => first | exact (show False from hf).elim | exact kit_bb T.K (fun c l => by intro h; cases h) (fun c => by intro h; cases h) hf
theorem top_has {φ H : Hp} {d : D} {v : V} (r : Top T φ H d v) : ∀ c l, d = .obj c l → T.has c := fun c l e => by subst e; exact r.1
theorem he_isi {t : Tn} {d : D} {y : Str} {q r : Pos} {j : Nat} {cv : V} (F : Fc T τ) (hx : κ.gl[j]? = some ("isinstance" : Str)) (hf : τ.fr "isinstance") (ht : ∀ c, t = .cls c → T.has c) (he : HE T n κ e σ G (.ok w) G1)
    (hy : ∀ X, Cok T n κ X → PE X (.Name y r) (tC cv)) (hcv : ClsV cv (kitV T t)) (hs : ∀ env, starEach [e, .Name y r] env = [(false, eval e env), (false, eval (.Name y r) env)]) (hs2 : ∀ env, starEach [.Name y r] env = [(false, eval (.Name y r) env)])
    (v : view G1 w = some d) (k : isiOk d) : HE T n κ (.Call (.Name "isinstance" q) [e, .Name y r] [] p) σ G (.ok (.d (.bl (isiD t d)))) G1 := by
  intro X c W tk
  refine PE.imp (pe_callB call_isi (c.gl hx) (c.mg ▸ F.fr _ hf) (by rfl) (pa_cons (he X c W tk) (pa_cons (hy X c) pa_nil (hs2 _)) ((hs _).trans (by rw [hs2]))) (by decide) (by decide) ((hs _).trans (by rw [hs2])) (by rw [hs2]; rfl)) fun σv H Q ⟨ω, S, R, out⟩ => ?_
  refine tE.mk (W := W) S R fun ω1 H1 v1 st1 S1 R1 r1 => ?_
  have t1 := view_top S1 v r1
  exact ⟨v1, cv, _, _, _, rfl, hcv, ty_of F c.K S1 k t1, kit_all F c.K k ht (top_has t1), out ω1 H1 _ st1 S1 rfl⟩
end
end Fx

end

section
set_option Elab.async false
set_option linter.all false
set_option maxRecDepth 100000
set_option maxHeartbeats 1000000
/-! Calls of the text's own functions, methods, classes. -/
namespace Fx
open PySem L2 PyProof.Rows
structure Fs where
  fd : F → FuncData
  ps : F → List Str
/-- the promise of one call: these values and this store in, that value and that store out -/
def spI (T : Ty) (ws : List Sv) (G : Gs) (w : Sv) (G' : Gs) : Sp := fun vs H Q _ => ∃ ω, Sim T ω H G ∧ RelWs T ω ws vs ∧ Out T ω H G' w Q
def FP (T : Ty) (Φ : Fs) (n : Nat) (f : F) (ws : List Sv) (G : Gs) (w : Sv) (G' : Gs) : Prop := ∀ CX, FnOk T.P T.w T.K T.mg T.base CX n (T.fA f) (Φ.fd f) (Φ.ps f) (spI T ws G w G')
theorem FP.mono {T : Ty} {Φ : Fs} {n m : Nat} {f : F} {ws : List Sv} {G : Gs} {w : Sv} {G' : Gs} (k : FP T Φ n f ws G w G') (h : n ≤ m) : FP T Φ m f ws G w G' := fun CX => (k CX).mono h
theorem RelWs.data {T : Ty} {ω ω' : Wd} (h : ω.φ = ω'.φ) : ∀ {ds : List D} {vs : List V}, RelWs T ω (ds.map .d) vs → RelWs T ω' (ds.map .d) vs := fun r => RelWs.of (h ▸ r.to)
theorem Sim.pure {T : Ty} {ω : Wd} {H : Hp} {G : Gs} (S : Sim T ω H G) : Sim T ⟨ω.φ, []⟩ H [] := ⟨S.sub, List.nodup_nil, rfl, fun i m a h _ => by simp at h, fun a h => (by cases h), S.tb, S.nt⟩
theorem rho_nil {T : Ty} {ω : Wd} {H : Hp} (S : Sim T ω H []) : ω.ρ = [] := List.eq_nil_of_length_eq_zero S.len
/-- back from a world that knew nothing of the store -/
theorem Sim.back {T : Ty} {ω ω' : Wd} {H H' : Hp} {G : Gs} (S : Sim T ω H G) (st : Stp ⟨ω.φ, []⟩ H ω' H') (S' : Sim T ω' H' []) : Stp ω H ⟨ω'.φ, ω.ρ⟩ H' ∧ Sim T ⟨ω'.φ, ω.ρ⟩ H' G := by
  have W : Wle ω ⟨ω'.φ, ω.ρ⟩ := ⟨st.w.le, [], by simp⟩
  have kp : ∀ a o, H a = some o → (∀ ps, o ≠ .tbl ps) → H' a = some o := fun a o h t => st.kp a o h t (by simp)
  have fr : ∀ a, ω'.φ a ≠ none → ω.φ a = none → H a = none ∨ ∃ ψ, H a = some (.ext ψ) := fun a h n => (st.fr a h n).elim .inl fun z => z.elim (fun z => by cases z) .inr
  refine ⟨⟨W, fun a o h t _ => kp a o h t, fun a h n => absurd h n, fun a h n => (fr a h n).elim .inl fun z => .inr (.inr z), st.al, st.tl⟩, ⟨S'.sub, S.nod, S.len, fun i m a hm ha => ?_, fun a ha z => S.ex a ha (st.al a z), S'.tb, S'.nt⟩⟩
  by_cases gn : m = .gone
  · exact .inl gn
  rcases S.at_ i m a hm ha with h | ⟨h1, u, h2, h3⟩
  · exact .inl h
  · refine .inr ⟨?_, u, kp a u h2 (fun ps z => relM_te h3 gn (.inl ⟨ps, z⟩)), h3.mono W⟩
    cases e : ω'.φ a with
    | none => rfl
    | some o =>
      rcases fr a (by rw [e]; simp) h1 with this | ⟨ψ, this⟩
      · rw [this] at h2
        cases h2
      · rw [this] at h2
        cases h2
        exact absurd (.inr ⟨_, rfl⟩) (relM_te h3 gn)
/-- a call with data alone does the same in any store -/
theorem FP.lift {T : Ty} {Φ : Fs} {n : Nat} {f : F} {ds : List D} {w : D} (k : FP T Φ n f (ds.map .d) [] (.d w) []) (G : Gs) : FP T Φ n f (ds.map .d) G (.d w) G := fun CX =>
  (k CX).imp fun vs H Q E ⟨ω, S, r, out⟩ => ⟨⟨ω.φ, []⟩, S.pure, RelWs.data (ω := ω) (ω' := ⟨ω.φ, []⟩) rfl r, fun ω' H' v st S' r' => by
    obtain ⟨st2, S2⟩ := S.back st S'
    exact out _ _ v st2 S2 r'⟩
/-- .. of a new object: what it is at the end is frozen -/
theorem make_back {T : Ty} {ω ω' : Wd} {H H' : Hp} {G : Gs} {x dx : Addr} {c : Cn} {fs : List (Fl × D)} {C : Addr} (S : Sim T ω H G) (hx : H x = none) (hd : H dx = none) (hn : dx ≠ x)
    (st : Stp ⟨ω.φ, [x]⟩ (upd (upd H dx (.own x)) x (.ins C dx [])) ω' H') (S' : Sim T ω' H' [.ins c (fs.map fun p => (p.1, Sv.d p.2))]) :
    ∃ ω2, Stp ω H ω2 H' ∧ Sim T ω2 H' G ∧ RelW T ω2 (.d (.obj c fs)) (.ref x) := by
  have hρ : ω'.ρ = [x] := by
    obtain ⟨l, e⟩ := st.w.more
    have hl := S'.len
    rw [e] at hl
    have : l = [] := List.eq_nil_of_length_eq_zero (by simpa using hl)
    rw [e, this]; rfl
  have key : ∀ a o, H a = some o → (∀ ps, o ≠ .tbl ps) → H' a = some o := fun a o h t => by
    have n1 : a ≠ x := fun z => by subst z; rw [hx] at h; cases h
    have n2 : a ≠ dx := fun z => by subst z; rw [hd] at h; cases h
    exact st.kp a o (by rw [upd_ne n1, upd_ne n2]; exact h) t (by simpa using n1)
  rcases S'.at_ 0 _ x rfl (by rw [hρ]; rfl) with h | ⟨f1, u, f2, hc, dx', vs', rfl, rf⟩
  · cases h
  have al : ∀ a, H' a = none → H a = none := fun a h => by
    have := st.al a h
    by_cases n1 : a = x
    · subst n1; exact hx
    · rw [upd_ne n1] at this
      by_cases n2 : a = dx
      · subst n2; exact hd
      · rw [upd_ne n2] at this; exact this
  have fx : ω.φ x = none := by
    cases e : ω.φ x with
    | none => rfl
    | some u => have := S.sub _ _ e; rw [hx] at this; cases this
  have W : Wle ω ⟨upd ω'.φ x (.ins (T.cA c) dx' vs'), ω.ρ⟩ := ⟨fun a o h => by
    have n1 : a ≠ x := fun z => by subst z; rw [fx] at h; cases h
    show upd _ _ _ a = _
    rw [upd_ne n1]; exact st.w.le a o h, [], by simp⟩
  have fr : ∀ a, upd ω'.φ x (.ins (T.cA c) dx' vs') a ≠ none → ω.φ a = none → H a = none ∨ ∃ ψ, H a = some (.ext ψ) := fun a h n => by
    by_cases n1 : a = x
    · subst n1; exact .inl hx
    · rw [upd_ne n1] at h
      rcases st.fr a h n with z | z | ⟨ψ, z⟩
      · rw [upd_ne n1] at z
        by_cases n2 : a = dx
        · subst n2; exact .inl hd
        · rw [upd_ne n2] at z; exact .inl z
      · exact absurd (by simpa using z) n1
      · rw [upd_ne n1] at z
        by_cases n2 : a = dx
        · subst n2; exact .inl hd
        · rw [upd_ne n2] at z; exact .inr ⟨ψ, z⟩
  refine ⟨⟨upd ω'.φ x (.ins (T.cA c) dx' vs'), ω.ρ⟩, ⟨W, fun a o h t _ => key a o h t, fun a h n => absurd h n, fun a h n => (fr a h n).elim .inl fun z => .inr (.inr z), al, fun a ps e => by
    have n1 : a ≠ x := fun z => by subst z; rw [hx] at e; cases e
    have n2 : a ≠ dx := fun z => by subst z; rw [hd] at e; cases e
    exact st.tl a ps (by rw [upd_ne n1, upd_ne n2]; exact e)⟩, ⟨fun a o h => ?_, S.nod, S.len, fun i m a hm ha => ?_, fun a ha z => S.ex a ha (al a z), S'.tb, fun a ps (z : upd ω'.φ x (.ins (T.cA c) dx' vs') a = _) => by
    by_cases q : a = x
    · subst q; rw [upd_same] at z; cases z
    · rw [upd_ne q] at z; exact S'.nt a ps z⟩, hc, x, dx', vs', rfl, upd_same, ?_⟩
  · have h : upd ω'.φ x (.ins (T.cA c) dx' vs') a = some o := h
    by_cases n1 : a = x
    · subst n1; rw [upd_same] at h; cases h; exact f2
    · rw [upd_ne n1] at h; exact S'.sub a o h
  · by_cases gn : m = .gone
    · exact .inl gn
    rcases S.at_ i m a hm ha with h | ⟨h1, u, h2, h3⟩
    · exact .inl h
    · refine .inr ⟨?_, u, key a u h2 (fun ps z => relM_te h3 gn (.inl ⟨ps, z⟩)), h3.mono W⟩
      cases e : upd ω'.φ x (.ins (T.cA c) dx' vs') a with
      | none => exact e
      | some o =>
        rcases fr a (by rw [e]; simp) h1 with this | ⟨ψ, this⟩
        · rw [this] at h2
          cases h2
        · rw [this] at h2
          cases h2
          exact absurd (.inr ⟨_, rfl⟩) (relM_te h3 gn)
  · have le : Le ω'.φ (upd ω'.φ x (.ins (T.cA c) dx' vs')) := Le.upd f1
    exact RelF.mono le rf.to
/-- what is known of the defs -/
structure Fb (T : Ty) (Φ : Fs) (bd : F → Prop) (nw : Cn → List D → Prop) (kw : F → Nat → List Str → Prop) : Prop where
  bnd : ∀ f, bd f → Binds T.K (Φ.fd f) (Φ.ps f) [] ∧ PySem.W.keepIn T.K (.ref (T.fA f)) = true
  hs : ∀ c m f, mtb c m = some f → bd f → T.has c
  mkc : ∀ c f, T.has c → inib c = some f → Mk T.K (T.cA c) (T.fA f)
  new : ∀ c f ds, inib c = some f → nw c ds → ∃ dvs us, (∀ φ, Rels T φ ds dvs) ∧ Vals dvs us ∧ Binds T.K (Φ.fd f) (Φ.ps f) us
  kwd : ∀ f m ks, kw f m ks → KBn T.K (Φ.fd f) (Φ.ps f) m ks (fun us ws => us ++ ws) (fun vs zs => vs ++ zs)
section
variable {T : Ty} {τ : Tb} {Φ : Fs} {bd : F → Prop} {nw : Cn → List D → Prop} {kw : F → Nat → List Str → Prop} {n : Nat} {κ : Kx} {σ : Sg} {G G1 G2 G3 : Gs}
variable {x : Str} {o e : Expr} {es : List Expr} {ap p q : Pos} {w : Sv} {ws : List Sv} {ds : List D} {f : F} {j : Nat}
abbrev CX0 : CXT := fun _ _ _ _ _ _ => False
theorem pass0 {X : Cx} {E : XK} : Passes CX0 X E := fun _ _ _ _ _ _ _ h => h.elim
theorem FP.at_ {X : Cx} {G' : Gs} (c : Cok T n κ X) (k : FP T Φ n f ws G w G') : FnOk X.prog X.w X.K X.mg X.base CX0 n (T.fA f) (Φ.fd f) (Φ.ps f) (spI T ws G w G') := by
  rw [c.P, c.w, c.K, c.mg, c.base]; exact k _
theorem he_call {l : List CE} (F : Fc T τ) (B : Fb T Φ bd nw kw) (hx : κ.gl[j]? = some x) (hf : τ.fn x f) (hb : bd f) (el : ErA τ κ (e :: es) l) (h : HA T n κ (e :: es) σ G (.ok ws) G1) (k : FP T Φ n f ws G1 w G2) :
    HE T n κ (.Call (.Name x q) (e :: es) [] p) σ G (.ok w) G2 := by
  intro X c W tk
  obtain ⟨l', el'⟩ := el.tl
  obtain ⟨d1, d2, _⟩ := nameOk_d (c.ok.gl j x hx).2
  obtain ⟨b1, b2⟩ := B.bnd f hb
  refine PE.imp (pe_call (k.at_ c) c.room (c.gl hx) (c.mg ▸ (F.fn x f hf).1) (c.K ▸ b2) (c.K ▸ b1) .nil (pass0 (E := fun _ _ _ => False)) (h X c W tk) d1 (el.head _) (el'.plain _ _)) fun σv H Q ⟨ω, S, R, out⟩ => ?_
  exact tA.mk S R fun ω1 H1 vs st1 S1 R1 r1 => ⟨ω1, S1, by simpa using r1, Out.trans out st1⟩
theorem he_call0 (F : Fc T τ) (B : Fb T Φ bd nw kw) (hx : κ.gl[j]? = some x) (hf : τ.fn x f) (hb : bd f) (k : FP T Φ n f [] G w G2) : HE T n κ (.Call (.Name x q) [] [] p) σ G (.ok w) G2 := by
  intro X c W tk
  obtain ⟨d1, d2, _⟩ := nameOk_d (c.ok.gl j x hx).2
  obtain ⟨b1, b2⟩ := B.bnd f hb
  refine PE.imp (pe_call0 (k.at_ c) c.room (c.gl hx) (c.mg ▸ (F.fn x f hf).1) (c.K ▸ b2) (c.K ▸ b1) .nil (pass0 (E := fun _ _ _ => False)) d1) fun σv H Q ⟨ω, S, R, out⟩ => ?_
  exact ⟨ω, S, rfl, out⟩
theorem he_callv {i : Nat} {l : List CE} (B : Fb T Φ bd nw kw) (hx : κ.N[i]? = some x) (hl : κ.lv.contains i = true) (hi : σ[i]? = some (some (.d (.fn f)))) (hb : bd f) (el : ErA τ κ (e :: es) l) (h : HA T n κ (e :: es) σ G (.ok ws) G1) (k : FP T Φ n f ws G1 w G2) :
    HE T n κ (.Call (.Name x q) (e :: es) [] p) σ G (.ok w) G2 := by
  intro X c W tk
  obtain ⟨l', el'⟩ := el.tl
  obtain ⟨d1, d2, _⟩ := nameOk_d (c.ok.lv i x hl hx).2
  obtain ⟨b1, b2⟩ := B.bnd f hb
  refine PE.imp (pe_callL (k.at_ c) c.room (c.N ▸ hx) (c.vis hl hx) (c.K ▸ b2) (c.K ▸ b1) .nil (pass0 (E := fun _ _ _ => False)) (h X c W tk) d1 d2 (el.head _) (el'.plain _ _)) fun σv H Q ⟨ω, S, R, out⟩ => ?_
  obtain ⟨v, ev, rv⟩ := R.get hi
  cases (show _ = _ from rv)
  exact ⟨ev, tA.mk S R fun ω1 H1 vs st1 S1 R1 r1 => ⟨ω1, S1, by simpa using r1, Out.trans out st1⟩⟩
/-- a method call's tree -/
theorem meth_tree {m : Str} {args : List Expr} {env : Env} (hb : attributeBase o m env (eval o env) = eval o env) (ha : (backTo p (starEach args env)).all (fun x => !x.1) = true) (hl : (ap.endLine == p.line) = true) (hn : args.length < 20) :
    eval (.Call (.Attribute o m ap) args [] p) env = (do
      let ov ← eval o env
      standAt ap.atName
      let (f, first) ← holding [ov] (getMethod ov m (plainOf o env))
      callWith p f first (backTo p (starEach args env)) (backToKw p (keywordEach [] env))) := by
  refine mcall_of hb fun ov => mcall_line ?_ hl
  show ((backTo p (starEach args env)).all (fun x => !x.1) && true && decide (args.length + 0 + 0 < 30)) = true
  rw [ha, decide_eq_true (by omega)]
  rfl
theorem he_meth0 {m : Mn} {cn : Cn} {fs : List (Fl × D)} (F : Fc T τ) (B : Fb T Φ bd nw kw) (ho : HE T n κ o σ G (.ok (.d (.obj cn fs))) G1) (hm : mtb cn m = some f) (hn : ∀ g ∈ fs.map (·.1), g.s ≠ m.s) (hb : bd f)
    (k : FP T Φ n f [.d (.obj cn fs)] G1 w G2) (hab : ∀ env, attributeBase o (Mn.s m) env (eval o env) = eval o env) (hln : (ap.endLine == p.line) = true) :
    HE T n κ (.Call (.Attribute o (Mn.s m) ap) [] [] p) σ G (.ok w) G2 := by
  intro X c W tk
  obtain ⟨b1, b2⟩ := B.bnd f hb
  have hc := B.hs cn m f hm hb
  have hC := (F.insc cn hc).1
  have hM := F.met cn m f hc hm
  refine PE.imp (pe_meth0 (pl := plainOf o X.env) (ho X c W tk) (c.K ▸ hC) (c.K ▸ hM) (k.at_ c) c.room (c.K ▸ b1) .nil (pass0 (E := fun _ _ _ => False)) (meth_tree (hab _) rfl hln (by simp))) fun σv H Q ⟨ω, S, R, out⟩ => ?_
  refine tE.mk S R fun ω1 H1 v st1 S1 R1 r1 => ?_
  obtain ⟨_, a, dx, vs1, e, e1, rf⟩ := (show Rel T ω1.φ (.obj cn fs) v from r1)
  exact ⟨a, dx, vs1, e, S1.sub _ _ e1, rf.lookup_none hn, ω1, S1, ⟨_, _, rfl, r1, rfl⟩, Out.trans out st1⟩
theorem he_meth {m : Mn} {l : List CE} {cn : Cn} {fs : List (Fl × D)} (F : Fc T τ) (B : Fb T Φ bd nw kw) (ho : HE T n κ o σ G (.ok (.d (.obj cn fs))) G1) (hm : mtb cn m = some f) (hn : ∀ g ∈ fs.map (·.1), g.s ≠ m.s) (hb : bd f) (el : ErA τ κ (e :: es) l)
    (h : HA T n κ (e :: es) σ G1 (.ok ws) G2) (k : FP T Φ n f (.d (.obj cn fs) :: ws) G2 w G3) (hab : ∀ env, attributeBase o (Mn.s m) env (eval o env) = eval o env) (hln : (ap.endLine == p.line) = true) (hl : (e :: es).length < 20) :
    HE T n κ (.Call (.Attribute o (Mn.s m) ap) (e :: es) [] p) σ G (.ok w) G3 := by
  intro X c W tk
  obtain ⟨b1, b2⟩ := B.bnd f hb
  have hc := B.hs cn m f hm hb
  have hC := (F.insc cn hc).1
  have hM := F.met cn m f hc hm
  obtain ⟨l', el'⟩ := el.tl
  refine PE.imp (pe_meth (pl := plainOf o X.env) (ho X c W tk) (c.K ▸ hC) (c.K ▸ hM) (k.at_ c) c.room (c.K ▸ b1) .nil (pass0 (E := fun _ _ _ => False)) (h X c W tk) (el.head _) (el'.plain _ _) (meth_tree (hab _) (el.none _ _) hln hl)) fun σv H Q ⟨ω, S, R, out⟩ => ?_
  refine tE.mk S R fun ω1 H1 v st1 S1 R1 r1 => ?_
  obtain ⟨_, a, dx, vs1, e, e1, rf⟩ := (show Rel T ω1.φ (.obj cn fs) v from r1)
  refine ⟨a, dx, vs1, e, S1.sub _ _ e1, rf.lookup_none hn, ?_⟩
  exact tA.mk S1 R1 fun ω2 H2 vs st2 S2 R2 r2 => ⟨ω2, S2, ⟨_, _, rfl, r1.mono st2.w, by simpa using r2⟩, Out.trans out (st1.trans st2)⟩
/-- C(..), the new object frozen -/
theorem he_new {l : List CE} {cn : Cn} {dd : List D} {gs : List (Fl × Sv)} {fs : List (Fl × D)} (F : Fc T τ) (B : Fb T Φ bd nw kw) (hx : κ.gl[j]? = some x) (hc : τ.cl x cn) (hi : inib cn = some f) (hw : nw cn dd) (el : ErA τ κ (e :: es) l)
    (h : HA T (n + 1) κ (e :: es) σ G (.ok ws) G1) (ew : ofSvs ws = some ds) (k : FP T Φ n f (.r 0 :: (ws ++ dd.map .d)) [.ins cn []] (.d .non) [.ins cn gs]) (eg : ofSvF gs = some fs) :
    HE T (n + 1) κ (.Call (.Name x q) (e :: es) [] p) σ G (.ok (.d (.obj cn fs))) G1 := by
  intro X c W tk
  obtain ⟨l', el'⟩ := el.tl
  obtain ⟨d1, d2, _⟩ := nameOk_d (c.ok.gl j x hx).2
  obtain ⟨hm, hh⟩ := F.cl x cn hc
  obtain ⟨dvs, us, n1, n2, n3⟩ := B.new cn f dd hi hw
  have k' : FnOk X.prog X.w X.K X.mg X.base CX0 n (T.fA f) (Φ.fd f) (Φ.ps f) (spI T (.r 0 :: (ws ++ dd.map .d)) [.ins cn []] (.d .non) [.ins cn gs]) := by
    rw [c.P, c.w, c.K, c.mg, c.base]; exact k _
  refine PE.imp (pe_make (c.K ▸ B.mkc cn f hh hi) k' c.room (c.gl hx) (c.mg ▸ hm) (c.K ▸ n3) n2 (pass0 (E := fun _ _ _ => False)) (h X c W tk) d1 (el.head _) (el'.plain _ _)) fun σv H Q ⟨ω, S, R, out⟩ => ?_
  refine tA.mk S R fun ω1 H1 vs st1 S1 R1 r1 xa dx hxa hdx hne => ?_
  have ev := ofSvs_eq ew
  have eg' := ofSvF_eq eg
  rw [ev] at r1
  have fx : ω1.φ xa = none := by
    cases e : ω1.φ xa with
    | none => rfl
    | some u => have := S1.sub _ _ e; rw [hxa] at this; cases this
  refine ⟨⟨ω1.φ, [xa]⟩, ⟨fun a o h => ?_, by simp, rfl, fun i m a hm ha => ?_, fun a ha => ?_, tabs_new (tabs_new S1.tb hdx) ((upd_ne (Ne.symm hne)).trans hxa), S1.nt⟩, ⟨_, _, rfl, ⟨xa, rfl, rfl⟩, ?_⟩, fun ω' H' v st S' r' => ?_⟩
  · have h2 : H1 a = some o := S1.sub a o h
    have z1 : a ≠ xa := fun z => by rw [z, hxa] at h2; cases h2
    have z2 : a ≠ dx := fun z => by rw [z, hdx] at h2; cases h2
    rw [upd_ne z1, upd_ne z2]; exact h2
  · cases i with
    | zero =>
      cases hm; cases ha
      exact .inr ⟨fx, _, upd_same, hh, dx, [], rfl, rfl⟩
    | succ i => simp at hm
  · have : a = xa := by simpa using ha
    subst this
    rw [upd_same]; simp
  · rw [ev]
    exact RelWs.append (RelWs.data (ω := ω1) (ω' := ⟨ω1.φ, [xa]⟩) rfl r1) (RelWs.of (n1 _))
  · refine ⟨r', ?_⟩
    rw [eg'] at S'
    obtain ⟨ω2, st2, S2, r2⟩ := make_back S1 hxa hdx hne st S'
    exact out ω2 H' _ (st1.trans st2) S2 r2
/-- keywords: the names, the values -/
theorem pk_one {X : Cx} {a : Expr} {nm : Str} {te : TE} {kp : Pos} (ha : PE X a te) : PK X [⟨some nm, a, kp⟩] (tCons te tNil) := pk_cons ha pk_nil
theorem he_callk {l : List CE} {a : Expr} {nm : Str} {kp : Pos} {u : Sv} (F : Fc T τ) (B : Fb T Φ bd nw kw) (hx : κ.gl[j]? = some x) (hf : τ.fn x f) (hk : kw f (e :: es).length [nm]) (el : ErA τ κ (e :: es) l)
    (h : HA T n κ (e :: es) σ G (.ok ws) G1) (ha : HE T n κ a σ G1 (.ok u) G2) (k : FP T Φ n f (ws ++ [u]) G2 w G3) (hl : ws.length = (e :: es).length) :
    HE T n κ (.Call (.Name x q) (e :: es) [⟨some nm, a, kp⟩] p) σ G (.ok w) G3 := by
  intro X c W tk
  obtain ⟨l', el'⟩ := el.tl
  obtain ⟨d1, d2, _⟩ := nameOk_d (c.ok.gl j x hx).2
  have b2 := (F.fn x f hf).2
  refine PE.imp (pe_callN (k.at_ c) c.room (c.gl hx) (c.mg ▸ (F.fn x f hf).1) (c.K ▸ b2) (c.K ▸ B.kwd f _ _ hk) (pass0 (E := fun _ _ _ => False)) (h X c W tk) (pk_one (ha X c W tk)) rfl rfl d1 (el.head _) (Bool.or_eq_false_iff.mpr ⟨el.plain _ _, rfl⟩)) fun σv H Q ⟨ω, S, R, out⟩ => ?_
  refine tA.mk S R fun ω1 H1 vs st1 S1 R1 r1 => tE.mk S1 R1 fun ω2 H2 v st2 S2 R2 r2 => ?_
  exact ⟨by rw [r1.length, hl], rfl, ω2, S2, (r1.mono st2.w).append ⟨v, [], rfl, r2, rfl⟩, Out.trans out (st1.trans st2)⟩
end
end Fx

end

section
set_option Elab.async false
set_option linter.all false
set_option maxRecDepth 100000
set_option maxHeartbeats 1000000
/-! == of the text's own classes; list methods; the module's tables; dicts written out. -/
namespace Fx
open PySem L2 PyProof.Rows
/-- .. of the classes' own == and of the tables -/
structure Fe (T : Ty) (Φ : Fs) (gd : Str → D → Option D) (bd : F → Prop) (tb : Str → Prop) : Prop where
  eqs : ∀ c f, eqb c = some f → bd f → T.has c ∧ PySem.W.findIn T.K (.ref (T.cA c)) "__eq__" = some (some (.ref (T.fA f))) ∧ PySem.W.isFn T.K (.ref (T.fA f)) = true
  tab : ∀ x, tb x → ∃ p, T.mg x = some (.ref p) ∧ ∀ d u, gd x d = some u → ∃ z v, d = .str z ∧ KDct T.K T.w p z v ∧ ∀ φ, Rel T φ u v
section
variable {X : Cx} {CX : CXT} {n : Nat} {f C : Addr} {fd : FuncData} {ps : List Str} {sp : Sp} {E : XK}
theorem op_own (F : FnOk X.prog X.w X.K X.mg X.base CX n f fd ps sp) (hr : Room n X.A) (hs : PySem.W.findIn X.K (.ref C) "__eq__" = some (some (.ref f))) (hf : PySem.W.isFn X.K (.ref f) = true) (hb : L2.Binds X.K fd ps []) (hx : Passes CX X E) :
    OpR X (compareOp .Eq) (fun x y H Q => ∃ a b dx dy fs gs, x = .ref a ∧ y = .ref b ∧ H a = some (.ins C dx fs) ∧ H b = some (.ins C dy gs) ∧ sp [.ref a, .ref b] H (fun v H' => (∃ r, v = .bl r) ∧ Q v H') E) := by
  rintro pins s σ H x y u v Q I rx ry ⟨a, b, dx, dy, fs, gs, rfl, rfl, ha, hb', hsp⟩
  cases rx
  cases ry
  obtain ⟨mA, J, _⟩ := ins_get I.hok ha
  obtain ⟨mB, J', _⟩ := ins_get I.hok hb'
  obtain ⟨od, J, _⟩ := J.look
  obtain ⟨od', J', _⟩ := J'.look
  obtain ⟨m, hF⟩ := I.fr
  show wpAny (model X.prog X.w) X.A (richCompare .Eq (.ref a) (.ref b)) (EP X pins σ Q) X.xe s
  refine PySem.W.cmp_K (op := .Eq) (tb := .ref C) hr.units0 hF I.ok.mod.kin J J'.type (by simp [PySem.W.notFirst]) hs hf ?_
  have hl := F.len _ _ _ _ hsp
  have r2 : Vals [V.ref a, V.ref b] [Value.ref a, Value.ref b] := .cons rfl (.cons rfl .nil)
  refine wpAny_call (codeAny_mono (F.run X.A X.stack s H ⟨[.ref a, .ref b], []⟩ [.ref a, .ref b] [.ref a, .ref b] _ E hr I.env0 (by
    have := hb s [.ref a, .ref b] I.kIn (by simpa using hl)
    simpa using this) r2 hsp) fun r s' hq => ?_)
  cases r with
  | error e => exact hx pins σ H s e s' I hq
  | ok fl =>
    cases fl with
    | ret w =>
      obtain ⟨z, H', I', rz, ⟨r, ez⟩, q⟩ := I.after hq
      subst ez
      cases rz
      exact ⟨.bl r, H', I', rfl, q⟩
    | next => exact False.elim hq
    | brk => exact False.elim hq
    | cont => exact False.elim hq
end
section
variable {T : Ty} {τ : Tb} {Φ : Fs} {bd : F → Prop} {nw : Cn → List D → Prop} {kw : F → Nat → List Str → Prop} {gd : Str → D → Option D} {tb : Str → Prop} {n : Nat} {κ : Kx} {σ : Sg} {G G1 G2 G3 : Gs}
variable {x : Str} {a b o e : Expr} {es : List Expr} {ap p q : Pos} {w : Sv} {ws : List Sv} {ds : List D} {f : F} {j : Nat} {c : Cn} {l m : List (Fl × D)} {r : Bool}
theorem he_own (B : Fb T Φ bd nw kw) (K : Fe T Φ gd bd tb) (he : eqb c = some f) (hb : bd f) (h1 : HE T n κ a σ G (.ok (.d (.obj c l))) G1) (h2 : HE T n κ b σ G1 (.ok (.d (.obj c m))) G2) (k : FP T Φ n f [.d (.obj c l), .d (.obj c m)] G2 (.d (.bl r)) G3) :
    HE T n κ (.Compare a [.Eq] [b] p) σ G (.ok (.d (.bl r))) G3 := by
  intro X cx W tk
  obtain ⟨hc, e1, e2⟩ := K.eqs c f he hb
  refine PE.imp (pe_cmpR (op_own (k.at_ cx) cx.room (cx.K ▸ e1) (cx.K ▸ e2) (cx.K ▸ (B.bnd f hb).1) (pass0 (E := fun _ _ _ => False))) (h1 X cx W tk) (h2 X cx W tk) (nomark _)) fun σv H Q ⟨ω, S, R, out⟩ => ?_
  refine tE.mk S R fun ω1 H1 v st1 S1 R1 r1 => tE.mk S1 R1 fun ω2 H2 u st2 S2 R2 r2 => ?_
  have r1' := r1.mono st2.w
  obtain ⟨_, x1, dx, vs, e3, e4, rf⟩ := (show Rel T ω2.φ (.obj c l) v from r1')
  obtain ⟨_, x2, dy, us, e5, e6, rg⟩ := (show Rel T ω2.φ (.obj c m) u from r2)
  subst e3 e5
  refine ⟨x1, x2, dx, dy, vs, us, rfl, rfl, S2.sub _ _ e4, S2.sub _ _ e6, ω2, S2, ⟨_, _, rfl, r1', _, _, rfl, r2, rfl⟩, fun ω3 H3 v st3 S3 r3 => ⟨⟨r, r3⟩, out ω3 H3 v ((st1.trans st2).trans st3) S3 r3⟩⟩
theorem ht_own (B : Fb T Φ bd nw kw) (K : Fe T Φ gd bd tb) (he : eqb c = some f) (hb : bd f) (h1 : HE T n κ a σ G (.ok (.d (.obj c l))) G1) (h2 : HE T n κ b σ G1 (.ok (.d (.obj c m))) G2) (k : FP T Φ n f [.d (.obj c l), .d (.obj c m)] G2 (.d (.bl r)) G3) :
    HT T n κ (.Compare a [.Eq] [b] p) σ G r G3 := by
  intro X cx
  obtain ⟨hc, e1, e2⟩ := K.eqs c f he hb
  have tk := takes_f X
  refine PT.imp (pt_cmpR (op_own (k.at_ cx) cx.room (cx.K ▸ e1) (cx.K ▸ e2) (cx.K ▸ (B.bnd f hb).1) (pass0 (E := fun _ _ _ => False))) (h1 X cx W0 tk) (h2 X cx W0 tk) (nomark _)) fun σv H Q ⟨ω, S, R, out⟩ => ?_
  refine tE.mk (W := W0) S R fun ω1 H1 v st1 S1 R1 r1 => tE.mk (W := W0) S1 R1 fun ω2 H2 u st2 S2 R2 r2 => ?_
  have r1' := r1.mono st2.w
  obtain ⟨_, x1, dx, vs, e3, e4, rf⟩ := (show Rel T ω2.φ (.obj c l) v from r1')
  obtain ⟨_, x2, dy, us, e5, e6, rg⟩ := (show Rel T ω2.φ (.obj c m) u from r2)
  subst e3 e5
  refine ⟨x1, x2, dx, dy, vs, us, rfl, rfl, S2.sub _ _ e4, S2.sub _ _ e6, ω2, S2, ⟨_, _, rfl, r1', _, _, rfl, r2, rfl⟩, fun ω3 H3 v st3 S3 r3 => ⟨⟨r, r3⟩, ?_⟩⟩
  cases (show _ = _ from r3)
  exact ⟨r, rfl, out ω3 H3 ((st1.trans st2).trans st3) S3⟩
/-! ### the module's tables -/
theorem he_gdic {d u : D} {i : Expr} (K : Fe T Φ gd bd tb) (hx : κ.gl[j]? = some x) (hd : tb x) (hi : HE T n κ i σ G (.ok (.d d)) G1) (hg : gd x d = some u) (hs : ∀ o i', subscripted i false o i' = operate [o, i'] (getItem o i')) :
    HE T n κ (.Subscript (.Name x q) i p) σ G (.ok (.d u)) G1 := by
  intro X c W tk
  obtain ⟨pa, hm, ht⟩ := K.tab x hd
  obtain ⟨z, v, e1, kd, rv⟩ := ht d u hg
  subst e1
  obtain ⟨d1, d2, _⟩ := nameOk_d (c.ok.gl j x hx).2
  refine PE.imp (pe_ix ix_kdict (pe_glob (v := .ref pa) (c.gl hx) (c.mg ▸ hm) rfl d1) (hi X c W tk) hs) fun σv H Q ⟨ω, S, R, out⟩ => ?_
  refine tE.mk (W := W) S R fun ω1 H1 v1 st1 S1 R1 r1 => ?_
  cases (show _ = _ from r1)
  exact ⟨pa, z, v, rfl, rfl, by rw [c.K, c.w]; exact kd, out ω1 H1 v st1 S1 (rv _)⟩
/-! ### the methods that change a list -/
def rMm (T : Ty) (m : Mm) : V → List V → Hp → VK → Prop := fun x xs H Q => ∃ ω G i a ob ws w ob', Sim T ω H G ∧ ω.ρ[i]? = some a ∧ x = .ref a ∧ RelWs T ω ws xs ∧ G[i]? = some ob ∧ mmG m ob ws = some (w, ob') ∧ okMm m ob ws ∧ Out T ω H (G.set i ob') w Q
theorem lst_at {ω : Wd} {H : Hp} {G : Gs} {i : Nat} {a : Addr} {l : List Sv} (S : Sim T ω H G) (hi : G[i]? = some (.lst l)) (ha : ω.ρ[i]? = some a) : ∃ vs, H a = some (.lst vs) ∧ RelWs T ω l vs := by
  rcases S.at_ i _ a hi ha with h | ⟨_, o, h1, vs, rfl, h2⟩
  · cases h
  · exact ⟨vs, h1, h2⟩
theorem m_append {X : Cx} : MtM X "list.append" (rMm T .append) := by
  rintro pins s σ H x xs v us Q I rx rxs ⟨ω, G, i, a, ob, ws, w, ob', S, ha, rfl, rw_, hi, eq, k, out⟩
  cases ob with
  | lst l =>
    rcases ws with _ | ⟨w1, _ | ⟨w2, r⟩⟩
    · cases eq
    · cases eq
      obtain ⟨v1, r1, rfl, q1, rfl⟩ := rw_
      obtain ⟨vs, h1, h2⟩ := lst_at S hi ha
      refine mt_append pins s σ H _ _ v us Q I rx rxs ⟨a, vs, v1, rfl, rfl, h1, by rw [h2.length]; exact k, ?_⟩
      obtain ⟨S', st⟩ := store_set S (m := .lst (l ++ [w1])) (o := .lst (vs ++ [v1])) hi (by simp) ha ⟨_, rfl, h2.append ⟨v1, [], rfl, q1, rfl⟩⟩
      exact out _ _ _ st S' rfl
    · cases eq
  | _ => cases eq
theorem m_pop {X : Cx} : MtM X "list.pop" (rMm T .pop) := by
  rintro pins s σ H x xs v us Q I rx rxs ⟨ω, G, i, a, ob, ws, w, ob', S, ha, rfl, rw_, hi, eq, k, out⟩
  cases ob with
  | lst l =>
    rcases ws with _ | ⟨w1, r⟩
    · cases rw_
      obtain ⟨vs, h1, h2⟩ := lst_at S hi ha
      have eq : (l[l.length - 1]?).map (fun w => (w, MO.lst l.dropLast)) = some (w, ob') := eq
      cases e : l[l.length - 1]? with
      | none => rw [e] at eq; cases eq
      | some y =>
        rw [e] at eq
        cases eq
        obtain ⟨v1, e1, q1⟩ := h2.get e
        refine mt_pop pins s σ H _ _ v us Q I rx rxs ⟨a, vs, v1, rfl, rfl, h1, by rw [h2.length]; exact e1, ?_⟩
        obtain ⟨S', st⟩ := store_set S (m := .lst l.dropLast) (o := .lst vs.dropLast) hi (by simp) ha ⟨_, rfl, h2.dropLast⟩
        exact out _ _ _ st S' q1
    · cases eq
  | _ => rcases ws with _ | ⟨w1, r⟩ <;> cases eq
theorem ty_lst {X : Cx} {ω : Wd} {H : Hp} {i : Nat} {a : Addr} {l : List Sv} (S : Sim T ω H G) (hi : G[i]? = some (.lst l)) (ha : ω.ρ[i]? = some a) : tyV X.K "list" (.ref a) H := by
  obtain ⟨vs, h1, _⟩ := lst_at S hi ha
  exact .inl ⟨rfl, vs, .of h1⟩
theorem he_append {i : Nat} {l l0 : List Sv} {lc : List CE} (ho : HE T n κ o σ G (.ok (.r i)) G1) (ht : G1[i]? = some (.lst l0)) (h : HE T n κ e σ G1 (.ok w) G2) (el : ErA τ κ [e] lc) (hi : G2[i]? = some (.lst l)) (k : l.length < sizeLine)
    (hb : ∀ env, attributeBase o "append" env (eval o env) = eval o env) (hln : (ap.endLine == p.line) = true) : HE T n κ (.Call (.Attribute o "append" ap) [e] [] p) σ G (.ok (.d .non)) (G2.set i (.lst (l ++ [w]))) := by
  intro X c W tk
  obtain ⟨l', el'⟩ := el.tl
  refine PE.imp (pe_bm F.plainAttrs_list F.slot_list_append F.type_list_append (m_append (T := T)) (ho X c W tk) (pa_cons (h X c W tk) pa_nil (el.head _)) (hb _) ?_ hln (el.head _) (el'.plain _ _)) fun σv H Q ⟨ω, S, R, out⟩ => ?_
  · rw [el.none]; rfl
  · refine tE.mk S R fun ω1 H1 v1 st1 S1 R1 r1 => ?_
    obtain ⟨a, e1, rfl⟩ := r1
    refine ⟨ty_lst S1 ht e1, tE.mk S1 R1 fun ω2 H2 v2 st2 S2 R2 r2 => ⟨ω2, G2, i, a, _, [w], _, _, S2, st2.w.at_ e1, rfl, ⟨v2, [], rfl, r2, rfl⟩, hi, rfl, k, Out.trans out (st1.trans st2)⟩⟩
theorem he_pop {i : Nat} {l : List Sv} (ho : HE T n κ o σ G (.ok (.r i)) G1) (hi : G1[i]? = some (.lst l)) (hw : l[l.length - 1]? = some w)
    (hb : ∀ env, attributeBase o "pop" env (eval o env) = eval o env) (hln : (ap.endLine == p.line) = true) : HE T n κ (.Call (.Attribute o "pop" ap) [] [] p) σ G (.ok w) (G1.set i (.lst l.dropLast)) := by
  intro X c W tk
  refine PE.imp (pe_bm0 F.plainAttrs_list F.slot_list_pop F.type_list_pop (m_pop (T := T)) (ho X c W tk) (hb _) hln) fun σv H Q ⟨ω, S, R, out⟩ => ?_
  refine tE.mk S R fun ω1 H1 v1 st1 S1 R1 r1 => ?_
  obtain ⟨a, e1, rfl⟩ := r1
  refine ⟨ty_lst S1 hi e1, ω1, G1, i, a, _, [], w, .lst l.dropLast, S1, e1, rfl, rfl, hi, ?_, trivial, Out.trans out st1⟩
  show (l[l.length - 1]?).map _ = _
  rw [hw]; rfl
/-! ### a dict written out -/
def HD (T : Ty) (n : Nat) (κ : Kx) (ks : List (Option Expr)) (vs : List Expr) (σ : Sg) (G : Gs) (kvs : List (Key × Sv)) (G' : Gs) : Prop := ∀ X, Cok T n κ X → ∀ pos, ∃ trs, PPs X pos ks vs trs ∧ ∀ σv H (Q : List (V × V) → Hp → Prop),
  (∃ ω, Sim T ω H G ∧ RelSt T ω σ σv ∧ ∀ ω' H' us, Stp ω H ω' H' → Sim T ω' H' G' → RelWK T ω' kvs us → Q (us.map fun kv => (kV kv.1, kv.2)) H') → tPairs trs σv H Q
theorem hd_nil : HD T n κ [] [] σ G [] G := fun X c pos => ⟨[], pps_nil, fun σv H Q ⟨ω, S, R, k⟩ => k ω H [] (Stp.refl _ _) S rfl⟩
theorem hd_cons {k v : Expr} {ks : List (Option Expr)} {vs : List Expr} {dk : D} {key : Key} {kvs : List (Key × Sv)} (hk : HE T n κ k σ G (.ok (.d dk)) G1) (ek : keyOf dk = some key) (hv : HE T n κ v σ G1 (.ok w) G2) (hr : HD T n κ ks vs σ G2 kvs G3) :
    HD T n κ (some k :: ks) (v :: vs) σ G ((key, w) :: kvs) G3 := fun X c pos => by
  obtain ⟨trs, h1, h2⟩ := hr X c pos
  refine ⟨_, pps_cons (hk X c W0 (takes_f X)) (hv X c W0 (takes_f X)) h1, fun σv H Q ⟨ω, S, R, out⟩ => ?_⟩
  refine tE.mk (W := W0) S R fun ω1 H1 v1 st1 S1 R1 r1 => tE.mk (W := W0) S1 R1 fun ω2 H2 v2 st2 S2 R2 r2 => h2 _ _ _ ⟨ω2, S2, R2, fun ω3 H3 us st3 S3 r3 => ?_⟩
  have e1 : v1 = kV key := keyOf_v ek (Top.of S1.sub r1)
  subst e1
  exact out ω3 H3 ((key, v2) :: us) ((st1.trans st2).trans st3) S3 ⟨v2, us, rfl, r2.mono st3.w, r3⟩
theorem RelWK.any {ω : Wd} {k : Key} : ∀ {l : List (Key × Sv)} {vs : List (Key × V)}, RelWK T ω l vs → (vs.any fun kv => decide (kv.1 = k)) = l.any fun kv => decide (kv.1 = k)
  | [], _, e => by cases e; rfl
  | (g, a) :: l, _, ⟨x, r, e, r1, r2⟩ => by subst e; rw [List.any_cons, List.any_cons, RelWK.any r2]
theorem RelWK.mapP {ω : Wd} {k : Key} {w : Sv} {v : V} (q : RelW T ω w v) : ∀ {l : List (Key × Sv)} {vs : List (Key × V)}, RelWK T ω l vs → RelWK T ω (l.map fun kv => if kv.1 = k then (kv.1, w) else kv) (vs.map fun kv => if kv.1 = k then (kv.1, v) else kv)
  | [], _, e => by cases e; rfl
  | (g, a) :: l, _, ⟨x, r, e, r1, r2⟩ => by
    subst e
    rw [List.map_cons, List.map_cons]
    by_cases z : g = k
    · rw [if_pos z, if_pos z]; exact ⟨v, _, rfl, q, RelWK.mapP q r2⟩
    · rw [if_neg z, if_neg z]; exact ⟨x, _, rfl, r1, RelWK.mapP q r2⟩
theorem RelWK.snoc {ω : Wd} {k : Key} {w : Sv} {v : V} (q : RelW T ω w v) : ∀ {l : List (Key × Sv)} {vs : List (Key × V)}, RelWK T ω l vs → RelWK T ω (l ++ [(k, w)]) (vs ++ [(k, v)])
  | [], _, e => by cases e; exact ⟨v, [], rfl, q, rfl⟩
  | (g, a) :: l, _, ⟨x, r, e, r1, r2⟩ => by subst e; exact ⟨x, _, rfl, r1, RelWK.snoc q r2⟩
theorem RelWK.put {ω : Wd} {k : Key} {w : Sv} {v : V} (q : RelW T ω w v) {l : List (Key × Sv)} {vs : List (Key × V)} (r : RelWK T ω l vs) : RelWK T ω (putD l k w) (putK vs k v) := by
  unfold putD putK
  rw [r.any]
  by_cases z : (l.any fun kv => decide (kv.1 = k)) = true
  · rw [if_pos z, if_pos z]; exact RelWK.mapP q r
  · rw [if_neg z, if_neg z]; exact RelWK.snoc q r
theorem RelWK.puts {ω : Wd} : ∀ {m : List (Key × Sv)} {us : List (Key × V)} {l : List (Key × Sv)} {vs : List (Key × V)}, RelWK T ω m us → RelWK T ω l vs → RelWK T ω (putsD l m) (mergeK vs us)
  | [], _, _, _, e, r => by cases e; exact r
  | (k, w) :: m, _, l, vs, ⟨v, u, e, r1, r2⟩, r => by
    subst e
    show RelWK T ω (putsD (putD l k w) m) (mergeK (putK vs k v) u)
    exact RelWK.puts r2 (RelWK.put r1 r)
theorem RelWK.length {ω : Wd} : ∀ {m : List (Key × Sv)} {us : List (Key × V)}, RelWK T ω m us → us.length = m.length
  | [], _, e => by cases e; rfl
  | (_, _) :: _, _, ⟨_, _, e, _, r⟩ => by subst e; simp [RelWK.length r]
theorem hn_dsp {k v : Expr} {ks : List (Option Expr)} {vs : List Expr} {kvs : List (Key × Sv)} (h : HD T n κ (some k :: ks) (v :: vs) σ G kvs G1) (hall : (some k :: ks).all (·.isSome) = true) (hl : (some k :: ks).length = (v :: vs).length) (h15 : (some k :: ks).length ≤ 15) (h15' : kvs.length ≤ 15) :
    HN T n κ (.Dict (some k :: ks) (v :: vs) p) σ G (.dic (putsD [] kvs)) G1 := by
  intro X c
  obtain ⟨trs, h1, h2⟩ := h X c p
  refine PE.imp (pe_disp h1 hall hl (by simp) h15) fun σv H Q ⟨ω, S, R, out⟩ => fun d hd => h2 _ _ _ ?_
  have fd : ω.φ d = none := by
    cases e : ω.φ d with
    | none => rfl
    | some u => have := S.sub _ _ e; rw [hd] at this; cases this
  have nd : d ∉ ω.ρ := fun z => S.ex d z hd
  have W : Wle ω ω := Wle.refl _
  have S1 : Sim T ω (upd H d (.dK [])) G := ⟨fun a o z => by
      have n1 : a ≠ d := fun y => by subst y; rw [fd] at z; cases z
      rw [upd_ne n1]; exact S.sub a o z, S.nod, S.len, fun i m a hm ha => by
      rcases S.at_ i m a hm ha with z | ⟨z1, o, z2, z3⟩
      · exact .inl z
      · have n1 : a ≠ d := fun y => by subst y; exact nd (List.mem_of_getElem? ha)
        exact .inr ⟨z1, o, (upd_ne n1).trans z2, z3⟩, fun a ha => by
      have n1 : a ≠ d := fun y => by subst y; exact nd ha
      rw [upd_ne n1]; exact S.ex a ha, tabs_new S.tb hd, S.nt⟩
  have st0 : Stp ω H ω (upd H d (.dK [])) := ⟨W, fun a o z _ _ => by
      have n1 : a ≠ d := fun y => by subst y; rw [hd] at z; cases z
      rw [upd_ne n1]; exact z, fun a z y => absurd z y, fun a z y => absurd y z, fun a z => by
      by_cases n1 : a = d
      · subst n1; exact hd
      · rw [upd_ne n1] at z; exact z, fun a ps e => ⟨ps, (upd_ne (ne_of_none e hd)).trans e⟩⟩
  refine ⟨ω, S1, R, fun ω' H' us st' S' r => ?_⟩
  have hd' : H' d = some (.dK []) := st'.kp d _ upd_same (fun ps z => by cases z) nd
  refine ⟨hd', us, rfl, by rw [r.length]; exact h15', ?_⟩
  -- the new dict is put anew in a heap that lacks it
  have fd' : ω'.φ d = none := by
    cases e : ω'.φ d with
    | none => rfl
    | some u =>
      rcases st'.fr d (by rw [e]; simp) fd with z | z | ⟨ψ, z⟩
      · rw [upd_same] at z; cases z
      · exact absurd z nd
      · rw [upd_same] at z; cases z
  have nd' : d ∉ ω'.ρ := fun z => by
    have := st'.nw d z nd
    rw [upd_same] at this; cases this
  let H0 : Hp := fun a => if a = d then none else H' a
  have h0 : H0 d = none := if_pos rfl
  have h0n : ∀ {a}, a ≠ d → H0 a = H' a := fun z => if_neg z
  have S0 : Sim T ω' H0 G1 := ⟨fun a o z => by
      have n1 : a ≠ d := fun y => by subst y; rw [fd'] at z; cases z
      rw [h0n n1]; exact S'.sub a o z, S'.nod, S'.len, fun i m a hm ha => by
      rcases S'.at_ i m a hm ha with z | ⟨z1, o, z2, z3⟩
      · exact .inl z
      · have n1 : a ≠ d := fun y => by subst y; exact nd' (List.mem_of_getElem? ha)
        exact .inr ⟨z1, o, (h0n n1).trans z2, z3⟩, fun a ha => by
      have n1 : a ≠ d := fun y => by subst y; exact nd' ha
      rw [h0n n1]; exact S'.ex a ha, tabs_ext S'.tb fun b o e k => by
      have n1 : b ≠ d := fun y => by
        subst y; rw [hd'] at e; cases e
        rcases k with ⟨_, z⟩ | ⟨_, z⟩ <;> cases z
      exact (h0n n1).trans e, S'.nt⟩
  have st2 := st0.trans st'
  have st1 : Stp ω H ω' H0 := ⟨st2.w, fun a o z t y => by
      have n1 : a ≠ d := fun y => by subst y; rw [hd] at z; cases z
      rw [h0n n1]; exact st2.kp a o z t y, st2.nw, st2.fr, fun a z => by
      by_cases n1 : a = d
      · subst n1; exact hd
      · rw [h0n n1] at z; exact st2.al a z, fun a ps e => by
      obtain ⟨qs, z⟩ := st2.tl a ps e
      exact ⟨qs, (h0n (fun y => by subst y; rw [hd] at e; cases e)).trans z⟩⟩
  have e0 : upd H0 d (.dK (mergeK [] us)) = upd H' d (.dK (mergeK [] us)) := by
    funext a
    by_cases n1 : a = d
    · subst n1; rw [upd_same, upd_same]
    · rw [upd_ne n1, upd_ne n1, h0n n1]
  rw [← e0]
  exact out ω' H0 d _ st1 S0 h0 ⟨_, rfl, RelWK.puts r rfl⟩
end
end Fx

end

section
set_option Elab.async false
set_option linter.all false
set_option maxRecDepth 100000
set_option maxHeartbeats 1000000
/-! Targets, what is walked, comprehensions. -/
namespace Fx
open PySem L2 PyProof.Rows
/-! ### wiped names -/
theorem wipe_in {σ : L2.St} {i : Nat} : ∀ {vs : List Nat}, i ∈ vs → i < σ.length → (wipe σ vs)[i]? = some none
  | [], h, _ => by cases h
  | v :: vs, h, hl => by
    show ((wipe σ vs).set v none)[i]? = some none
    by_cases c : v = i
    · subst c
      rw [List.getElem?_set_self (by rw [wipe_length]; exact hl)]
    · rw [List.getElem?_set_ne c]
      rcases List.mem_cons.mp h with z | z
      · exact absurd z.symm c
      · exact wipe_in z hl
theorem wipe_out' {σ : L2.St} {i : Nat} : ∀ {vs : List Nat}, i ∉ vs → (wipe σ vs)[i]? = σ[i]?
  | [], _ => rfl
  | v :: vs, h => by
    show ((wipe σ vs).set v none)[i]? = _
    rw [List.getElem?_set_ne (fun z => h (by simp [z]))]
    exact wipe_out' fun z => h (List.mem_cons_of_mem _ z)
theorem wipe_ext {σ σ' : L2.St} {vs : List Nat} (hl : σ.length = σ'.length) (h : ∀ i, i ∉ vs → σ[i]? = σ'[i]?) : wipe σ vs = wipe σ' vs := by
  apply List.ext_getElem?
  intro i
  by_cases c : i ∈ vs
  · by_cases l : i < σ.length
    · rw [wipe_in c l, wipe_in c (hl ▸ l)]
    · rw [List.getElem?_eq_none (by rw [wipe_length]; omega), List.getElem?_eq_none (by rw [wipe_length]; omega)]
  · rw [wipe_out' c, wipe_out' c]; exact h i c
/-- a store that only names of l are written in -/
def Wr (l : List Nat) (σ σ' : L2.St) : Prop := σ'.length = σ.length ∧ ∀ i, i ∉ l → σ'[i]? = σ[i]?
theorem Wr.refl {l : List Nat} {σ : L2.St} : Wr l σ σ := ⟨rfl, fun _ _ => rfl⟩
theorem Wr.set {σ : L2.St} (i : Nat) (x : Option V) : Wr [i] σ (σ.set i x) := ⟨by simp, fun j h => List.getElem?_set_ne (fun z => h (by simp [z]))⟩
theorem Wr.trans {l m : List Nat} {σ σ1 σ2 : L2.St} (h : Wr l σ σ1) (k : Wr m σ1 σ2) : Wr (l ++ m) σ σ2 := ⟨k.1.trans h.1, fun i z => (k.2 i fun y => z (by simp [y])).trans (h.2 i fun y => z (by simp [y]))⟩
theorem Wr.wipe {l vs : List Nat} {σ σ1 : L2.St} (h : Wr l (wipe σ vs) σ1) (hv : ∀ i ∈ l, i ∈ vs) : L2.wipe σ1 vs = L2.wipe σ vs := by
  refine wipe_ext (h.1.trans (wipe_length _ _)) fun i z => ?_
  rw [h.2 i (fun y => z (hv i y)), wipe_out' z]
theorem RelSt.wipe {T : Ty} {ω : Wd} {σ : Sg} {σv : L2.St} (R : RelSt T ω σ σv) : ∀ vs : List Nat, RelSt T ω (wipeS σ vs) (L2.wipe σv vs)
  | [] => R
  | v :: vs => (RelSt.wipe R vs).setN v none
/-! ### targets -/
def gTr (T : Ty) (t : Tg) : TG := fun v σv H Q => ∃ ω G w σ σ1, Sim T ω H G ∧ RelSt T ω σ σv ∧ RelW T ω w v ∧ bindT t w σ = some σ1 ∧ ∀ σv', RelSt T ω σ1 σv' → Wr (tgN t) σv σv' → Q σv' H
def gsTr (T : Ty) (l : List Tg) : TGs := fun vs σv H Q => ∃ ω G ws σ σ1, Sim T ω H G ∧ RelSt T ω σ σv ∧ RelWs T ω ws vs ∧ bindTs l ws σ = some σ1 ∧ ∀ σv', RelSt T ω σ1 σv' → Wr (tgNs l) σv σv' → Q σv' H
theorem ErTg.each {N : List Str} {sc : Scope} {b : Bool} {e : Expr} {t : Tg} (h : ErTg N sc b e t) : ∀ es env, assignEach (e :: es) env = (false, assign e env) :: assignEach es env := by
  cases h <;> exact fun _ _ => rfl
theorem ErTgs.len {N : List Str} {sc : Scope} {b : Bool} : ∀ {es : List Expr} {l : List Tg}, ErTgs N sc b es l → es.length = l.length
  | _, _, .nil => rfl
  | _, _, .cons _ h => by rw [List.length_cons, List.length_cons, h.len]
theorem ErTgs.map {N : List Str} {sc : Scope} {b : Bool} (env : Env) : ∀ {es : List Expr} {l : List Tg}, ErTgs N sc b es l → (assignEach es env).length = es.length ∧ (assignEach es env).findIdx? (·.1) = none
  | _, _, .nil => ⟨rfl, rfl⟩
  | _, _, .cons h hr => by
    rw [h.each]
    obtain ⟨a, b⟩ := hr.map env
    refine ⟨by rw [List.length_cons, List.length_cons, a], ?_⟩
    rw [List.findIdx?_cons, b]; rfl
mutual
theorem pg_of {T : Ty} {X : Cx} {b : Bool} {sc : Scope} {N : List Str} (hK : X.K = T.K) (hn : X.N = N) (hnd : N.Nodup) (hs : ∀ x, sc.names.lookup x = some .local → X.env.scope.names.lookup x = some .local) (hs2 : b = true → ∀ x, sc.names.lookup x = some .cell → X.env.scope.names.lookup x = some .cell) (hc : X.calm = true) (hf : b = true → ∀ x, X.fn x = true) :
    ∀ {e : Expr} {t : Tg}, ErTg N sc b e t → PG X e (gTr T t)
  | _, _, .nm (i := i) h hl => by
    refine PG.imp (pg_name (hn ▸ hnd) (hn ▸ h) (hl.elim (fun z => .inl (hs _ z)) fun z => .inr (hs2 z.2 _ z.1)) (hl.elim (fun z => .inr (hs _ z)) fun z => .inl (hf z.2 _))) fun v σv H Q ⟨ω, G, w, σ, σ1, S, R, r, e, k⟩ => ?_
    have e : some (σ.set i (some w)) = some σ1 := e
    cases e
    exact k _ (R.set i r) (Wr.set i _)
  | _, _, .tup (es := es) (l := l) h => by
    have p := pgs_of hK hn hnd hs hs2 hc hf h
    obtain ⟨m1, m2⟩ := h.map X.env
    have p1 := pg_tup (X := X) (pos := default) (k := 0) hc p m1 m2
    refine ⟨fun pins s σv H v u Q I rv ⟨ω, G, w, σ, σ1, S, R, r, e, k⟩ => ?_⟩
    cases w with
    | r i => cases e
    | d d =>
      cases d with
      | tup ds =>
        have e : bindTs l (ds.map .d) σ = some σ1 := e
        obtain ⟨a, vs, ev, sq, rr⟩ := r
        refine (pg_tup hc p m1 m2).run pins s σv H v u Q I rv ⟨a, vs, ev, hK ▸ S.sub.sqt sq, ?_, ω, G, _, σ, σ1, S, R, RelWs.of rr, e, k⟩
        rw [rr.length, h.len]
        have : ∀ {l : List Tg} {ws : List Sv} {σ : Sg}, bindTs l ws σ = some σ1 → ws.length = l.length := by
          intro l
          induction l with
          | nil => intro ws σ h; cases ws with
            | nil => rfl
            | cons w ws => cases h
          | cons t l ih => intro ws σ h; cases ws with
            | nil => cases h
            | cons w ws =>
              have h : (bindT t w σ).bind (fun σ' => bindTs l ws σ') = some σ1 := h
              cases q : bindT t w σ with
              | none => rw [q] at h; cases h
              | some σ' => rw [q] at h; rw [List.length_cons, List.length_cons, ih (show bindTs l ws σ' = some σ1 from h)]
        simpa using this e
      | lst ds =>
        have e : bindTs l (ds.map .d) σ = some σ1 := e
        obtain ⟨a, vs, ev, sq, rr⟩ := r
        refine (pg_lst hc p m1 m2).run pins s σv H v u Q I rv ⟨a, vs, ev, .of (S.sub _ _ sq), ?_, ω, G, _, σ, σ1, S, R, RelWs.of rr, e, k⟩
        rw [rr.length, h.len]
        have : ∀ {l : List Tg} {ws : List Sv} {σ : Sg}, bindTs l ws σ = some σ1 → ws.length = l.length := by
          intro l
          induction l with
          | nil => intro ws σ h; cases ws with
            | nil => rfl
            | cons w ws => cases h
          | cons t l ih => intro ws σ h; cases ws with
            | nil => cases h
            | cons w ws =>
              have h : (bindT t w σ).bind (fun σ' => bindTs l ws σ') = some σ1 := h
              cases q : bindT t w σ with
              | none => rw [q] at h; cases h
              | some σ' => rw [q] at h; rw [List.length_cons, List.length_cons, ih (show bindTs l ws σ' = some σ1 from h)]
        simpa using this e
      | _ => cases e
theorem pgs_of {T : Ty} {X : Cx} {b : Bool} {sc : Scope} {N : List Str} (hK : X.K = T.K) (hn : X.N = N) (hnd : N.Nodup) (hs : ∀ x, sc.names.lookup x = some .local → X.env.scope.names.lookup x = some .local) (hs2 : b = true → ∀ x, sc.names.lookup x = some .cell → X.env.scope.names.lookup x = some .cell) (hc : X.calm = true) (hf : b = true → ∀ x, X.fn x = true) :
    ∀ {es : List Expr} {l : List Tg}, ErTgs N sc b es l → PGs X es (gsTr T l)
  | _, _, .nil => PGs.imp pgs_nil fun vs σv H Q ⟨ω, G, ws, σ, σ1, S, R, r, e, k⟩ => by
    cases ws with
    | nil =>
      cases r
      cases e
      exact ⟨rfl, k _ R Wr.refl⟩
    | cons w ws => cases e
  | _, _, .cons (t := t) (l := l) h hr => by
    refine PGs.imp (pgs_cons (pg_of hK hn hnd hs hs2 hc hf h) (pgs_of hK hn hnd hs hs2 hc hf hr) (by rw [h.each]; rfl)) fun vs σv H Q ⟨ω, G, ws, σ, σ1, S, R, r, e, k⟩ => ?_
    cases ws with
    | nil => cases e
    | cons w ws =>
      obtain ⟨v, us, rfl, r1, r2⟩ := r
      have e : (bindT t w σ).bind (fun σ' => bindTs l ws σ') = some σ1 := e
      cases q : bindT t w σ with
      | none => rw [q] at e; cases e
      | some σ' =>
        rw [q] at e
        exact ⟨v, us, rfl, ω, G, w, σ, σ', S, R, r1, q, fun σv' R' W' => ⟨ω, G, ws, σ', σ1, S, R', r2, e, fun σv2 R2 W2 => k σv2 R2 (W'.trans W2)⟩⟩
end
/-! ### what is walked -/
structure Wk (T : Ty) (φ : Hp) (ds : List D) (J : L2.It) : Prop where
  go : ∀ i H, Le φ H → i < ds.length → J.go i H
  stop : ∀ i H, Le φ H → ds.length ≤ i → J.stop i H
  yld : ∀ i d H x H' ω G, ds[i]? = some d → Sim T ω H G → Le φ ω.φ → J.yld i H x H' → ∃ ω', Stp ω H ω' H' ∧ Sim T ω' H' G ∧ Rel T ω'.φ d x
def tI (T : Ty) (σ : Sg) (G : Gs) (ds : List D) (G' : Gs) : TI := fun σv H R => ∃ ω, Sim T ω H G ∧ RelSt T ω σ σv ∧ ∀ ω' H' J, Stp ω H ω' H' → Sim T ω' H' G' → Wk T ω'.φ ds J → R J H'
def HI (T : Ty) (n : Nat) (κ : Kx) (tg it : Expr) (σ : Sg) (G : Gs) (ds : List D) (G' : Gs) : Prop := ∀ X, Cok T n κ X → PI X tg it (tI T σ G ds G')
section
variable {T : Ty} {τ : Tb} {n : Nat} {κ : Kx} {σ σ1 : Sg} {G G1 G2 G3 : Gs} {tg e a b : Expr} {p q : Pos}
theorem wk_list {K : PySem.W.Frag} {φ : Hp} {ad : Addr} {vs : List V} {ds : List D} (h : ∀ H, Le φ H → SqL K H ad vs) (inj : ∀ H xs, Le φ H → SqL K H ad xs → xs = vs) (r : Rels T φ ds vs) : Wk T φ ds (Itl K ad) where
  go i H le hi := ⟨vs, _, h H le, List.getElem?_eq_getElem (by rw [r.length]; exact hi)⟩
  stop i H le hi := ⟨vs, h H le, by rw [r.length]; exact hi⟩
  yld i d H x H' ω G hd S le y := by
    obtain ⟨e, k⟩ := y
    subst e
    obtain ⟨v, ev, rv⟩ := r.get hd
    have := k vs (h _ (le.trans S.sub))
    rw [this] at ev
    cases ev
    exact ⟨ω, Stp.refl _ _, S, rv.mono le⟩
theorem wk_tup {K : PySem.W.Frag} {φ : Hp} {ad : Addr} {vs : List V} {ds : List D} (h : ∀ H, Le φ H → SqT K H ad vs) (r : Rels T φ ds vs) : Wk T φ ds (Itt K ad) where
  go i H le hi := ⟨vs, _, h H le, List.getElem?_eq_getElem (by rw [r.length]; exact hi)⟩
  stop i H le hi := ⟨vs, h H le, by rw [r.length]; exact hi⟩
  yld i d H x H' ω G hd S le y := by
    obtain ⟨e, k⟩ := y
    subst e
    obtain ⟨v, ev, rv⟩ := r.get hd
    have := k vs (h _ (le.trans S.sub))
    rw [this] at ev
    cases ev
    exact ⟨ω, Stp.refl _ _, S, rv.mono le⟩
theorem wk_list' {K : PySem.W.Frag} {φ : Hp} {ad : Addr} {vs : List V} {ds : List D} (h : ∀ H, Le φ H → SqL K H ad vs) (r : Rels T φ ds vs) : Wk T φ ds (Itl K ad) where
  go i H le hi := ⟨vs, _, h H le, List.getElem?_eq_getElem (by rw [r.length]; exact hi)⟩
  stop i H le hi := ⟨vs, h H le, by rw [r.length]; exact hi⟩
  yld i d H x H' ω G hd S le y := by
    obtain ⟨e, k⟩ := y
    subst e
    obtain ⟨v, ev, rv⟩ := r.get hd
    have := k vs (h _ (le.trans S.sub))
    rw [this] at ev
    cases ev
    exact ⟨ω, Stp.refl _ _, S, rv.mono le⟩
theorem hi_seq {d : D} {ds : List D} (h : HE T n κ e σ G (.ok (.d d)) G1) (eq : itemsD d = some ds) : HI T n κ tg e σ G ds G1 := by
  intro X c
  cases d with
  | tup l =>
    cases eq
    refine PI.imp (pi_tup (h X c W0 (takes_f X))) fun σv H R ⟨ω, S, Rs, k⟩ => tE.mk (W := W0) S Rs fun ω1 H1 v st1 S1 R1 r1 => ?_
    obtain ⟨a, vs, rfl, sq, r⟩ := r1
    exact ⟨a, rfl, ⟨vs, c.K ▸ S1.sub.sqt sq⟩, k ω1 H1 _ st1 S1 (wk_tup (fun H le => c.K ▸ le.sqt sq) r)⟩
  | lst l =>
    cases eq
    refine PI.imp (pi_list (h X c W0 (takes_f X))) fun σv H R ⟨ω, S, Rs, k⟩ => tE.mk (W := W0) S Rs fun ω1 H1 v st1 S1 R1 r1 => ?_
    obtain ⟨a, vs, rfl, sq, r⟩ := r1
    exact ⟨a, rfl, ⟨vs, .of (S1.sub _ _ sq)⟩, k ω1 H1 _ st1 S1 (wk_list' (fun H le => .of (le _ _ sq)) r)⟩
  | scr l =>
    cases eq
    refine PI.imp (pi_list (h X c W0 (takes_f X))) fun σv H R ⟨ω, S, Rs, k⟩ => tE.mk (W := W0) S Rs fun ω1 H1 v st1 S1 R1 r1 => ?_
    obtain ⟨a, rfl, sq⟩ := r1
    exact ⟨a, rfl, ⟨_, c.K ▸ S1.sub.sql sq⟩, k ω1 H1 _ st1 S1 (wk_list' (fun H le => c.K ▸ le.sql sq) (Rels.ints _))⟩
  | str x =>
    cases eq
    refine PI.imp (pi_str (h X c W0 (takes_f X))) fun σv H R ⟨ω, S, Rs, k⟩ => tE.mk (W := W0) S Rs fun ω1 H1 v st1 S1 R1 r1 => ?_
    cases (show _ = _ from r1)
    refine ⟨x, rfl, k ω1 H1 _ st1 S1 ⟨fun i H le hi => ?_, fun i H le hi => ?_, fun i d H y H' ω' G' hd S' le yl => ?_⟩⟩
    · show i < x.cps.size
      simpa using hi
    · show x.cps.size ≤ i
      simpa using hi
    · obtain ⟨e, cc, hcc, rfl⟩ := yl
      subst e
      refine ⟨ω', Stp.refl _ _, S', ?_⟩
      have : some (D.str ⟨#[cc]⟩) = some d := by
        rw [← hd, List.getElem?_map, Array.getElem?_toList, hcc]; rfl
      cases this
      rfl
  | _ => cases eq
theorem hi_rng1 {j : Nat} {i : Int} {l : List CE} (F : Fc T τ) (hx : κ.gl[j]? = some ("range" : Str)) (hf : τ.fr "range") (el : ErA τ κ [e] l) (h : HE T n κ e σ G (.ok (.d (.int i))) G1) (k : -(2 ^ 62) ≤ i ∧ i < 2 ^ 62) :
    HI T n κ tg (.Call (.Name "range" p) [e] [] q) σ G ((List.range i.toNat).map fun (k : Nat) => .int (k : Int)) G1 := by
  intro X c
  refine PI.imp (pi_range1 (c.gl hx) (c.mg ▸ F.fr _ hf) (pa_cons (h X c W0 (takes_f X)) pa_nil (el.head _)) (by rw [el.head]; rfl)) fun σv H R ⟨ω, S, Rs, kk⟩ => tE.mk (W := W0) S Rs fun ω1 H1 v st1 S1 R1 r1 => ?_
  cases (show _ = _ from r1)
  refine ⟨i, rfl, k.1, k.2, kk ω1 H1 _ st1 S1 ⟨fun i' H le hi => ?_, fun i' H le hi => ?_, fun i' d H y H' ω' G' hd S' le yl => ?_⟩⟩
  · show i' < i.toNat
    simpa using hi
  · show i.toNat ≤ i'
    simpa using hi
  · obtain ⟨e, rfl⟩ := yl
    subst e
    refine ⟨ω', Stp.refl _ _, S', ?_⟩
    rw [List.getElem?_map] at hd
    cases z : (List.range i.toNat)[i']? with
    | none => rw [z] at hd; cases hd
    | some m =>
      rw [z] at hd
      have : m = i' := by
        obtain ⟨hl, e⟩ := List.getElem?_eq_some_iff.mp z
        simpa using e.symm
      subst this
      cases hd
      show V.int (0 + (m : Int)) = V.int m
      rw [Int.zero_add]
end
end Fx

end

section
set_option Elab.async false
set_option linter.all false
set_option maxRecDepth 100000
set_option maxHeartbeats 1000000
/-! Comprehensions. -/
namespace Fx
open PySem L2 PyProof.Rows
theorem te_lst {vs : List V} : ¬ TabE (.lst vs) := by rintro (⟨_, z⟩ | ⟨_, z⟩) <;> cases z
/-- one address out of sight -/
def hide (p : Addr) (H : Hp) : Hp := fun a => if a = p then none else H a
section
variable {T : Ty} {ω ω' : Wd} {H H' : Hp} {G G' : Gs} {p : Addr} {o u : L2.HO}
theorem hide_at : hide p H p = none := if_pos rfl
theorem hide_ne {a : Addr} (h : a ≠ p) : hide p H a = H a := if_neg h
theorem hide_some {a : Addr} (h : hide p H a = some o) : H a = some o := by
  by_cases c : a = p
  · subst c; rw [hide_at] at h; cases h
  · rw [hide_ne c] at h; exact h
theorem hide_upd : hide p (upd H p o) = hide p H := by
  funext a
  by_cases c : a = p
  · subst c; rw [hide_at, hide_at]
  · rw [hide_ne c, hide_ne c, upd_ne c]
theorem hide_none (h : H p = none) : hide p H = H := by
  funext a
  by_cases c : a = p
  · subst c; rw [hide_at, h]
  · rw [hide_ne c]
theorem upd_hide (h : H p = some o) : upd (hide p H) p o = H := by
  funext a
  by_cases c : a = p
  · subst c; rw [upd_same, h]
  · rw [upd_ne c, hide_ne c]
theorem Sim.unhide (S : Sim T ω (hide p H) G) : Sim T ω H G := ⟨fun a o h => hide_some (S.sub a o h), S.nod, S.len, fun i m a hm ha => by
    rcases S.at_ i m a hm ha with h | ⟨h1, o, h2, h3⟩
    · exact .inl h
    · exact .inr ⟨h1, o, hide_some h2, h3⟩, fun a ha z => S.ex a ha (by
      by_cases c : a = p
      · subst c; exact hide_at
      · rw [hide_ne c]; exact z), tabs_ext S.tb fun b o e _ => hide_some e, S.nt⟩
theorem Sim.notφ (S : Sim T ω H G) (h : H p = none) : ω.φ p = none := by
  cases e : ω.φ p with
  | none => rfl
  | some u => have := S.sub _ _ e; rw [h] at this; cases this
theorem Sim.notρ (S : Sim T ω H G) (h : H p = none) : p ∉ ω.ρ := fun z => S.ex p z h
/-- a step with the hidden one in sight is one without it -/
theorem Stp.hide (S : Sim T ω (hide p H) G) (hp : H p = some u) (hu : ¬ TabE u) (st : Stp ω H ω' H') (S' : Sim T ω' H' G') : H' p = some u ∧ Sim T ω' (Fx.hide p H') G' ∧ Stp ω (Fx.hide p H) ω' (Fx.hide p H') := by
  have f := S.notφ hide_at
  have n := S.notρ hide_at
  have f' : ω'.φ p = none := by
    cases e : ω'.φ p with
    | none => rfl
    | some u =>
      rcases st.fr p (by rw [e]; simp) f with z | z | ⟨ψ, z⟩
      · rw [hp] at z; cases z
      · exact absurd z n
      · rw [hp] at z; cases z; exact absurd (.inr ⟨_, rfl⟩) hu
  have n' : p ∉ ω'.ρ := fun z => by
    have := st.nw p z n
    rw [hp] at this; cases this
  refine ⟨st.kp p u hp (fun ps z => hu (.inl ⟨ps, z⟩)) n, ⟨fun a o h => ?_, S'.nod, S'.len, fun i m a hm ha => ?_, fun a ha => ?_, tabs_ext S'.tb fun b o e k => ?_, S'.nt⟩, st.w, fun a o h t k => ?_, fun a h k => ?_, fun a h k => ?_, fun a h => ?_, fun a ps e => ?_⟩
  · have c : a ≠ p := fun z => by subst z; rw [f'] at h; cases h
    rw [hide_ne c]; exact S'.sub a o h
  · rcases S'.at_ i m a hm ha with h | ⟨h1, o, h2, h3⟩
    · exact .inl h
    · have c : a ≠ p := fun z => by subst z; exact n' (List.mem_of_getElem? ha)
      exact .inr ⟨h1, o, (hide_ne c).trans h2, h3⟩
  · have c : a ≠ p := fun z => by subst z; exact n' ha
    rw [hide_ne c]; exact S'.ex a ha
  · have c : b ≠ p := fun z => by
      rw [z, st.kp p u hp (fun ps z => hu (.inl ⟨ps, z⟩)) n] at e
      cases e; exact hu k
    rw [hide_ne c]; exact e
  · have c : a ≠ p := fun z => by subst z; rw [hide_at] at h; cases h
    rw [hide_ne c] at h ⊢
    exact st.kp a o h t k
  · by_cases c : a = p
    · subst c; exact hide_at
    · rw [hide_ne c]; exact st.nw a h k
  · rcases st.fr a h k with z | z | ⟨ψ, z⟩
    · refine .inl ?_
      by_cases c : a = p
      · subst c; exact hide_at
      · rw [hide_ne c]; exact z
    · exact .inr (.inl z)
    · by_cases c : a = p
      · subst c; exact .inl hide_at
      · exact .inr (.inr ⟨ψ, by rw [hide_ne c]; exact z⟩)
  · by_cases c : a = p
    · subst c; exact hide_at
    · rw [hide_ne c] at h ⊢; exact st.al a h
  · have c : a ≠ p := fun z => by subst z; rw [hide_at] at e; cases e
    rw [hide_ne c] at e ⊢
    exact st.tl a ps e
end
def HTs (T : Ty) (n : Nat) (κ : Kx) (ifs : List Expr) (σ : Sg) (G : Gs) (b : Bool) (G' : Gs) : Prop := ∀ X, Cok T n κ X → PTs X ifs (tT T σ G b G')
/-- the turns of a comprehension -/
inductive HC (T : Ty) (n : Nat) (κ : Kx) (elt : Expr) (ifs : List Expr) (tg : Tg) (σ : Sg) : List D → Gs → List Sv → Gs → Prop
  | nil {G} : HC T n κ elt ifs tg σ [] G [] G
  | t {d ds σ1 G G1 w G2 ws G3} (b : bindT tg (.d d) σ = some σ1) (h1 : HTs T n κ ifs σ1 G true G1) (h2 : HE T n κ elt σ1 G1 (.ok w) G2) (h3 : HC T n κ elt ifs tg σ ds G2 ws G3) : HC T n κ elt ifs tg σ (d :: ds) G (w :: ws) G3
  | f {d ds σ1 G G1 ws G3} (b : bindT tg (.d d) σ = some σ1) (h1 : HTs T n κ ifs σ1 G false G1) (h3 : HC T n κ elt ifs tg σ ds G1 ws G3) : HC T n κ elt ifs tg σ (d :: ds) G ws G3
section
variable {T : Ty} {τ : Tb} {n : Nat} {κ κ' : Kx} {σ σ1 : Sg} {G G1 G2 G3 : Gs} {tg e a b : Expr} {p q : Pos}
theorem hts_nil : HTs T n κ [] σ G true G := fun X c => ⟨fun pins s σv H Q I ⟨ω, S, R, k⟩ => pts_nil.run pins s σv H Q I (k ω H (Stp.refl _ _) S)⟩
theorem hts_one {z : Bool} (h : HT T n κ e σ G z G1) : HTs T n κ [e] σ G z G1 := fun X c => pts_one (h X c)
def ttA (T : Ty) (n : Nat) (κ : Kx) (ifs : List Expr) : TT := fun σv H Q => ∃ σ G b G', HTs T n κ ifs σ G b G' ∧ tT T σ G b G' σv H Q
def teA (T : Ty) (n : Nat) (κ : Kx) (e : Expr) : TE := fun σv H Q => ∃ σ G w G', HE T n κ e σ G (.ok w) G' ∧ tE T W0 σ G (.ok w) G' σv H Q
theorem pts_any {X : Cx} {ifs : List Expr} (c : Cok T n κ X) : PTs X ifs (ttA T n κ ifs) := ⟨fun pins s σv H Q I ⟨σ, G, b, G', h, q⟩ => (h X c).run pins s σv H Q I q⟩
theorem pe_any {X : Cx} (c : Cok T n κ X) : PE X e (teA T n κ e) := ⟨fun pins s σv H Q I ⟨σ, G, b, G', h, q⟩ => (h X c W0 (takes_f X)).run pins s σv H Q I q⟩
theorem lc_read {elt : Expr} {ifs : List Expr} {ctg : Tg} {vs : List Nat} {ds : List D} {ws : List Sv} {Q : VK} {σv : L2.St} {H : Hp} (hv : ∀ i ∈ tgN ctg, i ∈ vs) (hc : HC T n κ' elt ifs ctg (wipeS σ vs) ds G1 ws G2) (hk : ds.length ≤ 1000000) (t : tN T σ G (.lst ws) G2 σv H Q) :
    tLc (tI T σ G ds G1) (gTr T ctg) (ttA T n κ' ifs) (teA T n κ' elt) vs σv H Q := by
  obtain ⟨ω, S, R, out⟩ := t
  refine ⟨ω, S, R, fun ω1 H1 J st1 S1 wk D hD => ?_⟩
  have hs : sizeLine = 16777216 := sizeLine_eq
  let W : Nat → Nat → Hp → Prop := fun i m H => m = ds.length - i ∧ i ≤ ds.length ∧ ∃ ω' G' acc va wr, Sim T ω' (hide D H) G' ∧ Stp ω1 H1 ω' (hide D H) ∧ H D = some (.lst va) ∧ RelWs T ω' acc va ∧ HC T n κ' elt ifs ctg (wipeS σ vs) (ds.drop i) G' wr G2 ∧ ws = acc ++ wr ∧ acc.length ≤ i
  refine ⟨W, ⟨_, rfl, Nat.zero_le _, ω1, G1, [], [], ws, by rw [hide_upd, hide_none hD]; exact S1, by rw [hide_upd, hide_none hD]; exact Stp.refl _ _, upd_same, rfl, hc, rfl, Nat.le_refl _⟩, fun i m H2 w => ?_⟩
  obtain ⟨em, hi, ω2, G', acc, va, wr, S2, st2, hD2, ra, hcs, ew, la⟩ := w
  have S2' := S2.unhide
  have le : Le ω1.φ ω2.φ := st2.w.le
  by_cases c : i < ds.length
  · rw [List.drop_eq_getElem_cons c] at hcs
    have hd : ds[i]? = some ds[i] := List.getElem?_eq_getElem c
    refine .inr ⟨wk.go i H2 (le.trans S2'.sub) c, W (i + 1) (ds.length - (i + 1)), fun H' h => ⟨_, by omega, h⟩, fun x H3 y => ?_⟩
    obtain ⟨ω3, st3, S3, r3⟩ := wk.yld i _ H2 x H3 ω2 G' hd S2' le y
    have R3 : RelSt T ω3 (wipeS σ vs) (wipe σv vs) := RelSt.wipe ((R.mono st1.w).mono (st2.w.trans st3.w)) vs
    obtain ⟨hD3, S3h, st3h⟩ := Stp.hide S2 hD2 te_lst st3 S3
    generalize hdd : ds[i] = dd at hcs r3
    generalize hdr : ds.drop (i + 1) = dr at hcs
    cases hcs with
    | t b h1 h2 h3 =>
      refine ⟨ω3, G', .d dd, _, _, S3, R3, r3, b, fun σ4 R4 W4 => ⟨W4.wipe hv, _, _, _, _, h1, tT.mk S3 R4 fun ω5 H5 st5 S5 R5 => ?_⟩⟩
      rw [if_pos rfl]
      refine ⟨_, _, _, _, h2, tE.mk (W := W0) S5 R5 fun ω6 H6 y6 st6 S6 R6 r6 => ⟨va, ?_⟩⟩
      obtain ⟨hD6, S6h, st6h⟩ := Stp.hide S3h hD3 te_lst (st5.trans st6) S6
      refine ⟨hD6, by rw [ra.length]; omega, rfl, c, ω6, _, acc ++ [_], va ++ [y6], _, by rw [hide_upd]; exact S6h, by rw [hide_upd]; exact (st2.trans st3h).trans st6h, upd_same, RelWs.append (ra.mono (st3.w.trans (st5.w.trans st6.w))) ⟨y6, [], rfl, r6, rfl⟩, by rw [hdr]; exact h3, by rw [ew, List.append_assoc]; rfl, by simp; omega⟩
    | f b h1 h3 =>
      refine ⟨ω3, G', .d dd, _, _, S3, R3, r3, b, fun σ4 R4 W4 => ⟨W4.wipe hv, _, _, _, _, h1, tT.mk S3 R4 fun ω5 H5 st5 S5 R5 => ?_⟩⟩
      rw [if_neg (by decide)]
      obtain ⟨hD6, S6h, st6h⟩ := Stp.hide S3h hD3 te_lst st5 S5
      exact ⟨rfl, c, ω5, _, acc, va, _, S6h, (st2.trans st3h).trans st6h, hD6, ra.mono (st3.w.trans st5.w), by rw [hdr]; exact h3, ew, by omega⟩
  · have e : ds.drop i = [] := List.drop_eq_nil_of_le (by omega)
    rw [e] at hcs
    cases hcs
    refine .inl ⟨wk.stop i H2 (le.trans S2'.sub) (by omega), ?_⟩
    have := out ω2 (hide D H2) D (.lst va) (st1.trans st2) S2 hide_at ⟨va, rfl, by rw [ew, List.append_nil]; exact ra⟩
    rw [upd_hide hD2] at this
    exact this
theorem Cok.blk {X : Cx} {s : Shared} {H : Hp} {scope : Scope} {C : Addr} {cl : List (Str × Addr)} {fp : List Addr} (c : Cok T n κ X) (hN : κ'.N = κ.N ∧ κ'.fn = false) (hs : κ'.sc = relS scope κ.sc) (hk : kxB κ' = true) : Cok T n κ' (X.blk s H scope (compEnvC scope cl C X.env) fp) where
  K := c.K
  P := c.P
  w := c.w
  mg := c.mg
  base := c.base
  calm := c.calm
  N := hN.1 ▸ c.N
  nd := hN.1 ▸ c.nd
  sc := by rw [hs, ← c.sc]; rfl
  ok := kxB_ok hk
  room := c.room
  fn := fun h => by rw [hN.2] at h; cases h
  po := PassesOwn.never
theorem hn_lc {elt it : Expr} {ifs : List Expr} {scope : Scope} {own : List (Str × Nat)} {ctg : Tg} {ds : List D} {ws : List Sv} (hN : κ'.N = κ.N ∧ κ'.fn = false) (hs : κ'.sc = relS scope κ.sc) (hk : kxB κ' = true) (hb : blkC κ.N κ.sc scope own = true) (hg : ErTg κ.N scope false tg ctg)
    (hv : (tgN ctg).all (fun i => (own.map (·.2)).contains i) = true) (hf : ∀ env x, foldedSetIterable it env x = pure x)
    (hi : HI T n κ tg it σ G ds G1) (hc : HC T n κ' elt ifs ctg (wipeS σ (own.map (·.2))) ds G1 ws G2) (hl : ds.length ≤ 1000000) : HN T n κ (.ListComp elt [⟨tg, it, ifs, 0⟩] scope p) σ G (.lst ws) G2 := by
  intro X c
  have hv' : ∀ i ∈ tgN ctg, i ∈ own.map (·.2) := fun i h => by simpa using List.all_eq_true.mp hv i h
  refine PE.imp (pe_lc c.calm (c.N ▸ c.nd) (hi X c) (c.N ▸ c.sc ▸ blkOk_by hb) (fun s H C cl fp => ?_) (fun s H C cl fp => pts_any (c.blk hN hs hk)) (fun s H C cl fp => pe_any (c.blk hN hs hk)) (hf _)) fun σv H Q t => lc_read hv' hc hl t
  have cb := c.blk (s := s) (H := H) (C := C) (cl := cl) (fp := fp) hN hs hk
  exact pg_of cb.K c.N c.nd (fun x h => by rw [cb.sc, hs]; exact lookup_relS_keep (by decide) h) (fun h => by cases h) c.calm (fun h => by cases h) hg
end
end Fx

end

section
set_option Elab.async false
set_option linter.all false
set_option maxRecDepth 100000
set_option maxHeartbeats 1000000
/-! Statements, blocks, loops, functions. -/
namespace Fx
open PySem L2 PyProof.Rows
def EndO (T : Ty) (ω : Wd) (H : Hp) (G' : Gs) : Ot → Ends → Prop
  | .nxt σ', D => ∀ ω' H' σv', Stp ω H ω' H' → Sim T ω' H' G' → RelSt T ω' σ' σv' → D.nx σv' H'
  | .brk σ', D => ∀ ω' H' σv', Stp ω H ω' H' → Sim T ω' H' G' → RelSt T ω' σ' σv' → D.bk σv' H'
  | .cnt σ', D => ∀ ω' H' σv', Stp ω H ω' H' → Sim T ω' H' G' → RelSt T ω' σ' σv' → D.ct σv' H'
  | .ret w, D => ∀ ω' H' v, Stp ω H ω' H' → Sim T ω' H' G' → RelW T ω' w v → D.rt v H'
  | .ex _ _ _, _ => False
def tS (T : Ty) (σ : Sg) (G : Gs) (o : Ot) (G' : Gs) : TS := fun D σv H => ∃ ω, Sim T ω H G ∧ RelSt T ω σ σv ∧ EndO T ω H G' o D
def HS (T : Ty) (n : Nat) (κ : Kx) (s : Stmt) (σ : Sg) (G : Gs) (o : Ot) (G' : Gs) : Prop := ∀ X, Cok T n κ X → PS X s (tS T σ G o G')
def HB (T : Ty) (n : Nat) (κ : Kx) (s : List Stmt) (σ : Sg) (G : Gs) (o : Ot) (G' : Gs) : Prop := ∀ X, Cok T n κ X → PSs X s (tS T σ G o G')
inductive HR (T : Ty) (n : Nat) (κ : Kx) (tg : Tg) (b : List Stmt) : List D → Sg → Gs → Ot → Gs → Prop
  | nil {σ G} : HR T n κ tg b [] σ G (.nxt σ) G
  | t {d ds σ σ1 G σ2 G1 o G2} (e : bindT tg (.d d) σ = some σ1) (h1 : HB T n κ b σ1 G (.nxt σ2) G1) (h2 : HR T n κ tg b ds σ2 G1 o G2) : HR T n κ tg b (d :: ds) σ G o G2
  | c {d ds σ σ1 G σ2 G1 o G2} (e : bindT tg (.d d) σ = some σ1) (h1 : HB T n κ b σ1 G (.cnt σ2) G1) (h2 : HR T n κ tg b ds σ2 G1 o G2) : HR T n κ tg b (d :: ds) σ G o G2
  | b {d ds σ σ1 G σ2 G1} (e : bindT tg (.d d) σ = some σ1) (h1 : HB T n κ b σ1 G (.brk σ2) G1) : HR T n κ tg b (d :: ds) σ G (.nxt σ2) G1
  | r {d ds σ σ1 G w G1} (e : bindT tg (.d d) σ = some σ1) (h1 : HB T n κ b σ1 G (.ret w) G1) : HR T n κ tg b (d :: ds) σ G (.ret w) G1
inductive HW (T : Ty) (n : Nat) (κ : Kx) (c : Expr) (b : List Stmt) : Nat → Sg → Gs → Ot → Gs → Prop
  | f {σ G G1} (h : HT T n κ c σ G false G1) : HW T n κ c b 0 σ G (.nxt σ) G1
  | t {m σ G G1 σ1 G2 o G3} (h1 : HT T n κ c σ G true G1) (h2 : HB T n κ b σ1 G1 (.nxt σ1) G2) (h3 : HW T n κ c b m σ1 G2 o G3) : HW T n κ c b (m + 1) σ G o G3
section
variable {T : Ty} {n : Nat} {κ : Kx} {σ σ1 σ2 : Sg} {G G1 G2 G3 : Gs} {e o i : Expr} {tg : Expr} {p q : Pos} {t : Tg} {w : Sv} {ot : Ot} {s : Stmt} {ss : List Stmt} {c : Expr} {a b : List Stmt}
theorem EndO.trans {ω ω1 : Wd} {H H1 : Hp} {D : Ends} (k : EndO T ω H G ot D) (st : Stp ω H ω1 H1) : EndO T ω1 H1 G ot D := by
  cases ot <;> first | exact fun ω' H' x st' => k ω' H' x (st.trans st') | exact k
theorem Cok.sole {X : Cx} (c : Cok T n κ X) {t : Tg} (hg : ErTg κ.N κ.sc κ.fn e t) : PG X e (gTr T t) :=
  pg_of c.K c.N c.nd (fun x h => by rw [c.sc]; exact h) (fun _ x h => by rw [c.sc]; exact h) c.calm c.fn hg
theorem hs_asg (hg : ErTg κ.N κ.sc κ.fn tg t) (he : HE T n κ e σ G (.ok w) G1) (hb : bindT t w σ = some σ1) (hs : ∀ env : Env, env.scope = κ.sc → swapsWithSole [tg] e p.line env = pure false) (hw : ∀ env : Env, env.scope = κ.sc → swappedStores [tg] e env = pure none) :
    HS T n κ (.Assign [tg] e p) σ G (.nxt σ1) G1 := by
  intro X c
  refine PS.imp (ps_asg (he X c W0 (takes_f X)) (c.sole hg) (hs _ c.sc) (hw _ c.sc) (by rw [hg.each]; rfl)) fun D σv H ⟨ω, S, R, k⟩ => ?_
  refine tE.mk (W := W0) S R fun ω1 H1 v st1 S1 R1 r1 => ⟨ω1, G1, w, σ, σ1, S1, R1, r1, hb, fun σv' R' _ => k ω1 H1 σv' st1 S1 R'⟩
theorem hs_par {x y : Str} {a b : Expr} {px py pt pt2 : Pos} {k1 k2 : Nat} {i j : Nat} {u v : Sv} (hi : κ.N[i]? = some x) (hj : κ.N[j]? = some y) (hij : i ≠ j) (hx : κ.sc.names.lookup x = some .local) (hy : κ.sc.names.lookup y = some .local)
    (h : HA T n κ [a, b] σ G (.ok [u, v]) G1) (hw : ∀ env : Env, env.scope = κ.sc → swappedStores [.Tuple [.Name x px, .Name y py] k1 pt] (.Tuple [a, b] k2 pt2) env = pure (some [x, y]))
    (hs : ∀ env : Env, env.scope = κ.sc → swapsWithSole [.Tuple [.Name x px, .Name y py] k1 pt] (.Tuple [a, b] k2 pt2) p.line env = pure false) :
    HS T n κ (.Assign [.Tuple [.Name x px, .Name y py] k1 pt] (.Tuple [a, b] k2 pt2) p) σ G (.nxt ((σ.set i (some u)).set j (some v))) G1 := by
  intro X c
  refine PS.imp (ps_par c.calm (c.N ▸ c.nd) (c.N ▸ hi) (c.N ▸ hj) hij (c.sc ▸ hx) (c.sc ▸ hy) (h X c W0 (takes_f X)) (hw _ c.sc) (hs _ c.sc)) fun D σv H ⟨ω, S, R, k⟩ => ?_
  refine tA.mk (W := W0) S R fun ω1 H1 vs st1 S1 R1 r1 => ?_
  obtain ⟨v1, _, rfl, r2, v2, _, rfl, r3, rfl⟩ := r1
  exact ⟨v1, v2, rfl, k ω1 H1 _ st1 S1 ((R1.set i r2).set j r3)⟩
theorem hs_ret (h : HE T n κ e σ G (.ok w) G1) : HS T n κ (.Return (some e) p) σ G (.ret w) G1 := fun X c => PS.imp (ps_ret (h X c W0 (takes_f X))) fun D σv H ⟨ω, S, R, k⟩ => ⟨ω, S, R, k⟩
theorem hs_retN : HS T n κ (.Return none p) σ G (.ret (.d .non)) G := fun X c => PS.imp ps_retN fun D σv H ⟨ω, S, R, k⟩ => k ω H _ (Stp.refl _ _) S rfl
theorem hs_exp (h : HE T n κ e σ G (.ok w) G1) (hs : ∀ env : Env, swapsWith e none p.line env = pure false) : HS T n κ (.Expr e p) σ G (.nxt σ) G1 := fun X c => PS.imp (ps_expr (h X c W0 (takes_f X)) (hs _)) fun D σv H ⟨ω, S, R, k⟩ =>
  tE.mk (W := W0) S R fun ω1 H1 v st1 S1 R1 r1 => k ω1 H1 σv st1 S1 R1
theorem hs_iteT (hc : HT T n κ c σ G true G1) (h : HB T n κ a σ G1 ot G2) : HS T n κ (.If c a b p) σ G ot G2 := fun X cx => PS.imp (ps_if (hc X cx) (h X cx) pss_never) fun D σv H ⟨ω, S, R, k⟩ =>
  tT.mk S R fun ω1 H1 st1 S1 R1 => by rw [if_pos rfl]; exact ⟨ω1, S1, R1, k.trans st1⟩
theorem hs_iteF (hc : HT T n κ c σ G false G1) (h : HB T n κ b σ G1 ot G2) : HS T n κ (.If c a b p) σ G ot G2 := fun X cx => PS.imp (ps_if (hc X cx) pss_never (h X cx)) fun D σv H ⟨ω, S, R, k⟩ =>
  tT.mk S R fun ω1 H1 st1 S1 R1 => by rw [if_neg (by decide)]; exact ⟨ω1, S1, R1, k.trans st1⟩
theorem hs_brk : HS T n κ (.Break p) σ G (.brk σ) G := fun X c => PS.imp ps_break fun D σv H ⟨ω, S, R, k⟩ => k ω H σv (Stp.refl _ _) S R
theorem hs_cnt : HS T n κ (.Continue p) σ G (.cnt σ) G := fun X c => PS.imp ps_continue fun D σv H ⟨ω, S, R, k⟩ => k ω H σv (Stp.refl _ _) S R
theorem hs_pass : HS T n κ (.Pass p) σ G (.nxt σ) G := fun X c => PS.imp ps_pass fun D σv H ⟨ω, S, R, k⟩ => k ω H σv (Stp.refl _ _) S R
theorem Cok.nox {X : Cx} (c : Cok T n κ X) : Cok T n κ X.nox := ⟨c.K, c.P, c.w, c.mg, c.base, c.calm, c.N, c.nd, c.sc, c.ok, c.room, c.fn, PassesOwn.never⟩
theorem hs_try {h : ExceptHandler} {hs : List ExceptHandler} (hb : HB T n κ a σ G ot G1) : HS T n κ (.Try a (h :: hs) [] [] p) σ G ot G1 := fun X c => ps_try_thru0 (hb X.nox c.nox)
theorem hs_fset {τ : Tb} {f : Fl} {k : Nat} {cn : Cn} {l : List (Fl × Sv)} (F : Fc T τ) (h1 : HE T n κ e σ G (.ok w) G1) (h2 : HE T n κ o σ G1 (.ok (.r k)) G2) (hi : G2[k]? = some (.ins cn l)) (hl : l.length < 100)
    (hs : ∀ env : Env, swapsWith e (some (.Attribute o (Fl.s f) q)) p.line env = pure false) : HS T n κ (.Assign [.Attribute o (Fl.s f) q] e p) σ G (.nxt σ) (G2.set k (.ins cn (putL f w l))) := by
  intro X c
  refine PS.imp (ps_fld (h2 X c W0 (takes_f X)) (h1 X c W0 (takes_f X)) (hs _)) fun D σv H ⟨ω, S, R, kk⟩ => ?_
  refine tE.mk (W := W0) S R fun ω1 H1 v1 st1 S1 R1 r1 => tE.mk (W := W0) S1 R1 fun ω2 H2 v2 st2 S2 R2 r2 => ?_
  obtain ⟨a, ha, rfl⟩ := r2
  rcases S2.at_ k _ a hi ha with h | ⟨_, ob, ho, hc, dx, vs, rfl, rf⟩
  · cases h
  · obtain ⟨S', st'⟩ := store_set S2 (m := .ins cn (putL f w l)) (o := .ins (T.cA cn) dx (putF f.s v1 vs)) hi (by simp) ha ⟨hc, dx, _, rfl, RelWF.put (r1.mono st2.w) rf⟩
    refine ⟨a, T.cA cn, dx, vs, rfl, ho, c.K ▸ (F.insc cn hc).1, c.K ▸ F.noat cn f hc, by rw [rf.length]; omega, ?_⟩
    exact kk ω2 _ σv ((st1.trans st2).trans st') S' R2
theorem hs_setx {k : Nat} {l : List Sv} {ix : Int} {j : Nat} (h1 : HE T n κ e σ G (.ok w) G1) (h2 : HE T n κ o σ G1 (.ok (.r k)) G2) (h3 : HE T n κ i σ G2 (.ok (.d (.int ix))) G3) (hk : G3[k]? = some (.lst l)) (hj : ixN l.length ix = some j)
    (hs : ∀ env : Env, swapsWithSole [.Subscript o i q] e p.line env = pure false) (hw : ∀ env : Env, swappedStores [.Subscript o i q] e env = pure none)
    (ha : ∀ env v, assign (.Subscript o i q) env v = (do
        let ov ← holding [v] (eval o env)
        let iv ← holding [v, ov] (eval i env)
        standAt q
        holding [v, ov, iv] (setItem ov iv v)
        release [v, ov, iv] [])) : HS T n κ (.Assign [.Subscript o i q] e p) σ G (.nxt σ) (G3.set k (.lst (l.set j w))) := by
  intro X c
  refine PS.imp (ps_asg (h1 X c W0 (takes_f X)) (pg_sub (h2 X c W0 (takes_f X)) (h3 X c W0 (takes_f X)) set_list (ha _)) (hs _) (hw _) rfl) fun D σv H ⟨ω, S, R, kk⟩ => ?_
  refine tE.mk (W := W0) S R fun ω1 H1 v1 st1 S1 R1 r1 => tE.mk (W := W0) S1 R1 fun ω2 H2 v2 st2 S2 R2 r2 => tE.mk (W := W0) S2 R2 fun ω3 H3 v3 st3 S3 R3 r3 => ?_
  obtain ⟨a, ha', rfl⟩ := r2
  cases (show _ = _ from r3)
  have ha3 := st3.w.at_ ha'
  obtain ⟨vs, e1, e2⟩ := lst_at S3 hk ha3
  obtain ⟨S', st'⟩ := store_set S3 (m := .lst (l.set j w)) (o := .lst (vs.set j v1)) hk (by simp) ha3 ⟨_, rfl, e2.set j (r1.mono (st2.w.trans st3.w))⟩
  exact ⟨a, vs, ix, j, rfl, rfl, e1, by rw [e2.length]; exact hj, kk ω3 _ σv (((st1.trans st2).trans st3).trans st') S' R3⟩
/-! ### blocks -/
theorem hb_nil : HB T n κ [] σ G (.nxt σ) G := fun X c => PSs.imp pss_nil fun D σv H ⟨ω, S, R, k⟩ => k ω H σv (Stp.refl _ _) S R
theorem hb_cons (h1 : HS T n κ s σ G (.nxt σ1) G1) (h2 : HB T n κ ss σ1 G1 ot G2) : HB T n κ (s :: ss) σ G ot G2 := fun X c => PSs.imp (pss_cons (h1 X c) (h2 X c)) fun D σv H ⟨ω, S, R, k⟩ =>
  ⟨ω, S, R, fun ω1 H1 σv1 st1 S1 R1 => ⟨ω1, S1, R1, k.trans st1⟩⟩
theorem hb_stop (h1 : HS T n κ s σ G ot G1) (hn : ∀ τ, ot ≠ .nxt τ) : HB T n κ (s :: ss) σ G ot G1 := fun X c => PSs.imp (pss_cons (h1 X c) pss_never) fun D σv H ⟨ω, S, R, k⟩ => by
  refine ⟨ω, S, R, ?_⟩
  cases ot <;> first | exact k | exact absurd rfl (hn _)
theorem RelSt.sub {ω : Wd} : ∀ {σ τ : Sg} {l : L2.St}, Sub τ σ → RelSt T ω σ l → RelSt T ω τ l
  | _, _, _, .nil, R => R
  | none :: s, _, _, .keep h, ⟨x, r, e, R⟩ => ⟨x, r, e, RelSt.sub h R⟩
  | some w :: s, _, _, .keep h, ⟨v, r, e, q, R⟩ => ⟨v, r, e, q, RelSt.sub h R⟩
  | none :: s, _, _, .drop h, ⟨x, r, e, R⟩ => ⟨x, r, e, RelSt.sub h R⟩
  | some w :: s, _, _, .drop h, ⟨v, r, e, q, R⟩ => ⟨_, r, e, RelSt.sub h R⟩
theorem hb_sub (hs : Sub σ1 σ) (h : HB T n κ ss σ1 G ot G1) : HB T n κ ss σ G ot G1 := fun X c => PSs.imp (h X c) fun D σv H ⟨ω, S, R, k⟩ => ⟨ω, S, RelSt.sub hs R, k⟩
theorem hb_subO {ot' : Ot} (hs : SubO ot' ot) (h : HB T n κ ss σ G ot G1) : HB T n κ ss σ G ot' G1 := fun X c => PSs.imp (h X c) fun D σv H ⟨ω, S, R, k⟩ => by
  refine ⟨ω, S, R, ?_⟩
  cases hs with
  | nxt hh => exact fun ω' H' x st S R => k ω' H' x st S (RelSt.sub hh R)
  | brk hh => exact fun ω' H' x st S R => k ω' H' x st S (RelSt.sub hh R)
  | cnt hh => exact fun ω' H' x st S R => k ω' H' x st S (RelSt.sub hh R)
  | ex h => exact k
  | ret => exact k
/-- what stands in the store is frozen -/
theorem freeze {ω : Wd} {H : Hp} {k : Nat} {a : Addr} {o : L2.HO} (S : Sim T ω H G) (ha : ω.ρ[k]? = some a) (ho : H a = some o) (hf : ω.φ a = none) (hn : ∀ ps, o ≠ .tbl ps) : Sim T ⟨upd ω.φ a o, ω.ρ⟩ H (G.set k .gone) ∧ Stp ω H ⟨upd ω.φ a o, ω.ρ⟩ H := by
  have W : Wle ω ⟨upd ω.φ a o, ω.ρ⟩ := ⟨Le.upd hf, [], by simp⟩
  refine ⟨⟨fun b u h => ?_, S.nod, by simp [S.len], fun j m b hm hb => ?_, S.ex, S.tb, fun b ps (z : upd ω.φ a o b = _) => by
    by_cases q : b = a
    · subst q; rw [upd_same] at z; exact hn ps (Option.some.inj z)
    · rw [upd_ne q] at z; exact S.nt b ps z⟩, W, fun _ _ h _ _ => h, fun b h n => absurd h n, fun b h n => ?_, fun _ h => h, fun _ ps h => ⟨ps, h⟩⟩
  · have h : upd ω.φ a o b = some u := h
    by_cases c : b = a
    · subst c; rw [upd_same] at h; cases h; exact ho
    · rw [upd_ne c] at h; exact S.sub b u h
  · by_cases c : k = j
    · subst c
      have hl : k < G.length := by
        rw [← S.len]; exact (List.getElem?_eq_some_iff.mp ha).1
      rw [List.getElem?_set_self hl] at hm
      exact .inl (Option.some.inj hm).symm
    · rw [List.getElem?_set_ne c] at hm
      rcases S.at_ j m b hm hb with h | ⟨h1, u, h2, h3⟩
      · exact .inl h
      · have z : b ≠ a := fun z => by subst z; exact c (nodup_at S.nod ha hb)
        exact .inr ⟨(upd_ne z).trans h1, u, h2, h3.mono W⟩
  · by_cases c : b = a
    · subst c; exact .inr (.inl (List.mem_of_getElem? ha))
    · exact absurd ((upd_ne c).trans n) h
theorem hb_frz {i k : Nat} {ws : List Sv} {ds : List D} (hi : σ[i]? = some (some (.r k))) (hk : G[k]? = some (.lst ws)) (hd : ofSvs ws = some ds) (h : HB T n κ ss (σ.set i (some (.d (.lst ds)))) (G.set k .gone) ot G1) : HB T n κ ss σ G ot G1 := fun X c => PSs.imp (h X c) fun D σv H ⟨ω, S, R, kk⟩ => by
  obtain ⟨v, ev, rv⟩ := R.get hi
  obtain ⟨a, ha, rfl⟩ := rv
  rcases S.at_ k _ a hk ha with z | ⟨h1, o, h2, vs, rfl, r⟩
  · cases z
  · obtain ⟨S', st⟩ := freeze S ha h2 h1 (by intro _ h; cases h)
    rw [ofSvs_eq hd] at r
    have r2 : Rel T (upd ω.φ a (.lst vs)) (.lst ds) (.ref a) := ⟨a, vs, rfl, upd_same, Rels.mono st.w.le r.to⟩
    have R2 := (R.mono st.w).set (T := T) i (w := .d (.lst ds)) (v := .ref a) r2
    have e : σv.set i (some (.ref a)) = σv := by
      apply List.ext_getElem?
      intro j
      by_cases c : i = j
      · subst c
        rw [ev, List.getElem?_set_self ((List.getElem?_eq_some_iff.mp ev).1)]
      · rw [List.getElem?_set_ne c]
    rw [e] at R2
    exact ⟨_, S', R2, kk.trans st⟩
theorem hb_frzD {i k : Nat} {ws : List (Key × Sv)} {ds : List (Key × D)} (hi : σ[i]? = some (some (.r k))) (hk : G[k]? = some (.dic ws)) (hd : ofSvK ws = some ds) (h : HB T n κ ss (σ.set i (some (.d (.dic ds)))) (G.set k .gone) ot G1) : HB T n κ ss σ G ot G1 := fun X c => PSs.imp (h X c) fun D σv H ⟨ω, S, R, kk⟩ => by
  obtain ⟨v, ev, rv⟩ := R.get hi
  obtain ⟨a, ha, rfl⟩ := rv
  rcases S.at_ k _ a hk ha with z | ⟨h1, o, h2, vs, rfl, r⟩
  · cases z
  · obtain ⟨S', st⟩ := freeze S ha h2 h1 (by intro _ h; cases h)
    rw [ofSvK_eq hd] at r
    have r2 : Rel T (upd ω.φ a (.dK vs)) (.dic ds) (.ref a) := ⟨a, vs, rfl, upd_same, RelK.mono st.w.le r.to⟩
    have R2 := (R.mono st.w).set (T := T) i (w := .d (.dic ds)) (v := .ref a) r2
    have e : σv.set i (some (.ref a)) = σv := by
      apply List.ext_getElem?
      intro j
      by_cases c : i = j
      · subst c
        rw [ev, List.getElem?_set_self ((List.getElem?_eq_some_iff.mp ev).1)]
      · rw [List.getElem?_set_ne c]
    rw [e] at R2
    exact ⟨_, S', R2, kk.trans st⟩
/-! ### loops -/
def tbA (T : Ty) (n : Nat) (κ : Kx) (b : List Stmt) : TS := fun D σv H => ∃ σ G o G', HB T n κ b σ G o G' ∧ tS T σ G o G' D σv H
theorem pss_any {X : Cx} (c : Cok T n κ X) : PSs X b (tbA T n κ b) := ⟨fun pins s σv H D I ⟨σ, G, o, G', h, q⟩ => (h X c).run pins s σv H D I q⟩
theorem hs_for {it : Expr} {ds : List D} (hg : ErTg κ.N κ.sc κ.fn tg t) (hi : HI T n κ tg it σ G ds G1) (hr : HR T n κ t b ds σ G1 ot G2) (hf : ∀ env x, foldedSetIterable it env x = pure x) : HS T n κ (.For tg it b [] p) σ G ot G2 := by
  intro X c
  refine PS.imp (ps_for c.po c.calm (hi X c) (c.sole hg) (pss_any c) (hf _)) fun D σv H ⟨ω, S, R, k⟩ => ⟨ω, S, R, fun ω1 H1 J st1 S1 wk => ?_⟩
  have k1 := k.trans st1
  let W : Nat → Nat → L2.St → Hp → Prop := fun i m σv H => m = ds.length - i ∧ ∃ ω' σ' G', Sim T ω' H G' ∧ Stp ω1 H1 ω' H ∧ RelSt T ω' σ' σv ∧ HR T n κ t b (ds.drop i) σ' G' ot G2
  refine ⟨W, ⟨_, rfl, ω1, σ, G1, S1, Stp.refl _ _, R.mono st1.w, hr⟩, fun i m σv H2 w => ?_⟩
  obtain ⟨em, ω2, σ', G', S2, st2, R2, hr2⟩ := w
  have le : Le ω1.φ ω2.φ := st2.w.le
  by_cases cl : i < ds.length
  · rw [List.drop_eq_getElem_cons cl] at hr2
    have hd : ds[i]? = some ds[i] := List.getElem?_eq_getElem cl
    refine .inr ⟨wk.go i H2 (le.trans S2.sub) cl, W (i + 1) (ds.length - (i + 1)), fun σ' H' h => ⟨_, by omega, h⟩, fun x H3 y => ?_⟩
    obtain ⟨ω3, st3, S3, r3⟩ := wk.yld i _ H2 x H3 ω2 G' hd S2 le y
    have R3 : RelSt T ω3 σ' σv := R2.mono st3.w
    generalize hdd : ds[i] = dd at hr2 r3
    generalize hdr : ds.drop (i + 1) = dr at hr2
    cases hr2 with
    | t e h1 h2 =>
      refine ⟨ω3, G', .d dd, _, _, S3, R3, r3, e, fun σ4 R4 _ => ⟨_, _, _, _, h1, ω3, S3, R4, fun ω5 H5 σv5 st5 S5 R5 => ⟨rfl, ω5, _, _, S5, (st2.trans st3).trans st5, R5, by rw [hdr]; exact h2⟩⟩⟩
    | c e h1 h2 =>
      refine ⟨ω3, G', .d dd, _, _, S3, R3, r3, e, fun σ4 R4 _ => ⟨_, _, _, _, h1, ω3, S3, R4, fun ω5 H5 σv5 st5 S5 R5 => ⟨rfl, ω5, _, _, S5, (st2.trans st3).trans st5, R5, by rw [hdr]; exact h2⟩⟩⟩
    | b e h1 =>
      refine ⟨ω3, G', .d dd, _, _, S3, R3, r3, e, fun σ4 R4 _ => ⟨_, _, _, _, h1, ω3, S3, R4, fun ω5 H5 σv5 st5 S5 R5 => ?_⟩⟩
      exact k1 ω5 H5 σv5 ((st2.trans st3).trans st5) S5 R5
    | r e h1 =>
      refine ⟨ω3, G', .d dd, _, _, S3, R3, r3, e, fun σ4 R4 _ => ⟨_, _, _, _, h1, ω3, S3, R4, fun ω5 H5 v5 st5 S5 r5 => ?_⟩⟩
      exact k1 ω5 H5 v5 ((st2.trans st3).trans st5) S5 r5
  · have e : ds.drop i = [] := List.drop_eq_nil_of_le (by omega)
    rw [e] at hr2
    cases hr2
    exact .inl ⟨wk.stop i H2 (le.trans S2.sub) (by omega), k1 ω2 H2 σv st2 S2 R2⟩
end
end Fx

end

section
set_option Elab.async false
set_option linter.all false
set_option maxRecDepth 100000
set_option maxHeartbeats 1000000
/-! While, functions. -/
namespace Fx
open PySem L2 PyProof.Rows
section
variable {T : Ty} {n : Nat} {κ : Kx} {σ σ1 σ2 : Sg} {G G1 G2 G3 : Gs} {p : Pos} {ot : Ot} {c : Expr} {b : List Stmt}
def tcA (T : Ty) (n : Nat) (κ : Kx) (c : Expr) : TT := fun σv H Q => ∃ σ G z G', HT T n κ c σ G z G' ∧ tT T σ G z G' σv H Q
theorem pt_any {X : Cx} (cx : Cok T n κ X) : PT X c (tcA T n κ c) := ⟨fun pins s σv H D I ⟨σ, G, o, G', h, q⟩ => (h X cx).run pins s σv H D I q⟩
/-- a while's turns; m counts them -/
inductive HWl (T : Ty) (n : Nat) (κ : Kx) (c : Expr) (b : List Stmt) : Nat → Sg → Gs → Ot → Gs → Prop
  | f {m σ G G1} (h : HT T n κ c σ G false G1) : HWl T n κ c b m σ G (.nxt σ) G1
  | t {m σ G G1 σ1 G2 o G3} (h1 : HT T n κ c σ G true G1) (h2 : HB T n κ b σ G1 (.nxt σ1) G2) (h3 : HWl T n κ c b m σ1 G2 o G3) : HWl T n κ c b (m + 1) σ G o G3
  | b {m σ G G1 σ1 G2} (h1 : HT T n κ c σ G true G1) (h2 : HB T n κ b σ G1 (.brk σ1) G2) : HWl T n κ c b m σ G (.nxt σ1) G2
  | r {m σ G G1 w G2} (h1 : HT T n κ c σ G true G1) (h2 : HB T n κ b σ G1 (.ret w) G2) : HWl T n κ c b m σ G (.ret w) G2
theorem hs_whl {m : Nat} (h : HWl T n κ c b m σ G ot G1) : HS T n κ (.While c b [] p) σ G ot G1 := by
  intro X cx
  refine PS.imp (ps_while cx.po (pt_any cx) (pss_any cx)) fun D σv H ⟨ω, S, R, k⟩ => ?_
  let W : Nat → L2.St → Hp → Prop := fun m σv H2 => ∃ ω' σ' G', Sim T ω' H2 G' ∧ Stp ω H ω' H2 ∧ RelSt T ω' σ' σv ∧ HWl T n κ c b m σ' G' ot G1
  refine ⟨W, ⟨m, ω, σ, G, S, Stp.refl _ _, R, h⟩, fun m σv H2 ⟨ω2, σ', G', S2, st2, R2, h2⟩ => ?_⟩
  cases h2 with
  | f h =>
    refine ⟨_, _, _, _, h, tT.mk S2 R2 fun ω3 H3 st3 S3 R3 => ?_⟩
    rw [if_neg (by decide)]
    exact k ω3 H3 σv (st2.trans st3) S3 R3
  | t h1 h2 h3 =>
    refine ⟨_, _, _, _, h1, tT.mk S2 R2 fun ω3 H3 st3 S3 R3 => ?_⟩
    rw [if_pos rfl]
    refine ⟨W _, fun σ' H' hw => ⟨_, Nat.lt_succ_self _, hw⟩, _, _, _, _, h2, ω3, S3, R3, fun ω4 H4 σv4 st4 S4 R4 => ⟨ω4, _, _, S4, (st2.trans st3).trans st4, R4, h3⟩⟩
  | b h1 h2 =>
    refine ⟨_, _, _, _, h1, tT.mk S2 R2 fun ω3 H3 st3 S3 R3 => ?_⟩
    rw [if_pos rfl]
    exact ⟨fun _ _ => False, fun _ _ z => z.elim, _, _, _, _, h2, ω3, S3, R3, fun ω4 H4 σv4 st4 S4 R4 => k ω4 H4 σv4 ((st2.trans st3).trans st4) S4 R4⟩
  | r h1 h2 =>
    refine ⟨_, _, _, _, h1, tT.mk S2 R2 fun ω3 H3 st3 S3 R3 => ?_⟩
    rw [if_pos rfl]
    exact ⟨fun _ _ => False, fun _ _ z => z.elim, _, _, _, _, h2, ω3, S3, R3, fun ω4 H4 v4 st4 S4 r4 => k ω4 H4 v4 ((st2.trans st3).trans st4) S4 r4⟩
end
/-! ### functions -/
/-- a def of the module is a decl of the core -/
structure FnE (T : Ty) (Φ : Fs) (τ : Tb) (f : F) (d : FnDecl) : Prop where
  ex : ∃ (x qual : Str) (params : Arguments) (body : List Stmt) (scope : Scope) (dvs : List V) (kws : List (Str × V)) (κ : Kx), FunD T.K x qual params body scope dvs kws (T.fA f) (Φ.fd f) ∧ FnScope κ.N (Φ.ps f) scope ∧ κ.sc = scope ∧ kxB κ = true ∧
    κ.N.length = d.nn ∧ (Φ.ps f).length = d.np ∧ ErB τ κ body d.body
theorem RelWs.st {T : Ty} {ω : Wd} : ∀ {ws : List Sv} {vs : List V}, RelWs T ω ws vs → ∀ k, RelSt T ω (ws.map some ++ List.replicate k none) (vs.map some ++ List.replicate k none)
  | [], _, e, k => by
    cases e
    induction k with
    | zero => rfl
    | succ k ih => exact ⟨none, _, rfl, ih⟩
  | _ :: _, _, ⟨v, r, e, q, h⟩, k => by subst e; exact ⟨v, _, rfl, q, RelWs.st h k⟩
section
variable {T : Ty} {Φ : Fs} {n : Nat} {κ : Kx} {f : F} {ws : List Sv} {w : Sv} {G G1 : Gs} {σ1 : Sg}
theorem fp_of {x qual : Str} {params : Arguments} {body : List Stmt} {scope : Scope} {dvs : List V} {kws : List (Str × V)} {d : FnDecl} {ot : Ot} (FD : FunD T.K x qual params body scope dvs kws (T.fA f) (Φ.fd f)) (S : FnScope κ.N (Φ.ps f) scope) (hsc : κ.sc = scope) (hk : kxB κ = true)
    (hN : κ.N.length = d.nn) (hp : (Φ.ps f).length = d.np) (hw : ws.length = d.np) (h : HB T n κ body (start0 d ws) G ot G1) (ho : ot = .ret w ∨ ((∃ σ1, ot = .nxt σ1) ∧ w = .d .non)) : FP T Φ (n + 1) f ws G w G1 := fun CX => by
  refine FD.ok S (fun vs H Q E ⟨ω, Sm, r, out⟩ => by rw [r.length, hw, hp]) fun cdv A outer s H vs Q E hr ⟨ω, Sm, r, out⟩ => ⟨_, h _ ?_, ω, Sm, ?_, ?_⟩
  · exact ⟨rfl, rfl, rfl, rfl, rfl, rfl, rfl, S.nd, hsc.symm, kxB_ok hk, hr, fun _ _ => rfl, passes_of rfl⟩
  · unfold start0 L2.start
    rw [← hN, r.length]
    exact r.st _
  · rcases ho with rfl | ⟨⟨σ1, rfl⟩, rfl⟩
    · exact fun ω' H' v st S' r' => out ω' H' v st S' r'
    · exact fun ω' H' σv st S' R' => out ω' H' .non st S' rfl
/-- a value of a store whose objects name none beyond m -/
theorem RelW.cut {ω : Wd} {ρ : List Addr} {m : Nat} {v : V} : ∀ {w : Sv}, belowSv m w = true → (∀ i, i < m → ω.ρ[i]? = ρ[i]?) → RelW T ω w v → RelW T ⟨ω.φ, ρ⟩ w v
  | .d _, _, _, r => r
  | .r i, h, k, ⟨a, e, q⟩ => ⟨a, by rw [← k i (of_decide_eq_true h)]; exact e, q⟩
theorem RelWs.cut {ω : Wd} {ρ : List Addr} {m : Nat} (k : ∀ i, i < m → ω.ρ[i]? = ρ[i]?) : ∀ {l : List Sv} {vs : List V}, l.all (belowSv m) = true → RelWs T ω l vs → RelWs T ⟨ω.φ, ρ⟩ l vs
  | [], _, _, r => r
  | a :: l, _, h, ⟨v, r, e, r1, r2⟩ => by
    have h : (belowSv m a && l.all (belowSv m)) = true := h
    obtain ⟨h1, h2⟩ := Bool.and_eq_true_iff.mp h
    exact ⟨v, r, e, r1.cut h1 k, RelWs.cut k h2 r2⟩
theorem RelWK.cut {ω : Wd} {ρ : List Addr} {m : Nat} (k : ∀ i, i < m → ω.ρ[i]? = ρ[i]?) : ∀ {l : List (Key × Sv)} {vs : List (Key × V)}, (l.all fun p => belowSv m p.2) = true → RelWK T ω l vs → RelWK T ⟨ω.φ, ρ⟩ l vs
  | [], _, _, r => r
  | (_, a) :: l, _, h, ⟨v, r, e, r1, r2⟩ => by
    have h : (belowSv m a && l.all fun p => belowSv m p.2) = true := h
    obtain ⟨h1, h2⟩ := Bool.and_eq_true_iff.mp h
    exact ⟨v, r, e, r1.cut h1 k, RelWK.cut k h2 r2⟩
theorem RelWF.cut {ω : Wd} {ρ : List Addr} {m : Nat} (k : ∀ i, i < m → ω.ρ[i]? = ρ[i]?) : ∀ {l : List (Fl × Sv)} {vs : List (Str × V)}, (l.all fun p => belowSv m p.2) = true → RelWF T ω l vs → RelWF T ⟨ω.φ, ρ⟩ l vs
  | [], _, _, r => r
  | (_, a) :: l, _, h, ⟨v, r, e, r1, r2⟩ => by
    have h : (belowSv m a && l.all fun p => belowSv m p.2) = true := h
    obtain ⟨h1, h2⟩ := Bool.and_eq_true_iff.mp h
    exact ⟨v, r, e, r1.cut h1 k, RelWF.cut k h2 r2⟩
theorem RelM.cut {ω : Wd} {ρ : List Addr} {m : Nat} {o : L2.HO} (k : ∀ i, i < m → ω.ρ[i]? = ρ[i]?) : ∀ {x : MO}, belowM m x = true → RelM T ω x o → RelM T ⟨ω.φ, ρ⟩ x o
  | .lst _, h, ⟨vs, e, r⟩ => ⟨vs, e, RelWs.cut k h r⟩
  | .dic _, h, ⟨vs, e, r⟩ => ⟨vs, e, RelWK.cut k h r⟩
  | .ins _ _, h, ⟨hc, dx, vs, e, r⟩ => ⟨hc, dx, vs, e, RelWF.cut k h r⟩
  | .gone, _, _ => trivial
theorem fp_gc {x : D} {X : Gs} (h : FP T Φ n f ws G (.d x) (G1 ++ X)) (k : G1.all (belowM G1.length) = true) (k2 : G.length ≤ G1.length) : FP T Φ n f ws G (.d x) G1 := fun CX =>
  (h CX).imp fun vs H Q E ⟨ω, S, r, out⟩ => ⟨ω, S, r, fun ω' H' v st S' r' => by
    have hl : ω'.ρ.length = G1.length + X.length := by rw [S'.len]; simp
    have hl2 : (ω'.ρ.take G1.length).length = G1.length := by rw [List.length_take]; omega
    have ke : ∀ i, i < G1.length → ω'.ρ[i]? = (ω'.ρ.take G1.length)[i]? := fun i hi => (List.getElem?_take_of_lt hi).symm
    have sub : ∀ a, a ∈ ω'.ρ.take G1.length → a ∈ ω'.ρ := fun a h => List.mem_of_mem_take h
    refine out ⟨ω'.φ, ω'.ρ.take G1.length⟩ H' v ⟨⟨st.w.le, ?_⟩, st.kp, fun a h n => st.nw a (sub a h) n, st.fr, st.al, st.tl⟩ ⟨S'.sub, S'.nod.sublist (List.take_sublist _ _), hl2, fun i m a hm ha => ?_, fun a ha => S'.ex a (sub a ha), S'.tb, S'.nt⟩ r'
    · obtain ⟨l, e⟩ := st.w.more
      refine ⟨l.take (G1.length - ω.ρ.length), ?_⟩
      show ω'.ρ.take G1.length = _
      have : ω.ρ.length = G.length := S.len
      rw [e, List.take_append, List.take_of_length_le (by omega)]
    · have hi : i < G1.length := (List.getElem?_eq_some_iff.mp hm).1
      have hm' : (G1 ++ X)[i]? = some m := by rw [List.getElem?_append_left hi]; exact hm
      have ha' : ω'.ρ[i]? = some a := (ke i hi).trans ha
      rcases S'.at_ i m a hm' ha' with h | ⟨h1, o, h2, h3⟩
      · exact .inl h
      · exact .inr ⟨h1, o, h2, h3.cut ke (List.all_eq_true.mp k m (List.mem_of_getElem? hm))⟩⟩
end
end Fx

end

section
set_option Elab.async false
set_option linter.all false
set_option maxRecDepth 100000
set_option maxHeartbeats 4000000
/-! What the core's relation tells is what the model does. -/
namespace Fx
open PySem PySem.Spec L2 PyProof.Rows
/-- functions that hold a text -/
structure Fk (T : Ty) (clo : Str → List D → D → Prop) : Prop where
  fnAt : ∀ {X : Cx} {pins : List (Addr × Obj)} {σ : L2.St} {H : Hp} {s : Shared} {x : Str} {a : Addr}, X.K = T.K → Inv X pins σ H s → T.cloR x a H → PySem.W.FnAt a s.heap
  isi : ∀ X, X.K = T.K → CallR X (.builtin "isinstance") (fun xs H Q => ∃ a x, xs = [.ref a, .ty "str"] ∧ T.cloR x a H ∧ Q (.bl false) H)
  call : ∀ {x : Str} {ds : List D} {w : D}, clo x ds w → ∀ {n : Nat} {κ : Kx} {X : Cx}, Cok T (n + 4) κ X → ∀ {pins : List (Addr × Obj)} {s : Shared} {σ : L2.St} {H : Hp} {a : Addr} {us : List Value} {vs : List V} {Q : VK} {ω : Wd} {G : Gs}, Inv X pins σ H s → Sim T ω H G → T.cloR x a ω.φ →
    Rels T ω.φ ds vs → Vals vs us → Out T ω H G (.d w) Q → wpAny (model X.prog X.w) X.A (PySem.call (.ref a) us) (EP X pins σ Q) X.xe s
theorem Rels.rep {T : Ty} {φ : Hp} {l : List D} {vs : List V} (r : Rels T φ l vs) : ∀ k : Nat, Rels T φ (List.replicate k l).flatten (List.replicate k vs).flatten
  | 0 => rfl
  | k + 1 => by rw [List.replicate_succ, List.flatten_cons, List.replicate_succ, List.flatten_cons]; exact r.append (Rels.rep r k)
section
variable {T : Ty} {τ : Tb} {n : Nat} {κ : Kx} {σ : Sg} {G G1 G2 G3 : Gs} {x y : Str} {o e : Expr} {es : List Expr} {p q r : Pos} {w : D} {ws : List Sv} {ds : List D} {j i : Nat} {clo : Str → List D → D → Prop}
theorem he_callc {l : List CE} (K : Fk T clo) (hx : κ.N[i]? = some x) (hl : κ.lv.contains i = true) (hi : σ[i]? = some (some (.d (.clo y)))) (el : ErA τ κ (e :: es) l) (h : HA T (n + 4) κ (e :: es) σ G (.ok ws) G1) (ew : ofSvs ws = some ds) (k : clo y ds w) :
    HE T (n + 4) κ (.Call (.Name x q) (e :: es) [] p) σ G (.ok (.d w)) G1 := by
  intro X c W tk
  obtain ⟨l', el'⟩ := el.tl
  obtain ⟨d1, d2, _⟩ := nameOk_d (c.ok.lv i x hl hx).2
  refine ⟨fun pins s σv H Q I ⟨ω, S, R, out⟩ => ?_⟩
  obtain ⟨v, ev, rv⟩ := R.get hi
  obtain ⟨a, rfl, hr⟩ := (show ∃ a, v = .ref a ∧ T.cloR y a ω.φ from rv)
  refine wpAny_Call_Name_kw (thn ((pe_var (pos := q) (c.N ▸ hx) (c.vis hl hx) d1 d2).run pins s σv H (fun v H1 => v = .ref a ∧ H1 = H) I ⟨.ref a, ev, rfl, rfl⟩) fun u s1 ⟨v, H1, I1, r1, q1⟩ => ?_)
  obtain ⟨e1, eH⟩ := q1
  subst e1
  rw [eH] at I1
  obtain rfl : u = Value.ref a := r1
  have hrH : T.cloR y a H := T.cloM _ _ _ _ S.sub hr
  refine PySem.W.callWith_F (first := []) (K.fnAt c.K I1 hrH) (thn ((h X c W0 (takes_f X)).run p pins s1 σv H (fun vs H2 => ∃ ω2, Stp ω H ω2 H2 ∧ Sim T ω2 H2 G1 ∧ RelWs T ω2 ws vs) I1 ⟨ω, S, R, fun ω2 H2 vs st S2 r2 => ⟨ω2, st, S2, r2⟩⟩) fun us s2 ⟨vs, H2, I2, rr, ω2, st, S2, r2⟩ => ?_) (el.head _) (el'.plain _ _)
  have hr2 : T.cloR y a ω2.φ := T.cloM _ _ _ _ st.w.le hr
  refine ⟨K.fnAt c.K I2 (T.cloM _ _ _ _ S2.sub hr2), ?_⟩
  rw [ofSvs_eq ew] at r2
  exact K.call k c I2 S2 hr2 r2.to rr (Out.trans out st)
theorem he_isiC (F : Fc T τ) (K : Fk T clo) (hx : κ.gl[j]? = some ("isinstance" : Str)) (hf : τ.fr "isinstance") (he : HE T n κ e σ G (.ok (.d (.clo x))) G1)
    (hy : ∀ X, Cok T n κ X → PE X (.Name y r) (tC (.ty "str"))) (hs : ∀ env, starEach [e, .Name y r] env = [(false, eval e env), (false, eval (.Name y r) env)]) (hs2 : ∀ env, starEach [.Name y r] env = [(false, eval (.Name y r) env)]) :
    HE T n κ (.Call (.Name "isinstance" q) [e, .Name y r] [] p) σ G (.ok (.d (.bl false))) G1 := by
  intro X c W tk
  refine PE.imp (pe_callB (K.isi X c.K) (c.gl hx) (c.mg ▸ F.fr _ hf) (by rfl) (pa_cons (he X c W tk) (pa_cons (hy X c) pa_nil (hs2 _)) ((hs _).trans (by rw [hs2]))) (by decide) (by decide) ((hs _).trans (by rw [hs2])) (by rw [hs2]; rfl)) fun σv H Q ⟨ω, S, R, out⟩ => ?_
  refine tE.mk (W := W) S R fun ω1 H1 v1 st1 S1 R1 r1 => ?_
  obtain ⟨a, rfl, hr⟩ := (show ∃ a, v1 = .ref a ∧ T.cloR x a ω1.φ from r1)
  exact ⟨a, x, rfl, T.cloM _ _ _ _ S1.sub hr, out ω1 H1 _ st1 S1 rfl⟩
end
def tnName : Tn → String
  | .int => "int" | .bool => "bool" | .str => "str" | .tuple => "tuple" | .list => "list" | .dict => "dict" | .cls _ => ""
theorem tn_boot {y : Str} {t : Tn} (h : TnB y t) : bootBuiltins y = some (.type (tnName t)) := by cases h <;> rfl
theorem tn_n {y : Str} {t : Tn} (h : TnB y t) : y ≠ "__name__" ∧ (y == ("__debug__" : Str)) = false := by cases h <;> exact ⟨by decide, by decide⟩
theorem tn_cls {y : Str} {t : Tn} {T : Ty} (h : TnB y t) : ClsV (.ty (tnName t)) (kitV T t) := by cases h <;> exact .ty _
theorem len2 {α : Type} {l : List α} {i j : Nat} (h : l.length = [i, j].length) : ∃ u v, l = [u, v] := by
  rcases l with _ | ⟨u, _ | ⟨v, _ | ⟨w, r⟩⟩⟩
  · cases h
  · cases h
  · exact ⟨u, v, rfl⟩
  · simp at h
theorem aLen {Γ : Pg} {n : Nat} {σ : Sg} : ∀ {l : List CE} {G : Gs} {ws : List Sv} {G' : Gs}, Ev Γ n (.j (.A l σ G (.ok ws) G')) → ws.length = l.length
  | [], _, _, _, h => by cases h; rfl
  | _ :: _, _, _, _, h => by cases h with
    | cons h1 h2 => rw [List.length_cons, List.length_cons, aLen h2]
/-- an operator that makes a list -/
theorem hn_bin {T : Ty} {n : Nat} {κ : Kx} {σ : Sg} {G G1 G2 : Gs} {op : Operator} {o : Bo} {a b : Expr} {p : Pos} {x y : Sv} {dx dy : D} {l : List D} (ho : opOf op = some o) (ha : HE T n κ a σ G (.ok x) G1) (hb : HE T n κ b σ G1 (.ok y) G2) (v1 : view G2 x = some dx) (v2 : view G2 y = some dy) (e : boN o dx dy = some l) (k : okBN o dx dy) :
    HN T n κ (.BinOp a op b p) σ G (.lst (l.map .d)) G2 := by
  intro X c
  have key : OpR X (binaryOp op) (fun x y H Q => ∃ ω G, Sim T ω H G ∧ Top T ω.φ H dx x ∧ Top T ω.φ H dy y ∧ ∀ p us, H p = none → Rels T ω.φ l us → Q (.ref p) (upd H p (.lst us))) := by
    rintro pins s σ H x y v u Q I rx ry ⟨ω, G, S, tx, ty, out⟩
    cases dx with
    | lst l1 =>
      obtain ⟨a, vs, rfl, sa, ra⟩ := tx
      cases op <;> cases ho
      · cases dy with
        | lst l2 =>
          obtain ⟨b, us, rfl, sb, rb⟩ := ty
          cases e
          exact op_cat pins s σ H _ _ v u Q I rx ry ⟨a, b, vs, us, rfl, rfl, sa, sb, by rw [ra.length, rb.length]; exact k, fun p hp => out p _ hp (ra.append rb)⟩
        | _ => cases e
      all_goals (cases dy <;> first | cases e | skip)
      rename_i j
      cases ty
      exact op_rep pins s σ H _ _ v u Q I rx ry ⟨a, j, vs, rfl, rfl, sa, k.1, k.2.1, by rw [ra.length]; exact k.2.2, fun p hp => out p _ hp (Rels.rep ra _)⟩
    | _ => cases op <;> cases ho <;> cases dy <;> cases e
  refine PE.imp (pe_op key (ha X c W0 (takes_f X)) (hb X c W0 (takes_f X))) fun σv H Q ⟨ω, S, R, out⟩ => ?_
  refine tE.mk (W := W0) S R fun ω1 H1 v st1 S1 R1 r1 => tE.mk (W := W0) S1 R1 fun ω2 H2 u st2 S2 R2 r2 => ⟨ω2, G2, S2, view_top S2 v1 (r1.mono st2.w), view_top S2 v2 r2, fun p us hp r => out ω2 H2 p _ (st1.trans st2) S2 hp ⟨us, rfl, RelWs.of r⟩⟩
/-- all that is known -/
structure FxOk (T : Ty) (Φ : Fs) (τ : Tb) (Γ : Pg) : Prop where
  F : Fc T τ
  B : Fb T Φ Γ.bd Γ.nw Γ.kw
  E : Fe T Φ Γ.gd Γ.bd Γ.tb
  K : Fk T Γ.clo
  fn : ∀ f d, Γ.fn f = some d → FnE T Φ τ f d
  kwt : ∀ f m nm, τ.kw f m nm → Γ.kw f m [nm]
  ext : ∀ f ds d, Γ.ext f ds d → FP T Φ 4 f (ds.map .d) [] (.d d) []
def SemJ (T : Ty) (Φ : Fs) (τ : Tb) (n : Nat) : J → Prop
  | .E e σ G o G' => ∀ κ e', ErE τ κ e' e → HE T n κ e' σ G o G'
  | .A l σ G o G' => ∀ κ es, ErA τ κ es l → HA T n κ es σ G o G'
  | .N e σ G m G' => ∀ κ e', ErE τ κ e' e → HN T n κ e' σ G m G'
  | .T t σ G b G' => ∀ κ e', ErT τ κ e' t → HT T n κ e' σ G b G' ∧ (isBo e' = true → HTW T n κ e' σ G b G')
  | .Ts l σ G b G' => ∀ κ es, ErTs τ κ es l → HTs T n κ es σ G b G'
  | .O e σ G i G' => ∀ κ e', ErO τ κ e' e → HO T n κ e' σ G i G'
  | .I it σ G ds G' => ∀ κ tg e', ErI τ κ tg e' it → HI T n κ tg e' σ G ds G'
  | .C el tg ifs vs ds σ G ws G' => ∀ κ elt ifs', ErE τ κ elt el → ErTs τ κ ifs' ifs → HC T n κ elt ifs' tg σ ds G ws G'
  | .S s σ G o G' => ∀ κ s', ErS τ κ s' s → HS T n κ s' σ G o G'
  | .B l σ G o G' => ∀ κ l', ErB τ κ l' l → HB T n κ l' σ G o G'
  | .R tg b ds σ G o G' => ∀ κ b', ErB τ κ b' b → HR T n κ tg b' ds σ G o G'
  | .F f ws G o G' => match o with
    | .ok w => FP T Φ n f ws G w G'
    | .ex _ _ => True
def Sem (T : Ty) (Φ : Fs) (τ : Tb) (n : Nat) : J2 → Prop
  | .j x => SemJ T Φ τ n x
  | .W c b σ G o G' => ∀ κ c' b', ErT τ κ c' c → ErB τ κ b' b → ∃ m, HWl T n κ c' b' m σ G o G'
  | .Dp l σ G kvs G' => ∀ κ ks vs, ErD τ κ ks vs l → HD T n κ ks vs σ G kvs G'
  | _ => True
theorem ErD.len {τ : Tb} {κ : Kx} : ∀ {ks : List (Option Expr)} {vs : List Expr} {l : List (CE × CE)}, ErD τ κ ks vs l → ks.all (·.isSome) = true ∧ ks.length = vs.length ∧ ks.length = l.length
  | _, _, _, .nil => ⟨rfl, rfl, rfl⟩
  | _, _, _, .cons _ _ h => by
    obtain ⟨a, b, c⟩ := h.len
    exact ⟨by simpa using a, by simp [b], by simp [c]⟩
section
variable {T : Ty} {Φ : Fs} {τ : Tb} {Γ : Pg} (O : FxOk T Φ τ Γ)
include O
theorem ev_sound {n : Nat} {j : J2} (h : Ev Γ n j) : Sem T Φ τ n j := by
  induction h with
  | var h => intro κ e' er; cases er with
    | var h1 h2 => exact he_var h1 h2 h
  | con => intro κ e' er; cases er with
    | int => exact he_const (fun X c => pe_int) (fun _ => rfl)
    | bl => exact he_const (fun X c => pe_bl) (fun _ => rfl)
    | non => exact he_const (fun X c => pe_non) (fun _ => rfl)
    | str => exact he_const (fun X c => pe_str) (fun _ => rfl)
    | glob h hc =>
      obtain ⟨v, u, h1, h2, h3⟩ := O.F.co _ _ hc
      exact he_const (fun X c => pe_glob (c.gl h) (c.mg ▸ h1) h2 (nameOk_d (c.ok.gl _ _ h).2).1) h3
    | gfun h hc => exact he_const (fun X c => pe_glob (v := .ref _) (c.gl h) (c.mg ▸ (O.F.fn _ _ hc).1) rfl (nameOk_d (c.ok.gl _ _ h).2).1) (fun _ => rfl)
  | bin h1 h2 v1 v2 e k ih1 ih2 => intro κ e' er; cases er with
    | bin ho ha hb => exact he_bin ho (ih1 κ _ ha) (ih2 κ _ hb) v1 v2 e k
    | cmp ho ha hb hm => exact he_cmp ho (ih1 κ _ ha) (ih2 κ _ hb) hm v1 v2 e k
  | binN h1 h2 v1 v2 e k ih1 ih2 => intro κ e' er; cases er with
    | bin ho ha hb => exact hn_bin ho (ih1 κ _ ha) (ih2 κ _ hb) v1 v2 e k
    | cmp ho ha hb hm => rename_i op _ _ _; cases op <;> cases ho <;> (rename_i dx dy _ _ _ _ _; cases dx <;> cases dy <;> cases e)
  | neg h1 ih => intro κ e' er; cases er with
    | neg ha => exact he_neg (ih κ _ ha)
  | nt h1 ih => intro κ e' er; cases er with
    | nt ha => exact he_nt (ih κ _ ha)
  | chainT h1 h2 h3 v1 v2 e1 k1 v2' v3 e2 k2 i1 i2 i3 => intro κ e' er; cases er with
    | chain ho ho' ha hb hc hm => exact he_chainT ho ho' (i1 κ _ ha) (i2 κ _ hb) (i3 κ _ hc) hm v1 v2 e1 k1 v2' v3 e2 k2
  | chainF h1 h2 v1 v2 e1 k1 i1 i2 => intro κ e' er; cases er with
    | chain ho ho' ha hb hc hm => exact he_chainF ho ho' (i1 κ _ ha) (i2 κ _ hb) hm v1 v2 e1 k1
  | andT h1 h2 i1 i2 => intro κ e' er; cases er with
    | and2 ha hb => exact he_andT2 (i1 κ _ ha) (i2 κ _ hb)
    | and ha hb => exact he_andT (i1 κ _ ha) (i2 κ _ hb)
  | andF h1 i1 => intro κ e' er; cases er with
    | and2 ha hb => exact he_andF (i1 κ _ ha)
    | and ha hb => exact he_andF (i1 κ _ ha)
  | orT h1 i1 => intro κ e' er; cases er with
    | or2 ha hb => exact he_orT (i1 κ _ ha)
    | or ha hb => exact he_orT (i1 κ _ ha)
  | orF h1 h2 i1 i2 => intro κ e' er; cases er with
    | or2 ha hb => exact he_orF2 (i1 κ _ ha) (i2 κ _ hb)
    | or ha hb => exact he_orF (i1 κ _ ha) (i2 κ _ hb)
  | ifT h1 h2 i1 i2 => intro κ e' er; cases er with
    | ifx hc ha hb => exact he_ifT (i1 κ _ hc).1 (i2 κ _ ha)
  | ifF h1 h2 i1 i2 => intro κ e' er; cases er with
    | ifx hc ha hb => exact he_ifF (i1 κ _ hc).1 (i2 κ _ hb)
  | tup h e k i => intro κ e' er; cases er with
    | tup h => exact he_tup (i κ _ h) e k
  | lst h k i => intro κ e' er; cases er with
    | lst h => exact hn_lst (i κ _ h) k
  | ofN h k i => intro κ e' er; exact he_ofN (i κ _ er) k
  | ofNd h k i => intro κ e' er; exact he_ofNd (i κ _ er) k
  | mtn h i => intro κ e' er; cases er with
    | «mut» h => exact he_mut (i κ _ h)
  | callP hb h e k i1 i2 => intro κ e' er; cases er with
    | call hx hf ha =>
      have i2 : FP T Φ _ _ _ [] _ [] := i2
      rw [ofSvs_eq e] at i2
      exact he_call O.F O.B hx hf hb ha (by have := i1 κ _ ha; rw [ofSvs_eq e] at this; exact this) (i2.lift _)
    | call0 hx hf =>
      cases h
      exact he_call0 O.F O.B hx hf hb (FP.lift (ds := []) i2 _)
  | callG hb h k i1 i2 => intro κ e' er; cases er with
    | call hx hf ha => exact he_call O.F O.B hx hf hb ha (i1 κ _ ha) i2
    | call0 hx hf =>
      cases h
      exact he_call0 O.F O.B hx hf hb i2
  | callv hb hi h e k i1 i2 => intro κ e' er; cases er with
    | callv hx hl ha =>
      have i2 : FP T Φ _ _ _ [] _ [] := i2
      rw [ofSvs_eq e] at i2
      exact he_callv O.B hx hl hi hb ha (by have := i1 κ _ ha; rw [ofSvs_eq e] at this; exact this) (i2.lift _)
  | methP hb h1 hm hn h e2 k i1 i2 i3 => intro κ e' er; cases er with
    | meth ho ha hab hl hn' =>
      have i3 : FP T Φ _ _ _ [] _ [] := i3
      rw [ofSvs_eq e2] at i3
      cases ha with
      | nil =>
        cases h
        cases e2
        exact he_meth0 O.F O.B (i1 κ _ ho) hm hn hb (FP.lift (ds := [_]) i3 _) hab hl
      | cons hc hr hs =>
        have q := i2 κ _ (.cons hc hr hs)
        rw [ofSvs_eq e2] at q
        exact he_meth O.F O.B (i1 κ _ ho) hm hn hb (.cons hc hr hs) q (FP.lift (ds := _ :: _) i3 _) hab hl hn'
  | newP hw hc h e k e2 i1 i2 => intro κ e' er; cases er with
    | new hx hcl ha => exact he_new O.F O.B hx hcl hc hw ha (i1 κ _ ha) e i2 e2
  | attr h k i => intro κ e' er; cases er with
    | attr ho hb => exact he_attr O.F (i κ _ ho) k hb
  | prim h v e k np i => intro κ e' er; cases er with
    | prim hx hf hp hn ha => exact he_prim O.F hx hf hp ha (i κ _ ha) v e k
    | isi hx hf he hs hs2 hy hfy ht => exact absurd rfl (np _)
    | isiC hx hf he hs hs2 hy hc => exact absurd rfl (np _)
  | primN h v e k i => intro κ e' er; cases er with
    | primN hx hf hp hn ha => exact hn_prim O.F hx hf hp ha (i κ _ ha) v e k
  | primM h1 v0 k0 h v eq k i1 i2 => intro κ e' er; cases er with
    | primM hp hn ho ha hb hl => exact he_primM hp hn (i1 κ _ ho) v0 k0 (i2 κ _ ha) ha hb hl v eq k
  | primNM h1 v0 k0 h v eq k i1 i2 => intro κ e' er; cases er with
    | primNM hp hn ho ha hb hl => exact hn_primM hp hn (i1 κ _ ho) v0 k0 (i2 κ _ ha) ha hb hl v eq k
  | sub h1 h2 vi eq k i1 i2 => intro κ e' er; cases er with
    | sub ha hb hs => exact he_sub (i1 κ _ ha) (i2 κ _ hb) vi eq k hs
  | slc h1 h2 h3 v eq k i1 i2 i3 => intro κ e' er; cases er with
    | slc ha hl hh => exact he_slc (i1 κ _ ha) (i2 κ _ hl) (i3 κ _ hh) v eq k
  | slcN h1 h2 h3 v eq i1 i2 i3 => intro κ e' er; cases er with
    | slc ha hl hh => exact hn_slc (i1 κ _ ha) (i2 κ _ hl) (i3 κ _ hh) v eq
  | rev h v eq i => intro κ e' er; cases er with
    | rev ha => exact hn_rev (i κ _ ha) v eq
  | gdic ht h e i => intro κ e' er; cases er with
    | gdic hx hd hi hs => exact he_gdic O.E hx ht (i κ _ hi) e hs
  | lc h1 h2 k i1 i2 => intro κ e' er; cases er with
    | lc hκ hs hk hb hi hg hv ht he hf => exact hn_lc hκ hs hk hb hg hv hf (i1 κ _ _ hi) (i2 _ _ _ he ht) k
  | dsp h k k2 i => intro κ e' er; cases er with
    | dsp hd =>
      obtain ⟨a, b, c⟩ := hd.len
      exact hn_dsp (i κ _ _ hd) a b (c ▸ k) k2
  | nil => intro κ e' er; cases er; exact ha_nil
  | cons h1 h2 i1 i2 => intro κ e' er; cases er with
    | cons he h hs => exact ha_cons (i1 κ _ he) (i2 κ _ h) hs
  | oN => intro κ e' er; cases er; exact ho_none
  | oS h i => intro κ e' er; cases er with
    | some h => exact ho_some (i κ _ h)
  | dpN => intro κ ks vs er; cases er; exact hd_nil
  | dpC h1 hk h2 h3 i1 i2 i3 => intro κ ks vs er; cases er with
    | cons a b c => exact hd_cons (i1 κ _ a) hk (i2 κ _ b) (i3 κ _ _ c)
  | tru h v t k i => intro κ e' er; cases er with
    | tru he hb ht => exact ⟨ht_tru (i κ _ he) ht v t k, fun z => by rw [hb] at z; cases z⟩
  | cmp h1 h2 v1 v2 e k i1 i2 => intro κ e' er; cases er with
    | cmp ho ha hb hm => exact ⟨ht_cmp ho (i1 κ _ ha) (i2 κ _ hb) hm v1 v2 e k, fun z => by cases z⟩
  | tnt h i => intro κ e' er; cases er with
    | nt ha => exact ⟨ht_nt (i κ _ ha).1, fun z => by cases z⟩
  | tandT h1 h2 i1 i2 => intro κ e' er; cases er with
    | and2 ha hb => exact ⟨(htw_andT (i1 κ _ ha).1 (htw_and1 (i2 κ _ hb).1)).ht, fun _ => htw_andT (i1 κ _ ha).1 (htw_and1 (i2 κ _ hb).1)⟩
    | and ha hb => exact ⟨(htw_andT (i1 κ _ ha).1 ((i2 κ _ hb).2 rfl)).ht, fun _ => htw_andT (i1 κ _ ha).1 ((i2 κ _ hb).2 rfl)⟩
  | tandF h1 i1 => intro κ e' er; cases er with
    | and2 ha hb => exact ⟨(htw_andF (i1 κ _ ha).1).ht, fun _ => htw_andF (i1 κ _ ha).1⟩
    | and ha hb => exact ⟨(htw_andF (i1 κ _ ha).1).ht, fun _ => htw_andF (i1 κ _ ha).1⟩
  | torT h1 i1 => intro κ e' er; cases er with
    | or2 ha hb => exact ⟨(htw_orT (i1 κ _ ha).1).ht, fun _ => htw_orT (i1 κ _ ha).1⟩
    | or ha hb => exact ⟨(htw_orT (i1 κ _ ha).1).ht, fun _ => htw_orT (i1 κ _ ha).1⟩
  | torF h1 h2 i1 i2 => intro κ e' er; cases er with
    | or2 ha hb => exact ⟨(htw_orF (i1 κ _ ha).1 (htw_or1 (i2 κ _ hb).1)).ht, fun _ => htw_orF (i1 κ _ ha).1 (htw_or1 (i2 κ _ hb).1)⟩
    | or ha hb => exact ⟨(htw_orF (i1 κ _ ha).1 ((i2 κ _ hb).2 rfl)).ht, fun _ => htw_orF (i1 κ _ ha).1 ((i2 κ _ hb).2 rfl)⟩
  | tsN => intro κ e' er; cases er; exact hts_nil
  | tsO h i => intro κ e' er; cases er with
    | one h => exact hts_one (i κ _ h).1
  | iseq h eq i => intro κ tg e' er; cases er with
    | seq h => exact hi_seq (i κ _ h) eq
  | irng1 h k i => intro κ tg e' er; cases er with
    | rng1 hx hf ha => cases ha with
      | cons he hr hs => exact hi_rng1 O.F hx hf (.cons he hr hs) (i κ _ he) k
  | cN => intro κ elt ifs' e1 e2; exact .nil
  | cT b h1 h2 h3 i1 i2 i3 => intro κ elt ifs' e1 e2; exact .t b (i1 κ _ e2) (i2 κ _ e1) (i3 κ _ _ e1 e2)
  | cF b h1 h3 i1 i3 => intro κ elt ifs' e1 e2; exact .f b (i1 κ _ e2) (i3 κ _ _ e1 e2)
  | asg h b i => intro κ s' er; cases er with
    | asg hg he hs hw => exact hs_asg hg (i κ _ he) b hs hw
  | par h k i => intro κ s' er; cases er with
    | par hi hj hij hx hy ha hw hs =>
      obtain ⟨u, v, rfl⟩ := len2 k
      exact hs_par hi hj hij hx hy (i κ _ ha) hw hs
  | fset h1 h2 hi k i1 i2 => intro κ s' er; cases er with
    | fset ho he hs => exact hs_fset O.F (i1 κ _ he) (i2 κ _ ho) hi k hs
  | setx h1 h2 h3 hk hj i1 i2 i3 => intro κ s' er; cases er with
    | setx ho hi he hs hw ha => exact hs_setx (i1 κ _ he) (i2 κ _ ho) (i3 κ _ hi) hk hj hs hw ha
  | iteT h1 h2 i1 i2 => intro κ s' er; cases er with
    | ite hc ha hb => exact hs_iteT (i1 κ _ hc).1 (i2 κ _ ha)
  | iteF h1 h2 i1 i2 => intro κ s' er; cases er with
    | ite hc ha hb => exact hs_iteF (i1 κ _ hc).1 (i2 κ _ hb)
  | whl h i => intro κ s' er; cases er with
    | whl hc hb =>
      obtain ⟨m, q⟩ := i κ _ _ hc hb
      exact hs_whl q
  | wF h i => intro κ c' b' ec eb; exact ⟨0, .f (i κ _ ec).1⟩
  | wT h1 h2 h3 i1 i2 i3 => intro κ c' b' ec eb; obtain ⟨m, q⟩ := i3 κ _ _ ec eb; exact ⟨m + 1, .t (i1 κ _ ec).1 (i2 κ _ eb) q⟩
  | wB h1 h2 i1 i2 => intro κ c' b' ec eb; exact ⟨0, .b (i1 κ _ ec).1 (i2 κ _ eb)⟩
  | wR h1 h2 i1 i2 => intro κ c' b' ec eb; exact ⟨0, .r (i1 κ _ ec).1 (i2 κ _ eb)⟩
  | for_ h1 h2 i1 i2 => intro κ s' er; cases er with
    | for_ hg hi hb hf => exact hs_for hg (i1 κ _ _ hi) (i2 κ _ hb) hf
  | rN => intro κ b' eb; exact .nil
  | rT e h1 h2 i1 i2 => intro κ b' eb; exact .t e (i1 κ _ eb) (i2 κ _ eb)
  | rC e h1 h2 i1 i2 => intro κ b' eb; exact .c e (i1 κ _ eb) (i2 κ _ eb)
  | rB e h1 i1 => intro κ b' eb; exact .b e (i1 κ _ eb)
  | rR e h1 i1 => intro κ b' eb; exact .r e (i1 κ _ eb)
  | ret h i => intro κ s' er; cases er with
    | ret h => exact hs_ret (i κ _ h)
  | retN => intro κ s' er; cases er; exact hs_retN
  | exp h i => intro κ s' er; cases er with
    | exp h hs => exact hs_exp (i κ _ h) hs
  | tryThruN h i => intro κ s' er; cases er with
    | tryThru hb => exact hs_try (i κ _ hb)
  | tryThruR h i => intro κ s' er; cases er with
    | tryThru hb => exact hs_try (i κ _ hb)
  | brk => intro κ s' er; cases er; exact hs_brk
  | cnt => intro κ s' er; cases er; exact hs_cnt
  | pass => intro κ s' er; cases er; exact hs_pass
  | bN => intro κ l' er; cases er; exact hb_nil
  | bC h1 h2 i1 i2 => intro κ l' er; cases er with
    | cons hs hr => exact hb_cons (i1 κ _ hs) (i2 κ _ hr)
    | frz hr => cases h1
    | dead => cases h1
  | bX h1 k i1 => intro κ l' er; cases er with
    | cons hs hr => exact hb_stop (i1 κ _ hs) k
    | frz hr => cases h1
    | dead => cases h1
  | bS s h i => intro κ l' er; exact hb_sub s (i κ _ er)
  | bO s h i => intro κ l' er; exact hb_subO s (i κ _ er)
  | frz hi hk hd h i => intro κ l' er; cases er with
    | cons hs hr => cases hs
    | frz hr => exact hb_frz hi hk hd (i κ _ hr)
  | frzD hi hk hd h i => intro κ l' er; cases er with
    | cons hs hr => cases hs
    | frz hr => exact hb_frzD hi hk hd (i κ _ hr)
  | fnR hf hp h i =>
    obtain ⟨x, qual, params, body, scope, dvs, kws, κ, a1, a2, a3, a4, a5, a6, a7⟩ := (O.fn _ _ hf).ex
    exact fp_of a1 a2 a3 a4 a5 a6 hp (i κ _ a7) (.inl rfl)
  | fnN hf hp h i =>
    obtain ⟨x, qual, params, body, scope, dvs, kws, κ, a1, a2, a3, a4, a5, a6, a7⟩ := (O.fn _ _ hf).ex
    exact fp_of a1 a2 a3 a4 a5 a6 hp (i κ _ a7) (.inr ⟨⟨_, rfl⟩, rfl⟩)
  | fnGc h k k2 i => exact fp_gc i k k2
  | fnUp h i =>
    rename_i n f ws G o G1 
    cases o with
    | ok w => exact FP.mono i (Nat.le_succ _)
    | ex => trivial
  | callk h h2 e2 k i1 i2 i3 => intro κ e' er; cases er with
    | callk hk hx hf ha hc =>
      have i3 : FP T Φ _ _ _ [] _ [] := i3
      rw [ofSvs_eq e2] at i3
      refine he_callk (G2 := _) O.F O.B hx hf (O.kwt _ _ _ hk) ha (i1 κ _ ha) (i2 κ _ hc) ?_ (by rw [aLen h, ha.len])
      rw [ofSvs_eq e2]; exact i3.lift _
  | own he hb h1 h2 k i1 i2 i3 => intro κ e' er; cases er with
    | bin ho ha hb' => rename_i op _ _ _; cases op <;> cases ho
    | cmp ho ha hb' hm =>
      rename_i op _ _ _; cases op <;> first | cases ho | skip
      exact he_own O.B O.E he hb (i1 κ _ ha) (i2 κ _ hb') (FP.lift (ds := [_, _]) i3 _)
  | town he hb h1 h2 k i1 i2 i3 => intro κ e' er; cases er with
    | cmp ho ha hb' hm =>
      rename_i op _ _ _; cases op <;> first | cases ho | skip
      exact ⟨ht_own O.B O.E he hb (i1 κ _ ha) (i2 κ _ hb') (FP.lift (ds := [_, _]) i3 _), fun z => by cases z⟩
  | mmA h1 ht h2 hi k i1 i2 => intro κ e' er; cases er with
    | mm hp hn ho ha hb hl => cases hp with
      | append => cases ha with
        | cons he hr hs => cases hr; exact he_append (i1 κ _ ho) ht (i2 κ _ he) (.cons he .nil hs) hi k hb hl
  | mmP h1 hi hw i1 => intro κ e' er; cases er with
    | mm0 hp ho hb hl => cases hp with
      | pop => exact he_pop (i1 κ _ ho) hi hw hb hl
    | mm hp hn ho ha hb hl => cases hp; cases ha
  | isiC h ht i => intro κ e' er; cases er with
    | prim hx hf hp hn ha => cases hp
    | isi hx hf he hs hs2 hy hfy ht' =>
      subst ht
      cases ht'
      exact he_isiC O.F O.K hx hf (i κ _ he) (fun X c => pe_bltn (c.gl hy) (c.mg ▸ O.F.fr _ hfy) rfl rfl) hs hs2
    | isiC hx hf he hs hs2 hy hc => cases ht
  | isi h v k i => intro κ e' er; cases er with
    | prim hx hf hp hn ha => cases hp
    | isi hx hf he hs hs2 hy hfy ht =>
      exact he_isi O.F hx hf (fun c z => by subst z; cases ht) (i κ _ he) (fun X c => pe_bltn (v := .ty (tnName _)) (c.gl hy) (c.mg ▸ O.F.fr _ hfy) (tn_boot ht) rfl (tn_n ht).1 (tn_n ht).2) (tn_cls ht) hs hs2 v k
    | isiC hx hf he hs hs2 hy hc => exact he_isi O.F hx hf (fun c z => by cases z; exact (O.F.cl _ _ hc).2) (i κ _ he) (cv := .ref _) (fun X c => pe_glob (c.gl hy) (c.mg ▸ (O.F.cl _ _ hc).1) rfl (nameOk_d (c.ok.gl _ _ hy).2).1) (.own _) hs hs2 v k
  | callc hi h e k i => intro κ e' er; cases er with
    | callv hx hl ha => exact he_callc O.K hx hl hi ha (i κ _ ha) e k
  | ext h => exact FP.mono (O.ext _ _ _ h) (Nat.le_add_left _ _)
end
end Fx

end

section
set_option maxRecDepth 100000
/-! isinstance of a function object: its __class__. -/
namespace FxK
open PySem
open Sem (wp)
theorem fun_class : typeLookup (.type "function") "__class__" = pure (some (.builtin "object.__class__")) := by
  rw [typeLookup_type, builtinLookup_eq_fast]
  kernel_rfl
theorem fun_owner : isSubtype (.type "function") (.type (".".intercalate ("object.__class__".cutAt '.').dropLast)) = pure true := by
  rw [PySem.F.owner_object_class, isSubtype_type]
  kernel_rfl
theorem fun_ga : Slot "function" "__getattribute__" "object.__getattribute__" := by
  refine .of (owner := "object") (n := "__getattribute__") ?_ (by kernel_rfl) (by kernel_rfl) (by kernel_rfl) (.inl (by kernel_rfl)) ?_
  · rw [typeLookup_type, builtinLookup_eq_fast]
    kernel_rfl
  · rw [isSubtype_type]
    kernel_rfl
theorem ent_ga : entryFor table "object.__getattribute__" = some Builtin.«object.__getattribute__» := by
  first
    | exact PySem.F.entry_object_getattribute
    | kernel_rfl
section
variable {P0 : Program} {w0 : World} {A0 : Around} {E0 : Value → Shared → Prop} {hp : Heap} {gn : Array GenState} {dr : Drawn} {tk0 : Nat} {o0 : OsState} {ad : Addr} {ob : Obj}
theorem fget {R0 : Result → Shared → Prop} (e1 : hp.get? ad = some ob) (e2 : ob.cls = .type "function") (q : R0 (.ok (.ret (.type "function"))) ⟨hp, gn, dr, tk0, o0⟩) :
    codeAny (model P0 w0) A0 (.call (.builtin "getset_descriptor.__get__") ⟨[.builtin "object.__class__", .ref ad, .type "function"], []⟩) R0 ⟨hp, gn, dr, tk0, o0⟩ := by
  have t1 : (⟨hp, gn, dr, tk0, o0⟩ : Shared).TypeIs (.ref ad) "function" := ⟨_, e1, e2⟩
  have t2 : (⟨hp, gn, dr, tk0, o0⟩ : Shared).TypeIs (.builtin "object.__class__") "getset_descriptor" := PySem.F.typeOf_object_class
  have t3 := fun_owner
  refine codeAny_call_builtin PySem.F.slot_gs_get.plain PySem.F.entry_gs_get (PySem.F.slot_gs_get.check _ _ _ _ _ _ _ _ t2 (PySem.F.args_gs_get _ _ _) ?_)
  repeat' (first | assumption | wp_step)
  refine ⟨Code.quiet_builtin _ (by decide +kernel), codeAny_builtin PySem.F.entry_object_class ?_⟩
  repeat' (first | assumption | wp_step)
theorem fent {tk : Tok} {Q0 : Fin → Shared → Prop} (e1 : hp.get? ad = some ob) (e2 : ob.cls = .type "function") (q : Q0 (.done (.ret (.type "function"))) ⟨hp, gn, dr, tk0, o0⟩) :
    wpAny (model P0 w0) A0 (Builtin.«object.__getattribute__» ⟨[.ref ad, .str "__class__" tk], []⟩) Q0 E0 ⟨hp, gn, dr, tk0, o0⟩ := by
  have t1 : (⟨hp, gn, dr, tk0, o0⟩ : Shared).TypeIs (.ref ad) "function" := ⟨_, e1, e2⟩
  have t2 : (⟨hp, gn, dr, tk0, o0⟩ : Shared).TypeIs (.builtin "object.__class__") "getset_descriptor" := PySem.F.typeOf_object_class
  have t3 := fun_class
  have t4 := PySem.F.typeOf_object_class
  have t5 := PySem.F.slot_gs_get.lookup
  have t6 := PySem.F.slot_gs_set.lookup
  repeat' (first | assumption | wp_step)
  refine fget e1 e2 ?_
  repeat' (first | assumption | wp_step)
theorem fcall {tk : Tok} {R0 : Result → Shared → Prop} (e1 : hp.get? ad = some ob) (e2 : ob.cls = .type "function") (q : R0 (.ok (.ret (.type "function"))) ⟨hp, gn, dr, tk0, o0⟩) :
    codeAny (model P0 w0) A0 (.call (.builtin "object.__getattribute__") ⟨[.ref ad, .str "__class__" tk], []⟩) R0 ⟨hp, gn, dr, tk0, o0⟩ :=
  codeAny_call_builtin fun_ga.plain ent_ga (fun_ga.check _ _ _ _ _ _ _ _ (show (⟨hp, gn, dr, tk0, o0⟩ : Shared).TypeIs (.ref ad) "function" from ⟨_, e1, e2⟩) (PySem.F.args_object_getattribute_2 _ _) (fent e1 e2 q))
theorem fby {tk : Tok} {Q0 : Value → Shared → Prop} (e1 : hp.get? ad = some ob) (e2 : ob.cls = .type "function") (q : Q0 (.type "function") ⟨hp, gn, dr, tk0, o0⟩) : wpAny (model P0 w0) A0 (getAttrBy (.ref ad) (.str "__class__" tk) false) Q0 E0 ⟨hp, gn, dr, tk0, o0⟩ := by
  have t1 : (⟨hp, gn, dr, tk0, o0⟩ : Shared).TypeIs (.ref ad) "function" := ⟨_, e1, e2⟩
  have t2 := fun_ga.lookup
  have t3 := fun_ga.bind (.ref ad)
  repeat' (first | assumption | wp_step)
  refine fcall e1 e2 ?_
  repeat' (first | assumption | wp_step)
theorem fattr {Q0 : Option Value → Shared → Prop} (e1 : hp.get? ad = some ob) (e2 : ob.cls = .type "function") (q : Q0 (some (.type "function")) ⟨hp, gn, dr, tk0 + 1, o0⟩) : wpAny (model P0 w0) A0 (getAttr? (.ref ad) "__class__") Q0 E0 ⟨hp, gn, dr, tk0, o0⟩ := by
  unfold getAttr? getAttrBy?
  repeat' (first | assumption | with_reducible apply fby e1 e2 | wp_step)
end
theorem kitFun {K : PySem.W.Frag} {a : Addr} : PySem.W.KitX K (.ref a) (.type "function") (PySem.W.KitAt a "function") := PySem.W.kitx_of PySem.W.kitAt_ty (fun {_ _ _ _ _ s} p k => by
  obtain ⟨h, g, d, t, os⟩ := s
  obtain ⟨o, h1, h2⟩ := p
  exact fattr h1 h2 k)
end FxK

end

section
set_option Elab.async false
set_option linter.all false
set_option maxRecDepth 100000
set_option maxHeartbeats 2000000
/-! A def within a def, handed out: it holds one text. -/
namespace Fx
open PySem PySem.Spec L2 PyProof.Rows LamX NdefX
structure ClD where
  name : Str
  qual : Str
  params : Arguments
  body : List Stmt
  scope : Scope
  fv : Str
def ClD.nf (d : ClD) (c cc : Addr) : NF := ⟨d.name, d.qual, d.params, d.body, d.scope, [(d.fv, cc)], c⟩
def CellO (cc : Addr) (x : Str) : L2.HO := .ext fun h => ∃ t, h.IsCell cc (some (.str x t))
def cloRel (d : ClD) (x : Str) (a : Addr) (φ : Hp) : Prop := ∃ c cc, φ a = some (FnO a (d.nf c cc)) ∧ φ c = some (CodeO c d.qual) ∧ φ cc = some (CellO cc x)
theorem cloRel_mono (d : ClD) (x : Str) (a : Addr) (φ φ' : Hp) (h : ∀ b o, φ b = some o → φ' b = some o) : cloRel d x a φ → cloRel d x a φ' := fun ⟨c, cc, h1, h2, h3⟩ => ⟨c, cc, h _ _ h1, h _ _ h2, h _ _ h3⟩
theorem cellO_at {P : Program} {w : World} {H : Hp} {h : Heap} {cc : Addr} {x : Str} (k : HOk P w H h) (e : H cc = some (CellO cc x)) : ∃ t o, h.get? cc = some o ∧ o.data = .cell (some (.str x t)) := by
  obtain ⟨⟨t, o, h1, h2⟩, _⟩ := (show ObjOk P w H h cc (CellO cc x) from k cc _ e)
  exact ⟨t, o, h1, h2⟩
theorem cellO_ok {P : Program} {w : World} {H : Hp} {h : Heap} {cc : Addr} {x : Str} {t : Tok} {o : Obj} (h1 : h.get? cc = some o) (h2 : o.data = .cell (some (.str x t))) : ObjOk P w H h cc (CellO cc x) :=
  ⟨⟨t, o, h1, h2⟩, ⟨o, h1⟩, fun g1 g2 ⟨t', o', e1, e2⟩ k => ⟨t', o', k _ e1, e2⟩⟩
theorem code_ne_cell {P : Program} {w : World} {H : Hp} {h : Heap} {c cc : Addr} {x q : Str} (k : HOk P w H h) (e : H cc = some (CellO cc x)) (e2 : H c = some (CodeO c q)) : c ≠ cc := fun z => by
  subst z
  obtain ⟨t, o, h1, h2⟩ := cellO_at k e
  obtain ⟨c', oc, vs, t', z1, z2, z3, z4⟩ := codeO_at k e2
  cases z1
  rw [h1] at z2; cases z2
  rw [h2] at z3; cases z3
theorem fn_ne_cell {P : Program} {w : World} {H : Hp} {h : Heap} {a cc : Addr} {x : Str} {F : NF} (k : HOk P w H h) (e : H cc = some (CellO cc x)) (e2 : H a = some (FnO a F)) : a ≠ cc := fun z => by
  subst z
  obtain ⟨t, o, h1, h2⟩ := cellO_at k e
  obtain ⟨od, sl, doc, pm, ctv, z2⟩ := fnO_at k e2
  rw [h1] at z2; cases z2; cases h2
theorem inv_hide {X : Cx} {pins : List (Addr × Obj)} {σ : L2.St} {H : Hp} {s : Shared} {cc : Addr} {x : Str} (I : Inv X pins σ H s) (h : H cc = some (CellO cc x)) : Inv X pins σ (hide cc H) s where
  ok := I.ok
  os := I.os
  bare := I.bare
  base := {
    keep := I.base.keep
    slot := I.base.slot
    free := fun b o e n m => by
      have := I.base.free b o e n m
      by_cases c : b = cc
      · subst c; exact hide_at
      · rw [hide_ne c]; exact this
    there := I.base.there
    tups := fun b xs e => by
      have := I.base.tups b xs e
      rw [hide_ne (fun z => by subst z; rw [h] at this; cases this)]; exact this
    frzs := fun b o u e => by
      have := I.base.frzs b o u e
      rw [hide_ne (fun z => by subst z; rw [h] at this; cases this)]; exact this
    tbls := fun b ps e => by
      obtain ⟨more, this⟩ := I.base.tbls b ps e
      exact ⟨more, by rw [hide_ne (fun z => by subst z; rw [h] at this; cases this)]; exact this⟩ }
  loc := I.loc
  cell := I.cell
  free := by
    have := I.free
    rw [hide_ne (fun z => by rw [z, h] at this; cases this)]; exact this
  freeC := fun y c e => by
    have := I.freeC y c e
    rw [hide_ne (fun z => by rw [z, h] at this; cases this)]; exact this
  pin := fun p hp => by
    obtain ⟨a1, a2, a3, a4, a5⟩ := I.pin p hp
    exact ⟨a1, by rw [hide_ne (fun z => by rw [z, h] at a2; cases a2)]; exact a2, a3, a4, a5⟩
  hok := fun a o e => (I.hok a o (hide_some e)).stay (fun b u _ k => k) (fun b k => by rw [hide_ne (fun z => by rw [z, h] at k; cases k)]; exact k) (fun b xs k => by rw [hide_ne (fun z => by rw [z, h] at k; cases k)]; exact k)
  len := I.len
theorem RelSt.app {T : Ty} {ω : Wd} : ∀ {ws : List Sv} {vs : List V} {σ : Sg} {l : L2.St}, RelWs T ω ws vs → RelSt T ω σ l → RelSt T ω (ws.map some ++ σ) (vs.map some ++ l)
  | [], _, _, _, e, R => by cases e; exact R
  | _ :: _, _, _, _, ⟨v, r, e, q, h⟩, R => by subst e; exact ⟨v, _, rfl, q, RelSt.app h R⟩
theorem RelSt.nones {T : Ty} {ω : Wd} : ∀ k : Nat, RelSt T ω (List.replicate k none) (List.replicate k none)
  | 0 => rfl
  | k + 1 => ⟨none, _, rfl, RelSt.nones k⟩
/-- the closure's slots: its parameters, what it holds, the rest -/
def startC (N : List Str) (ws : List Sv) (x : Str) : Sg := ws.map some ++ ([some (.d (.str x))] ++ List.replicate (N.length - ws.length - 1) none)
section
variable {T : Ty} {d : ClD} {clo : Str → List D → D → Prop}
theorem fk_fnAt (hT : ∀ x a φ, T.cloR x a φ ↔ cloRel d x a φ) {X : Cx} {pins : List (Addr × Obj)} {σ : L2.St} {H : Hp} {s : Shared} {x : Str} {a : Addr} (I : Inv X pins σ H s) (h : T.cloR x a H) : PySem.W.FnAt a s.heap := by
  obtain ⟨c, cc, h1, h2, h3⟩ := (hT x a H).mp h
  obtain ⟨od, sl, doc, pm, ctv, e⟩ := fnO_at I.hok h1
  exact ⟨_, _, _, _, e⟩
theorem fk_isi (hT : ∀ x a φ, T.cloR x a φ ↔ cloRel d x a φ) (X : Cx) : CallR X (.builtin "isinstance") (fun xs H Q => ∃ a x, xs = [.ref a, .ty "str"] ∧ T.cloR x a H ∧ Q (.bl false) H) := by
  rintro pins s σ H xs us Q I r ⟨a, x, rfl, hc, q⟩
  obtain ⟨c, cc, h1, h2, h3⟩ := (hT x a H).mp hc
  obtain ⟨od, sl, doc, pm, ctv, e⟩ := fnO_at I.hok h1
  obtain ⟨u1, u2, rfl, r1, r2⟩ := vals2 r
  cases (show u1 = Value.ref a from r1)
  cases (show u2 = Value.type "str" from r2)
  exact PySem.W.kia_one (FxK.kitFun (a := a)) I.kIn ⟨_, e, rfl⟩ (kit_ty (a := "function") (b := "str") (r := false) (by decide +kernel)) (fun z => nomatch z) fun tk => ⟨.bl false, H, I.tok tk, rfl, q⟩
/-- the call -/
theorem fk_call (hT : ∀ x a φ, T.cloR x a φ ↔ cloRel d x a φ) {N ps : List Str} {κ0 : Kx} (S0 : NScope N ps [d.fv] d.scope) (hb : ∀ (c cc : Addr) (doc pm ctv : Value) (us : List Value), us.length = ps.length → bindArgs ((d.nf c cc).fd doc pm ctv) ⟨us, []⟩ = pure (ps.zip us))
    (hN : κ0.N = N) (hs : κ0.sc = d.scope) (hk : kxB κ0 = true) (hf : κ0.fn = false)
    (hB : ∀ x ds w, clo x ds w → ds.length = ps.length ∧ HB T 2 κ0 d.body (startC N (ds.map .d) x) [] (.ret (.d w)) [])
    (hD : ∀ x ds w, clo x ds w → ∀ (φ : Hp) (cc : Addr) (y : Str) (vs : List V), φ cc = some (CellO cc y) → Rels T φ ds vs → Rels T (hide cc φ) ds vs)
    {x : Str} {ds : List D} {w : D} (hc : clo x ds w) {n : Nat} {κ : Kx} {X : Cx} (c : Cok T (n + 4) κ X) {pins : List (Addr × Obj)} {s : Shared} {σ : L2.St} {H : Hp} {a : Addr} {us : List Value} {vs : List V} {Q : VK} {ω : Wd} {G : Gs} (I : Inv X pins σ H s) (S : Sim T ω H G) (hr : T.cloR x a ω.φ)
    (rd : Rels T ω.φ ds vs) (rv : Vals vs us) (out : Out T ω H G (.d w) Q) : wpAny (model X.prog X.w) X.A (PySem.call (.ref a) us) (EP X pins σ Q) X.xe s := by
  obtain ⟨cd, cc, f1, f2, f3⟩ := (hT x a ω.φ).mp hr
  have g1 := S.sub _ _ f1
  have g2 := S.sub _ _ f2
  have g3 := S.sub _ _ f3
  have n1 := fn_ne_cell I.hok g3 g1
  have n2 := code_ne_cell I.hok g3 g2
  obtain ⟨tk, oc, oc1, oc2⟩ := cellO_at I.hok g3
  have I0 := inv_hide I g3
  obtain ⟨hl, hbody⟩ := hB x ds w hc
  have S0' : Sim T ⟨hide cc ω.φ, []⟩ (hide cc H) [] := by
    refine ⟨fun b o e => ?_, List.nodup_nil, rfl, fun i m b h _ => (by simp at h), fun b h => (by cases h), fun p hp => ?_, fun b ps e => S.nt b ps (hide_some e)⟩
    · have e : hide cc ω.φ b = some o := e
      have c1 : b ≠ cc := fun z => by subst z; rw [hide_at] at e; cases e
      rw [hide_ne c1] at e ⊢
      exact S.sub _ _ e
    · obtain ⟨qs, h1, h2, h3⟩ := S.tb p hp
      refine ⟨qs, by rw [hide_ne (fun z => by rw [z, g3] at h1; cases h1)]; exact h1, h2, fun pos cv hcv => ?_⟩
      obtain ⟨c0, e1, e2⟩ := h3 pos cv hcv
      exact ⟨c0, e1, by rw [hide_ne (code_ne_cell I.hok g3 e2)]; exact e2⟩
  let sp : List (Option V) → Sp := fun cs vs H Q _ => cs = [some (.str x)] ∧ ∃ ω, Sim T ω H [] ∧ RelWs T ω (ds.map .d) vs ∧ Out T ω H [] (.d w) Q
  have Fn : NOk X.prog X.w X.K X.mg X.base CX0 3 a (d.nf cd cc) ps [d.fv] sp := by
    refine nok_of (N := N) S0 (hb cd cc) (fun ws vs H Q E ⟨_, ω, _, r, _⟩ => by rw [r.length]; simpa using hl) fun A outer s H vs ws Q E hr hf' hc' hl' ⟨e1, ω1, S1, r1, k1⟩ => ⟨_, hbody _ ?_, ω1, S1, ?_, k1⟩
    · exact ⟨c.K, c.P, c.w, c.mg, c.base, rfl, hN.symm, hN ▸ S0.nd, hs.symm, kxB_ok hk, hr, fun z => (by rw [hf] at z; cases z), passes_of rfl⟩
    · subst e1
      unfold startC startF
      have : vs.length = (ds.map Sv.d).length := r1.length
      rw [this]
      exact RelSt.app r1 ⟨.str x, _, rfl, rfl, RelSt.nones _⟩
  let Q' : VK := fun v H' => H' cc = none → Q v (upd H' cc (CellO cc x))
  have out' : Out T ⟨hide cc ω.φ, []⟩ (hide cc H) [] (.d w) Q' := fun ω' H' v st S' r' hn => by
    have fr : ∀ b, upd ω'.φ cc (CellO cc x) b ≠ none → ω.φ b = none → H b = none ∨ ∃ ψ, H b = some (.ext ψ) := fun b h k => by
      have c1 : b ≠ cc := fun z => by subst z; rw [f3] at k; cases k
      rw [upd_ne c1] at h
      rcases st.fr b h ((hide_ne c1).trans k) with z | z | ⟨ψ, z⟩
      · rw [hide_ne c1] at z; exact .inl z
      · cases z
      · rw [hide_ne c1] at z; exact .inr ⟨ψ, z⟩
    have W : Wle ω ⟨upd ω'.φ cc (CellO cc x), ω.ρ⟩ := ⟨fun b o e => by
      show upd _ _ _ b = _
      by_cases c1 : b = cc
      · subst c1; rw [f3] at e; cases e; exact upd_same
      · rw [upd_ne c1]; exact st.w.le b o ((hide_ne c1).trans e), [], by simp⟩
    have kp : ∀ b o, H b = some o → (∀ ps, o ≠ .tbl ps) → upd H' cc (CellO cc x) b = some o := fun b o e t => by
      by_cases c1 : b = cc
      · subst c1; rw [g3] at e; cases e; exact upd_same
      · rw [upd_ne c1]; exact st.kp b o ((hide_ne c1).trans e) t (by simp)
    have al : ∀ b, upd H' cc (CellO cc x) b = none → H b = none := fun b e => by
      have c1 : b ≠ cc := fun z => by subst z; rw [upd_same] at e; cases e
      rw [upd_ne c1] at e
      have := st.al b e
      rw [hide_ne c1] at this; exact this
    refine out ⟨upd ω'.φ cc (CellO cc x), ω.ρ⟩ _ v ⟨W, fun b o e t _ => kp b o e t, fun b h k => absurd h k, fun b h k => (fr b h k).elim .inl fun z => .inr (.inr z), al, fun b ps e => ?_⟩ ⟨fun b o e => ?_, S.nod, S.len, fun i m b hm hb => ?_, fun b hb z => S.ex b hb (al b z), tabs_new S'.tb hn, fun b ps (z : upd ω'.φ cc (CellO cc x) b = _) => ?_⟩ (Rel.mono (Le.upd (S'.notφ hn)) r')
    · have c1 : b ≠ cc := fun z => by subst z; rw [g3] at e; cases e
      rw [upd_ne c1]; exact st.tl b ps ((hide_ne c1).trans e)
    · have e : upd ω'.φ cc (CellO cc x) b = some o := e
      by_cases c1 : b = cc
      · subst c1; rw [upd_same] at e ⊢; exact e
      · rw [upd_ne c1] at e ⊢; exact S'.sub b o e
    · by_cases gn : m = .gone
      · exact .inl gn
      rcases S.at_ i m b hm hb with h | ⟨h1, u, h2, h3⟩
      · exact .inl h
      · refine .inr ⟨?_, u, kp b u h2 (fun ps z => relM_te h3 gn (.inl ⟨ps, z⟩)), h3.mono W⟩
        cases e : upd ω'.φ cc (CellO cc x) b with
        | none => exact e
        | some o =>
          rcases fr b (by rw [e]; simp) h1 with this | ⟨ψ, this⟩
          · rw [this] at h2; cases h2
          · rw [this] at h2; cases h2
            exact absurd (.inr ⟨_, rfl⟩) (relM_te h3 gn)
    · by_cases c1 : b = cc
      · subst c1; rw [upd_same] at z; cases z
      · rw [upd_ne c1] at z; exact S'.nt b ps z
  have C : CellsAt (d.nf cd cc).cl [d.fv] [some (.str x)] s.heap (hide cc H) := by
    have key : ∀ y b, ([(d.fv, cc)] : List (Str × Addr)).lookup y = some b → y = d.fv ∧ b = cc := fun y b e => by
      rw [List.lookup_cons] at e
      cases z : y == d.fv with
      | true => rw [z] at e; exact ⟨eq_of_beq z, (Option.some.inj e).symm⟩
      | false => rw [z] at e; cases e
    refine ⟨rfl, fun y b e => ?_, fun y z b e1 e2 => ?_, fun i y e => ?_⟩
    · obtain ⟨_, rfl⟩ := key y b e
      exact ⟨hide_at, _, oc, oc1, oc2⟩
    · rw [(key y b e1).1, (key z b e2).1]
    · cases i with
      | zero =>
        cases e
        refine ⟨cc, ?_, fun v ev => ?_⟩
        · show ([(d.fv, cc)] : List (Str × Addr)).lookup d.fv = some cc
          rw [List.lookup_cons, beq_self_eq_true]
        · cases ev
          exact ⟨.str x tk, ⟨tk, rfl⟩, oc, oc1, oc2⟩
      | succ i => simp at e
  refine wpAny_call (codeAny_mono (Fn.run X.A X.stack s (hide cc H) us vs [some (.str x)] Q' (fun _ _ _ => False) (c.room.mono (by omega)) I0.env0 ((hide_ne n1).trans g1) ((hide_ne n2).trans g2) C rv ⟨rfl, _, S0', RelWs.of (hD x ds w hc ω.φ cc x vs f3 rd), out'⟩) fun r s' hq => ?_)
  cases r with
  | error e => exact hq.elim
  | ok fl =>
    cases fl with
    | next => exact hq.elim
    | brk => exact hq.elim
    | cont => exact hq.elim
    | ret u =>
      obtain ⟨v, H', os, bare, un, hok, r, q⟩ := hq
      have nf : cc ∉ frs X.stack := fun z => by rw [I.stkFree cc z] at g3; cases g3
      have kc : s'.heap.get? cc = some oc := un.keep cc oc oc1 hide_at nf (by simp)
      have hn : H' cc = none := un.free cc oc oc1 hide_at (by simp)
      have k2 : ∀ b, b ≠ cc → upd H' cc (CellO cc x) b = H' b := fun b z => upd_ne z
      refine I.after ⟨v, upd H' cc (CellO cc x), os, bare, ⟨fun b o e n => ?_, fun b o e n => ?_, fun b o e n m => ?_, un.there, fun b xs e => ?_, fun b o u e => ?_, fun b qs e => ?_⟩, fun b o e => ?_, r, q hn⟩
      · have c1 : b ≠ cc := fun z => by subst z; rw [g3] at n; cases n
        exact un.keep b o e ((hide_ne c1).trans n)
      · have c1 : b ≠ cc := fun z => by subst z; rw [g3] at n; cases n
        exact un.slot b o e ((hide_ne c1).trans n)
      · have c1 : b ≠ cc := fun z => by subst z; rw [g3] at n; cases n
        rw [k2 b c1]; exact un.free b o e ((hide_ne c1).trans n) m
      · have c1 : b ≠ cc := fun z => by subst z; rw [g3] at e; cases e
        rw [k2 b c1]; exact un.tups b xs ((hide_ne c1).trans e)
      · have c1 : b ≠ cc := fun z => by subst z; rw [g3] at e; cases e
        rw [k2 b c1]; exact un.frzs b o u ((hide_ne c1).trans e)
      · have c1 : b ≠ cc := fun z => by subst z; rw [g3] at e; cases e
        rw [k2 b c1]; exact un.tbls b qs ((hide_ne c1).trans e)
      · by_cases c1 : b = cc
        · subst c1; rw [upd_same] at e; cases e
          exact cellO_ok kc oc2
        · rw [k2 b c1] at e
          exact (hok b o e).stay (fun b u _ k => k) (fun b k => by rw [k2 b (fun z => by rw [z, hn] at k; cases k)]; exact k) (fun b xs k => by rw [k2 b (fun z => by rw [z, hn] at k; cases k)]; exact k)
end
end Fx

end

section
set_option Elab.async false
set_option linter.all false
set_option maxRecDepth 100000
set_option maxHeartbeats 2000000
/-! The def that hands it out. -/
namespace Fx
open PySem PySem.Spec L2 PyProof.Rows LamX NdefX
section
variable {T : Ty} {Φ : Fs} {d : ClD} {f : F}
theorem fp_clo (hT : ∀ x a φ, T.cloR x a φ ↔ cloRel d x a φ) {x0 qual : Str} {params : Arguments} {scope : Scope} {dvs : List V} {kws : List (Str × V)} {pos p1 p2 : Pos} {P : Addr} {nm : Nat → Nat → Str}
    (FD : FunD T.K x0 qual params [.FunctionDef d.name d.params d.body [] none [] d.scope none d.name pos, .Return (some (.Name d.name p1)) p2] scope dvs kws (T.fA f) (Φ.fd f))
    (S : FnScope [d.fv, d.name] (Φ.ps f) scope) (hp : Φ.ps f = [d.fv]) (h1 : scope.names.lookup d.fv = some .cell) (h2 : scope.names.lookup d.name = some .local)
    (hTB : ∀ c, (∃ oc od fd osl, T.K.lookup (T.fA f) = some ⟨oc, od, .func fd, osl⟩ ∧ fd.code = .ref c) → TabB T.base T.mg c P) (hm : (P, nm) ∈ T.tabs) (hu : ∀ p ∈ T.tabs, p.1 = P → p.2 = nm) (hq : d.qual = (qual ++ ".<locals>.") ++ d.name) (hnm : nm pos.line pos.col = d.qual)
    (hfree : ∀ y ∈ d.scope.names, y.2 = .free → scope.names.lookup y.1 = some .cell ∨ scope.names.lookup y.1 = some .free) (hd0 : d.params.defaults = []) (hk0 : d.params.kw_defaults = []) (ha : ∀ env, annTrees d.params none env = [])
    (hcl : ∀ L, cellsFrom (L + 1) scope.names [] = [(d.fv, L + 1)]) (hclo : ∀ cc, cloFrom [(d.fv, cc)] d.scope.names [] = [(d.fv, cc)]) (hdn : nameOk d.name = true) (y : Str) : FP T Φ 4 f [.d (.str y)] [] (.d (.clo y)) [] := fun CX => by
  obtain ⟨oc, od, dV, kV, doc, pm, an, cdv, ct, osl, efd, lk, hcd, _, _⟩ := FD.ex
  obtain ⟨c0, rfl⟩ := He.codeIn_ref hcd
  have TB := hTB c0 ⟨oc, od, _, osl, lk, by rw [efd]⟩
  rw [efd] at lk ⊢
  refine ⟨fun vs H Q E ⟨ω, Sm, r, out⟩ => by rw [r.length, hp]; rfl, ?_⟩
  intro A outer s H args us vs Q E hr e0 hb r hsp
  obtain ⟨ω, Sm, rv, out⟩ := hsp
  obtain ⟨v0, _, rfl, rv0, rfl⟩ := rv
  obtain rfl : v0 = V.str y := rv0
  have KX : T.K.In s.heap := e0.mod.kin.keeps fun b o e => (e0.bs b o e).1
  have lim : s.heap.NoLimit := e0.mod.nolimit.keeps fun b o e => (e0.bs b o e).1
  have hkind : ∀ z ∈ (Φ.ps f).zip us, scope.names.lookup z.1 = some .local ∨ (scope.names.lookup z.1 = some .cell ∧ ((cellsFrom (s.heap.objs.size + 1) scope.names []).lookup z.1).isSome = true) := fun ⟨n, v⟩ hy =>
    (S.par n (List.of_mem_zip hy).1).elim .inl fun q => .inr ⟨q, PySem.W.cellsFrom_some _ _ _ (.inl q)⟩
  refine codeAny_call_function hr.depth (KX _ _ lk) rfl S.co S.gen rfl (PySem.W.codeRec_of KX hcd) (hb _ _ _ _ (wpAny_newFunctionEnv_cells S.kind hkind fun env he s1 ix => ?_))
  subst he
  refine ⟨lim.keeps ix.toInCall.keep, codeAny_func ?_⟩
  let X := cxOf CX T.P T.w T.K T.mg T.base [d.fv, d.name] qual scope (T.fA f) (.ref c0) A outer s H E
  have I : Inv X [] (L2.start [d.fv, d.name] [.str y]) H s1 := inv_start S hr.hd e0 (by rw [hp]; rfl) r ix
  have hcells : X.env.cells = [(d.fv, s.heap.objs.size + 1)] := hcl _
  have hlk : X.env.cells.lookup d.fv = some (s.heap.objs.size + 1) := by rw [hcells, List.lookup_cons, beq_self_eq_true]
  have PS1 := ps_ndefM (X := X) (T := T.tabs) (nm := nm) (c := c0) (P := P) (name := d.name) (params := d.params) (body := d.body) (scope := d.scope) (pos := pos) (i := 1) TB rfl hm (by rw [hnm, hq]; rfl) hu hfree hd0 hk0 (ha _) S.nd rfl (.inl h2) (.inl rfl)
  have ncc : H (s.heap.objs.size + 1) = none := e0.hok.fresh (Nat.le_succ _)
  refine wpAny_execs_cons (wpAny_mono (PS1.run [] s1 _ H ⟨fun σ' H' => ∃ g c', σ' = [some (.str y), some (.ref g)] ∧ ExtN H H' ∧ (∀ b, H' b = none → H b = none) ∧ TabsN T.tabs H' ∧ H g = none ∧ H' g = some (FnO g (d.nf c' (s.heap.objs.size + 1))) ∧ H' c' = some (CodeO c' d.qual), fun _ _ => False, fun _ _ => False, fun _ _ => False⟩ I ⟨Sm.tb, fun g c' H1 eN nn T1 g0 g1 g2 => ?_⟩) (fun fl s2 hs => ?_) fun e s' hs => hs)
  · refine ⟨g, c', rfl, eN, nn, T1, g0, ?_, ?_⟩
    · rw [g1]
      congr 2
      unfold ClD.nf
      rw [hq, hcells, hclo]
      rfl
    · have e : (qual ++ ".<locals>.") ++ d.name = d.qual := hq.symm
      rw [g2]
      show some (CodeO c' ((qual ++ ".<locals>.") ++ d.name)) = _
      rw [e]
  cases fl with
  | ret u => obtain ⟨_, _, _, _, _, q⟩ := hs; exact q.elim
  | brk => obtain ⟨_, _, _, q⟩ := hs; exact q.elim
  | cont => obtain ⟨_, _, _, q⟩ := hs; exact q.elim
  | next =>
    obtain ⟨σ', H1, I1, g, c', rfl, eN, nn, T1, g0, g1, g2⟩ := hs
    obtain ⟨d1, d2, _⟩ := nameOk_d hdn
    refine wpAny_execs_cons (wpAny_Return_some (wpAny_mono ((pe_var (X := X) (i := 1) (pos := p1) rfl (.inl h2) d1 d2).run [] s2 _ H1 (fun v H2 => v = .ref g ∧ H2 = H1) I1 ⟨_, rfl, rfl, rfl⟩) (fun u s3 hs => ?_) fun e s' hs => hs))
    obtain ⟨v, H2, J, ru, rfl, rfl⟩ := hs
    have nc1 : H2 (s.heap.objs.size + 1) = none := J.freeC d.fv _ hlk
    obtain ⟨m, hns, hl⟩ := J.loc
    obtain ⟨u0, ru0, lk0⟩ := hl 0 d.fv (.str y) rfl rfl (.inr (.inl h1))
    have hcell : ∃ t o, s3.heap.get? (s.heap.objs.size + 1) = some o ∧ o.data = .cell (some (.str y t)) := by
      rcases lk0 with ⟨z, _⟩ | ⟨_, c, hc, o, ho, hd⟩
      · have z : scope.names.lookup d.fv = some .local := z
        rw [h1] at z; cases z
      · rw [hlk] at hc; cases hc
        obtain ⟨t, rfl⟩ := ru0
        exact ⟨t, o, ho, hd⟩
    obtain ⟨tk, o, ho, hod⟩ := hcell
    have hge : ∀ b z, s.heap.get? b = some z → b ≠ s.heap.objs.size + 1 := fun b z e w => by
      have := Heap.lt_size e
      rw [w] at this
      exact absurd this (Nat.not_lt.mpr (Nat.le_succ _))
    generalize hcc : s.heap.objs.size + 1 = cc at *
    have tl : ∀ b ps, H b = some (.tbl ps) → ∃ qs, H2 b = some (.tbl qs) := fun b ps e => by
      obtain ⟨more, z⟩ := J.base.tbls b ps e
      exact ⟨_, z⟩
    have k2 : ∀ b, b ≠ cc → upd H2 cc (CellO cc y) b = H2 b := fun b z => upd_ne z
    have gne : g ≠ cc := fun z => by rw [z, nc1] at g1; cases g1
    have cne : c' ≠ cc := fun z => by rw [z, nc1] at g2; cases g2
    have hc' : H c' = none ∨ ∃ ψ, H c' = some (.ext ψ) := by
      cases e : H c' with
      | none => exact .inl rfl
      | some z =>
        by_cases t : ∃ ps, z = .tbl ps
        · obtain ⟨ps, rfl⟩ := t
          obtain ⟨qs, e2⟩ := tl c' ps e
          rw [g2] at e2; cases e2
        · have := eN c' z e fun ps w => t ⟨ps, w⟩
          rw [g2] at this; cases this; exact .inr ⟨_, rfl⟩
    let φ' : Hp := upd (upd (upd ω.φ g (FnO g (d.nf c' cc))) c' (CodeO c' d.qual)) cc (CellO cc y)
    have p3 : φ' cc = some (CellO cc y) := upd_same
    have p2' : φ' c' = some (CodeO c' d.qual) := (upd_ne cne).trans upd_same
    have gc : g ≠ c' := fun z => by
      rw [z, g2] at g1
      obtain ⟨od, sl, doc, pm, ctv, z1⟩ := fnO_at (F := d.nf c' cc) (f := c') J.hok (by rw [g2]; exact g1)
      obtain ⟨c1, oc, vs, t, y1, y2, y3, y4⟩ := codeO_at J.hok g2
      cases y1
      rw [z1] at y2; cases y2; cases y3
    have p1' : φ' g = some (FnO g (d.nf c' cc)) := (upd_ne gne).trans ((upd_ne gc).trans upd_same)
    have pn : ∀ b, b ≠ g → b ≠ c' → b ≠ cc → φ' b = ω.φ b := fun b a1 a2 a3 => (upd_ne a3).trans ((upd_ne a2).trans (upd_ne a1))
    have old : ∀ b z, ω.φ b = some z → H2 b = some z := fun b z e => eN b z (Sm.sub b z e) fun ps w => Sm.nt b ps (by rw [e, w])
    have W : Wle ω ⟨φ', ω.ρ⟩ := ⟨fun b z e => by
      show φ' b = _
      have e2 := old b z e
      by_cases a1 : b = g
      · subst a1; have := Sm.sub _ _ e; rw [g0] at this; cases this
      by_cases a3 : b = cc
      · subst a3; rw [nc1] at e2; cases e2
      by_cases a2 : b = c'
      · subst a2; rw [p2', ← g2, e2]
      · rw [pn b a1 a2 a3]; exact e, [], by simp⟩
    have hω : ω.ρ = [] := rho_nil Sm
    refine ⟨.ref g, upd H2 cc (CellO cc y), J.os, J.bare, ⟨J.base.keep, J.base.slot, fun b o e n m => ?_, J.base.there, fun b xs e => ?_, fun b o u e => ?_, fun b qs e => ?_⟩, fun b z e => ?_, ru, ?_⟩
    · have c1 : b ≠ cc := hge b o e
      rw [k2 b c1]; exact J.base.free b o e n m
    · have := J.base.tups b xs e
      rw [k2 b (fun z => by rw [z, nc1] at this; cases this)]; exact this
    · have := J.base.frzs b o u e
      rw [k2 b (fun z => by rw [z, nc1] at this; cases this)]; exact this
    · obtain ⟨more, this⟩ := J.base.tbls b qs e
      exact ⟨more, by rw [k2 b (fun z => by rw [z, nc1] at this; cases this)]; exact this⟩
    · by_cases c1 : b = cc
      · subst c1; rw [upd_same] at e; cases e
        exact cellO_ok ho hod
      · rw [k2 b c1] at e
        exact (J.hok b z e).stay (fun b u _ k => k) (fun b k => by rw [k2 b (fun z => by rw [z, nc1] at k; cases k)]; exact k) (fun b xs k => by rw [k2 b (fun z => by rw [z, nc1] at k; cases k)]; exact k)
    · refine out ⟨φ', ω.ρ⟩ _ _ ⟨W, fun b z e t _ => ?_, fun b h k => absurd h k, fun b h k => ?_, fun b e => ?_, fun b ps e => ?_⟩ ⟨fun b z e => ?_, Sm.nod, Sm.len, fun i m b hm hb => by simp at hm, fun b hb => ?_, tabs_new T1 nc1, fun b ps (e : φ' b = _) => ?_⟩ ⟨g, rfl, (hT y g φ').mpr ⟨c', cc, p1', p2', p3⟩⟩
      · have := eN b z e t
        rw [k2 b (fun w => by rw [w, nc1] at this; cases this)]; exact this
      · by_cases a1 : b = g
        · subst a1; exact .inl g0
        by_cases a3 : b = cc
        · subst a3; exact .inl ncc
        by_cases a2 : b = c'
        · subst a2; exact hc'.elim .inl fun z => .inr (.inr z)
        · exact absurd ((pn b a1 a2 a3).trans k) h
      · have c1 : b ≠ cc := fun z => by subst z; rw [upd_same] at e; cases e
        rw [k2 b c1] at e; exact nn b e
      · obtain ⟨qs, this⟩ := tl b ps e
        exact ⟨qs, by rw [k2 b (fun z => by rw [z, nc1] at this; cases this)]; exact this⟩
      · have e : φ' b = some z := e
        by_cases a3 : b = cc
        · subst a3; rw [p3] at e; rw [upd_same]; exact e
        rw [k2 b a3]
        by_cases a2 : b = c'
        · subst a2; rw [p2'] at e; rw [g2]; exact e
        by_cases a1 : b = g
        · subst a1; rw [p1'] at e; rw [g1]; exact e
        · rw [pn b a1 a2 a3] at e; exact old b z e
      · rw [show (⟨φ', ω.ρ⟩ : Wd).ρ = ω.ρ from rfl, hω] at hb; cases hb
      · by_cases a3 : b = cc
        · subst a3; rw [p3] at e; cases e
        by_cases a2 : b = c'
        · subst a2; rw [p2'] at e; cases e
        by_cases a1 : b = g
        · subst a1; rw [p1'] at e; cases e
        · rw [pn b a1 a2 a3] at e; exact Sm.nt b ps e
end
end Fx

end

section
set_option Elab.async false
set_option maxRecDepth 100000
/-! The text of the law and of what it calls, as the core has it; printed by a program. -/
namespace Fx.K85
open PySem Fx
def b_divisor_of : List CS := [(.whl (.cmp .gt (.var 1) (.con (.int 0))) [(.par [0, 1] [(.var 1), (.bin .mod (.var 0) (.var 1))])]), (.ret (.var 0))]
def d_divisor_of : FnDecl := ⟨2, 2, b_divisor_of⟩
def b_Number__init : List CS := [(.asg (.nm 3) (.call .divisor_of [(.prim .abs [(.var 1)]), (.prim .abs [(.var 2)])])), (.ite (.cmp .lt (.var 2) (.con (.int 0))) [(.asg (.nm 3) (.bin .sub (.con (.int 0)) (.var 3)))] []), (.tryThru [(.fset (.var 0) .bottom (.bin .fdiv (.var 2) (.var 3))), (.fset (.var 0) .top (.bin .fdiv (.var 1) (.var 3)))]), (.ite (.cmp .eq (.var 2) (.con (.int 0))) [.raise .Desk []] [])]
def d_Number__init : FnDecl := ⟨3, 4, b_Number__init⟩
def b_Number__eq : List CS := [(.ite (.nt (.tru (.prim (.isi (.cls .Number)) [(.var 1)]))) [(.ret (.con (.bl false)))] []), (.ret (.and (.bin .eq (.attr (.var 0) .top) (.attr (.var 1) .top)) (.bin .eq (.attr (.var 0) .bottom) (.attr (.var 1) .bottom))))]
def d_Number__eq : FnDecl := ⟨2, 2, b_Number__eq⟩
def b_Number_more : List CS := [(.ret (.new .Number [(.bin .add (.bin .mul (.attr (.var 0) .top) (.attr (.var 1) .bottom)) (.bin .mul (.attr (.var 1) .top) (.attr (.var 0) .bottom))), (.bin .mul (.attr (.var 0) .bottom) (.attr (.var 1) .bottom))] []))]
def d_Number_more : FnDecl := ⟨2, 2, b_Number_more⟩
def b_Number_less : List CS := [(.ret (.new .Number [(.bin .sub (.bin .mul (.attr (.var 0) .top) (.attr (.var 1) .bottom)) (.bin .mul (.attr (.var 1) .top) (.attr (.var 0) .bottom))), (.bin .mul (.attr (.var 0) .bottom) (.attr (.var 1) .bottom))] []))]
def d_Number_less : FnDecl := ⟨2, 2, b_Number_less⟩
def b_Number_times : List CS := [(.ret (.new .Number [(.bin .mul (.attr (.var 0) .top) (.attr (.var 1) .top)), (.bin .mul (.attr (.var 0) .bottom) (.attr (.var 1) .bottom))] []))]
def d_Number_times : FnDecl := ⟨2, 2, b_Number_times⟩
def b_Number_over : List CS := [(.ite (.cmp .eq (.attr (.var 1) .top) (.con (.int 0))) [.raise .Desk []] []), (.ret (.new .Number [(.bin .mul (.attr (.var 0) .top) (.attr (.var 1) .bottom)), (.bin .mul (.attr (.var 0) .bottom) (.attr (.var 1) .top))] []))]
def d_Number_over : FnDecl := ⟨2, 2, b_Number_over⟩
def b_Number_below : List CS := [(.ret (.bin .lt (.bin .mul (.attr (.var 0) .top) (.attr (.var 1) .bottom)) (.bin .mul (.attr (.var 1) .top) (.attr (.var 0) .bottom))))]
def d_Number_below : FnDecl := ⟨2, 2, b_Number_below⟩
def b_Number_size : List CS := [(.ret (.new .Number [(.prim .abs [(.attr (.var 0) .top)]), (.attr (.var 0) .bottom)] []))]
def d_Number_size : FnDecl := ⟨1, 1, b_Number_size⟩
def b_Number_floor : List CS := [(.ret (.bin .fdiv (.attr (.var 0) .top) (.attr (.var 0) .bottom)))]
def d_Number_floor : FnDecl := ⟨1, 1, b_Number_floor⟩
def b_by_half : List CS := [(.ite (.cmp .ne (.bin .mul (.con (.int 2)) (.attr (.var 0) .top)) (.attr (.var 0) .bottom)) [(.ret (.bin .gt (.bin .mul (.con (.int 2)) (.attr (.var 0) .top)) (.attr (.var 0) .bottom)))] []), (.ret (.var 1))]
def d_by_half : FnDecl := ⟨2, 2, b_by_half⟩
def b_goes_up : List CS := [(.ret (.bin .ge (.var 0) (.con (.int 0))))]
def d_goes_up : FnDecl := ⟨2, 2, b_goes_up⟩
def b_goes_down : List CS := [(.ret (.bin .lt (.var 0) (.con (.int 0))))]
def d_goes_down : FnDecl := ⟨2, 2, b_goes_down⟩
def b_goes_high : List CS := [(.ret (.con (.bl true)))]
def d_goes_high : FnDecl := ⟨2, 2, b_goes_high⟩
def b_goes_low : List CS := [(.ret (.con (.bl false)))]
def d_goes_low : FnDecl := ⟨2, 2, b_goes_low⟩
def b_goes_half_up : List CS := [(.ret (.call .by_half [(.var 1), (.bin .ge (.var 0) (.con (.int 0)))]))]
def d_goes_half_up : FnDecl := ⟨2, 2, b_goes_half_up⟩
def b_goes_half_down : List CS := [(.ret (.call .by_half [(.var 1), (.bin .lt (.var 0) (.con (.int 0)))]))]
def d_goes_half_down : FnDecl := ⟨2, 2, b_goes_half_down⟩
def b_goes_half_even : List CS := [(.ret (.call .by_half [(.var 1), (.bin .eq (.bin .mod (.var 0) (.con (.int 2))) (.con (.int 1)))]))]
def d_goes_half_even : FnDecl := ⟨2, 2, b_goes_half_even⟩
def b_goes_half_odd : List CS := [(.ret (.call .by_half [(.var 1), (.bin .eq (.bin .mod (.var 0) (.con (.int 2))) (.con (.int 0)))]))]
def d_goes_half_odd : FnDecl := ⟨2, 2, b_goes_half_odd⟩
def b_counts_of : List CS := [(.asg (.nm 2) (.meth .floor (.meth .over (.var 0) [(.var 1)]) [])), (.ret (.tup [(.var 2), (.ifx (.cmp .eq (.meth .times (.var 1) [(.new .Number [(.var 2)] [.int 1])]) (.var 0)) (.var 2) (.bin .add (.var 2) (.con (.int 1))))]))]
def d_counts_of : FnDecl := ⟨2, 3, b_counts_of⟩
def b_count_by : List CS := [(.asg (.tup [(.nm 3), (.nm 4)]) (.call .counts_of [(.var 0), (.var 1)])), (.ite (.cmp .eq (.var 3) (.var 4)) [(.ret (.var 3))] []), (.asg (.nm 5) (.meth .less (.meth .over (.var 0) [(.var 1)]) [(.new .Number [(.var 3)] [.int 1])])), (.asg (.nm 6) (.ifx (.tru (.prim (.isi .str) [(.var 2)])) (.gdic "RULES" (.var 2)) (.var 2))), (.ret (.ifx (.cmp .is_ (.callv 6 [(.var 3), (.var 5)]) (.con (.bl true))) (.var 4) (.var 3)))]
def d_count_by : FnDecl := ⟨3, 7, b_count_by⟩
def b_neighbours : List CS := [(.asg (.tup [(.nm 2), (.nm 3)]) (.call .counts_of [(.var 0), (.var 1)])), (.ret (.tup [(.meth .times (.var 1) [(.new .Number [(.var 2)] [.int 1])]), (.meth .times (.var 1) [(.new .Number [(.var 3)] [.int 1])])]))]
def d_neighbours : FnDecl := ⟨2, 4, b_neighbours⟩
def b_rounded : List CS := [(.ret (.meth .times (.var 1) [(.new .Number [(.call .count_by [(.var 0), (.var 1), (.var 2)])] [.int 1])]))]
def d_rounded : FnDecl := ⟨3, 3, b_rounded⟩
def b_law_deck : List CS := [(.asg (.nm 1) (.primN .list_ [(.slc (.var 0) none (some (.con (.int 63))))])), (.asg (.nm 2) (.con (.int 23))), (.for_ (.nm 3) (.seq (.var 1)) [(.asg (.nm 2) (.bin .mod (.bin .add (.bin .add (.bin .mul (.var 2) (.con (.int 69621))) (.bin .mod (.var 3) (.con (.int 2147483587)))) (.con (.int 13))) (.con (.int 2147483629))))]), (.ret (.mut (.lst [(.mut (.rev (.var 1))), (.var 2), (.con (.int 0))])))]
def d_law_deck : FnDecl := ⟨1, 4, b_law_deck⟩
def b_law_draw : List CS := [(.setx (.var 0) (.con (.int 2)) (.bin .add (.sub (.var 0) (.con (.int 2))) (.con (.int 1)))), (.asg (.nm 2) (.sub (.var 0) (.con (.int 1)))), (.ite (.cmp .ne (.sub (.var 0) (.con (.int 0))) (.lst [])) [(.asg (.nm 2) (.mm .pop (.sub (.var 0) (.con (.int 0))) [])), (.ite (.cmp .ge (.var 2) (.bin .pow (.con (.int 10)) (.con (.int 18)))) [(.exp (.mm .append (.sub (.var 0) (.con (.int 0))) [(.bin .fdiv (.var 2) (.var 1))])), (.ret (.bin .mod (.var 2) (.var 1)))] [])] []), (.asg (.nm 3) (.bin .mod (.bin .mul (.bin .add (.bin .add (.bin .mod (.var 2) (.con (.int 2147483629))) (.bin .mul (.con (.int 104729)) (.sub (.var 0) (.con (.int 2))))) (.con (.int 41))) (.con (.int 48271))) (.con (.int 2147483647)))), (.asg (.nm 3) (.bin .mod (.bin .add (.bin .add (.bin .mul (.var 3) (.var 3)) (.bin .mul (.con (.int 69621)) (.sub (.var 0) (.con (.int 2))))) (.con (.int 3))) (.con (.int 2147483587)))), (.ret (.bin .mod (.bin .fdiv (.bin .mod (.bin .mul (.var 3) (.bin .add (.bin .fdiv (.var 3) (.con (.int 7))) (.con (.int 39373)))) (.con (.int 2147483563))) (.con (.int 64))) (.var 1)))]
def d_law_draw : FnDecl := ⟨2, 4, b_law_draw⟩
def b_law_grain : List CS := [(.asg (.nm 1) (.sub (.lst [(.con (.int 1)), (.con (.int 10)), (.bin .pow (.con (.int 10)) (.con (.int 2))), (.bin .pow (.con (.int 10)) (.con (.int 3))), (.bin .pow (.con (.int 10)) (.con (.int 4))), (.bin .pow (.con (.int 10)) (.con (.int 6))), (.bin .pow (.con (.int 10)) (.con (.int 8)))]) (.call (.L 1) [(.var 0), (.con (.int 7))]))), (.asg (.nm 2) (.lst [(.tup [(.con (.int 1)), (.con (.int 1))]), (.tup [(.con (.int 1)), (.var 1)]), (.tup [(.var 1), (.con (.int 1))]), (.tup [(.con (.int 1)), (.con (.int 8))]), (.tup [(.con (.int 1)), (.con (.int 3))]), (.tup [(.con (.int 7)), (.con (.int 1))]), (.tup [(.bin .add (.con (.int 1)) (.call (.L 1) [(.var 0), (.con (.int 30))])), (.bin .add (.con (.int 1)) (.call (.L 1) [(.var 0), (.con (.int 30))]))])])), (.asg (.nm 2) (.bin .add (.var 2) (.lst [(.tup [(.con (.int 1)), (.con (.int 20))]), (.tup [(.bin .mul (.var 1) (.con (.int 1000))), (.con (.int 1))]), (.tup [(.bin .add (.con (.int 1)) (.call (.L 1) [(.var 0), (.bin .pow (.con (.int 10)) (.con (.int 6)))])), (.bin .add (.con (.int 1)) (.call (.L 1) [(.var 0), (.bin .pow (.con (.int 10)) (.con (.int 6)))]))])]))), (.ret (.sub (.var 2) (.call (.L 1) [(.var 0), (.con (.int 10))])))]
def d_law_grain : FnDecl := ⟨1, 3, b_law_grain⟩
def b_law_near : List CS := [(.asg (.nm 2) (.lst [(.call (.L 1) [(.var 0), (.con (.int 13))]), (.bin .add (.con (.int 9)) (.call (.L 1) [(.var 0), (.con (.int 3))])), (.bin .add (.con (.int 99)) (.call (.L 1) [(.var 0), (.con (.int 3))])), (.con (.int 999)), (.call (.L 1) [(.var 0), (.bin .pow (.con (.int 10)) (.con (.int 6)))])])), (.asg (.nm 3) (.bin .mul (.sub (.var 2) (.call (.L 1) [(.var 0), (.con (.int 5))])) (.sub (.lst [(.con (.int 1)), (.neg (.con (.int 1)))]) (.call (.L 1) [(.var 0), (.con (.int 2))])))), (.asg (.nm 4) (.sub (.lst [(.con (.int 1)), (.con (.int 2)), (.con (.int 4)), (.con (.int 3)), (.con (.int 10)), (.con (.int 1000))]) (.call (.L 1) [(.var 0), (.con (.int 6))]))), (.asg (.nm 5) (.bin .fdiv (.var 4) (.con (.int 2)))), (.asg (.nm 6) (.sub (.lst [(.con (.int 0)), (.var 5), (.prim .max2 [(.con (.int 0)), (.bin .sub (.var 5) (.con (.int 1)))]), (.bin .add (.var 5) (.con (.int 1))), (.con (.int 1)), (.bin .sub (.var 4) (.con (.int 1))), (.call (.L 1) [(.var 0), (.var 4)])]) (.call (.L 1) [(.var 0), (.con (.int 7))]))), (.ret (.tup [(.bin .mul (.sub (.var 1) (.con (.int 0))) (.bin .add (.bin .mul (.var 3) (.var 4)) (.bin .mod (.var 6) (.var 4)))), (.bin .mul (.sub (.var 1) (.con (.int 1))) (.var 4))]))]
def d_law_near : FnDecl := ⟨2, 7, b_law_near⟩
def b_told : List CS := [(.asg (.nm 3) (.bin .sub (.bin .mul (.con (.int 2)) (.attr (.var 1) .top)) (.attr (.var 1) .bottom))), (.ite (.cmp .in_ (.var 2) (.tup [(.con (.str "high")), (.con (.str "low"))])) [(.ret (.bin .eq (.var 2) (.con (.str "high"))))] []), (.ite (.cmp .in_ (.var 2) (.tup [(.con (.str "up")), (.con (.str "down"))])) [(.ret (.bin .eq (.bin .ge (.var 0) (.con (.int 0))) (.bin .eq (.var 2) (.con (.str "up")))))] []), (.ite (.cmp .ne (.var 3) (.con (.int 0))) [(.ret (.bin .gt (.var 3) (.con (.int 0))))] []), (.ite (.cmp .in_ (.var 2) (.tup [(.con (.str "half up")), (.con (.str "half down"))])) [(.ret (.bin .eq (.bin .ge (.var 0) (.con (.int 0))) (.bin .eq (.var 2) (.con (.str "half up")))))] []), (.ret (.bin .eq (.bin .eq (.bin .mod (.var 0) (.con (.int 2))) (.con (.int 0))) (.bin .eq (.var 2) (.con (.str "half odd")))))]
def d_told : FnDecl := ⟨2, 4, b_told⟩
def b_law_one_right : List CS := [(.asg (.nm 4) (.callk .rounded [(.var 0), (.var 1)] [(.var 2)] [])), (.asg (.tup [(.nm 5), (.nm 6)]) (.call .neighbours [(.var 0), (.var 1)])), (.ite (.or (.tru (.meth .below (.var 4) [(.var 5)])) (.or (.tru (.meth .below (.var 6) [(.var 4)])) (.nt (.tru (.meth .below (.meth .size (.meth .less (.var 0) [(.var 4)]) []) [(.var 1)]))))) [(.ret (.con (.bl false)))] []), (.ite (.and (.tru (.primM .startsw (.var 2) [(.con (.str "half"))])) (.tru (.meth .below (.var 1) [(.meth .times (.meth .size (.meth .less (.var 0) [(.var 4)]) []) [(.new .Number [(.con (.int 2))] [.int 1])])]))) [(.ret (.con (.bl false)))] []), (.ite (.nt (.cmp .eq (.callk .rounded [(.var 0), (.var 1)] [(.call (.L 4) [(.var 2)])] []) (.var 4))) [(.ret (.con (.bl false)))] []), (.asg (.nm 7) (.primM .get2 (.dsp [((.con (.str "high")), (.con (.str "low"))), ((.con (.str "low")), (.con (.str "high")))]) [(.var 2), (.var 2)])), (.ite (.nt (.cmp .eq (.callk .rounded [(.meth .less (.new .Number [(.con (.int 0))] [.int 1]) [(.var 0)]), (.var 1)] [(.var 7)] []) (.meth .less (.new .Number [(.con (.int 0))] [.int 1]) [(.var 4)]))) [(.ret (.con (.bl false)))] []), (.asg (.nm 8) (.new .Number [(.bin .add (.con (.int 3)) (.bin .mod (.var 3) (.con (.int 5))))] [.int 1])), (.ite (.nt (.cmp .eq (.callk .rounded [(.meth .times (.var 0) [(.var 8)]), (.meth .times (.var 1) [(.var 8)])] [(.var 2)] []) (.meth .times (.var 4) [(.var 8)]))) [(.ret (.con (.bl false)))] []), (.asg (.nm 9) (.meth .times (.var 1) [(.new .Number [(.bin .mul (.con (.int 2)) (.var 3))] [.int 1])])), (.ite (.and (.cmp .in_ (.var 2) (.tup [(.con (.str "up")), (.con (.str "down")), (.con (.str "half up")), (.con (.str "half down"))])) (.tru (.meth .below (.var 0) [(.new .Number [(.con (.int 0))] [.int 1])]))) [(.ret (.con (.bl true)))] []), (.ret (.bin .eq (.callk .rounded [(.meth .more (.var 0) [(.var 9)]), (.var 1)] [(.var 2)] []) (.meth .more (.var 4) [(.var 9)])))]
def d_law_one_right : FnDecl := ⟨4, 10, b_law_one_right⟩
def b_law_order_right : List CS := [(.asg (.nm 3) (.mut (.lst []))), (.for_ (.nm 4) (.seq (.var 0)) [(.asg (.nm 5) (.prim .len [(.lc (.var 6) (.nm 6) (.seq (.var 0)) [(.tru (.meth .below (.var 6) [(.var 4)]))] [6])])), (.exp (.mm .append (.var 3) [(.tup [(.var 5), (.var 4)])]))]), .frz 3, (.for_ (.tup [(.nm 5), (.nm 4)]) (.seq (.var 3)) [(.for_ (.tup [(.nm 7), (.nm 6)]) (.seq (.var 3)) [(.par [8, 9] [(.callk .rounded [(.var 4), (.var 1)] [(.var 2)] []), (.callk .rounded [(.var 6), (.var 1)] [(.var 2)] [])]), (.ite (.or (.and (.cmp .lt (.var 5) (.var 7)) (.tru (.meth .below (.var 9) [(.var 8)]))) (.and (.cmp .eq (.var 5) (.var 7)) (.nt (.cmp .eq (.var 8) (.var 9))))) [(.ret (.con (.bl false)))] [])])]), (.ret (.con (.bl true)))]
def d_law_order_right : FnDecl := ⟨3, 10, b_law_order_right⟩
def b_law : List CS := [(.asg (.nm 1) (.call (.L 0) [(.var 0)])), (.for_ (.nm 2) (.rng1 (.con (.int 10))) [(.asg (.nm 3) (.call (.L 2) [(.var 1)])), (.asg (.nm 4) (.bin .add (.con (.int 1)) (.call (.L 1) [(.var 1), (.con (.int 50))]))), (.asg (.nm 5) (.new .Number [(.sub (.var 3) (.con (.int 0))), (.sub (.var 3) (.con (.int 1)))] [])), (.asg (.nm 6) (.mut (.lst []))), (.for_ (.nm 7) (.rng1 (.con (.int 4))) [(.asg (.tup [(.nm 8), (.nm 9)]) (.call (.L 3) [(.var 1), (.var 3)])), (.exp (.mm .append (.var 6) [(.new .Number [(.var 8), (.var 9)] [])]))]), (.exp (.mm .append (.var 6) [(.meth .more (.sub (.var 6) (.con (.int 0))) [(.meth .over (.var 5) [(.new .Number [(.con (.int 7))] [.int 1])])])])), .frz 6, (.for_ (.nm 10) (.seq (.con (.tup [.str "up", .str "down", .str "high", .str "low", .str "half up", .str "half down", .str "half even", .str "half odd"]))) [(.for_ (.nm 11) (.seq (.var 6)) [(.ite (.nt (.tru (.call (.L 5) [(.var 11), (.var 5), (.var 10), (.var 4)]))) [(.ret (.con (.bl false)))] [])]), (.ite (.nt (.tru (.call (.L 6) [(.var 6), (.var 5), (.var 10)]))) [(.ret (.con (.bl false)))] [])])]), (.ret (.con (.bl true)))]
def d_law : FnDecl := ⟨1, 12, b_law⟩
end Fx.K85

end

section
set_option Elab.async false
set_option linter.all false
set_option maxRecDepth 100000
set_option maxHeartbeats 1000000
/-! Which def of the row is which core; printed by a program. -/
namespace Fx.K85
open PySem L2 PyProof.Rows Fx
def top (i : Nat) : Stmt := PySem.Challenge.pw_figuretexts_k85_whole_rounding_by_all_wa.main.body.getD i (.Pass ⟨0, 0, 0, 0⟩)
def clsBody (s : Stmt) : List Stmt := match s with
  | .ClassDef _ _ _ b _ _ _ _ _ _ _ => b
  | _ => []
def clsAt (i k : Nat) : Stmt := (clsBody (top i)).getD k (.Pass ⟨0, 0, 0, 0⟩)
def inner (s : Stmt) : Stmt := (defBody s).getD 0 (.Pass ⟨0, 0, 0, 0⟩)
def fnTab : List (Str × F) := [("divisor_of", .divisor_of), ("by_half", .by_half), ("goes_up", .goes_up), ("goes_down", .goes_down), ("goes_high", .goes_high), ("goes_low", .goes_low), ("goes_half_up", .goes_half_up), ("goes_half_down", .goes_half_down), ("goes_half_even", .goes_half_even), ("goes_half_odd", .goes_half_odd), ("counts_of", .counts_of), ("count_by", .count_by), ("neighbours", .neighbours), ("rounded", .rounded), ("_law_deck", (.L 0)), ("_law_draw", (.L 1)), ("_law_grain", (.L 2)), ("_law_near", (.L 3)), ("_law_function", (.L 4)), ("_law_one_right", (.L 5)), ("_law_order_right", (.L 6)), ("law", (.L 7))]
def clTab : List (Str × Cn) := [("Number", .Number)]
def coTab : List (Str × D) := [("WAY", (.str "half even")), ("WAYS", (.tup [.str "up", .str "down", .str "high", .str "low", .str "half up", .str "half down", .str "half even", .str "half odd"])), ("HALF", (.int 2))]
def frTab : List Str := ["abs", "isinstance", "str", "list", "range", "len", "max"]
def tb85 : Tb where
  fn x f := ∃ i : Nat, fnTab[i]? = some (x, f)
  cl x c := ∃ i : Nat, clTab[i]? = some (x, c)
  co x d := ∃ i : Nat, coTab[i]? = some (x, d)
  fr x := ∃ i : Nat, frTab[i]? = some x
  gd x := x = "RULES"
  kw f n nm := f = .rounded ∧ n = 2 ∧ nm = "way"
abbrev s_divisor_of : Stmt := (top 3)
abbrev n_divisor_of : List Str := ["one", "other"]
def k_divisor_of : Kx := ⟨n_divisor_of, defScope s_divisor_of, [0, 1], [], true⟩
theorem kb_divisor_of : kxB k_divisor_of = true := by decide +kernel
theorem er_divisor_of : ErB tb85 k_divisor_of (defBody s_divisor_of) b_divisor_of :=
  (.cons (.whl (.cmp rfl (.var (i := 1) rfl rfl) .int rfl) (.cons (.par (i := 0) (j := 1) rfl rfl (by decide) (by decide +kernel) (by decide +kernel) (.cons (.var (i := 1) rfl rfl) (.cons (.bin rfl (.var (i := 0) rfl rfl) (.var (i := 1) rfl rfl)) .nil fun _ => rfl) fun _ => rfl) (fun env h => by cases env; cases h; rfl) (fun _ _ => rfl)) .nil)) (.cons (.ret (.var (i := 0) rfl rfl)) .nil))
abbrev s_Number__init : Stmt := (clsAt 4 0)
abbrev n_Number__init : List Str := ["self", "top", "bottom", "by"]
def k_Number__init : Kx := ⟨n_Number__init, defScope s_Number__init, [0, 1, 2, 3], ["divisor_of", "abs"], true⟩
theorem kb_Number__init : kxB k_Number__init = true := by decide +kernel
theorem er_Number__init : ErB tb85 k_Number__init (defBody s_Number__init) b_Number__init :=
  (.cons (.asg (.nm (i := 3) rfl (by decide +kernel)) (.call (j := 0) rfl ⟨0, rfl⟩ (.cons (.prim (j := 1) (n := 1) rfl ⟨0, rfl⟩ .abs rfl (.cons (.var (i := 1) rfl rfl) .nil fun _ => rfl)) (.cons (.prim (j := 1) (n := 1) rfl ⟨0, rfl⟩ .abs rfl (.cons (.var (i := 2) rfl rfl) .nil fun _ => rfl)) .nil fun _ => rfl) fun _ => rfl)) (fun _ _ => rfl) fun _ _ => rfl) (.cons (.ite (.cmp rfl (.var (i := 2) rfl rfl) .int rfl) (.cons (.asg (.nm (i := 3) rfl (by decide +kernel)) (.bin rfl .int (.var (i := 3) rfl rfl)) (fun _ _ => rfl) fun _ _ => rfl) .nil) .nil) (.cons (.tryThru (.cons (.fset (f := .bottom) (.var (i := 0) rfl rfl) (.bin rfl (.var (i := 2) rfl rfl) (.var (i := 3) rfl rfl)) fun _ => rfl) (.cons (.fset (f := .top) (.var (i := 0) rfl rfl) (.bin rfl (.var (i := 1) rfl rfl) (.var (i := 3) rfl rfl)) fun _ => rfl) .nil))) (.cons (.ite (.cmp rfl (.var (i := 2) rfl rfl) .int rfl) .dead .nil) .nil))))
abbrev s_Number__eq : Stmt := (clsAt 4 1)
abbrev n_Number__eq : List Str := ["self", "other"]
def k_Number__eq : Kx := ⟨n_Number__eq, defScope s_Number__eq, [0, 1], ["isinstance", "Number"], true⟩
theorem kb_Number__eq : kxB k_Number__eq = true := by decide +kernel
theorem er_Number__eq : ErB tb85 k_Number__eq (defBody s_Number__eq) b_Number__eq :=
  (.cons (.ite (.nt (.tru (.isiC (j := 0) (j2 := 1) rfl ⟨1, rfl⟩ (.var (i := 1) rfl rfl) (fun _ => rfl) (fun _ => rfl) rfl ⟨0, rfl⟩) rfl fun _ _ => rfl)) (.cons (.ret .bl) .nil) .nil) (.cons (.ret (.and2 (.cmp rfl (.attr (f := .top) (.var (i := 0) rfl rfl) fun _ => rfl) (.attr (f := .top) (.var (i := 1) rfl rfl) fun _ => rfl) rfl) (.cmp rfl (.attr (f := .bottom) (.var (i := 0) rfl rfl) fun _ => rfl) (.attr (f := .bottom) (.var (i := 1) rfl rfl) fun _ => rfl) rfl))) .nil))
abbrev s_Number_more : Stmt := (clsAt 4 4)
abbrev n_Number_more : List Str := ["self", "other"]
def k_Number_more : Kx := ⟨n_Number_more, defScope s_Number_more, [0, 1], ["Number"], true⟩
theorem kb_Number_more : kxB k_Number_more = true := by decide +kernel
theorem er_Number_more : ErB tb85 k_Number_more (defBody s_Number_more) b_Number_more :=
  (.cons (.ret (.new (j := 0) rfl ⟨0, rfl⟩ (.cons (.bin rfl (.bin rfl (.attr (f := .top) (.var (i := 0) rfl rfl) fun _ => rfl) (.attr (f := .bottom) (.var (i := 1) rfl rfl) fun _ => rfl)) (.bin rfl (.attr (f := .top) (.var (i := 1) rfl rfl) fun _ => rfl) (.attr (f := .bottom) (.var (i := 0) rfl rfl) fun _ => rfl))) (.cons (.bin rfl (.attr (f := .bottom) (.var (i := 0) rfl rfl) fun _ => rfl) (.attr (f := .bottom) (.var (i := 1) rfl rfl) fun _ => rfl)) .nil fun _ => rfl) fun _ => rfl))) .nil)
abbrev s_Number_less : Stmt := (clsAt 4 5)
abbrev n_Number_less : List Str := ["self", "other"]
def k_Number_less : Kx := ⟨n_Number_less, defScope s_Number_less, [0, 1], ["Number"], true⟩
theorem kb_Number_less : kxB k_Number_less = true := by decide +kernel
theorem er_Number_less : ErB tb85 k_Number_less (defBody s_Number_less) b_Number_less :=
  (.cons (.ret (.new (j := 0) rfl ⟨0, rfl⟩ (.cons (.bin rfl (.bin rfl (.attr (f := .top) (.var (i := 0) rfl rfl) fun _ => rfl) (.attr (f := .bottom) (.var (i := 1) rfl rfl) fun _ => rfl)) (.bin rfl (.attr (f := .top) (.var (i := 1) rfl rfl) fun _ => rfl) (.attr (f := .bottom) (.var (i := 0) rfl rfl) fun _ => rfl))) (.cons (.bin rfl (.attr (f := .bottom) (.var (i := 0) rfl rfl) fun _ => rfl) (.attr (f := .bottom) (.var (i := 1) rfl rfl) fun _ => rfl)) .nil fun _ => rfl) fun _ => rfl))) .nil)
abbrev s_Number_times : Stmt := (clsAt 4 6)
abbrev n_Number_times : List Str := ["self", "other"]
def k_Number_times : Kx := ⟨n_Number_times, defScope s_Number_times, [0, 1], ["Number"], true⟩
theorem kb_Number_times : kxB k_Number_times = true := by decide +kernel
theorem er_Number_times : ErB tb85 k_Number_times (defBody s_Number_times) b_Number_times :=
  (.cons (.ret (.new (j := 0) rfl ⟨0, rfl⟩ (.cons (.bin rfl (.attr (f := .top) (.var (i := 0) rfl rfl) fun _ => rfl) (.attr (f := .top) (.var (i := 1) rfl rfl) fun _ => rfl)) (.cons (.bin rfl (.attr (f := .bottom) (.var (i := 0) rfl rfl) fun _ => rfl) (.attr (f := .bottom) (.var (i := 1) rfl rfl) fun _ => rfl)) .nil fun _ => rfl) fun _ => rfl))) .nil)
abbrev s_Number_over : Stmt := (clsAt 4 7)
abbrev n_Number_over : List Str := ["self", "other"]
def k_Number_over : Kx := ⟨n_Number_over, defScope s_Number_over, [0, 1], ["Number"], true⟩
theorem kb_Number_over : kxB k_Number_over = true := by decide +kernel
theorem er_Number_over : ErB tb85 k_Number_over (defBody s_Number_over) b_Number_over :=
  (.cons (.ite (.cmp rfl (.attr (f := .top) (.var (i := 1) rfl rfl) fun _ => rfl) .int rfl) .dead .nil) (.cons (.ret (.new (j := 0) rfl ⟨0, rfl⟩ (.cons (.bin rfl (.attr (f := .top) (.var (i := 0) rfl rfl) fun _ => rfl) (.attr (f := .bottom) (.var (i := 1) rfl rfl) fun _ => rfl)) (.cons (.bin rfl (.attr (f := .bottom) (.var (i := 0) rfl rfl) fun _ => rfl) (.attr (f := .top) (.var (i := 1) rfl rfl) fun _ => rfl)) .nil fun _ => rfl) fun _ => rfl))) .nil))
abbrev s_Number_below : Stmt := (clsAt 4 8)
abbrev n_Number_below : List Str := ["self", "other"]
def k_Number_below : Kx := ⟨n_Number_below, defScope s_Number_below, [0, 1], [], true⟩
theorem kb_Number_below : kxB k_Number_below = true := by decide +kernel
theorem er_Number_below : ErB tb85 k_Number_below (defBody s_Number_below) b_Number_below :=
  (.cons (.ret (.cmp rfl (.bin rfl (.attr (f := .top) (.var (i := 0) rfl rfl) fun _ => rfl) (.attr (f := .bottom) (.var (i := 1) rfl rfl) fun _ => rfl)) (.bin rfl (.attr (f := .top) (.var (i := 1) rfl rfl) fun _ => rfl) (.attr (f := .bottom) (.var (i := 0) rfl rfl) fun _ => rfl)) rfl)) .nil)
abbrev s_Number_size : Stmt := (clsAt 4 9)
abbrev n_Number_size : List Str := ["self"]
def k_Number_size : Kx := ⟨n_Number_size, defScope s_Number_size, [0], ["abs", "Number"], true⟩
theorem kb_Number_size : kxB k_Number_size = true := by decide +kernel
theorem er_Number_size : ErB tb85 k_Number_size (defBody s_Number_size) b_Number_size :=
  (.cons (.ret (.new (j := 1) rfl ⟨0, rfl⟩ (.cons (.prim (j := 0) (n := 1) rfl ⟨0, rfl⟩ .abs rfl (.cons (.attr (f := .top) (.var (i := 0) rfl rfl) fun _ => rfl) .nil fun _ => rfl)) (.cons (.attr (f := .bottom) (.var (i := 0) rfl rfl) fun _ => rfl) .nil fun _ => rfl) fun _ => rfl))) .nil)
abbrev s_Number_floor : Stmt := (clsAt 4 10)
abbrev n_Number_floor : List Str := ["self"]
def k_Number_floor : Kx := ⟨n_Number_floor, defScope s_Number_floor, [0], [], true⟩
theorem kb_Number_floor : kxB k_Number_floor = true := by decide +kernel
theorem er_Number_floor : ErB tb85 k_Number_floor (defBody s_Number_floor) b_Number_floor :=
  (.cons (.ret (.bin rfl (.attr (f := .top) (.var (i := 0) rfl rfl) fun _ => rfl) (.attr (f := .bottom) (.var (i := 0) rfl rfl) fun _ => rfl))) .nil)
abbrev s_by_half : Stmt := (top 9)
abbrev n_by_half : List Str := ["part", "beyond"]
def k_by_half : Kx := ⟨n_by_half, defScope s_by_half, [0, 1], ["HALF"], true⟩
theorem kb_by_half : kxB k_by_half = true := by decide +kernel
theorem er_by_half : ErB tb85 k_by_half (defBody s_by_half) b_by_half :=
  (.cons (.ite (.cmp rfl (.bin rfl (.glob (j := 0) rfl ⟨2, rfl⟩) (.attr (f := .top) (.var (i := 0) rfl rfl) fun _ => rfl)) (.attr (f := .bottom) (.var (i := 0) rfl rfl) fun _ => rfl) rfl) (.cons (.ret (.cmp rfl (.bin rfl (.glob (j := 0) rfl ⟨2, rfl⟩) (.attr (f := .top) (.var (i := 0) rfl rfl) fun _ => rfl)) (.attr (f := .bottom) (.var (i := 0) rfl rfl) fun _ => rfl) rfl)) .nil) .nil) (.cons (.ret (.var (i := 1) rfl rfl)) .nil))
abbrev s_goes_up : Stmt := (top 10)
abbrev n_goes_up : List Str := ["count", "part"]
def k_goes_up : Kx := ⟨n_goes_up, defScope s_goes_up, [0, 1], [], true⟩
theorem kb_goes_up : kxB k_goes_up = true := by decide +kernel
theorem er_goes_up : ErB tb85 k_goes_up (defBody s_goes_up) b_goes_up :=
  (.cons (.ret (.cmp rfl (.var (i := 0) rfl rfl) .int rfl)) .nil)
abbrev s_goes_down : Stmt := (top 11)
abbrev n_goes_down : List Str := ["count", "part"]
def k_goes_down : Kx := ⟨n_goes_down, defScope s_goes_down, [0, 1], [], true⟩
theorem kb_goes_down : kxB k_goes_down = true := by decide +kernel
theorem er_goes_down : ErB tb85 k_goes_down (defBody s_goes_down) b_goes_down :=
  (.cons (.ret (.cmp rfl (.var (i := 0) rfl rfl) .int rfl)) .nil)
abbrev s_goes_high : Stmt := (top 12)
abbrev n_goes_high : List Str := ["count", "part"]
def k_goes_high : Kx := ⟨n_goes_high, defScope s_goes_high, [0, 1], [], true⟩
theorem kb_goes_high : kxB k_goes_high = true := by decide +kernel
theorem er_goes_high : ErB tb85 k_goes_high (defBody s_goes_high) b_goes_high :=
  (.cons (.ret .bl) .nil)
abbrev s_goes_low : Stmt := (top 13)
abbrev n_goes_low : List Str := ["count", "part"]
def k_goes_low : Kx := ⟨n_goes_low, defScope s_goes_low, [0, 1], [], true⟩
theorem kb_goes_low : kxB k_goes_low = true := by decide +kernel
theorem er_goes_low : ErB tb85 k_goes_low (defBody s_goes_low) b_goes_low :=
  (.cons (.ret .bl) .nil)
abbrev s_goes_half_up : Stmt := (top 14)
abbrev n_goes_half_up : List Str := ["count", "part"]
def k_goes_half_up : Kx := ⟨n_goes_half_up, defScope s_goes_half_up, [0, 1], ["by_half"], true⟩
theorem kb_goes_half_up : kxB k_goes_half_up = true := by decide +kernel
theorem er_goes_half_up : ErB tb85 k_goes_half_up (defBody s_goes_half_up) b_goes_half_up :=
  (.cons (.ret (.call (j := 0) rfl ⟨1, rfl⟩ (.cons (.var (i := 1) rfl rfl) (.cons (.cmp rfl (.var (i := 0) rfl rfl) .int rfl) .nil fun _ => rfl) fun _ => rfl))) .nil)
abbrev s_goes_half_down : Stmt := (top 15)
abbrev n_goes_half_down : List Str := ["count", "part"]
def k_goes_half_down : Kx := ⟨n_goes_half_down, defScope s_goes_half_down, [0, 1], ["by_half"], true⟩
theorem kb_goes_half_down : kxB k_goes_half_down = true := by decide +kernel
theorem er_goes_half_down : ErB tb85 k_goes_half_down (defBody s_goes_half_down) b_goes_half_down :=
  (.cons (.ret (.call (j := 0) rfl ⟨1, rfl⟩ (.cons (.var (i := 1) rfl rfl) (.cons (.cmp rfl (.var (i := 0) rfl rfl) .int rfl) .nil fun _ => rfl) fun _ => rfl))) .nil)
abbrev s_goes_half_even : Stmt := (top 16)
abbrev n_goes_half_even : List Str := ["count", "part"]
def k_goes_half_even : Kx := ⟨n_goes_half_even, defScope s_goes_half_even, [0, 1], ["by_half", "HALF"], true⟩
theorem kb_goes_half_even : kxB k_goes_half_even = true := by decide +kernel
theorem er_goes_half_even : ErB tb85 k_goes_half_even (defBody s_goes_half_even) b_goes_half_even :=
  (.cons (.ret (.call (j := 0) rfl ⟨1, rfl⟩ (.cons (.var (i := 1) rfl rfl) (.cons (.cmp rfl (.bin rfl (.var (i := 0) rfl rfl) (.glob (j := 1) rfl ⟨2, rfl⟩)) .int rfl) .nil fun _ => rfl) fun _ => rfl))) .nil)
abbrev s_goes_half_odd : Stmt := (top 17)
abbrev n_goes_half_odd : List Str := ["count", "part"]
def k_goes_half_odd : Kx := ⟨n_goes_half_odd, defScope s_goes_half_odd, [0, 1], ["by_half", "HALF"], true⟩
theorem kb_goes_half_odd : kxB k_goes_half_odd = true := by decide +kernel
theorem er_goes_half_odd : ErB tb85 k_goes_half_odd (defBody s_goes_half_odd) b_goes_half_odd :=
  (.cons (.ret (.call (j := 0) rfl ⟨1, rfl⟩ (.cons (.var (i := 1) rfl rfl) (.cons (.cmp rfl (.bin rfl (.var (i := 0) rfl rfl) (.glob (j := 1) rfl ⟨2, rfl⟩)) .int rfl) .nil fun _ => rfl) fun _ => rfl))) .nil)
abbrev s_counts_of : Stmt := (top 19)
abbrev n_counts_of : List Str := ["number", "step", "low"]
def k_counts_of : Kx := ⟨n_counts_of, defScope s_counts_of, [0, 1, 2], ["Number"], true⟩
theorem kb_counts_of : kxB k_counts_of = true := by decide +kernel
theorem er_counts_of : ErB tb85 k_counts_of (defBody s_counts_of) b_counts_of :=
  (.cons (.asg (.nm (i := 2) rfl (by decide +kernel)) (.meth (m := .floor) (.meth (m := .over) (.var (i := 0) rfl rfl) (.cons (.var (i := 1) rfl rfl) .nil fun _ => rfl) (fun _ => rfl) rfl (by decide)) .nil (fun _ => rfl) rfl (by decide)) (fun _ _ => rfl) fun _ _ => rfl) (.cons (.ret (.tup (.cons (.var (i := 2) rfl rfl) (.cons (.ifx (.cmp rfl (.meth (m := .times) (.var (i := 1) rfl rfl) (.cons (.new (j := 0) rfl ⟨0, rfl⟩ (.cons (.var (i := 2) rfl rfl) .nil fun _ => rfl)) .nil fun _ => rfl) (fun _ => rfl) rfl (by decide)) (.var (i := 0) rfl rfl) rfl) (.var (i := 2) rfl rfl) (.bin rfl (.var (i := 2) rfl rfl) .int)) .nil fun _ => rfl) fun _ => rfl))) .nil))
abbrev s_count_by : Stmt := (top 20)
abbrev n_count_by : List Str := ["number", "step", "way", "low", "high", "part", "rule"]
def k_count_by : Kx := ⟨n_count_by, defScope s_count_by, [0, 1, 2, 3, 4, 5, 6], ["counts_of", "Number", "isinstance", "str", "RULES"], true⟩
theorem kb_count_by : kxB k_count_by = true := by decide +kernel
theorem er_count_by : ErB tb85 k_count_by (defBody s_count_by) b_count_by :=
  (.cons (.asg (.tup (.cons (.nm (i := 3) rfl (by decide +kernel)) (.cons (.nm (i := 4) rfl (by decide +kernel)) .nil))) (.call (j := 0) rfl ⟨10, rfl⟩ (.cons (.var (i := 0) rfl rfl) (.cons (.var (i := 1) rfl rfl) .nil fun _ => rfl) fun _ => rfl)) (fun _ _ => rfl) fun _ _ => rfl) (.cons (.ite (.cmp rfl (.var (i := 3) rfl rfl) (.var (i := 4) rfl rfl) rfl) (.cons (.ret (.var (i := 3) rfl rfl)) .nil) .nil) (.cons (.asg (.nm (i := 5) rfl (by decide +kernel)) (.meth (m := .less) (.meth (m := .over) (.var (i := 0) rfl rfl) (.cons (.var (i := 1) rfl rfl) .nil fun _ => rfl) (fun _ => rfl) rfl (by decide)) (.cons (.new (j := 1) rfl ⟨0, rfl⟩ (.cons (.var (i := 3) rfl rfl) .nil fun _ => rfl)) .nil fun _ => rfl) (fun _ => rfl) rfl (by decide)) (fun _ _ => rfl) fun _ _ => rfl) (.cons (.asg (.nm (i := 6) rfl (by decide +kernel)) (.ifx (.tru (.isi (j := 2) (j2 := 3) rfl ⟨1, rfl⟩ (.var (i := 2) rfl rfl) (fun _ => rfl) (fun _ => rfl) rfl ⟨2, rfl⟩ .str) rfl fun _ _ => rfl) (.gdic (j := 4) rfl rfl (.var (i := 2) rfl rfl) fun _ _ => rfl) (.var (i := 2) rfl rfl)) (fun _ _ => rfl) fun _ _ => rfl) (.cons (.ret (.ifx (.cmp rfl (.callv (i := 6) rfl rfl (.cons (.var (i := 3) rfl rfl) (.cons (.var (i := 5) rfl rfl) .nil fun _ => rfl) fun _ => rfl)) .bl rfl) (.var (i := 4) rfl rfl) (.var (i := 3) rfl rfl))) .nil)))))
abbrev s_neighbours : Stmt := (top 21)
abbrev n_neighbours : List Str := ["number", "step", "low", "high"]
def k_neighbours : Kx := ⟨n_neighbours, defScope s_neighbours, [0, 1, 2, 3], ["counts_of", "Number"], true⟩
theorem kb_neighbours : kxB k_neighbours = true := by decide +kernel
theorem er_neighbours : ErB tb85 k_neighbours (defBody s_neighbours) b_neighbours :=
  (.cons (.asg (.tup (.cons (.nm (i := 2) rfl (by decide +kernel)) (.cons (.nm (i := 3) rfl (by decide +kernel)) .nil))) (.call (j := 0) rfl ⟨10, rfl⟩ (.cons (.var (i := 0) rfl rfl) (.cons (.var (i := 1) rfl rfl) .nil fun _ => rfl) fun _ => rfl)) (fun _ _ => rfl) fun _ _ => rfl) (.cons (.ret (.tup (.cons (.meth (m := .times) (.var (i := 1) rfl rfl) (.cons (.new (j := 1) rfl ⟨0, rfl⟩ (.cons (.var (i := 2) rfl rfl) .nil fun _ => rfl)) .nil fun _ => rfl) (fun _ => rfl) rfl (by decide)) (.cons (.meth (m := .times) (.var (i := 1) rfl rfl) (.cons (.new (j := 1) rfl ⟨0, rfl⟩ (.cons (.var (i := 3) rfl rfl) .nil fun _ => rfl)) .nil fun _ => rfl) (fun _ => rfl) rfl (by decide)) .nil fun _ => rfl) fun _ => rfl))) .nil))
abbrev s_rounded : Stmt := (top 22)
abbrev n_rounded : List Str := ["number", "step", "way"]
def k_rounded : Kx := ⟨n_rounded, defScope s_rounded, [0, 1, 2], ["count_by", "Number"], true⟩
theorem kb_rounded : kxB k_rounded = true := by decide +kernel
theorem er_rounded : ErB tb85 k_rounded (defBody s_rounded) b_rounded :=
  (.cons (.ret (.meth (m := .times) (.var (i := 1) rfl rfl) (.cons (.new (j := 1) rfl ⟨0, rfl⟩ (.cons (.call (j := 0) rfl ⟨11, rfl⟩ (.cons (.var (i := 0) rfl rfl) (.cons (.var (i := 1) rfl rfl) (.cons (.var (i := 2) rfl rfl) .nil fun _ => rfl) fun _ => rfl) fun _ => rfl)) .nil fun _ => rfl)) .nil fun _ => rfl) (fun _ => rfl) rfl (by decide))) .nil)
abbrev s_law_deck : Stmt := (top 24)
abbrev n_law_deck : List Str := ["_law_script", "_law_cells", "_law_seed", "_law_cell"]
def k_law_deck : Kx := ⟨n_law_deck, defScope s_law_deck, [0, 1, 2, 3], ["list"], true⟩
theorem kb_law_deck : kxB k_law_deck = true := by decide +kernel
theorem er_law_deck : ErB tb85 k_law_deck (defBody s_law_deck) b_law_deck :=
  (.cons (.asg (.nm (i := 1) rfl (by decide +kernel)) (.primN (j := 0) (n := 1) rfl ⟨3, rfl⟩ .list rfl (.cons (.slc (.var (i := 0) rfl rfl) .none (.some .int)) .nil fun _ => rfl)) (fun _ _ => rfl) fun _ _ => rfl) (.cons (.asg (.nm (i := 2) rfl (by decide +kernel)) .int (fun _ _ => rfl) fun _ _ => rfl) (.cons (.for_ (.nm (i := 3) rfl (by decide +kernel)) (.seq (.var (i := 1) rfl rfl)) (.cons (.asg (.nm (i := 2) rfl (by decide +kernel)) (.bin rfl (.bin rfl (.bin rfl (.bin rfl (.var (i := 2) rfl rfl) .int) (.bin rfl (.var (i := 3) rfl rfl) .int)) .int) .int) (fun _ _ => rfl) fun _ _ => rfl) .nil) fun _ _ => rfl) (.cons (.ret (.mut (.lst (.cons (.mut (.rev (.var (i := 1) rfl rfl))) (.cons (.var (i := 2) rfl rfl) (.cons .int .nil fun _ => rfl) fun _ => rfl) fun _ => rfl)))) .nil))))
abbrev s_law_draw : Stmt := (top 25)
abbrev n_law_draw : List Str := ["_law_deck_here", "_law_ways", "_law_cell", "_law_number"]
def k_law_draw : Kx := ⟨n_law_draw, defScope s_law_draw, [0, 1, 2, 3], [], true⟩
theorem kb_law_draw : kxB k_law_draw = true := by decide +kernel
theorem er_law_draw : ErB tb85 k_law_draw (defBody s_law_draw) b_law_draw :=
  (.cons (.setx (.var (i := 0) rfl rfl) .int (.bin rfl (.sub (.var (i := 0) rfl rfl) .int fun _ _ => rfl) .int) (fun _ => rfl) (fun _ => rfl) fun _ _ => rfl) (.cons (.asg (.nm (i := 2) rfl (by decide +kernel)) (.sub (.var (i := 0) rfl rfl) .int fun _ _ => rfl) (fun _ _ => rfl) fun _ _ => rfl) (.cons (.ite (.cmp rfl (.sub (.var (i := 0) rfl rfl) .int fun _ _ => rfl) (.lst .nil) rfl) (.cons (.asg (.nm (i := 2) rfl (by decide +kernel)) (.mm0 .pop (.sub (.var (i := 0) rfl rfl) .int fun _ _ => rfl) (fun _ => rfl) rfl) (fun _ _ => rfl) fun _ _ => rfl) (.cons (.ite (.cmp rfl (.var (i := 2) rfl rfl) (.bin rfl .int .int) rfl) (.cons (.exp (.mm (n := 1) .append rfl (.sub (.var (i := 0) rfl rfl) .int fun _ _ => rfl) (.cons (.bin rfl (.var (i := 2) rfl rfl) (.var (i := 1) rfl rfl)) .nil fun _ => rfl) (fun _ => rfl) rfl) fun _ => rfl) (.cons (.ret (.bin rfl (.var (i := 2) rfl rfl) (.var (i := 1) rfl rfl))) .nil)) .nil) .nil)) .nil) (.cons (.asg (.nm (i := 3) rfl (by decide +kernel)) (.bin rfl (.bin rfl (.bin rfl (.bin rfl (.bin rfl (.var (i := 2) rfl rfl) .int) (.bin rfl .int (.sub (.var (i := 0) rfl rfl) .int fun _ _ => rfl))) .int) .int) .int) (fun _ _ => rfl) fun _ _ => rfl) (.cons (.asg (.nm (i := 3) rfl (by decide +kernel)) (.bin rfl (.bin rfl (.bin rfl (.bin rfl (.var (i := 3) rfl rfl) (.var (i := 3) rfl rfl)) (.bin rfl .int (.sub (.var (i := 0) rfl rfl) .int fun _ _ => rfl))) .int) .int) (fun _ _ => rfl) fun _ _ => rfl) (.cons (.ret (.bin rfl (.bin rfl (.bin rfl (.bin rfl (.var (i := 3) rfl rfl) (.bin rfl (.bin rfl (.var (i := 3) rfl rfl) .int) .int)) .int) .int) (.var (i := 1) rfl rfl))) .nil))))))
abbrev s_law_grain : Stmt := (top 26)
abbrev n_law_grain : List Str := ["_law_deck_here", "_law_tens", "_law_some"]
def k_law_grain : Kx := ⟨n_law_grain, defScope s_law_grain, [0, 1, 2], ["_law_draw"], true⟩
theorem kb_law_grain : kxB k_law_grain = true := by decide +kernel
theorem er_law_grain : ErB tb85 k_law_grain (defBody s_law_grain) b_law_grain :=
  (.cons (.asg (.nm (i := 1) rfl (by decide +kernel)) (.sub (.lst (.cons .int (.cons .int (.cons (.bin rfl .int .int) (.cons (.bin rfl .int .int) (.cons (.bin rfl .int .int) (.cons (.bin rfl .int .int) (.cons (.bin rfl .int .int) .nil fun _ => rfl) fun _ => rfl) fun _ => rfl) fun _ => rfl) fun _ => rfl) fun _ => rfl) fun _ => rfl)) (.call (j := 0) rfl ⟨15, rfl⟩ (.cons (.var (i := 0) rfl rfl) (.cons .int .nil fun _ => rfl) fun _ => rfl)) fun _ _ => rfl) (fun _ _ => rfl) fun _ _ => rfl) (.cons (.asg (.nm (i := 2) rfl (by decide +kernel)) (.lst (.cons (.tup (.cons .int (.cons .int .nil fun _ => rfl) fun _ => rfl)) (.cons (.tup (.cons .int (.cons (.var (i := 1) rfl rfl) .nil fun _ => rfl) fun _ => rfl)) (.cons (.tup (.cons (.var (i := 1) rfl rfl) (.cons .int .nil fun _ => rfl) fun _ => rfl)) (.cons (.tup (.cons .int (.cons .int .nil fun _ => rfl) fun _ => rfl)) (.cons (.tup (.cons .int (.cons .int .nil fun _ => rfl) fun _ => rfl)) (.cons (.tup (.cons .int (.cons .int .nil fun _ => rfl) fun _ => rfl)) (.cons (.tup (.cons (.bin rfl .int (.call (j := 0) rfl ⟨15, rfl⟩ (.cons (.var (i := 0) rfl rfl) (.cons .int .nil fun _ => rfl) fun _ => rfl))) (.cons (.bin rfl .int (.call (j := 0) rfl ⟨15, rfl⟩ (.cons (.var (i := 0) rfl rfl) (.cons .int .nil fun _ => rfl) fun _ => rfl))) .nil fun _ => rfl) fun _ => rfl)) .nil fun _ => rfl) fun _ => rfl) fun _ => rfl) fun _ => rfl) fun _ => rfl) fun _ => rfl) fun _ => rfl)) (fun _ _ => rfl) fun _ _ => rfl) (.cons (.asg (.nm (i := 2) rfl (by decide +kernel)) (.bin rfl (.var (i := 2) rfl rfl) (.lst (.cons (.tup (.cons .int (.cons .int .nil fun _ => rfl) fun _ => rfl)) (.cons (.tup (.cons (.bin rfl (.var (i := 1) rfl rfl) .int) (.cons .int .nil fun _ => rfl) fun _ => rfl)) (.cons (.tup (.cons (.bin rfl .int (.call (j := 0) rfl ⟨15, rfl⟩ (.cons (.var (i := 0) rfl rfl) (.cons (.bin rfl .int .int) .nil fun _ => rfl) fun _ => rfl))) (.cons (.bin rfl .int (.call (j := 0) rfl ⟨15, rfl⟩ (.cons (.var (i := 0) rfl rfl) (.cons (.bin rfl .int .int) .nil fun _ => rfl) fun _ => rfl))) .nil fun _ => rfl) fun _ => rfl)) .nil fun _ => rfl) fun _ => rfl) fun _ => rfl))) (fun _ _ => rfl) fun _ _ => rfl) (.cons (.ret (.sub (.var (i := 2) rfl rfl) (.call (j := 0) rfl ⟨15, rfl⟩ (.cons (.var (i := 0) rfl rfl) (.cons .int .nil fun _ => rfl) fun _ => rfl)) fun _ _ => rfl)) .nil))))
abbrev s_law_near : Stmt := (top 27)
abbrev n_law_near : List Str := ["_law_deck_here", "_law_grain_here", "_law_some", "_law_count", "_law_pieces", "_law_half", "_law_rest"]
def k_law_near : Kx := ⟨n_law_near, defScope s_law_near, [0, 1, 2, 3, 4, 5, 6], ["_law_draw", "max"], true⟩
theorem kb_law_near : kxB k_law_near = true := by decide +kernel
theorem er_law_near : ErB tb85 k_law_near (defBody s_law_near) b_law_near :=
  (.cons (.asg (.nm (i := 2) rfl (by decide +kernel)) (.lst (.cons (.call (j := 0) rfl ⟨15, rfl⟩ (.cons (.var (i := 0) rfl rfl) (.cons .int .nil fun _ => rfl) fun _ => rfl)) (.cons (.bin rfl .int (.call (j := 0) rfl ⟨15, rfl⟩ (.cons (.var (i := 0) rfl rfl) (.cons .int .nil fun _ => rfl) fun _ => rfl))) (.cons (.bin rfl .int (.call (j := 0) rfl ⟨15, rfl⟩ (.cons (.var (i := 0) rfl rfl) (.cons .int .nil fun _ => rfl) fun _ => rfl))) (.cons .int (.cons (.call (j := 0) rfl ⟨15, rfl⟩ (.cons (.var (i := 0) rfl rfl) (.cons (.bin rfl .int .int) .nil fun _ => rfl) fun _ => rfl)) .nil fun _ => rfl) fun _ => rfl) fun _ => rfl) fun _ => rfl) fun _ => rfl)) (fun _ _ => rfl) fun _ _ => rfl) (.cons (.asg (.nm (i := 3) rfl (by decide +kernel)) (.bin rfl (.sub (.var (i := 2) rfl rfl) (.call (j := 0) rfl ⟨15, rfl⟩ (.cons (.var (i := 0) rfl rfl) (.cons .int .nil fun _ => rfl) fun _ => rfl)) fun _ _ => rfl) (.sub (.lst (.cons .int (.cons (.neg .int) .nil fun _ => rfl) fun _ => rfl)) (.call (j := 0) rfl ⟨15, rfl⟩ (.cons (.var (i := 0) rfl rfl) (.cons .int .nil fun _ => rfl) fun _ => rfl)) fun _ _ => rfl)) (fun _ _ => rfl) fun _ _ => rfl) (.cons (.asg (.nm (i := 4) rfl (by decide +kernel)) (.sub (.lst (.cons .int (.cons .int (.cons .int (.cons .int (.cons .int (.cons .int .nil fun _ => rfl) fun _ => rfl) fun _ => rfl) fun _ => rfl) fun _ => rfl) fun _ => rfl)) (.call (j := 0) rfl ⟨15, rfl⟩ (.cons (.var (i := 0) rfl rfl) (.cons .int .nil fun _ => rfl) fun _ => rfl)) fun _ _ => rfl) (fun _ _ => rfl) fun _ _ => rfl) (.cons (.asg (.nm (i := 5) rfl (by decide +kernel)) (.bin rfl (.var (i := 4) rfl rfl) .int) (fun _ _ => rfl) fun _ _ => rfl) (.cons (.asg (.nm (i := 6) rfl (by decide +kernel)) (.sub (.lst (.cons .int (.cons (.var (i := 5) rfl rfl) (.cons (.prim (j := 1) (n := 2) rfl ⟨6, rfl⟩ .max2 rfl (.cons .int (.cons (.bin rfl (.var (i := 5) rfl rfl) .int) .nil fun _ => rfl) fun _ => rfl)) (.cons (.bin rfl (.var (i := 5) rfl rfl) .int) (.cons .int (.cons (.bin rfl (.var (i := 4) rfl rfl) .int) (.cons (.call (j := 0) rfl ⟨15, rfl⟩ (.cons (.var (i := 0) rfl rfl) (.cons (.var (i := 4) rfl rfl) .nil fun _ => rfl) fun _ => rfl)) .nil fun _ => rfl) fun _ => rfl) fun _ => rfl) fun _ => rfl) fun _ => rfl) fun _ => rfl) fun _ => rfl)) (.call (j := 0) rfl ⟨15, rfl⟩ (.cons (.var (i := 0) rfl rfl) (.cons .int .nil fun _ => rfl) fun _ => rfl)) fun _ _ => rfl) (fun _ _ => rfl) fun _ _ => rfl) (.cons (.ret (.tup (.cons (.bin rfl (.sub (.var (i := 1) rfl rfl) .int fun _ _ => rfl) (.bin rfl (.bin rfl (.var (i := 3) rfl rfl) (.var (i := 4) rfl rfl)) (.bin rfl (.var (i := 6) rfl rfl) (.var (i := 4) rfl rfl)))) (.cons (.bin rfl (.sub (.var (i := 1) rfl rfl) .int fun _ _ => rfl) (.var (i := 4) rfl rfl)) .nil fun _ => rfl) fun _ => rfl))) .nil))))))
abbrev s_told : Stmt := (inner (top 28))
abbrev n_told : List Str := ["_law_count", "_law_part", "_law_rule", "_law_twice"]
def k_told : Kx := ⟨n_told, defScope s_told, [0, 1, 2, 3], [], false⟩
theorem kb_told : kxB k_told = true := by decide +kernel
theorem er_told : ErB tb85 k_told (defBody s_told) b_told :=
  (.cons (.asg (.nm (i := 3) rfl (by decide +kernel)) (.bin rfl (.bin rfl .int (.attr (f := .top) (.var (i := 1) rfl rfl) fun _ => rfl)) (.attr (f := .bottom) (.var (i := 1) rfl rfl) fun _ => rfl)) (fun _ _ => rfl) fun _ _ => rfl) (.cons (.ite (.cmp rfl (.var (i := 2) rfl rfl) (.tup (.cons .str (.cons .str .nil fun _ => rfl) fun _ => rfl)) rfl) (.cons (.ret (.cmp rfl (.var (i := 2) rfl rfl) .str rfl)) .nil) .nil) (.cons (.ite (.cmp rfl (.var (i := 2) rfl rfl) (.tup (.cons .str (.cons .str .nil fun _ => rfl) fun _ => rfl)) rfl) (.cons (.ret (.cmp rfl (.cmp rfl (.var (i := 0) rfl rfl) .int rfl) (.cmp rfl (.var (i := 2) rfl rfl) .str rfl) rfl)) .nil) .nil) (.cons (.ite (.cmp rfl (.var (i := 3) rfl rfl) .int rfl) (.cons (.ret (.cmp rfl (.var (i := 3) rfl rfl) .int rfl)) .nil) .nil) (.cons (.ite (.cmp rfl (.var (i := 2) rfl rfl) (.tup (.cons .str (.cons .str .nil fun _ => rfl) fun _ => rfl)) rfl) (.cons (.ret (.cmp rfl (.cmp rfl (.var (i := 0) rfl rfl) .int rfl) (.cmp rfl (.var (i := 2) rfl rfl) .str rfl) rfl)) .nil) .nil) (.cons (.ret (.cmp rfl (.cmp rfl (.bin rfl (.var (i := 0) rfl rfl) .int) .int rfl) (.cmp rfl (.var (i := 2) rfl rfl) .str rfl) rfl)) .nil))))))
abbrev s_law_one_right : Stmt := (top 29)
abbrev n_law_one_right : List Str := ["_law_here", "_law_unit_step", "_law_rule", "_law_more", "_law_found", "_law_lesser", "_law_greater", "_law_turned", "_law_times_great", "_law_far"]
def k_law_one_right : Kx := ⟨n_law_one_right, defScope s_law_one_right, [0, 1, 2, 3, 4, 5, 6, 7, 8, 9], ["rounded", "neighbours", "Number", "_law_function"], true⟩
theorem kb_law_one_right : kxB k_law_one_right = true := by decide +kernel
theorem er_law_one_right : ErB tb85 k_law_one_right (defBody s_law_one_right) b_law_one_right :=
  (.cons (.asg (.nm (i := 4) rfl (by decide +kernel)) (.callk (j := 0) ⟨rfl, rfl, rfl⟩ rfl ⟨13, rfl⟩ (.cons (.var (i := 0) rfl rfl) (.cons (.var (i := 1) rfl rfl) .nil fun _ => rfl) fun _ => rfl) (.var (i := 2) rfl rfl)) (fun _ _ => rfl) fun _ _ => rfl) (.cons (.asg (.tup (.cons (.nm (i := 5) rfl (by decide +kernel)) (.cons (.nm (i := 6) rfl (by decide +kernel)) .nil))) (.call (j := 1) rfl ⟨12, rfl⟩ (.cons (.var (i := 0) rfl rfl) (.cons (.var (i := 1) rfl rfl) .nil fun _ => rfl) fun _ => rfl)) (fun _ _ => rfl) fun _ _ => rfl) (.cons (.ite (.or (.tru (.meth (m := .below) (.var (i := 4) rfl rfl) (.cons (.var (i := 5) rfl rfl) .nil fun _ => rfl) (fun _ => rfl) rfl (by decide)) rfl fun _ _ => rfl) (.or2 (.tru (.meth (m := .below) (.var (i := 6) rfl rfl) (.cons (.var (i := 4) rfl rfl) .nil fun _ => rfl) (fun _ => rfl) rfl (by decide)) rfl fun _ _ => rfl) (.nt (.tru (.meth (m := .below) (.meth (m := .size) (.meth (m := .less) (.var (i := 0) rfl rfl) (.cons (.var (i := 4) rfl rfl) .nil fun _ => rfl) (fun _ => rfl) rfl (by decide)) .nil (fun _ => rfl) rfl (by decide)) (.cons (.var (i := 1) rfl rfl) .nil fun _ => rfl) (fun _ => rfl) rfl (by decide)) rfl fun _ _ => rfl)))) (.cons (.ret .bl) .nil) .nil) (.cons (.ite (.and2 (.tru (.primM (n := 1) .startsw rfl (.var (i := 2) rfl rfl) (.cons .str .nil fun _ => rfl) (fun _ => rfl) rfl) rfl fun _ _ => rfl) (.tru (.meth (m := .below) (.var (i := 1) rfl rfl) (.cons (.meth (m := .times) (.meth (m := .size) (.meth (m := .less) (.var (i := 0) rfl rfl) (.cons (.var (i := 4) rfl rfl) .nil fun _ => rfl) (fun _ => rfl) rfl (by decide)) .nil (fun _ => rfl) rfl (by decide)) (.cons (.new (j := 2) rfl ⟨0, rfl⟩ (.cons .int .nil fun _ => rfl)) .nil fun _ => rfl) (fun _ => rfl) rfl (by decide)) .nil fun _ => rfl) (fun _ => rfl) rfl (by decide)) rfl fun _ _ => rfl)) (.cons (.ret .bl) .nil) .nil) (.cons (.ite (.nt (.cmp rfl (.callk (j := 0) ⟨rfl, rfl, rfl⟩ rfl ⟨13, rfl⟩ (.cons (.var (i := 0) rfl rfl) (.cons (.var (i := 1) rfl rfl) .nil fun _ => rfl) fun _ => rfl) (.call (j := 3) rfl ⟨18, rfl⟩ (.cons (.var (i := 2) rfl rfl) .nil fun _ => rfl))) (.var (i := 4) rfl rfl) rfl)) (.cons (.ret .bl) .nil) .nil) (.cons (.asg (.nm (i := 7) rfl (by decide +kernel)) (.primM (n := 2) .get2 rfl (.dsp (.cons .str .str (.cons .str .str .nil))) (.cons (.var (i := 2) rfl rfl) (.cons (.var (i := 2) rfl rfl) .nil fun _ => rfl) fun _ => rfl) (fun _ => rfl) rfl) (fun _ _ => rfl) fun _ _ => rfl) (.cons (.ite (.nt (.cmp rfl (.callk (j := 0) ⟨rfl, rfl, rfl⟩ rfl ⟨13, rfl⟩ (.cons (.meth (m := .less) (.new (j := 2) rfl ⟨0, rfl⟩ (.cons .int .nil fun _ => rfl)) (.cons (.var (i := 0) rfl rfl) .nil fun _ => rfl) (fun _ => rfl) rfl (by decide)) (.cons (.var (i := 1) rfl rfl) .nil fun _ => rfl) fun _ => rfl) (.var (i := 7) rfl rfl)) (.meth (m := .less) (.new (j := 2) rfl ⟨0, rfl⟩ (.cons .int .nil fun _ => rfl)) (.cons (.var (i := 4) rfl rfl) .nil fun _ => rfl) (fun _ => rfl) rfl (by decide)) rfl)) (.cons (.ret .bl) .nil) .nil) (.cons (.asg (.nm (i := 8) rfl (by decide +kernel)) (.new (j := 2) rfl ⟨0, rfl⟩ (.cons (.bin rfl .int (.bin rfl (.var (i := 3) rfl rfl) .int)) .nil fun _ => rfl)) (fun _ _ => rfl) fun _ _ => rfl) (.cons (.ite (.nt (.cmp rfl (.callk (j := 0) ⟨rfl, rfl, rfl⟩ rfl ⟨13, rfl⟩ (.cons (.meth (m := .times) (.var (i := 0) rfl rfl) (.cons (.var (i := 8) rfl rfl) .nil fun _ => rfl) (fun _ => rfl) rfl (by decide)) (.cons (.meth (m := .times) (.var (i := 1) rfl rfl) (.cons (.var (i := 8) rfl rfl) .nil fun _ => rfl) (fun _ => rfl) rfl (by decide)) .nil fun _ => rfl) fun _ => rfl) (.var (i := 2) rfl rfl)) (.meth (m := .times) (.var (i := 4) rfl rfl) (.cons (.var (i := 8) rfl rfl) .nil fun _ => rfl) (fun _ => rfl) rfl (by decide)) rfl)) (.cons (.ret .bl) .nil) .nil) (.cons (.asg (.nm (i := 9) rfl (by decide +kernel)) (.meth (m := .times) (.var (i := 1) rfl rfl) (.cons (.new (j := 2) rfl ⟨0, rfl⟩ (.cons (.bin rfl .int (.var (i := 3) rfl rfl)) .nil fun _ => rfl)) .nil fun _ => rfl) (fun _ => rfl) rfl (by decide)) (fun _ _ => rfl) fun _ _ => rfl) (.cons (.ite (.and2 (.cmp rfl (.var (i := 2) rfl rfl) (.tup (.cons .str (.cons .str (.cons .str (.cons .str .nil fun _ => rfl) fun _ => rfl) fun _ => rfl) fun _ => rfl)) rfl) (.tru (.meth (m := .below) (.var (i := 0) rfl rfl) (.cons (.new (j := 2) rfl ⟨0, rfl⟩ (.cons .int .nil fun _ => rfl)) .nil fun _ => rfl) (fun _ => rfl) rfl (by decide)) rfl fun _ _ => rfl)) (.cons (.ret .bl) .nil) .nil) (.cons (.ret (.cmp rfl (.callk (j := 0) ⟨rfl, rfl, rfl⟩ rfl ⟨13, rfl⟩ (.cons (.meth (m := .more) (.var (i := 0) rfl rfl) (.cons (.var (i := 9) rfl rfl) .nil fun _ => rfl) (fun _ => rfl) rfl (by decide)) (.cons (.var (i := 1) rfl rfl) .nil fun _ => rfl) fun _ => rfl) (.var (i := 2) rfl rfl)) (.meth (m := .more) (.var (i := 4) rfl rfl) (.cons (.var (i := 9) rfl rfl) .nil fun _ => rfl) (fun _ => rfl) rfl (by decide)) rfl)) .nil))))))))))))
abbrev s_law_order_right : Stmt := (top 30)
abbrev n_law_order_right : List Str := ["_law_numbers", "_law_unit_step", "_law_rule", "_law_rows", "_law_here", "_law_place", "_law_other", "_law_spot", "_law_one", "_law_two"]
def k_law_order_right : Kx := ⟨n_law_order_right, defScope s_law_order_right, [0, 1, 2, 3, 4, 5, 6, 7, 8, 9], ["len", "rounded"], true⟩
theorem kb_law_order_right : kxB k_law_order_right = true := by decide +kernel
theorem er_law_order_right : ErB tb85 k_law_order_right (defBody s_law_order_right) b_law_order_right :=
  (.cons (.asg (.nm (i := 3) rfl (by decide +kernel)) (.mut (.lst .nil)) (fun _ _ => rfl) fun _ _ => rfl) (.cons (.for_ (.nm (i := 4) rfl (by decide +kernel)) (.seq (.var (i := 0) rfl rfl)) (.cons (.asg (.nm (i := 5) rfl (by decide +kernel)) (.prim (j := 0) (n := 1) rfl ⟨5, rfl⟩ .len rfl (.cons (.lc (κ' := ⟨n_law_order_right, relS _ _, [4, 6], [], false⟩) (own := [("_law_other", 6)]) ⟨rfl, rfl⟩ rfl (by decide +kernel) (by decide +kernel) (.seq (.var (i := 0) rfl rfl)) (.nm (i := 6) rfl (by decide +kernel)) rfl (.one (.tru (.meth (m := .below) (.var (i := 6) rfl rfl) (.cons (.var (i := 4) rfl rfl) .nil fun _ => rfl) (fun _ => rfl) rfl (by decide)) rfl fun _ _ => rfl)) (.var (i := 6) rfl rfl) fun _ _ => rfl) .nil fun _ => rfl)) (fun _ _ => rfl) fun _ _ => rfl) (.cons (.exp (.mm (n := 1) .append rfl (.var (i := 3) rfl rfl) (.cons (.tup (.cons (.var (i := 5) rfl rfl) (.cons (.var (i := 4) rfl rfl) .nil fun _ => rfl) fun _ => rfl)) .nil fun _ => rfl) (fun _ => rfl) rfl) fun _ => rfl) .nil)) fun _ _ => rfl) (.frz (.cons (.for_ (.tup (.cons (.nm (i := 5) rfl (by decide +kernel)) (.cons (.nm (i := 4) rfl (by decide +kernel)) .nil))) (.seq (.var (i := 3) rfl rfl)) (.cons (.for_ (.tup (.cons (.nm (i := 7) rfl (by decide +kernel)) (.cons (.nm (i := 6) rfl (by decide +kernel)) .nil))) (.seq (.var (i := 3) rfl rfl)) (.cons (.par (i := 8) (j := 9) rfl rfl (by decide) (by decide +kernel) (by decide +kernel) (.cons (.callk (j := 1) ⟨rfl, rfl, rfl⟩ rfl ⟨13, rfl⟩ (.cons (.var (i := 4) rfl rfl) (.cons (.var (i := 1) rfl rfl) .nil fun _ => rfl) fun _ => rfl) (.var (i := 2) rfl rfl)) (.cons (.callk (j := 1) ⟨rfl, rfl, rfl⟩ rfl ⟨13, rfl⟩ (.cons (.var (i := 6) rfl rfl) (.cons (.var (i := 1) rfl rfl) .nil fun _ => rfl) fun _ => rfl) (.var (i := 2) rfl rfl)) .nil fun _ => rfl) fun _ => rfl) (fun env h => by cases env; cases h; rfl) (fun _ _ => rfl)) (.cons (.ite (.or2 (.and2 (.cmp rfl (.var (i := 5) rfl rfl) (.var (i := 7) rfl rfl) rfl) (.tru (.meth (m := .below) (.var (i := 9) rfl rfl) (.cons (.var (i := 8) rfl rfl) .nil fun _ => rfl) (fun _ => rfl) rfl (by decide)) rfl fun _ _ => rfl)) (.and2 (.cmp rfl (.var (i := 5) rfl rfl) (.var (i := 7) rfl rfl) rfl) (.nt (.cmp rfl (.var (i := 8) rfl rfl) (.var (i := 9) rfl rfl) rfl)))) (.cons (.ret .bl) .nil) .nil) .nil)) fun _ _ => rfl) .nil) fun _ _ => rfl) (.cons (.ret .bl) .nil)))))
abbrev s_law : Stmt := (top 31)
abbrev n_law : List Str := ["_law_script", "_law_deck_here", "_law_turn", "_law_grain_here", "_law_more", "_law_unit_step", "_law_numbers", "_law_k", "_law_top", "_law_bottom", "_law_rule", "_law_here"]
def k_law : Kx := ⟨n_law, defScope s_law, [0, 1, 2, 3, 4, 5, 6, 7, 8, 9, 10, 11], ["_law_deck", "range", "_law_grain", "_law_draw", "Number", "_law_near", "WAYS", "_law_one_right", "_law_order_right"], true⟩
theorem kb_law : kxB k_law = true := by decide +kernel
theorem er_law : ErB tb85 k_law (defBody s_law) b_law :=
  (.cons (.asg (.nm (i := 1) rfl (by decide +kernel)) (.call (j := 0) rfl ⟨14, rfl⟩ (.cons (.var (i := 0) rfl rfl) .nil fun _ => rfl)) (fun _ _ => rfl) fun _ _ => rfl) (.cons (.for_ (.nm (i := 2) rfl (by decide +kernel)) (.rng1 (j := 1) rfl ⟨4, rfl⟩ (.cons .int .nil fun _ => rfl)) (.cons (.asg (.nm (i := 3) rfl (by decide +kernel)) (.call (j := 2) rfl ⟨16, rfl⟩ (.cons (.var (i := 1) rfl rfl) .nil fun _ => rfl)) (fun _ _ => rfl) fun _ _ => rfl) (.cons (.asg (.nm (i := 4) rfl (by decide +kernel)) (.bin rfl .int (.call (j := 3) rfl ⟨15, rfl⟩ (.cons (.var (i := 1) rfl rfl) (.cons .int .nil fun _ => rfl) fun _ => rfl))) (fun _ _ => rfl) fun _ _ => rfl) (.cons (.asg (.nm (i := 5) rfl (by decide +kernel)) (.new (j := 4) rfl ⟨0, rfl⟩ (.cons (.sub (.var (i := 3) rfl rfl) .int fun _ _ => rfl) (.cons (.sub (.var (i := 3) rfl rfl) .int fun _ _ => rfl) .nil fun _ => rfl) fun _ => rfl)) (fun _ _ => rfl) fun _ _ => rfl) (.cons (.asg (.nm (i := 6) rfl (by decide +kernel)) (.mut (.lst .nil)) (fun _ _ => rfl) fun _ _ => rfl) (.cons (.for_ (.nm (i := 7) rfl (by decide +kernel)) (.rng1 (j := 1) rfl ⟨4, rfl⟩ (.cons .int .nil fun _ => rfl)) (.cons (.asg (.tup (.cons (.nm (i := 8) rfl (by decide +kernel)) (.cons (.nm (i := 9) rfl (by decide +kernel)) .nil))) (.call (j := 5) rfl ⟨17, rfl⟩ (.cons (.var (i := 1) rfl rfl) (.cons (.var (i := 3) rfl rfl) .nil fun _ => rfl) fun _ => rfl)) (fun _ _ => rfl) fun _ _ => rfl) (.cons (.exp (.mm (n := 1) .append rfl (.var (i := 6) rfl rfl) (.cons (.new (j := 4) rfl ⟨0, rfl⟩ (.cons (.var (i := 8) rfl rfl) (.cons (.var (i := 9) rfl rfl) .nil fun _ => rfl) fun _ => rfl)) .nil fun _ => rfl) (fun _ => rfl) rfl) fun _ => rfl) .nil)) fun _ _ => rfl) (.cons (.exp (.mm (n := 1) .append rfl (.var (i := 6) rfl rfl) (.cons (.meth (m := .more) (.sub (.var (i := 6) rfl rfl) .int fun _ _ => rfl) (.cons (.meth (m := .over) (.var (i := 5) rfl rfl) (.cons (.new (j := 4) rfl ⟨0, rfl⟩ (.cons .int .nil fun _ => rfl)) .nil fun _ => rfl) (fun _ => rfl) rfl (by decide)) .nil fun _ => rfl) (fun _ => rfl) rfl (by decide)) .nil fun _ => rfl) (fun _ => rfl) rfl) fun _ => rfl) (.frz (.cons (.for_ (.nm (i := 10) rfl (by decide +kernel)) (.seq (.glob (j := 6) rfl ⟨1, rfl⟩)) (.cons (.for_ (.nm (i := 11) rfl (by decide +kernel)) (.seq (.var (i := 6) rfl rfl)) (.cons (.ite (.nt (.tru (.call (j := 7) rfl ⟨19, rfl⟩ (.cons (.var (i := 11) rfl rfl) (.cons (.var (i := 5) rfl rfl) (.cons (.var (i := 10) rfl rfl) (.cons (.var (i := 4) rfl rfl) .nil fun _ => rfl) fun _ => rfl) fun _ => rfl) fun _ => rfl)) rfl fun _ _ => rfl)) (.cons (.ret .bl) .nil) .nil) .nil) fun _ _ => rfl) (.cons (.ite (.nt (.tru (.call (j := 8) rfl ⟨20, rfl⟩ (.cons (.var (i := 6) rfl rfl) (.cons (.var (i := 5) rfl rfl) (.cons (.var (i := 10) rfl rfl) .nil fun _ => rfl) fun _ => rfl) fun _ => rfl)) rfl fun _ _ => rfl)) (.cons (.ret .bl) .nil) .nil) .nil)) fun _ _ => rfl) .nil)))))))) fun _ _ => rfl) (.cons (.ret .bl) .nil)))
end Fx.K85

end

section
set_option Elab.async false
set_option linter.all false
set_option maxRecDepth 100000
set_option maxHeartbeats 0
/-! The head: what stands behind the module's top; printed by a program. -/
namespace Fx.K85
open PySem PySem.Spec L2 PyProof.Rows Fx
def sFun : Stmt := top 28
def dd_divisor_of : He.DefD := ⟨("divisor_of", none), "divisor_of", "divisor_of", defArgs s_divisor_of, defBody s_divisor_of, defScope s_divisor_of, [], []⟩
def dd_Number__init : He.DefD := ⟨("Number", some "__init__"), "__init__", "Number.__init__", defArgs s_Number__init, defBody s_Number__init, defScope s_Number__init, [.int 1], []⟩
def dd_Number__eq : He.DefD := ⟨("Number", some "__eq__"), "__eq__", "Number.__eq__", defArgs s_Number__eq, defBody s_Number__eq, defScope s_Number__eq, [], []⟩
def dd_Number_more : He.DefD := ⟨("Number", some "more"), "more", "Number.more", defArgs s_Number_more, defBody s_Number_more, defScope s_Number_more, [], []⟩
def dd_Number_less : He.DefD := ⟨("Number", some "less"), "less", "Number.less", defArgs s_Number_less, defBody s_Number_less, defScope s_Number_less, [], []⟩
def dd_Number_times : He.DefD := ⟨("Number", some "times"), "times", "Number.times", defArgs s_Number_times, defBody s_Number_times, defScope s_Number_times, [], []⟩
def dd_Number_over : He.DefD := ⟨("Number", some "over"), "over", "Number.over", defArgs s_Number_over, defBody s_Number_over, defScope s_Number_over, [], []⟩
def dd_Number_below : He.DefD := ⟨("Number", some "below"), "below", "Number.below", defArgs s_Number_below, defBody s_Number_below, defScope s_Number_below, [], []⟩
def dd_Number_size : He.DefD := ⟨("Number", some "size"), "size", "Number.size", defArgs s_Number_size, defBody s_Number_size, defScope s_Number_size, [], []⟩
def dd_Number_floor : He.DefD := ⟨("Number", some "floor"), "floor", "Number.floor", defArgs s_Number_floor, defBody s_Number_floor, defScope s_Number_floor, [], []⟩
def dd_by_half : He.DefD := ⟨("by_half", none), "by_half", "by_half", defArgs s_by_half, defBody s_by_half, defScope s_by_half, [], []⟩
def dd_goes_up : He.DefD := ⟨("goes_up", none), "goes_up", "goes_up", defArgs s_goes_up, defBody s_goes_up, defScope s_goes_up, [], []⟩
def dd_goes_down : He.DefD := ⟨("goes_down", none), "goes_down", "goes_down", defArgs s_goes_down, defBody s_goes_down, defScope s_goes_down, [], []⟩
def dd_goes_high : He.DefD := ⟨("goes_high", none), "goes_high", "goes_high", defArgs s_goes_high, defBody s_goes_high, defScope s_goes_high, [], []⟩
def dd_goes_low : He.DefD := ⟨("goes_low", none), "goes_low", "goes_low", defArgs s_goes_low, defBody s_goes_low, defScope s_goes_low, [], []⟩
def dd_goes_half_up : He.DefD := ⟨("goes_half_up", none), "goes_half_up", "goes_half_up", defArgs s_goes_half_up, defBody s_goes_half_up, defScope s_goes_half_up, [], []⟩
def dd_goes_half_down : He.DefD := ⟨("goes_half_down", none), "goes_half_down", "goes_half_down", defArgs s_goes_half_down, defBody s_goes_half_down, defScope s_goes_half_down, [], []⟩
def dd_goes_half_even : He.DefD := ⟨("goes_half_even", none), "goes_half_even", "goes_half_even", defArgs s_goes_half_even, defBody s_goes_half_even, defScope s_goes_half_even, [], []⟩
def dd_goes_half_odd : He.DefD := ⟨("goes_half_odd", none), "goes_half_odd", "goes_half_odd", defArgs s_goes_half_odd, defBody s_goes_half_odd, defScope s_goes_half_odd, [], []⟩
def dd_counts_of : He.DefD := ⟨("counts_of", none), "counts_of", "counts_of", defArgs s_counts_of, defBody s_counts_of, defScope s_counts_of, [], []⟩
def dd_count_by : He.DefD := ⟨("count_by", none), "count_by", "count_by", defArgs s_count_by, defBody s_count_by, defScope s_count_by, [], []⟩
def dd_neighbours : He.DefD := ⟨("neighbours", none), "neighbours", "neighbours", defArgs s_neighbours, defBody s_neighbours, defScope s_neighbours, [], []⟩
def dd_rounded : He.DefD := ⟨("rounded", none), "rounded", "rounded", defArgs s_rounded, defBody s_rounded, defScope s_rounded, [], [("way", .str "half even")]⟩
def dd_law_deck : He.DefD := ⟨("_law_deck", none), "_law_deck", "_law_deck", defArgs s_law_deck, defBody s_law_deck, defScope s_law_deck, [], []⟩
def dd_law_draw : He.DefD := ⟨("_law_draw", none), "_law_draw", "_law_draw", defArgs s_law_draw, defBody s_law_draw, defScope s_law_draw, [], []⟩
def dd_law_grain : He.DefD := ⟨("_law_grain", none), "_law_grain", "_law_grain", defArgs s_law_grain, defBody s_law_grain, defScope s_law_grain, [], []⟩
def dd_law_near : He.DefD := ⟨("_law_near", none), "_law_near", "_law_near", defArgs s_law_near, defBody s_law_near, defScope s_law_near, [], []⟩
def dd_told : He.DefD := ⟨("_law_function", none), "_law_function", "_law_function", defArgs sFun, defBody sFun, defScope sFun, [], []⟩
def dd_law_one_right : He.DefD := ⟨("_law_one_right", none), "_law_one_right", "_law_one_right", defArgs s_law_one_right, defBody s_law_one_right, defScope s_law_one_right, [], []⟩
def dd_law_order_right : He.DefD := ⟨("_law_order_right", none), "_law_order_right", "_law_order_right", defArgs s_law_order_right, defBody s_law_order_right, defScope s_law_order_right, [], []⟩
def dd_law : He.DefD := ⟨("law", none), "law", "law", defArgs s_law, defBody s_law, defScope s_law, [], []⟩
def fn85 : List He.DefD := [dd_divisor_of, dd_Number__init, dd_Number__eq, dd_Number_more, dd_Number_less, dd_Number_times, dd_Number_over, dd_Number_below, dd_Number_size, dd_Number_floor, dd_by_half, dd_goes_up, dd_goes_down, dd_goes_high, dd_goes_low, dd_goes_half_up, dd_goes_half_down, dd_goes_half_even, dd_goes_half_odd, dd_counts_of, dd_count_by, dd_neighbours, dd_rounded, dd_law_deck, dd_law_draw, dd_law_grain, dd_law_near, dd_told, dd_law_one_right, dd_law_order_right, dd_law]
def fa85 : List He.Fa := [.glo "divisor_of", .glo "by_half", .glo "goes_up", .glo "goes_down", .glo "goes_high", .glo "goes_low", .glo "goes_half_up", .glo "goes_half_down", .glo "goes_half_even", .glo "goes_half_odd", .glo "counts_of", .glo "count_by", .glo "neighbours", .glo "rounded", .glo "_law_deck", .glo "_law_draw"] ++ [.glo "_law_grain", .glo "_law_near", .glo "_law_function", .glo "_law_one_right", .glo "_law_order_right", .glo "law", .glo "Number", .glo "RULES", .glo "WAYS", .free "abs", .free "isinstance", .free "str", .free "list", .free "range", .free "len", .free "max"] ++ [.str "WAY" "half even", .int "HALF" 2, .cls "Number", .mkr "Number", .meth "Number" "more", .meth "Number" "less", .meth "Number" "times", .meth "Number" "over", .meth "Number" "below", .meth "Number" "size", .meth "Number" "floor", .noat "Number" "top", .noat "Number" "bottom", .noat "Number" "point", .noat "Number" "group", .noat "Number" "sizes"] ++ [.noat "Number" "least", .noat "Number" "minus", .noat "Number" "plus", .noat "Number" "figures", .noat "Number" "words", .noat "Number" "between", .noat "Number" "about", .noat "Number" "places", .noat "Number" "step", .noat "Number" "way", .noat "Number" "signs", .noat "Number" "grouped", .noat "Number" "scaled", .noat "Number" "unit", .noat "Number" "left", .noat "Number" "gone"] ++ [.noat "Number" "customs_kept", .noat "Number" "wishes_kept", .noat "Number" "answers", .noat "Number" "went", .noat "Number" "at", .noat "Number" "low", .noat "Number" "high", .noat "Number" "thing", .keep "Number"]
def ts85 : List He.Tab := [(fun K => He.ga K "RULES", ["up", "down", "high", "low", "half up", "half down", "half even", "half odd"])]
def tf85 : List He.Defn := [("_law_function", none)]
def ways85 : List He.Dv := [.str "up", .str "down", .str "high", .str "low", .str "half up", .str "half down", .str "half even", .str "half odd"]
def rules85 : List (Str × He.Dv) := [("up", .glo "goes_up"), ("down", .glo "goes_down"), ("high", .glo "goes_high"), ("low", .glo "goes_low"), ("half up", .glo "goes_half_up"), ("half down", .glo "goes_half_down"), ("half even", .glo "goes_half_even"), ("half odd", .glo "goes_half_odd")]
def kitNames : List String := ["NoneType", "bool", "int", "str", "tuple", "list", "dict"]
def oB (a : Option Bool) (b : Bool) : Bool := decide (a = some b)
def nC (K : PySem.W.Frag) : Addr := He.ga K "Number"
def ex85 (K : PySem.W.Frag) : Bool := He.tupB K "WAYS" ways85 && (He.valsB K (He.ga K "RULES") rules85 && (He.eqO (PySem.W.findIn K (.ref (nC K)) "__eq__") (some (some (.ref (He.ma K (nC K) "__eq__")))) && (PySem.W.isFn K (.ref (He.ma K (nC K) "__eq__")) &&
  (He.eqO (PySem.W.findIn K (.ref (nC K)) "__class__") (some (some (.builtin "object.__class__"))) && (He.eqO (PySem.W.specialIn K (.builtin "object.__class__") "__get__") (some (some (.builtin "getset_descriptor.__get__"))) &&
  (oB (PySem.W.takesIn K (.builtin "object.__class__")) true && (oB (PySem.W.mroIn K (nC K) (.type "object")) true && (oB (PySem.W.kitOne K (.ref (nC K)) (.ref (nC K))) true &&
  (((["int", "bool", "str", "tuple", "list", "dict"] : List String).all fun n => oB (PySem.W.kitOne K (.ref (nC K)) (.type n)) false) && (kitNames.all fun n => oB (PySem.W.kitOne K (.type n) (.ref (nC K))) false))))))))))
abbrev R85 : PySem.W.OpenRow := PySem.W.OpenLaw.row PySem.Challenge.rw_figuretexts_k85_whole_rounding_by_all_wa
abbrev hk85 : PySem.W.Hook := He.hookX 5 fa85 fn85 ts85 tf85 ex85
def ob85 (s : PySem.W.SharedT) : He.AlX := He.obsX 5 fa85 fn85 ts85 tf85 ex85 (HandSHeadRun.getT s)
theorem ob85_eq (s : PySem.W.SharedT) : ob85 s = hk85.obs s.abs := He.obsX_eq (HandSHeadRun.getT_eq s)
def loose85 : List Str := (["NoBottom", "divisor_of", "Number", "WAY", "WAYS", "HALF", "by_half", "goes_up", "goes_down", "goes_high", "goes_low", "goes_half_up", "goes_half_down", "goes_half_even", "goes_half_odd", "RULES"] : List Str) ++ (["counts_of", "count_by", "neighbours", "rounded", "_law_deck", "_law_draw", "_law_grain", "_law_near", "_law_function", "_law_one_right", "_law_order_right"] : List Str)
theorem run85 (w : World) : HandSHeadRun.RunEq R85 (PySem.W.view R85.prog [31]) hk85 ob85 3000 loose85 w := by
  revert w
  refine PySem.W.byRow2 "special-get-raises" (fun w => ?_) (fun w => ?_)
  · intro os
    kernel_rfl
  · intro os
    kernel_rfl
end Fx.K85

end

section
set_option Elab.async false
set_option linter.all false
set_option maxRecDepth 100000
set_option maxHeartbeats 4000000
/-! What the head tells, as the frame asks it; printed by a program. -/
namespace Fx.K85
open PySem PySem.Spec L2 PyProof.Rows Fx
def at85 : F → Str × Option Str
  | .divisor_of => ("divisor_of", none)
  | .Number_init => ("Number", some "__init__")
  | .Number_eq => ("Number", some "__eq__")
  | .Number_more => ("Number", some "more")
  | .Number_less => ("Number", some "less")
  | .Number_times => ("Number", some "times")
  | .Number_over => ("Number", some "over")
  | .Number_below => ("Number", some "below")
  | .Number_size => ("Number", some "size")
  | .Number_floor => ("Number", some "floor")
  | .by_half => ("by_half", none)
  | .goes_up => ("goes_up", none)
  | .goes_down => ("goes_down", none)
  | .goes_high => ("goes_high", none)
  | .goes_low => ("goes_low", none)
  | .goes_half_up => ("goes_half_up", none)
  | .goes_half_down => ("goes_half_down", none)
  | .goes_half_even => ("goes_half_even", none)
  | .goes_half_odd => ("goes_half_odd", none)
  | .counts_of => ("counts_of", none)
  | .count_by => ("count_by", none)
  | .neighbours => ("neighbours", none)
  | .rounded => ("rounded", none)
  | .L 0 => ("_law_deck", none)
  | .L 1 => ("_law_draw", none)
  | .L 2 => ("_law_grain", none)
  | .L 3 => ("_law_near", none)
  | .L 4 => ("_law_function", none)
  | .L 5 => ("_law_one_right", none)
  | .L 6 => ("_law_order_right", none)
  | .L 7 => ("law", none)
  | _ => ("", none)
def ps85 : F → List Str
  | .divisor_of => ["one", "other"]
  | .Number_init => ["self", "top", "bottom"]
  | .Number_eq => ["self", "other"]
  | .Number_more => ["self", "other"]
  | .Number_less => ["self", "other"]
  | .Number_times => ["self", "other"]
  | .Number_over => ["self", "other"]
  | .Number_below => ["self", "other"]
  | .Number_size => ["self"]
  | .Number_floor => ["self"]
  | .by_half => ["part", "beyond"]
  | .goes_up => ["count", "part"]
  | .goes_down => ["count", "part"]
  | .goes_high => ["count", "part"]
  | .goes_low => ["count", "part"]
  | .goes_half_up => ["count", "part"]
  | .goes_half_down => ["count", "part"]
  | .goes_half_even => ["count", "part"]
  | .goes_half_odd => ["count", "part"]
  | .counts_of => ["number", "step"]
  | .count_by => ["number", "step", "way"]
  | .neighbours => ["number", "step"]
  | .rounded => ["number", "step", "way"]
  | .L 0 => ["_law_script"]
  | .L 1 => ["_law_deck_here", "_law_ways"]
  | .L 2 => ["_law_deck_here"]
  | .L 3 => ["_law_deck_here", "_law_grain_here"]
  | .L 4 => ["_law_rule"]
  | .L 5 => ["_law_here", "_law_unit_step", "_law_rule", "_law_more"]
  | .L 6 => ["_law_numbers", "_law_unit_step", "_law_rule"]
  | .L 7 => ["_law_script"]
  | _ => []
theorem sc_divisor_of : FnScope n_divisor_of ["one", "other"] (defScope s_divisor_of) := ⟨rfl, rfl, rfl, by decide +kernel, rfl, by decide +kernel, by decide +kernel⟩
theorem sc_Number__init : FnScope n_Number__init ["self", "top", "bottom"] (defScope s_Number__init) := ⟨rfl, rfl, rfl, by decide +kernel, rfl, by decide +kernel, by decide +kernel⟩
theorem sc_Number__eq : FnScope n_Number__eq ["self", "other"] (defScope s_Number__eq) := ⟨rfl, rfl, rfl, by decide +kernel, rfl, by decide +kernel, by decide +kernel⟩
theorem sc_Number_more : FnScope n_Number_more ["self", "other"] (defScope s_Number_more) := ⟨rfl, rfl, rfl, by decide +kernel, rfl, by decide +kernel, by decide +kernel⟩
theorem sc_Number_less : FnScope n_Number_less ["self", "other"] (defScope s_Number_less) := ⟨rfl, rfl, rfl, by decide +kernel, rfl, by decide +kernel, by decide +kernel⟩
theorem sc_Number_times : FnScope n_Number_times ["self", "other"] (defScope s_Number_times) := ⟨rfl, rfl, rfl, by decide +kernel, rfl, by decide +kernel, by decide +kernel⟩
theorem sc_Number_over : FnScope n_Number_over ["self", "other"] (defScope s_Number_over) := ⟨rfl, rfl, rfl, by decide +kernel, rfl, by decide +kernel, by decide +kernel⟩
theorem sc_Number_below : FnScope n_Number_below ["self", "other"] (defScope s_Number_below) := ⟨rfl, rfl, rfl, by decide +kernel, rfl, by decide +kernel, by decide +kernel⟩
theorem sc_Number_size : FnScope n_Number_size ["self"] (defScope s_Number_size) := ⟨rfl, rfl, rfl, by decide +kernel, rfl, by decide +kernel, by decide +kernel⟩
theorem sc_Number_floor : FnScope n_Number_floor ["self"] (defScope s_Number_floor) := ⟨rfl, rfl, rfl, by decide +kernel, rfl, by decide +kernel, by decide +kernel⟩
theorem sc_by_half : FnScope n_by_half ["part", "beyond"] (defScope s_by_half) := ⟨rfl, rfl, rfl, by decide +kernel, rfl, by decide +kernel, by decide +kernel⟩
theorem sc_goes_up : FnScope n_goes_up ["count", "part"] (defScope s_goes_up) := ⟨rfl, rfl, rfl, by decide +kernel, rfl, by decide +kernel, by decide +kernel⟩
theorem sc_goes_down : FnScope n_goes_down ["count", "part"] (defScope s_goes_down) := ⟨rfl, rfl, rfl, by decide +kernel, rfl, by decide +kernel, by decide +kernel⟩
theorem sc_goes_high : FnScope n_goes_high ["count", "part"] (defScope s_goes_high) := ⟨rfl, rfl, rfl, by decide +kernel, rfl, by decide +kernel, by decide +kernel⟩
theorem sc_goes_low : FnScope n_goes_low ["count", "part"] (defScope s_goes_low) := ⟨rfl, rfl, rfl, by decide +kernel, rfl, by decide +kernel, by decide +kernel⟩
theorem sc_goes_half_up : FnScope n_goes_half_up ["count", "part"] (defScope s_goes_half_up) := ⟨rfl, rfl, rfl, by decide +kernel, rfl, by decide +kernel, by decide +kernel⟩
theorem sc_goes_half_down : FnScope n_goes_half_down ["count", "part"] (defScope s_goes_half_down) := ⟨rfl, rfl, rfl, by decide +kernel, rfl, by decide +kernel, by decide +kernel⟩
theorem sc_goes_half_even : FnScope n_goes_half_even ["count", "part"] (defScope s_goes_half_even) := ⟨rfl, rfl, rfl, by decide +kernel, rfl, by decide +kernel, by decide +kernel⟩
theorem sc_goes_half_odd : FnScope n_goes_half_odd ["count", "part"] (defScope s_goes_half_odd) := ⟨rfl, rfl, rfl, by decide +kernel, rfl, by decide +kernel, by decide +kernel⟩
theorem sc_counts_of : FnScope n_counts_of ["number", "step"] (defScope s_counts_of) := ⟨rfl, rfl, rfl, by decide +kernel, rfl, by decide +kernel, by decide +kernel⟩
theorem sc_count_by : FnScope n_count_by ["number", "step", "way"] (defScope s_count_by) := ⟨rfl, rfl, rfl, by decide +kernel, rfl, by decide +kernel, by decide +kernel⟩
theorem sc_neighbours : FnScope n_neighbours ["number", "step"] (defScope s_neighbours) := ⟨rfl, rfl, rfl, by decide +kernel, rfl, by decide +kernel, by decide +kernel⟩
theorem sc_rounded : FnScope n_rounded ["number", "step", "way"] (defScope s_rounded) := ⟨rfl, rfl, rfl, by decide +kernel, rfl, by decide +kernel, by decide +kernel⟩
theorem sc_law_deck : FnScope n_law_deck ["_law_script"] (defScope s_law_deck) := ⟨rfl, rfl, rfl, by decide +kernel, rfl, by decide +kernel, by decide +kernel⟩
theorem sc_law_draw : FnScope n_law_draw ["_law_deck_here", "_law_ways"] (defScope s_law_draw) := ⟨rfl, rfl, rfl, by decide +kernel, rfl, by decide +kernel, by decide +kernel⟩
theorem sc_law_grain : FnScope n_law_grain ["_law_deck_here"] (defScope s_law_grain) := ⟨rfl, rfl, rfl, by decide +kernel, rfl, by decide +kernel, by decide +kernel⟩
theorem sc_law_near : FnScope n_law_near ["_law_deck_here", "_law_grain_here"] (defScope s_law_near) := ⟨rfl, rfl, rfl, by decide +kernel, rfl, by decide +kernel, by decide +kernel⟩
theorem sc_law_one_right : FnScope n_law_one_right ["_law_here", "_law_unit_step", "_law_rule", "_law_more"] (defScope s_law_one_right) := ⟨rfl, rfl, rfl, by decide +kernel, rfl, by decide +kernel, by decide +kernel⟩
theorem sc_law_order_right : FnScope n_law_order_right ["_law_numbers", "_law_unit_step", "_law_rule"] (defScope s_law_order_right) := ⟨rfl, rfl, rfl, by decide +kernel, rfl, by decide +kernel, by decide +kernel⟩
theorem sc_law : FnScope n_law ["_law_script"] (defScope s_law) := ⟨rfl, rfl, rfl, by decide +kernel, rfl, by decide +kernel, by decide +kernel⟩
def told : ClD := ⟨"_law_told", "_law_function.<locals>._law_told", defArgs s_told, defBody s_told, defScope s_told, "_law_rule"⟩
def noFd : FuncData := PySem.W.fnOf "" "" ⟨[], [], none, [], [], none, []⟩ [] ⟨.function, [], false, false, []⟩ .none .none .none .none none .none .none
def fdOf (K : PySem.W.Frag) (a : Addr) : FuncData := match K.lookup a with
  | some ⟨_, _, .func fd, _⟩ => fd
  | _ => noFd
abbrev T85 (P : Program) (w : World) (K : PySem.W.Frag) (mg : Str → Option Value) (base : Heap) (PT : Addr) : Ty where
  K := K
  cA := fun c => match c with
    | .Number => nC K
    | _ => 0
  fA := fun f => He.fAd K (at85 f)
  has := fun c => c = .Number
  P := P
  w := w
  mg := mg
  base := base
  cloR := cloRel told
  cloM := cloRel_mono told
  tabs := [(PT, fun _ _ => told.qual)]
abbrev F85 (K : PySem.W.Frag) : Fs := ⟨fun f => fdOf K (He.fAd K (at85 f)), ps85⟩
theorem funD85 {K : PySem.W.Frag} (c : He.SaysD fa85 fn85 K) (i : Nat) {d : He.DefD} (h : fn85[i]? = some d) : FunD K d.name d.qual d.params d.body d.scope (d.dvs K) (d.kws K) (He.fAd K d.at_) (fdOf K (He.fAd K d.at_)) := by
  obtain ⟨fd, Fd⟩ := c.def_ i h
  have e : fdOf K (He.fAd K d.at_) = fd := by
    obtain ⟨oc, od, dV, kV, doc, pm, an, cdv, ct, osl, e, lk, _⟩ := Fd.ex
    unfold fdOf
    rw [lk]
  rw [e]; exact Fd
def bd85 : List F := [.divisor_of, .Number_init, .Number_eq, .Number_more, .Number_less, .Number_times, .Number_over, .Number_below, .Number_size, .Number_floor, .by_half, .goes_up, .goes_down, .goes_high, .goes_low, .goes_half_up, .goes_half_down, .goes_half_even, .goes_half_odd, .counts_of, .count_by, .neighbours, (.L 0), (.L 1), (.L 2), (.L 3), (.L 4), (.L 5), (.L 6), (.L 7)]
def rules85d : List (Str × D) := [("up", .fn .goes_up), ("down", .fn .goes_down), ("high", .fn .goes_high), ("low", .fn .goes_low), ("half up", .fn .goes_half_up), ("half down", .fn .goes_half_down), ("half even", .fn .goes_half_even), ("half odd", .fn .goes_half_odd)]
def gd85 (x : Str) (d : D) : Option D := match d with
  | .str z => rules85d.lookup z
  | _ => none
def fns85 : F → Option FnDecl
  | .divisor_of => some d_divisor_of
  | .Number_init => some d_Number__init
  | .Number_eq => some d_Number__eq
  | .Number_more => some d_Number_more
  | .Number_less => some d_Number_less
  | .Number_times => some d_Number_times
  | .Number_over => some d_Number_over
  | .Number_below => some d_Number_below
  | .Number_size => some d_Number_size
  | .Number_floor => some d_Number_floor
  | .by_half => some d_by_half
  | .goes_up => some d_goes_up
  | .goes_down => some d_goes_down
  | .goes_high => some d_goes_high
  | .goes_low => some d_goes_low
  | .goes_half_up => some d_goes_half_up
  | .goes_half_down => some d_goes_half_down
  | .goes_half_even => some d_goes_half_even
  | .goes_half_odd => some d_goes_half_odd
  | .counts_of => some d_counts_of
  | .count_by => some d_count_by
  | .neighbours => some d_neighbours
  | .rounded => some d_rounded
  | .L 0 => some d_law_deck
  | .L 1 => some d_law_draw
  | .L 2 => some d_law_grain
  | .L 3 => some d_law_near
  | .L 5 => some d_law_one_right
  | .L 6 => some d_law_order_right
  | .L 7 => some d_law
  | _ => none
def G85 (ext : F → List D → D → Prop) (clo : Str → List D → D → Prop) : Pg where
  fn := fns85
  gd := gd85
  ext := ext
  clo := clo
  bd := fun f => f ∈ bd85
  nw := fun c ds => c = .Number ∧ (ds = [] ∨ ds = [.int 1])
  kw := fun f m ks => f = .rounded ∧ m = 2 ∧ ks = (["way"] : List Str)
  tb := fun x => x = "RULES"
section
variable {P : Program} {w : World} {K : PySem.W.Frag} {mg : Str → Option Value} {base h : Heap} {PT : Addr} (X : K.In h) (G : h.Ns mainGlobals mg) (c : He.SaysX fa85 fn85 ts85 tf85 ex85 w h K)
theorem exs (c : He.SaysX fa85 fn85 ts85 tf85 ex85 w h K) : He.tupB K "WAYS" ways85 = true ∧ He.valsB K (He.ga K "RULES") rules85 = true ∧ PySem.W.findIn K (.ref (nC K)) "__eq__" = some (some (.ref (He.ma K (nC K) "__eq__"))) ∧ PySem.W.isFn K (.ref (He.ma K (nC K) "__eq__")) = true ∧
    PySem.W.findIn K (.ref (nC K)) "__class__" = some (some (.builtin "object.__class__")) ∧ PySem.W.specialIn K (.builtin "object.__class__") "__get__" = some (some (.builtin "getset_descriptor.__get__")) ∧ PySem.W.takesIn K (.builtin "object.__class__") = some true ∧
    PySem.W.mroIn K (nC K) (.type "object") = some true ∧ PySem.W.kitOne K (.ref (nC K)) (.ref (nC K)) = some true ∧ (∀ n ∈ (["int", "bool", "str", "tuple", "list", "dict"] : List String), PySem.W.kitOne K (.ref (nC K)) (.type n) = some false) ∧ ∀ n ∈ kitNames, PySem.W.kitOne K (.type n) (.ref (nC K)) = some false := by
  have e := c.more
  unfold ex85 at e
  simp only [Bool.and_eq_true, List.all_eq_true] at e
  obtain ⟨e1, e2, e3, e4, e5, e6, e7, e8, e9, e10, e11⟩ := e
  exact ⟨e1, e2, He.eqO_ok e3, e4, He.eqO_ok e5, He.eqO_ok e6, of_decide_eq_true e7, of_decide_eq_true e8, of_decide_eq_true e9, fun n hn => of_decide_eq_true (e10 n hn), fun n hn => of_decide_eq_true (e11 n hn)⟩
include X G c
theorem fc85 : Fc (T85 P w K mg base PT) tb85 where
  fr x hx := by
    obtain ⟨i, hi⟩ := hx
    have hm := List.mem_of_getElem? hi
    simp only [frTab, List.mem_cons, List.not_mem_nil, or_false] at hm
    rcases hm with rfl | rfl | rfl | rfl | rfl | rfl | rfl
    · exact He.free_ok X G (c.t.d.fact 25 (f := .free "abs") rfl)
    · exact He.free_ok X G (c.t.d.fact 26 (f := .free "isinstance") rfl)
    · exact He.free_ok X G (c.t.d.fact 27 (f := .free "str") rfl)
    · exact He.free_ok X G (c.t.d.fact 28 (f := .free "list") rfl)
    · exact He.free_ok X G (c.t.d.fact 29 (f := .free "range") rfl)
    · exact He.free_ok X G (c.t.d.fact 30 (f := .free "len") rfl)
    · exact He.free_ok X G (c.t.d.fact 31 (f := .free "max") rfl)
  co x d hx := by
    obtain ⟨i, hi⟩ := hx
    have hm := List.mem_of_getElem? hi
    simp only [coTab, List.mem_cons, List.not_mem_nil, or_false, Prod.mk.injEq] at hm
    rcases hm with ⟨rfl, rfl⟩ | ⟨rfl, rfl⟩ | ⟨rfl, rfl⟩
    · obtain ⟨t, e⟩ := He.str_ok X G (c.t.d.fact 32 (f := .str "WAY" "half even") rfl)
      exact ⟨.str "half even", _, e, ⟨t, rfl⟩, fun _ => rfl⟩
    · refine ⟨.ref (He.ga K "WAYS"), _, He.glo_ok X G (c.t.d.fact 24 (f := .glo "WAYS") rfl), rfl, fun φ => ⟨_, _, rfl, He.tupB_ok (exs c).1 φ, ?_⟩⟩
      exact Rels.strs ["up", "down", "high", "low", "half up", "half down", "half even", "half odd"]
    · obtain ⟨t, e⟩ := He.int_ok X G (c.t.d.fact 33 (f := .int "HALF" 2) rfl)
      exact ⟨.int 2, _, e, ⟨t, rfl⟩, fun _ => rfl⟩
  fn x f hx := by
    obtain ⟨i, hi⟩ := hx
    have hm := List.mem_of_getElem? hi
    simp only [fnTab, List.mem_cons, List.not_mem_nil, or_false, Prod.mk.injEq] at hm
    rcases hm with ⟨rfl, rfl⟩ | ⟨rfl, rfl⟩ | ⟨rfl, rfl⟩ | ⟨rfl, rfl⟩ | ⟨rfl, rfl⟩ | ⟨rfl, rfl⟩ | ⟨rfl, rfl⟩ | ⟨rfl, rfl⟩ | ⟨rfl, rfl⟩ | ⟨rfl, rfl⟩ | ⟨rfl, rfl⟩ | ⟨rfl, rfl⟩ | ⟨rfl, rfl⟩ | ⟨rfl, rfl⟩ | ⟨rfl, rfl⟩ | ⟨rfl, rfl⟩ | ⟨rfl, rfl⟩ | ⟨rfl, rfl⟩ | ⟨rfl, rfl⟩ | ⟨rfl, rfl⟩ | ⟨rfl, rfl⟩ | ⟨rfl, rfl⟩
    · exact ⟨He.glo_ok X G (c.t.d.fact 0 (f := .glo "divisor_of") rfl), (funD85 c.t.d 0 (d := dd_divisor_of) rfl).kp⟩
    · exact ⟨He.glo_ok X G (c.t.d.fact 1 (f := .glo "by_half") rfl), (funD85 c.t.d 10 (d := dd_by_half) rfl).kp⟩
    · exact ⟨He.glo_ok X G (c.t.d.fact 2 (f := .glo "goes_up") rfl), (funD85 c.t.d 11 (d := dd_goes_up) rfl).kp⟩
    · exact ⟨He.glo_ok X G (c.t.d.fact 3 (f := .glo "goes_down") rfl), (funD85 c.t.d 12 (d := dd_goes_down) rfl).kp⟩
    · exact ⟨He.glo_ok X G (c.t.d.fact 4 (f := .glo "goes_high") rfl), (funD85 c.t.d 13 (d := dd_goes_high) rfl).kp⟩
    · exact ⟨He.glo_ok X G (c.t.d.fact 5 (f := .glo "goes_low") rfl), (funD85 c.t.d 14 (d := dd_goes_low) rfl).kp⟩
    · exact ⟨He.glo_ok X G (c.t.d.fact 6 (f := .glo "goes_half_up") rfl), (funD85 c.t.d 15 (d := dd_goes_half_up) rfl).kp⟩
    · exact ⟨He.glo_ok X G (c.t.d.fact 7 (f := .glo "goes_half_down") rfl), (funD85 c.t.d 16 (d := dd_goes_half_down) rfl).kp⟩
    · exact ⟨He.glo_ok X G (c.t.d.fact 8 (f := .glo "goes_half_even") rfl), (funD85 c.t.d 17 (d := dd_goes_half_even) rfl).kp⟩
    · exact ⟨He.glo_ok X G (c.t.d.fact 9 (f := .glo "goes_half_odd") rfl), (funD85 c.t.d 18 (d := dd_goes_half_odd) rfl).kp⟩
    · exact ⟨He.glo_ok X G (c.t.d.fact 10 (f := .glo "counts_of") rfl), (funD85 c.t.d 19 (d := dd_counts_of) rfl).kp⟩
    · exact ⟨He.glo_ok X G (c.t.d.fact 11 (f := .glo "count_by") rfl), (funD85 c.t.d 20 (d := dd_count_by) rfl).kp⟩
    · exact ⟨He.glo_ok X G (c.t.d.fact 12 (f := .glo "neighbours") rfl), (funD85 c.t.d 21 (d := dd_neighbours) rfl).kp⟩
    · exact ⟨He.glo_ok X G (c.t.d.fact 13 (f := .glo "rounded") rfl), (funD85 c.t.d 22 (d := dd_rounded) rfl).kp⟩
    · exact ⟨He.glo_ok X G (c.t.d.fact 14 (f := .glo "_law_deck") rfl), (funD85 c.t.d 23 (d := dd_law_deck) rfl).kp⟩
    · exact ⟨He.glo_ok X G (c.t.d.fact 15 (f := .glo "_law_draw") rfl), (funD85 c.t.d 24 (d := dd_law_draw) rfl).kp⟩
    · exact ⟨He.glo_ok X G (c.t.d.fact 16 (f := .glo "_law_grain") rfl), (funD85 c.t.d 25 (d := dd_law_grain) rfl).kp⟩
    · exact ⟨He.glo_ok X G (c.t.d.fact 17 (f := .glo "_law_near") rfl), (funD85 c.t.d 26 (d := dd_law_near) rfl).kp⟩
    · exact ⟨He.glo_ok X G (c.t.d.fact 18 (f := .glo "_law_function") rfl), (funD85 c.t.d 27 (d := dd_told) rfl).kp⟩
    · exact ⟨He.glo_ok X G (c.t.d.fact 19 (f := .glo "_law_one_right") rfl), (funD85 c.t.d 28 (d := dd_law_one_right) rfl).kp⟩
    · exact ⟨He.glo_ok X G (c.t.d.fact 20 (f := .glo "_law_order_right") rfl), (funD85 c.t.d 29 (d := dd_law_order_right) rfl).kp⟩
    · exact ⟨He.glo_ok X G (c.t.d.fact 21 (f := .glo "law") rfl), (funD85 c.t.d 30 (d := dd_law) rfl).kp⟩
  cl x k hx := by
    obtain ⟨i, hi⟩ := hx
    have hm := List.mem_of_getElem? hi
    simp only [clTab, List.mem_cons, List.not_mem_nil, or_false, Prod.mk.injEq] at hm
    obtain ⟨rfl, rfl⟩ := hm
    exact ⟨He.glo_ok X G (c.t.d.fact 22 (f := .glo "Number") rfl), rfl⟩
  insc k hk := by
    obtain rfl : k = .Number := hk
    obtain ⟨_, _, _, _, e5, e6, e7, e8, _⟩ := exs c
    exact ⟨He.cls_ok (c.t.d.fact 34 (f := .cls "Number") rfl), e5, e6, e7, e8⟩
  kit1 k t l hk ht := by
    obtain rfl : k = .Number := hk
    obtain ⟨_, _, _, _, _, _, _, _, e9, e10, _⟩ := exs c
    cases t with
    | cls k' =>
      obtain rfl : k' = .Number := ht k' rfl
      exact e9
    | _ => exact e10 _ (by simp)
  kit2 k n hk hn := by
    obtain rfl : k = .Number := hk
    obtain ⟨_, _, _, _, _, _, _, _, _, _, e11⟩ := exs c
    exact e11 n hn
  noat k f hk := by
    obtain rfl : k = .Number := hk
    cases f
    · exact He.noat_ok (c.t.d.fact 43 (f := .noat "Number" "top") rfl)
    · exact He.noat_ok (c.t.d.fact 44 (f := .noat "Number" "bottom") rfl)
    · exact He.noat_ok (c.t.d.fact 45 (f := .noat "Number" "point") rfl)
    · exact He.noat_ok (c.t.d.fact 46 (f := .noat "Number" "group") rfl)
    · exact He.noat_ok (c.t.d.fact 47 (f := .noat "Number" "sizes") rfl)
    · exact He.noat_ok (c.t.d.fact 48 (f := .noat "Number" "least") rfl)
    · exact He.noat_ok (c.t.d.fact 49 (f := .noat "Number" "minus") rfl)
    · exact He.noat_ok (c.t.d.fact 50 (f := .noat "Number" "plus") rfl)
    · exact He.noat_ok (c.t.d.fact 51 (f := .noat "Number" "figures") rfl)
    · exact He.noat_ok (c.t.d.fact 52 (f := .noat "Number" "words") rfl)
    · exact He.noat_ok (c.t.d.fact 53 (f := .noat "Number" "between") rfl)
    · exact He.noat_ok (c.t.d.fact 54 (f := .noat "Number" "about") rfl)
    · exact He.noat_ok (c.t.d.fact 55 (f := .noat "Number" "places") rfl)
    · exact He.noat_ok (c.t.d.fact 56 (f := .noat "Number" "step") rfl)
    · exact He.noat_ok (c.t.d.fact 57 (f := .noat "Number" "way") rfl)
    · exact He.noat_ok (c.t.d.fact 58 (f := .noat "Number" "signs") rfl)
    · exact He.noat_ok (c.t.d.fact 59 (f := .noat "Number" "grouped") rfl)
    · exact He.noat_ok (c.t.d.fact 60 (f := .noat "Number" "scaled") rfl)
    · exact He.noat_ok (c.t.d.fact 61 (f := .noat "Number" "unit") rfl)
    · exact He.noat_ok (c.t.d.fact 62 (f := .noat "Number" "left") rfl)
    · exact He.noat_ok (c.t.d.fact 63 (f := .noat "Number" "gone") rfl)
    · exact He.noat_ok (c.t.d.fact 64 (f := .noat "Number" "customs_kept") rfl)
    · exact He.noat_ok (c.t.d.fact 65 (f := .noat "Number" "wishes_kept") rfl)
    · exact He.noat_ok (c.t.d.fact 66 (f := .noat "Number" "answers") rfl)
    · exact He.noat_ok (c.t.d.fact 67 (f := .noat "Number" "went") rfl)
    · exact He.noat_ok (c.t.d.fact 68 (f := .noat "Number" "at") rfl)
    · exact He.noat_ok (c.t.d.fact 69 (f := .noat "Number" "low") rfl)
    · exact He.noat_ok (c.t.d.fact 70 (f := .noat "Number" "high") rfl)
    · exact He.noat_ok (c.t.d.fact 71 (f := .noat "Number" "thing") rfl)
  met k m f hk hm := by
    obtain rfl : k = .Number := hk
    cases m <;> first | cases hm | skip
    · exact He.meth_ok (c.t.d.fact 36 (f := .meth "Number" "more") rfl)
    · exact He.meth_ok (c.t.d.fact 37 (f := .meth "Number" "less") rfl)
    · exact He.meth_ok (c.t.d.fact 38 (f := .meth "Number" "times") rfl)
    · exact He.meth_ok (c.t.d.fact 39 (f := .meth "Number" "over") rfl)
    · exact He.meth_ok (c.t.d.fact 40 (f := .meth "Number" "below") rfl)
    · exact He.meth_ok (c.t.d.fact 41 (f := .meth "Number" "size") rfl)
    · exact He.meth_ok (c.t.d.fact 42 (f := .meth "Number" "floor") rfl)

theorem fb85 {ext : F → List D → D → Prop} {clo : Str → List D → D → Prop} : Fb (T85 P w K mg base PT) (F85 K) (G85 ext clo).bd (G85 ext clo).nw (G85 ext clo).kw where
  bnd f hf := by
    have hm : f ∈ bd85 := hf
    simp only [bd85, List.mem_cons, List.not_mem_nil, or_false] at hm
    rcases hm with rfl | rfl | rfl | rfl | rfl | rfl | rfl | rfl | rfl | rfl | rfl | rfl | rfl | rfl | rfl | rfl | rfl | rfl | rfl | rfl | rfl | rfl | rfl | rfl | rfl | rfl | rfl | rfl | rfl | rfl
    · exact ⟨(funD85 c.t.d 0 (d := dd_divisor_of) rfl).bindsN (ps := ["one", "other"]) fun kV doc pm an cdv ct us hl => match us, hl with | [_, _], _ => rfl, (funD85 c.t.d 0 (d := dd_divisor_of) rfl).kp⟩
    · obtain ⟨ds, e1, e2⟩ := (funD85 c.t.d 1 (d := dd_Number__init) rfl).binds1 (ps := ["self", "top", "bottom"]) 3 1 (by intro z; cases z) rfl fun T kV doc pm an cdv ct us its h1 h2 => match us, its, h1, h2 with
        | [_, _, _], [_], _, _ => ⟨_, rfl, rfl⟩
      cases ds with
      | nil => exact ⟨e2, (funD85 c.t.d 1 (d := dd_Number__init) rfl).kp⟩
      | cons a r => cases e1
    · exact ⟨(funD85 c.t.d 2 (d := dd_Number__eq) rfl).bindsN (ps := ["self", "other"]) fun kV doc pm an cdv ct us hl => match us, hl with | [_, _], _ => rfl, (funD85 c.t.d 2 (d := dd_Number__eq) rfl).kp⟩
    · exact ⟨(funD85 c.t.d 3 (d := dd_Number_more) rfl).bindsN (ps := ["self", "other"]) fun kV doc pm an cdv ct us hl => match us, hl with | [_, _], _ => rfl, (funD85 c.t.d 3 (d := dd_Number_more) rfl).kp⟩
    · exact ⟨(funD85 c.t.d 4 (d := dd_Number_less) rfl).bindsN (ps := ["self", "other"]) fun kV doc pm an cdv ct us hl => match us, hl with | [_, _], _ => rfl, (funD85 c.t.d 4 (d := dd_Number_less) rfl).kp⟩
    · exact ⟨(funD85 c.t.d 5 (d := dd_Number_times) rfl).bindsN (ps := ["self", "other"]) fun kV doc pm an cdv ct us hl => match us, hl with | [_, _], _ => rfl, (funD85 c.t.d 5 (d := dd_Number_times) rfl).kp⟩
    · exact ⟨(funD85 c.t.d 6 (d := dd_Number_over) rfl).bindsN (ps := ["self", "other"]) fun kV doc pm an cdv ct us hl => match us, hl with | [_, _], _ => rfl, (funD85 c.t.d 6 (d := dd_Number_over) rfl).kp⟩
    · exact ⟨(funD85 c.t.d 7 (d := dd_Number_below) rfl).bindsN (ps := ["self", "other"]) fun kV doc pm an cdv ct us hl => match us, hl with | [_, _], _ => rfl, (funD85 c.t.d 7 (d := dd_Number_below) rfl).kp⟩
    · exact ⟨(funD85 c.t.d 8 (d := dd_Number_size) rfl).bindsN (ps := ["self"]) fun kV doc pm an cdv ct us hl => match us, hl with | [_], _ => rfl, (funD85 c.t.d 8 (d := dd_Number_size) rfl).kp⟩
    · exact ⟨(funD85 c.t.d 9 (d := dd_Number_floor) rfl).bindsN (ps := ["self"]) fun kV doc pm an cdv ct us hl => match us, hl with | [_], _ => rfl, (funD85 c.t.d 9 (d := dd_Number_floor) rfl).kp⟩
    · exact ⟨(funD85 c.t.d 10 (d := dd_by_half) rfl).bindsN (ps := ["part", "beyond"]) fun kV doc pm an cdv ct us hl => match us, hl with | [_, _], _ => rfl, (funD85 c.t.d 10 (d := dd_by_half) rfl).kp⟩
    · exact ⟨(funD85 c.t.d 11 (d := dd_goes_up) rfl).bindsN (ps := ["count", "part"]) fun kV doc pm an cdv ct us hl => match us, hl with | [_, _], _ => rfl, (funD85 c.t.d 11 (d := dd_goes_up) rfl).kp⟩
    · exact ⟨(funD85 c.t.d 12 (d := dd_goes_down) rfl).bindsN (ps := ["count", "part"]) fun kV doc pm an cdv ct us hl => match us, hl with | [_, _], _ => rfl, (funD85 c.t.d 12 (d := dd_goes_down) rfl).kp⟩
    · exact ⟨(funD85 c.t.d 13 (d := dd_goes_high) rfl).bindsN (ps := ["count", "part"]) fun kV doc pm an cdv ct us hl => match us, hl with | [_, _], _ => rfl, (funD85 c.t.d 13 (d := dd_goes_high) rfl).kp⟩
    · exact ⟨(funD85 c.t.d 14 (d := dd_goes_low) rfl).bindsN (ps := ["count", "part"]) fun kV doc pm an cdv ct us hl => match us, hl with | [_, _], _ => rfl, (funD85 c.t.d 14 (d := dd_goes_low) rfl).kp⟩
    · exact ⟨(funD85 c.t.d 15 (d := dd_goes_half_up) rfl).bindsN (ps := ["count", "part"]) fun kV doc pm an cdv ct us hl => match us, hl with | [_, _], _ => rfl, (funD85 c.t.d 15 (d := dd_goes_half_up) rfl).kp⟩
    · exact ⟨(funD85 c.t.d 16 (d := dd_goes_half_down) rfl).bindsN (ps := ["count", "part"]) fun kV doc pm an cdv ct us hl => match us, hl with | [_, _], _ => rfl, (funD85 c.t.d 16 (d := dd_goes_half_down) rfl).kp⟩
    · exact ⟨(funD85 c.t.d 17 (d := dd_goes_half_even) rfl).bindsN (ps := ["count", "part"]) fun kV doc pm an cdv ct us hl => match us, hl with | [_, _], _ => rfl, (funD85 c.t.d 17 (d := dd_goes_half_even) rfl).kp⟩
    · exact ⟨(funD85 c.t.d 18 (d := dd_goes_half_odd) rfl).bindsN (ps := ["count", "part"]) fun kV doc pm an cdv ct us hl => match us, hl with | [_, _], _ => rfl, (funD85 c.t.d 18 (d := dd_goes_half_odd) rfl).kp⟩
    · exact ⟨(funD85 c.t.d 19 (d := dd_counts_of) rfl).bindsN (ps := ["number", "step"]) fun kV doc pm an cdv ct us hl => match us, hl with | [_, _], _ => rfl, (funD85 c.t.d 19 (d := dd_counts_of) rfl).kp⟩
    · exact ⟨(funD85 c.t.d 20 (d := dd_count_by) rfl).bindsN (ps := ["number", "step", "way"]) fun kV doc pm an cdv ct us hl => match us, hl with | [_, _, _], _ => rfl, (funD85 c.t.d 20 (d := dd_count_by) rfl).kp⟩
    · exact ⟨(funD85 c.t.d 21 (d := dd_neighbours) rfl).bindsN (ps := ["number", "step"]) fun kV doc pm an cdv ct us hl => match us, hl with | [_, _], _ => rfl, (funD85 c.t.d 21 (d := dd_neighbours) rfl).kp⟩
    · exact ⟨(funD85 c.t.d 23 (d := dd_law_deck) rfl).bindsN (ps := ["_law_script"]) fun kV doc pm an cdv ct us hl => match us, hl with | [_], _ => rfl, (funD85 c.t.d 23 (d := dd_law_deck) rfl).kp⟩
    · exact ⟨(funD85 c.t.d 24 (d := dd_law_draw) rfl).bindsN (ps := ["_law_deck_here", "_law_ways"]) fun kV doc pm an cdv ct us hl => match us, hl with | [_, _], _ => rfl, (funD85 c.t.d 24 (d := dd_law_draw) rfl).kp⟩
    · exact ⟨(funD85 c.t.d 25 (d := dd_law_grain) rfl).bindsN (ps := ["_law_deck_here"]) fun kV doc pm an cdv ct us hl => match us, hl with | [_], _ => rfl, (funD85 c.t.d 25 (d := dd_law_grain) rfl).kp⟩
    · exact ⟨(funD85 c.t.d 26 (d := dd_law_near) rfl).bindsN (ps := ["_law_deck_here", "_law_grain_here"]) fun kV doc pm an cdv ct us hl => match us, hl with | [_, _], _ => rfl, (funD85 c.t.d 26 (d := dd_law_near) rfl).kp⟩
    · exact ⟨(funD85 c.t.d 27 (d := dd_told) rfl).bindsN (ps := ["_law_rule"]) fun kV doc pm an cdv ct us hl => match us, hl with | [_], _ => rfl, (funD85 c.t.d 27 (d := dd_told) rfl).kp⟩
    · exact ⟨(funD85 c.t.d 28 (d := dd_law_one_right) rfl).bindsN (ps := ["_law_here", "_law_unit_step", "_law_rule", "_law_more"]) fun kV doc pm an cdv ct us hl => match us, hl with | [_, _, _, _], _ => rfl, (funD85 c.t.d 28 (d := dd_law_one_right) rfl).kp⟩
    · exact ⟨(funD85 c.t.d 29 (d := dd_law_order_right) rfl).bindsN (ps := ["_law_numbers", "_law_unit_step", "_law_rule"]) fun kV doc pm an cdv ct us hl => match us, hl with | [_, _, _], _ => rfl, (funD85 c.t.d 29 (d := dd_law_order_right) rfl).kp⟩
    · exact ⟨(funD85 c.t.d 30 (d := dd_law) rfl).bindsN (ps := ["_law_script"]) fun kV doc pm an cdv ct us hl => match us, hl with | [_], _ => rfl, (funD85 c.t.d 30 (d := dd_law) rfl).kp⟩
  hs k m f h hf := by
    have hm : f ∈ bd85 := hf
    cases k with
    | Number => rfl
    | _ =>
      exfalso
      cases m <;> first | cases h | skip
      all_goals simp [bd85] at hm
  mkc k f hk h := by
    obtain rfl : k = .Number := hk
    cases h
    exact He.mkr_ok (c.t.d.fact 35 (f := .mkr "Number") rfl)
  new k f ds h hw := by
    obtain ⟨rfl, rfl | rfl⟩ := hw
    · cases h
      obtain ⟨ds, e1, e2⟩ := (funD85 c.t.d 1 (d := dd_Number__init) rfl).binds1 (ps := ["self", "top", "bottom"]) 3 1 (by intro z; cases z) rfl fun T kV doc pm an cdv ct us its h1 h2 => match us, its, h1, h2 with
        | [_, _, _], [_], _, _ => ⟨_, rfl, rfl⟩
      exact ⟨[], ds, fun _ => rfl, e1, e2⟩
    · cases h
      obtain ⟨ds, e1, e2⟩ := (funD85 c.t.d 1 (d := dd_Number__init) rfl).binds1 (ps := ["self", "top", "bottom"]) 2 0 (by intro z; cases z) rfl fun T kV doc pm an cdv ct us its h1 h2 => match us, its, h1, h2 with
        | [_, _], [_], _, _ => ⟨_, rfl, rfl⟩
      exact ⟨[.int 1], ds, fun _ => ⟨_, _, rfl, rfl, rfl⟩, e1, e2⟩
  kwd f m ks h := by
    obtain ⟨rfl, rfl, rfl⟩ := h
    obtain ⟨mv, e⟩ := (funD85 c.t.d 22 (d := dd_rounded) rfl).kbinds0 (ps := ["number", "step", "way"]) 2 ["way"] [] (fun us _ ws => us ++ ws) (by intro z; cases z) (by simp) (fun r1 _ r3 => r1.append r3) fun D doc pm an cdv ct us mv ws h1 h2 h3 => match us, mv, ws, h1, h2, h3 with
      | [_, _], [], [_], _, _, _ => rfl
    exact e
theorem fe85 {ext : F → List D → D → Prop} {clo : Str → List D → D → Prop} : Fe (T85 P w K mg base PT) (F85 K) (G85 ext clo).gd (G85 ext clo).bd (G85 ext clo).tb where
  eqs k f h hf := by
    have hm : f ∈ bd85 := hf
    obtain ⟨_, _, e3, e4, _⟩ := exs c
    cases k <;> first | cases h | skip
    · exact ⟨rfl, e3, e4⟩
    all_goals (exfalso; simp [bd85] at hm)
  tab x hx := by
    obtain rfl : x = "RULES" := hx
    refine ⟨He.ga K "RULES", He.glo_ok X G (c.t.d.fact 23 (f := .glo "RULES") rfl), fun d u h => ?_⟩
    obtain ⟨es, n, kd⟩ := c.t.tab 0 (t := (fun K => He.ga K "RULES", ["up", "down", "high", "low", "half up", "half down", "half even", "half odd"])) rfl
    cases d <;> first | cases h | skip
    rename_i z
    have h : rules85d.lookup z = some u := h
    have hv := (exs c).2.1
    have key : ∀ p ∈ rules85d, ∃ q ∈ rules85, q.1 = p.1 ∧ ∀ φ, Rel (T85 P w K mg base PT) φ p.2 (q.2.v K) := by
      simp only [rules85d, List.forall_mem_cons, List.not_mem_nil, false_implies, implies_true, and_true]
      exact ⟨⟨("up", .glo "goes_up"), by simp [rules85], rfl, fun _ => rfl⟩, ⟨("down", .glo "goes_down"), by simp [rules85], rfl, fun _ => rfl⟩, ⟨("high", .glo "goes_high"), by simp [rules85], rfl, fun _ => rfl⟩, ⟨("low", .glo "goes_low"), by simp [rules85], rfl, fun _ => rfl⟩, ⟨("half up", .glo "goes_half_up"), by simp [rules85], rfl, fun _ => rfl⟩, ⟨("half down", .glo "goes_half_down"), by simp [rules85], rfl, fun _ => rfl⟩, ⟨("half even", .glo "goes_half_even"), by simp [rules85], rfl, fun _ => rfl⟩, ⟨("half odd", .glo "goes_half_odd"), by simp [rules85], rfl, fun _ => rfl⟩⟩
    obtain ⟨q, hq, e1, e2⟩ := key (z, u) (PySem.mem_of_lookup h)
    obtain ⟨v, e3, e4⟩ := He.valsB_ok hv hq
    exact ⟨z, _, rfl, ⟨es, n, v, kd.at_, kd.lit, by rw [show z = q.1 from e1.symm]; exact e3, e4⟩, e2⟩

theorem fne85 : ∀ f d, fns85 f = some d → FnE (T85 P w K mg base PT) (F85 K) tb85 f d := by
  intro f d h
  cases f <;> first | cases h | skip
  case divisor_of => exact ⟨⟨_, _, _, _, _, _, _, k_divisor_of, (funD85 c.t.d 0 (d := dd_divisor_of) rfl), sc_divisor_of, rfl, kb_divisor_of, rfl, rfl, er_divisor_of⟩⟩
  case Number_init => exact ⟨⟨_, _, _, _, _, _, _, k_Number__init, (funD85 c.t.d 1 (d := dd_Number__init) rfl), sc_Number__init, rfl, kb_Number__init, rfl, rfl, er_Number__init⟩⟩
  case Number_eq => exact ⟨⟨_, _, _, _, _, _, _, k_Number__eq, (funD85 c.t.d 2 (d := dd_Number__eq) rfl), sc_Number__eq, rfl, kb_Number__eq, rfl, rfl, er_Number__eq⟩⟩
  case Number_more => exact ⟨⟨_, _, _, _, _, _, _, k_Number_more, (funD85 c.t.d 3 (d := dd_Number_more) rfl), sc_Number_more, rfl, kb_Number_more, rfl, rfl, er_Number_more⟩⟩
  case Number_less => exact ⟨⟨_, _, _, _, _, _, _, k_Number_less, (funD85 c.t.d 4 (d := dd_Number_less) rfl), sc_Number_less, rfl, kb_Number_less, rfl, rfl, er_Number_less⟩⟩
  case Number_times => exact ⟨⟨_, _, _, _, _, _, _, k_Number_times, (funD85 c.t.d 5 (d := dd_Number_times) rfl), sc_Number_times, rfl, kb_Number_times, rfl, rfl, er_Number_times⟩⟩
  case Number_over => exact ⟨⟨_, _, _, _, _, _, _, k_Number_over, (funD85 c.t.d 6 (d := dd_Number_over) rfl), sc_Number_over, rfl, kb_Number_over, rfl, rfl, er_Number_over⟩⟩
  case Number_below => exact ⟨⟨_, _, _, _, _, _, _, k_Number_below, (funD85 c.t.d 7 (d := dd_Number_below) rfl), sc_Number_below, rfl, kb_Number_below, rfl, rfl, er_Number_below⟩⟩
  case Number_size => exact ⟨⟨_, _, _, _, _, _, _, k_Number_size, (funD85 c.t.d 8 (d := dd_Number_size) rfl), sc_Number_size, rfl, kb_Number_size, rfl, rfl, er_Number_size⟩⟩
  case Number_floor => exact ⟨⟨_, _, _, _, _, _, _, k_Number_floor, (funD85 c.t.d 9 (d := dd_Number_floor) rfl), sc_Number_floor, rfl, kb_Number_floor, rfl, rfl, er_Number_floor⟩⟩
  case by_half => exact ⟨⟨_, _, _, _, _, _, _, k_by_half, (funD85 c.t.d 10 (d := dd_by_half) rfl), sc_by_half, rfl, kb_by_half, rfl, rfl, er_by_half⟩⟩
  case goes_up => exact ⟨⟨_, _, _, _, _, _, _, k_goes_up, (funD85 c.t.d 11 (d := dd_goes_up) rfl), sc_goes_up, rfl, kb_goes_up, rfl, rfl, er_goes_up⟩⟩
  case goes_down => exact ⟨⟨_, _, _, _, _, _, _, k_goes_down, (funD85 c.t.d 12 (d := dd_goes_down) rfl), sc_goes_down, rfl, kb_goes_down, rfl, rfl, er_goes_down⟩⟩
  case goes_high => exact ⟨⟨_, _, _, _, _, _, _, k_goes_high, (funD85 c.t.d 13 (d := dd_goes_high) rfl), sc_goes_high, rfl, kb_goes_high, rfl, rfl, er_goes_high⟩⟩
  case goes_low => exact ⟨⟨_, _, _, _, _, _, _, k_goes_low, (funD85 c.t.d 14 (d := dd_goes_low) rfl), sc_goes_low, rfl, kb_goes_low, rfl, rfl, er_goes_low⟩⟩
  case goes_half_up => exact ⟨⟨_, _, _, _, _, _, _, k_goes_half_up, (funD85 c.t.d 15 (d := dd_goes_half_up) rfl), sc_goes_half_up, rfl, kb_goes_half_up, rfl, rfl, er_goes_half_up⟩⟩
  case goes_half_down => exact ⟨⟨_, _, _, _, _, _, _, k_goes_half_down, (funD85 c.t.d 16 (d := dd_goes_half_down) rfl), sc_goes_half_down, rfl, kb_goes_half_down, rfl, rfl, er_goes_half_down⟩⟩
  case goes_half_even => exact ⟨⟨_, _, _, _, _, _, _, k_goes_half_even, (funD85 c.t.d 17 (d := dd_goes_half_even) rfl), sc_goes_half_even, rfl, kb_goes_half_even, rfl, rfl, er_goes_half_even⟩⟩
  case goes_half_odd => exact ⟨⟨_, _, _, _, _, _, _, k_goes_half_odd, (funD85 c.t.d 18 (d := dd_goes_half_odd) rfl), sc_goes_half_odd, rfl, kb_goes_half_odd, rfl, rfl, er_goes_half_odd⟩⟩
  case counts_of => exact ⟨⟨_, _, _, _, _, _, _, k_counts_of, (funD85 c.t.d 19 (d := dd_counts_of) rfl), sc_counts_of, rfl, kb_counts_of, rfl, rfl, er_counts_of⟩⟩
  case count_by => exact ⟨⟨_, _, _, _, _, _, _, k_count_by, (funD85 c.t.d 20 (d := dd_count_by) rfl), sc_count_by, rfl, kb_count_by, rfl, rfl, er_count_by⟩⟩
  case neighbours => exact ⟨⟨_, _, _, _, _, _, _, k_neighbours, (funD85 c.t.d 21 (d := dd_neighbours) rfl), sc_neighbours, rfl, kb_neighbours, rfl, rfl, er_neighbours⟩⟩
  case rounded => exact ⟨⟨_, _, _, _, _, _, _, k_rounded, (funD85 c.t.d 22 (d := dd_rounded) rfl), sc_rounded, rfl, kb_rounded, rfl, rfl, er_rounded⟩⟩
  case L i =>
    match i, h with
    | 0, rfl => exact ⟨⟨_, _, _, _, _, _, _, k_law_deck, (funD85 c.t.d 23 (d := dd_law_deck) rfl), sc_law_deck, rfl, kb_law_deck, rfl, rfl, er_law_deck⟩⟩
    | 1, rfl => exact ⟨⟨_, _, _, _, _, _, _, k_law_draw, (funD85 c.t.d 24 (d := dd_law_draw) rfl), sc_law_draw, rfl, kb_law_draw, rfl, rfl, er_law_draw⟩⟩
    | 2, rfl => exact ⟨⟨_, _, _, _, _, _, _, k_law_grain, (funD85 c.t.d 25 (d := dd_law_grain) rfl), sc_law_grain, rfl, kb_law_grain, rfl, rfl, er_law_grain⟩⟩
    | 3, rfl => exact ⟨⟨_, _, _, _, _, _, _, k_law_near, (funD85 c.t.d 26 (d := dd_law_near) rfl), sc_law_near, rfl, kb_law_near, rfl, rfl, er_law_near⟩⟩
    | 5, rfl => exact ⟨⟨_, _, _, _, _, _, _, k_law_one_right, (funD85 c.t.d 28 (d := dd_law_one_right) rfl), sc_law_one_right, rfl, kb_law_one_right, rfl, rfl, er_law_one_right⟩⟩
    | 6, rfl => exact ⟨⟨_, _, _, _, _, _, _, k_law_order_right, (funD85 c.t.d 29 (d := dd_law_order_right) rfl), sc_law_order_right, rfl, kb_law_order_right, rfl, rfl, er_law_order_right⟩⟩
    | 7, rfl => exact ⟨⟨_, _, _, _, _, _, _, k_law, (funD85 c.t.d 30 (d := dd_law) rfl), sc_law, rfl, kb_law, rfl, rfl, er_law⟩⟩
end
end Fx.K85

end

section
set_option Elab.async false
set_option linter.all false
set_option maxRecDepth 100000
set_option maxHeartbeats 1000000
/-! Bounds, fractions, what the Number's methods do. -/
namespace Fx.K85
open PySem L2 Fx
/-! ### bounds -/
def Bd (k : Nat) (x : Int) : Prop := x.natAbs < 2 ^ k
theorem Bd.mono {a b : Nat} {x : Int} (h : Bd a x) (l : a ≤ b) : Bd b x := Nat.lt_of_lt_of_le h (Nat.pow_le_pow_right (by decide) l)
theorem Bd.neg {a : Nat} {x : Int} (h : Bd a x) : Bd a (-x) := by unfold Bd at *; rwa [Int.natAbs_neg]
theorem Bd.mul {a b : Nat} {x y : Int} (h : Bd a x) (k : Bd b y) : Bd (a + b) (x * y) := by
  unfold Bd at *
  rw [Int.natAbs_mul, Nat.pow_add]
  exact Nat.mul_lt_mul'' h k
theorem Bd.add {a : Nat} {x y : Int} (h : Bd a x) (k : Bd a y) : Bd (a + 1) (x + y) := by
  unfold Bd at *
  have := Int.natAbs_add_le x y
  rw [Nat.pow_succ]
  omega
theorem Bd.sub {a : Nat} {x y : Int} (h : Bd a x) (k : Bd a y) : Bd (a + 1) (x - y) := by
  rw [Int.sub_eq_add_neg]; exact h.add k.neg
theorem Bd.le {a : Nat} {x y : Int} (h : Bd a x) (l : y.natAbs ≤ x.natAbs) : Bd a y := Nat.lt_of_le_of_lt l h
theorem Bd.bits {a : Nat} {x : Int} (h : Bd a x) : Builtin.Int.intBits x ≤ a + 1 := by
  unfold Builtin.Int.intBits
  unfold Bd at h
  split
  · omega
  · rename_i hz
    have h0 : x.natAbs ≠ 0 := by
      intro z; simp_all
    have := (Nat.log2_lt h0).mpr h
    omega
theorem Bd.okM {a b : Nat} {x y : Int} (h : Bd a x) (k : Bd b y) (l : a + b ≤ 100000) : CMulX x y := by
  unfold CMulX
  have h1 := h.bits
  have h2 := k.bits
  omega
theorem Bd.okD {b : Nat} (x : Int) {y : Int} (k : Bd b y) (l : b ≤ 8000) (p : 0 < y) : CDivW x y := by
  refine ⟨p, ?_⟩
  have h0 : y.natAbs ≠ 0 := by omega
  have := (Nat.log2_lt h0).mpr (k : y.natAbs < 2 ^ b)
  omega
theorem Bd.div {a : Nat} {x y : Int} (h : Bd a x) (p : 0 < y) : Bd a (x / y) := by
  refine h.le ?_
  by_cases c : 0 ≤ x
  · have h1 : 0 ≤ x / y := Int.ediv_nonneg c (by omega)
    have h2 : x / y ≤ x := Int.ediv_le_self y c
    omega
  · have h2 : x ≤ x / y := by
      have := Int.le_ediv_iff_mul_le (a := x) (b := x) (c := y) p
      rw [this]
      have : x * y ≤ x * 1 := Int.mul_le_mul_of_nonpos_left (by omega) (by omega)
      omega
    have h3 : x / y < 0 := Int.ediv_neg_of_neg_of_pos (by omega) p
    omega
def RB (k : Nat) (q : Rat) : Prop := Bd k q.num ∧ Bd k q.den
theorem bd1 {k : Nat} (h : 0 < k) : Bd k 1 := Bd.mono (a := 1) (by unfold Bd; decide) h
theorem RB.mono {a b : Nat} {q : Rat} (h : RB a q) (l : a ≤ b) : RB b q := ⟨h.1.mono l, h.2.mono l⟩
/-! ### the fraction t / b -/
theorem frac_num {t b : Int} (h : 0 < b) : (Rat.divInt t b).num = t / (Nat.gcd t.natAbs b.natAbs : Int) := by
  rw [Rat.num_divInt, Int.sign_eq_one_of_pos h, Int.one_mul, Int.gcd_comm]; rfl
theorem frac_den {t b : Int} (h : 0 < b) : ((Rat.divInt t b).den : Int) = b / (Nat.gcd t.natAbs b.natAbs : Int) := by
  rw [Rat.den_divInt, if_neg (by omega), Int.gcd_comm]
  have : ((b.natAbs : Nat) : Int) = b := by omega
  rw [← this]
  simp [Int.gcd]
theorem gcd_pos {t b : Int} (h : 0 < b) : 0 < Nat.gcd t.natAbs b.natAbs := Nat.gcd_pos_of_pos_right _ (by omega)
theorem frac_rb {k : Nat} {t b : Int} (h : 0 < b) (ht : Bd k t) (hb : Bd k b) : RB k (Rat.divInt t b) := by
  have g := gcd_pos (t := t) h
  refine ⟨?_, ?_⟩
  · rw [frac_num h]; exact ht.div (by omega)
  · rw [frac_den h]; exact hb.div (by omega)
/-- a Number -/
def numD (q : Rat) : D := .obj .Number [(.bottom, .int q.den), (.top, .int q.num)]
theorem den_pos (q : Rat) : (0 : Int) < q.den := by have := q.den_pos; omega
theorem add_frac (p q : Rat) : Rat.divInt (p.num * q.den + q.num * p.den) (p.den * q.den) = p + q := by
  rw [Rat.add_def', ← Rat.divInt_ofNat]; simp
theorem sub_frac (p q : Rat) : Rat.divInt (p.num * q.den - q.num * p.den) (p.den * q.den) = p - q := by
  rw [Rat.sub_def', ← Rat.divInt_ofNat]; simp
theorem mul_frac (p q : Rat) : Rat.divInt (p.num * q.num) (p.den * q.den) = p * q := by
  rw [Rat.mul_def', ← Rat.divInt_ofNat]; simp
theorem div_frac (p q : Rat) : Rat.divInt (p.num * q.den) (p.den * q.num) = p / q := by
  rw [Rat.div_def, Rat.inv_def]
  conv => rhs; rw [← Rat.num_divInt_den p]
  rw [Rat.divInt_mul_divInt]
theorem int_frac (i : Int) : Rat.divInt i 1 = (i : Rat) := by
  rw [Rat.divInt_eq_div]
  have : ((1 : Int) : Rat) = 1 := rfl
  rw [this]
  grind
theorem num_pos' {q : Rat} (h : 0 < q) : 0 < q.num := by
  have := (Rat.lt_iff 0 q).mp h
  simpa using this
theorem abs_frac (q : Rat) : Rat.divInt (if q.num < 0 then -q.num else q.num) q.den = if q < 0 then -q else q := by
  have h : q < 0 ↔ q.num < 0 := by
    have := Rat.lt_iff q 0
    simpa using this
  by_cases c : q < 0
  · rw [if_pos c, if_pos (h.mp c)]
    conv => rhs; rw [← Rat.num_divInt_den q]
    rw [Rat.neg_divInt]
  · rw [if_neg c, if_neg (fun z => c (h.mpr z)), Rat.num_divInt_den]
theorem rb_add {a b : Nat} {p q : Rat} (h : RB a p) (k : RB b q) : RB (a + b + 1) (p + q) := by
  rw [← add_frac]
  have h1 := h.1.mul k.2
  have h2 := k.1.mul h.2
  rw [Nat.add_comm b a] at h2
  exact frac_rb (Int.mul_pos (den_pos p) (den_pos q)) (h1.add h2) ((h.2.mul k.2).mono (by omega))
theorem rb_sub {a b : Nat} {p q : Rat} (h : RB a p) (k : RB b q) : RB (a + b + 1) (p - q) := by
  rw [← sub_frac]
  have h1 := h.1.mul k.2
  have h2 := k.1.mul h.2
  rw [Nat.add_comm b a] at h2
  exact frac_rb (Int.mul_pos (den_pos p) (den_pos q)) (h1.sub h2) ((h.2.mul k.2).mono (by omega))
theorem rb_mul {a b : Nat} {p q : Rat} (h : RB a p) (k : RB b q) : RB (a + b) (p * q) := by
  rw [← mul_frac]
  exact frac_rb (Int.mul_pos (den_pos p) (den_pos q)) (h.1.mul k.1) (h.2.mul k.2)
theorem rb_div {a b : Nat} {p q : Rat} (h : RB a p) (k : RB b q) (c : 0 < q) : RB (a + b) (p / q) := by
  rw [← div_frac]
  exact frac_rb (Int.mul_pos (den_pos p) (num_pos' c)) (h.1.mul k.2) (h.2.mul k.1)
theorem rb_int {k : Nat} {i : Int} (h : Bd k i) (hk : 0 < k) : RB k (i : Rat) := by
  refine ⟨by rw [Rat.num_intCast]; exact h, ?_⟩
  rw [Rat.den_intCast]
  exact Nat.lt_of_lt_of_le (show 1 < 2 ^ 1 by decide) (Nat.pow_le_pow_right (by decide) hk)
theorem rb_floor {k : Nat} {q : Rat} (h : RB k q) : Bd k q.floor := by
  rw [Rat.floor_def]; exact h.1.div (den_pos q)
/-! ### the defs -/
section
variable {ext : F → List D → D → Prop} {clo : Str → List D → D → Prop} {Γ : Pg}
theorem up {f : F} {ws : List Sv} {G : Gs} {o : Oc} {G1 : Gs} {n : Nat} (h : Ev Γ n (.j (.F f ws G o G1))) : ∀ k, Ev Γ (n + k) (.j (.F f ws G o G1))
  | 0 => h
  | k + 1 => .fnUp (up h k)
/-- the defs are these -/
structure Pr85 (Γ : Pg) : Prop where
  divisor_of : Γ.fn .divisor_of = some d_divisor_of
  init : Γ.fn .Number_init = some d_Number__init
  eq : Γ.fn .Number_eq = some d_Number__eq
  more : Γ.fn .Number_more = some d_Number_more
  less : Γ.fn .Number_less = some d_Number_less
  times : Γ.fn .Number_times = some d_Number_times
  over : Γ.fn .Number_over = some d_Number_over
  below : Γ.fn .Number_below = some d_Number_below
  size : Γ.fn .Number_size = some d_Number_size
  floor : Γ.fn .Number_floor = some d_Number_floor
  by_half : Γ.fn .by_half = some d_by_half
  goes_up : Γ.fn .goes_up = some d_goes_up
  goes_down : Γ.fn .goes_down = some d_goes_down
  goes_high : Γ.fn .goes_high = some d_goes_high
  goes_low : Γ.fn .goes_low = some d_goes_low
  goes_half_up : Γ.fn .goes_half_up = some d_goes_half_up
  goes_half_down : Γ.fn .goes_half_down = some d_goes_half_down
  goes_half_even : Γ.fn .goes_half_even = some d_goes_half_even
  goes_half_odd : Γ.fn .goes_half_odd = some d_goes_half_odd
  counts_of : Γ.fn .counts_of = some d_counts_of
  count_by : Γ.fn .count_by = some d_count_by
  neighbours : Γ.fn .neighbours = some d_neighbours
  rounded : Γ.fn .rounded = some d_rounded
  deck : Γ.fn (.L 0) = some d_law_deck
  draw : Γ.fn (.L 1) = some d_law_draw
  grain : Γ.fn (.L 2) = some d_law_grain
  near : Γ.fn (.L 3) = some d_law_near
  one_right : Γ.fn (.L 5) = some d_law_one_right
  order_right : Γ.fn (.L 6) = some d_law_order_right
  law : Γ.fn (.L 7) = some d_law
  bd : ∀ f, f ∈ [F.divisor_of, .Number_eq, .Number_more, .Number_less, .Number_times, .Number_over, .Number_below, .Number_size, .Number_floor, .by_half, .goes_up, .goes_down, .goes_high, .goes_low, .goes_half_up, .goes_half_down, .goes_half_even, .goes_half_odd, .counts_of, .count_by, .neighbours, .L 0, .L 1, .L 2, .L 3, .L 4, .L 5, .L 6] → Γ.bd f
  nw : Γ.nw .Number [] ∧ Γ.nw .Number [.int 1]
  tb : Γ.tb "RULES"
variable (R : Pr85 Γ)
include R
theorem w_divisor (n : Nat) : ∀ (b a : Nat), Ev Γ n (.W (.cmp .gt (.var 1) (.con (.int 0))) [.par [0, 1] [.var 1, .bin .mod (.var 0) (.var 1)]] [some (.d (.int a)), some (.d (.int b))] [] (.nxt [some (.d (.int (Nat.gcd a b))), some (.d (.int 0))]) []) := by
  intro b
  induction b using Nat.strongRecOn with
  | ind b ih =>
    intro a
    by_cases c : b = 0
    · subst c
      rw [Nat.gcd_zero_right]
      exact .wF (.cmp (.var rfl) .con rfl rfl rfl trivial)
    · have hb : (0 : Int) < b := by omega
      refine .wT (.cmp (.var rfl) .con rfl rfl (by show some (D.bl (decide ((0 : Int) < b))) = _; rw [decide_eq_true hb]) trivial) (σ1 := [some (.d (.int b)), some (.d (.int ((a % b : Nat) : Int)))]) (G2 := []) ?_ ?_
      · refine .bC (.par (ws := [.d (.int b), .d (.int ((a % b : Nat) : Int))]) (.cons (.var rfl) (.cons ?_ .nil)) rfl) .bN
        exact .bin (.var rfl) (.var rfl) rfl rfl (by show some (D.int ((a : Int) % b)) = _; rw [Int.natCast_emod]) hb
      · have := ih (a % b) (Nat.mod_lt _ (by omega)) b
        rw [Nat.gcd_comm b (a % b), ← Nat.gcd_rec b a, Nat.gcd_comm b a] at this
        exact this
theorem f_divisor (n : Nat) (a b : Nat) : Ev Γ (n + 1) (.j (.F .divisor_of [.d (.int a), .d (.int b)] [] (.ok (.d (.int (Nat.gcd a b)))) [])) := by
  refine .fnR R.divisor_of rfl (.bC (.whl (w_divisor R n b a)) (.bX (.ret (.var rfl)) (by intro τ h; cases h)))
end
end Fx.K85

end

section
set_option Elab.async false
set_option linter.all false
set_option maxRecDepth 100000
set_option maxHeartbeats 1000000
/-! The Number's defs. -/
namespace Fx.K85
open PySem L2 Fx
section
variable {Γ : Pg} (R : Pr85 Γ)
theorem noRet {w : Sv} : ∀ τ, Ot.ret w ≠ .nxt τ := fun _ h => by cases h
theorem eqT {p : Prop} [Decidable p] (h : p) : some (D.bl (decide p)) = some (.bl true) := by rw [decide_eq_true h]
theorem eqF {p : Prop} [Decidable p] (h : ¬ p) : some (D.bl (decide p)) = some (.bl false) := by rw [decide_eq_false h]
include R
theorem f_init (n : Nat) {t b : Int} (hb : 0 < b) (kb : Bd 8000 b) : Ev Γ (n + 2) (.j (.F .Number_init [.r 0, .d (.int t), .d (.int b)] [.ins .Number []] (.ok (.d .non)) [.ins .Number [(.bottom, .d (.int (Rat.divInt t b).den)), (.top, .d (.int (Rat.divInt t b).num))]])) := by
  have g := gcd_pos (t := t) hb
  have gi : (0 : Int) < (Nat.gcd t.natAbs b.natAbs : Int) := by omega
  have gb : Bd 8000 (Nat.gcd t.natAbs b.natAbs : Int) := kb.le (by
    have := Nat.gcd_le_right t.natAbs (n := b.natAbs) (by omega)
    simpa using this)
  rw [frac_num hb, frac_den hb]
  have ab : ∀ i : Int, (D.int (if i < 0 then -i else i)) = .int (i.natAbs : Int) := fun i => by
    congr 1
    split <;> omega
  have bf : ¬ b < 0 := by omega
  have bz : ¬ b = 0 := by omega
  let σ1 : Sg := [some (.r 0), some (.d (.int t)), some (.d (.int b)), some (.d (.int (Nat.gcd t.natAbs b.natAbs : Int)))]
  refine .fnN (σ1 := σ1) R.init rfl ?_
  refine .bC (.asg (σ1 := σ1) (w := .d (.int (Nat.gcd t.natAbs b.natAbs : Int))) (G1 := [.ins .Number []]) ?_ rfl) ?_
  · refine .callP (ws := [.d (.int (t.natAbs : Int)), .d (.int (b.natAbs : Int))]) (R.bd _ (by simp)) (.cons (.prim (ds := [.int t]) (.cons (.var rfl) .nil) rfl (congrArg some (ab t)) trivial (by intro t h; cases h)) (.cons (.prim (ds := [.int b]) (.cons (.var rfl) .nil) rfl (congrArg some (ab b)) trivial (by intro t h; cases h)) .nil)) rfl (f_divisor R n _ _)
  refine .bC (.iteF (.cmp (.var rfl) .con rfl rfl (eqF bf) trivial) .bN) ?_
  refine .bC (.tryThruN (σ1 := σ1) (.bC (.fset (σ := σ1) (c := .Number) (l := []) (.bin (.var rfl) (.var rfl) rfl rfl rfl (Bd.okD b gb (by decide) gi)) (.var rfl) rfl (by simp)) (.bC (.fset (σ := σ1) (c := .Number) (l := [(.bottom, .d (.int (b / (Nat.gcd t.natAbs b.natAbs : Int))))]) (.bin (.var rfl) (.var rfl) rfl rfl rfl (Bd.okD t gb (by decide) gi)) (.var rfl) rfl (by simp)) .bN))) ?_
  exact .bC (.iteF (.cmp (.var rfl) .con rfl rfl (by show some (D.bl (b == 0)) = _; rw [beq_false_of_ne bz]) (.inl rfl)) .bN) .bN
theorem e_new2 {n : Nat} {l : List CE} {σ : Sg} {G G1 : Gs} {t b : Int} (h : Ev Γ (n + 3) (.j (.A l σ G (.ok [.d (.int t), .d (.int b)]) G1))) (hb : 0 < b) (kb : Bd 8000 b) : Ev Γ (n + 3) (.j (.E (.new .Number l []) σ G (.ok (.d (numD (Rat.divInt t b)))) G1)) :=
  .newP R.nw.1 rfl h rfl (f_init R n hb kb) rfl
theorem e_new1 {n : Nat} {a : CE} {σ : Sg} {G G1 : Gs} {t : Int} (h : Ev Γ (n + 3) (.j (.E a σ G (.ok (.d (.int t))) G1))) : Ev Γ (n + 3) (.j (.E (.new .Number [a] [.int 1]) σ G (.ok (.d (numD (t : Rat)))) G1)) := by
  rw [← int_frac]
  exact .newP R.nw.2 rfl (.cons h .nil) rfl (f_init R n (by decide) (bd1 (by decide))) rfl
theorem a_more (n : Nat) (p q : Rat) (hp : RB 3000 p) (hq : RB 3000 q) : Ev Γ (n + 4) (.j (.F .Number_more [.d (numD p), .d (numD q)] [] (.ok (.d (numD (p + q)))) [])) := by
  rw [← add_frac]
  refine .fnR R.more rfl (.bX (.ret (e_new2 R (n := n) (.cons (.bin (.bin (.attr (.var rfl) rfl) (.attr (.var rfl) rfl) rfl rfl rfl (hp.1.okM hq.2 (by decide))) (.bin (.attr (.var rfl) rfl) (.attr (.var rfl) rfl) rfl rfl rfl (hq.1.okM hp.2 (by decide))) rfl rfl rfl trivial) (.cons (.bin (.attr (.var rfl) rfl) (.attr (.var rfl) rfl) rfl rfl rfl (hp.2.okM hq.2 (by decide))) .nil)) (Int.mul_pos (den_pos p) (den_pos q)) ((hp.2.mul hq.2).mono (by decide)))) noRet)
theorem a_less (n : Nat) (p q : Rat) (hp : RB 3000 p) (hq : RB 3000 q) : Ev Γ (n + 4) (.j (.F .Number_less [.d (numD p), .d (numD q)] [] (.ok (.d (numD (p - q)))) [])) := by
  rw [← sub_frac]
  refine .fnR R.less rfl (.bX (.ret (e_new2 R (n := n) (.cons (.bin (.bin (.attr (.var rfl) rfl) (.attr (.var rfl) rfl) rfl rfl rfl (hp.1.okM hq.2 (by decide))) (.bin (.attr (.var rfl) rfl) (.attr (.var rfl) rfl) rfl rfl rfl (hq.1.okM hp.2 (by decide))) rfl rfl rfl trivial) (.cons (.bin (.attr (.var rfl) rfl) (.attr (.var rfl) rfl) rfl rfl rfl (hp.2.okM hq.2 (by decide))) .nil)) (Int.mul_pos (den_pos p) (den_pos q)) ((hp.2.mul hq.2).mono (by decide)))) noRet)
theorem a_times (n : Nat) (p q : Rat) (hp : RB 3000 p) (hq : RB 3000 q) : Ev Γ (n + 4) (.j (.F .Number_times [.d (numD p), .d (numD q)] [] (.ok (.d (numD (p * q)))) [])) := by
  rw [← mul_frac]
  refine .fnR R.times rfl (.bX (.ret (e_new2 R (n := n) (.cons (.bin (.attr (.var rfl) rfl) (.attr (.var rfl) rfl) rfl rfl rfl (hp.1.okM hq.1 (by decide))) (.cons (.bin (.attr (.var rfl) rfl) (.attr (.var rfl) rfl) rfl rfl rfl (hp.2.okM hq.2 (by decide))) .nil)) (Int.mul_pos (den_pos p) (den_pos q)) ((hp.2.mul hq.2).mono (by decide)))) noRet)
theorem a_over (n : Nat) (p q : Rat) (hp : RB 3000 p) (hq : RB 3000 q) (h0 : 0 < q) : Ev Γ (n + 4) (.j (.F .Number_over [.d (numD p), .d (numD q)] [] (.ok (.d (numD (p / q)))) [])) := by
  rw [← div_frac]
  have hn := num_pos' h0
  have hz : ¬ q.num = 0 := by omega
  refine .fnR R.over rfl (.bC (.iteF (.cmp (.attr (.var rfl) rfl) .con rfl rfl (by show some (D.bl (q.num == 0)) = _; rw [beq_false_of_ne hz]) (.inl rfl)) .bN) (.bX (.ret (e_new2 R (n := n) (.cons (.bin (.attr (.var rfl) rfl) (.attr (.var rfl) rfl) rfl rfl rfl (hp.1.okM hq.2 (by decide))) (.cons (.bin (.attr (.var rfl) rfl) (.attr (.var rfl) rfl) rfl rfl rfl (hp.2.okM hq.1 (by decide))) .nil)) (Int.mul_pos (den_pos p) hn) ((hp.2.mul hq.1).mono (by decide)))) noRet))
theorem a_size (n : Nat) (p : Rat) (hp : RB 3000 p) : Ev Γ (n + 4) (.j (.F .Number_size [.d (numD p)] [] (.ok (.d (numD (if p < 0 then -p else p)))) [])) := by
  rw [← abs_frac]
  refine .fnR R.size rfl (.bX (.ret (e_new2 R (n := n) (.cons (.prim (ds := [.int p.num]) (.cons (.attr (.var rfl) rfl) .nil) rfl rfl trivial (by intro t h; cases h)) (.cons (.attr (.var rfl) rfl) .nil)) (den_pos p) (hp.2.mono (by decide)))) noRet)
theorem a_below (n : Nat) (p q : Rat) (hp : RB 3000 p) (hq : RB 3000 q) : Ev Γ (n + 1) (.j (.F .Number_below [.d (numD p), .d (numD q)] [] (.ok (.d (.bl (decide (p < q))))) [])) := by
  have e : decide (p < q) = decide (p.num * (q.den : Int) < q.num * (p.den : Int)) := by
    apply decide_eq_decide.mpr
    exact Rat.lt_iff p q
  rw [e]
  exact .fnR R.below rfl (.bX (.ret (.bin (.bin (.attr (.var rfl) rfl) (.attr (.var rfl) rfl) rfl rfl rfl (hp.1.okM hq.2 (by decide))) (.bin (.attr (.var rfl) rfl) (.attr (.var rfl) rfl) rfl rfl rfl (hq.1.okM hp.2 (by decide))) rfl rfl rfl trivial)) noRet)
theorem a_floor (n : Nat) (p : Rat) (hp : RB 3000 p) : Ev Γ (n + 1) (.j (.F .Number_floor [.d (numD p)] [] (.ok (.d (.int p.floor))) [])) := by
  rw [Rat.floor_def]
  exact .fnR R.floor rfl (.bX (.ret (.bin (.attr (.var rfl) rfl) (.attr (.var rfl) rfl) rfl rfl rfl (Bd.okD p.num hp.2 (by decide) (den_pos p)))) noRet)
theorem a_eq (n : Nat) (p q : Rat) : Ev Γ (n + 1) (.j (.F .Number_eq [.d (numD p), .d (numD q)] [] (.ok (.d (.bl (decide (p = q))))) [])) := by
  have i1 : Ev Γ n (.j (.T (.nt (.tru (.prim (.isi (.cls .Number)) [.var 1]))) [some (.d (numD p)), some (.d (numD q))] [] false [])) := .tnt (b := true) (.tru (d := .bl true) (.isi (d := numD q) (.var rfl) rfl trivial) rfl rfl trivial)
  refine .fnR R.eq rfl (.bC (.iteF i1 .bN) (.bX (.ret ?_) noRet))
  by_cases c : p.num = q.num
  · have e : decide (p = q) = ((p.den : Int) == (q.den : Int)) := by
      rw [Bool.eq_iff_iff]
      simp only [decide_eq_true_eq, beq_iff_eq]
      constructor
      · intro h; rw [h]
      · intro h; exact Rat.ext c (by omega)
    rw [e]
    refine .andT (.bin (.attr (.var rfl) rfl) (.attr (.var rfl) rfl) rfl rfl (by show some (D.bl (p.num == q.num)) = _; rw [c, beq_self_eq_true]) (.inl rfl)) ?_
    exact .bin (.attr (.var rfl) rfl) (.attr (.var rfl) rfl) rfl rfl rfl (.inl rfl)
  · have e : decide (p = q) = false := decide_eq_false fun h => c (by rw [h])
    rw [e]
    exact .andF (.bin (.attr (.var rfl) rfl) (.attr (.var rfl) rfl) rfl rfl (by show some (D.bl (p.num == q.num)) = _; rw [beq_false_of_ne c]) (.inl rfl))
end
/-- no field bears a method's name -/
theorem noF (q : Rat) (m : Mn) : ∀ g ∈ ([(Fl.bottom, D.int q.den), (Fl.top, D.int q.num)] : List (Fl × D)).map (·.1), g.s ≠ m.s := by
  have : ∀ g ∈ [Fl.bottom, Fl.top], g.s ≠ m.s := by
    cases m <;> decide +kernel
  simpa using this
section
variable {Γ : Pg} (R : Pr85 Γ) {n : Nat} {σ : Sg} {G G1 G2 : Gs} {a b : CE} {p q : Rat}
include R
theorem e_more (h1 : Ev Γ (n + 4) (.j (.E a σ G (.ok (.d (numD p))) G1))) (h2 : Ev Γ (n + 4) (.j (.E b σ G1 (.ok (.d (numD q))) G2))) (hp : RB 3000 p) (hq : RB 3000 q) : Ev Γ (n + 4) (.j (.E (.meth .more a [b]) σ G (.ok (.d (numD (p + q)))) G2)) :=
  .methP (R.bd _ (by simp)) h1 rfl (noF _ _) (.cons h2 .nil) rfl (a_more R n p q hp hq)
theorem e_less (h1 : Ev Γ (n + 4) (.j (.E a σ G (.ok (.d (numD p))) G1))) (h2 : Ev Γ (n + 4) (.j (.E b σ G1 (.ok (.d (numD q))) G2))) (hp : RB 3000 p) (hq : RB 3000 q) : Ev Γ (n + 4) (.j (.E (.meth .less a [b]) σ G (.ok (.d (numD (p - q)))) G2)) :=
  .methP (R.bd _ (by simp)) h1 rfl (noF _ _) (.cons h2 .nil) rfl (a_less R n p q hp hq)
theorem e_times (h1 : Ev Γ (n + 4) (.j (.E a σ G (.ok (.d (numD p))) G1))) (h2 : Ev Γ (n + 4) (.j (.E b σ G1 (.ok (.d (numD q))) G2))) (hp : RB 3000 p) (hq : RB 3000 q) : Ev Γ (n + 4) (.j (.E (.meth .times a [b]) σ G (.ok (.d (numD (p * q)))) G2)) :=
  .methP (R.bd _ (by simp)) h1 rfl (noF _ _) (.cons h2 .nil) rfl (a_times R n p q hp hq)
theorem e_over (h1 : Ev Γ (n + 4) (.j (.E a σ G (.ok (.d (numD p))) G1))) (h2 : Ev Γ (n + 4) (.j (.E b σ G1 (.ok (.d (numD q))) G2))) (hp : RB 3000 p) (hq : RB 3000 q) (h0 : 0 < q) : Ev Γ (n + 4) (.j (.E (.meth .over a [b]) σ G (.ok (.d (numD (p / q)))) G2)) :=
  .methP (R.bd _ (by simp)) h1 rfl (noF _ _) (.cons h2 .nil) rfl (a_over R n p q hp hq h0)
theorem e_below (h1 : Ev Γ (n + 4) (.j (.E a σ G (.ok (.d (numD p))) G1))) (h2 : Ev Γ (n + 4) (.j (.E b σ G1 (.ok (.d (numD q))) G2))) (hp : RB 3000 p) (hq : RB 3000 q) : Ev Γ (n + 4) (.j (.E (.meth .below a [b]) σ G (.ok (.d (.bl (decide (p < q))))) G2)) :=
  .methP (R.bd _ (by simp)) h1 rfl (noF _ _) (.cons h2 .nil) rfl (up (a_below R n p q hp hq) 3)
theorem e_size (h1 : Ev Γ (n + 4) (.j (.E a σ G (.ok (.d (numD p))) G1))) (hp : RB 3000 p) : Ev Γ (n + 4) (.j (.E (.meth .size a []) σ G (.ok (.d (numD (if p < 0 then -p else p)))) G1)) :=
  .methP (R.bd _ (by simp)) h1 rfl (noF _ _) .nil rfl (a_size R n p hp)
theorem e_floor (h1 : Ev Γ (n + 4) (.j (.E a σ G (.ok (.d (numD p))) G1))) (hp : RB 3000 p) : Ev Γ (n + 4) (.j (.E (.meth .floor a []) σ G (.ok (.d (.int p.floor))) G1)) :=
  .methP (R.bd _ (by simp)) h1 rfl (noF _ _) .nil rfl (up (a_floor R n p hp) 3)
theorem t_eq (h1 : Ev Γ (n + 4) (.j (.E a σ G (.ok (.d (numD p))) G1))) (h2 : Ev Γ (n + 4) (.j (.E b σ G1 (.ok (.d (numD q))) G2))) : Ev Γ (n + 4) (.j (.T (.cmp .eq a b) σ G (decide (p = q)) G2)) :=
  .town rfl (R.bd _ (by simp)) h1 h2 (up (a_eq R n p q) 3)
theorem e_eq (h1 : Ev Γ (n + 4) (.j (.E a σ G (.ok (.d (numD p))) G1))) (h2 : Ev Γ (n + 4) (.j (.E b σ G1 (.ok (.d (numD q))) G2))) : Ev Γ (n + 4) (.j (.E (.bin .eq a b) σ G (.ok (.d (.bl (decide (p = q))))) G2)) :=
  .own rfl (R.bd _ (by simp)) h1 h2 (up (a_eq R n p q) 3)
end
end Fx.K85

end

section
set_option Elab.async false
set_option linter.all false
set_option maxRecDepth 100000
set_option maxHeartbeats 1000000
/-! The ways, the counts, the rounding. -/
namespace Fx.K85
open PySem L2 Fx
inductive Wy where
  | up | down | high | low | hu | hd | he | ho
def Wy.s : Wy → Str
  | .up => "up" | .down => "down" | .high => "high" | .low => "low" | .hu => "half up" | .hd => "half down" | .he => "half even" | .ho => "half odd"
def Wy.f : Wy → F
  | .up => .goes_up | .down => .goes_down | .high => .goes_high | .low => .goes_low | .hu => .goes_half_up | .hd => .goes_half_down | .he => .goes_half_even | .ho => .goes_half_odd
def halfB (p : Rat) (b : Bool) : Bool := if 2 * p = 1 then b else decide (1 < 2 * p)
def Wy.g : Wy → Int → Rat → Bool
  | .up, c, _ => decide (0 ≤ c)
  | .down, c, _ => decide (c < 0)
  | .high, _, _ => true
  | .low, _, _ => false
  | .hu, c, p => halfB p (decide (0 ≤ c))
  | .hd, c, p => halfB p (decide (c < 0))
  | .he, c, p => halfB p (c % 2 == 1)
  | .ho, c, p => halfB p (c % 2 == 0)
theorem two_mul_num (p : Rat) : (2 * p = 1 ↔ 2 * p.num = (p.den : Int)) ∧ (1 < 2 * p ↔ (p.den : Int) < 2 * p.num) := by
  have hd : (0 : Rat) < (p.den : Rat) := by
    have := p.den_pos
    exact_mod_cast this
  have e : p * (p.den : Rat) = (p.num : Rat) := by
    have h1 : (p.num : Rat) / (p.den : Rat) = p := by
      have := Rat.num_divInt_den p
      rw [Rat.divInt_eq_div] at this
      exact this
    have h2 : (p.den : Rat) ≠ 0 := by grind
    conv => lhs; lhs; rw [← h1]
    exact Rat.div_mul_cancel h2
  constructor
  · constructor
    · intro h
      have : (2 : Rat) * (p.num : Rat) = (p.den : Rat) := by rw [← e]; grind
      exact_mod_cast this
    · intro h
      have h2 : (2 : Rat) * (p.num : Rat) = (p.den : Rat) := by exact_mod_cast h
      rw [← e] at h2
      grind
  · have k : (1 < 2 * p) ↔ ((p.den : Rat) < 2 * (p.num : Rat)) := by
      rw [← e]
      constructor
      · intro h
        have := Rat.mul_lt_mul_of_pos_right h hd
        grind
      · intro h
        have h3 : 1 * (p.den : Rat) < (2 * p) * (p.den : Rat) := by grind
        exact Rat.lt_of_mul_lt_mul_right h3 (Rat.le_of_lt hd)
    rw [k]
    constructor
    · intro h; exact_mod_cast h
    · intro h; exact_mod_cast h
section
variable {Γ : Pg} (R : Pr85 Γ)
include R
theorem a_half (n : Nat) (p : Rat) (hp : RB 3000 p) (b : Bool) : Ev Γ (n + 1) (.j (.F .by_half [.d (numD p), .d (.bl b)] [] (.ok (.d (.bl (halfB p b)))) [])) := by
  have h2 : CMulX 2 p.num := Bd.okM (Bd.mono (a := 2) (b := 2) (by unfold Bd; decide) (by decide)) hp.1 (by decide)
  obtain ⟨k1, k2⟩ := two_mul_num p
  unfold halfB
  by_cases c : 2 * p = 1
  · rw [if_pos c]
    refine .fnR R.by_half rfl (.bC (.iteF (.cmp (.bin .con (.attr (.var rfl) rfl) rfl rfl rfl h2) (.attr (.var rfl) rfl) rfl rfl ?_ (.inl rfl)) .bN) (.bX (.ret (.var rfl)) noRet))
    show some (D.bl (!(2 * p.num == (p.den : Int)))) = _
    rw [k1.mp c, beq_self_eq_true]; rfl
  · rw [if_neg c]
    have e : decide (1 < 2 * p) = decide ((p.den : Int) < 2 * p.num) := decide_eq_decide.mpr k2
    rw [e]
    refine .fnR R.by_half rfl (.bX (.iteT (.cmp (.bin .con (.attr (.var rfl) rfl) rfl rfl rfl h2) (.attr (.var rfl) rfl) rfl rfl ?_ (.inl rfl)) (.bX (.ret (.bin (.bin .con (.attr (.var rfl) rfl) rfl rfl rfl h2) (.attr (.var rfl) rfl) rfl rfl rfl trivial)) noRet)) noRet)
    show some (D.bl (!(2 * p.num == (p.den : Int)))) = _
    rw [beq_false_of_ne fun z => c (k1.mpr z)]; rfl
theorem a_goes (n : Nat) (w : Wy) (c : Int) (p : Rat) (hp : RB 3000 p) : Ev Γ (n + 2) (.j (.F w.f [.d (.int c), .d (numD p)] [] (.ok (.d (.bl (w.g c p)))) [])) := by
  cases w with
  | up => exact .fnR R.goes_up rfl (.bX (.ret (.bin (.var rfl) .con rfl rfl rfl trivial)) noRet)
  | down => exact .fnR R.goes_down rfl (.bX (.ret (.bin (.var rfl) .con rfl rfl rfl trivial)) noRet)
  | high => exact .fnR R.goes_high rfl (.bX (.ret .con) noRet)
  | low => exact .fnR R.goes_low rfl (.bX (.ret .con) noRet)
  | hu => exact .fnR R.goes_half_up rfl (.bX (.ret (.callP (R.bd _ (by simp)) (.cons (.var rfl) (.cons (.bin (.var rfl) .con rfl rfl rfl trivial) .nil)) rfl (a_half R n p hp _))) noRet)
  | hd => exact .fnR R.goes_half_down rfl (.bX (.ret (.callP (R.bd _ (by simp)) (.cons (.var rfl) (.cons (.bin (.var rfl) .con rfl rfl rfl trivial) .nil)) rfl (a_half R n p hp _))) noRet)
  | he => exact .fnR R.goes_half_even rfl (.bX (.ret (.callP (R.bd _ (by simp)) (.cons (.var rfl) (.cons (.bin (.bin (.var rfl) .con rfl rfl rfl (by show (0 : Int) < 2; decide)) .con rfl rfl rfl (.inl rfl)) .nil)) rfl (a_half R n p hp _))) noRet)
  | ho => exact .fnR R.goes_half_odd rfl (.bX (.ret (.callP (R.bd _ (by simp)) (.cons (.var rfl) (.cons (.bin (.bin (.var rfl) .con rfl rfl rfl (by show (0 : Int) < 2; decide)) .con rfl rfl rfl (.inl rfl)) .nil)) rfl (a_half R n p hp _))) noRet)
end
/-! ### the counts -/
def lowB (x s : Rat) : Int := (x / s).floor
def highB (x s : Rat) : Int := if s * (lowB x s : Rat) = x then lowB x s else lowB x s + 1
def cntB (g : Int → Rat → Bool) (x s : Rat) : Int := if lowB x s = highB x s then lowB x s else if g (lowB x s) (x / s - (lowB x s : Rat)) = true then highB x s else lowB x s
def rndB (w : Wy) (x s : Rat) : Rat := s * (cntB w.g x s : Rat)
theorem bd_low {x s : Rat} {a b : Nat} (hx : RB a x) (hs : RB b s) (h0 : 0 < s) : Bd (a + b) (lowB x s) := rb_floor (rb_div hx hs h0)
theorem bd_high {x s : Rat} {a b : Nat} (hx : RB a x) (hs : RB b s) (h0 : 0 < s) (hp : 0 < a + b) : Bd (a + b + 1) (highB x s) := by
  unfold highB
  split
  · exact (bd_low hx hs h0).mono (by omega)
  · exact (bd_low hx hs h0).add ((bd1 hp))
theorem bd_cnt {x s : Rat} {a b : Nat} (g : Int → Rat → Bool) (hx : RB a x) (hs : RB b s) (h0 : 0 < s) (hp : 0 < a + b) : Bd (a + b + 1) (cntB g x s) := by
  unfold cntB
  split
  · exact (bd_low hx hs h0).mono (by omega)
  · split
    · exact bd_high hx hs h0 hp
    · exact (bd_low hx hs h0).mono (by omega)
section
variable {Γ : Pg} (R : Pr85 Γ)
include R
theorem a_counts (n : Nat) (x s : Rat) (hx : RB 500 x) (hs : RB 100 s) (h0 : 0 < s) : Ev Γ (n + 5) (.j (.F .counts_of [.d (numD x), .d (numD s)] [] (.ok (.d (.tup [.int (lowB x s), .int (highB x s)]))) [])) := by
  have hx3 := hx.mono (show 500 ≤ 3000 by decide)
  have hs3 := hs.mono (show 100 ≤ 3000 by decide)
  have hq : RB 3000 (x / s) := (rb_div hx hs h0).mono (by decide)
  have hl : RB 3000 (lowB x s : Rat) := (rb_int (bd_low hx hs h0) (by decide)).mono (by decide)
  refine .fnR R.counts_of rfl (.bC (.asg (e_floor R (e_over R (.var rfl) (.var rfl) hx3 hs3 h0) hq) rfl) (.bX (.ret (.tup (ws := [.d (.int (lowB x s)), .d (.int (highB x s))]) (.cons (.var rfl) (.cons ?_ .nil)) rfl (by simp [sizeLine_eq]))) noRet))
  have tt := t_eq R (n := n) (σ := [some (.d (numD x)), some (.d (numD s)), some (.d (.int (lowB x s)))]) (G := []) (a := .meth .times (.var 1) [.new .Number [.var 2] [.int 1]]) (b := .var 0) (e_times R (.var rfl) (e_new1 R (n := n + 1) (.var rfl)) hs3 hl) (.var (w := .d (numD x)) rfl)
  unfold highB
  by_cases c : s * (lowB x s : Rat) = x
  · rw [if_pos c]
    rw [decide_eq_true c] at tt
    exact .ifT tt (.var rfl)
  · rw [if_neg c]
    rw [decide_eq_false c] at tt
    exact .ifF tt (.bin (.var rfl) .con rfl rfl rfl trivial)
/-- the way: a text of the table, or a function that holds it -/
theorem a_count (n : Nat) (w : Wy) (x s : Rat) (hx : RB 500 x) (hs : RB 100 s) (h0 : 0 < s) (wd : D)
    (hr : ∀ σ : Sg, σ[2]? = some (some (.d wd)) → ∃ r, Ev Γ (n + 5) (.j (.E (.ifx (.tru (.prim (.isi .str) [.var 2])) (.gdic "RULES" (.var 2)) (.var 2)) σ [] (.ok (.d r)) [])) ∧
      ∀ (σ' : Sg) (c : Int) (p : Rat), RB 3000 p → σ'[6]? = some (some (.d r)) → σ'[3]? = some (some (.d (.int c))) → σ'[5]? = some (some (.d (numD p))) → Ev Γ (n + 5) (.j (.E (.callv 6 [.var 3, .var 5]) σ' [] (.ok (.d (.bl (w.g c p)))) []))) :
    Ev Γ (n + 6) (.j (.F .count_by [.d (numD x), .d (numD s), .d wd] [] (.ok (.d (.int (cntB w.g x s)))) [])) := by
  have hx3 := hx.mono (show 500 ≤ 3000 by decide)
  have hs3 := hs.mono (show 100 ≤ 3000 by decide)
  have hq : RB 600 (x / s) := rb_div hx hs h0
  have hl : RB 600 (lowB x s : Rat) := rb_int (bd_low hx hs h0) (by decide)
  have hp : RB 3000 (x / s - (lowB x s : Rat)) := (rb_sub hq hl).mono (by decide)
  refine .fnR R.count_by rfl (.bC (.asg (.callP (R.bd _ (by simp)) (.cons (.var rfl) (.cons (.var rfl) .nil)) rfl (a_counts R n x s hx hs h0)) rfl) ?_)
  unfold cntB
  by_cases c : lowB x s = highB x s
  · rw [if_pos c]
    exact .bX (.iteT (.cmp (.var rfl) (.var rfl) rfl rfl (by show some (D.bl (lowB x s == highB x s)) = _; rw [← c, beq_self_eq_true]) (.inl rfl)) (.bX (.ret (.var rfl)) noRet)) noRet
  · rw [if_neg c]
    refine .bC (.iteF (.cmp (.var rfl) (.var rfl) rfl rfl (by show some (D.bl (lowB x s == highB x s)) = _; rw [beq_false_of_ne c]) (.inl rfl)) .bN) ?_
    refine .bC (.asg (e_less R (n := n + 1) (e_over R (n := n + 1) (.var rfl) (.var rfl) hx3 hs3 h0) (e_new1 R (n := n + 2) (.var rfl)) (hq.mono (by decide)) (hl.mono (by decide))) rfl) ?_
    obtain ⟨r, r1, r2⟩ := hr [some (.d (numD x)), some (.d (numD s)), some (.d wd), some (.d (.int (lowB x s))), some (.d (.int (highB x s))), some (.d (numD (x / s - (lowB x s : Rat)))), none] rfl
    refine .bC (.asg r1 rfl) (.bX (.ret ?_) noRet)
    have r3 := r2 [some (.d (numD x)), some (.d (numD s)), some (.d wd), some (.d (.int (lowB x s))), some (.d (.int (highB x s))), some (.d (numD (x / s - (lowB x s : Rat)))), some (.d r)] _ _ hp rfl rfl rfl
    cases cg : w.g (lowB x s) (x / s - (lowB x s : Rat)) with
    | true =>
      rw [cg] at r3
      rw [if_pos rfl]
      exact .ifT (.cmp r3 .con rfl rfl rfl trivial) (.var rfl)
    | false =>
      rw [cg] at r3
      rw [if_neg (by decide)]
      exact .ifF (.cmp r3 .con rfl rfl rfl trivial) (.var rfl)
theorem way_str (hgd : ∀ w : Wy, Γ.gd "RULES" (.str w.s) = some (.fn w.f)) (n : Nat) (w : Wy) : ∀ σ : Sg, σ[2]? = some (some (.d (.str w.s))) → ∃ r, Ev Γ (n + 5) (.j (.E (.ifx (.tru (.prim (.isi .str) [.var 2])) (.gdic "RULES" (.var 2)) (.var 2)) σ [] (.ok (.d r)) [])) ∧
      ∀ (σ' : Sg) (c : Int) (p : Rat), RB 3000 p → σ'[6]? = some (some (.d r)) → σ'[3]? = some (some (.d (.int c))) → σ'[5]? = some (some (.d (numD p))) → Ev Γ (n + 5) (.j (.E (.callv 6 [.var 3, .var 5]) σ' [] (.ok (.d (.bl (w.g c p)))) [])) := fun σ h => by
  refine ⟨.fn w.f, .ifT (.tru (d := .bl true) (.isi (d := .str w.s) (.var h) rfl trivial) rfl rfl trivial) (.gdic R.tb (.var h) (hgd w)), fun σ' c p hp h6 h3 h5 => ?_⟩
  exact .callv (R.bd _ (by cases w <;> simp [Wy.f])) h6 (.cons (.var h3) (.cons (.var h5) .nil)) rfl (up (a_goes R n w c p hp) 3)
theorem way_clo (hcl : ∀ (w : Wy) (c : Int) (p : Rat), RB 3000 p → Γ.clo w.s [.int c, numD p] (.bl (w.g c p))) (n : Nat) (w : Wy) : ∀ σ : Sg, σ[2]? = some (some (.d (.clo w.s))) → ∃ r, Ev Γ (n + 5) (.j (.E (.ifx (.tru (.prim (.isi .str) [.var 2])) (.gdic "RULES" (.var 2)) (.var 2)) σ [] (.ok (.d r)) [])) ∧
      ∀ (σ' : Sg) (c : Int) (p : Rat), RB 3000 p → σ'[6]? = some (some (.d r)) → σ'[3]? = some (some (.d (.int c))) → σ'[5]? = some (some (.d (numD p))) → Ev Γ (n + 5) (.j (.E (.callv 6 [.var 3, .var 5]) σ' [] (.ok (.d (.bl (w.g c p)))) [])) := fun σ h => by
  refine ⟨.clo w.s, .ifF (.tru (d := .bl false) (.isiC (.var h) rfl) rfl rfl trivial) (.var h), fun σ' c p hp h6 h3 h5 => ?_⟩
  exact .callc (n := n + 1) h6 (.cons (.var h3) (.cons (.var h5) .nil)) rfl (hcl w c p hp)
theorem a_neigh (n : Nat) (x s : Rat) (hx : RB 500 x) (hs : RB 100 s) (h0 : 0 < s) : Ev Γ (n + 6) (.j (.F .neighbours [.d (numD x), .d (numD s)] [] (.ok (.d (.tup [numD (s * (lowB x s : Rat)), numD (s * (highB x s : Rat))]))) [])) := by
  have hs3 := hs.mono (show 100 ≤ 3000 by decide)
  have hl : RB 3000 (lowB x s : Rat) := (rb_int (bd_low hx hs h0) (by decide)).mono (by decide)
  have hh : RB 3000 (highB x s : Rat) := (rb_int (bd_high hx hs h0 (by decide)) (by decide)).mono (by decide)
  exact .fnR R.neighbours rfl (.bC (.asg (.callP (R.bd _ (by simp)) (.cons (.var rfl) (.cons (.var rfl) .nil)) rfl (a_counts R n x s hx hs h0)) rfl)
    (.bX (.ret (.tup (.cons (e_times R (n := n + 1) (.var rfl) (e_new1 R (n := n + 2) (.var rfl)) hs3 hl) (.cons (e_times R (n := n + 1) (.var rfl) (e_new1 R (n := n + 2) (.var rfl)) hs3 hh) .nil)) rfl (by simp [sizeLine_eq]))) noRet))
theorem a_round (n : Nat) (w : Wy) (x s : Rat) (hx : RB 500 x) (hs : RB 100 s) (h0 : 0 < s) (wd : D) (hc : Ev Γ (n + 6) (.j (.F .count_by [.d (numD x), .d (numD s), .d wd] [] (.ok (.d (.int (cntB w.g x s)))) []))) :
    Ev Γ (n + 7) (.j (.F .rounded [.d (numD x), .d (numD s), .d wd] [] (.ok (.d (numD (rndB w x s)))) [])) := by
  have hs3 := hs.mono (show 100 ≤ 3000 by decide)
  have hl : RB 3000 (cntB w.g x s : Rat) := (rb_int (bd_cnt w.g hx hs h0 (by decide)) (by decide)).mono (by decide)
  exact .fnR R.rounded rfl (.bX (.ret (e_times R (n := n + 2) (.var rfl) (e_new1 R (n := n + 3) (.callP (R.bd _ (by simp)) (.cons (.var rfl) (.cons (.var rfl) (.cons (.var rfl) .nil))) rfl hc)) hs3 hl)) noRet)
end
end Fx.K85

end

section
set_option Elab.async false
set_option linter.all false
set_option maxRecDepth 100000
set_option maxHeartbeats 1000000
/-! Rounding, in plain fractions. -/
namespace Fx.K85
theorem fl_le (q : Rat) : (q.floor : Rat) ≤ q := Rat.floor_le q
theorem fl_lt (q : Rat) : q < (q.floor : Rat) + 1 := by
  have := Rat.lt_floor_add_one q
  rw [Rat.intCast_add] at this
  exact this
theorem fl_eq {q : Rat} {n : Int} (h1 : (n : Rat) ≤ q) (h2 : q < (n : Rat) + 1) : q.floor = n := by
  have a : n ≤ q.floor := Rat.le_floor_iff.mpr h1
  have b : q.floor < n + 1 := Rat.floor_lt_iff.mpr (by rw [Rat.intCast_add]; exact h2)
  omega
theorem mul_canc {s a b : Rat} (h : s ≠ 0) (k : s * a = s * b) : a = b := by grind
def cntQ (g : Int → Rat → Bool) (q : Rat) : Int := if (q.floor : Rat) = q then q.floor else if g q.floor (q - (q.floor : Rat)) = true then q.floor + 1 else q.floor
theorem x_eq {x s : Rat} (h : 0 < s) : s * (x / s) = x := by
  have : s ≠ 0 := by grind
  rw [Rat.mul_comm]
  exact Rat.div_mul_cancel this
theorem cnt_eq (g : Int → Rat → Bool) {x s : Rat} (h : 0 < s) : cntB g x s = cntQ g (x / s) := by
  have hs : s ≠ 0 := by grind
  have hx := x_eq (x := x) h
  have k : s * (lowB x s : Rat) = x ↔ ((x / s).floor : Rat) = x / s := by
    show s * ((x / s).floor : Rat) = x ↔ _
    constructor
    · intro e
      rw [← hx] at e
      have e2 : s * ((x / s).floor : Rat) = s * (x / s) := by
        have : (s * (x / s)) / s = x / s := by rw [hx]
        rw [this] at e
        exact e
      exact mul_canc hs e2
    · intro e
      rw [e, hx]
  unfold cntB cntQ highB
  by_cases c : s * (lowB x s : Rat) = x
  · rw [if_pos c, if_pos rfl, if_pos (k.mp c)]; rfl
  · rw [if_neg c, if_neg (by omega), if_neg (fun z => c (k.mpr z))]; rfl
theorem high_eq {x s : Rat} (h : 0 < s) : (highB x s = lowB x s ∧ (lowB x s : Rat) = x / s) ∨ highB x s = lowB x s + 1 := by
  have hs : s ≠ 0 := by grind
  unfold highB
  by_cases c : s * (lowB x s : Rat) = x
  · rw [if_pos c]
    refine .inl ⟨rfl, ?_⟩
    have : s * (lowB x s : Rat) = s * (x / s) := by rw [c, x_eq h]
    exact mul_canc hs this
  · rw [if_neg c]; exact .inr rfl
theorem cnt_two (g : Int → Rat → Bool) (q : Rat) : (cntQ g q = q.floor ∧ ((q.floor : Rat) = q ∨ g q.floor (q - (q.floor : Rat)) = false)) ∨ (cntQ g q = q.floor + 1 ∧ (q.floor : Rat) ≠ q ∧ g q.floor (q - (q.floor : Rat)) = true) := by
  unfold cntQ
  by_cases c : (q.floor : Rat) = q
  · rw [if_pos c]; exact .inl ⟨rfl, .inl c⟩
  · rw [if_neg c]
    cases e : g q.floor (q - (q.floor : Rat)) with
    | true => rw [if_pos rfl]; exact .inr ⟨rfl, c, rfl⟩
    | false => rw [if_neg (by decide)]; exact .inl ⟨rfl, .inr rfl⟩
theorem mul_le {s a b : Rat} (h : 0 < s) (k : a ≤ b) : s * a ≤ s * b := Rat.mul_le_mul_of_nonneg_left k (Rat.le_of_lt h)
theorem mul_lt {s a b : Rat} (h : 0 < s) (k : a < b) : s * a < s * b := Rat.mul_lt_mul_of_pos_left k h
theorem cast_succ (n : Int) : ((n + 1 : Int) : Rat) = (n : Rat) + 1 := by rw [Rat.intCast_add]; rfl
section
variable {w : Wy} {x s : Rat}
theorem m_low (h : 0 < s) : ¬ rndB w x s < s * (lowB x s : Rat) := by
  unfold rndB
  rw [cnt_eq w.g h]
  have k : ((lowB x s : Int) : Rat) ≤ (cntQ w.g (x / s) : Rat) := by
    rcases cnt_two w.g (x / s) with ⟨e, _⟩ | ⟨e, _⟩
    · rw [e]; exact Rat.le_refl
    · rw [e, cast_succ]; show ((x / s).floor : Rat) ≤ _; grind
  have := mul_le h k
  grind
theorem m_high (h : 0 < s) : ¬ s * (highB x s : Rat) < rndB w x s := by
  unfold rndB
  rw [cnt_eq w.g h]
  have k : (cntQ w.g (x / s) : Rat) ≤ ((highB x s : Int) : Rat) := by
    rcases high_eq (x := x) h with ⟨e1, e2⟩ | e1
    · rw [e1]
      rcases cnt_two w.g (x / s) with ⟨e, _⟩ | ⟨e, z, _⟩
      · rw [e]; exact Rat.le_refl
      · exact absurd e2 z
    · rw [e1, cast_succ]
      show _ ≤ ((x / s).floor : Rat) + 1
      rcases cnt_two w.g (x / s) with ⟨e, _⟩ | ⟨e, z, _⟩
      · rw [e]; grind
      · rw [e, cast_succ]; exact Rat.le_refl
  have := mul_le h k
  grind
def absR (q : Rat) : Rat := if q < 0 then -q else q
theorem m_near (h : 0 < s) : absR (x - rndB w x s) < s := by
  have hx := x_eq (x := x) h
  unfold rndB
  rw [cnt_eq w.g h]
  have f1 := fl_le (x / s)
  have f2 := fl_lt (x / s)
  have k : -1 < x / s - (cntQ w.g (x / s) : Rat) ∧ x / s - (cntQ w.g (x / s) : Rat) < 1 := by
    rcases cnt_two w.g (x / s) with ⟨e, _⟩ | ⟨e, z, _⟩
    · rw [e]; constructor <;> grind
    · rw [e, cast_succ]
      have : ((x / s).floor : Rat) < x / s := by grind
      constructor <;> grind
  have a1 := mul_lt h k.1
  have a2 := mul_lt h k.2
  have e : s * (x / s - (cntQ w.g (x / s) : Rat)) = x - s * (cntQ w.g (x / s) : Rat) := by
    grind
  rw [e] at a1 a2
  unfold absR
  split <;> grind
def Wy.half : Wy → Bool
  | .hu => true | .hd => true | .he => true | .ho => true
  | _ => false
theorem half_g (hw : w.half = true) (c : Int) (p : Rat) : ∃ b, w.g c p = halfB p b := by
  cases w <;> first | exact ⟨_, rfl⟩ | cases hw
theorem m_half (h : 0 < s) (hw : w.half = true) : ¬ s < absR (x - rndB w x s) * 2 := by
  have hx := x_eq (x := x) h
  unfold rndB
  rw [cnt_eq w.g h]
  have f1 := fl_le (x / s)
  have f2 := fl_lt (x / s)
  obtain ⟨b, hb⟩ := half_g hw (x / s).floor (x / s - ((x / s).floor : Rat))
  have k : -1 ≤ 2 * (x / s - (cntQ w.g (x / s) : Rat)) ∧ 2 * (x / s - (cntQ w.g (x / s) : Rat)) ≤ 1 := by
    rcases cnt_two w.g (x / s) with ⟨e, z⟩ | ⟨e, z, z2⟩
    · rw [e]
      rcases z with z | z
      · constructor <;> grind
      · rw [hb] at z
        unfold halfB at z
        split at z
        · constructor <;> grind
        · have := of_decide_eq_false z
          constructor <;> grind
    · rw [e, cast_succ]
      rw [hb] at z2
      unfold halfB at z2
      split at z2
      · constructor <;> grind
      · have := of_decide_eq_true z2
        constructor <;> grind
  have a1 := mul_le h k.1
  have a2 := mul_le h k.2
  have e : s * (2 * (x / s - (cntQ w.g (x / s) : Rat))) = 2 * (x - s * (cntQ w.g (x / s) : Rat)) := by
    have : s * (x / s - (cntQ w.g (x / s) : Rat)) = x - s * (cntQ w.g (x / s) : Rat) := by
      grind
    grind
  rw [e] at a1 a2
  unfold absR
  split <;> grind
def Wy.turn : Wy → Wy
  | .high => .low
  | .low => .high
  | w => w
theorem half_flip (p : Rat) (b : Bool) : halfB (1 - p) (!b) = !halfB p b := by
  unfold halfB
  by_cases c : 2 * p = 1
  · rw [if_pos c, if_pos (by grind)]
  · rw [if_neg c, if_neg (by grind)]
    by_cases d : 1 < 2 * p
    · rw [decide_eq_true d, decide_eq_false (by grind)]; rfl
    · rw [decide_eq_false d, decide_eq_true (by grind)]; rfl
theorem turn_g (w : Wy) (c : Int) (p : Rat) : w.turn.g (-c - 1) (1 - p) = !w.g c p := by
  cases w with
  | up => show decide (0 ≤ -c - 1) = !decide (0 ≤ c); by_cases h : 0 ≤ c <;> simp [h] <;> omega
  | down => show decide (-c - 1 < 0) = !decide (c < 0); by_cases h : c < 0 <;> simp [h] <;> omega
  | high => rfl
  | low => rfl
  | hu =>
    show halfB (1 - p) (decide (0 ≤ -c - 1)) = !halfB p (decide (0 ≤ c))
    rw [← half_flip]; congr 1; by_cases h : 0 ≤ c <;> simp [h] <;> omega
  | hd =>
    show halfB (1 - p) (decide (-c - 1 < 0)) = !halfB p (decide (c < 0))
    rw [← half_flip]; congr 1; by_cases h : c < 0 <;> simp [h] <;> omega
  | he =>
    show halfB (1 - p) ((-c - 1) % 2 == 1) = !halfB p (c % 2 == 1)
    rw [← half_flip]; congr 1
    rcases Int.emod_two_eq c with h | h
    · have : (-c - 1) % 2 = 1 := by omega
      rw [h, this]; rfl
    · have : (-c - 1) % 2 = 0 := by omega
      rw [h, this]; rfl
  | ho =>
    show halfB (1 - p) ((-c - 1) % 2 == 0) = !halfB p (c % 2 == 0)
    rw [← half_flip]; congr 1
    rcases Int.emod_two_eq c with h | h
    · have : (-c - 1) % 2 = 1 := by omega
      rw [h, this]; rfl
    · have : (-c - 1) % 2 = 0 := by omega
      rw [h, this]; rfl
theorem cnt_turn (w : Wy) (q : Rat) : cntQ w.turn.g (-q) = - cntQ w.g q := by
  have f1 := fl_le q
  have f2 := fl_lt q
  by_cases c : (q.floor : Rat) = q
  · have e : (-q).floor = -q.floor := fl_eq (by rw [Rat.intCast_neg]; grind) (by rw [Rat.intCast_neg]; grind)
    unfold cntQ
    rw [if_pos c, if_pos (by rw [e, Rat.intCast_neg, c]), e]
  · have e : (-q).floor = -q.floor - 1 := fl_eq (by rw [Rat.intCast_sub, Rat.intCast_neg]; show _ - (1 : Rat) ≤ _; grind) (by rw [Rat.intCast_sub, Rat.intCast_neg]; show _ < _ - (1 : Rat) + 1; grind)
    have e2 : ((-q).floor : Rat) = -(q.floor : Rat) - 1 := by rw [e, Rat.intCast_sub, Rat.intCast_neg]; rfl
    unfold cntQ
    rw [if_neg c, if_neg (by rw [e2]; grind), e2, e]
    have e3 : -q - (-(q.floor : Rat) - 1) = 1 - (q - (q.floor : Rat)) := by grind
    rw [e3, turn_g]
    cases w.g q.floor (q - (q.floor : Rat)) <;> simp <;> omega
theorem m_turn (h : 0 < s) : rndB w.turn (0 - x) s = 0 - rndB w x s := by
  unfold rndB
  rw [cnt_eq _ h, cnt_eq _ h]
  have e : (0 - x) / s = -(x / s) := by grind
  rw [e, cnt_turn, Rat.intCast_neg]
  grind
theorem m_scale {k : Rat} (h : 0 < s) (hk : 0 < k) : rndB w (x * k) (s * k) = rndB w x s * k := by
  have h2 : 0 < s * k := Rat.mul_pos h hk
  unfold rndB
  rw [cnt_eq _ h, cnt_eq _ h2]
  have n1 : s ≠ 0 := by grind
  have n2 : k ≠ 0 := by grind
  have e : (x * k) / (s * k) = x / s := by
    have a : s * k ≠ 0 := by grind
    have b1 : (x / s) * (s * k) = x * k := by
      have := Rat.div_mul_cancel (a := x) n1
      rw [← Rat.mul_assoc, this]
    rw [← b1]
    exact Rat.mul_div_cancel a
  rw [e]
  grind
def Wy.away : Wy → Bool
  | .up => true | .down => true | .hu => true | .hd => true
  | _ => false
theorem far_g (w : Wy) (c m : Int) (p : Rat) (hm : 0 ≤ m) (hc : w.away = true → 0 ≤ c) : w.g (c + 2 * m) p = w.g c p := by
  cases w with
  | up => have := hc rfl; show decide (0 ≤ c + 2 * m) = decide (0 ≤ c); rw [decide_eq_true this, decide_eq_true (by omega)]
  | down => have := hc rfl; show decide (c + 2 * m < 0) = decide (c < 0); rw [decide_eq_false (by omega), decide_eq_false (by omega)]
  | high => rfl
  | low => rfl
  | hu => have := hc rfl; show halfB p (decide (0 ≤ c + 2 * m)) = halfB p (decide (0 ≤ c)); rw [decide_eq_true this, decide_eq_true (by omega)]
  | hd => have := hc rfl; show halfB p (decide (c + 2 * m < 0)) = halfB p (decide (c < 0)); rw [decide_eq_false (by omega), decide_eq_false (by omega)]
  | he => show halfB p ((c + 2 * m) % 2 == 1) = halfB p (c % 2 == 1); rw [show (c + 2 * m) % 2 = c % 2 by omega]
  | ho => show halfB p ((c + 2 * m) % 2 == 0) = halfB p (c % 2 == 0); rw [show (c + 2 * m) % 2 = c % 2 by omega]
theorem cnt_far (w : Wy) (q : Rat) (m : Int) (hm : 0 ≤ m) (hc : w.away = true → 0 ≤ q) : cntQ w.g (q + ((2 * m : Int) : Rat)) = cntQ w.g q + 2 * m := by
  have f1 := fl_le q
  have f2 := fl_lt q
  have e : (q + ((2 * m : Int) : Rat)).floor = q.floor + 2 * m := fl_eq (by rw [Rat.intCast_add]; grind) (by rw [Rat.intCast_add]; grind)
  have e2 : ((q + ((2 * m : Int) : Rat)).floor : Rat) = (q.floor : Rat) + ((2 * m : Int) : Rat) := by rw [e, Rat.intCast_add]
  have hc' : w.away = true → 0 ≤ q.floor := fun z => Rat.le_floor_iff.mpr (hc z)
  unfold cntQ
  by_cases c : (q.floor : Rat) = q
  · rw [if_pos c, if_pos (by rw [e2, c]), e]
  · rw [if_neg c, if_neg (by rw [e2]; grind), e2, e]
    have e3 : q + ((2 * m : Int) : Rat) - ((q.floor : Rat) + ((2 * m : Int) : Rat)) = q - (q.floor : Rat) := by grind
    rw [e3, far_g w _ _ _ hm hc']
    split <;> omega
theorem m_far (h : 0 < s) (m : Int) (hm : 0 ≤ m) (hc : w.away = true → ¬ x < 0) : rndB w (x + s * ((2 * m : Int) : Rat)) s = rndB w x s + s * ((2 * m : Int) : Rat) := by
  unfold rndB
  rw [cnt_eq _ h, cnt_eq _ h]
  have n1 : s ≠ 0 := by grind
  have e : (x + s * ((2 * m : Int) : Rat)) / s = x / s + ((2 * m : Int) : Rat) := by grind
  have hq : w.away = true → 0 ≤ x / s := fun z => by
    have h1 := hc z
    have h2 := x_eq (x := x) h
    by_cases c : 0 ≤ x / s
    · exact c
    · have : s * (x / s) < s * 0 := mul_lt h (by grind)
      grind
  rw [e, cnt_far w _ m hm hq, Rat.intCast_add]
  grind
end
theorem half_mono {p p' : Rat} (h : p < p') (b : Bool) (k : halfB p b = true) : halfB p' b = true := by
  unfold halfB at *
  by_cases c : 2 * p = 1
  · rw [if_neg (by grind)]; exact decide_eq_true (by grind)
  · rw [if_neg c] at k
    have := of_decide_eq_true k
    rw [if_neg (by grind)]; exact decide_eq_true (by grind)
theorem g_mono (w : Wy) (c : Int) {p p' : Rat} (h : p < p') (k : w.g c p = true) : w.g c p' = true := by
  cases w with
  | up => exact k
  | down => exact k
  | high => rfl
  | low => cases k
  | hu => exact half_mono h _ k
  | hd => exact half_mono h _ k
  | he => exact half_mono h _ k
  | ho => exact half_mono h _ k
theorem cnt_mono (w : Wy) {p q : Rat} (h : p < q) : cntQ w.g p ≤ cntQ w.g q := by
  have f1 := fl_le p
  have f2 := fl_lt q
  have l : p.floor ≤ q.floor := Rat.le_floor_iff.mpr (by grind)
  rcases cnt_two w.g p with ⟨e, _⟩ | ⟨e, z, z2⟩
  · rcases cnt_two w.g q with ⟨e', _⟩ | ⟨e', _⟩ <;> omega
  · rcases cnt_two w.g q with ⟨e', z'⟩ | ⟨e', _⟩
    · by_cases c : p.floor = q.floor
      · exfalso
        rcases z' with z' | z'
        · rw [← c] at z'; grind
        · rw [c] at z2
          have := g_mono w q.floor (p := p - (q.floor : Rat)) (p' := q - (q.floor : Rat)) (by grind) z2
          rw [this] at z'; cases z'
      · omega
    · omega
theorem m_mono (w : Wy) {a b s : Rat} (h : 0 < s) (k : a < b) : ¬ rndB w b s < rndB w a s := by
  unfold rndB
  rw [cnt_eq _ h, cnt_eq _ h]
  have kq : a / s < b / s := by
    have h1 := x_eq (x := a) h
    have h2 := x_eq (x := b) h
    by_cases c : a / s < b / s
    · exact c
    · have := mul_le h (a := b / s) (b := a / s) (by grind)
      grind
  have : (cntQ w.g (a / s) : Rat) ≤ (cntQ w.g (b / s) : Rat) := by exact_mod_cast cnt_mono w kq
  have := mul_le h this
  grind
end Fx.K85

end

section
set_option Elab.async false
set_option linter.all false
set_option maxRecDepth 100000
set_option maxHeartbeats 2000000
/-! One number's rounding is right. -/
namespace Fx.K85
open PySem L2 Fx
theorem st_half (w : Wy) : Txt.startswith w.s "half" = w.half := by cases w <;> decide +kernel
theorem in_away (w : Wy) : (([D.str "up", .str "down", .str "half up", .str "half down"] : List D).any fun y => eqD y (.str w.s)) = w.away := by cases w <;> decide +kernel
theorem get_turn (w : Wy) : prim .get2 [.dic [(.inr "high", .str "low"), (.inr "low", .str "high")], .str w.s, .str w.s] = some (.str w.turn.s) := by
  cases w <;> rfl
/-- what the frame gives besides the defs -/
structure Pw85 (Γ : Pg) : Prop where
  gd : ∀ w : Wy, Γ.gd "RULES" (.str w.s) = some (.fn w.f)
  clo : ∀ (w : Wy) (c : Int) (p : Rat), RB 3000 p → Γ.clo w.s [.int c, numD p] (.bl (w.g c p))
  ext : ∀ w : Wy, Γ.ext (.L 4) [.str w.s] (.clo w.s)
section
variable {Γ : Pg} (R : Pr85 Γ) (Y : Pw85 Γ) {n : Nat} {σ : Sg} {G G1 G2 G3 : Gs} {a b c : CE} {p q x s : Rat} {w : Wy}
include R
theorem t_below (h1 : Ev Γ (n + 4) (.j (.E a σ G (.ok (.d (numD p))) G1))) (h2 : Ev Γ (n + 4) (.j (.E b σ G1 (.ok (.d (numD q))) G2))) (hp : RB 3000 p) (hq : RB 3000 q) : Ev Γ (n + 4) (.j (.T (.tru (.meth .below a [b])) σ G (decide (p < q)) G2)) :=
  .tru (e_below R h1 h2 hp hq) rfl rfl trivial
theorem t_belowF (k : ¬ p < q) (h1 : Ev Γ (n + 4) (.j (.E a σ G (.ok (.d (numD p))) G1))) (h2 : Ev Γ (n + 4) (.j (.E b σ G1 (.ok (.d (numD q))) G2))) (hp : RB 3000 p) (hq : RB 3000 q) : Ev Γ (n + 4) (.j (.T (.tru (.meth .below a [b])) σ G false G2)) := by
  have := t_below R h1 h2 hp hq
  rw [decide_eq_false k] at this
  exact this
theorem t_belowT (k : p < q) (h1 : Ev Γ (n + 4) (.j (.E a σ G (.ok (.d (numD p))) G1))) (h2 : Ev Γ (n + 4) (.j (.E b σ G1 (.ok (.d (numD q))) G2))) (hp : RB 3000 p) (hq : RB 3000 q) : Ev Γ (n + 4) (.j (.T (.tru (.meth .below a [b])) σ G true G2)) := by
  have := t_below R h1 h2 hp hq
  rw [decide_eq_true k] at this
  exact this
theorem t_eqT (k : p = q) (h1 : Ev Γ (n + 4) (.j (.E a σ G (.ok (.d (numD p))) G1))) (h2 : Ev Γ (n + 4) (.j (.E b σ G1 (.ok (.d (numD q))) G2))) : Ev Γ (n + 4) (.j (.T (.cmp .eq a b) σ G true G2)) := by
  have := t_eq R h1 h2
  rw [decide_eq_true k] at this
  exact this
theorem t_eqF (k : ¬ p = q) (h1 : Ev Γ (n + 4) (.j (.E a σ G (.ok (.d (numD p))) G1))) (h2 : Ev Γ (n + 4) (.j (.E b σ G1 (.ok (.d (numD q))) G2))) : Ev Γ (n + 4) (.j (.T (.cmp .eq a b) σ G false G2)) := by
  have := t_eq R h1 h2
  rw [decide_eq_false k] at this
  exact this
include Y
theorem e_rnd (h1 : Ev Γ (n + 7) (.j (.E a σ G (.ok (.d (numD x))) G1))) (h2 : Ev Γ (n + 7) (.j (.E b σ G1 (.ok (.d (numD s))) G2))) (h3 : Ev Γ (n + 7) (.j (.E c σ G2 (.ok (.d (.str w.s))) G3))) (hx : RB 500 x) (hs : RB 100 s) (h0 : 0 < s) :
    Ev Γ (n + 7) (.j (.E (.callk .rounded [a, b] [c] []) σ G (.ok (.d (numD (rndB w x s)))) G3)) :=
  .callk (.cons h1 (.cons h2 .nil)) h3 rfl (a_round R n w x s hx hs h0 _ (a_count R n w x s hx hs h0 _ (way_str R Y.gd n w)))
theorem e_rndC (h1 : Ev Γ (n + 7) (.j (.E a σ G (.ok (.d (numD x))) G1))) (h2 : Ev Γ (n + 7) (.j (.E b σ G1 (.ok (.d (numD s))) G2))) (h3 : Ev Γ (n + 7) (.j (.E c σ G2 (.ok (.d (.clo w.s))) G3))) (hx : RB 500 x) (hs : RB 100 s) (h0 : 0 < s) :
    Ev Γ (n + 7) (.j (.E (.callk .rounded [a, b] [c] []) σ G (.ok (.d (numD (rndB w x s)))) G3)) :=
  .callk (.cons h1 (.cons h2 .nil)) h3 rfl (a_round R n w x s hx hs h0 _ (a_count R n w x s hx hs h0 _ (way_clo R Y.clo n w)))
theorem rb_rnd (hx : RB 200 x) (hs : RB 60 s) (h0 : 0 < s) : RB 400 (rndB w x s) := (rb_mul hs (rb_int (bd_cnt w.g hx hs h0 (by decide)) (by decide))).mono (by decide)
theorem a_right (n : Nat) (w : Wy) (m : Int) (x s : Rat) (hx : RB 200 x) (hs : RB 60 s) (h0 : 0 < s) (hm : 1 ≤ m ∧ m ≤ 50) :
    Ev Γ (n + 8) (.j (.F (.L 5) [.d (numD x), .d (numD s), .d (.str w.s), .d (.int m)] [] (.ok (.d (.bl true))) [])) := by
  have hr : RB 400 (rndB w x s) := rb_rnd R Y hx hs h0
  have hr3 := hr.mono (show 400 ≤ 3000 by decide)
  have hx3 := hx.mono (show 200 ≤ 3000 by decide)
  have hs3 := hs.mono (show 60 ≤ 3000 by decide)
  have hx5 := hx.mono (show 200 ≤ 500 by decide)
  have hs1 := hs.mono (show 60 ≤ 100 by decide)
  have hlo : RB 3000 (s * (lowB x s : Rat)) := (rb_mul hs (rb_int (bd_low hx hs h0) (by decide))).mono (by decide)
  have hhi : RB 3000 (s * (highB x s : Rat)) := (rb_mul hs (rb_int (bd_high hx hs h0 (by decide)) (by decide))).mono (by decide)
  have hd : RB 700 (x - rndB w x s) := (rb_sub hx hr).mono (by decide)
  have ha : RB 700 (absR (x - rndB w x s)) := by
    unfold absR
    split
    · refine ⟨?_, ?_⟩
      · rw [Rat.neg_num]; exact hd.1.neg
      · rw [Rat.neg_den]; exact hd.2
    · exact hd
  have ha3 := ha.mono (show 700 ≤ 3000 by decide)
  have bm : Bd 6 m := by unfold Bd; omega
  have hi : ∀ {i : Int}, Bd 10 i → RB 10 (i : Rat) := fun h => rb_int h (by decide)
  have b0 : Bd 10 0 := by unfold Bd; decide
  have b2 : Bd 10 2 := by unfold Bd; decide
  have bk : Bd 10 (3 + m % 5) := by unfold Bd; omega
  have bf : Bd 10 (2 * m) := by unfold Bd; omega
  have z0 : ((0 : Int) : Rat) = 0 := rfl
  have hk : (0 : Rat) < ((3 + m % 5 : Int) : Rat) := by
    have : (0 : Int) < 3 + m % 5 := by omega
    exact_mod_cast this
  have hkx : RB 500 (x * ((3 + m % 5 : Int) : Rat)) := (rb_mul hx (hi bk)).mono (by decide)
  have hks : RB 100 (s * ((3 + m % 5 : Int) : Rat)) := (rb_mul hs (hi bk)).mono (by decide)
  have hfar : RB 100 (s * ((2 * m : Int) : Rat)) := (rb_mul hs (hi bf)).mono (by decide)
  have hxf : RB 500 (x + s * ((2 * m : Int) : Rat)) := (rb_add hx hfar).mono (by decide)
  have hnx : RB 500 (((0 : Int) : Rat) - x) := (rb_sub (hi b0) hx).mono (by decide)
  have c2 : CMulX 2 m := b2.okM bm (by decide)
  refine .fnR R.one_right rfl (.bC (.asg (e_rnd R Y (n := n) (w := w) (.var rfl) (.var rfl) (.var rfl) hx5 hs1 h0) rfl) ?_)
  refine .bC (.asg (.callP (R.bd _ (by simp)) (.cons (.var rfl) (.cons (.var rfl) .nil)) rfl (up (a_neigh R n x s hx5 hs1 h0) 1)) rfl) ?_
  refine .bC (.iteF (.torF (t_belowF R (n := n + 3) (m_low h0) (.var rfl) (.var rfl) hr3 hlo) (.torF (t_belowF R (n := n + 3) (m_high h0) (.var rfl) (.var rfl) hhi hr3) (.tnt (b := true) (t_belowT R (n := n + 3) (m_near (w := w) h0) (e_size R (n := n + 3) (e_less R (n := n + 3) (.var rfl) (.var rfl) hx3 hr3) (hd.mono (by decide))) (.var rfl) ha3 hs3)))) .bN) ?_
  refine .bC (G1 := []) (.iteF (G1 := []) ?_ .bN) ?_
  · cases hh : w.half with
    | false => exact .tandF (.tru (d := .bl false) (.primM (ds := [.str w.s, .str "half"]) (.var rfl) rfl rfl (.cons .con .nil) rfl (by show some (D.bl _) = _; rw [st_half, hh]) trivial) rfl rfl trivial)
    | true =>
      refine .tandT (.tru (d := .bl true) (.primM (ds := [.str w.s, .str "half"]) (.var rfl) rfl rfl (.cons .con .nil) rfl (by show some (D.bl _) = _; rw [st_half, hh]) trivial) rfl rfl trivial) ?_
      exact t_belowF R (n := n + 3) (m_half (w := w) h0 hh) (.var rfl) (e_times R (n := n + 3) (e_size R (n := n + 3) (e_less R (n := n + 3) (.var rfl) (.var rfl) hx3 hr3) (hd.mono (by decide))) (e_new1 R (n := n + 4) .con) ha3 ((hi b2).mono (by decide))) hs3 ((rb_mul ha (hi b2)).mono (by decide))
  refine .bC (.iteF (.tnt (b := true) (t_eqT R (n := n + 3) rfl (e_rndC R Y (n := n) (w := w) (.var rfl) (.var rfl) (.callP (R.bd _ (by simp)) (.cons (.var rfl) .nil) rfl (up (n := 4) (.ext (n := 0) (Y.ext w)) (n + 3) |> fun h => by rw [show 4 + (n + 3) = n + 7 by omega] at h; exact h)) hx5 hs1 h0) (.var rfl))) .bN) ?_
  refine .bC (.asg (w := .d (.str w.turn.s)) (.primM (d0 := .dic [(.inr "high", .str "low"), (.inr "low", .str "high")]) (ds := [.dic [(.inr "high", .str "low"), (.inr "low", .str "high")], .str w.s, .str w.s]) (.ofNd (.dsp (.dpC .con rfl .con (.dpC .con rfl .con .dpN)) (by decide) (by decide)) rfl) rfl rfl (.cons (.var rfl) (.cons (.var rfl) .nil)) rfl (get_turn w) rfl) rfl) ?_
  refine .bC (.iteF (.tnt (b := true) (t_eqT R (n := n + 3) (m_turn (w := w) h0) (e_rnd R Y (n := n) (w := w.turn) (e_less R (n := n + 3) (e_new1 R (n := n + 4) .con) (.var rfl) ((hi b0).mono (by decide)) hx3) (.var rfl) (.var rfl) hnx hs1 h0) (e_less R (n := n + 3) (e_new1 R (n := n + 4) .con) (.var rfl) ((hi b0).mono (by decide)) hr3))) .bN) ?_
  refine .bC (.asg (e_new1 R (n := n + 4) (t := 3 + m % 5) (.bin .con (.bin (.var rfl) .con rfl rfl rfl (by show (0 : Int) < 5; decide)) rfl rfl rfl trivial)) rfl) ?_
  refine .bC (.iteF (.tnt (b := true) (t_eqT R (n := n + 3) (m_scale (w := w) h0 hk) (e_rnd R Y (n := n) (w := w) (e_times R (n := n + 3) (.var rfl) (.var rfl) hx3 ((hi bk).mono (by decide))) (e_times R (n := n + 3) (.var rfl) (.var rfl) hs3 ((hi bk).mono (by decide))) (.var rfl) hkx hks (Rat.mul_pos h0 hk)) (e_times R (n := n + 3) (.var rfl) (.var rfl) hr3 ((hi bk).mono (by decide))))) .bN) ?_
  refine .bC (.asg (e_times R (n := n + 3) (.var rfl) (e_new1 R (n := n + 4) (t := 2 * m) (.bin .con (.var rfl) rfl rfl rfl c2)) hs3 ((hi bf).mono (by decide))) rfl) ?_
  have fin : (w.away = true → ¬ x < 0) → Ev Γ (n + 7) (.j (.B [.ret (.bin .eq (.callk .rounded [.meth .more (.var 0) [.var 9], .var 1] [.var 2] []) (.meth .more (.var 4) [.var 9]))] [some (.d (numD x)), some (.d (numD s)), some (.d (.str w.s)), some (.d (.int m)), some (.d (numD (rndB w x s))), some (.d (numD (s * (lowB x s : Rat)))), some (.d (numD (s * (highB x s : Rat)))), some (.d (.str w.turn.s)), some (.d (numD ((3 + m % 5 : Int) : Rat))), some (.d (numD (s * ((2 * m : Int) : Rat))))] [] (.ret (.d (.bl true))) [])) := fun hc => by
    have e := e_eq R (n := n + 3) (σ := [some (.d (numD x)), some (.d (numD s)), some (.d (.str w.s)), some (.d (.int m)), some (.d (numD (rndB w x s))), some (.d (numD (s * (lowB x s : Rat)))), some (.d (numD (s * (highB x s : Rat)))), some (.d (.str w.turn.s)), some (.d (numD ((3 + m % 5 : Int) : Rat))), some (.d (numD (s * ((2 * m : Int) : Rat))))]) (G := []) (e_rnd R Y (n := n) (w := w) (a := .meth .more (.var 0) [.var 9]) (b := .var 1) (c := .var 2) (e_more R (n := n + 3) (.var rfl) (.var rfl) hx3 (hfar.mono (by decide))) (.var rfl) (.var rfl) hxf hs1 h0) (e_more R (n := n + 3) (a := .var 4) (b := .var 9) (.var rfl) (.var rfl) hr3 (hfar.mono (by decide)))
    rw [decide_eq_true (m_far (w := w) h0 m (by omega) hc)] at e
    exact .bX (.ret e) noRet
  cases ha' : w.away with
  | false =>
    refine .bC (.iteF (.tandF (.cmp (.var rfl) (.tup (.cons .con (.cons .con (.cons .con (.cons .con .nil)))) rfl (by simp [sizeLine_eq])) rfl rfl (by show some (D.bl _) = _; rw [in_away, ha']) ⟨rfl, rfl⟩)) .bN) ?_
    exact fin fun z => by rw [ha'] at z; cases z
  | true =>
    have t1 : ∀ σ : Sg, σ[2]? = some (some (.d (.str w.s))) → Ev Γ (n + 7) (.j (.T (.cmp .in_ (.var 2) (.tup [.con (.str "up"), .con (.str "down"), .con (.str "half up"), .con (.str "half down")])) σ [] true [])) := fun σ h =>
      .cmp (.var h) (.tup (.cons .con (.cons .con (.cons .con (.cons .con .nil)))) rfl (by simp [sizeLine_eq])) rfl rfl (by show some (D.bl _) = _; rw [in_away, ha']) ⟨rfl, rfl⟩
    by_cases hneg : x < 0
    · exact .bX (.iteT (.tandT (t1 _ rfl) (t_belowT R (n := n + 3) (q := ((0 : Int) : Rat)) (by rw [z0]; exact hneg) (.var rfl) (e_new1 R (n := n + 4) .con) hx3 ((hi b0).mono (by decide)))) (.bX (.ret .con) noRet)) noRet
    · refine .bC (.iteF (.tandT (t1 _ rfl) (t_belowF R (n := n + 3) (q := ((0 : Int) : Rat)) (by rw [z0]; exact hneg) (.var rfl) (e_new1 R (n := n + 4) .con) hx3 ((hi b0).mono (by decide)))) .bN) ?_
      exact fin fun _ => hneg
end
end Fx.K85

end

section
set_option Elab.async false
set_option linter.all false
set_option maxRecDepth 100000
set_option maxHeartbeats 2000000
/-! The deck of the cells, what is drawn of it. -/
namespace Fx.K85
open PySem L2 Fx
abbrev iS (i : Int) : Sv := .d (.int i)
/-- the deck in the store -/
def dk (cs : List Int) (seed k : Int) (rest : Gs) : Gs := .lst (cs.map iS) :: .lst [.r 0, iS seed, iS k] :: rest
theorem ofSvs_ints (cs : List Int) : ofSvs (cs.map iS) = some (cs.map .int) := by
  have : cs.map iS = (cs.map D.int).map Sv.d := by rw [List.map_map]; rfl
  rw [this]
  induction cs with
  | nil => rfl
  | cons c cs ih =>
    show (ofSvs (((cs.map D.int)).map Sv.d)).map (D.int c :: ·) = _
    rw [ih (by rw [List.map_map]; rfl)]; rfl
theorem plain_ints (n : Nat) : ∀ cs : List Int, plainDs n (cs.map .int) = true
  | [] => rfl
  | c :: cs => by
    show (true && plainDs n (cs.map .int)) = true
    rw [plain_ints n cs]; rfl
theorem at_mem {l : List D} {v : Int} (h0 : 0 ≤ v) (h1 : v < l.length) : ∃ d ∈ l, L2.atI l v = some d := by
  have hn : v.toNat < l.length := by omega
  refine ⟨l[v.toNat], List.getElem_mem hn, ?_⟩
  unfold L2.atI ixN
  rw [if_pos h0, if_pos h1]
  exact List.getElem?_eq_getElem hn
def mixA (c k : Int) : Int := (c % 2147483629 + 104729 * k + 41) * 48271 % 2147483647
def mixB (a k : Int) : Int := (a * a + 69621 * k + 3) % 2147483587
def mixC (b w : Int) : Int := b * (b / 7 + 39373) % 2147483563 / 64 % w
section
variable {Γ : Pg} (R : Pr85 Γ)
include R
theorem draw_tail (n : Nat) (cs : List Int) (seed k w c : Int) (rest : Gs) (hk : Bd 40 k) (hw : 0 < w) :
    Ev Γ n (.j (.B [.asg (.nm 3) (.bin .mod (.bin .mul (.bin .add (.bin .add (.bin .mod (.var 2) (.con (.int 2147483629))) (.bin .mul (.con (.int 104729)) (.sub (.var 0) (.con (.int 2))))) (.con (.int 41))) (.con (.int 48271))) (.con (.int 2147483647))),
      .asg (.nm 3) (.bin .mod (.bin .add (.bin .add (.bin .mul (.var 3) (.var 3)) (.bin .mul (.con (.int 69621)) (.sub (.var 0) (.con (.int 2))))) (.con (.int 3))) (.con (.int 2147483587))),
      .ret (.bin .mod (.bin .fdiv (.bin .mod (.bin .mul (.var 3) (.bin .add (.bin .fdiv (.var 3) (.con (.int 7))) (.con (.int 39373)))) (.con (.int 2147483563))) (.con (.int 64))) (.var 1))]
      [some (.r 1), some (iS w), some (iS c), none] (dk cs seed k rest) (.ret (iS (mixC (mixB (mixA c k) k) w))) (dk cs seed k rest))) := by
  have b1 : Bd 20 104729 := by unfold Bd; decide
  have b2 : Bd 20 69621 := by unfold Bd; decide
  have b3 : Bd 20 48271 := by unfold Bd; decide
  have c0 : Bd 63 (c % 2147483629) := by
    have := Int.emod_nonneg c (b := 2147483629) (by decide)
    have := Int.emod_lt_of_pos c (b := 2147483629) (by decide)
    unfold Bd; omega
  have m1 := b1.mul hk
  have c1 : Bd 80 (c % 2147483629 + 104729 * k + 41) := ((c0.add (m1.mono (by decide))).add (Bd.mono (a := 6) (b := 64) (by unfold Bd; decide) (by decide))).mono (by decide)
  have a0 : 0 ≤ mixA c k ∧ mixA c k < 2147483647 := ⟨Int.emod_nonneg _ (by decide), Int.emod_lt_of_pos _ (by decide)⟩
  have a1 : Bd 40 (mixA c k) := by unfold Bd; omega
  have e0 : 0 ≤ mixB (mixA c k) k ∧ mixB (mixA c k) k < 2147483587 := ⟨Int.emod_nonneg _ (by decide), Int.emod_lt_of_pos _ (by decide)⟩
  have e1 : Bd 40 (mixB (mixA c k) k) := by unfold Bd; omega
  have e2 : Bd 41 (mixB (mixA c k) k / 7 + 39373) := by unfold Bd; omega
  have d7 : Bd 20 (7 : Int) := by unfold Bd; decide
  have d64 : Bd 20 (64 : Int) := by unfold Bd; decide
  refine .bC (.asg (w := iS (mixA c k)) (.bin (.bin (.bin (.bin (.bin (.var rfl) .con rfl rfl rfl (by show (0 : Int) < 2147483629; decide)) (.bin .con (.sub (.var rfl) .con rfl rfl (by intro d h; cases h)) rfl rfl rfl (b1.okM hk (by decide))) rfl rfl rfl trivial) .con rfl rfl rfl trivial) .con rfl rfl rfl (c1.okM b3 (by decide))) .con rfl rfl rfl (by show (0 : Int) < 2147483647; decide)) rfl) ?_
  refine .bC (.asg (w := iS (mixB (mixA c k) k)) (.bin (.bin (.bin (.bin (.var rfl) (.var rfl) rfl rfl rfl (a1.okM a1 (by decide))) (.bin .con (.sub (.var rfl) .con rfl rfl (by intro d h; cases h)) rfl rfl rfl (b2.okM hk (by decide))) rfl rfl rfl trivial) .con rfl rfl rfl trivial) .con rfl rfl rfl (by show (0 : Int) < 2147483587; decide)) rfl) ?_
  exact .bX (.ret (.bin (.bin (.bin (.bin (.var rfl) (.bin (.bin (.var rfl) .con rfl rfl rfl (Bd.okD 0 d7 (by decide) (by decide))) .con rfl rfl rfl trivial) rfl rfl rfl (e1.okM e2 (by decide))) .con rfl rfl rfl (by show (0 : Int) < 2147483563; decide)) .con rfl rfl rfl (Bd.okD 0 d64 (by decide) (by decide))) (.var rfl) rfl rfl rfl hw)) noRet
theorem a_draw (n : Nat) (cs : List Int) (seed k w : Int) (rest : Gs) (hk : Bd 39 k) (hw : 0 < w) (bw : Bd 60 w) (hl : cs.length ≤ 1000) :
    ∃ cs' v, cs'.length ≤ cs.length ∧ 0 ≤ v ∧ v < w ∧ Ev Γ (n + 1) (.j (.F (.L 1) [.r 1, iS w] (dk cs seed k rest) (.ok (iS v)) (dk cs' seed (k + 1) rest))) := by
  have hk1 : Bd 40 (k + 1) := hk.add (bd1 (by decide))
  have key : ∀ (c : Int), 0 ≤ mixC (mixB (mixA c (k + 1)) (k + 1)) w ∧ mixC (mixB (mixA c (k + 1)) (k + 1)) w < w := fun c => ⟨Int.emod_nonneg _ (by omega), Int.emod_lt_of_pos _ hw⟩
  have s1 : Ev Γ n (.j (.S (.setx (.var 0) (.con (.int 2)) (.bin .add (.sub (.var 0) (.con (.int 2))) (.con (.int 1)))) [some (.r 1), some (iS w), none, none] (dk cs seed k rest) (.nxt [some (.r 1), some (iS w), none, none]) (dk cs seed (k + 1) rest))) :=
    .setx (k := 1) (G3 := dk cs seed k rest) (l := [.r 0, iS seed, iS k]) (j := 2) (w := iS (k + 1)) (.bin (.sub (.var rfl) .con rfl rfl (by intro d h; cases h)) .con rfl rfl rfl trivial) (.var rfl) .con rfl rfl
  have s2 : Ev Γ n (.j (.S (.asg (.nm 2) (.sub (.var 0) (.con (.int 1)))) [some (.r 1), some (iS w), none, none] (dk cs seed (k + 1) rest) (.nxt [some (.r 1), some (iS w), some (iS seed), none]) (dk cs seed (k + 1) rest))) :=
    .asg (.sub (.var rfl) .con rfl rfl (by intro d h; cases h)) rfl
  rcases List.eq_nil_or_concat cs with rfl | ⟨cs0, c, rfl⟩
  · refine ⟨[], _, Nat.le_refl _, (key seed).1, (key seed).2, .fnR R.draw rfl (.bC s1 (.bC s2 (.bC (.iteF ?_ .bN) (draw_tail R n [] seed (k + 1) w seed rest hk1 hw))))⟩
    exact .cmp (.sub (.var rfl) .con rfl rfl (by intro d h; cases h)) (.ofN (.lst .nil (by decide)) rfl) rfl rfl rfl (.inr ⟨rfl, rfl⟩)
  · rw [List.concat_eq_append] at *
    have hv : view (dk (cs0 ++ [c]) seed (k + 1) rest) (.r 0) = some (.lst ((cs0 ++ [c]).map .int)) := by
      show (ofSvs ((cs0 ++ [c]).map iS)).map D.lst = _
      rw [ofSvs_ints]; rfl
    have ht : Ev Γ n (.j (.T (.cmp .ne (.sub (.var 0) (.con (.int 0))) (.lst [])) [some (.r 1), some (iS w), some (iS seed), none] (dk (cs0 ++ [c]) seed (k + 1) rest) true (dk (cs0 ++ [c]) seed (k + 1) rest))) := by
      refine .cmp (.sub (.var rfl) .con rfl rfl (by intro d h; cases h)) (.ofN (.lst .nil (by decide)) rfl) hv rfl ?_ (.inr ⟨plain_ints 59 _, rfl⟩)
      cases cs0 <;> rfl
    have hp : Ev Γ n (.j (.S (.asg (.nm 2) (.mm .pop (.sub (.var 0) (.con (.int 0))) [])) [some (.r 1), some (iS w), some (iS seed), none] (dk (cs0 ++ [c]) seed (k + 1) rest) (.nxt [some (.r 1), some (iS w), some (iS c), none]) (dk cs0 seed (k + 1) rest))) := by
      have e : dk cs0 seed (k + 1) rest = (dk (cs0 ++ [c]) seed (k + 1) rest).set 0 (.lst ((cs0 ++ [c]).map iS).dropLast) := by
        unfold dk
        simp
      rw [e]
      refine .asg (.mmP (.sub (.var rfl) .con rfl rfl (by intro d h; cases h)) (l := (cs0 ++ [c]).map iS) rfl ?_) rfl
      simp
    by_cases hc : (10 : Int) ^ 18 ≤ c
    · refine ⟨cs0 ++ [c / w], c % w, by simp, Int.emod_nonneg _ (by omega), Int.emod_lt_of_pos _ hw, .fnR R.draw rfl (.bC s1 (.bC s2 (.bX (.iteT ht (.bC hp (.bX (.iteT (.cmp (.var rfl) (.bin .con .con rfl rfl rfl ⟨by decide, by decide, by decide⟩) rfl rfl (eqT hc) trivial) ?_) noRet))) noRet)))⟩
      have e : dk (cs0 ++ [c / w]) seed (k + 1) rest = (dk cs0 seed (k + 1) rest).set 0 (.lst (cs0.map iS ++ [iS (c / w)])) := by
        unfold dk
        simp
      rw [e]
      refine .bC (.exp (.mmA (l := cs0.map iS) (l0 := cs0.map iS) (.sub (.var rfl) .con rfl rfl (by intro d h; cases h)) rfl (.bin (.var rfl) (.var rfl) rfl rfl rfl (Bd.okD 0 bw (by decide) hw)) rfl ?_)) (.bX (.ret (.bin (.var rfl) (.var rfl) rfl rfl rfl hw)) noRet)
      have hz : sizeLine = 16777216 := sizeLine_eq
      simp at hl ⊢
      omega
    · refine ⟨cs0, _, by simp, (key c).1, (key c).2, .fnR R.draw rfl (.bC s1 (.bC s2 (.bC (.iteT ht (.bC hp (.bC (.iteF (.cmp (.var rfl) (.bin .con .con rfl rfl rfl ⟨by decide, by decide, by decide⟩) rfl rfl (eqF hc) trivial) .bN) .bN))) (draw_tail R n cs0 seed (k + 1) w c rest hk1 hw))))⟩
end
end Fx.K85

end

section
set_option Elab.async false
set_option linter.all false
set_option maxRecDepth 100000
set_option maxHeartbeats 2000000
/-! The order of the rounded ones. -/
namespace Fx.K85
open PySem L2 Fx
/-- how many lie below -/
def cntL (xs : List Rat) (x : Rat) : Nat := (xs.filter fun y => decide (y < x)).length
theorem cntL_le {xs : List Rat} {a b : Rat} (h : a ≤ b) : cntL xs a ≤ cntL xs b := by
  unfold cntL
  induction xs with
  | nil => exact Nat.le_refl _
  | cons y ys ih =>
    by_cases c : y < a
    · have d : y < b := by grind
      rw [List.filter_cons_of_pos (by simpa using c), List.filter_cons_of_pos (by simpa using d)]
      simpa using ih
    · rw [List.filter_cons_of_neg (by simpa using c)]
      by_cases d : y < b
      · rw [List.filter_cons_of_pos (by simpa using d), List.length_cons]; omega
      · rw [List.filter_cons_of_neg (by simpa using d)]; exact ih
theorem cntL_lt {xs : List Rat} {a b : Rat} (h : a < b) (m : a ∈ xs) : cntL xs a < cntL xs b := by
  induction xs with
  | nil => cases m
  | cons y ys ih =>
    have key := cntL_le (xs := ys) (a := a) (b := b) (by grind)
    unfold cntL at *
    by_cases c : y < a
    · have d : y < b := by grind
      have hm : a ∈ ys := by
        rcases List.mem_cons.mp m with z | z
        · rw [z] at c; grind
        · exact z
      rw [List.filter_cons_of_pos (by simpa using c), List.filter_cons_of_pos (by simpa using d)]
      simpa using ih hm
    · rw [List.filter_cons_of_neg (by simpa using c)]
      by_cases d : y < b
      · rw [List.filter_cons_of_pos (by simpa using d), List.length_cons]; omega
      · rw [List.filter_cons_of_neg (by simpa using d)]
        have hm : a ∈ ys := by
          rcases List.mem_cons.mp m with z | z
          · rw [← z] at d; exact absurd h d
          · exact z
        exact ih hm
theorem ord_lt {xs : List Rat} {a b : Rat} (h : cntL xs a < cntL xs b) : a < b := by
  by_cases c : a < b
  · exact c
  · have := cntL_le (xs := xs) (a := b) (b := a) (by grind)
    omega
theorem ord_eq {xs : List Rat} {a b : Rat} (ha : a ∈ xs) (hb : b ∈ xs) (h : cntL xs a = cntL xs b) : a = b := by
  by_cases c : a < b
  · have := cntL_lt c ha; omega
  · by_cases d : b < a
    · have := cntL_lt d hb; omega
    · grind
/-- a row -/
def rowD (xs : List Rat) (x : Rat) : D := .tup [.int (cntL xs x), numD x]
section
variable {Γ : Pg} (R : Pr85 Γ) (Y : Pw85 Γ)
include R
theorem c_below (n : Nat) (x : Rat) (hx : RB 3000 x) (σ : Sg) (G : Gs) (h4 : σ[4]? = some (some (.d (numD x)))) (h6 : 6 < σ.length) : ∀ ys : List Rat, (∀ y ∈ ys, RB 3000 y) → Ev Γ (n + 4) (.j (.C (.var 6) (.nm 6) [.tru (.meth .below (.var 6) [.var 4])] [6] (ys.map numD) σ G ((ys.filter fun y => decide (y < x)).map fun y => .d (numD y)) G))
  | [], _ => .cN
  | y :: ys, hy => by
    have ih := c_below n x hx σ G h4 h6 ys fun z hz => hy z (List.mem_cons_of_mem _ hz)
    have e6 : (σ.set 6 (some (.d (numD y))))[6]? = some (some (.d (numD y))) := by rw [List.getElem?_set_self h6]
    have e4 : (σ.set 6 (some (.d (numD y))))[4]? = some (some (.d (numD x))) := by rw [List.getElem?_set_ne (by decide)]; exact h4
    have tb := t_below R (n := n) (σ := σ.set 6 (some (.d (numD y)))) (G := G) (a := .var 6) (b := .var 4) (.var e6) (.var e4) (hy y (by simp)) hx
    by_cases c : y < x
    · rw [decide_eq_true c] at tb
      rw [List.filter_cons_of_pos (by simpa using c)]
      exact .cT rfl (.tsO tb) (.var e6) ih
    · rw [decide_eq_false c] at tb
      rw [List.filter_cons_of_neg (by simpa using c)]
      exact .cF rfl (.tsO tb) ih
theorem ofSvs_d (ds : List D) : ofSvs (ds.map .d) = some ds := by
  induction ds with
  | nil => rfl
  | cons d ds ih =>
    show (ofSvs (ds.map .d)).map (d :: ·) = _
    rw [ih]; rfl
theorem r_rows (n : Nat) (xs : List Rat) (hxs : ∀ x ∈ xs, RB 200 x) (hlen : xs.length ≤ 1000) (a1 a2 : Option Sv) : ∀ (ys : List Rat) (acc : List Rat) (o4 o5 : Option Sv), (∀ y ∈ ys, y ∈ xs) → acc.length + ys.length ≤ 1000 → ∃ o4' o5', Ev Γ (n + 4) (.j (.R (.nm 4) [.asg (.nm 5) (.prim .len [.lc (.var 6) (.nm 6) (.seq (.var 0)) [.tru (.meth .below (.var 6) [.var 4])] [6]]), .exp (.mm .append (.var 3) [.tup [.var 5, .var 4]])]
      (ys.map numD) [some (.d (.lst (xs.map numD))), a1, a2, some (.r 0), o4, o5, none, none, none, none] [.lst (acc.map fun x => .d (rowD xs x))] (.nxt [some (.d (.lst (xs.map numD))), a1, a2, some (.r 0), o4', o5', none, none, none, none]) [.lst ((acc ++ ys).map fun x => .d (rowD xs x))]))
  | [], acc, o4, o5, _, _ => ⟨o4, o5, by rw [List.append_nil]; exact .rN⟩
  | y :: ys, acc, o4, o5, hy, hl => by
    obtain ⟨o4', o5', ih⟩ := r_rows n xs hxs hlen a1 a2 ys (acc ++ [y]) (some (.d (numD y))) (some (iS (cntL xs y))) (fun z hz => hy z (List.mem_cons_of_mem _ hz)) (by simp at hl ⊢; omega)
    refine ⟨o4', o5', ?_⟩
    have hy3 := (hxs y (hy y (by simp))).mono (show 200 ≤ 3000 by decide)
    have hc := c_below R n y hy3 [some (.d (.lst (xs.map numD))), a1, a2, some (.r 0), some (.d (numD y)), o5, none, none, none, none] [.lst (acc.map fun x => .d (rowD xs x))] rfl (by simp) xs fun z hz => (hxs z hz).mono (by decide)
    have hN : Ev Γ (n + 4) (.j (.E (.lc (.var 6) (.nm 6) (.seq (.var 0)) [.tru (.meth .below (.var 6) [.var 4])] [6]) [some (.d (.lst (xs.map numD))), a1, a2, some (.r 0), some (.d (numD y)), o5, none, none, none, none] [.lst (acc.map fun x => .d (rowD xs x))] (.ok (.d (.lst ((xs.filter fun z => decide (z < y)).map numD)))) [.lst (acc.map fun x => .d (rowD xs x))])) :=
      .ofN (.lc (.iseq (.var rfl) rfl) hc (by simp; omega)) (by
        have : ((xs.filter fun z => decide (z < y)).map fun z => Sv.d (numD z)) = ((xs.filter fun z => decide (z < y)).map numD).map .d := by rw [List.map_map]; rfl
        rw [this]; exact ofSvs_d R _)
    rw [show acc ++ y :: ys = (acc ++ [y]) ++ ys by simp]
    refine .rT (σ2 := [some (.d (.lst (xs.map numD))), a1, a2, some (.r 0), some (.d (numD y)), some (iS (cntL xs y)), none, none, none, none]) (G1 := [.lst ((acc ++ [y]).map fun x => .d (rowD xs x))]) rfl (.bC (.asg (w := iS (cntL xs y)) (.prim (ds := [.lst ((xs.filter fun z => decide (z < y)).map numD)]) (.cons hN .nil) rfl (by show some (D.int _) = _; simp [cntL]) trivial (by intro t h; cases h)) rfl) (.bC ?_ .bN)) ih
    have e : [MO.lst ((acc ++ [y]).map fun x => .d (rowD xs x))] = [MO.lst (acc.map fun x => .d (rowD xs x))].set 0 (.lst ((acc.map fun x => .d (rowD xs x)) ++ [.d (rowD xs y)])) := by simp
    rw [e]
    refine .exp (.mmA (l := acc.map fun x => .d (rowD xs x)) (l0 := acc.map fun x => .d (rowD xs x)) (.var rfl) rfl (.tup (ws := [iS (cntL xs y), .d (numD y)]) (.cons (.var rfl) (.cons (.var rfl) .nil)) rfl (by simp [sizeLine_eq])) rfl ?_)
    have hz : sizeLine = 16777216 := sizeLine_eq
    simp at hl ⊢
    omega
include Y
theorem r_inner (n : Nat) (w : Wy) (xs : List Rat) (hxs : ∀ x ∈ xs, RB 200 x) (s : Rat) (hs : RB 60 s) (h0 : 0 < s) (x : Rat) (hx : x ∈ xs) (a0 a3 : Option Sv) (G : Gs) : ∀ (ys : List Rat) (o6 o7 o8 o9 : Option Sv), (∀ y ∈ ys, y ∈ xs) → ∃ o6' o7' o8' o9', Ev Γ (n + 7) (.j (.R (.tup [.nm 7, .nm 6]) [.par [8, 9] [.callk .rounded [.var 4, .var 1] [.var 2] [], .callk .rounded [.var 6, .var 1] [.var 2] []], .ite (.or (.and (.cmp .lt (.var 5) (.var 7)) (.tru (.meth .below (.var 9) [.var 8]))) (.and (.cmp .eq (.var 5) (.var 7)) (.nt (.cmp .eq (.var 8) (.var 9))))) [.ret (.con (.bl false))] []]
      (ys.map (rowD xs)) [a0, some (.d (numD s)), some (.d (.str w.s)), a3, some (.d (numD x)), some (iS (cntL xs x)), o6, o7, o8, o9] G (.nxt [a0, some (.d (numD s)), some (.d (.str w.s)), a3, some (.d (numD x)), some (iS (cntL xs x)), o6', o7', o8', o9']) G))
  | [], o6, o7, o8, o9, _ => ⟨o6, o7, o8, o9, .rN⟩
  | y :: ys, o6, o7, o8, o9, hy => by
    obtain ⟨p6, p7, p8, p9, ih⟩ := r_inner n w xs hxs s hs h0 x hx a0 a3 G ys (some (.d (numD y))) (some (iS (cntL xs y))) (some (.d (numD (rndB w x s)))) (some (.d (numD (rndB w y s)))) fun z hz => hy z (List.mem_cons_of_mem _ hz)
    refine ⟨p6, p7, p8, p9, ?_⟩
    have hym := hy y (by simp)
    have hx2 := hxs x hx
    have hy2 := hxs y hym
    have rx := (rb_rnd R Y (w := w) hx2 hs h0).mono (show 400 ≤ 3000 by decide)
    have ry := (rb_rnd R Y (w := w) hy2 hs h0).mono (show 400 ≤ 3000 by decide)
    refine .rT (σ2 := [a0, some (.d (numD s)), some (.d (.str w.s)), a3, some (.d (numD x)), some (iS (cntL xs x)), some (.d (numD y)), some (iS (cntL xs y)), some (.d (numD (rndB w x s))), some (.d (numD (rndB w y s)))]) (G1 := G) rfl (.bC (.par (ws := [.d (numD (rndB w x s)), .d (numD (rndB w y s))]) (.cons (e_rnd R Y (n := n) (w := w) (.var rfl) (.var rfl) (.var rfl) (hx2.mono (by decide)) (hs.mono (by decide)) h0) (.cons (e_rnd R Y (n := n) (w := w) (.var rfl) (.var rfl) (.var rfl) (hy2.mono (by decide)) (hs.mono (by decide)) h0) .nil)) rfl) (.bC (.iteF (.torF (G1 := G) ?_ ?_) .bN) .bN)) ih
    · by_cases c : cntL xs x < cntL xs y
      · exact .tandT (.cmp (.var rfl) (.var rfl) rfl rfl (eqT (by omega)) trivial) (t_belowF R (n := n + 3) (m_mono w h0 (ord_lt c)) (.var rfl) (.var rfl) ry rx)
      · exact .tandF (.cmp (.var rfl) (.var rfl) rfl rfl (eqF (by omega)) trivial)
    · by_cases c : cntL xs x = cntL xs y
      · have e := ord_eq hx hym c
        refine .tandT (.cmp (.var rfl) (.var rfl) rfl rfl (by show some (D.bl ((cntL xs x : Int) == (cntL xs y : Int))) = _; rw [c, beq_self_eq_true]) (.inl rfl)) (.tnt (b := true) (t_eqT R (n := n + 3) (p := rndB w x s) (q := rndB w y s) (by rw [e]) (.var rfl) (.var rfl)))
      · exact .tandF (.cmp (.var rfl) (.var rfl) rfl rfl (by show some (D.bl ((cntL xs x : Int) == (cntL xs y : Int))) = _; rw [beq_false_of_ne (by omega)]) (.inl rfl))
theorem r_outer (n : Nat) (w : Wy) (xs : List Rat) (hxs : ∀ x ∈ xs, RB 200 x) (s : Rat) (hs : RB 60 s) (h0 : 0 < s) (a0 : Option Sv) (G : Gs) : ∀ (ys : List Rat) (o4 o5 o6 o7 o8 o9 : Option Sv), (∀ y ∈ ys, y ∈ xs) → ∃ σ', Ev Γ (n + 7) (.j (.R (.tup [.nm 5, .nm 4]) [.for_ (.tup [.nm 7, .nm 6]) (.seq (.var 3)) [.par [8, 9] [.callk .rounded [.var 4, .var 1] [.var 2] [], .callk .rounded [.var 6, .var 1] [.var 2] []], .ite (.or (.and (.cmp .lt (.var 5) (.var 7)) (.tru (.meth .below (.var 9) [.var 8]))) (.and (.cmp .eq (.var 5) (.var 7)) (.nt (.cmp .eq (.var 8) (.var 9))))) [.ret (.con (.bl false))] []]]
      (ys.map (rowD xs)) [a0, some (.d (numD s)), some (.d (.str w.s)), some (.d (.lst (xs.map (rowD xs)))), o4, o5, o6, o7, o8, o9] G (.nxt σ') G))
  | [], _, _, _, _, _, _, _ => ⟨_, .rN⟩
  | y :: ys, o4, o5, o6, o7, o8, o9, hy => by
    obtain ⟨p6, p7, p8, p9, h1⟩ := r_inner R Y n w xs hxs s hs h0 y (hy y (by simp)) a0 (some (.d (.lst (xs.map (rowD xs))))) G xs o6 o7 o8 o9 fun _ h => h
    obtain ⟨σ', ih⟩ := r_outer n w xs hxs s hs h0 a0 G ys (some (.d (numD y))) (some (iS (cntL xs y))) p6 p7 p8 p9 fun z hz => hy z (List.mem_cons_of_mem _ hz)
    exact ⟨σ', .rT rfl (.bC (.for_ (.iseq (.var rfl) rfl) h1) .bN) ih⟩
theorem a_order (n : Nat) (w : Wy) (xs : List Rat) (hxs : ∀ x ∈ xs, RB 200 x) (hlen : xs.length ≤ 1000) (s : Rat) (hs : RB 60 s) (h0 : 0 < s) :
    Ev Γ (n + 8) (.j (.F (.L 6) [.d (.lst (xs.map numD)), .d (numD s), .d (.str w.s)] [] (.ok (.d (.bl true))) [])) := by
  refine .fnGc (G1 := []) (X := [.gone]) ?_ rfl (Nat.le_refl _)
  obtain ⟨o4, o5, h1⟩ := r_rows R (n + 3) xs hxs hlen (some (.d (numD s))) (some (.d (.str w.s))) xs [] none none (fun _ h => h) (by simpa using hlen)
  obtain ⟨σ', h2⟩ := r_outer R Y n w xs hxs s hs h0 (some (.d (.lst (xs.map numD)))) [.gone] xs o4 o5 none none none none fun _ h => h
  refine .fnR R.order_right rfl (.bC (.asg (.mtn (.lst .nil (by decide))) rfl) (.bC (.for_ (.iseq (.var rfl) rfl) h1) (.frz (ws := xs.map fun x => .d (rowD xs x)) (ds := xs.map (rowD xs)) rfl rfl ?_ (.bC (.for_ (.iseq (.var rfl) rfl) h2) (.bX (.ret .con) noRet)))))
  have : (xs.map fun x => Sv.d (rowD xs x)) = (xs.map (rowD xs)).map .d := by rw [List.map_map]; rfl
  rw [this]
  exact ofSvs_d R _
end
end Fx.K85

end

section
set_option Elab.async false
set_option linter.all false
set_option maxRecDepth 100000
set_option maxHeartbeats 2000000
/-! What is made of the draws. -/
namespace Fx.K85
open PySem L2 Fx
section
variable {Γ : Pg} (R : Pr85 Γ)
include R
/-- one draw, as an expression -/
theorem e_draw (n : Nat) (cs : List Int) (seed k w : Int) (rest : Gs) (hk : Bd 39 k) (hw : 0 < w) (bw : Bd 60 w) (hl : cs.length ≤ 1000) :
    ∃ cs' v, cs'.length ≤ cs.length ∧ 0 ≤ v ∧ v < w ∧ ∀ (σ : Sg) (i : Nat) (e : CE), σ[i]? = some (some (.r 1)) → Ev Γ (n + 1) (.j (.E e σ (dk cs seed k rest) (.ok (iS w)) (dk cs seed k rest))) → Ev Γ (n + 1) (.j (.E (.call (.L 1) [.var i, e]) σ (dk cs seed k rest) (.ok (iS v)) (dk cs' seed (k + 1) rest))) := by
  obtain ⟨cs', v, h1, h2, h3, h4⟩ := a_draw R n cs seed k w rest hk hw bw hl
  exact ⟨cs', v, h1, h2, h3, fun σ i e hi he => .callG (R.bd _ (by simp)) (.cons (.var hi) (.cons he .nil)) h4⟩
theorem e_pow (n : Nat) (a b : Nat) (ha : a < 2 ^ 64) (hb : b ≤ 1000000) (σ : Sg) (G : Gs) : Ev Γ n (.j (.E (.bin .pow (.con (.int a)) (.con (.int b))) σ G (.ok (iS ((a : Int) ^ b))) G)) :=
  .bin .con .con rfl rfl rfl ⟨by omega, by omega, by omega⟩
theorem bk {k : Int} (m : Nat) (h : 0 ≤ k ∧ k ≤ m) (hm : m ≤ 100000) : Bd 39 k := by unfold Bd; omega
def PosI (B : Nat) (d : D) : Prop := ∃ i : Int, d = .int i ∧ 0 < i ∧ i ≤ B
def PosT (B : Nat) (d : D) : Prop := ∃ a b : Int, d = .tup [.int a, .int b] ∧ 0 < a ∧ 0 < b ∧ a ≤ B ∧ b ≤ B
/-- an item at a drawn place -/
theorem e_at {n : Nat} {e i : CE} {σ : Sg} {G G1 G2 : Gs} {l : List D} {v : Int} {P : D → Prop} (he : Ev Γ n (.j (.E e σ G (.ok (.d (.lst l))) G1))) (hi : Ev Γ n (.j (.E i σ G1 (.ok (iS v)) G2))) (h0 : 0 ≤ v) (h1 : v < l.length) (hP : ∀ d ∈ l, P d) : ∃ d, P d ∧ Ev Γ n (.j (.E (.sub e i) σ G (.ok (.d d)) G2)) := by
  obtain ⟨d, hd, e1⟩ := at_mem h0 h1
  exact ⟨d, hP d hd, .sub he hi rfl (congrArg (Option.map Sv.d) e1) (by intro z hz; cases hz; trivial)⟩
theorem a_grain (n : Nat) (cs : List Int) (seed k : Int) (rest : Gs) (hk : 0 ≤ k ∧ k ≤ 90000) (hl : cs.length ≤ 1000) :
    ∃ cs' k' a b, cs'.length ≤ cs.length ∧ k ≤ k' ∧ k' ≤ k + 6 ∧ 0 < a ∧ 0 < b ∧ a ≤ 100000000000 ∧ b ≤ 100000000000 ∧ Ev Γ (n + 2) (.j (.F (.L 2) [.r 1] (dk cs seed k rest) (.ok (.d (.tup [.int a, .int b]))) (dk cs' seed k' rest))) := by
  have kk : ∀ j : Int, 0 ≤ j → j ≤ 6 → Bd 39 (k + j) := fun j h1 h2 => bk R 100000 ⟨by omega, by omega⟩ (by decide)
  obtain ⟨c1, v1, l1, p1, q1, E1⟩ := e_draw R n cs seed k 7 rest (by simpa using kk 0 (by decide) (by decide)) (by decide) (by unfold Bd; decide) hl
  obtain ⟨c2, v2, l2, p2, q2, E2⟩ := e_draw R n c1 seed (k + 1) 30 rest (kk 1 (by decide) (by decide)) (by decide) (by unfold Bd; decide) (by omega)
  obtain ⟨c3, v3, l3, p3, q3, E3⟩ := e_draw R n c2 seed (k + 1 + 1) 30 rest (by rw [Int.add_assoc]; exact kk 2 (by decide) (by decide)) (by decide) (by unfold Bd; decide) (by omega)
  obtain ⟨c4, v4, l4, p4, q4, E4⟩ := e_draw R n c3 seed (k + 1 + 1 + 1) ((10 : Int) ^ 6) rest (by rw [Int.add_assoc, Int.add_assoc]; exact kk 3 (by decide) (by decide)) (by decide) (by unfold Bd; decide) (by omega)
  obtain ⟨c5, v5, l5, p5, q5, E5⟩ := e_draw R n c4 seed (k + 1 + 1 + 1 + 1) ((10 : Int) ^ 6) rest (by rw [Int.add_assoc, Int.add_assoc, Int.add_assoc]; exact kk 4 (by decide) (by decide)) (by decide) (by unfold Bd; decide) (by omega)
  obtain ⟨c6, v6, l6, p6, q6, E6⟩ := e_draw R n c5 seed (k + 1 + 1 + 1 + 1 + 1) 10 rest (by rw [Int.add_assoc, Int.add_assoc, Int.add_assoc, Int.add_assoc]; exact kk 5 (by decide) (by decide)) (by decide) (by unfold Bd; decide) (by omega)
  have hz : sizeLine = 16777216 := sizeLine_eq
  -- the ten's power
  have hL1 : ∀ (σ : Sg) (G : Gs), Ev Γ (n + 1) (.j (.E (.lst [.con (.int 1), .con (.int 10), .bin .pow (.con (.int 10)) (.con (.int 2)), .bin .pow (.con (.int 10)) (.con (.int 3)), .bin .pow (.con (.int 10)) (.con (.int 4)), .bin .pow (.con (.int 10)) (.con (.int 6)), .bin .pow (.con (.int 10)) (.con (.int 8))]) σ G (.ok (.d (.lst [.int 1, .int 10, .int ((10 : Int) ^ 2), .int ((10 : Int) ^ 3), .int ((10 : Int) ^ 4), .int ((10 : Int) ^ 6), .int ((10 : Int) ^ 8)]))) G)) := fun σ G =>
    .ofN (.lst (.cons .con (.cons .con (.cons (e_pow R _ 10 2 (by decide) (by decide) _ _) (.cons (e_pow R _ 10 3 (by decide) (by decide) _ _) (.cons (e_pow R _ 10 4 (by decide) (by decide) _ _) (.cons (e_pow R _ 10 6 (by decide) (by decide) _ _) (.cons (e_pow R _ 10 8 (by decide) (by decide) _ _) .nil))))))) (by simp [hz])) rfl
  obtain ⟨_, ⟨t, rfl, t0, t1⟩, T1⟩ := e_at R (P := PosI 100000000) (hL1 [some (.r 1), none, none] (dk cs seed k rest)) (E1 [some (.r 1), none, none] 0 (.con (.int 7)) rfl .con) p1 q1 (by
    intro d hd
    simp only [List.mem_cons, List.not_mem_nil, or_false] at hd
    rcases hd with rfl | rfl | rfl | rfl | rfl | rfl | rfl <;> exact ⟨_, rfl, by decide, by decide⟩)
  -- the first seven
  let σ1 : Sg := [some (.r 1), some (iS t), none]
  let L2 : List D := [.tup [.int 1, .int 1], .tup [.int 1, .int t], .tup [.int t, .int 1], .tup [.int 1, .int 8], .tup [.int 1, .int 3], .tup [.int 7, .int 1], .tup [.int (1 + v2), .int (1 + v3)]]
  have T2 : Ev Γ (n + 1) (.j (.E (.lst [.tup [.con (.int 1), .con (.int 1)], .tup [.con (.int 1), .var 1], .tup [.var 1, .con (.int 1)], .tup [.con (.int 1), .con (.int 8)], .tup [.con (.int 1), .con (.int 3)], .tup [.con (.int 7), .con (.int 1)], .tup [.bin .add (.con (.int 1)) (.call (.L 1) [.var 0, .con (.int 30)]), .bin .add (.con (.int 1)) (.call (.L 1) [.var 0, .con (.int 30)])]]) σ1 (dk c1 seed (k + 1) rest) (.ok (.d (.lst L2))) (dk c3 seed (k + 1 + 1 + 1) rest))) :=
    .ofN (.lst (.cons (.tup (.cons .con (.cons .con .nil)) rfl (by simp [hz])) (.cons (.tup (.cons .con (.cons (.var rfl) .nil)) rfl (by simp [hz])) (.cons (.tup (.cons (.var rfl) (.cons .con .nil)) rfl (by simp [hz])) (.cons (.tup (.cons .con (.cons .con .nil)) rfl (by simp [hz])) (.cons (.tup (.cons .con (.cons .con .nil)) rfl (by simp [hz])) (.cons (.tup (.cons .con (.cons .con .nil)) rfl (by simp [hz]))
      (.cons (.tup (ws := [iS (1 + v2), iS (1 + v3)]) (.cons (.bin .con (E2 σ1 0 (.con (.int 30)) rfl .con) rfl rfl rfl trivial) (.cons (.bin .con (E3 σ1 0 (.con (.int 30)) rfl .con) rfl rfl rfl trivial) .nil)) rfl (by simp [hz])) .nil))))))) (by simp [hz])) rfl
  let σ2 : Sg := [some (.r 1), some (iS t), some (.d (.lst L2))]
  let L3 : List D := [.tup [.int 1, .int 20], .tup [.int (t * 1000), .int 1], .tup [.int (1 + v4), .int (1 + v5)]]
  have bt : CMulX t 1000 := Bd.okM (a := 40) (b := 12) (by unfold Bd; omega) (by unfold Bd; decide) (by decide)
  have T3 : Ev Γ (n + 1) (.j (.E (.lst [.tup [.con (.int 1), .con (.int 20)], .tup [.bin .mul (.var 1) (.con (.int 1000)), .con (.int 1)], .tup [.bin .add (.con (.int 1)) (.call (.L 1) [.var 0, .bin .pow (.con (.int 10)) (.con (.int 6))]), .bin .add (.con (.int 1)) (.call (.L 1) [.var 0, .bin .pow (.con (.int 10)) (.con (.int 6))])]]) σ2 (dk c3 seed (k + 1 + 1 + 1) rest) (.ok (.d (.lst L3))) (dk c5 seed (k + 1 + 1 + 1 + 1 + 1) rest))) :=
    .ofN (.lst (.cons (.tup (.cons .con (.cons .con .nil)) rfl (by simp [hz])) (.cons (.tup (ws := [iS (t * 1000), iS 1]) (.cons (.bin (.var rfl) .con rfl rfl rfl bt) (.cons .con .nil)) rfl (by simp [hz]))
      (.cons (.tup (ws := [iS (1 + v4), iS (1 + v5)]) (.cons (.bin .con (E4 σ2 0 _ rfl (e_pow R _ 10 6 (by decide) (by decide) _ _)) rfl rfl rfl trivial) (.cons (.bin .con (E5 σ2 0 _ rfl (e_pow R _ 10 6 (by decide) (by decide) _ _)) rfl rfl rfl trivial) .nil)) rfl (by simp [hz])) .nil))) (by simp [hz])) rfl
  have T4 := Ev.ofN (Ev.binN (Γ := Γ) (n := n + 1) (o := .add) (a := .var 2) (σ := σ2) (x := .d (.lst L2)) (dx := .lst L2) (l := L2 ++ L3) (.var rfl) T3 rfl rfl rfl (by show L2.length + L3.length ≤ sizeLine; rw [hz]; simp [L2, L3])) (ofSvs_d R (L2 ++ L3))
  let σ3 : Sg := [some (.r 1), some (iS t), some (.d (.lst (L2 ++ L3)))]
  have e6 : (10 : Int) ^ 6 = 1000000 := by decide
  obtain ⟨_, ⟨a, b, rfl, a0, b0, a1, b1⟩, T5⟩ := e_at R (n := n + 1) (e := .var 2) (σ := σ3) (G := dk c5 seed (k + 1 + 1 + 1 + 1 + 1) rest) (l := L2 ++ L3) (P := PosT 100000000000) (.var rfl) (E6 σ3 0 (.con (.int 10)) rfl .con) p6 (by simpa [L2, L3] using q6) (by
    intro d hd
    simp only [L2, L3, List.cons_append, List.nil_append, List.mem_cons, List.not_mem_nil, or_false] at hd
    rcases hd with rfl | rfl | rfl | rfl | rfl | rfl | rfl | rfl | rfl | rfl <;> exact ⟨_, _, rfl, by omega, by omega, by omega, by omega⟩)
  refine ⟨c6, _, a, b, by omega, by omega, by omega, a0, b0, a1, b1, .fnR R.grain rfl (.bC (.asg T1 rfl) (.bC (.asg T2 rfl) (.bC (.asg T4 rfl) (.bX (.ret T5) noRet))))⟩
theorem a_near (n : Nat) (cs : List Int) (seed k a b : Int) (rest : Gs) (hk : 0 ≤ k ∧ k ≤ 90000) (hl : cs.length ≤ 1000) (ha : 0 < a ∧ a ≤ 100000000000) (hb : 0 < b ∧ b ≤ 100000000000) :
    ∃ cs' k' t d, cs'.length ≤ cs.length ∧ k ≤ k' ∧ k' ≤ k + 9 ∧ 0 < d ∧ Bd 80 t ∧ Bd 60 d ∧ Ev Γ (n + 2) (.j (.F (.L 3) [.r 1, .d (.tup [.int a, .int b])] (dk cs seed k rest) (.ok (.d (.tup [.int t, .int d]))) (dk cs' seed k' rest))) := by
  have kk : ∀ j : Int, 0 ≤ j → j ≤ 9 → Bd 39 (k + j) := fun j h1 h2 => bk R 100000 ⟨by omega, by omega⟩ (by decide)
  obtain ⟨c1, v1, l1, p1, q1, E1⟩ := e_draw R n cs seed k 13 rest (by simpa using kk 0 (by decide) (by decide)) (by decide) (by unfold Bd; decide) hl
  obtain ⟨c2, v2, l2, p2, q2, E2⟩ := e_draw R n c1 seed (k + 1) 3 rest (kk 1 (by decide) (by decide)) (by decide) (by unfold Bd; decide) (by omega)
  obtain ⟨c3, v3, l3, p3, q3, E3⟩ := e_draw R n c2 seed (k + 1 + 1) 3 rest (by simpa [Int.add_assoc] using kk 2 (by decide) (by decide)) (by decide) (by unfold Bd; decide) (by omega)
  obtain ⟨c4, v4, l4, p4, q4, E4⟩ := e_draw R n c3 seed (k + 1 + 1 + 1) ((10 : Int) ^ 6) rest (by simpa [Int.add_assoc] using kk 3 (by decide) (by decide)) (by decide) (by unfold Bd; decide) (by omega)
  obtain ⟨c5, v5, l5, p5, q5, E5⟩ := e_draw R n c4 seed (k + 1 + 1 + 1 + 1) 5 rest (by simpa [Int.add_assoc] using kk 4 (by decide) (by decide)) (by decide) (by unfold Bd; decide) (by omega)
  obtain ⟨c6, v6, l6, p6, q6, E6⟩ := e_draw R n c5 seed (k + 1 + 1 + 1 + 1 + 1) 2 rest (by simpa [Int.add_assoc] using kk 5 (by decide) (by decide)) (by decide) (by unfold Bd; decide) (by omega)
  obtain ⟨c7, v7, l7, p7, q7, E7⟩ := e_draw R n c6 seed (k + 1 + 1 + 1 + 1 + 1 + 1) 6 rest (by simpa [Int.add_assoc] using kk 6 (by decide) (by decide)) (by decide) (by unfold Bd; decide) (by omega)
  have hz : sizeLine = 16777216 := sizeLine_eq
  have e6 : (10 : Int) ^ 6 = 1000000 := by decide
  let σ0 : Sg := [some (.r 1), some (.d (.tup [.int a, .int b])), none, none, none, none, none]
  let L1 : List D := [.int v1, .int (9 + v2), .int (99 + v3), .int 999, .int v4]
  have T1 : Ev Γ (n + 1) (.j (.E (.lst [.call (.L 1) [.var 0, .con (.int 13)], .bin .add (.con (.int 9)) (.call (.L 1) [.var 0, .con (.int 3)]), .bin .add (.con (.int 99)) (.call (.L 1) [.var 0, .con (.int 3)]), .con (.int 999), .call (.L 1) [.var 0, .bin .pow (.con (.int 10)) (.con (.int 6))]]) σ0 (dk cs seed k rest) (.ok (.d (.lst L1))) (dk c4 seed (k + 1 + 1 + 1 + 1) rest))) :=
    .ofN (.lst (ws := [iS v1, iS (9 + v2), iS (99 + v3), iS 999, iS v4]) (.cons (E1 σ0 0 _ rfl .con) (.cons (.bin .con (E2 σ0 0 _ rfl .con) rfl rfl rfl trivial) (.cons (.bin .con (E3 σ0 0 _ rfl .con) rfl rfl rfl trivial) (.cons .con (.cons (E4 σ0 0 _ rfl (e_pow R _ 10 6 (by decide) (by decide) _ _)) .nil))))) (by simp [hz])) rfl
  let σ1 : Sg := [some (.r 1), some (.d (.tup [.int a, .int b])), some (.d (.lst L1)), none, none, none, none]
  obtain ⟨_, ⟨x1, rfl, x10, x11⟩, T2⟩ := e_at R (n := n + 1) (e := .var 2) (σ := σ1) (G := dk c4 seed (k + 1 + 1 + 1 + 1) rest) (l := L1) (P := fun d => ∃ i : Int, d = .int i ∧ 0 ≤ i ∧ i ≤ 1000000) (.var rfl) (E5 σ1 0 (.con (.int 5)) rfl .con) p5 (by simpa [L1] using q5) (by
    intro d hd
    simp only [L1, List.mem_cons, List.not_mem_nil, or_false] at hd
    rcases hd with rfl | rfl | rfl | rfl | rfl <;> exact ⟨_, rfl, by omega, by omega⟩)
  obtain ⟨_, ⟨x2, rfl, x20, x21⟩, T3⟩ := e_at R (n := n + 1) (e := .lst [.con (.int 1), .neg (.con (.int 1))]) (σ := σ1) (G := dk c5 seed (k + 1 + 1 + 1 + 1 + 1) rest) (l := [.int 1, .int (-1)]) (P := fun d => ∃ i : Int, d = .int i ∧ -1 ≤ i ∧ i ≤ 1) (.ofN (.lst (.cons .con (.cons (.neg .con) .nil)) (by simp [hz])) rfl) (E6 σ1 0 (.con (.int 2)) rfl .con) p6 (by simpa using q6) (by
    intro d hd
    simp only [List.mem_cons, List.not_mem_nil, or_false] at hd
    rcases hd with rfl | rfl <;> exact ⟨_, rfl, by omega, by omega⟩)
  have bx1 : Bd 20 x1 := by unfold Bd; omega
  have bx2 : Bd 1 x2 := by unfold Bd; omega
  have T4 : Ev Γ (n + 1) (.j (.E _ σ1 _ (.ok (iS (x1 * x2))) _)) := .bin (o := .mul) T2 T3 rfl rfl rfl (bx1.okM bx2 (by decide))
  let σ2 : Sg := [some (.r 1), some (.d (.tup [.int a, .int b])), some (.d (.lst L1)), some (iS (x1 * x2)), none, none, none]
  obtain ⟨_, ⟨pc, rfl, pc0, pc1⟩, T5⟩ := e_at R (n := n + 1) (e := .lst [.con (.int 1), .con (.int 2), .con (.int 4), .con (.int 3), .con (.int 10), .con (.int 1000)]) (σ := σ2) (G := dk c6 seed (k + 1 + 1 + 1 + 1 + 1 + 1) rest) (l := [.int 1, .int 2, .int 4, .int 3, .int 10, .int 1000]) (P := PosI 1000) (.ofN (.lst (.cons .con (.cons .con (.cons .con (.cons .con (.cons .con (.cons .con .nil)))))) (by simp [hz])) rfl) (E7 σ2 0 (.con (.int 6)) rfl .con) p7 (by simpa using q7) (by
    intro d hd
    simp only [List.mem_cons, List.not_mem_nil, or_false] at hd
    rcases hd with rfl | rfl | rfl | rfl | rfl | rfl <;> exact ⟨_, rfl, by decide, by decide⟩)
  obtain ⟨c8, v8, l8, p8, q8, E8⟩ := e_draw R n c7 seed (k + 1 + 1 + 1 + 1 + 1 + 1 + 1) pc rest (by simpa [Int.add_assoc] using kk 7 (by decide) (by decide)) pc0 (by unfold Bd; omega) (by omega)
  obtain ⟨c9, v9, l9, p9, q9, E9⟩ := e_draw R n c8 seed (k + 1 + 1 + 1 + 1 + 1 + 1 + 1 + 1) 7 rest (by simpa [Int.add_assoc] using kk 8 (by decide) (by decide)) (by decide) (by unfold Bd; decide) (by omega)
  let σ4 : Sg := [some (.r 1), some (.d (.tup [.int a, .int b])), some (.d (.lst L1)), some (iS (x1 * x2)), some (iS pc), some (iS (pc / 2)), none]
  let mx : Int := if pc / 2 - 1 > 0 then pc / 2 - 1 else 0
  let L6 : List D := [.int 0, .int (pc / 2), .int mx, .int (pc / 2 + 1), .int 1, .int (pc - 1), .int v8]
  have T6 : Ev Γ (n + 1) (.j (.E (.lst [.con (.int 0), .var 5, .prim .max2 [.con (.int 0), .bin .sub (.var 5) (.con (.int 1))], .bin .add (.var 5) (.con (.int 1)), .con (.int 1), .bin .sub (.var 4) (.con (.int 1)), .call (.L 1) [.var 0, .var 4]]) σ4 (dk c7 seed (k + 1 + 1 + 1 + 1 + 1 + 1 + 1) rest) (.ok (.d (.lst L6))) (dk c8 seed (k + 1 + 1 + 1 + 1 + 1 + 1 + 1 + 1) rest))) :=
    .ofN (.lst (ws := [iS 0, iS (pc / 2), iS mx, iS (pc / 2 + 1), iS 1, iS (pc - 1), iS v8]) (.cons .con (.cons (.var rfl) (.cons (.prim (ds := [.int 0, .int (pc / 2 - 1)]) (.cons .con (.cons (.bin (.var rfl) .con rfl rfl rfl trivial) .nil)) rfl rfl trivial (by intro t h; cases h)) (.cons (.bin (.var rfl) .con rfl rfl rfl trivial) (.cons .con (.cons (.bin (.var rfl) .con rfl rfl rfl trivial) (.cons (E8 σ4 0 _ rfl (.var rfl)) .nil))))))) (by simp [hz])) rfl
  obtain ⟨_, ⟨r, rfl⟩, T7⟩ := e_at R (n := n + 1) (P := fun d => ∃ i : Int, d = .int i) T6 (E9 σ4 0 (.con (.int 7)) rfl .con) p9 (by simpa [L6] using q9) (by
    intro d hd
    simp only [L6, List.mem_cons, List.not_mem_nil, or_false] at hd
    rcases hd with rfl | rfl | rfl | rfl | rfl | rfl | rfl <;> exact ⟨_, rfl⟩)
  have r0 := Int.emod_nonneg r (b := pc) (by omega)
  have r1 := Int.emod_lt_of_pos r (b := pc) pc0
  have bpc : Bd 10 pc := by unfold Bd; omega
  have ba : Bd 37 a := by unfold Bd; omega
  have bb : Bd 37 b := by unfold Bd; omega
  have bcnt := bx1.mul bx2
  have bcp := bcnt.mul bpc
  have brr : Bd 31 (r % pc) := by unfold Bd; omega
  have bsum := bcp.add (x := x1 * x2 * pc) (y := r % pc) brr
  have d2 : Bd 2 (2 : Int) := by unfold Bd; decide
  refine ⟨c9, k + 1 + 1 + 1 + 1 + 1 + 1 + 1 + 1 + 1, a * (x1 * x2 * pc + r % pc), b * pc, by omega, by omega, by omega, Int.mul_pos hb.1 pc0, (ba.mul bsum).mono (by decide), (bb.mul bpc).mono (by decide), .fnR R.near rfl (.bC (.asg T1 rfl) (.bC (.asg T4 rfl) (.bC (.asg T5 rfl) (.bC (.asg (.bin (.var rfl) .con rfl rfl rfl (Bd.okD 0 d2 (by decide) (by decide))) rfl) (.bC (.asg T7 rfl) (.bX (.ret ?_) noRet))))))⟩
  exact .tup (ws := [iS (a * (x1 * x2 * pc + r % pc)), iS (b * pc)]) (.cons (.bin (.sub (.var rfl) .con rfl rfl (by intro d h; cases h; trivial)) (.bin (.bin (.var rfl) (.var rfl) rfl rfl rfl (bcnt.okM bpc (by decide))) (.bin (.var rfl) (.var rfl) rfl rfl rfl pc0) rfl rfl rfl trivial) rfl rfl rfl (ba.okM bsum (by decide))) (.cons (.bin (.sub (.var rfl) .con rfl rfl (by intro d h; cases h; trivial)) (.var rfl) rfl rfl rfl (bb.okM bpc (by decide))) .nil)) rfl (by simp [hz])
end
end Fx.K85

end

section
set_option Elab.async false
set_option linter.all false
set_option maxRecDepth 100000
set_option maxHeartbeats 2000000
/-! The law. -/
namespace Fx.K85
open PySem L2 Fx
def numS (q : Rat) : Sv := .d (numD q)
theorem dk_at (cs : List Int) (seed k : Int) (rest : Gs) (x : MO) : (dk cs seed k (rest ++ [x]))[2 + rest.length]? = some x := by
  unfold dk
  rw [show 2 + rest.length = rest.length + 1 + 1 by omega]
  simp
theorem dk_set (cs : List Int) (seed k : Int) (rest : Gs) (x y : MO) : (dk cs seed k (rest ++ [x])).set (2 + rest.length) y = dk cs seed k (rest ++ [y]) := by
  unfold dk
  rw [show 2 + rest.length = rest.length + 1 + 1 by omega]
  simp
theorem dk_len (cs : List Int) (seed k : Int) (rest : Gs) : (dk cs seed k rest).length = 2 + rest.length := by
  unfold dk
  simp; omega
theorem dk_app (cs : List Int) (seed k : Int) (rest : Gs) (x : MO) : dk cs seed k rest ++ [x] = dk cs seed k (rest ++ [x]) := rfl
section
variable {Γ : Pg} (R : Pr85 Γ) (Y : Pw85 Γ)
include R
theorem r_deck (n : Nat) (a0 a1 : Option Sv) : ∀ (cs : List Int) (seed : Int) (o3 : Option Sv), Bd 40 seed → ∃ seed' o3', Ev Γ n (.j (.R (.nm 3) [.asg (.nm 2) (.bin .mod (.bin .add (.bin .add (.bin .mul (.var 2) (.con (.int 69621))) (.bin .mod (.var 3) (.con (.int 2147483587)))) (.con (.int 13))) (.con (.int 2147483629)))]
      (cs.map .int) [a0, a1, some (iS seed), o3] [] (.nxt [a0, a1, some (iS seed'), o3']) []))
  | [], seed, o3, _ => ⟨seed, o3, .rN⟩
  | c :: cs, seed, o3, hs => by
    have h0 : 0 ≤ (seed * 69621 + c % 2147483587 + 13) % 2147483629 := Int.emod_nonneg _ (by decide)
    have h1 : (seed * 69621 + c % 2147483587 + 13) % 2147483629 < 2147483629 := Int.emod_lt_of_pos _ (by decide)
    obtain ⟨seed', o3', ih⟩ := r_deck n a0 a1 cs ((seed * 69621 + c % 2147483587 + 13) % 2147483629) (some (iS c)) (by unfold Bd; omega)
    have b2 : Bd 20 (69621 : Int) := by unfold Bd; decide
    refine ⟨seed', o3', .rT rfl (.bC (.asg (w := iS ((seed * 69621 + c % 2147483587 + 13) % 2147483629)) (.bin (.bin (.bin (.bin (.var rfl) .con rfl rfl rfl (hs.okM b2 (by decide))) (.bin (.var rfl) .con rfl rfl rfl (by show (0 : Int) < 2147483587; decide)) rfl rfl rfl trivial) .con rfl rfl rfl trivial) .con rfl rfl rfl (by show (0 : Int) < 2147483629; decide)) rfl) .bN) ih⟩
theorem a_deck (n : Nat) (ns : List Int) : ∃ cs seed, cs.length ≤ 1000 ∧ Ev Γ (n + 1) (.j (.F (.L 0) [.d (.scr ns)] [] (.ok (.r 1)) (dk cs seed 0 []))) := by
  let cut := cutD ns none (some 63)
  have hcut : cut.length ≤ 63 := by
    show ((ns.drop (HT.sIx ns.length 0 none)).take (HT.sIx ns.length ns.length (some 63) - HT.sIx ns.length 0 none)).length ≤ 63
    rw [List.length_take]
    have : HT.sIx ns.length ns.length (some 63) ≤ 63 := by
      unfold HT.sIx
      simp
      omega
    omega
  obtain ⟨seed, o3, h⟩ := r_deck R n (some (.d (.scr ns))) (some (.d (.lst (cut.map .int)))) cut 23 none (by unfold Bd; decide)
  refine ⟨cut.reverse, seed, by simp; omega, .fnR R.deck rfl (.bC (.asg (w := .d (.lst (cut.map .int))) (.ofN (.primN (ds := [.lst (cut.map .int)]) (.cons (.ofN (.slcN (.var rfl) .oN (.oS .con) rfl rfl) (ofSvs_d R _)) .nil) rfl rfl trivial) (ofSvs_d R _)) rfl) (.bC (.asg .con rfl) (.bC (.for_ (.iseq (.var rfl) rfl) h) (.bX (.ret ?_) noRet))))⟩
  have e : dk cut.reverse seed 0 [] = [MO.lst (((cut.map D.int).reverse).map .d)] ++ [.lst [.r 0, iS seed, iS 0]] := by
    unfold dk
    simp [List.map_reverse, List.map_map, Function.comp_def]
  rw [e]
  have hz : sizeLine = 16777216 := sizeLine_eq
  exact .mtn (.lst (.cons (.mtn (.rev (d := .lst (cut.map D.int)) (.var rfl) rfl rfl)) (.cons (.var rfl) (.cons .con .nil))) (by simp [hz]))
/-- four numbers near the step -/
theorem r_near (n : Nat) (seed a b : Int) (rest : Gs) (ha : 0 < a ∧ a ≤ 100000000000) (hb : 0 < b ∧ b ≤ 100000000000) (p0 p2 p4 p5 p10 p11 : Option Sv) : ∀ (ds : List D) (cs : List Int) (k : Int) (acc : List Rat) (o7 o8 o9 : Option Sv), 0 ≤ k → k + 9 * ds.length ≤ 90000 → cs.length ≤ 1000 → acc.length + ds.length ≤ 1000 → (∀ q ∈ acc, RB 80 q) →
    ∃ (cs' : List Int) (k' : Int) (acc' : List Rat) (o7' o8' o9' : Option Sv), cs'.length ≤ 1000 ∧ k ≤ k' ∧ k' ≤ k + 9 * ds.length ∧ acc'.length = acc.length + ds.length ∧ (∀ q ∈ acc', RB 80 q) ∧ Ev Γ (n + 8) (.j (.R (.nm 7) [.asg (.tup [.nm 8, .nm 9]) (.call (.L 3) [.var 1, .var 3]), .exp (.mm .append (.var 6) [.new .Number [.var 8, .var 9] []])]
      ds [p0, some (.r 1), p2, some (.d (.tup [.int a, .int b])), p4, p5, some (.r (2 + rest.length)), o7, o8, o9, p10, p11] (dk cs seed k (rest ++ [.lst (acc.map numS)])) (.nxt [p0, some (.r 1), p2, some (.d (.tup [.int a, .int b])), p4, p5, some (.r (2 + rest.length)), o7', o8', o9', p10, p11]) (dk cs' seed k' (rest ++ [.lst (acc'.map numS)]))))
  | [], cs, k, acc, o7, o8, o9, h0, h1, h2, h3, h4 => ⟨cs, k, acc, o7, o8, o9, h2, Int.le_refl _, by simp, by simp, h4, .rN⟩
  | d :: ds, cs, k, acc, o7, o8, o9, h0, h1, h2, h3, h4 => by
    simp only [List.length_cons] at h1 h3
    obtain ⟨c1, k1, t, e, l1, m1, m2, e0, bt, be, hE⟩ := a_near R (n + 5) cs seed k a b (rest ++ [.lst (acc.map numS)]) ⟨h0, by omega⟩ h2 ha hb
    have hq : RB 80 (Rat.divInt t e) := frac_rb e0 bt (be.mono (by decide))
    obtain ⟨cs', k', acc', o7', o8', o9', r1, r2, r3, r4, r5, ih⟩ := r_near n seed a b rest ha hb p0 p2 p4 p5 p10 p11 ds c1 k1 (acc ++ [Rat.divInt t e]) (some (.d d)) (some (iS t)) (some (iS e)) (by omega) (by omega) (by omega) (by simp; omega) (fun q hq' => by
      rcases List.mem_append.mp hq' with z | z
      · exact h4 q z
      · rw [List.mem_singleton.mp z]; exact hq)
    refine ⟨cs', k', acc', o7', o8', o9', r1, by omega, by simp only [List.length_cons]; omega, by rw [r4]; simp; omega, r5, ?_⟩
    refine .rT (σ2 := [p0, some (.r 1), p2, some (.d (.tup [.int a, .int b])), p4, p5, some (.r (2 + rest.length)), some (.d d), some (iS t), some (iS e), p10, p11]) (G1 := dk c1 seed k1 (rest ++ [.lst ((acc ++ [Rat.divInt t e]).map numS)])) rfl (.bC (.asg (.callG (R.bd _ (by simp)) (.cons (.var rfl) (.cons (.var rfl) .nil)) (up hE 1)) rfl) (.bC ?_ .bN)) ih
    have eS : dk c1 seed k1 (rest ++ [.lst ((acc ++ [Rat.divInt t e]).map numS)]) = (dk c1 seed k1 (rest ++ [.lst (acc.map numS)])).set (2 + rest.length) (.lst (acc.map numS ++ [numS (Rat.divInt t e)])) := by
      rw [dk_set]
      simp
    rw [eS]
    refine .exp (.mmA (l := acc.map numS) (l0 := acc.map numS) (.var rfl) (dk_at _ _ _ _ _) (e_new2 R (n := n + 5) (.cons (.var rfl) (.cons (.var rfl) .nil)) e0 (be.mono (by decide))) (dk_at _ _ _ _ _) ?_)
    have hz : sizeLine = 16777216 := sizeLine_eq
    simp
    omega
include Y
theorem r_each (n : Nat) (w : Wy) (m : Int) (hm : 1 ≤ m ∧ m ≤ 50) (s : Rat) (hs : RB 60 s) (h0 : 0 < s) (G : Gs) (p0 p1 p2 p3 p6 p7 p8 p9 : Option Sv) : ∀ (xs : List Rat) (o11 : Option Sv), (∀ x ∈ xs, RB 200 x) → ∃ o11', Ev Γ (n + 8) (.j (.R (.nm 11) [.ite (.nt (.tru (.call (.L 5) [.var 11, .var 5, .var 10, .var 4]))) [.ret (.con (.bl false))] []]
      (xs.map numD) [p0, p1, p2, p3, some (iS m), some (.d (numD s)), p6, p7, p8, p9, some (.d (.str w.s)), o11] G (.nxt [p0, p1, p2, p3, some (iS m), some (.d (numD s)), p6, p7, p8, p9, some (.d (.str w.s)), o11']) G))
  | [], o11, _ => ⟨o11, .rN⟩
  | x :: xs, o11, hx => by
    obtain ⟨o, ih⟩ := r_each n w m hm s hs h0 G p0 p1 p2 p3 p6 p7 p8 p9 xs (some (.d (numD x))) fun y hy => hx y (List.mem_cons_of_mem _ hy)
    exact ⟨o, .rT rfl (.bC (.iteF (.tnt (b := true) (.tru (d := .bl true) (.callP (R.bd _ (by simp)) (.cons (.var rfl) (.cons (.var rfl) (.cons (.var rfl) (.cons (.var rfl) .nil)))) rfl (a_right R Y n w m x s (hx x (by simp)) hs h0 hm)) rfl rfl trivial)) .bN) .bN) ih⟩
theorem r_ways (n : Nat) (m : Int) (hm : 1 ≤ m ∧ m ≤ 50) (s : Rat) (hs : RB 60 s) (h0 : 0 < s) (xs : List Rat) (hx : ∀ x ∈ xs, RB 200 x) (hl : xs.length ≤ 1000) (G : Gs) (p0 p1 p2 p3 p7 p8 p9 : Option Sv) : ∀ (ws : List Wy) (o10 o11 : Option Sv), ∃ o10' o11', Ev Γ (n + 8) (.j (.R (.nm 10) [.for_ (.nm 11) (.seq (.var 6)) [.ite (.nt (.tru (.call (.L 5) [.var 11, .var 5, .var 10, .var 4]))) [.ret (.con (.bl false))] []], .ite (.nt (.tru (.call (.L 6) [.var 6, .var 5, .var 10]))) [.ret (.con (.bl false))] []]
      (ws.map fun w => .str w.s) [p0, p1, p2, p3, some (iS m), some (.d (numD s)), some (.d (.lst (xs.map numD))), p7, p8, p9, o10, o11] G (.nxt [p0, p1, p2, p3, some (iS m), some (.d (numD s)), some (.d (.lst (xs.map numD))), p7, p8, p9, o10', o11']) G))
  | [], o10, o11 => ⟨o10, o11, .rN⟩
  | w :: ws, o10, o11 => by
    obtain ⟨q11, h1⟩ := r_each R Y n w m hm s hs h0 G p0 p1 p2 p3 (some (.d (.lst (xs.map numD)))) p7 p8 p9 xs o11 hx
    obtain ⟨r10, r11, ih⟩ := r_ways n m hm s hs h0 xs hx hl G p0 p1 p2 p3 p7 p8 p9 ws (some (.d (.str w.s))) q11
    exact ⟨r10, r11, .rT rfl (.bC (.for_ (.iseq (.var rfl) rfl) h1) (.bC (.iteF (.tnt (b := true) (.tru (d := .bl true) (.callP (R.bd _ (by simp)) (.cons (.var rfl) (.cons (.var rfl) (.cons (.var rfl) .nil))) rfl (a_order R Y n w xs hx hl s hs h0)) rfl rfl trivial)) .bN) .bN)) ih⟩
def allW : List Wy := [.up, .down, .high, .low, .hu, .hd, .he, .ho]
abbrev lawTurn : List CS := (match b_law with
  | _ :: .for_ _ _ b :: _ => b
  | _ => [])
theorem r_turns (n : Nat) (seed : Int) (p0 : Option Sv) : ∀ (ds : List D) (cs : List Int) (k : Int) (rest : Gs) (o : List (Option Sv)), o.length = 10 → 0 ≤ k → k + 50 * ds.length ≤ 80000 → cs.length ≤ 1000 → ∃ σ' G', Ev Γ (n + 8) (.j (.R (.nm 2) lawTurn ds (p0 :: some (.r 1) :: o) (dk cs seed k rest) (.nxt σ') G'))
  | [], cs, k, rest, o, _, _, _, _ => ⟨_, _, .rN⟩
  | d :: ds, cs, k, rest, o, ho, h0, h1, h2 => by
    simp only [List.length_cons] at h1
    match o, ho with
    | [o2, o3, o4, o5, o6, o7, o8, o9, o10, o11], _ =>
    obtain ⟨c1, k1, a, b, l1, m1, m2, a0, b0, a1, b1, E1⟩ := a_grain R (n + 5) cs seed k rest ⟨h0, by omega⟩ h2
    obtain ⟨c2, v2, l2, p2, q2, E2⟩ := e_draw R (n + 7) c1 seed k1 50 rest (bk R 100000 ⟨by omega, by omega⟩ (by decide)) (by decide) (by unfold Bd; decide) (by omega)
    have hs : RB 40 (Rat.divInt a b) := frac_rb b0 (by unfold Bd; omega) (by unfold Bd; omega)
    have hs0 : 0 < Rat.divInt a b := by
      rw [Rat.divInt_eq_div]
      have : (0 : Rat) < (a : Rat) := by exact_mod_cast a0
      have : (0 : Rat) < (b : Rat) := by exact_mod_cast b0
      rw [Rat.div_def]
      exact Rat.mul_pos (by assumption) (Rat.inv_pos.mpr (by assumption))
    obtain ⟨c3, k3, acc, o7', o8', o9', r1, r2, r3, r4, r5, E3⟩ := r_near R n seed a b rest ⟨a0, a1⟩ ⟨b0, b1⟩ p0 (some (.d d)) (some (iS (1 + v2))) (some (numS (Rat.divInt a b))) o10 o11 ((List.range (4 : Int).toNat).map fun (k : Nat) => .int (k : Int)) c2 (k1 + 1) [] o7 o8 o9 (by omega) (by simp; omega) (by omega) (by simp) (by simp)
    simp at r3 r4
    match acc, r4 with
    | [x0, x1, x2, x3], _ =>
    have h7 : RB 3 (((7 : Int) : Rat)) := rb_int (by unfold Bd; decide) (by decide)
    have hov : RB 43 (Rat.divInt a b / ((7 : Int) : Rat)) := rb_div hs h7 (by decide)
    have hx0 := r5 x0 (by simp)
    have hnew : RB 200 (x0 + Rat.divInt a b / ((7 : Int) : Rat)) := (rb_add hx0 hov).mono (by decide)
    let xs : List Rat := [x0, x1, x2, x3, x0 + Rat.divInt a b / ((7 : Int) : Rat)]
    have hxs : ∀ x ∈ xs, RB 200 x := by
      intro x hx
      simp only [xs, List.mem_cons, List.not_mem_nil, or_false] at hx
      rcases hx with rfl | rfl | rfl | rfl | rfl
      · exact hx0.mono (by decide)
      · exact (r5 _ (by simp)).mono (by decide)
      · exact (r5 _ (by simp)).mono (by decide)
      · exact (r5 _ (by simp)).mono (by decide)
      · exact hnew
    obtain ⟨q10, q11, E4⟩ := r_ways R Y n (1 + v2) ⟨by omega, by omega⟩ (Rat.divInt a b) (hs.mono (by decide)) hs0 xs hxs (by simp [xs]) (dk c3 seed k3 (rest ++ [.gone])) p0 (some (.r 1)) (some (.d d)) (some (.d (.tup [.int a, .int b]))) o7' o8' o9' allW o10 o11
    obtain ⟨σ', G', ih⟩ := r_turns n seed p0 ds c3 k3 (rest ++ [.gone]) [some (.d d), some (.d (.tup [.int a, .int b])), some (iS (1 + v2)), some (.d (numD (Rat.divInt a b))), some (.d (.lst (xs.map numD))), o7', o8', o9', q10, q11] rfl (by omega) (by omega) r1
    refine ⟨σ', G', .rT rfl ?_ ih⟩
    refine .bC (.asg (.callG (R.bd _ (by simp)) (.cons (.var rfl) .nil) (up E1 1)) rfl) ?_
    refine .bC (.asg (.bin .con (E2 _ 1 (.con (.int 50)) rfl .con) rfl rfl rfl trivial) rfl) ?_
    refine .bC (.asg (e_new2 R (n := n + 5) (.cons (.sub (.var rfl) .con rfl rfl (by intro d h; cases h; trivial)) (.cons (.sub (.var rfl) .con rfl rfl (by intro d h; cases h; trivial)) .nil)) b0 (by unfold Bd; omega)) rfl) ?_
    refine .bC (σ1 := [p0, some (.r 1), some (.d d), some (.d (.tup [.int a, .int b])), some (iS (1 + v2)), some (numS (Rat.divInt a b)), some (.r (2 + rest.length)), o7, o8, o9, o10, o11]) (G1 := dk c2 seed (k1 + 1) (rest ++ [.lst []])) ?_ ?_
    · have e := dk_len c2 seed (k1 + 1) rest
      have m := Ev.mtn (Γ := Γ) (n := n + 8) (e := .lst []) (σ := [p0, some (.r 1), some (.d d), some (.d (.tup [.int a, .int b])), some (iS (1 + v2)), some (numS (Rat.divInt a b)), o6, o7, o8, o9, o10, o11]) (G := dk c2 seed (k1 + 1) rest) (.lst .nil (by decide))
      rw [e] at m
      exact .asg m rfl
    refine .bC (.for_ (.irng1 .con ⟨by decide, by decide⟩) E3) ?_
    have hz : sizeLine = 16777216 := sizeLine_eq
    refine .bC (σ1 := [p0, some (.r 1), some (.d d), some (.d (.tup [.int a, .int b])), some (iS (1 + v2)), some (numS (Rat.divInt a b)), some (.r (2 + rest.length)), o7', o8', o9', o10, o11]) (G1 := dk c3 seed k3 (rest ++ [.lst (xs.map numS)])) ?_ ?_
    · have eS : dk c3 seed k3 (rest ++ [.lst (xs.map numS)]) = (dk c3 seed k3 (rest ++ [.lst ([x0, x1, x2, x3].map numS)])).set (2 + rest.length) (.lst (([x0, x1, x2, x3] : List Rat).map numS ++ [numS (x0 + Rat.divInt a b / ((7 : Int) : Rat))])) := by
        rw [dk_set]
        rfl
      rw [eS]
      refine .exp (.mmA (l := [x0, x1, x2, x3].map numS) (l0 := [x0, x1, x2, x3].map numS) (.var rfl) (dk_at _ _ _ _ _) (e_more R (n := n + 4) (.sub (w := .r (2 + rest.length)) (.var rfl) .con rfl ?_ (by intro d h; cases h)) (e_over R (n := n + 4) (.var rfl) (e_new1 R (n := n + 5) .con) (hs.mono (by decide)) (h7.mono (by decide)) (by decide)) (hx0.mono (by decide)) (hov.mono (by decide))) (dk_at _ _ _ _ _) (by simp [hz]))
      unfold subG
      simp only []
      rw [dk_at]
      rfl
    refine .frz (i := 6) (k := 2 + rest.length) (ws := xs.map numS) (ds := xs.map numD) rfl (dk_at _ _ _ _ _) (by
      have : xs.map numS = (xs.map numD).map .d := by rw [List.map_map]; rfl
      rw [this]; exact ofSvs_d R _) ?_
    rw [dk_set]
    exact .bC (.for_ (.iseq .con rfl) E4) .bN
theorem a_law (n : Nat) (ns : List Int) : ∃ G', Ev Γ (n + 9) (.j (.F (.L 7) [.d (.scr ns)] [] (.ok (.d (.bl true))) G')) := by
  obtain ⟨cs, seed, hl, h1⟩ := a_deck R (n + 7) ns
  obtain ⟨σ', G', h2⟩ := r_turns R Y n seed (some (.d (.scr ns))) ((List.range (10 : Int).toNat).map fun (k : Nat) => .int (k : Int)) cs 0 [] [none, none, none, none, none, none, none, none, none, none] rfl (by decide) (by simp) hl
  exact ⟨G', .fnR R.law rfl (.bC (.asg (.callG (R.bd _ (by simp)) (.cons (.var rfl) .nil) h1) rfl) (.bC (.for_ (.irng1 .con ⟨by decide, by decide⟩) h2) (.bX (.ret .con) noRet)))⟩
end
end Fx.K85

end

section
set_option Elab.async false
set_option linter.all false
set_option maxRecDepth 100000
set_option maxHeartbeats 2000000
/-! What is handed out, and the frames. -/
namespace Fx.K85
open PySem L2 Fx
theorem beqB (a : Bool) : ((a == true) = a) ∧ ((a == false) = !a) := by cases a <;> exact ⟨rfl, rfl⟩
section
variable {Γ : Pg}
theorem ev_told (n : Nat) (w : Wy) (c : Int) (p : Rat) (hp : RB 3000 p) : Ev Γ n (.j (.B b_told [some (.d (.int c)), some (.d (numD p)), some (.d (.str w.s)), none] [] (.ret (.d (.bl (w.g c p)))) [])) := by
  have h2 : CMulX 2 p.num := Bd.okM (Bd.mono (a := 2) (b := 2) (by unfold Bd; decide) (by decide)) hp.1 (by decide)
  obtain ⟨k1, k2⟩ := two_mul_num p
  refine .bC (σ1 := [some (.d (.int c)), some (.d (numD p)), some (.d (.str w.s)), some (.d (.int (2 * p.num - p.den)))]) (G1 := []) (.asg (.bin (.bin .con (.attr (.var rfl) rfl) rfl rfl rfl h2) (.attr (.var rfl) rfl) rfl rfl rfl trivial) rfl) ?_
  have hI : ∀ (x y : Str) (b : Bool), ((([D.str x, .str y] : List D).any fun z => eqD z (.str w.s)) = b) → Ev Γ n (.j (.T (.cmp .in_ (.var 2) (.tup [(.con (.str x)), (.con (.str y))])) [some (.d (.int c)), some (.d (numD p)), some (.d (.str w.s)), some (.d (.int (2 * p.num - p.den)))] [] b [])) := fun x y b e =>
    .cmp (.var rfl) (.tup (.cons .con (.cons .con .nil)) rfl (by show 2 ≤ sizeLine; rw [sizeLine_eq]; decide)) rfl rfl (by show some (D.bl (([D.str x, .str y] : List D).any fun z => eqD z (.str w.s))) = _; rw [e]) (by exact ⟨rfl, rfl⟩)
  have hE : ∀ (x : Str) (b : Bool), eqD (.str w.s) (.str x) = b → Ev Γ n (.j (.E (.bin .eq (.var 2) (.con (.str x))) [some (.d (.int c)), some (.d (numD p)), some (.d (.str w.s)), some (.d (.int (2 * p.num - p.den)))] [] (.ok (.d (.bl b))) [])) := fun x b e =>
    .bin (.var rfl) .con rfl rfl (by show some (D.bl (eqD (.str w.s) (.str x))) = _; rw [e]) (.inl rfl)
  have hI1 := hI "high" "low"
  have hI2 := hI "up" "down"
  have hI3 := hI "half up" "half down"
  have sgn : ∀ (x : Str) (b r : Bool), eqD (.str w.s) (.str x) = b → (decide (0 ≤ c) == b) = r → Ev Γ n (.j (.E (.bin .eq (.bin .ge (.var 0) (.con (.int 0))) (.bin .eq (.var 2) (.con (.str x)))) [some (.d (.int c)), some (.d (numD p)), some (.d (.str w.s)), some (.d (.int (2 * p.num - p.den)))] [] (.ok (.d (.bl r))) [])) := fun x b r e e2 =>
    .bin (.bin (.var rfl) .con rfl rfl rfl trivial) (hE x b e) rfl rfl (by show some (D.bl (eqD (.bl (decide (0 ≤ c))) (.bl b))) = _; rw [← e2]; rfl) (.inl rfl)
  have tw : ∀ (b : Bool) (l : List CS), decide (2 * p = 1) = b → (b = true → Ev Γ n (.j (.B l [some (.d (.int c)), some (.d (numD p)), some (.d (.str w.s)), some (.d (.int (2 * p.num - p.den)))] [] (.ret (.d (.bl (w.g c p)))) []))) → (b = false → decide (1 < 2 * p) = w.g c p) →
      Ev Γ n (.j (.B (.ite (.cmp .ne (.var 3) (.con (.int 0))) [(.ret (.bin .gt (.var 3) (.con (.int 0))))] [] :: l) [some (.d (.int c)), some (.d (numD p)), some (.d (.str w.s)), some (.d (.int (2 * p.num - p.den)))] [] (.ret (.d (.bl (w.g c p)))) [])) := fun b l e h1 h0 => by
    cases b with
    | true =>
      have e := k1.mp (of_decide_eq_true e)
      exact .bC (.iteF (.cmp (.var rfl) .con rfl rfl (by show some (D.bl (!(2 * p.num - (p.den : Int) == 0))) = _; rw [show 2 * p.num - (p.den : Int) = 0 by omega]; rfl) (.inl rfl)) .bN) (h1 rfl)
    | false =>
      have e : ¬ 2 * p.num = (p.den : Int) := fun z => of_decide_eq_false e (k1.mpr z)
      refine .bX (.iteT (.cmp (.var rfl) .con rfl rfl (by show some (D.bl (!(2 * p.num - (p.den : Int) == 0))) = _; rw [beq_false_of_ne (by omega)]; rfl) (.inl rfl)) (.bX (.ret (.bin (.var rfl) .con rfl rfl ?_ trivial)) noRet)) noRet
      rw [← h0 rfl]
      show some (D.bl (decide (0 < 2 * p.num - (p.den : Int)))) = _
      have e2 : decide (0 < 2 * p.num - (p.den : Int)) = decide (1 < 2 * p) := decide_eq_decide.mpr ⟨fun _ => k2.mpr (by omega), fun z => by have := k2.mp z; omega⟩
      rw [e2]
  cases w with
  | high => exact .bX (.iteT (hI1 true (by decide +kernel)) (.bX (.ret (hE _ true (by decide +kernel))) noRet)) noRet
  | low => exact .bX (.iteT (hI1 true (by decide +kernel)) (.bX (.ret (hE _ false (by decide +kernel))) noRet)) noRet
  | up => exact .bC (.iteF (hI1 false (by decide +kernel)) .bN) (.bX (.iteT (hI2 true (by decide +kernel)) (.bX (.ret (sgn _ true _ (by decide +kernel) (beqB _).1)) noRet)) noRet)
  | down => exact .bC (.iteF (hI1 false (by decide +kernel)) .bN) (.bX (.iteT (hI2 true (by decide +kernel)) (.bX (.ret (sgn _ false _ (by decide +kernel) (by rw [(beqB _).2]; show _ = decide (c < 0); rw [← decide_not]; exact decide_eq_decide.mpr ⟨fun _ => by omega, fun _ => by omega⟩))) noRet)) noRet)
  | hu => exact .bC (.iteF (hI1 false (by decide +kernel)) .bN) (.bC (.iteF (hI2 false (by decide +kernel)) .bN) (tw _ _ rfl (fun e => .bX (.iteT (hI3 true (by decide +kernel)) (.bX (.ret (sgn _ true _ (by decide +kernel) (by rw [(beqB _).1]; show _ = halfB p _; unfold halfB; rw [if_pos (of_decide_eq_true e)]))) noRet)) noRet) fun e => by show _ = halfB p _; unfold halfB; rw [if_neg (of_decide_eq_false e)]))
  | hd => exact .bC (.iteF (hI1 false (by decide +kernel)) .bN) (.bC (.iteF (hI2 false (by decide +kernel)) .bN) (tw _ _ rfl (fun e => .bX (.iteT (hI3 true (by decide +kernel)) (.bX (.ret (sgn _ false _ (by decide +kernel) (by rw [(beqB _).2]; show _ = halfB p _; unfold halfB; rw [if_pos (of_decide_eq_true e), ← decide_not]; exact decide_eq_decide.mpr ⟨fun _ => by omega, fun _ => by omega⟩))) noRet)) noRet) fun e => by show _ = halfB p _; unfold halfB; rw [if_neg (of_decide_eq_false e)]))
  | he => exact .bC (.iteF (hI1 false (by decide +kernel)) .bN) (.bC (.iteF (hI2 false (by decide +kernel)) .bN) (tw _ _ rfl (fun e => .bC (.iteF (hI3 false (by decide +kernel)) .bN) (.bX (.ret (.bin (.bin (.bin (.var rfl) .con rfl rfl rfl (by show (0 : Int) < 2; decide)) .con rfl rfl rfl (.inl rfl)) (hE _ false (by decide +kernel)) rfl rfl (by
      show some (D.bl ((c % 2 == 0) == false)) = some (D.bl (halfB p (c % 2 == 1)))
      unfold halfB
      rw [if_pos (of_decide_eq_true e), (beqB _).2]
      rcases Int.emod_two_eq c with z | z <;> rw [z] <;> rfl) (.inl rfl))) noRet)) fun e => by show _ = halfB p _; unfold halfB; rw [if_neg (of_decide_eq_false e)]))
  | ho => exact .bC (.iteF (hI1 false (by decide +kernel)) .bN) (.bC (.iteF (hI2 false (by decide +kernel)) .bN) (tw _ _ rfl (fun e => .bC (.iteF (hI3 false (by decide +kernel)) .bN) (.bX (.ret (.bin (.bin (.bin (.var rfl) .con rfl rfl rfl (by show (0 : Int) < 2; decide)) .con rfl rfl rfl (.inl rfl)) (hE _ true (by decide +kernel)) rfl rfl (by
      show some (D.bl ((c % 2 == 0) == true)) = some (D.bl (halfB p (c % 2 == 0)))
      unfold halfB
      rw [if_pos (of_decide_eq_true e), (beqB _).1]) (.inl rfl))) noRet)) fun e => by show _ = halfB p _; unfold halfB; rw [if_neg (of_decide_eq_false e)]))
end
end Fx.K85

end

section
set_option Elab.async false
set_option linter.all false
set_option maxRecDepth 100000
set_option maxHeartbeats 2000000
/-! The frames of the law are sound. -/
namespace Fx.K85
open PySem PySem.Spec L2 PyProof.Rows Fx LamX NdefX
def noX : F → List D → D → Prop := fun _ _ _ => False
def noC : Str → List D → D → Prop := fun _ _ _ => False
def ext85 : F → List D → D → Prop := fun f ds d => f = .L 4 ∧ ∃ y : Str, ds = [.str y] ∧ d = .clo y
def clo85 : Str → List D → D → Prop := fun x ds v => ∃ (w : Wy) (c : Int) (q : Rat), RB 3000 q ∧ x = w.s ∧ ds = [.int c, numD q] ∧ v = .bl (w.g c q)
theorem pr85 {ext : F → List D → D → Prop} {clo : Str → List D → D → Prop} : Pr85 (G85 ext clo) where
  divisor_of := rfl
  init := rfl
  eq := rfl
  more := rfl
  less := rfl
  times := rfl
  over := rfl
  below := rfl
  size := rfl
  floor := rfl
  by_half := rfl
  goes_up := rfl
  goes_down := rfl
  goes_high := rfl
  goes_low := rfl
  goes_half_up := rfl
  goes_half_down := rfl
  goes_half_even := rfl
  goes_half_odd := rfl
  counts_of := rfl
  count_by := rfl
  neighbours := rfl
  rounded := rfl
  deck := rfl
  draw := rfl
  grain := rfl
  near := rfl
  one_right := rfl
  order_right := rfl
  law := rfl
  bd f h := by
    show f ∈ bd85
    simp only [List.mem_cons, List.not_mem_nil, or_false] at h
    simp only [bd85, List.mem_cons, List.not_mem_nil, or_false]
    grind
  nw := ⟨⟨rfl, .inl rfl⟩, ⟨rfl, .inr rfl⟩⟩
  tb := rfl
theorem pw85 : Pw85 (G85 ext85 clo85) where
  gd w := by cases w <;> rfl
  clo w c p h := ⟨w, c, p, h, rfl, rfl, rfl⟩
  ext w := ⟨rfl, _, rfl, rfl⟩
theorem sc_told : NScope n_told ["_law_count", "_law_part"] ["_law_rule"] (defScope s_told) := nscope_by (by decide +kernel)
theorem sc_fun : FnScope ["_law_rule", "_law_told"] ["_law_rule"] (defScope sFun) := ⟨rfl, rfl, rfl, by decide +kernel, rfl, by decide +kernel, by decide +kernel⟩
theorem fun_told : ∃ pos p1 p2, defBody sFun = [.FunctionDef told.name told.params told.body [] none [] told.scope none told.name pos, .Return (some (.Name told.name p1)) p2] := ⟨_, _, _, rfl⟩
section
variable {P : Program} {w : World} {K : PySem.W.Frag} {mg : Str → Option Value} {base h : Heap} {PT : Addr}
theorem cl_rel (x : Str) (a : Addr) (φ : Hp) : (T85 P w K mg base PT).cloR x a φ ↔ cloRel told x a φ := Iff.rfl
variable (X : K.In h) (G : h.Ns mainGlobals mg) (c : He.SaysX fa85 fn85 ts85 tf85 ex85 w h K)
include X G c
theorem ok0 : FxOk (T85 P w K mg base PT) (F85 K) tb85 (G85 noX noC) where
  F := fc85 X G c
  B := fb85 X G c
  E := fe85 X G c
  K := ⟨fun _ I r => fk_fnAt cl_rel I r, fun X _ => fk_isi cl_rel X, fun z => z.elim⟩
  fn := fne85 X G c
  kwt := fun f m nm z => by
    obtain ⟨rfl, rfl, rfl⟩ := z
    exact ⟨rfl, rfl, rfl⟩
  ext := fun _ _ _ z => z.elim
theorem fk85 : Fk (T85 P w K mg base PT) clo85 where
  fnAt := fun _ I r => fk_fnAt cl_rel I r
  isi := fun X _ => fk_isi cl_rel X
  call := fun {x ds w} hc => fk_call (d := told) (clo := clo85) cl_rel (N := n_told) (ps := ["_law_count", "_law_part"]) (κ0 := k_told) sc_told (fun _ _ _ _ _ us hl => match us, hl with | [_, _], _ => rfl) rfl rfl kb_told rfl
    (fun x ds w z => by
      obtain ⟨w, c1, q, hq, rfl, rfl, rfl⟩ := z
      exact ⟨rfl, ev_sound (ok0 X G c) (ev_told 2 w c1 q hq) _ _ er_told⟩)
    (fun x ds w z φ cc y vs hcc r => by
      obtain ⟨w, c1, q, hq, rfl, rfl, rfl⟩ := z
      obtain ⟨v0, r0, e0, q0, h0⟩ := r
      obtain ⟨v1, r1, e1, q1, h1⟩ := h0
      subst h1 e0 e1
      refine ⟨v0, _, rfl, q0, v1, _, rfl, ?_, rfl⟩
      obtain ⟨hN, a, dx, us, e, k, rr⟩ := q1
      refine ⟨hN, a, dx, us, e, ?_, ?_⟩
      · rw [hide_ne (fun z => by rw [z, hcc] at k; cases k)]; exact k
      · exact rr) hc
theorem ext_told (TB : TabB base mg (He.cT K ("_law_function", none)).1 PT) (y : Str) : FP (T85 P w K mg base PT) (F85 K) 4 (.L 4) [.d (.str y)] [] (.d (.clo y)) [] := by
  obtain ⟨pos, p1, p2, e⟩ := fun_told
  have FD := funD85 c.t.d 27 (d := dd_told) rfl
  unfold dd_told at FD
  simp only [e] at FD
  exact fp_clo (T := T85 P w K mg base PT) (Φ := F85 K) (f := .L 4) (d := told) cl_rel FD sc_fun rfl (by decide +kernel) (by decide +kernel) (fun c1 ⟨oc, od, fd, osl, lk, ec⟩ => by
      have := He.codeOf_eq (p := ("_law_function", none)) lk ec
      subst this
      exact TB) (.head _) (fun p hp _ => by
      rw [List.mem_singleton.mp hp]) (by decide +kernel) rfl (by decide +kernel) rfl rfl (fun _ => rfl) (fun _ => by rfl) (fun _ => by rfl) (by decide +kernel) y
theorem ok85 (TB : TabB base mg (He.cT K ("_law_function", none)).1 PT) : FxOk (T85 P w K mg base PT) (F85 K) tb85 (G85 ext85 clo85) where
  F := fc85 X G c
  B := fb85 X G c
  E := fe85 X G c
  K := fk85 X G c
  fn := fne85 X G c
  kwt := fun f m nm z => by
    obtain ⟨rfl, rfl, rfl⟩ := z
    exact ⟨rfl, rfl, rfl⟩
  ext := fun f ds d z => by
    obtain ⟨rfl, y, rfl, rfl⟩ := z
    exact ext_told X G c TB y
theorem law85 (TB : TabB base mg (He.cT K ("_law_function", none)).1 PT) (ns : List Int) : ∃ G', FP (T85 P w K mg base PT) (F85 K) 9 (.L 7) [.d (.scr ns)] [] (.d (.bl true)) G' := by
  obtain ⟨G', z⟩ := a_law pr85 pw85 0 ns
  exact ⟨G', ev_sound (ok85 X G c TB) z⟩
end
end Fx.K85

end

section
set_option Elab.async false
set_option linter.all false
set_option maxRecDepth 100000
set_option maxHeartbeats 0
/-! The law's end. -/
namespace Fx.K85
open PySem PySem.Spec L2 PyProof.Rows Fx LamX NdefX
def noT (H : Hp) : Hp := fun a => match H a with
  | some (.tbl _) => none
  | o => o
theorem noT_le (H : Hp) : Le (noT H) H := fun a o e => by
  unfold noT at e
  split at e
  · cases e
  · exact e
theorem noT_nt (H : Hp) (a : Addr) (ps : Array Value) : noT H a ≠ some (.tbl ps) := fun e => by
  unfold noT at e
  split at e
  · cases e
  · rename_i h; exact h _ e
theorem noT_at {H : Hp} {a : Addr} {o : L2.HO} (h : H a = some o) (n : ∀ ps, o ≠ .tbl ps) : noT H a = some o := by
  unfold noT
  split
  · rename_i ps e; rw [h] at e; cases e; exact absurd rfl (n _)
  · exact h
def lawS (K : PySem.W.Frag) (PT : Addr) : Sp := fun vs H Q _ => ∃ (a : Addr) (ns : List Int), vs = [.ref a] ∧ SqL K H a (ns.map V.int) ∧ H PT = some (.tbl #[]) ∧ ∀ H', Q (.bl true) H'
section
variable {P : Program} {w : World} {K : PySem.W.Frag} {mg : Str → Option Value} {base h : Heap} {PT : Addr}
theorem lawS_in {vs : List V} {H : Hp} {Q : VK} {E : XK} (s : lawS K PT vs H Q E) (g : List Int → Gs) : ∃ ns, spI (T85 P w K mg base PT) [.d (.scr ns)] [] (.d (.bl true)) (g ns) vs H Q E := by
  obtain ⟨a, ns, rfl, sq, ht, q⟩ := s
  refine ⟨ns, ⟨noT H, []⟩, ⟨noT_le H, List.nodup_nil, rfl, fun i m b z _ => (by simp at z), fun b z => (by cases z), ?_, noT_nt H⟩, ⟨_, _, rfl, ⟨a, rfl, ?_⟩, rfl⟩, fun ω' H' v _ _ r => ?_⟩
  · intro p hp
    rw [List.mem_singleton.mp hp]
    exact TabN.nil ht
  · rcases sq with (r | ⟨o, r⟩) | k
    · exact .inl (.inl (noT_at r fun _ z => by cases z))
    · exact .inl (.inr ⟨o, noT_at r fun _ z => by cases z⟩)
    · exact .inr k
  · cases (show v = .bl true from r)
    exact q H'
end
theorem law_at {w : World} {mg : Str → Option Value} {fa : Addr} {h : Heap} (Y : ∃ K : PySem.W.Frag, K.In h ∧ He.SaysX fa85 fn85 ts85 tf85 ex85 w h K) (G : h.Ns mainGlobals mg) (hmg : mg ("law" : Str) = some (.ref fa)) :
    ∃ K : PySem.W.Frag, K.In h ∧ LawAtS PySem.Challenge.rw_figuretexts_k85_whole_rounding_by_all_wa w K CX0 9 63 "_law_script" mg fa h := by
  obtain ⟨K, KX, c⟩ := Y
  have e := hmg.symm.trans (He.glo_ok KX G (c.t.d.fact 21 (f := .glo "law") rfl))
  cases e
  have F := funD85 c.t.d 30 (d := dd_law) rfl
  have b := FunD.bindsA (ps := ["_law_script"]) F fun _ _ _ _ _ _ us hl => match us, hl with | [_], _ => rfl
  refine ⟨K, KX, _, [He.cT K ("_law_function", none)], lawS K (He.cT K ("_law_function", none)).2, fun p hp => ?_, fun p hp => ?_, fun p hp => ?_, fun s u => b s [u] rfl, fun H a ns hl _ ht hs => ⟨a, ns, rfl, hs, ht _ (.head _), fun _ => rfl⟩, fun base hb hn tb => ?_⟩
  · rw [List.mem_singleton.mp hp]; exact c.empty _ (.head _)
  · rw [List.mem_singleton.mp hp]; exact c.out _ (.head _)
  · rw [List.mem_singleton.mp hp]; exact PySem.W.codeHd_of_K KX (c.hd _ (.head _))
  · have L := fun ns => law85 (P := (PySem.Challenge.rw_figuretexts_k85_whole_rounding_by_all_wa).prog) (w := w) (base := base) KX G c (tb _ (.head _)) ns
    let g : List Int → Gs := fun ns => Classical.choose (L ns)
    have hg : ∀ ns, FP _ _ 9 (.L 7) [.d (.scr ns)] [] (.d (.bl true)) (g ns) := fun ns => Classical.choose_spec (L ns)
    exact {
      len := fun vs H Q E z => by
        obtain ⟨ns, z⟩ := lawS_in z g
        exact (hg ns CX0).len vs H Q E z
      run := fun A outer s H args us vs Q E hr e0 hb r z => by
        obtain ⟨ns, z⟩ := lawS_in z g
        exact (hg ns CX0).run A outer s H args us vs Q E hr e0 hb r z }
end Fx.K85
open PySem PySem.W PySem.Calls PyProof.Rows
theorem PySem.Challenge.cw_figuretexts_k85_whole_rounding_by_all_wa_holds : PySem.Challenge.rw_figuretexts_k85_whole_rounding_by_all_wa.Holds := by
  w_on; o_law
  refine HandSHeadRun.head_any (r := Fx.K85.R85) (q := view Fx.K85.R85.prog [31]) (H := Fx.K85.hk85) (ob := Fx.K85.ob85) (M := 3000) (loose := Fx.K85.loose85) (d := HandSHeadRun.topDef Fx.K85.R85.prog 31) (kwd := []) Fx.K85.ob85_eq
    (by kernel_rfl) (fun s => by kernel_rfl) Fx.K85.run85 (by kernel_rfl) (by kernel_rfl) (by kernel_rfl) (by rfl) (by first | assumption | decide +kernel) (by decide +kernel) ⟨rfl, rfl, rfl, rfl, rfl, by decide +kernel⟩ ?hw ?hc
  case hw => w_witness2
  case hc =>
    refine LamX.walk_ofTsE (l := PySem.Challenge.rw_figuretexts_k85_whole_rounding_by_all_wa) (n := 63) (k := 9) (x := "_law_script") (CX := fun _ => L2.CX0) rfl (by decide) (by kernel_rfl) ⟨rfl, by decide, by decide⟩ ?F (fun _ _ _ _ _ z => z)
    intro w mg fa h Y G hmg0
    have hmg : mg ("law" : PySem.Str) = some (.ref fa) := by
      have e : (HandSHeadRun.topDef Fx.K85.R85.prog 31).name = ("law" : PySem.Str) := by kernel_rfl
      rw [← e]
      exact hmg0
    exact Fx.K85.law_at Y G hmg

end
