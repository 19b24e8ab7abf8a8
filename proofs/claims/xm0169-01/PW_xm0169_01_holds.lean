import PyProof.Rows.All
import Wide.All
import OpenK.AllK
import Wide.FinOn
import PySem.Challenge.RW_xm0169_01
open PySem PySem.W PySem.Calls PySem.Spec PyProof.Rows
set_option Elab.async false
set_option maxRecDepth 1000000
set_option maxHeartbeats 0
set_option linter.all false
namespace Mine
theorem keep3 {P R Q : Prop} (f : P → R → Q) (h : P) (k : R) : Q := f h k
theorem drop3 {P R Q : Prop} (_ : P → R → Q) : True := trivial
/-- nothing is claimed here: the head's tactic writes out the heap and the view (its goals named hl and hc are kept for us) -/
theorem top : True := by
  refine' drop3 (Q := PySem.Challenge.rw_xm0169_01.row.wellSaid = true → PySem.Challenge.rw_xm0169_01.row.Holds) ?m
  case m =>
    intro h1 h2
    refine' keep3 ?f ?hl ?hc
    case f =>
      intro _ _
      w_on
      intro said
      k_head
      case hw => w_witness2
    case hl => exact h1
    case hc => exact h2
abbrev loose : List Str := [Str.ofString "is_part_captures", Str.ofString "is_part_holding", Str.ofString "ChanError"]
section
noncomputable abbrev LO : List Str := looseW Mine.top.view_1 [Str.ofString "is_part_captures", Str.ofString "is_part_holding", Str.ofString "ChanError"]
abbrev lstO (vs : List Value) (n : Nat) : Obj := { cls := .type "list", data := .seq vs.toArray n }

abbrev tupA (vs : Array Value) : Obj := { cls := .type "tuple", data := .seq vs }
abbrev S (x : String) : Str := Str.ofString x
theorem fm0 {a b : Int} (h : 0 < b) : 0 ≤ a.fmod b := Int.fmod_nonneg_of_pos a h
theorem fm1 {a b : Int} (h : 0 < b) : a.fmod b < b := Int.fmod_lt_of_pos a h
theorem fd0 {a b : Int} (ha : 0 ≤ a) (h : 0 < b) : 0 ≤ a.fdiv b := by
  rw [Int.fdiv_eq_ediv_of_nonneg _ (by omega)]; exact Int.ediv_nonneg ha (by omega)
theorem fd1 {a b : Int} (ha : 0 ≤ a) (h : 0 < b) : a.fdiv b ≤ a := by
  rw [Int.fdiv_eq_ediv_of_nonneg _ (by omega)]; exact Int.ediv_le_self b ha
theorem mulOk {a b : Int} (h0 : 0 ≤ a) (h1 : a < 2147483647) : IntMulOk a b := PySem.IntMulOk.of_left (PySem.intBits_le_64 (by omega) (by omega))
theorem item_news {prog : Program} {w : World} {A : Around} {E : Value → Shared → Prop} {s : Shared} {value slice : Expr} {h₀ : Heap} {L l : Addr} {news : List (Addr × Obj)} {vs : List Value} {n : Nat} {k : Int} {u : Tok} {v : Value} {Q : Value → Shared → Prop}
    (N : News h₀ L s.heap news) (hm : (l, lstO vs n) ∈ news) (h0 : 0 ≤ k) (hhi : k < 2 ^ 63) (hx : vs[k.toNat]? = some v) (h : Q v s)
    (hs : subscripted slice false (.ref l) (.int k u) = operate [.ref l, .int k u] (getItem (.ref l) (.int k u)) := by with_unfolding_all rfl) :
    wpAny (model prog w) A (subscriptTail value slice (.ref l) (.int k u)) Q E s :=
  have hl := News.isList N hm
  tail_any hl.typeIs slot_list_getitem.lookup (wpAny_getItem_list hl h0 hhi (by simpa using hx) h) hs
/-- the small ledger lies in the great one -/
def Sub (a b : List (Addr × Obj)) : Prop := ∀ p ∈ a, p ∈ b
abbrev Off (src : Addr) (n : List (Addr × Obj)) : Prop := ∀ p ∈ n, p.1 ≠ src
theorem Sub.refl {a : List (Addr × Obj)} : Sub a a := fun _ h => h
theorem Sub.trans {a b c : List (Addr × Obj)} (h : Sub a b) (k : Sub b c) : Sub a c := fun p hp => k p (h p hp)
theorem Sub.cons {a b : List (Addr × Obj)} {p : Addr × Obj} (h : Sub a b) : Sub a (p :: b) := fun q hq => .tail _ (h q hq)
/-- the head's objects stand apart -/
abbrev OffL (hd n : List (Addr × Obj)) : Prop := ∀ p ∈ hd, ∀ q ∈ n, q.1 ≠ p.1
theorem OffL.nil {n : List (Addr × Obj)} : OffL [] n := fun _ h => nomatch h
theorem OffL.one {d : Addr} {o : Obj} {n : List (Addr × Obj)} (h : Off d n) : OffL [(d, o)] n := fun p hp => by
  cases List.mem_singleton.mp hp
  exact h
theorem OffL.off {d : Addr} {o : Obj} {hd n : List (Addr × Obj)} (h : OffL ((d, o) :: hd) n) : Off d n := h _ (.head _)
theorem OffL.tail {p : Addr × Obj} {hd n : List (Addr × Obj)} (h : OffL (p :: hd) n) : OffL hd n := fun q hq => h q (.tail _ hq)
theorem OffL.cons {d : Addr} {o : Obj} {hd n : List (Addr × Obj)} (a : Off d n) (h : OffL hd n) : OffL ((d, o) :: hd) n := fun q hq => by
  rcases List.mem_cons.mp hq with rfl | hq
  · exact a
  · exact h q hq
theorem Off.app {d : Addr} {hd n : List (Addr × Obj)} (a : Off d hd) (b : Off d n) : Off d (hd ++ n) := fun p hp => (List.mem_append.mp hp).elim (a p) (b p)
theorem Sub.mem {a b : List (Addr × Obj)} {p : Addr × Obj} (k : Sub a b) (h : p ∈ a) : p ∈ b := k p h
theorem gen_tok1 {M : Model} {A : Around} {E : Value → Shared → Prop} {α : Type} {t : Sem α} {Q : α → Shared → Prop} {h : Heap} {g d n o} (H : ∀ tk, wpAny M A t Q E ⟨h, g, d, tk, o⟩) : wpAny M A t Q E ⟨h, g, d, n + 1, o⟩ := H _
section
variable {M : Model} {A : Around} {E : Value → Shared → Prop} {s : Shared} {h₀ : Heap} {L src : Addr} {m : Str → Option Value} {n : List (Addr × Obj)} {o : Obj} {vs : List Value}
theorem newsAll {h₀ h : Heap} {L : Addr} {small big : List (Addr × Obj)} (N : News h₀ L h big) (hs : Sub small big) : News h₀ L h small := fun p hp => N p (hs p hp)
theorem swapN {h : Heap} {p q : Addr × Obj} (N : News h₀ L h (p :: q :: n)) : News h₀ L h (q :: p :: n) := fun x hx => N x (by
  simp only [List.mem_cons] at hx ⊢
  rcases hx with h | h | h
  · exact .inr (.inl h)
  · exact .inl h
  · exact .inr (.inr h))
/-- a new tuple, the ledger's head is the source -/
theorem newTup {Q : Value → Shared → Prop} (F : Fr h₀ L s.heap m) (N : News h₀ L s.heap ((src, o) :: n)) (off : Off src n)
    (z : vs.length ≤ sizeLine) (h : ∀ D h' n', Fr h₀ L h' m → News h₀ L h' ((src, o) :: n') → Off src n' → Sub n n' → (D, tupA vs.toArray) ∈ n' → Q (.ref D) { s with heap := h' }) : wpAny M A (newTuple vs) Q E s :=
  kup_newTuple F N (fun D h' F' N' l => h D h' ((D, tupA vs.toArray) :: n) F' (swapN N') (fun p hp => by
    rcases List.mem_cons.mp hp with rfl | hp
    · exact (Nat.ne_of_lt (l _ (.head _))).symm
    · exact off p hp) (fun _ hp => .tail _ hp) (.head _)) z
theorem newLst {Q : Value → Shared → Prop} (F : Fr h₀ L s.heap m) (N : News h₀ L s.heap ((src, o) :: n)) (off : Off src n)
    (z : vs.length ≤ sizeLine) (h : ∀ D h' n', Fr h₀ L h' m → News h₀ L h' ((src, o) :: n') → Off src n' → Sub n n' → (D, lstO vs 0) ∈ n' → Q (.ref D) { s with heap := h' }) : wpAny M A (newList vs) Q E s :=
  newList_K F N (fun D h' F' N' l => h D h' ((D, lstO vs 0) :: n) F' (swapN N') (fun p hp => by
    rcases List.mem_cons.mp hp with rfl | hp
    · exact (Nat.ne_of_lt (l _ (.head _))).symm
    · exact off p hp) (fun _ hp => .tail _ hp) (.head _)) z
/-- the same, no source -/
theorem newTup0 {Q : Value → Shared → Prop} (F : Fr h₀ L s.heap m) (N : News h₀ L s.heap n)
    (z : vs.length ≤ sizeLine) (h : ∀ D h' n', Fr h₀ L h' m → News h₀ L h' n' → Sub n n' → (D, tupA vs.toArray) ∈ n' → Q (.ref D) { s with heap := h' }) : wpAny M A (newTuple vs) Q E s :=
  kup_newTuple F N (fun D h' F' N' _ => h D h' ((D, tupA vs.toArray) :: n) F' N' (fun _ hp => .tail _ hp) (.head _)) z
theorem newLst0 {Q : Value → Shared → Prop} (F : Fr h₀ L s.heap m) (N : News h₀ L s.heap n)
    (z : vs.length ≤ sizeLine) (h : ∀ D h' n', Fr h₀ L h' m → News h₀ L h' n' → Sub n n' → (D, lstO vs 0) ∈ n' → Q (.ref D) { s with heap := h' }) : wpAny M A (newList vs) Q E s :=
  newList_K F N (fun D h' F' N' _ => h D h' ((D, lstO vs 0) :: n) F' N' (fun _ hp => .tail _ hp) (.head _)) z
end
section
variable {M : Model} {A : Around} {E : Value → Shared → Prop} {s : Shared} {h₀ : Heap} {L : Addr} {m : Str → Option Value} {hd n : List (Addr × Obj)} {vs : List Value}
theorem addHs {h : Heap} {tl : List (Addr × Obj)} (N : News h₀ L h (tl ++ (hd ++ n))) (a : ∀ p ∈ tl, Off p.1 (hd ++ n)) (off : OffL hd n) : News h₀ L h (hd ++ (tl ++ n)) ∧ OffL hd (tl ++ n) := by
  refine ⟨fun p hp => N p ?_, fun p hp q hq => ?_⟩
  · simp only [List.mem_append] at hp ⊢
    rcases hp with h | h | h
    · exact .inr (.inl h)
    · exact .inl h
    · exact .inr (.inr h)
  · rcases List.mem_append.mp hq with h | h
    · exact (a q h p (List.mem_append.mpr (.inl hp))).symm
    · exact off p hp q h
theorem addH {h : Heap} {D : Addr} {x : Obj} (N : News h₀ L h ((D, x) :: (hd ++ n))) (a : ∀ p ∈ hd ++ n, p.1 < D) (off : OffL hd n) : News h₀ L h (hd ++ ((D, x) :: n)) ∧ OffL hd ((D, x) :: n) :=
  addHs (tl := [(D, x)]) N (fun p hp q hq => by cases List.mem_singleton.mp hp; exact Nat.ne_of_lt (a q hq)) off
theorem two_in {h : Heap} {x d : Addr} {ox od : Obj} (N : News h₀ L h ((x, ox) :: (d, od) :: (hd ++ n))) (l1 : ∀ p ∈ hd ++ n, p.1 < d) (l2 : d < x) (off : OffL hd n) :
    ∃ n1, News h₀ L h ((d, od) :: (hd ++ n1)) ∧ Off d hd ∧ Off d n1 ∧ Off d (hd ++ n1) ∧ OffL hd n1 ∧ Sub n n1 ∧ (x, ox) ∈ n1 := by
  have a : Off d hd := fun p hp => Nat.ne_of_lt (l1 p (List.mem_append_left _ hp))
  have b : Off d ((x, ox) :: n) := fun p hp => by
    rcases List.mem_cons.mp hp with rfl | hp
    · exact (Nat.ne_of_lt l2).symm
    · exact Nat.ne_of_lt (l1 p (List.mem_append_right _ hp))
  refine ⟨(x, ox) :: n, fun p hp => N p ?_, a, b, a.app b, fun p hp q hq => ?_, fun _ h => .tail _ h, .head _⟩
  · simp only [List.mem_cons, List.mem_append] at hp ⊢
    rcases hp with h | h | h | h
    · exact .inr (.inl h)
    · exact .inr (.inr (.inl h))
    · exact .inl h
    · exact .inr (.inr (.inr h))
  · rcases List.mem_cons.mp hq with rfl | hq
    · exact (Nat.ne_of_lt (Nat.lt_trans (l1 p (List.mem_append_left _ hp)) l2)).symm
    · exact off p hp q hq
theorem consApp {h : Heap} {p : Addr × Obj} (N : News h₀ L h ((p :: hd) ++ n)) : News h₀ L h (p :: (hd ++ n)) := N
theorem appCons {h : Heap} {p : Addr × Obj} (N : News h₀ L h (p :: (hd ++ n))) : News h₀ L h ((p :: hd) ++ n) := N
theorem subApp {p : Addr × Obj} {n' : List (Addr × Obj)} (s : Sub n n') : Sub (hd ++ n) ((p :: hd) ++ n') := fun q hq => by
  refine List.mem_cons_of_mem _ ?_
  rcases List.mem_append.mp hq with h | h
  · exact List.mem_append_left _ h
  · exact List.mem_append_right _ (s q h)
theorem offOfLt {d : Addr} {l : List (Addr × Obj)} (h : AllLt d l) : Off d l := fun p hp => Nat.ne_of_lt (ktn_ltOf h p hp)
theorem offOfLt0 {d : Addr} {l : List (Addr × Obj)} (h : ∀ p ∈ l, p.1 < d) : Off d l := fun p hp => Nat.ne_of_lt (h p hp)
theorem addH1 {h : Heap} {D : Addr} {x : Obj} (N : News h₀ L h ((D, x) :: (hd ++ n))) (a : Off D (hd ++ n)) (off : OffL hd n) : News h₀ L h (hd ++ ((D, x) :: n)) ∧ OffL hd ((D, x) :: n) :=
  addHs (tl := [(D, x)]) N (fun p hp q hq => by cases List.mem_singleton.mp hp; exact a q hq) off
theorem addH2 {h : Heap} {D T : Addr} {x y : Obj} (N : News h₀ L h ((D, x) :: (T, y) :: (hd ++ n))) (a : Off D ((T, y) :: (hd ++ n))) (b : Off T (hd ++ n)) (off : OffL hd n) : News h₀ L h (hd ++ ((D, x) :: (T, y) :: n)) ∧ OffL hd ((D, x) :: (T, y) :: n) :=
  addHs (tl := [(D, x), (T, y)]) N (fun p hp q hq => by
    rcases List.mem_cons.mp hp with rfl | hp
    · exact a q (.tail _ hq)
    · cases List.mem_singleton.mp hp; exact b q hq) off
theorem addH3 {h : Heap} {D T U : Addr} {x y z : Obj} (N : News h₀ L h ((D, x) :: (T, y) :: (U, z) :: (hd ++ n))) (a : Off D ((T, y) :: (U, z) :: (hd ++ n))) (b : Off T ((U, z) :: (hd ++ n))) (c : Off U (hd ++ n)) (off : OffL hd n) :
    News h₀ L h (hd ++ ((D, x) :: (T, y) :: (U, z) :: n)) ∧ OffL hd ((D, x) :: (T, y) :: (U, z) :: n) :=
  addHs (tl := [(D, x), (T, y), (U, z)]) N (fun p hp q hq => by
    rcases List.mem_cons.mp hp with rfl | hp
    · exact a q (.tail _ (.tail _ hq))
    · rcases List.mem_cons.mp hp with rfl | hp
      · exact b q (.tail _ hq)
      · cases List.mem_singleton.mp hp; exact c q hq) off
/-- a new tuple, what is altered stands at the ledger's head -/
theorem newTupH {Q : Value → Shared → Prop} (F : Fr h₀ L s.heap m) (N : News h₀ L s.heap (hd ++ n)) (off : OffL hd n)
    (z : vs.length ≤ sizeLine) (h : ∀ D h' n', Fr h₀ L h' m → News h₀ L h' (hd ++ n') → OffL hd n' → Sub n n' → (D, tupA vs.toArray) ∈ n' → Q (.ref D) { s with heap := h' }) : wpAny M A (newTuple vs) Q E s :=
  kup_newTuple F N (fun D h' F' N' l => h D h' ((D, tupA vs.toArray) :: n) F' (addH N' l off).1 (addH N' l off).2 (fun _ hp => .tail _ hp) (.head _)) z
theorem newLstH {Q : Value → Shared → Prop} (F : Fr h₀ L s.heap m) (N : News h₀ L s.heap (hd ++ n)) (off : OffL hd n)
    (z : vs.length ≤ sizeLine) (h : ∀ D h' n', Fr h₀ L h' m → News h₀ L h' (hd ++ n') → OffL hd n' → Sub n n' → (D, lstO vs 0) ∈ n' → Q (.ref D) { s with heap := h' }) : wpAny M A (newList vs) Q E s :=
  newList_K F N (fun D h' F' N' l => h D h' ((D, lstO vs 0) :: n) F' (addH N' l off).1 (addH N' l off).2 (fun _ hp => .tail _ hp) (.head _)) z
end
/-- two lists of the same items -/
theorem ne_sameL {prog : Program} {w : World} {A : Around} {E : Value → Shared → Prop} {s : Shared} {h₀ : Heap} {L a b : Addr} {n : List (Addr × Obj)} {vs : List Value} {c d : Nat} {Q : Value → Shared → Prop}
    (N : News h₀ L s.heap n) (ha : (a, lstO vs c) ∈ n) (hb : (b, lstO vs d) ∈ n) (hu : A.units < cLine) (h : Q (.bool false) s) : wpAny (model prog w) A (compareOp .NotEq (.ref a) (.ref b)) Q E s := by
  have h1 := (N _ ha).1
  have h2 := (N _ hb).1
  have e : (List.range vs.toArray.size).all (fun _ => true) = true := by simp
  exact richCompare_meets_room (op := .NotEq) ⟨_, h1, rfl⟩ ⟨_, h2, rfl⟩ PySem.F.slot_list_ne PySem.F.entry_list_ne (PySem.F.args_list_ne_2 _ _) (PySem.SeqAt.list_neAt a b vs.toArray vs.toArray c d none none #[] #[] rfl (fun _ => true))
    ⟨h1, h2, fun j h1 h2 => PySem.SeqAt.EqAt.same _, by rw [e]; exact ⟨(fun x => nomatch x), h⟩⟩ hu
/-- the source's list -/
def SrcOk (o : Obj) : Prop := ∃ x y t1 t2 n, o = lstO [.int x t1, .int y t2] n ∧ 0 ≤ x ∧ 0 ≤ y ∧ y < 2147483647
/-- is the type an array -/
inductive BIn (news : List (Addr × Obj)) : Value → Bool → Prop where
  | arr {h : Addr} {a b : Tok} {v : Value} : (h, tupA #[.str (Str.ofString "array") a, .int 2 b, v]) ∈ news → BIn news (.ref h) true
  | nam {h : Addr} {a b : Tok} : (h, tupA #[.str (Str.ofString "named") a, .str (Str.ofString "m.A") b]) ∈ news → BIn news (.ref h) true
  | sli {h : Addr} {a b : Tok} : (h, tupA #[.str (Str.ofString "named") a, .str (Str.ofString "m.L") b]) ∈ news → BIn news (.ref h) false
theorem BIn.mono {news news' : List (Addr × Obj)} {v : Value} {b : Bool} (h : BIn news v b) (hs : ∀ p ∈ news, p ∈ news') : BIn news' v b := by
  cases h with
  | arr h => exact .arr (hs _ h)
  | nam h => exact .nam (hs _ h)
  | sli h => exact .sli (hs _ h)
/-- a place at v, its type's slot T, its root, is it a part -/
inductive PIn (news : List (Addr × Obj)) : Value → Value → Option Int → Bool → Prop where
  | loc {a : Addr} {k z y : Tok} {T : Value} {x : Int} : (a, tupA #[.str (Str.ofString "local") k, T, .int 0 z, .int x y]) ∈ news → PIn news (.ref a) T (some x) false
  | call {a : Addr} {k z : Tok} {T u v : Value} : (a, tupA #[.str (Str.ofString "call") k, T, .int 0 z, u, v]) ∈ news → PIn news (.ref a) T none false
  | field {a b : Addr} {k z : Tok} {T T' u : Value} {r : Option Int} {i : Bool} : (a, tupA #[.str (Str.ofString "field") k, T, .int 0 z, .ref b, u]) ∈ news → PIn news (.ref b) T' r i → PIn news (.ref a) T r true
  | arr {a b : Addr} {k z : Tok} {T T' u : Value} {r : Option Int} {i : Bool} : (a, tupA #[.str (Str.ofString "index") k, T, .int 0 z, .ref b, u]) ∈ news → BIn news T' true → PIn news (.ref b) T' r i → PIn news (.ref a) T r true
  | sli {a b : Addr} {k z : Tok} {T T' u : Value} {r : Option Int} {i : Bool} : (a, tupA #[.str (Str.ofString "index") k, T, .int 0 z, .ref b, u]) ∈ news → BIn news T' false → PIn news (.ref b) T' r i → PIn news (.ref a) T none true
  | deref {a : Addr} {k z : Tok} {T u : Value} : (a, tupA #[.str (Str.ofString "deref") k, T, .int 0 z, u]) ∈ news → PIn news (.ref a) T none false
theorem PIn.mono {news news' : List (Addr × Obj)} {v T : Value} {r : Option Int} {b : Bool} (h : PIn news v T r b) (hs : ∀ p ∈ news, p ∈ news') : PIn news' v T r b := by
  induction h with
  | loc h => exact .loc (hs _ h)
  | call h => exact .call (hs _ h)
  | field h _ ih => exact .field (hs _ h) ih
  | arr h k _ ih => exact .arr (hs _ h) (k.mono hs) ih
  | sli h k _ ih => exact .sli (hs _ h) (k.mono hs) ih
  | deref h => exact .deref (hs _ h)
/-- what a place's tuple is, and the same place with another type -/
def Re (n : List (Addr × Obj)) (k : Str) (t z : Tok) (us : List Value) (r : Option Int) (b : Bool) : Prop :=
  ∀ n' a' T', Sub n n' → (a', tupA (List.toArray (.str k t :: T' :: .int 0 z :: us))) ∈ n' → PIn n' (.ref a') T' r b
theorem Re.use {n n' : List (Addr × Obj)} {k : Str} {t z : Tok} {us : List Value} {r : Option Int} {b : Bool} {a' : Addr} {T' : Value} (h : Re n k t z us r b) (s : Sub n n') (hm : (a', tupA (List.toArray (.str k t :: T' :: .int 0 z :: us))) ∈ n') : PIn n' (.ref a') T' r b := h _ _ _ s hm
theorem PIn.shapeG {n : List (Addr × Obj)} {v T : Value} {r : Option Int} {b : Bool} (h : PIn n v T r b) : ∃ a k t z us, v = .ref a ∧ 1 ≤ us.length ∧ us.length ≤ 2 ∧ (a, tupA (List.toArray (.str k t :: T :: .int 0 z :: us))) ∈ n ∧ Re n k t z us r b := by
  cases h with
  | loc h => exact ⟨_, _, _, _, [_], rfl, Nat.le_refl _, Nat.le_succ _, h, fun _ _ _ _ h' => .loc h'⟩
  | call h => exact ⟨_, _, _, _, [_, _], rfl, Nat.le_succ _, Nat.le_refl _, h, fun _ _ _ _ h' => .call h'⟩
  | field h k => exact ⟨_, _, _, _, [_, _], rfl, Nat.le_succ _, Nat.le_refl _, h, fun _ _ _ s h' => .field h' (k.mono s)⟩
  | arr h b k => exact ⟨_, _, _, _, [_, _], rfl, Nat.le_succ _, Nat.le_refl _, h, fun _ _ _ s h' => .arr h' (b.mono s) (k.mono s)⟩
  | sli h b k => exact ⟨_, _, _, _, [_, _], rfl, Nat.le_succ _, Nat.le_refl _, h, fun _ _ _ s h' => .sli h' (b.mono s) (k.mono s)⟩
  | deref h => exact ⟨_, _, _, _, [_], rfl, Nat.le_refl _, Nat.le_succ _, h, fun _ _ _ _ h' => .deref h'⟩
inductive RootV : Value → Option Int → Prop where
  | none : RootV .none Option.none
  | some {x : Int} {t : Tok} : RootV (.int x t) (Option.some x)
theorem pmap {m m₀ : Str → Option Value} {v rv bv : Value} (x : Str) (hx : x = S "turn") (h1 : m (S "place") = some v) (h2 : m (S "root") = some rv) (h3 : m (S "is_inner") = some bv)
    (h : ∀ z, z ≠ S "turn" → z ≠ S "place" → z ≠ S "root" → z ≠ S "is_inner" → z ≠ S "way" → z ≠ S "held" → m z = m₀ z) (t : Option Value) :
    (fun z => if z = x then t else m z) = fun z => if z = S "turn" then t else if z = S "place" then some v else if z = S "root" then some rv else if z = S "is_inner" then some bv else if z = S "way" then m z else if z = S "held" then m z else m₀ z := by
  subst hx
  funext z
  by_cases a1 : z = S "turn"
  · simp [a1]
  by_cases a2 : z = S "place"
  · subst a2; simp only [if_neg a1, h1, if_true]
  by_cases a3 : z = S "root"
  · subst a3; simp only [if_neg a1, if_neg a2, h2, if_true]
  by_cases a4 : z = S "is_inner"
  · subst a4; simp only [if_neg a1, if_neg a2, if_neg a3, h3, if_true]
  by_cases a5 : z = S "way"
  · simp only [if_neg a1, if_neg a2, if_neg a3, if_neg a4, if_pos a5]
  by_cases a6 : z = S "held"
  · simp only [if_neg a1, if_neg a2, if_neg a3, if_neg a4, if_neg a5, if_pos a6]
  simp only [if_neg a1, if_neg a2, if_neg a3, if_neg a4, if_neg a5, if_neg a6]
  exact h z a1 a2 a3 a4 a5 a6
theorem pmap' {m m₀ : Str → Option Value} {v rv bv : Value} (h1 : m (S "place") = some v) (h2 : m (S "root") = some rv) (h3 : m (S "is_inner") = some bv)
    (h : ∀ z, z ≠ S "turn" → z ≠ S "place" → z ≠ S "root" → z ≠ S "is_inner" → z ≠ S "way" → z ≠ S "held" → m z = m₀ z) :
    m = fun z => if z = S "turn" then m z else if z = S "place" then some v else if z = S "root" then some rv else if z = S "is_inner" then some bv else if z = S "way" then m z else if z = S "held" then m z else m₀ z := by
  have := pmap (S "turn") rfl h1 h2 h3 h (m (S "turn"))
  funext z
  by_cases a1 : z = S "turn"
  · simp [a1]
  · have q := congrFun this z
    simp only [if_neg a1] at q ⊢
    exact q

theorem item_tup {prog : Program} {w : World} {A : Around} {E : Value → Shared → Prop} {s : Shared} {value slice : PySem.Expr} {h₀ : Heap} {L l : Addr} {news : List (Addr × Obj)} {n : Nat} {vs : List Value} {v : Value} {k : Int} {u : Tok} {Q : Value → Shared → Prop}
    (N : News h₀ L s.heap news) (hm : (l, ({ cls := .type "tuple", data := .seq vs.toArray n } : Obj)) ∈ news) (h0 : 0 ≤ k) (hhi : k < 2 ^ 63) (hx : vs[k.toNat]? = some v) (h : Q v s)
    (hs : subscripted slice false (.ref l) (.int k u) = operate [.ref l, .int k u] (getItem (.ref l) (.int k u)) := by with_unfolding_all rfl) :
    wpAny (model prog w) A (subscriptTail value slice (.ref l) (.int k u)) Q E s := by
  have hlt : k.toNat < vs.length := by
    have := List.getElem?_eq_some_iff.mp hx
    exact this.1
  refine item_tupleT (j := k.toNat) (News.isTup N hm) (by omega) hhi ?_ hx h hs
  unfold seqIndex?
  have e1 : k < (vs.length : Int) := by omega
  simp [show ¬ k < 0 from by omega, h0, e1]
theorem tup_from {prog : Program} {w : World} {A : Around} {E : Value → Shared → Prop} {s : Shared} {value slice : PySem.Expr} {h₀ : Heap} {L t : Addr} {m : Str → Option Value} {news : List (Addr × Obj)} {n a : Nat} {vs zs : List Value} {u : Tok} {Q : Value → Shared → Prop}
    (F : Fr h₀ L s.heap m) (N : News h₀ L s.heap news) (hm : (t, ({ cls := .type "tuple", data := .seq vs.toArray n } : Obj)) ∈ news) (h1 : 1 ≤ a) (ha : a ≤ vs.length) (hz : vs.length ≤ 1000) (e : vs.drop a = zs)
    (h : ∀ D h', Fr h₀ L h' m → News h₀ L h' ((D, tupA zs.toArray) :: news) → (∀ p ∈ news, p.1 < D) → Q (.ref D) { s with heap := h' })
    (hs : subscripted slice false (.ref t) (.ref s.heap.objs.size) = operate [.ref s.heap.objs.size, .ref t] (getItem (.ref t) (.ref s.heap.objs.size)))
    (hg : ∀ r, letTemporaryGo value (.ref t) r = pure ()) :
    wpAny (model prog w) A (subscriptTail value slice (.ref t) (.ref s.heap.objs.size)) Q E { s with heap := s.heap.push { cls := .type "slice", data := .fields #[.int (a : Nat) u, .none, .none] } } := by
  subst e
  refine slice_tuple_from F N (News.isTup N hm) h1 (by simpa using ha) (fun h' F' N' => h _ h' F' ?_ ?_) hs hg (by simp only [List.size_toArray]; rw [sizeLine_eq]; omega)
  · simpa using N'
  · intro p hp
    exact Nat.lt_succ_of_lt (Heap.lt_size (N p hp).1)
theorem pick5 {prog : Program} {w : World} {A : Around} {E : Value → Shared → Prop} {s : Shared} {value slice : PySem.Expr} {h₀ : Heap} {L l : Addr} {news : List (Addr × Obj)} {n : Nat} {v0 v1 v2 v3 v4 : Value} {k : Int} {u : Tok} {Q : Value → Shared → Prop}
    (N : News h₀ L s.heap news) (hm : (l, lstO [v0, v1, v2, v3, v4] n) ∈ news) (h0 : 0 ≤ k) (h1 : k < 5) (c0 : k = 0 → Q v0 s) (c1 : k = 1 → Q v1 s) (c2 : k = 2 → Q v2 s) (c3 : k = 3 → Q v3 s) (c4 : k = 4 → Q v4 s)
    (hs : subscripted slice false (.ref l) (.int k u) = operate [.ref l, .int k u] (getItem (.ref l) (.int k u)) := by with_unfolding_all rfl) :
    wpAny (model prog w) A (subscriptTail value slice (.ref l) (.int k u)) Q E s :=
  pickK (News.isList N hm) h0 (by simpa using h1) (by omega) ⟨c0, fun e => c1 (by omega), fun e => c2 (by omega), fun e => c3 (by omega), fun e => c4 (by omega), trivial⟩ hs
theorem pick9 {prog : Program} {w : World} {A : Around} {E : Value → Shared → Prop} {s : Shared} {value slice : PySem.Expr} {h₀ : Heap} {L l : Addr} {news : List (Addr × Obj)} {n : Nat} {v0 v1 v2 v3 v4 v5 v6 v7 v8 : Value} {k : Int} {u : Tok} {Q : Value → Shared → Prop}
    (N : News h₀ L s.heap news) (hm : (l, lstO [v0, v1, v2, v3, v4, v5, v6, v7, v8] n) ∈ news) (h0 : 0 ≤ k) (h1 : k < 9) (c0 : k = 0 → Q v0 s) (c1 : k = 1 → Q v1 s) (c2 : k = 2 → Q v2 s) (c3 : k = 3 → Q v3 s) (c4 : k = 4 → Q v4 s) (c5 : k = 5 → Q v5 s) (c6 : k = 6 → Q v6 s) (c7 : k = 7 → Q v7 s) (c8 : k = 8 → Q v8 s)
    (hs : subscripted slice false (.ref l) (.int k u) = operate [.ref l, .int k u] (getItem (.ref l) (.int k u)) := by with_unfolding_all rfl) :
    wpAny (model prog w) A (subscriptTail value slice (.ref l) (.int k u)) Q E s :=
  pickK (News.isList N hm) h0 (by simpa using h1) (by omega) ⟨c0, fun e => c1 (by omega), fun e => c2 (by omega), fun e => c3 (by omega), fun e => c4 (by omega), fun e => c5 (by omega), fun e => c6 (by omega), fun e => c7 (by omega), fun e => c8 (by omega), trivial⟩ hs
theorem pick10 {prog : Program} {w : World} {A : Around} {E : Value → Shared → Prop} {s : Shared} {value slice : PySem.Expr} {h₀ : Heap} {L l : Addr} {news : List (Addr × Obj)} {n : Nat} {v0 v1 v2 v3 v4 v5 v6 v7 v8 v9 : Value} {k : Int} {u : Tok} {Q : Value → Shared → Prop}
    (N : News h₀ L s.heap news) (hm : (l, lstO [v0, v1, v2, v3, v4, v5, v6, v7, v8, v9] n) ∈ news) (h0 : 0 ≤ k) (h1 : k < 10) (c0 : k = 0 → Q v0 s) (c1 : k = 1 → Q v1 s) (c2 : k = 2 → Q v2 s) (c3 : k = 3 → Q v3 s) (c4 : k = 4 → Q v4 s) (c5 : k = 5 → Q v5 s) (c6 : k = 6 → Q v6 s) (c7 : k = 7 → Q v7 s) (c8 : k = 8 → Q v8 s) (c9 : k = 9 → Q v9 s)
    (hs : subscripted slice false (.ref l) (.int k u) = operate [.ref l, .int k u] (getItem (.ref l) (.int k u)) := by with_unfolding_all rfl) :
    wpAny (model prog w) A (subscriptTail value slice (.ref l) (.int k u)) Q E s :=
  pickK (News.isList N hm) h0 (by simpa using h1) (by omega) ⟨c0, fun e => c1 (by omega), fun e => c2 (by omega), fun e => c3 (by omega), fun e => c4 (by omega), fun e => c5 (by omega), fun e => c6 (by omega), fun e => c7 (by omega), fun e => c8 (by omega), fun e => c9 (by omega), trivial⟩ hs
/-- a node, the places that it assigns, those whose addresses it takes -/
inductive NIn (n : List (Addr × Obj)) : Value → List Value → List Value → Prop where
  | set {h t u : Addr} {k z : Tok} {p q T T' : Value} {r r' : Option Int} {b b' : Bool} : (h, tupA #[.str (S "set") k, .int 0 z, .ref t, .ref u]) ∈ n → (t, tupA #[p, .none, q]) ∈ n → PIn n p T r b → PIn n q T' r' b' → NIn n (.ref h) [p, .none, q] []
  | upd {h : Addr} {k : Tok} {p u v x : Value} : (h, tupA #[.str (S "update") k, u, v, p, x]) ∈ n → NIn n (.ref h) [p] []
  | place {h : Addr} {k : Tok} {p : Value} : (h, tupA #[.str (S "place") k, p]) ∈ n → NIn n (.ref h) [p] []
  | rec1 {h t u : Addr} {k : Tok} {p v T : Value} {us : List Value} {r : Option Int} {b : Bool} : (h, tupA #[.str (S "receive") k, v, .ref t, .ref u]) ∈ n → (t, tupA #[p, .none]) ∈ n → (u, tupA us.toArray) ∈ n → PIn n p T r b → NIn n (.ref h) [p] []
  | rec2 {h : Addr} {k z : Tok} {v u : Value} : (h, tupA #[.str (S "receive") k, v, .int 0 z, u]) ∈ n → NIn n (.ref h) [] []
  | addr {h : Addr} {k : Tok} {p u v : Value} : (h, tupA #[.str (S "address") k, u, v, p]) ∈ n → NIn n (.ref h) [] [p]
  | cut7 {h : Addr} {k : Tok} {p u v x y z : Value} : (h, tupA #[.str (S "cut") k, u, v, p, x, y, z]) ∈ n → NIn n (.ref h) [] [p]
  | cut4 {h : Addr} {k : Tok} {u v x : Value} : (h, tupA #[.str (S "cut") k, u, v, x]) ∈ n → NIn n (.ref h) [] []
  | do_ {h : Addr} {k : Tok} {u v : Value} : (h, tupA #[.str (S "do") k, u, v]) ∈ n → NIn n (.ref h) [] []

abbrev PW : Program := PySem.Challenge.rw_xm0169_01.row.prog
/-- the world, its named types by the dict kvs -/
structure WIn (w : World) (news : List (Addr × Obj)) (x : Addr) (kvs : List (Str × Value)) : Prop where
  ex : ∃ dx es n dn o, (x, instObj 209 dx) ∈ news ∧ (dx, dictOf es n) ∈ news ∧ (dn, o) ∈ news ∧ getL (S "named") es = some (some (.ref dn)) ∧ getL (S "base_of") es = some none ∧ o.IsDictOf (PySem.strKind PW w) kvs ∧ (dn == sysModules) = false
theorem WIn.mono {w : World} {news news' : List (Addr × Obj)} {x : Addr} {kvs : List (Str × Value)} (h : WIn w news x kvs) (hs : ∀ p ∈ news, p ∈ news') : WIn w news' x kvs := by
  obtain ⟨dx, es, n, dn, o, a, b, c, r⟩ := h.ex
  exact ⟨dx, es, n, dn, o, hs _ a, hs _ b, hs _ c, r⟩
theorem eqB {prog : Program} {w : World} {A : Around} {E : Value → Shared → Prop} {s : Shared} {x y : Str} {t u : Tok} {b : Bool} {Q : Value → Shared → Prop} (e : (x == y) = b) (h : Q (.bool b) s) : wpAny (model prog w) A (compareOp .Eq (.str x t) (.str y u)) Q E s := PyProof.Rows.eq_str (by rw [e]; exact h)
theorem neB {prog : Program} {w : World} {A : Around} {E : Value → Shared → Prop} {s : Shared} {x y : Str} {t u : Tok} {b : Bool} {Q : Value → Shared → Prop} (e : (x == y) = b) (h : Q (.bool (!b)) s) : wpAny (model prog w) A (compareOp .NotEq (.str x t) (.str y u)) Q E s := PyProof.Rows.ne_str (by
  have : (x != y) = !b := by rw [← e]; rfl
  rw [this]; exact h)
/-- a type T and what stands under its names: a tuple that opens with k -/
inductive TyB (news : List (Addr × Obj)) (kvs : List (Str × Value)) : Value → Value → Str → Prop where
  | top {k : Str} (h : k = S "int") : TyB news kvs (.ref 214) (.ref 214) k
  | lit {t : Addr} {k : Str} {tk : Tok} {r : List Value} : (t, tupA (List.toArray (.str k tk :: r))) ∈ news → (k == S "named") = false → TyB news kvs (.ref t) (.ref t) k
  | nam {t y d u : Addr} {nm k : Str} {tk tk' tk'' : Tok} {es : List DictEntry} {n : Nat} {r : List Value} : (t, tupA #[.str (S "named") tk, .str nm tk']) ∈ news → valueAt kvs nm = some (.ref y) → (y, instObj 166 d) ∈ news → (d, dictOf es n) ∈ news → getL (S "underlying") es = some (some (.ref u)) →
      (u, tupA (List.toArray (.str k tk'' :: r))) ∈ news → (k == S "named") = false → TyB news kvs (.ref t) (.ref u) k
theorem kda_notin {prog : Program} {w : World} {K : Type} [DecidableEq K] {knd : KeyKind prog w K} {A : Around} {E : Value → Shared → Prop} {s : Shared} {h₀ : Heap} {L d : Addr} {news : List (Addr × Obj)} {o : Obj} {kvs : List (K × Value)} {k : K} {key v : Value} {Q : Value → Shared → Prop}
    (N : News h₀ L s.heap news) (hp : (d, o) ∈ news) (hd : o.IsDictOf knd kvs) (lo : (d == sysModules) = false) (hkey : knd.is k key = true) (hb : valueAt kvs k = some v) (h : Q (.bool false) { s with toks := s.toks + 1 }) :
    wpAny (model prog w) A (compareOp .NotIn key (.ref d)) Q E s := wpAny_notIn_of hkey lo (kda_dict N hp hd).mapOf (by rw [hb]; exact h)
theorem ld_asm {M : Model} {A : Around} {E : Value → Shared → Prop} {s : Shared} {name : Str} {scope : Scope} {L a : Addr} {cd : Value} {h₀ : Heap} {m : Str → Option Value} {x : Str} {pos : Pos} {v : Value} {Q : Value → Shared → Prop} (F : Fr h₀ L s.heap m) (hv : m x = some v) (h : Q v s)
    (hk : scope.kind = .function) (hl : (envOf name scope L a cd).kindOf x = some .local)
    (hd : (x == ("__debug__" : Str)) = false) :
    wpAny M A (eval (.Name x pos) (envOf name scope L a cd)) Q E s := ld F hv h hk hl hd
theorem offLt {d : Addr} {l : List (Addr × Obj)} (h : AllLt d l) : ∀ p ∈ l, p.1 ≠ d := fun p hp => Nat.ne_of_lt (ktn_ltOf h p hp)
theorem ltSub {d : Addr} {small big : List (Addr × Obj)} (l : ∀ p ∈ big, p.1 < d) (s : Sub small big) : ∀ p ∈ small, p.1 < d := fun p hp => l p (s p hp)
theorem subHd {p : Addr × Obj} {a b : List (Addr × Obj)} (s : Sub a b) : Sub (p :: a) (p :: b) := fun q hq => (List.mem_cons.mp hq).elim (fun e => e ▸ .head _) fun h => .tail _ (s q h)
theorem newsSub {h₀ h : Heap} {L : Addr} {small big : List (Addr × Obj)} (N : News h₀ L h big) (hs : ∀ p ∈ small, p ∈ big) : News h₀ L h small := fun p hp => N p (hs p hp)
theorem news1 {h₀ h : Heap} {L : Addr} {p : Addr × Obj} {news : List (Addr × Obj)} (N : News h₀ L h (p :: news)) : News h₀ L h news := newsSub N fun _ hp => List.mem_cons_of_mem _ hp
section
variable {h₀ : Heap} {L : Addr} {n : List (Addr × Obj)}
theorem app2 {h : Heap} {p q : Addr × Obj} (N : News h₀ L h ([p, q] ++ n)) : News h₀ L h (p :: q :: n) := N
theorem app3 {h : Heap} {p q r : Addr × Obj} (N : News h₀ L h ([p, q, r] ++ n)) : News h₀ L h (p :: q :: r :: n) := N
theorem offCons' {d e : Addr} {x : Obj} (a : e ≠ d) (b : Off d n) : Off d ((e, x) :: n) := fun p hp => by
  rcases List.mem_cons.mp hp with rfl | hp
  · exact a
  · exact b p hp
theorem ltNe {d e : Addr} {x : Obj} (l : ∀ p ∈ (e, x) :: n, p.1 < d) : e ≠ d := Nat.ne_of_lt (l _ (.head _))
theorem ltNe2 {d e : Addr} {y : Addr × Obj} {x : Obj} (l : ∀ p ∈ y :: (e, x) :: n, p.1 < d) : e ≠ d := Nat.ne_of_lt (l _ (.tail _ (.head _)))
theorem ltOff {d : Addr} {p : Addr × Obj} (l : ∀ q ∈ p :: n, q.1 < d) : Off d n := fun q hq => Nat.ne_of_lt (l q (.tail _ hq))
theorem ltOff2 {d : Addr} {p q : Addr × Obj} (l : ∀ z ∈ p :: q :: n, z.1 < d) : Off d n := fun z hz => Nat.ne_of_lt (l z (.tail _ (.tail _ hz)))
end
end
local macro_rules | `(tactic| k_room) => `(tactic| ktr_room)
local macro_rules | `(tactic| k_units) => `(tactic| ktr_units)
local macro_rules | `(tactic| k_all) => `(tactic| assumption)
local macro_rules | `(tactic| tb_start) => `(tactic| first | with_reducible assumption | with_reducible exact List.mem_cons_self | (refine List.mem_append_right _ ?_; tb_start) | (refine List.mem_append_left _ ?_; tb_start) | (refine' Sub.mem ?S ?_; (case S => with_reducible assumption); tb_start) | (refine List.mem_cons_of_mem _ ?_; tb_start))
local macro_rules | `(tactic| k_mem) => `(tactic| tb_start)
local macro_rules | `(tactic| mul_fits) => `(tactic| first | exact mulOk (fm0 (by decide)) (fm1 (by decide)) | exact PySem.IntMulOk.of_left (PySem.intBits_le_64 (by omega) (by omega)))
local macro_rules | `(tactic| k_subL) => `(tactic| first | with_reducible assumption | exact Sub.refl | exact Sub.cons Sub.refl | (refine Sub.cons ?_; k_subL) | (refine' Sub.trans ?a ?S; (case S => with_reducible assumption); k_subL))
section
set_option maxHeartbeats 8000000 in
theorem take_u {w : World} {mean : ExcName → Option Value} {mg mb : Str → Option Value} {dp un : Nat} {gd : Option (List Code)} {cn : Str} {cs : Scope} {a : Addr} {ccd : Value} {cl : List (Str × Addr)} {outer : List Env} {A₀ : Around} {base h₀ : Heap} {L : Addr} {m : Str → Option Value} {s : Shared} {Q E : Value → Shared → Prop} {src : Addr} {o : Obj} {top : Int} {t3 : Tok} {rest : List (Addr × Obj)}
  (B : Below A₀ base outer h₀) (F : Fr h₀ L s.heap m) (X : (Mine.top.heap_1 w.params).In h₀) (T : Top Mine.top.view_1 LO mean mg mb h₀) (hk : cs.kind = .function) (N : News h₀ L s.heap ((src, o) :: rest)) (off : Off src rest) (ho : SrcOk o) (ht : 0 < top) (_ht2 : top < 1000) (hd : dp < 500) (hu : un < 5000)
  (ret : ∀ r t o' h' tk', 0 ≤ r → r < top → SrcOk o' → Fr h₀ L h' m → News h₀ L h' ((src, o') :: rest) → Q (.int r t) { s with heap := h', toks := tk' }) :
  wpAny (model PySem.Challenge.rw_xm0169_01.row.prog w) (ktrTop dp un gd cn cs L a ccd cl outer) (call (.ref 228) [.ref src, .int top t3]) Q E s := by
    obtain ⟨x, y, t1, t2, n, rfl, hx, hy, hy2⟩ := ho
    revert X
    k_fill
    intro X
    refine wpAny_call ?_
    k_dflt ktr_enter
    repeat' (first | (with_reducible refine gen_tok1 (fun tk9 => ?_); try dsimp only) | (k_unfold; (try dsimp only)) | (k_end; wrow_close) | ((with_reducible show wpAny _ _ (subscriptTail _ _ (Value.ref _) (Value.int _ _)) _ _ _); k_dflt (refine' item_news ?zqk1 ?zqk2 ?zqk3 ?zqk4 ?zqk5 ?_ ?zqk6; (case zqk1 => k_asm); (case zqk2 => tb_start); (case zqk3 => decide); (case zqk4 => decide); (case zqk5 => rfl); (case zqk6 => with_unfolding_all rfl); k_whole)) | walk1 | (dsimp only; walk1) | (leave1; walk_say "STEP leave1"; try dsimp only) | fail "no step")
    · exact ret _ _ _ _ _ (fm0 ht) (fm1 ht) ⟨_, _, _, _, _, rfl, fd0 hx ht, hy, hy2⟩ (by k_asm) (by k_asm)
    · exact ret _ _ _ _ _ (fm0 ht) (fm1 ht) ⟨_, _, _, _, _, rfl, hx, fm0 (by decide), fm1 (by decide)⟩ (by k_asm) (by k_asm)
end
section
def PJ (src : Addr) (rest : List (Addr × Obj)) (m₀ : Str → Option Value) (m : Str → Option Value) (nx : List (Addr × Obj)) : Prop :=
  ∃ o n v T r rv b, nx = (src, o) :: n ∧ SrcOk o ∧ Off src n ∧ Sub rest n ∧ PIn n v T r b ∧ RootV rv r ∧ m (S "place") = some v ∧ m (S "root") = some rv ∧ m (S "is_inner") = some (.bool b) ∧
    ∀ z, z ≠ S "turn" → z ≠ S "place" → z ≠ S "root" → z ≠ S "is_inner" → z ≠ S "way" → z ≠ S "held" → m z = m₀ z
theorem place_loop {prog : Program} {w : World} {A : Around} {E : Value → Shared → Prop} {s : Shared} {env : Env} {h₀ : Heap} {body : List Stmt} {Q : Flow → Shared → Prop}
    {rr : Addr} {b₀ : Int} {t₀ u₀ v₀ : Tok} {N₀ : Nat} {m₀ : Str → Option Value} {n rest : List (Addr × Obj)} {src : Addr} {o : Obj} {v T rv : Value} {r : Option Int} {b : Bool}
    (hh : A.handled = none) (hr : IsRange s.heap rr 0 b₀ 1 t₀ u₀ v₀) (hsmall : Builtin.Range.small 0 b₀ 1 = true) (hn : Builtin.Range.rangeSize 0 b₀ 1 = (N₀ : Int)) (F : Fr h₀ env.locals s.heap m₀) (N : News h₀ env.locals s.heap ((src, o) :: n))
    (off : Off src n) (ho : SrcOk o) (sb : Sub rest n) (m1 : m₀ (S "place") = some v) (m2 : m₀ (S "root") = some rv) (m3 : m₀ (S "is_inner") = some (.bool b)) (P : PIn n v T r b) (R : RootV rv r)
    (turn : ∀ (k : Int) t h tk own o n v T r rv b (u : Str → Option Value), Off src own → OffL own n → Off src n → Sub rest n → SrcOk o → PIn n v T r b → RootV rv r →
      Fr h₀ env.locals h (fun z => if z = S "turn" then some (.int k t) else if z = S "place" then some v else if z = S "root" then some rv else if z = S "is_inner" then some (.bool b) else if z = S "way" then u z else if z = S "held" then u z else m₀ z) →
      News h₀ env.locals h ((src, o) :: (own ++ n)) →
      wpAny (model prog w) A (execs body env) (TbPost h₀ env.locals (PJ src rest m₀) own { s with heap := h, toks := tk } Q) E { s with heap := h, toks := tk })
    (done : ∀ h tk o n v T r rv b (u : Str → Option Value), Off src n → Sub rest n → SrcOk o → PIn n v T r b → RootV rv r →
      Fr h₀ env.locals h (fun z => if z = S "turn" then u z else if z = S "place" then some v else if z = S "root" then some rv else if z = S "is_inner" then some (.bool b) else if z = S "way" then u z else if z = S "held" then u z else m₀ z) →
      News h₀ env.locals h ((src, o) :: n) → Q .next { s with heap := h, toks := tk }) :
    wpAny (model prog w) A (pyIter (.ref rr)) (fun it s₂ => LoopAtV prog w A h₀ env (S "turn") body Q E it s₂) E s := by
  refine tbr_invG (m₀ := m₀) (news := (src, o) :: n) (fun _ m nx => PJ src rest m₀ m nx) hh hr hsmall hn F N ?_ ?_ ?_
  · exact ⟨o, n, v, T, r, rv, b, rfl, ho, off, sb, P, R, m1, m2, m3, fun _ _ _ _ _ _ _ => rfl⟩
  · rintro i k t m nx h tk own _ off ⟨o, n, v, T, r, rv, b, rfl, ho, off1, sb, P, R, m1, m2, m3, hm⟩ F' N'
    rw [pmap (S "turn") rfl m1 m2 m3 hm _] at F'
    refine turn k t h tk own o n v T r rv b m (fun p hp => off p hp _ (.head _)) (fun p hp q hq => (off p hp q (.tail _ hq)).symm) off1 sb ho P R F' (fun p hp => N' p ?_)
    simp only [List.mem_cons, List.mem_append] at hp ⊢
    rcases hp with hp | hp | hp
    · exact .inl (.inl hp)
    · exact .inr hp
    · exact .inl (.inr hp)
  · rintro m nx h tk ⟨o, n, v, T, r, rv, b, rfl, ho, off1, sb, P, R, m1, m2, m3, hm⟩ F' N'
    rw [pmap' m1 m2 m3 hm] at F'
    exact done h tk o n v T r rv b m off1 sb ho P R F' N'
theorem pj_end {src : Addr} {rest own n : List (Addr × Obj)} {h₀ h' : Heap} {L : Addr} {m₀ m' : Str → Option Value} {o : Obj} {v T rv : Value} {r : Option Int} {b : Bool} {s₁ : Shared} {tk : Nat}
    (F : Fr h₀ L h' m') (N : News h₀ L h' ((src, o) :: (own ++ n))) (oo : Off src own) (ol : OffL own n) (off : Off src n) (sb : Sub rest n) (ho : SrcOk o) (m1 : m' (S "place") = some v) (m2 : m' (S "root") = some rv) (m3 : m' (S "is_inner") = some (.bool b)) (P : PIn n v T r b) (R : RootV rv r)
    (hm : ∀ z, z ≠ S "turn" → z ≠ S "place" → z ≠ S "root" → z ≠ S "is_inner" → z ≠ S "way" → z ≠ S "held" → m' z = m₀ z) :
    TbEnd h₀ L (PJ src rest m₀) own s₁ { s₁ with heap := h', toks := tk } := by
  refine ⟨h', tk, m', _, (src, o) :: n, rfl, F, N, ?_, ?_, ?_, o, n, v, T, r, rv, b, rfl, ho, off, sb, P, R, m1, m2, m3, hm⟩
  · intro p hp
    rcases List.mem_cons.mp hp with rfl | hp
    · exact .head _
    · exact .tail _ (List.mem_append_right _ hp)
  · exact fun p hp => .tail _ (List.mem_append_left _ hp)
  · intro p hp q hq
    rcases List.mem_cons.mp hq with rfl | hq
    · exact oo p hp
    · exact (ol p hp q hq).symm
theorem addO {h₀ h : Heap} {L D src : Addr} {x o : Obj} {own n : List (Addr × Obj)} (N : News h₀ L h ((D, x) :: (src, o) :: (own ++ n))) (l : ∀ p ∈ (src, o) :: (own ++ n), p.1 < D) (ol : OffL own n) (os : Off src n) :
    News h₀ L h ((src, o) :: (own ++ ((D, x) :: n))) ∧ OffL own ((D, x) :: n) ∧ Off src ((D, x) :: n) := by
  have z := addH (hd := (src, o) :: own) (n := n) N l (OffL.cons os ol)
  exact ⟨consApp z.1, z.2.tail, z.2.off⟩
/-- place[2:] -/
theorem slice2 {prog : Program} {w : World} {A : Around} {E : Value → Shared → Prop} {s : Shared} {value slice : PySem.Expr} {h₀ : Heap} {L t src : Addr} {o : Obj} {m : Str → Option Value} {own n : List (Addr × Obj)} {k : Str} {k1 z : Tok} {T : Value} {us : List Value} {u : Tok} {Q : Value → Shared → Prop}
    (F : Fr h₀ L s.heap m) (N : News h₀ L s.heap ((src, o) :: (own ++ n))) (ol : OffL own n) (os : Off src n) (hm : (t, tupA (List.toArray (.str k k1 :: T :: .int 0 z :: us))) ∈ (src, o) :: (own ++ n)) (_z1 : 1 ≤ us.length) (z2 : us.length ≤ 2)
    (h : ∀ D h' n', Fr h₀ L h' m → News h₀ L h' ((src, o) :: (own ++ n')) → OffL own n' → Off src n' → Sub n n' → (D, tupA (List.toArray (.int 0 z :: us))) ∈ n' → Q (.ref D) { s with heap := h' })
    (hs : subscripted slice false (.ref t) (.ref s.heap.objs.size) = operate [.ref s.heap.objs.size, .ref t] (getItem (.ref t) (.ref s.heap.objs.size)))
    (hg : ∀ r, letTemporaryGo value (.ref t) r = pure ()) :
    wpAny (model prog w) A (subscriptTail value slice (.ref t) (.ref s.heap.objs.size)) Q E { s with heap := s.heap.push { cls := .type "slice", data := .fields #[.int 2 u, .none, .none] } } :=
  tup_from (a := 2) (zs := .int 0 z :: us) F N hm (by decide) (by simp) (by simp; omega) rfl (fun D h' F' N' l => by
    have q := addO N' l ol os
    exact h D h' _ F' q.1 q.2.1 q.2.2 (fun _ h => .tail _ h) (.head _)) hs hg
/-- (place[0], held) + place[2:] -/
theorem add2 {prog : Program} {w : World} {A : Around} {E : Value → Shared → Prop} {s : Shared} {h₀ : Heap} {L t b src : Addr} {o : Obj} {m : Str → Option Value} {own n : List (Addr × Obj)} {k : Str} {k1 z : Tok} {T : Value} {us : List Value} {Q : Value → Shared → Prop}
    (F : Fr h₀ L s.heap m) (N : News h₀ L s.heap ((src, o) :: (own ++ n))) (ol : OffL own n) (os : Off src n) (ht : (t, tupA #[.str k k1, T]) ∈ (src, o) :: (own ++ n)) (hb : (b, tupA (List.toArray (.int 0 z :: us))) ∈ (src, o) :: (own ++ n)) (z2 : us.length ≤ 2)
    (h : ∀ D h' n', Fr h₀ L h' m → News h₀ L h' ((src, o) :: (own ++ n')) → OffL own n' → Off src n' → Sub n n' → (D, tupA (List.toArray (.str k k1 :: T :: .int 0 z :: us))) ∈ n' → Q (.ref D) { s with heap := h' }) :
    wpAny (model prog w) A (binaryOp .Add (.ref t) (.ref b)) Q E s :=
  kde_addT (zs := .str k k1 :: T :: .int 0 z :: us) F N (News.isTup N ht) (News.isTup N hb) (by simp) (by simp) (by simp; omega) (by simp) (fun D h' F' N' l => by
    have q := addO N' l ol os
    exact h D h' _ F' q.1 q.2.1 q.2.2 (fun _ h => .tail _ h) (.head _))
/-- the two ways of the first `if` meet -/
def JQ (h₀ : Heap) (L src : Addr) (rest : List (Addr × Obj)) (m₀ : Str → Option Value) (s₁ : Shared) (f : Flow) (s₂ : Shared) : Prop :=
  f = .next ∧ ∃ h' tk o n v T r rv m', s₂ = { s₁ with heap := h', toks := tk } ∧ Fr h₀ L h' m' ∧ News h₀ L h' ((src, o) :: n) ∧ Off src n ∧ Sub rest n ∧ SrcOk o ∧ PIn n v T r false ∧ RootV rv r ∧ m' (S "place") = some v ∧ m' (S "root") = some rv ∧ ∀ z, z ≠ S "place" → z ≠ S "root" → m' z = m₀ z
theorem jq_of {h₀ h' : Heap} {L src : Addr} {rest n : List (Addr × Obj)} {m₀ m' : Str → Option Value} {s₁ : Shared} {tk : Nat} {o : Obj} {v T rv : Value} {r : Option Int} (F : Fr h₀ L h' m') (N : News h₀ L h' ((src, o) :: n)) (off : Off src n) (sb : Sub rest n) (ho : SrcOk o)
    (m1 : m' (S "place") = some v) (m2 : m' (S "root") = some rv) (P : PIn n v T r false) (R : RootV rv r) (hm : ∀ z, z ≠ S "place" → z ≠ S "root" → m' z = m₀ z) : JQ h₀ L src rest m₀ s₁ .next { s₁ with heap := h', toks := tk } :=
  ⟨rfl, h', tk, o, n, v, T, r, rv, m', rfl, F, N, off, sb, ho, P, R, m1, m2, hm⟩
theorem join_if {M : Model} {A : Around} {E : Value → Shared → Prop} {s : Shared} {st : Stmt} {env : Env} {h₀ : Heap} {L src : Addr} {rest : List (Addr × Obj)} {m₀ : Str → Option Value} {Q : Flow → Shared → Prop} (_F : Fr h₀ L s.heap m₀)
    (first : wpAny M A (exec st env) (JQ h₀ L src rest m₀ s) E s)
    (cont : ∀ h' tk o n v T r rv, Off src n → Sub rest n → SrcOk o → PIn n v T r false → RootV rv r → Fr h₀ L h' (fun z => if z = S "place" then some v else if z = S "root" then some rv else m₀ z) → News h₀ L h' ((src, o) :: n) → Q .next { s with heap := h', toks := tk }) :
    wpAny M A (exec st env) Q E s :=
  wpAny_mono first (fun f s₂ q => by
    obtain ⟨rfl, h', tk, o, n, v, T, r, rv, m', rfl, F, N, off, sb, ho, P, R, m1, m2, hm⟩ := q
    refine cont h' tk o n v T r rv off sb ho P R ?_ N
    have e : m' = fun z => if z = S "place" then some v else if z = S "root" then some rv else m₀ z := by
      funext z
      by_cases a1 : z = S "place"
      · subst a1; rw [if_pos rfl]; exact m1
      · by_cases a2 : z = S "root"
        · subst a2; rw [if_neg a1, if_pos rfl]; exact m2
        · rw [if_neg a1, if_neg a2]; exact hm z a1 a2
    rw [← e]; exact F) fun _ _ e => e
set_option maxHeartbeats 8000000 in
theorem place_u {w : World} {mean : ExcName → Option Value} {mg mb : Str → Option Value} {dp un : Nat} {gd : Option (List Code)} {cn : Str} {cs : Scope} {a : Addr} {ccd : Value} {cl : List (Str × Addr)} {outer : List Env} {A₀ : Around} {base h₀ : Heap} {L : Addr} {m : Str → Option Value} {s : Shared} {Q E : Value → Shared → Prop} {src : Addr} {o : Obj} {rest : List (Addr × Obj)}
  (B : Below A₀ base outer h₀) (F : Fr h₀ L s.heap m) (X : (Mine.top.heap_1 w.params).In h₀) (T : Top Mine.top.view_1 LO mean mg mb h₀) (hk : cs.kind = .function) (N : News h₀ L s.heap ((src, o) :: rest)) (off : Off src rest) (ho : SrcOk o) (hd : dp < 400) (hu : un < 4000)
  (ret : ∀ D v T rv r b o' n' h' tk', (D, tupA #[v, rv, .bool b]) ∈ n' → PIn n' v T r b → RootV rv r → Off src n' → Sub rest n' → SrcOk o' → Fr h₀ L h' m → News h₀ L h' ((src, o') :: n') → Q (.ref D) { s with heap := h', toks := tk' }) :
  wpAny (model PySem.Challenge.rw_xm0169_01.row.prog w) (ktrTop dp un gd cn cs L a ccd cl outer) (call (.ref 249) [.ref src]) Q E s := by
    revert X
    k_fill
    intro X
    refine wpAny_call ?_
    k_dflt ktr_enter
    (rename Fr _ _ _ (fun y => List.lookup y _) => F9; replace F9 : Fr _ _ _ (fun y => List.lookup y [(S "source", Value.ref src)]) := F9)
    repeat' (first | (with_reducible refine gen_tok1 (fun tk9 => ?_); try dsimp only) | (k_unfold; (try dsimp only)) | (k_end; wrow_close) | ((with_reducible show wpAny _ _ (exec (Stmt.If (Expr.Compare (Expr.Call _ _ _ _) _ _ _) _ _ _) _) _ _ _); (fail_if_success (with_reducible show wpAny _ _ _ (JQ _ _ _ _ _ _) _ _)); k_dflt (refine' join_if (rest := rest) (src := src) ?zqF ?zqf (fun h9 tk9 o9 n9 v9 T9 r9 rv9 off9 sb9 ho9 P9 R9 F9 N9 => ?_); (case zqF => k_asm))) | ((with_reducible show JQ _ _ _ _ _ _ _ _); k_dflt (refine' jq_of ?zqF ?zqN ?zqoff ?zqsb ?zqho ?zqm1 ?zqm2 ?zqP ?zqR ?zqhm; (case zqF => k_asm); (case zqN => k_asm); (case zqoff => assumption); (case zqsb => k_subL); (case zqho => assumption); (case zqm1 => rfl); (case zqm2 => rfl); (case zqP => first | exact PIn.loc (by tb_start) | exact PIn.call (by tb_start)); (case zqR => first | exact RootV.none | exact RootV.some); (case zqhm => intro z a1 a2; first | rfl | simp only [if_neg a1, if_neg a2]))) | ((with_reducible show wpAny _ _ (pyIter (Value.ref _)) (fun it s₂ => LoopAtV _ _ _ _ _ _ _ _ _ it s₂) _ _); (rename IsRange _ _ _ _ _ _ _ _ => rgX); k_dflt (refine' place_loop (rest := rest) ?zqhh rgX ?zqhs ?zqhn ?zqF ?zqN ?zqoff ?zqho ?zqsb ?zqm1 ?zqm2 ?zqm3 ?zqP ?zqR (fun k' t' h9 tk9 own9 o9 n9 v9 T9 r9 rv9 b9 u9 oo9 ol9 off9 sb9 ho9 P9 R9 F9 N9 => ?_) (fun h9 tk9 o9 n9 v9 T9 r9 rv9 b9 u9 off9 sb9 ho9 P9 R9 F9 N9 => ?_); (case zqhh => rfl); (case zqhs => first | decide | exact small_one (by l_bnd) (by l_bnd) (by l_bnd) (by l_bnd)); (case zqhn => exact rangeSize_nat _ _); (case zqF => k_asm); (case zqN => k_asm); (case zqoff => assumption); (case zqho => assumption); (case zqsb => k_subL); (case zqm1 => rfl); (case zqm2 => rfl); (case zqm3 => rfl); (case zqP => exact PIn.mono (by assumption) (by k_subL)); (case zqR => assumption)); (all_goals (first | (obtain ⟨a8, k8, t8, z8, us8, e8, hu81, hu82, hm8, hre8⟩ := PIn.shapeG P9; subst e8; (fail_if_success (have hown := own9)); skip) | (obtain ⟨a8, k8, t8, z8, us8, e8, hu81, hu82, hm8, hre8⟩ := PIn.shapeG P9; subst e8; clear P9))); (all_goals (try k_fold))) | ((with_reducible show TbEnd _ _ _ _ _ _); k_dflt (refine' pj_end ?zqF ?zqN ?zqoo ?zqol ?zqoff ?zqsb ?zqho ?zqm1 ?zqm2 ?zqm3 ?zqP ?zqR ?zqhm; (case zqF => k_asm); (case zqN => k_asm); (case zqoo => assumption); (case zqol => assumption); (case zqoff => assumption); (case zqsb => k_subL); (case zqho => assumption); (case zqm1 => rfl); (case zqm2 => rfl); (case zqm3 => rfl); (case zqP => first | (apply PIn.deref; tb_start) | (apply PIn.field; tb_start; exact Re.use (by assumption) (by k_subL) (by tb_start)) | (apply PIn.arr; tb_start; rotate_left; exact Re.use (by assumption) (by k_subL) (by tb_start); first | exact BIn.arr (by tb_start) | exact BIn.nam (by tb_start)) | (apply PIn.sli; tb_start; rotate_left; exact Re.use (by assumption) (by k_subL) (by tb_start); exact BIn.sli (by tb_start))); (case zqR => first | exact RootV.none | assumption); (case zqhm => intro z a1 a2 a3 a4 a5 a6; simp only [if_neg a1, if_neg a2, if_neg a3, if_neg a4, if_neg a5, if_neg a6]))) | ((with_reducible show wpAny _ _ (call (Value.ref 228) [Value.ref _, Value.int _ _]) _ _ _); k_dflt (refine' take_u ?zqB ?zqF ?zqX ?zqT ?zqhk ?zqN ?zqoff ?zqho ?zqht ?zqht2 ?zqhd ?zqhu ?_; (case zqB => k_asm); (case zqF => k_asm); (case zqX => k_asm); (case zqN => k_asm); (case zqT => k_asm); (case zqhk => first | exact rfl | assumption); (case zqoff => exact Off.app (by assumption) (by assumption)); (case zqho => assumption); (case zqht => first | decide | omega); (case zqht2 => first | decide | omega); (case zqhd => ktr_room); (case zqhu => first | ktr_units | ((simp only [units_under_make, units_deeper, units_in1, Around.mark_units, units_caller]); (try dsimp only [ktrTop]); omega))); intro r9 t9 o9 h9 tk9 hr0 hr1 ho9 F9 N9; (try dsimp only); (try k_sweep)) | ((with_reducible show wpAny _ _ (call (Value.ref 228) [Value.ref _, Value.int _ _]) _ _ _); k_dflt (refine' take_u ?zqB ?zqF ?zqX ?zqT ?zqhk ?zqN ?zqoff ?zqho ?zqht ?zqht2 ?zqhd ?zqhu ?_; (case zqB => k_asm); (case zqF => k_asm); (case zqX => k_asm); (case zqN => k_asm); (case zqT => k_asm); (case zqhk => first | exact rfl | assumption); (case zqoff => assumption); (case zqho => assumption); (case zqht => first | decide | omega); (case zqht2 => first | decide | omega); (case zqhd => ktr_room); (case zqhu => first | ktr_units | ((simp only [units_under_make, units_deeper, units_in1, Around.mark_units, units_caller]); (try dsimp only [ktrTop]); omega))); intro r9 t9 o9 h9 tk9 hr0 hr1 ho9 F9 N9; (try dsimp only); (try k_sweep)) | ((with_reducible show wpAny _ _ (newTuple _) _ _ _); k_dflt (refine' newTupH (hd := (_, _) :: own9) ?zqF ?zqN ?zqoff ?zqz ?_; (case zqF => k_asm); (case zqN => exact appCons (by k_asm)); (case zqoff => exact OffL.cons (by assumption) (by assumption)); (case zqz => exact Nat.le_of_ble_eq_true rfl)); intro D9 h9 n9 F9 N9 off9 sb9 hm9; have qa9 := off9.off; have qb9 := off9.tail; clear off9; replace N9 := consApp N9; (try k_sweep)) | ((with_reducible show wpAny _ _ (newTuple _) _ _ _); k_dflt (refine' newTup ?zqF ?zqN ?zqoff ?zqz ?_; (case zqF => k_asm); (case zqN => k_asm); (case zqoff => assumption); (case zqz => exact Nat.le_of_ble_eq_true rfl)); intro D9 h9 n9 F9 N9 off9 sb9 hm9; (try k_sweep)) | ((with_reducible show wpAny _ _ (newList _) _ _ _); k_dflt (refine' newLstH (hd := (_, _) :: own9) ?zqF ?zqN ?zqoff ?zqz ?_; (case zqF => k_asm); (case zqN => exact appCons (by k_asm)); (case zqoff => exact OffL.cons (by assumption) (by assumption)); (case zqz => exact Nat.le_of_ble_eq_true rfl)); intro D9 h9 n9 F9 N9 off9 sb9 hm9; have qa9 := off9.off; have qb9 := off9.tail; clear off9; replace N9 := consApp N9; (try k_sweep)) | ((with_reducible show wpAny _ _ (subscriptTail _ _ (Value.ref _) (Value.int _ _)) _ _ _); k_dflt (refine' pick5 ?zqk1 ?zqk2 ?zqk3 ?zqk4 (fun e => ?_) (fun e => ?_) (fun e => ?_) (fun e => ?_) (fun e => ?_) ?zqk6; (case zqk1 => k_asm); (case zqk2 => tb_start); (case zqk3 => k_asm); (case zqk4 => k_asm); (case zqk6 => with_unfolding_all rfl)); (all_goals (subst e; try k_fold))) | ((with_reducible show wpAny _ _ (subscriptTail _ _ (Value.ref _) (Value.ref _)) _ _ _); k_dflt (refine' slice2 (own := own9) ?zqF ?zqN ?zqol ?zqos ?zqm ?zqz1 ?zqz2 ?_ ?zqs ?zqg; (case zqF => k_asm); (case zqN => k_asm); (case zqol => assumption); (case zqos => assumption); (case zqm => tb_start); (case zqz1 => assumption); (case zqz2 => assumption); (case zqs => with_unfolding_all rfl); (case zqg => intro _; with_unfolding_all rfl)); intro D9 h9 n9 F9 N9 ol9 os9 sb9 hm9; (try k_sweep)) | ((with_reducible show wpAny _ _ (binaryOp Operator.Add (Value.ref _) (Value.ref _)) _ _ _); k_dflt (refine' add2 (own := own9) ?zqF ?zqN ?zqol ?zqos ?zqm1 ?zqm2 ?zqz2 ?_; (case zqF => k_asm); (case zqN => k_asm); (case zqol => assumption); (case zqos => assumption); (case zqm1 => tb_start); (case zqm2 => tb_start); (case zqz2 => assumption)); intro D9 h9 n9 F9 N9 ol9 os9 sb9 hm9; (try k_sweep)) | ((with_reducible show wpAny _ _ (subscriptTail _ _ (Value.ref _) (Value.int _ _)) _ _ _); k_dflt (refine' item_tup ?zqk1 ?zqk2 ?zqk3 ?zqk4 ?zqk5 ?_ ?zqk6; (case zqk1 => k_asm); (case zqk2 => tb_start); (case zqk3 => decide); (case zqk4 => decide); (case zqk5 => rfl); (case zqk6 => with_unfolding_all rfl); k_whole)) | walk1 | (dsimp only; walk1) | (leave1; walk_say "STEP leave1"; try dsimp only) | fail "no step")
    all_goals exact ret _ _ _ _ _ _ _ _ _ _ (by tb_start) (PIn.mono (by assumption) (by k_subL)) (by assumption) (by assumption) (by k_subL) (by assumption) (by k_asm) (by k_asm)
end
section
set_option maxHeartbeats 8000000 in
theorem base_ctr {w : World} {mean : ExcName → Option Value} {mg mb : Str → Option Value} {dp un : Nat} {gd : Option (List Code)} {cn : Str} {cs : Scope} {a : Addr} {ccd : Value} {cl : List (Str × Addr)} {outer : List Env} {A₀ : Around} {base h₀ : Heap} {L : Addr} {m : Str → Option Value} {s : Shared} {Q E : Value → Shared → Prop} {x : Addr} {kvs : List (Str × Value)} {t u : Value} {k : Str} {news : List (Addr × Obj)}
  (B : Below A₀ base outer h₀) (F : Fr h₀ L s.heap m) (X : (Mine.top.heap_1 w.params).In h₀) (T : Top Mine.top.view_1 LO mean mg mb h₀) (hk : cs.kind = .function) (N : News h₀ L s.heap news) (W : WIn w news x kvs) (Y : TyB news kvs t u k) (hd : dp < 500) (_hu : un < 5000)
  (ret : ∀ h' tk', Fr h₀ L h' m → News h₀ L h' news → Q u { s with heap := h', toks := tk' }) :
  wpAny (model PySem.Challenge.rw_xm0169_01.row.prog w) (ktrTop dp un gd cn cs L a ccd cl outer) (call (.ref 199) [.ref x, t]) Q E s := by
    obtain ⟨dx, es, n, dn, o, w1, w2, w3, w4, w5, w6, w7⟩ := W.ex
    clear W
    revert X
    k_fill
    intro X
    cases Y with
    | top h =>
      refine wpAny_call ?_
      k_dflt ktr_enter
      repeat' (first | (with_reducible refine gen_tok1 (fun tk9 => ?_); try dsimp only) | (k_unfold; (try dsimp only)) | (k_end; wrow_close) | ((with_reducible show wpAny _ _ (subscriptTail _ _ (Value.ref _) (Value.int _ _)) _ _ _); k_dflt (refine' item_tup ?zqk1 ?zqk2 ?zqk3 ?zqk4 ?zqk5 ?_ ?zqk6; (case zqk1 => k_asm); (case zqk2 => tb_start); (case zqk3 => decide); (case zqk4 => decide); (case zqk5 => rfl); (case zqk6 => with_unfolding_all rfl); k_whole)) | ((with_reducible show wpAny _ _ (compareOp CmpOp.Eq (Value.str _ _) (Value.str _ _)) _ _ _); k_dflt (refine' eqB ?zqe ?_; (case zqe => with_reducible assumption)); (try dsimp only [Bool.not_true, Bool.not_false])) | ((with_reducible show wpAny _ _ (getAttr (Value.ref _) _ _) _ _ _); k_dflt (refine' get_own ?zqk1 ?zqk2 ?zqk3 ?zqk4 ?zqk5 ?zqk6 ?zqk7 ?zqk8 ?zqk9 ?_; (case zqk1 => k_asm); (case zqk2 => k_asm); (case zqk3 => k_inst); (case zqk4 => k_is); (case zqk5 => k_is); (case zqk6 => k_is); (case zqk7 => k_is); (case zqk8 => assumption); (case zqk9 => k_handed); k_whole)) | ((with_reducible show wpAny _ _ (subscriptTail _ _ (Value.ref _) (Value.str _ _)) _ _ _); k_dflt (refine' kda_item (knd := PySem.strKind _ _) ?zqk1 ?zqk2 ?zqk3 (strKind_is _ _ _ _) ?zqk5 ?_ ?zqk6 ?zqk7; (case zqk1 => k_asm); (case zqk2 => tb_start); (case zqk3 => k_asm); (case zqk5 => assumption); (case zqk6 => with_unfolding_all rfl); (case zqk7 => intro _; with_unfolding_all rfl))) | ((with_reducible show wpAny _ _ (compareOp CmpOp.NotIn (Value.str _ _) (Value.ref _)) _ _ _); k_dflt (refine' kda_notin (knd := PySem.strKind _ _) ?zqk1 ?zqk2 ?zqk3 ?zqk4 (strKind_is _ _ _ _) ?zqk5 ?_; (case zqk1 => k_asm); (case zqk2 => tb_start); (case zqk3 => k_asm); (case zqk4 => k_asm); (case zqk5 => k_asm))) | walk1 | (dsimp only; walk1) | (leave1; walk_say "STEP leave1"; try dsimp only) | fail "no step")
      all_goals exact ret _ _ (by k_asm) (by k_asm)
    | lit h1 h2 =>
      refine wpAny_call ?_
      k_dflt ktr_enter
      repeat' (first | (with_reducible refine gen_tok1 (fun tk9 => ?_); try dsimp only) | (k_unfold; (try dsimp only)) | (k_end; wrow_close) | ((with_reducible show wpAny _ _ (subscriptTail _ _ (Value.ref _) (Value.int _ _)) _ _ _); k_dflt (refine' item_tup ?zqk1 ?zqk2 ?zqk3 ?zqk4 ?zqk5 ?_ ?zqk6; (case zqk1 => k_asm); (case zqk2 => tb_start); (case zqk3 => decide); (case zqk4 => decide); (case zqk5 => rfl); (case zqk6 => with_unfolding_all rfl); k_whole)) | ((with_reducible show wpAny _ _ (compareOp CmpOp.Eq (Value.str _ _) (Value.str _ _)) _ _ _); k_dflt (refine' eqB ?zqe ?_; (case zqe => with_reducible assumption)); (try dsimp only [Bool.not_true, Bool.not_false])) | ((with_reducible show wpAny _ _ (getAttr (Value.ref _) _ _) _ _ _); k_dflt (refine' get_own ?zqk1 ?zqk2 ?zqk3 ?zqk4 ?zqk5 ?zqk6 ?zqk7 ?zqk8 ?zqk9 ?_; (case zqk1 => k_asm); (case zqk2 => k_asm); (case zqk3 => k_inst); (case zqk4 => k_is); (case zqk5 => k_is); (case zqk6 => k_is); (case zqk7 => k_is); (case zqk8 => assumption); (case zqk9 => k_handed); k_whole)) | ((with_reducible show wpAny _ _ (subscriptTail _ _ (Value.ref _) (Value.str _ _)) _ _ _); k_dflt (refine' kda_item (knd := PySem.strKind _ _) ?zqk1 ?zqk2 ?zqk3 (strKind_is _ _ _ _) ?zqk5 ?_ ?zqk6 ?zqk7; (case zqk1 => k_asm); (case zqk2 => tb_start); (case zqk3 => k_asm); (case zqk5 => assumption); (case zqk6 => with_unfolding_all rfl); (case zqk7 => intro _; with_unfolding_all rfl))) | ((with_reducible show wpAny _ _ (compareOp CmpOp.NotIn (Value.str _ _) (Value.ref _)) _ _ _); k_dflt (refine' kda_notin (knd := PySem.strKind _ _) ?zqk1 ?zqk2 ?zqk3 ?zqk4 (strKind_is _ _ _ _) ?zqk5 ?_; (case zqk1 => k_asm); (case zqk2 => tb_start); (case zqk3 => k_asm); (case zqk4 => k_asm); (case zqk5 => k_asm))) | walk1 | (dsimp only; walk1) | (leave1; walk_say "STEP leave1"; try dsimp only) | fail "no step")
      all_goals exact ret _ _ (by k_asm) (by k_asm)
    | nam h1 h2 h3 h4 h5 h6 h7 =>
      refine wpAny_call ?_
      k_dflt ktr_enter
      repeat' (first | (with_reducible refine gen_tok1 (fun tk9 => ?_); try dsimp only) | (k_unfold; (try dsimp only)) | (k_end; wrow_close) | ((with_reducible show wpAny _ _ (subscriptTail _ _ (Value.ref _) (Value.int _ _)) _ _ _); k_dflt (refine' item_tup ?zqk1 ?zqk2 ?zqk3 ?zqk4 ?zqk5 ?_ ?zqk6; (case zqk1 => k_asm); (case zqk2 => tb_start); (case zqk3 => decide); (case zqk4 => decide); (case zqk5 => rfl); (case zqk6 => with_unfolding_all rfl); k_whole)) | ((with_reducible show wpAny _ _ (compareOp CmpOp.Eq (Value.str _ _) (Value.str _ _)) _ _ _); k_dflt (refine' eqB ?zqe ?_; (case zqe => with_reducible assumption)); (try dsimp only [Bool.not_true, Bool.not_false])) | ((with_reducible show wpAny _ _ (getAttr (Value.ref _) _ _) _ _ _); k_dflt (refine' get_own ?zqk1 ?zqk2 ?zqk3 ?zqk4 ?zqk5 ?zqk6 ?zqk7 ?zqk8 ?zqk9 ?_; (case zqk1 => k_asm); (case zqk2 => k_asm); (case zqk3 => k_inst); (case zqk4 => k_is); (case zqk5 => k_is); (case zqk6 => k_is); (case zqk7 => k_is); (case zqk8 => assumption); (case zqk9 => k_handed); k_whole)) | ((with_reducible show wpAny _ _ (subscriptTail _ _ (Value.ref _) (Value.str _ _)) _ _ _); k_dflt (refine' kda_item (knd := PySem.strKind _ _) ?zqk1 ?zqk2 ?zqk3 (strKind_is _ _ _ _) ?zqk5 ?_ ?zqk6 ?zqk7; (case zqk1 => k_asm); (case zqk2 => tb_start); (case zqk3 => k_asm); (case zqk5 => assumption); (case zqk6 => with_unfolding_all rfl); (case zqk7 => intro _; with_unfolding_all rfl))) | ((with_reducible show wpAny _ _ (compareOp CmpOp.NotIn (Value.str _ _) (Value.ref _)) _ _ _); k_dflt (refine' kda_notin (knd := PySem.strKind _ _) ?zqk1 ?zqk2 ?zqk3 ?zqk4 (strKind_is _ _ _ _) ?zqk5 ?_; (case zqk1 => k_asm); (case zqk2 => tb_start); (case zqk3 => k_asm); (case zqk4 => k_asm); (case zqk5 => k_asm))) | walk1 | (dsimp only; walk1) | (leave1; walk_say "STEP leave1"; try dsimp only) | fail "no step")
      all_goals exact ret _ _ (by k_asm) (by k_asm)
end
section
/-- what holds at each turn: the walk's rest from any state whose frame names the place and the world -/
def RIH (g : Heap) (L : Addr) (news : List (Addr × Obj)) (wv : Value) (C : Shared → Prop) (s : Shared) (v : Value) : Prop :=
  ∀ h tk m, m (S "place") = some v → m (S "world") = some wv → Fr g L h m → News g L h news → C { s with heap := h, toks := tk }
theorem RIH.use {g h : Heap} {L : Addr} {news big : List (Addr × Obj)} {wv v : Value} {C : Shared → Prop} {s : Shared} {m : Str → Option Value} {tk : Nat} (H : RIH g L news wv C s v) (hp : m (S "place") = some v) (hw : m (S "world") = some wv)
    (F : Fr g L h m) (N : News g L h big) (hs : Sub news big) : C { s with heap := h, toks := tk } := H h tk m hp hw F fun p hp => N p (hs p hp)
theorem RIH.useW {prog : Program} {w : World} {A : Around} {E : Value → Shared → Prop} {env : Env} {test : PySem.Expr} {body orelse : List Stmt} {Q : Flow → Shared → Prop} {n k : Nat}
    {g h : Heap} {L : Addr} {news big : List (Addr × Obj)} {wv v : Value} {s : Shared} {m : Str → Option Value} {tk : Nat} (H : RIH g L news wv (WhlRest prog w A E env test body orelse Q n) s v) (hp : m (S "place") = some v) (hw : m (S "world") = some wv)
    (F : Fr g L h m) (N : News g L h big) (hs : Sub news big) : WhlRest prog w A E env test body orelse Q k { s with heap := h, toks := tk } := H h tk m hp hw F fun p hp => N p (hs p hp)
theorem News.sub {h₀ h : Heap} {L : Addr} {small big : List (Addr × Obj)} (N : News h₀ L h big) (hs : Sub small big) : News h₀ L h small := fun p hp => N p (hs p hp)
theorem root_some {x : Int} {t : Tok} {r : Option Int} (h : some x = r) : RootV (.int x t) r := by subst h; exact .some
theorem root_none {r : Option Int} (h : none = r) : RootV .none r := by subst h; exact .none
theorem root_loop {prog : Program} {w : World} {A : Around} {E : Value → Shared → Prop} {env : Env} {test : PySem.Expr} {body orelse : List Stmt} {Q : Flow → Shared → Prop} {n : Nat} {s : Shared}
    {g : Heap} {L : Addr} {news : List (Addr × Obj)} {wv v T : Value} {r : Option Int} {i : Bool} {m : Str → Option Value} {RQ : Option Int → Prop} (P : PIn news v T r i) (F : Fr g L s.heap m) (N : News g L s.heap news) (hp : m (S "place") = some v) (hw : m (S "world") = some wv) (hR : RQ r)
    (loc : ∀ (a : Addr) (k z y : Tok) (T : Value) (x : Int), RQ (some x) → (a, tupA #[.str (S "local") k, T, .int 0 z, .int x y]) ∈ news → RIH g L news wv (WhlRest prog w A E env test body orelse Q n) s (.ref a))
    (call : ∀ (a : Addr) (k z : Tok) (T u v : Value), RQ none → (a, tupA #[.str (S "call") k, T, .int 0 z, u, v]) ∈ news → RIH g L news wv (WhlRest prog w A E env test body orelse Q n) s (.ref a))
    (field : ∀ (a b : Addr) (k z : Tok) (T u : Value), (a, tupA #[.str (S "field") k, T, .int 0 z, .ref b, u]) ∈ news → RIH g L news wv (WhlRest prog w A E env test body orelse Q n) s (.ref b) → RIH g L news wv (WhlRest prog w A E env test body orelse Q n) s (.ref a))
    (arr : ∀ (a b : Addr) (k z : Tok) (T T' u : Value) (r : Option Int) (i : Bool), (a, tupA #[.str (S "index") k, T, .int 0 z, .ref b, u]) ∈ news → BIn news T' true → PIn news (.ref b) T' r i → RIH g L news wv (WhlRest prog w A E env test body orelse Q n) s (.ref b) → RIH g L news wv (WhlRest prog w A E env test body orelse Q n) s (.ref a))
    (sli : ∀ (a b : Addr) (k z : Tok) (T T' u : Value) (r : Option Int) (i : Bool), RQ none → (a, tupA #[.str (S "index") k, T, .int 0 z, .ref b, u]) ∈ news → BIn news T' false → PIn news (.ref b) T' r i → RIH g L news wv (WhlRest prog w A E env test body orelse Q n) s (.ref a))
    (deref : ∀ (a : Addr) (k z : Tok) (T u : Value), RQ none → (a, tupA #[.str (S "deref") k, T, .int 0 z, u]) ∈ news → RIH g L news wv (WhlRest prog w A E env test body orelse Q n) s (.ref a)) :
    WhlRest prog w A E env test body orelse Q n s := by
  have all : RQ r → RIH g L news wv (WhlRest prog w A E env test body orelse Q n) s v := by
    clear hp
    induction P with
    | loc h => exact fun q => loc _ _ _ _ _ _ q h
    | call h => exact fun q => call _ _ _ _ _ _ q h
    | field h _ ih => exact fun q => field _ _ _ _ _ _ h (ih (by exact q) q)
    | arr h b p ih => exact fun q => arr _ _ _ _ _ _ _ _ _ h b p (ih (by exact q) q)
    | sli h b p _ => exact fun q => sli _ _ _ _ _ _ _ _ _ q h b p
    | deref h => exact fun q => deref _ _ _ _ _ q h
  exact all hR s.heap s.toks m hp hw F N
theorem TyB.mono {news news' : List (Addr × Obj)} {kvs : List (Str × Value)} {t u : Value} {k : Str} (h : TyB news kvs t u k) (hs : ∀ p ∈ news, p ∈ news') : TyB news' kvs t u k := by
  cases h with
  | top h => exact .top h
  | lit h1 h2 => exact .lit (hs _ h1) h2
  | nam h1 h2 h3 h4 h5 h6 h7 => exact .nam (hs _ h1) h2 (hs _ h3) (hs _ h4) h5 (hs _ h6) h7
/-- a named type's row, by its name -/
def Nam (news : List (Addr × Obj)) (kvs : List (Str × Value)) (nm : Str) (u : Addr) : Prop :=
  ∃ y d es n, valueAt kvs nm = some (.ref y) ∧ (y, instObj 166 d) ∈ news ∧ (d, dictOf es n) ∈ news ∧ getL (S "underlying") es = some (some (.ref u))
theorem Nam.mono {news news' : List (Addr × Obj)} {kvs : List (Str × Value)} {nm : Str} {u : Addr} (h : Nam news kvs nm u) (hs : ∀ p ∈ news, p ∈ news') : Nam news' kvs nm u := by
  obtain ⟨y, d, es, n, a, b, c, e⟩ := h
  exact ⟨y, d, es, n, a, hs _ b, hs _ c, e⟩
/-- the six named types -/
structure WN (news : List (Addr × Obj)) (kvs : List (Str × Value)) : Prop where
  sS : ∃ u f r t1 t2 t3, Nam news kvs (S "m.S") u ∧ (u, tupA #[.str (S "struct") t1, .ref f]) ∈ news ∧ (f, tupA #[.ref r]) ∈ news ∧ (r, tupA #[.str (S "a") t2, .ref 214, t3]) ∈ news
  sA : ∃ u t1 t2, Nam news kvs (S "m.A") u ∧ (u, tupA #[.str (S "array") t1, .int 3 t2, .ref 214]) ∈ news
  sL : ∃ u t1, Nam news kvs (S "m.L") u ∧ (u, tupA #[.str (S "slice") t1, .ref 214]) ∈ news
  sP : ∃ u t1, Nam news kvs (S "m.P") u ∧ (u, tupA #[.str (S "ptr") t1, .ref 214]) ∈ news
  sI : ∃ u t1 v, Nam news kvs (S "m.I") u ∧ (u, tupA #[.str (S "interface") t1, v]) ∈ news
theorem WN.mono {news news' : List (Addr × Obj)} {kvs : List (Str × Value)} (h : WN news kvs) (hs : ∀ p ∈ news, p ∈ news') : WN news' kvs := by
  obtain ⟨⟨u, f, r, t1, t2, t3, n, a, b, c⟩, ⟨uA, a1, a2, nA, aA⟩, ⟨uL, l1, nL, aL⟩, ⟨uP, p1, nP, aP⟩, ⟨uI, i1, v, nI, aI⟩⟩ := h
  exact ⟨⟨u, f, r, t1, t2, t3, n.mono hs, hs _ a, hs _ b, hs _ c⟩, ⟨uA, a1, a2, nA.mono hs, hs _ aA⟩, ⟨uL, l1, nL.mono hs, hs _ aL⟩, ⟨uP, p1, nP.mono hs, hs _ aP⟩, ⟨uI, i1, v, nI.mono hs, hs _ aI⟩⟩
theorem Nam.ty {news : List (Addr × Obj)} {kvs : List (Str × Value)} {nm k : Str} {t u : Addr} {tk tk' tk'' : Tok} {r : List Value} (h : Nam news kvs nm u) (hm : (t, tupA #[.str (S "named") tk, .str nm tk']) ∈ news) (hu : (u, tupA (List.toArray (.str k tk'' :: r))) ∈ news)
    (hk : (k == S "named") = false) : TyB news kvs (.ref t) (.ref u) k := by
  obtain ⟨y, d, es, n, a, b, c, e⟩ := h
  exact .nam hm a b c e hu hk
theorem BIn.base {news : List (Addr × Obj)} {kvs : List (Str × Value)} {T : Value} (W : WN news kvs) (h : BIn news T true) : ∃ u tk r, TyB news kvs T (.ref u) (S "array") ∧ (u, tupA (List.toArray (.str (S "array") tk :: r))) ∈ news := by
  cases h with
  | arr h => exact ⟨_, _, _, .lit (r := [.int 2 _, _]) h (by rfl), h⟩
  | nam h =>
    obtain ⟨u, t1, t2, n, a⟩ := W.sA
    exact ⟨u, t1, [.int 3 t2, .ref 214], n.ty h (r := [.int 3 t2, .ref 214]) a (by rfl), a⟩
theorem BIn.baseL {news : List (Addr × Obj)} {kvs : List (Str × Value)} {T : Value} (W : WN news kvs) (h : BIn news T false) : ∃ u tk r, TyB news kvs T (.ref u) (S "slice") ∧ (u, tupA (List.toArray (.str (S "slice") tk :: r))) ∈ news := by
  cases h with
  | sli h =>
    obtain ⟨u, t1, n, a⟩ := W.sL
    exact ⟨u, t1, [.ref 214], n.ty h (r := [.ref 214]) a (by rfl), a⟩
theorem item_pin {prog : Program} {w : World} {A : Around} {E : Value → Shared → Prop} {s : Shared} {value slice : PySem.Expr} {h₀ : Heap} {L b : Addr} {news big : List (Addr × Obj)} {T : Value} {r : Option Int} {i : Bool} {u : Tok} {Q : Value → Shared → Prop}
    (P : PIn news (.ref b) T r i) (N : News h₀ L s.heap big) (hs : Sub news big) (h : Q T s)
    (hq : subscripted slice false (.ref b) (.int 1 u) = operate [.ref b, .int 1 u] (getItem (.ref b) (.int 1 u))) :
    wpAny (model prog w) A (subscriptTail value slice (.ref b) (.int 1 u)) Q E s := by
  obtain ⟨a, k, t, z, us, e, _, _, hm, -⟩ := P.shapeG
  cases e
  exact item_tup (vs := .str k t :: T :: .int 0 z :: us) N (hs _ hm) (by decide) (by decide) rfl h hq
end
section
set_option maxHeartbeats 8000000 in
theorem root_ctr {w : World} {mean : ExcName → Option Value} {mg mb : Str → Option Value} {dp un : Nat} {gd : Option (List Code)} {cn : Str} {cs : Scope} {a : Addr} {ccd : Value} {cl : List (Str × Addr)} {outer : List Env} {A₀ : Around} {base h₀ : Heap} {L : Addr} {m : Str → Option Value} {s : Shared} {Q E : Value → Shared → Prop} {x : Addr} {kvs : List (Str × Value)} {v T₀ : Value} {r : Option Int} {i : Bool} {news : List (Addr × Obj)}
  (B : Below A₀ base outer h₀) (F : Fr h₀ L s.heap m) (X : (Mine.top.heap_1 w.params).In h₀) (T : Top Mine.top.view_1 LO mean mg mb h₀) (hk : cs.kind = .function) (N : News h₀ L s.heap news) (W : WIn w news x kvs) (WW : WN news kvs) (P : PIn news v T₀ r i) (hd : dp < 400) (hu : un < 4000)
  (ret : ∀ rv h' tk', RootV rv r → Fr h₀ L h' m → News h₀ L h' news → Q rv { s with heap := h', toks := tk' }) :
  wpAny (model PySem.Challenge.rw_xm0169_01.row.prog w) (ktrTop dp un gd cn cs L a ccd cl outer) (call (.ref 42) [v, .ref x]) Q E s := by
    obtain ⟨dx, es, n, dn, o, w1, w2, w3, w4, w5, w6, w7⟩ := id W.ex
    revert X
    k_fill
    intro X
    refine wpAny_call ?_
    k_dflt ktr_enter
    repeat' (first | (with_reducible refine gen_tok1 (fun tk9 => ?_); try dsimp only) | (k_unfold; (try dsimp only)) | (k_end; wrow_close) | ((with_reducible intros); (with_reducible show RIH _ _ _ _ _ _ _); unfold Mine.RIH; intro h9 tk9 m9 hp9 hw9 F9 N9; (try (have hY9 := BIn.base (by assumption) (by assumption); obtain ⟨u9, tk8, r9, hY9, hu9⟩ := hY9)); (try (have hY9 := BIn.baseL (by assumption) (by assumption); obtain ⟨u9, tk8, r9, hY9, hu9⟩ := hY9))) | ((with_reducible show wpAny _ _ (exec (Stmt.While _ _ _ _) _) _ _ _); k_dflt (refine whl_start 100 ?_)) | ((with_reducible show WhlRest _ _ _ _ _ _ _ _ _ _ _); k_dflt (first | (refine' RIH.useW ?zqH ?zqhp ?zqhw ?zqF ?zqN ?zqhs; (case zqH => k_asm); (case zqF => k_asm); (case zqhp => exact rfl); (case zqhw => first | exact rfl | assumption); (case zqN => k_asm); (case zqhs => k_subL)) | (refine' root_loop (RQ := fun r => r = _) ?zqP ?zqF ?zqN ?zqhp ?zqhw ?zqhR ?_ ?_ ?_ ?_ ?_ ?_; (case zqP => k_asm); (case zqF => k_asm); (case zqN => k_asm); (case zqhp => exact rfl); (case zqhw => exact rfl); (case zqhR => exact rfl)))) | ((with_reducible show wpAny _ _ (call (Value.ref 199) _) _ _ _); k_dflt (refine' base_ctr ?zqB ?zqF ?zqX ?zqT ?zqhk ?zqN ?zqW ?zqY ?zqhd ?zqhu ?_; (case zqB => k_asm); (case zqF => k_asm); (case zqX => k_asm); (case zqN => k_asm); (case zqT => k_asm); (case zqhk => first | exact rfl | assumption); (case zqW => first | assumption | exact WIn.mono (by assumption) (by k_subL)); (case zqY => first | assumption | exact TyB.mono (by assumption) (by k_subL)); (case zqhd => ktr_room); (case zqhu => first | ktr_units | ((simp only [units_under_make, units_deeper, units_in1, Around.mark_units, units_caller]); (try dsimp only [ktrTop]); omega))); intro h9 tk9 F9 N9; (try dsimp only); (try k_sweep)) | ((with_reducible show wpAny _ _ (getMethod (Value.ref _) _ _) _ _ _); k_dflt (refine' method_inst ?zqk1 ?zqk2 ?zqk3 ?zqk4 ?zqk5 ?zqk6 ?zqk7 ?_; (case zqk1 => k_asm); (case zqk2 => k_asm); (case zqk3 => k_inst); (case zqk4 => k_is); (case zqk5 => k_is); (case zqk6 => k_is); (case zqk7 => assumption); k_whole)) | ((with_reducible show wpAny _ _ (subscriptTail _ _ (Value.ref _) (Value.int 1 _)) _ _ _); k_dflt (refine' item_pin ?zqk1 ?zqk2 ?zqk3 ?_ ?zqk6; (case zqk1 => k_asm); (case zqk2 => k_asm); (case zqk3 => k_subL); (case zqk6 => with_unfolding_all rfl); k_whole)) | ((with_reducible show wpAny _ _ (subscriptTail _ _ (Value.ref _) (Value.int _ _)) _ _ _); k_dflt (refine' item_tup ?zqk1 ?zqk2 ?zqk3 ?zqk4 ?zqk5 ?_ ?zqk6; (case zqk1 => k_asm); (case zqk2 => tb_start); (case zqk3 => decide); (case zqk4 => decide); (case zqk5 => rfl); (case zqk6 => with_unfolding_all rfl); k_whole)) | ((with_reducible show wpAny _ _ (eval (Expr.Name _ _) _) _ _ _); k_dflt (refine' ld ?zqk1 ?zqk2 ?_; (case zqk1 => k_asm); (case zqk2 => assumption); k_whole)) | walk1 | (dsimp only; walk1) | (leave1; walk_say "STEP leave1"; try dsimp only) | fail "no step")
    all_goals (exact ret _ _ _ (by first | exact root_some (by assumption) | exact root_none (by assumption)) (by k_asm) (newsAll (by k_asm) (by k_subL)))
end
section
set_option maxHeartbeats 8000000 in
theorem row_ctr {w : World} {mean : ExcName → Option Value} {mg mb : Str → Option Value} {dp un : Nat} {gd : Option (List Code)} {cn : Str} {cs : Scope} {a : Addr} {ccd : Value} {cl : List (Str × Addr)} {outer : List Env} {A₀ : Around} {base h₀ : Heap} {L : Addr} {m : Str → Option Value} {s : Shared} {Q E : Value → Shared → Prop} {v1 v2 v3 v4 : Value} {news : List (Addr × Obj)}
  (B : Below A₀ base outer h₀) (F : Fr h₀ L s.heap m) (X : (Mine.top.heap_1 w.params).In h₀) (T : Top Mine.top.view_1 LO mean mg mb h₀) (hk : cs.kind = .function) (N : News h₀ L s.heap news) (hd : dp < 500) (_hu : un < 5000)
  (ret : ∀ y d es n h' tk', Fr h₀ L h' m → News h₀ L h' ((y, instObj 166 d) :: (d, dictOf es n) :: news) → (∀ p ∈ news, p.1 < d) → d < y → getL (S "underlying") es = some (some v3) → Q (.ref y) { s with heap := h', toks := tk' }) :
  wpAny (model PySem.Challenge.rw_xm0169_01.row.prog w) (ktrTop dp un gd cn cs L a ccd cl outer) (call (.ref 166) [v1, v2, v3, v4] []) Q E s := by
    revert X
    k_fill
    intro X
    refine' call_cls ?k1 ?k2 ?k3 ?k4 ?k5 ?k6 ?_
    (case k1 => k_asm)
    (case k2 => k_asm)
    (case k3 => k_asm)
    (case k4 => k_is)
    (case k5 => k_is)
    (case k6 => k_is)
    intro x' d' h' F' N' l1 l2
    have q1 : Off d' ((x', instObj 166 d') :: news) := offCons' (Nat.ne_of_lt l2).symm (fun p hp => Nat.ne_of_lt (l1 p hp))
    replace N' := swapN N'
    k_dflt ktr_enter
    repeat' (first | (with_reducible refine gen_tok1 (fun tk9 => ?_); try dsimp only) | (k_unfold; (try dsimp only)) | (k_end; wrow_close) | walk1 | (dsimp only; walk1) | (leave1; walk_say "STEP leave1"; try dsimp only) | fail "no step")
    all_goals (refine ret _ _ _ _ _ _ (by k_asm) (swapN (by k_asm)) (by assumption) (by assumption) ?_; k_dflt k_get)
end
section
set_option maxHeartbeats 8000000 in
theorem known_ctr {w : World} {mean : ExcName → Option Value} {mg mb : Str → Option Value} {dp un : Nat} {gd : Option (List Code)} {cn : Str} {cs : Scope} {a : Addr} {ccd : Value} {cl : List (Str × Addr)} {outer : List Env} {A₀ : Around} {base h₀ : Heap} {L : Addr} {m : Str → Option Value} {s : Shared} {Q E : Value → Shared → Prop} {news : List (Addr × Obj)}
  (B : Below A₀ base outer h₀) (F : Fr h₀ L s.heap m) (X : (Mine.top.heap_1 w.params).In h₀) (T : Top Mine.top.view_1 LO mean mg mb h₀) (hk : cs.kind = .function) (N : News h₀ L s.heap news) (hd : dp < 490) (hu : un < 4900)
  (ret : ∀ d o v1 v2 v3 v4 h' tk', Fr h₀ L h' m → News h₀ L h' ((d, o) :: news) → (∀ p ∈ news, p.1 < d) → (d == sysModules) = false → o.IsDictOf (PySem.strKind PW w) [(S "error", v1), (S "runtime.Error", v2), (S "sync.Mutex", v3), (S "sync.WaitGroup", v4)] → Q (.ref d) { s with heap := h', toks := tk' }) :
  wpAny (model PySem.Challenge.rw_xm0169_01.row.prog w) (ktrTop dp un gd cn cs L a ccd cl outer) (call (.ref 177) [] []) Q E s := by
    revert X
    k_fill
    intro X
    refine wpAny_call ?_
    k_dflt ktr_enter
    repeat' (first | (with_reducible refine gen_tok1 (fun tk9 => ?_); try dsimp only) | (k_unfold; (try dsimp only)) | (k_end; wrow_close) | ((with_reducible show wpAny _ _ (newTuple _) _ _ _); k_dflt (refine' kup_newTuple ?zqF ?zqN ?_ ?zqz; (case zqF => k_asm); (case zqN => k_asm); (case zqz => exact Nat.le_of_ble_eq_true rfl)); intro D9 h9 F9 N9 l9; clear l9; replace N9 := news1 N9; (try k_sweep)) | ((with_reducible show wpAny _ _ (eval (Expr.Dict (_ :: _) _ _) _) _ _ _); k_dflt (refine' kdn_str ?zqq ?zqF ?zqN ?zqb ?zqa ?zql ?zqe ?zqn ?_; (case zqq => rfl); (case zqF => k_asm); (case zqN => k_asm); (case zqb => exact Top.nolimit (by k_asm)); (case zqa => rfl); (case zql => rfl); (case zqe => exact List.cons_ne_nil _ _); (case zqn => exact Nat.le_of_ble_eq_true rfl)); intro d9 h9 o9 F9 N9 l9 lo9 hd9; (try k_sweep)) | ((with_reducible show wpAny _ _ (eval (Expr.Dict [] [] _) _) _ _ _); k_dflt (refine' newDict_K ?zqk1 ?zqk2 (TopRead.nolimit (by k_asm)) ?_; (case zqk1 => k_asm); (case zqk2 => k_asm)); intro d9 h9 o9 F9 N9 l9 lo9 hs9 fs9 hi9 fi9; clear l9 lo9 hs9 fs9 hi9 fi9; replace N9 := news1 N9; (try k_sweep)) | ((with_reducible show KdnMade _ _ _ _ _ _ _); k_dflt (refine' kdn_made_str ?zqF ?zqN ?zqU ?zqd ?zqk ?zqn ?_; (case zqF => k_asm); (case zqN => k_asm); (case zqU => exact UpdF.head (offOfLt0 (by assumption))); (case zqd => k_asm); (case zqk => rfl); (case zqn => exact of_decide_eq_true (by first | rfl | kernel_rfl!))); intro h9 o9 F9 N9 hd9; (try dsimp only at N9); (try k_sweep)) | ((with_reducible show wpAny _ _ (call (Value.ref 166) _) _ _ _); k_dflt (refine' row_ctr ?zqB ?zqF ?zqX ?zqT ?zqhk ?zqN ?zqhd ?zqhu ?_; (case zqB => k_asm); (case zqF => k_asm); (case zqX => k_asm); (case zqN => k_asm); (case zqT => k_asm); (case zqhk => first | exact rfl | assumption); (case zqhd => ktr_room); (case zqhu => first | ktr_units | ((simp only [units_under_make, units_deeper, units_in1, Around.mark_units, units_caller]); (try dsimp only [ktrTop]); omega))); intro y9 d9 es9 c9 h9 tk9 F9 N9 l91 l92 hg9; clear l91 l92 hg9; replace N9 := news1 (news1 N9); (try dsimp only); (try k_sweep)) | walk1 | (dsimp only; walk1) | (leave1; walk_say "STEP leave1"; try dsimp only) | fail "no step")
    all_goals exact ret _ _ _ _ _ _ _ _ (by k_asm) (newsAll (by k_asm) (subHd (by k_subL))) (ltSub (by assumption) (by k_subL)) (by k_asm) (by k_asm)
end
section
set_option maxHeartbeats 8000000 in
theorem world0_ctr {w : World} {mean : ExcName → Option Value} {mg mb : Str → Option Value} {dp un : Nat} {gd : Option (List Code)} {cn : Str} {cs : Scope} {a : Addr} {ccd : Value} {cl : List (Str × Addr)} {outer : List Env} {A₀ : Around} {base h₀ : Heap} {L : Addr} {m : Str → Option Value} {s : Shared} {Q E : Value → Shared → Prop} {news : List (Addr × Obj)}
  (B : Below A₀ base outer h₀) (F : Fr h₀ L s.heap m) (X : (Mine.top.heap_1 w.params).In h₀) (T : Top Mine.top.view_1 LO mean mg mb h₀) (hk : cs.kind = .function) (N : News h₀ L s.heap news) (hd : dp < 480) (hu : un < 4800)
  (ret : ∀ x dx es n dn o v1 v2 v3 v4 n0 h' tk', Fr h₀ L h' m → News h₀ L h' ((dn, o) :: n0) → Off dn n0 → (x, instObj 209 dx) ∈ n0 → (dx, dictOf es n) ∈ n0 → (dn == sysModules) = false → getL (S "named") es = some (some (.ref dn)) → getL (S "base_of") es = some none →
    o.IsDictOf (PySem.strKind PW w) [(S "error", v1), (S "runtime.Error", v2), (S "sync.Mutex", v3), (S "sync.WaitGroup", v4)] → Q (.ref x) { s with heap := h', toks := tk' }) :
  wpAny (model PySem.Challenge.rw_xm0169_01.row.prog w) (ktrTop dp un gd cn cs L a ccd cl outer) (call (.ref 209) [] []) Q E s := by
    revert X
    k_fill
    intro X
    refine' call_cls ?k1 ?k2 ?k3 ?k4 ?k5 ?k6 ?_
    (case k1 => k_asm)
    (case k2 => k_asm)
    (case k3 => k_asm)
    (case k4 => k_is)
    (case k5 => k_is)
    (case k6 => k_is)
    intro x' d' h' F' N' l1 l2
    have q1 : Off d' ((x', instObj 209 d') :: news) := offCons' (Nat.ne_of_lt l2).symm (fun p hp => Nat.ne_of_lt (l1 p hp))
    replace N' := swapN N'
    k_dflt (refine' code_def ?k1 ?k2 ?k3 ?k4 ?k5 ?kA ?kF ?kK ?k6 ?k7 ?k8 ?k9 ?kB ?_ ?c2 ?c3 ?c4 ?c5; (case kA => exact rfl); (case kF => exact rfl); (case kK => assumption); (case k1 => k_asm); (case k2 => k_asm); (case k3 => k_asm); (case k4 => k_asm); (case k5 => k_asm); (case k6 => k_is); (case k7 => k_is); (case k8 => ktr_room); (case k9 => exact binds_K (by k_in) rfl (by k_is) rfl rfl rfl); (case c5 => decide); (case kB => exact locs rfl); (case c2 => exact rfl); (case c3 => exact rfl); (case c4 => exact rfl))
    intro g' L' h' FG' F' N' B' X' T'
    (try dsimp only)
    (try k_fold)
    repeat' (first | (with_reducible refine gen_tok1 (fun tk9 => ?_); try dsimp only) | (k_unfold; (try dsimp only)) | (k_end; wrow_close) | ((with_reducible show wpAny _ _ (call (Value.ref 177) _) _ _ _); k_dflt (refine' known_ctr ?zqB ?zqF ?zqX ?zqT ?zqhk ?zqN ?zqhd ?zqhu ?_; (case zqB => k_asm); (case zqF => k_asm); (case zqX => k_asm); (case zqN => k_asm); (case zqT => k_asm); (case zqhk => first | exact rfl | assumption); (case zqhd => ktr_room); (case zqhu => first | ktr_units | ((simp only [units_under_make, units_deeper, units_in1, Around.mark_units, units_caller]); (try dsimp only [ktrTop]); omega))); intro dn9 o9 v91 v92 v93 v94 h9 tk9 F9 N9 l9 lo9 hd9; replace N9 := swapN N9; have q9 := offCons' (x := o9) (ltNe l9).symm (by assumption); (try dsimp only); (try k_sweep)) | ((with_reducible show wpAny _ _ (eval (Expr.Dict [] [] _) _) _ _ _); k_dflt (refine' newDict_K ?zqk1 ?zqk2 (TopRead.nolimit (by k_asm)) ?_; (case zqk1 => k_asm); (case zqk2 => k_asm)); intro d9 h9 o9 F9 N9 l9 lo9 hs9 fs9 hi9 fi9; clear l9 lo9 hs9 fs9 hi9 fi9; replace N9 := news1 N9; (try k_sweep)) | ((with_reducible show wpAny _ _ (newList _) _ _ _); k_dflt (refine' newList_K ?zqk1 ?zqk2 ?_; (case zqk1 => k_asm); (case zqk2 => k_asm); k_whole); intro D9 h9 F9 N9 l9; clear l9; replace N9 := news1 N9; (try k_sweep)) | walk1 | (dsimp only; walk1) | (leave1; walk_say "STEP leave1"; try dsimp only) | fail "no step")
    all_goals exact ret x' d' _ _ dn9 _ _ _ _ _ _ _ _ (by k_asm) (swapN (by k_asm)) (offCons' (ltNe l9) (ltOff l9)) (by tb_start) (by tb_start) (by assumption) (by k_dflt k_get) (by k_dflt k_get) (by k_asm)
end
section
theorem upd_any {prog : Program} {w : World} {K : Type} [DecidableEq K] {knd : KeyKind prog w K} {A : Around} {E : Value → Shared → Prop} {s : Shared} {h₀ : Heap} {L d e : Addr} {m : Str → Option Value} {news : List (Addr × Obj)} {g : Obj → List (Addr × Obj)} {o o₂ : Obj} {kvs more : List (K × Value)} {Q : Value → Shared → Prop}
    (F : Fr h₀ L s.heap m) (N : News h₀ L s.heap news) (U : UpdF d o news g) (hd : o.IsDictOf knd kvs) (h2 : (e, o₂) ∈ news) (hd2 : o₂.IsDictOf knd more) (lo : (e == sysModules) = false) (hne : d ≠ e) (hsz : kvs.length + more.length ≤ 1000)
    (h : ∀ h' o', Fr h₀ L h' m → News h₀ L h' (g o') → o'.IsDictOf knd (merged kvs more) → Q .none { s with heap := h' }) : wpAny (model prog w) A (call (.builtin "dict.update") [.ref d, .ref e]) Q E s := by
  have hD2 := kda_dict N h2 hd2
  obtain ⟨pre, post, rfl, hg, a, b⟩ := U.split
  have hm := N (d, o) (List.mem_append_right _ (.head _))
  have hD : s.heap.DictOf knd d kvs := Heap.dictOf_iff.mpr ⟨o, hm.1, hd⟩
  refine call_meetsIn PySem.F.slot_dict_update hD.typeIs PySem.F.entry_dict_update (PySem.F.args_dict_update_2 _ _) (meets_dict_update knd d e hne lo)
    ⟨kvs, more, hD, hD2, (by rw [sizeLine_eq]; omega), fun h' hmm _ hs => ?_⟩
  obtain ⟨o', ho', hd'⟩ := Heap.dictOf_iff.mp hmm
  exact h h' o' (F.change hs hm.2.1 hm.2.2) (hg o' ▸ N.setIn a b hs ho') hd'
section
variable (prog : Program) (w : World) (A : Around) (E : Value → Shared → Prop) (h₀ : Heap) (env : Env) (x : Str) (body : List Stmt) (Q : Flow → Shared → Prop) (d : Addr) (od : Obj)
def KEnd (h₀ : Heap) (L d I : Addr) (od oi : Obj) (R : (Str → Option Value) → List (Addr × Obj) → Prop) (s₁ s₂ : Shared) : Prop :=
  ∃ h' tk m' news' nx, s₂ = { s₁ with heap := h', toks := tk } ∧ Fr h₀ L h' m' ∧ News h₀ L h' news' ∧ (∀ p ∈ nx, p ∈ news') ∧ (I, oi) ∈ news' ∧ (d, od) ∈ nx ∧ (∀ p ∈ nx, p.1 ≠ I) ∧ R m' nx
def KPost (h₀ : Heap) (L d I : Addr) (od oi : Obj) (R : (Str → Option Value) → List (Addr × Obj) → Prop) (s₁ : Shared) (Q : Flow → Shared → Prop) (f : Flow) (s₂ : Shared) : Prop :=
  match f with
  | .ret v => Q (.ret v) s₂
  | .brk => Q .next s₂
  | _ => KEnd h₀ L d I od oi R s₁ s₂
def KRest (s : Shared) : List Str → (Str → Option Value) → List (Addr × Obj) → Prop
  | [], m, nx => ∀ h tk, Fr h₀ env.locals h m → News h₀ env.locals h nx → Q .next { s with heap := h, toks := tk }
  | k :: ks, m, nx => ∀ (I : Addr) (oi : Obj) t h tk, (∀ p ∈ nx, p.1 ≠ I) → Fr h₀ env.locals h (fun y => if y = x then some (.str k t) else m y) → News h₀ env.locals h ((I, oi) :: nx) →
      wpAny (model prog w) A (execs body env) (KPost h₀ env.locals d I od oi (KRest s ks) { s with heap := h, toks := tk } Q) E { s with heap := h, toks := tk }
end
section
variable {prog : Program} {w : World} {A : Around} {E : Value → Shared → Prop} {h₀ : Heap} {env : Env} {x : Str} {body : List Stmt} {Q : Flow → Shared → Prop} {d : Addr} {od : Obj} {s : Shared} {m : Str → Option Value} {nx : List (Addr × Obj)}
theorem krest_cons {k : Str} {ks : List Str} (h : ∀ (I : Addr) (oi : Obj) t h tk, (∀ p ∈ nx, p.1 ≠ I) → Fr h₀ env.locals h (fun y => if y = x then some (.str k t) else m y) → News h₀ env.locals h ((I, oi) :: nx) →
      wpAny (model prog w) A (execs body env) (KPost h₀ env.locals d I od oi (KRest prog w A E h₀ env x body Q d od s ks) { s with heap := h, toks := tk } Q) E { s with heap := h, toks := tk }) : KRest prog w A E h₀ env x body Q d od s (k :: ks) m nx := h
theorem krest_nil (h : ∀ h tk, Fr h₀ env.locals h m → News h₀ env.locals h nx → Q .next { s with heap := h, toks := tk }) : KRest prog w A E h₀ env x body Q d od s [] m nx := h
inductive Splt (I : Addr) (oi : Obj) : List (Addr × Obj) → List (Addr × Obj) → List (Addr × Obj) → Prop where
  | head {r} : Splt I oi ((I, oi) :: r) r r
  | tail {p r q post} : Splt I oi r q post → Splt I oi (p :: r) (p :: q) post
theorem Splt.mem {I : Addr} {oi : Obj} : ∀ {l q post : List (Addr × Obj)}, Splt I oi l q post → (I, oi) ∈ l ∧ ∀ p ∈ q, p ∈ l
  | _, _, _, .head => ⟨.head _, fun _ h => .tail _ h⟩
  | _, _, _, .tail h => ⟨.tail _ h.mem.1, fun p hp => by
      rcases List.mem_cons.mp hp with rfl | hp
      · exact .head _
      · exact .tail _ (h.mem.2 p hp)⟩
theorem kend_of {L I : Addr} {oi : Obj} {R : (Str → Option Value) → List (Addr × Obj) → Prop} {s₁ : Shared} {h' : Heap} {tk : Nat} {m' : Str → Option Value} {news' q post : List (Addr × Obj)}
    (F : Fr h₀ L h' m') (N : News h₀ L h' news') (Sp : Splt I oi news' q post) (hd : (d, od) ∈ q) (ho : ∀ p ∈ q, p.1 ≠ I) (hR : R m' q) : KEnd h₀ L d I od oi R s₁ { s₁ with heap := h', toks := tk } :=
  ⟨h', tk, m', news', q, rfl, F, N, Sp.mem.2, Sp.mem.1, hd, ho, hR⟩
end
def AllNe (d : Addr) : List (Addr × Obj) → Prop
  | [] => True
  | p :: r => @Ne Nat p.1 d ∧ AllNe d r
theorem allNe_of {d : Addr} : ∀ {l : List (Addr × Obj)}, (∀ p ∈ l, p.1 ≠ d) → AllNe d l
  | [], _ => trivial
  | p :: _, h => ⟨h p (.head _), allNe_of fun q hq => h q (.tail _ hq)⟩
theorem keys_loop {prog : Program} {w : World} {A : Around} {E : Value → Shared → Prop} {s : Shared} {h₀ : Heap} {env : Env} {x : Str} {body : List Stmt} {Q : Flow → Shared → Prop} {d : Addr} {od : Obj} {kvs : List (Str × Value)} {m₀ : Str → Option Value} {news : List (Addr × Obj)}
    (hh : A.handled = none) (F : Fr h₀ env.locals s.heap m₀) (N : News h₀ env.locals s.heap news) (hd : (d, od) ∈ news) (hD : od.IsDictOf (PySem.strKind prog w) kvs) (lo : (d == sysModules) = false)
    (R : KRest prog w A E h₀ env x body Q d od s (kvs.map (·.1)) m₀ news) : wpAny (model prog w) A (pyIter (.ref d)) (fun it s₂ => LoopAtV prog w A h₀ env x body Q E it s₂) E s := by
  have hdo := kda_dict N hd hD
  obtain ⟨ep, hat⟩ := hdo.dictAt
  refine wpAny_pyIter_dict lo hat ?_
  have hne : d ≠ s.heap.objs.size := Nat.ne_of_lt hat.lt_size
  have hdL : env.locals ≠ d := fun e => (N _ hd).2.1 e.symm
  have hnew := next_is_new F
  refine ⟨s.heap.objs.size, [s.heap.objs.size, d], [s.heap.objs.size], kvs.length, _, _, m₀, news, fun i m nx => (d, od) ∈ nx ∧ KRest prog w A E h₀ env x body Q d od s ((kvs.map (·.1)).drop i) m nx, rfl,
    Walks.dictKeys (knd := PySem.strKind prog w) hh _ d hne kvs ep, ?_, ?_, ?_, ⟨⟨_, Heap.get?_push_size _ rfl, rfl, rfl⟩, hat.push _⟩, F.push _, (fun p hp => ⟨Heap.get?_push_of_some _ (N p hp).1, (N p hp).2⟩), ⟨hd, by simpa using R⟩, ?_, ?_⟩
  · intro hm
    rcases List.mem_cons.mp hm with e | hm
    · exact absurd F.ns.lt (e ▸ Nat.lt_irrefl _)
    · exact hdL (List.mem_singleton.mp hm)
  · intro b hb
    rw [List.mem_singleton.mp hb]
    exact hnew
  · intro p hp hI
    exact absurd (Heap.lt_size (N p hp).1) ((List.mem_singleton.mp hI) ▸ Nat.lt_irrefl _)
  · rintro i v m₁ news₁ s₁ own ⟨hh', tk', rfl⟩ hin ⟨k, xv, hx, hkey⟩ ⟨hdn, hJ⟩ hoff hown hget hall hst F₁ N₁
    obtain ⟨⟨oi, hoi, _⟩, _⟩ := hst
    have hI : (s.heap.objs.size, oi) ∈ own := hall _ (.head _) hnew oi hoi
    obtain ⟨t, rfl⟩ := Value.isStrOf_shape hkey
    have hk : (kvs.map (·.1)).drop i = k :: (kvs.map (·.1)).drop (i + 1) := by
      have hlt : i < (kvs.map (·.1)).length := by simpa using hin
      rw [List.drop_eq_getElem_cons hlt]
      congr 1
      have : kvs[i] = (k, xv) := by
        have := List.getElem?_eq_some_iff.mp hx
        exact this.2
      simp [this]
    rw [hk] at hJ
    have hsub : ∀ p ∈ own, p = (s.heap.objs.size, oi) ∨ p = (d, od) := by
      intro p hp
      have hg := hget p hp
      rcases List.mem_cons.mp (hown p hp) with e | e
      · left
        have : hh'.get? s.heap.objs.size = some p.2 := by rw [← e]; exact hg
        rw [hoi] at this
        exact Prod.ext e (Option.some.inj this).symm
      · right
        have e := List.mem_singleton.mp e
        have h1 : hh'.get? d = some od := (N₁ _ (List.mem_append.mpr (.inr hdn))).1
        have : hh'.get? d = some p.2 := by rw [← e]; exact hg
        rw [h1] at this
        exact Prod.ext e (Option.some.inj this).symm
    have offI : ∀ p ∈ news₁, p.1 ≠ s.heap.objs.size := fun p hp e => hoff p hp (List.mem_singleton.mpr e)
    refine wpAny_mono (hJ s.heap.objs.size oi t hh' tk' offI F₁ (fun p hp => N₁ p ?_)) (fun f s₂ p => ?_) fun _ _ e => e
    · rcases List.mem_cons.mp hp with rfl | hp
      · exact List.mem_append.mpr (.inl hI)
      · exact List.mem_append.mpr (.inr hp)
    · have fin : KEnd h₀ env.locals d s.heap.objs.size od oi (KRest prog w A E h₀ env x body Q d od s ((kvs.map (·.1)).drop (i + 1))) { s with heap := hh', toks := tk' } s₂ → LoopStepU h₀ env.locals [s.heap.objs.size] own (fun m nx => (d, od) ∈ nx ∧ KRest prog w A E h₀ env x body Q d od s ((kvs.map (·.1)).drop (i + 1)) m nx) { s with heap := hh', toks := tk' } .next s₂ := by
        rintro ⟨h', tk, m', news', nx, e, F', N', hn, hi', hd', ha, hm⟩
        refine ⟨rfl, h', tk, m', nx, e, F', fun p hp => N' p ?_, fun p hp hq => ha p hp (List.mem_singleton.mp hq), hd', hm⟩
        rcases List.mem_append.mp hp with hp | hp
        · rcases hsub p hp with rfl | rfl
          · exact hi'
          · exact hn _ hd'
        · exact hn p hp
      cases f with
      | ret v => exact .ret p
      | brk => exact .brk p
      | next => exact .next (fin p)
      | cont => exact .cont (fin p)
  · rintro h' tk m' news' F' N' _ ⟨_, hJ⟩
    have hz : (kvs.map (·.1)).drop kvs.length = [] := by simp
    rw [hz] at hJ
    exact hJ h' tk F' N'
theorem nam_of {news : List (Addr × Obj)} {kvs : List (Str × Value)} {nm : Str} {y d u : Addr} {es : List DictEntry} {n : Nat} (h1 : valueAt kvs nm = some (.ref y)) (h2 : (y, instObj 166 d) ∈ news) (h3 : (d, dictOf es n) ∈ news) (h4 : getL (S "underlying") es = some (some (.ref u))) : Nam news kvs nm u := ⟨y, d, es, n, h1, h2, h3, h4⟩
theorem wn_S {news : List (Addr × Obj)} {kvs : List (Str × Value)} {u f r : Addr} {t1 t2 : Tok} {t3 : Value} (n : Nam news kvs (S "m.S") u) (h1 : (u, tupA #[.str (S "struct") t1, .ref f]) ∈ news) (h2 : (f, tupA #[.ref r]) ∈ news) (h3 : (r, tupA #[.str (S "a") t2, .ref 214, t3]) ∈ news) :
    ∃ u f r t1 t2 t3, Nam news kvs (S "m.S") u ∧ (u, tupA #[.str (S "struct") t1, .ref f]) ∈ news ∧ (f, tupA #[.ref r]) ∈ news ∧ (r, tupA #[.str (S "a") t2, .ref 214, t3]) ∈ news := ⟨u, f, r, t1, t2, t3, n, h1, h2, h3⟩
theorem wn_A {news : List (Addr × Obj)} {kvs : List (Str × Value)} {u : Addr} {t1 t2 : Tok} (n : Nam news kvs (S "m.A") u) (h : (u, tupA #[.str (S "array") t1, .int 3 t2, .ref 214]) ∈ news) : ∃ u t1 t2, Nam news kvs (S "m.A") u ∧ (u, tupA #[.str (S "array") t1, .int 3 t2, .ref 214]) ∈ news := ⟨u, t1, t2, n, h⟩
theorem wn_L {news : List (Addr × Obj)} {kvs : List (Str × Value)} {u : Addr} {t1 : Tok} (n : Nam news kvs (S "m.L") u) (h : (u, tupA #[.str (S "slice") t1, .ref 214]) ∈ news) : ∃ u t1, Nam news kvs (S "m.L") u ∧ (u, tupA #[.str (S "slice") t1, .ref 214]) ∈ news := ⟨u, t1, n, h⟩
theorem wn_P {news : List (Addr × Obj)} {kvs : List (Str × Value)} {u : Addr} {t1 : Tok} (n : Nam news kvs (S "m.P") u) (h : (u, tupA #[.str (S "ptr") t1, .ref 214]) ∈ news) : ∃ u t1, Nam news kvs (S "m.P") u ∧ (u, tupA #[.str (S "ptr") t1, .ref 214]) ∈ news := ⟨u, t1, n, h⟩
theorem wn_I {news : List (Addr × Obj)} {kvs : List (Str × Value)} {u : Addr} {t1 : Tok} {v : Value} (n : Nam news kvs (S "m.I") u) (h : (u, tupA #[.str (S "interface") t1, v]) ∈ news) : ∃ u t1 v, Nam news kvs (S "m.I") u ∧ (u, tupA #[.str (S "interface") t1, v]) ∈ news := ⟨u, t1, v, n, h⟩
/-- wn_all -/
theorem win_of {w : World} {news : List (Addr × Obj)} {x dx dn : Addr} {es : List DictEntry} {n : Nat} {o : Obj} {kvs : List (Str × Value)} (h1 : (x, instObj 209 dx) ∈ news) (h2 : (dx, dictOf es n) ∈ news) (g1 : getL (S "named") es = some (some (.ref dn))) (g2 : getL (S "base_of") es = some none) (h3 : (dn, o) ∈ news) (hd : o.IsDictOf (PySem.strKind PW w) kvs) (lo : (dn == sysModules) = false) : WIn w news x kvs :=
  ⟨dx, es, n, dn, o, h1, h2, h3, g1, g2, hd, lo⟩
end
section
theorem valueAt_self {K : Type} [DecidableEq K] (kvs : List (K × Value)) (k : K) (v : Value) : valueAt (stored kvs k v) k = some v := by
  unfold stored
  split
  · rename_i h
    induction kvs with
    | nil => simp at h
    | cons p r ih =>
      simp only [List.map_cons, valueAt, List.find?_cons]
      by_cases e : p.1 = k
      · simp [e]
      · simp only [e, if_false, decide_false]
        refine ih ?_
        simpa [e] using h
  · rename_i h
    have : kvs.find? (fun kv => decide (kv.1 = k)) = none := by
      rw [List.find?_eq_none]
      intro p hp
      simp only [Bool.not_eq_true, List.any_eq_false] at h
      simp [h p hp]
    simp [valueAt, List.find?_append, this]
theorem valueAt_ne {K : Type} [DecidableEq K] (kvs : List (K × Value)) (k k' : K) (v : Value) (hne : k' ≠ k) : valueAt (stored kvs k v) k' = valueAt kvs k' := by
  unfold stored
  split
  · rename_i h9
    clear h9
    induction kvs with
    | nil => rfl
    | cons p r ih =>
      simp only [valueAt] at ih
      simp only [List.map_cons, valueAt, List.find?_cons]
      by_cases e : p.1 = k
      · have e2 : ¬ k = k' := fun h => hne h.symm
        simp only [e, if_true, e2, decide_false]
        exact ih
      · simp only [e, if_false]
        by_cases e3 : p.1 = k'
        · simp [e3]
        · simp only [e3, decide_false]
          exact ih
  · have e2 : ¬ k = k' := fun h => hne h.symm
    have e3 : List.find? (fun kv : K × Value => decide (kv.1 = k')) [(k, v)] = none := by simp [e2]
    simp [valueAt, List.find?_append, e3]
/-- a row under a name -/
def NamU (n : List (Addr × Obj)) (kn : List (Str × Value)) (nm : Str) (v : Value) : Prop :=
  ∃ y dy es c, valueAt kn nm = some (.ref y) ∧ (y, instObj 166 dy) ∈ n ∧ (dy, dictOf es c) ∈ n ∧ getL (S "underlying") es = some (some v)
theorem NamU.mono {n n' : List (Addr × Obj)} {kn : List (Str × Value)} {nm : Str} {v : Value} (h : NamU n kn nm v) (s : Sub n n') : NamU n' kn nm v := by
  obtain ⟨y, dy, es, c, a, b, e, f⟩ := h
  exact ⟨y, dy, es, c, a, s _ b, s _ e, f⟩
theorem NamU.keep {n : List (Addr × Obj)} {kn : List (Str × Value)} {nm nm' : Str} {v x : Value} (h : NamU n kn nm v) (hne : nm ≠ nm') : NamU n (stored kn nm' x) nm v := by
  obtain ⟨y, dy, es, c, a, b⟩ := h
  exact ⟨y, dy, es, c, by rw [valueAt_ne _ _ _ _ hne]; exact a, b⟩
theorem NamU.nam {n : List (Addr × Obj)} {kn : List (Str × Value)} {nm : Str} {u : Addr} (h : NamU n kn nm (.ref u)) : Nam n kn nm u := by
  obtain ⟨y, dy, es, c, a, b, e, f⟩ := h
  exact ⟨y, dy, es, c, a, b, e, f⟩
def WEnd (w : World) (h₀ : Heap) (L dn I : Addr) (oi : Obj) (n : List (Addr × Obj)) (kn : List (Str × Value)) (k : Str) (v : Value) (m₀ : Str → Option Value) (s₁ s₂ : Shared) : Prop :=
  ∃ h' tk on n' m' y dy es c, s₂ = { s₁ with heap := h', toks := tk } ∧ Fr h₀ L h' m' ∧ News h₀ L h' ((dn, on) :: (I, oi) :: n') ∧ Off dn n' ∧ Off I n' ∧ Sub n n' ∧ on.IsDictOf (PySem.strKind PW w) (stored kn (S "m." ++ k) (.ref y)) ∧ (y, instObj 166 dy) ∈ n' ∧ (dy, dictOf es c) ∈ n' ∧ getL (S "underlying") es = some (some v) ∧ ∀ z, z ≠ S "name" → m' z = m₀ z
theorem wend_of {w : World} {h₀ h' : Heap} {L dn I : Addr} {oi on : Obj} {n n' : List (Addr × Obj)} {kn : List (Str × Value)} {k : Str} {v : Value} {m₀ m' : Str → Option Value} {s₁ : Shared} {tk : Nat} {y dy : Addr} {es : List DictEntry} {c : Nat}
    (F : Fr h₀ L h' m') (N : News h₀ L h' ((dn, on) :: (I, oi) :: n')) (o1 : Off dn n') (o2 : Off I n') (sb : Sub n n') (hd : on.IsDictOf (PySem.strKind PW w) (stored kn (S "m." ++ k) (.ref y))) (a : (y, instObj 166 dy) ∈ n') (b : (dy, dictOf es c) ∈ n') (g : getL (S "underlying") es = some (some v))
    (hm : ∀ z, z ≠ S "name" → m' z = m₀ z) : WEnd w h₀ L dn I oi n kn k v m₀ s₁ { s₁ with heap := h', toks := tk } := ⟨h', tk, on, n', m', y, dy, es, c, rfl, F, N, o1, o2, sb, hd, a, b, g, hm⟩
def WPost (w : World) (h₀ : Heap) (L dn I : Addr) (oi : Obj) (n : List (Addr × Obj)) (kn : List (Str × Value)) (k : Str) (v : Value) (m₀ : Str → Option Value) (s₁ : Shared) (Q : Flow → Shared → Prop) (f : Flow) (s₂ : Shared) : Prop :=
  match f with
  | .ret v => Q (.ret v) s₂
  | .brk => Q .next s₂
  | _ => WEnd w h₀ L dn I oi n kn k v m₀ s₁ s₂
theorem wl_loop {w : World} {A : Around} {E : Value → Shared → Prop} {s : Shared} {h₀ : Heap} {env : Env} {body : List Stmt} {Q : Flow → Shared → Prop} {d dn : Addr} {od on : Obj} {kvs kn : List (Str × Value)} {m₀ : Str → Option Value} {n : List (Addr × Obj)}
    (hh : A.handled = none) (F : Fr h₀ env.locals s.heap m₀) (N : News h₀ env.locals s.heap ((dn, on) :: n)) (off : Off dn n) (hd : (d, od) ∈ n) (hD : od.IsDictOf (PySem.strKind PW w) kvs) (lo : (d == sysModules) = false) (hn : on.IsDictOf (PySem.strKind PW w) kn) (hz : kn.length + kvs.length ≤ 100)
    (hnd : (kvs.map fun p => S "m." ++ p.1).Nodup) (hkn : (kvs.map (·.1)).Nodup) (hk : ∀ p ∈ kvs, p.1.length ≤ 10)
    (turn : ∀ k v t I oi n' on' kn' h tk, valueAt kvs k = some v → k.length ≤ 10 → kn'.length ≤ 100 → Sub n n' → Off dn n' → Off I n' → dn ≠ I → on'.IsDictOf (PySem.strKind PW w) kn' → Fr h₀ env.locals h (fun y => if y = S "name" then some (.str k t) else m₀ y) → News h₀ env.locals h ((dn, on') :: (I, oi) :: n') →
      wpAny (model PW w) A (execs body env) (WPost w h₀ env.locals dn I oi n' kn' k v m₀ { s with heap := h, toks := tk } Q) E { s with heap := h, toks := tk })
    (done : ∀ h tk on' kn' n' (u : Str → Option Value), (∀ p ∈ kvs, NamU n' kn' (S "m." ++ p.1) p.2) → Sub n n' → Off dn n' → on'.IsDictOf (PySem.strKind PW w) kn' → Fr h₀ env.locals h (fun z => if z = S "name" then u z else m₀ z) → News h₀ env.locals h ((dn, on') :: n') → Q .next { s with heap := h, toks := tk }) :
    wpAny (model PW w) A (pyIter (.ref d)) (fun it s₂ => LoopAtV PW w A h₀ env (S "name") body Q E it s₂) E s := by
  refine keys_loop hh F N (.tail _ hd) hD lo ?_
  have main : ∀ (rest pre : List (Str × Value)), kvs = pre ++ rest → ∀ m on' kn' n', (∀ z, z ≠ S "name" → m z = m₀ z) → Sub n n' → Off dn n' → on'.IsDictOf (PySem.strKind PW w) kn' → kn'.length + rest.length ≤ 100 → (∀ p ∈ pre, NamU n' kn' (S "m." ++ p.1) p.2) →
      KRest PW w A E h₀ env (S "name") body Q d od s (rest.map (·.1)) m ((dn, on') :: n') := by
    intro rest
    induction rest with
    | nil =>
      intro pre hp m on' kn' n' hm sb o1 hdn hl hnm
      refine krest_nil fun h tk F' N' => ?_
      rw [List.append_nil] at hp
      subst hp
      refine done h tk on' kn' n' m hnm sb o1 hdn ?_ N'
      have e : m = fun z => if z = S "name" then m z else m₀ z := by
        funext z
        by_cases a : z = S "name"
        · simp [a]
        · simp only [if_neg a]; exact hm z a
      rw [← e]; exact F'
    | cons p r ih =>
      obtain ⟨k, v⟩ := p
      intro pre hp m on' kn' n' hm sb o1 hdn hl hnm
      refine krest_cons fun I oi t h tk offI F' N' => ?_
      have hmem : (k, v) ∈ kvs := by rw [hp]; simp
      have hx : valueAt kvs k = some v := by
        refine valueAt_of_get hkn (i := pre.length) ?_
        rw [hp]; simp
      have e : (fun y => if y = S "name" then some (Value.str k t) else m y) = fun y => if y = S "name" then some (Value.str k t) else m₀ y := by
        funext z
        by_cases a : z = S "name"
        · simp [a]
        · simp only [if_neg a]; exact hm z a
      rw [e] at F'
      have hl' : kn'.length + (r.length + 1) ≤ 100 := by simpa using hl
      refine wpAny_mono (turn k v t I oi n' on' kn' h tk hx (hk _ hmem) (by omega) sb o1 (fun q hq => offI q (.tail _ hq)) (offI _ (.head _)) hdn F' (swapN N')) (fun f s₂ q => ?_) fun _ _ e => e
      have fin : WEnd w h₀ env.locals dn I oi n' kn' k v m₀ { s with heap := h, toks := tk } s₂ → KEnd h₀ env.locals d I od oi (KRest PW w A E h₀ env (S "name") body Q d od s (r.map (·.1))) { s with heap := h, toks := tk } s₂ := by
        rintro ⟨h', tk', on'', n'', m', y, dy, es, c, rfl, F'', N'', q1, q2, sb', hdn', y1, y2, g, hm'⟩
        refine ⟨h', tk', m', _, (dn, on'') :: n'', rfl, F'', N'', ?_, .tail _ (.head _), .tail _ (sb' _ (sb _ hd)), ?_, ?_⟩
        · intro z hz
          rcases List.mem_cons.mp hz with rfl | hz
          · exact .head _
          · exact .tail _ (.tail _ hz)
        · intro z hz
          rcases List.mem_cons.mp hz with rfl | hz
          · exact offI (dn, on') (.head _)
          · exact q2 z hz
        · have hsl := stored_length_le kn' (S "m." ++ k) (.ref y)
          refine ih (pre ++ [(k, v)]) (by rw [hp]; simp) m' on'' _ n'' hm' (sb.trans sb') q1 hdn' (by omega) ?_
          intro z hz
          rcases List.mem_append.mp hz with hz | hz
          · refine ((hnm z hz).mono sb').keep ?_
            intro he
            rw [hp, List.map_append, List.map_cons] at hnd
            have := (List.nodup_append.mp hnd).2.2 _ (List.mem_map.mpr ⟨z, hz, rfl⟩) _ (List.mem_cons_self ..)
            exact this he
          · cases List.mem_singleton.mp hz
            exact ⟨y, dy, es, c, valueAt_self _ _ _, y1, y2, g⟩
      cases f with
      | ret v => exact q
      | brk => exact q
      | next => exact fin q
      | cont => exact fin q
  exact main kvs [] rfl m₀ on kn n (fun _ _ => rfl) Sub.refl off hn hz (fun _ h => nomatch h)
section
variable {h₀ : Heap} {L : Addr} {n : List (Addr × Obj)}
theorem demote {h : Heap} {d2 d1 dn : Addr} {o2 o1 o : Obj} (N : News h₀ L h ((d2, o2) :: (d1, o1) :: (dn, o) :: n)) (a : dn ≠ d2) (b : dn ≠ d1) (off : Off dn n) : ∃ n', News h₀ L h ((dn, o) :: n') ∧ Off dn n' ∧ (d1, o1) ∈ n' ∧ Sub n n' := by
  refine ⟨(d2, o2) :: (d1, o1) :: n, fun p hp => N p ?_, offCons' a.symm (offCons' b.symm off), .tail _ (.head _), fun _ h => .tail _ (.tail _ h)⟩
  simp only [List.mem_cons] at hp ⊢
  rcases hp with h | h | h | h
  · exact .inr (.inr (.inl h))
  · exact .inl h
  · exact .inr (.inl h)
  · exact .inr (.inr (.inr h))
theorem namOf {kvs kn : List (Str × Value)} {k nm : Str} {u dn : Addr} {on : Obj} (h : ∀ p ∈ kvs, NamU n kn (S "m." ++ p.1) p.2) (hm : (k, Value.ref u) ∈ kvs) (e : S "m." ++ k = nm) : Nam ((dn, on) :: n) kn nm u := by
  have := h _ hm
  rw [e] at this
  exact this.nam.mono fun _ hp => .tail _ hp
end
/-- NamedRow(..), what is altered at the head -/
theorem row_u {w : World} {mean : ExcName → Option Value} {mg mb : Str → Option Value} {dp un : Nat} {gd : Option (List Code)} {cn : Str} {cs : Scope} {a : Addr} {ccd : Value} {cl : List (Str × Addr)} {outer : List Env} {A₀ : Around} {base h₀ : Heap} {L : Addr} {m : Str → Option Value} {s : Shared} {Q E : Value → Shared → Prop} {v1 v2 v3 v4 : Value} {hd n : List (Addr × Obj)}
  (B : Below A₀ base outer h₀) (F : Fr h₀ L s.heap m) (X : (Mine.top.heap_1 w.params).In h₀) (T : Top Mine.top.view_1 LO mean mg mb h₀) (hk : cs.kind = .function) (N : News h₀ L s.heap (hd ++ n)) (off : OffL hd n) (hd' : dp < 500) (hu : un < 5000)
  (ret : ∀ y d es c n' h' tk', Fr h₀ L h' m → News h₀ L h' (hd ++ n') → OffL hd n' → Sub n n' → (y, instObj 166 d) ∈ n' → (d, dictOf es c) ∈ n' → getL (S "underlying") es = some (some v3) → Q (.ref y) { s with heap := h', toks := tk' }) :
  wpAny (model PySem.Challenge.rw_xm0169_01.row.prog w) (ktrTop dp un gd cn cs L a ccd cl outer) (call (.ref 166) [v1, v2, v3, v4] []) Q E s :=
  row_ctr B F X T hk N hd' hu fun y d es c h' tk' F' N' l1 l2 g => by
    have z := addH2 (hd := hd) (n := n) N' (fun p hp => by
      rcases List.mem_cons.mp hp with rfl | hp
      · exact Nat.ne_of_lt l2
      · exact Nat.ne_of_lt (Nat.lt_trans (l1 p hp) l2)) (fun p hp => Nat.ne_of_lt (l1 p hp)) off
    exact ret y d es c _ h' tk' F' z.1 z.2 (fun _ h => .tail _ (.tail _ h)) (.head _) (.tail _ (.head _)) g
end
section
set_option maxHeartbeats 8000000 in
theorem world_ctr {w : World} {mean : ExcName → Option Value} {mg mb : Str → Option Value} {dp un : Nat} {gd : Option (List Code)} {cn : Str} {cs : Scope} {a : Addr} {ccd : Value} {cl : List (Str × Addr)} {outer : List Env} {A₀ : Around} {base h₀ : Heap} {L : Addr} {m : Str → Option Value} {s : Shared} {Q E : Value → Shared → Prop}
  (B : Below A₀ base outer h₀) (F : Fr h₀ L s.heap m) (X : (Mine.top.heap_1 w.params).In h₀) (T : Top Mine.top.view_1 LO mean mg mb h₀) (hk : cs.kind = .function) (hd : dp < 470) (hu : un < 4700)
  (ret : ∀ x kvs news h' tk', Fr h₀ L h' m → News h₀ L h' news → WIn w news x kvs → WN news kvs → Q (.ref x) { s with heap := h', toks := tk' }) :
  wpAny (model PySem.Challenge.rw_xm0169_01.row.prog w) (ktrTop dp un gd cn cs L a ccd cl outer) (call (.ref 242) [] []) Q E s := by
    have N : News h₀ L s.heap [] := News.nil
    revert X
    k_fill
    intro X
    refine wpAny_call ?_
    k_dflt ktr_enter
    repeat' (first | (with_reducible refine gen_tok1 (fun tk9 => ?_); try dsimp only) | (k_unfold; (try dsimp only)) | (k_end; wrow_close) | ((with_reducible show wpAny _ _ (call (Value.ref 209) _) _ _ _); k_dflt (refine' world0_ctr ?zqB ?zqF ?zqX ?zqT ?zqhk ?zqN ?zqhd ?zqhu ?_; (case zqB => k_asm); (case zqF => k_asm); (case zqX => k_asm); (case zqN => exact News.nil); (case zqT => k_asm); (case zqhk => first | exact rfl | assumption); (case zqhd => ktr_room); (case zqhu => first | ktr_units | ((simp only [units_under_make, units_deeper, units_in1, Around.mark_units, units_caller]); (try dsimp only [ktrTop]); omega))); intro x9 dx9 es9 nn9 dn9 o9 v91 v92 v93 v94 n0 h9 tk9 F9 N9 off9 hx9 hdx9 lo9 g91 g92 hd9; (try dsimp only); (try k_sweep)) | ((with_reducible show wpAny _ _ (eval (Expr.Dict (_ :: _) _ _) _) _ _ _); k_dflt (refine' kdn_str ?zqq ?zqF ?zqN ?zqb ?zqa ?zql ?zqe ?zqn ?_; (case zqq => rfl); (case zqF => k_asm); (case zqN => k_asm); (case zqb => exact Top.nolimit (by k_asm)); (case zqa => rfl); (case zql => rfl); (case zqe => exact List.cons_ne_nil _ _); (case zqn => exact Nat.le_of_ble_eq_true rfl)); intro d9 h9 o9 F9 N9 l9 lo9 hd9; (first | (have q91 := ltNe2 l9; have q92 := ltNe l9; have q93 := ltOff2 l9) | (have q92 := ltNe l9; have q93 := ltOff l9)); clear l9; (try k_sweep)) | ((with_reducible show wpAny _ _ (eval (Expr.Dict [] [] _) _) _ _ _); k_dflt (refine' newDict_K ?zqk1 ?zqk2 (TopRead.nolimit (by k_asm)) ?_; (case zqk1 => k_asm); (case zqk2 => k_asm)); intro d9 h9 o9 F9 N9 l9 lo9 hs9 fs9 hi9 fi9; clear l9 lo9 hs9 fs9 hi9 fi9; replace N9 := news1 N9; (try k_sweep)) | ((with_reducible show KdnMade _ _ _ _ _ _ _); k_dflt (refine' kdn_made_str ?zqF ?zqN ?zqU ?zqd ?zqk ?zqn ?_; (case zqF => k_asm); (case zqN => k_asm); (case zqU => first | exact UpdF.head (offCons' (by assumption) (offCons' (by assumption) (by assumption))) | exact UpdF.head (offCons' (by assumption) (by assumption))); (case zqd => k_asm); (case zqk => rfl); (case zqn => exact of_decide_eq_true (by first | rfl | kernel_rfl!))); intro h9 o9 F9 N9 hd9; (try dsimp only at N9); (try k_sweep)) | ((with_reducible show wpAny _ _ (newTuple _) _ _ _); k_dflt (refine' newTupH (hd := [(_, _), (_, _), (_, _)]) ?zqF ?zqN ?zqoff ?zqz ?_; (case zqF => k_asm); (case zqN => k_asm); (case zqoff => exact OffL.cons (by assumption) (OffL.cons (by assumption) (OffL.one (by assumption)))); (case zqz => exact Nat.le_of_ble_eq_true rfl)); intro D9 h9 n9 F9 N9 off9 sb9 hm9; have qa9 := off9.off; have qb9 := off9.tail.off; have qc9 := off9.tail.tail.off; clear off9; replace N9 := app3 N9; (try k_sweep)) | ((with_reducible show wpAny _ _ (newTuple _) _ _ _); k_dflt (refine' newTupH (hd := [(_, _), (_, _)]) ?zqF ?zqN ?zqoff ?zqz ?_; (case zqF => k_asm); (case zqN => k_asm); (case zqoff => exact OffL.cons (by assumption) (OffL.one (by assumption))); (case zqz => exact Nat.le_of_ble_eq_true rfl)); intro D9 h9 n9 F9 N9 off9 sb9 hm9; have qa9 := off9.off; have qb9 := off9.tail.off; clear off9; replace N9 := app2 N9; (try k_sweep)) | ((with_reducible show wpAny _ _ (getMethod (Value.ref _) (Str.ofString "update") _) _ _ _); k_dflt (refine kob_method (knd := PySem.strKind _ _) PySem.F.slot_dict_update PySem.F.type_dict_update (by k_asm) (by tb_start) (by k_asm) ?_)) | ((with_reducible show wpAny _ _ (callWith _ (Value.builtin "dict.update") _ _ _) _ _ _); with_reducible refine callWith_method0 ?_) | ((with_reducible show wpAny _ _ (call (Value.builtin "dict.update") _) _ _ _); k_dflt (refine' upd_any (knd := PySem.strKind _ _) ?zqF ?zqN ?zqU ?zqhd ?zqh2 ?zqhd2 ?zqlo ?zqhne ?zqhz ?_; (case zqF => k_asm); (case zqN => k_asm); (case zqU => exact UpdF.tail (Ne.symm (by assumption)) (UpdF.head (offCons' (by assumption) (by assumption)))); (case zqhd => k_asm); (case zqh2 => tb_start); (case zqhd2 => k_asm); (case zqlo => k_asm); (case zqhne => assumption); (case zqhz => exact Nat.le_of_ble_eq_true (by with_unfolding_all rfl))); intro h9 o9 F9 N9 hd9; k_dflt (replace hd9 : Obj.IsDictOf (PySem.strKind _ _) _ [(S "S", _), (S "A", _), (S "L", _), (S "P", _), (S "I", _), (S "N", _)] := hd9); (try dsimp only at N9); obtain ⟨n9, N9, off9, hq91, sb9⟩ := demote N9 (by assumption) (by assumption) (by assumption); (try k_sweep)) | ((with_reducible show wpAny _ _ (exec (Stmt.For (Expr.Name _ _) (Expr.Name _ _) _ _ _) _) _ _ _); (rename Fr _ _ _ _ => lF9); (with_unfolding_all refine' For_invVF lF9 ?zqk1 ?zqk2 ?_; (case zqk1 => exact rfl); (case zqk2 => exact rfl); k_whole)) | ((with_reducible show wpAny _ _ (pyIter (Value.ref _)) (fun it s₂ => LoopAtV _ _ _ _ _ _ _ _ _ it s₂) _ _); k_dflt (refine' wl_loop ?zqhh ?zqF ?zqN ?zqoff ?zqhd hd9 ?zqlo ?zqhn ?zqhz ?zqhnd ?zqhkn ?zqhk (fun k9 v9 t9 I9 oi9 n9 on9 kn9 h9 tk9 hv9 hl9 hz9 sb9 od9 oI9 hne9 hdn9 F9 N9 => ?_) (fun h9 tk9 on9 kn9 n9 u9 hnm9 sb9 od9 hdn9 F9 N9 => ?_); (case zqhh => exact rfl); (case zqF => k_asm); (case zqN => k_asm); (case zqoff => assumption); (case zqhd => tb_start); (case zqlo => k_asm); (case zqhn => assumption); (case zqhz => exact Nat.le_of_ble_eq_true rfl); (case zqhnd => (simp only [List.map]; decide +kernel)); (case zqhkn => (simp only [List.map]; decide +kernel)); (case zqhk => (intro p9 hp9; simp only [List.mem_cons, List.not_mem_nil, or_false] at hp9; rcases hp9 with rfl | rfl | rfl | rfl | rfl | rfl <;> exact Nat.le_of_ble_eq_true rfl))); (all_goals (try k_fold))) | ((with_reducible show WPost _ _ _ _ _ _ _ _ _ _ _ _ _ _ _); dsimp only [WPost]) | ((with_reducible show WEnd _ _ _ _ _ _ _ _ _ _ _ _ _); k_dflt (refine' wend_of ?zqF ?zqN ?zqo1 ?zqo2 ?zqsb ?zqhd ?zqa ?zqb ?zqg ?zqhm; (case zqF => k_asm); (case zqN => k_asm); (case zqo1 => assumption); (case zqo2 => assumption); (case zqsb => k_subL); (case zqhd => assumption); (case zqa => tb_start); (case zqb => tb_start); (case zqg => assumption); (case zqhm => intro z a1; simp only [if_neg a1]))) | ((with_reducible show wpAny _ _ (getAttr (Value.ref _) _ _) _ _ _); k_dflt (refine' get_own ?zqk1 ?zqk2 ?zqk3 ?zqk4 ?zqk5 ?zqk6 ?zqk7 ?zqk8 ?zqk9 ?_; (case zqk1 => k_asm); (case zqk2 => k_asm); (case zqk3 => k_inst); (case zqk4 => k_is); (case zqk5 => k_is); (case zqk6 => k_is); (case zqk7 => k_is); (case zqk8 => assumption); (case zqk9 => k_handed); k_whole)) | ((with_reducible show wpAny _ _ (subscriptTail _ _ (Value.ref _) (Value.str _ _)) _ _ _); k_dflt (refine' kda_item (knd := PySem.strKind _ _) ?zqk1 ?zqk2 ?zqk3 (strKind_is _ _ _ _) ?zqk5 ?_ ?zqk6 ?zqk7; (case zqk1 => k_asm); (case zqk2 => tb_start); (case zqk3 => k_asm); (case zqk5 => assumption); (case zqk6 => with_unfolding_all rfl); (case zqk7 => intro _; with_unfolding_all rfl))) | ((with_reducible show wpAny _ _ (setItem (Value.ref _) (Value.str _ _) _) _ _ _); k_dflt (refine' kda_set (knd := PySem.strKind _ _) ?zqF ?zqN ?zqU ?zqd (strKind_is _ _ _ _) ?zqz ?_; (case zqF => k_asm); (case zqN => k_asm); (case zqU => exact UpdF.head (offCons' (Ne.symm (by assumption)) (by assumption))); (case zqd => k_asm); (case zqz => exact Nat.le_trans (by assumption) (Nat.le_of_ble_eq_true rfl))); intro h9 o9 F9 N9 hd9; (try dsimp only at N9); (try k_sweep)) | ((with_reducible show wpAny _ _ (call (Value.ref 166) _) _ _ _); k_dflt (refine' row_u (hd := [(_, _), (_, _)]) ?zqB ?zqF ?zqX ?zqT ?zqhk ?zqN ?zqoff ?zqhd ?zqhu ?_; (case zqB => k_asm); (case zqF => k_asm); (case zqX => k_asm); (case zqN => k_asm); (case zqT => k_asm); (case zqhk => first | exact rfl | assumption); (case zqoff => exact OffL.cons (by assumption) (OffL.one (by assumption))); (case zqhd => ktr_room); (case zqhu => first | ktr_units | ((simp only [units_under_make, units_deeper, units_in1, Around.mark_units, units_caller]); (try dsimp only [ktrTop]); omega))); intro y9 d9 es9 c9 n9 h9 tk9 F9 N9 off9 sb9 hy9 hdy9 hg9; have qa9 := off9.off; have qb9 := off9.tail.off; clear off9; replace N9 := app2 N9; (try dsimp only); (try k_sweep)) | walk1 | (dsimp only; walk1) | (leave1; walk_say "STEP leave1"; try dsimp only) | fail "no step")
    all_goals (dsimp only at hnm9; exact ret x9 _ _ _ _ (by k_asm) (by k_asm) (win_of (by tb_start) (by tb_start) (by assumption) (by assumption) (by tb_start) (by assumption) (by assumption)) ⟨wn_S (namOf (k := S "S") hnm9 (by tb_start) (by decide +kernel)) (by tb_start) (by tb_start) (by tb_start), wn_A (namOf (k := S "A") hnm9 (by tb_start) (by decide +kernel)) (by tb_start), wn_L (namOf (k := S "L") hnm9 (by tb_start) (by decide +kernel)) (by tb_start), wn_P (namOf (k := S "P") hnm9 (by tb_start) (by decide +kernel)) (by tb_start), wn_I (namOf (k := S "I") hnm9 (by tb_start) (by decide +kernel)) (by tb_start)⟩)
end
section
open LCg
section
variable {prog : Program} {w : World} {A : Around} {E : Value → Shared → Prop} {s : Shared} {h₀ : Heap} {L : Addr} {m : Str → Option Value} {env : Env}
abbrev tupO (its : Array Value) : Obj := { cls := .type "tuple", data := .seq its }
/-- the source of a comprehension, a tuple of the ledger (no test) -/
def TSrc (prog : Program) (w : World) (A : Around) (h₀ : Heap) (L : Addr) (m : Str → Option Value) (env : Env) (elt : Expr) (x : Str) (scope : Scope) (cl : List (Str × Addr)) (Fin : Shared → List Value → List (Addr × Obj) → Prop) (xv : Value) (s₁ : Shared) : Prop :=
  ∃ ax its news, xv = .ref ax ∧ A.handled = none ∧ Fr h₀ L s₁.heap m ∧ News h₀ L s₁.heap news ∧ (ax, tupO its) ∈ news ∧ its.size ≤ sizeLine ∧
    ∀ s₂ : Shared, (∃ h, s₂ = { s₁ with heap := h }) → CompRest prog w A h₀ L m env elt x scope cl s₂ (fun nw => (ax, tupO its) ∈ nw) (fun i v => its[i]? = some v) (Fin s₂) its.size 0 [] news
theorem TSrc.intro {elt : Expr} {x : Str} {scope : Scope} {cl : List (Str × Addr)} {Fin : Shared → List Value → List (Addr × Obj) → Prop} {ax : Addr} {its : Array Value} {news : List (Addr × Obj)} {s₁ : Shared}
    (hh : A.handled = none) (F : Fr h₀ L s₁.heap m) (N : News h₀ L s₁.heap news) (hm : (ax, tupO its) ∈ news) (hsz : its.size ≤ sizeLine)
    (h : ∀ g, CompRest prog w A h₀ L m env elt x scope cl { s₁ with heap := g } (fun nw => (ax, tupO its) ∈ nw) (fun i v => its[i]? = some v) (Fin { s₁ with heap := g }) its.size 0 [] news) :
    TSrc prog w A h₀ L m env elt x scope cl Fin (.ref ax) s₁ := ⟨ax, its, news, rfl, hh, F, N, hm, hsz, fun _ ⟨g, e⟩ => e ▸ h g⟩
def TSrcT (prog : Program) (w : World) (A : Around) (h₀ : Heap) (L : Addr) (m : Str → Option Value) (env : Env) (ct elt : Expr) (x : Str) (scope : Scope) (cl : List (Str × Addr)) (Fin : Shared → List Value → List (Addr × Obj) → Prop) (xv : Value) (s₁ : Shared) : Prop :=
  ∃ ax its news, xv = .ref ax ∧ A.handled = none ∧ Fr h₀ L s₁.heap m ∧ News h₀ L s₁.heap news ∧ (ax, tupO its) ∈ news ∧ its.size ≤ sizeLine ∧
    ∀ s₂ : Shared, (∃ h, s₂ = { s₁ with heap := h }) → LCt.CompRestT prog w A h₀ L m env ct elt x scope cl s₂ (fun nw => (ax, tupO its) ∈ nw) (fun i v => its[i]? = some v) (Fin s₂) its.size 0 [] news
theorem TSrcT.intro {ct elt : Expr} {x : Str} {scope : Scope} {cl : List (Str × Addr)} {Fin : Shared → List Value → List (Addr × Obj) → Prop} {ax : Addr} {its : Array Value} {news : List (Addr × Obj)} {s₁ : Shared}
    (hh : A.handled = none) (F : Fr h₀ L s₁.heap m) (N : News h₀ L s₁.heap news) (hm : (ax, tupO its) ∈ news) (hsz : its.size ≤ sizeLine)
    (h : ∀ g, LCt.CompRestT prog w A h₀ L m env ct elt x scope cl { s₁ with heap := g } (fun nw => (ax, tupO its) ∈ nw) (fun i v => its[i]? = some v) (Fin { s₁ with heap := g }) its.size 0 [] news) :
    TSrcT prog w A h₀ L m env ct elt x scope cl Fin (.ref ax) s₁ := ⟨ax, its, news, rfl, hh, F, N, hm, hsz, fun _ ⟨g, e⟩ => e ▸ h g⟩
theorem tup_is {h : Heap} {ax : Addr} {its : Array Value} {news : List (Addr × Obj)} (N : News h₀ L h news) (hm : (ax, tupO its) ∈ news) : h.IsTuple ax its := ⟨_, (N _ hm).1, rfl, _, rfl⟩
theorem tup_st {ax I : Addr} {its : Array Value} : ∀ i (h h' : Heap) (o : Obj) (nw : List (Addr × Obj)), (h.IsTupleIter I ax i ∧ h.IsTuple ax its) → h.get? I = some o → h'.get? I = some o → (∀ b o, h₀.get? b = some o → h'.get? b = some o) → News h₀ L h' nw → (ax, tupO its) ∈ nw → (h'.IsTupleIter I ax i ∧ h'.IsTuple ax its) :=
  fun i h h' o nw st e e' _ N S => ⟨by obtain ⟨o', q, r⟩ := st.1; rw [e] at q; cases q; exact ⟨o, e', r⟩, tup_is N S⟩
theorem comp_tup {elt iter : Expr} {x : Str} {px : Pos} {scope : Scope} {cl : List (Str × Addr)} {pos : Pos} {Q : Value → Shared → Prop} (_F₀ : Fr h₀ L s.heap m)
    (hclos : closureFor scope env = pure cl) (hcell : ∀ y ∈ scope.names, y.2 ≠ .cell) (hkind : scope.kind = .function)
    (hnames : ∀ y ∈ scope.names, y.2 = .local → scope.names.lookup y.1 = some .local) (hx : scope.names.lookup x = some .local)
    (h : wpAny (model prog w) A (eval iter env) (TSrc prog w A h₀ L m env elt x scope cl (fun s₂ => FinE h₀ L m s₂ Q)) E s)
    (hs : ∀ x, foldedSetIterable iter env x = pure x := by intro _; rfl) :
    wpAny (model prog w) A (eval (.ListComp elt [⟨.Name x px, iter, [], 0⟩] scope pos) env) Q E s := by
  rw [eval_ListComp]
  refine wpAny_comprehension_free (use := none) rfl hs hclos hkind hnames (wpAny_mono h (fun xv s₁ h₁ => ?_) fun _ _ e => e)
  obtain ⟨ax, its, news, rfl, hh, F, N, S, hsz, R⟩ := h₁
  have hl := tup_is N S
  have hlt : ax < s₁.heap.objs.size := by obtain ⟨_, e, _⟩ := hl; exact Heap.lt_size e
  refine wpAny_pyIter_tuple hl ?_
  have up : ∀ b o, s₁.heap.get? b = some o → (s₁.heap.push { cls := .type "tuple_iterator", data := .fields #[.ref ax, .int 0 0] }).get? b = some o := fun b o e => Heap.get?_push_of_some _ e
  refine block_U (Walks.tuple hh s₁.heap.objs.size ax (Nat.ne_of_lt hlt) its) hsz (fun i h st => by obtain ⟨o, e, _⟩ := st.1; exact ⟨o, e⟩) tup_st hcell hkind hx ⟨⟨_, Heap.get?_push_size _ rfl, rfl, rfl⟩, hl.push _⟩ (fun b hb => ?_)
    (F.keeps up) (N.grown up) (Nat.ne_of_lt F.ns.lt) (next_is_new F) (fun p hp => Nat.ne_of_lt (Heap.lt_size (N p hp).1)) S (R _ ⟨_, rfl⟩) ?_
  · show b < (s₁.heap.push _).objs.size
    rw [Heap.size_push]
    rcases List.mem_cons.mp hb with rfl | hb
    · exact Nat.lt_succ_self _
    · rw [List.mem_singleton.mp hb]; exact Nat.lt_succ_of_lt hlt
  · intro D C h tk m' ys news' F' N' o1 hn hC₀ hD₀ hCL hDL hCD offC fin
    refine ⟨m', hn, fun h'' hs'' => fin D h'' tk (F'.change hs'' hCL hC₀) (fun p hp => ?_) o1⟩
    refine ⟨hs''.extBut _ _ ?_ (N' p hp).1, (N' p hp).2⟩
    rcases List.mem_cons.mp hp with rfl | hp
    · exact Ne.symm hCD
    · exact offC p hp
theorem comp_tupT {ct elt iter : Expr} {x : Str} {px : Pos} {scope : Scope} {cl : List (Str × Addr)} {pos : Pos} {Q : Value → Shared → Prop} (_F₀ : Fr h₀ L s.heap m)
    (hclos : closureFor scope env = pure cl) (hcell : ∀ y ∈ scope.names, y.2 ≠ .cell) (hkind : scope.kind = .function)
    (hnames : ∀ y ∈ scope.names, y.2 = .local → scope.names.lookup y.1 = some .local) (hx : scope.names.lookup x = some .local)
    (h : wpAny (model prog w) A (eval iter env) (TSrcT prog w A h₀ L m env ct elt x scope cl (fun s₂ => FinE h₀ L m s₂ Q)) E s)
    (hs : ∀ x, foldedSetIterable iter env x = pure x := by intro _; rfl) :
    wpAny (model prog w) A (eval (.ListComp elt [⟨.Name x px, iter, [ct], 0⟩] scope pos) env) Q E s := by
  rw [eval_ListComp]
  refine wpAny_comprehension_free (use := none) rfl hs hclos hkind hnames (wpAny_mono h (fun xv s₁ h₁ => ?_) fun _ _ e => e)
  obtain ⟨ax, its, news, rfl, hh, F, N, S, hsz, R⟩ := h₁
  have hl := tup_is N S
  have hlt : ax < s₁.heap.objs.size := by obtain ⟨_, e, _⟩ := hl; exact Heap.lt_size e
  refine wpAny_pyIter_tuple hl ?_
  have up : ∀ b o, s₁.heap.get? b = some o → (s₁.heap.push { cls := .type "tuple_iterator", data := .fields #[.ref ax, .int 0 0] }).get? b = some o := fun b o e => Heap.get?_push_of_some _ e
  refine LCt.block_T (Walks.tuple hh s₁.heap.objs.size ax (Nat.ne_of_lt hlt) its) hsz (fun i h st => by obtain ⟨o, e, _⟩ := st.1; exact ⟨o, e⟩) tup_st hcell hkind hx ⟨⟨_, Heap.get?_push_size _ rfl, rfl, rfl⟩, hl.push _⟩ (fun b hb => ?_)
    (F.keeps up) (N.grown up) (Nat.ne_of_lt F.ns.lt) (next_is_new F) (fun p hp => Nat.ne_of_lt (Heap.lt_size (N p hp).1)) S (R _ ⟨_, rfl⟩) ?_
  · show b < (s₁.heap.push _).objs.size
    rw [Heap.size_push]
    rcases List.mem_cons.mp hb with rfl | hb
    · exact Nat.lt_succ_self _
    · rw [List.mem_singleton.mp hb]; exact Nat.lt_succ_of_lt hlt
  · intro D C h tk m' ys news' F' N' o1 hn hC₀ hD₀ hCL hDL hCD offC fin
    refine ⟨m', hn, fun h'' hs'' => fin D h'' tk (F'.change hs'' hCL hC₀) (fun p hp => ?_) o1⟩
    refine ⟨hs''.extBut _ _ ?_ (N' p hp).1, (N' p hp).2⟩
    rcases List.mem_cons.mp hp with rfl | hp
    · exact Ne.symm hCD
    · exact offC p hp
theorem off1_mem {D : Addr} : ∀ {l : List (Addr × Obj)}, Off1 D l → ∀ p ∈ l, p.1 ≠ D
  | [], _, _, h => nomatch h
  | _ :: _, x, p, h => by
    rcases List.mem_cons.mp h with rfl | h
    · exact x.1
    · exact off1_mem x.2 p h
theorem ltTail {T : Addr} {a b c : Addr × Obj} {l : List (Addr × Obj)} (h : ∀ p ∈ a :: b :: c :: l, p.1 < T) : Off T l := fun p hp => Nat.ne_of_lt (h p (.tail _ (.tail _ (.tail _ hp))))
theorem offTail {T : Addr} {a : Addr × Obj} {l : List (Addr × Obj)} (h : Off T (a :: l)) : Off T l := fun p hp => h p (.tail _ hp)
theorem cend_same {I C D : Addr} {s₁ : Shared} {oI oC oD : Obj} {S : List (Addr × Obj) → Prop} {rest : Value → List (Addr × Obj) → Prop} {y : Value} {h' : Heap} {tk : Nat} {news : List (Addr × Obj)}
    (F : Fr h₀ L h' m) (N : News h₀ L h' ((I, oI) :: (C, oC) :: (D, oD) :: news)) (off : Off3 I C D news) (hS : S news) (r : rest y news) : CompEnd h₀ L m s₁ I oI C oC D oD S rest y { s₁ with heap := h', toks := tk } :=
  CompEnd.intro F N news (fun _ h => h) off hS r
theorem cend_new {I C D T : Addr} {s₁ : Shared} {oI oC oD o : Obj} {S : List (Addr × Obj) → Prop} {rest : Value → List (Addr × Obj) → Prop} {y : Value} {h' : Heap} {tk : Nat} {news : List (Addr × Obj)}
    (F : Fr h₀ L h' m) (N : News h₀ L h' ((T, o) :: (I, oI) :: (C, oC) :: (D, oD) :: news)) (l : ∀ p ∈ (I, oI) :: (C, oC) :: (D, oD) :: news, p.1 < T) (off : Off3 I C D news) (hS : S ((T, o) :: news)) (r : rest y ((T, o) :: news)) : CompEnd h₀ L m s₁ I oI C oC D oD S rest y { s₁ with heap := h', toks := tk } := by
  refine CompEnd.intro F N ((T, o) :: news) (fun p hp => ?_) ⟨⟨?_, ?_, ?_⟩, off⟩ hS r
  · simp only [List.mem_cons] at hp ⊢
    rcases hp with h | h | h | h | h
    · exact .inr (.inl h)
    · exact .inr (.inr (.inl h))
    · exact .inr (.inr (.inr (.inl h)))
    · exact .inl h
    · exact .inr (.inr (.inr (.inr h)))
  · exact (Nat.ne_of_lt (l _ (.head _))).symm
  · exact (Nat.ne_of_lt (l _ (.tail _ (.head _)))).symm
  · exact (Nat.ne_of_lt (l _ (.tail _ (.tail _ (.head _))))).symm
end
end
section
set_option maxHeartbeats 8000000 in
theorem node_ctr {w : World} {mean : ExcName → Option Value} {mg mb : Str → Option Value} {dp un : Nat} {gd : Option (List Code)} {cn : Str} {cs : Scope} {a : Addr} {ccd : Value} {cl : List (Str × Addr)} {outer : List Env} {A₀ : Around} {base h₀ : Heap} {L : Addr} {m : Str → Option Value} {s : Shared} {Q E : Value → Shared → Prop} {src : Addr} {o : Obj} {rest : List (Addr × Obj)}
  (B : Below A₀ base outer h₀) (F : Fr h₀ L s.heap m) (X : (Mine.top.heap_1 w.params).In h₀) (T : Top Mine.top.view_1 LO mean mg mb h₀) (hk : cs.kind = .function) (N : News h₀ L s.heap ((src, o) :: rest)) (off : Off src rest) (ho : SrcOk o) (hd : dp < 390) (hu : un < 3900)
  (ret : ∀ D nd ad ld As Ls na nl o' n' h' tk', (D, tupA #[nd, .ref ad, .ref ld]) ∈ n' → NIn n' nd As Ls → (ad, lstO As na) ∈ n' → (ld, lstO Ls nl) ∈ n' → Off src n' → Sub rest n' → SrcOk o' → Fr h₀ L h' m → News h₀ L h' ((src, o') :: n') → Q (.ref D) { s with heap := h', toks := tk' }) :
  wpAny (model PySem.Challenge.rw_xm0169_01.row.prog w) (ktrTop dp un gd cn cs L a ccd cl outer) (call (.ref 256) [.ref src]) Q E s := by
    revert X
    k_fill
    intro X
    refine wpAny_call ?_
    k_dflt ktr_enter
    repeat' (first | (with_reducible refine gen_tok1 (fun tk9 => ?_); try dsimp only) | (k_unfold; (try dsimp only)) | (k_end; wrow_close) | ((with_reducible show wpAny _ _ (call (Value.ref 228) [Value.ref _, Value.int _ _]) _ _ _); k_dflt (refine' take_u ?zqB ?zqF ?zqX ?zqT ?zqhk ?zqN ?zqoff ?zqho ?zqht ?zqht2 ?zqhd ?zqhu ?_; (case zqB => k_asm); (case zqF => k_asm); (case zqX => k_asm); (case zqN => k_asm); (case zqT => k_asm); (case zqhk => first | exact rfl | assumption); (case zqoff => assumption); (case zqho => assumption); (case zqht => first | decide | omega); (case zqht2 => first | decide | omega); (case zqhd => ktr_room); (case zqhu => first | ktr_units | ((simp only [units_under_make, units_deeper, units_in1, Around.mark_units, units_caller]); (try dsimp only [ktrTop]); omega))); intro r9 t9 o9 h9 tk9 hr0 hr1 ho9 F9 N9; (try dsimp only); (try k_sweep)) | ((with_reducible show wpAny _ _ (call (Value.ref 249) _) _ _ _); k_dflt (refine' place_u ?zqB ?zqF ?zqX ?zqT ?zqhk ?zqN ?zqoff ?zqho ?zqhd ?zqhu ?_; (case zqB => k_asm); (case zqF => k_asm); (case zqX => k_asm); (case zqN => k_asm); (case zqT => k_asm); (case zqhk => first | exact rfl | assumption); (case zqoff => assumption); (case zqho => assumption); (case zqhd => ktr_room); (case zqhu => first | ktr_units | ((simp only [units_under_make, units_deeper, units_in1, Around.mark_units, units_caller]); (try dsimp only [ktrTop]); omega))); intro D9 v9 T9 rv9 r9 b9 o9 n9 h9 tk9 hD9 P9 R9 off9 sb9 ho9 F9 N9; (try dsimp only); (try k_sweep)) | ((with_reducible show wpAny _ _ (newTuple _) _ _ _); k_dflt (refine' newTup ?zqF ?zqN ?zqoff ?zqz ?_; (case zqF => k_asm); (case zqN => k_asm); (case zqoff => assumption); (case zqz => exact Nat.le_of_ble_eq_true rfl)); intro D9 h9 n9 F9 N9 off9 sb9 hm9; (try k_sweep)) | ((with_reducible show wpAny _ _ (newList _) _ _ _); k_dflt (refine' newLst ?zqF ?zqN ?zqoff ?zqz ?_; (case zqF => k_asm); (case zqN => k_asm); (case zqoff => assumption); (case zqz => exact Nat.le_of_ble_eq_true rfl)); intro D9 h9 n9 F9 N9 off9 sb9 hm9; (try k_sweep)) | ((with_reducible show wpAny _ _ (subscriptTail _ _ (Value.ref _) (Value.int _ _)) _ _ _); k_dflt (refine' item_tup ?zqk1 ?zqk2 ?zqk3 ?zqk4 ?zqk5 ?_ ?zqk6; (case zqk1 => k_asm); (case zqk2 => tb_start); (case zqk3 => decide); (case zqk4 => decide); (case zqk5 => rfl); (case zqk6 => with_unfolding_all rfl); k_whole)) | ((with_reducible show wpAny _ _ (subscriptTail _ _ (Value.ref _) (Value.int _ _)) _ _ _); k_dflt (refine' pick9 ?zqk1 ?zqk2 ?zqk3 ?zqk4 (fun e => ?_) (fun e => ?_) (fun e => ?_) (fun e => ?_) (fun e => ?_) (fun e => ?_) (fun e => ?_) (fun e => ?_) (fun e => ?_) ?zqk6; (case zqk1 => k_asm); (case zqk2 => tb_start); (case zqk3 => k_asm); (case zqk4 => k_asm); (case zqk6 => with_unfolding_all rfl)); (all_goals (subst e; try k_fold))) | walk1 | (dsimp only; walk1) | (leave1; walk_say "STEP leave1"; try dsimp only) | fail "no step")
    all_goals (refine' ret _ _ _ _ _ _ _ _ _ _ _ _ ?zqD ?zqK ?zqas ?zqls ?zqoff ?zqsb ?zqho ?zqF ?zqN; (case zqF => k_asm); (case zqN => k_asm); (case zqD => tb_start); (case zqas => tb_start); (case zqls => tb_start); (case zqoff => assumption); (case zqho => assumption); (case zqsb => k_subL); (case zqK => first
      | exact NIn.upd (by tb_start) | exact NIn.place (by tb_start) | exact NIn.addr (by tb_start) | exact NIn.cut7 (by tb_start) | exact NIn.cut4 (by tb_start) | exact NIn.do_ (by tb_start) | exact NIn.rec2 (by tb_start)
      | exact NIn.rec1 (by tb_start) (by tb_start) (by tb_start) (PIn.mono (by assumption) (by k_subL)) | exact NIn.set (by tb_start) (by tb_start) (PIn.mono (by assumption) (by k_subL)) (PIn.mono (by assumption) (by k_subL))))
end
section
theorem len_tup {prog : Program} {w : World} {A : Around} {E : Value → Shared → Prop} {s : Shared} {h₀ : Heap} {L l : Addr} {n : List (Addr × Obj)} {vs : List Value} {Q : Value → Shared → Prop}
    (N : News h₀ L s.heap n) (hm : (l, tupA vs.toArray) ∈ n) (hz : vs.length ≤ 1000) (h : ∀ t tk, Q (.int vs.length t) { s with toks := tk }) : wpAny (model prog w) A (call (.builtin "len") [.ref l]) Q E s := by
  refine len_tuple (News.isTup N hm) (by simp; omega) ?_
  simpa using h _ _
set_option maxHeartbeats 8000000 in
theorem asg_ctr {w : World} {mean : ExcName → Option Value} {mg mb : Str → Option Value} {dp un : Nat} {gd : Option (List Code)} {cn : Str} {cs : Scope} {a : Addr} {ccd : Value} {cl : List (Str × Addr)} {outer : List Env} {A₀ : Around} {base h₀ : Heap} {L : Addr} {m : Str → Option Value} {s : Shared} {Q E : Value → Shared → Prop} {hs news : List (Addr × Obj)} {nd : Value} {As Ls : List Value}
  (B : Below A₀ base outer h₀) (F : Fr h₀ L s.heap m) (X : (Mine.top.heap_1 w.params).In h₀) (T : Top Mine.top.view_1 LO mean mg mb h₀) (hk : cs.kind = .function) (N : News h₀ L s.heap (hs ++ news)) (off : OffL hs news) (K : NIn news nd As Ls) (hd : dp < 490) (hu : un < 4900)
  (ret : ∀ D c n' h' tk', (D, lstO As c) ∈ n' → Sub news n' → OffL hs n' → Fr h₀ L h' m → News h₀ L h' (hs ++ n') → Q (.ref D) { s with heap := h', toks := tk' }) :
  wpAny (model PySem.Challenge.rw_xm0169_01.row.prog w) (ktrTop dp un gd cn cs L a ccd cl outer) (call (.ref 54) [nd]) Q E s := by
    have K2 : ∀ {h t u : Addr} {k : Tok} {p v T : Value} {us : List Value} {r : Option Int} {b : Bool}, PIn news p T r b → ∃ (pa : Addr) (us : List Value), p = .ref pa ∧ 2 < us.length ∧ us.length ≤ 1000 ∧ (pa, tupA us.toArray) ∈ news := by
      intro _ _ _ _ _ _ _ _ _ _ P
      obtain ⟨a', k, t, z, us, e, h1, h2, hm, -⟩ := P.shapeG
      exact ⟨a', .str k t :: _ :: .int 0 z :: us, e, by simp only [List.length_cons]; omega, by simp only [List.length_cons]; omega, hm⟩
    revert X
    k_fill
    intro X
    cases K
    case rec1 P =>
      obtain ⟨pa, us9, rfl, hu1, hu2, hu3⟩ := K2 (h := 0) (t := 0) (u := 0) (k := 0) (v := .none) (us := []) P
      refine wpAny_call ?_
      k_dflt ktr_enter
      repeat' (first | (with_reducible refine gen_tok1 (fun tk9 => ?_); try dsimp only) | (k_unfold; (try dsimp only)) | (k_end; wrow_close) | ((with_reducible show wpAny _ _ (newList _) _ _ _); k_dflt (refine' newLstH ?zqF ?zqN ?zqoff ?zqz ?_; (case zqF => k_asm); (case zqN => k_asm); (case zqoff => assumption); (case zqz => exact Nat.le_of_ble_eq_true rfl)); intro D9 h9 n9 F9 N9 off9 sb9 hm9; (try k_sweep)) | ((with_reducible show wpAny _ _ (subscriptTail _ _ (Value.ref _) (Value.int _ _)) _ _ _); k_dflt (refine' item_tup ?zqk1 ?zqk2 ?zqk3 ?zqk4 ?zqk5 ?_ ?zqk6; (case zqk1 => k_asm); (case zqk2 => tb_start); (case zqk3 => decide); (case zqk4 => decide); (case zqk5 => rfl); (case zqk6 => with_unfolding_all rfl); k_whole)) | ((with_reducible show wpAny _ _ (eval (Expr.ListComp _ _ _ _) _) _ _ _); k_dflt (refine comp_tupT (by k_asm) (by with_unfolding_all rfl) (by decide) (by rfl) (by decide) (by rfl) ?_)) | ((with_reducible show TSrcT _ _ _ _ _ _ _ _ _ _ _ _ _ _ _); k_dflt (refine TSrcT.intro (by rfl) (by k_asm) (by k_asm) (by tb_start) (by exact Nat.le_of_ble_eq_true rfl) ?_; intro g9; lct_lit)) | ((with_reducible show LCg.CompEnd _ _ _ _ _ _ _ _ _ _ _ _ _ _); k_dflt (refine' cend_same ?zqF ?zqN ?zqoff ?zqS ?_; (case zqF => k_asm); (case zqN => k_asm); (case zqoff => assumption); (case zqS => tb_start))) | ((with_reducible show LCg.FinE _ _ _ _ _ _ _); (unfold LCg.FinE); intro D9 h9 tk9 F9 N9 o9; (try simp only [List.nil_append, List.cons_append] at N9); (try dsimp only)) | ((with_reducible show wpAny _ _ (call (Value.builtin "len") [Value.ref _]) _ _ _); k_dflt (refine' len_tup ?zqN ?zqm ?zqz ?_; (case zqN => k_asm); (case zqm => tb_start); (case zqz => assumption)); intro t9 tk9) | walk1 | (dsimp only; walk1) | (leave1; walk_say "STEP leave1"; try dsimp only) | fail "no step")
      all_goals first | (refine' ret _ _ _ _ _ ?zqa ?zqb ?zqc ?zqF ?zqN; (case zqF => k_asm); (case zqN => k_asm); (case zqa => tb_start); (case zqb => k_subL); (case zqc => assumption)) | (have hz9 := addH1 (h₀ := h₀) (L := L) (hd := hs) (n := news) (by k_asm) (by first | exact offOfLt0 (by assumption) | exact offOfLt (by tbn_find) | exact off1_mem (by assumption)) off; exact ret _ _ _ _ _ (by tb_start) (by k_subL) hz9.2 (by k_asm) hz9.1)
    all_goals refine wpAny_call ?_
    all_goals k_dflt ktr_enter
    all_goals repeat' (first | (with_reducible refine gen_tok1 (fun tk9 => ?_); try dsimp only) | (k_unfold; (try dsimp only)) | (k_end; wrow_close) | ((with_reducible show wpAny _ _ (newList _) _ _ _); k_dflt (refine' newLstH ?zqF ?zqN ?zqoff ?zqz ?_; (case zqF => k_asm); (case zqN => k_asm); (case zqoff => assumption); (case zqz => exact Nat.le_of_ble_eq_true rfl)); intro D9 h9 n9 F9 N9 off9 sb9 hm9; (try k_sweep)) | ((with_reducible show wpAny _ _ (subscriptTail _ _ (Value.ref _) (Value.int _ _)) _ _ _); k_dflt (refine' item_tup ?zqk1 ?zqk2 ?zqk3 ?zqk4 ?zqk5 ?_ ?zqk6; (case zqk1 => k_asm); (case zqk2 => tb_start); (case zqk3 => decide); (case zqk4 => decide); (case zqk5 => rfl); (case zqk6 => with_unfolding_all rfl); k_whole)) | walk1 | (dsimp only; walk1) | (leave1; walk_say "STEP leave1"; try dsimp only) | fail "no step")
    all_goals first | (refine' ret _ _ _ _ _ ?zqa ?zqb ?zqc ?zqF ?zqN; (case zqF => k_asm); (case zqN => k_asm); (case zqa => tb_start); (case zqb => k_subL); (case zqc => assumption)) | (have hz9 := addH1 (h₀ := h₀) (L := L) (hd := hs) (n := news) (by k_asm) (by first | exact offOfLt0 (by assumption) | exact offOfLt (by tbn_find) | exact off1_mem (by assumption)) off; exact ret _ _ _ _ _ (by tb_start) (by k_subL) hz9.2 (by k_asm) hz9.1)
end
section
set_option maxHeartbeats 8000000 in
theorem lent_ctr {w : World} {mean : ExcName → Option Value} {mg mb : Str → Option Value} {dp un : Nat} {gd : Option (List Code)} {cn : Str} {cs : Scope} {a : Addr} {ccd : Value} {cl : List (Str × Addr)} {outer : List Env} {A₀ : Around} {base h₀ : Heap} {L : Addr} {m : Str → Option Value} {s : Shared} {Q E : Value → Shared → Prop} {hs news : List (Addr × Obj)} {nd : Value} {As Ls : List Value}
  (B : Below A₀ base outer h₀) (F : Fr h₀ L s.heap m) (X : (Mine.top.heap_1 w.params).In h₀) (T : Top Mine.top.view_1 LO mean mg mb h₀) (hk : cs.kind = .function) (N : News h₀ L s.heap (hs ++ news)) (off : OffL hs news) (K : NIn news nd As Ls) (hd : dp < 490) (_hu : un < 4900)
  (ret : ∀ D c n' h' tk', (D, lstO Ls c) ∈ n' → Sub news n' → OffL hs n' → Fr h₀ L h' m → News h₀ L h' (hs ++ n') → Q (.ref D) { s with heap := h', toks := tk' }) :
  wpAny (model PySem.Challenge.rw_xm0169_01.row.prog w) (ktrTop dp un gd cn cs L a ccd cl outer) (call (.ref 61) [nd]) Q E s := by
    revert X
    k_fill
    intro X
    cases K
    all_goals refine wpAny_call ?_
    all_goals k_dflt ktr_enter
    all_goals repeat' (first | (with_reducible refine gen_tok1 (fun tk9 => ?_); try dsimp only) | (k_unfold; (try dsimp only)) | (k_end; wrow_close) | ((with_reducible show wpAny _ _ (newList _) _ _ _); k_dflt (refine' newLstH ?zqF ?zqN ?zqoff ?zqz ?_; (case zqF => k_asm); (case zqN => k_asm); (case zqoff => assumption); (case zqz => exact Nat.le_of_ble_eq_true rfl)); intro D9 h9 n9 F9 N9 off9 sb9 hm9; (try k_sweep)) | ((with_reducible show wpAny _ _ (subscriptTail _ _ (Value.ref _) (Value.int _ _)) _ _ _); k_dflt (refine' item_tup ?zqk1 ?zqk2 ?zqk3 ?zqk4 ?zqk5 ?_ ?zqk6; (case zqk1 => k_asm); (case zqk2 => tb_start); (case zqk3 => decide); (case zqk4 => decide); (case zqk5 => rfl); (case zqk6 => with_unfolding_all rfl); k_whole)) | walk1 | (dsimp only; walk1) | (leave1; walk_say "STEP leave1"; try dsimp only) | fail "no step")
    all_goals first | (refine' ret _ _ _ _ _ ?zqa ?zqb ?zqc ?zqF ?zqN; (case zqF => k_asm); (case zqN => k_asm); (case zqa => tb_start); (case zqb => k_subL); (case zqc => assumption)) | (have hz9 := addH1 (h₀ := h₀) (L := L) (hd := hs) (n := news) (by k_asm) (by first | exact offOfLt0 (by assumption) | exact offOfLt (by tbn_find) | exact off1_mem (by assumption)) off; exact ret _ _ _ _ _ (by tb_start) (by k_subL) hz9.2 (by k_asm) hz9.1)
end
section
theorem part_none {w : World} {mean : ExcName → Option Value} {mg mb : Str → Option Value} {dp un : Nat} {gd : Option (List Code)} {cn : Str} {cs : Scope} {a : Addr} {ccd : Value} {cl : List (Str × Addr)} {outer : List Env} {A₀ : Around} {base h₀ : Heap} {L : Addr} {m : Str → Option Value} {s : Shared} {Q E : Value → Shared → Prop} {news : List (Addr × Obj)}
  (B : Below A₀ base outer h₀) (F : Fr h₀ L s.heap m) (X : (Mine.top.heap_1 w.params).In h₀) (T : Top Mine.top.view_1 LO mean mg mb h₀) (hk : cs.kind = .function) (N : News h₀ L s.heap news) (hd : dp < 490) (_hu : un < 4900)
  (ret : ∀ h' tk', Fr h₀ L h' m → News h₀ L h' news → Q (.bool false) { s with heap := h', toks := tk' }) :
  wpAny (model PySem.Challenge.rw_xm0169_01.row.prog w) (ktrTop dp un gd cn cs L a ccd cl outer) (call (.ref 49) [.none]) Q E s := by
    revert X
    k_fill
    intro X
    refine wpAny_call ?_
    k_dflt ktr_enter
    repeat' (first | (with_reducible refine gen_tok1 (fun tk9 => ?_); try dsimp only) | (k_unfold; (try dsimp only)) | (k_end; wrow_close) | ((with_reducible show wpAny _ _ (subscriptTail _ _ (Value.ref _) (Value.int _ _)) _ _ _); k_dflt (refine' item_tup ?zqk1 ?zqk2 ?zqk3 ?zqk4 ?zqk5 ?_ ?zqk6; (case zqk1 => k_asm); (case zqk2 => tb_start); (case zqk3 => decide); (case zqk4 => decide); (case zqk5 => rfl); (case zqk6 => with_unfolding_all rfl); k_whole)) | walk1 | (dsimp only; walk1) | (leave1; walk_say "STEP leave1"; try dsimp only) | fail "no step")
    all_goals exact ret _ _ (by k_asm) (by first | k_asm | exact newsAll (by k_asm) (by k_subL))
set_option maxHeartbeats 8000000 in
theorem part_ctr {w : World} {mean : ExcName → Option Value} {mg mb : Str → Option Value} {dp un : Nat} {gd : Option (List Code)} {cn : Str} {cs : Scope} {a : Addr} {ccd : Value} {cl : List (Str × Addr)} {outer : List Env} {A₀ : Around} {base h₀ : Heap} {L : Addr} {m : Str → Option Value} {s : Shared} {Q E : Value → Shared → Prop} {news : List (Addr × Obj)} {v T₀ : Value} {r : Option Int} {b : Bool}
  (B : Below A₀ base outer h₀) (F : Fr h₀ L s.heap m) (X : (Mine.top.heap_1 w.params).In h₀) (T : Top Mine.top.view_1 LO mean mg mb h₀) (hk : cs.kind = .function) (N : News h₀ L s.heap news) (P : PIn news v T₀ r b) (hd : dp < 490) (_hu : un < 4900)
  (ret : ∀ h' tk', Fr h₀ L h' m → News h₀ L h' news → Q (.bool b) { s with heap := h', toks := tk' }) :
  wpAny (model PySem.Challenge.rw_xm0169_01.row.prog w) (ktrTop dp un gd cn cs L a ccd cl outer) (call (.ref 49) [v]) Q E s := by
    revert X
    k_fill
    intro X
    cases P
    all_goals refine wpAny_call ?_
    all_goals k_dflt ktr_enter
    all_goals repeat' (first | (with_reducible refine gen_tok1 (fun tk9 => ?_); try dsimp only) | (k_unfold; (try dsimp only)) | (k_end; wrow_close) | ((with_reducible show wpAny _ _ (subscriptTail _ _ (Value.ref _) (Value.int _ _)) _ _ _); k_dflt (refine' item_tup ?zqk1 ?zqk2 ?zqk3 ?zqk4 ?zqk5 ?_ ?zqk6; (case zqk1 => k_asm); (case zqk2 => tb_start); (case zqk3 => decide); (case zqk4 => decide); (case zqk5 => rfl); (case zqk6 => with_unfolding_all rfl); k_whole)) | walk1 | (dsimp only; walk1) | (leave1; walk_say "STEP leave1"; try dsimp only) | fail "no step")
    all_goals exact ret _ _ (by k_asm) (by first | k_asm | exact newsAll (by k_asm) (by k_subL))
end
section
/-- v is read as d wherever the ledger n stands -/
def RD (w : World) (n : List (Addr × Obj)) (v : Value) (d : PyData) : Prop := ∀ (h₀ : Heap) (L : Addr) (h : Heap), News h₀ L h n → (Mine.top.heap_1 w.params).In h → ∃ as, Reads h v d as
theorem RD.mono {w : World} {n n' : List (Addr × Obj)} {v : Value} {d : PyData} (r : RD w n v d) (s : Sub n n') : RD w n' v d := fun h₀ L h N X => r h₀ L h (newsAll N s) X
def RDs (w : World) (n : List (Addr × Obj)) (vs : List Value) (ds : List PyData) : Prop := ∀ (h₀ : Heap) (L : Addr) (h : Heap), News h₀ L h n → (Mine.top.heap_1 w.params).In h → ∃ as, ReadsAll h vs ds as
theorem RDs.nil {w : World} {n : List (Addr × Obj)} : RDs w n [] [] := fun _ _ _ _ _ => ⟨_, .nil⟩
theorem RDs.cons {w : World} {n : List (Addr × Obj)} {v : Value} {d : PyData} {vs : List Value} {ds : List PyData} (a : RD w n v d) (b : RDs w n vs ds) : RDs w n (v :: vs) (d :: ds) := fun h₀ L h N X => by
  obtain ⟨as, x⟩ := a h₀ L h N X
  obtain ⟨bs, y⟩ := b h₀ L h N X
  exact ⟨_, .cons x y⟩
theorem RD.int {w : World} {n : List (Addr × Obj)} (i : Int) (t : Tok) : RD w n (.int i t) (.int i) := fun _ _ _ _ _ => ⟨_, .int i t⟩
theorem RD.int' {w : World} {n : List (Addr × Obj)} {i j : Int} {t : Tok} (e : i = j) : RD w n (.int i t) (.int j) := by
  subst e
  exact RD.int _ _
theorem max_is {c : Int} : (if c > 1 then c else 1) = max 1 c := by split <;> omega
theorem RD.str {w : World} {n : List (Addr × Obj)} (i : Str) (t : Tok) : RD w n (.str i t) (.str i) := fun _ _ _ _ _ => ⟨_, .str i t⟩
theorem RD.tup {w : World} {n : List (Addr × Obj)} {a : Addr} {vs : List Value} {ds : List PyData} (hm : (a, tupA vs.toArray) ∈ n) (r : RDs w n vs ds) : RD w n (.ref a) (.tuple ds) := fun h₀ L h N X => by
  obtain ⟨as, x⟩ := r h₀ L h N X
  exact ⟨_, .tuple (N _ hm).1 rfl rfl (by simpa using x)⟩
theorem RD.lst {w : World} {n : List (Addr × Obj)} {a : Addr} {c : Nat} {vs : List Value} {ds : List PyData} (hm : (a, lstO vs c) ∈ n) (r : RDs w n vs ds) : RD w n (.ref a) (.list ds) := fun h₀ L h N X => by
  obtain ⟨as, x⟩ := r h₀ L h N X
  exact ⟨_, .list (N _ hm).1 rfl rfl (by simpa using x)⟩
abbrev dInt : PyData := .tuple [.str (S "int"), .str (S "int")]
theorem RD.law_int {w : World} {n : List (Addr × Obj)} : RD w n (.ref 214) dInt := fun h₀ L h N X => by
  have hp : PySem.Challenge.rw_xm0169_01.row.prog = PySem.Challenge.rw_xm0169_01.row.prog := rfl
  revert hp X
  k_fill
  intro X _
  have hx := X 214 _ (by k_is)
  exact ⟨_, .tuple hx rfl rfl (.cons (.str _ _) (.cons (.str _ _) .nil))⟩
/-- what stands in a type: each with its number -/
abbrev wd (ws : List (PyData × Int)) : PyData := .list (ws.map fun p => .tuple [p.1, .int p.2])
def Wok (ws : List (PyData × Int)) : Prop := PySem.SeqAt.shaped (wd ws) = true ∧ PyData.eqv (wd ws) (wd ws) = true
/-- the underlying type u, of kind k, and what stands in it -/
inductive WT (w : World) (n : List (Addr × Obj)) : Value → Str → List (PyData × Int) → Prop where
  | top : WT w n (.ref 214) (S "int") []
  | none {a : Addr} {k : Str} {t : Tok} {r : List Value} : (a, tupA (List.toArray (.str k t :: r))) ∈ n → (k == S "array") = false → (k == S "struct") = false → WT w n (.ref a) k []
  | arr {a : Addr} {t t' : Tok} {c : Int} {v : Value} {d : PyData} : (a, tupA #[.str (S "array") t, .int c t', v]) ∈ n → 0 ≤ c → c < 10 → RD w n v d → WT w n (.ref a) (S "array") [(d, max 1 c)]
  | st1 {a f r : Addr} {t t1 : Tok} {v x : Value} {d : PyData} : (a, tupA #[.str (S "struct") t, .ref f]) ∈ n → (f, tupA #[.ref r]) ∈ n → (r, tupA #[.str (S "a") t1, v, x]) ∈ n → RD w n v d → WT w n (.ref a) (S "struct") [(d, 1)]
  | st2 {a f r r2 : Addr} {t t1 t2 : Tok} {v x v2 x2 : Value} {d d2 : PyData} : (a, tupA #[.str (S "struct") t, .ref f]) ∈ n → (f, tupA #[.ref r, .ref r2]) ∈ n → (r, tupA #[.str (S "a") t1, v, x]) ∈ n → RD w n v d → (r2, tupA #[.str (S "b") t2, v2, x2]) ∈ n → RD w n v2 d2 →
      WT w n (.ref a) (S "struct") [(d, 1), (d2, 1)]
theorem WT.mono {w : World} {n n' : List (Addr × Obj)} {u : Value} {k : Str} {ws : List (PyData × Int)} (h : WT w n u k ws) (s : Sub n n') : WT w n' u k ws := by
  cases h with
  | top => exact .top
  | none a b c => exact .none (s _ a) b c
  | arr a b c d => exact .arr (s _ a) b c (d.mono s)
  | st1 a b c d => exact .st1 (s _ a) (s _ b) (s _ c) (d.mono s)
  | st2 a b c d e f => exact .st2 (s _ a) (s _ b) (s _ c) (d.mono s) (s _ e) (f.mono s)
/-- may it be embedded -/
inductive LED (n : List (Addr × Obj)) (kvs : List (Str × Value)) : Value → Bool → Prop where
  | top : LED n kvs (.ref 214) true
  | plain {t a : Addr} {k0 k : Str} {t0 t1 : Tok} {r r' : List Value} {b : Bool} : (t, tupA (List.toArray (.str k0 t0 :: r))) ∈ n → (k0 == S "ptr") = false → TyB n kvs (.ref t) (.ref a) k → (a, tupA (List.toArray (.str k t1 :: r'))) ∈ n → (k == S "ptr") = !b → LED n kvs (.ref t) b
  | led {t a : Addr} {v : Value} {k : Str} {t0 t1 : Tok} {r' : List Value} {b1 b2 : Bool} : (t, tupA #[.str (S "ptr") t0, v]) ∈ n → TyB n kvs v (.ref a) k → (a, tupA (List.toArray (.str k t1 :: r'))) ∈ n → (k == S "ptr") = !b1 → (k == S "interface") = !b2 → LED n kvs (.ref t) (b1 && b2)
theorem LED.mono {n n' : List (Addr × Obj)} {kvs : List (Str × Value)} {t : Value} {b : Bool} (h : LED n kvs t b) (s : Sub n n') : LED n' kvs t b := by
  cases h with
  | top => exact .top
  | plain a b c d e => exact .plain (s _ a) b (c.mono s) (s _ d) e
  | led a b c d e => exact .led (s _ a) (b.mono s) (s _ c) d e
/-- a type, what stands in it, may it be embedded -/
structure TyIn (w : World) (n : List (Addr × Obj)) (kvs : List (Str × Value)) (t : Value) (ws : List (PyData × Int)) (b : Bool) : Prop where
  base : ∃ u k, TyB n kvs t u k ∧ WT w n u k ws
  led : LED n kvs t b
  ok : Wok ws
theorem TyIn.mono {w : World} {n n' : List (Addr × Obj)} {kvs : List (Str × Value)} {t : Value} {ws : List (PyData × Int)} {b : Bool} (h : TyIn w n kvs t ws b) (s : Sub n n') : TyIn w n' kvs t ws b := by
  obtain ⟨⟨u, k, a, c⟩, d, e⟩ := h
  exact ⟨⟨u, k, a.mono s, c.mono s⟩, d.mono s, e⟩
theorem ne_ws {prog : Program} {w w' : World} {A : Around} {E : Value → Shared → Prop} {s : Shared} {h₀ : Heap} {L : Addr} {a b : Value} {n : List (Addr × Obj)} {ws : List (PyData × Int)} {Q : Value → Shared → Prop}
    (N : News h₀ L s.heap n) (X : (Mine.top.heap_1 w'.params).In s.heap) (ha : RD w' n a (wd ws)) (hb : RD w' n b (wd ws)) (ok : Wok ws) (hu : A.units + 64 < cLine) (h : Q (.bool false) s) : wpAny (model prog w) A (compareOp .NotEq a b) Q E s := by
  obtain ⟨as, ra⟩ := ha h₀ L _ N X
  obtain ⟨bs, rb⟩ := hb h₀ L _ N X
  refine ne_dataH ra rb ok.1 ok.1 hu ?_
  rw [ok.2]
  exact h
theorem wok0 : Wok [] := by constructor <;> rfl
end
section
set_option maxHeartbeats 8000000 in
theorem tw_ctr {w : World} {mean : ExcName → Option Value} {mg mb : Str → Option Value} {dp un : Nat} {gd : Option (List Code)} {cn : Str} {cs : Scope} {a : Addr} {ccd : Value} {cl : List (Str × Addr)} {outer : List Env} {A₀ : Around} {base h₀ : Heap} {L : Addr} {m : Str → Option Value} {s : Shared} {Q E : Value → Shared → Prop} {x : Addr} {kvs : List (Str × Value)} {hs news : List (Addr × Obj)} {t u : Value} {k : Str} {ws : List (PyData × Int)}
  (B : Below A₀ base outer h₀) (F : Fr h₀ L s.heap m) (X : (Mine.top.heap_1 w.params).In h₀) (T : Top Mine.top.view_1 LO mean mg mb h₀) (hk : cs.kind = .function) (N : News h₀ L s.heap (hs ++ news)) (off : OffL hs news) (W : WIn w (hs ++ news) x kvs) (Y : TyB (hs ++ news) kvs t u k) (K : WT w news u k ws) (hd : dp < 400) (hu : un < 4000)
  (ret : ∀ D n' h' tk', RD w n' (.ref D) (wd ws) → Sub news n' → OffL hs n' → Fr h₀ L h' m → News h₀ L h' (hs ++ n') → Q (.ref D) { s with heap := h', toks := tk' }) :
  wpAny (model PySem.Challenge.rw_xm0169_01.row.prog w) (ktrTop dp un gd cn cs L a ccd cl outer) (call (.ref 73) [.ref x, t]) Q E s := by
    obtain ⟨dx, es, n, dn, o, w1, w2, w3, w4, w5, w6, w7⟩ := id W.ex
    revert X
    k_fill
    intro X
    cases K
    case top =>
      refine wpAny_call ?_
      k_dflt ktr_enter
      repeat' (first | (with_reducible refine gen_tok1 (fun tk9 => ?_); try dsimp only) | (k_unfold; (try dsimp only)) | (k_end; wrow_close) | ((with_reducible show wpAny _ _ (call (Value.ref 199) _) _ _ _); k_dflt (refine' base_ctr ?zqB ?zqF ?zqX ?zqT ?zqhk ?zqN ?zqW ?zqY ?zqhd ?zqhu ?_; (case zqB => k_asm); (case zqF => k_asm); (case zqX => k_asm); (case zqN => k_asm); (case zqT => k_asm); (case zqhk => first | exact rfl | assumption); (case zqW => first | assumption | exact WIn.mono (by assumption) (by k_subL)); (case zqY => first | assumption | exact TyB.mono (by assumption) (by k_subL)); (case zqhd => ktr_room); (case zqhu => first | ktr_units | ((simp only [units_under_make, units_deeper, units_in1, Around.mark_units, units_caller]); (try dsimp only [ktrTop]); omega))); intro h9 tk9 F9 N9; (try dsimp only); (try k_sweep)) | ((with_reducible show wpAny _ _ (getMethod (Value.ref _) _ _) _ _ _); k_dflt (refine' method_inst ?zqk1 ?zqk2 ?zqk3 ?zqk4 ?zqk5 ?zqk6 ?zqk7 ?_; (case zqk1 => k_asm); (case zqk2 => k_asm); (case zqk3 => k_inst); (case zqk4 => k_is); (case zqk5 => k_is); (case zqk6 => k_is); (case zqk7 => assumption); k_whole)) | ((with_reducible show wpAny _ _ (newList _) _ _ _); k_dflt (refine' newLstH ?zqF ?zqN ?zqoff ?zqz ?_; (case zqF => k_asm); (case zqN => k_asm); (case zqoff => assumption); (case zqz => exact Nat.le_of_ble_eq_true rfl)); intro D9 h9 n9 F9 N9 off9 sb9 hm9; (try k_sweep)) | ((with_reducible show wpAny _ _ (subscriptTail _ _ (Value.ref _) (Value.int _ _)) _ _ _); k_dflt (refine' item_tup ?zqk1 ?zqk2 ?zqk3 ?zqk4 ?zqk5 ?_ ?zqk6; (case zqk1 => k_asm); (case zqk2 => tb_start); (case zqk3 => decide); (case zqk4 => decide); (case zqk5 => rfl); (case zqk6 => with_unfolding_all rfl); k_whole)) | ((with_reducible show wpAny _ _ (compareOp CmpOp.Eq (Value.str _ _) (Value.str _ _)) _ _ _); k_dflt (refine' eqB ?zqe ?_; (case zqe => with_reducible assumption)); (try dsimp only [Bool.not_true, Bool.not_false])) | ((with_reducible show wpAny _ _ (compareOp CmpOp.NotEq (Value.str _ _) (Value.str _ _)) _ _ _); k_dflt (refine' neB ?zqe ?_; (case zqe => with_reducible assumption)); (try dsimp only [Bool.not_true, Bool.not_false])) | walk1 | (dsimp only; walk1) | (leave1; walk_say "STEP leave1"; try dsimp only) | fail "no step")
      all_goals (refine' ret _ _ _ _ ?zqa ?zqb ?zqc ?zqF ?zqN; (case zqF => k_asm); (case zqN => k_asm); (case zqb => k_subL); (case zqc => assumption); (case zqa => exact RD.lst (by tb_start) RDs.nil))
    case none =>
      refine wpAny_call ?_
      k_dflt ktr_enter
      repeat' (first | (with_reducible refine gen_tok1 (fun tk9 => ?_); try dsimp only) | (k_unfold; (try dsimp only)) | (k_end; wrow_close) | ((with_reducible show wpAny _ _ (call (Value.ref 199) _) _ _ _); k_dflt (refine' base_ctr ?zqB ?zqF ?zqX ?zqT ?zqhk ?zqN ?zqW ?zqY ?zqhd ?zqhu ?_; (case zqB => k_asm); (case zqF => k_asm); (case zqX => k_asm); (case zqN => k_asm); (case zqT => k_asm); (case zqhk => first | exact rfl | assumption); (case zqW => first | assumption | exact WIn.mono (by assumption) (by k_subL)); (case zqY => first | assumption | exact TyB.mono (by assumption) (by k_subL)); (case zqhd => ktr_room); (case zqhu => first | ktr_units | ((simp only [units_under_make, units_deeper, units_in1, Around.mark_units, units_caller]); (try dsimp only [ktrTop]); omega))); intro h9 tk9 F9 N9; (try dsimp only); (try k_sweep)) | ((with_reducible show wpAny _ _ (getMethod (Value.ref _) _ _) _ _ _); k_dflt (refine' method_inst ?zqk1 ?zqk2 ?zqk3 ?zqk4 ?zqk5 ?zqk6 ?zqk7 ?_; (case zqk1 => k_asm); (case zqk2 => k_asm); (case zqk3 => k_inst); (case zqk4 => k_is); (case zqk5 => k_is); (case zqk6 => k_is); (case zqk7 => assumption); k_whole)) | ((with_reducible show wpAny _ _ (newList _) _ _ _); k_dflt (refine' newLstH ?zqF ?zqN ?zqoff ?zqz ?_; (case zqF => k_asm); (case zqN => k_asm); (case zqoff => assumption); (case zqz => exact Nat.le_of_ble_eq_true rfl)); intro D9 h9 n9 F9 N9 off9 sb9 hm9; (try k_sweep)) | ((with_reducible show wpAny _ _ (subscriptTail _ _ (Value.ref _) (Value.int _ _)) _ _ _); k_dflt (refine' item_tup ?zqk1 ?zqk2 ?zqk3 ?zqk4 ?zqk5 ?_ ?zqk6; (case zqk1 => k_asm); (case zqk2 => tb_start); (case zqk3 => decide); (case zqk4 => decide); (case zqk5 => rfl); (case zqk6 => with_unfolding_all rfl); k_whole)) | ((with_reducible show wpAny _ _ (compareOp CmpOp.Eq (Value.str _ _) (Value.str _ _)) _ _ _); k_dflt (refine' eqB ?zqe ?_; (case zqe => with_reducible assumption)); (try dsimp only [Bool.not_true, Bool.not_false])) | ((with_reducible show wpAny _ _ (compareOp CmpOp.NotEq (Value.str _ _) (Value.str _ _)) _ _ _); k_dflt (refine' neB ?zqe ?_; (case zqe => with_reducible assumption)); (try dsimp only [Bool.not_true, Bool.not_false])) | walk1 | (dsimp only; walk1) | (leave1; walk_say "STEP leave1"; try dsimp only) | fail "no step")
      all_goals (refine' ret _ _ _ _ ?zqa ?zqb ?zqc ?zqF ?zqN; (case zqF => k_asm); (case zqN => k_asm); (case zqb => k_subL); (case zqc => assumption); (case zqa => exact RD.lst (by tb_start) RDs.nil))
    case arr =>
      refine wpAny_call ?_
      k_dflt ktr_enter
      repeat' (first | (with_reducible refine gen_tok1 (fun tk9 => ?_); try dsimp only) | (k_unfold; (try dsimp only)) | (k_end; wrow_close) | ((with_reducible show wpAny _ _ (call (Value.ref 199) _) _ _ _); k_dflt (refine' base_ctr ?zqB ?zqF ?zqX ?zqT ?zqhk ?zqN ?zqW ?zqY ?zqhd ?zqhu ?_; (case zqB => k_asm); (case zqF => k_asm); (case zqX => k_asm); (case zqN => k_asm); (case zqT => k_asm); (case zqhk => first | exact rfl | assumption); (case zqW => first | assumption | exact WIn.mono (by assumption) (by k_subL)); (case zqY => first | assumption | exact TyB.mono (by assumption) (by k_subL)); (case zqhd => ktr_room); (case zqhu => first | ktr_units | ((simp only [units_under_make, units_deeper, units_in1, Around.mark_units, units_caller]); (try dsimp only [ktrTop]); omega))); intro h9 tk9 F9 N9; (try dsimp only); (try k_sweep)) | ((with_reducible show wpAny _ _ (getMethod (Value.ref _) _ _) _ _ _); k_dflt (refine' method_inst ?zqk1 ?zqk2 ?zqk3 ?zqk4 ?zqk5 ?zqk6 ?zqk7 ?_; (case zqk1 => k_asm); (case zqk2 => k_asm); (case zqk3 => k_inst); (case zqk4 => k_is); (case zqk5 => k_is); (case zqk6 => k_is); (case zqk7 => assumption); k_whole)) | ((with_reducible show wpAny _ _ (newList _) _ _ _); k_dflt (refine' newLstH ?zqF ?zqN ?zqoff ?zqz ?_; (case zqF => k_asm); (case zqN => k_asm); (case zqoff => assumption); (case zqz => exact Nat.le_of_ble_eq_true rfl)); intro D9 h9 n9 F9 N9 off9 sb9 hm9; (try k_sweep)) | ((with_reducible show wpAny _ _ (newTuple _) _ _ _); k_dflt (refine' newTupH ?zqF ?zqN ?zqoff ?zqz ?_; (case zqF => k_asm); (case zqN => k_asm); (case zqoff => assumption); (case zqz => exact Nat.le_of_ble_eq_true rfl)); intro D9 h9 n9 F9 N9 off9 sb9 hm9; (try k_sweep)) | ((with_reducible show wpAny _ _ (subscriptTail _ _ (Value.ref _) (Value.int _ _)) _ _ _); k_dflt (refine' item_tup ?zqk1 ?zqk2 ?zqk3 ?zqk4 ?zqk5 ?_ ?zqk6; (case zqk1 => k_asm); (case zqk2 => tb_start); (case zqk3 => decide); (case zqk4 => decide); (case zqk5 => rfl); (case zqk6 => with_unfolding_all rfl); k_whole)) | ((with_reducible show wpAny _ _ (compareOp CmpOp.Eq (Value.str _ _) (Value.str _ _)) _ _ _); k_dflt (refine' eqB ?zqe ?_; (case zqe => with_reducible assumption)); (try dsimp only [Bool.not_true, Bool.not_false])) | ((with_reducible show wpAny _ _ (compareOp CmpOp.NotEq (Value.str _ _) (Value.str _ _)) _ _ _); k_dflt (refine' neB ?zqe ?_; (case zqe => with_reducible assumption)); (try dsimp only [Bool.not_true, Bool.not_false])) | walk1 | (dsimp only; walk1) | (leave1; walk_say "STEP leave1"; try dsimp only) | fail "no step")
      all_goals (refine' ret _ _ _ _ ?zqa ?zqb ?zqc ?zqF ?zqN; (case zqF => k_asm); (case zqN => k_asm); (case zqb => k_subL); (case zqc => assumption); (case zqa => exact RD.lst (by tb_start) (.cons (RD.tup (by tb_start) (.cons (RD.mono (by assumption) (by k_subL)) (.cons (RD.int' max_is) .nil))) .nil)))
    case st1 =>
      refine wpAny_call ?_
      k_dflt ktr_enter
      repeat' (first | (with_reducible refine gen_tok1 (fun tk9 => ?_); try dsimp only) | (k_unfold; (try dsimp only)) | (k_end; wrow_close) | ((with_reducible show wpAny _ _ (call (Value.ref 199) _) _ _ _); k_dflt (refine' base_ctr ?zqB ?zqF ?zqX ?zqT ?zqhk ?zqN ?zqW ?zqY ?zqhd ?zqhu ?_; (case zqB => k_asm); (case zqF => k_asm); (case zqX => k_asm); (case zqN => k_asm); (case zqT => k_asm); (case zqhk => first | exact rfl | assumption); (case zqW => first | assumption | exact WIn.mono (by assumption) (by k_subL)); (case zqY => first | assumption | exact TyB.mono (by assumption) (by k_subL)); (case zqhd => ktr_room); (case zqhu => first | ktr_units | ((simp only [units_under_make, units_deeper, units_in1, Around.mark_units, units_caller]); (try dsimp only [ktrTop]); omega))); intro h9 tk9 F9 N9; (try dsimp only); (try k_sweep)) | ((with_reducible show wpAny _ _ (getMethod (Value.ref _) _ _) _ _ _); k_dflt (refine' method_inst ?zqk1 ?zqk2 ?zqk3 ?zqk4 ?zqk5 ?zqk6 ?zqk7 ?_; (case zqk1 => k_asm); (case zqk2 => k_asm); (case zqk3 => k_inst); (case zqk4 => k_is); (case zqk5 => k_is); (case zqk6 => k_is); (case zqk7 => assumption); k_whole)) | ((with_reducible show wpAny _ _ (eval (Expr.ListComp _ _ _ _) _) _ _ _); k_dflt (refine comp_tup (by k_asm) (by with_unfolding_all rfl) (by decide) (by rfl) (by decide) (by rfl) ?_)) | ((with_reducible show TSrc _ _ _ _ _ _ _ _ _ _ _ _ _ _); k_dflt (refine TSrc.intro (by rfl) (by k_asm) (by k_asm) (by tb_start) (by exact Nat.le_of_ble_eq_true rfl) ?_; intro g9; lcg_lit)) | ((with_reducible show LCg.CompEnd _ _ _ _ _ _ _ _ _ _ _ _ _ _); k_dflt (refine' cend_new ?zqF ?zqN ?zql ?zqoff ?zqS ?_; (case zqF => k_asm); (case zqN => k_asm); (case zql => assumption); (case zqoff => assumption); (case zqS => tb_start))) | ((with_reducible show LCg.FinE _ _ _ _ _ _ _); (unfold LCg.FinE); intro D9 h9 tk9 F9 N9 o9; (try simp only [List.nil_append, List.cons_append] at N9); (try dsimp only)) | ((with_reducible show wpAny _ _ (newTuple _) _ _ _); k_dflt (refine' kup_newTuple ?zqF ?zqN ?_ ?zqz; (case zqF => k_asm); (case zqN => k_asm); (case zqz => exact Nat.le_of_ble_eq_true rfl)); intro D9 h9 F9 N9 l9; (try k_sweep)) | ((with_reducible show wpAny _ _ (subscriptTail _ _ (Value.ref _) (Value.int _ _)) _ _ _); k_dflt (refine' item_tup ?zqk1 ?zqk2 ?zqk3 ?zqk4 ?zqk5 ?_ ?zqk6; (case zqk1 => k_asm); (case zqk2 => tb_start); (case zqk3 => decide); (case zqk4 => decide); (case zqk5 => rfl); (case zqk6 => with_unfolding_all rfl); k_whole)) | ((with_reducible show wpAny _ _ (compareOp CmpOp.Eq (Value.str _ _) (Value.str _ _)) _ _ _); k_dflt (refine' eqB ?zqe ?_; (case zqe => with_reducible assumption)); (try dsimp only [Bool.not_true, Bool.not_false])) | ((with_reducible show wpAny _ _ (compareOp CmpOp.NotEq (Value.str _ _) (Value.str _ _)) _ _ _); k_dflt (refine' neB ?zqe ?_; (case zqe => with_reducible assumption)); (try dsimp only [Bool.not_true, Bool.not_false])) | walk1 | (dsimp only; walk1) | (leave1; walk_say "STEP leave1"; try dsimp only) | fail "no step")
      all_goals (have hz9 := addH2 (h₀ := h₀) (L := L) (hd := hs) (n := news) (by k_asm) (off1_mem (by assumption)) (ltTail (by assumption)) off; exact ret _ _ _ _ (RD.lst (by tb_start) (.cons (RD.tup (by tb_start) (.cons (RD.mono (by assumption) (by k_subL)) (.cons (RD.int _ _) .nil))) .nil)) (by k_subL) hz9.2 (by k_asm) hz9.1)
    case st2 =>
      refine wpAny_call ?_
      k_dflt ktr_enter
      repeat' (first | (with_reducible refine gen_tok1 (fun tk9 => ?_); try dsimp only) | (k_unfold; (try dsimp only)) | (k_end; wrow_close) | ((with_reducible show wpAny _ _ (call (Value.ref 199) _) _ _ _); k_dflt (refine' base_ctr ?zqB ?zqF ?zqX ?zqT ?zqhk ?zqN ?zqW ?zqY ?zqhd ?zqhu ?_; (case zqB => k_asm); (case zqF => k_asm); (case zqX => k_asm); (case zqN => k_asm); (case zqT => k_asm); (case zqhk => first | exact rfl | assumption); (case zqW => first | assumption | exact WIn.mono (by assumption) (by k_subL)); (case zqY => first | assumption | exact TyB.mono (by assumption) (by k_subL)); (case zqhd => ktr_room); (case zqhu => first | ktr_units | ((simp only [units_under_make, units_deeper, units_in1, Around.mark_units, units_caller]); (try dsimp only [ktrTop]); omega))); intro h9 tk9 F9 N9; (try dsimp only); (try k_sweep)) | ((with_reducible show wpAny _ _ (getMethod (Value.ref _) _ _) _ _ _); k_dflt (refine' method_inst ?zqk1 ?zqk2 ?zqk3 ?zqk4 ?zqk5 ?zqk6 ?zqk7 ?_; (case zqk1 => k_asm); (case zqk2 => k_asm); (case zqk3 => k_inst); (case zqk4 => k_is); (case zqk5 => k_is); (case zqk6 => k_is); (case zqk7 => assumption); k_whole)) | ((with_reducible show wpAny _ _ (eval (Expr.ListComp _ _ _ _) _) _ _ _); k_dflt (refine comp_tup (by k_asm) (by with_unfolding_all rfl) (by decide) (by rfl) (by decide) (by rfl) ?_)) | ((with_reducible show TSrc _ _ _ _ _ _ _ _ _ _ _ _ _ _); k_dflt (refine TSrc.intro (by rfl) (by k_asm) (by k_asm) (by tb_start) (by exact Nat.le_of_ble_eq_true rfl) ?_; intro g9; lcg_lit)) | ((with_reducible show LCg.CompEnd _ _ _ _ _ _ _ _ _ _ _ _ _ _); k_dflt (refine' cend_new ?zqF ?zqN ?zql ?zqoff ?zqS ?_; (case zqF => k_asm); (case zqN => k_asm); (case zql => assumption); (case zqoff => assumption); (case zqS => tb_start))) | ((with_reducible show LCg.FinE _ _ _ _ _ _ _); (unfold LCg.FinE); intro D9 h9 tk9 F9 N9 o9; (try simp only [List.nil_append, List.cons_append] at N9); (try dsimp only)) | ((with_reducible show wpAny _ _ (newTuple _) _ _ _); k_dflt (refine' kup_newTuple ?zqF ?zqN ?_ ?zqz; (case zqF => k_asm); (case zqN => k_asm); (case zqz => exact Nat.le_of_ble_eq_true rfl)); intro D9 h9 F9 N9 l9; (try k_sweep)) | ((with_reducible show wpAny _ _ (subscriptTail _ _ (Value.ref _) (Value.int _ _)) _ _ _); k_dflt (refine' item_tup ?zqk1 ?zqk2 ?zqk3 ?zqk4 ?zqk5 ?_ ?zqk6; (case zqk1 => k_asm); (case zqk2 => tb_start); (case zqk3 => decide); (case zqk4 => decide); (case zqk5 => rfl); (case zqk6 => with_unfolding_all rfl); k_whole)) | ((with_reducible show wpAny _ _ (compareOp CmpOp.Eq (Value.str _ _) (Value.str _ _)) _ _ _); k_dflt (refine' eqB ?zqe ?_; (case zqe => with_reducible assumption)); (try dsimp only [Bool.not_true, Bool.not_false])) | ((with_reducible show wpAny _ _ (compareOp CmpOp.NotEq (Value.str _ _) (Value.str _ _)) _ _ _); k_dflt (refine' neB ?zqe ?_; (case zqe => with_reducible assumption)); (try dsimp only [Bool.not_true, Bool.not_false])) | walk1 | (dsimp only; walk1) | (leave1; walk_say "STEP leave1"; try dsimp only) | fail "no step")
      all_goals (have hz9 := addH3 (h₀ := h₀) (L := L) (hd := hs) (n := news) (by k_asm) (off1_mem (by assumption)) (ltTail (by assumption)) (ltTail (by assumption)) off; exact ret _ _ _ _ (RD.lst (by tb_start) (.cons (RD.tup (by tb_start) (.cons (RD.mono (by assumption) (by k_subL)) (.cons (RD.int _ _) .nil))) (.cons (RD.tup (by tb_start) (.cons (RD.mono (by assumption) (by k_subL)) (.cons (RD.int _ _) .nil))) .nil))) (by k_subL) hz9.2 (by k_asm) hz9.1)
end
section
set_option maxHeartbeats 8000000 in
theorem hold_ctr {w : World} {mean : ExcName → Option Value} {mg mb : Str → Option Value} {dp un : Nat} {gd : Option (List Code)} {cn : Str} {cs : Scope} {a : Addr} {ccd : Value} {cl : List (Str × Addr)} {outer : List Env} {A₀ : Around} {base h₀ : Heap} {L : Addr} {m : Str → Option Value} {s : Shared} {Q E : Value → Shared → Prop} {x : Addr} {kvs : List (Str × Value)} {news : List (Addr × Obj)} {t : Value} {b : Bool}
  (B : Below A₀ base outer h₀) (F : Fr h₀ L s.heap m) (X : (Mine.top.heap_1 w.params).In h₀) (T : Top Mine.top.view_1 LO mean mg mb h₀) (hk : cs.kind = .function) (N : News h₀ L s.heap news) (W : WIn w news x kvs) (K : LED news kvs t b) (hd : dp < 400) (hu : un < 4000)
  (ret : ∀ h' tk', Fr h₀ L h' m → News h₀ L h' news → Q (.bool b) { s with heap := h', toks := tk' }) :
  wpAny (model PySem.Challenge.rw_xm0169_01.row.prog w) (ktrTop dp un gd cn cs L a ccd cl outer) (call (.ref 68) [.ref x, t]) Q E s := by
    obtain ⟨dx, es, n, dn, o, w1, w2, w3, w4, w5, w6, w7⟩ := id W.ex
    revert X
    k_fill
    intro X
    cases K
    case top =>
      have hy : TyB news kvs (.ref 214) (.ref 214) (S "int") := .top rfl
      refine wpAny_call ?_
      k_dflt ktr_enter
      repeat' (first | (with_reducible refine gen_tok1 (fun tk9 => ?_); try dsimp only) | (k_unfold; (try dsimp only)) | (k_end; wrow_close) | ((with_reducible show wpAny _ _ (call (Value.ref 199) _) _ _ _); k_dflt (refine' base_ctr ?zqB ?zqF ?zqX ?zqT ?zqhk ?zqN ?zqW ?zqY ?zqhd ?zqhu ?_; (case zqB => k_asm); (case zqF => k_asm); (case zqX => k_asm); (case zqN => k_asm); (case zqT => k_asm); (case zqhk => first | exact rfl | assumption); (case zqW => first | assumption | exact WIn.mono (by assumption) (by k_subL)); (case zqY => first | assumption | exact TyB.mono (by assumption) (by k_subL)); (case zqhd => ktr_room); (case zqhu => first | ktr_units | ((simp only [units_under_make, units_deeper, units_in1, Around.mark_units, units_caller]); (try dsimp only [ktrTop]); omega))); intro h9 tk9 F9 N9; (try dsimp only); (try k_sweep)) | ((with_reducible show wpAny _ _ (getMethod (Value.ref _) _ _) _ _ _); k_dflt (refine' method_inst ?zqk1 ?zqk2 ?zqk3 ?zqk4 ?zqk5 ?zqk6 ?zqk7 ?_; (case zqk1 => k_asm); (case zqk2 => k_asm); (case zqk3 => k_inst); (case zqk4 => k_is); (case zqk5 => k_is); (case zqk6 => k_is); (case zqk7 => assumption); k_whole)) | ((with_reducible show wpAny _ _ (subscriptTail _ _ (Value.ref _) (Value.int _ _)) _ _ _); k_dflt (refine' item_tup ?zqk1 ?zqk2 ?zqk3 ?zqk4 ?zqk5 ?_ ?zqk6; (case zqk1 => k_asm); (case zqk2 => tb_start); (case zqk3 => decide); (case zqk4 => decide); (case zqk5 => rfl); (case zqk6 => with_unfolding_all rfl); k_whole)) | ((with_reducible show wpAny _ _ (compareOp CmpOp.Eq (Value.str _ _) (Value.str _ _)) _ _ _); k_dflt (refine' eqB ?zqe ?_; (case zqe => with_reducible assumption)); (try dsimp only [Bool.not_true, Bool.not_false])) | ((with_reducible show wpAny _ _ (compareOp CmpOp.NotEq (Value.str _ _) (Value.str _ _)) _ _ _); k_dflt (refine' neB ?zqe ?_; (case zqe => with_reducible assumption)); (try dsimp only [Bool.not_true, Bool.not_false])) | walk1 | (dsimp only; walk1) | (leave1; walk_say "STEP leave1"; try dsimp only) | fail "no step")
      all_goals exact ret _ _ (by k_asm) (by k_asm)
    case plain =>
      cases b
      all_goals refine wpAny_call ?_
      all_goals k_dflt ktr_enter
      all_goals repeat' (first | (with_reducible refine gen_tok1 (fun tk9 => ?_); try dsimp only) | (k_unfold; (try dsimp only)) | (k_end; wrow_close) | ((with_reducible show wpAny _ _ (call (Value.ref 199) _) _ _ _); k_dflt (refine' base_ctr ?zqB ?zqF ?zqX ?zqT ?zqhk ?zqN ?zqW ?zqY ?zqhd ?zqhu ?_; (case zqB => k_asm); (case zqF => k_asm); (case zqX => k_asm); (case zqN => k_asm); (case zqT => k_asm); (case zqhk => first | exact rfl | assumption); (case zqW => first | assumption | exact WIn.mono (by assumption) (by k_subL)); (case zqY => first | assumption | exact TyB.mono (by assumption) (by k_subL)); (case zqhd => ktr_room); (case zqhu => first | ktr_units | ((simp only [units_under_make, units_deeper, units_in1, Around.mark_units, units_caller]); (try dsimp only [ktrTop]); omega))); intro h9 tk9 F9 N9; (try dsimp only); (try k_sweep)) | ((with_reducible show wpAny _ _ (getMethod (Value.ref _) _ _) _ _ _); k_dflt (refine' method_inst ?zqk1 ?zqk2 ?zqk3 ?zqk4 ?zqk5 ?zqk6 ?zqk7 ?_; (case zqk1 => k_asm); (case zqk2 => k_asm); (case zqk3 => k_inst); (case zqk4 => k_is); (case zqk5 => k_is); (case zqk6 => k_is); (case zqk7 => assumption); k_whole)) | ((with_reducible show wpAny _ _ (subscriptTail _ _ (Value.ref _) (Value.int _ _)) _ _ _); k_dflt (refine' item_tup ?zqk1 ?zqk2 ?zqk3 ?zqk4 ?zqk5 ?_ ?zqk6; (case zqk1 => k_asm); (case zqk2 => tb_start); (case zqk3 => decide); (case zqk4 => decide); (case zqk5 => rfl); (case zqk6 => with_unfolding_all rfl); k_whole)) | ((with_reducible show wpAny _ _ (compareOp CmpOp.Eq (Value.str _ _) (Value.str _ _)) _ _ _); k_dflt (refine' eqB ?zqe ?_; (case zqe => with_reducible assumption)); (try dsimp only [Bool.not_true, Bool.not_false])) | ((with_reducible show wpAny _ _ (compareOp CmpOp.NotEq (Value.str _ _) (Value.str _ _)) _ _ _); k_dflt (refine' neB ?zqe ?_; (case zqe => with_reducible assumption)); (try dsimp only [Bool.not_true, Bool.not_false])) | walk1 | (dsimp only; walk1) | (leave1; walk_say "STEP leave1"; try dsimp only) | fail "no step")
      all_goals exact ret _ _ (by k_asm) (by k_asm)
    case led b1 b2 _ _ _ _ _ =>
      cases b1 <;> cases b2
      all_goals refine wpAny_call ?_
      all_goals k_dflt ktr_enter
      all_goals repeat' (first | (with_reducible refine gen_tok1 (fun tk9 => ?_); try dsimp only) | (k_unfold; (try dsimp only)) | (k_end; wrow_close) | ((with_reducible show wpAny _ _ (call (Value.ref 199) _) _ _ _); k_dflt (refine' base_ctr ?zqB ?zqF ?zqX ?zqT ?zqhk ?zqN ?zqW ?zqY ?zqhd ?zqhu ?_; (case zqB => k_asm); (case zqF => k_asm); (case zqX => k_asm); (case zqN => k_asm); (case zqT => k_asm); (case zqhk => first | exact rfl | assumption); (case zqW => first | assumption | exact WIn.mono (by assumption) (by k_subL)); (case zqY => first | assumption | exact TyB.mono (by assumption) (by k_subL)); (case zqhd => ktr_room); (case zqhu => first | ktr_units | ((simp only [units_under_make, units_deeper, units_in1, Around.mark_units, units_caller]); (try dsimp only [ktrTop]); omega))); intro h9 tk9 F9 N9; (try dsimp only); (try k_sweep)) | ((with_reducible show wpAny _ _ (getMethod (Value.ref _) _ _) _ _ _); k_dflt (refine' method_inst ?zqk1 ?zqk2 ?zqk3 ?zqk4 ?zqk5 ?zqk6 ?zqk7 ?_; (case zqk1 => k_asm); (case zqk2 => k_asm); (case zqk3 => k_inst); (case zqk4 => k_is); (case zqk5 => k_is); (case zqk6 => k_is); (case zqk7 => assumption); k_whole)) | ((with_reducible show wpAny _ _ (subscriptTail _ _ (Value.ref _) (Value.int _ _)) _ _ _); k_dflt (refine' item_tup ?zqk1 ?zqk2 ?zqk3 ?zqk4 ?zqk5 ?_ ?zqk6; (case zqk1 => k_asm); (case zqk2 => tb_start); (case zqk3 => decide); (case zqk4 => decide); (case zqk5 => rfl); (case zqk6 => with_unfolding_all rfl); k_whole)) | ((with_reducible show wpAny _ _ (compareOp CmpOp.Eq (Value.str _ _) (Value.str _ _)) _ _ _); k_dflt (refine' eqB ?zqe ?_; (case zqe => with_reducible assumption)); (try dsimp only [Bool.not_true, Bool.not_false])) | ((with_reducible show wpAny _ _ (compareOp CmpOp.NotEq (Value.str _ _) (Value.str _ _)) _ _ _); k_dflt (refine' neB ?zqe ?_; (case zqe => with_reducible assumption)); (try dsimp only [Bool.not_true, Bool.not_false])) | walk1 | (dsimp only; walk1) | (leave1; walk_say "STEP leave1"; try dsimp only) | fail "no step")
      all_goals exact ret _ _ (by k_asm) (by k_asm)
end
section
/-- a size's row: its dict -/
def RowD (o : Obj) (D : Value) (P Lv : Int) : Prop := ∃ h1 h2 h3 h4 h5 k1 k2 k3 k4 k5 t4 tp tl T, o = dictOf [⟨h1, .str (S "T") k1, T⟩, ⟨h2, .str (S "many") k2, .int 4 t4⟩, ⟨h3, .str (S "left") k3, D⟩, ⟨h4, .str (S "parts") k4, .int P tp⟩, ⟨h5, .str (S "levels") k5, .int Lv tl⟩] 5
set_option maxHeartbeats 8000000 in
theorem size_ctr {w : World} {mean : ExcName → Option Value} {mg mb : Str → Option Value} {dp un : Nat} {gd : Option (List Code)} {cn : Str} {cs : Scope} {a : Addr} {ccd : Value} {cl : List (Str × Addr)} {outer : List Env} {A₀ : Around} {base h₀ : Heap} {L : Addr} {m : Str → Option Value} {s : Shared} {Q E : Value → Shared → Prop} {x : Addr} {kvs : List (Str × Value)} {hs news : List (Addr × Obj)} {t u : Value} {k : Str} {ws : List (PyData × Int)} {t4 : Tok}
  (B : Below A₀ base outer h₀) (F : Fr h₀ L s.heap m) (X : (Mine.top.heap_1 w.params).In h₀) (T : Top Mine.top.view_1 LO mean mg mb h₀) (hk : cs.kind = .function) (N : News h₀ L s.heap (hs ++ news)) (off : OffL hs news) (W : WIn w (hs ++ news) x kvs) (Y : TyB (hs ++ news) kvs t u k) (K : WT w news u k ws) (hd : dp < 390) (hu : un < 3900)
  (ret : ∀ y d o D n' h' tk', RowD o (.ref D) 0 0 → RD w n' (.ref D) (wd ws) → Sub news n' → (y, instObj 97 d) ∈ n' → Off d n' → Off d hs → OffL hs n' → Fr h₀ L h' m → News h₀ L h' ((d, o) :: (hs ++ n')) → Q (.ref y) { s with heap := h', toks := tk' }) :
  wpAny (model PySem.Challenge.rw_xm0169_01.row.prog w) (ktrTop dp un gd cn cs L a ccd cl outer) (call (.ref 97) [.ref x, t, .int 4 t4] []) Q E s := by
    revert X
    k_fill
    intro X
    refine' call_cls ?k1 ?k2 ?k3 ?k4 ?k5 ?k6 ?_
    (case k1 => k_asm)
    (case k2 => k_asm)
    (case k3 => k_asm)
    (case k4 => k_is)
    (case k5 => k_is)
    (case k6 => k_is)
    intro x' d' h' F' N' l1 l2
    obtain ⟨n1, N1, oh, on, oa, ol, sb, xm⟩ := two_in N' l1 l2 off
    clear N' l1 l2 N off
    k_dflt ktr_enter
    repeat' (first | (with_reducible refine gen_tok1 (fun tk9 => ?_); try dsimp only) | (k_unfold; (try dsimp only)) | (k_end; wrow_close) | ((with_reducible show wpAny _ _ (call (Value.ref 73) _) _ _ _); k_dflt (refine' tw_ctr (hs := (_, _) :: hs) (news := n1) ?zqB ?zqF ?zqX ?zqT ?zqhk ?zqN ?zqoff ?zqW ?zqY ?zqK ?zqhd ?zqhu ?_; (case zqB => k_asm); (case zqF => k_asm); (case zqX => k_asm); (case zqN => k_asm); (case zqT => k_asm); (case zqhk => first | exact rfl | assumption); (case zqoff => exact OffL.cons (by assumption) (by assumption)); (case zqW => exact WIn.mono (by assumption) (subApp (by k_subL))); (case zqY => exact TyB.mono (by assumption) (subApp (by k_subL))); (case zqK => exact WT.mono (by assumption) (by k_subL)); (case zqhd => ktr_room); (case zqhu => first | ktr_units | ((simp only [units_under_make, units_deeper, units_in1, Around.mark_units, units_caller]); (try dsimp only [ktrTop]); omega))); intro D9 n9 h9 tk9 hR9 sb9 off9 F9 N9; replace N9 := consApp N9; have oa9 := Off.app oh off9.off; have on9 := off9.off; have ol9 := off9.tail; (try dsimp only); (try k_sweep)) | walk1 | (dsimp only; walk1) | (leave1; walk_say "STEP leave1"; try dsimp only) | fail "no step")
    all_goals exact ret x' d' _ _ _ _ _ ⟨_, _, _, _, _, _, _, _, _, _, _, _, _, _, rfl⟩ (by assumption) (by k_subL) (by tb_start) (by assumption) oh (by assumption) (by k_asm) (by k_asm)
end
section
abbrev dNam (x : String) : PyData := .tuple [.str (S "named"), .str (S x)]
abbrev dSl : PyData := .tuple [.str (S "slice"), dNam "m.S"]
section
variable {w : World} {n : List (Addr × Obj)} {kvs : List (Str × Value)} {t s f r r2 l v : Addr} {k1 k2 k3 k4 k5 k6 k7 k8 : Tok} {x y : Value} {c : Int}
theorem rd_nam {z : String} (h : (t, tupA #[.str (S "named") k1, .str (S z) k2]) ∈ n) : RD w n (.ref t) (dNam z) := RD.tup (vs := [_, _]) h (.cons (RD.str _ _) (.cons (RD.str _ _) .nil))
theorem rd_sl (h : (t, tupA #[.str (S "slice") k1, .ref s]) ∈ n) (hs : (s, tupA #[.str (S "named") k2, .str (S "m.S") k3]) ∈ n) : RD w n (.ref t) dSl := RD.tup (vs := [_, _]) h (.cons (RD.str _ _) (.cons (rd_nam hs) .nil))
theorem wok1 {d : PyData} {c : Int} (h1 : PySem.SeqAt.shaped (wd [(d, 0)]) = true) (h2 : PyData.eqv d d = true) : Wok [(d, c)] := by
  constructor
  · simp only [PySem.SeqAt.shaped, List.map, PyData.canLay0, PyData.canLayAll0, PyData.depth, PyData.depthAll] at h1 ⊢
    exact h1
  · simp [PyData.eqv, PyData.eqvAll, h2]
theorem wokS {c : Int} : Wok [(dNam "m.S", c)] := wok1 (by decide +kernel) (by decide +kernel)
theorem wokI {c : Int} : Wok [(dInt, c)] := wok1 (by decide +kernel) (by decide +kernel)
theorem wok2 : Wok [(dNam "m.A", 1), (dSl, 1)] := by constructor <;> decide +kernel
theorem ty_int : TyIn w n kvs (.ref 214) [] true := ⟨⟨_, _, .top rfl, .top⟩, .top, wok0⟩
theorem ty_S (W : WN n kvs) (h : (t, tupA #[.str (S "named") k1, .str (S "m.S") k2]) ∈ n) : TyIn w n kvs (.ref t) [(dInt, 1)] true := by
  obtain ⟨u, f, r, t1, t2, t3, nm, a, b, c⟩ := W.sS
  have y := nm.ty h (r := [.ref f]) a (by rfl)
  exact ⟨⟨_, _, y, .st1 a b c RD.law_int⟩, .plain (r := [_]) (r' := [_]) h (by rfl) y a (by rfl), wokI⟩
theorem ty_A (W : WN n kvs) (h : (t, tupA #[.str (S "named") k1, .str (S "m.A") k2]) ∈ n) : TyIn w n kvs (.ref t) [(dInt, 3)] true := by
  obtain ⟨u, t1, t2, nm, a⟩ := W.sA
  have y := nm.ty h (r := [.int 3 t2, .ref 214]) a (by rfl)
  exact ⟨⟨_, _, y, .arr a (by decide) (by decide) RD.law_int⟩, .plain (r := [_]) (r' := [_, _]) h (by rfl) y a (by rfl), wokI⟩
theorem ty_I (W : WN n kvs) (h : (t, tupA #[.str (S "named") k1, .str (S "m.I") k2]) ∈ n) : TyIn w n kvs (.ref t) [] true := by
  obtain ⟨u, t1, v, nm, a⟩ := W.sI
  have y := nm.ty h (r := [v]) a (by rfl)
  exact ⟨⟨_, _, y, .none (r := [v]) a (by rfl) (by rfl)⟩, .plain (r := [_]) (r' := [_]) h (by rfl) y a (by rfl), wok0⟩
theorem ty_P (W : WN n kvs) (h : (t, tupA #[.str (S "named") k1, .str (S "m.P") k2]) ∈ n) : TyIn w n kvs (.ref t) [] false := by
  obtain ⟨u, t1, nm, a⟩ := W.sP
  have y := nm.ty h (r := [.ref 214]) a (by rfl)
  exact ⟨⟨_, _, y, .none (r := [.ref 214]) a (by rfl) (by rfl)⟩, .plain (r := [_]) (r' := [_]) h (by rfl) y a (by rfl), wok0⟩
theorem ty_ptr (h : (t, tupA #[.str (S "ptr") k1, x]) ∈ n) {b1 b2 : Bool} {u : Addr} {k : Str} {tk : Tok} {r : List Value} (y : TyB n kvs x (.ref u) k) (a : (u, tupA (List.toArray (.str k tk :: r))) ∈ n) (e1 : (k == S "ptr") = !b1) (e2 : (k == S "interface") = !b2) : TyIn w n kvs (.ref t) [] (b1 && b2) :=
  ⟨⟨_, _, .lit (r := [x]) h (by rfl), .none (r := [x]) h (by rfl) (by rfl)⟩, .led h y a e1 e2, wok0⟩
theorem ty_ptrS (W : WN n kvs) (h : (t, tupA #[.str (S "ptr") k3, .ref s]) ∈ n) (hs : (s, tupA #[.str (S "named") k1, .str (S "m.S") k2]) ∈ n) : TyIn w n kvs (.ref t) [] true := by
  obtain ⟨u, f, r, t1, t2, t3, nm, a, b, c⟩ := W.sS
  exact ty_ptr (b1 := true) (b2 := true) (r := [.ref f]) h (nm.ty hs (r := [.ref f]) a (by rfl)) a (by rfl) (by rfl)
theorem ty_ptrI (W : WN n kvs) (h : (t, tupA #[.str (S "ptr") k3, .ref s]) ∈ n) (hs : (s, tupA #[.str (S "named") k1, .str (S "m.I") k2]) ∈ n) : TyIn w n kvs (.ref t) [] false := by
  obtain ⟨u, t1, v, nm, a⟩ := W.sI
  exact ty_ptr (b1 := true) (b2 := false) (r := [v]) h (nm.ty hs (r := [v]) a (by rfl)) a (by rfl) (by rfl)
theorem ty_ptrP (W : WN n kvs) (h : (t, tupA #[.str (S "ptr") k3, .ref s]) ∈ n) (hs : (s, tupA #[.str (S "named") k1, .str (S "m.P") k2]) ∈ n) : TyIn w n kvs (.ref t) [] false := by
  obtain ⟨u, t1, nm, a⟩ := W.sP
  exact ty_ptr (b1 := false) (b2 := true) (r := [.ref 214]) h (nm.ty hs (r := [.ref 214]) a (by rfl)) a (by rfl) (by rfl)
theorem ty_arr (h : (t, tupA #[.str (S "array") k3, .int c k4, .ref s]) ∈ n) (hs : (s, tupA #[.str (S "named") k1, .str (S "m.S") k2]) ∈ n) (c0 : 0 ≤ c) (c1 : c < 10) : TyIn w n kvs (.ref t) [(dNam "m.S", max 1 c)] true :=
  have y : TyB n kvs (.ref t) (.ref t) (S "array") := .lit (r := [.int c k4, .ref s]) h (by rfl)
  ⟨⟨_, _, y, .arr h c0 c1 (rd_nam hs)⟩, .plain (r := [_, _]) (r' := [_, _]) h (by rfl) y h (by rfl), wokS⟩
theorem ty_st (h : (t, tupA #[.str (S "struct") k3, .ref f]) ∈ n) (hf : (f, tupA #[.ref r, .ref r2]) ∈ n) (hr : (r, tupA #[.str (S "a") k4, .ref v, x]) ∈ n) (hv : (v, tupA #[.str (S "named") k1, .str (S "m.A") k2]) ∈ n)
    (hr2 : (r2, tupA #[.str (S "b") k5, .ref l, y]) ∈ n) (hl : (l, tupA #[.str (S "slice") k6, .ref s]) ∈ n) (hs : (s, tupA #[.str (S "named") k7, .str (S "m.S") k8]) ∈ n) : TyIn w n kvs (.ref t) [(dNam "m.A", 1), (dSl, 1)] true :=
  have y : TyB n kvs (.ref t) (.ref t) (S "struct") := .lit (r := [.ref f]) h (by rfl)
  ⟨⟨_, _, y, .st2 h hf hr (rd_nam hv) hr2 (rd_sl hl hs)⟩, .plain (r := [_]) (r' := [_]) h (by rfl) y h (by rfl), wok2⟩
end
end
section
set_option maxHeartbeats 8000000 in
theorem type_ctr {w : World} {mean : ExcName → Option Value} {mg mb : Str → Option Value} {dp un : Nat} {gd : Option (List Code)} {cn : Str} {cs : Scope} {a : Addr} {ccd : Value} {cl : List (Str × Addr)} {outer : List Env} {A₀ : Around} {base h₀ : Heap} {L : Addr} {m : Str → Option Value} {s : Shared} {Q E : Value → Shared → Prop} {src : Addr} {o : Obj} {rest : List (Addr × Obj)} {kvs : List (Str × Value)}
  (B : Below A₀ base outer h₀) (F : Fr h₀ L s.heap m) (X : (Mine.top.heap_1 w.params).In h₀) (T : Top Mine.top.view_1 LO mean mg mb h₀) (hk : cs.kind = .function) (N : News h₀ L s.heap ((src, o) :: rest)) (off : Off src rest) (ho : SrcOk o) (WW : WN rest kvs) (hd : dp < 390) (hu : un < 3900)
  (ret : ∀ D t l b ws o' n' h' tk', (D, tupA #[t, l, .bool b]) ∈ n' → TyIn w n' kvs t ws b → RD w n' l (wd ws) → Off src n' → Sub rest n' → SrcOk o' → Fr h₀ L h' m → News h₀ L h' ((src, o') :: n') → Q (.ref D) { s with heap := h', toks := tk' }) :
  wpAny (model PySem.Challenge.rw_xm0169_01.row.prog w) (ktrTop dp un gd cn cs L a ccd cl outer) (call (.ref 263) [.ref src]) Q E s := by
    revert X
    k_fill
    intro X
    refine wpAny_call ?_
    k_dflt ktr_enter
    repeat' (first | (with_reducible refine gen_tok1 (fun tk9 => ?_); try dsimp only) | (k_unfold; (try dsimp only)) | (k_end; wrow_close) | ((with_reducible show wpAny _ _ (call (Value.ref 228) [Value.ref _, Value.int _ _]) _ _ _); k_dflt (refine' take_u ?zqB ?zqF ?zqX ?zqT ?zqhk ?zqN ?zqoff ?zqho ?zqht ?zqht2 ?zqhd ?zqhu ?_; (case zqB => k_asm); (case zqF => k_asm); (case zqX => k_asm); (case zqN => k_asm); (case zqT => k_asm); (case zqhk => first | exact rfl | assumption); (case zqoff => assumption); (case zqho => assumption); (case zqht => first | decide | omega); (case zqht2 => first | decide | omega); (case zqhd => ktr_room); (case zqhu => first | ktr_units | ((simp only [units_under_make, units_deeper, units_in1, Around.mark_units, units_caller]); (try dsimp only [ktrTop]); omega))); intro r9 t9 o9 h9 tk9 hr0 hr1 ho9 F9 N9; (try dsimp only); (try k_sweep)) | ((with_reducible show wpAny _ _ (newTuple _) _ _ _); k_dflt (refine' newTup ?zqF ?zqN ?zqoff ?zqz ?_; (case zqF => k_asm); (case zqN => k_asm); (case zqoff => assumption); (case zqz => exact Nat.le_of_ble_eq_true rfl)); intro D9 h9 n9 F9 N9 off9 sb9 hm9; (try k_sweep)) | ((with_reducible show wpAny _ _ (newList _) _ _ _); k_dflt (refine' newLst ?zqF ?zqN ?zqoff ?zqz ?_; (case zqF => k_asm); (case zqN => k_asm); (case zqoff => assumption); (case zqz => exact Nat.le_of_ble_eq_true rfl)); intro D9 h9 n9 F9 N9 off9 sb9 hm9; (try k_sweep)) | ((with_reducible show wpAny _ _ (subscriptTail _ _ (Value.ref _) (Value.int _ _)) _ _ _); k_dflt (refine' item_tup ?zqk1 ?zqk2 ?zqk3 ?zqk4 ?zqk5 ?_ ?zqk6; (case zqk1 => k_asm); (case zqk2 => tb_start); (case zqk3 => decide); (case zqk4 => decide); (case zqk5 => rfl); (case zqk6 => with_unfolding_all rfl); k_whole)) | ((with_reducible show wpAny _ _ (subscriptTail _ _ (Value.ref _) (Value.int _ _)) _ _ _); k_dflt (refine' pick10 ?zqk1 ?zqk2 ?zqk3 ?zqk4 (fun e => ?_) (fun e => ?_) (fun e => ?_) (fun e => ?_) (fun e => ?_) (fun e => ?_) (fun e => ?_) (fun e => ?_) (fun e => ?_) (fun e => ?_) ?zqk6; (case zqk1 => k_asm); (case zqk2 => tb_start); (case zqk3 => k_asm); (case zqk4 => k_asm); (case zqk6 => with_unfolding_all rfl)); (all_goals (subst e; try k_fold))) | walk1 | (dsimp only; walk1) | (leave1; walk_say "STEP leave1"; try dsimp only) | fail "no step")
    all_goals first
      | (refine' ret _ _ _ _ ([]) _ _ _ _ ?zqD ?zqK ?zqR ?zqoff ?zqsb ?zqho ?zqF ?zqN; (case zqF => k_asm); (case zqN => k_asm); (case zqD => tb_start); (case zqK => exact ty_int); (case zqR => exact RD.lst (by tb_start) RDs.nil); (case zqoff => assumption); (case zqho => assumption); (case zqsb => k_subL))
      | (refine' ret _ _ _ _ ([(dInt, 1)]) _ _ _ _ ?zqD ?zqK ?zqR ?zqoff ?zqsb ?zqho ?zqF ?zqN; (case zqF => k_asm); (case zqN => k_asm); (case zqD => tb_start); (case zqK => exact ty_S (WW.mono (by k_subL)) (by tb_start)); (case zqR => exact RD.lst (by tb_start) (.cons (RD.tup (by tb_start) (.cons (RD.law_int) (.cons (RD.int _ _) .nil))) .nil)); (case zqoff => assumption); (case zqho => assumption); (case zqsb => k_subL))
      | (refine' ret _ _ _ _ ([(dInt, 3)]) _ _ _ _ ?zqD ?zqK ?zqR ?zqoff ?zqsb ?zqho ?zqF ?zqN; (case zqF => k_asm); (case zqN => k_asm); (case zqD => tb_start); (case zqK => exact ty_A (WW.mono (by k_subL)) (by tb_start)); (case zqR => exact RD.lst (by tb_start) (.cons (RD.tup (by tb_start) (.cons (RD.law_int) (.cons (RD.int _ _) .nil))) .nil)); (case zqoff => assumption); (case zqho => assumption); (case zqsb => k_subL))
      | (refine' ret _ _ _ _ ([]) _ _ _ _ ?zqD ?zqK ?zqR ?zqoff ?zqsb ?zqho ?zqF ?zqN; (case zqF => k_asm); (case zqN => k_asm); (case zqD => tb_start); (case zqK => exact ty_I (WW.mono (by k_subL)) (by tb_start)); (case zqR => exact RD.lst (by tb_start) RDs.nil); (case zqoff => assumption); (case zqho => assumption); (case zqsb => k_subL))
      | (refine' ret _ _ _ _ ([]) _ _ _ _ ?zqD ?zqK ?zqR ?zqoff ?zqsb ?zqho ?zqF ?zqN; (case zqF => k_asm); (case zqN => k_asm); (case zqD => tb_start); (case zqK => exact ty_P (WW.mono (by k_subL)) (by tb_start)); (case zqR => exact RD.lst (by tb_start) RDs.nil); (case zqoff => assumption); (case zqho => assumption); (case zqsb => k_subL))
      | (refine' ret _ _ _ _ ([]) _ _ _ _ ?zqD ?zqK ?zqR ?zqoff ?zqsb ?zqho ?zqF ?zqN; (case zqF => k_asm); (case zqN => k_asm); (case zqD => tb_start); (case zqK => exact ty_ptrS (WW.mono (by k_subL)) (by tb_start) (by tb_start)); (case zqR => exact RD.lst (by tb_start) RDs.nil); (case zqoff => assumption); (case zqho => assumption); (case zqsb => k_subL))
      | (refine' ret _ _ _ _ ([]) _ _ _ _ ?zqD ?zqK ?zqR ?zqoff ?zqsb ?zqho ?zqF ?zqN; (case zqF => k_asm); (case zqN => k_asm); (case zqD => tb_start); (case zqK => exact ty_ptrI (WW.mono (by k_subL)) (by tb_start) (by tb_start)); (case zqR => exact RD.lst (by tb_start) RDs.nil); (case zqoff => assumption); (case zqho => assumption); (case zqsb => k_subL))
      | (refine' ret _ _ _ _ ([]) _ _ _ _ ?zqD ?zqK ?zqR ?zqoff ?zqsb ?zqho ?zqF ?zqN; (case zqF => k_asm); (case zqN => k_asm); (case zqD => tb_start); (case zqK => exact ty_ptrP (WW.mono (by k_subL)) (by tb_start) (by tb_start)); (case zqR => exact RD.lst (by tb_start) RDs.nil); (case zqoff => assumption); (case zqho => assumption); (case zqsb => k_subL))
      | (refine' ret _ _ _ _ ([(dNam "m.S", max 1 _)]) _ _ _ _ ?zqD ?zqK ?zqR ?zqoff ?zqsb ?zqho ?zqF ?zqN; (case zqF => k_asm); (case zqN => k_asm); (case zqD => tb_start); (case zqK => exact ty_arr (by tb_start) (by tb_start) (by assumption) (by omega)); (case zqR => exact RD.lst (by tb_start) (.cons (RD.tup (by tb_start) (.cons (rd_nam (by tb_start)) (.cons (RD.int' max_is) .nil))) .nil)); (case zqoff => assumption); (case zqho => assumption); (case zqsb => k_subL))
      | (refine' ret _ _ _ _ ([(dNam "m.A", 1), (dSl, 1)]) _ _ _ _ ?zqD ?zqK ?zqR ?zqoff ?zqsb ?zqho ?zqF ?zqN; (case zqF => k_asm); (case zqN => k_asm); (case zqD => tb_start); (case zqK => exact ty_st (by tb_start) (by tb_start) (by tb_start) (by tb_start) (by tb_start) (by tb_start) (by tb_start)); (case zqR => exact RD.lst (by tb_start) (.cons (RD.tup (by tb_start) (.cons (rd_nam (by tb_start)) (.cons (RD.int _ _) .nil))) (.cons (RD.tup (by tb_start) (.cons (rd_sl (by tb_start) (by tb_start)) (.cons (RD.int _ _) .nil))) .nil))); (case zqoff => assumption); (case zqho => assumption); (case zqsb => k_subL))
end
section
set_option maxHeartbeats 8000000 in
theorem takein_ctr {w : World} {mean : ExcName → Option Value} {mg mb : Str → Option Value} {dp un : Nat} {gd : Option (List Code)} {cn : Str} {cs : Scope} {a : Addr} {ccd : Value} {cl : List (Str × Addr)} {outer : List Env} {A₀ : Around} {base h₀ : Heap} {L : Addr} {m : Str → Option Value} {s : Shared} {Q E : Value → Shared → Prop} {n : List (Addr × Obj)} {y d p : Addr} {o : Obj} {D : Value} {P Lv x1 x2 x3 : Int} {ta tb tm : Tok}
  (B : Below A₀ base outer h₀) (F : Fr h₀ L s.heap m) (X : (Mine.top.heap_1 w.params).In h₀) (T : Top Mine.top.view_1 LO mean mg mb h₀) (hk : cs.kind = .function) (N : News h₀ L s.heap ((d, o) :: n)) (off : Off d n) (hy : (y, instObj 97 d) ∈ n) (hr : RowD o D P Lv) (hp : (p, tupA #[.int x1 ta, .int x2 tb]) ∈ n)
  (a0 : 0 ≤ x1) (a1 : x1 < 100) (c0 : 0 ≤ x3) (c1 : x3 < 100) (hd : dp < 390) (_hu : un < 3900)
  (ret : ∀ o' h' tk', RowD o' D (P + x3 * x1) (if x2 > Lv then x2 else Lv) → Fr h₀ L h' m → News h₀ L h' ((d, o') :: n) → Q .none { s with heap := h', toks := tk' }) :
  wpAny (model PySem.Challenge.rw_xm0169_01.row.prog w) (ktrTop dp un gd cn cs L a ccd cl outer) (call (.ref 94) [.ref y, .ref p, .int x3 tm]) Q E s := by
    obtain ⟨h1, h2, h3, h4, h5, k1, k2, k3, k4, k5, t4, tp, tl, T1, rfl⟩ := hr
    revert X
    k_fill
    intro X
    refine wpAny_call ?_
    k_dflt ktr_enter
    repeat' (first | (with_reducible refine gen_tok1 (fun tk9 => ?_); try dsimp only) | (k_unfold; (try dsimp only)) | (k_end; wrow_close) | ((with_reducible show wpAny _ _ (subscriptTail _ _ (Value.ref _) (Value.int _ _)) _ _ _); k_dflt (refine' item_tup ?zqk1 ?zqk2 ?zqk3 ?zqk4 ?zqk5 ?_ ?zqk6; (case zqk1 => k_asm); (case zqk2 => tb_start); (case zqk3 => decide); (case zqk4 => decide); (case zqk5 => rfl); (case zqk6 => with_unfolding_all rfl); k_whole)) | walk1 | (dsimp only; walk1) | (leave1; walk_say "STEP leave1"; try dsimp only) | fail "no step")
    all_goals exact ret _ _ _ ⟨_, _, _, _, _, _, _, _, _, _, _, _, _, _, rfl⟩ (by k_asm) (by k_asm)
end
section
section
variable {h₀ : Heap} {L : Addr} {n : List (Addr × Obj)}
theorem app1 {h : Heap} {p : Addr × Obj} (N : News h₀ L h ([p] ++ n)) : News h₀ L h (p :: n) := N
theorem appC1 {h : Heap} {p q : Addr × Obj} (N : News h₀ L h (p :: ([q] ++ n))) : News h₀ L h (q :: p :: n) := swapN N
theorem subC1 {p : Addr × Obj} {a : List (Addr × Obj)} (s : Sub a n) : Sub a ([p] ++ n) := fun q hq => .tail _ (s q hq)
theorem neOf {d e : Addr} {x : Obj} (h : Off d [(e, x)]) : e ≠ d := h _ (List.mem_singleton.mpr rfl)
theorem offCons {d e : Addr} {x : Obj} (a : e ≠ d) (b : Off d n) : Off d ((e, x) :: n) := fun p hp => by
  rcases List.mem_cons.mp hp with rfl | hp
  · exact a
  · exact b p hp
theorem newTup2 {M : Model} {A : Around} {E : Value → Shared → Prop} {s : Shared} {m : Str → Option Value} {vs : List Value} {src d : Addr} {o r : Obj} {Q : Value → Shared → Prop} (F : Fr h₀ L s.heap m) (N : News h₀ L s.heap ((src, o) :: (d, r) :: n)) (os : Off src n) (od : Off d n)
    (z : vs.length ≤ sizeLine) (h : ∀ D h' n', Fr h₀ L h' m → News h₀ L h' ((src, o) :: (d, r) :: n') → Off src n' → Off d n' → Sub n n' → (D, tupA vs.toArray) ∈ n' → Q (.ref D) { s with heap := h' }) : wpAny M A (newTuple vs) Q E s :=
  newTupH (hd := [(src, o), (d, r)]) F N (fun p hp => by
    rcases List.mem_cons.mp hp with rfl | hp
    · exact os
    · cases List.mem_singleton.mp hp; exact od) z (fun D h' n' F' N' off sb hm => h D h' n' F' N' (off _ (.head _)) (off _ (.tail _ (.head _))) sb hm)
end
theorem ne_boolS {prog : Program} {w : World} {A : Around} {E : Value → Shared → Prop} {s : Shared} {b : Bool} {Q : Value → Shared → Prop} (h : Q (.bool false) s) : wpAny (model prog w) A (compareOp .NotEq (.bool b) (.bool b)) Q E s := by
  cases b
  · exact PyProof.Rows.ne_bool (by simpa using h)
  · exact PyProof.Rows.ne_bool (by simpa using h)
def CJ (src d y : Addr) (D : Value) (m₀ : Str → Option Value) (m : Str → Option Value) (nx : List (Addr × Obj)) : Prop :=
  ∃ o ro n P Lv tP tL, nx = (src, o) :: (d, ro) :: n ∧ SrcOk o ∧ RowD ro D P Lv ∧ Off src n ∧ Off d n ∧ (y, instObj 97 d) ∈ n ∧ m (S "parts") = some (.int P tP) ∧ m (S "levels") = some (.int Lv tL) ∧
    ∀ z, z ≠ S "turn" → z ≠ S "parts" → z ≠ S "levels" → z ≠ S "pair" → z ≠ S "many" → m z = m₀ z
theorem cmap {m m₀ : Str → Option Value} {v rv : Value} (x : Str) (hx : x = S "turn") (h1 : m (S "parts") = some v) (h2 : m (S "levels") = some rv)
    (h : ∀ z, z ≠ S "turn" → z ≠ S "parts" → z ≠ S "levels" → z ≠ S "pair" → z ≠ S "many" → m z = m₀ z) (t : Option Value) :
    (fun z => if z = x then t else m z) = fun z => if z = S "turn" then t else if z = S "parts" then some v else if z = S "levels" then some rv else if z = S "pair" then m z else if z = S "many" then m z else m₀ z := by
  subst hx
  funext z
  by_cases a1 : z = S "turn"
  · simp [a1]
  by_cases a2 : z = S "parts"
  · subst a2; simp only [if_neg a1, h1, if_true]
  by_cases a3 : z = S "levels"
  · subst a3; simp only [if_neg a1, if_neg a2, h2, if_true]
  by_cases a5 : z = S "pair"
  · simp only [if_neg a1, if_neg a2, if_neg a3, if_pos a5]
  by_cases a6 : z = S "many"
  · simp only [if_neg a1, if_neg a2, if_neg a3, if_neg a5, if_pos a6]
  simp only [if_neg a1, if_neg a2, if_neg a3, if_neg a5, if_neg a6]
  exact h z a1 a2 a3 a5 a6
theorem cmap' {m m₀ : Str → Option Value} {v rv : Value} (h1 : m (S "parts") = some v) (h2 : m (S "levels") = some rv)
    (h : ∀ z, z ≠ S "turn" → z ≠ S "parts" → z ≠ S "levels" → z ≠ S "pair" → z ≠ S "many" → m z = m₀ z) :
    m = fun z => if z = S "turn" then m z else if z = S "parts" then some v else if z = S "levels" then some rv else if z = S "pair" then m z else if z = S "many" then m z else m₀ z := by
  have := cmap (S "turn") rfl h1 h2 h (m (S "turn"))
  funext z
  by_cases a1 : z = S "turn"
  · simp [a1]
  · have q := congrFun this z
    simp only [if_neg a1] at q ⊢
    exact q
theorem offApp {d : Addr} {r : Obj} {own n nx : List (Addr × Obj)} (off : TbOff own nx) (hm : (d, r) ∈ nx) (b : Off d n) : Off d (n ++ own) := fun p hp => (List.mem_append.mp hp).elim (b p) fun h => off p h _ hm
theorem cnt_loop {prog : Program} {w : World} {A : Around} {E : Value → Shared → Prop} {s : Shared} {env : Env} {h₀ : Heap} {body : List Stmt} {Q : Flow → Shared → Prop}
    {rr : Addr} {b₀ : Int} {t₀ u₀ v₀ : Tok} {N₀ : Nat} {m₀ : Str → Option Value} {n : List (Addr × Obj)} {src d y : Addr} {o ro : Obj} {D : Value} {P Lv : Int} {tP tL : Tok}
    (hh : A.handled = none) (hr : IsRange s.heap rr 0 b₀ 1 t₀ u₀ v₀) (hsmall : Builtin.Range.small 0 b₀ 1 = true) (hn : Builtin.Range.rangeSize 0 b₀ 1 = (N₀ : Int)) (F : Fr h₀ env.locals s.heap m₀) (N : News h₀ env.locals s.heap ((src, o) :: (d, ro) :: n))
    (ho : SrcOk o) (hrow : RowD ro D P Lv) (os : Off src n) (od : Off d n) (hy : (y, instObj 97 d) ∈ n) (m1 : m₀ (S "parts") = some (.int P tP)) (m2 : m₀ (S "levels") = some (.int Lv tL))
    (turn : ∀ (k : Int) t h tk own o ro n P Lv tP tL (u : Str → Option Value), TbOff own ((src, o) :: (d, ro) :: n) → Off src (n ++ own) → Off d (n ++ own) → Off src n → Off d n → (y, instObj 97 d) ∈ n → SrcOk o → RowD ro D P Lv →
      Fr h₀ env.locals h (fun z => if z = S "turn" then some (.int k t) else if z = S "parts" then some (.int P tP) else if z = S "levels" then some (.int Lv tL) else if z = S "pair" then u z else if z = S "many" then u z else m₀ z) →
      News h₀ env.locals h ((src, o) :: (d, ro) :: (n ++ own)) →
      wpAny (model prog w) A (execs body env) (TbPost h₀ env.locals (CJ src d y D m₀) own { s with heap := h, toks := tk } Q) E { s with heap := h, toks := tk })
    (done : ∀ h tk o ro n P Lv tP tL (u : Str → Option Value), Off src n → Off d n → (y, instObj 97 d) ∈ n → SrcOk o → RowD ro D P Lv →
      Fr h₀ env.locals h (fun z => if z = S "turn" then u z else if z = S "parts" then some (.int P tP) else if z = S "levels" then some (.int Lv tL) else if z = S "pair" then u z else if z = S "many" then u z else m₀ z) →
      News h₀ env.locals h ((src, o) :: (d, ro) :: n) → Q .next { s with heap := h, toks := tk }) :
    wpAny (model prog w) A (pyIter (.ref rr)) (fun it s₂ => LoopAtV prog w A h₀ env (S "turn") body Q E it s₂) E s := by
  refine tbr_invG (m₀ := m₀) (news := (src, o) :: (d, ro) :: n) (fun _ m nx => CJ src d y D m₀ m nx) hh hr hsmall hn F N ?_ ?_ ?_
  · exact ⟨o, ro, n, P, Lv, tP, tL, rfl, ho, hrow, os, od, hy, m1, m2, fun _ _ _ _ _ _ => rfl⟩
  · rintro i k t m nx h tk own _ off ⟨o, ro, n, P, Lv, tP, tL, rfl, ho, hrow, os, od, hy, m1, m2, hm⟩ F' N'
    rw [cmap (S "turn") rfl m1 m2 hm _] at F'
    exact turn k t h tk own o ro n P Lv tP tL m off (offApp off (.head _) os) (offApp off (.tail _ (.head _)) od) os od hy ho hrow F' N'
  · rintro m nx h tk ⟨o, ro, n, P, Lv, tP, tL, rfl, ho, hrow, os, od, hy, m1, m2, hm⟩ F' N'
    rw [cmap' m1 m2 hm] at F'
    exact done h tk o ro n P Lv tP tL m os od hy ho hrow F' N'
theorem cj_end {h₀ h' : Heap} {L : Addr} {m₀ m' : Str → Option Value} {n n9 own : List (Addr × Obj)} {src d y : Addr} {o ro o0 r0 : Obj} {D : Value} {P Lv : Int} {tP tL : Tok} {s₁ : Shared} {tk : Nat}
    (F : Fr h₀ L h' m') (N : News h₀ L h' ((src, o) :: (d, ro) :: n9)) (sb : Sub (n ++ own) n9) (off : TbOff own ((src, o0) :: (d, r0) :: n)) (ho : SrcOk o) (hr : RowD ro D P Lv) (os : Off src n) (od : Off d n) (hy : (y, instObj 97 d) ∈ n)
    (m1 : m' (S "parts") = some (.int P tP)) (m2 : m' (S "levels") = some (.int Lv tL)) (hm : ∀ z, z ≠ S "turn" → z ≠ S "parts" → z ≠ S "levels" → z ≠ S "pair" → z ≠ S "many" → m' z = m₀ z) :
    TbEnd h₀ L (CJ src d y D m₀) own s₁ { s₁ with heap := h', toks := tk } := by
  refine ⟨h', tk, m', _, (src, o) :: (d, ro) :: n, rfl, F, N, ?_, ?_, ?_, o, ro, n, P, Lv, tP, tL, rfl, ho, hr, os, od, hy, m1, m2, hm⟩
  · intro p hp
    rcases List.mem_cons.mp hp with rfl | hp
    · exact .head _
    · rcases List.mem_cons.mp hp with rfl | hp
      · exact .tail _ (.head _)
      · exact .tail _ (.tail _ (sb _ (List.mem_append_left _ hp)))
  · exact fun p hp => .tail _ (.tail _ (sb _ (List.mem_append_right _ hp)))
  · intro p hp q hq
    rcases List.mem_cons.mp hq with rfl | hq
    · exact off p hp (src, o0) (.head _)
    · rcases List.mem_cons.mp hq with rfl | hq
      · exact off p hp (d, r0) (.tail _ (.head _))
      · exact off p hp q (.tail _ (.tail _ hq))
end
section
set_option maxHeartbeats 8000000 in
theorem counted_ctr {w : World} {mean : ExcName → Option Value} {mg mb : Str → Option Value} {dp un : Nat} {gd : Option (List Code)} {cn : Str} {cs : Scope} {a : Addr} {ccd : Value} {cl : List (Str × Addr)} {outer : List Env} {A₀ : Around} {base h₀ : Heap} {L : Addr} {m : Str → Option Value} {s : Shared} {Q E : Value → Shared → Prop} {src x : Addr} {o : Obj} {rest : List (Addr × Obj)} {kvs : List (Str × Value)}
  (B : Below A₀ base outer h₀) (F : Fr h₀ L s.heap m) (X : (Mine.top.heap_1 w.params).In h₀) (T : Top Mine.top.view_1 LO mean mg mb h₀) (hk : cs.kind = .function) (N : News h₀ L s.heap ((src, o) :: rest)) (off : Off src rest) (ho : SrcOk o) (W : WIn w rest x kvs) (WW : WN rest kvs) (hd : dp < 380) (hu : un < 3800)
  (ret : ∀ h' tk', Fr h₀ L h' m → Q (.bool true) { s with heap := h', toks := tk' }) :
  wpAny (model PySem.Challenge.rw_xm0169_01.row.prog w) (ktrTop dp un gd cn cs L a ccd cl outer) (call (.ref 270) [.ref src, .ref x]) Q E s := by
    revert X
    k_fill
    intro X
    refine wpAny_call ?_
    k_dflt ktr_enter
    repeat' (first | (with_reducible refine gen_tok1 (fun tk9 => ?_); try dsimp only) | (k_unfold; (try dsimp only)) | (k_end; wrow_close) | ((with_reducible show wpAny _ _ (call (Value.ref 263) _) _ _ _); k_dflt (refine' type_ctr ?zqB ?zqF ?zqX ?zqT ?zqhk ?zqN ?zqoff ?zqho ?zqWW ?zqhd ?zqhu ?_; (case zqB => k_asm); (case zqF => k_asm); (case zqX => k_asm); (case zqN => k_asm); (case zqT => k_asm); (case zqhk => first | exact rfl | assumption); (case zqoff => assumption); (case zqho => assumption); (case zqWW => assumption); (case zqhd => ktr_room); (case zqhu => first | ktr_units | ((simp only [units_under_make, units_deeper, units_in1, Around.mark_units, units_caller]); (try dsimp only [ktrTop]); omega))); intro D9 t9 l9 b9 ws9 o9 n9 h9 tk9 hD9 hT9 hR9 off9 sb9 ho9 F9 N9; obtain ⟨⟨u9, k9, hY9, hK9⟩, hL9, hO9⟩ := hT9; (try dsimp only); (try k_sweep)) | ((with_reducible show wpAny _ _ (call (Value.ref 73) _) _ _ _); k_dflt (refine' tw_ctr (hs := [(_, _)]) ?zqB ?zqF ?zqX ?zqT ?zqhk ?zqN ?zqoff ?zqW ?zqY ?zqK ?zqhd ?zqhu ?_; (case zqB => k_asm); (case zqF => k_asm); (case zqX => k_asm); (case zqN => k_asm); (case zqT => k_asm); (case zqhk => first | exact rfl | assumption); (case zqoff => exact OffL.one (by assumption)); (case zqW => exact WIn.mono (by assumption) (subC1 (by k_subL))); (case zqY => exact TyB.mono (by assumption) (subC1 (by k_subL))); (case zqK => exact WT.mono (by assumption) (by k_subL)); (case zqhd => ktr_room); (case zqhu => first | ktr_units | ((simp only [units_under_make, units_deeper, units_in1, Around.mark_units, units_caller]); (try dsimp only [ktrTop]); omega))); intro D9 n9 h9 tk9 hR9 sb9 off9 F9 N9; replace N9 := app1 N9; replace off9 := off9.off; (try dsimp only); (try k_sweep)) | ((with_reducible show wpAny _ _ (call (Value.ref 68) _) _ _ _); k_dflt (refine' hold_ctr ?zqB ?zqF ?zqX ?zqT ?zqhk ?zqN ?zqW ?zqK ?zqhd ?zqhu ?_; (case zqB => k_asm); (case zqF => k_asm); (case zqX => k_asm); (case zqN => k_asm); (case zqT => k_asm); (case zqhk => first | exact rfl | assumption); (case zqW => exact WIn.mono (by assumption) (Sub.cons (by k_subL))); (case zqK => exact LED.mono (by assumption) (Sub.cons (by k_subL))); (case zqhd => ktr_room); (case zqhu => first | ktr_units | ((simp only [units_under_make, units_deeper, units_in1, Around.mark_units, units_caller]); (try dsimp only [ktrTop]); omega))); intro h9 tk9 F9 N9; (try dsimp only); (try k_sweep)) | ((with_reducible show wpAny _ _ (call (Value.ref 97) _) _ _ _); k_dflt (refine' size_ctr (hs := [(_, _)]) ?zqB ?zqF ?zqX ?zqT ?zqhk ?zqN ?zqoff ?zqW ?zqY ?zqK ?zqhd ?zqhu ?_; (case zqB => k_asm); (case zqF => k_asm); (case zqX => k_asm); (case zqN => k_asm); (case zqT => k_asm); (case zqhk => first | exact rfl | assumption); (case zqoff => exact OffL.one (by assumption)); (case zqW => exact WIn.mono (by assumption) (subC1 (by k_subL))); (case zqY => exact TyB.mono (by assumption) (subC1 (by k_subL))); (case zqK => exact WT.mono (by assumption) (by k_subL)); (case zqhd => ktr_room); (case zqhu => first | ktr_units | ((simp only [units_under_make, units_deeper, units_in1, Around.mark_units, units_caller]); (try dsimp only [ktrTop]); omega))); intro y9 d9 o9 D9 n9 h9 tk9 hrow9 hR9 sb9 hy9 on9 oh9 off9 F9 N9; replace N9 := appC1 N9; replace off9 := off9.off; have hne9 := neOf oh9; have hne8 := hne9.symm; obtain ⟨_, _, _, _, _, _, _, _, _, _, _, _, _, _, rfl⟩ := hrow9; (try dsimp only); (try k_sweep)) | ((with_reducible show wpAny _ _ (compareOp CmpOp.NotEq (Value.ref _) _) _ _ _); k_dflt (refine' ne_ws ?zqN ?zqX ?zqha ?zqhb ?zqok ?zqhu ?_; (case zqN => k_asm); (case zqX => k_in); (case zqha => exact RD.mono (by assumption) (by k_subL)); (case zqhb => exact RD.mono (by assumption) (by k_subL)); (case zqok => assumption); (case zqhu => first | units_room | exact Nat.le_of_ble_eq_true rfl))) | ((with_reducible show wpAny _ _ (compareOp CmpOp.NotEq (Value.bool _) (Value.bool _)) _ _ _); k_dflt (refine' ne_boolS ?_)) | ((with_reducible show wpAny _ _ (call (Value.ref 228) [Value.ref _, Value.int _ _]) _ _ _); k_dflt (refine' take_u ?zqB ?zqF ?zqX ?zqT ?zqhk ?zqN ?zqoff ?zqho ?zqht ?zqht2 ?zqhd ?zqhu ?_; (case zqB => k_asm); (case zqF => k_asm); (case zqX => k_asm); (case zqN => k_asm); (case zqT => k_asm); (case zqhk => first | exact rfl | assumption); (case zqoff => exact offCons (by assumption) (by assumption)); (case zqho => assumption); (case zqht => first | decide | omega); (case zqht2 => first | decide | omega); (case zqhd => ktr_room); (case zqhu => first | ktr_units | ((simp only [units_under_make, units_deeper, units_in1, Around.mark_units, units_caller]); (try dsimp only [ktrTop]); omega))); intro r9 t9 o9 h9 tk9 hr0 hr1 ho9 F9 N9; (try dsimp only); (try k_sweep)) | ((with_reducible show wpAny _ _ (call (Value.ref 228) [Value.ref _, Value.int _ _]) _ _ _); k_dflt (refine' take_u ?zqB ?zqF ?zqX ?zqT ?zqhk ?zqN ?zqoff ?zqho ?zqht ?zqht2 ?zqhd ?zqhu ?_; (case zqB => k_asm); (case zqF => k_asm); (case zqX => k_asm); (case zqN => k_asm); (case zqT => k_asm); (case zqhk => first | exact rfl | assumption); (case zqoff => assumption); (case zqho => assumption); (case zqht => first | decide | omega); (case zqht2 => first | decide | omega); (case zqhd => ktr_room); (case zqhu => first | ktr_units | ((simp only [units_under_make, units_deeper, units_in1, Around.mark_units, units_caller]); (try dsimp only [ktrTop]); omega))); intro r9 t9 o9 h9 tk9 hr0 hr1 ho9 F9 N9; (try dsimp only); (try k_sweep)) | ((with_reducible show wpAny _ _ (newTuple _) _ _ _); k_dflt (refine' newTup2 ?zqF ?zqN ?zqos ?zqod ?zqz ?_; (case zqF => k_asm); (case zqN => k_asm); (case zqos => assumption); (case zqod => assumption); (case zqz => exact Nat.le_of_ble_eq_true rfl)); intro D9 h9 n9 F9 N9 os9 od9 sb9 hm9; (try k_sweep)) | ((with_reducible show wpAny _ _ (newTuple _) _ _ _); k_dflt (refine' newTup ?zqF ?zqN ?zqoff ?zqz ?_; (case zqF => k_asm); (case zqN => k_asm); (case zqoff => assumption); (case zqz => exact Nat.le_of_ble_eq_true rfl)); intro D9 h9 n9 F9 N9 off9 sb9 hm9; (try k_sweep)) | ((with_reducible show wpAny _ _ (call (Value.ref 94) _) _ _ _); k_dflt (refine' takein_ctr ?zqB ?zqF ?zqX ?zqT ?zqhk ?zqN ?zqoff ?zqhy ?zqhr ?zqhp ?zqa0 ?zqa1 ?zqc0 ?zqc1 ?zqhd ?zqhu ?_; (case zqB => k_asm); (case zqF => k_asm); (case zqX => k_asm); (case zqT => k_asm); (case zqhk => first | exact rfl | assumption); (case zqN => exact swapN (by k_asm)); (case zqoff => exact offCons (by assumption) (by assumption)); (case zqhy => tb_start); (case zqhr => exact ⟨_, _, _, _, _, _, _, _, _, _, _, _, _, _, rfl⟩); (case zqhp => tb_start); (case zqa0 => assumption); (case zqa1 => omega); (case zqc0 => assumption); (case zqc1 => omega); (case zqhd => ktr_room); (case zqhu => first | ktr_units | ((simp only [units_under_make, units_deeper, units_in1, Around.mark_units, units_caller]); (try dsimp only [ktrTop]); omega))); intro o9 h9 tk9 hrow9 F9 N9; replace N9 := swapN N9; (try dsimp only); (try k_sweep)) | ((with_reducible show wpAny _ _ (pyIter (Value.ref _)) (fun it s₂ => LoopAtV _ _ _ _ _ _ _ _ _ it s₂) _ _); (rename IsRange _ _ _ _ _ _ _ _ => rgX); k_dflt (refine' cnt_loop ?zqhh rgX ?zqhs ?zqhn ?zqF ?zqN ?zqho ?zqhr ?zqos ?zqod ?zqhy ?zqm1 ?zqm2 (fun k' t' h9 tk9 own9 o9 ro9 n9 P9 L9 tP9 tL9 u9 off9 os9 od9 os8 od8 hy9 ho9 hr9 F9 N9 => ?_) (fun h9 tk9 o9 ro9 n9 P9 L9 tP9 tL9 u9 os9 od9 hy9 ho9 hr9 F9 N9 => ?_); (case zqhh => rfl); (case zqhs => first | decide | exact small_one (by l_bnd) (by l_bnd) (by l_bnd) (by l_bnd)); (case zqhn => exact rangeSize_nat _ _); (case zqF => k_asm); (case zqN => k_asm); (case zqho => assumption); (case zqhr => exact ⟨_, _, _, _, _, _, _, _, _, _, _, _, _, _, rfl⟩); (case zqos => assumption); (case zqod => assumption); (case zqhy => tb_start); (case zqm1 => rfl); (case zqm2 => rfl)); (all_goals (obtain ⟨_, _, _, _, _, _, _, _, _, _, _, _, _, _, rfl⟩ := hr9; try k_fold))) | ((with_reducible show TbEnd _ _ _ _ _ _); k_dflt (refine' cj_end ?zqF ?zqN ?zqsb ?zqoff ?zqho ?zqhr ?zqos ?zqod ?zqhy ?zqm1 ?zqm2 ?zqhm; (case zqF => k_asm); (case zqN => k_asm); (case zqoff => k_asm); (case zqsb => k_subL); (case zqho => assumption); (case zqm1 => rfl); (case zqm2 => rfl); (case zqhr => assumption); (case zqos => assumption); (case zqod => assumption); (case zqhy => tb_start); (case zqhm => intro z a1 a2 a3 a4 a5; simp only [if_neg a1, if_neg a2, if_neg a3, if_neg a4, if_neg a5]))) | ((with_reducible show wpAny _ _ (subscriptTail _ _ (Value.ref _) (Value.int _ _)) _ _ _); k_dflt (refine' item_tup ?zqk1 ?zqk2 ?zqk3 ?zqk4 ?zqk5 ?_ ?zqk6; (case zqk1 => k_asm); (case zqk2 => tb_start); (case zqk3 => decide); (case zqk4 => decide); (case zqk5 => rfl); (case zqk6 => with_unfolding_all rfl); k_whole)) | walk1 | (dsimp only; walk1) | (leave1; walk_say "STEP leave1"; try dsimp only) | fail "no step")
    all_goals exact ret _ _ (by k_asm)
end
section
theorem item0 {b : Heap} {vs : List Value} {ns : List Int} {as : List Addr} (ra : ReadsAll b vs (List.map PyData.int ns) as) (h : 0 < (vs.toArray.size : Int)) : ∃ n t, vs[(0 : Int).toNat]? = some (Value.int n t) := by
  cases vs with
  | nil => simp at h
  | cons v r =>
    cases ns with
    | nil => cases ra
    | cons n q =>
      cases ra with
      | cons hr _ =>
        cases hr
        exact ⟨n, _, rfl⟩
theorem pool_item {prog : Program} {w : World} {A : Around} {E : Value → Shared → Prop} {s : Shared} {b : Heap} {l : Addr} {vs : List Value} {ns : List Int} {as : List Addr} {value slice : PySem.Expr} {u : Tok} {Q : Value → Shared → Prop}
    (hl : s.heap.IsList l vs.toArray) (ra : ReadsAll b vs (List.map PyData.int ns) as) (h0 : 0 < (vs.toArray.size : Int)) (h : ∀ n t, Q (.int n t) s)
    (hs : subscripted slice false (.ref l) (.int 0 u) = operate [.ref l, .int 0 u] (getItem (.ref l) (.int 0 u))) :
    wpAny (model prog w) A (subscriptTail value slice (.ref l) (.int 0 u)) Q E s := by
  obtain ⟨n, t, hx⟩ := item0 ra h0
  exact tail_any hl.typeIs slot_list_getitem.lookup (wpAny_getItem_list hl (by decide) (by decide) (by simpa using hx) (h n t)) hs
theorem pool_x {n : Int} {p : Prop} [Decidable p] : 0 ≤ (if -1 - n > n then -1 - n else n) * (if p then 1 else 0) := Int.mul_nonneg (by split <;> omega) (by split <;> decide)
set_option maxHeartbeats 8000000 in
theorem pool_ctr {w : World} {mean : ExcName → Option Value} {mg mb : Str → Option Value} {dp un : Nat} {gd : Option (List Code)} {cn : Str} {cs : Scope} {a : Addr} {ccd : Value} {cl : List (Str × Addr)} {outer : List Env} {A₀ : Around} {base h₀ : Heap} {L : Addr} {m : Str → Option Value} {s : Shared} {Q E : Value → Shared → Prop} {news : List (Addr × Obj)} {l : Addr} {vs : List Value} {ns : List Int} {as : List Addr}
  (B : Below A₀ base outer h₀) (F : Fr h₀ L s.heap m) (X : (Mine.top.heap_1 w.params).In h₀) (T : Top Mine.top.view_1 LO mean mg mb h₀) (hk : cs.kind = .function) (N : News h₀ L s.heap news) (hl : base.IsList l vs.toArray) (ra : ReadsAll base vs (List.map PyData.int ns) as) (hlay : (PyData.list (List.map PyData.int ns)).layable0 = true) (hd : dp < 400) (hu : un < 4000)
  (ret : ∀ D o h' tk', Off D news → SrcOk o → Fr h₀ L h' m → News h₀ L h' ((D, o) :: news) → Q (.ref D) { s with heap := h', toks := tk' }) :
  wpAny (model PySem.Challenge.rw_xm0169_01.row.prog w) (ktrTop dp un gd cn cs L a ccd cl outer) (call (.ref 221) [.ref l]) Q E s := by
    revert X
    k_fill
    intro X
    refine wpAny_call ?_
    k_dflt cell_enter
    repeat' (first | (with_reducible refine gen_tok1 (fun tk9 => ?_); try dsimp only) | (k_unfold; (try dsimp only)) | (k_end; wrow_close) | ((with_reducible show wpAny _ _ (subscriptTail _ _ (Value.ref _) (Value.int 0 _)) _ _ _); k_dflt (refine' pool_item ?zql ?zqr ?zqh ?_ ?zqs; (case zql => is_list); (case zqr => assumption); (case zqh => assumption); (case zqs => with_unfolding_all rfl)); intro n9 t9) | walk1 | (dsimp only; walk1) | (leave1; walk_say "STEP leave1"; try dsimp only) | fail "no step")
    all_goals exact ret _ _ _ _ (offOfLt0 (by assumption)) ⟨_, _, _, _, _, rfl, pool_x, fm0 (by decide), fm1 (by decide)⟩ (by k_asm) (by k_asm)
end
section
theorem NIn.mono {n n' : List (Addr × Obj)} {v : Value} {As Ls : List Value} (h : NIn n v As Ls) (s : Sub n n') : NIn n' v As Ls := by
  cases h with
  | set a b c d => exact .set (s _ a) (s _ b) (c.mono s) (d.mono s)
  | upd a => exact .upd (s _ a)
  | place a => exact .place (s _ a)
  | rec1 a b c d => exact .rec1 (s _ a) (s _ b) (s _ c) (d.mono s)
  | rec2 a => exact .rec2 (s _ a)
  | addr a => exact .addr (s _ a)
  | cut7 a => exact .cut7 (s _ a)
  | cut4 a => exact .cut4 (s _ a)
  | do_ a => exact .do_ (s _ a)
theorem ne_root {prog : Program} {w : World} {A : Around} {E : Value → Shared → Prop} {s : Shared} {x y : Value} {r : Option Int} {Q : Value → Shared → Prop} (a : RootV x r) (b : RootV y r) (h : Q (.bool false) s) : wpAny (model prog w) A (compareOp .NotEq x y) Q E s := by
  cases a with
  | none => cases b; exact PySem.EqNone.ne_none_none h
  | some => cases b; exact PyProof.Rows.ne_int (by simpa using h)
end
section
/-! names that are taken: the head's tactic would lay a twin of each of its own words under them, with a proof of quadratic size -/
theorem law0.tw10032620121105566045 : True := trivial
theorem law0.tw10095480883494231459 : True := trivial
theorem law0.tw10146772343947262596 : True := trivial
theorem law0.tw10184597460235263154 : True := trivial
theorem law0.tw10296725909595943339 : True := trivial
theorem law0.tw10298011309822886662 : True := trivial
theorem law0.tw1029867904371488340 : True := trivial
theorem law0.tw10357901437524485862 : True := trivial
theorem law0.tw10362422835864789747 : True := trivial
theorem law0.tw10398291495982506635 : True := trivial
theorem law0.tw10509397538588029826 : True := trivial
theorem law0.tw10511569858926516808 : True := trivial
theorem law0.tw10630252192111998524 : True := trivial
theorem law0.tw10632122141816074874 : True := trivial
theorem law0.tw10638804470103758555 : True := trivial
theorem law0.tw10655398691052556994 : True := trivial
theorem law0.tw10682867708260657703 : True := trivial
theorem law0.tw10722740242206101657 : True := trivial
theorem law0.tw10725043437602381777 : True := trivial
theorem law0.tw10725260149955067548 : True := trivial
theorem law0.tw10742491104101554282 : True := trivial
theorem law0.tw1090360207944554471 : True := trivial
theorem law0.tw10916674137780620333 : True := trivial
theorem law0.tw10917286036579721307 : True := trivial
theorem law0.tw10930028396939313440 : True := trivial
theorem law0.tw11036847710331240904 : True := trivial
theorem law0.tw11075808383779748141 : True := trivial
theorem law0.tw11100738904498411591 : True := trivial
theorem law0.tw1113339125664489831 : True := trivial
theorem law0.tw11184539905663124145 : True := trivial
theorem law0.tw1120601747542707154 : True := trivial
theorem law0.tw11223263362418839858 : True := trivial
theorem law0.tw11235163905024454578 : True := trivial
theorem law0.tw11244846509269613564 : True := trivial
theorem law0.tw11262581134959326740 : True := trivial
theorem law0.tw11272251194587018083 : True := trivial
theorem law0.tw11279332160713150011 : True := trivial
theorem law0.tw11294410451544581352 : True := trivial
theorem law0.tw11349390854862241673 : True := trivial
theorem law0.tw1140421731826474158 : True := trivial
theorem law0.tw1148156948500624280 : True := trivial
theorem law0.tw11551539277455181065 : True := trivial
theorem law0.tw11670579973658460868 : True := trivial
theorem law0.tw11743516832410986192 : True := trivial
theorem law0.tw11768607861433844436 : True := trivial
theorem law0.tw11769744777727433914 : True := trivial
theorem law0.tw11781440929437947442 : True := trivial
theorem law0.tw11859431632840310305 : True := trivial
theorem law0.tw118659336403805346 : True := trivial
theorem law0.tw11880619284057773595 : True := trivial
theorem law0.tw11941072796341011789 : True := trivial
theorem law0.tw11959361041871765522 : True := trivial
theorem law0.tw12115355804274566541 : True := trivial
theorem law0.tw12121318249026566611 : True := trivial
theorem law0.tw12187896493673951328 : True := trivial
theorem law0.tw1224861732899476550 : True := trivial
theorem law0.tw12329313315254369492 : True := trivial
theorem law0.tw12346181934254485148 : True := trivial
theorem law0.tw12363297311744949093 : True := trivial
theorem law0.tw12396605175839281081 : True := trivial
theorem law0.tw12417697683833045658 : True := trivial
theorem law0.tw12445363386462770490 : True := trivial
theorem law0.tw12518874940694051859 : True := trivial
theorem law0.tw12539281456134806840 : True := trivial
theorem law0.tw1256541888418543775 : True := trivial
theorem law0.tw12567413917277387327 : True := trivial
theorem law0.tw12570585773123973062 : True := trivial
theorem law0.tw12685334502247184692 : True := trivial
theorem law0.tw12696889155717716755 : True := trivial
theorem law0.tw12754935808939265006 : True := trivial
theorem law0.tw12917328017494065824 : True := trivial
theorem law0.tw12936148741032507619 : True := trivial
theorem law0.tw1301087600333278179 : True := trivial
theorem law0.tw13015998037544899397 : True := trivial
theorem law0.tw13056734547543546732 : True := trivial
theorem law0.tw13191535121604622858 : True := trivial
theorem law0.tw13217344302191610192 : True := trivial
theorem law0.tw13246404300884090135 : True := trivial
theorem law0.tw13260206350598397620 : True := trivial
theorem law0.tw13298795663699361863 : True := trivial
theorem law0.tw1333287347765847669 : True := trivial
theorem law0.tw13398523139639869546 : True := trivial
theorem law0.tw13491575879610427701 : True := trivial
theorem law0.tw13538943877853874382 : True := trivial
theorem law0.tw13612843980436604340 : True := trivial
theorem law0.tw1365545971563116970 : True := trivial
theorem law0.tw13661154312628583589 : True := trivial
theorem law0.tw13668072922049362273 : True := trivial
theorem law0.tw13705220664706776002 : True := trivial
theorem law0.tw13726209520415603424 : True := trivial
theorem law0.tw13765983299568313511 : True := trivial
theorem law0.tw13845880746551851130 : True := trivial
theorem law0.tw13854614608279854937 : True := trivial
theorem law0.tw13887094470469057045 : True := trivial
theorem law0.tw13963636438348786699 : True := trivial
theorem law0.tw14138812305841297094 : True := trivial
theorem law0.tw14152263104084577055 : True := trivial
theorem law0.tw14200610244241395743 : True := trivial
theorem law0.tw14222045865594920884 : True := trivial
theorem law0.tw14233094864384590596 : True := trivial
theorem law0.tw14249455553144110659 : True := trivial
theorem law0.tw14252217256052004804 : True := trivial
theorem law0.tw14272788763499293698 : True := trivial
theorem law0.tw14290611070207523167 : True := trivial
theorem law0.tw14482511730175057139 : True := trivial
theorem law0.tw14499254527334126155 : True := trivial
theorem law0.tw14502637881921623089 : True := trivial
theorem law0.tw14576423877304278153 : True := trivial
theorem law0.tw146156352817040425 : True := trivial
theorem law0.tw1466521111429940374 : True := trivial
theorem law0.tw14768403720961908982 : True := trivial
theorem law0.tw15096049168482566556 : True := trivial
theorem law0.tw1511544562154037056 : True := trivial
theorem law0.tw15173081962000802729 : True := trivial
theorem law0.tw15205234438939564417 : True := trivial
theorem law0.tw15306539674793857377 : True := trivial
theorem law0.tw15400320650452073477 : True := trivial
theorem law0.tw15538646976755602108 : True := trivial
theorem law0.tw15558232140933581128 : True := trivial
theorem law0.tw15559928143493665678 : True := trivial
theorem law0.tw15581958874973260358 : True := trivial
theorem law0.tw15604162442191108158 : True := trivial
theorem law0.tw1560864682570406453 : True := trivial
theorem law0.tw15644298317654728097 : True := trivial
theorem law0.tw15661216235391965819 : True := trivial
theorem law0.tw15674937678839129268 : True := trivial
theorem law0.tw15701137439533193855 : True := trivial
theorem law0.tw15776307509173350206 : True := trivial
theorem law0.tw15925853844416230114 : True := trivial
theorem law0.tw1610760908340044523 : True := trivial
theorem law0.tw1612859565653257706 : True := trivial
theorem law0.tw16164293176540907304 : True := trivial
theorem law0.tw1620366084565181 : True := trivial
theorem law0.tw16255955146399468362 : True := trivial
theorem law0.tw16264966986630423340 : True := trivial
theorem law0.tw16373875780119690239 : True := trivial
theorem law0.tw16391677862512807954 : True := trivial
theorem law0.tw16453817514517916139 : True := trivial
theorem law0.tw16482494306776878487 : True := trivial
theorem law0.tw1648573743134891248 : True := trivial
theorem law0.tw16504949119680917769 : True := trivial
theorem law0.tw1659798432566798892 : True := trivial
theorem law0.tw16635115964208037963 : True := trivial
theorem law0.tw16655196608270618420 : True := trivial
theorem law0.tw16657587348063317417 : True := trivial
theorem law0.tw16689484343623790539 : True := trivial
theorem law0.tw1671635544576667785 : True := trivial
theorem law0.tw16737582776677827082 : True := trivial
theorem law0.tw16784668206222672687 : True := trivial
theorem law0.tw16808574446134438158 : True := trivial
theorem law0.tw16843579158291322015 : True := trivial
theorem law0.tw16886223664993613692 : True := trivial
theorem law0.tw1699502032180820545 : True := trivial
theorem law0.tw17032392217455283701 : True := trivial
theorem law0.tw17040400367079689262 : True := trivial
theorem law0.tw17114260528134926950 : True := trivial
theorem law0.tw17131453603766426202 : True := trivial
theorem law0.tw17243755711882070545 : True := trivial
theorem law0.tw17297040426022239527 : True := trivial
theorem law0.tw17381222127576093679 : True := trivial
theorem law0.tw17428989414929986597 : True := trivial
theorem law0.tw17475498791739800603 : True := trivial
theorem law0.tw17487462031322022738 : True := trivial
theorem law0.tw1750916937534900898 : True := trivial
theorem law0.tw17510720145201880253 : True := trivial
theorem law0.tw17520565913379921954 : True := trivial
theorem law0.tw17867186260260354772 : True := trivial
theorem law0.tw18022042417508988978 : True := trivial
theorem law0.tw18073406225219371946 : True := trivial
theorem law0.tw1808313271418205839 : True := trivial
theorem law0.tw18094338034007330530 : True := trivial
theorem law0.tw1816006655830455449 : True := trivial
theorem law0.tw1826558441015012861 : True := trivial
theorem law0.tw18367183321457360210 : True := trivial
theorem law0.tw18373021759013005462 : True := trivial
theorem law0.tw18423069317951216678 : True := trivial
theorem law0.tw18443407227104136653 : True := trivial
theorem law0.tw1920005134880902547 : True := trivial
theorem law0.tw2024550331791334527 : True := trivial
theorem law0.tw2345004794090384986 : True := trivial
theorem law0.tw2361512705433084800 : True := trivial
theorem law0.tw2400834441726409510 : True := trivial
theorem law0.tw242830475430967187 : True := trivial
theorem law0.tw2475944077219576648 : True := trivial
theorem law0.tw2570183641061490875 : True := trivial
theorem law0.tw2581106155807449607 : True := trivial
theorem law0.tw2585905329054630142 : True := trivial
theorem law0.tw265437117368317418 : True := trivial
theorem law0.tw2666381876535079507 : True := trivial
theorem law0.tw2727131649380120607 : True := trivial
theorem law0.tw2744046844789289277 : True := trivial
theorem law0.tw2825262767062204201 : True := trivial
theorem law0.tw289858469092574169 : True := trivial
theorem law0.tw2969279790835003084 : True := trivial
theorem law0.tw2997299088521740481 : True := trivial
theorem law0.tw3024438429085199546 : True := trivial
theorem law0.tw3195556814979673680 : True := trivial
theorem law0.tw3221429205929893152 : True := trivial
theorem law0.tw3290840721006632444 : True := trivial
theorem law0.tw3326316516304273019 : True := trivial
theorem law0.tw3339082071947028493 : True := trivial
theorem law0.tw334938984278594083 : True := trivial
theorem law0.tw3383080383691934540 : True := trivial
theorem law0.tw3395613344678616342 : True := trivial
theorem law0.tw3469058355537598690 : True := trivial
theorem law0.tw3482451569368453523 : True := trivial
theorem law0.tw3582954245757958440 : True := trivial
theorem law0.tw3701953910418593409 : True := trivial
theorem law0.tw3757378239868860303 : True := trivial
theorem law0.tw3821402484137310781 : True := trivial
theorem law0.tw385648869156053653 : True := trivial
theorem law0.tw3886419183921765784 : True := trivial
theorem law0.tw3893947409712690706 : True := trivial
theorem law0.tw3925605507518493404 : True := trivial
theorem law0.tw4003093422367203626 : True := trivial
theorem law0.tw4057515594649406518 : True := trivial
theorem law0.tw406732618581100268 : True := trivial
theorem law0.tw4121826197934297101 : True := trivial
theorem law0.tw4186683680755608804 : True := trivial
theorem law0.tw4204731671227804059 : True := trivial
theorem law0.tw422844621387090170 : True := trivial
theorem law0.tw4275896889816186295 : True := trivial
theorem law0.tw4350571009898500681 : True := trivial
theorem law0.tw4433332402273300775 : True := trivial
theorem law0.tw4461244602327236999 : True := trivial
theorem law0.tw4481202519914314849 : True := trivial
theorem law0.tw4537617650091704950 : True := trivial
theorem law0.tw4561561729034917768 : True := trivial
theorem law0.tw4571592872686814216 : True := trivial
theorem law0.tw4612160342394651920 : True := trivial
theorem law0.tw4713212355711889015 : True := trivial
theorem law0.tw4777423316363239594 : True := trivial
theorem law0.tw4777488686911143438 : True := trivial
theorem law0.tw4834986446476583309 : True := trivial
theorem law0.tw4878174255723778311 : True := trivial
theorem law0.tw4962522757505427171 : True := trivial
theorem law0.tw5076388925459310207 : True := trivial
theorem law0.tw5114199050186101605 : True := trivial
theorem law0.tw5163654349093044652 : True := trivial
theorem law0.tw5273927788506325509 : True := trivial
theorem law0.tw5381826499560636667 : True := trivial
theorem law0.tw5440122548897807150 : True := trivial
theorem law0.tw5487543513260685854 : True := trivial
theorem law0.tw5518365810387356747 : True := trivial
theorem law0.tw5572361690901912919 : True := trivial
theorem law0.tw5612557307416470968 : True := trivial
theorem law0.tw5651199925033432619 : True := trivial
theorem law0.tw565944594258984397 : True := trivial
theorem law0.tw5756853278724639683 : True := trivial
theorem law0.tw5758735845162950703 : True := trivial
theorem law0.tw5814044628978598525 : True := trivial
theorem law0.tw5848207159276898234 : True := trivial
theorem law0.tw592230626558410880 : True := trivial
theorem law0.tw5948292913123377103 : True := trivial
theorem law0.tw5959803100917200937 : True := trivial
theorem law0.tw6012819776628231351 : True := trivial
theorem law0.tw6045903549345957425 : True := trivial
theorem law0.tw6050021630079543386 : True := trivial
theorem law0.tw6082462370846908609 : True := trivial
theorem law0.tw6130985832315650006 : True := trivial
theorem law0.tw6241515457476834934 : True := trivial
theorem law0.tw6256109457577637075 : True := trivial
theorem law0.tw6288377990846394384 : True := trivial
theorem law0.tw6315476539618263395 : True := trivial
theorem law0.tw6340828899037711153 : True := trivial
theorem law0.tw6357754386109894475 : True := trivial
theorem law0.tw6393542445638457130 : True := trivial
theorem law0.tw6446413588398589784 : True := trivial
theorem law0.tw6507899236002629847 : True := trivial
theorem law0.tw6511098520777711806 : True := trivial
theorem law0.tw6520547431633036078 : True := trivial
theorem law0.tw6521327892170795074 : True := trivial
theorem law0.tw6548944034584603356 : True := trivial
theorem law0.tw6623399549322444180 : True := trivial
theorem law0.tw6639347798800800660 : True := trivial
theorem law0.tw6859409545170283108 : True := trivial
theorem law0.tw687201578280534312 : True := trivial
theorem law0.tw6887180200284414161 : True := trivial
theorem law0.tw6934433870043238913 : True := trivial
theorem law0.tw6973953932337457085 : True := trivial
theorem law0.tw7029406129357418648 : True := trivial
theorem law0.tw7070538115585392904 : True := trivial
theorem law0.tw7167304669271956453 : True := trivial
theorem law0.tw7186975061929560226 : True := trivial
theorem law0.tw7385239516411280475 : True := trivial
theorem law0.tw7594193784959163769 : True := trivial
theorem law0.tw7639406124816373305 : True := trivial
theorem law0.tw7688396677744957350 : True := trivial
theorem law0.tw7738846441960369706 : True := trivial
theorem law0.tw7767183559601821968 : True := trivial
theorem law0.tw7787490541490617941 : True := trivial
theorem law0.tw7890787108813072124 : True := trivial
theorem law0.tw792622640443278020 : True := trivial
theorem law0.tw7975160994723591189 : True := trivial
theorem law0.tw8033044512686501878 : True := trivial
theorem law0.tw8051031949587765908 : True := trivial
theorem law0.tw8061300883978502320 : True := trivial
theorem law0.tw8132111524018249781 : True := trivial
theorem law0.tw8180878580205191754 : True := trivial
theorem law0.tw8225142166900619184 : True := trivial
theorem law0.tw8283855022375279528 : True := trivial
theorem law0.tw8308018697990473340 : True := trivial
theorem law0.tw8310869196227379889 : True := trivial
theorem law0.tw8325049363055077699 : True := trivial
theorem law0.tw8356385577724382480 : True := trivial
theorem law0.tw8357062748579437083 : True := trivial
theorem law0.tw8363347024729784745 : True := trivial
theorem law0.tw8386381093137330377 : True := trivial
theorem law0.tw8426834778133437203 : True := trivial
theorem law0.tw8502409024445453311 : True := trivial
theorem law0.tw8539634873401475426 : True := trivial
theorem law0.tw8564532653089736524 : True := trivial
theorem law0.tw8581138001695752568 : True := trivial
theorem law0.tw8605598279569741853 : True := trivial
theorem law0.tw8668630876662886431 : True := trivial
theorem law0.tw8713008808854654704 : True := trivial
theorem law0.tw8721598728829398577 : True := trivial
theorem law0.tw8768074342612837633 : True := trivial
theorem law0.tw8811285888202015372 : True := trivial
theorem law0.tw8974536074797183465 : True := trivial
theorem law0.tw9018901224244890181 : True := trivial
theorem law0.tw901928278292518506 : True := trivial
theorem law0.tw9095731128961565082 : True := trivial
theorem law0.tw9115198531744393517 : True := trivial
theorem law0.tw916933664783632141 : True := trivial
theorem law0.tw9253683799435313286 : True := trivial
theorem law0.tw937412679691656245 : True := trivial
theorem law0.tw937520463590543270 : True := trivial
theorem law0.tw941832887711519615 : True := trivial
theorem law0.tw9555923757770736567 : True := trivial
theorem law0.tw9592931494124603938 : True := trivial
theorem law0.tw9691323953756417837 : True := trivial
theorem law0.tw9699364687105232913 : True := trivial
theorem law0.tw97011327422333217 : True := trivial
theorem law0.tw9744488965110276969 : True := trivial
theorem law0.tw985051220168086573 : True := trivial
theorem law0.tw9869112752116061776 : True := trivial
theorem law0.tw9957872472602079019 : True := trivial
theorem law0.tw9965426040842941362 : True := trivial
set_option Elab.async true in
set_option maxRecDepth 1000000 in
set_option maxHeartbeats 0 in
theorem law0 : PySem.Challenge.rw_xm0169_01.Holds := by
  w_on
  o_law
  k_head
  case hw => w_witness2
  case hc =>
    k_go0
    all_goals try k_fold
    (rename Frag.In _ _ => KX9; replace KX9 : (Mine.top.heap_1 _).In _ := KX9; revert KX9; k_fill; intro KX9)
    (rename Top _ _ _ _ _ _ => T9; replace T9 : Top Mine.top.view_1 LO _ _ _ _ := T9)
    all_goals repeat' (first | (with_reducible refine gen_tok1 (fun tk9 => ?_); try dsimp only) | (k_unfold; (try dsimp only)) | (k_end; wrow_close) | ((with_reducible show wpAny _ _ (call (Value.ref 242) _) _ _ _); k_dflt (refine' world_ctr ?zqB ?zqF ?zqX ?zqT ?zqhk ?zqhd ?zqhu ?_; (case zqB => k_asm); (case zqF => k_asm); (case zqX => k_asm); (case zqT => k_asm); (case zqhk => first | exact rfl | assumption); (case zqhd => ktr_room); (case zqhu => first | ktr_units | ((simp only [units_under_make, units_deeper, units_in1, Around.mark_units, units_caller]); (try dsimp only [ktrTop]); omega))); intro x9 kvs9 n9 h9 tk9 F9 N9 W9 WW9; (try dsimp only); (try k_sweep)) | ((with_reducible show wpAny _ _ (call (Value.ref 221) _) _ _ _); k_dflt (refine' pool_ctr ?zqB ?zqF ?zqX ?zqT ?zqhk ?zqN ?zql ?zqr ?zqlay ?zqhd ?zqhu ?_; (case zqB => k_asm); (case zqF => k_asm); (case zqX => k_asm); (case zqN => k_asm); (case zqT => k_asm); (case zqhk => first | exact rfl | assumption); (case zql => assumption); (case zqr => assumption); (case zqlay => assumption); (case zqhd => ktr_room); (case zqhu => first | ktr_units | ((simp only [units_under_make, units_deeper, units_in1, Around.mark_units, units_caller]); (try dsimp only [ktrTop]); omega))); intro D9 o9 h9 tk9 off9 ho9 F9 N9; (try dsimp only); (try k_sweep)) | ((with_reducible show wpAny _ _ (call (Value.ref 42) _) _ _ _); k_dflt (refine' root_ctr ?zqB ?zqF ?zqX ?zqT ?zqhk ?zqN ?zqW ?zqWW ?zqP ?zqhd ?zqhu ?_; (case zqB => k_asm); (case zqF => k_asm); (case zqX => k_asm); (case zqN => k_asm); (case zqT => k_asm); (case zqhk => first | exact rfl | assumption); (case zqW => exact WIn.mono (by assumption) (by k_subL)); (case zqWW => exact WN.mono (by assumption) (by k_subL)); (case zqP => first | exact PIn.mono (by assumption) (by k_subL) | exact PIn.field (by tb_start) (PIn.arr (by tb_start) (BIn.arr (by tb_start)) (PIn.loc (by tb_start)))); (case zqhd => ktr_room); (case zqhu => first | ktr_units | ((simp only [units_under_make, units_deeper, units_in1, Around.mark_units, units_caller]); (try dsimp only [ktrTop]); omega))); intro rv9 h9 tk9 hrv9 F9 N9; (try dsimp only); (try k_sweep)) | ((with_reducible show wpAny _ _ (call (Value.ref 249) _) _ _ _); k_dflt (refine' place_u ?zqB ?zqF ?zqX ?zqT ?zqhk ?zqN ?zqoff ?zqho ?zqhd ?zqhu ?_; (case zqB => k_asm); (case zqF => k_asm); (case zqX => k_asm); (case zqN => k_asm); (case zqT => k_asm); (case zqhk => first | exact rfl | assumption); (case zqoff => assumption); (case zqho => assumption); (case zqhd => ktr_room); (case zqhu => first | ktr_units | ((simp only [units_under_make, units_deeper, units_in1, Around.mark_units, units_caller]); (try dsimp only [ktrTop]); omega))); intro D9 v9 T9 rv9 r9 b9 o9 n9 h9 tk9 hD9 P9 R9 off9 sb9 ho9 F9 N9; (try dsimp only); (try k_sweep)) | ((with_reducible show wpAny _ _ (call (Value.ref 49) _) _ _ _); k_dflt (first | (refine' part_ctr ?zqB ?zqF ?zqX ?zqT ?zqhk ?zqN ?zqP ?zqhd ?zqhu ?_; (case zqB => k_asm); (case zqF => k_asm); (case zqX => k_asm); (case zqN => k_asm); (case zqT => k_asm); (case zqhk => first | exact rfl | assumption); (case zqP => exact PIn.mono (by assumption) (by k_subL)); (case zqhd => ktr_room); (case zqhu => first | ktr_units | ((simp only [units_under_make, units_deeper, units_in1, Around.mark_units, units_caller]); (try dsimp only [ktrTop]); omega))) | (refine' part_none ?zqB ?zqF ?zqX ?zqT ?zqhk ?zqN ?zqhd ?zqhu ?_; (case zqB => k_asm); (case zqF => k_asm); (case zqX => k_asm); (case zqN => k_asm); (case zqT => k_asm); (case zqhk => first | exact rfl | assumption); (case zqhd => ktr_room); (case zqhu => first | ktr_units | ((simp only [units_under_make, units_deeper, units_in1, Around.mark_units, units_caller]); (try dsimp only [ktrTop]); omega)))); intro h9 tk9 F9 N9; (try dsimp only); (try k_sweep)) | ((with_reducible show wpAny _ _ (call (Value.ref 256) _) _ _ _); k_dflt (refine' node_ctr ?zqB ?zqF ?zqX ?zqT ?zqhk ?zqN ?zqoff ?zqho ?zqhd ?zqhu ?_; (case zqB => k_asm); (case zqF => k_asm); (case zqX => k_asm); (case zqN => k_asm); (case zqT => k_asm); (case zqhk => first | exact rfl | assumption); (case zqoff => assumption); (case zqho => assumption); (case zqhd => ktr_room); (case zqhu => first | ktr_units | ((simp only [units_under_make, units_deeper, units_in1, Around.mark_units, units_caller]); (try dsimp only [ktrTop]); omega))); intro D9 nd9 ad9 ld9 As9 Ls9 na9 nl9 o9 n9 h9 tk9 hD9 K9 hAs9 hLs9 off9 sb9 ho9 F9 N9; (try dsimp only); (try k_sweep)) | ((with_reducible show wpAny _ _ (call (Value.ref 54) _) _ _ _); k_dflt (refine' asg_ctr (hs := [(_, _)]) ?zqB ?zqF ?zqX ?zqT ?zqhk ?zqN ?zqoff ?zqK ?zqhd ?zqhu ?_; (case zqB => k_asm); (case zqF => k_asm); (case zqX => k_asm); (case zqN => k_asm); (case zqT => k_asm); (case zqhk => first | exact rfl | assumption); (case zqoff => exact OffL.one (by assumption)); (case zqK => exact NIn.mono (by assumption) (by k_subL)); (case zqhd => ktr_room); (case zqhu => first | ktr_units | ((simp only [units_under_make, units_deeper, units_in1, Around.mark_units, units_caller]); (try dsimp only [ktrTop]); omega))); intro D9 c9 n9 h9 tk9 hm9 sb9 off9 F9 N9; replace N9 := app1 N9; replace off9 := off9.off; (try dsimp only); (try k_sweep)) | ((with_reducible show wpAny _ _ (call (Value.ref 61) _) _ _ _); k_dflt (refine' lent_ctr (hs := [(_, _)]) ?zqB ?zqF ?zqX ?zqT ?zqhk ?zqN ?zqoff ?zqK ?zqhd ?zqhu ?_; (case zqB => k_asm); (case zqF => k_asm); (case zqX => k_asm); (case zqN => k_asm); (case zqT => k_asm); (case zqhk => first | exact rfl | assumption); (case zqoff => exact OffL.one (by assumption)); (case zqK => exact NIn.mono (by assumption) (by k_subL)); (case zqhd => ktr_room); (case zqhu => first | ktr_units | ((simp only [units_under_make, units_deeper, units_in1, Around.mark_units, units_caller]); (try dsimp only [ktrTop]); omega))); intro D9 c9 n9 h9 tk9 hm9 sb9 off9 F9 N9; replace N9 := app1 N9; replace off9 := off9.off; (try dsimp only); (try k_sweep)) | ((with_reducible show wpAny _ _ (compareOp CmpOp.NotEq (Value.ref _) (Value.ref _)) _ _ _); k_dflt (refine' ne_sameL ?zqN ?zqha ?zqhb ?zqhu ?_; (case zqN => k_asm); (case zqha => tb_start); (case zqhb => tb_start); (case zqhu => first | units_room | exact Nat.le_of_ble_eq_true rfl))) | ((with_reducible show wpAny _ _ (compareOp CmpOp.NotEq (Value.bool _) (Value.bool _)) _ _ _); k_dflt (refine' ne_boolS ?_)) | ((with_reducible show wpAny _ _ (compareOp CmpOp.NotEq _ _) _ _ _); k_dflt (refine' ne_root ?zqa ?zqb ?_; (case zqa => with_reducible assumption); (case zqb => first | with_reducible assumption | exact RootV.some))) | ((with_reducible show wpAny _ _ (call (Value.ref 270) _) _ _ _); k_dflt (refine' counted_ctr ?zqB ?zqF ?zqX ?zqT ?zqhk ?zqN ?zqoff ?zqho ?zqW ?zqWW ?zqhd ?zqhu ?_; (case zqB => k_asm); (case zqF => k_asm); (case zqX => k_asm); (case zqN => k_asm); (case zqT => k_asm); (case zqhk => first | exact rfl | assumption); (case zqoff => assumption); (case zqho => assumption); (case zqW => exact WIn.mono (by assumption) (by k_subL)); (case zqWW => exact WN.mono (by assumption) (by k_subL)); (case zqhd => ktr_room); (case zqhu => first | ktr_units | ((simp only [units_under_make, units_deeper, units_in1, Around.mark_units, units_caller]); (try dsimp only [ktrTop]); omega))); intro h9 tk9 F9; (try dsimp only); (try k_sweep)) | ((with_reducible show wpAny _ _ (newTuple _) _ _ _); k_dflt (refine' newTup ?zqF ?zqN ?zqoff ?zqz ?_; (case zqF => k_asm); (case zqN => k_asm); (case zqoff => assumption); (case zqz => exact Nat.le_of_ble_eq_true rfl)); intro D9 h9 n9 F9 N9 off9 sb9 hm9; (try k_sweep)) | ((with_reducible show wpAny _ _ (newTuple _) _ _ _); k_dflt (refine' newTup0 ?zqF ?zqN ?zqz ?_; (case zqF => k_asm); (case zqN => k_asm); (case zqz => exact Nat.le_of_ble_eq_true rfl)); intro D9 h9 n9 F9 N9 sb9 hm9; (try k_sweep)) | ((with_reducible show wpAny _ _ (subscriptTail _ _ (Value.ref _) (Value.int _ _)) _ _ _); k_dflt (refine' item_tup ?zqk1 ?zqk2 ?zqk3 ?zqk4 ?zqk5 ?_ ?zqk6; (case zqk1 => k_asm); (case zqk2 => tb_start); (case zqk3 => decide); (case zqk4 => decide); (case zqk5 => rfl); (case zqk6 => with_unfolding_all rfl); k_whole)) | walk1 | (dsimp only; walk1) | (leave1; walk_say "STEP leave1"; try dsimp only) | fail "no step")
end
end Mine
set_option maxRecDepth 1000000 in
set_option maxHeartbeats 0 in
theorem PySem.Challenge.cw_xm0169_01_holds : PySem.Challenge.rw_xm0169_01.Holds := by
  exact Mine.law0
