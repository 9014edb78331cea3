import PyProof.Rows.All
import Wide.All
import OpenK.AllK
import Wide.FinOn
import HandS.ForMost
import HandS.Wide
import HandS.Flow
import HandS.Style
import HandS.IsInst
import HandS.Conv
import HandS.SetFor
import HandS.Deep
import HandS.TupLe
import HandS.StrMore
import HandS.SortInts
import HandS.WideBits
import HandS.NoneIn
import HandS.More
import PySem.Challenge.RW_lotmeal_k31_whole_deal_or_paper
set_option Elab.async false
set_option linter.all false
set_option maxRecDepth 100000
set_option maxHeartbeats 4000000
namespace PV
open PySem PySem.Spec PyProof.Rows L2

abbrev D := PyData
abbrev Fg := PySem.W.Frag
/-- what never changes: a tuple, and what is frozen -/
def NL (o : HO) : Prop := (∃ xs, o = .tup xs) ∨ ∃ ob u, o = .frz ob u
theorem NL.not {xs : List V} (h : NL (.lst xs)) : False := by
  rcases h with ⟨_, h⟩ | ⟨_, _, h⟩ <;> cases h
def Keep (A : List Addr) (H H' : Hp) : Prop := ∀ a o, H a = some o → (a ∈ A ∨ NL o) → H' a = some o
def Lst (H : Hp) (a : Addr) : Prop := ∃ xs, H a = some (.lst xs)

/-- a list of the written part -/
def KL (K : Fg) (a : Addr) (xs : List V) : Prop := ∃ (o : Obj) (its : Array Value) (n : Nat), K.lookup a = some o ∧ o.cls = .type "list" ∧ o.dict = none ∧ o.data = .seq its n ∧ its.size ≤ sizeLine ∧ Vals xs its.toList
mutual
/-- v stands for the tree d; k: lists of the written part are allowed; A: the addresses of its lists, from the left -/
inductive Tr (K : Fg) (k : Bool) (H : Hp) : V → D → List Addr → Prop
  | non : Tr K k H .non .none []
  | bl (b : Bool) : Tr K k H (.bl b) (.bool b) []
  | int (i : Int) : Tr K k H (.int i) (.int i) []
  | str (x : Str) : Tr K k H (.str x) (.str x) []
  | lst {a : Addr} {xs : List V} {ds : List D} {A : List Addr} : Rd H a (.lst xs) → TrA K k H xs ds A → Tr K k H (.ref a) (.list ds) (a :: A)
  | kls {a : Addr} {xs : List V} {ds : List D} {A : List Addr} : k = true → KL K a xs → TrA K k H xs ds A → Tr K k H (.ref a) (.list ds) A
  | tup {a : Addr} {xs : List V} {ds : List D} {A : List Addr} : SqT K H a xs → TrA K k H xs ds A → Tr K k H (.ref a) (.tuple ds) A
inductive TrA (K : Fg) (k : Bool) (H : Hp) : List V → List D → List Addr → Prop
  | nil : TrA K k H [] [] []
  | cons {v : V} {vs : List V} {d : D} {ds : List D} {A B : List Addr} : Tr K k H v d A → TrA K k H vs ds B → TrA K k H (v :: vs) (d :: ds) (A ++ B)
end

section
variable {K : Fg} {k : Bool} {H H' H'' : Hp}
theorem Keep.of_same {A : List Addr} (h : Same H H') : Keep A H H' := fun a o e _ => h a o e
theorem Keep.sub {A B : List Addr} (h : Keep A H H') (s : ∀ a ∈ B, a ∈ A) : Keep B H H' := fun a o e q => h a o e (q.imp (s a) id)
theorem Keep.trans {A : List Addr} (h : Keep A H H') (g : Keep A H' H'') : Keep A H H'' := fun a o e q => g a o (h a o e q) q
theorem Keep.rdL {A : List Addr} {a : Addr} {xs : List V} (h : Keep A H H') (m : a ∈ A) (r : Rd H a (.lst xs)) : Rd H' a (.lst xs) := by
  rcases r with r | ⟨o, r⟩
  · exact .inl (h a _ r (.inl m))
  · exact .inr ⟨o, h a _ r (.inl m)⟩
theorem Keep.sqT {A : List Addr} {a : Addr} {xs : List V} (h : Keep A H H') (r : SqT K H a xs) : SqT K H' a xs := by
  rcases r with (r | ⟨o, r⟩) | r
  · exact .inl (.inl (h a _ r (.inr (.inl ⟨_, rfl⟩))))
  · exact .inl (.inr ⟨o, h a _ r (.inr (.inr ⟨_, _, rfl⟩))⟩)
  · exact .inr r
mutual
theorem Tr.keep : ∀ {d : D} {v : V} {A : List Addr}, Tr K k H v d A → Keep A H H' → Tr K k H' v d A
  | .none, _, _, h, _ => by cases h; exact .non
  | .bool b, _, _, h, _ => by cases h; exact .bl b
  | .int i, _, _, h, _ => by cases h; exact .int i
  | .str x, _, _, h, _ => by cases h; exact .str x
  | .list ds, _, _, h, g => by
    cases h with
    | lst r t => exact .lst (g.rdL List.mem_cons_self r) (TrA.keep t (g.sub fun a m => List.mem_cons_of_mem _ m))
    | kls e r t => exact .kls e r (TrA.keep t g)
  | .tuple ds, _, _, h, g => by
    cases h with
    | tup r t => exact .tup (g.sqT r) (TrA.keep t g)
  | .dict _, _, _, h, _ => by cases h
theorem TrA.keep : ∀ {ds : List D} {vs : List V} {A : List Addr}, TrA K k H vs ds A → Keep A H H' → TrA K k H' vs ds A
  | [], _, _, h, _ => by cases h; exact .nil
  | d :: ds, _, _, h, g => by
    cases h with
    | cons h1 h2 => exact .cons (Tr.keep h1 (g.sub fun a m => List.mem_append_left _ m)) (TrA.keep h2 (g.sub fun a m => List.mem_append_right _ m))
end
theorem Tr.same {d : D} {v : V} {A : List Addr} (h : Tr K k H v d A) (s : Same H H') : Tr K k H' v d A := h.keep (.of_same s)
theorem TrA.same {ds : List D} {vs : List V} {A : List Addr} (h : TrA K k H vs ds A) (s : Same H H') : TrA K k H' vs ds A := h.keep (.of_same s)
mutual
/-- the lists of a tree are tracked -/
theorem Tr.dom : ∀ {d : D} {v : V} {A : List Addr}, Tr K k H v d A → ∀ a ∈ A, ∃ o, H a = some o
  | .none, _, _, h => by cases h; simp
  | .bool b, _, _, h => by cases h; simp
  | .int i, _, _, h => by cases h; simp
  | .str x, _, _, h => by cases h; simp
  | .list ds, _, _, h => by
    cases h with
    | lst r t =>
      intro a m
      rcases List.mem_cons.mp m with rfl | m
      · rcases r with r | ⟨o, r⟩
        · exact ⟨_, r⟩
        · exact ⟨_, r⟩
      · exact TrA.dom t a m
    | kls e r t => exact TrA.dom t
  | .tuple ds, _, _, h => by
    cases h with
    | tup r t => exact TrA.dom t
  | .dict _, _, _, h => by cases h
theorem TrA.dom : ∀ {ds : List D} {vs : List V} {A : List Addr}, TrA K k H vs ds A → ∀ a ∈ A, ∃ o, H a = some o
  | [], _, _, h => by cases h; simp
  | d :: ds, _, _, h => by
    cases h with
    | cons h1 h2 =>
      intro a m
      rcases List.mem_append.mp m with m | m
      · exact Tr.dom h1 a m
      · exact TrA.dom h2 a m
end
mutual
theorem Tr.dp : ∀ {d : D} {v : V} {A : List Addr}, Tr K k H v d A → Dp K H v d
  | .none, _, _, h => by cases h; exact .non
  | .bool b, _, _, h => by cases h; exact .bl b
  | .int i, _, _, h => by cases h; exact .int i
  | .str x, _, _, h => by cases h; exact .str x
  | .list ds, _, _, h => by
    cases h with
    | lst r t => exact .lst (.inl r) (TrA.dp t)
    | kls e r t => exact .lst (.inr r) (TrA.dp t)
  | .tuple ds, _, _, h => by
    cases h with
    | tup r t => exact .tup r (TrA.dp t)
  | .dict _, _, _, h => by cases h
theorem TrA.dp : ∀ {ds : List D} {vs : List V} {A : List Addr}, TrA K k H vs ds A → DpAll K H vs ds
  | [], _, _, h => by cases h; exact .nil
  | d :: ds, _, _, h => by
    cases h with
    | cons h1 h2 => exact .cons (Tr.dp h1) (TrA.dp h2)
end
theorem TrA.len : ∀ {ds : List D} {vs : List V} {A : List Addr}, TrA K k H vs ds A → vs.length = ds.length
  | [], _, _, h => by cases h; rfl
  | d :: ds, _, _, h => by
    cases h with
    | cons h1 h2 => exact congrArg (· + 1) (TrA.len h2)
theorem TrA.at : ∀ {ds : List D} {vs : List V} {A : List Addr} {i : Nat} {d : D}, TrA K k H vs ds A → ds[i]? = some d → ∃ v B, vs[i]? = some v ∧ Tr K k H v d B ∧ (∀ b ∈ B, b ∈ A)
  | [], _, _, _, _, h, e => by simp at e
  | d :: ds, _, _, 0, _, h, e => by
    cases h with
    | cons h1 h2 =>
      cases e
      exact ⟨_, _, rfl, h1, fun b m => List.mem_append_left _ m⟩
  | d :: ds, _, _, i + 1, _, h, e => by
    cases h with
    | cons h1 h2 =>
      obtain ⟨v, B, e1, t, s⟩ := TrA.at h2 (i := i) (by simpa using e)
      exact ⟨v, B, by simpa using e1, t, fun b m => List.mem_append_right _ (s b m)⟩
theorem TrA.append : ∀ {ds es : List D} {vs us : List V} {A B : List Addr}, TrA K k H vs ds A → TrA K k H us es B → TrA K k H (vs ++ us) (ds ++ es) (A ++ B)
  | [], _, _, _, _, _, h, g => by cases h; exact g
  | d :: ds, _, _, _, _, _, h, g => by
    cases h with
    | cons h1 h2 =>
      rw [List.append_assoc]
      exact .cons h1 (TrA.append h2 g)
theorem TrA.drop : ∀ {ds : List D} {vs : List V} {A : List Addr} (n : Nat), TrA K k H vs ds A → ∃ B, TrA K k H (vs.drop n) (ds.drop n) B ∧ (∀ b ∈ B, b ∈ A) ∧ (A.Nodup → B.Nodup)
  | _, _, A, 0, h => ⟨A, h, fun _ m => m, id⟩
  | [], _, _, n + 1, h => by cases h; exact ⟨[], .nil, fun _ m => m, id⟩
  | d :: ds, _, _, n + 1, h => by
    cases h with
    | cons h1 h2 =>
      obtain ⟨B, t, s, nd⟩ := TrA.drop n h2
      exact ⟨B, t, fun b m => List.mem_append_right _ (s b m), fun h => nd (List.nodup_append.mp h).2.1⟩
theorem TrA.take : ∀ {ds : List D} {vs : List V} {A : List Addr} (n : Nat), TrA K k H vs ds A → ∃ B, TrA K k H (vs.take n) (ds.take n) B ∧ (∀ b ∈ B, b ∈ A) ∧ (A.Nodup → B.Nodup)
  | _, _, A, 0, h => ⟨[], .nil, (by simp), fun _ => List.nodup_nil⟩
  | [], _, _, n + 1, h => by cases h; exact ⟨[], .nil, fun _ m => m, id⟩
  | d :: ds, _, _, n + 1, h => by
    cases h with
    | @cons _ _ _ _ A1 B1 h1 h2 =>
      obtain ⟨B, t, s, nd⟩ := TrA.take n h2
      refine ⟨A1 ++ B, .cons h1 t, fun b m => (List.mem_append.mp m).elim (fun z => List.mem_append_left _ z) fun z => List.mem_append_right _ (s b z), fun h => ?_⟩
      obtain ⟨n1, n2, n3⟩ := List.nodup_append.mp h
      exact List.nodup_append.mpr ⟨n1, nd n2, fun a ha b hb => n3 a ha b (s b hb)⟩
/-! ### flat trees: no lists within -/
mutual
def flat : D → Bool
  | .list _ => false
  | .dict _ => false
  | .tuple ds => flatAll ds
  | .none => true
  | .bool _ => true
  | .int _ => true
  | .str _ => true
def flatAll : List D → Bool
  | [] => true
  | d :: ds => flat d && flatAll ds
end
mutual
theorem Tr.flat : ∀ {d : D} {v : V} {A : List Addr}, Tr K k H v d A → flat d = true → A = []
  | .none, _, _, h, _ => by cases h; rfl
  | .bool b, _, _, h, _ => by cases h; rfl
  | .int i, _, _, h, _ => by cases h; rfl
  | .str x, _, _, h, _ => by cases h; rfl
  | .list ds, _, _, h, f => by simp [PV.flat] at f
  | .tuple ds, _, _, h, f => by
    cases h with
    | tup r t => exact TrA.flat t (by simpa [PV.flat] using f)
  | .dict _, _, _, h, _ => by cases h
theorem TrA.flat : ∀ {ds : List D} {vs : List V} {A : List Addr}, TrA K k H vs ds A → flatAll ds = true → A = []
  | [], _, _, h, _ => by cases h; rfl
  | d :: ds, _, _, h, f => by
    cases h with
    | cons h1 h2 =>
      have f' : PV.flat d = true ∧ flatAll ds = true := by simpa [flatAll] using f
      rw [Tr.flat h1 f'.1, TrA.flat h2 f'.2]
      rfl
end
theorem flatAll_mem : ∀ {ds : List D}, flatAll ds = true ↔ ∀ d ∈ ds, flat d = true
  | [] => by simp [flatAll]
  | d :: ds => by
    have := flatAll_mem (ds := ds)
    simp [flatAll, this]
theorem flatAll_append (ds es : List D) : flatAll (ds ++ es) = (flatAll ds && flatAll es) := by
  induction ds with
  | nil => simp [flatAll]
  | cons d ds ih => simp [flatAll, ih, Bool.and_assoc]
theorem flatAll_map {α : Type} (f : α → D) (h : ∀ a, flat (f a) = true) (xs : List α) : flatAll (xs.map f) = true :=
  flatAll_mem.mpr fun d hd => by
    obtain ⟨a, _, rfl⟩ := List.mem_map.mp hd
    exact h a
/-- a list that is read -/
theorem Tr.list {ds : List D} {v : V} {A : List Addr} (t : Tr K k H v (.list ds) A) : ∃ a xs B, v = .ref a ∧ SqL K H a xs ∧ TrA K k H xs ds B ∧ (∀ b ∈ B, b ∈ A) ∧ ∀ H', Keep A H H' → SqL K H' a xs := by
  cases t with
  | lst r t => exact ⟨_, _, _, rfl, .inl r, t, fun b m => List.mem_cons_of_mem _ m, fun H' g => .inl (g.rdL List.mem_cons_self r)⟩
  | kls e r t => exact ⟨_, _, _, rfl, .inr r, t, fun b m => m, fun H' g => .inr r⟩
/-- a list of one's own -/
theorem Tr.mine {ds : List D} {v : V} {A : List Addr} (t : Tr K false H v (.list ds) A) : ∃ a xs B, v = .ref a ∧ Rd H a (.lst xs) ∧ TrA K false H xs ds B ∧ A = a :: B := by
  cases t with
  | lst r t => exact ⟨_, _, _, rfl, r, t, rfl⟩
  | kls e r t => cases e
mutual
theorem Tr.wide : ∀ {d : D} {v : V} {A : List Addr}, Tr K k H v d A → Tr K true H v d A
  | .none, _, _, h => by cases h; exact .non
  | .bool b, _, _, h => by cases h; exact .bl b
  | .int i, _, _, h => by cases h; exact .int i
  | .str x, _, _, h => by cases h; exact .str x
  | .list ds, _, _, h => by
    cases h with
    | lst r t => exact .lst r (TrA.wide t)
    | kls e r t => exact .kls rfl r (TrA.wide t)
  | .tuple ds, _, _, h => by
    cases h with
    | tup r t => exact .tup r (TrA.wide t)
  | .dict _, _, _, h => by cases h
theorem TrA.wide : ∀ {ds : List D} {vs : List V} {A : List Addr}, TrA K k H vs ds A → TrA K true H vs ds A
  | [], _, _, h => by cases h; exact .nil
  | d :: ds, _, _, h => by
    cases h with
    | cons h1 h2 => exact .cons (Tr.wide h1) (TrA.wide h2)
end
mutual
theorem Tr.narrow : ∀ {d : D} {v : V} {A : List Addr}, Tr K k H v d A → PV.flat d = true → Tr K false H v d A
  | .none, _, _, h, _ => by cases h; exact .non
  | .bool b, _, _, h, _ => by cases h; exact .bl b
  | .int i, _, _, h, _ => by cases h; exact .int i
  | .str x, _, _, h, _ => by cases h; exact .str x
  | .list ds, _, _, h, f => by simp [PV.flat] at f
  | .tuple ds, _, _, h, f => by
    cases h with
    | tup r t => exact .tup r (TrA.narrow t (by simpa [PV.flat] using f))
  | .dict _, _, _, h, _ => by cases h
theorem TrA.narrow : ∀ {ds : List D} {vs : List V} {A : List Addr}, TrA K k H vs ds A → flatAll ds = true → TrA K false H vs ds A
  | [], _, _, h, _ => by cases h; exact .nil
  | d :: ds, _, _, h, f => by
    cases h with
    | cons h1 h2 =>
      have f' : PV.flat d = true ∧ flatAll ds = true := by simpa [flatAll] using f
      exact .cons (Tr.narrow h1 f'.1) (TrA.narrow h2 f'.2)
end
end
end PV

namespace PV
open PySem PySem.Spec PyProof.Rows L2

/-- a def's names: what each holds, whether it owns the lists of it -/
abbrev Ev := List (Option (Bool × D))
abbrev FE := Ev → Option D
abbrev FA := Ev → Option (List D)
abbrev FT := Ev → Option Bool

def ER (K : Fg) (σ : L2.St) (H : Hp) (ε : Ev) (fp : Nat → List Addr) : Prop :=
  ∀ (i : Nat) (f : Bool) (d : D), ε[i]? = some (some (f, d)) → ∃ v, σ[i]? = some (some v) ∧ Tr K (!f) H v d (fp i)
/-- lists that are new since H, each once -/
def Frs (H H' : Hp) (A : List Addr) : Prop := A.Nodup ∧ ∀ a ∈ A, H a = none ∧ Lst H' a
/-- where an alias' lists come from -/
def Als (H : Hp) (fp : Nat → List Addr) (S : List Nat) (A : List Addr) : Prop := ∀ a ∈ A, H a = none ∨ ∃ i ∈ S, a ∈ fp i
theorem Frs.nil {H H' : Hp} : Frs H H' [] := ⟨List.nodup_nil, fun a h => absurd h (by simp)⟩
theorem Frs.back {H H1 H' : Hp} {A : List Addr} (h : Frs H1 H' A) (s : Same H H1) : Frs H H' A := ⟨h.1, fun a m => ⟨s.free (h.2 a m).1, (h.2 a m).2⟩⟩
theorem Frs.fwd {H H1 H' : Hp} {A : List Addr} (h : Frs H H1 A) (s : Same H1 H') : Frs H H' A := ⟨h.1, fun a m => ⟨(h.2 a m).1, let ⟨xs, e⟩ := (h.2 a m).2; ⟨xs, s a _ e⟩⟩⟩
theorem Frs.als {H H' : Hp} {A : List Addr} {fp : Nat → List Addr} {S : List Nat} (h : Frs H H' A) : Als H fp S A := fun a m => .inl (h.2 a m).1
theorem Als.back {H H1 : Hp} {A : List Addr} {fp : Nat → List Addr} {S : List Nat} (h : Als H1 fp S A) (s : Same H H1) : Als H fp S A := fun a m => (h a m).imp s.free id
theorem Als.left {H : Hp} {A : List Addr} {fp : Nat → List Addr} {S T : List Nat} (h : Als H fp S A) : Als H fp (S ++ T) A := fun a m => (h a m).imp id fun ⟨i, m, z⟩ => ⟨i, List.mem_append_left _ m, z⟩
theorem Als.right {H : Hp} {A : List Addr} {fp : Nat → List Addr} {S T : List Nat} (h : Als H fp T A) : Als H fp (S ++ T) A := fun a m => (h a m).imp id fun ⟨i, m, z⟩ => ⟨i, List.mem_append_right _ m, z⟩
theorem Als.app {H : Hp} {A B : List Addr} {fp : Nat → List Addr} {S : List Nat} (h : Als H fp S A) (g : Als H fp S B) : Als H fp S (A ++ B) := fun a m => (List.mem_append.mp m).elim (h a) (g a)
theorem Als.sub {H : Hp} {A B : List Addr} {fp : Nat → List Addr} {S : List Nat} (h : Als H fp S A) (g : ∀ b ∈ B, b ∈ A) : Als H fp S B := fun a m => h a (g a m)
theorem Als.nil {H : Hp} {fp : Nat → List Addr} {S : List Nat} : Als H fp S [] := fun a h => absurd h (by simp)
theorem ER.same {K : Fg} {σ : L2.St} {H H' : Hp} {ε : Ev} {fp : Nat → List Addr} (e : ER K σ H ε fp) (s : Same H H') : ER K σ H' ε fp := fun i f d h =>
  let ⟨v, h1, h2⟩ := e i f d h; ⟨v, h1, h2.same s⟩

/-! ### readings -/
def tEA (K : Fg) (F : FE) (S : List Nat) : TE := fun σ H Q => ∃ ε fp d, ER K σ H ε fp ∧ F ε = some d ∧ ∀ v H' A, Same H H' → Tr K true H' v d A → Als H fp S A → Q v H'
def tEF (K : Fg) (F : FE) : TE := fun σ H Q => ∃ ε fp d, ER K σ H ε fp ∧ F ε = some d ∧ ∀ v H' A, Same H H' → Tr K false H' v d A → Frs H H' A → Q v H'
def tET (K : Fg) (F : FT) : TT := fun σ H Q => ∃ ε fp b, ER K σ H ε fp ∧ F ε = some b ∧ ∀ H', Same H H' → Q b H'
def tAA (K : Fg) (F : FA) (S : List Nat) : TA := fun σ H Q => ∃ ε fp ds, ER K σ H ε fp ∧ F ε = some ds ∧ ∀ vs H' A, Same H H' → TrA K true H' vs ds A → Als H fp S A → Q vs H'
def tAF (K : Fg) (F : FA) : TA := fun σ H Q => ∃ ε fp ds, ER K σ H ε fp ∧ F ε = some ds ∧ ∀ vs H' A, Same H H' → TrA K false H' vs ds A → Frs H H' A → Q vs H'
abbrev EA (X : Cx) (e : Expr) (F : FE) (S : List Nat) : Prop := PE X e (tEA X.K F S)
abbrev EF (X : Cx) (e : Expr) (F : FE) : Prop := PE X e (tEF X.K F)
abbrev ET (X : Cx) (e : Expr) (F : FT) : Prop := PT X e (tET X.K F)
abbrev EW (X : Cx) (e : Expr) (F : FT) : Prop := PW X e (tET X.K F)
abbrev AA (X : Cx) (es : List Expr) (F : FA) (S : List Nat) : Prop := PA X es (tAA X.K F S)
abbrev AF (X : Cx) (es : List Expr) (F : FA) : Prop := PA X es (tAF X.K F)

theorem pe_imp {X : Cx} {e : Expr} {t t' : TE} (h : PE X e t) (g : ∀ σ H Q, t' σ H Q → t σ H Q) : PE X e t' := ⟨fun pins s σ H Q I q => h.run pins s σ H Q I (g σ H Q q)⟩
theorem pt_imp {X : Cx} {e : Expr} {t t' : TT} (h : PT X e t) (g : ∀ σ H Q, t' σ H Q → t σ H Q) : PT X e t' := ⟨fun pins s σ H Q I q => h.run pins s σ H Q I (g σ H Q q)⟩
theorem pw_imp {X : Cx} {e : Expr} {t t' : TT} (h : PW X e t) (g : ∀ σ H Q, t' σ H Q → t σ H Q) : PW X e t' := ⟨fun w pins s σ H Q I q => h.run w pins s σ H Q I (g σ H Q q)⟩
theorem pa_imp {X : Cx} {es : List Expr} {t t' : TA} (h : PA X es t) (g : ∀ σ H Q, t' σ H Q → t σ H Q) : PA X es t' := ⟨fun p pins s σ H Q I q => h.run p pins s σ H Q I (g σ H Q q)⟩
theorem ps_imp {X : Cx} {st : Stmt} {t t' : TS} (h : PS X st t) (g : ∀ De σ H, t' De σ H → t De σ H) : PS X st t' := ⟨fun pins s σ H De I q => h.run pins s σ H De I (g De σ H q)⟩
theorem pss_imp {X : Cx} {st : List Stmt} {t t' : TS} (h : PSs X st t) (g : ∀ De σ H, t' De σ H → t De σ H) : PSs X st t' := ⟨fun pins s σ H De I q => h.run pins s σ H De I (g De σ H q)⟩

/-! ### semantic words -/
def varD (i : Nat) : FE := fun ε => match ε[i]? with
  | some (some (_, d)) => some d
  | _ => none
def cD (d : D) : FE := fun _ => some d
def bin {α : Type} (f : D → D → Option α) (F G : FE) : Ev → Option α := fun ε => (F ε).bind fun d => (G ε).bind fun e => f d e
def un {α : Type} (f : D → Option α) (F : FE) : Ev → Option α := fun ε => (F ε).bind f
def boolD (F : FT) : FE := fun ε => (F ε).map .bool
def asB : D → Option Bool
  | .bool b => some b
  | _ => none
def asI : D → Option Int
  | .int b => some b
  | _ => none
def flatF (F : FE) : FE := un (fun d => if flat d = true then some d else none) F
def andT (F G : FT) : FT := fun ε => (F ε).bind fun b => if b = true then G ε else some false
def orT (F G : FT) : FT := fun ε => (F ε).bind fun b => if b = true then some true else G ε
def notT (F : FT) : FT := fun ε => (F ε).map (!·)
def ifD (T : FT) (F G : FE) : FE := fun ε => (T ε).bind fun b => if b = true then F ε else G ε
def nilA : FA := fun _ => some []
def consA (F : FE) (G : FA) : FA := fun ε => (F ε).bind fun d => (G ε).map fun ds => d :: ds
def callD (f : List D → Option D) (G : FA) : FE := fun ε => (G ε).bind f
def listD (G : FA) : FE := fun ε => (G ε).bind fun ds => if ds.length ≤ sizeLine then some (.list ds) else none
def tupD (G : FA) : FE := fun ε => (G ε).bind fun ds => if ds.length ≤ sizeLine then some (.tuple ds) else none

theorem bin_some {α : Type} {f : D → D → Option α} {F G : FE} {ε : Ev} {r : α} (h : bin f F G ε = some r) : ∃ d e, F ε = some d ∧ G ε = some e ∧ f d e = some r := by
  unfold bin at h
  obtain ⟨d, h1, h⟩ := Option.bind_eq_some_iff.mp h
  obtain ⟨e, h2, h⟩ := Option.bind_eq_some_iff.mp h
  exact ⟨d, e, h1, h2, h⟩
theorem un_some {α : Type} {f : D → Option α} {F : FE} {ε : Ev} {r : α} (h : un f F ε = some r) : ∃ d, F ε = some d ∧ f d = some r := Option.bind_eq_some_iff.mp h

section
variable {X : Cx} {a b c e : Expr} {es : List Expr} {F F2 F3 : FE} {G : FA} {T T2 : FT} {S S2 S3 : List Nat} {pos : Pos}

theorem ea_of (h : EF X e F) : EA X e F [] := pe_imp h fun σ H Q ⟨ε, fp, d, er, hd, k⟩ => ⟨ε, fp, d, er, hd, fun v H' A s t fr => k v H' A s t.wide fr.als⟩
theorem ef_flat (h : EA X e F S) : EF X e (flatF F) := pe_imp h fun σ H Q ⟨ε, fp, d, er, hd, k⟩ => by
  obtain ⟨d', h1, h2⟩ := un_some hd
  by_cases f : flat d' = true
  · rw [if_pos f] at h2
    cases h2
    exact ⟨ε, fp, d, er, h1, fun v H' A s t al => k v H' A s (t.narrow f) (by rw [t.flat f]; exact .nil)⟩
  · rw [if_neg f] at h2
    cases h2
theorem varD_some {i : Nat} {ε : Ev} {d : D} (h : varD i ε = some d) : ∃ f, ε[i]? = some (some (f, d)) := by
  unfold varD at h
  split at h
  · rename_i f d' q
    cases h
    exact ⟨f, q⟩
  · cases h
theorem ea_var (i : Nat) {x : Str} (hN : X.N[i]? = some x := by rfl) (hv : Vis X.env.scope x := by first | exact Or.inl rfl | exact Or.inr (Or.inl rfl) | exact Or.inr (Or.inr rfl)) (hd : (x == ("__debug__" : Str)) = false := by decide)
    (hcd : (x == ("__classdict__" : Str)) = false := by decide) : EA X (.Name x pos) (varD i) [i] := pe_imp (pe_var hN hv hd hcd) fun σ H Q ⟨ε, fp, d, er, hd, k⟩ => by
  obtain ⟨f, hf⟩ := varD_some hd
  obtain ⟨v, h1, h2⟩ := er i f d hf
  exact ⟨v, h1, k v H _ (.refl H) h2.wide fun a m => .inr ⟨i, by simp, m⟩⟩
/-- a value that is known and flat -/
theorem ef_con {v : V} {d : D} (h : PE X e (tC v)) (t : ∀ H, Tr X.K false H v d []) : EF X e (cD d) := pe_imp h fun σ H Q ⟨ε, fp, d', er, hd, k⟩ => by
  cases hd
  exact k v H [] (.refl H) (t H) .nil
theorem ef_int {i : Int} {j} : EF X (.Constant (.int i) j pos) (cD (.int i)) := ef_con pe_int fun _ => .int i
theorem ef_bl {i : Bool} {j} : EF X (.Constant (.bool i) j pos) (cD (.bool i)) := ef_con pe_bl fun _ => .bl i
theorem ef_str {i : Str} {j} : EF X (.Constant (.str i) j pos) (cD (.str i)) := ef_con pe_str fun _ => .str i
theorem ef_non {j} : EF X (.Constant .none j pos) (cD .none) := ef_con pe_non fun _ => .non

/-! ### operators -/
/-- an operator by values, its answer new -/
def rF2 (K : Fg) (f : D → D → Option D) : R2 := fun x y H Q => ∃ d e A B r, Tr K true H x d A ∧ Tr K true H y e B ∧ f d e = some r ∧ ∀ v H' C, Same H H' → Tr K false H' v r C → Frs H H' C → Q v H'
/-- .. its answer made of parts -/
def rA2 (K : Fg) (f : D → D → Option D) : R2 := fun x y H Q => ∃ d e A B r, Tr K true H x d A ∧ Tr K true H y e B ∧ f d e = some r ∧ ∀ v H' C, Same H H' → Tr K true H' v r C → (∀ a ∈ C, H a = none ∨ a ∈ A ∨ a ∈ B) → Q v H'
/-- .. a truth -/
def rB2 (K : Fg) (f : D → D → Option Bool) : R2 := fun x y H Q => ∃ d e A B r, Tr K true H x d A ∧ Tr K true H y e B ∧ f d e = some r ∧ Q (.bl r) H
theorem t2_F {K : Fg} {f : D → D → Option D} {σ : L2.St} {H : Hp} {Q : VK} (h : tEF K (bin f F F2) σ H Q) : tOp (rF2 K f) (tEA K F S) (tEA K F2 S2) σ H Q := by
  obtain ⟨ε, fp, r, er, hd, k⟩ := h
  obtain ⟨d, e, h1, h2, h3⟩ := bin_some hd
  exact ⟨ε, fp, d, er, h1, fun v H1 A s1 t1 _ => ⟨ε, fp, e, er.same s1, h2, fun u H2 B s2 t2 _ => ⟨d, e, A, B, r, t1.same s2, t2, h3, fun w H3 C s3 t3 fr => k w H3 C ((s1.trans s2).trans s3) t3 (fr.back (s1.trans s2))⟩⟩⟩
theorem t2_A {K : Fg} {f : D → D → Option D} {σ : L2.St} {H : Hp} {Q : VK} (h : tEA K (bin f F F2) (S ++ S2) σ H Q) : tOp (rA2 K f) (tEA K F S) (tEA K F2 S2) σ H Q := by
  obtain ⟨ε, fp, r, er, hd, k⟩ := h
  obtain ⟨d, e, h1, h2, h3⟩ := bin_some hd
  exact ⟨ε, fp, d, er, h1, fun v H1 A s1 t1 al1 => ⟨ε, fp, e, er.same s1, h2, fun u H2 B s2 t2 al2 => ⟨d, e, A, B, r, t1.same s2, t2, h3, fun w H3 C s3 t3 fr => k w H3 C ((s1.trans s2).trans s3) t3 fun a m => by
    rcases fr a m with z | z | z
    · exact .inl ((s1.trans s2).free z)
    · exact al1.left a z
    · exact (al2.back s1).right a z⟩⟩⟩
theorem t2_B {K : Fg} {f : D → D → Option Bool} {σ : L2.St} {H : Hp} {Q : VK} (h : tEF K (boolD (bin f F F2)) σ H Q) : tOp (rB2 K f) (tEA K F S) (tEA K F2 S2) σ H Q := by
  obtain ⟨ε, fp, r, er, hd, k⟩ := h
  obtain ⟨b, hd0, rfl⟩ := Option.map_eq_some_iff.mp hd; clear hd; have hd := hd0
  obtain ⟨d, e, h1, h2, h3⟩ := bin_some hd
  exact ⟨ε, fp, d, er, h1, fun v H1 A s1 t1 _ => ⟨ε, fp, e, er.same s1, h2, fun u H2 B s2 t2 _ => ⟨d, e, A, B, b, t1.same s2, t2, h3, k _ H2 [] (s1.trans s2) (.bl b) .nil⟩⟩⟩
theorem ef_op {op : Operator} {f : D → D → Option D} (ho : OpR X (binaryOp op) (rF2 X.K f)) (ha : EA X a F S) (hb : EA X b F2 S2) : EF X (.BinOp a op b pos) (bin f F F2) := pe_imp (pe_op ho ha hb) fun _ _ _ h => t2_F h
theorem ea_op {op : Operator} {f : D → D → Option D} (ho : OpR X (binaryOp op) (rA2 X.K f)) (ha : EA X a F S) (hb : EA X b F2 S2) : EA X (.BinOp a op b pos) (bin f F F2) (S ++ S2) := pe_imp (pe_op ho ha hb) fun _ _ _ h => t2_A h
theorem ef_cmp {op : CmpOp} {f : D → D → Option Bool} (ho : OpR X (compareOp op) (rB2 X.K f)) (ha : EA X a F S) (hb : EA X b F2 S2) (hm : behindInMarks op b = false) : EF X (.Compare a [op] [b] pos) (boolD (bin f F F2)) := pe_imp (pe_cmpR ho ha hb hm) fun _ _ _ h => t2_B h
theorem tT_of {K : Fg} {t : TE} (g : ∀ σ H Q, tEF K (boolD T) σ H Q → t σ H Q) {σ : L2.St} {H : Hp} {Q : Bool → Hp → Prop} (h : tET K T σ H Q) : tTest t σ H Q := g σ H _ (by
  obtain ⟨ε, fp, b, er, hd, k⟩ := h
  refine ⟨ε, fp, .bool b, er, ?_, fun v H' A s t _ => ?_⟩
  · unfold boolD
    rw [hd]
    rfl
  · cases t
    exact ⟨b, rfl, k H' s⟩)
theorem et_cmp {op : CmpOp} {f : D → D → Option Bool} (ho : OpR X (compareOp op) (rB2 X.K f)) (ha : EA X a F S) (hb : EA X b F2 S2) (hm : behindInMarks op b = false) : ET X (.Compare a [op] [b] pos) (bin f F F2) := pt_imp (pt_cmpR ho ha hb hm) fun _ _ _ h => tT_of (fun _ _ _ => t2_B) h
/-- a op b op' c -/
def chain (f g : D → D → Option Bool) (F F2 F3 : FE) : FT := fun ε => (F ε).bind fun d => (F2 ε).bind fun e => (f d e).bind fun b => if b = true then (F3 ε).bind fun c => g e c else some false
theorem t3_B {K : Fg} {f g : D → D → Option Bool} {σ : L2.St} {H : Hp} {Q : VK} (h : tEF K (boolD (chain f g F F2 F3)) σ H Q) : tChain (rB2 K f) (rB2 K g) (tEA K F S) (tEA K F2 S2) (tEA K F3 S3) σ H Q := by
  obtain ⟨ε, fp, r, er, hd, k⟩ := h
  obtain ⟨b, hd0, rfl⟩ := Option.map_eq_some_iff.mp hd; clear hd; have hd := hd0
  unfold chain at hd
  obtain ⟨d, h1, hd⟩ := Option.bind_eq_some_iff.mp hd
  obtain ⟨e, h2, hd⟩ := Option.bind_eq_some_iff.mp hd
  obtain ⟨b1, h3, hd⟩ := Option.bind_eq_some_iff.mp hd
  refine ⟨ε, fp, d, er, h1, fun v H1 A s1 t1 _ => ⟨ε, fp, e, er.same s1, h2, fun u H2 B s2 t2 _ => ⟨d, e, A, B, b1, t1.same s2, t2, h3, b1, rfl, ?_⟩⟩⟩
  cases b1 with
  | false =>
    rw [if_neg Bool.false_ne_true] at hd
    cases hd
    exact iteF (k _ H2 [] (s1.trans s2) (.bl false) .nil)
  | true =>
    rw [if_pos rfl] at hd
    obtain ⟨c', h4, hd⟩ := Option.bind_eq_some_iff.mp hd
    exact iteT ⟨ε, fp, c', er.same (s1.trans s2), h4, fun w H3 C s3 t3 _ => ⟨e, c', B, C, b, t2.same s3, t3, hd, k _ H3 [] ((s1.trans s2).trans s3) (.bl b) .nil⟩⟩
theorem ef_chain {op op' : CmpOp} {f g : D → D → Option Bool} (ho : OpR X (compareOp op) (rB2 X.K f)) (ho' : OpR X (compareOp op') (rB2 X.K g)) (ha : EA X a F S) (hb : EA X b F2 S2) (hc : EA X c F3 S3)
    (hm : lastMarks [op, op'] [b, c] = false := by with_unfolding_all rfl) : EF X (.Compare a [op, op'] [b, c] pos) (boolD (chain f g F F2 F3)) := pe_imp (pe_chain ho ho' ha hb hc hm) fun _ _ _ h => t3_B h
theorem et_chain {op op' : CmpOp} {f g : D → D → Option Bool} (ho : OpR X (compareOp op) (rB2 X.K f)) (ho' : OpR X (compareOp op') (rB2 X.K g)) (ha : EA X a F S) (hb : EA X b F2 S2) (hc : EA X c F3 S3)
    (hm : lastMarks [op, op'] [b, c] = false := by with_unfolding_all rfl) : ET X (.Compare a [op, op'] [b, c] pos) (chain f g F F2 F3) := pt_imp (pt_chain ho ho' ha hb hc hm) fun _ _ _ h => tT_of (fun _ _ _ => t3_B) h
theorem ef_un {op : UnaryOp} {f : D → Option D} (ho : UnR X (unaryOp op) fun x H Q => ∃ d A r, Tr X.K true H x d A ∧ f d = some r ∧ ∀ v H' C, Same H H' → Tr X.K false H' v r C → Frs H H' C → Q v H') (ha : EA X a F S) : EF X (.UnaryOp op a pos) (un f F) :=
  pe_imp (pe_un ho ha) fun σ H Q ⟨ε, fp, r, er, hd, k⟩ => by
    obtain ⟨d, h1, h2⟩ := un_some hd
    exact ⟨ε, fp, d, er, h1, fun v H1 A s1 t1 _ => ⟨d, A, r, t1, h2, fun w H2 C s2 t2 fr => k w H2 C (s1.trans s2) t2 (fr.back s1)⟩⟩

/-! ### tests -/
theorem et_val (h : EA X e F S) (he : ∀ whole, isTrue e X.env whole = (do let v ← whole; standAt e.pos; holding [v] (truthy v)) := by intro _; rfl) : ET X e (un asB F) := pt_imp (pt_val h he) fun σ H Q ⟨ε, fp, b, er, hd, k⟩ => by
  obtain ⟨d, h1, h2⟩ := un_some hd
  refine ⟨ε, fp, d, er, h1, fun v H1 A s1 t1 _ => ?_⟩
  cases d <;> simp [asB] at h2
  cases t1
  exact ⟨_, rfl, h2 ▸ k H1 s1⟩
theorem et_not (h : ET X a T) : ET X (.UnaryOp .Not a pos) (notT T) := pt_imp (pt_not h) fun σ H Q ⟨ε, fp, b, er, hd, k⟩ => by
  obtain ⟨b', hd0, rfl⟩ := Option.map_eq_some_iff.mp hd; clear hd; have hd := hd0
  exact ⟨ε, fp, b', er, hd, fun H' s => k H' s⟩
theorem ew_and1 (h : ET X a T) : EW X (.BoolOp .And [a] pos) T := pw_and1 h
theorem ew_or1 (h : ET X a T) : EW X (.BoolOp .Or [a] pos) T := pw_or1 h
theorem ew_and {rest : List Expr} (h : ET X a T) (g : EW X (.BoolOp .And (b :: rest) pos) T2) : EW X (.BoolOp .And (a :: b :: rest) pos) (andT T T2) := pw_imp (pw_and h g) fun σ H Q ⟨ε, fp, b', er, hd, k⟩ => by
  obtain ⟨b1, h1, h2⟩ := Option.bind_eq_some_iff.mp hd
  refine ⟨ε, fp, b1, er, h1, fun H' s => ?_⟩
  cases b1 with
  | true =>
    rw [if_pos rfl] at h2
    exact iteT ⟨ε, fp, b', er.same s, h2, fun H'' s' => k H'' (s.trans s')⟩
  | false =>
    rw [if_neg Bool.false_ne_true] at h2
    cases h2
    exact iteF (k H' s)
theorem ew_or {rest : List Expr} (h : ET X a T) (g : EW X (.BoolOp .Or (b :: rest) pos) T2) : EW X (.BoolOp .Or (a :: b :: rest) pos) (orT T T2) := pw_imp (pw_or h g) fun σ H Q ⟨ε, fp, b', er, hd, k⟩ => by
  obtain ⟨b1, h1, h2⟩ := Option.bind_eq_some_iff.mp hd
  refine ⟨ε, fp, b1, er, h1, fun H' s => ?_⟩
  cases b1 with
  | true =>
    rw [if_pos rfl] at h2
    cases h2
    exact iteT (k H' s)
  | false =>
    rw [if_neg Bool.false_ne_true] at h2
    exact iteF ⟨ε, fp, b', er.same s, h2, fun H'' s' => k H'' (s.trans s')⟩
/-- and, or, not as values -/
theorem boolD_some {ε : Ev} {d : D} (h : boolD T ε = some d) : ∃ b, T ε = some b ∧ d = .bool b := by
  obtain ⟨b, h1, h2⟩ := Option.map_eq_some_iff.mp h
  exact ⟨b, h1, h2.symm⟩
/-- an expression that gives a truth -/
abbrev EB (X : Cx) (e : Expr) (T : FT) : Prop := PE X e (tEF X.K (boolD T))
theorem eb_val (h : EA X e F S) : EB X e (un asB F) := pe_imp h fun σ H Q ⟨ε, fp, d, er, hd, k⟩ => by
  obtain ⟨b, hd0, rfl⟩ := boolD_some hd; clear hd; have hd := hd0
  obtain ⟨d, h1, h2⟩ := un_some hd
  cases d <;> simp [asB] at h2
  subst h2
  exact ⟨ε, fp, _, er, h1, fun v H' A s t _ => k v H' A s (t.narrow (by simp [flat])) (by rw [t.flat (by simp [flat])]; exact .nil)⟩
theorem eb_one {op} (h : EB X a T) : EB X (.BoolOp op [a] pos) T := pe_one h
theorem eb_and {rest : List Expr} (h : EB X a T) (g : EB X (.BoolOp .And (b :: rest) pos) T2) : EB X (.BoolOp .And (a :: b :: rest) pos) (andT T T2) := pe_imp (pe_and h g) fun σ H Q ⟨ε, fp, d, er, hd, k⟩ => by
  obtain ⟨b', hd0, rfl⟩ := boolD_some hd; clear hd; have hd := hd0
  obtain ⟨b1, h1, h2⟩ := Option.bind_eq_some_iff.mp hd
  refine ⟨ε, fp, .bool b1, er, by simp [boolD, h1], fun v H' A s t _ => ?_⟩
  cases t
  refine ⟨b1, rfl, ?_⟩
  cases b1 with
  | true =>
    rw [if_pos rfl] at h2
    exact iteT ⟨ε, fp, .bool b', er.same s, by simp [boolD, h2], fun v H'' A s' t fr => k v H'' A (s.trans s') t (fr.back s)⟩
  | false =>
    rw [if_neg Bool.false_ne_true] at h2
    cases h2
    exact iteF (k _ H' [] s (.bl false) .nil)
theorem eb_or {rest : List Expr} (h : EB X a T) (g : EB X (.BoolOp .Or (b :: rest) pos) T2) : EB X (.BoolOp .Or (a :: b :: rest) pos) (orT T T2) := pe_imp (pe_or h g) fun σ H Q ⟨ε, fp, d, er, hd, k⟩ => by
  obtain ⟨b', hd0, rfl⟩ := boolD_some hd; clear hd; have hd := hd0
  obtain ⟨b1, h1, h2⟩ := Option.bind_eq_some_iff.mp hd
  refine ⟨ε, fp, .bool b1, er, by simp [boolD, h1], fun v H' A s t _ => ?_⟩
  cases t
  refine ⟨b1, rfl, ?_⟩
  cases b1 with
  | true =>
    rw [if_pos rfl] at h2
    cases h2
    exact iteT (k _ H' [] s (.bl true) .nil)
  | false =>
    rw [if_neg Bool.false_ne_true] at h2
    exact iteF ⟨ε, fp, .bool b', er.same s, by simp [boolD, h2], fun v H'' A s' t fr => k v H'' A (s.trans s') t (fr.back s)⟩
theorem eb_not (h : EB X a T) : EB X (.UnaryOp .Not a pos) (notT T) := pe_imp (pe_not h) fun σ H Q ⟨ε, fp, d, er, hd, k⟩ => by
  obtain ⟨b', hd0, rfl⟩ := boolD_some hd; clear hd; have hd := hd0
  obtain ⟨b1, h1, rfl⟩ := Option.map_eq_some_iff.mp hd
  refine ⟨ε, fp, .bool b1, er, by simp [boolD, h1], fun v H' A s t _ => ?_⟩
  cases t
  exact ⟨b1, rfl, k _ H' [] s (.bl _) .nil⟩
theorem ea_if (ht : ET X c T) (ha : EA X a F S) (hb : EA X b F2 S2) : EA X (.IfExp c a b pos) (ifD T F F2) (S ++ S2) := pe_imp (pe_ifExp ht ha hb) fun σ H Q ⟨ε, fp, d, er, hd, k⟩ => by
  obtain ⟨b1, h1, h2⟩ := Option.bind_eq_some_iff.mp hd
  refine ⟨ε, fp, b1, er, h1, fun H' s => ?_⟩
  cases b1 with
  | true =>
    rw [if_pos rfl] at h2
    exact iteT ⟨ε, fp, d, er.same s, h2, fun v H'' A s' t al => k v H'' A (s.trans s') t (al.back s).left⟩
  | false =>
    rw [if_neg Bool.false_ne_true] at h2
    exact iteF ⟨ε, fp, d, er.same s, h2, fun v H'' A s' t al => k v H'' A (s.trans s') t (al.back s).right⟩

/-! ### argument lists, displays -/
theorem consA_some {ε : Ev} {ds : List D} (h : consA F G ε = some ds) : ∃ d es, F ε = some d ∧ G ε = some es ∧ ds = d :: es := by
  obtain ⟨d, h1, h⟩ := Option.bind_eq_some_iff.mp h
  obtain ⟨es, h2, h⟩ := Option.map_eq_some_iff.mp h
  exact ⟨d, es, h1, h2, h.symm⟩
theorem aa_nil : AA X [] nilA [] := pa_imp pa_nil fun σ H Q ⟨ε, fp, ds, er, hd, k⟩ => by
  cases hd
  exact k [] H [] (.refl H) .nil .nil
theorem aa_cons (h : EA X e F S) (g : AA X es G S2) (hs : starEach (e :: es) X.env = (false, eval e X.env) :: starEach es X.env := by rfl) : AA X (e :: es) (consA F G) (S ++ S2) := pa_imp (pa_cons h g hs) fun σ H Q ⟨ε, fp, ds, er, hd, k⟩ => by
  obtain ⟨d, es, h1, h2, rfl⟩ := consA_some hd
  exact ⟨ε, fp, d, er, h1, fun v H1 A s1 t1 al1 => ⟨ε, fp, es, er.same s1, h2, fun vs H2 B s2 t2 al2 => k _ H2 _ (s1.trans s2) (.cons (t1.same s2) t2) (al1.left.app (al2.back s1).right)⟩⟩
theorem af_nil : AF X [] nilA := pa_imp pa_nil fun σ H Q ⟨ε, fp, ds, er, hd, k⟩ => by
  cases hd
  exact k [] H [] (.refl H) .nil .nil
theorem Frs.app {K : Fg} {k : Bool} {H H1 H2 : Hp} {v : V} {d : D} {A B : List Addr} (h : Frs H H1 A) (t : Tr K k H1 v d A) (s1 : Same H H1) (s2 : Same H1 H2) (g : Frs H1 H2 B) : Frs H H2 (A ++ B) := by
  have h' := h.fwd s2
  have g' := g.back s1
  refine ⟨List.nodup_append.mpr ⟨h.1, g.1, fun a ha b hb e => ?_⟩, fun a m => (List.mem_append.mp m).elim (h'.2 a) (g'.2 a)⟩
  subst e
  obtain ⟨o, e⟩ := t.dom a ha
  rw [(g.2 a hb).1] at e
  cases e
theorem af_cons (h : EF X e F) (g : AF X es G) (hs : starEach (e :: es) X.env = (false, eval e X.env) :: starEach es X.env := by rfl) : AF X (e :: es) (consA F G) := pa_imp (pa_cons h g hs) fun σ H Q ⟨ε, fp, ds, er, hd, k⟩ => by
  obtain ⟨d, es, h1, h2, rfl⟩ := consA_some hd
  exact ⟨ε, fp, d, er, h1, fun v H1 A s1 t1 f1 => ⟨ε, fp, es, er.same s1, h2, fun vs H2 B s2 t2 f2 => k _ H2 _ (s1.trans s2) (.cons (t1.same s2) t2) (f1.app t1 s1 s2 f2)⟩⟩
theorem same_upd {H : Hp} {p : Addr} {o : HO} (h : H p = none) : Same H (upd H p o) := fun b x e => by
  rw [upd_ne (ne_of_none e h)]
  exact e
/-- a list just laid -/
theorem Frs.new {K : Fg} {k : Bool} {H H1 : Hp} {vs : List V} {ds : List D} {A : List Addr} {p : Addr} (f : Frs H H1 A) (t : TrA K k H1 vs ds A) (s1 : Same H H1) (n : H1 p = none) : Frs H (upd H1 p (.lst vs)) (p :: A) := by
  have s2 := same_upd (o := .lst vs) n
  have f' := f.fwd s2
  refine ⟨List.nodup_cons.mpr ⟨fun m => ?_, f.1⟩, fun a m => ?_⟩
  · obtain ⟨o, e⟩ := t.dom p m
    rw [n] at e
    cases e
  · rcases List.mem_cons.mp m with rfl | m
    · exact ⟨s1.free n, _, upd_same⟩
    · exact f'.2 a m
theorem ef_lst (h : AF X es G) : EF X (.List es pos) (listD G) := pe_imp (pe_lst h) fun σ H Q ⟨ε, fp, d, er, hd, k⟩ => by
  obtain ⟨ds, h1, h2⟩ := Option.bind_eq_some_iff.mp hd
  by_cases z : ds.length ≤ sizeLine
  · rw [if_pos z] at h2
    cases h2
    refine ⟨ε, fp, ds, er, h1, fun vs H1 A s1 t1 f1 => ⟨by rw [t1.len]; exact z, fun p n => ?_⟩⟩
    have s2 := same_upd (o := .lst vs) n
    exact k _ _ _ (s1.trans s2) (.lst (.inl upd_same) (t1.same s2)) (f1.new t1 s1 n)
  · rw [if_neg z] at h2
    cases h2
theorem ea_lst (h : AA X es G S) : EA X (.List es pos) (listD G) S := pe_imp (pe_lst h) fun σ H Q ⟨ε, fp, d, er, hd, k⟩ => by
  obtain ⟨ds, h1, h2⟩ := Option.bind_eq_some_iff.mp hd
  by_cases z : ds.length ≤ sizeLine
  · rw [if_pos z] at h2
    cases h2
    refine ⟨ε, fp, ds, er, h1, fun vs H1 A s1 t1 f1 => ⟨by rw [t1.len]; exact z, fun p n => ?_⟩⟩
    have s2 := same_upd (o := .lst vs) n
    refine k _ _ _ (s1.trans s2) (.lst (.inl upd_same) (t1.same s2)) fun a m => ?_
    rcases List.mem_cons.mp m with rfl | m
    · exact .inl (s1.free n)
    · exact f1 a m
  · rw [if_neg z] at h2
    cases h2
theorem ef_tup {x1} (h : AF X es G) : EF X (.Tuple es x1 pos) (tupD G) := pe_imp (pe_tup h) fun σ H Q ⟨ε, fp, d, er, hd, k⟩ => by
  obtain ⟨ds, h1, h2⟩ := Option.bind_eq_some_iff.mp hd
  by_cases z : ds.length ≤ sizeLine
  · rw [if_pos z] at h2
    cases h2
    refine ⟨ε, fp, ds, er, h1, fun vs H1 A s1 t1 f1 => ⟨by rw [t1.len]; exact z, fun p n => ?_⟩⟩
    have s2 := same_upd (o := .tup vs) n
    exact k _ _ _ (s1.trans s2) (.tup (.of upd_same) (t1.same s2)) (f1.fwd s2)
  · rw [if_neg z] at h2
    cases h2
theorem ea_tup {x1} (h : AA X es G S) : EA X (.Tuple es x1 pos) (tupD G) S := pe_imp (pe_tup h) fun σ H Q ⟨ε, fp, d, er, hd, k⟩ => by
  obtain ⟨ds, h1, h2⟩ := Option.bind_eq_some_iff.mp hd
  by_cases z : ds.length ≤ sizeLine
  · rw [if_pos z] at h2
    cases h2
    refine ⟨ε, fp, ds, er, h1, fun vs H1 A s1 t1 f1 => ⟨by rw [t1.len]; exact z, fun p n => ?_⟩⟩
    have s2 := same_upd (o := .tup vs) n
    exact k _ _ _ (s1.trans s2) (.tup (.of upd_same) (t1.same s2)) f1
  · rw [if_neg z] at h2
    cases h2

/-! ### calls -/
/-- a def's promise by a function on trees: the answer new, all else as it was -/
def rF (K : Fg) (f : List D → Option D) : List V → Hp → VK → Prop := fun vs H Q => ∃ ds A d, TrA K true H vs ds A ∧ f ds = some d ∧ ∀ v H' B, Same H H' → Tr K false H' v d B → Frs H H' B → Q v H'
def spD (K : Fg) (f : List D → Option D) : Sp := fun vs H Q _ => rF K f vs H Q
theorem tA_F {K : Fg} {f : List D → Option D} {σ : L2.St} {H : Hp} {Q : VK} {dvs : List V} {dds : List D} (td : ∀ H, TrA K true H dvs dds []) (h : tEF K (callD (fun ds => f (ds ++ dds)) G) σ H Q) : tAA K G S σ H fun vs H1 => rF K f (vs ++ dvs) H1 Q := by
  obtain ⟨ε, fp, r, er, hd, k⟩ := h
  obtain ⟨ds, h1, h2⟩ := Option.bind_eq_some_iff.mp hd
  exact ⟨ε, fp, ds, er, h1, fun vs H1 A s1 t1 _ => ⟨ds ++ dds, _, r, t1.append (td H1), h2, fun v H' B s t fr => k v H' B (s1.trans s) t (fr.back s1)⟩⟩
theorem tA_F0 {K : Fg} {f : List D → Option D} {σ : L2.St} {H : Hp} {Q : VK} (h : tEF K (callD f G) σ H Q) : tAA K G S σ H fun vs H1 => rF K f vs H1 Q := by
  obtain ⟨ε, fp, r, er, hd, k⟩ := h
  obtain ⟨ds, h1, h2⟩ := Option.bind_eq_some_iff.mp hd
  exact ⟨ε, fp, ds, er, h1, fun vs H1 A s1 t1 _ => ⟨ds, _, r, t1, h2, fun v H' B s t fr => k v H' B (s1.trans s) t (fr.back s1)⟩⟩
theorem ef_call {k : Nat} {fa : Addr} {fd : FuncData} {ps : List Str} {f : List D → Option D} {x : Str} {p : Pos} (Fk : FnOk X.prog X.w X.K X.mg X.base CX0 k fa fd ps (spD X.K f)) (hr : Room k X.A) (hg : Gl X x) (hm : X.mg x = some (.ref fa)) (hk : PySem.W.keepIn X.K (.ref fa) = true)
    (hb : Binds X.K fd ps []) (ha : AA X (e :: es) G S) (hdb : (x == ("__debug__" : Str)) = false := by decide) (he : starEach (e :: es) X.env = (false, eval e X.env) :: starEach es X.env := by rfl) (hpl : (backTo pos (starEach es X.env)).any (·.1) = false := by rfl) :
    EF X (.Call (.Name x p) (e :: es) [] pos) (callD f G) := pe_imp (pe_call Fk hr hg hm hk hb .nil pass0 ha hdb he hpl) fun σ H Q h => by
  obtain ⟨ε, fp, r, er, hd, k⟩ := h
  obtain ⟨ds, h1, h2⟩ := Option.bind_eq_some_iff.mp hd
  exact ⟨ε, fp, ds, er, h1, fun vs H1 A s1 t1 _ => ⟨ds, A, r, by rw [List.append_nil]; exact t1, h2, fun v H' B s t fr => k v H' B (s1.trans s) t (fr.back s1)⟩⟩
/-- .. with defaults, which are flat -/
theorem ef_callD {k : Nat} {fa : Addr} {fd : FuncData} {ps : List Str} {f : List D → Option D} {x : Str} {p : Pos} {dvs : List V} {dus : List Value} {dds : List D} (Fk : FnOk X.prog X.w X.K X.mg X.base CX0 k fa fd ps (spD X.K f)) (hr : Room k X.A) (hg : Gl X x) (hm : X.mg x = some (.ref fa)) (hk : PySem.W.keepIn X.K (.ref fa) = true)
    (hb : Binds X.K fd ps dus) (hd : Vals dvs dus) (td : ∀ H, TrA X.K true H dvs dds []) (ha : AA X (e :: es) G S) (hdb : (x == ("__debug__" : Str)) = false := by decide) (he : starEach (e :: es) X.env = (false, eval e X.env) :: starEach es X.env := by rfl) (hpl : (backTo pos (starEach es X.env)).any (·.1) = false := by rfl) :
    EF X (.Call (.Name x p) (e :: es) [] pos) (callD (fun ds => f (ds ++ dds)) G) := pe_imp (pe_call Fk hr hg hm hk hb hd pass0 ha hdb he hpl) fun σ H Q h => tA_F td h
theorem ef_callB {id : String} {f : List D → Option D} {x : Str} {p : Pos} (hc : CallR X (.builtin id) (rF X.K f)) (hg : Gl X x) (hm : X.mg x = none) (hv : bootBuiltins x = some (.builtin id)) (ha : AA X (e :: es) G S) (hn : x ≠ "__name__" := by decide) (hdb : (x == ("__debug__" : Str)) = false := by decide)
    (he : starEach (e :: es) X.env = (false, eval e X.env) :: starEach es X.env := by rfl) (hpl : (backTo pos (starEach es X.env)).any (·.1) = false := by rfl) : EF X (.Call (.Name x p) (e :: es) [] pos) (callD f G) :=
  pe_imp (pe_callB hc hg hm hv ha hn hdb he hpl) fun σ H Q h => tA_F0 h
theorem ef_callT {id : String} {f : List D → Option D} {x : Str} {p : Pos} (hc : CallR X (.type id) (rF X.K f)) (hg : Gl X x) (hm : X.mg x = none) (hv : bootBuiltins x = some (.type id)) (ha : AA X (e :: es) G S) (hn : x ≠ "__name__" := by decide) (hdb : (x == ("__debug__" : Str)) = false := by decide)
    (he : starEach (e :: es) X.env = (false, eval e X.env) :: starEach es X.env := by rfl) (hpl : (backTo pos (starEach es X.env)).any (·.1) = false := by rfl) : EF X (.Call (.Name x p) (e :: es) [] pos) (callD f G) :=
  pe_imp (pe_callTy hc hg hm hv ha hn hdb he hpl) fun σ H Q h => tA_F0 h
end
end PV

namespace PV
open PySem PySem.Spec PyProof.Rows L2

inductive Fl where
  | nx | bk | ct | rt (d : D)
abbrev FS := Ev → Option (Fl × Ev)
def OW (H0 H : Hp) (ε : Ev) (fp : Nat → List Addr) : Prop := ∀ (i : Nat) (d : D), ε[i]? = some (some (true, d)) →
  (fp i).Nodup ∧ (∀ a ∈ fp i, H0 a = none ∧ Lst H a) ∧ ∀ (j : Nat), j ≠ i → ∀ a ∈ fp i, a ∉ fp j
/-- the state of a def's body: H0 is what nobody here writes -/
structure SRf (K : Fg) (H0 : Hp) (σ : L2.St) (H : Hp) (ε : Ev) (fp : Nat → List Addr) : Prop where
  same : Same H0 H
  len : σ.length = ε.length
  er : ER K σ H ε fp
  dm : ∀ j, ∀ a ∈ fp j, ∃ o, H a = some o
  ow : OW H0 H ε fp
def SR (K : Fg) (H0 : Hp) (σ : L2.St) (H : Hp) (ε : Ev) : Prop := ∃ fp, SRf K H0 σ H ε fp
def PostS (K : Fg) (H0 : Hp) (De : Ends) (r : Fl × Ev) : Prop := match r.1 with
  | .nx => ∀ σ' H', SR K H0 σ' H' r.2 → De.nx σ' H'
  | .bk => ∀ σ' H', SR K H0 σ' H' r.2 → De.bk σ' H'
  | .ct => ∀ σ' H', SR K H0 σ' H' r.2 → De.ct σ' H'
  | .rt d => ∀ v H' A, Same H0 H' → Tr K false H' v d A → Frs H0 H' A → De.rt v H'
def tS (K : Fg) (F : FS) : TS := fun De σ H => ∃ H0 ε r, SR K H0 σ H ε ∧ F ε = some r ∧ PostS K H0 De r
abbrev SS (X : Cx) (st : Stmt) (F : FS) : Prop := PS X st (tS X.K F)
abbrev SSs (X : Cx) (sts : List Stmt) (F : FS) : Prop := PSs X sts (tS X.K F)

/-! ### semantic words -/
def nextS : FS := fun ε => some (.nx, ε)
def breakS : FS := fun ε => some (.bk, ε)
def contS : FS := fun ε => some (.ct, ε)
def neverS : FS := fun _ => none
def seqR (G : FS) (r : Fl × Ev) : Option (Fl × Ev) := match r.1 with
  | .nx => G r.2
  | .bk => some r
  | .ct => some r
  | .rt _ => some r
def seqS (F G : FS) : FS := fun ε => (F ε).bind (seqR G)
def ifS (T : FT) (F G : FS) : FS := fun ε => (T ε).bind fun b => if b = true then F ε else G ε
def setS (i : Nat) (F : FE) : FS := fun ε => (F ε).map fun d => (.nx, ε.set i (some (true, d)))
def unown (i : Nat) (ε : Ev) : Ev := match ε[i]? with
  | some (some (_, d)) => ε.set i (some (false, d))
  | _ => ε
def freeze : List Nat → Ev → Ev
  | [], ε => ε
  | i :: S, ε => freeze S (unown i ε)
def setA (i : Nat) (F : FE) (S : List Nat) : FS := fun ε => (F ε).map fun d => (.nx, (if flat d = true then ε else freeze S ε).set i (some (flat d, d)))
def retS (F : FE) : FS := fun ε => (F ε).map fun d => (.rt d, ε)
def ownD (i : Nat) : FE := fun ε => match ε[i]? with
  | some (some (true, d)) => some d
  | _ => none
abbrev TD := D → Ev → Option Ev
def nameT (i : Nat) : TD := fun d ε => some (ε.set i (some (flat d, d)))
def goT : List TD → List D → Ev → Option Ev
  | [], [], ε => some ε
  | t :: ts, d :: ds, ε => (t d ε).bind (goT ts ds)
  | _, _, _ => none
def tupT (ts : List TD) : TD := fun d ε => match d with
  | .tuple ds => goT ts ds ε
  | _ => none
def unpS (T : TD) (F : FE) (S : List Nat) : FS := fun ε => (F ε).bind fun d => (T d (freeze S ε)).map fun ε' => (.nx, ε')
def loopR (L : FS) (r : Fl × Ev) : Option (Fl × Ev) := match r.1 with
  | .nx => L r.2
  | .ct => L r.2
  | .bk => some (.nx, r.2)
  | .rt _ => some r
def loopS (T : TD) (B : FS) : List D → FS
  | [], ε => some (.nx, ε)
  | d :: ds, ε => (T d ε).bind fun ε1 => (B ε1).bind (loopR (loopS T B ds))
def forS (S : List Nat) (G : FA) (T : TD) (B : FS) : FS := fun ε => (G ε).bind fun ds => loopS T B ds (freeze S ε)
def whileS (T : FT) (B : FS) : Nat → FS
  | 0, _ => none
  | n + 1, ε => (T ε).bind fun b => if b = true then (B ε).bind (loopR (whileS T B n)) else some (.nx, ε)
def parS (i j : Nat) (G : FA) : FS := fun ε => (G ε).bind fun ds => match ds with
  | [d, e] => if flat d = true ∧ flat e = true then some (.nx, (ε.set i (some (true, d))).set j (some (true, e))) else none
  | _ => none

/-! ### states -/
section
variable {K : Fg} {H0 H H' : Hp} {σ : L2.St} {ε : Ev} {fp : Nat → List Addr}
theorem SRf.grow (s : SRf K H0 σ H ε fp) (g : Same H H') : SRf K H0 σ H' ε fp := ⟨s.same.trans g, s.len, s.er.same g, fun j a m => let ⟨o, e⟩ := s.dm j a m; ⟨o, g a o e⟩, fun i d h => let ⟨a, b, c⟩ := s.ow i d h; ⟨a, fun x m => ⟨(b x m).1, let ⟨xs, e⟩ := (b x m).2; ⟨xs, g x _ e⟩⟩, c⟩⟩
theorem SR.weak {H1 : Hp} (s : SR K H1 σ H ε) (g : Same H0 H1) : SR K H0 σ H ε := let ⟨fp, s⟩ := s; ⟨fp, g.trans s.same, s.len, s.er, s.dm, fun i d h => let ⟨a, b, c⟩ := s.ow i d h; ⟨a, fun x m => ⟨g.free (b x m).1, (b x m).2⟩, c⟩⟩
theorem unown_len (i : Nat) (ε : Ev) : (unown i ε).length = ε.length := by
  unfold unown
  split
  · rw [List.length_set]
  · rfl
theorem unown_get {i j : Nat} {ε : Ev} {f : Bool} {d : D} (h : (unown i ε)[j]? = some (some (f, d))) : ∃ f0, ε[j]? = some (some (f0, d)) ∧ (f = true → f0 = true ∧ j ≠ i) := by
  unfold unown at h
  split at h
  · rename_i g d' q
    by_cases e : i = j
    · subst e
      rw [List.getElem?_set_self (List.getElem?_eq_some_iff.mp q).1] at h
      simp only [Option.some.injEq, Prod.mk.injEq] at h
      obtain ⟨rfl, rfl⟩ := h
      exact ⟨g, q, fun z => Bool.noConfusion z⟩
    · rw [List.getElem?_set_ne e] at h
      exact ⟨f, h, fun z => ⟨z, fun w => e w.symm⟩⟩
  · rename_i q
    refine ⟨f, h, fun z => ⟨z, fun w => ?_⟩⟩
    subst w
    exact q _ _ h
theorem freeze_len : ∀ (S : List Nat) (ε : Ev), (freeze S ε).length = ε.length
  | [], _ => rfl
  | i :: S, ε => by
    show (freeze S (unown i ε)).length = _
    rw [freeze_len S, unown_len]
theorem freeze_get : ∀ {S : List Nat} {ε : Ev} {j : Nat} {f : Bool} {d : D}, (freeze S ε)[j]? = some (some (f, d)) → ∃ f0, ε[j]? = some (some (f0, d)) ∧ (f = true → f0 = true ∧ j ∉ S)
  | [], _, _, f, _, h => ⟨f, h, fun z => ⟨z, by simp⟩⟩
  | i :: S, ε, j, f, d, h => by
    obtain ⟨f1, h1, g1⟩ := freeze_get (S := S) (ε := unown i ε) h
    obtain ⟨f0, h0, g0⟩ := unown_get h1
    refine ⟨f0, h0, fun z => ?_⟩
    obtain ⟨z1, n1⟩ := g1 z
    obtain ⟨z0, n0⟩ := g0 z1
    exact ⟨z0, by simp [n0, n1]⟩
theorem SRf.freeze (s : SRf K H0 σ H ε fp) (S : List Nat) : SRf K H0 σ H (PV.freeze S ε) fp := by
  refine ⟨s.same, by rw [freeze_len]; exact s.len, fun i f d h => ?_, s.dm, fun i d h => ?_⟩
  · obtain ⟨f0, h0, g⟩ := freeze_get h
    obtain ⟨v, e, t⟩ := s.er i f0 d h0
    refine ⟨v, e, ?_⟩
    cases f with
    | false => exact t.wide
    | true =>
      obtain ⟨rfl, _⟩ := g rfl
      exact t
  · obtain ⟨f0, h0, g⟩ := freeze_get h
    obtain ⟨rfl, _⟩ := g rfl
    exact s.ow i d h0
open Classical in
/-- all that no name owns is kept from writing -/
noncomputable def guard (H : Hp) (ε : Ev) (fp : Nat → List Addr) : Hp := fun a => if ∃ i d, ε[i]? = some (some (true, d)) ∧ a ∈ fp i then none else H a
theorem guard_some {a : Addr} {o : HO} (h : H a = some o) (n : ∀ i d, ε[i]? = some (some (true, d)) → a ∉ fp i) : guard H ε fp a = some o := by
  unfold guard
  rw [if_neg]
  · exact h
  · rintro ⟨i, d, h1, h2⟩
    exact n i d h1 h2
theorem SRf.guarded (s : SRf K H0 σ H ε fp) : SRf K (guard H ε fp) σ H ε fp := by
  refine ⟨fun a o e => ?_, s.len, s.er, s.dm, fun i d h => ?_⟩
  · unfold guard at e
    split at e
    · cases e
    · exact e
  · obtain ⟨a, b, c⟩ := s.ow i d h
    refine ⟨a, fun x m => ⟨?_, (b x m).2⟩, c⟩
    unfold guard
    rw [if_pos ⟨i, d, h, m⟩]
theorem SRf.below (s : SRf K H0 σ H ε fp) : Same H0 (guard H ε fp) := fun a o e => guard_some (s.same a o e) fun i d h m => by
  rw [((s.ow i d h).2.1 a m).1] at e
  cases e
theorem SRf.guard_nl (s : SRf K H0 σ H ε fp) {a : Addr} {o : HO} (h : H a = some o) (n : NL o) : guard H ε fp a = some o := guard_some h fun i d hi m => by
  obtain ⟨xs, e⟩ := ((s.ow i d hi).2.1 a m).2
  rw [h] at e
  cases e
  exact n.not
/-- what an alias of frozen names reaches is guarded -/
theorem SRf.guard_als {S : List Nat} {A : List Addr} (s : SRf K H0 σ H ε fp) (g : Same H H') (al : Als H fp S A) {a : Addr} {o : HO} (h : H' a = some o) (m : a ∈ A) : guard H' (PV.freeze S ε) fp a = some o := guard_some h fun i d hi mi => by
  obtain ⟨f0, h0, q⟩ := freeze_get hi
  obtain ⟨rfl, ni⟩ := q rfl
  rcases al a m with z | ⟨j, hj, mj⟩
  · obtain ⟨o', e⟩ := s.dm i a mi
    rw [z] at e
    cases e
  · obtain ⟨_, b, c⟩ := s.ow i d h0
    exact c j (fun e => ni (e ▸ hj)) a mi mj

theorem SRf.setF {i : Nat} {v : V} {d : D} {A : List Addr} (s : SRf K H0 σ H ε fp) (g : Same H H') (t : Tr K false H' v d A) (fr : Frs H H' A) (hi : i < ε.length) :
    SRf K H0 (σ.set i (some v)) H' (ε.set i (some (true, d))) (fun j => if j = i then A else fp j) := by
  have s' := s.grow g
  refine ⟨s'.same, by rw [List.length_set, List.length_set]; exact s.len, fun j f e h => ?_, fun j => ?_, fun j e h => ?_⟩
  · by_cases hj : j = i
    · subst hj
      rw [List.getElem?_set_self hi] at h
      cases h
      exact ⟨v, by rw [List.getElem?_set_self (by rw [s.len]; exact hi)], by rw [if_pos rfl]; exact t⟩
    · rw [List.getElem?_set_ne (Ne.symm hj)] at h
      obtain ⟨u, h1, h2⟩ := s'.er j f e h
      exact ⟨u, by rw [List.getElem?_set_ne (Ne.symm hj)]; exact h1, by rw [if_neg hj]; exact h2⟩
  · by_cases hj : j = i
    · rw [if_pos hj]
      exact t.dom
    · rw [if_neg hj]
      exact s'.dm j
  · by_cases hj : j = i
    · subst hj
      rw [if_pos rfl]
      refine ⟨fr.1, fun a m => ⟨s.same.free (fr.2 a m).1, (fr.2 a m).2⟩, fun k ne a m => ?_⟩
      rw [if_neg ne]
      intro m2
      obtain ⟨o, e1⟩ := s.dm k a m2
      rw [(fr.2 a m).1] at e1
      cases e1
    · rw [List.getElem?_set_ne (Ne.symm hj)] at h
      obtain ⟨n1, n2, n3⟩ := s'.ow j e h
      rw [if_neg hj]
      refine ⟨n1, n2, fun k ne a m => ?_⟩
      by_cases hk : k = i
      · subst hk
        rw [if_pos rfl]
        intro m2
        obtain ⟨o, e1⟩ := s.dm j a m
        rw [(fr.2 a m2).1] at e1
        cases e1
      · rw [if_neg hk]
        exact n3 k ne a m
/-- an alias is stored -/
theorem Tr.byFlat {v : V} {d : D} {A : List Addr} {k : Bool} (t : Tr K k H v d A) : Tr K (!PV.flat d) H v d A := by
  cases h : PV.flat d with
  | false => exact t.wide
  | true => exact t.narrow h
theorem SRf.setA {i : Nat} {v : V} {d : D} {A : List Addr} (s : SRf K H0 σ H ε fp) (g : Same H H') (t : Tr K true H' v d A) (na : ∀ a ∈ A, ∀ j e, ε[j]? = some (some (true, e)) → a ∉ fp j) (hi : i < ε.length) :
    SRf K H0 (σ.set i (some v)) H' (ε.set i (some (flat d, d))) (fun j => if j = i then A else fp j) := by
  have s' := s.grow g
  refine ⟨s'.same, by rw [List.length_set, List.length_set]; exact s.len, fun j f e h => ?_, fun j => ?_, fun j e h => ?_⟩
  · by_cases hj : j = i
    · subst hj
      rw [List.getElem?_set_self hi] at h
      cases h
      exact ⟨v, by rw [List.getElem?_set_self (by rw [s.len]; exact hi)], by rw [if_pos rfl]; exact t.byFlat⟩
    · rw [List.getElem?_set_ne (Ne.symm hj)] at h
      obtain ⟨u, h1, h2⟩ := s'.er j f e h
      exact ⟨u, by rw [List.getElem?_set_ne (Ne.symm hj)]; exact h1, by rw [if_neg hj]; exact h2⟩
  · by_cases hj : j = i
    · rw [if_pos hj]
      exact t.dom
    · rw [if_neg hj]
      exact s'.dm j
  · by_cases hj : j = i
    · subst hj
      rw [List.getElem?_set_self hi] at h
      simp only [Option.some.injEq, Prod.mk.injEq] at h
      obtain ⟨hf, rfl⟩ := h
      rw [if_pos rfl, t.flat hf]
      exact ⟨List.nodup_nil, fun a m => absurd m (by simp), fun k ne a m => absurd m (by simp)⟩
    · rw [List.getElem?_set_ne (Ne.symm hj)] at h
      obtain ⟨n1, n2, n3⟩ := s'.ow j e h
      rw [if_neg hj]
      refine ⟨n1, n2, fun k ne a m => ?_⟩
      by_cases hk : k = i
      · rw [if_pos hk]
        exact fun m2 => na a m2 j e h m
      · rw [if_neg hk]
        exact n3 k ne a m
theorem SRf.als_na {S : List Nat} {A : List Addr} (s : SRf K H0 σ H ε fp) (al : Als H fp S A) : ∀ a ∈ A, ∀ j e, (PV.freeze S ε)[j]? = some (some (true, e)) → a ∉ fp j := fun a m j e h mj => by
  obtain ⟨f0, h0, q⟩ := freeze_get h
  obtain ⟨rfl, nj⟩ := q rfl
  rcases al a m with z | ⟨k, hk, mk⟩
  · obtain ⟨o, e1⟩ := s.dm j a mj
    rw [z] at e1
    cases e1
  · exact (s.ow j e h0).2.2 k (fun z => nj (z ▸ hk)) a mj mk
end

/-! ### statements -/
theorem set_far {α : Type} {l : List α} {i : Nat} {x : α} (h : ¬ i < l.length) : l.set i x = l := List.set_eq_of_length_le (Nat.le_of_not_lt h)
section
variable {X : Cx} {st : Stmt} {rest body : List Stmt} {e tg it : Expr} {es : List Expr} {F : FE} {G : FA} {T : FT} {B B2 : FS} {S : List Nat} {pos : Pos}
theorem sss_nil : SSs X [] nextS := pss_imp pss_nil fun De σ H ⟨H0, ε, r, s, h, k⟩ => by
  cases h
  exact k σ H s
theorem seqS_cases {K : Fg} {H0 : Hp} {De : Ends} {r1 r : Fl × Ev} (h : seqR B2 r1 = some r) (k : PostS K H0 De r) : PostS K H0 { De with nx := tS K B2 De } r1 := by
  obtain ⟨fl, ε1⟩ := r1
  cases fl with
  | nx => exact fun σ' H' s => ⟨H0, ε1, r, s, h, k⟩
  | bk => cases h; exact k
  | ct => cases h; exact k
  | rt d => cases h; exact k
theorem sss_cons (h1 : SS X st B) (h2 : SSs X rest B2) : SSs X (st :: rest) (seqS B B2) := pss_imp (pss_cons h1 h2) fun De σ H ⟨H0, ε, r, s, h, k⟩ => by
  obtain ⟨r1, e1, e2⟩ := Option.bind_eq_some_iff.mp h
  exact ⟨H0, ε, r1, s, e1, seqS_cases e2 k⟩
theorem sss_one (h1 : SS X st B) : SSs X [st] B := pss_one h1
theorem ss_pass : SS X (.Pass pos) nextS := ps_imp ps_pass fun De σ H ⟨H0, ε, r, s, h, k⟩ => by
  cases h
  exact k σ H s
theorem ss_break : SS X (.Break pos) breakS := ps_imp ps_break fun De σ H ⟨H0, ε, r, s, h, k⟩ => by
  cases h
  exact k σ H s
theorem ss_cont : SS X (.Continue pos) contS := ps_imp ps_continue fun De σ H ⟨H0, ε, r, s, h, k⟩ => by
  cases h
  exact k σ H s
theorem ss_never : SS X st neverS := ps_imp ps_never fun De σ H ⟨H0, ε, r, s, h, k⟩ => by
  cases h
theorem sss_never {sts : List Stmt} : SSs X sts neverS := pss_imp pss_never fun De σ H ⟨H0, ε, r, s, h, k⟩ => by
  cases h
theorem ss_if {a b : List Stmt} {c : Expr} (hc : ET X c T) (ha : SSs X a B) (hb : SSs X b B2) : SS X (.If c a b pos) (ifS T B B2) := ps_imp (ps_if hc ha hb) fun De σ H ⟨H0, ε, r, ⟨fp, s⟩, h, k⟩ => by
  obtain ⟨b1, h1, h2⟩ := Option.bind_eq_some_iff.mp h
  refine ⟨ε, fp, b1, s.er, h1, fun H' g => ?_⟩
  cases b1 with
  | true =>
    rw [if_pos rfl] at h2
    exact iteT ⟨H0, ε, r, ⟨fp, s.grow g⟩, h2, k⟩
  | false =>
    rw [if_neg Bool.false_ne_true] at h2
    exact iteF ⟨H0, ε, r, ⟨fp, s.grow g⟩, h2, k⟩
theorem ss_retF (h : EF X e F) : SS X (.Return (some e) pos) (retS F) := ps_imp (ps_ret h) fun De σ H ⟨H0, ε, r, ⟨fp, s⟩, h, k⟩ => by
  obtain ⟨d, h1, rfl⟩ := Option.map_eq_some_iff.mp h
  exact ⟨ε, fp, d, s.er, h1, fun v H' A g t fr => k v H' A (s.same.trans g) t (fr.back s.same)⟩
theorem ownD_some {i : Nat} {ε : Ev} {d : D} (h : ownD i ε = some d) : ε[i]? = some (some (true, d)) := by
  unfold ownD at h
  split at h
  · rename_i d' q
    cases h
    exact q
  · cases h
theorem ss_retV (i : Nat) {x : Str} {p : Pos} (hN : X.N[i]? = some x := by rfl) (hv : Vis X.env.scope x := by first | exact Or.inl rfl | exact Or.inr (Or.inl rfl) | exact Or.inr (Or.inr rfl)) (hd : (x == ("__debug__" : Str)) = false := by decide)
    (hcd : (x == ("__classdict__" : Str)) = false := by decide) : SS X (.Return (some (.Name x p)) pos) (retS (ownD i)) := ps_imp (ps_ret (pe_var hN hv hd hcd)) fun De σ H ⟨H0, ε, r, ⟨fp, s⟩, h, k⟩ => by
  obtain ⟨d, h1, rfl⟩ := Option.map_eq_some_iff.mp h
  have q := ownD_some h1
  obtain ⟨v, e1, t⟩ := s.er i true d q
  obtain ⟨n1, n2, n3⟩ := s.ow i d q
  exact ⟨v, e1, k v H _ s.same t ⟨n1, n2⟩⟩
/-- name = a new value -/
theorem ss_setF {i : Nat} {x : Str} {pos' : Pos} (hN : X.N.Nodup) (hi : X.N[i]? = some x) (hx : Loc X.env.scope x) (he : EF X e F) (hs : swapsWith e (some (.Name x pos')) pos.line X.env = pure false := by rfl) (hf : X.fn x = true ∨ X.env.scope.names.lookup x = some .local := by first | exact .inl rfl | exact .inr rfl | assumption) :
    SS X (.Assign [.Name x pos'] e pos) (setS i F) := ps_imp (ps_set hN hi hx he hs hf) fun De σ H ⟨H0, ε, r, ⟨fp, s⟩, h, k⟩ => by
  obtain ⟨d, h1, rfl⟩ := Option.map_eq_some_iff.mp h
  refine ⟨ε, fp, d, s.er, h1, fun v H' A g t fr => ?_⟩
  refine k _ H' ?_
  by_cases hl : i < ε.length
  · exact ⟨_, s.setF g t fr hl⟩
  · refine ⟨fp, ?_⟩
    show SRf X.K H0 (σ.set i (some v)) H' (ε.set i _) fp
    rw [set_far hl, set_far (by rw [s.len]; exact hl)]
    exact s.grow g
theorem ss_setA {i : Nat} {x : Str} {pos' : Pos} (hN : X.N.Nodup) (hi : X.N[i]? = some x) (hx : Loc X.env.scope x) (he : EA X e F S) (hs : swapsWith e (some (.Name x pos')) pos.line X.env = pure false := by rfl) (hf : X.fn x = true ∨ X.env.scope.names.lookup x = some .local := by first | exact .inl rfl | exact .inr rfl | assumption) :
    SS X (.Assign [.Name x pos'] e pos) (setA i F S) := ps_imp (ps_set hN hi hx he hs hf) fun De σ H ⟨H0, ε, r, ⟨fp, s⟩, h, k⟩ => by
  obtain ⟨d, h1, rfl⟩ := Option.map_eq_some_iff.mp h
  refine ⟨ε, fp, d, s.er, h1, fun v H' A g t al => ?_⟩
  refine k _ H' ?_
  show SR X.K H0 (σ.set i (some v)) H' ((if flat d = true then ε else freeze S ε).set i _)
  by_cases hl : i < ε.length
  · by_cases f : flat d = true
    · rw [if_pos f]
      exact ⟨_, s.setA g t (by rw [t.flat f]; exact fun a m => absurd m (by simp)) hl⟩
    · rw [if_neg f]
      exact ⟨_, (s.freeze S).setA g t (s.als_na al) (by rw [freeze_len]; exact hl)⟩
  · rw [set_far (show ¬ i < σ.length by rw [s.len]; exact hl), set_far (by split <;> (try rw [freeze_len]) <;> exact hl)]
    split
    · exact ⟨fp, s.grow g⟩
    · exact ⟨fp, (s.freeze S).grow g⟩
end
end PV

namespace PV
open PySem PySem.Spec PyProof.Rows L2

/-! ### targets -/
def gS (K : Fg) (T : TD) : TG := fun v σ H Q => ∃ H0 ε d A ε', SR K H0 σ H ε ∧ Tr K true H v d A ∧ (∀ a ∈ A, ∃ o, H0 a = some o) ∧ T d ε = some ε' ∧ ∀ σ', SR K H0 σ' H ε' → Q σ' H
def gsS (K : Fg) (ts : List TD) : TGs := fun vs σ H Q => ∃ H0 ε ds A ε', SR K H0 σ H ε ∧ TrA K true H vs ds A ∧ (∀ a ∈ A, ∃ o, H0 a = some o) ∧ goT ts ds ε = some ε' ∧ ∀ σ', SR K H0 σ' H ε' → Q σ' H
abbrev GT (X : Cx) (tg : Expr) (T : TD) : Prop := PG X tg (gS X.K T)
abbrev GTs (X : Cx) (tgs : List Expr) (T : List TD) : Prop := PGs X tgs (gsS X.K T)
section
variable {X : Cx} {st : Stmt} {rest body : List Stmt} {e tg it : Expr} {es tgs : List Expr} {F : FE} {G : FA} {T : FT} {B B2 : FS} {S : List Nat} {pos : Pos} {TT : TD} {TS : List TD}
theorem pg_imp {t t' : TG} (h : PG X tg t) (g : ∀ v σ H Q, t' v σ H Q → t v σ H Q) : PG X tg t' := ⟨fun pins s σ H v u Q I r q => h.run pins s σ H v u Q I r (g v σ H Q q)⟩
theorem pgs_imp {t t' : TGs} (h : PGs X tgs t) (g : ∀ v σ H Q, t' v σ H Q → t v σ H Q) : PGs X tgs t' := ⟨fun pins s σ H v u Q I r q => h.run pins s σ H v u Q I r (g v σ H Q q)⟩
theorem gt_name {i : Nat} {x : Str} (hN : X.N.Nodup) (hi : X.N[i]? = some x) (hx : Loc X.env.scope x) (hf : X.fn x = true ∨ X.env.scope.names.lookup x = some .local := by first | exact .inl rfl | exact .inr rfl | assumption) : GT X (.Name x pos) (nameT i) :=
  pg_imp (pg_name hN hi hx hf) fun v σ H Q ⟨H0, ε, d, A, ε', ⟨fp, s⟩, t, dom, h, k⟩ => by
    cases h
    refine k _ ?_
    by_cases hl : i < ε.length
    · refine ⟨_, s.setA (.refl H) t (fun a m j e' hj mj => ?_) hl⟩
      obtain ⟨o, e1⟩ := dom a m
      rw [((s.ow j e' hj).2.1 a mj).1] at e1
      cases e1
    · rw [set_far hl, set_far (show ¬ i < σ.length by rw [s.len]; exact hl)]
      exact ⟨fp, s⟩
theorem gts_nil : GTs X [] [] := pgs_imp pgs_nil fun v σ H Q ⟨H0, ε, ds, A, ε', s, t, dom, h, k⟩ => by
  cases ds with
  | cons d ds => cases h
  | nil =>
    cases h
    cases t
    exact ⟨rfl, k σ s⟩
theorem gts_cons (h1 : GT X tg TT) (h2 : GTs X tgs TS) (hs : (assignEach (tg :: tgs) X.env).map (·.2) = assign tg X.env :: (assignEach tgs X.env).map (·.2) := by rfl) : GTs X (tg :: tgs) (TT :: TS) :=
  pgs_imp (pgs_cons h1 h2 hs) fun v σ H Q ⟨H0, ε, ds, A, ε', s, t, dom, h, k⟩ => by
    cases ds with
    | nil => cases h
    | cons d ds =>
      cases t with
      | cons t1 t2 =>
        obtain ⟨ε1, e1, e2⟩ := Option.bind_eq_some_iff.mp h
        exact ⟨_, _, rfl, H0, ε, d, _, ε1, s, t1, fun a m => dom a (List.mem_append_left _ m), e1, fun σ' s' => ⟨H0, ε1, ds, _, ε', s', t2, fun a m => dom a (List.mem_append_right _ m), e2, k⟩⟩
theorem goT_len : ∀ {ts : List TD} {ds : List D} {ε ε' : Ev}, goT ts ds ε = some ε' → ds.length = ts.length
  | [], [], _, _, _ => rfl
  | [], _ :: _, _, _, h => by cases h
  | _ :: _, [], _, _, h => by cases h
  | t :: ts, d :: ds, _, _, h => by
    obtain ⟨ε1, e1, e2⟩ := Option.bind_eq_some_iff.mp h
    simp [goT_len e2]
theorem gt_tup {k n : Nat} (hc : X.calm = true) (h : GTs X es TS) (hn : (assignEach es X.env).length = n := by rfl) (hl : TS.length = n := by rfl) (hst : (assignEach es X.env).findIdx? (·.1) = none := by rfl) : GT X (.Tuple es k pos) (tupT TS) :=
  pg_imp (pg_tup hc h hn hst) fun v σ H Q ⟨H0, ε, d, A, ε', s, t, dom, h, k⟩ => by
    cases d <;> try (cases h)
    rename_i ds
    have h : goT TS ds ε = some ε' := h
    cases t with
    | tup r t => exact ⟨_, _, rfl, r, by rw [t.len, goT_len h, hl], H0, ε, ds, A, ε', s, t, dom, h, k⟩
/-- a, b = an alias -/
theorem ss_unp (he : EA X e F S) (hg : GT X tg TT) (hs : swapsWithSole [tg] e pos.line X.env = pure false := by rfl) (hw : swappedStores [tg] e X.env = pure none := by rfl)
    (h1 : (assignEach [tg] X.env).map (·.2) = [assign tg X.env] := by rfl) : SS X (.Assign [tg] e pos) (unpS TT F S) := ps_imp (ps_asg he hg hs hw h1) fun De σ H ⟨H0, ε, r, ⟨fp, s⟩, h, k⟩ => by
  obtain ⟨d, e1, h⟩ := Option.bind_eq_some_iff.mp h
  obtain ⟨ε', e2, rfl⟩ := Option.map_eq_some_iff.mp h
  refine ⟨ε, fp, d, s.er, e1, fun v H' A g t al => ?_⟩
  have s' := ((s.freeze S).grow g)
  have s2 := s'.guarded
  refine ⟨guard H' (freeze S ε) fp, freeze S ε, d, A, ε', ⟨fp, s2⟩, t, fun a m => ?_, e2, fun σ' s3 => k σ' H' (s3.weak s'.below)⟩
  obtain ⟨o, e1⟩ := t.dom a m
  exact ⟨o, s.guard_als g al e1 m⟩

/-! ### for -/
def Yields (K : Fg) (J : It) (H' : Hp) (A : List Addr) (ds : List D) : Prop := ∀ H2, Keep A H' H2 → ∀ i, (∀ d, ds[i]? = some d → J.go i H2 ∧ ∀ x H3, J.yld i H2 x H3 → Same H2 H3 ∧ ∃ B, Tr K true H3 x d B ∧ ∀ b ∈ B, b ∈ A) ∧ (ds.length ≤ i → J.stop i H2)
def iS (K : Fg) (G : FA) (S : List Nat) : TI := fun σ H R => ∃ ε fp ds, ER K σ H ε fp ∧ G ε = some ds ∧ ∀ J H' A, Same H H' → Als H fp S A → (∀ a ∈ A, ∃ o, H' a = some o) → Yields K J H' A ds → R J H'
abbrev IA (X : Cx) (tg it : Expr) (G : FA) (S : List Nat) : Prop := PI X tg it (iS X.K G S)
theorem pi_imp {t t' : TI} (h : PI X tg it t) (g : ∀ σ H R, t' σ H R → t σ H R) : PI X tg it t' := ⟨fun pins s σ H R I q => h.run pins s σ H R I (g σ H R q)⟩
theorem loopR_cases {K : Fg} {H0 H1 : Hp} {De : Ends} {r r1 : Fl × Ev} {L : FS} {N : L2.St → Hp → Prop} (b : Same H0 H1) (h : loopR L r1 = some r) (k : PostS K H0 De r)
    (hN : ∀ ε', L ε' = some r → ∀ σ' H', SR K H1 σ' H' ε' → N σ' H') : PostS K H1 { De with nx := N, ct := N, bk := De.nx } r1 := by
  obtain ⟨fl, ε1⟩ := r1
  cases fl with
  | nx => exact hN ε1 h
  | ct => exact hN ε1 h
  | bk =>
    cases h
    exact fun σ' H' s => k σ' H' (s.weak b)
  | rt d =>
    cases h
    exact fun v H' A g t fr => k v H' A (b.trans g) t (fr.back b)
theorem ss_for (hp : PassesOwn (model X.prog X.w) X.A X.env X.xe) (hc : X.calm = true) (hi : IA X tg it G S) (hg : GT X tg TT) (hb : SSs X body B)
    (hs : ∀ x, foldedSetIterable it X.env x = pure x := by intro _; rfl) : SS X (.For tg it body [] pos) (forS S G TT B) := ps_imp (ps_for hp hc hi hg hb hs) fun De σ H ⟨H0, ε, r, ⟨fp, s⟩, h, k⟩ => by
  obtain ⟨ds, e1, h⟩ := Option.bind_eq_some_iff.mp h
  refine ⟨ε, fp, ds, s.er, e1, fun J H' A g al dom y => ?_⟩
  have s' := ((s.freeze S).grow g)
  have s2 := s'.guarded
  have kp : ∀ {σ2 H2 ε2}, SR X.K (guard H' (freeze S ε) fp) σ2 H2 ε2 → Keep A H' H2 := fun {σ2 H2 ε2} ⟨fp2, s3⟩ a o e m => by
    rcases m with m | m
    · exact s3.same a o (s.guard_als g al e m)
    · exact s3.same a o (s'.guard_nl e m)
  refine ⟨fun i m σ2 H2 => m = ds.length - i ∧ i ≤ ds.length ∧ ∃ ε2, SR X.K (guard H' (freeze S ε) fp) σ2 H2 ε2 ∧ loopS TT B (ds.drop i) ε2 = some r, ⟨ds.length, rfl, Nat.zero_le _, freeze S ε, ⟨fp, s2⟩, h⟩, ?_⟩
  rintro i m σ2 H2 ⟨rfl, hi, ε2, s3, hl⟩
  obtain ⟨y1, y2⟩ := y H2 (kp s3) i
  by_cases hlt : i < ds.length
  · obtain ⟨go, yl⟩ := y1 ds[i] (List.getElem?_eq_getElem hlt)
    rw [List.drop_eq_getElem_cons hlt] at hl
    obtain ⟨ε3, e3, hl⟩ := Option.bind_eq_some_iff.mp hl
    obtain ⟨r4, e4, hl⟩ := Option.bind_eq_some_iff.mp hl
    refine .inr ⟨go, fun σ' H'' => ∃ ε', SR X.K (guard H' (freeze S ε) fp) σ' H'' ε' ∧ loopS TT B (ds.drop (i + 1)) ε' = some r, fun σ' H'' ⟨ε', a, b⟩ => ⟨ds.length - (i + 1), by omega, rfl, hlt, ε', a, b⟩, fun x H3 hy => ?_⟩
    obtain ⟨g3, Bf, t3, sub⟩ := yl x H3 hy
    obtain ⟨fp3, s3⟩ := s3
    refine ⟨_, ε2, ds[i], Bf, ε3, ⟨fp3, s3.grow g3⟩, t3, fun a m => ?_, e3, fun σ' s4 => ⟨_, ε3, r4, s4, e4, loopR_cases s'.below hl k fun ε' h' σ'' H'' s5 => ⟨ε', s5, h'⟩⟩⟩
    obtain ⟨o, e⟩ := dom a (sub a m)
    exact ⟨o, s.guard_als g al e (sub a m)⟩
  · have e : i = ds.length := by omega
    subst e
    rw [List.drop_length] at hl
    have hl : some (Fl.nx, ε2) = some r := hl
    cases hl
    exact .inl ⟨y2 (Nat.le_refl _), k σ2 H2 (s3.weak s'.below)⟩
/-- the items of a list -/
def itemsD (F : FE) : FA := fun ε => (F ε).bind fun d => match d with
  | .list ds => some ds
  | _ => none
theorem ia_list {l : Expr} (hl : EA X l F S) : IA X tg l (itemsD F) S := pi_imp (pi_list hl) fun σ H R ⟨ε, fp, ds, er, h, k⟩ => by
  obtain ⟨d, e1, h⟩ := Option.bind_eq_some_iff.mp h
  cases d <;> try (cases h)
  rename_i ds
  refine ⟨ε, fp, _, er, e1, fun v H' A g t al => ?_⟩
  have dom := t.dom
  obtain ⟨a, xs, B, rfl, r, t, sB, kp2⟩ := t.list
  refine ⟨a, rfl, ⟨xs, r⟩, k _ H' _ g al dom fun H2 kp i => ⟨fun d hd => ?_, fun hi => ⟨xs, kp2 H2 kp, by rw [t.len]; exact hi⟩⟩⟩
  have r2 := kp2 H2 kp
  have t2 := t.keep (kp.sub sB)
  obtain ⟨v, B2, e2, tv, sb⟩ := t2.at hd
  refine ⟨⟨xs, v, r2, e2⟩, fun x H3 hy => ?_⟩
  obtain ⟨rfl, hy⟩ := hy
  have ev : x = v := Option.some.inj ((hy xs r2).symm.trans e2)
  subst ev
  exact ⟨.refl _, B2, tv, fun b m => sB b (sb b m)⟩
/-- the items of a tuple -/
def itemsT (F : FE) : FA := fun ε => (F ε).bind fun d => match d with
  | .tuple ds => some ds
  | _ => none
theorem ia_tup {l : Expr} (hl : EA X l F S) : IA X tg l (itemsT F) S := pi_imp (pi_tup hl) fun σ H R ⟨ε, fp, ds, er, h, k⟩ => by
  obtain ⟨d, e1, h⟩ := Option.bind_eq_some_iff.mp h
  cases d <;> try (cases h)
  rename_i ds
  refine ⟨ε, fp, _, er, e1, fun v H' A g t al => ?_⟩
  have dom := t.dom
  cases t with
  | tup r t =>
    rename_i a xs
    refine ⟨a, rfl, ⟨xs, r⟩, k _ H' _ g al dom fun H2 kp i => ⟨fun d hd => ?_, fun hi => ⟨xs, kp.sqT r, by rw [t.len]; exact hi⟩⟩⟩
    have r2 := kp.sqT r
    have t2 := t.keep kp
    obtain ⟨v, B, e2, tv, sb⟩ := t2.at hd
    refine ⟨⟨xs, v, r2, e2⟩, fun x H3 hy => ?_⟩
    obtain ⟨rfl, hy⟩ := hy
    have ev : x = v := Option.some.inj ((hy xs r2).symm.trans e2)
    subst ev
    exact ⟨.refl _, B, tv, sb⟩
def rangeD (F : FA) : FA := fun ε => (F ε).bind fun ds => match ds with
  | [.int j] => if -(2 ^ 62) ≤ j ∧ j < 2 ^ 62 then some ((List.range j.toNat).map fun k => .int (k : Nat)) else none
  | _ => none
theorem ia_range1 {a : Expr} {p : Pos} (hg : Gl X "range") (hm : X.mg "range" = none) (ha : AA X [a] G S) (hs : starEach [a] X.env = [(false, eval a X.env)] := by rfl) : IA X tg (.Call (.Name "range" p) [a] [] pos) (rangeD G) [] :=
  pi_imp (pi_range1 hg hm ha hs) fun σ H R ⟨ε, fp, ds, er, h, k⟩ => by
    obtain ⟨ds1, e1, h⟩ := Option.bind_eq_some_iff.mp h
    split at h <;> try (cases h)
    rename_i j
    by_cases hb : -(2 ^ 62) ≤ j ∧ j < 2 ^ 62
    · rw [if_pos hb] at h
      cases h
      refine ⟨ε, fp, _, er, e1, fun vs H' A g t al => ?_⟩
      cases t with
      | cons t1 t2 =>
        cases t1
        cases t2
        refine ⟨j, rfl, hb.1, hb.2, k _ H' [] g .nil (by simp) fun H2 kp i => ⟨fun d hd => ?_, fun hi => ?_⟩⟩
        · rw [List.getElem?_map] at hd
          obtain ⟨n, hn, rfl⟩ := Option.map_eq_some_iff.mp hd
          obtain ⟨hn1, hn2⟩ := List.getElem?_eq_some_iff.mp hn
          rw [List.getElem_range] at hn2
          subst hn2
          rw [List.length_range] at hn1
          refine ⟨hn1, fun x H3 hy => ?_⟩
          obtain ⟨rfl, rfl⟩ := hy
          rw [Int.zero_add]
          exact ⟨.refl _, [], .int _, by simp⟩
        · rw [List.length_map, List.length_range] at hi
          exact hi
    · rw [if_neg hb] at h
      cases h
def zipD (G : FA) : FA := fun ε => (G ε).bind fun ds => match ds with
  | [.list xs, .list ys] => some (List.zipWith (fun x y => .tuple [x, y]) xs ys)
  | _ => none
theorem ia_zip {a b : Expr} {p tpos : Pos} {elts : List Expr} {kk : Nat} (hg : Gl X "zip") (hm : X.mg "zip" = none) (ha : AA X [a, b] G S)
    (hs : starEach [a, b] X.env = (false, eval a X.env) :: starEach [b] X.env := by rfl) (hpl : (backTo pos (starEach [b] X.env)).any (·.1) = false := by rfl) :
    IA X (.Tuple elts kk tpos) (.Call (.Name "zip" p) [a, b] [] pos) (zipD G) S := pi_imp (pi_zip hg hm ha hs hpl) fun σ H R ⟨ε, fp, ds, er, h, k⟩ => by
  obtain ⟨ds1, e1, h⟩ := Option.bind_eq_some_iff.mp h
  split at h <;> try (cases h)
  rename_i d1 d2
  refine ⟨ε, fp, _, er, e1, fun vs H' A g t al => ?_⟩
  have dom := t.dom
  cases t with
  | @cons _ _ _ _ A0 _ t1 t2 =>
    cases t2 with
    | @cons _ _ _ _ B0 _ t2 t3 =>
      cases t3
      obtain ⟨a, xs, A, rfl, q1, t1, sA, kp1⟩ := t1.list
      obtain ⟨b, ys, B, rfl, q2, t2, sB, kp2⟩ := t2.list
      refine ⟨a, b, xs, ys, rfl, q1, q2, k _ H' _ g al dom fun H2 kp i => ?_⟩
      have kA : Keep A0 H' H2 := kp.sub fun c m => List.mem_append_left _ m
      have kB : Keep B0 H' H2 := kp.sub fun c m => List.mem_append_right _ (List.mem_append_left _ m)
      have r1' := kp1 H2 kA
      have r2' := kp2 H2 kB
      have t1' := t1.keep (kA.sub sA)
      have t2' := t2.keep (kB.sub sB)
      refine ⟨fun d hd => ?_, fun hi => ⟨xs, ys, r1', r2', by rw [t1.len, t2.len]; rw [List.length_zipWith] at hi; omega⟩⟩
      rw [List.getElem?_zipWith] at hd
      split at hd <;> try (cases hd)
      rename_i x y hx hy
      obtain ⟨v, Bv, e2, tv, sv⟩ := t1'.at hx
      obtain ⟨u, Bu, e3, tu, su⟩ := t2'.at hy
      refine ⟨⟨xs, ys, v, u, r1', r2', e2, e3⟩, fun z H3 hz => ?_⟩
      obtain ⟨T, x', y', rfl, n, rfl, q1, q2⟩ := hz
      have ex : x' = v := Option.some.inj ((q1 xs r1').symm.trans e2)
      have ey : y' = u := Option.some.inj ((q2 ys r2').symm.trans e3)
      subst ex ey
      have s := same_upd (o := .tup [x', y']) n
      refine ⟨s, Bv ++ (Bu ++ []), .tup (.of upd_same) (.cons (tv.same s) (.cons (tu.same s) .nil)), fun c m => ?_⟩
      simp only [List.append_nil, List.mem_append] at m
      rcases m with m | m
      · exact List.mem_append_left _ (sA c (sv c m))
      · exact List.mem_append_right _ (List.mem_append_left _ (sB c (su c m)))
def enumD (G : FA) : FA := fun ε => (G ε).bind fun ds => match ds with
  | [.list xs] => some (xs.mapIdx fun i x => .tuple [.int (i : Nat), x])
  | _ => none
theorem ia_enum {a : Expr} {p tpos : Pos} {elts : List Expr} {kk : Nat} (hg : Gl X "enumerate") (hm : X.mg "enumerate" = none) (ha : AA X [a] G S)
    (hs : starEach [a] X.env = [(false, eval a X.env)] := by rfl) :
    IA X (.Tuple elts kk tpos) (.Call (.Name "enumerate" p) [a] [] pos) (enumD G) S := pi_imp (pi_enum hg hm ha hs) fun σ H R ⟨ε, fp, ds, er, h, k⟩ => by
  obtain ⟨ds1, e1, h⟩ := Option.bind_eq_some_iff.mp h
  split at h <;> try (cases h)
  rename_i d1
  refine ⟨ε, fp, _, er, e1, fun vs H' A g t al => ?_⟩
  have dom := t.dom
  cases t with
  | cons t1 t2 =>
    cases t2
    rename_i A0
    obtain ⟨a, xs, A, rfl, q1, t1, sA, kp1⟩ := t1.list
    refine ⟨a, xs, rfl, q1, k _ H' _ g al dom fun H2 kp i => ?_⟩
    have kA : Keep A0 H' H2 := kp.sub fun c m => List.mem_append_left _ m
    have r1' := kp1 H2 kA
    have t1' := t1.keep (kA.sub sA)
    refine ⟨fun d hd => ?_, fun hi => ⟨xs, r1', by rw [t1.len]; rw [List.length_mapIdx] at hi; exact hi⟩⟩
    rw [List.getElem?_mapIdx] at hd
    obtain ⟨x, hx, rfl⟩ := Option.map_eq_some_iff.mp hd
    obtain ⟨v, Bv, e2, tv, sv⟩ := t1'.at hx
    refine ⟨⟨xs, v, r1', e2⟩, fun z H3 hz => ?_⟩
    obtain ⟨T, x', rfl, n, rfl, q1⟩ := hz
    have ex : x' = v := Option.some.inj ((q1 xs r1').symm.trans e2)
    subst ex
    have s := same_upd (o := .tup [.int (i : Nat), x']) n
    refine ⟨s, [] ++ (Bv ++ []), .tup (.of upd_same) (.cons (.int _) (.cons (tv.same s) .nil)), fun c m => ?_⟩
    simp only [List.append_nil, List.nil_append] at m
    exact List.mem_append_left _ (sA c (sv c m))
/-! ### while -/
theorem ss_while (n : Nat) {c : Expr} (hp : PassesOwn (model X.prog X.w) X.A X.env X.xe) (hc : ET X c T) (hb : SSs X body B) : SS X (.While c body [] pos) (whileS T B n) := ps_imp (ps_while hp hc hb) fun De σ H ⟨H0, ε, r, s, h, k⟩ => by
  refine ⟨fun m σ2 H2 => ∃ ε2, SR X.K H0 σ2 H2 ε2 ∧ whileS T B m ε2 = some r, ⟨n, ε, s, h⟩, ?_⟩
  rintro m σ2 H2 ⟨ε2, ⟨fp, s2⟩, h2⟩
  cases m with
  | zero => cases h2
  | succ m =>
    obtain ⟨b, e1, h2⟩ := Option.bind_eq_some_iff.mp h2
    refine ⟨ε2, fp, b, s2.er, e1, fun H3 g => ?_⟩
    have s3 := s2.grow g
    cases b with
    | true =>
      rw [if_pos rfl] at h2
      obtain ⟨r4, e4, h2⟩ := Option.bind_eq_some_iff.mp h2
      refine iteT ⟨fun σ' H' => ∃ ε', SR X.K H0 σ' H' ε' ∧ whileS T B m ε' = some r, fun σ' H' hh => ⟨m, Nat.lt_succ_self m, hh⟩, H0, ε2, r4, ⟨fp, s3⟩, e4, loopR_cases (.refl H0) h2 k fun ε' h' σ' H' s' => ⟨ε', s', h'⟩⟩
    | false =>
      rw [if_neg Bool.false_ne_true] at h2
      cases h2
      exact iteF (k σ2 H3 ⟨fp, s3⟩)
end
end PV

namespace PV
open PySem PySem.Spec PyProof.Rows L2

section
variable {K : Fg} {b : Bool} {H0 H H' : Hp} {σ : L2.St} {ε : Ev} {fp : Nat → List Addr}
theorem TrA.set : ∀ {ds : List D} {vs : List V} {A : List Addr} {k : Nat} {v : V} {d : D} {B : List Addr}, TrA K b H vs ds A → Tr K b H v d B → (∀ a ∈ A, a ∉ B) → A.Nodup → B.Nodup →
    ∃ C, TrA K b H (vs.set k v) (ds.set k d) C ∧ C.Nodup ∧ ∀ a ∈ C, a ∈ A ∨ a ∈ B
  | [], _, A, _, _, _, _, h, _, _, n, _ => by cases h; exact ⟨[], .nil, List.nodup_nil, fun a m => .inl m⟩
  | d0 :: ds, _, _, 0, v, d, B, h, t, dj, nA, nB => by
    cases h with
    | cons h1 h2 =>
      rename_i A1 A2
      refine ⟨B ++ A2, .cons t h2, List.nodup_append.mpr ⟨nB, (List.nodup_append.mp nA).2.1, fun a ha b hb e => ?_⟩, fun a m => (List.mem_append.mp m).elim .inr fun z => .inl (List.mem_append_right _ z)⟩
      subst e
      exact dj a (List.mem_append_right _ hb) ha
  | d0 :: ds, _, _, k + 1, v, d, B, h, t, dj, nA, nB => by
    cases h with
    | cons h1 h2 =>
      rename_i v0 vs A1 A2
      obtain ⟨n1, n2, n3⟩ := List.nodup_append.mp nA
      obtain ⟨C, tC, nC, sC⟩ := TrA.set (k := k) h2 t (fun a m => dj a (List.mem_append_right _ m)) n2 nB
      refine ⟨A1 ++ C, .cons h1 tC, List.nodup_append.mpr ⟨n1, nC, fun a ha b hb e => ?_⟩, fun a m => ?_⟩
      · subst e
        rcases sC a hb with z | z
        · exact n3 a ha a z rfl
        · exact dj a (List.mem_append_left _ ha) z
      · rcases List.mem_append.mp m with m | m
        · exact .inl (List.mem_append_left _ m)
        · exact (sC a m).imp (fun z => List.mem_append_right _ z) id
theorem TrA.eraseIdx : ∀ {ds : List D} {vs : List V} {A : List Addr} {k : Nat}, TrA K b H vs ds A → ∃ C, TrA K b H (vs.eraseIdx k) (ds.eraseIdx k) C ∧ (A.Nodup → C.Nodup) ∧ ∀ a ∈ C, a ∈ A
  | [], _, A, _, h => by cases h; exact ⟨[], .nil, fun _ => List.nodup_nil, fun a m => m⟩
  | d0 :: ds, _, _, 0, h => by
    cases h with
    | cons h1 h2 => exact ⟨_, h2, fun n => (List.nodup_append.mp n).2.1, fun a m => List.mem_append_right _ m⟩
  | d0 :: ds, _, _, k + 1, h => by
    cases h with
    | cons h1 h2 =>
      obtain ⟨C, tC, nC, sC⟩ := TrA.eraseIdx (k := k) h2
      refine ⟨_ ++ C, .cons h1 tC, fun n => ?_, fun a m => ?_⟩
      · obtain ⟨n1, n2, n3⟩ := List.nodup_append.mp n
        exact List.nodup_append.mpr ⟨n1, nC n2, fun a ha b hb => n3 a ha b (sC b hb)⟩
      · exact (List.mem_append.mp m).elim (fun z => List.mem_append_left _ z) fun z => List.mem_append_right _ (sC a z)
theorem keep_upd {A : List Addr} {a : Addr} {o : HO} (l : Lst H a) (n : a ∉ A) : Keep A H (upd H a o) := fun b u e m => by
  rw [upd_ne]
  · exact e
  · rintro rfl
    rcases m with m | m
    · exact n m
    · obtain ⟨xs, e2⟩ := l
      rw [e] at e2
      cases e2
      exact m.not
/-- a list that a name owns is written -/
theorem SRf.put {i : Nat} {d : D} {a : Addr} {vs : List V} {ds : List D} {A : List Addr} (s : SRf K H0 σ H ε fp) (g : Same H H') (hi : ε[i]? = some (some (true, d))) (hv : σ[i]? = some (some (.ref a))) (ha : a ∈ fp i)
    (t : TrA K false H' vs ds A) (nd : (a :: A).Nodup) (ow : ∀ b ∈ A, H0 b = none ∧ Lst H' b ∧ ∀ j, j ≠ i → b ∉ fp j) :
    SRf K H0 σ (upd H' a (.lst vs)) (ε.set i (some (true, .list ds))) (fun j => if j = i then a :: A else fp j) := by
  have s' := s.grow g
  obtain ⟨m1, m2, m3⟩ := s'.ow i d hi
  have la : Lst H' a := (m2 a ha).2
  have hl : i < ε.length := (List.getElem?_eq_some_iff.mp hi).1
  have lu : ∀ b, Lst H' b → Lst (upd H' a (.lst vs)) b := fun b ⟨xs, e⟩ => by
    by_cases h : b = a
    · rw [h]
      exact ⟨_, upd_same⟩
    · exact ⟨xs, by rw [upd_ne h]; exact e⟩
  have du : ∀ b o, H' b = some o → ∃ o', upd H' a (.lst vs) b = some o' := fun b o e => by
    by_cases h : b = a
    · rw [h]
      exact ⟨_, upd_same⟩
    · exact ⟨o, by rw [upd_ne h]; exact e⟩
  refine ⟨fun b o e => ?_, by rw [List.length_set]; exact s.len, fun j f e h => ?_, fun j b m => ?_, fun j e h => ?_⟩
  · rw [upd_ne]
    · exact s'.same b o e
    · rintro rfl
      rw [(m2 b ha).1] at e
      cases e
  · by_cases hj : j = i
    · subst hj
      rw [List.getElem?_set_self hl] at h
      cases h
      exact ⟨_, hv, by rw [if_pos rfl]; exact .lst (.inl upd_same) (t.keep (keep_upd la (List.nodup_cons.mp nd).1))⟩
    · rw [List.getElem?_set_ne (Ne.symm hj)] at h
      obtain ⟨u, h1, h2⟩ := s'.er j f e h
      exact ⟨u, h1, by rw [if_neg hj]; exact h2.keep (keep_upd la (m3 j hj a ha))⟩
  · by_cases hj : j = i
    · rw [if_pos hj] at m
      rcases List.mem_cons.mp m with rfl | m
      · exact ⟨_, upd_same⟩
      · obtain ⟨xs, e⟩ := (ow b m).2.1
        exact du b _ e
    · rw [if_neg hj] at m
      obtain ⟨o, e⟩ := s'.dm j b m
      exact du b o e
  · by_cases hj : j = i
    · subst hj
      rw [if_pos rfl]
      refine ⟨nd, fun b m => ?_, fun k ne b m => ?_⟩
      · rcases List.mem_cons.mp m with rfl | m
        · exact ⟨(m2 b ha).1, lu b la⟩
        · exact ⟨(ow b m).1, lu b (ow b m).2.1⟩
      · rw [if_neg ne]
        rcases List.mem_cons.mp m with rfl | m
        · exact m3 k ne b ha
        · exact (ow b m).2.2 k ne
    · rw [List.getElem?_set_ne (Ne.symm hj)] at h
      obtain ⟨n1, n2, n3⟩ := s'.ow j e h
      rw [if_neg hj]
      refine ⟨n1, fun b m => ⟨(n2 b m).1, lu b (n2 b m).2⟩, fun k ne b m => ?_⟩
      by_cases hk : k = i
      · rw [if_pos hk]
        intro m2'
        rcases List.mem_cons.mp m2' with rfl | m2'
        · exact n3 i (Ne.symm hj) b m ha
        · exact (ow b m2').2.2 j hj m
      · rw [if_neg hk]
        exact n3 k ne b m
/-- what a name that owns a list says -/
theorem SRf.owned {i : Nat} {ds : List D} (s : SRf K H0 σ H ε fp) (hi : ε[i]? = some (some (true, .list ds))) :
    ∃ a vs A, σ[i]? = some (some (.ref a)) ∧ H a = some (.lst vs) ∧ TrA K false H vs ds A ∧ fp i = a :: A ∧ (a :: A).Nodup ∧ (∀ b ∈ a :: A, H0 b = none ∧ Lst H b ∧ ∀ j, j ≠ i → b ∉ fp j) := by
  obtain ⟨v, e1, t⟩ := s.er i true _ hi
  obtain ⟨m1, m2, m3⟩ := s.ow i _ hi
  generalize hf : fp i = A0 at t m1 m2 m3
  obtain ⟨a, vs, A, rfl, r, t, rfl⟩ := t.mine
  obtain ⟨xs, e⟩ := (m2 a List.mem_cons_self).2
  have : xs = vs := by
    rcases r with r | ⟨o, r⟩
    · rw [e] at r
      cases r
      rfl
    · rw [e] at r
      cases r
  subst this
  exact ⟨a, xs, A, e1, e, t, rfl, m1, fun b m => ⟨(m2 b m).1, (m2 b m).2, fun j ne => m3 j ne b m⟩⟩
theorem SRf.notin {H1 : Hp} (s : SRf K H0 σ H ε fp) (g : Same H H1) {b : Addr} (n : H1 b = none) (j : Nat) : b ∉ fp j := fun m => by
  obtain ⟨o, e⟩ := s.dm j b m
  rw [g b o e] at n
  cases n
end

/-! ### semantic words -/
def putS (i : Nat) (f : List D → D → Option (List D)) (F : FE) : FS := fun ε => match ε[i]? with
  | some (some (true, .list ds)) => (F ε).bind fun d => (f ds d).map fun ds' => (.nx, ε.set i (some (true, .list ds')))
  | _ => none
def appD (ds : List D) (d : D) : Option (List D) := if ds.length < sizeLine then some (ds ++ [d]) else none
def extD (ds : List D) (d : D) : Option (List D) := match d with
  | .list es => if ds.length + es.length ≤ sizeLine then some (ds ++ es) else none
  | _ => none
def setItS (i : Nat) (J F : FE) : FS := fun ε => match ε[i]? with
  | some (some (true, .list ds)) => (F ε).bind fun d => (J ε).bind fun j => match j with
    | .int k => (ixN ds.length k).map fun n => (.nx, ε.set i (some (true, .list (ds.set n d))))
    | _ => none
  | _ => none

section
variable {X : Cx} {st : Stmt} {rest body : List Stmt} {e e2 tg it : Expr} {es tgs : List Expr} {F F2 : FE} {G : FA} {T : FT} {B B2 : FS} {S S2 : List Nat} {pos : Pos} {TT : TD} {TS : List TD}
theorem putS_some {i : Nat} {f : List D → D → Option (List D)} {ε : Ev} {r : Fl × Ev} (h : putS i f F ε = some r) : ∃ ds d ds', ε[i]? = some (some (true, .list ds)) ∧ F ε = some d ∧ f ds d = some ds' ∧ r = (.nx, ε.set i (some (true, .list ds'))) := by
  unfold putS at h
  split at h
  · rename_i ds q
    obtain ⟨d, h1, h⟩ := Option.bind_eq_some_iff.mp h
    obtain ⟨ds', h2, h⟩ := Option.map_eq_some_iff.mp h
    exact ⟨ds, d, ds', q, h1, h2, h.symm⟩
  · cases h
theorem Frs.lst {H H' : Hp} {A : List Addr} (f : Frs H H' A) {a : Addr} (m : a ∈ A) : Lst H' a := (f.2 a m).2
theorem Lst.grow {H H' : Hp} {a : Addr} (l : Lst H a) (g : Same H H') : Lst H' a := let ⟨xs, e⟩ := l; ⟨xs, g a _ e⟩
/-- x.append(e) -/
theorem ss_append (i : Nat) {x : Str} {p ap cp : Pos} (he : EF X e F) (hN : X.N[i]? = some x := by rfl) (hv : Vis X.env.scope x := by first | exact Or.inl rfl | exact Or.inr (Or.inl rfl) | exact Or.inr (Or.inr rfl)) (hd : (x == ("__debug__" : Str)) = false := by decide)
    (hcd : (x == ("__classdict__" : Str)) = false := by decide)
    (hbase : attributeBase (.Name x p) "append" X.env (eval (.Name x p) X.env) = eval (.Name x p) X.env := by rfl)
    (hfew : ((backTo cp (starEach [e] X.env)).all (fun x => !x.1) && (backToKw cp (keywordEach [] X.env)).all (fun x => x.1.isSome)
      && decide ([e].length + ([] : List Keyword).length + (if ([] : List Keyword).isEmpty then 0 else 1) < 30)) = true := by rfl)
    (hline : (ap.endLine == cp.line) = true := by rfl) (hs : starEach [e] X.env = (false, eval e X.env) :: starEach [] X.env := by rfl) (hplain : (backTo cp (starEach [] X.env)).any (·.1) = false := by rfl)
    (hsw : swapsWith (.Call (.Attribute (.Name x p) "append" ap) [e] [] cp) none pos.line X.env = pure false := by rfl) :
    SS X (.Expr (.Call (.Attribute (.Name x p) "append" ap) [e] [] cp) pos) (putS i appD F) :=
  ps_imp (ps_expr (pe_bm PySem.F.plainAttrs_list PySem.F.slot_list_append PySem.F.type_list_append mt_append (pe_var hN hv hd hcd) (pa_cons he pa_nil hs) hbase hfew hline hs hplain) hsw) fun De σ H ⟨H0, ε, r, ⟨fp, s⟩, h, k⟩ => by
    obtain ⟨ds, d, ds', h1, h2, h3, rfl⟩ := putS_some h
    unfold appD at h3
    split at h3 <;> cases h3
    rename_i hz
    obtain ⟨a, vs, A, e1, e2, t, ef, nd, ow⟩ := s.owned h1
    refine ⟨.ref a, e1, .inl ⟨rfl, vs, .inl (.inl e2)⟩, ε, fp, d, s.er, h2, fun v H' C g tv fr => ?_⟩
    refine ⟨a, vs, v, rfl, rfl, g a _ e2, by rw [t.len]; exact hz, ?_⟩
    have t' := (t.same g).append (.cons tv .nil)
    rw [List.append_nil] at t'
    refine k σ _ ⟨_, s.put g h1 e1 (by rw [ef]; exact List.mem_cons_self) t' ?_ fun b m => ?_⟩
    · obtain ⟨n1, n2⟩ := List.nodup_cons.mp nd
      refine List.nodup_cons.mpr ⟨fun m => ?_, List.nodup_append.mpr ⟨n2, fr.1, fun b mb c mc e => ?_⟩⟩
      · rcases List.mem_append.mp m with m | m
        · exact n1 m
        · rw [(fr.2 a m).1] at e2
          cases e2
      · subst e
        obtain ⟨o, eo⟩ := t.dom b mb
        rw [(fr.2 b mc).1] at eo
        cases eo
    · rcases List.mem_append.mp m with m | m
      · obtain ⟨o1, o2, o3⟩ := ow b (List.mem_cons_of_mem _ m)
        exact ⟨o1, o2.grow g, o3⟩
      · exact ⟨s.same.free (fr.2 b m).1, fr.lst m, fun j _ => s.notin (.refl H) (fr.2 b m).1 j⟩
/-- x.extend(e), e a new list -/
theorem ss_extend (i : Nat) {x : Str} {p ap cp : Pos} (he : EF X e F) (hN : X.N[i]? = some x := by rfl) (hv : Vis X.env.scope x := by first | exact Or.inl rfl | exact Or.inr (Or.inl rfl) | exact Or.inr (Or.inr rfl)) (hd : (x == ("__debug__" : Str)) = false := by decide)
    (hcd : (x == ("__classdict__" : Str)) = false := by decide)
    (hbase : attributeBase (.Name x p) "extend" X.env (eval (.Name x p) X.env) = eval (.Name x p) X.env := by rfl)
    (hfew : ((backTo cp (starEach [e] X.env)).all (fun x => !x.1) && (backToKw cp (keywordEach [] X.env)).all (fun x => x.1.isSome)
      && decide ([e].length + ([] : List Keyword).length + (if ([] : List Keyword).isEmpty then 0 else 1) < 30)) = true := by rfl)
    (hline : (ap.endLine == cp.line) = true := by rfl) (hs : starEach [e] X.env = (false, eval e X.env) :: starEach [] X.env := by rfl) (hplain : (backTo cp (starEach [] X.env)).any (·.1) = false := by rfl)
    (hsw : swapsWith (.Call (.Attribute (.Name x p) "extend" ap) [e] [] cp) none pos.line X.env = pure false := by rfl) :
    SS X (.Expr (.Call (.Attribute (.Name x p) "extend" ap) [e] [] cp) pos) (putS i extD F) :=
  ps_imp (ps_expr (pe_bm PySem.F.plainAttrs_list PySem.F.slot_list_extend PySem.F.type_list_extend mt_extend (pe_var hN hv hd hcd) (pa_cons he pa_nil hs) hbase hfew hline hs hplain) hsw) fun De σ H ⟨H0, ε, r, ⟨fp, s⟩, h, k⟩ => by
    obtain ⟨ds, d, ds', h1, h2, h3, rfl⟩ := putS_some h
    unfold extD at h3
    split at h3 <;> try (cases h3)
    rename_i es
    split at h3 <;> cases h3
    rename_i hz
    obtain ⟨a, vs, A, e1, e2, t, ef, nd, ow⟩ := s.owned h1
    refine ⟨.ref a, e1, .inl ⟨rfl, vs, .inl (.inl e2)⟩, ε, fp, _, s.er, h2, fun v H' C g tv fr => ?_⟩
    obtain ⟨b, us, C, rfl, rv, tv, rfl⟩ := tv.mine
    · obtain ⟨zs, ez⟩ := fr.lst (List.mem_cons_self (a := b))
      have : zs = us := by
        rcases rv with rv | ⟨o, rv⟩
        · rw [ez] at rv
          cases rv
          rfl
        · rw [ez] at rv
          cases rv
      subst this
      refine ⟨a, b, vs, zs, rfl, rfl, g a _ e2, ez, by rw [t.len, tv.len]; exact hz, ?_⟩
      have t' := (t.same g).append tv
      refine k σ _ ⟨_, s.put g h1 e1 (by rw [ef]; exact List.mem_cons_self) t' ?_ fun b m => ?_⟩
      · obtain ⟨n1, n2⟩ := List.nodup_cons.mp nd
        refine List.nodup_cons.mpr ⟨fun m => ?_, List.nodup_append.mpr ⟨n2, (List.nodup_cons.mp fr.1).2, fun b mb c mc e => ?_⟩⟩
        · rcases List.mem_append.mp m with m | m
          · exact n1 m
          · rw [(fr.2 a (List.mem_cons_of_mem _ m)).1] at e2
            cases e2
        · subst e
          obtain ⟨o, eo⟩ := t.dom b mb
          rw [(fr.2 b (List.mem_cons_of_mem _ mc)).1] at eo
          cases eo
      · rcases List.mem_append.mp m with m | m
        · obtain ⟨o1, o2, o3⟩ := ow b (List.mem_cons_of_mem _ m)
          exact ⟨o1, o2.grow g, o3⟩
        · exact ⟨s.same.free (fr.2 b (List.mem_cons_of_mem _ m)).1, fr.lst (List.mem_cons_of_mem _ m), fun j _ => s.notin (.refl H) (fr.2 b (List.mem_cons_of_mem _ m)).1 j⟩
/-- x[j] = e -/
theorem ss_setIt (i : Nat) {x : Str} {p sp : Pos} {j : Expr} {J : FE} (he : EF X e F) (hj : EA X j J S) (hN : X.N[i]? = some x := by rfl) (hv : Vis X.env.scope x := by first | exact Or.inl rfl | exact Or.inr (Or.inl rfl) | exact Or.inr (Or.inr rfl)) (hd : (x == ("__debug__" : Str)) = false := by decide)
    (hcd : (x == ("__classdict__" : Str)) = false := by decide)
    (ha : ∀ v, assign (.Subscript (.Name x p) j sp) X.env v = (do
      let ov ← holding [v] (eval (.Name x p) X.env)
      let iv ← holding [v, ov] (eval j X.env)
      standAt sp
      holding [v, ov, iv] (setItem ov iv v)
      release [v, ov, iv] []) := by intro _; rfl)
    (hs : swapsWithSole [.Subscript (.Name x p) j sp] e pos.line X.env = pure false := by rfl) (hw : swappedStores [.Subscript (.Name x p) j sp] e X.env = pure none := by rfl)
    (h1 : (assignEach [.Subscript (.Name x p) j sp] X.env).map (·.2) = [assign (.Subscript (.Name x p) j sp) X.env] := by rfl) :
    SS X (.Assign [.Subscript (.Name x p) j sp] e pos) (setItS i J F) :=
  ps_imp (ps_asg he (pg_sub (pe_var hN hv hd hcd) hj set_list ha) hs hw h1) fun De σ H ⟨H0, ε, r, ⟨fp, s⟩, h, k⟩ => by
    unfold setItS at h
    split at h <;> try (cases h)
    rename_i ds h1
    obtain ⟨d, h2, h⟩ := Option.bind_eq_some_iff.mp h
    obtain ⟨dj, h3, h⟩ := Option.bind_eq_some_iff.mp h
    split at h <;> try (cases h)
    rename_i kk
    obtain ⟨n, h4, rfl⟩ := Option.map_eq_some_iff.mp h
    obtain ⟨a, vs, A, e1, e2, t, ef, nd, ow⟩ := s.owned h1
    refine ⟨ε, fp, d, s.er, h2, fun v H1 C g tv fr => ⟨.ref a, e1, ε, fp, _, s.er.same g, h3, fun w H2 _ g2 tw _ => ?_⟩⟩
    cases tw
    have g' := g.trans g2
    refine ⟨a, vs, kk, n, rfl, rfl, g' a _ e2, by rw [t.len]; exact h4, ?_⟩
    obtain ⟨n1, n2⟩ := List.nodup_cons.mp nd
    have fr2 := fr.fwd g2
    obtain ⟨C', t', nC, sC⟩ := TrA.set (k := n) (t.same g') (tv.same g2) (fun b m m2 => by
      obtain ⟨o, eo⟩ := t.dom b m
      rw [(fr.2 b m2).1] at eo
      cases eo) n2 fr.1
    refine k σ _ ⟨_, s.put g' h1 e1 (by rw [ef]; exact List.mem_cons_self) t' ?_ fun b m => ?_⟩
    · refine List.nodup_cons.mpr ⟨fun m => ?_, nC⟩
      rcases sC a m with m | m
      · exact n1 m
      · rw [(fr.2 a m).1] at e2
        cases e2
    · rcases sC b m with m | m
      · obtain ⟨o1, o2, o3⟩ := ow b (List.mem_cons_of_mem _ m)
        exact ⟨o1, o2.grow g', o3⟩
      · exact ⟨s.same.free (fr.2 b m).1, fr2.lst m, fun j _ => s.notin (.refl H) (fr.2 b m).1 j⟩
end
end PV

namespace PV
open PySem PySem.Spec PyProof.Rows L2

/-! ### operators on trees -/
def addD : D → D → Option D
  | .int a, .int b => some (.int (a + b))
  | .str a, .str b => if a.length + b.length ≤ sizeLine then some (.str (a ++ b)) else none
  | .list a, .list b => if flatAll a = true ∧ flatAll b = true ∧ a.length + b.length ≤ sizeLine then some (.list (a ++ b)) else none
  | _, _ => none
def subD : D → D → Option D
  | .int a, .int b => some (.int (a - b))
  | _, _ => none
/-- small enough to be multiplied -/
def mulOk (a b : Int) : Prop := a.natAbs.log2 + b.natAbs.log2 < 1000000
instance (a b : Int) : Decidable (mulOk a b) := by unfold mulOk; infer_instance
def mulD : D → D → Option D
  | .int a, .int b => if mulOk a b then some (.int (a * b)) else none
  | _, _ => none
/-- a list, so many times -/
def repD : D → D → Option D
  | .list xs, .int k => if flatAll xs = true ∧ -(2 ^ 63) ≤ k ∧ k < 2 ^ 63 ∧ xs.length * k.toNat ≤ sizeLine then some (.list (List.replicate k.toNat xs).flatten) else none
  | _, _ => none
def fdivD : D → D → Option D
  | .int a, .int b => if 0 < b ∧ b.natAbs.log2 < 9000 then some (.int (a / b)) else none
  | _, _ => none
def modD : D → D → Option D
  | .int a, .int b => if 0 < b then some (.int (a % b)) else none
  | _, _ => none
def powD : D → D → Option D
  | .int a, .int b => if 0 ≤ b ∧ b ≤ 1000000 ∧ a.natAbs < 2 ^ 64 then some (.int (a ^ b.toNat)) else none
  | _, _ => none
def ltD : D → D → Option Bool
  | .int a, .int b => some (decide (a < b))
  | _, _ => none
def leD : D → D → Option Bool
  | .int a, .int b => some (decide (a ≤ b))
  | _, _ => none
def gtD : D → D → Option Bool
  | .int a, .int b => some (decide (b < a))
  | _, _ => none
def geD : D → D → Option Bool
  | .int a, .int b => some (decide (b ≤ a))
  | _, _ => none
def eqD (d e : D) : Option Bool := if SeqAt.shaped d = true ∧ SeqAt.shaped e = true then some (PyData.eqv d e) else none
def neD (d e : D) : Option Bool := (eqD d e).map (!·)
def isD (d e : D) : Option Bool := match e with
  | .none => some (match d with | .none => true | _ => false)
  | _ => none
def isNotD (d e : D) : Option Bool := (isD d e).map (!·)
def isIntD : D → Bool
  | .int _ => true
  | _ => false
def inD (d e : D) : Option Bool := match e with
  | .list ds => if SeqAt.shaped d = true ∧ SeqAt.shaped (.list ds) = true then some (ds.any fun z => PyData.eqv z d) else none
  | .tuple ds => match d with
    | .int i => if ds.all isIntD = true then some (ds.any fun z => PyData.eqv z (.int i)) else none
    | _ => none
  | .str z => match d with
    | .str c => match c.cps.toList with
      | [k] => some (decide (k ∈ z.cps.toList))
      | _ => none
    | _ => none
  | _ => none
def notInD (d e : D) : Option Bool := (inD d e).map (!·)
def negD : D → Option D
  | .int a => some (.int (-a))
  | _ => none

section
variable {X : Cx} {K : Fg} {pins : List (Addr × Obj)} {σ : L2.St} {H : Hp} {s : Shared}
theorem Tr.intI {k : Bool} {v : V} {i : Int} {A : List Addr} (t : Tr K k H v (.int i) A) : v = .int i := by cases t; rfl
theorem op_add_F : OpR X (binaryOp .Add) (rF2 X.K addD) := by
  intro pins s σ H x y v u Q I rx ry h
  obtain ⟨d, e, A, B, r, t1, t2, hf, k⟩ := h
  unfold addD at hf
  split at hf
  · cases hf
    cases t1
    cases t2
    exact op_add pins s σ H _ _ v u Q I rx ry ⟨_, _, rfl, rfl, k _ H [] (.refl H) (.int _) .nil⟩
  · split at hf <;> cases hf
    cases t1
    cases t2
    exact op_add_str pins s σ H _ _ v u Q I rx ry ⟨_, _, rfl, rfl, by assumption, k _ H [] (.refl H) (.str _) .nil⟩
  · split at hf <;> cases hf
    rename_i hc
    obtain ⟨f1, f2, hz⟩ := hc
    obtain ⟨a1, xs1, A1, rfl, r1, t1, _, _⟩ := t1.list
    obtain ⟨a2, xs2, A2, rfl, r2, t2, _, _⟩ := t2.list
    cases rx
    cases ry
    obtain ⟨i1, w1, ⟨⟨c1, d1, dt1, sl1⟩, n1, g1, hc1, _, hd1⟩, z1⟩ := I.list r1
    obtain ⟨i2, w2, ⟨⟨c2, d2, dt2, sl2⟩, n2, g2, hc2, _, hd2⟩, z2⟩ := I.list r2
    simp only at hc1 hd1 hc2 hd2
    subst hc1 hd1 hc2 hd2
    have l1 := w1.length
    have l2 := w2.length
    have k1 := t1.len
    have k2 := t2.len
    have ea : i1.toArray ++ i2.toArray = (i1 ++ i2).toArray := by simp
    refine concat_meets ⟨_, g1, rfl⟩ ⟨_, g2, rfl⟩ noFill_list_add seq_list_add PySem.F.slot_list_add PySem.F.entry_list_add
      (PySem.F.args_list_add_2 _ _) (list_addW a1 a2 i1.toArray i2.toArray n1 n2 d1 d2 sl1 sl2 (by rw [List.size_toArray, List.size_toArray]; omega)) ⟨g1, g2, ?_⟩
    rw [ea]
    have tt := t1.append t2
    have fA := t1.flat f1
    have fB := t2.flat f2
    subst fA fB
    have n : H s.heap.objs.size = none := I.hok.fresh (Nat.le_refl _)
    have tt := tt.narrow (by rw [flatAll_append, f1, f2]; rfl)
    refine ⟨.ref s.heap.objs.size, upd H s.heap.objs.size (.lst (xs1 ++ xs2)), I.lnew (t' := s.toks) (w1.append w2) (by rw [List.length_append]; omega), rfl, k _ _ [s.heap.objs.size] (same_upd n) (.lst (.inl upd_same) (tt.same (same_upd n))) ⟨by simp, fun a m => ?_⟩⟩
    rw [List.mem_singleton.mp m]
    exact ⟨n, _, upd_same⟩
  · cases hf
/-- an operator on two ints -/
theorem opI_F {f : Value → Value → Sem Value} {g : D → D → Option D} (hg : ∀ d e r, g d e = some r → ∃ i j k, d = .int i ∧ e = .int j ∧ r = .int k ∧ ∀ (pins : List (Addr × Obj)) (s : Shared) (σ : L2.St) (H : Hp) (v u : Value) (Q : VK), Inv X pins σ H s → RelV (.int i) v → RelV (.int j) u → Q (.int k) H → wpAny (model X.prog X.w) X.A (f v u) (EP X pins σ Q) X.xe s) :
    OpR X f (rF2 X.K g) := by
  intro pins s σ H x y v u Q I rx ry h
  obtain ⟨d, e, A, B, r, t1, t2, hf, k⟩ := h
  obtain ⟨i, j, m, rfl, rfl, rfl, go⟩ := hg d e r hf
  cases t1
  cases t2
  exact go pins s σ H v u Q I rx ry (k _ H [] (.refl H) (.int _) .nil)
theorem op_sub_F : OpR X (binaryOp .Sub) (rF2 X.K subD) := opI_F fun d e r h => by
  unfold subD at h
  split at h <;> cases h
  exact ⟨_, _, _, rfl, rfl, rfl, fun pins s σ H v u Q I rx ry q => op_sub pins s σ H _ _ v u Q I rx ry ⟨_, _, rfl, rfl, q⟩⟩
theorem op_fdiv_F : OpR X (binaryOp .FloorDiv) (rF2 X.K fdivD) := opI_F fun d e r h => by
  unfold fdivD at h
  split at h <;> try (cases h)
  split at h <;> cases h
  rename_i hc
  exact ⟨_, _, _, rfl, rfl, rfl, fun pins s σ H v u Q I rx ry q => op_fdivW pins s σ H _ _ v u Q I rx ry ⟨_, _, rfl, rfl, hc, q⟩⟩
theorem op_mod_F : OpR X (binaryOp .Mod) (rF2 X.K modD) := opI_F fun d e r h => by
  unfold modD at h
  split at h <;> try (cases h)
  split at h <;> cases h
  rename_i hc
  refine ⟨_, _, _, rfl, rfl, rfl, fun pins s σ H v u Q I rx ry q => op_modN pins s σ H _ _ v u Q I rx ry ⟨_, _, rfl, rfl, by omega, ?_⟩⟩
  show Q (.int (Int.fmod _ _)) H
  rw [Int.fmod_eq_emod_of_nonneg _ (Int.le_of_lt hc)]
  exact q
theorem op_pow_F : OpR X (binaryOp .Pow) (rF2 X.K powD) := opI_F fun d e r h => by
  unfold powD at h
  split at h <;> try (cases h)
  split at h <;> cases h
  rename_i hc
  exact ⟨_, _, _, rfl, rfl, rfl, fun pins s σ H v u Q I rx ry q => op_pow pins s σ H _ _ v u Q I rx ry ⟨_, _, rfl, rfl, hc, q⟩⟩
theorem op_mul_F : OpR X (binaryOp .Mult) (rF2 X.K mulD) := opI_F fun d e r h => by
  unfold mulD at h
  split at h <;> try (cases h)
  split at h <;> cases h
  rename_i hc
  exact ⟨_, _, _, rfl, rfl, rfl, fun pins s σ H v u Q I rx ry q => op_mulW pins s σ H _ _ v u Q I rx ry ⟨_, _, rfl, rfl, hc, q⟩⟩
theorem opB_F {op : CmpOp} {g : D → D → Option Bool} (hg : ∀ d e r, g d e = some r → ∃ i j, d = .int i ∧ e = .int j ∧ ∀ (pins : List (Addr × Obj)) (s : Shared) (σ : L2.St) (H : Hp) (v u : Value) (Q : VK), Inv X pins σ H s → RelV (.int i) v → RelV (.int j) u → Q (.bl r) H → wpAny (model X.prog X.w) X.A (compareOp op v u) (EP X pins σ Q) X.xe s) :
    OpR X (compareOp op) (rB2 X.K g) := by
  intro pins s σ H x y v u Q I rx ry h
  obtain ⟨d, e, A, B, r, t1, t2, hf, k⟩ := h
  obtain ⟨i, j, rfl, rfl, go⟩ := hg d e r hf
  cases t1
  cases t2
  exact go pins s σ H v u Q I rx ry k
theorem op_lt_F : OpR X (compareOp .Lt) (rB2 X.K ltD) := opB_F fun d e r h => by
  unfold ltD at h
  split at h <;> cases h
  exact ⟨_, _, rfl, rfl, fun pins s σ H v u Q I rx ry q => op_lt pins s σ H _ _ v u Q I rx ry ⟨_, _, rfl, rfl, q⟩⟩
theorem op_le_F : OpR X (compareOp .LtE) (rB2 X.K leD) := opB_F fun d e r h => by
  unfold leD at h
  split at h <;> cases h
  exact ⟨_, _, rfl, rfl, fun pins s σ H v u Q I rx ry q => op_le pins s σ H _ _ v u Q I rx ry ⟨_, _, rfl, rfl, q⟩⟩
theorem op_gt_F : OpR X (compareOp .Gt) (rB2 X.K gtD) := opB_F fun d e r h => by
  unfold gtD at h
  split at h <;> cases h
  exact ⟨_, _, rfl, rfl, fun pins s σ H v u Q I rx ry q => op_gt pins s σ H _ _ v u Q I rx ry ⟨_, _, rfl, rfl, q⟩⟩
theorem op_ge_F : OpR X (compareOp .GtE) (rB2 X.K geD) := opB_F fun d e r h => by
  unfold geD at h
  split at h <;> cases h
  exact ⟨_, _, rfl, rfl, fun pins s σ H v u Q I rx ry q => op_ge pins s σ H _ _ v u Q I rx ry ⟨_, _, rfl, rfl, q⟩⟩
theorem op_eq_F (hu : X.A.units + 64 < cLine) : OpR X (compareOp .Eq) (rB2 X.K eqD) := by
  intro pins s σ H x y v u Q I rx ry h
  obtain ⟨d, e, A, B, r, t1, t2, hf, k⟩ := h
  unfold eqD at hf
  split at hf <;> cases hf
  rename_i hc
  exact op_eqD hu pins s σ H x y v u Q I rx ry ⟨d, e, t1.dp, t2.dp, hc.1, hc.2, k⟩
theorem op_ne_F (hu : X.A.units + 64 < cLine) : OpR X (compareOp .NotEq) (rB2 X.K neD) := by
  intro pins s σ H x y v u Q I rx ry h
  obtain ⟨d, e, A, B, r, t1, t2, hf, k⟩ := h
  obtain ⟨b, h0, rfl⟩ := Option.map_eq_some_iff.mp hf
  unfold eqD at h0
  split at h0 <;> cases h0
  rename_i hc
  exact op_neD hu pins s σ H x y v u Q I rx ry ⟨d, e, t1.dp, t2.dp, hc.1, hc.2, k⟩
theorem op_is_F : OpR X (compareOp .Is) (rB2 X.K isD) := by
  intro pins s σ H x y v u Q I rx ry h
  obtain ⟨d, e, A, B, r, t1, t2, hf, k⟩ := h
  unfold isD at hf
  split at hf <;> cases hf
  cases t2
  refine op_isN pins s σ H x _ v u Q I rx ry ⟨rfl, ?_⟩
  cases t1 <;> exact k
theorem op_isnot_F : OpR X (compareOp .IsNot) (rB2 X.K isNotD) := by
  intro pins s σ H x y v u Q I rx ry h
  obtain ⟨d, e, A, B, r, t1, t2, hf, k⟩ := h
  obtain ⟨b, h0, rfl⟩ := Option.map_eq_some_iff.mp hf
  unfold isD at h0
  split at h0 <;> cases h0
  cases t2
  refine op_notN pins s σ H x _ v u Q I rx ry ⟨rfl, ?_⟩
  cases t1 <;> exact k
theorem un_neg_F : UnR X (unaryOp .USub) fun x H Q => ∃ d A r, Tr X.K true H x d A ∧ negD d = some r ∧ ∀ v H' C, Same H H' → Tr X.K false H' v r C → Frs H H' C → Q v H' := by
  intro pins s σ H x v Q I rx h
  obtain ⟨d, A, r, t, hf, k⟩ := h
  unfold negD at hf
  split at hf <;> cases hf
  cases t
  exact un_neg pins s σ H _ v Q I rx ⟨_, rfl, k _ H [] (.refl H) (.int _) .nil⟩
theorem isIntD_all {kk : Bool} : ∀ {ds : List D} {vs : List V} {A : List Addr}, TrA K kk H vs ds A → ds.all isIntD = true → vs.all flatV = true ∧ ∀ i : Int, inV (.int i) vs = ds.any fun z => PyData.eqv z (.int i)
  | [], _, _, t, _ => by
    cases t
    exact ⟨rfl, fun i => rfl⟩
  | d :: ds, _, _, t, h => by
    cases t with
    | cons t1 t2 =>
      rw [List.all_cons, Bool.and_eq_true] at h
      obtain ⟨g1, g2⟩ := isIntD_all t2 h.2
      cases d with
      | int n =>
        cases t1
        refine ⟨by rw [List.all_cons, g1]; rfl, fun i => ?_⟩
        show (eqV (.int n) (.int i) || inV (.int i) _) = _
        rw [g2 i, List.any_cons]
        simp [eqV, PyData.eqv]
      | _ => exact absurd h.1 Bool.false_ne_true
theorem inB {op : CmpOp} {neg : Bool} (h1 : OpR X (compareOp op) (if neg = true then rNotInD X.K else rInD X.K)) (h2 : OpR X (compareOp op) (rIn X.K neg))
    (h3 : OpR X (compareOp op) (fun x y H Q => ∃ (c : Nat) (z : Str), x = .str ⟨#[c]⟩ ∧ y = .str z ∧ Q (.bl (if neg = true then !decide (c ∈ z.cps.toList) else decide (c ∈ z.cps.toList))) H)) :
    OpR X (compareOp op) (rB2 X.K fun d e => (inD d e).map fun b => if neg = true then !b else b) := by
  intro pins s σ H x y v u Q I rx ry h
  obtain ⟨d, e, A, B, r, t1, t2, hf, k⟩ := h
  obtain ⟨b, h0, rfl⟩ := Option.map_eq_some_iff.mp hf
  unfold inD at h0
  split at h0 <;> try (cases h0)
  · split at h0 <;> cases h0
    rename_i hc
    refine h1 pins s σ H x y v u Q I rx ry ?_
    cases neg with
    | true => show rNotInD X.K x y H Q; exact ⟨d, _, t1.dp, t2.dp, hc.1, hc.2, k⟩
    | false => show rInD X.K x y H Q; exact ⟨d, _, t1.dp, t2.dp, hc.1, hc.2, k⟩
  · split at h0 <;> try (cases h0)
    split at h0 <;> cases h0
    rename_i hc
    cases t1
    cases t2 with
    | tup r t =>
      obtain ⟨g1, g2⟩ := isIntD_all t hc
      refine h2 pins s σ H _ _ v u Q I rx ry ⟨_, _, rfl, .inr r, rfl, g1, ?_⟩
      rw [g2]
      exact k
  · split at h0 <;> try (cases h0)
    split at h0 <;> cases h0
    rename_i c _ kk hc
    cases t1
    cases t2
    have ec : c = ⟨#[kk]⟩ := by
      obtain ⟨⟨l⟩⟩ := c
      simp at hc
      rw [hc]
    exact h3 pins s σ H _ _ v u Q I rx ry ⟨kk, _, by rw [ec], rfl, k⟩
theorem op_in_F (hu : X.A.units + 65 < cLine) : OpR X (compareOp .In) (rB2 X.K inD) := by
  have h := inB (X := X) (op := .In) (neg := false) (by rw [if_neg Bool.false_ne_true]; exact op_inD hu) op_in_seq (by simpa using op_in_sign)
  simpa using h
theorem op_notin_F (hu : X.A.units + 65 < cLine) : OpR X (compareOp .NotIn) (rB2 X.K notInD) := by
  have h := inB (X := X) (op := .NotIn) (neg := true) (by rw [if_pos rfl]; exact op_notInD hu) op_notIn_seq (by simpa using op_notIn_sign)
  exact h
theorem Room.units65 {k : Nat} {A : Around} (r : Room k A) : A.units + 65 < cLine := by have := r.un; omega
/-- a list display, so many times -/
theorem ef_rep {a b : Expr} {F F2 : FE} {S2 : List Nat} {pos : Pos} (ha : EF X a F) (hb : EA X b F2 S2) : EF X (.BinOp a .Mult b pos) (bin repD F F2) := pe_imp (pe_op op_rep ha hb) fun σ H Q ⟨ε, fp, r, er, hd, k⟩ => by
  obtain ⟨d, e, h1, h2, h3⟩ := bin_some hd
  unfold repD at h3
  split at h3 <;> try (cases h3)
  split at h3 <;> cases h3
  rename_i hc
  obtain ⟨f1, b1, b2, hz⟩ := hc
  refine ⟨ε, fp, _, er, h1, fun v H1 A s1 t1 fr => ⟨ε, fp, _, er.same s1, h2, fun u H2 B s2 t2 _ => ?_⟩⟩
  cases t2
  obtain ⟨a, xs, A, rfl, r1, t3, rfl⟩ := t1.mine
  · have fA := t3.flat f1
    subst fA
    obtain ⟨ys, ey⟩ := (fr.2 a List.mem_cons_self).2
    have : ys = xs := by
      rcases r1 with r1 | ⟨o, r1⟩
      · rw [ey] at r1
        cases r1
        rfl
      · rw [ey] at r1
        cases r1
    subst this
    refine ⟨a, _, ys, rfl, rfl, s2 a _ ey, b1, b2, by rw [t3.len]; exact hz, fun p n => ?_⟩
    refine k _ _ [p] ((s1.trans s2).trans (same_upd n)) (.lst (.inl upd_same) ?_) ⟨by simp, fun b m => ?_⟩
    · have rp : ∀ n : Nat, TrA X.K false H2 (List.replicate n ys).flatten (List.replicate n _).flatten [] := fun n => by
        induction n with
        | zero => exact .nil
        | succ n ih => exact (t3.same s2).append ih
      exact (rp _).same (same_upd n)
    · have : b = p := by simpa using m
      subst this
      exact ⟨(s1.trans s2).free n, _, upd_same⟩
end
end PV

namespace PV
open PySem PySem.Spec PyProof.Rows L2

/-! ### places, slices -/
def idxD : D → D → Option D
  | .list ds, .int i => atI ds i
  | .tuple ds, .int i => atI ds i
  | .str z, .int i => if z.length ≤ sizeLine then (atI z.cps.toList i).map fun c => .str ⟨#[c]⟩ else none
  | _, _ => none
theorem TrA.atI {K : Fg} {kk : Bool} {H : Hp} {ds : List D} {vs : List V} {A : List Addr} {i : Int} {d : D} (t : TrA K kk H vs ds A) (h : L2.atI ds i = some d) : ∃ v B, L2.atI vs i = some v ∧ Tr K kk H v d B ∧ ∀ b ∈ B, b ∈ A := by
  unfold L2.atI at h ⊢
  obtain ⟨j, h1, h2⟩ := Option.bind_eq_some_iff.mp h
  obtain ⟨v, B, e, tv, sb⟩ := t.at h2
  exact ⟨v, B, by rw [t.len, h1]; exact e, tv, sb⟩
abbrev FO := Ev → Option (Option Int)
def noneO : FO := fun _ => some none
def someO (F : FE) : FO := fun ε => (un asI F ε).map some
def cutD (ds : List D) (lo hi : Option Int) : List D := (ds.drop (HT.sIx ds.length 0 lo)).take (HT.sIx ds.length ds.length hi - HT.sIx ds.length 0 lo)
def sliceD (F : FE) (L U : FO) : FE := fun ε => (F ε).bind fun d => (L ε).bind fun l => (U ε).bind fun u => match d with
  | .list ds => some (.list (cutD ds l u))
  | _ => none
/-- .. of flat items -/
def sliceF (F : FE) (L U : FO) : FE := fun ε => (sliceD F L U ε).bind fun d => match d with
  | .list ds => if flatAll ds = true then some (.list ds) else none
  | _ => none
def tEO (K : Fg) (F : FO) : TO := fun σ H Q => ∃ ε fp o, ER K σ H ε fp ∧ F ε = some o ∧ ∀ H', Same H H' → Q o H'
abbrev EO (X : Cx) (e : Option Expr) (F : FO) : Prop := PO X e (tEO X.K F)
def flatL (f : List D → Option D) : List D → Option D := fun ds => (f ds).bind fun d => if flat d = true then some d else none
section
variable {X : Cx} {a b e tg it elt : Expr} {es : List Expr} {F F2 : FE} {G : FA} {T : FT} {L U : FO} {S S2 : List Nat} {pos p2 : Pos} {lo hi : Option Expr} {TT : TD}
theorem po_imp {e : Option Expr} {t t' : TO} (h : PO X e t) (g : ∀ σ H Q, t' σ H Q → t σ H Q) : PO X e t' := ⟨fun pins s σ H Q I q => h.run pins s σ H Q I (g σ H Q q)⟩
theorem eo_none : EO X none noneO := po_imp po_none fun σ H Q ⟨ε, fp, o, er, h, k⟩ => by
  cases h
  exact k H (.refl H)
theorem eo_some (h : EA X e F S) : EO X (some e) (someO F) := po_imp (po_some h) fun σ H Q ⟨ε, fp, o, er, h, k⟩ => by
  obtain ⟨i, h1, rfl⟩ := Option.map_eq_some_iff.mp h
  obtain ⟨d, h2, h3⟩ := un_some h1
  cases d <;> try (cases h3)
  exact ⟨ε, fp, _, er, h2, fun v H' A s t _ => ⟨i, by cases t; rfl, k H' s⟩⟩
theorem ea_ix (ha : EA X a F S) (hb : EA X b F2 S2) (hs : PlainIx b := by intro _ _; rfl) : EA X (.Subscript a b pos) (bin idxD F F2) S := pe_imp (pe_ix ix_seq ha hb hs) fun σ H Q ⟨ε, fp, r, er, hd, k⟩ => by
  obtain ⟨d, e, h1, h2, h3⟩ := bin_some hd
  refine ⟨ε, fp, d, er, h1, fun v H1 A s1 t1 al => ⟨ε, fp, e, er.same s1, h2, fun u H2 B s2 t2 _ => ?_⟩⟩
  unfold idxD at h3
  split at h3 <;> try (cases h3)
  · cases t2
    obtain ⟨p, xs, B, rfl, r, t, sB, kp⟩ := t1.list
    obtain ⟨w, C, e1, tw, sb⟩ := (t.same s2).atI h3
    exact .inl ⟨_, _, _, w, rfl, rfl, kp H2 (.of_same s2), e1, k w H2 C (s1.trans s2) tw (al.sub fun b m => sB b (sb b m))⟩
  · cases t2
    cases t1 with
    | tup r t =>
      obtain ⟨w, C, e1, tw, sb⟩ := (t.same s2).atI h3
      exact .inr (.inl ⟨_, _, _, w, rfl, rfl, Keep.sqT (A := []) (.of_same s2) r, e1, k w H2 C (s1.trans s2) tw (al.sub sb)⟩)
  · split at h3 <;> try (cases h3)
    rename_i hz
    obtain ⟨c, h4, rfl⟩ := Option.map_eq_some_iff.mp h3
    cases t1
    cases t2
    exact .inr (.inr ⟨_, _, c, rfl, rfl, hz, h4, k _ H2 [] (s1.trans s2) (.str _) .nil⟩)
theorem cutV_eq {K : Fg} {kk : Bool} {H : Hp} {ds : List D} {vs : List V} {A : List Addr} {lo hi : Option Int} (t : TrA K kk H vs ds A) : ∃ B, TrA K kk H (cutV vs lo hi) (cutD ds lo hi) B ∧ ∀ b ∈ B, b ∈ A := by
  unfold cutV cutD
  rw [t.len]
  obtain ⟨B, t1, s1, _⟩ := t.drop (HT.sIx ds.length 0 lo)
  obtain ⟨C, t2, s2, _⟩ := t1.take (HT.sIx ds.length ds.length hi - HT.sIx ds.length 0 lo)
  exact ⟨C, t2, fun b m => s1 b (s2 b m)⟩
theorem slice_go {σ : L2.St} {H : Hp} {Q : VK} {ε : Ev} {fp : Nat → List Addr} {l u : Option Int} {ds : List D} (er : ER X.K σ H ε fp) (h1 : F ε = some (.list ds)) (h2 : L ε = some l) (h3 : U ε = some u)
    (k : ∀ p H1 xs A, Same H H1 → H1 p = none → TrA X.K true H1 xs (cutD ds l u) A → Als H fp S A → Q (.ref p) (upd H1 p (.lst xs))) : tSl (rSlL X.K) (tEA X.K F S) (tEO X.K L) (tEO X.K U) σ H Q := by
  refine ⟨ε, fp, _, er, h1, fun v H1 A s1 t1 al => ⟨ε, fp, _, er.same s1, h2, fun H2 s2 => ⟨ε, fp, _, (er.same s1).same s2, h3, fun H3 s3 => ?_⟩⟩⟩
  have t3 := t1.same (s2.trans s3)
  obtain ⟨p, xs, B0, rfl, r, t, s0, _⟩ := t3.list
  obtain ⟨B, tB, sB⟩ := cutV_eq (lo := l) (hi := u) t
  exact ⟨_, _, rfl, r, fun p n => k p H3 _ B ((s1.trans s2).trans s3) n tB (al.sub fun b m => s0 b (sB b m))⟩
theorem ea_slice (he : EA X e F S) (hl : EO X lo L) (hu : EO X hi U) : EA X (.Subscript e (.Slice lo hi none p2) pos) (sliceD F L U) S := pe_imp (pe_slice sl_list he hl hu) fun σ H Q ⟨ε, fp, r, er, hd, k⟩ => by
  obtain ⟨d, h1, hd⟩ := Option.bind_eq_some_iff.mp hd
  obtain ⟨l, h2, hd⟩ := Option.bind_eq_some_iff.mp hd
  obtain ⟨u, h3, hd⟩ := Option.bind_eq_some_iff.mp hd
  cases d <;> try (cases hd)
  refine slice_go er h1 h2 h3 fun p H1 xs A s n t al => ?_
  refine k _ _ (p :: A) (s.trans (same_upd n)) (.lst (.inl upd_same) (t.same (same_upd n))) fun a m => ?_
  rcases List.mem_cons.mp m with rfl | m
  · exact .inl (s.free n)
  · exact al a m
theorem ef_slice (he : EA X e F S) (hl : EO X lo L) (hu : EO X hi U) : EF X (.Subscript e (.Slice lo hi none p2) pos) (sliceF F L U) := pe_imp (pe_slice sl_list he hl hu) fun σ H Q ⟨ε, fp, r, er, hd, k⟩ => by
  obtain ⟨d0, hd, h5⟩ := Option.bind_eq_some_iff.mp hd
  obtain ⟨d, h1, hd⟩ := Option.bind_eq_some_iff.mp hd
  obtain ⟨l, h2, hd⟩ := Option.bind_eq_some_iff.mp hd
  obtain ⟨u, h3, hd⟩ := Option.bind_eq_some_iff.mp hd
  cases d <;> try (cases hd)
  simp only [Option.ite_none_right_eq_some] at h5
  obtain ⟨hf, h6⟩ := h5
  cases h6
  refine slice_go er h1 h2 h3 fun p H1 xs A s n t al => ?_
  have fA := t.flat hf
  subst fA
  have t := t.narrow hf
  refine k _ _ [p] (s.trans (same_upd n)) (.lst (.inl upd_same) (t.same (same_upd n))) ⟨by simp, fun a m => ?_⟩
  rw [List.mem_singleton.mp m]
  exact ⟨s.free n, _, upd_same⟩

/-! ### built-ins -/
def lenD : List D → Option D
  | [.list ds] => some (.int ds.length)
  | [.tuple ds] => some (.int ds.length)
  | [.str z] => if z.length ≤ sizeLine then some (.int z.length) else none
  | _ => none
def absD : List D → Option D
  | [.int i] => some (.int i.natAbs)
  | _ => none
def max2D : List D → Option D
  | [.int i, .int j] => some (.int (max i j))
  | _ => none
def min2D : List D → Option D
  | [.int i, .int j] => some (.int (min i j))
  | _ => none
def intD : List D → Option D
  | [.int i] => some (.int i)
  | [.bool k] => some (.int (if k = true then 1 else 0))
  | _ => none
def divmodD : List D → Option D
  | [.int i, .int j] => if 0 < j ∧ j.natAbs.log2 < 9000 then some (.tuple [.int (i / j), .int (i % j)]) else none
  | _ => none
def boolsD : List D → Option (List Bool)
  | [] => some []
  | .bool b :: ds => (boolsD ds).map (b :: ·)
  | _ => none
def intsD : List D → Option (List Int)
  | [] => some []
  | .int b :: ds => (intsD ds).map (b :: ·)
  | _ => none
def allD : List D → Option D
  | [.list ds] => (boolsD ds).map fun bs => .bool (bs.all id)
  | _ => none
def anyD : List D → Option D
  | [.list ds] => (boolsD ds).map fun bs => .bool (bs.any id)
  | _ => none
def sumD : List D → Option D
  | [.list ds] => (intsD ds).map fun bs => .int bs.sum
  | _ => none
/-- list(x) of flat items -/
def listOfD : List D → Option D
  | [.list ds] => if flatAll ds = true then some (.list ds) else none
  | [.tuple ds] => if flatAll ds = true then some (.list ds) else none
  | _ => none
/-- tuple(x) of flat items -/
def tupOfD : List D → Option D
  | [.list ds] => if flatAll ds = true then some (.tuple ds) else none
  | [.tuple ds] => if flatAll ds = true then some (.tuple ds) else none
  | _ => none
def sortedD : List D → Option D
  | [.list ds] => (intsD ds).map fun bs => .list ((bs.mergeSort (fun a b => decide (a ≤ b))).map .int)
  | _ => none
theorem boolsD_some {K : Fg} {kk : Bool} {H : Hp} : ∀ {ds : List D} {bs : List Bool} {vs : List V} {A : List Addr}, boolsD ds = some bs → TrA K kk H vs ds A → vs = bs.map V.bl
  | [], _, _, _, h, t => by cases h; cases t; rfl
  | d :: ds, _, _, _, h, t => by
    cases d <;> try (cases h)
    obtain ⟨bs, h1, rfl⟩ := Option.map_eq_some_iff.mp h
    cases t with
    | cons t1 t2 =>
      cases t1
      rw [boolsD_some h1 t2]
      rfl
theorem intsD_some {K : Fg} {kk : Bool} {H : Hp} : ∀ {ds : List D} {bs : List Int} {vs : List V} {A : List Addr}, intsD ds = some bs → TrA K kk H vs ds A → vs = bs.map V.int
  | [], _, _, _, h, t => by cases h; cases t; rfl
  | d :: ds, _, _, _, h, t => by
    cases d <;> try (cases h)
    obtain ⟨bs, h1, rfl⟩ := Option.map_eq_some_iff.mp h
    cases t with
    | cons t1 t2 =>
      cases t1
      rw [intsD_some h1 t2]
      rfl
theorem TrA.ints {K : Fg} {kk : Bool} {H : Hp} : ∀ ns : List Int, TrA K kk H (ns.map V.int) (ns.map PyData.int) []
  | [] => .nil
  | n :: ns => .cons (.int n) (TrA.ints ns)
theorem call_len_F : CallR X (.builtin "len") (rF X.K lenD) := by
  intro pins s σ H xs us Q I r ⟨ds, A, d, t, hf, k⟩
  unfold lenD at hf
  split at hf <;> try (cases hf)
  · cases t with
    | cons t1 t2 =>
      cases t2
      obtain ⟨p, xs, B, rfl, r1, t, _, _⟩ := t1.list
      exact call_len_seq pins s σ H _ us Q I r ⟨_, _, rfl, .inl r1, by rw [t.len]; exact k _ H [] (.refl H) (.int _) .nil⟩
  · cases t with
    | cons t1 t2 =>
      cases t2
      cases t1 with
      | tup r1 t => exact call_len_seq pins s σ H _ us Q I r ⟨_, _, rfl, .inr r1, by rw [t.len]; exact k _ H [] (.refl H) (.int _) .nil⟩
  · split at hf <;> cases hf
    cases t with
    | cons t1 t2 =>
      cases t2
      cases t1
      exact call_len_str pins s σ H _ us Q I r ⟨_, rfl, by assumption, k _ H [] (.refl H) (.int _) .nil⟩
theorem call_abs_F : CallR X (.builtin "abs") (rF X.K absD) := by
  intro pins s σ H xs us Q I r ⟨ds, A, d, t, hf, k⟩
  unfold absD at hf
  split at hf <;> cases hf
  cases t with
  | cons t1 t2 =>
    cases t2
    cases t1
    refine call_abs pins s σ H _ us Q I r ⟨_, rfl, ?_⟩
    rename_i i
    have e : (if i < 0 then -i else i) = (i.natAbs : Int) := by split <;> omega
    rw [e]
    exact k _ H [] (.refl H) (.int _) .nil
theorem call_max_F (hc : X.calm = true) : CallR X (.builtin "max") (rF X.K max2D) := by
  intro pins s σ H xs us Q I r ⟨ds, A, d, t, hf, k⟩
  unfold max2D at hf
  split at hf <;> cases hf
  rename_i i j
  cases t with
  | cons t1 t2 =>
    cases t2 with
    | cons t2 t3 =>
      cases t3
      cases t1
      cases t2
      refine call_max2 hc pins s σ H _ us Q I r ⟨_, _, rfl, ?_⟩
      have e : (if j > i then j else i) = max i j := by split <;> omega
      rw [e]
      exact k _ H [] (.refl H) (.int _) .nil
theorem call_min_F (hc : X.calm = true) : CallR X (.builtin "min") (rF X.K min2D) := by
  intro pins s σ H xs us Q I r ⟨ds, A, d, t, hf, k⟩
  unfold min2D at hf
  split at hf <;> cases hf
  rename_i i j
  cases t with
  | cons t1 t2 =>
    cases t2 with
    | cons t2 t3 =>
      cases t3
      cases t1
      cases t2
      refine call_min2 hc pins s σ H _ us Q I r ⟨_, _, rfl, ?_⟩
      have e : (if j < i then j else i) = min i j := by split <;> omega
      rw [e]
      exact k _ H [] (.refl H) (.int _) .nil
theorem call_int_F : CallR X (.type "int") (rF X.K intD) := by
  intro pins s σ H xs us Q I r ⟨ds, A, d, t, hf, k⟩
  unfold intD at hf
  split at hf <;> cases hf
  · cases t with
    | cons t1 t2 =>
      cases t2
      cases t1
      exact call_int1 pins s σ H _ us Q I r (.inl ⟨_, rfl, k _ H [] (.refl H) (.int _) .nil⟩)
  · cases t with
    | cons t1 t2 =>
      cases t2
      cases t1
      exact call_int1 pins s σ H _ us Q I r (.inr ⟨_, rfl, k _ H [] (.refl H) (.int _) .nil⟩)
theorem call_divmod_F : CallR X (.builtin "divmod") (rF X.K divmodD) := by
  intro pins s σ H xs us Q I r ⟨ds, A, d, t, hf, k⟩
  unfold divmodD at hf
  split at hf <;> try (cases hf)
  split at hf <;> cases hf
  cases t with
  | cons t1 t2 =>
    cases t2 with
    | cons t2 t3 =>
      cases t3
      cases t1
      cases t2
      rename_i hc
      exact call_divmodW pins s σ H _ us Q I r ⟨_, _, rfl, ⟨hc.1, PyProof.noPylong_of_log2 hc.2⟩, fun p n => k _ _ [] (same_upd n) (.tup (.of upd_same) (.cons (.int _) (.cons (.int _) .nil))) .nil⟩
theorem call_all_F (hc : X.calm = true) : CallR X (.builtin "all") (rF X.K allD) := by
  intro pins s σ H xs us Q I r ⟨ds, A, d, t, hf, k⟩
  unfold allD at hf
  split at hf <;> try (cases hf)
  obtain ⟨bs, h1, rfl⟩ := Option.map_eq_some_iff.mp hf
  cases t with
  | cons t1 t2 =>
    cases t2
    obtain ⟨p, xs, B, rfl, r1, t, _, _⟩ := t1.list
    · rw [boolsD_some h1 t] at r1
      exact cr_all hc pins s σ H _ us Q I r ⟨_, bs, rfl, r1, k _ H [] (.refl H) (.bl _) .nil⟩
theorem call_any_F (hc : X.calm = true) : CallR X (.builtin "any") (rF X.K anyD) := by
  intro pins s σ H xs us Q I r ⟨ds, A, d, t, hf, k⟩
  unfold anyD at hf
  split at hf <;> try (cases hf)
  obtain ⟨bs, h1, rfl⟩ := Option.map_eq_some_iff.mp hf
  cases t with
  | cons t1 t2 =>
    cases t2
    obtain ⟨p, xs, B, rfl, r1, t, _, _⟩ := t1.list
    · rw [boolsD_some h1 t] at r1
      exact cr_any hc pins s σ H _ us Q I r ⟨_, bs, rfl, r1, k _ H [] (.refl H) (.bl _) .nil⟩
theorem call_sum_F (hc : X.calm = true) : CallR X (.builtin "sum") (rF X.K sumD) := by
  intro pins s σ H xs us Q I r ⟨ds, A, d, t, hf, k⟩
  unfold sumD at hf
  split at hf <;> try (cases hf)
  obtain ⟨bs, h1, rfl⟩ := Option.map_eq_some_iff.mp hf
  cases t with
  | cons t1 t2 =>
    cases t2
    obtain ⟨p, xs, B, rfl, r1, t, _, _⟩ := t1.list
    · rw [intsD_some h1 t] at r1
      exact cr_sum hc pins s σ H _ us Q I r ⟨_, bs, rfl, r1, k _ H [] (.refl H) (.int _) .nil⟩
theorem Frs.one {H H' : Hp} {p : Addr} (n : H p = none) (l : Lst H' p) : Frs H H' [p] := ⟨by simp, fun a m => by rw [List.mem_singleton.mp m]; exact ⟨n, l⟩⟩
theorem call_list_F : CallR X (.type "list") (rF X.K listOfD) := by
  intro pins s σ H xs us Q I r ⟨ds, A, d, t, hf, k⟩
  unfold listOfD at hf
  split at hf <;> try (cases hf)
  · split at hf <;> cases hf
    rename_i hfl
    cases t with
    | cons t1 t2 =>
      cases t2
      obtain ⟨p, xs, B, rfl, r1, t, _, _⟩ := t1.list
      · have fA := t.flat hfl
        subst fA
        have t := t.narrow hfl
        exact call_list_of pins s σ H _ us Q I r ⟨_, _, rfl, .inl r1, fun l n => k _ _ [l] (same_upd n) (.lst (.inl upd_same) (t.same (same_upd n))) (.one n ⟨_, upd_same⟩)⟩
  · split at hf <;> cases hf
    rename_i hfl
    cases t with
    | cons t1 t2 =>
      cases t2
      cases t1 with
      | tup r1 t =>
        have fA := t.flat hfl
        subst fA
        have t := t.narrow hfl
        exact call_list_of pins s σ H _ us Q I r ⟨_, _, rfl, .inr r1, fun l n => k _ _ [l] (same_upd n) (.lst (.inl upd_same) (t.same (same_upd n))) (.one n ⟨_, upd_same⟩)⟩
theorem call_tuple_F : CallR X (.type "tuple") (rF X.K tupOfD) := by
  intro pins s σ H xs us Q I r ⟨ds, A, d, t, hf, k⟩
  unfold tupOfD at hf
  split at hf <;> try (cases hf)
  · split at hf <;> cases hf
    rename_i hfl
    cases t with
    | cons t1 t2 =>
      cases t2
      obtain ⟨p, xs, B, rfl, r1, t, _, _⟩ := t1.list
      · have fA := t.flat hfl
        subst fA
        have t := t.narrow hfl
        exact call_tuple_of pins s σ H _ us Q I r ⟨_, _, rfl, .inl ⟨r1, fun l n => k _ _ [] (same_upd n) (.tup (.of upd_same) (t.same (same_upd n))) .nil⟩⟩
  · split at hf <;> cases hf
    rename_i hfl
    cases t with
    | cons t1 t2 =>
      cases t2
      cases t1 with
      | tup r1 t =>
        have fA := t.flat hfl
        subst fA
        have t := t.narrow hfl
        exact call_tuple_of pins s σ H _ us Q I r ⟨_, _, rfl, .inr ⟨r1, k _ H [] (.refl H) (.tup r1 t) .nil⟩⟩
theorem call_sorted_F : CallR X (.builtin "sorted") (rF X.K sortedD) := by
  intro pins s σ H xs us Q I r ⟨ds, A, d, t, hf, k⟩
  unfold sortedD at hf
  split at hf <;> try (cases hf)
  obtain ⟨bs, h1, rfl⟩ := Option.map_eq_some_iff.mp hf
  cases t with
  | cons t1 t2 =>
    cases t2
    obtain ⟨p, xs, B, rfl, r1, t, _, _⟩ := t1.list
    · rw [intsD_some h1 t] at r1
      refine cr_sortedI pins s σ H _ us Q I r ⟨_, bs, rfl, r1, fun ns p pm pw n => ?_⟩
      have e : ns = bs.mergeSort (fun a b => decide (a ≤ b)) := by
        have p2 : (bs.mergeSort (fun a b => decide (a ≤ b))).Perm bs := List.mergeSort_perm _ _
        have w2 := List.pairwise_mergeSort (le := fun a b : Int => decide (a ≤ b)) (fun a b c h1 h2 => by simp at *; omega) (fun a b => by simp; omega) bs
        refine (pm.trans p2.symm).eq_of_pairwise (le := fun a b : Int => a ≤ b) (fun a b _ _ h1 h2 => Int.le_antisymm h1 h2) pw (w2.imp fun h => by simpa using h)
      subst e
      exact k _ _ [p] (same_upd n) (.lst (.inl upd_same) ((TrA.ints _).same (same_upd n))) (.one n ⟨_, upd_same⟩)
end
end PV

namespace PV
open PySem PySem.Spec PyProof.Rows L2

/-! ### a def -/
def startE (n : Nat) (ds : List D) : Ev := ds.map (fun d => some (false, d)) ++ List.replicate (n - ds.length) none
def outD : Option (Fl × Ev) → Option D
  | some (.rt d, _) => some d
  | some (.nx, _) => some .none
  | _ => none
def runF (n m : Nat) (G : FS) (ds : List D) : Option D := if ds.length = m then outD (G (startE n ds)) else none
theorem startE_get {n : Nat} {ds : List D} {i : Nat} {f : Bool} {d : D} (h : (startE n ds)[i]? = some (some (f, d))) : ds[i]? = some d ∧ f = false := by
  unfold startE at h
  by_cases hi : i < ds.length
  · rw [List.getElem?_append_left (by simpa using hi), List.getElem?_map] at h
    obtain ⟨e, h1, h2⟩ := Option.map_eq_some_iff.mp h
    cases h2
    exact ⟨h1, rfl⟩
  · rw [List.getElem?_append_right (by simpa using Nat.le_of_not_lt hi), List.getElem?_replicate] at h
    split at h <;> cases h
/-- the footprints of arguments -/
def fpOf : List (List Addr) → Nat → List Addr
  | [], _ => []
  | A :: _, 0 => A
  | _ :: As, i + 1 => fpOf As i
theorem TrA.split {K : Fg} {kk : Bool} {H : Hp} : ∀ {ds : List D} {vs : List V} {A : List Addr}, TrA K kk H vs ds A → ∃ As : List (List Addr), ∀ i, (∀ d, ds[i]? = some d → ∃ v, vs[i]? = some v ∧ Tr K kk H v d (fpOf As i)) ∧ ∀ a ∈ fpOf As i, a ∈ A
  | [], _, _, t => by
    cases t
    exact ⟨[], fun i => ⟨fun d h => by simp at h, fun a m => by simp [fpOf] at m⟩⟩
  | d :: ds, _, _, t => by
    cases t with
    | cons t1 t2 =>
      rename_i A1 A2
      obtain ⟨As, h⟩ := TrA.split t2
      refine ⟨A1 :: As, fun i => ?_⟩
      cases i with
      | zero => exact ⟨fun e he => by cases he; exact ⟨_, rfl, t1⟩, fun a m => List.mem_append_left _ m⟩
      | succ i => exact ⟨fun e he => (h i).1 e (by simpa using he), fun a m => List.mem_append_right _ ((h i).2 a m)⟩
theorem sr_start {K : Fg} {H : Hp} {N : List Str} {vs : List V} {ds : List D} {A : List Addr} (t : TrA K true H vs ds A) : SR K H (L2.start N vs) H (startE N.length ds) := by
  obtain ⟨As, h⟩ := t.split
  refine ⟨fpOf As, .refl H, ?_, fun i f d hi => ?_, fun j a m => t.dom a ((h j).2 a m), fun i d hi => ?_⟩
  · unfold L2.start startE
    rw [List.length_append, List.length_append, List.length_map, List.length_map, List.length_replicate, List.length_replicate, t.len]
  · obtain ⟨e, rfl⟩ := startE_get hi
    obtain ⟨v, hv, tv⟩ := (h i).1 d e
    refine ⟨v, ?_, tv⟩
    unfold L2.start
    rw [List.getElem?_append_left (by rw [List.length_map]; exact (List.getElem?_eq_some_iff.mp hv).1), List.getElem?_map, hv]
    rfl
  · have := (startE_get hi).2
    cases this
theorem fn_ok {P : Program} {w : World} {K : Fg} {mg : Str → Option Value} {base : Heap} {x qual : Str} {st : Stmt} {f : Addr} {fd : FuncData} {N ps : List Str} {k : Nat} {G : FS} (F : Fun K x qual st f fd) (S : FnScope N ps (defScope st))
    (h : ∀ (cdv : Value) (A : Around) (outer : List Env) (s : Shared) (H : Hp) (E : XK), Room k (A.deeper (envOfC qual (defScope st) s.heap.objs.size f cdv)) → SSs (cxOf CX0 P w K mg base N qual (defScope st) f cdv A outer s H E).nox (defBody st) G) :
    FnOk P w K mg base CX0 (k + 1) f fd ps (spD K (runF N.length ps.length G)) := by
  refine F.ok S (fun vs H Q E ⟨ds, A, d, t, hf, _⟩ => ?_) fun cdv A outer s H vs Q E hr ⟨ds, B, d, t, hf, kq⟩ => ⟨_, h cdv A outer s H E hr, ?_⟩
  · unfold runF at hf
    split at hf <;> try (cases hf)
    rw [t.len]
    assumption
  · unfold runF at hf
    split at hf <;> try (cases hf)
    cases e : G (startE N.length ds) with
    | none =>
      rw [e] at hf
      cases hf
    | some r =>
      refine ⟨H, startE N.length ds, r, sr_start t, e, ?_⟩
      rw [e] at hf
      obtain ⟨fl, ε'⟩ := r
      cases fl with
      | rt d' =>
        cases hf
        exact fun v H' A g tv fr => kq v H' A g tv fr
      | nx =>
        cases hf
        exact fun σ' H' ⟨fp, s⟩ => kq .non H' [] s.same .non .nil
      | bk => cases hf
      | ct => cases hf

/-! ### comprehensions -/
def wipeE (ε : Ev) : List Nat → Ev
  | [] => ε
  | v :: vs => (wipeE ε vs).set v none
def compL (T : TD) (C : FT) (E : FE) (ε : Ev) : List D → Option (List D)
  | [] => some []
  | d :: ds => (T d ε).bind fun ε1 => (C ε1).bind fun b => if b = true then (E ε1).bind fun y => (compL T C E ε ds).map fun ys => y :: ys else compL T C E ε ds
def compD (G : FA) (T : TD) (C : FT) (E : FE) (vs : List Nat) : FE := fun ε => (G ε).bind fun ds => if ds.length ≤ sizeLine then (compL T C E (wipeE ε vs) ds).map .list else none
def yesT : FT := fun _ => some true
/-- a target within a comprehension: its own names vs -/
def gE (K : Fg) (T : TD) (vs : List Nat) : TG := fun v σ H Q => ∃ ε fp d A ε', ER K σ H ε fp ∧ Tr K true H v d A ∧ T d ε = some ε' ∧ ∀ σ' fp', ER K σ' H ε' fp' → wipe σ' vs = wipe σ vs → (∀ j, ∀ a ∈ fp' j, a ∈ A ∨ a ∈ fp j) → Q σ' H
def gsE (K : Fg) (T : List TD) (vs : List Nat) : TGs := fun us σ H Q => ∃ ε fp ds A ε', ER K σ H ε fp ∧ TrA K true H us ds A ∧ goT T ds ε = some ε' ∧ ∀ σ' fp', ER K σ' H ε' fp' → wipe σ' vs = wipe σ vs → (∀ j, ∀ a ∈ fp' j, a ∈ A ∨ a ∈ fp j) → Q σ' H
theorem wipe_set {x : Option V} {i : Nat} (σ : L2.St) : ∀ vs : List Nat, wipe (σ.set i x) vs = if i ∈ vs then wipe σ vs else (wipe σ vs).set i x
  | [] => by simp [wipe]
  | v :: vs => by
    show (wipe (σ.set i x) vs).set v none = _
    rw [wipe_set σ vs]
    by_cases h : i ∈ vs
    · rw [if_pos h, if_pos (List.mem_cons_of_mem _ h)]
      rfl
    · rw [if_neg h]
      by_cases e : i = v
      · subst e
        rw [if_pos List.mem_cons_self, List.set_set]
        rfl
      · rw [if_neg (by simp [e, h]), List.set_comm _ _ e]
        rfl
section
variable {X : Cx} {tg it elt : Expr} {ifs es tgs : List Expr} {G : FA} {T TT : TD} {TS : List TD} {C : FT} {E : FE} {S S2 vs : List Nat} {pos : Pos}
theorem ge_name {i : Nat} {x : Str} (hi2 : i ∈ vs) (hN : X.N.Nodup) (hi : X.N[i]? = some x) (hx : Loc X.env.scope x) (hf : X.fn x = true ∨ X.env.scope.names.lookup x = some .local := by first | exact .inl rfl | exact .inr rfl | assumption) : PG X (.Name x pos) (gE X.K (nameT i) vs) :=
  ⟨fun pins s σ H v u Q I r ⟨ε, fp, d, A, ε', er, t, h, k⟩ => (pg_name hN hi hx hf).run pins s σ H v u Q I r (by
    cases h
    have hs : i < σ.length := by rw [I.len]; exact (List.getElem?_eq_some_iff.mp hi).1
    refine k _ (fun j => if j = i then A else fp j) (fun j f e hj => ?_) ?_ fun j a m => ?_
    · by_cases e1 : j = i
      · subst e1
        by_cases hl : j < ε.length
        · rw [List.getElem?_set_self hl] at hj
          cases hj
          exact ⟨v, by rw [List.getElem?_set_self hs], by simp only [if_true]; exact t.byFlat⟩
        · rw [set_far hl] at hj
          exact absurd (List.getElem?_eq_some_iff.mp hj).1 hl
      · rw [List.getElem?_set_ne (Ne.symm e1)] at hj
        obtain ⟨u, h1, h2⟩ := er j f e hj
        exact ⟨u, by rw [List.getElem?_set_ne (Ne.symm e1)]; exact h1, by simp only [if_neg e1]; exact h2⟩
    · show wipe (σ.set i (some v)) vs = _
      rw [wipe_set, if_pos hi2]
    · by_cases e1 : j = i
      · simp only [e1] at m
        exact .inl m
      · simp only [if_neg e1] at m
        exact .inr m)⟩
theorem ges_nil : PGs X [] (gsE X.K [] vs) := pgs_imp pgs_nil fun v σ H Q ⟨ε, fp, ds, A, ε', er, t, h, k⟩ => by
  cases ds with
  | cons d ds => cases h
  | nil =>
    cases h
    cases t
    exact ⟨rfl, k σ fp er rfl fun j a m => .inr m⟩
theorem ges_cons (h1 : PG X tg (gE X.K TT vs)) (h2 : PGs X tgs (gsE X.K TS vs)) (hs : (assignEach (tg :: tgs) X.env).map (·.2) = assign tg X.env :: (assignEach tgs X.env).map (·.2) := by rfl) : PGs X (tg :: tgs) (gsE X.K (TT :: TS) vs) :=
  pgs_imp (pgs_cons h1 h2 hs) fun v σ H Q ⟨ε, fp, ds, A, ε', er, t, h, k⟩ => by
    cases ds with
    | nil => cases h
    | cons d ds =>
      cases t with
      | cons t1 t2 =>
        obtain ⟨ε1, e1, e2⟩ := Option.bind_eq_some_iff.mp h
        exact ⟨_, _, rfl, ε, fp, d, _, ε1, er, t1, e1, fun σ1 fp1 er1 w1 m1 => ⟨ε1, fp1, ds, _, ε', er1, t2, e2, fun σ2 fp2 er2 w2 m2 => k σ2 fp2 er2 (w2.trans w1) fun j a m => by
          rcases m2 j a m with m | m
          · exact .inl (List.mem_append_right _ m)
          · exact (m1 j a m).imp (fun z => List.mem_append_left _ z) id⟩⟩
theorem ge_tup {k n : Nat} (hc : X.calm = true) (h : PGs X es (gsE X.K TS vs)) (hn : (assignEach es X.env).length = n := by rfl) (hl : TS.length = n := by rfl) (hst : (assignEach es X.env).findIdx? (·.1) = none := by rfl) : PG X (.Tuple es k pos) (gE X.K (tupT TS) vs) :=
  pg_imp (pg_tup hc h hn hst) fun v σ H Q ⟨ε, fp, d, A, ε', er, t, h, k⟩ => by
    cases d <;> try (cases h)
    rename_i ds
    have h : goT TS ds ε = some ε' := h
    cases t with
    | tup r t => exact ⟨_, _, rfl, r, by rw [t.len, goT_len h, hl], ε, fp, ds, A, ε', er, t, h, k⟩
theorem ets_nil : PTs X [] (tET X.K yesT) := ⟨fun pins s σ H Q I ⟨ε, fp, b, er, h, k⟩ => pts_nil.run pins s σ H Q I (by
  cases h
  exact k H (.refl H))⟩
theorem ets_one {c : Expr} (h : ET X c C) : PTs X [c] (tET X.K C) := pts_one h
/-! the list that a comprehension makes -/
/-- junk-free footprints -/
noncomputable def tidy (ε : Ev) (fp : Nat → List Addr) (vs : List Nat) : Nat → List Addr := by
  classical
  exact fun j => if (∃ f d, ε[j]? = some (some (f, d))) ∧ j ∉ vs then fp j else []
theorem tidy_mem {ε : Ev} {fp : Nat → List Addr} {j : Nat} {a : Addr} (m : a ∈ tidy ε fp vs j) : (∃ f d, ε[j]? = some (some (f, d))) ∧ j ∉ vs ∧ a ∈ fp j := by
  unfold tidy at m
  split at m
  · rename_i h
    exact ⟨h.1, h.2, m⟩
  · simp at m
theorem wipeE_get : ∀ {vs : List Nat} {ε : Ev} {j : Nat} {f : Bool} {d : D}, (wipeE ε vs)[j]? = some (some (f, d)) → ε[j]? = some (some (f, d)) ∧ j ∉ vs
  | [], _, _, _, _, h => ⟨h, by simp⟩
  | v :: vs, ε, j, f, d, h => by
    have h : ((wipeE ε vs).set v none)[j]? = some (some (f, d)) := h
    by_cases e : v = j
    · subst e
      by_cases hl : v < (wipeE ε vs).length
      · rw [List.getElem?_set_self hl] at h
        cases h
      · rw [set_far hl] at h
        exact absurd (List.getElem?_eq_some_iff.mp h).1 hl
    · rw [List.getElem?_set_ne e] at h
      obtain ⟨h1, h2⟩ := wipeE_get h
      exact ⟨h1, by simp [h2, Ne.symm e]⟩
theorem wipe_get : ∀ {vs : List Nat} {σ : L2.St} {j : Nat}, j ∉ vs → (wipe σ vs)[j]? = σ[j]?
  | [], _, _, _ => rfl
  | v :: vs, σ, j, h => by
    show ((wipe σ vs).set v none)[j]? = _
    rw [List.getElem?_set_ne (by rintro rfl; simp at h), wipe_get (by simp at h; exact h.2)]
theorem ER.wiped {K : Fg} {σ : L2.St} {H : Hp} {ε : Ev} {fp : Nat → List Addr} (er : ER K σ H ε fp) (vs : List Nat) : ER K (wipe σ vs) H (wipeE ε vs) (tidy ε fp vs) := fun j f d h => by
  obtain ⟨h1, h2⟩ := wipeE_get h
  obtain ⟨v, e, t⟩ := er j f d h1
  refine ⟨v, by rw [wipe_get h2]; exact e, ?_⟩
  unfold tidy
  rw [if_pos ⟨⟨f, d, h1⟩, h2⟩]
  exact t
theorem ER.dom {K : Fg} {σ : L2.St} {H : Hp} {ε : Ev} {fp : Nat → List Addr} (er : ER K σ H ε fp) {j : Nat} {a : Addr} (m : a ∈ tidy ε fp vs j) : ∃ o, H a = some o := by
  obtain ⟨⟨f, d, h⟩, _, m⟩ := tidy_mem m
  obtain ⟨v, _, t⟩ := er j f d h
  exact t.dom a m
theorem compL_cons {d : D} {ds : List D} {ε : Ev} {r : List D} (h : compL T C E ε (d :: ds) = some r) : ∃ ε1 b, T d ε = some ε1 ∧ C ε1 = some b ∧ (b = true → ∃ y ys, E ε1 = some y ∧ compL T C E ε ds = some ys ∧ r = y :: ys) ∧ (b = false → compL T C E ε ds = some r) := by
  obtain ⟨ε1, h1, h⟩ := Option.bind_eq_some_iff.mp h
  obtain ⟨b, h2, h⟩ := Option.bind_eq_some_iff.mp h
  refine ⟨ε1, b, h1, h2, fun hb => ?_, fun hb => ?_⟩
  · subst hb
    rw [if_pos rfl] at h
    obtain ⟨y, h3, h⟩ := Option.bind_eq_some_iff.mp h
    obtain ⟨ys, h4, h⟩ := Option.map_eq_some_iff.mp h
    exact ⟨y, ys, h3, h4, h.symm⟩
  · subst hb
    rw [if_neg Bool.false_ne_true] at h
    exact h
/-- the walk; uniq: the items' lists are new -/
theorem lc_goT {te : TE} {tt : L2.TT} {σ : L2.St} {H : Hp} {Q : VK} (uniq : Bool)
    (htt : ∀ σ' H' (Q : Bool → Hp → Prop) ε1 fp' b, wipe σ' vs = wipe σ vs → Same H H' → ER X.K σ' H' ε1 fp' → C ε1 = some b → (∀ H'', Same H' H'' → Q b H'') → tt σ' H' Q)
    (hte : ∀ σ H (Q : VK) ε fp d, ER X.K σ H ε fp → E ε = some d → (∀ v H' A, Same H H' → Tr X.K (!uniq) H' v d A → (uniq = true → Frs H H' A) → (∀ a ∈ A, H a = none ∨ ∃ i ∈ S2, a ∈ fp i) → Q v H') → te σ H Q)
    (hd : ∃ ε fp d, ER X.K σ H ε fp ∧ compD G T C E vs ε = some d ∧ ∀ v H' A, Same H H' → Tr X.K (!uniq) H' v d A → (uniq = true → Frs H H' A) → Als H fp (S ++ S2.filter (· ∉ vs)) A → Q v H') :
    tLc (iS X.K G S) (gE X.K T vs) tt te vs σ H Q := by
  obtain ⟨ε, fp, d, er, hc, k⟩ := hd
  obtain ⟨ds, e1, hc⟩ := Option.bind_eq_some_iff.mp hc
  split at hc <;> try (cases hc)
  rename_i hz
  obtain ⟨ys, e2, rfl⟩ := Option.map_eq_some_iff.mp hc
  refine ⟨ε, fp, ds, er, e1, fun J H1 A g al dom y D hD => ?_⟩
  have er1 := er.same g
  refine ⟨fun i m H2 => m = ds.length - i ∧ i ≤ ds.length ∧ Same H1 H2 ∧ ∃ acc dacc B rem, H2 D = some (.lst acc) ∧ TrA X.K (!uniq) H2 acc dacc B ∧ D ∉ B ∧ (uniq = true → B.Nodup ∧ ∀ a ∈ B, H1 a = none ∧ Lst H2 a) ∧ (∀ a ∈ B, H1 a = none ∨ a ∈ A ∨ ∃ j ∈ S2, j ∉ vs ∧ a ∈ fp j) ∧ dacc.length ≤ i ∧ compL T C E (wipeE ε vs) (ds.drop i) = some rem ∧ ys = dacc ++ rem,
    ⟨ds.length, rfl, Nat.zero_le _, same_upd hD, [], [], [], ys, upd_same, .nil, by simp, fun _ => ⟨List.nodup_nil, by simp⟩, by simp, by simp, e2, rfl⟩, ?_⟩
  rintro i m H2 ⟨rfl, hi, s2, acc, dacc, B, rem, eD, tB, nD, uB, aB, lB, hl, rfl⟩
  have kp : Keep A H1 H2 := .of_same s2
  obtain ⟨y1, y2⟩ := y H2 kp i
  by_cases hlt : i < ds.length
  · obtain ⟨go, yl⟩ := y1 ds[i] (List.getElem?_eq_getElem hlt)
    rw [List.drop_eq_getElem_cons hlt] at hl
    obtain ⟨ε1, b, t1, c1, bt, bf⟩ := compL_cons hl
    refine .inr ⟨go, fun H5 => ∃ m', m' < ds.length - i ∧ (m' = ds.length - (i + 1) ∧ i + 1 ≤ ds.length ∧ Same H1 H5 ∧ ∃ acc dacc' B rem', H5 D = some (.lst acc) ∧ TrA X.K (!uniq) H5 acc dacc' B ∧ D ∉ B ∧ (uniq = true → B.Nodup ∧ ∀ a ∈ B, H1 a = none ∧ Lst H5 a) ∧ (∀ a ∈ B, H1 a = none ∨ a ∈ A ∨ ∃ j ∈ S2, j ∉ vs ∧ a ∈ fp j) ∧ dacc'.length ≤ i + 1 ∧ compL T C E (wipeE ε vs) (ds.drop (i + 1)) = some rem' ∧ dacc ++ rem = dacc' ++ rem'), fun H5 h5 => h5, fun x H3 hy => ?_⟩
    obtain ⟨s3, Bi, tx, sx⟩ := yl x H3 hy
    have er3 := ((er1.same (s2.trans s3)).wiped vs)
    refine ⟨wipeE ε vs, tidy ε fp vs, ds[i], Bi, ε1, er3, tx, t1, fun σ4 fp4 er4 w4 m4 => ?_⟩
    have w4' : wipe σ4 vs = wipe σ vs := ?_
    refine ⟨w4', htt σ4 H3 _ ε1 fp4 b w4' (g.trans (s2.trans s3)) er4 c1 fun H4 s4 => ?_⟩
    rotate_left
    · have ww : wipe (wipe σ vs) vs = wipe σ vs := by
        have : ∀ us : List Nat, (∀ u ∈ us, u ∈ vs) → wipe (wipe σ us) vs = wipe σ vs := fun us => by
          induction us with
          | nil => intro _; rfl
          | cons u us ih =>
            intro hu
            show wipe ((wipe σ us).set u none) vs = _
            rw [wipe_set, if_pos (hu u List.mem_cons_self)]
            exact ih fun u hm => hu u (List.mem_cons_of_mem _ hm)
        exact this vs fun _ h => h
      rw [w4, ww]
    · have s24 := s3.trans s4
      cases b with
      | true =>
        obtain ⟨yv, rest, ey, er', rfl⟩ := bt rfl
        refine iteT (hte σ4 H4 _ ε1 fp4 yv (er4.same s4) ey fun v H5 Bn s5 tv fr alv => ?_)
        have s25 := s24.trans s5
        have eD5 : H5 D = some (.lst acc) := s25 D _ eD
        have nDn : D ∉ Bn := fun m => by
          rcases alv D m with z | ⟨j, _, mj⟩
          · rw [s24 D _ eD] at z
            cases z
          · rcases m4 j D mj with z | z
            · obtain ⟨o, eo⟩ := dom D (sx D z)
              rw [hD] at eo
              cases eo
            · obtain ⟨o, eo⟩ := ER.dom (vs := vs) er1 z
              rw [hD] at eo
              cases eo
        have ldst : Lst H5 D := ⟨_, eD5⟩
        refine ⟨acc, eD5, ?_, ds.length - (i + 1), by omega, rfl, hlt, fun a o e => ?_, acc ++ [v], dacc ++ [yv], B ++ Bn, rest, upd_same, ?_, fun m => (List.mem_append.mp m).elim nD nDn, fun hu => ?_, fun a m => ?_, by simp; omega, er', by simp⟩
        · have : acc.length ≤ i := by rw [tB.len]; exact lB
          omega
        · rw [upd_ne]
          · exact s25 a o (s2 a o e)
          · rintro rfl
            rw [hD] at e
            cases e
        · have t5 := (tB.same s25).append (.cons tv .nil)
          rw [List.append_nil] at t5
          exact t5.keep (keep_upd ldst fun m => (List.mem_append.mp m).elim nD nDn)
        · obtain ⟨u1, u2⟩ := uB hu
          have fr := fr hu
          refine ⟨List.nodup_append.mpr ⟨u1, fr.1, fun a ha b hb e => ?_⟩, fun a m => ?_⟩
          · subst e
            obtain ⟨o, eo⟩ := tB.dom a ha
            have := s24 a o eo
            rw [(fr.2 a hb).1] at this
            cases this
          · rcases List.mem_append.mp m with m | m
            · obtain ⟨q1, xs, q2⟩ := u2 a m
              exact ⟨q1, xs, by rw [upd_ne (by rintro rfl; exact nD m)]; exact s25 a _ q2⟩
            · obtain ⟨q1, xs, q2⟩ := fr.2 a m
              exact ⟨(s2.trans s24).free q1, xs, by rw [upd_ne (by rintro rfl; exact nDn m)]; exact q2⟩
        · rcases List.mem_append.mp m with m | m
          · exact aB a m
          · rcases alv a m with z | ⟨j, hj, mj⟩
            · exact .inl ((s2.trans s24).free z)
            · rcases m4 j a mj with z | z
              · exact .inr (.inl (sx a z))
              · obtain ⟨_, nj, mj⟩ := tidy_mem z
                exact .inr (.inr ⟨j, hj, nj, mj⟩)
      | false =>
        refine iteF ⟨ds.length - (i + 1), by omega, rfl, hlt, s2.trans s24, acc, dacc, B, rem, s24 D _ eD, tB.same s24, nD, fun hu => ?_, aB, by omega, bf rfl, rfl⟩
        obtain ⟨u1, u2⟩ := uB hu
        exact ⟨u1, fun a m => ⟨(u2 a m).1, (u2 a m).2.grow s24⟩⟩
  · have e : i = ds.length := by omega
    subst e
    rw [List.drop_length] at hl
    cases hl
    refine .inl ⟨y2 (Nat.le_refl _), k _ H2 (D :: B) (g.trans s2) (by rw [List.append_nil]; exact .lst (.inl eD) tB) (fun hu => ?_) fun a m => ?_⟩
    · obtain ⟨u1, u2⟩ := uB hu
      refine ⟨List.nodup_cons.mpr ⟨nD, u1⟩, fun a m => ?_⟩
      rcases List.mem_cons.mp m with rfl | m
      · exact ⟨g.free hD, _, eD⟩
      · exact ⟨g.free (u2 a m).1, (u2 a m).2⟩
    · rcases List.mem_cons.mp m with rfl | m
      · exact .inl (g.free hD)
      · rcases aB a m with z | z | ⟨j, hj, nj, mj⟩
        · exact .inl (g.free z)
        · exact (al a z).imp id fun ⟨j, hj, mj⟩ => ⟨j, List.mem_append_left _ hj, mj⟩
        · exact .inr ⟨j, List.mem_append_right _ (List.mem_filter.mpr ⟨hj, by simpa using nj⟩), mj⟩
variable {scope : Scope} {own : List (Str × Nat)}
theorem lc_go {te : TE} {σ : L2.St} {H : Hp} {Q : VK} (uniq : Bool)
    (hte : ∀ σ H (Q : VK) ε fp d, ER X.K σ H ε fp → E ε = some d → (∀ v H' A, Same H H' → Tr X.K (!uniq) H' v d A → (uniq = true → Frs H H' A) → (∀ a ∈ A, H a = none ∨ ∃ i ∈ S2, a ∈ fp i) → Q v H') → te σ H Q)
    (hd : ∃ ε fp d, ER X.K σ H ε fp ∧ compD G T C E vs ε = some d ∧ ∀ v H' A, Same H H' → Tr X.K (!uniq) H' v d A → (uniq = true → Frs H H' A) → Als H fp (S ++ S2.filter (· ∉ vs)) A → Q v H') :
    tLc (iS X.K G S) (gE X.K T vs) (tET X.K C) te vs σ H Q := lc_goT uniq (fun σ' H' Q ε1 fp' b _ _ er hb k => ⟨ε1, fp', b, er, hb, k⟩) hte hd
abbrev BlkPE (X : Cx) (scope : Scope) (e : Expr) (t : TE) : Prop := ∀ (s : Shared) (H : Hp) (C : Addr) (cl : List (Str × Addr)) (fp : List Addr), PE (X.blk s H scope (compEnvC scope cl C X.env) fp) e t
abbrev BlkPG (X : Cx) (scope : Scope) (tg : Expr) (t : TG) : Prop := ∀ (s : Shared) (H : Hp) (C : Addr) (cl : List (Str × Addr)) (fp : List Addr), PG (X.blk s H scope (compEnvC scope cl C X.env) fp) tg t
abbrev BlkPTs (X : Cx) (scope : Scope) (ifs : List Expr) (t : L2.TT) : Prop := ∀ (s : Shared) (H : Hp) (C : Addr) (cl : List (Str × Addr)) (fp : List Addr), PTs (X.blk s H scope (compEnvC scope cl C X.env) fp) ifs t
theorem lc_F {σ : L2.St} {H : Hp} {Q : VK} (h : tEF X.K (compD G T C E vs) σ H Q) : tLc (iS X.K G S) (gE X.K T vs) (tET X.K C) (tEF X.K E) vs σ H Q :=
  lc_go (S2 := []) (te := tEF X.K E) true (fun σ H Q ε fp d er e k => ⟨ε, fp, d, er, e, fun v H' A g t fr => k v H' A g t (fun _ => fr) fun a m => .inl (fr.2 a m).1⟩) (by
    obtain ⟨ε, fp, d, er, e, k⟩ := h
    exact ⟨ε, fp, d, er, e, fun v H' A g t fr _ => k v H' A g t (fr rfl)⟩)
theorem lc_A {σ : L2.St} {H : Hp} {Q : VK} (h : tEA X.K (compD G T C E vs) (S ++ S2.filter (· ∉ vs)) σ H Q) : tLc (iS X.K G S) (gE X.K T vs) (tET X.K C) (tEA X.K E S2) vs σ H Q :=
  lc_go (S2 := S2) (te := tEA X.K E S2) false (fun σ H Q ε fp d er e k => ⟨ε, fp, d, er, e, fun v H' A g t al => k v H' A g t (fun z => Bool.noConfusion z) al⟩) (by
    obtain ⟨ε, fp, d, er, e, k⟩ := h
    exact ⟨ε, fp, d, er, e, fun v H' A g t _ al => k v H' A g t al⟩)
theorem ef_lc (hc : X.calm = true) (hN : X.N.Nodup) (hi : IA X tg it G S) (ok : BlkOk X.N X.env.scope scope own) (hg : BlkPG X scope tg (gE X.K T (own.map (·.2)))) (ht : BlkPTs X scope ifs (tET X.K C)) (he : BlkPE X scope elt (tEF X.K E))
    (hs : ∀ x, foldedSetIterable it X.env x = pure x := by intro _; rfl) : EF X (.ListComp elt [⟨tg, it, ifs, 0⟩] scope pos) (compD G T C E (own.map (·.2))) := pe_imp (pe_lc hc hN hi ok hg ht he hs) fun σ H Q h => lc_F h
theorem ea_lc (hc : X.calm = true) (hN : X.N.Nodup) (hi : IA X tg it G S) (ok : BlkOk X.N X.env.scope scope own) (hg : BlkPG X scope tg (gE X.K T (own.map (·.2)))) (ht : BlkPTs X scope ifs (tET X.K C)) (he : BlkPE X scope elt (tEA X.K E S2))
    (hs : ∀ x, foldedSetIterable it X.env x = pure x := by intro _; rfl) : EA X (.ListComp elt [⟨tg, it, ifs, 0⟩] scope pos) (compD G T C E (own.map (·.2))) (S ++ S2.filter (· ∉ own.map (·.2))) := pe_imp (pe_lc hc hN hi ok hg ht he hs) fun σ H Q h => lc_A h
/-- name = value, by the reading of the value (for statements whose value is no PE) -/
theorem tasg_F {K : Fg} {te : TE} {F : FE} {i : Nat} {De : Ends} {σ : L2.St} {H : Hp} (g : ∀ Q, tEF K F σ H Q → te σ H Q) (h : tS K (setS i F) De σ H) : tAsg te (gName i) De σ H := by
  obtain ⟨H0, ε, r, ⟨fp, s⟩, h, k⟩ := h
  obtain ⟨d, h1, rfl⟩ := Option.map_eq_some_iff.mp h
  refine g _ ⟨ε, fp, d, s.er, h1, fun v H' A g t fr => ?_⟩
  refine k _ H' ?_
  by_cases hl : i < ε.length
  · exact ⟨_, s.setF g t fr hl⟩
  · refine ⟨fp, ?_⟩
    show SRf K H0 (σ.set i (some v)) H' (ε.set i _) fp
    rw [set_far hl, set_far (by rw [s.len]; exact hl)]
    exact s.grow g
theorem tasg_A {K : Fg} {te : TE} {F : FE} {i : Nat} {De : Ends} {σ : L2.St} {H : Hp} (g : ∀ Q, tEA K F S σ H Q → te σ H Q) (h : tS K (setA i F S) De σ H) : tAsg te (gName i) De σ H := by
  obtain ⟨H0, ε, r, ⟨fp, s⟩, h, k⟩ := h
  obtain ⟨d, h1, rfl⟩ := Option.map_eq_some_iff.mp h
  refine g _ ⟨ε, fp, d, s.er, h1, fun v H' A g t al => ?_⟩
  refine k _ H' ?_
  show SR K H0 (σ.set i (some v)) H' ((if flat d = true then ε else freeze S ε).set i _)
  by_cases hl : i < ε.length
  · by_cases f : flat d = true
    · rw [if_pos f]
      exact ⟨_, s.setA g t (by rw [t.flat f]; exact fun a m => absurd m (by simp)) hl⟩
    · rw [if_neg f]
      exact ⟨_, (s.freeze S).setA g t (s.als_na al) (by rw [freeze_len]; exact hl)⟩
  · rw [set_far (show ¬ i < σ.length by rw [s.len]; exact hl), set_far (by split <;> (try rw [freeze_len]) <;> exact hl)]
    split
    · exact ⟨fp, s.grow g⟩
    · exact ⟨fp, (s.freeze S).grow g⟩
theorem ss_lcF {i : Nat} {y : Str} {py spos : Pos} (hc : X.calm = true) (hN : X.N.Nodup) (hiy : X.N[i]? = some y) (hy : X.env.scope.names.lookup y = some .local)
    (hsw : swapsWith (.ListComp elt [⟨tg, it, ifs, 0⟩] scope pos) (some (.Name y py)) spos.line X.env = pure true)
    (hi : IA X tg it G S) (ok : BlkOk X.N X.env.scope scope own) (hg : BlkPG X scope tg (gE X.K T (own.map (·.2)))) (ht : BlkPTs X scope ifs (tET X.K C)) (he : BlkPE X scope elt (tEF X.K E))
    (hs : ∀ x, foldedSetIterable it X.env x = pure x := by intro _; rfl) : SS X (.Assign [.Name y py] (.ListComp elt [⟨tg, it, ifs, 0⟩] scope pos) spos) (setS i (compD G T C E (own.map (·.2)))) :=
  ps_imp (ps_setLc hc hN hiy hy hsw hi ok hg ht he hs) fun De σ H h => tasg_F (fun Q => lc_F) h
theorem ss_lcA {i : Nat} {y : Str} {py spos : Pos} (hc : X.calm = true) (hN : X.N.Nodup) (hiy : X.N[i]? = some y) (hy : X.env.scope.names.lookup y = some .local)
    (hsw : swapsWith (.ListComp elt [⟨tg, it, ifs, 0⟩] scope pos) (some (.Name y py)) spos.line X.env = pure true)
    (hi : IA X tg it G S) (ok : BlkOk X.N X.env.scope scope own) (hg : BlkPG X scope tg (gE X.K T (own.map (·.2)))) (ht : BlkPTs X scope ifs (tET X.K C)) (he : BlkPE X scope elt (tEA X.K E S2))
    (hs : ∀ x, foldedSetIterable it X.env x = pure x := by intro _; rfl) : SS X (.Assign [.Name y py] (.ListComp elt [⟨tg, it, ifs, 0⟩] scope pos) spos) (setA i (compD G T C E (own.map (·.2))) (S ++ S2.filter (· ∉ own.map (·.2)))) :=
  ps_imp (ps_setLc hc hN hiy hy hsw hi ok hg ht he hs) fun De σ H h => tasg_A (fun Q => lc_A) h
end
end PV

namespace PV
open PySem PySem.Spec PyProof.Rows L2

/-! ### isinstance -/
inductive Ty where
  | int | bool | str | list | tuple
def Ty.nm : Ty → String
  | .int => "int"
  | .bool => "bool"
  | .str => "str"
  | .list => "list"
  | .tuple => "tuple"
def nmD : D → String
  | .none => "NoneType"
  | .bool _ => "bool"
  | .int _ => "int"
  | .str _ => "str"
  | .list _ => "list"
  | .tuple _ => "tuple"
  | .dict _ => "dict"
def isT : Ty → D → Bool
  | .int, .int _ => true
  | .int, .bool _ => true
  | .bool, .bool _ => true
  | .str, .str _ => true
  | .list, .list _ => true
  | .tuple, .tuple _ => true
  | _, _ => false
def isiT (T : Ty) (F : FE) : FT := fun ε => (F ε).map (isT T)
theorem isT_kit : ∀ (T : Ty) (d : D), (∀ kvs, d ≠ .dict kvs) → kitB (nmD d) T.nm = some (isT T d) := by
  have h : ∀ T : Ty, kitB "NoneType" T.nm = some false ∧ kitB "bool" T.nm = some (isT T (.bool true)) ∧ kitB "int" T.nm = some (isT T (.int 0)) ∧ kitB "str" T.nm = some (isT T (.str ⟨#[]⟩)) ∧ kitB "list" T.nm = some (isT T (.list [])) ∧ kitB "tuple" T.nm = some (isT T (.tuple [])) := by
    intro T
    cases T <;> decide +kernel
  intro T d hd
  obtain ⟨h1, h2, h3, h4, h5, h6⟩ := h T
  cases d with
  | none => cases T <;> exact h1
  | bool b => cases T <;> exact h2
  | int b => cases T <;> exact h3
  | str b => cases T <;> exact h4
  | list b => cases T <;> exact h5
  | tuple b => cases T <;> exact h6
  | dict b => exact absurd rfl (hd b)
theorem Tr.ty {K : Fg} {k : Bool} {H : Hp} {v : V} {d : D} {A : List Addr} (t : Tr K k H v d A) : TyX K H v (.type (nmD d)) := by
  cases t with
  | non => exact .base .non
  | bl b => exact .base (.bl b)
  | int i => exact .base (.int i)
  | str x => exact .base (.str x)
  | lst r _ =>
    rcases r with r | ⟨o, r⟩
    · exact .base (.lst r)
    · exact .base (.frz r)
  | kls _ r _ =>
    obtain ⟨o, its, n, h, c, _⟩ := r
    exact .kList h c
  | tup r _ =>
    rcases r with (r | ⟨o, r⟩) | ⟨o, its, n, h, c, _⟩
    · exact .base (.tup r)
    · exact .fTuple r
    · exact .kTuple h c
section
variable {X : Cx} {a b e tg it elt : Expr} {es : List Expr} {F F2 : FE} {G : FA} {T : FT} {S S2 : List Nat} {pos p2 : Pos} {TT : TD}
theorem eb_isi (T : Ty) {p : Pos} {pt : Pos} {x : Str} (ha : EA X a F S) (hg : Gl X "isinstance") (hm : X.mg "isinstance" = none) (hb : PE X (.Name x pt) (tC (.ty T.nm)))
    (he : starEach [a, .Name x pt] X.env = (false, eval a X.env) :: starEach [.Name x pt] X.env := by rfl) (he2 : starEach [.Name x pt] X.env = (false, eval (.Name x pt) X.env) :: starEach [] X.env := by rfl)
    (hpl : (backTo pos (starEach [.Name x pt] X.env)).any (·.1) = false := by rfl) : EB X (.Call (.Name "isinstance" p) [a, .Name x pt] [] pos) (isiT T F) :=
  pe_imp (pe_callB call_isi hg hm (by decide +kernel) (pa_cons ha (pa_cons hb pa_nil he2) he) (by decide) (by decide) he hpl) fun σ H Q ⟨ε, fp, d, er, hd, k⟩ => by
    obtain ⟨b, hd0, rfl⟩ := boolD_some hd
    obtain ⟨d0, h1, rfl⟩ := Option.map_eq_some_iff.mp hd0
    refine ⟨ε, fp, d0, er, h1, fun v H1 A s1 t1 _ => ?_⟩
    refine ⟨v, .ty T.nm, .type (nmD d0), .type T.nm, _, rfl, .ty _, t1.ty, kit_ty (isT_kit T d0 ?_), k _ H1 [] s1 (.bl _) .nil⟩
    rintro kvs rfl
    cases t1
theorem eb_call {f : List D → Option D} (h : EF X e (callD f G)) : EB X e (un asB (callD f G)) := eb_val (ea_of h)

/-! ### xs.count(y), xs.index(y) -/
def countD : List D → Option D
  | [.list ds, d] => if SeqAt.shaped (.list ds) = true ∧ SeqAt.shaped d = true then some (.int (ds.countP fun z => PyData.eqv z d)) else none
  | _ => none
def indexD : List D → Option D
  | [.list ds, d] => if SeqAt.shaped (.list ds) = true ∧ SeqAt.shaped d = true then (ds.findIdx? fun z => PyData.eqv z d).map fun j => .int (j : Nat) else none
  | _ => none
/-- a method by a function on trees: receiver first -/
def rFM (K : Fg) (f : List D → Option D) : V → List V → Hp → VK → Prop := fun x vs H Q => rF K f (x :: vs) H Q
theorem mt_count_F (hu : X.A.units + 65 < cLine) : MtR X "list.count" (rFM X.K countD) := by
  intro pins s σ H x xs v us Q I rx rs ⟨ds, A, d, t, hf, k⟩
  unfold countD at hf
  split at hf <;> try (cases hf)
  split at hf <;> cases hf
  rename_i ds y hc
  cases t with
  | cons t1 t2 =>
    cases t2 with
    | cons t2 t3 =>
      cases t3
      obtain ⟨p, ys, B, rfl, r1, t1, _, _⟩ := t1.list
      cases rx
      obtain ⟨u, rfl, ru⟩ := rs.one
      obtain ⟨its, rv, ⟨⟨c1, d1, dt1, sl1⟩, n1, g1, hc1, _, hd1⟩, z1⟩ := I.list r1
      simp only at hc1 hd1
      subst hc1 hd1
      obtain ⟨as, q1⟩ := Dp.readsAll I ds _ its t1.dp rv
      obtain ⟨bs, q2⟩ := Dp.reads I y _ u t2.dp ru
      have hxs : PyData.canLayAll0 ds = true := SeqAt.canLay_of_shaped hc.1
      have hmap : its.map (SeqAt.readOf s.heap) = ds := SeqAt.readsAll_map ds its as hxs q1
      refine call_meets PySem.F.slot_list_count ⟨_, g1, rfl⟩ PySem.F.entry_list_count (PySem.F.args_list_count_2 _ _)
        (SeqAt.list_countAt p its.toArray n1 d1 sl1 u fun w => PyData.eqv (SeqAt.readOf s.heap w) y) ⟨g1, ?_, ?_⟩
      · exact SeqAt.items_eqAt (vs := its.toArray) (show ReadsAll s.heap its.toArray.toList ds as from q1) q2 hxs (SeqAt.canLay_of_shaped hc.2) (room_in_shaped hc.2 hu)
      · have e : its.toArray.toList.countP (fun w => PyData.eqv (SeqAt.readOf s.heap w) y) = ds.countP fun z => PyData.eqv z y := by
          rw [← hmap, List.countP_map]
          rfl
        rw [e]
        exact ⟨.int _, H, I.tok _, ⟨_, rfl⟩, k _ H [] (.refl H) (.int _) .nil⟩
theorem mt_index_F (hu : X.A.units + 65 < cLine) : MtR X "list.index" (rFM X.K indexD) := by
  intro pins s σ H x xs v us Q I rx rs ⟨ds, A, d, t, hf, k⟩
  unfold indexD at hf
  split at hf <;> try (cases hf)
  split at hf <;> try (cases hf)
  rename_i ds y hc
  obtain ⟨j, hj, rfl⟩ := Option.map_eq_some_iff.mp hf
  cases t with
  | cons t1 t2 =>
    cases t2 with
    | cons t2 t3 =>
      cases t3
      have dl := t1.dp
      obtain ⟨p, ys, B, rfl, r1, t1, _, _⟩ := t1.list
      obtain ⟨hl, h1, h2⟩ := List.findIdx?_eq_some_iff_getElem.mp hj
      refine mt_indexD hu pins s σ H _ _ v us Q I rx rs ⟨p, _, y, ds, j, ds[j], rfl, rfl, dl, t2.dp, hc.1, hc.2, List.getElem?_eq_getElem hl, h1, fun m z hm hz => ?_, k _ H [] (.refl H) (.int _) .nil⟩
      obtain ⟨hm2, rfl⟩ := List.getElem?_eq_some_iff.mp hz
      have := h2 m hm
      simpa using this
theorem tyV_list {K : Fg} {k : Bool} {H : Hp} {v : V} {ds : List D} {A : List Addr} (t : Tr K k H v (.list ds) A) : tyV K "list" v H := by
  obtain ⟨p, ys, B, rfl, r1, _⟩ := t.list
  exact .inl ⟨rfl, ys, r1⟩
/-- o.m(e), o a list that is read -/
theorem ef_m1 {id : String} {name : Str} {ap cp : Pos} {f : List D → Option D} (slot : Slot "list" name id) (hty : typeOf (.builtin id) = pure (.type "method_descriptor")) (hm : MtR X id (rFM X.K f)) (hl : ∀ d d2 r, f [d, d2] = some r → ∃ ds, d = .list ds) (ho : EA X a F S) (ha : EA X e F2 S2)
    (hbase : attributeBase a name X.env (eval a X.env) = eval a X.env := by rfl)
    (hfew : ((backTo cp (starEach [e] X.env)).all (fun x => !x.1) && (backToKw cp (keywordEach [] X.env)).all (fun x => x.1.isSome)
      && decide ([e].length + ([] : List Keyword).length + (if ([] : List Keyword).isEmpty then 0 else 1) < 30)) = true := by rfl)
    (hline : (ap.endLine == cp.line) = true := by rfl) (hs : starEach [e] X.env = (false, eval e X.env) :: starEach [] X.env := by rfl) (hplain : (backTo cp (starEach [] X.env)).any (·.1) = false := by rfl) :
    EF X (.Call (.Attribute a name ap) [e] [] cp) (bin (fun d d2 => f [d, d2]) F F2) :=
  pe_imp (pe_bm PySem.F.plainAttrs_list slot hty hm ho (pa_cons ha pa_nil hs) hbase hfew hline hs hplain) fun σ H Q ⟨ε, fp, r, er, hd, k⟩ => by
    obtain ⟨d, d2, h1, h2, h3⟩ := bin_some hd
    obtain ⟨ds, rfl⟩ := hl d d2 r h3
    refine ⟨ε, fp, _, er, h1, fun v H1 A s1 t1 _ => ⟨tyV_list t1, ε, fp, d2, er.same s1, h2, fun u H2 B s2 t2 _ => ?_⟩⟩
    exact ⟨_, _, r, .cons (t1.same s2) (.cons t2 .nil), h3, fun w H3 C s3 t3 fr => k w H3 C ((s1.trans s2).trans s3) t3 (fr.back (s1.trans s2))⟩
theorem countD_list : ∀ d d2 r, countD [d, d2] = some r → ∃ ds, d = .list ds := fun d d2 r h => by
  unfold countD at h
  split at h
  · rename_i h2
    cases h2
    exact ⟨_, rfl⟩
  · cases h
theorem indexD_list : ∀ d d2 r, indexD [d, d2] = some r → ∃ ds, d = .list ds := fun d d2 r h => by
  unfold indexD at h
  split at h
  · rename_i h2
    cases h2
    exact ⟨_, rfl⟩
  · cases h

/-! ### callees in short -/
def Cal (P : Program) (w : World) (K : Fg) (mg : Str → Option Value) (base : Heap) (k : Nat) (x : Str) (ps : List Str) (sp : Sp) : Prop :=
  ∃ f fd, FnOk P w K mg base CX0 k f fd ps sp ∧ mg x = some (.ref f) ∧ PySem.W.keepIn K (.ref f) = true ∧ Binds K fd ps []
theorem ef_cal {k j : Nat} {ps : List Str} {f : List D → Option D} {x : Str} {p : Pos} (c : Cal X.prog X.w X.K X.mg X.base k x ps (spD X.K f)) (hr : Room j X.A) (hkj : k ≤ j) (hg : Gl X x)
    (ha : AA X (e :: es) G S) (hdb : (x == ("__debug__" : Str)) = false := by decide) (he : starEach (e :: es) X.env = (false, eval e X.env) :: starEach es X.env := by rfl) (hpl : (backTo pos (starEach es X.env)).any (·.1) = false := by rfl) :
    EF X (.Call (.Name x p) (e :: es) [] pos) (callD f G) := by
  obtain ⟨fa, fd, h1, h2, h3, h4⟩ := c
  exact ef_call h1 (hr.mono hkj) hg h2 h3 h4 ha hdb he hpl
theorem cal_mk {P : Program} {w : World} {K : Fg} {mg : Str → Option Value} {base : Heap} {x qual : Str} {st : Stmt} {f : Addr} {fd : FuncData} {N ps : List Str} {k : Nat} {G : FS} (F : Fun K x qual st f fd) (gl : mg x = some (.ref f)) (S : FnScope N ps (defScope st))
    (hb : ∀ (kV doc pm : Value) (an : Option Addr) (cdv ct : Value) (us : List Value), us.length = ps.length → bindArgs (PySem.W.fnOf x qual (defArgs st) (defBody st) (defScope st) .none kV doc pm an cdv ct) ⟨us, []⟩ = pure (ps.zip us))
    (h : ∀ (cdv : Value) (A : Around) (outer : List Env) (s : Shared) (H : Hp) (E : XK), Room k (A.deeper (envOfC qual (defScope st) s.heap.objs.size f cdv)) → SSs (cxOf CX0 P w K mg base N qual (defScope st) f cdv A outer s H E).nox (defBody st) G) :
    Cal P w K mg base (k + 1) x ps (spD K (runF N.length ps.length G)) := ⟨f, fd, fn_ok F S h, gl, F.kp, F.binds hb⟩
theorem cal_imp {P : Program} {w : World} {K : Fg} {mg : Str → Option Value} {base : Heap} {x : Str} {k : Nat} {ps : List Str} {f g : List D → Option D} (c : Cal P w K mg base k x ps (spD K f)) (h : ∀ ds d, g ds = some d → f ds = some d) : Cal P w K mg base k x ps (spD K g) := by
  obtain ⟨fa, fd, h1, h2, h3, h4⟩ := c
  exact ⟨fa, fd, h1.imp fun vs H Q E ⟨ds, A, d, t, hf, q⟩ => ⟨ds, A, d, t, h ds d hf, q⟩, h2, h3, h4⟩

/-! ### a, b = x, y -/
theorem ss_par {i j : Nat} {x y : Str} {px py pt : Pos} {kt k2 pt2} (hc : X.calm = true) (hN : X.N.Nodup) (hi : X.N[i]? = some x) (hj : X.N[j]? = some y) (hij : i ≠ j)
    (hx : X.env.scope.names.lookup x = some .local) (hy : X.env.scope.names.lookup y = some .local) (ha : AF X [a, b] G)
    (hw : swappedStores [.Tuple [.Name x px, .Name y py] kt pt] (.Tuple [a, b] k2 pt2) X.env = pure (some [x, y]))
    (hs : swapsWithSole [.Tuple [.Name x px, .Name y py] kt pt] (.Tuple [a, b] k2 pt2) pos.line X.env = pure false := by rfl) :
    SS X (.Assign [.Tuple [.Name x px, .Name y py] kt pt] (.Tuple [a, b] k2 pt2) pos) (parS i j G) := ps_imp (ps_par hc hN hi hj hij hx hy ha hw hs) fun De σ H ⟨H0, ε, r, ⟨fp, s⟩, h, k⟩ => by
  obtain ⟨ds, h1, h⟩ := Option.bind_eq_some_iff.mp h
  split at h <;> try (cases h)
  rename_i d e
  split at h <;> cases h
  rename_i hf
  refine ⟨ε, fp, _, s.er, h1, fun vs H' A g t fr => ?_⟩
  cases t with
  | @cons v _ _ _ A1 A2 t1 t2 =>
    cases t2 with
    | @cons w _ _ _ B1 B2 t2 t3 =>
      cases t3
      refine ⟨v, w, rfl, k _ H' ?_⟩
      have e1 := t1.flat hf.1
      have e2 := t2.flat hf.2
      subst e1 e2
      show SR X.K H0 ((σ.set i (some v)).set j (some w)) H' ((ε.set i (some (true, d))).set j (some (true, e)))
      have step : ∀ {σ' : L2.St} {ε' : Ev} {v : V} {d : D} (i : Nat), Tr X.K false H' v d [] → SR X.K H0 σ' H' ε' → SR X.K H0 (σ'.set i (some v)) H' (ε'.set i (some (true, d))) := fun {σ' ε' v d} i t ⟨fp, s⟩ => by
        by_cases hl : i < ε'.length
        · exact ⟨_, s.setF (.refl H') t .nil hl⟩
        · rw [set_far hl, set_far (show ¬ i < σ'.length by rw [s.len]; exact hl)]
          exact ⟨fp, s⟩
      exact step j t2 (step i t1 ⟨fp, s.grow g⟩)
/-- x += e of ints -/
def augS (i : Nat) (f : Int → Int → Int) (F : FE) : FS := fun ε => match ε[i]? with
  | some (some (_, .int a)) => (F ε).bind fun d => match d with
    | .int b => some (.nx, ε.set i (some (true, .int (f a b))))
    | _ => none
  | _ => none
theorem ss_aug {i : Nat} {x : Str} {op : Operator} {f : Int → Int → Int} {pos' : Pos} (ho : PIp X op (ipI f)) (hN : X.N.Nodup) (hi : X.N[i]? = some x) (hx : Loc X.env.scope x) (he : EA X e F S) (hf : X.fn x = true ∨ X.env.scope.names.lookup x = some .local := by first | exact .inl rfl | exact .inr rfl | assumption) :
    SS X (.AugAssign (.Name x pos') op e pos) (augS i f F) := ps_imp (ps_aug hN hi hx he ho hf) fun De σ H ⟨H0, ε, r, ⟨fp, s⟩, h, k⟩ => by
  unfold augS at h
  split at h <;> try (cases h)
  rename_i fl n h1
  obtain ⟨d, h2, h⟩ := Option.bind_eq_some_iff.mp h
  split at h <;> cases h
  obtain ⟨v, e1, t⟩ := s.er i _ _ h1
  have ev := t.intI
  subst ev
  refine ⟨_, e1, ε, fp, _, s.er, h2, fun u H' A g t2 _ => ?_⟩
  have eu := t2.intI
  subst eu
  refine ⟨_, _, rfl, rfl, k _ H' ⟨_, s.setF g (.int _) .nil (List.getElem?_eq_some_iff.mp h1).1⟩⟩

/-! ### x.append(y.pop(e)) -/
def appPopS (i j : Nat) (F : FE) : FS := fun ε => match ε[i]?, ε[j]? with
  | some (some (true, .list ds)), some (some (true, .list es)) => (F ε).bind fun d => match d with
    | .int k => if 0 ≤ k ∧ k < 2 ^ 62 ∧ k.toNat < es.length ∧ ds.length < sizeLine ∧ flat (es.getD k.toNat .none) = true then some (.nx, (ε.set j (some (true, .list (es.eraseIdx k.toNat)))).set i (some (true, .list (ds ++ [es.getD k.toNat .none])))) else none
    | _ => none
  | _, _ => none
theorem seqIx {k : Int} {n : Nat} (h0 : 0 ≤ k) (h1 : k.toNat < n) : seqIndex? k n = some k.toNat := by
  unfold seqIndex?
  split <;> (try split) <;> simp_all <;> omega
theorem ss_appPop (i j : Nat) (hij : i ≠ j) {x y : Str} {p py ap ap2 cp cp2 : Pos} (he : EA X e F S) (hN : X.N[i]? = some x := by rfl) (hN2 : X.N[j]? = some y := by rfl)
    (hv : Vis X.env.scope x := by first | exact Or.inl rfl | exact Or.inr (Or.inl rfl) | exact Or.inr (Or.inr rfl)) (hv2 : Vis X.env.scope y := by first | exact Or.inl rfl | exact Or.inr (Or.inl rfl) | exact Or.inr (Or.inr rfl))
    (hd : (x == ("__debug__" : Str)) = false := by decide) (hd2 : (y == ("__debug__" : Str)) = false := by decide)
    (hcd : (x == ("__classdict__" : Str)) = false := by decide) (hcd2 : (y == ("__classdict__" : Str)) = false := by decide)
    (hbase : attributeBase (.Name x p) "append" X.env (eval (.Name x p) X.env) = eval (.Name x p) X.env := by rfl)
    (hbase2 : attributeBase (.Name y py) "pop" X.env (eval (.Name y py) X.env) = eval (.Name y py) X.env := by rfl)
    (hfew : ((backTo cp (starEach [.Call (.Attribute (.Name y py) "pop" ap2) [e] [] cp2] X.env)).all (fun x => !x.1) && (backToKw cp (keywordEach [] X.env)).all (fun x => x.1.isSome)
      && decide ([(.Call (.Attribute (.Name y py) "pop" ap2) [e] [] cp2 : Expr)].length + ([] : List Keyword).length + (if ([] : List Keyword).isEmpty then 0 else 1) < 30)) = true := by rfl)
    (hfew2 : ((backTo cp2 (starEach [e] X.env)).all (fun x => !x.1) && (backToKw cp2 (keywordEach [] X.env)).all (fun x => x.1.isSome)
      && decide ([e].length + ([] : List Keyword).length + (if ([] : List Keyword).isEmpty then 0 else 1) < 30)) = true := by rfl)
    (hline : (ap.endLine == cp.line) = true := by rfl) (hline2 : (ap2.endLine == cp2.line) = true := by rfl)
    (hs : starEach [.Call (.Attribute (.Name y py) "pop" ap2) [e] [] cp2] X.env = (false, eval (.Call (.Attribute (.Name y py) "pop" ap2) [e] [] cp2) X.env) :: starEach [] X.env := by rfl) (hplain : (backTo cp (starEach [] X.env)).any (·.1) = false := by rfl)
    (hs2 : starEach [e] X.env = (false, eval e X.env) :: starEach [] X.env := by rfl) (hplain2 : (backTo cp2 (starEach [] X.env)).any (·.1) = false := by rfl)
    (hsw : swapsWith (.Call (.Attribute (.Name x p) "append" ap) [.Call (.Attribute (.Name y py) "pop" ap2) [e] [] cp2] [] cp) none pos.line X.env = pure false := by rfl) :
    SS X (.Expr (.Call (.Attribute (.Name x p) "append" ap) [.Call (.Attribute (.Name y py) "pop" ap2) [e] [] cp2] [] cp) pos) (appPopS i j F) :=
  ps_imp (ps_expr (pe_bm PySem.F.plainAttrs_list PySem.F.slot_list_append PySem.F.type_list_append mt_append (pe_var hN hv hd hcd)
    (pa_cons (pe_bm PySem.F.plainAttrs_list PySem.F.slot_list_pop PySem.F.type_list_pop mt_popAt (pe_var hN2 hv2 hd2 hcd2) (pa_cons he pa_nil hs2) hbase2 hfew2 hline2 hs2 hplain2) pa_nil hs) hbase hfew hline hs hplain) hsw) fun De σ H ⟨H0, ε, r, ⟨fp, s⟩, h, k⟩ => by
    unfold appPopS at h
    split at h <;> try (cases h)
    rename_i ds es h1 h2
    obtain ⟨d, h3, h⟩ := Option.bind_eq_some_iff.mp h
    split at h <;> try (cases h)
    rename_i kk
    split at h <;> cases h
    rename_i hc
    obtain ⟨c1, c2, c3, c4, c5⟩ := hc
    obtain ⟨a, vs, A, e1, e2, t, ef, nd, ow⟩ := s.owned h1
    obtain ⟨b, us, B, g1, g2, tu, eg, nd2, ow2⟩ := s.owned h2
    have nab : a ≠ b := by
      rintro rfl
      exact (ow a List.mem_cons_self).2.2 j (Ne.symm hij) (by rw [eg]; exact List.mem_cons_self)
    refine ⟨.ref a, e1, .inl ⟨rfl, vs, .inl (.inl e2)⟩, .ref b, g1, .inl ⟨rfl, us, .inl (.inl g2)⟩, ε, fp, _, s.er, h3, fun v H' C g tv _ => ?_⟩
    have ev := tv.intI
    subst ev
    have tu' := tu.same g
    have t' := t.same g
    have hlen := tu'.len
    have hg0 : es[kk.toNat]? = some (es.getD kk.toNat .none) := by rw [List.getD_eq_getElem?_getD, List.getElem?_eq_getElem c3]; rfl
    obtain ⟨w, W, hw, tw, _⟩ := tu'.at hg0
    have eW := tw.flat c5
    subst eW
    refine ⟨b, us, kk, kk.toNat, w, rfl, rfl, g b _ g2, by omega, by omega, seqIx c1 (by omega), hw, ?_⟩
    -- the pop
    obtain ⟨C2, t2, n2, s2⟩ := tu'.eraseIdx (k := kk.toNat)
    have nB := (List.nodup_cons.mp nd2)
    have S1 : SRf X.K H0 σ (upd H' b (.lst (us.eraseIdx kk.toNat))) (ε.set j (some (true, .list (es.eraseIdx kk.toNat)))) (fun l => if l = j then b :: C2 else fp l) :=
      s.put g h2 g1 (by rw [eg]; exact List.mem_cons_self) t2 (List.nodup_cons.mpr ⟨fun m => nB.1 (s2 b m), n2 nB.2⟩) fun x m => by
        obtain ⟨o1, o2, o3⟩ := ow2 x (List.mem_cons_of_mem _ (s2 x m))
        exact ⟨o1, o2.grow g, o3⟩
    have hi1 : (ε.set j (some (true, PyData.list (es.eraseIdx kk.toNat))))[i]? = some (some (true, .list ds)) := by rw [List.getElem?_set_ne (Ne.symm hij)]; exact h1
    have hH : upd H' b (.lst (us.eraseIdx kk.toNat)) a = some (.lst vs) := by rw [upd_ne nab]; exact g a _ e2
    refine ⟨a, vs, w, rfl, rfl, hH, by rw [t.len]; exact c4, ?_⟩
    obtain ⟨a', vs', A', e1', e2', tt, ef', nd', ow'⟩ := S1.owned hi1
    rw [e1] at e1'
    cases e1'
    rw [hH] at e2'
    cases e2'
    have tw' : Tr X.K false (upd H' b (.lst (us.eraseIdx kk.toNat))) w (es.getD kk.toNat .none) [] := tw.keep (keep_upd ⟨us, g b _ g2⟩ (by simp))
    have tt2 := tt.append (.cons tw' .nil)
    rw [List.append_nil, List.append_nil] at tt2
    refine k σ _ ⟨_, S1.put (.refl _) hi1 e1 (by rw [ef']; exact List.mem_cons_self) tt2 nd' fun x m => ?_⟩
    obtain ⟨o1, o2, o3⟩ := ow' x (List.mem_cons_of_mem _ m)
    exact ⟨o1, o2, o3⟩

/-! ### a module's tuple; list(range(n)); defaults -/
/-- a tuple of the written part -/
def KT (K : Fg) (a : Addr) (xs : List V) : Prop := ∃ (o : Obj) (its : Array Value) (n : Nat), K.lookup a = some o ∧ o.cls = .type "tuple" ∧ o.data = .seq its n ∧ its.size ≤ sizeLine ∧ Vals xs its.toList
theorem ef_kt {x : Str} {ns : List Int} (hg : Gl X x) (h : ∃ p, X.mg x = some (.ref p) ∧ KT X.K p (ns.map V.int)) (hd : (x == ("__debug__" : Str)) = false := by decide) : EF X (.Name x pos) (cD (.tuple (ns.map .int))) := by
  obtain ⟨p, h1, h2⟩ := h
  exact ef_con (pe_glob (v := .ref p) hg h1 rfl hd) fun H => .tup (.inr h2) (TrA.ints ns)
def lrangeD (G : FA) : FE := fun ε => (G ε).bind fun ds => match ds with
  | [.int n] => if -(2 ^ 62) ≤ n ∧ n ≤ 16777216 then some (.list ((List.range n.toNat).map fun i => .int (i : Nat))) else none
  | _ => none
theorem ef_lrange {p p2 pos2 : Pos} (hc : X.calm = true) (hg : Gl X "list") (hm : X.mg "list" = none) (hg2 : Gl X "range") (hm2 : X.mg "range" = none) (ha : EA X a F S)
    (na : starEach [a] X.env = (false, eval a X.env) :: starEach [] X.env := by rfl) (nb : starEach [.Call (.Name "range" p2) [a] [] pos2] X.env = (false, eval (.Call (.Name "range" p2) [a] [] pos2) X.env) :: starEach [] X.env := by rfl) :
    EF X (.Call (.Name "list" p) [.Call (.Name "range" p2) [a] [] pos2] [] pos) (lrangeD (consA F nilA)) := pe_imp (pe_listRg hc hg hm (prg_1 hg2 hm2 ha na) nb) fun σ H Q ⟨ε, fp, r, er, h, k⟩ => by
  obtain ⟨ds, h1, h⟩ := Option.bind_eq_some_iff.mp h
  obtain ⟨d, es, h2, h3, rfl⟩ := consA_some h1
  cases h3
  split at h <;> try (cases h)
  rename_i n hq
  cases hq
  split at h <;> cases h
  rename_i hb
  refine ⟨ε, fp, _, er, h2, fun v H1 A s1 t1 _ => ⟨n, t1.intI, ⟨by omega, by omega, by omega, by omega, by omega⟩, fun q nq => ?_⟩⟩
  have ev : rgV 0 n = ((List.range n.toNat).map fun i => ((i : Nat) : Int)).map V.int := by
    unfold rgV
    rw [Int.sub_zero, List.map_map]
    exact List.map_congr_left fun i _ => by simp
  rw [ev]
  have tt := (TrA.ints (K := X.K) (kk := false) (H := H1) ((List.range n.toNat).map fun i => ((i : Nat) : Int))).same (same_upd (o := .lst (((List.range n.toNat).map fun i => ((i : Nat) : Int)).map V.int)) nq)
  rw [List.map_map] at tt
  exact k _ _ [q] (s1.trans (same_upd nq)) (.lst (.inl upd_same) (by simpa [Function.comp_def] using tt)) (.one (s1.free nq) ⟨_, upd_same⟩)
theorem et_eb (h : EB X e T) (he : ∀ whole, isTrue e X.env whole = (do let v ← whole; standAt e.pos; holding [v] (truthy v)) := by intro _; rfl) : ET X e T := pt_imp (pt_val h he) fun σ H Q ⟨ε, fp, b, er, hd, k⟩ =>
  ⟨ε, fp, .bool b, er, by simp [boolD, hd], fun v H1 A s1 t1 _ => by cases t1; exact ⟨b, rfl, k H1 s1⟩⟩
/-- a callee with defaults that are ints -/
def CalD (P : Program) (w : World) (K : Fg) (mg : Str → Option Value) (base : Heap) (k : Nat) (x : Str) (ps : List Str) (ns : List Int) (sp : Sp) : Prop :=
  ∃ f fd, FnOk P w K mg base CX0 k f fd ps sp ∧ mg x = some (.ref f) ∧ PySem.W.keepIn K (.ref f) = true ∧ Binds K fd ps [] ∧ ∃ us, Vals (ns.map V.int) us ∧ Binds K fd ps us
theorem CalD.cal {P : Program} {w : World} {K : Fg} {mg : Str → Option Value} {base : Heap} {k : Nat} {x : Str} {ps : List Str} {ns : List Int} {sp : Sp} (c : CalD P w K mg base k x ps ns sp) : Cal P w K mg base k x ps sp := by
  obtain ⟨f, fd, h1, h2, h3, h4, _⟩ := c
  exact ⟨f, fd, h1, h2, h3, h4⟩
theorem ef_calD {k j : Nat} {ps : List Str} {ns : List Int} {f : List D → Option D} {x : Str} {p : Pos} (c : CalD X.prog X.w X.K X.mg X.base k x ps ns (spD X.K f)) (hr : Room j X.A) (hkj : k ≤ j) (hg : Gl X x)
    (ha : AA X (e :: es) G S) (hdb : (x == ("__debug__" : Str)) = false := by decide) (he : starEach (e :: es) X.env = (false, eval e X.env) :: starEach es X.env := by rfl) (hpl : (backTo pos (starEach es X.env)).any (·.1) = false := by rfl) :
    EF X (.Call (.Name x p) (e :: es) [] pos) (callD (fun ds => f (ds ++ ns.map .int)) G) := by
  obtain ⟨fa, fd, h1, h2, h3, _, us, h5, h6⟩ := c
  exact ef_callD h1 (hr.mono hkj) hg h2 h3 h6 h5 (fun H => TrA.ints ns) ha hdb he hpl
/-- the signs of a text -/
def signsD (F : FE) : FA := fun ε => (F ε).bind fun d => match d with
  | .str z => some (z.cps.toList.map fun c => .str ⟨#[c]⟩)
  | _ => none
theorem ia_str {l : Expr} (hl : EA X l F S) : IA X tg l (signsD F) [] := pi_imp (pi_str hl) fun σ H R ⟨ε, fp, ds, er, h, k⟩ => by
  obtain ⟨d, e1, h⟩ := Option.bind_eq_some_iff.mp h
  cases d <;> try (cases h)
  rename_i z
  refine ⟨ε, fp, _, er, e1, fun v H' A g t al => ?_⟩
  cases t
  refine ⟨z, rfl, k _ H' [] g .nil (by simp) fun H2 kp i => ⟨fun d hd => ?_, fun hi => ?_⟩⟩
  · rw [List.getElem?_map] at hd
    obtain ⟨c, hc, rfl⟩ := Option.map_eq_some_iff.mp hd
    have hl := (List.getElem?_eq_some_iff.mp hc).1
    refine ⟨by rw [Array.length_toList] at hl; exact hl, fun x H3 hy => ?_⟩
    obtain ⟨rfl, c', hc', rfl⟩ := hy
    have : c' = c := by
      rw [Array.getElem?_toList] at hc
      rw [hc] at hc'
      exact (Option.some.inj hc').symm
    subst this
    exact ⟨.refl _, [], .str _, by simp⟩
  · rw [List.length_map, Array.length_toList] at hi
    exact hi
end
end PV

namespace PV
open PySem PySem.Spec PyProof.Rows L2

/-! ### x[j] op= e, x[i][j] op= e of ints -/
section
variable {X : Cx} {a b e tg it elt : Expr} {es : List Expr} {F F2 : FE} {G : FA} {T : FT} {S S2 S3 : List Nat} {pos p2 : Pos} {TT : TD}
theorem get_listI : PGet X fun x y H Q => ∃ p xs i v, x = V.ref p ∧ y = .int i ∧ 0 ≤ i ∧ SqL X.K H p xs ∧ xs[i.toNat]? = some v ∧ Q v H := by
  intro pins s σ H x y v u Q I rx ry ⟨p, xs, i, w, e1, e2, h0, hq, hx, q⟩
  subst e1 e2
  cases rx
  obtain ⟨t, rfl⟩ := ry
  obtain ⟨its, r, pl, hz⟩ := I.list hq
  obtain ⟨z, ez, rz⟩ := r.get hx
  have hl := (List.getElem?_eq_some_iff.mp hx).1
  have hn := line63
  exact wpAny_getItem_list pl.isList h0 (by omega) (by simpa using ez) ⟨w, H, I, rz, q⟩
def augItS (i : Nat) (f : Int → Int → Int) (J F : FE) : FS := fun ε => match ε[i]? with
  | some (some (true, .list ds)) => (J ε).bind fun j => (F ε).bind fun d => match j, d with
    | .int k, .int b => match ds[k.toNat]? with
      | some (.int a) => if 0 ≤ k then some (.nx, ε.set i (some (true, .list (ds.set k.toNat (.int (f a b)))))) else none
      | _ => none
    | _, _ => none
  | _ => none
theorem augItS_some {i : Nat} {f : Int → Int → Int} {J F : FE} {ε : Ev} {r : Fl × Ev} (h : augItS i f J F ε = some r) : ∃ ds k b a, ε[i]? = some (some (true, .list ds)) ∧ J ε = some (.int k) ∧ F ε = some (.int b) ∧ ds[k.toNat]? = some (.int a) ∧ 0 ≤ k ∧ r = (.nx, ε.set i (some (true, .list (ds.set k.toNat (.int (f a b)))))) := by
  unfold augItS at h
  split at h <;> try (cases h)
  rename_i ds h1
  obtain ⟨dj, h2, h⟩ := Option.bind_eq_some_iff.mp h
  obtain ⟨dd, h3, h⟩ := Option.bind_eq_some_iff.mp h
  cases dj with
  | int k =>
    cases dd with
    | int b =>
      simp only at h
      split at h <;> try (cases h)
      rename_i a h4
      simp only [Option.ite_none_right_eq_some, Option.some.injEq] at h
      exact ⟨ds, k, b, a, h1, h2, h3, h4, h.1, h.2.symm⟩
    | _ => cases h
  | _ => cases h
theorem ixN_nat {n : Nat} {k : Int} (h0 : 0 ≤ k) (h1 : k.toNat < n) : ixN n k = some k.toNat := by
  unfold ixN
  rw [if_pos h0, if_pos (by omega)]
theorem ss_augIt (i : Nat) {x : Str} {p sp : Pos} {j : Expr} {J : FE} {op : Operator} {f : Int → Int → Int} (ho : PIp X op (ipI f)) (hj : EA X j J S) (he : EA X e F S2) (hN : X.N[i]? = some x := by rfl) (hv : Vis X.env.scope x := by first | exact Or.inl rfl | exact Or.inr (Or.inl rfl) | exact Or.inr (Or.inr rfl)) (hd : (x == ("__debug__" : Str)) = false := by decide)
    (hcd : (x == ("__classdict__" : Str)) = false := by decide)
    (ha : ∀ ov iv new, augStore j ov iv new = (do holding [new, ov, iv] (setItem ov iv new); release [new, ov, iv] []; pure .next) := by intros; rfl) :
    SS X (.AugAssign (.Subscript (.Name x p) j sp) op e pos) (augItS i f J F) :=
  ps_imp (ps_augS (pe_var hN hv hd hcd) hj get_listI he ho set_list ha) fun De σ H ⟨H0, ε, r, ⟨fp, s⟩, h, k⟩ => by
    obtain ⟨ds, kk, bb, aa, h1, h2, h3, h4, h0, rfl⟩ := augItS_some h
    obtain ⟨a, vs, A, e1, e2, t, ef, nd, ow⟩ := s.owned h1
    refine ⟨.ref a, e1, ε, fp, _, s.er, h2, fun w H1 _ g1 tw _ => ?_⟩
    have ew := tw.intI
    subst ew
    have t1 := t.same g1
    obtain ⟨z, Z, hz, tz, _⟩ := t1.at h4
    have ez := tz.intI
    subst ez
    refine ⟨a, vs, kk, _, rfl, rfl, h0, .inl (.inl (g1 a _ e2)), hz, ε, fp, _, s.er.same g1, h3, fun u H2 _ g2 tu _ => ?_⟩
    have eu := tu.intI
    subst eu
    have g' := g1.trans g2
    have hl := (List.getElem?_eq_some_iff.mp h4).1
    refine ⟨_, _, rfl, rfl, a, vs, kk, kk.toNat, rfl, rfl, g' a _ e2, ixN_nat h0 (by rw [t.len]; exact hl), ?_⟩
    obtain ⟨n1, n2⟩ := List.nodup_cons.mp nd
    obtain ⟨C', t', nC, sC⟩ := TrA.set (k := kk.toNat) (t.same g') (.int (f aa bb)) (fun b m m2 => by simp at m2) n2 List.nodup_nil
    refine k σ _ ⟨_, s.put g' h1 e1 (by rw [ef]; exact List.mem_cons_self) t' ?_ fun b m => ?_⟩
    · refine List.nodup_cons.mpr ⟨fun m => ?_, nC⟩
      rcases sC a m with m | m
      · exact n1 m
      · simp at m
    · rcases sC b m with m | m
      · obtain ⟨o1, o2, o3⟩ := ow b (List.mem_cons_of_mem _ m)
        exact ⟨o1, o2.grow g', o3⟩
      · simp at m

/-! ### a list within a list of one's own is written -/
theorem TrA.nth {K : Fg} {H : Hp} : ∀ {ds : List D} {vs : List V} {A : List Addr} {k : Nat} {es : List D}, TrA K false H vs ds A → A.Nodup → ds[k]? = some (.list es) →
    ∃ b us B, vs[k]? = some (.ref b) ∧ Rd H b (.lst us) ∧ TrA K false H us es B ∧ (b :: B).Nodup ∧ (∀ a ∈ b :: B, a ∈ A) ∧
      ∀ (H' : Hp) (us' : List V) (es' : List D) (B' : List Addr), (∀ a o, H a = some o → a ≠ b → H' a = some o) → H' b = some (.lst us') → Lst H b → TrA K false H' us' es' B' → (b :: B').Nodup → (∀ a ∈ B', a ∈ b :: B ∨ a ∉ A) →
        ∃ A', TrA K false H' vs (ds.set k (.list es')) A' ∧ A'.Nodup ∧ (∀ a ∈ A', a ∈ A ∨ a ∈ B')
  | [], _, _, _, _, _, _, h => by simp at h
  | d :: ds, _, _, 0, es, t, nd, h => by
    cases t with
    | @cons v vs _ _ A1 A2 t1 t2 =>
      cases h
      obtain ⟨n1, n2, n3⟩ := List.nodup_append.mp nd
      obtain ⟨b, us, B, rfl, r, tb, rfl⟩ := t1.mine
      refine ⟨b, us, B, rfl, r, tb, n1, fun a m => List.mem_append_left _ m, fun H' us' es' B' kp e' lb t' nB' sB => ⟨(b :: B') ++ A2, ?_, ?_, ?_⟩⟩
      · refine .cons (.lst (.inl e') t') (t2.keep fun a o e m => kp a o e ?_)
        rintro rfl
        rcases m with m | m
        · exact n3 a List.mem_cons_self a m rfl
        · obtain ⟨xs, lb⟩ := lb
          rw [e] at lb
          cases lb
          exact m.not
      · refine List.nodup_append.mpr ⟨nB', n2, fun a ha c hc e => ?_⟩
        subst e
        rcases List.mem_cons.mp ha with rfl | ha
        · exact n3 a List.mem_cons_self a hc rfl
        · rcases sB a ha with z | z
          · exact n3 a z a hc rfl
          · exact z (List.mem_append_right _ hc)
      · intro a m
        rcases List.mem_append.mp m with m | m
        · rcases List.mem_cons.mp m with rfl | m
          · exact .inl (List.mem_append_left _ List.mem_cons_self)
          · exact .inr m
        · exact .inl (List.mem_append_right _ m)
  | d :: ds, _, _, k + 1, es, t, nd, h => by
    cases t with
    | @cons v vs _ _ A1 A2 t1 t2 =>
      obtain ⟨n1, n2, n3⟩ := List.nodup_append.mp nd
      obtain ⟨b, us, B, e1, r, tb, nb, sb, go⟩ := TrA.nth (k := k) t2 n2 (by simpa using h)
      refine ⟨b, us, B, by simpa using e1, r, tb, nb, fun a m => List.mem_append_right _ (sb a m), fun H' us' es' B' kp e' lb t' nB' sB => ?_⟩
      obtain ⟨A', tA, nA, sA⟩ := go H' us' es' B' kp e' lb t' nB' fun a m => (sB a m).imp id fun z w => z (List.mem_append_right _ w)
      refine ⟨A1 ++ A', .cons (t1.keep fun a o e m => kp a o e ?_) tA, ?_, ?_⟩
      · rintro rfl
        rcases m with m | m
        · exact n3 a m a (sb a List.mem_cons_self) rfl
        · obtain ⟨xs, lb⟩ := lb
          rw [e] at lb
          cases lb
          exact m.not
      · refine List.nodup_append.mpr ⟨n1, nA, fun a ha c hc e => ?_⟩
        subst e
        rcases sA a hc with z | z
        · exact n3 a ha a z rfl
        · rcases sB a z with w | w
          · exact n3 a ha a (sb a w) rfl
          · exact w (List.mem_append_left _ ha)
      · intro a m
        rcases List.mem_append.mp m with m | m
        · exact .inl (List.mem_append_left _ m)
        · exact (sA a m).imp (fun z => List.mem_append_right _ z) id
/-- a list within what a name owns is written -/
theorem SRf.put2 {K : Fg} {H0 H H' : Hp} {σ : L2.St} {ε : Ev} {fp : Nat → List Addr} {i : Nat} {d d2 : D} {v : V} {b : Addr} {us : List V} {A : List Addr} (s : SRf K H0 σ H ε fp) (g : Same H H') (hi : ε[i]? = some (some (true, d))) (hv : σ[i]? = some (some v)) (hb : b ∈ fp i)
    (t : Tr K false (upd H' b (.lst us)) v d2 A) (nd : A.Nodup) (ow : ∀ c ∈ A, c ∈ fp i ∨ (H c = none ∧ Lst H' c)) :
    SRf K H0 σ (upd H' b (.lst us)) (ε.set i (some (true, d2))) (fun j => if j = i then A else fp j) := by
  have s' := s.grow g
  obtain ⟨m1, m2, m3⟩ := s'.ow i d hi
  have lb : Lst H' b := (m2 b hb).2
  have hl : i < ε.length := (List.getElem?_eq_some_iff.mp hi).1
  have lu : ∀ c, Lst H' c → Lst (upd H' b (.lst us)) c := fun c ⟨xs, e⟩ => by
    by_cases h : c = b
    · rw [h]
      exact ⟨_, upd_same⟩
    · exact ⟨xs, by rw [upd_ne h]; exact e⟩
  have du : ∀ c o, H' c = some o → ∃ o', upd H' b (.lst us) c = some o' := fun c o e => by
    by_cases h : c = b
    · rw [h]
      exact ⟨_, upd_same⟩
    · exact ⟨o, by rw [upd_ne h]; exact e⟩
  refine ⟨fun c o e => ?_, by rw [List.length_set]; exact s.len, fun j f e h => ?_, fun j c m => ?_, fun j e h => ?_⟩
  · rw [upd_ne]
    · exact s'.same c o e
    · rintro rfl
      rw [(m2 c hb).1] at e
      cases e
  · by_cases hj : j = i
    · subst hj
      rw [List.getElem?_set_self hl] at h
      cases h
      exact ⟨_, hv, by rw [if_pos rfl]; exact t⟩
    · rw [List.getElem?_set_ne (Ne.symm hj)] at h
      obtain ⟨u, h1, h2⟩ := s'.er j f e h
      exact ⟨u, h1, by rw [if_neg hj]; exact h2.keep (keep_upd lb (m3 j hj b hb))⟩
  · by_cases hj : j = i
    · rw [if_pos hj] at m
      exact t.dom c m
    · rw [if_neg hj] at m
      obtain ⟨o, e⟩ := s'.dm j c m
      exact du c o e
  · by_cases hj : j = i
    · subst hj
      rw [if_pos rfl]
      refine ⟨nd, fun c m => ?_, fun k ne c m => ?_⟩
      · rcases ow c m with z | ⟨z1, z2⟩
        · exact ⟨(m2 c z).1, lu c (m2 c z).2⟩
        · exact ⟨s.same.free z1, lu c z2⟩
      · rw [if_neg ne]
        rcases ow c m with z | ⟨z1, z2⟩
        · exact m3 k ne c z
        · exact s.notin (.refl H) z1 k
    · rw [List.getElem?_set_ne (Ne.symm hj)] at h
      obtain ⟨n1, n2, n3⟩ := s'.ow j e h
      rw [if_neg hj]
      refine ⟨n1, fun c m => ⟨(n2 c m).1, lu c (n2 c m).2⟩, fun k ne c m => ?_⟩
      by_cases hk : k = i
      · rw [if_pos hk]
        intro m2'
        rcases ow c m2' with z | ⟨z1, _⟩
        · exact m3 j hj c z m
        · exact s.notin (.refl H) z1 j m
      · rw [if_neg hk]
        exact n3 k ne c m
def augIt2S (i : Nat) (f : Int → Int → Int) (I J F : FE) : FS := fun ε => match ε[i]? with
  | some (some (true, .list ds)) => (I ε).bind fun di => (J ε).bind fun j => (F ε).bind fun d => match di, j, d with
    | .int m, .int k, .int b => match ds[m.toNat]? with
      | some (.list es) => match es[k.toNat]? with
        | some (.int a) => if 0 ≤ m ∧ 0 ≤ k then some (.nx, ε.set i (some (true, .list (ds.set m.toNat (.list (es.set k.toNat (.int (f a b)))))))) else none
        | _ => none
      | _ => none
    | _, _, _ => none
  | _ => none
theorem augIt2S_some {i : Nat} {f : Int → Int → Int} {I J F : FE} {ε : Ev} {r : Fl × Ev} (h : augIt2S i f I J F ε = some r) : ∃ ds m k b es a, ε[i]? = some (some (true, .list ds)) ∧ I ε = some (.int m) ∧ J ε = some (.int k) ∧ F ε = some (.int b) ∧ ds[m.toNat]? = some (.list es) ∧ es[k.toNat]? = some (.int a) ∧ 0 ≤ m ∧ 0 ≤ k ∧
    r = (.nx, ε.set i (some (true, .list (ds.set m.toNat (.list (es.set k.toNat (.int (f a b)))))))) := by
  unfold augIt2S at h
  split at h <;> try (cases h)
  rename_i ds h1
  obtain ⟨di, h2, h⟩ := Option.bind_eq_some_iff.mp h
  obtain ⟨dj, h3, h⟩ := Option.bind_eq_some_iff.mp h
  obtain ⟨dd, h4, h⟩ := Option.bind_eq_some_iff.mp h
  cases di with
  | int m =>
    cases dj with
    | int k =>
      cases dd with
      | int b =>
        simp only at h
        split at h <;> try (cases h)
        rename_i es h5
        split at h <;> try (cases h)
        rename_i a h6
        simp only [Option.ite_none_right_eq_some, Option.some.injEq] at h
        exact ⟨ds, m, k, b, es, a, h1, h2, h3, h4, h5, h6, h.1.1, h.1.2, h.2.symm⟩
      | _ => cases h
    | _ => cases h
  | _ => cases h
theorem ss_augIt2 (i : Nat) {x : Str} {p sp sp2 : Pos} {m j : Expr} {I J : FE} {op : Operator} {f : Int → Int → Int} (ho : PIp X op (ipI f)) (hm : EA X m I S) (hj : EA X j J S2) (he : EA X e F S3) (hN : X.N[i]? = some x := by rfl) (hv : Vis X.env.scope x := by first | exact Or.inl rfl | exact Or.inr (Or.inl rfl) | exact Or.inr (Or.inr rfl)) (hd : (x == ("__debug__" : Str)) = false := by decide)
    (hcd : (x == ("__classdict__" : Str)) = false := by decide) (hpl : PlainIx m := by intro _ _; rfl)
    (ha : ∀ ov iv new, augStore j ov iv new = (do holding [new, ov, iv] (setItem ov iv new); release [new, ov, iv] []; pure .next) := by intros; rfl) :
    SS X (.AugAssign (.Subscript (.Subscript (.Name x p) m sp2) j sp) op e pos) (augIt2S i f I J F) :=
  ps_imp (ps_augS (pe_ix ix_seq (pe_var hN hv hd hcd) hm hpl) hj get_listI he ho set_list ha) fun De σ H ⟨H0, ε, r, ⟨fp, s⟩, h, k⟩ => by
    obtain ⟨ds, n, kk, bb, es, aa, h1, h2, h3, h4, h5, h6, h7, h8, rfl⟩ := augIt2S_some h
    obtain ⟨a, vs, A, e1, e2, t, ef, nd, ow⟩ := s.owned h1
    refine ⟨.ref a, e1, ε, fp, _, s.er, h2, fun w H1 _ g1 tw _ => ?_⟩
    have ew := tw.intI
    subst ew
    obtain ⟨n1, n2⟩ := List.nodup_cons.mp nd
    obtain ⟨b, us, B, hv1, rb, tb, nb, sb, _⟩ := (t.same g1).nth n2 h5
    have hl5 := (List.getElem?_eq_some_iff.mp h5).1
    refine .inl ⟨a, vs, n, .ref b, rfl, rfl, .inl (.inl (g1 a _ e2)), by unfold atI; rw [ixN_nat h7 (by rw [t.len]; exact hl5)]; exact hv1, ?_⟩
    refine ⟨ε, fp, _, s.er.same g1, h3, fun w2 H2 _ g2 tw2 _ => ?_⟩
    have ew2 := tw2.intI
    subst ew2
    obtain ⟨z, Z, hz, tz, _⟩ := (tb.same g2).at h6
    have ez := tz.intI
    subst ez
    have lb1 : Lst H1 b := ((ow b (List.mem_cons_of_mem _ (sb b List.mem_cons_self))).2.1).grow g1
    obtain ⟨us', eb⟩ := lb1
    have eus : us' = us := by
      rcases rb with rb | ⟨o, rb⟩
      · rw [eb] at rb
        cases rb
        rfl
      · rw [eb] at rb
        cases rb
    subst eus
    refine ⟨b, us', kk, _, rfl, rfl, h8, .inl (.inl (g2 b _ eb)), hz, ε, fp, _, (s.er.same g1).same g2, h4, fun u H3 _ g3 tu _ => ?_⟩
    have eu := tu.intI
    subst eu
    have g13 := g2.trans g3
    have g' := g1.trans g13
    have hl6 := (List.getElem?_eq_some_iff.mp h6).1
    refine ⟨_, _, rfl, rfl, b, us', kk, kk.toNat, rfl, rfl, g13 b _ eb, ixN_nat h8 (by rw [tb.len]; exact hl6), ?_⟩
    obtain ⟨b0, us0, B0, hv0, rb0, tb0, nb0, sb0, go⟩ := (t.same g').nth n2 h5
    have eb0 : b0 = b := by
      have := hv0.symm.trans hv1
      cases this
      rfl
    subst eb0
    have lb3 : Lst H3 b0 := ⟨us', g13 b0 _ eb⟩
    obtain ⟨nb1, nb2⟩ := List.nodup_cons.mp nb0
    have eus0 : us0 = us' := by
      rcases rb0 with rb0 | ⟨o, rb0⟩
      · rw [g13 b0 _ eb] at rb0
        cases rb0
        rfl
      · rw [g13 b0 _ eb] at rb0
        cases rb0
    subst eus0
    obtain ⟨C', t', nC, sC⟩ := TrA.set (k := kk.toNat) tb0 (.int (f aa bb)) (fun b m m2 => by simp at m2) nb2 List.nodup_nil
    have sC' : ∀ c ∈ C', c ∈ B0 := fun c m => (sC c m).elim id fun z => by simp at z
    have nbC : b0 ∉ C' := fun m => nb1 (sC' b0 m)
    obtain ⟨A', tA', nA', sA'⟩ := go (upd H3 b0 (.lst (us0.set kk.toNat (.int (f aa bb))))) _ _ C' (fun c o e n => by rw [upd_ne n]; exact e) upd_same lb3 (t'.keep (keep_upd lb3 nbC)) (List.nodup_cons.mpr ⟨nbC, nC⟩) fun c m => .inl (List.mem_cons_of_mem _ (sC' c m))
    have hab : a ≠ b0 := by
      rintro rfl
      exact n1 (sb0 a List.mem_cons_self)
    have sAA : ∀ c ∈ A', c ∈ A := fun c m => (sA' c m).elim id fun z => sb0 c (List.mem_cons_of_mem _ (sC' c z))
    refine k σ _ ⟨_, s.put2 g' h1 e1 (by rw [ef]; exact List.mem_cons_of_mem _ (sb0 b0 List.mem_cons_self)) (.lst (.inl (by rw [upd_ne hab]; exact g' a _ e2)) tA') (List.nodup_cons.mpr ⟨fun m => n1 (sAA a m), nA'⟩) fun c m => .inl ?_⟩
    rw [ef]
    rcases List.mem_cons.mp m with rfl | m
    · exact List.mem_cons_self
    · exact List.mem_cons_of_mem _ (sAA c m)

/-! ### names that are given away -/
def OWM (H : Hp) (fp : Nat → List Addr) (M : List Nat) : Prop := ∀ i ∈ M, (fp i).Nodup ∧ (∀ a ∈ fp i, Lst H a) ∧ ∀ j, j ≠ i → ∀ a ∈ fp i, a ∉ fp j
def Mvd (H H' : Hp) (fp : Nat → List Addr) (M : List Nat) (A : List Addr) : Prop := A.Nodup ∧ ∀ a ∈ A, Lst H' a ∧ (H a = none ∨ ∃ i ∈ M, a ∈ fp i)
def tEM (K : Fg) (F : FE) (M : List Nat) : TE := fun σ H Q => ∃ ε fp d, ER K σ H ε fp ∧ OWM H fp M ∧ (∀ i ∈ M, ∃ d', ε[i]? = some (some (true, d'))) ∧ F ε = some d ∧ ∀ v H' A, Same H H' → Tr K false H' v d A → Mvd H H' fp M A → Q v H'
def tAM (K : Fg) (F : FA) (M : List Nat) : TA := fun σ H Q => ∃ ε fp ds, ER K σ H ε fp ∧ OWM H fp M ∧ (∀ i ∈ M, ∃ d', ε[i]? = some (some (true, d'))) ∧ F ε = some ds ∧ ∀ vs H' A, Same H H' → TrA K false H' vs ds A → Mvd H H' fp M A → Q vs H'
structure EM (X : Cx) (e : Expr) (F : FE) (M : List Nat) : Prop where
  run : PE X e (tEM X.K F M)
  own : ∀ ε d, F ε = some d → ∀ i ∈ M, ∃ d', ε[i]? = some (some (true, d'))
structure AM (X : Cx) (es : List Expr) (F : FA) (M : List Nat) : Prop where
  run : PA X es (tAM X.K F M)
  own : ∀ ε d, F ε = some d → ∀ i ∈ M, ∃ d', ε[i]? = some (some (true, d'))
variable {M M2 : List Nat}
theorem em_of (h : EF X e F) : EM X e F [] := ⟨pe_imp h fun σ H Q ⟨ε, fp, d, er, _, _, hd, k⟩ => ⟨ε, fp, d, er, hd, fun v H' A g t fr => k v H' A g t ⟨fr.1, fun a m => ⟨fr.lst m, .inl (fr.2 a m).1⟩⟩⟩, fun _ _ _ i m => by simp at m⟩
theorem em_var (i : Nat) {x : Str} (hN : X.N[i]? = some x := by rfl) (hv : Vis X.env.scope x := by first | exact Or.inl rfl | exact Or.inr (Or.inl rfl) | exact Or.inr (Or.inr rfl)) (hd : (x == ("__debug__" : Str)) = false := by decide)
    (hcd : (x == ("__classdict__" : Str)) = false := by decide) : EM X (.Name x pos) (ownD i) [i] := ⟨pe_imp (pe_var hN hv hd hcd) fun σ H Q ⟨ε, fp, d, er, om, _, hd, k⟩ => by
  have q := ownD_some hd
  obtain ⟨v, h1, h2⟩ := er i true d q
  obtain ⟨o1, o2, o3⟩ := om i (by simp)
  exact ⟨v, h1, k v H _ (.refl H) h2 ⟨o1, fun a m => ⟨o2 a m, .inr ⟨i, by simp, m⟩⟩⟩⟩, fun ε d h j m => by
    rw [List.mem_singleton.mp m]
    exact ⟨d, ownD_some h⟩⟩
theorem am_nil : AM X [] nilA [] := ⟨pa_imp pa_nil fun σ H Q ⟨ε, fp, ds, er, _, _, hd, k⟩ => by
  cases hd
  exact k [] H [] (.refl H) .nil ⟨List.nodup_nil, by simp⟩, fun _ _ _ i m => by simp at m⟩
theorem OWM.left {H : Hp} {fp : Nat → List Addr} (h : OWM H fp (M ++ M2)) : OWM H fp M := fun i m => h i (List.mem_append_left _ m)
theorem OWM.right {H : Hp} {fp : Nat → List Addr} (h : OWM H fp (M ++ M2)) : OWM H fp M2 := fun i m => h i (List.mem_append_right _ m)
theorem OWM.grow {H H' : Hp} {fp : Nat → List Addr} (h : OWM H fp M) (g : Same H H') : OWM H' fp M := fun i m => ⟨(h i m).1, fun a m2 => ((h i m).2.1 a m2).grow g, (h i m).2.2⟩
theorem am_cons (h : EM X e F M) (g : AM X es G M2) (dj : ∀ i ∈ M, i ∉ M2) (hs : starEach (e :: es) X.env = (false, eval e X.env) :: starEach es X.env := by rfl) : AM X (e :: es) (consA F G) (M ++ M2) :=
  ⟨pa_imp (pa_cons h.run g.run hs) fun σ H Q ⟨ε, fp, ds, er, om, ho, hd, k⟩ => by
    obtain ⟨d, es, h1, h2, rfl⟩ := consA_some hd
    refine ⟨ε, fp, d, er, om.left, fun i m => ho i (List.mem_append_left _ m), h1, fun v H1 A s1 t1 m1 => ⟨ε, fp, es, er.same s1, om.right.grow s1, fun i m => ho i (List.mem_append_right _ m), h2, fun vs H2 B s2 t2 m2 => k _ H2 _ (s1.trans s2) (.cons (t1.same s2) t2) ⟨?_, fun a m => ?_⟩⟩⟩
    · refine List.nodup_append.mpr ⟨m1.1, m2.1, fun a ha b hb e => ?_⟩
      subst e
      obtain ⟨o, eo⟩ := t1.dom a ha
      rcases (m2.2 a hb).2 with z | ⟨j, hj, mj⟩
      · rw [eo] at z
        cases z
      · rcases (m1.2 a ha).2 with z | ⟨i, hi, mi⟩
        · obtain ⟨xs, l⟩ := (om j (List.mem_append_right _ hj)).2.1 a mj
          rw [l] at z
          cases z
        · exact (om j (List.mem_append_right _ hj)).2.2 i (fun e => dj i hi (e ▸ hj)) a mj mi
    · rcases List.mem_append.mp m with m | m
      · exact ⟨(m1.2 a m).1.grow s2, (m1.2 a m).2.imp id fun ⟨i, hi, mi⟩ => ⟨i, List.mem_append_left _ hi, mi⟩⟩
      · exact ⟨(m2.2 a m).1, (m2.2 a m).2.imp s1.free fun ⟨i, hi, mi⟩ => ⟨i, List.mem_append_right _ hi, mi⟩⟩,
  fun ε d hd i m => by
    obtain ⟨d, es, h1, h2, rfl⟩ := consA_some hd
    rcases List.mem_append.mp m with m | m
    · exact h.own ε d h1 i m
    · exact g.own ε es h2 i m⟩
theorem em_tup {x1} (h : AM X es G M) : EM X (.Tuple es x1 pos) (tupD G) M := ⟨pe_imp (pe_tup h.run) fun σ H Q ⟨ε, fp, d, er, om, ho, hd, k⟩ => by
  obtain ⟨ds, h1, h2⟩ := Option.bind_eq_some_iff.mp hd
  split at h2 <;> cases h2
  rename_i z
  refine ⟨ε, fp, ds, er, om, ho, h1, fun vs H1 A s1 t1 m1 => ⟨by rw [t1.len]; exact z, fun p n => ?_⟩⟩
  have s2 := same_upd (o := .tup vs) n
  exact k _ _ _ (s1.trans s2) (.tup (.of upd_same) (t1.same s2)) ⟨m1.1, fun a m => ⟨(m1.2 a m).1.grow s2, (m1.2 a m).2⟩⟩, fun ε d hd => by
    obtain ⟨ds, h1, h2⟩ := Option.bind_eq_some_iff.mp hd
    exact h.own ε ds h1⟩
theorem SRf.owm {K : Fg} {H0 H : Hp} {σ : L2.St} {ε : Ev} {fp : Nat → List Addr} (s : SRf K H0 σ H ε fp) (h : ∀ i ∈ M, ∃ d', ε[i]? = some (some (true, d'))) : OWM H fp M := fun i m => by
  obtain ⟨d, hd⟩ := h i m
  obtain ⟨a, b, c⟩ := s.ow i d hd
  exact ⟨a, fun x m => (b x m).2, c⟩
theorem ss_retM (h : EM X e F M) : SS X (.Return (some e) pos) (retS F) := ps_imp (ps_ret h.run) fun De σ H ⟨H0, ε, r, ⟨fp, s⟩, h2, k⟩ => by
  obtain ⟨d, h1, rfl⟩ := Option.map_eq_some_iff.mp h2
  have ho := h.own ε d h1
  refine ⟨ε, fp, d, s.er, s.owm ho, ho, h1, fun v H' A g t m => k v H' A (s.same.trans g) t ⟨m.1, fun a ma => ⟨?_, (m.2 a ma).1⟩⟩⟩
  rcases (m.2 a ma).2 with z | ⟨i, hi, mi⟩
  · exact s.same.free z
  · obtain ⟨d', hd⟩ := ho i hi
    exact ((s.ow i d' hd).2.1 a mi).1
/-- x.append(e), e with names that are given away -/
def dropE : List Nat → Ev → Ev
  | [], ε => ε
  | i :: M, ε => dropE M (ε.set i none)
def putM (i : Nat) (F : FE) (M : List Nat) : FS := fun ε => match ε[i]? with
  | some (some (true, .list ds)) => (F ε).bind fun d => if ds.length < sizeLine then some (.nx, (dropE M ε).set i (some (true, .list (ds ++ [d])))) else none
  | _ => none
theorem dropE_get : ∀ {M : List Nat} {ε : Ev} {j : Nat}, (dropE M ε)[j]? = if j ∈ M ∧ j < ε.length then some none else ε[j]?
  | [], ε, j => by simp [dropE]
  | i :: M, ε, j => by
    show (dropE M (ε.set i none))[j]? = _
    rw [dropE_get, List.length_set]
    by_cases hj : j < ε.length
    · by_cases h1 : j ∈ M
      · rw [if_pos ⟨h1, hj⟩, if_pos ⟨List.mem_cons_of_mem _ h1, hj⟩]
      · rw [if_neg (by simp [h1])]
        by_cases e : i = j
        · subst e
          rw [if_pos ⟨List.mem_cons_self, hj⟩, List.getElem?_set_self hj]
        · rw [if_neg (by simp [h1, Ne.symm e]), List.getElem?_set_ne e]
    · rw [if_neg (by simp [hj]), if_neg (by simp [hj]), List.getElem?_eq_none (by rw [List.length_set]; omega), List.getElem?_eq_none (by omega)]
theorem dropE_len : ∀ {M : List Nat} {ε : Ev}, (dropE M ε).length = ε.length
  | [], _ => rfl
  | i :: M, ε => by
    show (dropE M (ε.set i none)).length = _
    rw [dropE_len, List.length_set]
theorem SRf.dropped {K : Fg} {H0 H : Hp} {σ : L2.St} {ε : Ev} {fp : Nat → List Addr} (s : SRf K H0 σ H ε fp) (M : List Nat) : SRf K H0 σ H (dropE M ε) (fun j => if j ∈ M then [] else fp j) := by
  have get : ∀ {j f d}, (dropE M ε)[j]? = some (some (f, d)) → ε[j]? = some (some (f, d)) ∧ j ∉ M := fun {j f d} h => by
    rw [dropE_get] at h
    split at h
    · cases h
    · rename_i n
      have hl := (List.getElem?_eq_some_iff.mp h).1
      exact ⟨h, fun m => n ⟨m, hl⟩⟩
  refine ⟨s.same, by rw [dropE_len]; exact s.len, fun j f d h => ?_, fun j a m => ?_, fun j d h => ?_⟩
  · obtain ⟨h1, h2⟩ := get h
    obtain ⟨v, e, t⟩ := s.er j f d h1
    exact ⟨v, e, by rw [if_neg h2]; exact t⟩
  · by_cases h : j ∈ M
    · rw [if_pos h] at m
      simp at m
    · rw [if_neg h] at m
      exact s.dm j a m
  · obtain ⟨h1, h2⟩ := get h
    obtain ⟨a, b, c⟩ := s.ow j d h1
    rw [if_neg h2]
    refine ⟨a, b, fun k ne x m => ?_⟩
    by_cases hk : k ∈ M
    · rw [if_pos hk]
      simp
    · rw [if_neg hk]
      exact c k ne x m
theorem ss_appendM (i : Nat) {x : Str} {p ap cp : Pos} (he : EM X e F M) (hi : i ∉ M) (hN : X.N[i]? = some x := by rfl) (hv : Vis X.env.scope x := by first | exact Or.inl rfl | exact Or.inr (Or.inl rfl) | exact Or.inr (Or.inr rfl)) (hd : (x == ("__debug__" : Str)) = false := by decide)
    (hcd : (x == ("__classdict__" : Str)) = false := by decide)
    (hbase : attributeBase (.Name x p) "append" X.env (eval (.Name x p) X.env) = eval (.Name x p) X.env := by rfl)
    (hfew : ((backTo cp (starEach [e] X.env)).all (fun x => !x.1) && (backToKw cp (keywordEach [] X.env)).all (fun x => x.1.isSome)
      && decide ([e].length + ([] : List Keyword).length + (if ([] : List Keyword).isEmpty then 0 else 1) < 30)) = true := by rfl)
    (hline : (ap.endLine == cp.line) = true := by rfl) (hs : starEach [e] X.env = (false, eval e X.env) :: starEach [] X.env := by rfl) (hplain : (backTo cp (starEach [] X.env)).any (·.1) = false := by rfl)
    (hsw : swapsWith (.Call (.Attribute (.Name x p) "append" ap) [e] [] cp) none pos.line X.env = pure false := by rfl) :
    SS X (.Expr (.Call (.Attribute (.Name x p) "append" ap) [e] [] cp) pos) (putM i F M) :=
  ps_imp (ps_expr (pe_bm PySem.F.plainAttrs_list PySem.F.slot_list_append PySem.F.type_list_append mt_append (pe_var hN hv hd hcd) (pa_cons he.run pa_nil hs) hbase hfew hline hs hplain) hsw) fun De σ H ⟨H0, ε, r, ⟨fp, s⟩, h, k⟩ => by
    unfold putM at h
    split at h <;> try (cases h)
    rename_i ds h1
    obtain ⟨d, h2, h⟩ := Option.bind_eq_some_iff.mp h
    split at h <;> cases h
    rename_i hz
    have ho := he.own ε d h2
    obtain ⟨a, vs, A, e1, e2, t, ef, nd, ow⟩ := s.owned h1
    refine ⟨.ref a, e1, .inl ⟨rfl, vs, .inl (.inl e2)⟩, ε, fp, d, s.er, s.owm ho, ho, h2, fun v H' C g tv mv => ?_⟩
    refine ⟨a, vs, v, rfl, rfl, g a _ e2, by rw [t.len]; exact hz, ?_⟩
    have t' := (t.same g).append (.cons tv .nil)
    rw [List.append_nil] at t'
    have s2 := s.dropped M
    have h1' : (dropE M ε)[i]? = some (some (true, .list ds)) := by rw [dropE_get, if_neg (by simp [hi])]; exact h1
    have frC : ∀ c ∈ C, H0 c = none ∧ Lst H' c ∧ c ∉ fp i ∧ ∀ j, j ≠ i → c ∉ (if j ∈ M then [] else fp j) := fun c m => by
      obtain ⟨l, z⟩ := mv.2 c m
      rcases z with z | ⟨j, hj, mj⟩
      · exact ⟨s.same.free z, l, s.notin (.refl H) z i, fun j _ => by split <;> simp_all [s.notin (.refl H) z j]⟩
      · obtain ⟨d', hd⟩ := ho j hj
        obtain ⟨q1, q2, q3⟩ := s.ow j d' hd
        refine ⟨(q2 c mj).1, l, q3 i (fun e => hi (e ▸ hj)) c mj, fun n ne => ?_⟩
        by_cases hn : n ∈ M
        · rw [if_pos hn]
          simp
        · rw [if_neg hn]
          exact q3 n (fun e => hn (e ▸ hj)) c mj
    obtain ⟨n1, n2⟩ := List.nodup_cons.mp nd
    refine k σ _ ⟨_, s2.put g h1' e1 (by rw [if_neg hi, ef]; exact List.mem_cons_self) t' ?_ fun c m => ?_⟩
    · refine List.nodup_cons.mpr ⟨fun m => ?_, List.nodup_append.mpr ⟨n2, mv.1, fun b mb c mc e => ?_⟩⟩
      · rcases List.mem_append.mp m with m | m
        · exact n1 m
        · exact (frC a m).2.2.1 (by rw [ef]; exact List.mem_cons_self)
      · subst e
        exact (frC b mc).2.2.1 (by rw [ef]; exact List.mem_cons_of_mem _ mb)
    · rcases List.mem_append.mp m with m | m
      · obtain ⟨o1, o2, o3⟩ := ow c (List.mem_cons_of_mem _ m)
        refine ⟨o1, o2.grow g, fun j ne => ?_⟩
        split
        · simp
        · exact o3 j ne
      · obtain ⟨o1, o2, _, o3⟩ := frC c m
        exact ⟨o1, o2, o3⟩
end
/-! ### a part of what is new -/
theorem TrA.atN {K : Fg} {kk : Bool} {H : Hp} : ∀ {ds : List D} {vs : List V} {A : List Addr} {i : Nat} {d : D}, TrA K kk H vs ds A → ds[i]? = some d → ∃ v B, vs[i]? = some v ∧ Tr K kk H v d B ∧ (∀ b ∈ B, b ∈ A) ∧ (A.Nodup → B.Nodup)
  | [], _, _, _, _, h, e => by simp at e
  | d :: ds, _, _, 0, _, h, e => by
    cases h with
    | cons h1 h2 =>
      cases e
      exact ⟨_, _, rfl, h1, fun b m => List.mem_append_left _ m, fun n => (List.nodup_append.mp n).1⟩
  | d :: ds, _, _, i + 1, _, h, e => by
    cases h with
    | cons h1 h2 =>
      obtain ⟨v, B, e1, t, s, n⟩ := TrA.atN h2 (i := i) (by simpa using e)
      exact ⟨v, B, by simpa using e1, t, fun b m => List.mem_append_right _ (s b m), fun h => n (List.nodup_append.mp h).2.1⟩
theorem TrA.atIN {K : Fg} {kk : Bool} {H : Hp} {ds : List D} {vs : List V} {A : List Addr} {i : Int} {d : D} (t : TrA K kk H vs ds A) (h : L2.atI ds i = some d) : ∃ v B, L2.atI vs i = some v ∧ Tr K kk H v d B ∧ (∀ b ∈ B, b ∈ A) ∧ (A.Nodup → B.Nodup) := by
  unfold L2.atI at h ⊢
  obtain ⟨j, h1, h2⟩ := Option.bind_eq_some_iff.mp h
  obtain ⟨v, B, e, tv, sb⟩ := t.atN h2
  exact ⟨v, B, by rw [t.len, h1]; exact e, tv, sb⟩
theorem ef_ix {X : Cx} {a b : Expr} {F F2 : FE} {S2 : List Nat} {pos : Pos} (ha : EF X a F) (hb : EA X b F2 S2) (hs : PlainIx b := by intro _ _; rfl) : EF X (.Subscript a b pos) (bin idxD F F2) := pe_imp (pe_ix ix_seq ha hb hs) fun σ H Q ⟨ε, fp, r, er, hd, k⟩ => by
  obtain ⟨d, e, h1, h2, h3⟩ := bin_some hd
  refine ⟨ε, fp, d, er, h1, fun v H1 A s1 t1 fr => ⟨ε, fp, e, er.same s1, h2, fun u H2 B s2 t2 _ => ?_⟩⟩
  unfold idxD at h3
  split at h3 <;> try (cases h3)
  · cases t2
    obtain ⟨p, xs, B, rfl, r1, t, rfl⟩ := t1.mine
    obtain ⟨w, C, e1, tw, sb, nC⟩ := (t.same s2).atIN h3
    have r2 : SqL X.K H2 p xs := by
      rcases r1 with r1 | ⟨o, r1⟩
      · exact .inl (.inl (s2 _ _ r1))
      · exact .inl (.inr ⟨o, s2 _ _ r1⟩)
    exact .inl ⟨p, xs, _, w, rfl, rfl, r2, e1, k w H2 C (s1.trans s2) tw ⟨nC (List.nodup_cons.mp fr.1).2, fun b m => (fr.fwd s2).2 b (List.mem_cons_of_mem _ (sb b m))⟩⟩
  · cases t2
    cases t1 with
    | tup r t =>
      obtain ⟨w, C, e1, tw, sb, nC⟩ := (t.same s2).atIN h3
      exact .inr (.inl ⟨_, _, _, w, rfl, rfl, Keep.sqT (A := []) (.of_same s2) r, e1, k w H2 C (s1.trans s2) tw ⟨nC fr.1, fun b m => (fr.fwd s2).2 b (sb b m)⟩⟩)
  · split at h3 <;> try (cases h3)
    rename_i hz
    obtain ⟨c, h4, rfl⟩ := Option.map_eq_some_iff.mp h3
    cases t1
    cases t2
    exact .inr (.inr ⟨_, _, c, rfl, rfl, hz, h4, k _ H2 [] (s1.trans s2) (.str _) .nil⟩)
end PV

namespace PV
open PySem PySem.Spec PyProof.Rows L2
/-- the built-in names are still the built-in ones -/
structure Bl (mg : Str → Option Value) : Prop where
  «len» : mg "len" = none
  «range» : mg "range" = none
  «zip» : mg "zip" = none
  «enumerate» : mg "enumerate" = none
  «list» : mg "list" = none
  «tuple» : mg "tuple" = none
  «isinstance» : mg "isinstance" = none
  «int» : mg "int" = none
  «bool» : mg "bool" = none
  «str» : mg "str" = none
  «abs» : mg "abs" = none
  «min» : mg "min" = none
  «max» : mg "max" = none
  «sum» : mg "sum" = none
  «all» : mg "all" = none
  «any» : mg "any" = none
  «sorted» : mg "sorted" = none
  «divmod» : mg "divmod" = none
  «set» : mg "set" = none
end PV

namespace PV
open PySem PySem.Spec PyProof.Rows L2
/-- no dict, and not deeper than n -/
def shp (n : Nat) (d : D) : Prop := d.canLay0 = true ∧ d.depth ≤ n
theorem shp.up {n m : Nat} {d : D} (h : shp n d) (l : n ≤ m) : shp m d := ⟨h.1, Nat.le_trans h.2 l⟩
theorem shp.ok {n : Nat} {d : D} (h : shp n d) (l : n ≤ 64) : SeqAt.shaped d = true := by
  unfold SeqAt.shaped
  rw [h.1, decide_eq_true (Nat.le_trans h.2 l)]
  rfl
@[simp] theorem shp_int {n : Nat} {i : Int} : shp n (.int i) := ⟨by simp [PyData.canLay0], by simp [PyData.depth]⟩
@[simp] theorem shp_bool {n : Nat} {i : Bool} : shp n (.bool i) := ⟨by simp [PyData.canLay0], by simp [PyData.depth]⟩
@[simp] theorem shp_none {n : Nat} : shp n .none := ⟨by simp [PyData.canLay0], by simp [PyData.depth]⟩
theorem shp_str {n : Nat} {x : Str} (h : PyData.strOk x = true) : shp n (.str x) := ⟨by simp [PyData.canLay0, h], by simp [PyData.depth]⟩
theorem shp_all {n : Nat} : ∀ {ds : List D}, (∀ d ∈ ds, shp n d) → PyData.canLayAll0 ds = true ∧ PyData.depthAll ds ≤ n
  | [], _ => ⟨by simp [PyData.canLayAll0], by simp [PyData.depthAll]⟩
  | d :: ds, h => by
    obtain ⟨h1, h2⟩ := shp_all (ds := ds) fun e m => h e (by simp [m])
    obtain ⟨g1, g2⟩ := h d (by simp)
    exact ⟨by simp [PyData.canLayAll0, g1, h1], by simp [PyData.depthAll]; omega⟩
theorem shp_list {n : Nat} {ds : List D} (h : ∀ d ∈ ds, shp n d) : shp (n + 1) (.list ds) := by
  obtain ⟨h1, h2⟩ := shp_all h
  exact ⟨by simp [PyData.canLay0, h1], by simp [PyData.depth]; omega⟩
theorem shp_tuple {n : Nat} {ds : List D} (h : ∀ d ∈ ds, shp n d) : shp (n + 1) (.tuple ds) := by
  obtain ⟨h1, h2⟩ := shp_all h
  exact ⟨by simp [PyData.canLay0, h1], by simp [PyData.depth]; omega⟩
@[simp] theorem eqv_ii {a b : Int} : PyData.eqv (.int a) (.int b) = decide (a = b) := by simp [PyData.eqv]; rfl
@[simp] theorem eqv_nn : PyData.eqv .none .none = true := by simp [PyData.eqv]
@[simp] theorem eqv_ni {b : Int} : PyData.eqv .none (.int b) = false := by simp [PyData.eqv]
@[simp] theorem eqv_in {b : Int} : PyData.eqv (.int b) .none = false := by simp [PyData.eqv]
@[simp] theorem eqv_ln {b : List D} : PyData.eqv (.list b) .none = false := by simp [PyData.eqv]
@[simp] theorem eqv_tn {b : List D} : PyData.eqv (.tuple b) .none = false := by simp [PyData.eqv]
@[simp] theorem eqv_bb {a b : Bool} : PyData.eqv (.bool a) (.bool b) = decide (a = b) := by cases a <;> cases b <;> simp [PyData.eqv]
theorem atI_nat {α : Type} {xs : List α} {i : Nat} : atI xs (i : Int) = xs[i]? := by
  unfold atI ixN
  by_cases h : i < xs.length
  · simp [h]
  · simp [h]
end PV

namespace PV
open PySem PySem.Spec PyProof.Rows L2
def b_common : FS :=
  (seqS (setS 0 (callD absD (consA (varD 0) nilA)))
  (seqS (setS 1 (callD absD (consA (varD 1) nilA)))
  (seqS (whileS (bin gtD (varD 1) (cD (.int 0)))
  (parS 0 1 (consA (flatF (varD 1)) (consA (bin idxD (callD divmodD (consA (varD 0) (consA (varD 1) nilA))) (cD (.int 1))) nilA))) 100000)
  (retS (flatF (varD 0))))))
def s_common : List D → Option D := runF 2 2 b_common
def b_fraction : FS :=
  (seqS (ifS (bin eqD (varD 1) (cD (.int 0)))
  neverS
  nextS)
  (seqS (setS 2 (callD s_common (consA (varD 0) (consA (varD 1) nilA))))
  (seqS (ifS (bin ltD (varD 1) (cD (.int 0)))
  (setS 2 (bin subD (cD (.int 0)) (varD 2)))
  nextS)
  (retS (tupD (consA (bin fdivD (varD 0) (varD 2)) (consA (bin fdivD (varD 1) (varD 2)) nilA)))))))
def s_fraction : List D → Option D := runF 3 2 b_fraction
def b_plus : FS :=
  (retS (callD s_fraction (consA (bin addD (bin mulD (bin idxD (varD 0) (cD (.int 0))) (bin idxD (varD 1) (cD (.int 1)))) (bin mulD (bin idxD (varD 1) (cD (.int 0))) (bin idxD (varD 0) (cD (.int 1))))) (consA (bin mulD (bin idxD (varD 0) (cD (.int 1))) (bin idxD (varD 1) (cD (.int 1)))) nilA))))
def s_plus : List D → Option D := runF 2 2 b_plus
def b_minus : FS :=
  (retS (callD s_fraction (consA (bin subD (bin mulD (bin idxD (varD 0) (cD (.int 0))) (bin idxD (varD 1) (cD (.int 1)))) (bin mulD (bin idxD (varD 1) (cD (.int 0))) (bin idxD (varD 0) (cD (.int 1))))) (consA (bin mulD (bin idxD (varD 0) (cD (.int 1))) (bin idxD (varD 1) (cD (.int 1)))) nilA))))
def s_minus : List D → Option D := runF 2 2 b_minus
def b_times : FS :=
  (retS (callD s_fraction (consA (bin mulD (bin idxD (varD 0) (cD (.int 0))) (bin idxD (varD 1) (cD (.int 0)))) (consA (bin mulD (bin idxD (varD 0) (cD (.int 1))) (bin idxD (varD 1) (cD (.int 1)))) nilA))))
def s_times : List D → Option D := runF 2 2 b_times
def b_over : FS :=
  (retS (callD s_fraction (consA (bin mulD (bin idxD (varD 0) (cD (.int 0))) (bin idxD (varD 1) (cD (.int 1)))) (consA (bin mulD (bin idxD (varD 0) (cD (.int 1))) (bin idxD (varD 1) (cD (.int 0)))) nilA))))
def s_over : List D → Option D := runF 2 2 b_over
def b_under : FS :=
  (retS (boolD (bin ltD (bin mulD (bin idxD (varD 0) (cD (.int 0))) (bin idxD (varD 1) (cD (.int 1)))) (bin mulD (bin idxD (varD 1) (cD (.int 0))) (bin idxD (varD 0) (cD (.int 1)))))))
def s_under : List D → Option D := runF 2 2 b_under
def b_least_of : FS :=
  (seqS (setA 1 (bin idxD (varD 0) (cD (.int 0))) [0])
  (seqS (forS [] (itemsD (sliceF (varD 0) (someO (cD (.int 1))) noneO)) (nameT 2)
  (ifS (un asB (callD s_under (consA (varD 2) (consA (varD 1) nilA))))
  (setA 1 (varD 2) [2])
  nextS))
  (retS (ownD 1))))
def s_least_of : List D → Option D := runF 3 1 b_least_of
def b_full_order : FS :=
  (seqS (setS 2 (callD lenD (consA (bin idxD (varD 0) (cD (.int 0))) nilA)))
  (seqS (setA 3 (bin idxD (bin idxD (varD 0) (cD (.int 1))) (varD 1)) [0])
  (retS (bin addD (bin addD (varD 3) (listD (consA (varD 2) nilA))) (compD (rangeD (consA (varD 2) nilA)) (nameT 4) (bin notInD (varD 4) (varD 3)) (flatF (varD 4)) [4])))))
def s_full_order : List D → Option D := runF 5 2 b_full_order
def b_eaten_now : FS :=
  (seqS (setS 2 (listD nilA))
  (seqS (forS [0] (itemsD (varD 0)) (nameT 3)
  (forS [3] (itemsD (varD 3)) (nameT 4)
  (ifS (orT (bin eqD (varD 4) (callD lenD (consA (varD 1) nilA))) (bin neD (bin idxD (varD 1) (varD 4)) (cD (.tuple [.int 0, .int 1]))))
  (seqS (putS 2 appD (flatF (varD 4)))
  breakS)
  nextS)))
  (retS (ownD 2))))
def s_eaten_now : List D → Option D := runF 5 2 b_eaten_now
def b_step_length : FS :=
  (seqS (setS 3 (listD (consA (flatF (varD 2)) nilA)))
  (seqS (forS [1] (enumD (consA (varD 1) nilA)) (tupT [(nameT 4), (nameT 5)])
  (seqS (setS 6 (bin (fun d d2 => countD [d, d2]) (varD 0) (varD 4)))
  (ifS (bin gtD (varD 6) (cD (.int 0)))
  (putS 3 appD (callD s_over (consA (varD 5) (consA (callD (fun ds => s_fraction (ds ++ [.int 1])) (consA (varD 6) nilA)) nilA))))
  nextS)))
  (retS (callD s_least_of (consA (varD 3) nilA)))))
def s_step_length : List D → Option D := runF 7 3 b_step_length
def b_meal : FS :=
  (seqS (setA 1 (bin idxD (varD 0) (cD (.int 0))) [0])
  (seqS (setS 2 (compD (rangeD (consA (callD lenD (consA (bin idxD (varD 0) (cD (.int 1))) nilA)) nilA)) (nameT 14) yesT (callD s_full_order (consA (varD 0) (consA (varD 14) nilA))) [14]))
  (seqS (setS 3 (compD (itemsD (varD 1)) (nameT 15) yesT (callD (fun ds => s_fraction (ds ++ [.int 1])) (consA (varD 15) nilA)) [15]))
  (seqS (setS 4 (compD (itemsD (varD 2)) (nameT 16) yesT (bin repD (listD (consA (cD (.tuple [.int 0, .int 1])) nilA)) (bin addD (callD lenD (consA (varD 1) nilA)) (cD (.int 1)))) [16]))
  (seqS (setS 5 (callD (fun ds => s_fraction (ds ++ [.int 1])) (consA (cD (.int 1)) nilA)))
  (seqS (setS 6 (listD nilA))
  (seqS (whileS (bin neD (varD 5) (cD (.tuple [.int 0, .int 1])))
  (seqS (setS 7 (callD s_eaten_now (consA (varD 2) (consA (varD 3) nilA))))
  (seqS (setS 8 (callD s_step_length (consA (varD 7) (consA (varD 3) (consA (varD 5) nilA)))))
  (seqS (forS [4, 7] (zipD (consA (varD 4) (consA (varD 7) nilA))) (tupT [(nameT 9), (nameT 10)])
  (setItS 9 (varD 10) (callD s_plus (consA (bin idxD (varD 9) (varD 10)) (consA (varD 8) nilA)))))
  (seqS (setS 11 (listD nilA))
  (seqS (forS [] (rangeD (consA (callD lenD (consA (varD 1) nilA)) nilA)) (nameT 12)
  (seqS (setS 13 (bin (fun d d2 => countD [d, d2]) (varD 7) (varD 12)))
  (seqS (setItS 3 (varD 12) (callD s_minus (consA (bin idxD (varD 3) (varD 12)) (consA (callD s_times (consA (varD 8) (consA (callD (fun ds => s_fraction (ds ++ [.int 1])) (consA (varD 13) nilA)) nilA))) nilA))))
  (ifS (andT (bin gtD (varD 13) (cD (.int 0))) (notT (un asB (callD s_under (consA (cD (.tuple [.int 0, .int 1])) (consA (bin idxD (varD 3) (varD 12)) nilA))))))
  (putS 11 appD (flatF (varD 12)))
  nextS))))
  (seqS (putS 6 appD (tupD (consA (flatF (varD 8)) (consA (flatF (varD 7)) (consA (flatF (varD 11)) nilA)))))
  (setS 5 (callD s_minus (consA (varD 5) (consA (varD 8) nilA)))))))))) 100000)
  (retS (tupD (consA (flatF (varD 6)) (consA (flatF (varD 4)) nilA)))))))))))
def s_meal : List D → Option D := runF 17 1 b_meal
def b_has_room : FS :=
  (retS (boolD (orT (bin eqD (varD 2) (callD lenD (consA (varD 0) nilA))) (bin ltD (bin (fun d d2 => countD [d, d2]) (varD 1) (varD 2)) (bin idxD (varD 0) (varD 2))))))
def s_has_room : List D → Option D := runF 3 3 b_has_room
def b_sum_of : FS :=
  (seqS (setS 1 (tupD (consA (cD (.int 0)) (consA (cD (.int 1)) nilA))))
  (seqS (forS [0] (itemsD (varD 0)) (nameT 2)
  (setS 1 (callD s_plus (consA (varD 1) (consA (varD 2) nilA)))))
  (retS (ownD 1))))
def s_sum_of : List D → Option D := runF 3 1 b_sum_of
def b_is_row : FS :=
  (seqS (ifS (bin neD (callD lenD (consA (varD 0) nilA)) (bin addD (varD 1) (cD (.int 1))))
  (retS (cD (.bool false)))
  nextS)
  (seqS (forS [0] (itemsD (varD 0)) (nameT 2)
  (ifS (un asB (callD s_under (consA (varD 2) (consA (tupD (consA (cD (.int 0)) (consA (cD (.int 1)) nilA))) nilA))))
  (retS (cD (.bool false)))
  nextS))
  (retS (boolD (bin eqD (callD s_sum_of (consA (varD 0) nilA)) (tupD (consA (cD (.int 1)) (consA (cD (.int 1)) nilA))))))))
def s_is_row : List D → Option D := runF 3 2 b_is_row
def b_are_shares : FS :=
  (seqS (forS [1] (itemsD (varD 1)) (nameT 2)
  (ifS (notT (un asB (callD s_is_row (consA (varD 2) (consA (callD lenD (consA (varD 0) nilA)) nilA)))))
  (retS (cD (.bool false)))
  nextS))
  (seqS (forS [0] (enumD (consA (varD 0) nilA)) (tupT [(nameT 3), (nameT 4)])
  (ifS (un asB (callD s_under (consA (tupD (consA (varD 4) (consA (cD (.int 1)) nilA))) (consA (callD s_sum_of (consA (compD (itemsD (varD 1)) (nameT 2) yesT (flatF (bin idxD (varD 2) (varD 3))) [2]) nilA)) nilA))))
  (retS (cD (.bool false)))
  nextS))
  (retS (cD (.bool true)))))
def s_are_shares : List D → Option D := runF 5 2 b_are_shares
def b_slack : FS :=
  (retS (callD s_minus (consA (callD s_times (consA (callD (fun ds => s_fraction (ds ++ [.int 1])) (consA (bin idxD (varD 0) (varD 3)) nilA)) (consA (varD 2) nilA))) (consA (callD s_sum_of (consA (compD (itemsD (varD 1)) (nameT 4) yesT (flatF (bin idxD (varD 4) (varD 3))) [4]) nilA)) nilA))))
def s_slack : List D → Option D := runF 5 4 b_slack
def b_weight_for : FS :=
  (seqS (setA 4 (varD 2) [2])
  (seqS (forS [1, 3] (zipD (consA (varD 1) (consA (varD 3) nilA))) (tupT [(nameT 5), (nameT 6)])
  (ifS (un asB (callD s_under (consA (bin idxD (varD 5) (varD 6)) (consA (varD 4) nilA))))
  (setA 4 (bin idxD (varD 5) (varD 6)) [5])
  nextS))
  (seqS (forS [] (rangeD (consA (callD lenD (consA (varD 0) nilA)) nilA)) (nameT 6)
  (seqS (setS 7 (bin subD (bin idxD (varD 0) (varD 6)) (bin (fun d d2 => countD [d, d2]) (varD 3) (varD 6))))
  (ifS (bin gtD (varD 7) (cD (.int 0)))
  (seqS (setS 8 (callD s_over (consA (callD s_slack (consA (varD 0) (consA (varD 1) (consA (varD 2) (consA (varD 6) nilA))))) (consA (callD (fun ds => s_fraction (ds ++ [.int 1])) (consA (varD 7) nilA)) nilA))))
  (ifS (un asB (callD s_under (consA (varD 8) (consA (varD 4) nilA))))
  (setA 4 (varD 8) [8])
  nextS))
  nextS)))
  (retS (ownD 4)))))
def s_weight_for : List D → Option D := runF 9 4 b_weight_for
def b_shares_of : FS :=
  (seqS (setS 2 (compD (itemsD (bin idxD (bin idxD (varD 1) (cD (.int 0))) (cD (.int 1)))) (nameT 6) yesT (bin repD (listD (consA (cD (.tuple [.int 0, .int 1])) nilA)) (bin addD (callD lenD (consA (varD 0) nilA)) (cD (.int 1)))) [6]))
  (seqS (forS [1] (itemsD (varD 1)) (tupT [(nameT 3), (nameT 4)])
  (forS [2, 4] (zipD (consA (varD 2) (consA (varD 4) nilA))) (tupT [(nameT 5), (nameT 6)])
  (setItS 5 (varD 6) (callD s_plus (consA (bin idxD (varD 5) (varD 6)) (consA (varD 3) nilA))))))
  (retS (ownD 2))))
def s_shares_of : List D → Option D := runF 7 2 b_shares_of
def b_first_left : FS :=
  (seqS (forS [0] (itemsD (varD 0)) (nameT 2)
  (ifS (orT (bin eqD (varD 2) (callD lenD (consA (varD 1) nilA))) (bin gtD (bin idxD (varD 1) (varD 2)) (cD (.int 0))))
  (retS (ownD 2))
  nextS))
  (retS (callD lenD (consA (varD 1) nilA))))
def s_first_left : List D → Option D := runF 3 2 b_first_left
def b_deal_by : FS :=
  (seqS (unpS (tupT [(nameT 2), (nameT 3)]) (varD 0) [0])
  (seqS (ifS (bin neD (callD sortedD (consA (varD 1) nilA)) (lrangeD (consA (callD lenD (consA (varD 3) nilA)) nilA)))
  neverS
  nextS)
  (seqS (setS 4 (callD listOfD (consA (varD 2) nilA)))
  (seqS (setS 5 (compD (itemsD (varD 3)) (nameT 8) yesT (callD lenD (consA (varD 2) nilA)) [8]))
  (seqS (forS [1] (itemsD (varD 1)) (nameT 6)
  (seqS (setS 7 (callD s_first_left (consA (callD s_full_order (consA (varD 0) (consA (varD 6) nilA))) (consA (varD 4) nilA))))
  (seqS (setItS 5 (varD 6) (flatF (varD 7)))
  (ifS (bin ltD (varD 7) (callD lenD (consA (varD 4) nilA)))
  (augItS 4 (fun i j => i - j) (varD 7) (cD (.int 1)))
  nextS))))
  (retS (ownD 5)))))))
def s_deal_by : List D → Option D := runF 9 2 b_deal_by
def b_longer_rows : FS :=
  (seqS (setS 2 (listD nilA))
  (seqS (forS [0] (itemsD (varD 0)) (nameT 3)
  (forS [] (rangeD (consA (varD 1) nilA)) (nameT 4)
  (ifS (bin notInD (varD 4) (varD 3))
  (putS 2 appD (bin addD (varD 3) (listD (consA (varD 4) nilA))))
  nextS)))
  (retS (ownD 2))))
def s_longer_rows : List D → Option D := runF 5 2 b_longer_rows
def b_all_turns : FS :=
  (seqS (ifS (bin gtD (varD 0) (cD (.int 5)))
  neverS
  nextS)
  (seqS (setS 1 (listD (consA (listD nilA) nilA)))
  (seqS (forS [] (rangeD (consA (varD 0) nilA)) (nameT 2)
  (setS 1 (callD s_longer_rows (consA (varD 1) (consA (varD 0) nilA)))))
  (retS (ownD 1)))))
def s_all_turns : List D → Option D := runF 3 1 b_all_turns
def b_all_orders : FS :=
  (seqS (ifS (bin gtD (varD 0) (cD (.int 4)))
  neverS
  nextS)
  (seqS (setS 1 (listD (consA (listD nilA) nilA)))
  (seqS (setS 2 (listD (consA (listD nilA) nilA)))
  (seqS (forS [] (rangeD (consA (varD 0) nilA)) (nameT 3)
  (seqS (setS 1 (callD s_longer_rows (consA (varD 1) (consA (varD 0) nilA))))
  (putS 2 extD (flatF (varD 1)))))
  (retS (ownD 2))))))
def s_all_orders : List D → Option D := runF 4 1 b_all_orders
def b_sums : FS :=
  (seqS (setS 3 (listD nilA))
  (seqS (setS 4 (tupD (consA (cD (.int 0)) (consA (cD (.int 1)) nilA))))
  (seqS (forS [] (itemsD (callD s_full_order (consA (varD 0) (consA (varD 1) nilA)))) (nameT 5)
  (seqS (setS 4 (callD s_plus (consA (varD 4) (consA (bin idxD (varD 2) (varD 5)) nilA))))
  (putS 3 appD (flatF (varD 4)))))
  (retS (ownD 3)))))
def s_sums : List D → Option D := runF 6 3 b_sums
def b_as_good : FS :=
  (seqS (forS [] (zipD (consA (callD s_sums (consA (varD 0) (consA (varD 1) (consA (varD 2) nilA)))) (consA (callD s_sums (consA (varD 0) (consA (varD 1) (consA (varD 3) nilA)))) nilA))) (tupT [(nameT 4), (nameT 5)])
  (ifS (un asB (callD s_under (consA (varD 4) (consA (varD 5) nilA))))
  (retS (cD (.bool false)))
  nextS))
  (retS (cD (.bool true))))
def s_as_good : List D → Option D := runF 6 4 b_as_good
def b_word_for : FS :=
  (seqS (ifS (bin eqD (varD 3) (varD 2))
  (retS (cD (.str "same")))
  nextS)
  (seqS (ifS (un asB (callD s_as_good (consA (varD 0) (consA (varD 1) (consA (varD 2) (consA (varD 3) nilA))))))
  (retS (cD (.str "worse")))
  nextS)
  (seqS (ifS (un asB (callD s_as_good (consA (varD 0) (consA (varD 1) (consA (varD 3) (consA (varD 2) nilA))))))
  (retS (cD (.str "better")))
  nextS)
  (retS (cD (.str "other"))))))
def s_word_for : List D → Option D := runF 4 4 b_word_for
def b_is_word : FS :=
  (retS (boolD (andT (chain leD leD (cD (.int 1)) (callD lenD (consA (varD 0) nilA)) (cD (.int 8))) (un asB (callD allD (consA (compD (itemsD (varD 0)) (nameT 1) yesT (boolD (bin inD (varD 1) (cD (.str "abcdefghijklmnopqrstuvwxyz")))) [1]) nilA))))))
def s_is_word : List D → Option D := runF 2 1 b_is_word
def b_is_count : FS :=
  (seqS (ifS (orT (notT (chain leD leD (cD (.int 1)) (callD lenD (consA (varD 0) nilA)) (cD (.int 9)))) (notT (un asB (callD allD (consA (compD (itemsD (varD 0)) (nameT 1) yesT (boolD (bin inD (varD 1) (cD (.str "0123456789")))) [1]) nilA)))))
  (retS (cD (.bool false)))
  nextS)
  (retS (boolD (orT (bin neD (bin idxD (varD 0) (cD (.int 0))) (cD (.str "0"))) (bin eqD (varD 0) (cD (.str "0")))))))
def s_is_count : List D → Option D := runF 2 1 b_is_count
def b_common_bottom : FS :=
  (seqS (setS 1 (cD (.int 1)))
  (seqS (forS [0] (itemsD (varD 0)) (tupT [(nameT 2), (nameT 3)])
  (setS 1 (bin mulD (bin fdivD (varD 1) (callD s_common (consA (varD 1) (consA (varD 3) nilA)))) (varD 3))))
  (retS (ownD 1))))
def s_common_bottom : List D → Option D := runF 4 1 b_common_bottom
def b_first_more : FS :=
  (seqS (setS 2 (cD (.int 0)))
  (seqS (forS [0, 1] (zipD (consA (varD 0) (consA (varD 1) nilA))) (tupT [(nameT 3), (nameT 4)])
  (seqS (augS 2 (fun i j => i + j) (cD (.int 1)))
  (ifS (un asB (callD s_under (consA (varD 3) (consA (varD 4) nilA))))
  (retS (ownD 2))
  nextS)))
  (retS (cD (.int 0)))))
def s_first_more : List D → Option D := runF 5 2 b_first_more
def b_envy : FS :=
  (seqS (setS 2 (listD nilA))
  (seqS (forS [1] (enumD (consA (varD 1) nilA)) (tupT [(nameT 3), (nameT 4)])
  (seqS (setS 5 (callD s_sums (consA (varD 0) (consA (varD 3) (consA (varD 4) nilA)))))
  (forS [1] (enumD (consA (varD 1) nilA)) (tupT [(nameT 6), (nameT 7)])
  (seqS (setS 8 (callD s_first_more (consA (varD 5) (consA (callD s_sums (consA (varD 0) (consA (varD 3) (consA (varD 7) nilA)))) nilA))))
  (ifS (bin gtD (varD 8) (cD (.int 0)))
  (putS 2 appD (tupD (consA (flatF (varD 3)) (consA (flatF (varD 6)) (consA (flatF (varD 8)) nilA)))))
  nextS)))))
  (retS (ownD 2))))
def s_envy : List D → Option D := runF 9 2 b_envy
def b_figures_in : FS :=
  (seqS (ifS (orT (notT (chain leD leD (cD (.int 1)) (callD lenD (consA (varD 0) nilA)) (cD (.int 60)))) (notT (un asB (callD allD (consA (compD (itemsD (varD 0)) (nameT 1) yesT (boolD (bin inD (varD 1) (cD (.str "0123456789")))) [1]) nilA)))))
  neverS
  nextS)
  (seqS (ifS (andT (bin eqD (bin idxD (varD 0) (cD (.int 0))) (cD (.str "0"))) (bin gtD (callD lenD (consA (varD 0) nilA)) (cD (.int 1))))
  neverS
  nextS)
  (retS (callD intD (consA (varD 0) nilA)))))
def s_figures_in : List D → Option D := runF 2 1 b_figures_in
def b_wishes_in : FS :=
  (seqS (setS 2 (listD nilA))
  (seqS (forS [1] (enumD (consA (varD 1) nilA)) (tupT [(nameT 3), (nameT 4)])
  (seqS (setS 5 (listD nilA))
  (forS [] (itemsD (callD s_full_order (consA (varD 0) (consA (varD 3) nilA)))) (nameT 6)
  (seqS (ifS (un asB (callD s_under (consA (tupD (consA (cD (.int 0)) (consA (cD (.int 1)) nilA))) (consA (bin idxD (varD 4) (varD 6)) nilA))))
  (putS 2 extD (compD (itemsD (varD 5)) (nameT 7) yesT (tupD (consA (flatF (varD 3)) (consA (flatF (varD 7)) (consA (flatF (varD 6)) nilA)))) [7]))
  nextS)
  (putS 5 appD (flatF (varD 6)))))))
  (retS (callD sortedD (consA (varD 2) nilA)))))
def s_wishes_in : List D → Option D := runF 8 2 b_wishes_in
def b_is_full : FS :=
  (seqS (ifS (bin eqD (varD 2) (callD lenD (consA (bin idxD (varD 0) (cD (.int 0))) nilA)))
  (retS (cD (.bool false)))
  nextS)
  (retS (boolD (bin eqD (callD s_sum_of (consA (compD (itemsD (varD 1)) (nameT 3) yesT (flatF (bin idxD (varD 3) (varD 2))) [3]) nilA)) (tupD (consA (bin idxD (bin idxD (varD 0) (cD (.int 0))) (varD 2)) (consA (cD (.int 1)) nilA)))))))
def s_is_full : List D → Option D := runF 4 3 b_is_full
def b_first_free : FS :=
  (seqS (forS [0] (itemsD (varD 0)) (nameT 2)
  (ifS (notT (un asB (callD anyD (consA (compD (itemsD (varD 1)) (tupT [(nameT 3), (nameT 4)]) (bin eqD (varD 4) (varD 2)) (boolD (bin inD (varD 3) (varD 0))) [3, 4]) nilA))))
  (retS (ownD 2))
  nextS))
  (retS (cD .none)))
def s_first_free : List D → Option D := runF 5 2 b_first_free
def b_ring_rows : FS :=
  (seqS (setS 2 (listD nilA))
  (seqS (forS [0] (enumD (consA (varD 0) nilA)) (tupT [(nameT 3), (nameT 4)])
  (seqS (setA 5 (bin idxD (varD 0) (bin modD (bin addD (varD 3) (cD (.int 1))) (callD lenD (consA (varD 0) nilA)))) [0])
  (putS 2 appD (flatF (bin idxD (compD (itemsD (varD 1)) (nameT 6) (andT (bin eqD (bin idxD (varD 6) (cD (.int 1))) (varD 4)) (bin eqD (bin idxD (varD 6) (cD (.int 2))) (varD 5))) (flatF (varD 6)) [6]) (cD (.int 0)))))))
  (retS (ownD 2))))
def s_ring_rows : List D → Option D := runF 7 2 b_ring_rows
def b_tickets : FS :=
  (retS (callD s_common_bottom (consA (compD (itemsD (varD 0)) (tupT [(nameT 1), (nameT 2)]) yesT (flatF (varD 1)) [1, 2]) nilA)))
def s_tickets : List D → Option D := runF 3 1 b_tickets
def b_deal_at : FS :=
  (seqS (setS 2 (callD s_tickets (consA (varD 0) nilA)))
  (seqS (ifS (orT (bin ltD (varD 1) (cD (.int 0))) (bin geD (varD 1) (varD 2)))
  neverS
  nextS)
  (seqS (forS [0] (itemsD (varD 0)) (tupT [(nameT 3), (nameT 4)])
  (seqS (setS 5 (bin mulD (bin idxD (varD 3) (cD (.int 0))) (bin fdivD (varD 2) (bin idxD (varD 3) (cD (.int 1))))))
  (seqS (ifS (bin ltD (varD 1) (varD 5))
  (retS (callD listOfD (consA (varD 4) nilA)))
  nextS)
  (setS 1 (bin subD (varD 1) (varD 5))))))
  (retS (callD listOfD (consA (bin idxD (bin idxD (varD 0) (un negD (cD (.int 1)))) (cD (.int 1))) nilA))))))
def s_deal_at : List D → Option D := runF 6 2 b_deal_at
def b_ends : FS :=
  (seqS (setS 1 (compD (itemsD (bin idxD (varD 0) (cD (.int 0)))) (nameT 3) yesT (cD .none) [3]))
  (seqS (forS [0] (enumD (consA (bin idxD (varD 0) (cD (.int 0))) nilA)) (tupT [(nameT 2), (nameT 3)])
  (ifS (bin eqD (varD 3) (cD (.int 0)))
  (setItS 1 (varD 2) (callD (fun ds => s_fraction (ds ++ [.int 1])) (consA (cD (.int 0)) nilA)))
  nextS))
  (seqS (setS 4 (callD (fun ds => s_fraction (ds ++ [.int 1])) (consA (cD (.int 0)) nilA)))
  (seqS (forS [] (itemsD (bin idxD (callD s_meal (consA (varD 0) nilA)) (cD (.int 0)))) (tupT [(nameT 5), (nameT 6), (nameT 7)])
  (seqS (setS 4 (callD s_plus (consA (varD 4) (consA (varD 5) nilA))))
  (forS [7] (itemsD (varD 7)) (nameT 2)
  (setItS 1 (varD 2) (flatF (varD 4))))))
  (retS (ownD 1))))))
def s_ends : List D → Option D := runF 8 1 b_ends
end PV

namespace Deals
abbrev Pt := List (Option Nat)
section
variable (cs : List Nat) (may : List (List Nat))
def room (deal : Pt) (t : Nat) : Bool := decide (t = cs.length) || decide (deal.count (some t) < cs.getD t 0)
def holders (rec : Nat → List Nat → Option Pt × List Nat) (deal : Pt) (t : Nat) : List Nat → List Nat → Option Pt × List Nat
  | [], seen => (none, seen)
  | h :: hs, seen => if deal.getD h none = some t then (match rec h seen with
      | (some d, s) => (some d, s)
      | (none, s) => holders rec deal t hs s) else holders rec deal t hs seen
def things (hold : Nat → List Nat → Option Pt × List Nat) (deal : Pt) (a : Nat) : List Nat → List Nat → Option Pt × List Nat
  | [], seen => (none, seen)
  | t :: ts, seen => if t ∈ seen then things hold deal a ts seen else if room cs deal t = true then (some (deal.set a (some t)), seen ++ [t]) else (match hold t (seen ++ [t]) with
      | (some d, s) => (some (d.set a (some t)), s)
      | (none, s) => things hold deal a ts s)
def seat : Nat → Pt → Nat → List Nat → Option Pt × List Nat
  | 0, _, _, seen => (none, seen)
  | n + 1, deal, a, seen => things cs (fun t s => holders (fun h s' => seat n deal h s') deal t (List.range deal.length) s) deal a (may.getD a []) seen

/-- how many numbers are not yet seen -/
def rank (seen : List Nat) : Nat := ((List.range (cs.length + 1)).filter fun t => decide (t ∉ seen)).length
theorem rank_le {seen s : List Nat} (h : ∀ x ∈ seen, x ∈ s) : rank cs s ≤ rank cs seen := by
  unfold rank
  have : ∀ l : List Nat, (l.filter fun t => decide (t ∉ s)).length ≤ (l.filter fun t => decide (t ∉ seen)).length := fun l => by
    induction l with
    | nil => simp
    | cons x l ih =>
      rw [List.filter_cons, List.filter_cons]
      by_cases h1 : x ∈ s
      · by_cases h2 : x ∈ seen
        · simpa [h1, h2] using ih
        · simp [h1, h2] at ih ⊢
          omega
      · have h2 : x ∉ seen := fun z => h1 (h x z)
        simp [h1, h2] at ih ⊢
        omega
  exact this _
theorem rank_lt {seen : List Nat} {t : Nat} (ht : t ≤ cs.length) (hn : t ∉ seen) : rank cs (seen ++ [t]) < rank cs seen := by
  unfold rank
  have : ∀ l : List Nat, t ∈ l → (l.filter fun x => decide (x ∉ seen ++ [t])).length < (l.filter fun x => decide (x ∉ seen)).length := fun l hl => by
    induction l with
    | nil => simp at hl
    | cons x l ih =>
      have le : (l.filter fun x => decide (x ∉ seen ++ [t])).length ≤ (l.filter fun x => decide (x ∉ seen)).length := by
        clear ih hl
        induction l with
        | nil => simp
        | cons y l ih2 =>
          rw [List.filter_cons, List.filter_cons]
          by_cases h2 : y ∈ seen
          · simpa [h2] using ih2
          · by_cases h3 : y = t
            · simp [h2, h3] at ih2 ⊢
              simp [hn] 
              omega
            · simp [h2, h3] at ih2 ⊢
              omega
      rw [List.filter_cons, List.filter_cons]
      by_cases h3 : x = t
      · subst h3
        simp [hn] at le ⊢
        omega
      · have ih := ih ((List.mem_cons.mp hl).resolve_left fun e => h3 e.symm)
        by_cases h2 : x ∈ seen
        · simpa [h2] using ih
        · simp [h2, h3] at ih ⊢
          omega
  exact this _ (List.mem_range.mpr (by omega))
theorem count_set {α : Type} [BEq α] [LawfulBEq α] [DecidableEq α] {l : List α} {a : Nat} {v d x : α} (h : a < l.length) : (l.set a v).count x + (if l.getD a d = x then 1 else 0) = l.count x + (if v = x then 1 else 0) := by
  induction l generalizing a with
  | nil => simp at h
  | cons y l ih =>
    cases a with
    | zero =>
      simp only [List.set_cons_zero, List.count_cons, List.getD_cons_zero, beq_iff_eq]
      omega
    | succ a =>
      have := ih (a := a) (by simpa using h)
      simp only [List.set_cons_succ, List.count_cons, List.getD_cons_succ]
      omega
theorem getD_set_self {α : Type} {l : List α} {a : Nat} {v d : α} (h : a < l.length) : (l.set a v).getD a d = v := by
  rw [List.getD_eq_getElem?_getD, List.getElem?_set_self h]
  rfl
theorem getD_set_ne {α : Type} {l : List α} {a j : Nat} {v d : α} (h : j ≠ a) : (l.set a v).getD j d = l.getD j d := by
  rw [List.getD_eq_getElem?_getD, List.getD_eq_getElem?_getD, List.getElem?_set_ne (Ne.symm h)]

/-- what a seat found tells -/
structure Succ (deal : Pt) (a : Nat) (seen : List Nat) (d' : Pt) : Prop where
  len : d'.length = deal.length
  got : ∃ t, d'.getD a none = some t ∧ t ∈ may.getD a []
  cnt : ∃ tk, room cs deal tk = true ∧ (∃ j, tk ∈ may.getD j []) ∧ ∀ x, d'.count (some x) + (if deal.getD a none = some x then 1 else 0) = deal.count (some x) + (if tk = x then 1 else 0)
  nones : ∀ j, j ≠ a → deal.getD j none = none → d'.getD j none = none
  old : ∀ j, j ≠ a → ∀ x ∈ seen, deal.getD j none = some x → d'.getD j none = some x
  some_ : ∀ j, j ≠ a → ∀ x, deal.getD j none = some x → ∃ y, d'.getD j none = some y ∧ (y = x ∨ y ∈ may.getD j [])
def Pre (deal : Pt) (a : Nat) (seen : List Nat) : Prop := a < deal.length ∧ (deal.getD a none = none ∨ ∃ x ∈ seen, deal.getD a none = some x)
variable {cs may}
theorem Pre.mono {deal : Pt} {a : Nat} {seen s : List Nat} (p : Pre deal a seen) (h : ∀ x ∈ seen, x ∈ s) : Pre deal a s := ⟨p.1, p.2.imp id fun ⟨x, m, e⟩ => ⟨x, h x m, e⟩⟩
theorem holders_some {rec : Nat → List Nat → Option Pt × List Nat} {deal : Pt} {t : Nat} {d : Pt} {s' : List Nat} (hs : ∀ h s, s.length ≤ s.length → ∀ x, (x ∈ s → x ∈ (rec h s).2)) :
    ∀ {l seen}, holders rec deal t l seen = (some d, s') → ∃ h s, h ∈ l ∧ deal.getD h none = some t ∧ (∀ x ∈ seen, x ∈ s) ∧ rec h s = (some d, s')
  | [], seen, e => by simp [holders] at e
  | h :: l, seen, e => by
    unfold holders at e
    split at e
    · rename_i hh
      split at e
      · rename_i d1 s1 q
        cases e
        exact ⟨h, seen, by simp, hh, fun x m => m, q⟩
      · rename_i s1 q
        obtain ⟨h2, s2, m, e1, e2, e3⟩ := holders_some hs e
        refine ⟨h2, s2, by simp [m], e1, fun x mx => e2 x ?_, e3⟩
        have := hs h seen (Nat.le_refl _) x mx
        rw [q] at this
        exact this
    · obtain ⟨h2, s2, m, e1, e2, e3⟩ := holders_some hs e
      exact ⟨h2, s2, by simp [m], e1, e2, e3⟩
theorem holders_grow {rec : Nat → List Nat → Option Pt × List Nat} {deal : Pt} {t : Nat} (hs : ∀ h s, ∀ x ∈ s, x ∈ (rec h s).2) : ∀ (l seen : List Nat), ∀ x ∈ seen, x ∈ (holders rec deal t l seen).2
  | [], seen, x, m => m
  | h :: l, seen, x, m => by
    unfold holders
    split
    · have := hs h seen x m
      split
      · rename_i q
        rw [q] at this
        exact this
      · rename_i q
        rw [q] at this
        exact holders_grow hs l _ x this
    · exact holders_grow hs l _ x m
theorem things_grow {hold : Nat → List Nat → Option Pt × List Nat} {deal : Pt} {a : Nat} (hs : ∀ t s, ∀ x ∈ s, x ∈ (hold t s).2) : ∀ (l seen : List Nat), ∀ x ∈ seen, x ∈ (things cs hold deal a l seen).2
  | [], seen, x, m => m
  | t :: l, seen, x, m => by
    unfold things
    split
    · exact things_grow hs l _ x m
    · split
      · simp [m]
      · have := hs t (seen ++ [t]) x (by simp [m])
        split
        · rename_i q
          rw [q] at this
          exact this
        · rename_i q
          rw [q] at this
          exact things_grow hs l _ x this
theorem seat_grow : ∀ (n : Nat) (deal : Pt) (a : Nat) (seen : List Nat), ∀ x ∈ seen, x ∈ (seat cs may n deal a seen).2
  | 0, _, _, _, x, m => m
  | n + 1, deal, a, seen, x, m => things_grow (fun t s => holders_grow (fun h s' => seat_grow n deal h s') _ s) _ seen x m
theorem things_some {hold : Nat → List Nat → Option Pt × List Nat} {deal : Pt} {a : Nat} {d : Pt} {s' : List Nat} (hs : ∀ t s, ∀ x ∈ s, x ∈ (hold t s).2) :
    ∀ {l seen}, things cs hold deal a l seen = (some d, s') → ∃ t s, t ∈ l ∧ t ∉ s ∧ (∀ x ∈ seen, x ∈ s) ∧ ((room cs deal t = true ∧ d = deal.set a (some t)) ∨ ∃ d1, hold t (s ++ [t]) = (some d1, s') ∧ d = d1.set a (some t))
  | [], seen, e => by simp [things] at e
  | t :: l, seen, e => by
    unfold things at e
    split at e
    · obtain ⟨t2, s2, m, n, g, r⟩ := things_some hs e
      exact ⟨t2, s2, by simp [m], n, g, r⟩
    · rename_i hn
      split at e
      · rename_i hr
        cases e
        exact ⟨t, seen, by simp, hn, fun x m => m, .inl ⟨hr, rfl⟩⟩
      · split at e
        · rename_i d1 s1 q
          cases e
          exact ⟨t, seen, by simp, hn, fun x m => m, .inr ⟨d1, q, rfl⟩⟩
        · rename_i s1 q
          obtain ⟨t2, s2, m, n, g, r⟩ := things_some hs e
          refine ⟨t2, s2, by simp [m], n, fun x mx => g x ?_, r⟩
          have := hs t (seen ++ [t]) x (by simp [mx])
          rw [q] at this
          exact this
theorem seat_succ : ∀ (n : Nat) (deal : Pt) (a : Nat) (seen : List Nat) (d : Pt) (s' : List Nat), Pre deal a seen → seat cs may n deal a seen = (some d, s') → Succ cs may deal a seen d
  | 0, _, _, _, _, _, _, e => by simp [seat] at e
  | n + 1, deal, a, seen, d, s', p, e => by
    unfold seat at e
    obtain ⟨t, s, mt, nt, gs, r⟩ := things_some (fun t s => holders_grow (fun h s' => seat_grow n deal h s') _ s) e
    rcases r with ⟨hr, rfl⟩ | ⟨d1, e1, rfl⟩
    · refine ⟨by simp, ⟨t, getD_set_self p.1, mt⟩, ⟨t, hr, ⟨a, mt⟩, fun x => ?_⟩, fun j hj h => ?_, fun j hj x hx h => ?_, fun j hj x h => ?_⟩
      · have := count_set (l := deal) (v := some t) (d := none) (x := some x) p.1
        simp only [Option.some.injEq] at this
        exact this
      · rw [getD_set_ne hj]; exact h
      · rw [getD_set_ne hj]; exact h
      · rw [getD_set_ne hj]; exact ⟨x, h, .inl rfl⟩
    · obtain ⟨h, s2, mh, eh, gs2, er⟩ := holders_some (fun h s _ x mx => seat_grow n deal h s x mx) e1
      have hha : h ≠ a := by
        rintro rfl
        rcases p.2 with q | ⟨x, mx, q⟩
        · rw [q] at eh; cases eh
        · rw [q] at eh
          cases eh
          exact nt (gs _ mx)
      have hl : h < deal.length := List.mem_range.mp mh
      have ts2 : t ∈ s2 := gs2 t (by simp)
      have sub : ∀ x ∈ seen, x ∈ s2 := fun x m => gs2 x (by simp [gs x m])
      have S := seat_succ n deal h s2 d1 s' ⟨hl, .inr ⟨t, ts2, eh⟩⟩ er
      have da : d1.getD a none = deal.getD a none := by
        rcases p.2 with q | ⟨x, mx, q⟩
        · rw [q]; exact S.nones a (Ne.symm hha) q
        · rw [q]; exact S.old a (Ne.symm hha) x (sub x mx) q
      have la : a < d1.length := by rw [S.len]; exact p.1
      refine ⟨by simp [S.len], ⟨t, getD_set_self la, mt⟩, ?_, fun j hj hn => ?_, fun j hj x hx h2 => ?_, fun j hj x h2 => ?_⟩
      · obtain ⟨tk, rk, mk, ck⟩ := S.cnt
        refine ⟨tk, rk, mk, fun x => ?_⟩
        have c1 := count_set (l := d1) (v := some t) (d := none) (x := some x) la
        have c2 := ck x
        rw [da] at c1
        rw [eh] at c2
        simp only [Option.some.injEq] at c1 c2
        omega
      · rw [getD_set_ne hj]
        exact S.nones j (by rintro rfl; rw [hn] at eh; cases eh) hn
      · rw [getD_set_ne hj]
        exact S.old j (by
          rintro rfl
          rw [h2] at eh
          cases eh
          exact nt (gs _ hx)) x (sub x hx) h2
      · rw [getD_set_ne hj]
        by_cases e2 : j = h
        · subst e2
          obtain ⟨y, q1, q2⟩ := S.got
          exact ⟨y, q1, .inr q2⟩
        · exact S.some_ j e2 x h2

/-- what a search that fails tells -/
def Shut (cs : List Nat) (may : List (List Nat)) (deal : Pt) (s' : List Nat) (t : Nat) : Prop := room cs deal t = false ∧ ∀ h, h < deal.length → deal.getD h none = some t → ∀ y ∈ may.getD h [], y ∈ s'
theorem Shut.mono {deal : Pt} {s s' : List Nat} {t : Nat} (h : Shut cs may deal s t) (g : ∀ x ∈ s, x ∈ s') : Shut cs may deal s' t := ⟨h.1, fun a b c y m => g y (h.2 a b c y m)⟩
theorem holders_none {n : Nat} {deal : Pt} {t : Nat} (ih : ∀ a seen s', rank cs seen < n → seat cs may n deal a seen = (none, s') → (∀ x ∈ s', x ∈ seen ∨ Shut cs may deal s' x) ∧ ∀ y ∈ may.getD a [], y ∈ s') :
    ∀ {l seen s'}, rank cs seen < n → holders (fun h s => seat cs may n deal h s) deal t l seen = (none, s') → (∀ x ∈ seen, x ∈ s') ∧ (∀ x ∈ s', x ∈ seen ∨ Shut cs may deal s' x) ∧ ∀ h ∈ l, deal.getD h none = some t → ∀ y ∈ may.getD h [], y ∈ s'
  | [], seen, s', _, e => by
    simp [holders] at e
    subst e
    exact ⟨fun x m => m, fun x m => .inl m, by simp⟩
  | h :: l, seen, s', r, e => by
    unfold holders at e
    split at e
    · rename_i hh
      split at e
      · cases e
      · rename_i s1 q
        obtain ⟨i1, i2⟩ := ih h seen s1 r q
        have g1 : ∀ x ∈ seen, x ∈ s1 := fun x m => by
          have := seat_grow (cs := cs) (may := may) n deal h seen x m
          rw [q] at this
          exact this
        obtain ⟨j1, j2, j3⟩ := holders_none ih (Nat.lt_of_le_of_lt (rank_le cs g1) r) e
        refine ⟨fun x m => j1 x (g1 x m), fun x m => ?_, fun h2 m2 e2 y my => ?_⟩
        · rcases j2 x m with z | z
          · exact (i1 x z).imp id fun w => w.mono j1
          · exact .inr z
        · rcases List.mem_cons.mp m2 with rfl | m2
          · exact j1 y (i2 y my)
          · exact j3 h2 m2 e2 y my
    · rename_i hh
      obtain ⟨j1, j2, j3⟩ := holders_none ih r e
      refine ⟨j1, j2, fun h2 m2 e2 y my => ?_⟩
      rcases List.mem_cons.mp m2 with rfl | m2
      · exact absurd e2 hh
      · exact j3 h2 m2 e2 y my
theorem things_none {n : Nat} {deal : Pt} {a : Nat} (ih : ∀ a seen s', rank cs seen < n → seat cs may n deal a seen = (none, s') → (∀ x ∈ s', x ∈ seen ∨ Shut cs may deal s' x) ∧ ∀ y ∈ may.getD a [], y ∈ s') :
    ∀ {l seen s'}, (∀ t ∈ l, t ≤ cs.length) → rank cs seen < n + 1 → things cs (fun t s => holders (fun h s' => seat cs may n deal h s') deal t (List.range deal.length) s) deal a l seen = (none, s') →
      (∀ x ∈ seen, x ∈ s') ∧ (∀ x ∈ s', x ∈ seen ∨ Shut cs may deal s' x) ∧ ∀ y ∈ l, y ∈ s'
  | [], seen, s', _, _, e => by
    simp [things] at e
    subst e
    exact ⟨fun x m => m, fun x m => .inl m, by simp⟩
  | t :: l, seen, s', hl, r, e => by
    unfold things at e
    split at e
    · rename_i ht
      obtain ⟨j1, j2, j3⟩ := things_none ih (fun x m => hl x (by simp [m])) r e
      exact ⟨j1, j2, fun y m => (List.mem_cons.mp m).elim (fun e => e ▸ j1 t ht) (j3 y)⟩
    · rename_i ht
      split at e
      · cases e
      · rename_i hr
        split at e
        · cases e
        · rename_i s1 q
          have rt := rank_lt cs (hl t (by simp)) ht
          obtain ⟨i1, i2, i3⟩ := holders_none ih (by omega) q
          have g1 : ∀ x ∈ seen, x ∈ s1 := fun x m => i1 x (by simp [m])
          obtain ⟨j1, j2, j3⟩ := things_none ih (fun x m => hl x (by simp [m])) (Nat.lt_of_le_of_lt (rank_le cs g1) r) e
          have st : Shut cs may deal s1 t := ⟨by simpa using hr, fun h hl e y my => i3 h (List.mem_range.mpr hl) e y my⟩
          refine ⟨fun x m => j1 x (g1 x m), fun x m => ?_, fun y m => (List.mem_cons.mp m).elim (fun e => e ▸ j1 t (i1 t (by simp))) (j3 y)⟩
          rcases j2 x m with z | z
          · rcases i2 x z with w | w
            · rcases List.mem_append.mp w with w | w
              · exact .inl w
              · rw [List.mem_singleton.mp w]
                exact .inr (st.mono j1)
            · exact .inr (w.mono j1)
          · exact .inr z
theorem seat_none (hm : ∀ row ∈ may, ∀ t ∈ row, t ≤ cs.length) : ∀ (n : Nat) (deal : Pt) (a : Nat) (seen s' : List Nat), rank cs seen < n → seat cs may n deal a seen = (none, s') → (∀ x ∈ s', x ∈ seen ∨ Shut cs may deal s' x) ∧ ∀ y ∈ may.getD a [], y ∈ s'
  | 0, _, _, _, _, r, _ => by omega
  | n + 1, deal, a, seen, s', r, e => by
    unfold seat at e
    have hl : ∀ t ∈ may.getD a [], t ≤ cs.length := fun t m => by
      by_cases ha : a < may.length
      · rw [List.getD_eq_getElem?_getD, List.getElem?_eq_getElem ha] at m
        exact hm _ (List.getElem_mem ha) t m
      · rw [List.getD_eq_getElem?_getD, List.getElem?_eq_none (by omega)] at m
        simp at m
    obtain ⟨_, j2, j3⟩ := things_none (fun a seen s' r e => seat_none hm n deal a seen s' r e) hl r e
    exact ⟨j2, j3⟩
end
end Deals

namespace Deals
section
variable {cs : List Nat} {may : List (List Nat)} {must : List Nat}
/-! ### sums and counts -/
theorem sum_le {α : Type} {f g : α → Nat} : ∀ {l : List α}, (∀ x ∈ l, f x ≤ g x) → (l.map f).sum ≤ (l.map g).sum
  | [], _ => by simp
  | x :: l, h => by
    have := sum_le (l := l) fun y m => h y (by simp [m])
    have := h x (by simp)
    simp
    omega
theorem sum_lt {α : Type} {f g : α → Nat} {y : α} : ∀ {l : List α}, (∀ x ∈ l, f x ≤ g x) → y ∈ l → f y < g y → (l.map f).sum < (l.map g).sum
  | [], _, m, _ => by simp at m
  | x :: l, h, m, hy => by
    have h1 := sum_le (l := l) fun y m => h y (by simp [m])
    have h2 := h x (by simp)
    simp
    rcases List.mem_cons.mp m with rfl | m
    · omega
    · have := sum_lt (l := l) (fun y m => h y (by simp [m])) m hy
      omega
theorem sum_add {α : Type} {f g : α → Nat} : ∀ {l : List α}, (l.map fun x => f x + g x).sum = (l.map f).sum + (l.map g).sum
  | [] => by simp
  | x :: l => by
    have := sum_add (f := f) (g := g) (l := l)
    simp
    omega
theorem sum_zero {α : Type} {f : α → Nat} : ∀ {l : List α}, (∀ x ∈ l, f x = 0) → (l.map f).sum = 0
  | [], _ => by simp
  | x :: l, h => by
    have := sum_zero (l := l) fun y m => h y (by simp [m])
    have := h x (by simp)
    simp
    omega
/-- one hit at most -/
theorem sum_one {α : Type} [DecidableEq α] {p : α → Prop} [DecidablePred p] (y : α) (hp : ∀ x, p x → x = y) : ∀ {l : List α}, l.Nodup → (l.map fun x => if p x then 1 else 0).sum = if y ∈ l ∧ p y then 1 else 0
  | [], _ => by simp
  | x :: l, nd => by
    obtain ⟨n1, n2⟩ := List.nodup_cons.mp nd
    have ih := sum_one y hp n2
    simp only [List.map_cons, List.sum_cons, ih, List.mem_cons]
    by_cases hx : p x
    · have := hp x hx
      subst this
      simp [hx, n1]
    · by_cases hy : p y
      · have : y ≠ x := by rintro rfl; exact hx hy
        simp [hx, hy, this]
      · simp [hx, hy]
/-- the items of a list that lie in s, one number of s by another -/
theorem count_sum {α β : Type} [BEq α] [LawfulBEq α] [DecidableEq α] [DecidableEq β] {f : β → α} (hf : ∀ x y, f x = f y → x = y) {s : List β} (nd : s.Nodup) : ∀ l : List α, (s.map fun x => l.count (f x)).sum = (l.filter fun a => decide (a ∈ s.map f)).length
  | [] => by simp [sum_zero]
  | a :: l => by
    have ih := count_sum hf nd l
    have e : (s.map fun x => (a :: l).count (f x)).sum = (s.map fun x => l.count (f x)).sum + (s.map fun x => if a = f x then 1 else 0).sum := by
      rw [← sum_add]
      congr 1
      exact List.map_congr_left fun x _ => by simp [List.count_cons]
    rw [e, ih, List.filter_cons]
    by_cases h : a ∈ s.map f
    · obtain ⟨y, my, rfl⟩ := List.mem_map.mp h
      rw [sum_one (p := fun x => f y = f x) y (fun x hx => (hf _ _ hx).symm) nd, if_pos ⟨my, rfl⟩, if_pos (decide_eq_true h), List.length_cons]
    · rw [sum_zero fun x mx => if_neg fun e => h (List.mem_map.mpr ⟨x, mx, e.symm⟩)]
      simp [h]
theorem filter_range {α : Type} {p : α → Bool} {d : α} : ∀ l : List α, (l.filter p).length = ((List.range l.length).filter fun i => p (l.getD i d)).length := fun l => by
  have e : l = (List.range l.length).map fun i => l.getD i d := by
    apply List.ext_getElem?
    intro i
    rw [List.getElem?_map]
    by_cases h : i < l.length
    · rw [List.getElem?_range h, List.getElem?_eq_getElem h]
      show some _ = some (l.getD i d)
      rw [List.getD_eq_getElem?_getD, List.getElem?_eq_getElem h]
      rfl
    · rw [List.getElem?_eq_none (by omega), List.getElem?_eq_none (by rw [List.length_range]; omega)] <;> rfl
  conv => lhs; rw [e]
  rw [List.filter_map, List.length_map]
  rfl
theorem filter_or {p : Nat → Bool} {a : Nat} (hp : p a = false) : ∀ {l : List Nat}, l.Nodup → a ∈ l → (l.filter fun x => decide (x = a) || p x).length = (l.filter p).length + 1
  | [], _, m => by simp at m
  | x :: l, nd, m => by
    obtain ⟨n1, n2⟩ := List.nodup_cons.mp nd
    by_cases e : x = a
    · subst e
      have : l.filter (fun y => decide (y = x) || p y) = l.filter p := List.filter_congr fun y my => by
        have : y ≠ x := by rintro rfl; exact n1 my
        simp [this]
      simp [List.filter_cons, hp, this]
    · have ih := filter_or hp n2 ((List.mem_cons.mp m).resolve_left fun h => e h.symm)
      by_cases h : p x = true
      · simp [List.filter_cons, e, h] at ih ⊢
        omega
      · simp [List.filter_cons, e, h] at ih ⊢
        omega
theorem filter_mono {α : Type} {p q : α → Bool} : ∀ {l : List α}, (∀ x ∈ l, p x = true → q x = true) → (l.filter p).length ≤ (l.filter q).length
  | [], _ => by simp
  | x :: l, h => by
    have ih := filter_mono (p := p) (q := q) (l := l) fun y m => h y (by simp [m])
    by_cases h1 : p x = true
    · simp [List.filter_cons, h1, h x (by simp) h1]
      exact ih
    · by_cases h2 : q x = true
      · simp [List.filter_cons, h1, h2]
        omega
      · simp [List.filter_cons, h1, h2]
        exact ih

/-! ### all are seated -/
def inSeen (s : List Nat) : Option Nat → Bool
  | none => false
  | some t => decide (t ∈ s)
def seatAll (cs : List Nat) (may : List (List Nat)) : List Nat → Pt → Option (List Nat) × Pt
  | [], deal => (none, deal)
  | a :: as, deal => match seat cs may 8 deal a [] with
    | (some d, _) => seatAll cs may as d
    | (none, s) => (some ((List.range may.length).filter fun one => decide (one = a) || inSeen s (deal.getD one none)), deal)
def askTotal (cs : List Nat) (may : List (List Nat)) (S : List Nat) : Nat := ((List.range cs.length).map fun k => if S.any (fun one => decide (k ∈ may.getD one [])) = true then cs.getD k 0 else 0).sum
structure PaperA (cs : List Nat) (may : List (List Nat)) (S : List Nat) : Prop where
  ne : S ≠ []
  up : S.Pairwise (· < ·)
  lt : ∀ one ∈ S, one < may.length
  no : ∀ one ∈ S, cs.length ∉ may.getD one []
  few : askTotal cs may S < S.length
structure Part (cs : List Nat) (may : List (List Nat)) (k : Nat) (deal : Pt) : Prop where
  len : deal.length = may.length
  open_ : ∀ j, k ≤ j → deal.getD j none = none
  done : ∀ j, j < k → j < may.length → ∃ y, deal.getD j none = some y ∧ y ∈ may.getD j []
  cap : ∀ x, x < cs.length → deal.count (some x) ≤ cs.getD x 0
theorem row_le (hm : ∀ row ∈ may, ∀ t ∈ row, t ≤ cs.length) {j t : Nat} (m : t ∈ may.getD j []) : t ≤ cs.length := by
  by_cases ha : j < may.length
  · rw [List.getD_eq_getElem?_getD, List.getElem?_eq_getElem ha] at m
    exact hm _ (List.getElem_mem ha) t m
  · rw [List.getD_eq_getElem?_getD, List.getElem?_eq_none (by omega)] at m
    simp at m
theorem part_next {k : Nat} {deal d : Pt} (p : Part cs may k deal) (hk : k < may.length) (s : Succ cs may deal k [] d) : Part cs may (k + 1) d := by
  refine ⟨by rw [s.len, p.len], fun j hj => s.nones j (by omega) (p.open_ j (by omega)), fun j hj hl => ?_, fun x hx => ?_⟩
  · by_cases e : j = k
    · subst e
      exact s.got
    · obtain ⟨y, h1, h2⟩ := p.done j (by omega) hl
      obtain ⟨z, h3, h4⟩ := s.some_ j e y h1
      refine ⟨z, h3, ?_⟩
      rcases h4 with rfl | h4
      · exact h2
      · exact h4
  · obtain ⟨tk, h1, _, h3⟩ := s.cnt
    have h4 := h3 x
    rw [p.open_ k (Nat.le_refl k)] at h4
    simp at h4
    have h5 := p.cap x hx
    by_cases e : tk = x
    · subst e
      rw [if_pos rfl] at h4
      have : ¬ tk = cs.length := by omega
      simp [room, this] at h1
      simp only [List.getD_eq_getElem?_getD]
      omega
    · rw [if_neg e] at h4
      omega
theorem paperA_of (hm : ∀ row ∈ may, ∀ t ∈ row, t ≤ cs.length) {k : Nat} {deal : Pt} {s : List Nat} (p : Part cs may k deal) (hk : k < may.length) (h1 : ∀ x ∈ s, Shut cs may deal s x) (h2 : ∀ y ∈ may.getD k [], y ∈ s) :
    PaperA cs may ((List.range may.length).filter fun one => decide (one = k) || inSeen s (deal.getD one none)) := by
  have hin : ∀ one ∈ (List.range may.length).filter (fun one => decide (one = k) || inSeen s (deal.getD one none)), one < may.length ∧ ∀ y ∈ may.getD one [], y ∈ s := fun one m => by
    obtain ⟨m1, m2⟩ := List.mem_filter.mp m
    have hl := List.mem_range.mp m1
    refine ⟨hl, ?_⟩
    by_cases e : one = k
    · subst e
      exact h2
    · have : inSeen s (deal.getD one none) = true := by simpa [e] using m2
      cases q : deal.getD one none with
      | none => rw [q] at this; cases this
      | some t =>
        rw [q] at this
        have ht : t ∈ s := of_decide_eq_true this
        exact (h1 t ht).2 one (by rw [p.len]; exact hl) q
  have hnoN : cs.length ∉ s := fun m => by
    have := (h1 _ m).1
    simp [room] at this
  refine ⟨?_, (List.pairwise_lt_range).filter _, fun one m => (hin one m).1, fun one m n => hnoN ((hin one m).2 _ n), ?_⟩
  · have : k ∈ (List.range may.length).filter fun one => decide (one = k) || inSeen s (deal.getD one none) := List.mem_filter.mpr ⟨List.mem_range.mpr hk, by simp⟩
    intro e
    rw [e] at this
    simp at this
  · have hq : inSeen s (deal.getD k none) = false := by rw [p.open_ k (Nat.le_refl k)]; rfl
    rw [filter_or hq List.nodup_range (List.mem_range.mpr hk)]
    have e1 : askTotal cs may ((List.range may.length).filter fun one => decide (one = k) || inSeen s (deal.getD one none)) ≤ ((List.range cs.length).map fun x => if x ∈ s then deal.count (some x) else 0).sum := by
      refine sum_le fun x mx => ?_
      by_cases ha : ((List.range may.length).filter fun one => decide (one = k) || inSeen s (deal.getD one none)).any (fun one => decide (x ∈ may.getD one [])) = true
      · rw [if_pos ha]
        obtain ⟨one, m1, m2⟩ := List.any_eq_true.mp ha
        have hx : x ∈ s := (hin one m1).2 x (of_decide_eq_true m2)
        rw [if_pos hx]
        have := (h1 x hx).1
        simp only [room, Bool.or_eq_false_iff, decide_eq_false_iff_not] at this
        omega
      · rw [if_neg ha]
        omega
    have e2 : ((List.range cs.length).map fun x => if x ∈ s then deal.count (some x) else 0).sum = (((List.range cs.length).filter fun x => decide (x ∈ s)).map fun x => deal.count (some x)).sum := by
      generalize List.range cs.length = l
      induction l with
      | nil => rfl
      | cons x l ih =>
        by_cases h : x ∈ s <;> simp [List.filter_cons, h, ih]
    have e3 := count_sum (f := some) (fun x y h => Option.some.inj h) ((List.nodup_range (n := cs.length)).filter fun x => decide (x ∈ s)) deal
    have e4 : (deal.filter fun a => decide (a ∈ ((List.range cs.length).filter fun x => decide (x ∈ s)).map some)).length ≤ (deal.filter (inSeen s)).length := filter_mono fun x mx h => by
      have h := of_decide_eq_true h
      obtain ⟨y, my, rfl⟩ := List.mem_map.mp h
      exact (List.mem_filter.mp my).2
    have e5 := filter_range (p := inSeen s) (d := none) deal
    rw [p.len] at e5
    omega
theorem seatAll_spec (hm : ∀ row ∈ may, ∀ t ∈ row, t ≤ cs.length) (hc : cs.length ≤ 6) : ∀ (n k : Nat) (deal : Pt), n + k = may.length → Part cs may k deal →
    match seatAll cs may ((List.range may.length).drop k) deal with
    | (some S, _) => PaperA cs may S
    | (none, d) => Part cs may may.length d
  | 0, k, deal, e, p => by
    have : (List.range may.length).drop k = [] := List.drop_eq_nil_of_le (by rw [List.length_range]; omega)
    rw [this]
    have : k = may.length := by omega
    subst this
    exact p
  | n + 1, k, deal, e, p => by
    have hk : k < may.length := by omega
    rw [List.drop_eq_getElem_cons (by rw [List.length_range]; exact hk), List.getElem_range]
    unfold seatAll
    cases q : seat cs may 8 deal k [] with
    | mk o s =>
      cases o with
      | some d => exact seatAll_spec hm hc n (k + 1) d (by omega) (part_next p hk (seat_succ 8 deal k [] d s ⟨by rw [p.len]; exact hk, .inl (p.open_ k (Nat.le_refl k))⟩ q))
      | none =>
        have hr : rank cs [] < 8 := by
          have : rank cs [] ≤ cs.length + 1 := by
            unfold rank
            exact Nat.le_trans (List.length_filter_le _ _) (by rw [List.length_range]; exact Nat.le_refl _)
          omega
        obtain ⟨a, b⟩ := seat_none hm 8 deal k [] s hr q
        exact paperA_of hm p hk (fun x m => (a x m).resolve_left (by simp)) b
theorem part_start : Part cs may 0 (List.replicate may.length none) := by
  refine ⟨by simp, fun j _ => ?_, fun j hj => by omega, fun x hx => ?_⟩
  · rw [List.getD_eq_getElem?_getD, List.getElem?_replicate]
    split <;> rfl
  · rw [List.count_replicate]
    simp

/-! ### what must be dealt is brought -/
def brs (rec : Nat → List Nat → Option (List Nat) × List Nat) (may : List (List Nat)) (must : List Nat) (deal : List Nat) (t : Nat) : List Nat → List Nat → Option (List Nat) × List Nat
  | [], seen => (none, seen)
  | a :: as, seen => if t ∉ may.getD a [] ∨ deal.getD a 0 ∈ seen then brs rec may must deal t as seen else if deal.getD a 0 ∉ must then (some (deal.set a t), seen) else
      match rec (deal.getD a 0) (seen ++ [deal.getD a 0]) with
      | (some d, s) => (some (d.set a t), s)
      | (none, s) => brs rec may must deal t as s
def bring (may : List (List Nat)) (must : List Nat) : Nat → List Nat → Nat → List Nat → Option (List Nat) × List Nat
  | 0, _, _, seen => (none, seen)
  | n + 1, deal, t, seen => brs (fun h s => bring may must n deal h s) may must deal t (List.range deal.length) seen
structure Succ2 (may : List (List Nat)) (must : List Nat) (deal : List Nat) (t : Nat) (seen d' : List Nat) : Prop where
  len : d'.length = deal.length
  cnt : ∃ z, z ∉ must ∧ ∀ x, d'.count x + (if z = x then 1 else 0) = deal.count x + (if t = x then 1 else 0)
  own : ∀ j, d'.getD j 0 = deal.getD j 0 ∨ d'.getD j 0 ∈ may.getD j []
  old : ∀ j, deal.getD j 0 ∈ seen → d'.getD j 0 = deal.getD j 0
theorem brs_grow {rec : Nat → List Nat → Option (List Nat) × List Nat} {deal : List Nat} {t : Nat} (hr : ∀ h s, (∀ x ∈ s, x ∈ (rec h s).2) ∧ (s.Nodup → (rec h s).2.Nodup)) : ∀ (l seen : List Nat), (∀ x ∈ seen, x ∈ (brs rec may must deal t l seen).2) ∧ (seen.Nodup → (brs rec may must deal t l seen).2.Nodup)
  | [], seen => ⟨fun x m => m, id⟩
  | a :: l, seen => by
    unfold brs
    split
    · exact brs_grow hr l seen
    · rename_i h1
      split
      · exact ⟨fun x m => m, id⟩
      · obtain ⟨g1, g2⟩ := hr (deal.getD a 0) (seen ++ [deal.getD a 0])
        have nd : seen.Nodup → (seen ++ [deal.getD a 0]).Nodup := fun h => List.nodup_append.mpr ⟨h, by simp, fun x mx y my e => h1 (.inr (by rw [List.mem_singleton.mp my] at e; exact e ▸ mx))⟩
        split
        · rename_i q
          rw [q] at g1 g2
          exact ⟨fun x m => g1 x (by simp [m]), fun h => g2 (nd h)⟩
        · rename_i q
          rw [q] at g1 g2
          obtain ⟨k1, k2⟩ := brs_grow hr l _
          exact ⟨fun x m => k1 x (g1 x (by simp [m])), fun h => k2 (g2 (nd h))⟩
theorem bring_grow : ∀ (n : Nat) (deal : List Nat) (t : Nat) (seen : List Nat), (∀ x ∈ seen, x ∈ (bring may must n deal t seen).2) ∧ (seen.Nodup → (bring may must n deal t seen).2.Nodup)
  | 0, _, _, _ => ⟨fun x m => m, id⟩
  | n + 1, deal, t, seen => brs_grow (fun h s => bring_grow n deal h s) _ seen
theorem brs_some {rec : Nat → List Nat → Option (List Nat) × List Nat} {deal : List Nat} {t : Nat} {d s' : List Nat} (hr : ∀ h s, ∀ x ∈ s, x ∈ (rec h s).2) :
    ∀ {l seen}, brs rec may must deal t l seen = (some d, s') → ∃ a s, a ∈ l ∧ t ∈ may.getD a [] ∧ deal.getD a 0 ∉ s ∧ (∀ x ∈ seen, x ∈ s) ∧ ((deal.getD a 0 ∉ must ∧ d = deal.set a t) ∨ (deal.getD a 0 ∈ must ∧ ∃ d1, rec (deal.getD a 0) (s ++ [deal.getD a 0]) = (some d1, s') ∧ d = d1.set a t))
  | [], seen, e => by simp [brs] at e
  | a :: l, seen, e => by
    unfold brs at e
    split at e
    · obtain ⟨a2, s2, m, r⟩ := brs_some hr e
      exact ⟨a2, s2, by simp [m], r⟩
    · rename_i h1
      have h1' : t ∈ may.getD a [] ∧ deal.getD a 0 ∉ seen := by
        refine ⟨Classical.byContradiction fun z => h1 (.inl z), fun z => h1 (.inr z)⟩
      split at e
      · rename_i h2
        simp only [Prod.mk.injEq, Option.some.injEq] at e
        obtain ⟨e1, e2⟩ := e
        subst e2
        exact ⟨a, seen, by simp, h1'.1, h1'.2, fun x m => m, .inl ⟨h2, e1.symm⟩⟩
      · rename_i h2
        split at e
        · rename_i d1 s1 q
          cases e
          exact ⟨a, seen, by simp, h1'.1, h1'.2, fun x m => m, .inr ⟨Classical.byContradiction h2, d1, q, rfl⟩⟩
        · rename_i s1 q
          obtain ⟨a2, s2, m, m2, n2, g, r⟩ := brs_some hr e
          refine ⟨a2, s2, by simp [m], m2, n2, fun x mx => g x ?_, r⟩
          have := hr (deal.getD a 0) (seen ++ [deal.getD a 0]) x (by simp [mx])
          rw [q] at this
          exact this
theorem bring_succ : ∀ (n : Nat) (deal : List Nat) (t : Nat) (seen d s' : List Nat), t ∈ seen → bring may must n deal t seen = (some d, s') → Succ2 may must deal t seen d
  | 0, _, _, _, _, _, _, e => by simp [bring] at e
  | n + 1, deal, t, seen, d, s', ht, e => by
    unfold bring at e
    obtain ⟨a, s, ma, mt, ns, gs, r⟩ := brs_some (fun h s x m => (bring_grow n deal h s).1 x m) e
    have la := List.mem_range.mp ma
    rcases r with ⟨hn, rfl⟩ | ⟨hm, d1, e1, rfl⟩
    · refine ⟨by simp, ⟨deal.getD a 0, hn, fun x => ?_⟩, fun j => ?_, fun j hj => ?_⟩
      · exact count_set (l := deal) (v := t) (d := 0) (x := x) la
      · by_cases h : j = a
        · subst h
          exact .inr (by rw [getD_set_self la]; exact mt)
        · exact .inl (getD_set_ne h)
      · refine getD_set_ne ?_
        rintro rfl
        exact ns (gs _ hj)
    · have S := bring_succ n deal (deal.getD a 0) (s ++ [deal.getD a 0]) d1 s' (by simp) e1
      have da : d1.getD a 0 = deal.getD a 0 := S.old a (by simp)
      have la1 : a < d1.length := by rw [S.len]; exact la
      refine ⟨by simp [S.len], ?_, fun j => ?_, fun j hj => ?_⟩
      · obtain ⟨z, hz, hc⟩ := S.cnt
        refine ⟨z, hz, fun x => ?_⟩
        have c1 := count_set (l := d1) (v := t) (d := 0) (x := x) la1
        have c2 := hc x
        rw [da] at c1
        omega
      · by_cases h : j = a
        · subst h
          exact .inr (by rw [getD_set_self la1]; exact mt)
        · rw [getD_set_ne h]
          exact S.own j
      · have h : j ≠ a := by
          rintro rfl
          exact ns (gs _ hj)
        rw [getD_set_ne h]
        exact S.old j (List.mem_append_left _ (gs _ hj))
def Shut2 (may : List (List Nat)) (deal s' : List Nat) (t : Nat) : Prop := ∀ a, a < deal.length → t ∈ may.getD a [] → deal.getD a 0 ∈ s'
theorem brs_none {n : Nat} {deal : List Nat} {t : Nat} (hmu : ∀ x ∈ must, x ≤ cs.length) (ih : ∀ t seen s', rank cs seen < n → bring may must n deal t seen = (none, s') → (∀ x ∈ s', x ∈ seen ∨ (x ∈ must ∧ Shut2 may deal s' x)) ∧ Shut2 may deal s' t) :
    ∀ {l seen s'}, rank cs seen < n + 1 → brs (fun h s => bring may must n deal h s) may must deal t l seen = (none, s') → (∀ x ∈ seen, x ∈ s') ∧ (∀ x ∈ s', x ∈ seen ∨ (x ∈ must ∧ Shut2 may deal s' x)) ∧ ∀ a ∈ l, t ∈ may.getD a [] → deal.getD a 0 ∈ s'
  | [], seen, s', _, e => by
    simp [brs] at e
    subst e
    exact ⟨fun x m => m, fun x m => .inl m, by simp⟩
  | a :: l, seen, s', r, e => by
    unfold brs at e
    split at e
    · rename_i h1
      obtain ⟨j1, j2, j3⟩ := brs_none hmu ih r e
      refine ⟨j1, j2, fun b mb hb => ?_⟩
      rcases List.mem_cons.mp mb with rfl | mb
      · rcases h1 with h1 | h1
        · exact absurd hb h1
        · exact j1 _ h1
      · exact j3 b mb hb
    · rename_i h1
      split at e
      · cases e
      · rename_i h2
        split at e
        · cases e
        · rename_i s1 q
          have hm : deal.getD a 0 ∈ must := Classical.byContradiction h2
          have rt := rank_lt cs (hmu _ hm) (fun z => h1 (.inr z))
          obtain ⟨i2, i3⟩ := ih _ _ s1 (by omega) q
          have i1 := (bring_grow (may := may) (must := must) n deal (deal.getD a 0) (seen ++ [deal.getD a 0])).1
          rw [q] at i1
          have g1 : ∀ x ∈ seen, x ∈ s1 := fun x m => i1 x (by simp [m])
          obtain ⟨j1, j2, j3⟩ := brs_none hmu ih (Nat.lt_of_le_of_lt (rank_le cs g1) r) e
          refine ⟨fun x m => j1 x (g1 x m), fun x m => ?_, fun b mb hb => ?_⟩
          · rcases j2 x m with z | z
            · rcases i2 x z with w | w
              · rcases List.mem_append.mp w with w | w
                · exact .inl w
                · rw [List.mem_singleton.mp w]
                  exact .inr ⟨hm, fun b hl hb => j1 _ (i3 b hl hb)⟩
              · exact .inr ⟨w.1, fun b hl hb => j1 _ (w.2 b hl hb)⟩
            · exact .inr z
          · rcases List.mem_cons.mp mb with rfl | mb
            · exact j1 _ (i1 _ (by simp))
            · exact j3 b mb hb
theorem bring_none (hmu : ∀ x ∈ must, x ≤ cs.length) : ∀ (n : Nat) (deal : List Nat) (t : Nat) (seen s' : List Nat), rank cs seen < n → bring may must n deal t seen = (none, s') → (∀ x ∈ s', x ∈ seen ∨ (x ∈ must ∧ Shut2 may deal s' x)) ∧ Shut2 may deal s' t
  | 0, _, _, _, _, r, _ => by omega
  | n + 1, deal, t, seen, s', r, e => by
    unfold bring at e
    obtain ⟨_, j2, j3⟩ := brs_none hmu (fun t seen s' r e => bring_none hmu n deal t seen s' r e) r e
    exact ⟨j2, fun a hl ha => j3 a (List.mem_range.mpr hl) ha⟩
def sortN (l : List Nat) : List Nat := l.mergeSort fun a b => decide (a ≤ b)
theorem sortN_perm (l : List Nat) : (sortN l).Perm l := List.mergeSort_perm _ _
theorem sortN_up {l : List Nat} (nd : l.Nodup) : (sortN l).Pairwise (· < ·) := by
  have h1 := List.pairwise_mergeSort (le := fun a b : Nat => decide (a ≤ b)) (fun a b c h1 h2 => by simp at *; omega) (fun a b => by simp; omega) l
  have h2 : (sortN l).Nodup := (sortN_perm l).nodup_iff.mpr nd
  exact (h1.and h2).imp fun ⟨a, b⟩ => by
    have := of_decide_eq_true a
    omega
def fill (cs : List Nat) (may : List (List Nat)) (must : List Nat) (t : Nat) : Nat → List Nat → Option (List Nat) × List Nat
  | 0, deal => (none, deal)
  | k + 1, deal => if deal.count t < cs.getD t 0 then (match bring may must 8 deal t [t] with
      | (some d, _) => fill cs may must t k d
      | (none, s) => (some (sortN s), deal)) else (none, deal)
def fillAll (cs : List Nat) (may : List (List Nat)) (must : List Nat) : List Nat → List Nat → Option (List Nat) × List Nat
  | [], deal => (none, deal)
  | t :: ts, deal => match fill cs may must t 100 deal with
    | (some T, d) => (some T, d)
    | (none, d) => fillAll cs may must ts d
inductive Out where
  | deal (d : List Nat) | askers (S : List Nat) | things (S : List Nat)
def dap (cs : List Nat) (may : List (List Nat)) (must : List Nat) : Out := match seatAll cs may (List.range may.length) (List.replicate may.length none) with
  | (some S, _) => .askers S
  | (none, d) => match fillAll cs may must must (d.map fun o => o.getD 0) with
    | (some T, _) => .things T
    | (none, d) => .deal d
structure PaperT (cs : List Nat) (may : List (List Nat)) (must T : List Nat) : Prop where
  ne : T ≠ []
  up : T.Pairwise (· < ·)
  sub : ∀ x ∈ T, x ∈ must
  few : ((List.range may.length).filter fun a => (may.getD a []).any fun x => decide (x ∈ T)).length < (T.map fun x => cs.getD x 0).sum
structure Full (cs : List Nat) (may : List (List Nat)) (deal : List Nat) : Prop where
  len : deal.length = may.length
  own : ∀ j, j < may.length → deal.getD j 0 ∈ may.getD j []
  cap : ∀ x, x < cs.length → deal.count x ≤ cs.getD x 0
structure Hyp (cs : List Nat) (may : List (List Nat)) (must : List Nat) : Prop where
  few : cs.length ≤ 6
  rows : ∀ row ∈ may, ∀ t ∈ row, t ≤ cs.length
  must : ∀ x ∈ must, x < cs.length
  small : ∀ x, cs.getD x 0 < 100
theorem full_next {deal d : List Nat} {t : Nat} {seen : List Nat} (F : Full cs may deal) (S : Succ2 may must deal t seen d) (hc : deal.count t < cs.getD t 0) : Full cs may d := by
  refine ⟨by rw [S.len, F.len], fun j hj => ?_, fun x hx => ?_⟩
  · rcases S.own j with h | h
    · rw [h]
      exact F.own j hj
    · exact h
  · obtain ⟨z, _, h⟩ := S.cnt
    have h := h x
    have := F.cap x hx
    by_cases e : t = x
    · subst e
      rw [if_pos rfl] at h
      omega
    · rw [if_neg e] at h
      omega
theorem paperT_of (hy : Hyp cs may must) {deal : List Nat} {t : Nat} {s : List Nat} (F : Full cs may deal) (ht : t ∈ must) (hc : deal.count t < cs.getD t 0) (nd : s.Nodup) (ts : t ∈ s) (h1 : ∀ x ∈ s, x ∈ [t] ∨ (x ∈ must ∧ Shut2 may deal s x)) (h2 : Shut2 may deal s t) :
    PaperT cs may must (sortN s) := by
  have pm := sortN_perm s
  have mem : ∀ x, x ∈ sortN s ↔ x ∈ s := fun x => pm.mem_iff
  have inm : ∀ x ∈ s, x ∈ must := fun x m => by
    rcases h1 x m with z | z
    · rw [List.mem_singleton.mp z]; exact ht
    · exact z.1
  have shut : ∀ x ∈ s, Shut2 may deal s x := fun x m => by
    rcases h1 x m with z | z
    · rw [List.mem_singleton.mp z]; exact h2
    · exact z.2
  refine ⟨fun e => ?_, sortN_up nd, fun x m => inm x ((mem x).mp m), ?_⟩
  · have := (mem t).mpr ts
    rw [e] at this
    simp at this
  · have e1 : ((List.range may.length).filter fun a => (may.getD a []).any fun x => decide (x ∈ sortN s)).length ≤ ((List.range deal.length).filter fun a => decide (deal.getD a 0 ∈ s)).length := by
      rw [F.len]
      refine filter_mono fun a ma h => ?_
      obtain ⟨x, mx, hx⟩ := List.any_eq_true.mp h
      have hx := (mem x).mp (of_decide_eq_true hx)
      exact decide_eq_true (shut x hx a (by rw [F.len]; exact List.mem_range.mp ma) mx)
    have e2 := filter_range (p := fun a => decide (a ∈ s)) (d := 0) deal
    have e3 := count_sum (f := fun x : Nat => x) (fun x y h => h) nd deal
    have e4 : (s.map fun x => deal.count x).sum < (s.map fun x => cs.getD x 0).sum := sum_lt (y := t) (fun x m => F.cap x (hy.must x (inm x m))) ts hc
    have e5 : ((sortN s).map fun x => cs.getD x 0).sum = (s.map fun x => cs.getD x 0).sum := (pm.map _).sum_nat
    rw [List.map_id'] at e3
    omega
theorem fill_spec (hy : Hyp cs may must) {t : Nat} (ht : t ∈ must) : ∀ (k : Nat) (deal : List Nat), cs.getD t 0 < deal.count t + k → Full cs may deal →
    match fill cs may must t k deal with
    | (some T, _) => PaperT cs may must T
    | (none, d) => Full cs may d ∧ d.count t = cs.getD t 0 ∧ ∀ x ∈ must, deal.count x ≤ d.count x
  | 0, deal, h, F => by
    have := F.cap t (hy.must t ht)
    omega
  | k + 1, deal, h, F => by
    by_cases hc : deal.count t < cs.getD t 0
    · cases q : bring may must 8 deal t [t] with
      | mk o s =>
        cases o with
        | some d =>
          have e : fill cs may must t (k + 1) deal = fill cs may must t k d := by
            rw [fill, if_pos hc, q]
          have S := bring_succ 8 deal t [t] d s (by simp) q
          have F2 := full_next F S hc
          obtain ⟨z, hz, hcnt⟩ := S.cnt
          have c1 := hcnt t
          have nzt : z ≠ t := by rintro rfl; exact hz ht
          rw [if_neg nzt, if_pos rfl] at c1
          have ih := fill_spec hy ht k d (by omega) F2
          rw [e]
          cases q2 : fill cs may must t k d with
          | mk o2 d2 =>
            rw [q2] at ih
            cases o2 with
            | some T => exact ih
            | none =>
              obtain ⟨i1, i2, i3⟩ := ih
              refine ⟨i1, i2, fun x mx => ?_⟩
              have c2 := hcnt x
              have : z ≠ x := by rintro rfl; exact hz mx
              rw [if_neg this] at c2
              have := i3 x mx
              omega
        | none =>
          have e : fill cs may must t (k + 1) deal = (some (sortN s), deal) := by
            rw [fill, if_pos hc, q]
          have hr : rank cs [t] < 8 := by
            have : rank cs [t] ≤ cs.length + 1 := by
              unfold rank
              exact Nat.le_trans (List.length_filter_le _ _) (by rw [List.length_range]; exact Nat.le_refl _)
            have := hy.few
            omega
          obtain ⟨a, b⟩ := bring_none (cs := cs) (fun x m => Nat.le_of_lt (hy.must x m)) 8 deal t [t] s hr q
          have g := bring_grow (may := may) (must := must) 8 deal t [t]
          rw [q] at g
          rw [e]
          exact paperT_of hy F ht hc (g.2 (by simp)) (g.1 t (by simp)) a b
    · have e : fill cs may must t (k + 1) deal = (none, deal) := by
        rw [fill, if_neg hc]
      rw [e]
      have := F.cap t (hy.must t ht)
      exact ⟨F, by omega, fun x _ => Nat.le_refl _⟩
theorem fillAll_spec (hy : Hyp cs may must) : ∀ (l : List Nat) (deal : List Nat), (∀ x ∈ l, x ∈ must) → Full cs may deal →
    match fillAll cs may must l deal with
    | (some T, _) => PaperT cs may must T
    | (none, d) => Full cs may d ∧ (∀ x ∈ l, d.count x = cs.getD x 0) ∧ ∀ x ∈ must, deal.count x ≤ d.count x
  | [], deal, _, F => ⟨F, by simp, fun x _ => Nat.le_refl _⟩
  | t :: l, deal, hl, F => by
    unfold fillAll
    have f := fill_spec hy (hl t (by simp)) 100 deal (by have := hy.small t; omega) F
    cases q : fill cs may must t 100 deal with
    | mk o d =>
      rw [q] at f
      cases o with
      | some T => exact f
      | none =>
        obtain ⟨f1, f2, f3⟩ := f
        have ih := fillAll_spec hy l d (fun x m => hl x (by simp [m])) f1
        show match fillAll cs may must l d with
          | (some T, _) => PaperT cs may must T
          | (none, d) => _
        cases q2 : fillAll cs may must l d with
        | mk o2 d2 =>
        rw [q2] at ih
        cases o2 with
        | some T => exact ih
        | none =>
          obtain ⟨i1, i2, i3⟩ := ih
          refine ⟨i1, fun x m => ?_, fun x m => Nat.le_trans (f3 x m) (i3 x m)⟩
          rcases List.mem_cons.mp m with rfl | m
          · have := i3 x (hl x (by simp))
            have := i1.cap x (hy.must x (hl x (by simp)))
            omega
          · exact i2 x m
theorem full_of_part {deal : Pt} (p : Part cs may may.length deal) (hm : ∀ row ∈ may, ∀ t ∈ row, t ≤ cs.length) : Full cs may (deal.map fun o => o.getD 0) := by
  have all : ∀ o ∈ deal, ∃ y, o = some y := fun o m => by
    obtain ⟨j, hj, rfl⟩ := List.mem_iff_getElem.mp m
    obtain ⟨y, h, _⟩ := p.done j (by rw [← p.len]; exact hj) (by rw [← p.len]; exact hj)
    rw [List.getD_eq_getElem?_getD, List.getElem?_eq_getElem hj] at h
    exact ⟨y, h⟩
  refine ⟨by rw [List.length_map, p.len], fun j hj => ?_, fun x hx => ?_⟩
  · obtain ⟨y, h1, h2⟩ := p.done j hj hj
    have hj2 : j < deal.length := by rw [p.len]; exact hj
    rw [List.getD_eq_getElem?_getD, List.getElem?_eq_getElem hj2] at h1
    have h1 : deal[j] = some y := h1
    have e : (deal.map fun o => o.getD 0).getD j 0 = y := by
      rw [List.getD_eq_getElem?_getD, List.getElem?_map, List.getElem?_eq_getElem hj2, h1]
      rfl
    rw [e]
    exact h2
  · refine Nat.le_trans (Nat.le_of_eq ?_) (p.cap x hx)
    clear p
    induction deal with
    | nil => rfl
    | cons o l ih =>
      obtain ⟨y, rfl⟩ := all o (by simp)
      have := ih fun o m => all o (by simp [m])
      simp only [List.map_cons, Option.getD_some, List.count_cons, this, beq_iff_eq, Option.some.injEq]
/-- what is told is right -/
theorem dap_spec (hy : Hyp cs may must) : match dap cs may must with
    | .deal d => Full cs may d ∧ ∀ x ∈ must, d.count x = cs.getD x 0
    | .askers S => PaperA cs may S
    | .things T => PaperT cs may must T := by
  have h := seatAll_spec hy.rows hy.few may.length 0 (List.replicate may.length none) (by omega) part_start
  rw [List.drop_zero] at h
  unfold dap
  cases q : seatAll cs may (List.range may.length) (List.replicate may.length none) with
  | mk o d =>
    rw [q] at h
    cases o with
    | some S => exact h
    | none =>
      have f := fillAll_spec hy must (d.map fun o => o.getD 0) (fun x m => m) (full_of_part h hy.rows)
      simp only
      cases q2 : fillAll cs may must must (d.map fun o => o.getD 0) with
      | mk o2 d2 =>
        rw [q2] at f
        cases o2 with
        | some T => exact f
        | none => exact ⟨f.1, f.2.1⟩
end
end Deals

namespace PV
open PySem PySem.Spec PyProof.Rows L2

/-! ### environments, slot by slot -/
theorem er_nil {K : Fg} {H : Hp} : ER K [] H [] (fpOf []) := fun i f d h => by simp at h
theorem er_no {K : Fg} {H : Hp} {u : Option V} {σ : L2.St} {ε : Ev} {As : List (List Addr)} (h : ER K σ H ε (fpOf As)) : ER K (u :: σ) H (none :: ε) (fpOf ([] :: As)) := fun i f d e => by
  cases i with
  | zero => simp at e
  | succ i => exact h i f d (by simpa using e)
theorem er_in {K : Fg} {H : Hp} {v : V} {d : D} {A : List Addr} {σ : L2.St} {ε : Ev} {As : List (List Addr)} (t : Tr K true H v d A) (h : ER K σ H ε (fpOf As)) : ER K (some v :: σ) H (some (false, d) :: ε) (fpOf (A :: As)) := fun i f e q => by
  cases i with
  | zero =>
    simp only [List.getElem?_cons_zero, Option.some.injEq, Prod.mk.injEq] at q
    obtain ⟨rfl, rfl⟩ := q
    exact ⟨v, rfl, t⟩
  | succ i => exact h i f e (by simpa using q)

/-! ### two objects change -/
def Ch (a b : Addr) (H H' : Hp) : Prop := ∀ c o, c ≠ a → c ≠ b → H c = some o → H' c = some o
theorem Ch.refl {a b : Addr} {H : Hp} : Ch a b H H := fun _ _ _ _ h => h
theorem Ch.trans {a b : Addr} {H H1 H2 : Hp} (h : Ch a b H H1) (g : Ch a b H1 H2) : Ch a b H H2 := fun c o h1 h2 e => g c o h1 h2 (h c o h1 h2 e)
theorem Ch.of_same {a b : Addr} {H H' : Hp} (h : Same H H') : Ch a b H H' := fun c o _ _ e => h c o e
theorem Ch.upd1 {a b : Addr} {H : Hp} {o : HO} : Ch a b H (upd H a o) := fun c u h1 _ e => by rw [upd_ne h1]; exact e
theorem Ch.upd2 {a b : Addr} {H : Hp} {o : HO} : Ch a b H (upd H b o) := fun c u _ h2 e => by rw [upd_ne h2]; exact e
theorem Ch.keep {a b : Addr} {H H' : Hp} {A : List Addr} {xs : List V} {kvs : List (Key × V)} (h : Ch a b H H') (ea : H a = some (.lst xs)) (eb : H b = some (.dK kvs)) (na : a ∉ A) (nb : b ∉ A) : Keep A H H' := fun c o e m => by
  refine h c o ?_ ?_ e
  · rintro rfl
    rcases m with m | m
    · exact na m
    · rw [ea] at e
      cases e
      exact m.not
  · rintro rfl
    rcases m with m | m
    · exact nb m
    · rw [eb] at e
      cases e
      rcases m with ⟨_, m⟩ | ⟨_, _, m⟩ <;> cases m

/-! ### a loop, with an invariant by hand -/
def tForW (K : Fg) (G : FA) (S : List Nat) (g : TG) (tb : TS) : TS := fun De σ H => ∃ ε fp ds, ER K σ H ε fp ∧ G ε = some ds ∧ ∀ H' A, Same H H' → Als H fp S A → (∀ a ∈ A, ∃ o, H' a = some o) → ∃ W : Nat → L2.St → Hp → Prop,
  W 0 σ H' ∧ (∀ i σ2 H2, W i σ2 H2 → Keep A H' H2) ∧ (∀ σ2 H2, W ds.length σ2 H2 → De.nx σ2 H2) ∧
  ∀ (i : Nat) (hi : i < ds.length) σ2 H2, W i σ2 H2 → ∀ x H3 B, Same H2 H3 → Tr K true H3 x ds[i] B → (∀ b ∈ B, b ∈ A) → g x σ2 H3 fun σ4 H4 => tb { De with nx := W (i + 1), ct := W (i + 1), bk := De.nx } σ4 H4
theorem ps_forW {X : Cx} {tg it : Expr} {body : List Stmt} {pos : Pos} {G : FA} {S : List Nat} {g : TG} {tb : TS} (hp : PassesOwn (model X.prog X.w) X.A X.env X.xe) (hc : X.calm = true) (hi : IA X tg it G S) (hg : PG X tg g) (hb : PSs X body tb)
    (hs : ∀ x, foldedSetIterable it X.env x = pure x := by intro _; rfl) : PS X (.For tg it body [] pos) (tForW X.K G S g tb) := ps_imp (ps_for hp hc hi hg hb hs) fun De σ H ⟨ε, fp, ds, er, e1, k⟩ => by
  refine ⟨ε, fp, ds, er, e1, fun J H' A sm al dom y => ?_⟩
  obtain ⟨W, w0, wk, wn, wb⟩ := k H' A sm al dom
  refine ⟨fun i m σ2 H2 => m = ds.length - i ∧ i ≤ ds.length ∧ W i σ2 H2, ⟨ds.length, rfl, Nat.zero_le _, w0⟩, ?_⟩
  rintro i m σ2 H2 ⟨rfl, hi, w⟩
  obtain ⟨y1, y2⟩ := y H2 (wk i σ2 H2 w) i
  by_cases hlt : i < ds.length
  · obtain ⟨go, yl⟩ := y1 ds[i] (List.getElem?_eq_getElem hlt)
    refine .inr ⟨go, W (i + 1), fun σ' H'' w' => ⟨ds.length - (i + 1), by omega, rfl, hlt, w'⟩, fun x H3 hy => ?_⟩
    obtain ⟨g3, Bf, t3, sub⟩ := yl x H3 hy
    exact wb i hlt σ2 H2 w x H3 Bf g3 t3 sub
  · have : i = ds.length := by omega
    subst this
    exact .inl ⟨y2 (Nat.le_refl _), wn σ2 H2 w⟩

/-! ### trees of the deals -/
def cntD (cs : List Nat) : D := .list (cs.map fun c => .int (c : Nat))
def mayD (may : List (List Nat)) : D := .list (may.map cntD)
def optD : Option Nat → D
  | none => .none
  | some t => .int (t : Nat)
def optV : Option Nat → V
  | none => .non
  | some t => .int (t : Nat)
def dealD (deal : Deals.Pt) : D := .list (deal.map optD)
theorem tr_opt {K : Fg} {k : Bool} {H : Hp} (o : Option Nat) : Tr K k H (optV o) (optD o) [] := by
  cases o with
  | none => exact .non
  | some t => exact .int _
theorem tr_opts {K : Fg} {k : Bool} {H : Hp} : ∀ deal : Deals.Pt, TrA K k H (deal.map optV) (deal.map optD) []
  | [] => .nil
  | o :: l => .cons (A := []) (tr_opt o) (tr_opts l)
theorem tr_deal {K : Fg} {k : Bool} {H : Hp} {a : Addr} {deal : Deals.Pt} (h : H a = some (.lst (deal.map optV))) : Tr K k H (.ref a) (dealD deal) [a] := .lst (.inl h) (tr_opts deal)
def seenK (t : Nat) : Key × V := (.inl (t : Nat), .bl true)
theorem seen_val (s : List Nat) (t : Nat) : valV (s.map seenK) (.inl (t : Nat)) = if t ∈ s then some (.bl true) else none := by
  induction s with
  | nil => simp [valV]
  | cons x s ih =>
    rw [List.map_cons]
    by_cases h : x = t
    · subst h
      rw [valV_pos (show (seenK x).1 = Sum.inl (x : Int) from rfl)]
      simp [seenK]
    · rw [valV_neg (by simp [seenK]; omega), ih]
      have : t ≠ x := fun z => h z.symm
      simp [this]
theorem seen_put {s : List Nat} {t : Nat} (h : t ∉ s) : putK (s.map seenK) (.inl (t : Nat)) (.bl true) = (s ++ [t]).map seenK := by
  unfold putK
  rw [valV_any, seen_val, if_neg h]
  simp [seenK]
theorem nodup_le : ∀ {s l : List Nat}, s.Nodup → (∀ x ∈ s, x ∈ l) → s.length ≤ l.length
  | [], l, _, _ => Nat.zero_le _
  | x :: s, l, nd, h => by
    obtain ⟨n1, n2⟩ := List.nodup_cons.mp nd
    have := nodup_le (s := s) (l := l.erase x) n2 fun y m => (List.mem_erase_of_ne (fun z => n1 (by rw [← z]; exact m))).mpr (h y (by simp [m]))
    have m := h x (by simp)
    rw [List.length_erase_of_mem m] at this
    have := List.length_pos_of_mem m
    simp only [List.length_cons]
    omega
theorem seen_len {s : List Nat} {n : Nat} (nd : s.Nodup) (h : ∀ x ∈ s, x ≤ n) : s.length ≤ n + 1 := by
  have := nodup_le (l := List.range (n + 1)) nd fun x m => by simp; have := h x m; omega
  simpa using this
theorem count_opt (deal : Deals.Pt) (t : Nat) : (deal.map optD).countP (fun z => PyData.eqv z (.int (t : Nat))) = deal.count (some t) := by
  rw [List.countP_map, List.count]
  refine List.countP_congr fun o _ => ?_
  cases o with
  | none => simp [optD, PyData.eqv]
  | some x => simp [optD, PyData.eqv]; omega
theorem shp_opt {n : Nat} (o : Option Nat) : shp n (optD o) := by
  cases o <;> simp [optD]
theorem shp_deal (deal : Deals.Pt) : SeqAt.shaped (dealD deal) = true := (shp_list (n := 0) fun d m => by
  obtain ⟨o, _, rfl⟩ := List.mem_map.mp m
  exact shp_opt o).ok (by decide)
theorem shp_i (i : Int) : SeqAt.shaped (.int i) = true := (shp_int (n := 0)).ok (by decide)
theorem shp_o (o : Option Nat) : SeqAt.shaped (optD o) = true := (shp_opt (n := 0) o).ok (by decide)
theorem has_room_eq {cs : List Nat} {deal : Deals.Pt} {t : Nat} (h : t ≤ cs.length) : s_has_room [cntD cs, dealD deal, .int (t : Nat)] = some (.bool (Deals.room cs deal t)) := by
  have sd := shp_deal deal
  unfold dealD at sd
  by_cases e : t = cs.length
  · subst e
    simp [s_has_room, runF, startE, b_has_room, retS, boolD, orT, bin, varD, callD, consA, nilA, eqD, lenD, cntD, outD, shp_i, Deals.room]
  · have h2 : t < cs.length := by omega
    have e2 : ¬ ((t : Int) = (cs.length : Int)) := by omega
    simp [s_has_room, runF, startE, b_has_room, retS, boolD, orT, bin, varD, callD, consA, nilA, eqD, lenD, cntD, dealD, countD, idxD, ltD, outD, shp_i, sd, e, e2, h2, atI_nat, Deals.room]
    rw [← List.countP_map, count_opt]

/-! ### what is_seated is promised -/
def SeenOk (cs s : List Nat) : Prop := s.Nodup ∧ ∀ x ∈ s, x ≤ cs.length
theorem holders_ok {P : List Nat → Prop} {rec : Nat → List Nat → Option Deals.Pt × List Nat} {deal : Deals.Pt} {t : Nat} (hr : ∀ h s, P s → P (rec h s).2) : ∀ l seen, P seen → P (Deals.holders rec deal t l seen).2
  | [], seen, h => h
  | a :: l, seen, h => by
    unfold Deals.holders
    have := hr a seen h
    split
    · split
      · rename_i q
        rw [q] at this
        exact this
      · rename_i q
        rw [q] at this
        exact holders_ok hr l _ this
    · exact holders_ok hr l _ h
theorem things_ok {P : List Nat → Prop} {cs : List Nat} {hold : Nat → List Nat → Option Deals.Pt × List Nat} {deal : Deals.Pt} {a : Nat} (hh : ∀ t s, P s → P (hold t s).2) : ∀ l seen, (∀ t ∈ l, ∀ s, t ∉ s → P s → P (s ++ [t])) → P seen → P (Deals.things cs hold deal a l seen).2
  | [], seen, _, h => h
  | t :: l, seen, hp, h => by
    have hp2 : ∀ t ∈ l, ∀ s, t ∉ s → P s → P (s ++ [t]) := fun u m => hp u (by simp [m])
    unfold Deals.things
    split
    · exact things_ok hh l _ hp2 h
    · rename_i hn
      have h2 := hp t (by simp) seen hn h
      split
      · exact h2
      · have := hh t _ h2
        split
        · rename_i q
          rw [q] at this
          exact this
        · rename_i q
          rw [q] at this
          exact things_ok hh l _ hp2 this
theorem seen_add {cs s : List Nat} {t : Nat} (h : SeenOk cs s) (ht : t ≤ cs.length) (hn : t ∉ s) : SeenOk cs (s ++ [t]) := by
  refine ⟨List.nodup_append.mpr ⟨h.1, by simp, fun x m y m2 e => ?_⟩, fun x m => ?_⟩
  · rw [List.mem_singleton] at m2
    subst m2 e
    exact hn m
  · rcases List.mem_append.mp m with m | m
    · exact h.2 x m
    · rw [List.mem_singleton] at m
      omega
theorem row_mem {may : List (List Nat)} {P : Nat → Prop} (hm : ∀ row ∈ may, ∀ t ∈ row, P t) {a t : Nat} (h : t ∈ may.getD a []) : P t := by
  rw [List.getD_eq_getElem?_getD] at h
  by_cases ha : a < may.length
  · rw [List.getElem?_eq_getElem ha] at h
    exact hm _ (List.getElem_mem ha) t h
  · rw [List.getElem?_eq_none (by omega)] at h
    simp at h
theorem seat_ok {cs : List Nat} {may : List (List Nat)} (hm : ∀ row ∈ may, ∀ t ∈ row, t ≤ cs.length) : ∀ (n : Nat) (deal : Deals.Pt) (a : Nat) (seen : List Nat), SeenOk cs seen → SeenOk cs (Deals.seat cs may n deal a seen).2
  | 0, _, _, _, h => h
  | n + 1, deal, a, seen, h => things_ok (P := SeenOk cs) (fun t s hs => holders_ok (P := SeenOk cs) (fun b s hs => seat_ok hm n deal b s hs) _ _ hs) _ _ (fun t m s hn hs => seen_add hs (row_mem hm m) hn) h
structure SeatIn (K : Fg) (cs : List Nat) (may : List (List Nat)) (n : Nat) (H : Hp) (vc vm : V) (ad as : Addr) (a : Nat) (deal : Deals.Pt) (seen : List Nat) (Ac Am : List Addr) : Prop where
  tc : Tr K true H vc (cntD cs) Ac
  tm : Tr K true H vm (mayD may) Am
  ed : H ad = some (.lst (deal.map optV))
  es : H as = some (.dK (seen.map seenK))
  ndc : ad ∉ Ac
  ndm : ad ∉ Am
  nsc : as ∉ Ac
  nsm : as ∉ Am
  la : a < deal.length
  ll : deal.length = may.length
  lm : may.length ≤ 1000
  lc : cs.length ≤ 1000
  rows : ∀ row ∈ may, ∀ t ∈ row, t ≤ cs.length
  so : SeenOk cs seen
  rk : Deals.rank cs seen < n
def spSeat (K : Fg) (n : Nat) : Sp := fun vs H Q _ => ∃ cs may vc vm ad as a deal seen Ac Am, vs = [vc, vm, .ref ad, .int (a : Nat), .ref as] ∧ SeatIn K cs may n H vc vm ad as a deal seen Ac Am ∧
  ∀ H', Ch ad as H H' → H' ad = some (.lst (((Deals.seat cs may n deal a seen).1.getD deal).map optV)) → H' as = some (.dK ((Deals.seat cs may n deal a seen).2.map seenK)) → Q (.bl (Deals.seat cs may n deal a seen).1.isSome) H'
section
variable {K : Fg} {cs : List Nat} {may : List (List Nat)} {n : Nat} {H H' : Hp} {vc vm : V} {ad as : Addr} {a : Nat} {deal : Deals.Pt} {seen : List Nat} {Ac Am : List Addr}
theorem SeatIn.ne (h : SeatIn K cs may n H vc vm ad as a deal seen Ac Am) : ad ≠ as := by
  rintro rfl
  have := h.ed.symm.trans h.es
  cases this
theorem SeatIn.next (h : SeatIn K cs may n H vc vm ad as a deal seen Ac Am) (c : Ch ad as H H') {s2 : List Nat} (ed : H' ad = some (.lst (deal.map optV))) (es : H' as = some (.dK (s2.map seenK))) {m b : Nat} (so : SeenOk cs s2) (rk : Deals.rank cs s2 < m) (lb : b < deal.length) : SeatIn K cs may m H' vc vm ad as b deal s2 Ac Am :=
  ⟨h.tc.keep (c.keep h.ed h.es h.ndc h.nsc), h.tm.keep (c.keep h.ed h.es h.ndm h.nsm), ed, es, h.ndc, h.ndm, h.nsc, h.nsm, lb, h.ll, h.lm, h.lc, h.rows, so, rk⟩
theorem SeatIn.same (h : SeatIn K cs may n H vc vm ad as a deal seen Ac Am) (g : Same H H') : SeatIn K cs may n H' vc vm ad as a deal seen Ac Am := h.next (.of_same g) (g _ _ h.ed) (g _ _ h.es) h.so h.rk h.la
theorem SeatIn.er (h : SeatIn K cs may n H vc vm ad as a deal seen Ac Am) {t5 t6 : Option V} {e5 e6 : Option (Bool × D)} {fs : List (List Addr)} (r : ER K [t5, t6] H [e5, e6] (fpOf fs)) :
    ER K [some vc, some vm, some (.ref ad), some (.int (a : Nat)), some (.ref as), t5, t6] H [some (false, cntD cs), some (false, mayD may), some (false, dealD deal), some (false, .int (a : Nat)), none, e5, e6] (fpOf (Ac :: Am :: [ad] :: [] :: [] :: fs)) :=
  er_in h.tc (er_in h.tm (er_in (tr_deal h.ed) (er_in (.int _) (er_no r))))
theorem er2_no {t5 t6 : Option V} : ER K [t5, t6] H [none, none] (fpOf [[], []]) := er_no (er_no er_nil)
theorem er2_1 {t : Nat} {t6 : Option V} : ER K [some (.int (t : Nat)), t6] H [some (false, .int (t : Nat)), none] (fpOf [[], []]) := er_in (.int _) (er_no er_nil)
theorem er2_2 {t u : Nat} : ER K [some (.int (t : Nat)), some (.int (u : Nat))] H [some (false, .int (t : Nat)), some (false, .int (u : Nat))] (fpOf [[], []]) := er_in (.int _) (er_in (.int _) er_nil)
/-- an alias of may's lists is neither the deal nor the seen -/
theorem SeatIn.not (h : SeatIn K cs may n H vc vm ad as a deal seen Ac Am) {fs : List (List Addr)} {A : List Addr} (al : Als H (fpOf (Ac :: Am :: fs)) [1] A) : ad ∉ A ∧ as ∉ A := by
  refine ⟨fun m => ?_, fun m => ?_⟩
  · rcases al _ m with e | ⟨i, mi, e⟩
    · rw [h.ed] at e; cases e
    · rw [List.mem_singleton] at mi
      subst mi
      exact h.ndm e
  · rcases al _ m with e | ⟨i, mi, e⟩
    · rw [h.es] at e; cases e
    · rw [List.mem_singleton] at mi
      subst mi
      exact h.nsm e
end
theorem holders_some_len {rec : Nat → List Nat → Option Deals.Pt × List Nat} {deal : Deals.Pt} {t : Nat} {m : Nat} (hr : ∀ h s d, (rec h s).1 = some d → d.length = m) : ∀ l seen d, (Deals.holders rec deal t l seen).1 = some d → d.length = m
  | [], seen, d, h => by simp [Deals.holders] at h
  | a :: l, seen, d, h => by
    unfold Deals.holders at h
    have := hr a seen
    split at h
    · split at h
      · rename_i q
        rw [q] at this
        exact this _ h
      · exact holders_some_len hr l _ d h
    · exact holders_some_len hr l _ d h
theorem things_some_len {cs : List Nat} {hold : Nat → List Nat → Option Deals.Pt × List Nat} {deal : Deals.Pt} {a : Nat} (hr : ∀ h s d, (hold h s).1 = some d → d.length = deal.length) : ∀ l seen d, (Deals.things cs hold deal a l seen).1 = some d → d.length = deal.length
  | [], seen, d, h => by simp [Deals.things] at h
  | t :: l, seen, d, h => by
    unfold Deals.things at h
    split at h
    · exact things_some_len hr l _ d h
    · split at h
      · simp only [Option.some.injEq] at h
        rw [← h, List.length_set]
      · have := hr t (seen ++ [t])
        split at h
        · rename_i q
          rw [q] at this
          simp only [Option.some.injEq] at h
          rw [← h, List.length_set]
          exact this _ rfl
        · exact things_some_len hr l _ d h
theorem seat_len {cs : List Nat} {may : List (List Nat)} : ∀ (n : Nat) (deal : Deals.Pt) (a : Nat) (seen : List Nat) (d : Deals.Pt), (Deals.seat cs may n deal a seen).1 = some d → d.length = deal.length
  | 0, _, _, _, _, h => by simp [Deals.seat] at h
  | n + 1, deal, a, seen, d, h => things_some_len (fun t s d h => holders_some_len (fun b s d h => seat_len n deal b s d h) _ _ _ h) _ _ _ h
theorem map_set_opt {deal : Deals.Pt} {a t : Nat} : (deal.map optV).set a (.int (t : Nat)) = (deal.set a (some t)).map optV := by
  rw [List.map_set]
  rfl
theorem ixN_nn {n k : Nat} (h : k < n) : ixN n (k : Int) = some k := by
  rw [ixN_nat (by omega) (by omega)]
  rfl
theorem eqD_opt (o : Option Nat) (t : Nat) : eqD (optD o) (.int (t : Nat)) = some (decide (o = some t)) := by
  unfold eqD
  rw [if_pos ⟨shp_o o, shp_i _⟩]
  cases o with
  | none => simp [optD]
  | some x => simp [optD]; omega
theorem small1001 {n m : Nat} (h : n ≤ m + 1) (g : m ≤ 1000) : n < sizeLine := Nat.lt_of_le_of_lt (show n ≤ 1001 by omega) (by decide)
theorem range_len {i : Nat} {ds : List D} {ε : Ev} (h : varD i ε = some (.list ds)) (hl : ds.length ≤ 1000) : rangeD (consA (callD lenD (consA (varD i) nilA)) nilA) ε = some ((List.range ds.length).map fun j : Nat => .int (j : Nat)) := by
  have e1 : consA (callD lenD (consA (varD i) nilA)) nilA ε = some [.int (ds.length : Nat)] := by
    unfold callD consA nilA
    simp [h, lenD]
  unfold rangeD
  rw [e1, Option.bind_some]
  have : -(2 ^ 62 : Int) ≤ (ds.length : Int) ∧ (ds.length : Int) < 2 ^ 62 := by omega
  simp only [if_pos this, Int.toNat_natCast]
end PV

namespace PV
open PySem PySem.Spec PyProof.Rows L2
/-! ### what is_brought is promised -/
def natV (t : Nat) : V := .int (t : Nat)
theorem tr_nats {K : Fg} {k : Bool} {H : Hp} : ∀ l : List Nat, TrA K k H (l.map natV) (l.map fun t : Nat => .int (t : Nat)) []
  | [] => .nil
  | o :: l => .cons (A := []) (.int _) (tr_nats l)
theorem tr_cnt {K : Fg} {k : Bool} {H : Hp} {a : Addr} {l : List Nat} (h : H a = some (.lst (l.map natV))) : Tr K k H (.ref a) (cntD l) [a] := .lst (.inl h) (tr_nats l)
theorem shp_cnt (l : List Nat) : SeqAt.shaped (cntD l) = true := (shp_list (n := 0) fun d m => by
  obtain ⟨o, _, rfl⟩ := List.mem_map.mp m
  exact shp_int).ok (by decide)
theorem inD_cnt (t : Nat) (l : List Nat) : inD (.int (t : Nat)) (cntD l) = some (decide (t ∈ l)) := by
  have h := shp_cnt l
  unfold cntD at h ⊢
  unfold inD
  simp only [shp_i, h, and_self, if_true]
  congr 1
  induction l with
  | nil => rfl
  | cons x l ih =>
    rw [List.map_cons, List.any_cons, ih (shp_cnt l)]
    simp only [eqv_ii, List.mem_cons]
    by_cases e : t = x
    · simp [e]
    · have : ¬ ((x : Int) = (t : Int)) := by omega
      simp [e, this]
theorem notInD_cnt (t : Nat) (l : List Nat) : notInD (.int (t : Nat)) (cntD l) = some (decide (t ∉ l)) := by
  unfold notInD
  rw [inD_cnt]
  simp
theorem brs_ok {P : List Nat → Prop} {rec : Nat → List Nat → Option (List Nat) × List Nat} {may : List (List Nat)} {must deal : List Nat} {t : Nat} (hr : ∀ h s, P s → P (rec h s).2) (hp : ∀ h s, h ∈ must → h ∉ s → P s → P (s ++ [h])) : ∀ l seen, P seen → P (Deals.brs rec may must deal t l seen).2
  | [], seen, h => h
  | a :: l, seen, h => by
    unfold Deals.brs
    split
    · exact brs_ok hr hp l _ h
    · rename_i hn
      split
      · exact h
      · rename_i hm
        have h2 := hp (deal.getD a 0) seen (by simpa using hm) (fun z => hn (.inr z)) h
        have := hr (deal.getD a 0) _ h2
        split
        · rename_i q
          rw [q] at this
          exact this
        · rename_i q
          rw [q] at this
          exact brs_ok hr hp l _ this
theorem bring_ok {cs : List Nat} {may : List (List Nat)} {must : List Nat} (hm : ∀ t ∈ must, t ≤ cs.length) : ∀ (n : Nat) (deal : List Nat) (t : Nat) (seen : List Nat), SeenOk cs seen → SeenOk cs (Deals.bring may must n deal t seen).2
  | 0, _, _, _, h => h
  | n + 1, deal, t, seen, h => brs_ok (P := SeenOk cs) (fun b s hs => bring_ok hm n deal b s hs) (fun b s m hn hs => seen_add hs (hm b m) hn) _ _ h
theorem brs_len {rec : Nat → List Nat → Option (List Nat) × List Nat} {may : List (List Nat)} {must deal : List Nat} {t : Nat} (hr : ∀ h s d, (rec h s).1 = some d → d.length = deal.length) : ∀ l seen d, (Deals.brs rec may must deal t l seen).1 = some d → d.length = deal.length
  | [], seen, d, h => by simp [Deals.brs] at h
  | a :: l, seen, d, h => by
    unfold Deals.brs at h
    split at h
    · exact brs_len hr l _ d h
    · split at h
      · simp only [Option.some.injEq] at h
        rw [← h, List.length_set]
      · have := hr (deal.getD a 0) (seen ++ [deal.getD a 0])
        split at h
        · rename_i q
          rw [q] at this
          simp only [Option.some.injEq] at h
          rw [← h, List.length_set]
          exact this _ rfl
        · exact brs_len hr l _ d h
theorem bring_len {may : List (List Nat)} {must : List Nat} : ∀ (n : Nat) (deal : List Nat) (t : Nat) (seen : List Nat) (d : List Nat), (Deals.bring may must n deal t seen).1 = some d → d.length = deal.length
  | 0, _, _, _, _, h => by simp [Deals.bring] at h
  | n + 1, deal, t, seen, d, h => brs_len (fun b s d h => bring_len n deal b s d h) _ _ _ h
structure BringIn (K : Fg) (cs : List Nat) (may : List (List Nat)) (must : List Nat) (n : Nat) (H : Hp) (vm vu : V) (ad as : Addr) (t : Nat) (deal : List Nat) (seen : List Nat) (Am Au : List Addr) : Prop where
  tm : Tr K true H vm (mayD may) Am
  tu : Tr K true H vu (cntD must) Au
  ed : H ad = some (.lst (deal.map natV))
  es : H as = some (.dK (seen.map seenK))
  ndm : ad ∉ Am
  ndu : ad ∉ Au
  nsm : as ∉ Am
  nsu : as ∉ Au
  ll : deal.length = may.length
  lm : may.length ≤ 1000
  lc : cs.length ≤ 1000
  mu : ∀ t ∈ must, t ≤ cs.length
  so : SeenOk cs seen
  rk : Deals.rank cs seen < n
def spBring (K : Fg) (n : Nat) : Sp := fun vs H Q _ => ∃ cs may must vm vu ad as t deal seen Am Au, vs = [vm, vu, .ref ad, .int (t : Nat), .ref as] ∧ BringIn K cs may must n H vm vu ad as t deal seen Am Au ∧
  ∀ H', Ch ad as H H' → H' ad = some (.lst (((Deals.bring may must n deal t seen).1.getD deal).map natV)) → H' as = some (.dK ((Deals.bring may must n deal t seen).2.map seenK)) → Q (.bl (Deals.bring may must n deal t seen).1.isSome) H'
section
variable {K : Fg} {cs : List Nat} {may : List (List Nat)} {must : List Nat} {n : Nat} {H H' : Hp} {vm vu : V} {ad as : Addr} {t : Nat} {deal : List Nat} {seen : List Nat} {Am Au : List Addr}
theorem BringIn.ne (h : BringIn K cs may must n H vm vu ad as t deal seen Am Au) : ad ≠ as := by
  rintro rfl
  have := h.ed.symm.trans h.es
  cases this
theorem BringIn.next (h : BringIn K cs may must n H vm vu ad as t deal seen Am Au) (c : Ch ad as H H') {s2 : List Nat} (ed : H' ad = some (.lst (deal.map natV))) (es : H' as = some (.dK (s2.map seenK))) {m b : Nat} (so : SeenOk cs s2) (rk : Deals.rank cs s2 < m) : BringIn K cs may must m H' vm vu ad as b deal s2 Am Au :=
  have lk : ∀ {A : List Addr}, ad ∉ A → as ∉ A → Keep A H H' := fun na nb => c.keep h.ed h.es na nb
  ⟨h.tm.keep (lk h.ndm h.nsm), h.tu.keep (lk h.ndu h.nsu), ed, es, h.ndm, h.ndu, h.nsm, h.nsu, h.ll, h.lm, h.lc, h.mu, so, rk⟩
theorem BringIn.same (h : BringIn K cs may must n H vm vu ad as t deal seen Am Au) (g : Same H H') : BringIn K cs may must n H' vm vu ad as t deal seen Am Au := h.next (.of_same g) (g _ _ h.ed) (g _ _ h.es) h.so h.rk
theorem BringIn.er (h : BringIn K cs may must n H vm vu ad as t deal seen Am Au) {t5 t6 : Option V} {e5 e6 : Option (Bool × D)} {fs : List (List Addr)} (r : ER K [t5, t6] H [e5, e6] (fpOf fs)) :
    ER K [some vm, some vu, some (.ref ad), some (.int (t : Nat)), some (.ref as), t5, t6] H [some (false, mayD may), some (false, cntD must), some (false, cntD deal), some (false, .int (t : Nat)), none, e5, e6] (fpOf (Am :: Au :: [ad] :: [] :: [] :: fs)) :=
  er_in h.tm (er_in h.tu (er_in (tr_cnt h.ed) (er_in (.int _) (er_no r))))
end
theorem map_set_nat {deal : List Nat} {a t : Nat} : (deal.map natV).set a (.int (t : Nat)) = (deal.set a t).map natV := by
  rw [List.map_set]
  rfl
theorem not_als {H : Hp} {fp : Nat → List Addr} {A : List Addr} {a : Addr} {o : HO} (e : H a = some o) (al : Als H fp [] A) : a ∉ A := fun m => by
  rcases al _ m with z | ⟨i, mi, _⟩
  · rw [e] at z; cases z
  · simp at mi
end PV

namespace PV
open PySem PySem.Spec PyProof.Rows L2
/-! ### trees read as numbers -/
def natOf : D → Option Nat
  | .int i => if 0 ≤ i then some i.toNat else none
  | _ => none
def natsOf : D → Option (List Nat)
  | .list ds => ds.mapM natOf
  | _ => none
def rowsOf : D → Option (List (List Nat))
  | .list ds => ds.mapM natsOf
  | _ => none
theorem natOf_some {d : D} {n : Nat} (h : natOf d = some n) : d = .int (n : Nat) := by
  cases d with
  | int i =>
    simp only [natOf, Option.ite_none_right_eq_some, Option.some.injEq] at h
    rw [← h.2, Int.toNat_of_nonneg h.1]
  | _ => cases h
@[simp] theorem natOf_nat (n : Nat) : natOf (.int (n : Nat)) = some n := by simp [natOf]
theorem mapM_some {α β : Type} {f : α → Option β} {g : β → α} (hf : ∀ a b, f a = some b → a = g b) : ∀ {l : List α} {r : List β}, l.mapM f = some r → l = r.map g
  | [], r, h => by
    rw [List.mapM_nil] at h
    cases h
    rfl
  | a :: l, r, h => by
    rw [List.mapM_cons] at h
    simp only [Option.bind_eq_bind, Option.bind_eq_some_iff, Option.pure_def, Option.some.injEq] at h
    obtain ⟨b, h1, r2, h2, rfl⟩ := h
    rw [List.map_cons, ← hf a b h1, ← mapM_some hf h2]
theorem mapM_map {α β : Type} {f : α → Option β} {g : β → α} (hf : ∀ b, f (g b) = some b) : ∀ r : List β, (r.map g).mapM f = some r
  | [] => rfl
  | b :: r => by
    rw [List.map_cons, List.mapM_cons, hf b, mapM_map hf r]
    rfl
theorem natsOf_some {d : D} {l : List Nat} (h : natsOf d = some l) : d = cntD l := by
  cases d with
  | list ds => rw [mapM_some (g := fun n : Nat => PyData.int (n : Nat)) (fun a b => natOf_some) h]; rfl
  | _ => cases h
@[simp] theorem natsOf_cnt (l : List Nat) : natsOf (cntD l) = some l := mapM_map (g := fun n : Nat => PyData.int (n : Nat)) natOf_nat l
theorem rowsOf_some {d : D} {l : List (List Nat)} (h : rowsOf d = some l) : d = mayD l := by
  cases d with
  | list ds => rw [mapM_some (g := cntD) (fun a b => natsOf_some) h]; rfl
  | _ => cases h
@[simp] theorem rowsOf_may (l : List (List Nat)) : rowsOf (mayD l) = some l := mapM_map natsOf_cnt l
/-! ### deal_and_paper -/
def HypB (cs : List Nat) (may : List (List Nat)) (must : List Nat) : Prop := cs.length ≤ 6 ∧ may.length ≤ 1000 ∧ (∀ row ∈ may, ∀ t ∈ row, t ≤ cs.length) ∧ (∀ x ∈ must, x < cs.length) ∧ ∀ x ∈ cs, x < 100
instance (cs : List Nat) (may : List (List Nat)) (must : List Nat) : Decidable (HypB cs may must) := by unfold HypB; infer_instance
def outT : Deals.Out → D
  | .deal d => .tuple [cntD d, .none]
  | .askers S => .tuple [.none, .tuple [.str "askers", cntD S]]
  | .things S => .tuple [.none, .tuple [.str "things", cntD S]]
def s_deal_and_paper : List D → Option D
  | [a, b, c] => (natsOf a).bind fun cs => (rowsOf b).bind fun may => (natsOf c).bind fun must => if HypB cs may must then some (outT (Deals.dap cs may must)) else none
  | _ => none
theorem dap_some {ds : List D} {r : D} (h : s_deal_and_paper ds = some r) : ∃ cs may must, ds = [cntD cs, mayD may, cntD must] ∧ HypB cs may must ∧ r = outT (Deals.dap cs may must) := by
  unfold s_deal_and_paper at h
  split at h
  · obtain ⟨cs, h1, h⟩ := Option.bind_eq_some_iff.mp h
    obtain ⟨may, h2, h⟩ := Option.bind_eq_some_iff.mp h
    obtain ⟨must, h3, h⟩ := Option.bind_eq_some_iff.mp h
    simp only [Option.ite_none_right_eq_some, Option.some.injEq] at h
    exact ⟨cs, may, must, by rw [natsOf_some h1, rowsOf_some h2, natsOf_some h3], h.1, h.2.symm⟩
  · cases h
theorem dap_eq {cs : List Nat} {may : List (List Nat)} {must : List Nat} (h : HypB cs may must) : s_deal_and_paper [cntD cs, mayD may, cntD must] = some (outT (Deals.dap cs may must)) := by
  simp [s_deal_and_paper, h]
theorem HypB.hyp {cs : List Nat} {may : List (List Nat)} {must : List Nat} (h : HypB cs may must) : Deals.Hyp cs may must := ⟨h.1, h.2.2.1, h.2.2.2.1, fun x => by
  rw [List.getD_eq_getElem?_getD]
  by_cases hx : x < cs.length
  · rw [List.getElem?_eq_getElem hx]
    exact h.2.2.2.2 _ (List.getElem_mem hx)
  · rw [List.getElem?_eq_none (by omega)]
    exact Nat.zero_lt_succ _⟩
/-! ### one list changes -/
def Ch1 (a : Addr) (H H' : Hp) : Prop := ∀ c o, c ≠ a → H c = some o → H' c = some o
theorem Ch1.refl {a : Addr} {H : Hp} : Ch1 a H H := fun _ _ _ h => h
theorem Ch1.of_same {a : Addr} {H H' : Hp} (h : Same H H') : Ch1 a H H' := fun c o _ e => h c o e
theorem Ch1.trans {a : Addr} {H H1 H2 : Hp} (h : Ch1 a H H1) (g : Ch1 a H1 H2) : Ch1 a H H2 := fun c o h1 e => g c o h1 (h c o h1 e)
theorem Ch1.same {a : Addr} {H0 H H' : Hp} (h : Ch1 a H H') (g : Same H0 H) (n : H0 a = none) : Same H0 H' := fun c o e => h c o (by rintro rfl; rw [n] at e; cases e) (g c o e)
theorem Ch1.keep {a : Addr} {H H' : Hp} {A : List Addr} {xs : List V} (h : Ch1 a H H') (ea : H a = some (.lst xs)) (na : a ∉ A) : Keep A H H' := fun c o e m => by
  refine h c o ?_ e
  rintro rfl
  rcases m with m | m
  · exact na m
  · rw [ea] at e
    cases e
    exact m.not
theorem Ch.one {a b : Addr} {H0 H H' : Hp} (h : Ch a b H H') (g : Ch1 a H0 H) (n : H0 b = none) : Ch1 a H0 H' := fun c o h1 e => h c o h1 (by rintro rfl; rw [n] at e; cases e) (g c o h1 e)
theorem opt_nat {deal : Deals.Pt} (h : ∀ o ∈ deal, o ≠ none) : deal.map optV = (deal.map fun o => o.getD 0).map natV := by
  rw [List.map_map]
  refine List.map_congr_left fun o m => ?_
  cases o with
  | none => exact absurd rfl (h _ m)
  | some t => rfl
theorem part_all {cs : List Nat} {may : List (List Nat)} {deal : Deals.Pt} (p : Deals.Part cs may may.length deal) : ∀ o ∈ deal, o ≠ none := fun o m => by
  obtain ⟨j, hj, rfl⟩ := List.mem_iff_getElem.mp m
  obtain ⟨y, h, _⟩ := p.done j (by rw [← p.len]; exact hj) (by rw [← p.len]; exact hj)
  rw [List.getD_eq_getElem?_getD, List.getElem?_eq_getElem hj] at h
  intro e
  rw [e] at h
  cases h
theorem rank8 {cs : List Nat} (h : cs.length ≤ 6) {s : List Nat} : Deals.rank cs s < 8 := by
  have : Deals.rank cs s ≤ cs.length + 1 := by
    unfold Deals.rank
    exact Nat.le_trans (List.length_filter_le _ _) (by rw [List.length_range]; exact Nat.le_refl _)
  omega
theorem seen_nil {cs : List Nat} : SeenOk cs [] := ⟨List.nodup_nil, by simp⟩
theorem count_nat (deal : List Nat) (t : Nat) : (deal.map fun n : Nat => PyData.int (n : Nat)).countP (fun z => PyData.eqv z (.int (t : Nat))) = deal.count t := by
  rw [List.countP_map, List.count]
  refine List.countP_congr fun o _ => ?_
  simp
  omega
theorem getD_mapI {l : List Nat} {t : Nat} (h : t < l.length) : atI (l.map fun n : Nat => PyData.int (n : Nat)) (t : Int) = some (.int ((l.getD t 0 : Nat) : Int)) := by
  rw [atI_nat, List.getElem?_map, List.getD_eq_getElem?_getD, List.getElem?_eq_getElem h]
  rfl
/-- the askers that a paper names: what the comprehension yields -/
theorem some_comp {a : Nat} {s : List Nat} {deal : Deals.Pt} {ε : Ev} {i : Nat} {C : FT} (hC : ∀ ε' (one : Nat), (∀ j, j ≠ i → ε'[j]? = (wipeE ε [i])[j]?) → ε'[i]? = some (some (true, .int (one : Nat))) → one < deal.length → C ε' = some (decide (one = a) || Deals.inSeen s (deal.getD one none))) (hi : i < ε.length) :
    ∀ l : List Nat, (∀ x ∈ l, x < deal.length) → compL (nameT i) C (flatF (varD i)) (wipeE ε [i]) (l.map fun j : Nat => .int (j : Nat)) = some ((l.filter fun one => decide (one = a) || Deals.inSeen s (deal.getD one none)).map fun j : Nat => .int (j : Nat))
  | [], _ => rfl
  | x :: l, h => by
    have ih := some_comp hC hi l fun y m => h y (by simp [m])
    have e1 : nameT i (.int (x : Nat)) (wipeE ε [i]) = some ((wipeE ε [i]).set i (some (true, .int (x : Nat)))) := rfl
    have hi2 : i < (wipeE ε [i]).length := by
      show i < (ε.set i none).length
      rw [List.length_set]
      exact hi
    have e2 := hC ((wipeE ε [i]).set i (some (true, .int (x : Nat)))) x (fun j hj => by rw [List.getElem?_set_ne (Ne.symm hj)]) (by rw [List.getElem?_set_self hi2]) (h x (by simp))
    rw [List.map_cons, compL, e1, Option.bind_some, e2, Option.bind_some, ih]
    have e3 : flatF (varD i) ((wipeE ε [i]).set i (some (true, .int (x : Nat)))) = some (.int (x : Nat)) := by
      unfold flatF un varD
      rw [List.getElem?_set_self hi2]
      rfl
    rw [List.filter_cons]
    cases hb : (decide (x = a) || Deals.inSeen s (deal.getD x none)) with
    | true => rw [if_pos rfl, if_pos rfl, e3]; rfl
    | false => rw [if_neg Bool.false_ne_true, if_neg Bool.false_ne_true]
theorem ps_setLcT {X : Cx} {tg it elt : Expr} {ifs : List Expr} {scope : Scope} {own : List (Str × Nat)} {pos : Pos} {G : FA} {S : List Nat} {T : TD} {E : FE} {i : Nat} {y : Str} {py spos : Pos} (tt : L2.TT) (hc : X.calm = true) (hN : X.N.Nodup) (hiy : X.N[i]? = some y) (hy : X.env.scope.names.lookup y = some .local)
    (hsw : swapsWith (.ListComp elt [⟨tg, it, ifs, 0⟩] scope pos) (some (.Name y py)) spos.line X.env = pure true)
    (hi : IA X tg it G S) (ok : BlkOk X.N X.env.scope scope own) (hg : BlkPG X scope tg (gE X.K T (own.map (·.2)))) (ht : BlkPTs X scope ifs tt) (he : BlkPE X scope elt (tEF X.K E))
    (hs : ∀ x, foldedSetIterable it X.env x = pure x := by intro _; rfl) : PS X (.Assign [.Name y py] (.ListComp elt [⟨tg, it, ifs, 0⟩] scope pos) spos) (tAsg (tLc (iS X.K G S) (gE X.K T (own.map (·.2))) tt (tEF X.K E) (own.map (·.2))) (gName i)) :=
  ps_setLc hc hN hiy hy hsw hi ok hg ht he hs
theorem comp_none {i : Nat} {ε : Ev} : ∀ l : List D, compL (nameT i) yesT (cD .none) ε l = some (l.map fun _ => .none)
  | [] => rfl
  | x :: l => by
    rw [compL, comp_none l]
    rfl
theorem tr_optI {K : Fg} {k : Bool} {H : Hp} : ∀ {deal : Deals.Pt} {xs : List V} {B : List Addr}, TrA K k H xs (deal.map optD) B → xs = deal.map optV
  | [], _, _, t => by cases t; rfl
  | o :: l, _, _, t => by
    cases t with
    | cons t1 t2 =>
      rw [tr_optI t2]
      cases o with
      | none => cases t1; rfl
      | some n => cases t1; rfl
def inSeenD (s : List Nat) : D → Option Bool
  | .none => some false
  | d => (natOf d).map fun n => decide (n ∈ s)
def testC (s : List Nat) (i j k : Nat) : FT := fun ε => (bin eqD (varD i) (varD j) ε).bind fun b => if b = true then some true else (bin idxD (varD k) (varD i) ε).bind (inSeenD s)
theorem test_ok {K : Fg} {σ : L2.St} {H : Hp} {Q : Bool → Hp → Prop} {ε : Ev} {fp : Nat → List Addr} {b : Bool} {s : List Nat} {i j k l : Nat} {as : Addr} {S : List Nat} (er : ER K σ H ε fp) (hc : testC s i j k ε = some b) (hs : σ[l]? = some (some (.ref as))) (es : H as = some (.dK (s.map seenK))) (q : ∀ H', Same H H' → Q b H') :
    tOr (tET K (bin eqD (varD i) (varD j))) (tB (tDInN (tEA K (bin idxD (varD k) (varD i)) S) (tVar l))) σ H Q := by
  obtain ⟨b1, h1, h2⟩ := Option.bind_eq_some_iff.mp hc
  refine ⟨ε, fp, b1, er, h1, fun H6 g6 => ?_⟩
  cases b1 with
  | true =>
    rw [if_pos rfl] at h2
    cases h2
    exact iteT (q H6 g6)
  | false =>
    rw [if_neg Bool.false_ne_true] at h2
    obtain ⟨d, h3, h4⟩ := Option.bind_eq_some_iff.mp h2
    refine iteF ⟨ε, fp, d, er.same g6, h3, fun v H7 A g7 tv al => ⟨.ref as, hs, ?_⟩⟩
    have es7 := g7 _ _ (g6 _ _ es)
    have q7 := q H7 (g6.trans g7)
    unfold inSeenD at h4
    split at h4
    · cases h4
      cases tv
      exact .inr ⟨as, _, rfl, rfl, .inl es7, _, rfl, q7⟩
    · obtain ⟨n, h5, rfl⟩ := Option.map_eq_some_iff.mp h4
      have := natOf_some h5
      subst this
      have ev := tv.intI
      subst ev
      refine .inl ⟨as, _, rfl, DGet.k es7 (k := .inl (n : Nat)), _, rfl, ?_⟩
      rw [seen_val]
      by_cases hn : n ∈ s
      · rw [if_pos hn]
        rw [decide_eq_true hn] at q7
        exact q7
      · rw [if_neg hn]
        rw [decide_eq_false hn] at q7
        exact q7
theorem pair_none {K : Fg} {H0 H : Hp} {p q : Addr} {v : V} {d : D} {A : List Addr} {z : Str} (sm : Same H0 H) (t : Tr K false H v d A) (fr : Frs H0 H A) (hp : H p = none) (hq : upd H p (.tup [.str z, v]) q = none) :
    Same H0 (upd (upd H p (.tup [.str z, v])) q (.tup [.non, .ref p])) ∧ Tr K false (upd (upd H p (.tup [.str z, v])) q (.tup [.non, .ref p])) (.ref q) (.tuple [.none, .tuple [.str z, d]]) A ∧ Frs H0 (upd (upd H p (.tup [.str z, v])) q (.tup [.non, .ref p])) A := by
  have s1 : Same H (upd H p (.tup [.str z, v])) := same_upd hp
  have s2 : Same (upd H p (.tup [.str z, v])) (upd (upd H p (.tup [.str z, v])) q (.tup [.non, .ref p])) := same_upd hq
  refine ⟨(sm.trans s1).trans s2, ?_, fr.fwd (s1.trans s2)⟩
  have t1 : Tr K false (upd H p (.tup [.str z, v])) (.ref p) (.tuple [.str z, d]) A := by
    have := Tr.tup (K := K) (k := false) (H := upd H p (.tup [.str z, v])) (.inl (.inl upd_same)) (.cons (.str z) (.cons (t.same s1) .nil))
    simpa using this
  have := Tr.tup (K := K) (k := false) (H := upd (upd H p (.tup [.str z, v])) q (.tup [.non, .ref p])) (.inl (.inl upd_same)) (.cons .non (.cons (t1.same s2) .nil))
  simpa using this
theorem er_nos {K : Fg} {H : Hp} : ∀ σ : L2.St, ∃ fp, ER K σ H (List.replicate σ.length none) fp
  | _ => ⟨fun _ => [], fun i f d h => by
    rw [List.getElem?_replicate] at h
    split at h <;> cases h⟩
theorem sorted_eq {s : List Nat} {ys : List Int} (h : ys.Perm (s.map fun n : Nat => (n : Int))) (p : ys.Pairwise (· ≤ ·)) : ys = (Deals.sortN s).map fun n : Nat => (n : Int) := by
  have h2 : (Deals.sortN s).Pairwise (· ≤ ·) := by
    have := List.pairwise_mergeSort (le := fun a b : Nat => decide (a ≤ b)) (fun a b c h1 h2 => by simp at *; omega) (fun a b => by simp; omega) s
    exact this.imp fun {a b} h => by simpa using h
  have h3 : ((Deals.sortN s).map fun n : Nat => (n : Int)).Pairwise (· ≤ ·) := List.pairwise_map.mpr (h2.imp fun {a b} h => by omega)
  refine List.Perm.eq_of_pairwise (le := (· ≤ ·)) ?_ p h3 (h.trans ((Deals.sortN_perm s).map _).symm)
  intro a b _ _ h1 h2
  omega
theorem seq_asg {te : TE} {g : TG} {u : TS} {De : Ends} {σ : L2.St} {H : Hp} (h : te σ H fun x H1 => g x σ H1 (u De)) : tSeq (tAsg te g) u De σ H := h
theorem eqD_nn (a b : Nat) : eqD (.int (a : Nat)) (.int (b : Nat)) = some (decide (a = b)) := by
  unfold eqD
  rw [if_pos ⟨shp_i _, shp_i _⟩, eqv_ii]
  by_cases h : a = b
  · subst h
    simp
  · have : ¬ ((a : Int) = (b : Int)) := by omega
    simp [h, this]
theorem ltD_nn (a b : Nat) : ltD (.int (a : Nat)) (.int (b : Nat)) = some (decide (a < b)) := by
  unfold ltD
  by_cases h : a < b
  · have : (a : Int) < (b : Int) := by omega
    simp [h]
  · have : ¬ ((a : Int) < (b : Int)) := by omega
    simp [h]
theorem count_D (dl : List Nat) (t : Nat) : countD [cntD dl, .int (t : Nat)] = some (.int ((dl.count t : Nat) : Int)) := by
  have h := shp_cnt dl
  unfold cntD at h ⊢
  unfold countD
  simp only [h, shp_i, and_self, if_true]
  rw [count_nat]
theorem merge1 (t : Nat) : mergeK [] [seenK t] = [t].map seenK := rfl
theorem pair_d {K : Fg} {H0 H : Hp} {q a : Addr} {dl : List Nat} (sm : Same H0 H) (e : H a = some (.lst (dl.map natV))) (n : H0 a = none) (hq : H q = none) :
    Same H0 (upd H q (.tup [.ref a, .non])) ∧ Tr K false (upd H q (.tup [.ref a, .non])) (.ref q) (.tuple [cntD dl, .none]) [a] ∧ Frs H0 (upd H q (.tup [.ref a, .non])) [a] := by
  have s1 : Same H (upd H q (.tup [.ref a, .non])) := same_upd hq
  have e1 := s1 _ _ e
  refine ⟨sm.trans s1, ?_, by simp, fun b m => ?_⟩
  · have := Tr.tup (K := K) (k := false) (H := upd H q (.tup [.ref a, .non])) (.inl (.inl upd_same)) (.cons (tr_cnt e1) (.cons .non .nil))
    simpa using this
  · rw [List.mem_singleton] at m
    subst m
    exact ⟨n, _, e1⟩
end PV

namespace Deals
theorem up_nodup {l : List Nat} (h : l.Pairwise (· < ·)) : l.Nodup := h.imp fun h => by omega
theorem sum_split {S : List Nat} {g : Nat → Nat} {n : Nat} (h : ∀ x ∈ S, g x < n) : S.length = ((List.range n).map fun k => (S.filter fun x => decide (g x = k)).length).sum := by
  induction S with
  | nil =>
    have : ∀ l : List Nat, (l.map fun _ => 0).sum = 0 := fun l => by induction l <;> simp_all
    simpa using (this (List.range n)).symm
  | cons x S ih =>
    have ih := ih fun y m => h y (by simp [m])
    have hx := h x (by simp)
    have e : ((List.range n).map fun k => ((x :: S).filter fun x => decide (g x = k)).length).sum = ((List.range n).map fun k => (if g x = k then 1 else 0) + (S.filter fun x => decide (g x = k)).length).sum := by
      congr 1
      refine List.map_congr_left fun k _ => ?_
      rw [List.filter_cons]
      by_cases hk : g x = k
      · simp [hk]; omega
      · simp [hk]
    have e2 : ∀ (l : List Nat) (f h : Nat → Nat), (l.map fun k => f k + h k).sum = (l.map f).sum + (l.map h).sum := fun l f h => by
      induction l with
      | nil => rfl
      | cons y l ih => simp only [List.map_cons, List.sum_cons, ih]; omega
    have e3 : ∀ m, g x < m → ((List.range m).map fun k => if g x = k then 1 else 0).sum = 1 := fun m => by
      induction m with
      | zero => intro h; omega
      | succ m ih =>
        intro hm
        rw [List.range_succ, List.map_append, List.sum_append]
        by_cases h : g x < m
        · rw [ih h]
          have : g x ≠ m := by omega
          simp [this]
        · have : g x = m := by omega
          have e0 : ((List.range m).map fun k => if g x = k then 1 else 0).sum = 0 := by
            have : ∀ l : List Nat, (∀ y ∈ l, y < m) → (l.map fun k => if g x = k then 1 else 0).sum = 0 := fun l hl => by
              induction l with
              | nil => rfl
              | cons y l ih2 =>
                have := hl y (by simp)
                have h2 : g x ≠ y := by omega
                rw [List.map_cons, List.sum_cons, ih2 fun z mz => hl z (by simp [mz]), if_neg h2]
            exact this _ fun y hy => List.mem_range.mp hy
          rw [e0]
          simp [this]
    rw [e, e2, e3 n hx, List.length_cons, ih]
    omega
theorem sum_leq {l : List Nat} {f g : Nat → Nat} (h : ∀ x ∈ l, f x ≤ g x) : (l.map f).sum ≤ (l.map g).sum := by
  induction l with
  | nil => exact Nat.le_refl _
  | cons x l ih =>
    have := h x (by simp)
    have := ih fun y m => h y (by simp [m])
    simp only [List.map_cons, List.sum_cons]
    omega
theorem few_count {S deal : List Nat} {k : Nat} (nd : S.Nodup) (hl : ∀ x ∈ S, x < deal.length) : (S.filter fun x => decide (deal.getD x 0 = k)).length ≤ deal.count k := by
  have h1 : (S.filter fun x => decide (deal.getD x 0 = k)).length ≤ ((List.range deal.length).filter fun x => decide (deal.getD x 0 = k)).length :=
    PV.nodup_le (nd.filter _) fun x m => by
      obtain ⟨m1, m2⟩ := List.mem_filter.mp m
      exact List.mem_filter.mpr ⟨List.mem_range.mpr (hl x m1), m2⟩
  have h2 := filter_range (p := fun a => decide (a = k)) (d := 0) deal
  have h3 : (deal.filter fun a => decide (a = k)).length = deal.count k := by
    rw [List.count, List.countP_eq_length_filter]
    congr 1
  omega
section
variable {cs : List Nat} {may : List (List Nat)} {must deal S : List Nat}
/-- where there is a deal, no askers tell that there is none -/
theorem no_askers (hm : ∀ row ∈ may, ∀ t ∈ row, t ≤ cs.length) (F : Full cs may deal) (p : PaperA cs may S) : False := by
  have nd := up_nodup p.up
  have own : ∀ x ∈ S, deal.getD x 0 ∈ may.getD x [] := fun x m => F.own x (p.lt x m)
  have lt : ∀ x ∈ S, deal.getD x 0 < cs.length := fun x m => by
    have h1 := row_le hm (own x m)
    have h2 : deal.getD x 0 ≠ cs.length := fun z => p.no x m (by rw [← z]; exact own x m)
    omega
  have e := sum_split lt
  have le : ((List.range cs.length).map fun k => (S.filter fun x => decide (deal.getD x 0 = k)).length).sum ≤ askTotal cs may S := by
    unfold askTotal
    refine sum_leq fun k mk => ?_
    have hk := List.mem_range.mp mk
    by_cases h : S.any (fun one => decide (k ∈ may.getD one [])) = true
    · rw [if_pos h]
      exact Nat.le_trans (few_count nd fun x m => by rw [F.len]; exact p.lt x m) (F.cap k hk)
    · rw [if_neg h]
      have : (S.filter fun x => decide (deal.getD x 0 = k)) = [] := by
        refine List.filter_eq_nil_iff.mpr fun x m hx => h ?_
        have hx := of_decide_eq_true hx
        exact List.any_eq_true.mpr ⟨x, m, decide_eq_true (by rw [← hx]; exact own x m)⟩
      rw [this]
      exact Nat.zero_le _
  have := p.few
  omega
/-- .. and no things -/
theorem no_things (F : Full cs may deal) (hd : ∀ x ∈ must, deal.count x = cs.getD x 0) (p : PaperT cs may must S) : False := by
  have nd := up_nodup p.up
  have e3 := count_sum (f := fun x : Nat => x) (fun x y h => h) nd deal
  rw [List.map_id'] at e3
  have e4 : (S.map fun x => deal.count x).sum = (S.map fun x => cs.getD x 0).sum := by
    congr 1
    exact List.map_congr_left fun x m => hd x (p.sub x m)
  have e2 := filter_range (p := fun a => decide (a ∈ S)) (d := 0) deal
  have e1 : ((List.range deal.length).filter fun a => decide (deal.getD a 0 ∈ S)).length ≤ ((List.range may.length).filter fun a => (may.getD a []).any fun x => decide (x ∈ S)).length := by
    rw [F.len]
    refine filter_mono fun a ma h => ?_
    have h := of_decide_eq_true h
    exact List.any_eq_true.mpr ⟨_, F.own a (List.mem_range.mp ma), decide_eq_true h⟩
  have := p.few
  omega
/-- a deal is told just where there is one -/
theorem dap_deal (hy : Hyp cs may must) (F : Full cs may deal) (hd : ∀ x ∈ must, deal.count x = cs.getD x 0) : ∃ d, dap cs may must = .deal d ∧ Full cs may d ∧ ∀ x ∈ must, d.count x = cs.getD x 0 := by
  have h := dap_spec hy
  cases q : dap cs may must with
  | deal d => rw [q] at h; exact ⟨d, rfl, h⟩
  | askers S => rw [q] at h; exact (no_askers hy.rows F h).elim
  | things S => rw [q] at h; exact (no_things F hd h).elim
end
end Deals

namespace PV
open PySem PySem.Spec PyProof.Rows L2
def b_deal_of : FS :=
  (retS (bin idxD (callD s_deal_and_paper (consA (varD 0) (consA (varD 1) (consA (varD 2) nilA)))) (cD (.int 0))))
def s_deal_of : List D → Option D := runF 3 3 b_deal_of
def b_why_none : FS :=
  (retS (bin idxD (callD s_deal_and_paper (consA (varD 0) (consA (varD 1) (consA (varD 2) nilA)))) (cD (.int 1))))
def s_why_none : List D → Option D := runF 3 3 b_why_none
def b_next_deal : FS :=
  (seqS (setS 3 (compD (itemsD (varD 1)) (nameT 5) yesT (compD (rangeD (consA (callD lenD (consA (varD 5) nilA)) nilA)) (nameT 6) (bin neD (bin idxD (varD 5) (varD 6)) (cD (.tuple [.int 0, .int 1]))) (flatF (varD 6)) [6]) [5]))
  (seqS (setS 4 (compD (rangeD (consA (callD lenD (consA (varD 0) nilA)) nilA)) (nameT 6) (bin eqD (callD s_slack (consA (varD 0) (consA (varD 1) (consA (varD 2) (consA (varD 6) nilA))))) (cD (.tuple [.int 0, .int 1]))) (flatF (varD 6)) [6]))
  (retS (callD s_deal_of (consA (varD 0) (consA (varD 3) (consA (varD 4) nilA)))))))
def s_next_deal : List D → Option D := runF 7 3 b_next_deal
def b_mix_of : FS :=
  (seqS (ifS (orT (notT (chain leD leD (cD (.int 1)) (callD lenD (consA (varD 1) nilA)) (cD (.int 6)))) (notT (un asB (callD s_are_shares (consA (varD 0) (consA (varD 1) nilA))))))
  neverS
  nextS)
  (seqS (setS 2 (compD (itemsD (varD 1)) (nameT 7) yesT (callD listOfD (consA (varD 7) nilA)) [7]))
  (seqS (setS 3 (callD (fun ds => s_fraction (ds ++ [.int 1])) (consA (cD (.int 1)) nilA)))
  (seqS (setS 4 (listD nilA))
  (seqS (whileS (bin neD (varD 3) (cD (.tuple [.int 0, .int 1])))
  (seqS (setS 5 (callD s_next_deal (consA (varD 0) (consA (varD 2) (consA (varD 3) nilA)))))
  (seqS (setS 6 (callD s_weight_for (consA (varD 0) (consA (varD 2) (consA (varD 3) (consA (varD 5) nilA))))))
  (seqS (putS 4 appD (tupD (consA (flatF (varD 6)) (consA (flatF (varD 5)) nilA))))
  (seqS (forS [2, 5] (zipD (consA (varD 2) (consA (varD 5) nilA))) (tupT [(nameT 7), (nameT 8)])
  (setItS 7 (varD 8) (callD s_minus (consA (bin idxD (varD 7) (varD 8)) (consA (varD 6) nilA)))))
  (setS 3 (callD s_minus (consA (varD 3) (consA (varD 6) nilA)))))))) 100000)
  (retS (ownD 4)))))))
def s_mix_of : List D → Option D := runF 9 2 b_mix_of
end PV

namespace PV
open PySem PySem.Spec PyProof.Rows L2
def b_law_cell_at_90ae : FS :=
  (seqS (ifS (bin ltD (varD 1) (callD lenD (consA (varD 0) nilA)))
  (retS (flatF (bin idxD (varD 0) (varD 1))))
  nextS)
  (retS (cD (.int 0))))
def s_law_cell_at_90ae : List D → Option D := runF 2 2 b_law_cell_at_90ae
def b_law_counts_af58 : FS :=
  (seqS (setS 3 (listD nilA))
  (seqS (forS [] (rangeD (consA (varD 2) nilA)) (nameT 4)
  (seqS (setS 5 (callD s_law_cell_at_90ae (consA (varD 0) (consA (bin addD (varD 1) (varD 4)) nilA))))
  (putS 3 appD (flatF (bin idxD (listD (consA (bin modD (bin fdivD (varD 5) (cD (.int 4))) (cD (.int 4))) (consA (bin modD (bin fdivD (varD 5) (cD (.int 4))) (cD (.int 4))) (consA (bin modD (bin fdivD (varD 5) (cD (.int 4))) (cD (.int 2))) (consA (bin modD (bin fdivD (varD 5) (cD (.int 4))) (cD (.int 10))) nilA))))) (bin modD (varD 5) (cD (.int 4))))))))
  (retS (ownD 3))))
def s_law_counts_af58 : List D → Option D := runF 6 3 b_law_counts_af58
def b_law_turned_d258 : FS :=
  (seqS (setS 2 (callD listOfD (consA (varD 0) nilA)))
  (seqS (setS 3 (listD nilA))
  (seqS (whileS (bin neD (varD 2) (listD nilA))
  (seqS (appPopS 3 2 (bin modD (varD 1) (callD lenD (consA (varD 2) nilA))))
  (setS 1 (bin fdivD (varD 1) (cD (.int 7))))) 100000)
  (retS (ownD 3)))))
def s_law_turned_d258 : List D → Option D := runF 4 2 b_law_turned_d258
def b_law_numbers_75bc : FS :=
  (seqS (ifS (orT (notT (isiT .list (varD 0))) (bin neD (callD lenD (consA (varD 0) nilA)) (callD lenD (consA (varD 1) nilA))))
  (retS (cD (.bool false)))
  nextS)
  (seqS (forS [0, 1] (zipD (consA (varD 0) (consA (varD 1) nilA))) (tupT [(nameT 2), (nameT 3)])
  (ifS (orT (notT (isiT .int (varD 2))) (orT (isiT .bool (varD 2)) (bin neD (varD 2) (varD 3))))
  (retS (cD (.bool false)))
  nextS))
  (retS (cD (.bool true)))))
def s_law_numbers_75bc : List D → Option D := runF 4 2 b_law_numbers_75bc
def b_law_picked_463e : FS :=
  (seqS (setS 2 (listD (consA (cD (.int 1)) (consA (cD (.int 2)) (consA (cD (.int 4)) (consA (cD (.int 8)) (consA (cD (.int 16)) (consA (cD (.int 32)) (consA (cD (.int 64)) nilA)))))))))
  (seqS (setS 3 (compD (rangeD (consA (varD 1) nilA)) (nameT 4) (bin eqD (bin modD (bin fdivD (varD 0) (bin idxD (varD 2) (varD 4))) (cD (.int 2))) (cD (.int 1))) (flatF (varD 4)) [4]))
  (seqS (ifS (bin eqD (bin modD (bin fdivD (varD 0) (cD (.int 128))) (cD (.int 4))) (cD (.int 1)))
  (setS 3 (sliceF (varD 3) noneO (someO (cD (.int 1)))))
  nextS)
  (retS (callD s_law_turned_d258 (consA (varD 3) (consA (bin modD (bin fdivD (varD 0) (cD (.int 512))) (bin powD (cD (.int 10)) (cD (.int 9)))) nilA)))))))
def s_law_picked_463e : List D → Option D := runF 5 2 b_law_picked_463e
def b_law_case_a104 : FS :=
  (seqS (setA 1 (bin idxD (varD 0) (cD (.int 0))) [0])
  (seqS (setS 2 (bin modD (varD 1) (cD (.int 7))))
  (seqS (setS 3 (bin addD (cD (.int 1)) (bin modD (bin fdivD (varD 1) (cD (.int 7))) (cD (.int 6)))))
  (seqS (setS 4 (listD nilA))
  (seqS (forS [] (rangeD (consA (varD 2) nilA)) (nameT 5)
  (seqS (setS 6 (bin fdivD (bin idxD (varD 0) (cD (.int 1))) (bin idxD (listD (consA (cD (.int 1)) (consA (cD (.int 41)) (consA (cD (.int 1681)) (consA (cD (.int 68921)) (consA (cD (.int 2825761)) (consA (cD (.int 115856201)) nilA))))))) (varD 5))))
  (putS 4 appD (flatF (bin idxD (listD (consA (bin modD (bin fdivD (varD 6) (cD (.int 4))) (cD (.int 4))) (consA (bin modD (bin fdivD (varD 6) (cD (.int 4))) (cD (.int 4))) (consA (bin modD (bin fdivD (varD 6) (cD (.int 4))) (cD (.int 2))) (consA (bin modD (bin fdivD (varD 6) (cD (.int 4))) (cD (.int 10))) nilA))))) (bin modD (varD 6) (cD (.int 4))))))))
  (seqS (setS 7 (listD nilA))
  (seqS (forS [] (rangeD (consA (varD 3) nilA)) (nameT 5)
  (putS 7 appD (callD s_law_picked_463e (consA (bin idxD (varD 0) (bin addD (cD (.int 3)) (varD 5))) (consA (bin addD (varD 2) (cD (.int 1))) nilA)))))
  (retS (tupD (consA (ownD 4) (consA (ownD 7) (consA (callD s_law_picked_463e (consA (bin idxD (varD 0) (cD (.int 2))) (consA (varD 2) nilA))) nilA))))))))))))
def s_law_case_a104 : List D → Option D := runF 8 1 b_law_case_a104
def b_law_plain_a4df : FS :=
  (seqS (ifS (notT (isiT .list (varD 0)))
  (retS (cD (.bool false)))
  nextS)
  (retS (boolD (bin eqD (compD (itemsD (varD 0)) (nameT 1) (orT (notT (isiT .int (varD 1))) (isiT .bool (varD 1))) (flatF (varD 1)) [1]) (listD nilA)))))
def s_law_plain_a4df : List D → Option D := runF 2 1 b_law_plain_a4df
def b_law_is_deal_73aa : FS :=
  (seqS (ifS (orT (notT (un asB (callD s_law_plain_a4df (consA (varD 0) nilA)))) (bin neD (callD lenD (consA (varD 0) nilA)) (callD lenD (consA (varD 2) nilA))))
  (retS (cD (.bool false)))
  nextS)
  (seqS (forS [0, 2] (zipD (consA (varD 0) (consA (varD 2) nilA))) (tupT [(nameT 4), (nameT 5)])
  (ifS (bin notInD (varD 4) (varD 5))
  (retS (cD (.bool false)))
  nextS))
  (seqS (forS [] (rangeD (consA (callD lenD (consA (varD 1) nilA)) nilA)) (nameT 6)
  (ifS (orT (bin gtD (bin (fun d d2 => countD [d, d2]) (varD 0) (varD 6)) (bin idxD (varD 1) (varD 6))) (andT (bin inD (varD 6) (varD 3)) (bin ltD (bin (fun d d2 => countD [d, d2]) (varD 0) (varD 6)) (bin idxD (varD 1) (varD 6)))))
  (retS (cD (.bool false)))
  nextS))
  (retS (cD (.bool true))))))
def s_law_is_deal_73aa : List D → Option D := runF 7 4 b_law_is_deal_73aa
def b_law_rising_0c62 : FS :=
  (retS (boolD (andT (bin neD (varD 0) (listD nilA)) (un asB (callD allD (consA (compD (zipD (consA (sliceF (varD 0) noneO (someO (un negD (cD (.int 1))))) (consA (sliceF (varD 0) (someO (cD (.int 1))) noneO) nilA))) (tupT [(nameT 1), (nameT 2)]) yesT (boolD (bin ltD (varD 1) (varD 2))) [1, 2]) nilA))))))
def s_law_rising_0c62 : List D → Option D := runF 3 1 b_law_rising_0c62
def b_law_is_paper_ad33 : FS :=
  (seqS (ifS (orT (notT (isiT .tuple (varD 0))) (orT (bin neD (callD lenD (consA (varD 0) nilA)) (cD (.int 2))) (notT (isiT .str (bin idxD (varD 0) (cD (.int 0)))))))
  (retS (cD (.bool false)))
  nextS)
  (seqS (setA 4 (bin idxD (varD 0) (cD (.int 1))) [0])
  (seqS (ifS (orT (notT (un asB (callD s_law_plain_a4df (consA (varD 4) nilA)))) (notT (un asB (callD s_law_rising_0c62 (consA (varD 4) nilA)))))
  (retS (cD (.bool false)))
  nextS)
  (seqS (setS 5 (cD (.int 0)))
  (seqS (ifS (bin eqD (bin idxD (varD 0) (cD (.int 0))) (cD (.str "askers")))
  (seqS (ifS (orT (bin ltD (bin idxD (varD 4) (cD (.int 0))) (cD (.int 0))) (bin geD (bin idxD (varD 4) (un negD (cD (.int 1)))) (callD lenD (consA (varD 2) nilA))))
  (retS (cD (.bool false)))
  nextS)
  (seqS (ifS (bin neD (compD (itemsD (varD 4)) (nameT 7) (bin inD (callD lenD (consA (varD 1) nilA)) (bin idxD (varD 2) (varD 7))) (flatF (varD 7)) [7]) (listD nilA))
  (retS (cD (.bool false)))
  nextS)
  (seqS (forS [] (rangeD (consA (callD lenD (consA (varD 1) nilA)) nilA)) (nameT 6)
  (ifS (bin neD (compD (itemsD (varD 4)) (nameT 7) (bin inD (varD 6) (bin idxD (varD 2) (varD 7))) (flatF (varD 7)) [7]) (listD nilA))
  (setS 5 (bin addD (varD 5) (bin idxD (varD 1) (varD 6))))
  nextS))
  (retS (boolD (bin ltD (varD 5) (callD lenD (consA (varD 4) nilA))))))))
  nextS)
  (seqS (ifS (orT (bin neD (bin idxD (varD 0) (cD (.int 0))) (cD (.str "things"))) (bin neD (compD (itemsD (varD 4)) (nameT 7) (bin notInD (varD 7) (varD 3)) (flatF (varD 7)) [7]) (listD nilA)))
  (retS (cD (.bool false)))
  nextS)
  (seqS (forS [4] (itemsD (varD 4)) (nameT 6)
  (setS 5 (bin addD (varD 5) (bin idxD (varD 1) (varD 6)))))
  (retS (boolD (bin gtD (varD 5) (callD lenD (consA (compD (itemsD (varD 2)) (nameT 8) (bin neD (compD (itemsD (varD 8)) (nameT 7) (bin inD (varD 7) (varD 4)) (flatF (varD 7)) [7]) (listD nilA)) (varD 8) [8]) nilA))))))))))))
def s_law_is_paper_ad33 : List D → Option D := runF 9 4 b_law_is_paper_ad33
def b_law_told_92c9 : FS :=
  (seqS (setS 3 (listD (consA (callD listOfD (consA (varD 0) nilA)) (consA (compD (itemsD (varD 1)) (nameT 7) yesT (callD listOfD (consA (varD 7) nilA)) [7]) (consA (callD listOfD (consA (varD 2) nilA)) nilA)))))
  (seqS (setS 4 (callD s_deal_of (consA (bin idxD (varD 3) (cD (.int 0))) (consA (bin idxD (varD 3) (cD (.int 1))) (consA (bin idxD (varD 3) (cD (.int 2))) nilA)))))
  (seqS (setS 5 (callD s_why_none (consA (bin idxD (varD 3) (cD (.int 0))) (consA (bin idxD (varD 3) (cD (.int 1))) (consA (bin idxD (varD 3) (cD (.int 2))) nilA)))))
  (seqS (ifS (bin neD (varD 3) (listD (consA (varD 0) (consA (varD 1) (consA (varD 2) nilA)))))
  (retS (cD (.bool false)))
  nextS)
  (seqS (setS 6 (callD s_deal_of (consA (bin idxD (varD 3) (cD (.int 0))) (consA (bin idxD (varD 3) (cD (.int 1))) (consA (bin idxD (varD 3) (cD (.int 2))) nilA)))))
  (seqS (ifS (orT (bin neD (varD 3) (listD (consA (varD 0) (consA (varD 1) (consA (varD 2) nilA))))) (bin neD (boolD (bin isD (varD 6) (cD .none))) (boolD (bin isD (varD 4) (cD .none)))))
  (retS (cD (.bool false)))
  nextS)
  (seqS (ifS (bin isD (varD 4) (cD .none))
  (retS (callD s_law_is_paper_ad33 (consA (varD 5) (consA (varD 0) (consA (varD 1) (consA (varD 2) nilA))))))
  nextS)
  (seqS (ifS (orT (bin isNotD (callD s_why_none (consA (bin idxD (varD 3) (cD (.int 0))) (consA (bin idxD (varD 3) (cD (.int 1))) (consA (bin idxD (varD 3) (cD (.int 2))) nilA)))) (cD .none)) (bin neD (varD 3) (listD (consA (varD 0) (consA (varD 1) (consA (varD 2) nilA))))))
  (retS (cD (.bool false)))
  nextS)
  (retS (boolD (andT (un asB (callD s_law_is_deal_73aa (consA (varD 4) (consA (varD 0) (consA (varD 1) (consA (varD 2) nilA)))))) (bin isD (varD 5) (cD .none)))))))))))))
def s_law_told_92c9 : List D → Option D := runF 8 3 b_law_told_92c9
def b_law_planted_2dd9 : FS :=
  (seqS (setS 3 (callD listOfD (consA (varD 1) nilA)))
  (seqS (setS 4 (listD nilA))
  (seqS (forS [] (rangeD (consA (varD 2) nilA)) (nameT 5)
  (seqS (setS 6 (bin modD (callD s_law_cell_at_90ae (consA (varD 0) (consA (bin addD (cD (.int 8)) (varD 5)) nilA))) (bin addD (callD lenD (consA (varD 1) nilA)) (cD (.int 1)))))
  (seqS (ifS (andT (bin ltD (varD 6) (callD lenD (consA (varD 1) nilA))) (bin eqD (bin idxD (varD 3) (varD 6)) (cD (.int 0))))
  (setS 6 (callD lenD (consA (varD 1) nilA)))
  nextS)
  (seqS (ifS (bin ltD (varD 6) (callD lenD (consA (varD 1) nilA)))
  (setItS 3 (varD 6) (bin subD (bin idxD (varD 3) (varD 6)) (cD (.int 1))))
  nextS)
  (putS 4 appD (flatF (varD 6)))))))
  (retS (ownD 4)))))
def s_law_planted_2dd9 : List D → Option D := runF 7 3 b_law_planted_2dd9
def b_law_is_deal_fa32 : FS :=
  (seqS (ifS (orT (notT (isiT .list (varD 0))) (bin neD (callD lenD (consA (varD 0) nilA)) (callD lenD (consA (varD 2) nilA))))
  (retS (cD (.bool false)))
  nextS)
  (seqS (forS [0, 2] (zipD (consA (varD 0) (consA (varD 2) nilA))) (tupT [(nameT 4), (nameT 5)])
  (ifS (orT (notT (isiT .int (varD 4))) (orT (isiT .bool (varD 4)) (bin notInD (varD 4) (varD 5))))
  (retS (cD (.bool false)))
  nextS))
  (seqS (forS [] (rangeD (consA (callD lenD (consA (varD 1) nilA)) nilA)) (nameT 6)
  (ifS (orT (bin gtD (bin (fun d d2 => countD [d, d2]) (varD 0) (varD 6)) (bin idxD (varD 1) (varD 6))) (andT (bin inD (varD 6) (varD 3)) (bin ltD (bin (fun d d2 => countD [d, d2]) (varD 0) (varD 6)) (bin idxD (varD 1) (varD 6)))))
  (retS (cD (.bool false)))
  nextS))
  (retS (cD (.bool true))))))
def s_law_is_deal_fa32 : List D → Option D := runF 7 4 b_law_is_deal_fa32
def b_law_bits_a5ba : FS :=
  (seqS (setS 2 (listD (consA (cD (.int 1)) (consA (cD (.int 2)) (consA (cD (.int 4)) (consA (cD (.int 8)) (consA (cD (.int 16)) (consA (cD (.int 32)) (consA (cD (.int 64)) nilA)))))))))
  (retS (compD (rangeD (consA (varD 1) nilA)) (nameT 3) (bin eqD (bin modD (bin fdivD (varD 0) (bin idxD (varD 2) (varD 3))) (cD (.int 2))) (cD (.int 1))) (flatF (varD 3)) [3])))
def s_law_bits_a5ba : List D → Option D := runF 4 2 b_law_bits_a5ba
def b_law_few_69c6 : FS :=
  (seqS (setS 3 (callD s_law_bits_a5ba (consA (callD s_law_cell_at_90ae (consA (varD 0) (consA (cD (.int 1)) nilA))) (consA (varD 1) nilA))))
  (seqS (setS 4 (compD (rangeD (consA (varD 1) nilA)) (nameT 6) yesT (bin modD (callD s_law_cell_at_90ae (consA (varD 0) (consA (bin addD (cD (.int 2)) (varD 6)) nilA))) (cD (.int 5))) [6]))
  (seqS (setS 5 (bin subD (varD 2) (cD (.int 1))))
  (seqS (forS [3] (itemsD (varD 3)) (nameT 6)
  (seqS (setItS 4 (varD 6) (callD min2D (consA (bin idxD (varD 4) (varD 6)) (consA (varD 5) nilA))))
  (setS 5 (bin subD (varD 5) (bin idxD (varD 4) (varD 6))))))
  (seqS (setS 7 (bin addD (callD sumD (consA (compD (itemsD (varD 3)) (nameT 6) yesT (flatF (bin idxD (varD 4) (varD 6))) [6]) nilA)) (cD (.int 1))))
  (seqS (setS 8 (listD nilA))
  (seqS (forS [] (rangeD (consA (varD 2) nilA)) (nameT 6)
  (seqS (setS 9 (callD s_law_cell_at_90ae (consA (varD 0) (consA (bin addD (cD (.int 8)) (varD 6)) nilA))))
  (ifS (bin ltD (varD 6) (varD 7))
  (putS 8 appD (compD (itemsD (varD 3)) (nameT 11) (bin gtD (bin modD (bin fdivD (bin fdivD (varD 9) (cD (.int 3))) (bin addD (varD 11) (cD (.int 1)))) (cD (.int 3))) (cD (.int 0))) (flatF (varD 11)) [11]))
  (putS 8 appD (callD s_law_bits_a5ba (consA (varD 9) (consA (bin addD (varD 1) (cD (.int 1))) nilA)))))))
  (seqS (setS 10 (bin modD (callD s_law_cell_at_90ae (consA (varD 0) (consA (cD (.int 14)) nilA))) (varD 2)))
  (retS (tupD (consA (flatF (varD 4)) (consA (bin addD (sliceF (varD 8) (someO (varD 10)) noneO) (sliceF (varD 8) noneO (someO (varD 10)))) (consA (callD s_law_bits_a5ba (consA (callD s_law_cell_at_90ae (consA (varD 0) (consA (cD (.int 15)) nilA))) (consA (varD 1) nilA))) nilA)))))))))))))
def s_law_few_69c6 : List D → Option D := runF 12 3 b_law_few_69c6
def b_law_many_cb01 : FS :=
  (seqS (setS 3 (callD s_law_bits_a5ba (consA (callD s_law_cell_at_90ae (consA (varD 0) (consA (cD (.int 1)) nilA))) (consA (varD 1) nilA))))
  (seqS (ifS (bin eqD (varD 3) (listD nilA))
  (setS 3 (listD (consA (bin subD (varD 1) (cD (.int 1))) nilA)))
  nextS)
  (seqS (setS 4 (compD (rangeD (consA (varD 1) nilA)) (nameT 8) yesT (bin modD (callD s_law_cell_at_90ae (consA (varD 0) (consA (bin addD (cD (.int 2)) (varD 8)) nilA))) (cD (.int 5))) [8]))
  (seqS (setS 5 (bin modD (callD s_law_cell_at_90ae (consA (varD 0) (consA (cD (.int 14)) nilA))) (varD 2)))
  (seqS (setS 6 (bin subD (bin addD (varD 5) (cD (.int 1))) (callD sumD (consA (compD (itemsD (varD 3)) (nameT 8) yesT (flatF (bin idxD (varD 4) (varD 8))) [8]) nilA))))
  (seqS (setItS 4 (bin idxD (varD 3) (cD (.int 0))) (bin addD (bin idxD (varD 4) (bin idxD (varD 3) (cD (.int 0)))) (callD max2D (consA (varD 6) (consA (cD (.int 0)) nilA)))))
  (seqS (setS 7 (listD nilA))
  (seqS (forS [] (rangeD (consA (varD 2) nilA)) (nameT 8)
  (seqS (setS 9 (callD s_law_bits_a5ba (consA (callD s_law_cell_at_90ae (consA (varD 0) (consA (bin addD (cD (.int 8)) (varD 8)) nilA))) (consA (bin addD (varD 1) (cD (.int 1))) nilA))))
  (ifS (bin ltD (varD 8) (varD 5))
  (putS 7 appD (flatF (varD 9)))
  (putS 7 appD (bin addD (compD (itemsD (varD 9)) (nameT 10) (andT (bin notInD (varD 10) (varD 3)) (bin neD (varD 10) (varD 1))) (flatF (varD 10)) [10]) (listD (consA (varD 1) nilA)))))))
  (retS (tupD (consA (flatF (varD 4)) (consA (flatF (varD 7)) (consA (flatF (varD 3)) nilA)))))))))))))
def s_law_many_cb01 : List D → Option D := runF 11 3 b_law_many_cb01
end PV

namespace PV
open PySem PySem.Spec PyProof.Rows L2
/-! ### what a statement comes to -/
def wS (F : FS) (ε : Ev) (Q : Fl × Ev → Prop) : Prop := ∃ r, F ε = some r ∧ Q r
def nxt (G : FS) (Q : Fl × Ev → Prop) : Fl × Ev → Prop := fun r => match r.1 with
  | .nx => wS G r.2 Q
  | _ => Q r
theorem ws_seq {F G : FS} {ε : Ev} {Q : Fl × Ev → Prop} (h : wS F ε (nxt G Q)) : wS (seqS F G) ε Q := by
  obtain ⟨⟨fl, ε'⟩, h1, h2⟩ := h
  unfold wS seqS
  rw [h1, Option.bind_some]
  cases fl with
  | nx => exact h2
  | bk => exact ⟨_, rfl, h2⟩
  | ct => exact ⟨_, rfl, h2⟩
  | rt d => exact ⟨_, rfl, h2⟩
theorem ws_mid {F G : FS} {ε : Ev} {Q : Fl × Ev → Prop} (I : Ev → Prop) (h : wS F ε fun r => r.1 = .nx ∧ I r.2) (k : ∀ ε', I ε' → wS G ε' Q) : wS (seqS F G) ε Q := by
  obtain ⟨⟨fl, ε'⟩, h1, h2, h3⟩ := h
  obtain rfl : fl = .nx := h2
  exact ws_seq ⟨_, h1, k ε' h3⟩
theorem ws_set {i : Nat} {F : FE} {ε : Ev} {Q : Fl × Ev → Prop} {d : D} (h : F ε = some d) (q : Q (.nx, ε.set i (some (true, d)))) : wS (setS i F) ε Q := by
  refine ⟨_, ?_, q⟩
  unfold setS
  rw [h]
  rfl
theorem ws_setA {i : Nat} {F : FE} {S : List Nat} {ε : Ev} {Q : Fl × Ev → Prop} {d : D} (h : F ε = some d) (q : Q (.nx, (if flat d = true then ε else freeze S ε).set i (some (flat d, d)))) : wS (setA i F S) ε Q := by
  refine ⟨_, ?_, q⟩
  unfold setA
  rw [h]
  rfl
theorem ws_ret {F : FE} {ε : Ev} {Q : Fl × Ev → Prop} {d : D} (h : F ε = some d) (q : Q (.rt d, ε)) : wS (retS F) ε Q := by
  refine ⟨_, ?_, q⟩
  unfold retS
  rw [h]
  rfl
theorem ws_next {ε : Ev} {Q : Fl × Ev → Prop} (q : Q (.nx, ε)) : wS nextS ε Q := ⟨_, rfl, q⟩
theorem ws_cont {ε : Ev} {Q : Fl × Ev → Prop} (q : Q (.ct, ε)) : wS contS ε Q := ⟨_, rfl, q⟩
theorem ws_break {ε : Ev} {Q : Fl × Ev → Prop} (q : Q (.bk, ε)) : wS breakS ε Q := ⟨_, rfl, q⟩
theorem ws_if {T : FT} {F G : FS} {ε : Ev} {Q : Fl × Ev → Prop} {b : Bool} (h : T ε = some b) (h1 : b = true → wS F ε Q) (h2 : b = false → wS G ε Q) : wS (ifS T F G) ε Q := by
  unfold wS ifS
  rw [h, Option.bind_some]
  cases b with
  | true => exact h1 rfl
  | false => exact h2 rfl
theorem ws_ifT {T : FT} {F G : FS} {ε : Ev} {Q : Fl × Ev → Prop} (h : T ε = some true) (h1 : wS F ε Q) : wS (ifS T F G) ε Q := ws_if h (fun _ => h1) fun z => Bool.noConfusion z
theorem ws_ifF {T : FT} {F G : FS} {ε : Ev} {Q : Fl × Ev → Prop} (h : T ε = some false) (h1 : wS G ε Q) : wS (ifS T F G) ε Q := ws_if h (fun z => Bool.noConfusion z) fun _ => h1
theorem ws_put {i : Nat} {f : List D → D → Option (List D)} {F : FE} {ε : Ev} {Q : Fl × Ev → Prop} {ds es : List D} {d : D} (hi : ε[i]? = some (some (true, .list ds))) (h : F ε = some d) (hf : f ds d = some es) (q : Q (.nx, ε.set i (some (true, .list es)))) : wS (putS i f F) ε Q := by
  refine ⟨_, ?_, q⟩
  unfold putS
  rw [hi]
  simp only [h, hf, Option.bind_some, Option.map_some]
theorem ws_setIt {i : Nat} {J F : FE} {ε : Ev} {Q : Fl × Ev → Prop} {ds : List D} {d : D} {k n : Nat} (hi : ε[i]? = some (some (true, .list ds))) (h : F ε = some d) (hj : J ε = some (.int (k : Nat))) (hk : k < ds.length) (q : Q (.nx, ε.set i (some (true, .list (ds.set k d))))) : wS (setItS i J F) ε Q := by
  refine ⟨_, ?_, q⟩
  unfold setItS
  rw [hi]
  simp only [h, hj, Option.bind_some]
  rw [ixN_nn hk]
  rfl
/-- a loop, with an invariant -/
theorem ws_for {S : List Nat} {G : FA} {T : TD} {B : FS} {ε : Ev} {Q : Fl × Ev → Prop} {ds : List D} (I : Nat → Ev → Prop) (hG : G ε = some ds) (h0 : I 0 (freeze S ε))
    (hs : ∀ i ε', (hi : i < ds.length) → I i ε' → ∃ ε1, T ds[i] ε' = some ε1 ∧ wS B ε1 fun r => match r.1 with
      | .nx => I (i + 1) r.2
      | .ct => I (i + 1) r.2
      | .bk => Q (.nx, r.2)
      | .rt d => Q r)
    (hn : ∀ ε', I ds.length ε' → Q (.nx, ε')) : wS (forS S G T B) ε Q := by
  unfold wS forS
  rw [hG, Option.bind_some]
  have go : ∀ (n i : Nat) ε', n + i = ds.length → I i ε' → ∃ r, loopS T B (ds.drop i) ε' = some r ∧ Q r := by
    intro n
    induction n with
    | zero =>
      intro i ε' e h
      have : i = ds.length := by omega
      subst this
      rw [List.drop_length]
      exact ⟨_, rfl, hn ε' h⟩
    | succ n ih =>
      intro i ε' e h
      have hi : i < ds.length := by omega
      rw [List.drop_eq_getElem_cons hi]
      obtain ⟨ε1, h1, ⟨fl, ε2⟩, h2, h3⟩ := hs i ε' hi h
      unfold loopS
      rw [h1, Option.bind_some, h2, Option.bind_some]
      cases fl with
      | nx => exact ih (i + 1) ε2 (by omega) h3
      | ct => exact ih (i + 1) ε2 (by omega) h3
      | bk => exact ⟨_, rfl, h3⟩
      | rt d => exact ⟨_, rfl, h3⟩
  exact go ds.length 0 _ (by omega) h0
/-- while, by a measure -/
theorem ws_while {T : FT} {B : FS} {N : Nat} {ε : Ev} {Q : Fl × Ev → Prop} (I : Nat → Ev → Prop) (m0 : Nat) (hN : m0 < N) (h0 : I m0 ε)
    (hs : ∀ m ε', I m ε' → ∃ b, T ε' = some b ∧ (b = false → Q (.nx, ε')) ∧ (b = true → wS B ε' fun r => match r.1 with
      | .nx => ∃ m', m' < m ∧ I m' r.2
      | .ct => ∃ m', m' < m ∧ I m' r.2
      | .bk => Q (.nx, r.2)
      | .rt d => Q r)) : wS (whileS T B N) ε Q := by
  have go : ∀ (N m : Nat) ε', m < N → I m ε' → ∃ r, whileS T B N ε' = some r ∧ Q r := by
    intro N
    induction N with
    | zero => intro m _ h; omega
    | succ N ih =>
      intro m ε' hm h
      obtain ⟨b, h1, h2, h3⟩ := hs m ε' h
      unfold whileS
      rw [h1, Option.bind_some]
      cases b with
      | false => exact ⟨_, rfl, h2 rfl⟩
      | true =>
        rw [if_pos rfl]
        obtain ⟨⟨fl, ε2⟩, h4, h5⟩ := h3 rfl
        rw [h4, Option.bind_some]
        cases fl with
        | nx =>
          obtain ⟨m', h6, h7⟩ := h5
          exact ih m' ε2 (by omega) h7
        | ct =>
          obtain ⟨m', h6, h7⟩ := h5
          exact ih m' ε2 (by omega) h7
        | bk => exact ⟨_, rfl, h5⟩
        | rt d => exact ⟨_, rfl, h5⟩
  exact go N m0 ε hN h0
/-- a def -/
theorem run_of {n m : Nat} {G : FS} {ds : List D} {P : D → Prop} (hm : ds.length = m) (h : wS G (startE n ds) fun r => match r.1 with
    | .rt d => P d
    | .nx => P .none
    | _ => False) : ∃ d, runF n m G ds = some d ∧ P d := by
  obtain ⟨⟨fl, ε⟩, h1, h2⟩ := h
  unfold runF
  rw [if_pos hm, h1]
  cases fl with
  | nx => exact ⟨_, rfl, h2⟩
  | rt d => exact ⟨_, rfl, h2⟩
  | bk => exact h2.elim
  | ct => exact h2.elim
theorem run_eq {n m : Nat} {G : FS} {ds : List D} {d : D} (hm : ds.length = m) (h : wS G (startE n ds) fun r => r.1 = .rt d) : runF n m G ds = some d := by
  obtain ⟨d', h1, h2⟩ := run_of (P := fun e => e = d) hm (by
    obtain ⟨⟨fl, ε⟩, h1, h2⟩ := h
    obtain rfl : fl = .rt d := h2
    exact ⟨_, h1, rfl⟩)
  rw [h1, h2]

/-! ### readings -/
@[simp] theorem addD_ii {a b : Int} : addD (.int a) (.int b) = some (.int (a + b)) := rfl
@[simp] theorem subD_ii {a b : Int} : subD (.int a) (.int b) = some (.int (a - b)) := rfl
@[simp] theorem modD_ii {a b : Int} (h : 0 < b) : modD (.int a) (.int b) = some (.int (a % b)) := if_pos h
theorem log2_small {n : Nat} (h : n < 2 ^ 64) : n.log2 < 9000 := by
  by_cases h0 : n = 0
  · subst h0
    decide
  · exact Nat.lt_trans ((Nat.log2_lt h0).mpr h) (by decide)
@[simp] theorem fdivD_ii {a b : Int} (h : 0 < b) (h2 : b < 18446744073709551616) : fdivD (.int a) (.int b) = some (.int (a / b)) := if_pos ⟨h, log2_small (by omega)⟩
@[simp] theorem ltD_ii {a b : Int} : ltD (.int a) (.int b) = some (decide (a < b)) := rfl
@[simp] theorem leD_ii {a b : Int} : leD (.int a) (.int b) = some (decide (a ≤ b)) := rfl
@[simp] theorem gtD_ii {a b : Int} : gtD (.int a) (.int b) = some (decide (b < a)) := rfl
@[simp] theorem geD_ii {a b : Int} : geD (.int a) (.int b) = some (decide (b ≤ a)) := rfl
@[simp] theorem eqD_ii {a b : Int} : eqD (.int a) (.int b) = some (decide (a = b)) := by
  unfold eqD
  rw [if_pos ⟨shp_i _, shp_i _⟩, eqv_ii]
@[simp] theorem neD_ii {a b : Int} : neD (.int a) (.int b) = some (!decide (a = b)) := by
  unfold neD
  rw [eqD_ii]
  rfl
theorem dec_lt (a b : Nat) : decide ((a : Int) < (b : Int)) = decide (a < b) := decide_eq_decide.mpr (by omega)
theorem dec_eq (a b : Nat) : decide ((a : Int) = (b : Int)) = decide (a = b) := decide_eq_decide.mpr (by omega)
theorem dec_lt0 (b : Nat) : decide ((0 : Int) < (b : Int)) = decide (0 < b) := decide_eq_decide.mpr (by omega)
theorem pow_109 : powD (.int 10) (.int 9) = some (.int 1000000000) := by
  simp [powD]
@[simp] theorem lit_le {n : Nat} (h : n ≤ 1000) : n ≤ sizeLine := Nat.le_of_lt (small1000 h)
@[simp] theorem flat_int {a : Int} : flat (.int a) = true := rfl
@[simp] theorem flat_bool {a : Bool} : flat (.bool a) = true := rfl
@[simp] theorem flat_none : flat .none = true := rfl
@[simp] theorem flat_str {a : Str} : flat (.str a) = true := rfl
@[simp] theorem flat_list {a : List D} : flat (.list a) = false := rfl
@[simp] theorem idxD_nat {ds : List D} {i : Nat} : idxD (.list ds) (.int (i : Nat)) = ds[i]? := atI_nat
@[simp] theorem idxD_0 {ds : List D} : idxD (.list ds) (.int 0) = ds[0]? := atI_nat (i := 0)
@[simp] theorem idxD_1 {ds : List D} : idxD (.list ds) (.int 1) = ds[1]? := atI_nat (i := 1)
@[simp] theorem idxD_2 {ds : List D} : idxD (.list ds) (.int 2) = ds[2]? := atI_nat (i := 2)
@[simp] theorem idxT_0 {ds : List D} : idxD (.tuple ds) (.int 0) = ds[0]? := atI_nat (i := 0)
@[simp] theorem idxT_1 {ds : List D} : idxD (.tuple ds) (.int 1) = ds[1]? := atI_nat (i := 1)
@[simp] theorem lenD_list {ds : List D} : lenD [.list ds] = some (.int (ds.length : Nat)) := rfl
theorem bin_eq {α : Type} {f : D → D → Option α} {F G : FE} {ε : Ev} {d e : D} (h : F ε = some d) (g : G ε = some e) : bin f F G ε = f d e := by
  unfold bin
  rw [h, g]
  rfl
theorem callD_eq {f : List D → Option D} {A : FA} {ε : Ev} {ds : List D} (h : A ε = some ds) : callD f A ε = f ds := by
  unfold callD
  rw [h]
  rfl
theorem listD_eq {A : FA} {ε : Ev} {ds : List D} (h : A ε = some ds) (hl : ds.length ≤ 1000) : listD A ε = some (.list ds) := by
  unfold listD
  rw [h]
  exact if_pos (lit_le hl)
theorem consA_eq {F : FE} {A : FA} {ε : Ev} {d : D} {ds : List D} (h : F ε = some d) (g : A ε = some ds) : consA F A ε = some (d :: ds) := by
  unfold consA
  rw [h, g]
  rfl
end PV

namespace PV
open PySem PySem.Spec PyProof.Rows L2
def intL (ns : List Int) : D := .list (ns.map .int)
def cellAt (ns : List Int) (k : Nat) : Int := ns.getD k 0
theorem cell_at (ns : List Int) (k : Nat) : s_law_cell_at_90ae [intL ns, .int (k : Nat)] = some (.int (cellAt ns k)) := by
  refine run_eq rfl ?_
  show wS b_law_cell_at_90ae [some (false, intL ns), some (false, .int (k : Nat))] _
  refine ws_seq (ws_if (b := decide (k < ns.length)) ?_ (fun h => ws_ret (d := .int (cellAt ns k)) ?_ rfl) fun h => ws_next (ws_ret (d := .int (cellAt ns k)) ?_ rfl))
  · show ltD (.int (k : Nat)) (.int ((ns.map PyData.int).length : Nat)) = _
    rw [ltD_nn, List.length_map]
  · have h := of_decide_eq_true h
    have e : bin idxD (varD 0) (varD 1) [some (false, intL ns), some (false, .int (k : Nat))] = some (.int (cellAt ns k)) := by
      show atI (ns.map PyData.int) (k : Int) = _
      rw [atI_nat, List.getElem?_map, List.getElem?_eq_getElem h]
      unfold cellAt
      rw [List.getD_eq_getElem?_getD, List.getElem?_eq_getElem h]
      rfl
    unfold flatF un
    rw [e]
    rfl
  · have h : ¬ k < ns.length := by simpa using h
    unfold cellAt
    rw [List.getD_eq_getElem?_getD, List.getElem?_eq_none (by omega)]
    rfl
theorem flat_cnt (l : List Nat) : flatAll (l.map fun n : Nat => PyData.int (n : Nat)) = true := flatAll_map _ (fun _ => rfl) l
/-- range(n) -/
theorem rangeA_eq {F : FE} {ε : Ev} {n : Nat} (h : F ε = some (.int (n : Nat))) (hn : n ≤ 1000000) : rangeD (consA F nilA) ε = some ((List.range n).map fun k : Nat => .int (k : Nat)) := by
  have e1 : consA F nilA ε = some [.int (n : Nat)] := by
    unfold consA nilA
    rw [h]
    rfl
  unfold rangeD
  rw [e1, Option.bind_some]
  have : -(2 ^ 62 : Int) ≤ (n : Int) ∧ (n : Int) < 2 ^ 62 := by omega
  simp only [if_pos this, Int.toNat_natCast]
theorem fit_len {n : Nat} (h : n ≤ 1000) : n ≤ sizeLine := Nat.le_of_lt (small1000 h)
theorem counts_at (ns : List Int) (start m : Nat) (hm : m ≤ 6) : ∃ d, s_law_counts_af58 [intL ns, .int (start : Nat), .int (m : Nat)] = some d ∧ ∃ cs : List Nat, d = cntD cs ∧ cs.length = m ∧ ∀ x ∈ cs, x ≤ 9 := by
  refine run_of rfl ?_
  show wS b_law_counts_af58 [some (false, intL ns), some (false, .int (start : Nat)), some (false, .int (m : Nat)), none, none, none] _
  refine ws_seq (ws_set (d := .list []) rfl (ws_seq (ws_for (fun i ε => ∃ (cs : List Nat) (t4 t5 : Option (Bool × D)), ε = [some (false, intL ns), some (false, .int (start : Nat)), some (false, .int (m : Nat)), some (true, cntD cs), t4, t5] ∧ cs.length = i ∧ ∀ x ∈ cs, x ≤ 9) (rangeA_eq (n := m) rfl (by omega)) ⟨[], _, _, rfl, rfl, by simp⟩ ?_ ?_)))
  · rintro i ε' hi ⟨cs, t4, t5, rfl, hl, hc⟩
    rw [List.length_map, List.length_range] at hi
    rw [List.getElem_map, List.getElem_range]
    refine ⟨[some (false, intL ns), some (false, .int (start : Nat)), some (false, .int (m : Nat)), some (true, cntD cs), some (true, .int (i : Nat)), t5], rfl, ?_⟩
    refine ws_seq (ws_set (d := .int (cellAt ns (start + i))) ?_ ?_)
    · show s_law_cell_at_90ae [intL ns, .int ((start : Int) + (i : Int))] = _
      have := cell_at ns (start + i)
      rw [Int.natCast_add] at this
      exact this
    · generalize cellAt ns (start + i) = c
      have key : ∃ x : Nat, x ≤ 9 ∧ (flatF (bin idxD (listD (consA (bin modD (bin fdivD (varD 5) (cD (.int 4))) (cD (.int 4))) (consA (bin modD (bin fdivD (varD 5) (cD (.int 4))) (cD (.int 4))) (consA (bin modD (bin fdivD (varD 5) (cD (.int 4))) (cD (.int 2))) (consA (bin modD (bin fdivD (varD 5) (cD (.int 4))) (cD (.int 10))) nilA))))) (bin modD (varD 5) (cD (.int 4)))))
          [some (false, intL ns), some (false, .int (start : Nat)), some (false, .int (m : Nat)), some (true, cntD cs), some (true, .int (i : Nat)), some (true, .int c)] = some (.int (x : Nat)) := by
        obtain ⟨n4, h4⟩ : ∃ n : Nat, c / 4 % 4 = (n : Int) := ⟨(c / 4 % 4).toNat, by omega⟩
        obtain ⟨n2, h2⟩ : ∃ n : Nat, c / 4 % 2 = (n : Int) := ⟨(c / 4 % 2).toNat, by omega⟩
        obtain ⟨n10, h10⟩ : ∃ n : Nat, c / 4 % 10 = (n : Int) := ⟨(c / 4 % 10).toNat, by omega⟩
        obtain ⟨j, hj⟩ : ∃ n : Nat, c % 4 = (n : Int) := ⟨(c % 4).toNat, by omega⟩
        have hj4 : j < 4 := by omega
        have e : ∀ x : Nat, [PyData.int n4, .int n4, .int n2, .int n10][j]? = some (.int (x : Nat)) → (flatF (bin idxD (listD (consA (bin modD (bin fdivD (varD 5) (cD (.int 4))) (cD (.int 4))) (consA (bin modD (bin fdivD (varD 5) (cD (.int 4))) (cD (.int 4))) (consA (bin modD (bin fdivD (varD 5) (cD (.int 4))) (cD (.int 2))) (consA (bin modD (bin fdivD (varD 5) (cD (.int 4))) (cD (.int 10))) nilA))))) (bin modD (varD 5) (cD (.int 4)))))
          [some (false, intL ns), some (false, .int (start : Nat)), some (false, .int (m : Nat)), some (true, cntD cs), some (true, .int (i : Nat)), some (true, .int c)] = some (.int (x : Nat)) := fun x hx => by
          simp [flatF, un, bin, listD, consA, nilA, varD, cD, h4, h2, h10, hj, hx]
        match j, hj4 with
        | 0, _ => exact ⟨n4, by omega, e n4 rfl⟩
        | 1, _ => exact ⟨n4, by omega, e n4 rfl⟩
        | 2, _ => exact ⟨n2, by omega, e n2 rfl⟩
        | 3, _ => exact ⟨n10, by omega, e n10 rfl⟩
      obtain ⟨x, hx, e⟩ := key
      refine ws_put (ds := cs.map fun n : Nat => .int (n : Nat)) (es := (cs ++ [x]).map fun n : Nat => .int (n : Nat)) rfl e ?_ ⟨cs ++ [x], _, _, rfl, by simp [hl], ?_⟩
      · unfold appD
        rw [List.length_map, if_pos (small1000 (by omega)), List.map_append]
        rfl
      · intro y m
        rcases List.mem_append.mp m with m | m
        · exact hc y m
        · rw [List.mem_singleton] at m
          omega
  · rintro ε' ⟨cs, t4, t5, rfl, hl, hc⟩
    rw [List.length_map, List.length_range] at hl
    exact ws_ret (d := cntD cs) rfl ⟨cs, rfl, hl, hc⟩
end PV

namespace PV
open PySem PySem.Spec PyProof.Rows L2
theorem eqD_self {d : D} {n : Nat} (h : shp n d) (hn : n ≤ 64) : eqD d d = some true := by
  unfold eqD
  rw [if_pos ⟨h.ok hn, h.ok hn⟩, SeqAt.eqv_refl d h.1]
theorem neD_self {d : D} {n : Nat} (h : shp n d) (hn : n ≤ 64) : neD d d = some false := by
  unfold neD
  rw [eqD_self h hn]
  rfl
theorem shp_cntD {n : Nat} (l : List Nat) : shp (n + 1) (cntD l) := shp_list fun d m => by
  obtain ⟨o, _, rfl⟩ := List.mem_map.mp m
  exact shp_int
theorem shp_mayD {n : Nat} (l : List (List Nat)) : shp (n + 2) (mayD l) := shp_list fun d m => by
  obtain ⟨o, _, rfl⟩ := List.mem_map.mp m
  exact shp_cntD o
theorem shp_nil {n : Nat} : shp (n + 1) (.list []) := shp_list fun d m => by simp at m
theorem neD_nil {l : List Nat} : neD (cntD l) (.list []) = some (decide (l ≠ [])) := by
  unfold neD eqD
  rw [if_pos ⟨shp_cnt l, (shp_nil (n := 0)).ok (by decide)⟩]
  cases l with
  | nil => rfl
  | cons x l => simp [cntD, PyData.eqv, PyData.eqvAll]
theorem appPop_eq {i j : Nat} {F : FE} {ε : Ev} {ds es : List D} {x : Int} (hi : ε[i]? = some (some (true, .list ds))) (hj : ε[j]? = some (some (true, .list es))) (h : F ε = some (.int x)) (h0 : 0 ≤ x) (h1 : x < 4611686018427387904) (h2 : x.toNat < es.length) (h3 : ds.length < sizeLine) (h4 : flat (es.getD x.toNat .none) = true) :
    appPopS i j F ε = some (.nx, (ε.set j (some (true, .list (es.eraseIdx x.toNat)))).set i (some (true, .list (ds ++ [es.getD x.toNat .none])))) := by
  unfold appPopS
  rw [hi, hj]
  simp only [h, Option.bind_some]
  rw [if_pos ⟨h0, h1, h2, h3, h4⟩]
theorem ws_appPop {i j : Nat} {F : FE} {ε : Ev} {Q : Fl × Ev → Prop} {ds es : List D} {k : Nat} {d : D} (hi : ε[i]? = some (some (true, .list ds))) (hj : ε[j]? = some (some (true, .list es))) (h : F ε = some (.int (k : Nat))) (hk : es[k]? = some d) (fd : flat d = true) (hl : ds.length ≤ 1000) (he : es.length ≤ 1000)
    (q : Q (.nx, (ε.set j (some (true, .list (es.eraseIdx k)))).set i (some (true, .list (ds ++ [d]))))) : wS (appPopS i j F) ε Q := by
  have hk2 := (List.getElem?_eq_some_iff.mp hk).1
  obtain rfl : d = es.getD k .none := by rw [List.getD_eq_getElem?_getD, hk]; rfl
  have e := appPop_eq (x := (k : Int)) hi hj h (by omega) (by omega) (by rw [Int.toNat_natCast]; exact hk2) (small1000 hl) (by rw [Int.toNat_natCast]; exact fd)
  rw [Int.toNat_natCast] at e
  exact ⟨_, e, q⟩
theorem erase_perm {l : List Nat} {k : Nat} (h : k < l.length) : (l.eraseIdx k ++ [l.getD k 0]).Perm l := by
  rw [List.getD_eq_getElem?_getD, List.getElem?_eq_getElem h, Option.getD_some, List.eraseIdx_eq_take_drop_succ]
  have e : l = l.take k ++ l[k] :: l.drop (k + 1) := by
    rw [← List.drop_eq_getElem_cons h, List.take_append_drop]
  conv => rhs; rw [e]
  rw [List.append_assoc]
  exact List.Perm.append_left _ (List.perm_append_comm.trans (List.Perm.refl _))
theorem map_erase {α β : Type} (f : α → β) (l : List α) (k : Nat) : (l.map f).eraseIdx k = (l.eraseIdx k).map f := by
  rw [List.eraseIdx_eq_take_drop_succ, List.eraseIdx_eq_take_drop_succ, List.map_append, List.map_take, List.map_drop]
theorem listOf_cnt (l : List Nat) : listOfD [cntD l] = some (cntD l) := if_pos (flat_cnt l)
theorem turned_at (l : List Nat) (c : Int) (hl : l.length ≤ 1000) : ∃ d, s_law_turned_d258 [cntD l, .int c] = some d ∧ ∃ l' : List Nat, d = cntD l' ∧ l'.Perm l := by
  refine run_of rfl ?_
  show wS b_law_turned_d258 [some (false, cntD l), some (false, .int c), none, none] _
  refine ws_seq (ws_set (d := cntD l) ?_ (ws_seq (ws_set (d := .list []) rfl (ws_seq (ws_while (fun m ε => ∃ (c : Int) (r f : List Nat) (b : Bool), ε = [some (false, cntD l), some (b, .int c), some (true, cntD r), some (true, cntD f)] ∧ r.length = m ∧ (f ++ r).Perm l) l.length (by omega) ⟨c, l, [], _, rfl, rfl, .refl _⟩ ?_)))))
  · show listOfD [cntD l] = _
    exact listOf_cnt l
  · rintro m ε' ⟨c, r, f, b, rfl, hm, hp⟩
    have hle := hp.length_eq
    rw [List.length_append] at hle
    refine ⟨decide (r ≠ []), neD_nil, fun h => ?_, fun h => ?_⟩
    · have h : r = [] := by simpa using h
      subst h
      rw [List.append_nil] at hp
      exact ws_ret (d := cntD f) rfl ⟨f, rfl, hp⟩
    · have h : r ≠ [] := by simpa using h
      have hr : 0 < r.length := List.length_pos_iff.mpr h
      obtain ⟨k, hk⟩ : ∃ k : Nat, c % (r.length : Int) = (k : Int) := ⟨(c % (r.length : Int)).toNat, by have := Int.emod_nonneg c (show (r.length : Int) ≠ 0 by omega); omega⟩
      have hk2 : k < r.length := by have := Int.emod_lt_of_pos c (show 0 < (r.length : Int) by omega); omega
      refine ws_seq (ws_appPop (ds := f.map fun n : Nat => .int (n : Nat)) (es := r.map fun n : Nat => .int (n : Nat)) (k := k) (d := .int (r.getD k 0 : Nat)) rfl rfl ?_ ?_ rfl (by rw [List.length_map]; omega) (by rw [List.length_map]; omega) ?_)
      · show modD (.int c) (.int ((r.map fun n : Nat => PyData.int (n : Nat)).length : Nat)) = _
        rw [List.length_map, modD_ii (by omega), hk]
      · rw [List.getElem?_map, List.getD_eq_getElem?_getD, List.getElem?_eq_getElem hk2]
        rfl
      · refine ws_set (d := .int (c / 7)) ?_ ⟨r.length - 1, by omega, c / 7, r.eraseIdx k, f ++ [r.getD k 0], true, ?_, by rw [List.length_eraseIdx_of_lt hk2], ?_⟩
        · show fdivD (.int c) (.int 7) = _
          simp
        · rw [map_erase]
          show [some (false, cntD l), some (true, .int (c / 7)), some (true, cntD (r.eraseIdx k)), some (true, PyData.list ((f.map fun n : Nat => PyData.int (n : Nat)) ++ [PyData.int (r.getD k 0 : Nat)]))] = _
          unfold cntD
          rw [List.map_append]
          rfl
        · rw [List.append_assoc]
          exact (List.Perm.append_left f (List.perm_append_comm.trans (erase_perm hk2))).trans hp
theorem numbers_at (l : List Nat) (hl : l.length ≤ 1000) : s_law_numbers_75bc [cntD l, cntD l] = some (.bool true) := by
  refine run_eq rfl ?_
  show wS b_law_numbers_75bc [some (false, cntD l), some (false, cntD l), none, none] _
  have ez : zipD (consA (varD 0) (consA (varD 1) nilA)) [some (false, cntD l), some (false, cntD l), none, none] = some (l.map fun n : Nat => .tuple [.int (n : Nat), .int (n : Nat)]) := by
    show some (List.zipWith _ _ _) = _
    congr 1
    induction l with
    | nil => rfl
    | cons x l ih =>
      show _ :: _ = _ :: _
      rw [ih (by simp at hl; omega)]
  refine ws_seq (ws_ifF ?_ (ws_next (ws_seq (ws_for (fun i ε => ∃ t2 t3 : Option (Bool × D), ε = [some (false, cntD l), some (false, cntD l), t2, t3]) ez ⟨_, _, rfl⟩ ?_ ?_))))
  · have e : (callD lenD (consA (varD 0) nilA)) [some (false, cntD l), some (false, cntD l), none, none] = some (.int (l.length : Nat)) := by
      show some (PyData.int ((l.map fun n : Nat => PyData.int (n : Nat)).length : Nat)) = _
      rw [List.length_map]
    have e2 : (callD lenD (consA (varD 1) nilA)) [some (false, cntD l), some (false, cntD l), none, none] = some (.int (l.length : Nat)) := e
    unfold orT
    rw [bin_eq e e2, neD_ii]
    simp [notT, isiT, varD, cntD, isT]
  · rintro i ε' hi ⟨t2, t3, rfl⟩
    rw [List.length_map] at hi
    rw [List.getElem_map]
    refine ⟨[some (false, cntD l), some (false, cntD l), some (true, .int (l[i] : Nat)), some (true, .int (l[i] : Nat))], rfl, ws_ifF ?_ (ws_next ⟨_, _, rfl⟩)⟩
    simp [orT, notT, isiT, varD, isT, bin]
  · rintro ε' ⟨t2, t3, rfl⟩
    exact ws_ret (d := .bool true) rfl rfl
/-- the deal, and the paper, of what a deal_and_paper told -/
theorem deal_of_at {cs : List Nat} {may : List (List Nat)} {must : List Nat} (h : HypB cs may must) : s_deal_of [cntD cs, mayD may, cntD must] = some (match Deals.dap cs may must with | .deal d => cntD d | _ => .none) := by
  refine run_eq rfl (ws_ret (d := _) ?_ rfl)
  show (s_deal_and_paper [cntD cs, mayD may, cntD must]).bind _ = _
  rw [dap_eq h]
  cases Deals.dap cs may must <;> rfl
theorem why_none_at {cs : List Nat} {may : List (List Nat)} {must : List Nat} (h : HypB cs may must) : s_why_none [cntD cs, mayD may, cntD must] = some (match Deals.dap cs may must with | .deal _ => .none | .askers S => .tuple [.str "askers", cntD S] | .things S => .tuple [.str "things", cntD S]) := by
  refine run_eq rfl (ws_ret (d := _) ?_ rfl)
  show (s_deal_and_paper [cntD cs, mayD may, cntD must]).bind _ = _
  rw [dap_eq h]
  cases Deals.dap cs may must <;> rfl
end PV

namespace PV
open PySem PySem.Spec PyProof.Rows L2
def b_law_k30 : FS :=
  (seqS (setS 1 (callD s_law_cell_at_90ae (consA (varD 0) (consA (cD (.int 0)) nilA))))
  (seqS (setS 2 (bin modD (varD 1) (cD (.int 7))))
  (seqS (setS 3 (bin addD (cD (.int 1)) (bin modD (bin fdivD (varD 1) (cD (.int 7))) (cD (.int 6)))))
  (seqS (setS 4 (callD s_law_counts_af58 (consA (varD 0) (consA (cD (.int 2)) (consA (varD 2) nilA)))))
  (seqS (setS 5 (compD (rangeD (consA (varD 3) nilA)) (nameT 9) yesT (bin modD (callD s_law_cell_at_90ae (consA (varD 0) (consA (bin addD (cD (.int 8)) (varD 9)) nilA))) (bin addD (varD 2) (cD (.int 1)))) [9]))
  (seqS (setS 6 (callD s_law_cell_at_90ae (consA (varD 0) (consA (cD (.int 1)) nilA))))
  (seqS (setS 7 (compD (rangeD (consA (varD 2) nilA)) (nameT 9) (bin eqD (bin modD (bin fdivD (varD 6) (bin idxD (listD (consA (cD (.int 1)) (consA (cD (.int 2)) (consA (cD (.int 4)) (consA (cD (.int 8)) (consA (cD (.int 16)) (consA (cD (.int 32)) nilA))))))) (varD 9))) (cD (.int 2))) (cD (.int 1))) (flatF (varD 9)) [9]))
  (seqS (ifS (bin eqD (bin modD (bin fdivD (varD 6) (cD (.int 64))) (cD (.int 2))) (cD (.int 1)))
  (setS 7 (compD (itemsD (varD 7)) (nameT 9) (bin gtD (bin (fun d d2 => countD [d, d2]) (varD 5) (varD 9)) (cD (.int 0))) (flatF (varD 9)) [9]))
  nextS)
  (seqS (setS 7 (callD s_law_turned_d258 (consA (varD 7) (consA (bin modD (bin fdivD (varD 6) (cD (.int 128))) (bin powD (cD (.int 10)) (cD (.int 9)))) nilA))))
  (seqS (setS 8 (cD (.bool true)))
  (seqS (forS [] (rangeD (consA (varD 2) nilA)) (nameT 9)
  (ifS (orT (bin gtD (bin (fun d d2 => countD [d, d2]) (varD 5) (varD 9)) (bin idxD (varD 4) (varD 9))) (andT (bin inD (varD 9) (varD 7)) (bin ltD (bin (fun d d2 => countD [d, d2]) (varD 5) (varD 9)) (bin idxD (varD 4) (varD 9)))))
  (setS 8 (cD (.bool false)))
  nextS))
  (seqS (setS 10 (compD (itemsD (varD 5)) (nameT 14) yesT (listD (consA (flatF (varD 14)) nilA)) [14]))
  (seqS (setS 11 (listD (consA (callD listOfD (consA (varD 4) nilA)) (consA (compD (itemsD (varD 10)) (nameT 15) yesT (callD listOfD (consA (varD 15) nilA)) [15]) (consA (callD listOfD (consA (varD 7) nilA)) nilA)))))
  (seqS (forS [] (rangeD (consA (cD (.int 2)) nilA)) (nameT 9)
  (seqS (setS 12 (callD s_deal_of (consA (bin idxD (varD 11) (cD (.int 0))) (consA (bin idxD (varD 11) (cD (.int 1))) (consA (bin idxD (varD 11) (cD (.int 2))) nilA)))))
  (seqS (setS 13 (callD s_why_none (consA (bin idxD (varD 11) (cD (.int 0))) (consA (bin idxD (varD 11) (cD (.int 1))) (consA (bin idxD (varD 11) (cD (.int 2))) nilA)))))
  (seqS (ifS (bin neD (varD 11) (listD (consA (varD 4) (consA (varD 10) (consA (varD 7) nilA)))))
  (retS (cD (.bool false)))
  nextS)
  (seqS (ifS (andT (un asB (varD 8)) (orT (notT (un asB (callD s_law_numbers_75bc (consA (varD 12) (consA (varD 5) nilA))))) (bin isNotD (varD 13) (cD .none))))
  (retS (cD (.bool false)))
  nextS)
  (seqS (ifS (andT (notT (un asB (varD 8))) (orT (bin isNotD (varD 12) (cD .none)) (notT (isiT .tuple (varD 13)))))
  (retS (cD (.bool false)))
  nextS)
  (ifS (un asB (varD 8))
  (putS 12 appD (cD (.int 7)))
  nextS)))))))
  (retS (cD (.bool true)))))))))))))))))
def s_law_k30 : List D → Option D := runF 16 1 b_law_k30
end PV

namespace PV
open PySem PySem.Spec PyProof.Rows L2
theorem compL_eq {α : Type} {g h : α → D} {c : α → Bool} {T : TD} {C : FT} {E : FE} {ε : Ev} : ∀ {l : List α}, (∀ x ∈ l, ∃ ε1, T (g x) ε = some ε1 ∧ C ε1 = some (c x) ∧ (c x = true → E ε1 = some (h x))) → compL T C E ε (l.map g) = some ((l.filter c).map h)
  | [], _ => rfl
  | x :: l, ht => by
    obtain ⟨ε1, h1, h2, h3⟩ := ht x (by simp)
    have ih := compL_eq (l := l) fun y m => ht y (by simp [m])
    rw [List.map_cons, compL, h1, Option.bind_some, h2, Option.bind_some, ih, List.filter_cons]
    cases hc : c x with
    | true =>
      rw [if_pos rfl, if_pos rfl, h3 hc]
      rfl
    | false => rw [if_neg Bool.false_ne_true, if_neg Bool.false_ne_true]
theorem compD_eq {α : Type} {l : List α} {g h : α → D} {c : α → Bool} {G : FA} {T : TD} {C : FT} {E : FE} {vs : List Nat} {ε : Ev} (hG : G ε = some (l.map g)) (hl : l.length ≤ 1000)
    (ht : ∀ x ∈ l, ∃ ε1, T (g x) (wipeE ε vs) = some ε1 ∧ C ε1 = some (c x) ∧ (c x = true → E ε1 = some (h x))) : compD G T C E vs ε = some (.list ((l.filter c).map h)) := by
  unfold compD
  rw [hG, Option.bind_some, if_pos (by rw [List.length_map]; exact lit_le hl), compL_eq ht]
  rfl
theorem compD_all {α : Type} {l : List α} {g h : α → D} {G : FA} {T : TD} {E : FE} {vs : List Nat} {ε : Ev} (hG : G ε = some (l.map g)) (hl : l.length ≤ 1000)
    (ht : ∀ x ∈ l, ∃ ε1, T (g x) (wipeE ε vs) = some ε1 ∧ E ε1 = some (h x)) : compD G T yesT E vs ε = some (.list (l.map h)) := by
  have := compD_eq (C := yesT) (c := fun _ => true) hG hl fun x m => let ⟨ε1, h1, h2⟩ := ht x m; ⟨ε1, h1, rfl, fun _ => h2⟩
  rw [List.filter_eq_self.mpr fun _ _ => rfl] at this
  exact this
theorem bit_at {k : Nat} (h : k < 6) : [PyData.int 1, .int 2, .int 4, .int 8, .int 16, .int 32][k]? = some (.int ((2 ^ k : Nat) : Int)) := by
  match k, h with
  | 0, _ => rfl
  | 1, _ => rfl
  | 2, _ => rfl
  | 3, _ => rfl
  | 4, _ => rfl
  | 5, _ => rfl
theorem pow_lt6 {k : Nat} (h : k < 6) : 2 ^ k ≤ 32 := by
  match k, h with
  | 0, _ => decide
  | 1, _ => decide
  | 2, _ => decide
  | 3, _ => decide
  | 4, _ => decide
  | 5, _ => decide
/-- .. one thing each: who may get what -/
def ones (due : List Nat) : List (List Nat) := due.map fun t => [t]
def badAt (cs due must : List Nat) (k : Nat) : Prop := cs.getD k 0 < due.count k ∨ (k ∈ must ∧ due.count k < cs.getD k 0)
instance (cs due must : List Nat) (k : Nat) : Decidable (badAt cs due must k) := by unfold badAt; infer_instance
def goodB (cs due must : List Nat) (i : Nat) : Bool := decide (∀ k, k < i → ¬ badAt cs due must k)
theorem ones_own {due : List Nat} {j t : Nat} (hj : j < due.length) (h : t ∈ (ones due).getD j []) : t = due.getD j 0 := by
  unfold ones at h
  rw [List.getD_eq_getElem?_getD, List.getElem?_map, List.getElem?_eq_getElem hj] at h
  rw [List.getD_eq_getElem?_getD, List.getElem?_eq_getElem hj]
  simpa using h
theorem full_ones {cs due : List Nat} (h : ∀ x, x < cs.length → due.count x ≤ cs.getD x 0) : Deals.Full cs (ones due) due := by
  refine ⟨by simp [ones], fun j hj => ?_, h⟩
  have hj : j < due.length := by simpa [ones] using hj
  unfold ones
  simp [List.getD_eq_getElem?_getD, hj]
theorem full_only {cs due d : List Nat} (F : Deals.Full cs (ones due) d) : d = due := by
  have hl : d.length = due.length := by rw [F.len]; simp [ones]
  refine List.ext_getElem hl fun j h1 h2 => ?_
  have := ones_own h2 (F.own j (by simpa [ones] using h2))
  rw [List.getD_eq_getElem?_getD, List.getElem?_eq_getElem h1, List.getD_eq_getElem?_getD, List.getElem?_eq_getElem h2] at this
  exact this
theorem dap_ones {cs due must : List Nat} (hy : Deals.Hyp cs (ones due) must) : if goodB cs due must cs.length = true then Deals.dap cs (ones due) must = .deal due else ∀ d, Deals.dap cs (ones due) must ≠ .deal d := by
  by_cases h : goodB cs due must cs.length = true
  · rw [if_pos h]
    have h := of_decide_eq_true h
    have F : Deals.Full cs (ones due) due := full_ones fun x hx => by
      have := h x hx
      unfold badAt at this
      omega
    obtain ⟨d, h1, h2, _⟩ := Deals.dap_deal hy F fun x mx => by
      have hx := hy.must x mx
      have := h x hx
      unfold badAt at this
      have := F.cap x hx
      have : ¬ due.count x < cs.getD x 0 := fun z => (h x hx) (.inr ⟨mx, z⟩)
      omega
    rw [h1, full_only h2]
  · rw [if_neg h]
    intro d e
    have hs := Deals.dap_spec hy
    rw [e] at hs
    obtain ⟨F, hd⟩ := hs
    have e2 := full_only F
    subst e2
    refine h (decide_eq_true fun k hk hb => ?_)
    rcases hb with hb | ⟨m, hb⟩
    · have := F.cap k hk
      omega
    · have := hd k m
      omega
theorem neD_true {d e : D} (h : neD d e = some true) : True := trivial
abbrev e30 (ns : List Int) (first bits : Int) (m n : Nat) (cs due must : List Nat) (good : Bool) (t9 t12 t13 : Option (Bool × D)) : Ev :=
  [some (false, intL ns), some (true, .int first), some (true, .int (m : Nat)), some (true, .int (n : Nat)), some (true, cntD cs), some (true, cntD due), some (true, .int bits), some (true, cntD must), some (true, .bool good), t9, some (true, mayD (ones due)),
    some (true, .list [cntD cs, mayD (ones due), cntD must]), t12, t13, none, none]
theorem shp_hand (cs : List Nat) (may : List (List Nat)) (must : List Nat) : shp 3 (.list [cntD cs, mayD may, cntD must]) := shp_list fun d m => by
  simp only [List.mem_cons, List.mem_singleton, List.not_mem_nil, or_false] at m
  rcases m with rfl | rfl | rfl
  · exact shp_cntD _
  · exact shp_mayD _
  · exact shp_cntD _
theorem law_k30 (ns : List Int) : s_law_k30 [intL ns] = some (.bool true) := by
  refine run_eq rfl ?_
  show wS b_law_k30 [some (false, intL ns), none, none, none, none, none, none, none, none, none, none, none, none, none, none, none] _
  obtain ⟨m, hm⟩ : ∃ m : Nat, cellAt ns 0 % 7 = (m : Int) := ⟨(cellAt ns 0 % 7).toNat, by omega⟩
  obtain ⟨n, hn⟩ : ∃ n : Nat, 1 + cellAt ns 0 / 7 % 6 = (n : Int) := ⟨(1 + cellAt ns 0 / 7 % 6).toNat, by omega⟩
  have hm6 : m ≤ 6 := by omega
  have hn6 : n ≤ 6 := by omega
  obtain ⟨_, hc, cs, rfl, hcl, hc9⟩ := counts_at ns 2 m hm6
  have hc : s_law_counts_af58 [intL ns, .int 2, .int (m : Nat)] = some (cntD cs) := hc
  refine ws_seq (ws_set (d := .int (cellAt ns 0)) (cell_at ns 0) (ws_seq (ws_set (d := .int (m : Nat)) (by simp [bin, varD, cD, hm]) (ws_seq (ws_set (d := .int (n : Nat)) (by simp [bin, varD, cD, hn]) (ws_seq (ws_set (d := cntD cs) ?_ ?_)))))))
  · exact (callD_eq (ds := [intL ns, .int 2, .int (m : Nat)]) rfl).trans hc
  generalize hdue : (List.range n).map (fun k => (cellAt ns (8 + k) % ((m : Int) + 1)).toNat) = due
  have hdl : due.length = n := by rw [← hdue]; simp
  have hdm : ∀ x ∈ due, x ≤ m := fun x hx => by
    rw [← hdue] at hx
    obtain ⟨k, _, rfl⟩ := List.mem_map.mp hx
    have := Int.emod_lt_of_pos (cellAt ns (8 + k)) (show 0 < (m : Int) + 1 by omega)
    omega
  refine ws_seq (ws_set (d := cntD due) ?_ (ws_seq (ws_set (d := .int (cellAt ns 1)) (cell_at ns 1) ?_)))
  · have := compD_all (l := List.range n) (g := fun k : Nat => .int (k : Nat)) (h := fun k : Nat => .int ((cellAt ns (8 + k) % ((m : Int) + 1)).toNat : Nat)) (G := rangeD (consA (varD 3) nilA)) (T := nameT 9)
      (E := bin modD (callD s_law_cell_at_90ae (consA (varD 0) (consA (bin addD (cD (.int 8)) (varD 9)) nilA))) (bin addD (varD 2) (cD (.int 1)))) (vs := [9])
      (ε := [some (false, intL ns), some (true, .int (cellAt ns 0)), some (true, .int (m : Nat)), some (true, .int (n : Nat)), some (true, cntD cs), none, none, none, none, none, none, none, none, none, none, none]) (rangeA_eq rfl (by omega)) (by rw [List.length_range]; omega) fun k _ => ?_
    · refine this.trans ?_
      rw [← hdue]
      unfold cntD
      rw [List.map_map]
      rfl
    · refine ⟨_, rfl, ?_⟩
      have e1 : (callD s_law_cell_at_90ae (consA (varD 0) (consA (bin addD (cD (.int 8)) (varD 9)) nilA))) [some (false, intL ns), some (true, .int (cellAt ns 0)), some (true, .int (m : Nat)), some (true, .int (n : Nat)), some (true, cntD cs), none, none, none, none, some (true, .int (k : Nat)), none, none, none, none, none, none] = some (.int (cellAt ns (8 + k))) := by
        have := cell_at ns (8 + k)
        rw [Int.natCast_add] at this
        exact this
      refine (bin_eq e1 (show _ = some (PyData.int ((m : Int) + 1)) from rfl)).trans ?_
      rw [modD_ii (by omega)]
      have := Int.emod_nonneg (cellAt ns (8 + k)) (show (m : Int) + 1 ≠ 0 by omega)
      rw [Int.toNat_of_nonneg this]
  generalize cellAt ns 1 = bits
  generalize cellAt ns 0 = first
  -- must, by bits
  show wS _ [some (false, intL ns), some (true, .int first), some (true, .int (m : Nat)), some (true, .int (n : Nat)), some (true, cntD cs), some (true, cntD due), some (true, .int bits), none, none, none, none, none, none, none, none, none] _
  obtain ⟨must0, h0, hm0⟩ : ∃ must : List Nat, compD (rangeD (consA (varD 2) nilA)) (nameT 9) (bin eqD (bin modD (bin fdivD (varD 6) (bin idxD (listD (consA (cD (.int 1)) (consA (cD (.int 2)) (consA (cD (.int 4)) (consA (cD (.int 8)) (consA (cD (.int 16)) (consA (cD (.int 32)) nilA))))))) (varD 9))) (cD (.int 2))) (cD (.int 1))) (flatF (varD 9)) [9]
      [some (false, intL ns), some (true, .int first), some (true, .int (m : Nat)), some (true, .int (n : Nat)), some (true, cntD cs), some (true, cntD due), some (true, .int bits), none, none, none, none, none, none, none, none, none] = some (cntD must) ∧ (∀ x ∈ must, x < m) ∧ must.length ≤ 1000 := by
    refine ⟨(List.range m).filter fun k => decide (bits / ((2 ^ k : Nat) : Int) % 2 = 1), compD_eq (l := List.range m) (g := fun k : Nat => .int (k : Nat)) (h := fun k : Nat => .int (k : Nat)) (rangeA_eq rfl (by omega)) (by rw [List.length_range]; omega) fun k hk => ⟨_, rfl, ?_, fun _ => rfl⟩, fun x hx => ?_, ?_⟩
    · have hk := List.mem_range.mp hk
      have hb := bit_at (show k < 6 by omega)
      have hp := pow_lt6 (show k < 6 by omega)
      have hp0 : 0 < 2 ^ k := Nat.pos_of_ne_zero (by simp)
      have e1 : (bin idxD (listD (consA (cD (.int 1)) (consA (cD (.int 2)) (consA (cD (.int 4)) (consA (cD (.int 8)) (consA (cD (.int 16)) (consA (cD (.int 32)) nilA))))))) (varD 9)) [some (false, intL ns), some (true, .int first), some (true, .int (m : Nat)), some (true, .int (n : Nat)), some (true, cntD cs), some (true, cntD due), some (true, .int bits), none, none, some (true, .int (k : Nat)), none, none, none, none, none, none] = some (.int ((2 ^ k : Nat) : Int)) := by
        refine (bin_eq (listD_eq (ds := [PyData.int 1, .int 2, .int 4, .int 8, .int 16, .int 32]) rfl (by decide)) (show _ = some (PyData.int (k : Nat)) from rfl)).trans ?_
        rw [idxD_nat]
        exact hb
      have e2 := (bin_eq (f := fdivD) (F := varD 6) (d := .int bits) rfl e1).trans (fdivD_ii (by omega) (by omega))
      have e3 := (bin_eq (f := modD) (G := cD (.int 2)) e2 rfl).trans (modD_ii (by omega))
      exact (bin_eq (f := eqD) (G := cD (.int 1)) e3 rfl).trans eqD_ii
    · exact List.mem_range.mp (List.mem_filter.mp hx).1
    · exact Nat.le_trans (List.length_filter_le _ _) (by rw [List.length_range]; omega)
  refine ws_seq (ws_set h0 ?_)
  show wS _ [some (false, intL ns), some (true, .int first), some (true, .int (m : Nat)), some (true, .int (n : Nat)), some (true, cntD cs), some (true, cntD due), some (true, .int bits), some (true, cntD must0), none, none, none, none, none, none, none, none] _
  clear h0
  -- fewer of them
  refine ws_mid (fun ε => ∃ must1 : List Nat, (∀ x ∈ must1, x < m) ∧ must1.length ≤ 1000 ∧ ε = [some (false, intL ns), some (true, .int first), some (true, .int (m : Nat)), some (true, .int (n : Nat)), some (true, cntD cs), some (true, cntD due), some (true, .int bits), some (true, cntD must1), none, none, none, none, none, none, none, none]) ?_ ?_
  · have e2 := (bin_eq (f := fdivD) (F := varD 6) (G := cD (.int 64)) (ε := [some (false, intL ns), some (true, .int first), some (true, .int (m : Nat)), some (true, .int (n : Nat)), some (true, cntD cs), some (true, cntD due), some (true, .int bits), some (true, cntD must0), none, none, none, none, none, none, none, none]) (d := .int bits) rfl rfl).trans (fdivD_ii (by omega) (by omega))
    have e3 := (bin_eq (f := modD) (G := cD (.int 2)) e2 rfl).trans (modD_ii (by omega))
    refine ws_if ((bin_eq (f := eqD) (G := cD (.int 1)) e3 rfl).trans eqD_ii) (fun _ => ?_) fun _ => ws_next ⟨rfl, must0, hm0.1, hm0.2, rfl⟩
    refine ws_set (compD_eq (l := must0) (g := fun k : Nat => .int (k : Nat)) (h := fun k : Nat => .int (k : Nat)) (c := fun k => decide (0 < due.count k)) rfl hm0.2 fun k hk => ⟨_, rfl, ?_, fun _ => rfl⟩) ⟨rfl, must0.filter fun k => decide (0 < due.count k), fun x hx => hm0.1 x (List.mem_filter.mp hx).1, Nat.le_trans (List.length_filter_le _ _) hm0.2, rfl⟩
    have c1 := (bin_eq (f := fun d d2 => countD [d, d2]) (F := varD 5) (G := varD 9) (ε := [some (false, intL ns), some (true, .int first), some (true, .int (m : Nat)), some (true, .int (n : Nat)), some (true, cntD cs), some (true, cntD due), some (true, .int bits), some (true, cntD must0), none, some (true, .int (k : Nat)), none, none, none, none, none, none]) (d := cntD due) (e := .int (k : Nat)) rfl rfl).trans (count_D due k)
    have c2 := (bin_eq (f := gtD) (G := cD (.int 0)) (e := .int 0) c1 rfl).trans gtD_ii
    rw [dec_lt0] at c2
    exact c2
  clear hm0 must0
  rintro _ ⟨must1, hm1, hl1, rfl⟩
  obtain ⟨_, ht, must, rfl, hperm⟩ := turned_at must1 (bits / 128 % 1000000000) hl1
  have hmm : ∀ x ∈ must, x < m := fun x hx => hm1 x (hperm.mem_iff.mp hx)
  have hml : must.length ≤ 1000 := by rw [hperm.length_eq]; exact hl1
  refine ws_seq (ws_set (d := cntD must) ?_ (ws_seq (ws_set (d := .bool true) rfl ?_)))
  · have e2 := (bin_eq (f := fdivD) (F := varD 6) (G := cD (.int 128)) (ε := [some (false, intL ns), some (true, .int first), some (true, .int (m : Nat)), some (true, .int (n : Nat)), some (true, cntD cs), some (true, cntD due), some (true, .int bits), some (true, cntD must1), none, none, none, none, none, none, none, none]) (d := .int bits) rfl rfl).trans (fdivD_ii (by omega) (by omega))
    have e3 : bin powD (cD (.int 10)) (cD (.int 9)) [some (false, intL ns), some (true, .int first), some (true, .int (m : Nat)), some (true, .int (n : Nat)), some (true, cntD cs), some (true, cntD due), some (true, .int bits), some (true, cntD must1), none, none, none, none, none, none, none, none] = some (.int 1000000000) := by
      exact (bin_eq (d := .int 10) (e := .int 9) rfl rfl).trans pow_109
    have e4 := (bin_eq (f := modD) e2 e3).trans (modD_ii (by omega))
    exact (callD_eq (consA_eq (show varD 7 _ = some (cntD must1) from rfl) (consA_eq e4 rfl))).trans ht
  show wS _ [some (false, intL ns), some (true, .int first), some (true, .int (m : Nat)), some (true, .int (n : Nat)), some (true, cntD cs), some (true, cntD due), some (true, .int bits), some (true, cntD must), some (true, .bool true), none, none, none, none, none, none, none] _
  -- good
  refine ws_seq (ws_for (fun i ε => ∃ t9 : Option (Bool × D), ε = [some (false, intL ns), some (true, .int first), some (true, .int (m : Nat)), some (true, .int (n : Nat)), some (true, cntD cs), some (true, cntD due), some (true, .int bits), some (true, cntD must), some (true, .bool (goodB cs due must i)), t9, none, none, none, none, none, none])
    (rangeA_eq (n := m) rfl (by omega)) ⟨none, ?_⟩ ?_ ?_)
  · have : goodB cs due must 0 = true := decide_eq_true (by intro k hk; omega)
    rw [this]
    rfl
  · rintro i ε' hi ⟨t9, rfl⟩
    rw [List.length_map, List.length_range] at hi
    rw [List.getElem_map, List.getElem_range]
    refine ⟨[some (false, intL ns), some (true, .int first), some (true, .int (m : Nat)), some (true, .int (n : Nat)), some (true, cntD cs), some (true, cntD due), some (true, .int bits), some (true, cntD must), some (true, .bool (goodB cs due must i)), some (true, .int (i : Nat)), none, none, none, none, none, none], rfl, ?_⟩
    have ec := fun (ε : Ev) (h5 : varD 5 ε = some (cntD due)) (h9 : varD 9 ε = some (.int (i : Nat))) => (bin_eq (f := fun d d2 => countD [d, d2]) h5 h9).trans (count_D due i)
    have ei := fun (ε : Ev) (h4 : varD 4 ε = some (cntD cs)) (h9 : varD 9 ε = some (.int (i : Nat))) => (bin_eq (f := idxD) h4 h9).trans (getD_mapI (l := cs) (t := i) (by omega))
    refine ws_if (b := decide (badAt cs due must i)) ?_ (fun h => ws_set (d := .bool false) rfl ?_) fun h => ws_next ?_
    · have c1 := (bin_eq (f := gtD) (ec _ rfl rfl) (ei [some (false, intL ns), some (true, .int first), some (true, .int (m : Nat)), some (true, .int (n : Nat)), some (true, cntD cs), some (true, cntD due), some (true, .int bits), some (true, cntD must), some (true, .bool (goodB cs due must i)), some (true, .int (i : Nat)), none, none, none, none, none, none] rfl rfl)).trans gtD_ii
      have c2 := (bin_eq (f := ltD) (ec _ rfl rfl) (ei [some (false, intL ns), some (true, .int first), some (true, .int (m : Nat)), some (true, .int (n : Nat)), some (true, cntD cs), some (true, cntD due), some (true, .int bits), some (true, cntD must), some (true, .bool (goodB cs due must i)), some (true, .int (i : Nat)), none, none, none, none, none, none] rfl rfl)).trans ltD_ii
      have c3 := (bin_eq (f := inD) (F := varD 9) (G := varD 7) (ε := [some (false, intL ns), some (true, .int first), some (true, .int (m : Nat)), some (true, .int (n : Nat)), some (true, cntD cs), some (true, cntD due), some (true, .int bits), some (true, cntD must), some (true, .bool (goodB cs due must i)), some (true, .int (i : Nat)), none, none, none, none, none, none]) (d := .int (i : Nat)) (e := cntD must) rfl rfl).trans (inD_cnt i must)
      rw [dec_lt] at c1 c2
      unfold orT andT
      rw [c1, c2, c3]
      unfold badAt
      by_cases x1 : cs.getD i 0 < due.count i
      · simp only [x1, decide_true, Option.bind_some, if_true, true_or]
      · by_cases x2 : i ∈ must
        · by_cases x3 : due.count i < cs.getD i 0
          · simp only [x1, x2, x3, decide_true, decide_false, Option.bind_some, if_true, true_and, or_true, Bool.false_eq_true, if_false]
          · simp only [x1, x2, x3, decide_true, decide_false, Option.bind_some, if_true, and_false, or_false, Bool.false_eq_true, if_false]
        · simp only [x1, x2, decide_true, decide_false, Option.bind_some, if_true, false_and, or_false, Bool.false_eq_true, if_false]
    · have h := of_decide_eq_true h
      have : goodB cs due must (i + 1) = false := decide_eq_false fun z => z i (by omega) h
      rw [this]
      exact ⟨_, rfl⟩
    · have h := of_decide_eq_false h
      have : goodB cs due must (i + 1) = goodB cs due must i := by
        unfold goodB
        refine decide_eq_decide.mpr ⟨fun z k hk => z k (by omega), fun z k hk => ?_⟩
        by_cases e : k = i
        · subst e; exact h
        · exact z k (by omega)
      show ∃ t9, _
      rw [this]
      exact ⟨_, rfl⟩
  rintro ε' ⟨t9, rfl⟩
  rw [List.length_map, List.length_range]
  subst hcl
  have hB : HypB cs (ones due) must := by
    refine ⟨hm6, by simp [ones]; omega, fun row hr t ht => ?_, hmm, fun x hx => by have := hc9 x hx; omega⟩
    obtain ⟨y, hy, rfl⟩ := List.mem_map.mp hr
    rw [List.mem_singleton] at ht
    subst ht
    exact hdm _ hy
  have hdap := dap_ones hB.hyp
  generalize hg : goodB cs due must cs.length = good at *
  have hlo : (ones due).length ≤ 1000 := by simp [ones]; omega
  refine ws_seq (ws_set (d := mayD (ones due)) ?_ ?_)
  · refine (compD_all (l := due) (g := fun t : Nat => .int (t : Nat)) (h := fun t => cntD [t]) rfl (by omega) fun t _ => ⟨_, rfl, listD_eq (ds := [.int (t : Nat)]) rfl (by simp)⟩).trans ?_
    unfold mayD ones
    rw [List.map_map]
    rfl
  show wS _ [some (false, intL ns), some (true, .int first), some (true, .int (cs.length : Nat)), some (true, .int (n : Nat)), some (true, cntD cs), some (true, cntD due), some (true, .int bits), some (true, cntD must), some (true, .bool good), t9, some (true, mayD (ones due)), none, none, none, none, none] _
  refine ws_seq (ws_set (d := .list [cntD cs, mayD (ones due), cntD must]) ?_ ?_)
  · refine listD_eq (ds := [cntD cs, mayD (ones due), cntD must]) (consA_eq ?_ (consA_eq ?_ (consA_eq ?_ rfl))) (by simp)
    · exact (callD_eq (ds := [cntD cs]) rfl).trans (listOf_cnt cs)
    · exact compD_all (l := ones due) (g := cntD) (h := cntD) rfl hlo fun r _ => ⟨_, rfl, (callD_eq (ds := [cntD r]) rfl).trans (listOf_cnt r)⟩
    · exact (callD_eq (ds := [cntD must]) rfl).trans (listOf_cnt must)
  show wS _ (e30 ns first bits cs.length n cs due must good t9 none none) _
  refine ws_seq (ws_for (fun i ε => ∃ t9 t12 t13 : Option (Bool × D), ε = e30 ns first bits cs.length n cs due must good t9 t12 t13) (rangeA_eq (n := 2) rfl (by omega)) ⟨_, _, _, rfl⟩ ?_ ?_)
  rotate_left
  · rintro ε' ⟨t9, t12, t13, rfl⟩
    exact ws_ret (d := .bool true) rfl rfl
  rintro i ε' hi ⟨t9, t12, t13, rfl⟩
  refine ⟨e30 ns first bits cs.length n cs due must good (some (true, ((List.range 2).map fun k : Nat => PyData.int (k : Nat))[i])) t12 t13, ?_, ?_⟩
  · rw [List.getElem_map]
    rfl
  generalize (some (true, ((List.range 2).map fun k : Nat => PyData.int (k : Nat))[i]) : Option (Bool × D)) = t9
  have hd := deal_of_at hB
  have hw := why_none_at hB
  have ea : ∀ t12 t13, consA (bin idxD (varD 11) (cD (.int 0))) (consA (bin idxD (varD 11) (cD (.int 1))) (consA (bin idxD (varD 11) (cD (.int 2))) nilA)) (e30 ns first bits cs.length n cs due must good t9 t12 t13) = some [cntD cs, mayD (ones due), cntD must] := fun t12 t13 =>
    consA_eq ((bin_eq (d := .list [cntD cs, mayD (ones due), cntD must]) (e := .int 0) rfl rfl).trans idxD_0) (consA_eq ((bin_eq (d := .list [cntD cs, mayD (ones due), cntD must]) (e := .int 1) rfl rfl).trans idxD_1) (consA_eq ((bin_eq (d := .list [cntD cs, mayD (ones due), cntD must]) (e := .int 2) rfl rfl).trans idxD_2) rfl))
  cases good with
  | true =>
    rw [if_pos rfl] at hdap
    rw [hdap] at hd hw
    refine ws_seq (ws_set ((callD_eq (ea _ _)).trans hd) (ws_seq (ws_set ((callD_eq (ea _ _)).trans hw) ?_)))
    show wS _ (e30 ns first bits cs.length n cs due must true t9 (some (true, cntD due)) (some (true, .none))) _
    refine ws_seq (ws_ifF ((bin_eq (d := .list [cntD cs, mayD (ones due), cntD must]) (e := .list [cntD cs, mayD (ones due), cntD must]) rfl (listD_eq rfl (by simp))).trans (neD_self (shp_hand _ _ _) (by decide))) (ws_next ?_))
    refine ws_seq (ws_ifF ?_ (ws_next (ws_seq (ws_ifF rfl (ws_next (ws_ifT rfl ?_))))))
    · have e1 := (callD_eq (f := s_law_numbers_75bc) (A := consA (varD 12) (consA (varD 5) nilA)) (ε := e30 ns first bits cs.length n cs due must true t9 (some (true, cntD due)) (some (true, .none))) (ds := [cntD due, cntD due]) rfl).trans (numbers_at due (by omega))
      have e2 : un asB (callD s_law_numbers_75bc (consA (varD 12) (consA (varD 5) nilA))) (e30 ns first bits cs.length n cs due must true t9 (some (true, cntD due)) (some (true, .none))) = some true := by
        unfold un
        rw [e1]
        rfl
      unfold andT orT notT
      rw [e2]
      rfl
    · refine ws_put (ds := due.map fun n : Nat => .int (n : Nat)) rfl rfl (if_pos ?_) ⟨_, _, _, rfl⟩
      rw [List.length_map]
      exact small1000 (by omega)
  | false =>
    rw [if_neg Bool.false_ne_true] at hdap
    obtain ⟨r, hw, hd⟩ : ∃ ds : List D, s_why_none [cntD cs, mayD (ones due), cntD must] = some (.tuple ds) ∧ s_deal_of [cntD cs, mayD (ones due), cntD must] = some .none := by
      cases q : Deals.dap cs (ones due) must with
      | deal d => exact (hdap d q).elim
      | askers S => rw [q] at hd hw; exact ⟨_, hw, hd⟩
      | things S => rw [q] at hd hw; exact ⟨_, hw, hd⟩
    refine ws_seq (ws_set ((callD_eq (ea _ _)).trans hd) (ws_seq (ws_set ((callD_eq (ea _ _)).trans hw) ?_)))
    show wS _ (e30 ns first bits cs.length n cs due must false t9 (some (true, .none)) (some (true, .tuple r))) _
    refine ws_seq (ws_ifF ((bin_eq (d := .list [cntD cs, mayD (ones due), cntD must]) (e := .list [cntD cs, mayD (ones due), cntD must]) rfl (listD_eq rfl (by simp))).trans (neD_self (shp_hand _ _ _) (by decide))) (ws_next ?_))
    exact ws_seq (ws_ifF rfl (ws_next (ws_seq (ws_ifF rfl (ws_next (ws_ifF rfl (ws_next ⟨_, _, _, rfl⟩)))))))
end PV

namespace PV
open PySem PySem.Spec PyProof.Rows L2
theorem boolD_eq {T : FT} {ε : Ev} {b : Bool} (h : T ε = some b) : boolD T ε = some (.bool b) := by
  unfold boolD
  rw [h]
  rfl
theorem andT_t {T U : FT} {ε : Ev} {b : Bool} (h : T ε = some true) (g : U ε = some b) : andT T U ε = some b := by
  unfold andT
  rw [h, Option.bind_some, if_pos rfl, g]
theorem andT_f {T U : FT} {ε : Ev} (h : T ε = some false) : andT T U ε = some false := by
  unfold andT
  rw [h]
  rfl
theorem orT_f {T U : FT} {ε : Ev} {b : Bool} (h : T ε = some false) (g : U ε = some b) : orT T U ε = some b := by
  unfold orT
  rw [h, Option.bind_some, if_neg Bool.false_ne_true, g]
theorem orT_t {T U : FT} {ε : Ev} (h : T ε = some true) : orT T U ε = some true := by
  unfold orT
  rw [h]
  rfl
theorem notT_eq {T : FT} {ε : Ev} {b : Bool} (h : T ε = some b) : notT T ε = some (!b) := by
  unfold notT
  rw [h]
  rfl
theorem un_eq {α : Type} {f : D → Option α} {F : FE} {ε : Ev} {d : D} (h : F ε = some d) : un f F ε = f d := by
  unfold un
  rw [h]
  rfl
theorem asB_eq {F : FE} {ε : Ev} {b : Bool} (h : F ε = some (.bool b)) : un asB F ε = some b := un_eq h
theorem eqD_nil : eqD (.list []) (.list []) = some true := eqD_self (shp_nil (n := 0)) (by decide)
theorem plain_at (l : List Nat) (hl : l.length ≤ 1000) : s_law_plain_a4df [cntD l] = some (.bool true) := by
  refine run_eq rfl ?_
  show wS b_law_plain_a4df [some (false, cntD l), none] _
  refine ws_seq (ws_ifF rfl (ws_next (ws_ret (d := .bool true) ?_ rfl)))
  have e := compD_eq (l := l) (g := fun n : Nat => .int (n : Nat)) (h := fun n : Nat => .int (n : Nat)) (c := fun _ => false) (G := itemsD (varD 0)) (T := nameT 1) (C := orT (notT (isiT .int (varD 1))) (isiT .bool (varD 1))) (E := flatF (varD 1)) (vs := [1]) (ε := [some (false, cntD l), none]) rfl hl fun x _ => ⟨_, rfl, rfl, fun z => Bool.noConfusion z⟩
  have e0 : l.filter (fun _ => false) = [] := by simp
  rw [e0] at e
  have e2 := (bin_eq (f := eqD) (G := listD nilA) (e := .list []) e rfl).trans eqD_nil
  unfold boolD
  rw [e2]
  rfl
theorem idx_may {may : List (List Nat)} {i : Nat} (h : i < may.length) : idxD (mayD may) (.int (i : Nat)) = some (cntD (may.getD i [])) := by
  show idxD (.list (may.map cntD)) (.int (i : Nat)) = _
  rw [idxD_nat, List.getElem?_map, List.getD_eq_getElem?_getD, List.getElem?_eq_getElem h]
  rfl
theorem idx_cnt {l : List Nat} {i : Nat} (h : i < l.length) : idxD (cntD l) (.int (i : Nat)) = some (.int (l.getD i 0 : Nat)) := getD_mapI h
theorem len_cnt {i : Nat} {ε : Ev} {l : List Nat} (h : varD i ε = some (cntD l)) : callD lenD (consA (varD i) nilA) ε = some (.int (l.length : Nat)) := by
  refine (callD_eq (consA_eq h rfl)).trans ?_
  show some (PyData.int ((l.map fun n : Nat => PyData.int (n : Nat)).length : Nat)) = _
  rw [List.length_map]
theorem len_may {i : Nat} {ε : Ev} {l : List (List Nat)} (h : varD i ε = some (mayD l)) : callD lenD (consA (varD i) nilA) ε = some (.int (l.length : Nat)) := by
  refine (callD_eq (consA_eq h rfl)).trans ?_
  show some (PyData.int ((l.map cntD).length : Nat)) = _
  rw [List.length_map]
theorem pair_lt {l : List Nat} (h : l.Pairwise (· < ·)) : ∀ p ∈ (l.take (l.length - 1)).zip (l.drop 1), p.1 < p.2 := by
  cases l with
  | nil => simp
  | cons x l =>
    induction l generalizing x with
    | nil => simp
    | cons y l ih =>
      intro p hp
      have e : ((x :: y :: l).take ((x :: y :: l).length - 1)).zip ((x :: y :: l).drop 1) = (x, y) :: ((y :: l).take ((y :: l).length - 1)).zip ((y :: l).drop 1) := by simp
      rw [e] at hp
      rcases List.mem_cons.mp hp with rfl | hp
      · exact (List.pairwise_cons.mp h).1 y (by simp)
      · exact ih y (List.pairwise_cons.mp h).2 p hp
theorem zip_cnt (a b : List Nat) : List.zipWith (fun x y => PyData.tuple [x, y]) (a.map fun n : Nat => PyData.int (n : Nat)) (b.map fun n : Nat => PyData.int (n : Nat)) = (a.zip b).map fun p => .tuple [.int (p.1 : Nat), .int (p.2 : Nat)] := by
  induction a generalizing b with
  | nil => rfl
  | cons x a ih =>
    cases b with
    | nil => rfl
    | cons y b =>
      show _ :: _ = _ :: _
      rw [ih]
      rfl
theorem bools_map {α : Type} (f : α → Bool) (l : List α) : boolsD (l.map fun x => .bool (f x)) = some (l.map f) := by
  induction l with
  | nil => rfl
  | cons x l ih =>
    rw [List.map_cons, boolsD, ih]
    rfl
theorem slice_cnt {i : Nat} {ε : Ev} {l : List Nat} {L U : FO} {lo hi : Option Int} (h : varD i ε = some (cntD l)) (hL : L ε = some lo) (hU : U ε = some hi) : sliceF (varD i) L U ε = some (cntD ((l.drop (HT.sIx l.length 0 lo)).take (HT.sIx l.length l.length hi - HT.sIx l.length 0 lo))) := by
  have e : sliceD (varD i) L U ε = some (cntD ((l.drop (HT.sIx l.length 0 lo)).take (HT.sIx l.length l.length hi - HT.sIx l.length 0 lo))) := by
    unfold sliceD
    rw [h, Option.bind_some, hL, Option.bind_some, hU, Option.bind_some]
    show some (PyData.list (cutD (l.map fun n : Nat => PyData.int (n : Nat)) lo hi)) = _
    unfold cutD cntD
    rw [List.length_map, List.map_take, List.map_drop]
  unfold sliceF
  rw [e, Option.bind_some]
  show (if flatAll _ = true then _ else _) = _
  rw [if_pos (flat_cnt _)]
  rfl
theorem rising_at (l : List Nat) (hl : l.length ≤ 1000) (h0 : l ≠ []) (h : l.Pairwise (· < ·)) : s_law_rising_0c62 [cntD l] = some (.bool true) := by
  refine run_eq rfl ?_
  show wS b_law_rising_0c62 [some (false, cntD l), none, none] _
  refine ws_ret (d := .bool true) ?_ rfl
  have e1 := slice_cnt (i := 0) (ε := [some (false, cntD l), none, none]) (l := l) (L := noneO) (U := someO (un negD (cD (.int 1)))) (lo := none) (hi := some (-1)) rfl rfl rfl
  have e2 := slice_cnt (i := 0) (ε := [some (false, cntD l), none, none]) (l := l) (L := someO (cD (.int 1))) (U := noneO) (lo := some 1) (hi := none) rfl rfl rfl
  have t1 : (l.drop (HT.sIx l.length 0 none)).take (HT.sIx l.length l.length (some (-1)) - HT.sIx l.length 0 none) = l.take (l.length - 1) := by
    have : HT.sIx l.length l.length (some (-1)) = l.length - 1 := by
      show (if (-1 : Int) < 0 then ((-1 : Int) + (l.length : Int)).toNat else min (-1 : Int).toNat l.length) = _
      rw [if_pos (by decide)]
      omega
    rw [this]
    rfl
  have t2 : (l.drop (HT.sIx l.length 0 (some 1))).take (HT.sIx l.length l.length none - HT.sIx l.length 0 (some 1)) = l.drop 1 := by
    have h1 : HT.sIx l.length 0 (some 1) = 1 := by
      have := List.length_pos_iff.mpr h0
      show (if (1 : Int) < 0 then ((1 : Int) + (l.length : Int)).toNat else min (1 : Int).toNat l.length) = _
      rw [if_neg (by decide)]
      show min 1 l.length = 1
      omega
    rw [h1]
    exact List.take_of_length_le (by simp [HT.sIx])
  rw [t1] at e1
  rw [t2] at e2
  have ez : zipD (consA (sliceF (varD 0) noneO (someO (un negD (cD (.int 1))))) (consA (sliceF (varD 0) (someO (cD (.int 1))) noneO) nilA)) [some (false, cntD l), none, none] = some (((l.take (l.length - 1)).zip (l.drop 1)).map fun p => .tuple [.int (p.1 : Nat), .int (p.2 : Nat)]) := by
    unfold zipD
    rw [consA_eq e1 (consA_eq e2 rfl), Option.bind_some]
    exact congrArg some (zip_cnt _ _)
  have hz : ((l.take (l.length - 1)).zip (l.drop 1)).length ≤ 1000 := by
    rw [List.length_zip, List.length_take]
    omega
  have ec := compD_all (l := (l.take (l.length - 1)).zip (l.drop 1)) (h := fun p => .bool (decide (p.1 < p.2))) (T := tupT [(nameT 1), (nameT 2)]) (E := boolD (bin ltD (varD 1) (varD 2))) (vs := [1, 2]) ez hz fun p _ => ⟨_, rfl, by
    show some (PyData.bool (decide ((p.1 : Int) < (p.2 : Int)))) = _
    rw [dec_lt]⟩
  have ea : callD allD (consA (compD (zipD (consA (sliceF (varD 0) noneO (someO (un negD (cD (.int 1))))) (consA (sliceF (varD 0) (someO (cD (.int 1))) noneO) nilA))) (tupT [(nameT 1), (nameT 2)]) yesT (boolD (bin ltD (varD 1) (varD 2))) [1, 2]) nilA) [some (false, cntD l), none, none] = some (.bool true) := by
    refine (callD_eq (consA_eq ec rfl)).trans ?_
    show (boolsD _).map _ = _
    rw [bools_map, Option.map_some]
    congr 2
    rw [List.all_map]
    exact List.all_eq_true.mpr fun p hp => decide_eq_true (pair_lt h p hp)
  have en := (bin_eq (f := neD) (F := varD 0) (G := listD nilA) (ε := [some (false, cntD l), none, none]) (d := cntD l) (e := .list []) rfl rfl).trans neD_nil
  rw [decide_eq_true h0] at en
  exact boolD_eq (andT_t en (asB_eq ea))
/-! ### a deal is a deal -/
theorem deal_ok {cs : List Nat} {may : List (List Nat)} {must d : List Nat} (hm : may.length ≤ 1000) (hc : cs.length ≤ 6) (F : Deals.Full cs may d) (hd : ∀ x ∈ must, d.count x = cs.getD x 0) : s_law_is_deal_73aa [cntD d, cntD cs, mayD may, cntD must] = some (.bool true) := by
  have hl : d.length ≤ 1000 := by rw [F.len]; exact hm
  refine run_eq rfl ?_
  show wS b_law_is_deal_73aa [some (false, cntD d), some (false, cntD cs), some (false, mayD may), some (false, cntD must), none, none, none] _
  have e1 := (callD_eq (f := s_law_plain_a4df) (A := consA (varD 0) nilA) (ε := [some (false, cntD d), some (false, cntD cs), some (false, mayD may), some (false, cntD must), none, none, none]) (ds := [cntD d]) rfl).trans (plain_at d hl)
  have e2 := (bin_eq (f := neD) (len_cnt (i := 0) (ε := [some (false, cntD d), some (false, cntD cs), some (false, mayD may), some (false, cntD must), none, none, none]) (l := d) rfl) (len_may (i := 2) (l := may) rfl)).trans neD_ii
  have ez : zipD (consA (varD 0) (consA (varD 2) nilA)) [some (false, cntD d), some (false, cntD cs), some (false, mayD may), some (false, cntD must), none, none, none] = some ((List.range d.length).map fun j => .tuple [.int (d.getD j 0 : Nat), cntD (may.getD j [])]) := by
    show some (List.zipWith _ (d.map _) (may.map cntD)) = _
    congr 1
    refine List.ext_getElem (by simp [F.len]) fun j h1 h2 => ?_
    have hj : j < d.length := by simpa using h2
    have hj2 : j < may.length := by rw [← F.len]; exact hj
    simp [List.getD_eq_getElem?_getD, hj, hj2]
  refine ws_seq (ws_ifF ?_ (ws_next (ws_seq (ws_for (fun i ε => ∃ t4 t5 : Option (Bool × D), ε = [some (false, cntD d), some (false, cntD cs), some (false, mayD may), some (false, cntD must), t4, t5, none]) ez ⟨_, _, rfl⟩ ?_ ?_))))
  · unfold orT notT un
    rw [e1, e2]
    simp [asB, F.len]
  · rintro i ε' hi ⟨t4, t5, rfl⟩
    rw [List.length_map, List.length_range] at hi
    rw [List.getElem_map, List.getElem_range]
    refine ⟨[some (false, cntD d), some (false, cntD cs), some (false, mayD may), some (false, cntD must), some (true, .int (d.getD i 0 : Nat)), some (false, cntD (may.getD i [])), none], rfl, ws_ifF ?_ (ws_next ⟨_, _, rfl⟩)⟩
    refine (bin_eq (f := notInD) (F := varD 4) (G := varD 5) (d := .int (d.getD i 0 : Nat)) (e := cntD (may.getD i [])) rfl rfl).trans ((notInD_cnt _ _).trans ?_)
    have := F.own i (by rw [← F.len]; exact hi)
    simpa using this
  · rintro ε' ⟨t4, t5, rfl⟩
    refine ws_seq (ws_for (fun i ε => ∃ t6 : Option (Bool × D), ε = [some (false, cntD d), some (false, cntD cs), some (false, mayD may), some (false, cntD must), t4, t5, t6]) (rangeA_eq (len_cnt (l := cs) rfl) (by omega)) ⟨_, rfl⟩ ?_ ?_)
    · rintro i ε' hi ⟨t6, rfl⟩
      rw [List.length_map, List.length_range] at hi
      rw [List.getElem_map, List.getElem_range]
      refine ⟨[some (false, cntD d), some (false, cntD cs), some (false, mayD may), some (false, cntD must), t4, t5, some (true, .int (i : Nat))], rfl, ws_ifF ?_ (ws_next ⟨_, rfl⟩)⟩
      have ec := (bin_eq (f := fun d d2 => countD [d, d2]) (F := varD 0) (G := varD 6) (ε := [some (false, cntD d), some (false, cntD cs), some (false, mayD may), some (false, cntD must), t4, t5, some (true, .int (i : Nat))]) (d := cntD d) (e := .int (i : Nat)) rfl rfl).trans (count_D d i)
      have ei := (bin_eq (f := idxD) (F := varD 1) (G := varD 6) (ε := [some (false, cntD d), some (false, cntD cs), some (false, mayD may), some (false, cntD must), t4, t5, some (true, .int (i : Nat))]) (d := cntD cs) (e := .int (i : Nat)) rfl rfl).trans (idx_cnt hi)
      have c1 := (bin_eq (f := gtD) ec ei).trans gtD_ii
      have c2 := (bin_eq (f := ltD) ec ei).trans ltD_ii
      have c3 := (bin_eq (f := inD) (F := varD 6) (G := varD 3) (ε := [some (false, cntD d), some (false, cntD cs), some (false, mayD may), some (false, cntD must), t4, t5, some (true, .int (i : Nat))]) (d := .int (i : Nat)) (e := cntD must) rfl rfl).trans (inD_cnt i must)
      rw [dec_lt] at c1 c2
      have cap := F.cap i hi
      unfold orT andT
      rw [c1, c2, c3]
      have x1 : ¬ cs.getD i 0 < d.count i := by omega
      by_cases x2 : i ∈ must
      · have x3 : ¬ d.count i < cs.getD i 0 := by rw [hd i x2]; omega
        simp only [x1, x2, x3, decide_true, decide_false, Option.bind_some, if_true, Bool.false_eq_true, if_false]
      · simp only [x1, x2, decide_false, Option.bind_some, Bool.false_eq_true, if_false]
    · rintro ε' ⟨t6, rfl⟩
      exact ws_ret (d := .bool true) rfl rfl
/-! ### a paper is a paper -/
theorem filt_at {i j : Nat} {ε : Ev} {l : List Nat} {C : FT} {c : Nat → Bool} (h : varD i ε = some (cntD l)) (hl : l.length ≤ 1000) (hj : j < ε.length) (hC : ∀ x ∈ l, C ((wipeE ε [j]).set j (some (true, .int (x : Nat)))) = some (c x)) :
    compD (itemsD (varD i)) (nameT j) C (flatF (varD j)) [j] ε = some (cntD (l.filter c)) := by
  refine compD_eq (l := l) (g := fun n : Nat => .int (n : Nat)) (h := fun n : Nat => .int (n : Nat)) (c := c) ?_ hl fun x hx => ⟨_, rfl, hC x hx, fun _ => ?_⟩
  · unfold itemsD
    rw [h]
    rfl
  · have e : varD j ((wipeE ε [j]).set j (some (true, .int (x : Nat)))) = some (.int (x : Nat)) := by
      unfold varD
      rw [List.getElem?_set_self (by show j < (ε.set j none).length; rw [List.length_set]; exact hj)]
    unfold flatF
    exact un_eq e
theorem ne_filt {F : FE} {ε : Ev} {l : List Nat} {c : Nat → Bool} (h : F ε = some (cntD (l.filter c))) : bin neD F (listD nilA) ε = some (l.any c) := by
  refine (bin_eq (e := .list []) h rfl).trans (neD_nil.trans ?_)
  congr 1
  by_cases hc : l.any c = true
  · rw [hc]
    obtain ⟨x, m, hx⟩ := List.any_eq_true.mp hc
    exact decide_eq_true fun z => by
      have := List.mem_filter.mpr ⟨m, hx⟩
      rw [z] at this
      simp at this
  · have : l.any c = false := by simpa using hc
    rw [this]
    refine decide_eq_false fun z => z (List.filter_eq_nil_iff.mpr fun x m hx => hc (List.any_eq_true.mpr ⟨x, m, hx⟩))
theorem idx_last {l : List Nat} (h : 0 < l.length) : idxD (cntD l) (.int (-1)) = some (.int (l.getD (l.length - 1) 0 : Nat)) := by
  show atI (l.map fun n : Nat => PyData.int (n : Nat)) (-1) = _
  have e : ixN (l.map fun n : Nat => PyData.int (n : Nat)).length (-1) = some (l.length - 1) := by
    rw [List.length_map]
    unfold ixN
    rw [if_neg (by decide), if_pos (by omega)]
    congr 1
    omega
  unfold atI
  rw [e, Option.bind_some, List.getElem?_map, List.getD_eq_getElem?_getD, List.getElem?_eq_getElem (by omega)]
  rfl
theorem askers_ok {cs : List Nat} {may : List (List Nat)} {must S : List Nat} (hm : may.length ≤ 1000) (hc : cs.length ≤ 6) (p : Deals.PaperA cs may S) : s_law_is_paper_ad33 [.tuple [.str "askers", cntD S], cntD cs, mayD may, cntD must] = some (.bool true) := by
  have hl : S.length ≤ 1000 := Nat.le_trans (by have := nodup_le (l := List.range may.length) (Deals.up_nodup p.up) fun x m => List.mem_range.mpr (p.lt x m); simpa using this) hm
  refine run_eq rfl ?_
  show wS b_law_is_paper_ad33 [some (false, .tuple [.str "askers", cntD S]), some (false, cntD cs), some (false, mayD may), some (false, cntD must), none, none, none, none, none] _
  refine ws_seq (ws_ifF ?_ (ws_next (ws_seq (ws_setA (d := cntD S) rfl ?_))))
  · exact orT_f rfl (orT_f rfl rfl)
  show wS _ [some (false, .tuple [.str "askers", cntD S]), some (false, cntD cs), some (false, mayD may), some (false, cntD must), some (false, cntD S), none, none, none, none] _
  have e1 := (callD_eq (f := s_law_plain_a4df) (A := consA (varD 4) nilA) (ε := [some (false, .tuple [.str "askers", cntD S]), some (false, cntD cs), some (false, mayD may), some (false, cntD must), some (false, cntD S), none, none, none, none]) (ds := [cntD S]) rfl).trans (plain_at S hl)
  have e2 := (callD_eq (f := s_law_rising_0c62) (A := consA (varD 4) nilA) (ε := [some (false, .tuple [.str "askers", cntD S]), some (false, cntD cs), some (false, mayD may), some (false, cntD must), some (false, cntD S), none, none, none, none]) (ds := [cntD S]) rfl).trans (rising_at S hl p.ne p.up)
  refine ws_seq (ws_ifF (orT_f (notT_eq (asB_eq e1)) (notT_eq (asB_eq e2))) (ws_next (ws_seq (ws_set (d := .int 0) rfl ?_))))
  show wS _ [some (false, .tuple [.str "askers", cntD S]), some (false, cntD cs), some (false, mayD may), some (false, cntD must), some (false, cntD S), some (true, .int 0), none, none, none] _
  have q1 : eqD (.str "askers") (.str "askers") = some true := by decide +kernel
  have hpos := List.length_pos_iff.mpr p.ne
  refine ws_seq (ws_ifT ((bin_eq (d := .str "askers") (e := .str "askers") rfl rfl).trans q1) ?_)
  refine ws_seq (ws_ifF (orT_f ?_ ?_) (ws_next ?_))
  · have h1 := (bin_eq (f := idxD) (F := varD 4) (G := cD (.int 0)) (ε := [some (false, .tuple [.str "askers", cntD S]), some (false, cntD cs), some (false, mayD may), some (false, cntD must), some (false, cntD S), some (true, .int 0), none, none, none]) (d := cntD S) (e := .int ((0 : Nat) : Int)) rfl rfl).trans (idx_cnt hpos)
    refine (bin_eq (f := ltD) (G := cD (.int 0)) (e := .int 0) h1 rfl).trans (ltD_ii.trans (congrArg some (decide_eq_false (by omega))))
  · have h1 := (bin_eq (f := idxD) (F := varD 4) (G := un negD (cD (.int 1))) (ε := [some (false, .tuple [.str "askers", cntD S]), some (false, cntD cs), some (false, mayD may), some (false, cntD must), some (false, cntD S), some (true, .int 0), none, none, none]) (d := cntD S) (e := .int (-1)) rfl rfl).trans (idx_last hpos)
    have h2 := len_may (i := 2) (ε := [some (false, .tuple [.str "askers", cntD S]), some (false, cntD cs), some (false, mayD may), some (false, cntD must), some (false, cntD S), some (true, .int 0), none, none, none]) (l := may) rfl
    refine (bin_eq (f := geD) h1 h2).trans (geD_ii.trans (congrArg some (decide_eq_false ?_)))
    have := p.lt (S.getD (S.length - 1) 0) (by
      rw [List.getD_eq_getElem?_getD, List.getElem?_eq_getElem (by omega)]
      exact List.getElem_mem _)
    omega
  · refine ws_seq (ws_ifF ?_ (ws_next ?_))
    · have e := filt_at (i := 4) (j := 7) (ε := [some (false, .tuple [.str "askers", cntD S]), some (false, cntD cs), some (false, mayD may), some (false, cntD must), some (false, cntD S), some (true, .int 0), none, none, none]) (l := S) (C := bin inD (callD lenD (consA (varD 1) nilA)) (bin idxD (varD 2) (varD 7))) (c := fun one => decide (cs.length ∈ may.getD one [])) rfl hl (by simp) fun x hx => ?_
      · refine (ne_filt e).trans (congrArg some ?_)
        by_cases h : (S.any fun one => decide (cs.length ∈ may.getD one [])) = true
        · obtain ⟨x, mx, hx⟩ := List.any_eq_true.mp h
          exact (p.no x mx (of_decide_eq_true hx)).elim
        · simpa using h
      · exact (bin_eq (f := inD) (len_cnt (l := cs) rfl) ((bin_eq (d := mayD may) (e := .int (x : Nat)) rfl rfl).trans (idx_may (p.lt x hx)))).trans (inD_cnt _ _)
    refine ws_seq (ws_for (fun i ε => ∃ t6 : Option (Bool × D), ε = [some (false, .tuple [.str "askers", cntD S]), some (false, cntD cs), some (false, mayD may), some (false, cntD must), some (false, cntD S), some (true, .int ((((List.range i).map fun k => if S.any (fun one => decide (k ∈ may.getD one [])) = true then cs.getD k 0 else 0).sum : Nat) : Int)), t6, none, none]) (rangeA_eq (len_cnt (l := cs) rfl) (by omega)) ⟨_, rfl⟩ ?_ ?_)
    · rintro i ε' hi ⟨t6, rfl⟩
      rw [List.length_map, List.length_range] at hi
      rw [List.getElem_map, List.getElem_range]
      generalize ht : ((List.range i).map fun k => if S.any (fun one => decide (k ∈ may.getD one [])) = true then cs.getD k 0 else 0).sum = tot
      refine ⟨[some (false, .tuple [.str "askers", cntD S]), some (false, cntD cs), some (false, mayD may), some (false, cntD must), some (false, cntD S), some (true, .int (tot : Nat)), some (true, .int (i : Nat)), none, none], rfl, ?_⟩
      have e := filt_at (i := 4) (j := 7) (ε := [some (false, .tuple [.str "askers", cntD S]), some (false, cntD cs), some (false, mayD may), some (false, cntD must), some (false, cntD S), some (true, .int (tot : Nat)), some (true, .int (i : Nat)), none, none]) (l := S) (C := bin inD (varD 6) (bin idxD (varD 2) (varD 7))) (c := fun one => decide (i ∈ may.getD one [])) rfl hl (by simp) fun x hx =>
        (bin_eq (f := inD) (d := .int (i : Nat)) rfl ((bin_eq (d := mayD may) (e := .int (x : Nat)) rfl rfl).trans (idx_may (p.lt x hx)))).trans (inD_cnt _ _)
      have es : ((List.range (i + 1)).map fun k => if S.any (fun one => decide (k ∈ may.getD one [])) = true then cs.getD k 0 else 0).sum = tot + if S.any (fun one => decide (i ∈ may.getD one [])) = true then cs.getD i 0 else 0 := by
        rw [List.range_succ, List.map_append, List.sum_append, ht]
        simp
      refine ws_if (ne_filt e) (fun hb => ws_set (d := .int (((tot + cs.getD i 0 : Nat)) : Int)) ?_ ⟨some (true, .int (i : Nat)), ?_⟩) fun hb => ws_next ⟨some (true, .int (i : Nat)), ?_⟩
      · refine (bin_eq (f := addD) (F := varD 5) (d := .int (tot : Nat)) rfl ((bin_eq (d := cntD cs) (e := .int (i : Nat)) rfl rfl).trans (idx_cnt hi))).trans ?_
        rw [addD_ii, Int.natCast_add]
      · rw [es, if_pos hb]
        rfl
      · rw [es, if_neg (by rw [hb]; exact Bool.false_ne_true), Nat.add_zero]
    · rintro ε' ⟨t6, rfl⟩
      rw [List.length_map, List.length_range]
      refine ws_ret (d := .bool true) ?_ rfl
      refine boolD_eq ((bin_eq (f := ltD) (F := varD 5) rfl (len_cnt (l := S) rfl)).trans (ltD_ii.trans (congrArg some (decide_eq_true ?_))))
      have := p.few
      unfold Deals.askTotal at this
      omega
theorem things_ok2 {cs : List Nat} {may : List (List Nat)} {must S : List Nat} (hm : may.length ≤ 1000) (hc : cs.length ≤ 6) (hmu : ∀ x ∈ must, x < cs.length) (hr : ∀ row ∈ may, row.length ≤ 1000) (p : Deals.PaperT cs may must S) : s_law_is_paper_ad33 [.tuple [.str "things", cntD S], cntD cs, mayD may, cntD must] = some (.bool true) := by
  have lt : ∀ x ∈ S, x < cs.length := fun x m => hmu x (p.sub x m)
  have hl : S.length ≤ 1000 := Nat.le_trans (by have := nodup_le (l := List.range cs.length) (Deals.up_nodup p.up) fun x m => List.mem_range.mpr (lt x m); simpa using this) (show cs.length ≤ 1000 by omega)
  refine run_eq rfl ?_
  show wS b_law_is_paper_ad33 [some (false, .tuple [.str "things", cntD S]), some (false, cntD cs), some (false, mayD may), some (false, cntD must), none, none, none, none, none] _
  refine ws_seq (ws_ifF ?_ (ws_next (ws_seq (ws_setA (d := cntD S) rfl ?_))))
  · exact orT_f rfl (orT_f rfl rfl)
  show wS _ [some (false, .tuple [.str "things", cntD S]), some (false, cntD cs), some (false, mayD may), some (false, cntD must), some (false, cntD S), none, none, none, none] _
  have e1 := (callD_eq (f := s_law_plain_a4df) (A := consA (varD 4) nilA) (ε := [some (false, .tuple [.str "things", cntD S]), some (false, cntD cs), some (false, mayD may), some (false, cntD must), some (false, cntD S), none, none, none, none]) (ds := [cntD S]) rfl).trans (plain_at S hl)
  have e2 := (callD_eq (f := s_law_rising_0c62) (A := consA (varD 4) nilA) (ε := [some (false, .tuple [.str "things", cntD S]), some (false, cntD cs), some (false, mayD may), some (false, cntD must), some (false, cntD S), none, none, none, none]) (ds := [cntD S]) rfl).trans (rising_at S hl p.ne p.up)
  refine ws_seq (ws_ifF (orT_f (notT_eq (asB_eq e1)) (notT_eq (asB_eq e2))) (ws_next (ws_seq (ws_set (d := .int 0) rfl ?_))))
  show wS _ [some (false, .tuple [.str "things", cntD S]), some (false, cntD cs), some (false, mayD may), some (false, cntD must), some (false, cntD S), some (true, .int 0), none, none, none] _
  have q1 : eqD (.str "things") (.str "askers") = some false := by decide +kernel
  have q2 : neD (.str "things") (.str "things") = some false := by decide +kernel
  refine ws_seq (ws_ifF ((bin_eq (d := .str "things") (e := .str "askers") rfl rfl).trans q1) (ws_next ?_))
  refine ws_seq (ws_ifF (orT_f ((bin_eq (d := .str "things") (e := .str "things") rfl rfl).trans q2) ?_) (ws_next ?_))
  · have e := filt_at (i := 4) (j := 7) (ε := [some (false, .tuple [.str "things", cntD S]), some (false, cntD cs), some (false, mayD may), some (false, cntD must), some (false, cntD S), some (true, .int 0), none, none, none]) (l := S) (C := bin notInD (varD 7) (varD 3)) (c := fun one => decide (one ∉ must)) rfl hl (by simp) fun x hx => (bin_eq (f := notInD) (d := .int (x : Nat)) (e := cntD must) rfl rfl).trans (notInD_cnt _ _)
    refine (ne_filt e).trans (congrArg some ?_)
    by_cases h : (S.any fun one => decide (one ∉ must)) = true
    · obtain ⟨x, mx, hx⟩ := List.any_eq_true.mp h
      exact (of_decide_eq_true hx (p.sub x mx)).elim
    · simpa using h
  refine ws_seq (ws_for (fun i ε => ∃ t6 : Option (Bool × D), ε = [some (false, .tuple [.str "things", cntD S]), some (false, cntD cs), some (false, mayD may), some (false, cntD must), some (false, cntD S), some (true, .int ((((S.take i).map fun x => cs.getD x 0).sum : Nat) : Int)), t6, none, none]) (ds := S.map fun n : Nat => .int (n : Nat)) rfl ⟨_, rfl⟩ ?_ ?_)
  · rintro i ε' hi ⟨t6, rfl⟩
    rw [List.length_map] at hi
    rw [List.getElem_map]
    have es : ((S.take (i + 1)).map fun x => cs.getD x 0).sum = ((S.take i).map fun x => cs.getD x 0).sum + cs.getD S[i] 0 := by
      rw [List.take_succ_eq_append_getElem hi, List.map_append, List.sum_append]
      simp
    have hx := lt _ (List.getElem_mem hi)
    generalize ((S.take i).map fun x => cs.getD x 0).sum = tot at *
    refine ⟨[some (false, .tuple [.str "things", cntD S]), some (false, cntD cs), some (false, mayD may), some (false, cntD must), some (false, cntD S), some (true, .int (tot : Nat)), some (true, .int (S[i] : Nat)), none, none], rfl, ws_set (d := .int (((tot + cs.getD S[i] 0 : Nat)) : Int)) ?_ ⟨some (true, .int (S[i] : Nat)), ?_⟩⟩
    · refine (bin_eq (f := addD) (F := varD 5) (d := .int (tot : Nat)) rfl ((bin_eq (d := cntD cs) (e := .int (S[i] : Nat)) rfl rfl).trans (idx_cnt hx))).trans ?_
      rw [addD_ii, Int.natCast_add]
    · rw [es]
      rfl
  · rintro ε' ⟨t6, rfl⟩
    rw [List.length_map, List.take_length]
    refine ws_ret (d := .bool true) ?_ rfl
    generalize ht : (S.map fun x => cs.getD x 0).sum = tot
    have ec := compD_eq (l := may) (g := cntD) (h := cntD) (c := fun row => row.any fun x => decide (x ∈ S)) (G := itemsD (varD 2)) (T := nameT 8) (C := bin neD (compD (itemsD (varD 8)) (nameT 7) (bin inD (varD 7) (varD 4)) (flatF (varD 7)) [7]) (listD nilA)) (E := varD 8) (vs := [8])
      (ε := [some (false, .tuple [.str "things", cntD S]), some (false, cntD cs), some (false, mayD may), some (false, cntD must), some (false, cntD S), some (true, .int (tot : Nat)), t6, none, none]) rfl hm fun row hrow => ⟨_, rfl, ?_, fun _ => rfl⟩
    · have e1 : callD lenD (consA (compD (itemsD (varD 2)) (nameT 8) (bin neD (compD (itemsD (varD 8)) (nameT 7) (bin inD (varD 7) (varD 4)) (flatF (varD 7)) [7]) (listD nilA)) (varD 8) [8]) nilA) [some (false, .tuple [.str "things", cntD S]), some (false, cntD cs), some (false, mayD may), some (false, cntD must), some (false, cntD S), some (true, .int (tot : Nat)), t6, none, none] = some (.int (((may.filter fun row => row.any fun x => decide (x ∈ S)).length : Nat) : Int)) := by
        refine (callD_eq (consA_eq ec rfl)).trans ?_
        show some (PyData.int (((may.filter fun row => row.any fun x => decide (x ∈ S)).map cntD).length : Nat)) = _
        rw [List.length_map]
      refine boolD_eq ((bin_eq (f := gtD) (F := varD 5) rfl e1).trans (gtD_ii.trans (congrArg some (decide_eq_true ?_))))
      have := p.few
      have e2 := Deals.filter_range (p := fun row : List Nat => row.any fun x => decide (x ∈ S)) (d := []) may
      omega
    · have e := filt_at (i := 8) (j := 7) (ε := [some (false, .tuple [.str "things", cntD S]), some (false, cntD cs), some (false, mayD may), some (false, cntD must), some (false, cntD S), some (true, .int (tot : Nat)), t6, none, some (false, cntD row)]) (l := row) (C := bin inD (varD 7) (varD 4)) (c := fun x => decide (x ∈ S)) rfl (hr row hrow) (by simp) fun x hx => (bin_eq (f := inD) (d := .int (x : Nat)) (e := cntD S) rfl rfl).trans (inD_cnt _ _)
      exact ne_filt e
end PV

namespace PV
open PySem PySem.Spec PyProof.Rows L2
def b_law_k31 : FS :=
  (seqS (forS [] (rangeD (consA (callD min2D (consA (cD (.int 5)) (consA (bin addD (cD (.int 1)) (bin fdivD (callD lenD (consA (varD 0) nilA)) (cD (.int 9)))) nilA))) nilA)) (nameT 1)
  (seqS (setS 2 (compD (rangeD (consA (cD (.int 9)) nilA)) (nameT 6) yesT (callD s_law_cell_at_90ae (consA (varD 0) (consA (bin addD (bin mulD (cD (.int 9)) (varD 1)) (varD 6)) nilA))) [6]))
  (seqS (unpS (tupT [(nameT 3), (nameT 4), (nameT 5)]) (callD s_law_case_a104 (consA (varD 2) nilA)) [])
  (seqS (ifS (notT (un asB (callD s_law_told_92c9 (consA (varD 3) (consA (varD 4) (consA (varD 5) nilA))))))
  (retS (cD (.bool false)))
  nextS)
  (ifS (notT (un asB (callD s_law_told_92c9 (consA (varD 3) (consA (varD 4) (consA (listD nilA) nilA))))))
  (retS (cD (.bool false)))
  nextS)))))
  (retS (cD (.bool true))))
def s_law_k31 : List D → Option D := runF 7 1 b_law_k31
end PV

namespace PV
open PySem PySem.Spec PyProof.Rows L2
abbrev e31 (cs : List Nat) (may : List (List Nat)) (must : List Nat) (t4 t5 t6 : Option (Bool × D)) : Ev :=
  [some (false, cntD cs), some (false, mayD may), some (false, cntD must), some (true, .list [cntD cs, mayD may, cntD must]), t4, t5, t6, none]
theorem told_at {cs : List Nat} {may : List (List Nat)} {must : List Nat} (hB : HypB cs may must) (hr : ∀ row ∈ may, row.length ≤ 1000) : s_law_told_92c9 [cntD cs, mayD may, cntD must] = some (.bool true) := by
  obtain ⟨h1, h2, h3, h4, h5⟩ := id hB
  refine run_eq rfl ?_
  show wS b_law_told_92c9 [some (false, cntD cs), some (false, mayD may), some (false, cntD must), none, none, none, none, none] _
  refine ws_seq (ws_set (d := .list [cntD cs, mayD may, cntD must]) ?_ ?_)
  · refine listD_eq (ds := [cntD cs, mayD may, cntD must]) (consA_eq ?_ (consA_eq ?_ (consA_eq ?_ rfl))) (by simp)
    · exact (callD_eq (ds := [cntD cs]) rfl).trans (listOf_cnt cs)
    · exact compD_all (l := may) (g := cntD) (h := cntD) rfl h2 fun r _ => ⟨_, rfl, (callD_eq (ds := [cntD r]) rfl).trans (listOf_cnt r)⟩
    · exact (callD_eq (ds := [cntD must]) rfl).trans (listOf_cnt must)
  show wS _ (e31 cs may must none none none) _
  have hd := deal_of_at hB
  have hw := why_none_at hB
  have hs := Deals.dap_spec hB.hyp
  have ea : ∀ t4 t5 t6, consA (bin idxD (varD 3) (cD (.int 0))) (consA (bin idxD (varD 3) (cD (.int 1))) (consA (bin idxD (varD 3) (cD (.int 2))) nilA)) (e31 cs may must t4 t5 t6) = some [cntD cs, mayD may, cntD must] := fun t4 t5 t6 =>
    consA_eq ((bin_eq (d := .list [cntD cs, mayD may, cntD must]) (e := .int 0) rfl rfl).trans idxD_0) (consA_eq ((bin_eq (d := .list [cntD cs, mayD may, cntD must]) (e := .int 1) rfl rfl).trans idxD_1) (consA_eq ((bin_eq (d := .list [cntD cs, mayD may, cntD must]) (e := .int 2) rfl rfl).trans idxD_2) rfl))
  have en : ∀ t4 t5 t6, bin neD (varD 3) (listD (consA (varD 0) (consA (varD 1) (consA (varD 2) nilA)))) (e31 cs may must t4 t5 t6) = some false := fun t4 t5 t6 =>
    (bin_eq (d := .list [cntD cs, mayD may, cntD must]) (e := .list [cntD cs, mayD may, cntD must]) rfl (listD_eq rfl (by simp))).trans (neD_self (shp_hand _ _ _) (by decide))
  have eb : ∀ b : Bool, neD (.bool b) (.bool b) = some false := fun b => neD_self (n := 0) shp_bool (by decide)
  refine ws_seq (ws_set ((callD_eq (ea _ _ _)).trans hd) (ws_seq (ws_set ((callD_eq (ea _ _ _)).trans hw) (ws_seq (ws_ifF (en _ _ _) (ws_next (ws_seq (ws_set ((callD_eq (ea _ _ _)).trans hd) ?_))))))))
  cases q : Deals.dap cs may must with
  | deal d =>
    rw [q] at hs hw
    show wS _ (e31 cs may must (some (true, cntD d)) (some (true, .none)) (some (true, cntD d))) _
    refine ws_seq (ws_ifF (orT_f (en _ _ _) ((bin_eq (d := .bool false) (e := .bool false) rfl rfl).trans (eb false))) (ws_next (ws_seq (ws_ifF rfl (ws_next (ws_seq (ws_ifF (orT_f ?_ (en _ _ _)) (ws_next (ws_ret (d := .bool true) ?_ rfl)))))))))
    · exact (bin_eq (d := .none) (e := .none) ((callD_eq (ea _ _ _)).trans hw) rfl)
    · exact boolD_eq (andT_t (asB_eq ((callD_eq (ds := [cntD d, cntD cs, mayD may, cntD must]) rfl).trans (deal_ok h2 h1 hs.1 hs.2))) rfl)
  | askers S =>
    rw [q] at hs
    show wS _ (e31 cs may must (some (true, .none)) (some (true, .tuple [.str "askers", cntD S])) (some (true, .none))) _
    refine ws_seq (ws_ifF (orT_f (en _ _ _) ((bin_eq (d := .bool true) (e := .bool true) rfl rfl).trans (eb true))) (ws_next (ws_seq (ws_ifT rfl (ws_ret (d := .bool true) ?_ rfl)))))
    exact (callD_eq (ds := [.tuple [.str "askers", cntD S], cntD cs, mayD may, cntD must]) rfl).trans (askers_ok h2 h1 hs)
  | things S =>
    rw [q] at hs
    show wS _ (e31 cs may must (some (true, .none)) (some (true, .tuple [.str "things", cntD S])) (some (true, .none))) _
    refine ws_seq (ws_ifF (orT_f (en _ _ _) ((bin_eq (d := .bool true) (e := .bool true) rfl rfl).trans (eb true))) (ws_next (ws_seq (ws_ifT rfl (ws_ret (d := .bool true) ?_ rfl)))))
    exact (callD_eq (ds := [.tuple [.str "things", cntD S], cntD cs, mayD may, cntD must]) rfl).trans (things_ok2 h2 h1 h4 hr hs)
theorem bit7_at {k : Nat} (h : k < 7) : ∃ p : Nat, [PyData.int 1, .int 2, .int 4, .int 8, .int 16, .int 32, .int 64][k]? = some (.int (p : Nat)) ∧ 0 < p ∧ p ≤ 64 := by
  match k, h with
  | 0, _ => exact ⟨1, rfl, by decide, by decide⟩
  | 1, _ => exact ⟨2, rfl, by decide, by decide⟩
  | 2, _ => exact ⟨4, rfl, by decide, by decide⟩
  | 3, _ => exact ⟨8, rfl, by decide, by decide⟩
  | 4, _ => exact ⟨16, rfl, by decide, by decide⟩
  | 5, _ => exact ⟨32, rfl, by decide, by decide⟩
  | 6, _ => exact ⟨64, rfl, by decide, by decide⟩
theorem pow41_at {k : Nat} (h : k < 6) : ∃ p : Int, [PyData.int 1, .int 41, .int 1681, .int 68921, .int 2825761, .int 115856201][k]? = some (.int p) ∧ 0 < p ∧ p ≤ 115856201 := by
  match k, h with
  | 0, _ => exact ⟨1, rfl, by decide, by decide⟩
  | 1, _ => exact ⟨41, rfl, by decide, by decide⟩
  | 2, _ => exact ⟨1681, rfl, by decide, by decide⟩
  | 3, _ => exact ⟨68921, rfl, by decide, by decide⟩
  | 4, _ => exact ⟨2825761, rfl, by decide, by decide⟩
  | 5, _ => exact ⟨115856201, rfl, by decide, by decide⟩
/-- a count by a cell -/
theorem pick_at {i : Nat} {ε : Ev} {c : Int} (h : varD i ε = some (.int c)) : ∃ x : Nat, x ≤ 9 ∧ (flatF (bin idxD (listD (consA (bin modD (bin fdivD (varD i) (cD (.int 4))) (cD (.int 4))) (consA (bin modD (bin fdivD (varD i) (cD (.int 4))) (cD (.int 4))) (consA (bin modD (bin fdivD (varD i) (cD (.int 4))) (cD (.int 2))) (consA (bin modD (bin fdivD (varD i) (cD (.int 4))) (cD (.int 10))) nilA))))) (bin modD (varD i) (cD (.int 4))))) ε = some (.int (x : Nat)) := by
  obtain ⟨n4, h4⟩ : ∃ n : Nat, c / 4 % 4 = (n : Int) := ⟨(c / 4 % 4).toNat, by omega⟩
  obtain ⟨n2, h2⟩ : ∃ n : Nat, c / 4 % 2 = (n : Int) := ⟨(c / 4 % 2).toNat, by omega⟩
  obtain ⟨n10, h10⟩ : ∃ n : Nat, c / 4 % 10 = (n : Int) := ⟨(c / 4 % 10).toNat, by omega⟩
  obtain ⟨j, hj⟩ : ∃ n : Nat, c % 4 = (n : Int) := ⟨(c % 4).toNat, by omega⟩
  have hj4 : j < 4 := by omega
  have e0 := (bin_eq (f := fdivD) (G := cD (.int 4)) (e := .int 4) h rfl).trans (fdivD_ii (by omega) (by omega))
  have e4 := (bin_eq (f := modD) (G := cD (.int 4)) (e := .int 4) e0 rfl).trans (modD_ii (by omega))
  have e2 := (bin_eq (f := modD) (G := cD (.int 2)) (e := .int 2) e0 rfl).trans (modD_ii (by omega))
  have e10 := (bin_eq (f := modD) (G := cD (.int 10)) (e := .int 10) e0 rfl).trans (modD_ii (by omega))
  have ej := (bin_eq (f := modD) (G := cD (.int 4)) (e := .int 4) h rfl).trans (modD_ii (by omega))
  rw [h4] at e4
  rw [h2] at e2
  rw [h10] at e10
  rw [hj] at ej
  have el := listD_eq (ds := [.int n4, .int n4, .int n2, .int n10]) (consA_eq e4 (consA_eq e4 (consA_eq e2 (consA_eq e10 (show nilA ε = some [] from rfl))))) (by simp)
  have e : ∀ x : Nat, [PyData.int n4, .int n4, .int n2, .int n10][j]? = some (.int (x : Nat)) → _ := fun x hx => (un_eq (f := fun d => if flat d = true then some d else none) ((bin_eq (f := idxD) el ej).trans (idxD_nat.trans hx)))
  match j, hj4 with
  | 0, _ => exact ⟨n4, by omega, e n4 rfl⟩
  | 1, _ => exact ⟨n4, by omega, e n4 rfl⟩
  | 2, _ => exact ⟨n2, by omega, e n2 rfl⟩
  | 3, _ => exact ⟨n10, by omega, e n10 rfl⟩
theorem picked_at (c : Int) (m : Nat) (hm : m ≤ 7) : ∃ d, s_law_picked_463e [.int c, .int (m : Nat)] = some d ∧ ∃ l : List Nat, d = cntD l ∧ (∀ x ∈ l, x < m) ∧ l.length ≤ 1000 := by
  refine run_of rfl ?_
  show wS b_law_picked_463e [some (false, .int c), some (false, .int (m : Nat)), none, none, none] _
  refine ws_seq (ws_set (d := .list [PyData.int 1, .int 2, .int 4, .int 8, .int 16, .int 32, .int 64]) (listD_eq rfl (by simp)) ?_)
  refine ws_mid (fun ε => ∃ l : List Nat, (∀ x ∈ l, x < m) ∧ l.length ≤ 1000 ∧ ε = [some (false, .int c), some (false, .int (m : Nat)), some (true, .list [PyData.int 1, .int 2, .int 4, .int 8, .int 16, .int 32, .int 64]), some (true, cntD l), none]) ?_ ?_
  · have bits : ∀ k, ∃ p : Nat, k < m → [PyData.int 1, .int 2, .int 4, .int 8, .int 16, .int 32, .int 64][k]? = some (.int (p : Nat)) ∧ 0 < p ∧ p ≤ 64 := fun k => by
      by_cases h : k < m
      · obtain ⟨p, hp⟩ := bit7_at (show k < 7 by omega)
        exact ⟨p, fun _ => hp⟩
      · exact ⟨0, fun z => (h z).elim⟩
    let p := fun k => (bits k).choose
    have hp : ∀ k, k < m → [PyData.int 1, .int 2, .int 4, .int 8, .int 16, .int 32, .int 64][k]? = some (.int (p k : Nat)) ∧ 0 < p k ∧ p k ≤ 64 := fun k => (bits k).choose_spec
    clear_value p
    refine ws_set (compD_eq (l := List.range m) (g := fun k : Nat => .int (k : Nat)) (h := fun k : Nat => .int (k : Nat)) (c := fun k => decide (c / (p k : Int) % 2 = 1)) (rangeA_eq rfl (by omega)) (by rw [List.length_range]; omega) fun k hk => ⟨_, rfl, ?_, fun _ => rfl⟩) ⟨rfl, (List.range m).filter fun k => decide (c / (p k : Int) % 2 = 1), fun x hx => List.mem_range.mp (List.mem_filter.mp hx).1, Nat.le_trans (List.length_filter_le _ _) (by rw [List.length_range]; omega), rfl⟩
    obtain ⟨p1, p2, p3⟩ := hp k (List.mem_range.mp hk)
    have e1 := (bin_eq (f := idxD) (F := varD 2) (G := varD 4) (ε := [some (false, .int c), some (false, .int (m : Nat)), some (true, .list [PyData.int 1, .int 2, .int 4, .int 8, .int 16, .int 32, .int 64]), none, some (true, .int (k : Nat))]) (e := .int (k : Nat)) rfl rfl).trans (idxD_nat.trans p1)
    have e2 := (bin_eq (f := fdivD) (F := varD 0) (d := .int c) rfl e1).trans (fdivD_ii (by omega) (by omega))
    have e3 := (bin_eq (f := modD) (G := cD (.int 2)) (e := .int 2) e2 rfl).trans (modD_ii (by omega))
    exact (bin_eq (f := eqD) (G := cD (.int 1)) (e := .int 1) e3 rfl).trans eqD_ii
  rintro _ ⟨l, hl1, hl2, rfl⟩
  refine ws_mid (fun ε => ∃ l : List Nat, (∀ x ∈ l, x < m) ∧ l.length ≤ 1000 ∧ ε = [some (false, .int c), some (false, .int (m : Nat)), some (true, .list [PyData.int 1, .int 2, .int 4, .int 8, .int 16, .int 32, .int 64]), some (true, cntD l), none]) ?_ ?_
  · have e2 := (bin_eq (f := fdivD) (F := varD 0) (G := cD (.int 128)) (ε := [some (false, .int c), some (false, .int (m : Nat)), some (true, .list [PyData.int 1, .int 2, .int 4, .int 8, .int 16, .int 32, .int 64]), some (true, cntD l), none]) (d := .int c) (e := .int 128) rfl rfl).trans (fdivD_ii (by omega) (by omega))
    have e3 := (bin_eq (f := modD) (G := cD (.int 4)) (e := .int 4) e2 rfl).trans (modD_ii (by omega))
    refine ws_if ((bin_eq (f := eqD) (G := cD (.int 1)) (e := .int 1) e3 rfl).trans eqD_ii) (fun _ => ws_set (slice_cnt (l := l) (lo := none) (hi := some 1) rfl rfl rfl) ⟨rfl, _, fun x hx => hl1 x ?_, ?_, rfl⟩) fun _ => ws_next ⟨rfl, l, hl1, hl2, rfl⟩
    · exact List.mem_of_mem_drop (List.mem_of_mem_take hx)
    · rw [List.length_take, List.length_drop]
      omega
  rintro _ ⟨l, hl1, hl2, rfl⟩
  obtain ⟨_, ht, l', rfl, hperm⟩ := turned_at l (c / 512 % 1000000000) hl2
  refine ws_ret (d := cntD l') ?_ ⟨l', rfl, fun x hx => hl1 x (hperm.mem_iff.mp hx), by rw [hperm.length_eq]; exact hl2⟩
  have e2 := (bin_eq (f := fdivD) (F := varD 0) (G := cD (.int 512)) (ε := [some (false, .int c), some (false, .int (m : Nat)), some (true, .list [PyData.int 1, .int 2, .int 4, .int 8, .int 16, .int 32, .int 64]), some (true, cntD l), none]) (d := .int c) (e := .int 512) rfl rfl).trans (fdivD_ii (by omega) (by omega))
  have e3 : bin powD (cD (.int 10)) (cD (.int 9)) [some (false, .int c), some (false, .int (m : Nat)), some (true, .list [PyData.int 1, .int 2, .int 4, .int 8, .int 16, .int 32, .int 64]), some (true, cntD l), none] = some (.int 1000000000) := (bin_eq (d := .int 10) (e := .int 9) rfl rfl).trans pow_109
  have e4 := (bin_eq (f := modD) e2 e3).trans (modD_ii (by omega))
  exact (callD_eq (consA_eq (show varD 3 _ = some (cntD l) from rfl) (consA_eq e4 rfl))).trans ht
theorem cell_in {cells : List Int} {k : Nat} (h : k < cells.length) : idxD (intL cells) (.int (k : Nat)) = some (.int (cells.getD k 0)) := by
  show idxD (.list (cells.map PyData.int)) (.int (k : Nat)) = _
  rw [idxD_nat, List.getElem?_map, List.getD_eq_getElem?_getD, List.getElem?_eq_getElem h]
  rfl
theorem app_cnt {l : List Nat} {x : Nat} (h : l.length ≤ 900) : appD (l.map fun n : Nat => PyData.int (n : Nat)) (.int (x : Nat)) = some ((l ++ [x]).map fun n : Nat => PyData.int (n : Nat)) := by
  unfold appD
  rw [List.length_map, if_pos (small1000 (by omega)), List.map_append]
  rfl
theorem app_may {l : List (List Nat)} {x : List Nat} (h : l.length ≤ 900) : appD (l.map cntD) (cntD x) = some ((l ++ [x]).map cntD) := by
  unfold appD
  rw [List.length_map, if_pos (small1000 (by omega)), List.map_append]
  rfl
theorem case_at (cells : List Int) (hcl : cells.length = 9) : ∃ d, s_law_case_a104 [intL cells] = some d ∧ ∃ cs may must, d = .tuple [cntD cs, mayD may, cntD must] ∧ HypB cs may must ∧ ∀ row ∈ may, row.length ≤ 1000 := by
  refine run_of rfl ?_
  show wS b_law_case_a104 [some (false, intL cells), none, none, none, none, none, none, none] _
  have ci : ∀ k, k < 9 → idxD (intL cells) (.int (k : Nat)) = some (.int (cells.getD k 0)) := fun k h => cell_in (by omega)
  obtain ⟨m, hm⟩ : ∃ m : Nat, cells.getD 0 0 % 7 = (m : Int) := ⟨(cells.getD 0 0 % 7).toNat, by omega⟩
  obtain ⟨n, hn⟩ : ∃ n : Nat, 1 + cells.getD 0 0 / 7 % 6 = (n : Int) := ⟨(1 + cells.getD 0 0 / 7 % 6).toNat, by omega⟩
  have hm6 : m ≤ 6 := by omega
  have hn6 : n ≤ 6 := by omega
  refine ws_seq (ws_setA (d := .int (cells.getD 0 0)) ((bin_eq (d := intL cells) (e := .int ((0 : Nat) : Int)) rfl rfl).trans (ci 0 (by omega))) ?_)
  show wS _ [some (false, intL cells), some (true, .int (cells.getD 0 0)), none, none, none, none, none, none] _
  refine ws_seq (ws_set (d := .int (m : Nat)) (by simp [bin, varD, cD]; exact hm) (ws_seq (ws_set (d := .int (n : Nat)) (by simp [bin, varD, cD]; exact hn) (ws_seq (ws_set (d := .list []) rfl ?_)))))
  generalize cells.getD 0 0 = number
  show wS _ [some (false, intL cells), some (true, .int number), some (true, .int (m : Nat)), some (true, .int (n : Nat)), some (true, cntD []), none, none, none] _
  refine ws_seq (ws_for (fun i ε => ∃ (cs : List Nat) (t5 t6 : Option (Bool × D)), ε = [some (false, intL cells), some (true, .int number), some (true, .int (m : Nat)), some (true, .int (n : Nat)), some (true, cntD cs), t5, t6, none] ∧ cs.length = i ∧ ∀ x ∈ cs, x ≤ 9) (rangeA_eq (n := m) rfl (by omega)) ⟨[], _, _, rfl, rfl, by simp⟩ ?_ ?_)
  · rintro i ε' hi ⟨cs, t5, t6, rfl, hl, hc⟩
    rw [List.length_map, List.length_range] at hi
    rw [List.getElem_map, List.getElem_range]
    obtain ⟨p, hp, hp0, hp1⟩ := pow41_at (show i < 6 by omega)
    refine ⟨[some (false, intL cells), some (true, .int number), some (true, .int (m : Nat)), some (true, .int (n : Nat)), some (true, cntD cs), some (true, .int (i : Nat)), t6, none], rfl, ?_⟩
    have e1 := (bin_eq (f := idxD) (F := varD 0) (G := cD (.int 1)) (ε := [some (false, intL cells), some (true, .int number), some (true, .int (m : Nat)), some (true, .int (n : Nat)), some (true, cntD cs), some (true, .int (i : Nat)), t6, none]) (d := intL cells) (e := .int ((1 : Nat) : Int)) rfl rfl).trans (ci 1 (by omega))
    have e2 := (bin_eq (f := idxD) (G := varD 5) (ε := [some (false, intL cells), some (true, .int number), some (true, .int (m : Nat)), some (true, .int (n : Nat)), some (true, cntD cs), some (true, .int (i : Nat)), t6, none]) (e := .int (i : Nat)) (listD_eq (A := consA (cD (.int 1)) (consA (cD (.int 41)) (consA (cD (.int 1681)) (consA (cD (.int 68921)) (consA (cD (.int 2825761)) (consA (cD (.int 115856201)) nilA)))))) rfl (by simp)) rfl).trans (idxD_nat.trans hp)
    refine ws_seq (ws_set ((bin_eq (f := fdivD) e1 e2).trans (fdivD_ii hp0 (by omega))) ?_)
    generalize cells.getD 1 0 / p = c
    obtain ⟨x, hx, e⟩ := pick_at (i := 6) (ε := [some (false, intL cells), some (true, .int number), some (true, .int (m : Nat)), some (true, .int (n : Nat)), some (true, cntD cs), some (true, .int (i : Nat)), some (true, .int c), none]) (c := c) rfl
    refine ws_put (ds := cs.map fun n : Nat => .int (n : Nat)) rfl e (app_cnt (by omega)) ⟨cs ++ [x], _, _, rfl, by simp [hl], fun y my => ?_⟩
    rcases List.mem_append.mp my with my | my
    · exact hc y my
    · rw [List.mem_singleton] at my
      omega
  rintro _ ⟨cs, t5, t6, rfl, hl, hc⟩
  rw [List.length_map, List.length_range] at hl
  subst hl
  refine ws_seq (ws_set (d := .list []) rfl ?_)
  show wS _ [some (false, intL cells), some (true, .int number), some (true, .int (cs.length : Nat)), some (true, .int (n : Nat)), some (true, cntD cs), t5, t6, some (true, mayD [])] _
  refine ws_seq (ws_for (fun i ε => ∃ (may : List (List Nat)) (t5 : Option (Bool × D)), ε = [some (false, intL cells), some (true, .int number), some (true, .int (cs.length : Nat)), some (true, .int (n : Nat)), some (true, cntD cs), t5, t6, some (true, mayD may)] ∧ may.length = i ∧ (∀ row ∈ may, ∀ t ∈ row, t ≤ cs.length) ∧ ∀ row ∈ may, row.length ≤ 1000) (rangeA_eq (n := n) rfl (by omega)) ⟨[], _, rfl, rfl, by simp, by simp⟩ ?_ ?_)
  · rintro i ε' hi ⟨may, t5, rfl, hl, hr1, hr2⟩
    rw [List.length_map, List.length_range] at hi
    rw [List.getElem_map, List.getElem_range]
    refine ⟨[some (false, intL cells), some (true, .int number), some (true, .int (cs.length : Nat)), some (true, .int (n : Nat)), some (true, cntD cs), some (true, .int (i : Nat)), t6, some (true, mayD may)], rfl, ?_⟩
    obtain ⟨_, hp, row, rfl, hrow, hrl⟩ := picked_at (cells.getD (3 + i) 0) (cs.length + 1) (by omega)
    have e0 : bin addD (cD (.int 3)) (varD 5) [some (false, intL cells), some (true, .int number), some (true, .int (cs.length : Nat)), some (true, .int (n : Nat)), some (true, cntD cs), some (true, .int (i : Nat)), t6, some (true, mayD may)] = some (.int ((3 + i : Nat) : Int)) := by
      refine (bin_eq (d := .int 3) (e := .int (i : Nat)) rfl rfl).trans ?_
      rw [addD_ii, Int.natCast_add]
      rfl
    have e1 := (bin_eq (f := idxD) (F := varD 0) (d := intL cells) rfl e0).trans (ci (3 + i) (by omega))
    have e2 : bin addD (varD 2) (cD (.int 1)) [some (false, intL cells), some (true, .int number), some (true, .int (cs.length : Nat)), some (true, .int (n : Nat)), some (true, cntD cs), some (true, .int (i : Nat)), t6, some (true, mayD may)] = some (.int ((cs.length + 1 : Nat) : Int)) := by
      refine (bin_eq (d := .int (cs.length : Nat)) (e := .int 1) rfl rfl).trans ?_
      rw [addD_ii, Int.natCast_add]
      rfl
    refine ws_put (ds := may.map cntD) rfl ((callD_eq (consA_eq e1 (consA_eq e2 rfl))).trans hp) (app_may (by omega)) ⟨may ++ [row], _, rfl, by simp [hl], fun r mr => ?_, fun r mr => ?_⟩
    · rcases List.mem_append.mp mr with mr | mr
      · exact hr1 r mr
      · rw [List.mem_singleton] at mr
        subst mr
        intro t ht
        have := hrow t ht
        omega
    · rcases List.mem_append.mp mr with mr | mr
      · exact hr2 r mr
      · rw [List.mem_singleton] at mr
        subst mr
        exact hrl
  rintro _ ⟨may, t5, rfl, hl, hr1, hr2⟩
  rw [List.length_map, List.length_range] at hl
  obtain ⟨_, hp, must, rfl, hmu, _⟩ := picked_at (cells.getD 2 0) cs.length (by omega)
  refine ws_ret (d := .tuple [cntD cs, mayD may, cntD must]) ?_ ⟨cs, may, must, rfl, ⟨hm6, by omega, hr1, hmu, fun x hx => by have := hc x hx; omega⟩, hr2⟩
  have e1 := (bin_eq (f := idxD) (F := varD 0) (G := cD (.int 2)) (ε := [some (false, intL cells), some (true, .int number), some (true, .int (cs.length : Nat)), some (true, .int (n : Nat)), some (true, cntD cs), t5, t6, some (true, mayD may)]) (d := intL cells) (e := .int ((2 : Nat) : Int)) rfl rfl).trans (ci 2 (by omega))
  unfold tupD
  rw [consA_eq (show ownD 4 _ = some (cntD cs) from rfl) (consA_eq (show ownD 7 _ = some (mayD may) from rfl) (consA_eq ((callD_eq (consA_eq e1 (consA_eq (show varD 2 _ = some (.int (cs.length : Nat)) from rfl) rfl))).trans hp) rfl)), Option.bind_some]
  exact if_pos (lit_le (by simp))
theorem mulD_ii {a b : Int} (h : a.natAbs < 2 ^ 64) (g : b.natAbs < 2 ^ 64) : mulD (.int a) (.int b) = some (.int (a * b)) := by
  unfold mulD
  have h1 := log2_small h
  have h2 := log2_small g
  exact if_pos (by unfold mulOk; omega)
theorem law_k31 (ns : List Int) : s_law_k31 [intL ns] = some (.bool true) := by
  refine run_eq rfl ?_
  show wS b_law_k31 [some (false, intL ns), none, none, none, none, none, none] _
  obtain ⟨n, hn, hn5⟩ : ∃ n : Nat, min (5 : Int) (1 + (ns.length : Int) / 9) = (n : Int) ∧ n ≤ 5 := ⟨(min (5 : Int) (1 + (ns.length : Int) / 9)).toNat, by omega, by omega⟩
  have eN : callD min2D (consA (cD (.int 5)) (consA (bin addD (cD (.int 1)) (bin fdivD (callD lenD (consA (varD 0) nilA)) (cD (.int 9)))) nilA)) [some (false, intL ns), none, none, none, none, none, none] = some (.int (n : Nat)) := by
    have e1 : callD lenD (consA (varD 0) nilA) [some (false, intL ns), none, none, none, none, none, none] = some (.int (ns.length : Nat)) := by
      show some (PyData.int ((ns.map PyData.int).length : Nat)) = _
      rw [List.length_map]
    have e2 := (bin_eq (f := fdivD) (G := cD (.int 9)) (e := .int 9) e1 rfl).trans (fdivD_ii (by omega) (by omega))
    have e3 := (bin_eq (f := addD) (F := cD (.int 1)) (d := .int 1) rfl e2).trans addD_ii
    refine (callD_eq (consA_eq (show cD (.int 5) _ = some (.int 5) from rfl) (consA_eq e3 rfl))).trans ?_
    show some (PyData.int (min (5 : Int) (1 + (ns.length : Int) / 9))) = _
    rw [hn]
  refine ws_seq (ws_for (fun i ε => ∃ t1 t2 t3 t4 t5 : Option (Bool × D), ε = [some (false, intL ns), t1, t2, t3, t4, t5, none]) (rangeA_eq eN (by omega)) ⟨_, _, _, _, _, rfl⟩ ?_ ?_)
  rotate_left
  · rintro ε' ⟨t1, t2, t3, t4, t5, rfl⟩
    exact ws_ret (d := .bool true) rfl rfl
  rintro i ε' hi ⟨t1, t2, t3, t4, t5, rfl⟩
  rw [List.length_map, List.length_range] at hi
  rw [List.getElem_map, List.getElem_range]
  refine ⟨[some (false, intL ns), some (true, .int (i : Nat)), t2, t3, t4, t5, none], rfl, ?_⟩
  refine ws_seq (ws_set (d := intL ((List.range 9).map fun j => cellAt ns (9 * i + j))) ?_ ?_)
  · refine (compD_all (l := List.range 9) (g := fun k : Nat => .int (k : Nat)) (h := fun j => .int (cellAt ns (9 * i + j))) (rangeA_eq (n := 9) rfl (by omega)) (by decide) fun j _ => ⟨_, rfl, ?_⟩).trans ?_
    · have e1 := (bin_eq (f := mulD) (F := cD (.int 9)) (G := varD 1) (ε := [some (false, intL ns), some (true, .int (i : Nat)), t2, t3, t4, t5, some (true, .int (j : Nat))]) (d := .int 9) (e := .int (i : Nat)) rfl rfl).trans (mulD_ii (by decide) (by omega))
      have e2 : bin addD (bin mulD (cD (.int 9)) (varD 1)) (varD 6) [some (false, intL ns), some (true, .int (i : Nat)), t2, t3, t4, t5, some (true, .int (j : Nat))] = some (.int ((9 * i + j : Nat) : Int)) := by
        refine (bin_eq e1 (show varD 6 _ = some (.int (j : Nat)) from rfl)).trans ?_
        rw [addD_ii, Int.natCast_add, Int.natCast_mul]
        rfl
      exact (callD_eq (consA_eq (show varD 0 _ = some (intL ns) from rfl) (consA_eq e2 rfl))).trans (cell_at ns (9 * i + j))
    · unfold intL
      rw [List.map_map]
      rfl
  obtain ⟨_, hc, cs, may, must, rfl, hB, hr⟩ := case_at ((List.range 9).map fun j => cellAt ns (9 * i + j)) (by simp)
  generalize (List.range 9).map (fun j => cellAt ns (9 * i + j)) = cells at *
  refine ws_seq ⟨(.nx, [some (false, intL ns), some (true, .int (i : Nat)), some (true, intL cells), some (false, cntD cs), some (false, mayD may), some (false, cntD must), none]), ?_, ?_⟩
  · unfold unpS
    rw [callD_eq (ds := [intL cells]) rfl, hc]
    rfl
  have hB0 : HypB cs may [] := ⟨hB.1, hB.2.1, hB.2.2.1, by simp, hB.2.2.2.2⟩
  refine ws_seq (ws_ifF (notT_eq (asB_eq ((callD_eq (ds := [cntD cs, mayD may, cntD must]) rfl).trans (told_at hB hr)))) (ws_next ?_))
  exact ws_ifF (notT_eq (asB_eq ((callD_eq (ds := [cntD cs, mayD may, cntD []]) rfl).trans (told_at hB0 hr)))) (ws_next ⟨_, _, _, _, _, rfl⟩)
end PV

namespace PV.R_k31
open PySem PySem.Spec PyProof.Rows L2 PV
def topS (i : Nat) : Stmt := PySem.Challenge.pw_lotmeal_k31_whole_deal_or_paper.main.body.getD i (.Pass ⟨0, 0, 0, 0⟩)
section
variable {P : Program} {w : World} {K : PySem.W.Frag} {mg : Str → Option Value} {base : Heap}
abbrev st_has_room : Stmt := topS 1
abbrev N_has_room : List Str := ["counts", "deal", "thing"]
theorem sc_has_room : FnScope N_has_room ["counts", "deal", "thing"] (defScope st_has_room) := ⟨rfl, rfl, rfl, by decide +kernel, rfl, by decide +kernel, by decide +kernel⟩
theorem ok_has_room {f : Addr} {fd : FuncData} (F : Fun K "has_room" "has_room" st_has_room f fd) (gl : mg "has_room" = some (.ref f)) (B : Bl mg) : Cal P w K mg base 1 "has_room" ["counts", "deal", "thing"] (spD K s_has_room) := by
  refine cal_mk F gl sc_has_room (fun _ _ _ _ _ _ us hl => match us, hl with | [_, _, _], _ => rfl) fun cdv A outer s H E hr => ?_
  have nd := (sc_has_room).nd
  exact (sss_one (ss_retF (eb_or (ef_cmp (op_eq_F hr.units) (ea_var 2) (ea_of (ef_callB call_len_F rfl B.len (by decide +kernel) (aa_cons (ea_var 0) aa_nil))) (nomark _)) (eb_one (ef_cmp op_lt_F (ea_of (ef_m1 PySem.F.slot_list_count PySem.F.type_list_count (mt_count_F (Room.units65 hr)) countD_list (ea_var 1) (ea_var 2))) (ea_ix (ea_var 0) (ea_var 2)) (nomark _))))))
abbrev st_is_seated : Stmt := topS 2
abbrev N_is_seated : List Str := ["counts", "may", "deal", "asker", "seen", "thing", "holder"]
theorem sc_is_seated : FnScope N_is_seated ["counts", "may", "deal", "asker", "seen"] (defScope st_is_seated) := ⟨rfl, rfl, rfl, by decide +kernel, rfl, by decide +kernel, by decide +kernel⟩
theorem ok_is_seated {f : Addr} {fd : FuncData} (F : Fun K "is_seated" "is_seated" st_is_seated f fd) (gl : mg "is_seated" = some (.ref f)) (B : Bl mg) (c_has_room : Cal P w K mg base 1 "has_room" ["counts", "deal", "thing"] (spD K s_has_room)) :
    ∀ n, FnOk P w K mg base CX0 (n + 2) f fd ["counts", "may", "deal", "asker", "seen"] (spSeat K n)
  | 0 => ⟨fun vs H Q E ⟨cs, may, vc, vm, ad, as, a, deal, seen, Ac, Am, e, h, _⟩ => absurd h.rk (Nat.not_lt_zero _), fun A outer s H args us vs Q E _ _ _ _ ⟨cs, may, vc, vm, ad, as, a, deal, seen, Ac, Am, e, h, _⟩ => absurd h.rk (Nat.not_lt_zero _)⟩
  | n + 1 => by
    have ih := ok_is_seated F gl B c_has_room n
    have bd : Binds K fd ["counts", "may", "deal", "asker", "seen"] [] := F.binds (fun _ _ _ _ _ _ us hl => match us, hl with | [_, _, _, _, _], _ => rfl)
    refine F.ok sc_is_seated (fun vs H Q E ⟨cs, may, vc, vm, ad, as, a, deal, seen, Ac, Am, e, h, _⟩ => by rw [e]; rfl) fun cdv A outer s H vs Q E hr ⟨cs, may, vc, vm, ad, as, a, deal, seen, Ac, Am, e, h, k⟩ => ?_
    subst e
    have nd := sc_is_seated.nd
    refine ⟨_, pss_cons (ps_forW PassesOwn.never rfl (ia_list (ea_ix (ea_var 1) (ea_var 3))) (pg_name (i := 5) nd rfl (.inl rfl))
      (pss_cons (ps_if (pt_cmp (pc_din (hu_of hr) (pv 5) (pv 4)) (by with_unfolding_all rfl)) (pss_cons ps_continue pss_nil) pss_nil)
      (pss_cons (ps_dput (hu_of hr) (pv 4) (pv 5) pe_bl rfl)
      (pss_cons (ps_if (et_val (ea_of (ef_cal c_has_room hr (by omega) rfl (aa_cons (ea_var 0) (aa_cons (ea_var 2) (aa_cons (ea_var 5) aa_nil))))))
        (pss_cons (ps_asg (pv 5) (pg_sub (pv 2) (pv 3) set_list (by intro _; rfl))) (pss_cons (ps_ret pe_bl) pss_nil)) pss_nil)
      (pss_cons (ps_forW PassesOwn.never rfl (ia_range1 rfl B.range (aa_cons (ea_of (ef_callB call_len_F rfl B.len (by decide +kernel) (aa_cons (ea_var 2) aa_nil))) aa_nil)) (pg_name (i := 6) nd rfl (.inl rfl))
        (pss_cons (ps_if (PW.pt (pw_and (et_cmp (op_eq_F hr.units) (ea_ix (ea_var 2) (ea_var 6)) (ea_var 5) (nomark _)) (pw_and1 (pt_val (pe_call ih hr rfl gl F.kp bd .nil pass0 (pa_cons (pv 0) (pa_cons (pv 1) (pa_cons (pv 2) (pa_cons (pv 6) (pa_cons (pv 4) pa_nil)))))))))) 
          (pss_cons (ps_asg (pv 5) (pg_sub (pv 2) (pv 3) set_list (by intro _; rfl))) (pss_cons (ps_ret pe_bl) pss_nil)) pss_nil) pss_nil))
      pss_nil))))) (pss_cons (ps_ret pe_bl) pss_nil), ?_⟩
    have hrow : may[a]? = some (may.getD a []) := by
      have := h.la
      have := h.ll
      rw [List.getD_eq_getElem?_getD, List.getElem?_eq_getElem (by omega)]
      rfl
    refine ⟨_, _, (may.getD a []).map fun t : Nat => .int (t : Nat), h.er er2_no, ?_, fun H1 A sm al dom => ?_⟩
    · show ((atI (may.map cntD) (a : Int)).bind _) = _
      rw [atI_nat, List.getElem?_map, hrow]
      rfl
    have h1 := h.same sm
    have na := h.not al
    refine ⟨fun i σ2 H2 => ∃ s t5 t6, σ2 = [some vc, some vm, some (.ref ad), some (.int (a : Nat)), some (.ref as), t5, t6] ∧ SeatIn K cs may (n + 1) H2 vc vm ad as a deal s Ac Am ∧ Ch ad as H1 H2 ∧
      Deals.things cs (fun t s => Deals.holders (fun h s' => Deals.seat cs may n deal h s') deal t (List.range deal.length) s) deal a ((may.getD a []).drop i) s = Deals.seat cs may (n + 1) deal a seen,
      ⟨seen, _, _, rfl, h1, .refl, rfl⟩, fun i σ2 H2 ⟨s, t5, t6, _, _, c, _⟩ => c.keep h1.ed h1.es na.1 na.2, fun σ2 H2 ⟨s, t5, t6, _, h2, c, q⟩ => ?_, fun i hi σ2 H2 ⟨s, t5, t6, e, h2, c, q⟩ x H3 Bx g3 tx sb => ?_⟩
    · rw [List.length_map, List.drop_length] at q
      have k2 := k H2 (.trans (.of_same sm) c)
      rw [← q] at k2
      exact k2 h2.ed h2.es
    · subst e
      rw [List.length_map] at hi
      rw [List.getElem_map] at tx
      have ex := tx.intI
      subst ex
      have hti : (may.getD a [])[i] ≤ cs.length := row_mem h.rows (List.getElem_mem hi)
      generalize ht : (may.getD a [])[i] = t at *
      have h3 := h2.same g3
      have c3 := c.trans (.of_same g3)
      rw [List.drop_eq_getElem_cons hi, ht] at q
      refine ⟨_, rfl, _, rfl, as, _, rfl, DGet.k h3.es (k := .inl (t : Nat)), _, rfl, ?_⟩
      rw [seen_val]
      by_cases hs : t ∈ s
      · rw [if_pos hs]
        refine iteT ?_
        rw [Deals.things, if_pos hs] at q
        exact ⟨s, _, _, rfl, h3, c3, q⟩
      · rw [if_neg hs]
        refine iteF ?_
        rw [Deals.things, if_neg hs] at q
        have hl : (s.map seenK).length < sizeLine := by
          rw [List.length_map]
          exact small1001 (seen_len h3.so.1 h3.so.2) h3.lc
        refine ⟨_, rfl, _, rfl, as, _, rfl, DPut.k h3.es (k := .inl (t : Nat)) hl, ?_⟩
        have c4 := c3.trans (.upd2 (o := .dK (putK (s.map seenK) (.inl (t : Nat)) (.bl true))))
        have ed4 : upd H3 as (.dK (putK (s.map seenK) (.inl (t : Nat)) (.bl true))) ad = some (.lst (deal.map optV)) := by rw [upd_ne h3.ne]; exact h3.ed
        have es4 : upd H3 as (.dK (putK (s.map seenK) (.inl (t : Nat)) (.bl true))) as = some (.dK ((s ++ [t]).map seenK)) := by rw [upd_same, seen_put hs]
        have h4 := h3.next .upd2 ed4 es4 (seen_add h3.so hti hs) (Nat.lt_of_lt_of_le (Deals.rank_lt cs hti hs) (Nat.le_of_lt h3.rk)) h3.la
        generalize upd H3 as (.dK (putK (s.map seenK) (.inl (t : Nat)) (.bl true))) = H4 at *
        refine ⟨_, _, Deals.room cs deal t, h4.er er2_1, ?_, fun H5 g5 => ?_⟩
        · have := has_room_eq (deal := deal) hti
          show (s_has_room [cntD cs, dealD deal, .int (t : Nat)]).bind asB = _
          rw [this]
          rfl
        have h5 := h4.same g5
        have c5 := c4.trans (.of_same g5)
        cases hro : Deals.room cs deal t with
        | true =>
          rw [if_pos hro] at q
          refine iteT ⟨_, rfl, _, rfl, _, rfl, ad, deal.map optV, a, a, rfl, rfl, h5.ed, ixN_nn (by rw [List.length_map]; exact h.la), ?_⟩
          have k2 := k (upd H5 ad (.lst ((deal.map optV).set a (.int (t : Nat))))) (.trans (.of_same sm) (c5.trans .upd1))
          rw [← q] at k2
          exact k2 (by rw [upd_same, map_set_opt]; rfl) (by rw [upd_ne (Ne.symm h.ne)]; exact h5.es)
        | false =>
          rw [if_neg (by rw [hro]; exact Bool.false_ne_true)] at q
          refine iteF ⟨_, _, (List.range deal.length).map fun j : Nat => .int (j : Nat), h5.er er2_1, ?_, fun H6 A6 g6 al6 dom6 => ?_⟩
          · have := h.lm
            have := h.ll
            have e := range_len (i := 2) (ε := [some (false, cntD cs), some (false, mayD may), some (false, dealD deal), some (false, .int (a : Nat)), none, some (false, .int (t : Nat)), none]) (ds := deal.map optD) rfl (by rw [List.length_map]; omega)
            rw [List.length_map] at e
            exact e
          have h6 := h5.same g6
          have c6 := c5.trans (.of_same g6)
          have na6 : ad ∉ A6 ∧ as ∉ A6 := by
            refine ⟨fun m => ?_, fun m => ?_⟩
            · rcases al6 _ m with e | ⟨i, mi, e⟩
              · rw [h5.ed] at e; cases e
              · simp at mi
            · rcases al6 _ m with e | ⟨i, mi, e⟩
              · rw [h5.es] at e; cases e
              · simp at mi
          generalize hR : Deals.holders (fun h s' => Deals.seat cs may n deal h s') deal t (List.range deal.length) (s ++ [t]) = R at q
          refine ⟨fun j σ3 H7 => ∃ s2 t6, σ3 = [some vc, some vm, some (.ref ad), some (.int (a : Nat)), some (.ref as), some (.int (t : Nat)), t6] ∧ SeatIn K cs may n H7 vc vm ad as a deal s2 Ac Am ∧ Ch ad as H6 H7 ∧
            Deals.holders (fun h s' => Deals.seat cs may n deal h s') deal t ((List.range deal.length).drop j) s2 = R,
            ⟨s ++ [t], _, rfl, h6.next .refl h6.ed h6.es h6.so (Nat.lt_of_lt_of_le (Deals.rank_lt cs hti hs) (Nat.le_of_lt_succ h3.rk)) h6.la, .refl, hR⟩,
            fun j σ3 H7 ⟨s2, t6, _, _, c, _⟩ => c.keep h6.ed h6.es na6.1 na6.2, fun σ3 H7 ⟨s2, t6, e7, h7, c7, q7⟩ => ?_, fun j hj σ3 H7 ⟨s2, t6, e7, h7, c7, q7⟩ y H8 By g8 ty sy => ?_⟩
          · subst e7
            rw [List.length_map, List.drop_length] at q7
            subst q7
            exact ⟨s2, _, _, rfl, h7.next .refl h7.ed h7.es h7.so (Nat.lt_succ_of_lt h7.rk) h7.la, c6.trans c7, q⟩
          · subst e7
            rw [List.length_map, List.length_range] at hj
            rw [List.getElem_map, List.getElem_range] at ty
            have ey := ty.intI
            subst ey
            have h8 := h7.same g8
            have c8 := c7.trans (.of_same g8)
            rw [List.drop_eq_getElem_cons (by rw [List.length_range]; exact hj), List.getElem_range] at q7
            have hdj : deal[j]? = some (deal.getD j none) := by
              rw [List.getD_eq_getElem?_getD, List.getElem?_eq_getElem hj]
              rfl
            refine ⟨_, _, decide (deal.getD j none = some t), h8.er er2_2, ?_, fun H9 g9 => ?_⟩
            · show (atI (deal.map optD) (j : Int)).bind (fun d => eqD d (.int (t : Nat))) = _
              rw [atI_nat, List.getElem?_map, hdj]
              exact eqD_opt _ _
            have h9 := h8.same g9
            have c9 := c8.trans (.of_same g9)
            by_cases hh : deal.getD j none = some t
            · rw [decide_eq_true hh]
              refine iteT ⟨_, rfl, _, rfl, _, rfl, _, rfl, _, rfl, cs, may, vc, vm, ad, as, j, deal, s2, Ac, Am, rfl, h9.next .refl h9.ed h9.es h9.so h9.rk hj, fun H10 c10 ed10 es10 => ⟨_, rfl, ?_⟩⟩
              rw [Deals.holders, if_pos hh] at q7
              have so10 := seat_ok h.rows n deal j s2 h9.so
              have grow := Deals.seat_grow (cs := cs) (may := may) n deal j s2
              have len10 := seat_len (cs := cs) (may := may) n deal j s2
              generalize hS : Deals.seat cs may n deal j s2 = S at *
              obtain ⟨o, s3⟩ := S
              cases o with
              | none =>
                refine iteF ?_
                have r3 : Deals.rank cs s3 < n := Nat.lt_of_le_of_lt (Deals.rank_le cs grow) h9.rk
                exact ⟨s3, _, rfl, h9.next c10 ed10 es10 so10 r3 h9.la, c9.trans c10, q7⟩
              | some d =>
                refine iteT ⟨_, rfl, _, rfl, _, rfl, ad, d.map optV, a, a, rfl, rfl, ed10, ixN_nn (by rw [List.length_map, len10 d rfl]; exact h.la), ?_⟩
                subst q7
                have k2 := k (upd H10 ad (.lst ((d.map optV).set a (.int (t : Nat))))) (.trans (.of_same sm) (c6.trans (c9.trans (c10.trans .upd1))))
                rw [← q] at k2
                exact k2 (by rw [upd_same, map_set_opt]; rfl) (by rw [upd_ne (Ne.symm h.ne)]; exact es10)
            · rw [decide_eq_false hh]
              refine iteF ?_
              rw [Deals.holders, if_neg hh] at q7
              exact ⟨s2, _, rfl, h9, c9, q7⟩

abbrev st_is_brought : Stmt := topS 3
abbrev N_is_brought : List Str := ["may", "must", "deal", "thing", "seen", "asker", "held"]
theorem sc_is_brought : FnScope N_is_brought ["may", "must", "deal", "thing", "seen"] (defScope st_is_brought) := ⟨rfl, rfl, rfl, by decide +kernel, rfl, by decide +kernel, by decide +kernel⟩
theorem ok_is_brought {f : Addr} {fd : FuncData} (F : Fun K "is_brought" "is_brought" st_is_brought f fd) (gl : mg "is_brought" = some (.ref f)) (B : Bl mg) :
    ∀ n, FnOk P w K mg base CX0 (n + 2) f fd ["may", "must", "deal", "thing", "seen"] (spBring K n)
  | 0 => ⟨fun vs H Q E ⟨cs, may, must, vm, vu, ad, as, t, deal, seen, Am, Au, e, h, _⟩ => absurd h.rk (Nat.not_lt_zero _), fun A outer s H args us vs Q E _ _ _ _ ⟨cs, may, must, vm, vu, ad, as, t, deal, seen, Am, Au, e, h, _⟩ => absurd h.rk (Nat.not_lt_zero _)⟩
  | n + 1 => by
    have ih := ok_is_brought F gl B n
    have bd : Binds K fd ["may", "must", "deal", "thing", "seen"] [] := F.binds (fun _ _ _ _ _ _ us hl => match us, hl with | [_, _, _, _, _], _ => rfl)
    refine F.ok sc_is_brought (fun vs H Q E ⟨cs, may, must, vm, vu, ad, as, t, deal, seen, Am, Au, e, h, _⟩ => by rw [e]; rfl) fun cdv A outer s H vs Q E hr ⟨cs, may, must, vm, vu, ad, as, t, deal, seen, Am, Au, e, h, k⟩ => ?_
    subst e
    have nd := sc_is_brought.nd
    refine ⟨_, pss_cons (ps_forW PassesOwn.never rfl (ia_range1 rfl B.range (aa_cons (ea_of (ef_callB call_len_F rfl B.len (by decide +kernel) (aa_cons (ea_var 2) aa_nil))) aa_nil)) (pg_name (i := 5) nd rfl (.inl rfl))
      (pss_cons (ps_asg (ea_ix (ea_var 2) (ea_var 5)) (pg_name (i := 6) nd rfl (.inl rfl)))
      (pss_cons (ps_if (PW.pt (pw_or (et_cmp (op_notin_F (Room.units65 hr)) (ea_var 3) (ea_ix (ea_var 0) (ea_var 5)) (by with_unfolding_all rfl)) (pw_or1 (pt_cmp (pc_din (hu_of hr) (pv 6) (pv 4)) (by with_unfolding_all rfl))))) (pss_cons ps_continue pss_nil) pss_nil)
      (pss_cons (ps_if (et_cmp (op_notin_F (Room.units65 hr)) (ea_var 6) (ea_var 1) (by with_unfolding_all rfl)) 
        (pss_cons (ps_asg (pv 3) (pg_sub (pv 2) (pv 5) set_list (by intro _; rfl))) (pss_cons (ps_ret pe_bl) pss_nil)) pss_nil)
      (pss_cons (ps_dput (hu_of hr) (pv 4) (pv 6) pe_bl rfl)
      (pss_cons (ps_if (pt_val (pe_call ih hr rfl gl F.kp bd .nil pass0 (pa_cons (pv 0) (pa_cons (pv 1) (pa_cons (pv 2) (pa_cons (pv 6) (pa_cons (pv 4) pa_nil)))))))
        (pss_cons (ps_asg (pv 3) (pg_sub (pv 2) (pv 5) set_list (by intro _; rfl))) (pss_cons (ps_ret pe_bl) pss_nil)) pss_nil)
      pss_nil)))))) (pss_cons (ps_ret pe_bl) pss_nil), ?_⟩
    refine ⟨_, _, (List.range deal.length).map fun j : Nat => .int (j : Nat), h.er er2_no, ?_, fun H1 A sm al dom => ?_⟩
    · have := h.lm
      have := h.ll
      have e := range_len (i := 2) (ε := [some (false, mayD may), some (false, cntD must), some (false, cntD deal), some (false, .int (t : Nat)), none, none, none]) (ds := deal.map fun t : Nat => .int (t : Nat)) rfl (by rw [List.length_map]; omega)
      rw [List.length_map] at e
      exact e
    have h1 := h.same sm
    have na : ad ∉ A := not_als h.ed al
    have ns : as ∉ A := not_als h.es al
    refine ⟨fun i σ2 H2 => ∃ s t5 t6, σ2 = [some vm, some vu, some (.ref ad), some (.int (t : Nat)), some (.ref as), t5, t6] ∧ BringIn K cs may must (n + 1) H2 vm vu ad as t deal s Am Au ∧ Ch ad as H1 H2 ∧
      Deals.brs (fun h s => Deals.bring may must n deal h s) may must deal t ((List.range deal.length).drop i) s = Deals.bring may must (n + 1) deal t seen,
      ⟨seen, _, _, rfl, h1, .refl, rfl⟩, fun i σ2 H2 ⟨s, t5, t6, _, _, c, _⟩ => c.keep h1.ed h1.es na ns, fun σ2 H2 ⟨s, t5, t6, _, h2, c, q⟩ => ?_, fun i hi σ2 H2 ⟨s, t5, t6, e, h2, c, q⟩ x H3 Bx g3 tx sb => ?_⟩
    · rw [List.length_map, List.drop_length] at q
      have k2 := k H2 (.trans (.of_same sm) c)
      rw [← q] at k2
      exact k2 h2.ed h2.es
    · subst e
      rw [List.length_map, List.length_range] at hi
      rw [List.getElem_map, List.getElem_range] at tx
      have ex := tx.intI
      subst ex
      have h3 := h2.same g3
      have c3 := c.trans (.of_same g3)
      rw [List.drop_eq_getElem_cons (by rw [List.length_range]; exact hi), List.getElem_range] at q
      have hd : deal[i]? = some (deal.getD i 0) := by
        rw [List.getD_eq_getElem?_getD, List.getElem?_eq_getElem hi]
        rfl
      have hm : may[i]? = some (may.getD i []) := by
        have := h.ll
        rw [List.getD_eq_getElem?_getD, List.getElem?_eq_getElem (by omega)]
        rfl
      generalize hh : deal.getD i 0 = hd0 at *
      refine ⟨_, _, .int (hd0 : Nat), h3.er (t5 := some (.int (i : Nat))) (t6 := t6) er2_1, ?_, fun v H4 A4 g4 tv _ => ?_⟩
      · show atI (deal.map fun t : Nat => PyData.int (t : Nat)) (i : Int) = _
        rw [atI_nat, List.getElem?_map, hd]
        rfl
      have ev := tv.intI
      subst ev
      have h4 := h3.same g4
      have c4 := c3.trans (.of_same g4)
      refine ⟨_, _, decide (t ∉ may.getD i []), h4.er er2_2, ?_, fun H5 g5 => ?_⟩
      · show (atI (may.map cntD) (i : Int)).bind (fun d => notInD (.int (t : Nat)) d) = _
        rw [atI_nat, List.getElem?_map, hm]
        exact notInD_cnt _ _
      have h5 := h4.same g5
      have c5 := c4.trans (.of_same g5)
      rw [Deals.brs, hh] at q
      by_cases hn : t ∉ may.getD i []
      · rw [decide_eq_true hn]
        rw [if_pos (.inl hn)] at q
        exact iteT (iteT ⟨s, _, _, rfl, h5, c5, q⟩)
      · rw [decide_eq_false hn]
        refine iteF ⟨_, rfl, _, rfl, as, _, rfl, DGet.k h5.es (k := .inl (hd0 : Nat)), _, rfl, ?_⟩
        rw [seen_val]
        by_cases hs : hd0 ∈ s
        · rw [if_pos hs]
          rw [if_pos (.inr hs)] at q
          exact iteT ⟨s, _, _, rfl, h5, c5, q⟩
        · rw [if_neg hs]
          rw [if_neg (by rintro (z | z); exact hn z; exact hs z)] at q
          refine iteF ⟨_, _, decide (hd0 ∉ must), h5.er er2_2, notInD_cnt _ _, fun H6 g6 => ?_⟩
          have h6 := h5.same g6
          have c6 := c5.trans (.of_same g6)
          by_cases hu : hd0 ∉ must
          · rw [decide_eq_true hu]
            rw [if_pos hu] at q
            refine iteT ⟨_, rfl, _, rfl, _, rfl, ad, deal.map natV, i, i, rfl, rfl, h6.ed, ixN_nn (by rw [List.length_map]; exact hi), ?_⟩
            have k2 := k (upd H6 ad (.lst ((deal.map natV).set i (.int (t : Nat))))) (.trans (.of_same sm) (c6.trans .upd1))
            rw [← q] at k2
            exact k2 (by rw [upd_same, map_set_nat]; rfl) (by rw [upd_ne (Ne.symm h.ne)]; exact h6.es)
          · rw [decide_eq_false hu]
            rw [if_neg hu] at q
            have hm0 : hd0 ≤ cs.length := h.mu _ (by simpa using hu)
            have hl : (s.map seenK).length < sizeLine := by
              rw [List.length_map]
              exact small1001 (seen_len h6.so.1 h6.so.2) h6.lc
            refine iteF ⟨_, rfl, _, rfl, as, _, rfl, DPut.k h6.es (k := .inl (hd0 : Nat)) hl, ?_⟩
            have c7 := c6.trans (.upd2 (o := .dK (putK (s.map seenK) (.inl (hd0 : Nat)) (.bl true))))
            have ed7 : upd H6 as (.dK (putK (s.map seenK) (.inl (hd0 : Nat)) (.bl true))) ad = some (.lst (deal.map natV)) := by rw [upd_ne h6.ne]; exact h6.ed
            have es7 : upd H6 as (.dK (putK (s.map seenK) (.inl (hd0 : Nat)) (.bl true))) as = some (.dK ((s ++ [hd0]).map seenK)) := by rw [upd_same, seen_put hs]
            have h7 := h6.next (b := hd0) .upd2 ed7 es7 (seen_add h6.so hm0 hs) (Nat.lt_of_lt_of_le (Deals.rank_lt cs hm0 hs) (Nat.le_of_lt_succ h6.rk))
            generalize upd H6 as (.dK (putK (s.map seenK) (.inl (hd0 : Nat)) (.bl true))) = H7 at *
            refine ⟨_, rfl, _, rfl, _, rfl, _, rfl, _, rfl, cs, may, must, vm, vu, ad, as, hd0, deal, s ++ [hd0], Am, Au, rfl, h7, fun H10 c10 ed10 es10 => ⟨_, rfl, ?_⟩⟩
            have so10 := bring_ok h.mu n deal hd0 _ h7.so (may := may)
            have grow := (Deals.bring_grow (may := may) (must := must) n deal hd0 (s ++ [hd0])).1
            have len10 := bring_len (may := may) (must := must) n deal hd0 (s ++ [hd0])
            generalize hS : Deals.bring may must n deal hd0 (s ++ [hd0]) = S at *
            obtain ⟨o, s3⟩ := S
            cases o with
            | none =>
              refine iteF ?_
              have r3 : Deals.rank cs s3 < n := Nat.lt_of_le_of_lt (Deals.rank_le cs grow) h7.rk
              exact ⟨s3, _, _, rfl, h7.next c10 ed10 es10 so10 (Nat.lt_succ_of_lt r3), c7.trans c10, q⟩
            | some d =>
              refine iteT ⟨_, rfl, _, rfl, _, rfl, ad, d.map natV, i, i, rfl, rfl, ed10, ixN_nn (by rw [List.length_map, len10 d rfl]; exact hi), ?_⟩
              have k2 := k (upd H10 ad (.lst ((d.map natV).set i (.int (t : Nat))))) (.trans (.of_same sm) (c7.trans (c10.trans .upd1)))
              rw [← q] at k2
              exact k2 (by rw [upd_same, map_set_nat]; rfl) (by rw [upd_ne (Ne.symm h.ne)]; exact es10)

abbrev st_deal_and_paper : Stmt := topS 4
abbrev N_deal_and_paper : List Str := ["counts", "may", "must", "deal", "asker", "seen", "some", "thing", "row", "one"]
theorem sc_deal_and_paper : FnScope N_deal_and_paper ["counts", "may", "must"] (defScope st_deal_and_paper) := ⟨rfl, rfl, rfl, by decide +kernel, rfl, by decide +kernel, by decide +kernel⟩
theorem ok_deal_and_paper {f fs fb : Addr} {fd fds fdb : FuncData} (F : Fun K "deal_and_paper" "deal_and_paper" st_deal_and_paper f fd) (gl : mg "deal_and_paper" = some (.ref f)) (B : Bl mg) 
    (cS : FnOk P w K mg base CX0 10 fs fds ["counts", "may", "deal", "asker", "seen"] (spSeat K 8)) (gS : mg "is_seated" = some (.ref fs)) (kS : PySem.W.keepIn K (.ref fs) = true) (bS : Binds K fds ["counts", "may", "deal", "asker", "seen"] [])
    (cB : FnOk P w K mg base CX0 10 fb fdb ["may", "must", "deal", "thing", "seen"] (spBring K 8)) (gB : mg "is_brought" = some (.ref fb)) (kB : PySem.W.keepIn K (.ref fb) = true) (bB : Binds K fdb ["may", "must", "deal", "thing", "seen"] []) :
    FnOk P w K mg base CX0 11 f fd ["counts", "may", "must"] (spD K s_deal_and_paper) := by
  refine F.ok sc_deal_and_paper (fun vs H Q E ⟨ds, A, d, t, hf, _⟩ => ?_) fun cdv A outer s H vs Q E hr ⟨ds, AA, d, t, hf, k⟩ => ?_
  · obtain ⟨cs, may, must, rfl, _⟩ := dap_some hf
    exact t.len
  obtain ⟨cs, may, must, rfl, hb, rfl⟩ := dap_some hf
  clear hf
  have nd := sc_deal_and_paper.nd
  refine ⟨_, pss_cons (ps_asg (ef_lc rfl nd (ia_list (ea_var 1)) (blkOk_by (own := [("row", 8)]) (N := N_deal_and_paper) (sc := defScope st_deal_and_paper) (by decide +kernel)) (fun _ _ _ _ _ => (ge_name (i := 8) (by simp) nd rfl (Or.inl rfl))) (fun _ _ _ _ _ => ets_nil) (fun _ _ _ _ _ => ef_non)) (pg_name (i := 3) nd rfl (.inr rfl)))
    (pss_cons (ps_forW PassesOwn.never rfl (ia_range1 rfl B.range (aa_cons (ea_of (ef_callB call_len_F rfl B.len (by decide +kernel) (aa_cons (ea_var 1) aa_nil))) aa_nil)) (pg_name (i := 4) nd rfl (.inr rfl))
      (pss_cons (ps_asg pe_dnewK (pg_name (i := 5) nd rfl (.inr rfl)))
      (pss_cons (ps_if (pt_not (pt_val (pe_call cS hr rfl gS kS bS .nil pass0 (pa_cons (pv 0) (pa_cons (pv 1) (pa_cons (pv 3) (pa_cons (pv 4) (pa_cons (pv 5) pa_nil)))))))) 
        (pss_cons (ps_setLcT (i := 6) (tOr (tET K (bin eqD (varD 9) (varD 4))) (tB (tDInN (tEA K (bin idxD (varD 3) (varD 9)) [3]) (tVar 5)))) rfl nd rfl rfl (sw_true rfl rfl rfl (by decide +kernel)) (ia_range1 rfl B.range (aa_cons (ea_of (ef_callB call_len_F rfl B.len (by decide +kernel) (aa_cons (ea_var 1) aa_nil))) aa_nil))
          (blkOk_by (own := [("one", 9)]) (N := N_deal_and_paper) (sc := defScope st_deal_and_paper) (by decide +kernel)) (fun _ _ _ _ _ => (ge_name (i := 9) (by simp) nd rfl (Or.inl rfl)))
          (fun _ _ _ _ _ => pts_one (PW.pt (pw_or (et_cmp (op_eq_F hr.units) (ea_var 9) (ea_var 4) (nomark _)) (pw_or1 (pt_cmp (pc_dinN (hu_of hr) (ea_ix (ea_var 3) (ea_var 9)) (pv 5)) (by with_unfolding_all rfl))))))
          (fun _ _ _ _ _ => ef_flat (ea_var 9)))
        (pss_cons (ps_ret (pe_tup (pa_cons pe_non (pa_cons (pe_tup (pa_cons pe_str (pa_cons (pv 6) pa_nil))) pa_nil)))) pss_nil)) pss_nil) pss_nil)))
    (pss_cons (ps_forW PassesOwn.never rfl (ia_list (ea_var 2)) (pg_name (i := 7) nd rfl (.inl rfl))
      (pss_cons (ps_while PassesOwn.never (et_cmp op_lt_F (ea_of (ef_m1 PySem.F.slot_list_count PySem.F.type_list_count (mt_count_F (Room.units65 hr)) countD_list (ea_var 3) (ea_var 7))) (ea_ix (ea_var 0) (ea_var 7)) (nomark _))
        (pss_cons (ps_asg (pe_disp (pps_cons (pv 7) pe_bl pps_nil) rfl rfl (by simp) (by decide)) (pg_name (i := 5) nd rfl (.inr rfl)))
        (pss_cons (ps_if (pt_not (pt_val (pe_call cB hr rfl gB kB bB .nil pass0 (pa_cons (pv 1) (pa_cons (pv 2) (pa_cons (pv 3) (pa_cons (pv 7) (pa_cons (pv 5) pa_nil)))))))) 
          (pss_cons (ps_ret (pe_tup (pa_cons pe_non (pa_cons (pe_tup (pa_cons pe_str (pa_cons (pe_callB (call_sortedDI rfl) rfl B.sorted (by decide +kernel) (pa_cons (pv 5) pa_nil)) pa_nil))) pa_nil)))) pss_nil) pss_nil) pss_nil))) pss_nil))
    (pss_cons (ps_ret (pe_tup (pa_cons (pv 3) (pa_cons pe_non pa_nil)))) pss_nil))), ?_⟩
  have hy := hb.hyp
  obtain ⟨hb1, hb2, hb3, hb4, hb5⟩ := hb
  cases t with
  | @cons vc vs1 _ _ Ac A1 tc t =>
  cases t with
  | @cons vm vs2 _ _ Am A2 tm t =>
  cases t with
  | @cons vu vs3 _ _ Au A3 tu t =>
  cases t
  refine ⟨_, _, dealD (List.replicate may.length none), er_in tc (er_in tm (er_in tu (er_no (er_no (er_no (er_no (er_no (er_no (er_no er_nil))))))))), ?_, fun v H1 A1 s1 t1 fr1 => ?_⟩
  · show (if (may.map cntD).length ≤ sizeLine then (compL (nameT 8) yesT (cD .none) _ (may.map cntD)).map PyData.list else none) = _
    rw [if_pos (by rw [List.length_map]; exact Nat.le_of_lt (small1000 hb2)), comp_none, Option.map_some]
    unfold dealD
    rw [List.map_map, List.map_replicate]
    congr 2
    exact List.map_const'
  obtain ⟨ad, xs, B1, rfl, r1, t1x, rfl⟩ := t1.mine
  have hxs := tr_optI t1x
  have nad : H ad = none := (fr1.2 ad List.mem_cons_self).1
  have ed1 : H1 ad = some (.lst ((List.replicate may.length none).map optV)) := by
    obtain ⟨ys, ey⟩ := (fr1.2 ad List.mem_cons_self).2
    rcases r1 with r1 | ⟨o, r1⟩
    · rw [r1, hxs]
    · rw [r1] at ey
      cases ey
  have dC : ∀ {a : Addr}, H a = none → a ∉ Ac := fun n m => by
    obtain ⟨o, e⟩ := tc.dom _ m
    rw [n] at e
    cases e
  have dM : ∀ {a : Addr}, H a = none → a ∉ Am := fun n m => by
    obtain ⟨o, e⟩ := tm.dom _ m
    rw [n] at e
    cases e
  have dU : ∀ {a : Addr}, H a = none → a ∉ Au := fun n m => by
    obtain ⟨o, e⟩ := tu.dom _ m
    rw [n] at e
    cases e
  refine ⟨_, _, (List.range may.length).map fun j : Nat => .int (j : Nat), er_in (tc.same s1) (er_in (tm.same s1) (er_in (tu.same s1) (er_no (er_no (er_no (er_no (er_no (er_no (er_no er_nil))))))))), ?_, fun H2 A2 s2 al2 dom2 => ?_⟩
  · have e := range_len (i := 1) (ε := [some (false, cntD cs), some (false, mayD may), some (false, cntD must), none, none, none, none, none, none, none]) (ds := may.map cntD) rfl (by rw [List.length_map]; exact hb2)
    rw [List.length_map] at e
    exact e
  have s02 := s1.trans s2
  have ed2 := s2 _ _ ed1
  have na2 : ad ∉ A2 := not_als ed1 al2
  have hdap : Deals.dap cs may must = match Deals.seatAll cs may (List.range may.length) (List.replicate may.length none) with
    | (some S, _) => .askers S
    | (none, d) => match Deals.fillAll cs may must must (d.map fun o => o.getD 0) with
      | (some T, _) => .things T
      | (none, d) => .deal d := rfl
  have hspec := Deals.seatAll_spec hy.rows hy.few may.length 0 (List.replicate may.length none) (by omega) Deals.part_start
  rw [List.drop_zero] at hspec
  generalize hR : Deals.seatAll cs may (List.range may.length) (List.replicate may.length none) = R at hdap hspec
  refine ⟨fun i σ Hc => ∃ deal t4 t5 t6 t7 t8 t9, σ = [some vc, some vm, some vu, some (.ref ad), t4, t5, t6, t7, t8, t9] ∧ Hc ad = some (.lst (deal.map optV)) ∧ Ch1 ad H2 Hc ∧ Deals.Part cs may i deal ∧ Deals.seatAll cs may ((List.range may.length).drop i) deal = R,
    ⟨_, _, _, _, _, _, _, rfl, ed2, .refl, Deals.part_start, hR⟩, fun i σ Hc ⟨_, _, _, _, _, _, _, _, _, c, _⟩ => c.keep ed2 na2, fun σ Hc ⟨deal, t4, t5, t6, t7, t8, t9, e, ed, c, pt, q⟩ => ?_, fun i hi σ Hc ⟨deal, t4, t5, t6, t7, t8, t9, e, ed, c, pt, q⟩ x H3 Bx g3 tx sb => ?_⟩
  rotate_left
  · subst e
    rw [List.length_map, List.length_range] at hi
    rw [List.getElem_map, List.getElem_range] at tx
    have ex := tx.intI
    subst ex
    rw [List.drop_eq_getElem_cons (by rw [List.length_range]; exact hi), List.getElem_range] at q
    intro as has
    have c3 := c.trans (.of_same g3)
    have s03 : Same H H3 := c3.same s02 nad
    have ed3 := g3 _ _ ed
    have nas : ad ≠ as := by
      rintro rfl
      rw [ed3] at has
      cases has
    have nas0 : H as = none := s03.free has
    have nas2 : H2 as = none := by
      cases z : H2 as with
      | none => rfl
      | some o =>
        have := c3 as o (Ne.symm nas) z
        rw [has] at this
        cases this
    have s34 : Same H3 (upd H3 as (.dK [])) := same_upd has
    have s04 := s03.trans s34
    have c4 := c3.trans (.of_same s34)
    have ed4 := s34 _ _ ed3
    have es4 : upd H3 as (.dK []) as = some (.dK (([] : List Nat).map seenK)) := upd_same
    generalize upd H3 as (.dK []) = H4 at *
    have si : SeatIn K cs may 8 H4 vc vm ad as i deal [] Ac Am := ⟨tc.same s04, tm.same s04, ed4, es4, dC nad, dM nad, dC nas0, dM nas0, by rw [pt.len]; exact hi, pt.len, hb2, by omega, hb3, seen_nil, rank8 hb1⟩
    refine ⟨_, rfl, _, rfl, _, rfl, _, rfl, _, rfl, cs, may, vc, vm, ad, as, i, deal, [], Ac, Am, rfl, si, fun H5 c5 ed5 es5 => ⟨_, rfl, ?_⟩⟩
    have c5' : Ch1 ad H2 H5 := Ch.one c5 c4 nas2
    have s05 : Same H H5 := c5'.same s02 nad
    rw [Deals.seatAll] at q
    cases hS : Deals.seat cs may 8 deal i [] with
    | mk o s5 =>
      rw [hS] at q ed5 es5
      cases o with
      | some d5 =>
        refine iteF ⟨d5, _, _, _, _, _, _, rfl, ed5, c5', ?_, q⟩
        exact Deals.part_next pt hi (Deals.seat_succ 8 deal i [] d5 s5 ⟨by rw [pt.len]; exact hi, .inl (pt.open_ i (Nat.le_refl i))⟩ hS)
      | none =>
        refine iteT ?_
        have ed5 : H5 ad = some (.lst (deal.map optV)) := ed5
        subst q
        have er5 : ER K [some vc, some vm, some vu, some (.ref ad), some (.int (i : Nat)), some (.ref as), t6, t7, t8, t9] H5 [some (false, cntD cs), some (false, mayD may), some (false, cntD must), some (false, dealD deal), some (false, .int (i : Nat)), none, none, none, none, none] (fpOf [Ac, Am, Au, [ad], [], [], [], [], [], []]) :=
          er_in (tc.same s05) (er_in (tm.same s05) (er_in (tu.same s05) (er_in (tr_deal ed5) (er_in (.int _) (er_no (er_no (er_no (er_no (er_no er_nil)))))))))
        refine seq_asg ?_
        refine lc_goT (X := (cxOf CX0 P w K mg base N_deal_and_paper "deal_and_paper" (defScope st_deal_and_paper) f cdv A outer s H E).nox) (C := testC s5 9 4 3) (S2 := []) true (fun σ' H' Q ε1 fp' b hw sm er hc q => test_ok er hc ?_ (sm _ _ es5) q) (fun σ H Q ε fp d er e k => ⟨ε, fp, d, er, e, fun v H' A g t fr => k v H' A g t (fun _ => fr) fun a m => .inl (fr.2 a m).1⟩)
          ⟨_, _, cntD ((List.range may.length).filter fun one => decide (one = i) || Deals.inSeen s5 (deal.getD one none)), er5, ?_, fun v H6 A6 g6 t6' fr6 _ => ?_⟩
        · have h5 := wipe_get (vs := [9]) (σ := σ') (j := 5) (by decide)
          rw [← h5]
          have hw' : wipe σ' [9] = wipe [some vc, some vm, some vu, some (.ref ad), some (.int (i : Nat)), some (.ref as), t6, t7, t8, t9] [9] := hw
          rw [hw']
          rfl
        · have er1 := range_len (i := 1) (ε := [some (false, cntD cs), some (false, mayD may), some (false, cntD must), some (false, dealD deal), some (false, .int (i : Nat)), none, none, none, none, none]) (ds := may.map cntD) rfl (by rw [List.length_map]; exact hb2)
          rw [List.length_map] at er1
          have hsc := some_comp (a := i) (s := s5) (deal := deal) (ε := [some (false, cntD cs), some (false, mayD may), some (false, cntD must), some (false, dealD deal), some (false, .int (i : Nat)), none, none, none, none, none]) (i := 9) (C := testC s5 9 4 3) (fun ε' one hj h9 hone => ?_) (by simp) (List.range may.length) (fun x m => by rw [pt.len]; exact List.mem_range.mp m)
          · show (rangeD (consA (callD lenD (consA (varD 1) nilA)) nilA) _).bind _ = _
            rw [er1, Option.bind_some, List.length_map, List.length_range, if_pos (Nat.le_of_lt (small1000 hb2))]
            show (compL _ _ _ (wipeE _ [9]) _).map PyData.list = _
            rw [hsc]
            rfl
          · have h4 : ε'[4]? = some (some (false, .int (i : Nat))) := hj 4 (by decide)
            have h3 : ε'[3]? = some (some (false, dealD deal)) := hj 3 (by decide)
            have v9 : varD 9 ε' = some (.int (one : Nat)) := by unfold varD; rw [h9]
            have v4 : varD 4 ε' = some (.int (i : Nat)) := by unfold varD; rw [h4]
            have v3 : varD 3 ε' = some (dealD deal) := by unfold varD; rw [h3]
            have hd1 : deal[one]? = some (deal.getD one none) := by
              rw [List.getD_eq_getElem?_getD, List.getElem?_eq_getElem hone]
              rfl
            have e1 : bin eqD (varD 9) (varD 4) ε' = some (decide (one = i)) := by
              unfold bin
              rw [v9, v4]
              show eqD (.int (one : Nat)) (.int (i : Nat)) = _
              exact eqD_nn _ _
            have e2 : bin idxD (varD 3) (varD 9) ε' = some (optD (deal.getD one none)) := by
              unfold bin
              rw [v9, v3]
              show atI (deal.map optD) (one : Int) = _
              rw [atI_nat, List.getElem?_map, hd1]
              rfl
            unfold testC
            rw [e1, e2]
            by_cases h : one = i
            · simp [h]
            · simp only [h, decide_false, Option.bind_some, Bool.false_or]
              rw [if_neg Bool.false_ne_true]
              cases deal.getD one none with
              | none => rfl
              | some n => simp [inSeenD, optD, Deals.inSeen]
        · have := fr6 rfl
          refine ⟨_, rfl, (by decide : 2 ≤ sizeLine), fun p hp => ⟨(by decide : 2 ≤ sizeLine), fun q hq => ?_⟩⟩
          obtain ⟨a1, a2, a3⟩ := pair_none (s05.trans g6) t6' (this.back s05) hp hq
          exact k _ _ A6 a1 (by rw [hdap]; exact a2) a3
  · subst e
    rw [List.length_map, List.length_range] at pt q
    rw [List.drop_eq_nil_of_le (by rw [List.length_range]; exact Nat.le_refl _)] at q
    have q : (none, deal) = R := q
    subst q
    have hF := Deals.full_of_part hspec hy.rows
    have edn : Hc ad = some (.lst ((deal.map fun o => o.getD 0).map natV)) := by rw [ed, opt_nat (part_all hspec)]
    have s0c : Same H Hc := c.same s02 nad
    have hdap : Deals.dap cs may must = match Deals.fillAll cs may must must (deal.map fun o => o.getD 0) with
      | (some T, _) => .things T
      | (none, d) => .deal d := hdap
    generalize hR3 : Deals.fillAll cs may must must (deal.map fun o => o.getD 0) = R3 at hdap
    generalize (deal.map fun o => o.getD 0) = dl0 at *
    have erc : ER K [some vc, some vm, some vu, some (.ref ad), t4, t5, t6, t7, t8, t9] Hc [some (false, cntD cs), some (false, mayD may), some (false, cntD must), none, none, none, none, none, none, none] (fpOf [Ac, Am, Au, [], [], [], [], [], [], []]) :=
      er_in (tc.same s0c) (er_in (tm.same s0c) (er_in (tu.same s0c) (er_no (er_no (er_no (er_no (er_no (er_no (er_no er_nil)))))))))
    refine ⟨_, _, must.map fun j : Nat => .int (j : Nat), erc, rfl, fun H2' A3 g3 al3 dom3 => ?_⟩
    have na3 : ad ∉ A3 := fun m => by
      rcases al3 _ m with z | ⟨i, mi, z⟩
      · rw [edn] at z; cases z
      · rw [List.mem_singleton] at mi
        subst mi
        exact dU nad z
    have s0d := s0c.trans g3
    have edd := g3 _ _ edn
    refine ⟨fun i σ Hd => ∃ dl t4 t5 t6 t7 t8 t9, σ = [some vc, some vm, some vu, some (.ref ad), t4, t5, t6, t7, t8, t9] ∧ Hd ad = some (.lst (dl.map natV)) ∧ Ch1 ad H2' Hd ∧ Deals.Full cs may dl ∧ Deals.fillAll cs may must (must.drop i) dl = R3,
      ⟨dl0, _, _, _, _, _, _, rfl, edd, .refl, hF, hR3⟩, fun i σ Hd ⟨_, _, _, _, _, _, _, _, _, c, _⟩ => c.keep edd na3, fun σ Hd ⟨dl, t4, t5, t6, t7, t8, t9, e, ed, c, hf, q⟩ => ?_, fun i hi σ Hd ⟨dl, t4, t5, t6, t7, t8, t9, e, ed, c, hf, q⟩ x H3 Bx g3 tx sb => ?_⟩
    · subst e
      rw [List.length_map, List.drop_length] at q
      have q : (none, dl) = R3 := q
      subst q
      refine ⟨_, rfl, (by decide : 2 ≤ sizeLine), fun p hp => ?_⟩
      obtain ⟨a1, a2, a3⟩ := pair_d (K := K) (c.same s0d nad) ed nad hp
      exact k _ _ [ad] a1 (by rw [hdap]; exact a2) a3
    · subst e
      rw [List.length_map] at hi
      rw [List.getElem_map] at tx
      have ex := tx.intI
      subst ex
      have htm : must[i] ∈ must := List.getElem_mem hi
      rw [List.drop_eq_getElem_cons hi] at q
      generalize must[i] = t at *
      have htc : t < cs.length := hb4 t htm
      have c3 := c.trans (.of_same g3)
      have ed3 := g3 _ _ ed
      rw [Deals.fillAll] at q
      refine ⟨fun m σ He => ∃ dl' t5', σ = [some vc, some vm, some vu, some (.ref ad), t4, t5', t6, some (.int (t : Nat)), t8, t9] ∧ He ad = some (.lst (dl'.map natV)) ∧ Ch1 ad H2' He ∧ Deals.Full cs may dl' ∧ cs.getD t 0 < dl'.count t + m ∧ Deals.fill cs may must t m dl' = Deals.fill cs may must t 100 dl,
        ⟨100, dl, _, rfl, ed3, c3, hf, by have := hy.small t; omega, rfl⟩, fun m σ He ⟨dl', t5', e, ede, ce, fe, he, qe⟩ => ?_⟩
      subst e
      have s0e : Same H He := ce.same s0d nad
      have ere : ER K [some vc, some vm, some vu, some (.ref ad), t4, t5', t6, some (.int (t : Nat)), t8, t9] He [some (false, cntD cs), some (false, mayD may), some (false, cntD must), some (false, cntD dl'), none, none, none, some (false, .int (t : Nat)), none, none] (fpOf [Ac, Am, Au, [ad], [], [], [], [], [], []]) :=
        er_in (tc.same s0e) (er_in (tm.same s0e) (er_in (tu.same s0e) (er_in (tr_cnt ede) (er_no (er_no (er_no (er_in (.int _) (er_no (er_no er_nil)))))))))
      refine ⟨_, _, decide (dl'.count t < cs.getD t 0), ere, ?_, fun H5 g5 => ?_⟩
      · show (countD [cntD dl', .int (t : Nat)]).bind (fun d => (atI (cs.map fun n : Nat => PyData.int (n : Nat)) (t : Int)).bind fun e => ltD d e) = _
        rw [count_D, getD_mapI htc]
        exact ltD_nn _ _
      have c5 := ce.trans (.of_same g5)
      have ed5 := g5 _ _ ede
      have s05 := s0e.trans g5
      by_cases hlt : dl'.count t < cs.getD t 0
      · rw [decide_eq_true hlt]
        refine iteT ?_
        cases m with
        | zero => omega
        | succ m =>
        refine ⟨fun σ' H' => ∃ m', m' < m + 1 ∧ _, fun σ' H' h => h, ?_⟩
        intro as has
        have nas : ad ≠ as := by
          rintro rfl
          rw [ed5] at has
          cases has
        have nas0 : H as = none := s05.free has
        have nas2 : H2' as = none := by
          cases z : H2' as with
          | none => rfl
          | some o =>
            have := c5 as o (Ne.symm nas) z
            rw [has] at this
            cases this
        refine ⟨_, rfl, upd_same, [seenK t], rfl, by simp, ?_⟩
        rw [merge1]
        have s57 : Same H5 (upd (upd H5 as (.dK [])) as (.dK ([t].map seenK))) := fun c o e => by
          have : c ≠ as := by rintro rfl; rw [has] at e; cases e
          rw [upd_ne this, upd_ne this]
          exact e
        have es7 : upd (upd H5 as (.dK [])) as (.dK ([t].map seenK)) as = some (.dK ([t].map seenK)) := upd_same
        generalize upd (upd H5 as (.dK [])) as (.dK ([t].map seenK)) = H7 at *
        have c7 := c5.trans (.of_same s57)
        have ed7 := s57 _ _ ed5
        have s07 := s05.trans s57
        have so1 : SeenOk cs [t] := ⟨by simp, fun x m => by rw [List.mem_singleton] at m; omega⟩
        have bi : BringIn K cs may must 8 H7 vm vu ad as t dl' [t] Am Au := ⟨tm.same s07, tu.same s07, ed7, es7, dM nad, dU nad, dM nas0, dU nas0, fe.len, hb2, by omega, fun x m => Nat.le_of_lt (hb4 x m), so1, rank8 hb1⟩
        refine ⟨_, rfl, _, rfl, _, rfl, _, rfl, _, rfl, cs, may, must, vm, vu, ad, as, t, dl', [t], Am, Au, rfl, bi, fun H8 c8 ed8 es8 => ⟨_, rfl, ?_⟩⟩
        have c8' : Ch1 ad H2' H8 := Ch.one c8 c7 nas2
        have s08 : Same H H8 := c8'.same s0d nad
        have so8 := bring_ok (may := may) (fun x m => Nat.le_of_lt (hb4 x m)) 8 dl' t [t] so1
        rw [Deals.fill, if_pos hlt] at qe
        cases hS : Deals.bring may must 8 dl' t [t] with
        | mk o s8 =>
          rw [hS] at qe ed8 es8 so8
          cases o with
          | some d8 =>
            have S := Deals.bring_succ 8 dl' t [t] d8 s8 (by simp) hS
            obtain ⟨z, hz, hcnt⟩ := S.cnt
            have c1 := hcnt t
            have nzt : z ≠ t := by rintro rfl; exact hz htm
            rw [if_neg nzt, if_pos rfl] at c1
            exact iteF ⟨m, Nat.lt_succ_self m, d8, _, rfl, ed8, c8', Deals.full_next fe S hlt, by omega, qe⟩
          | none =>
            have qe : (some (Deals.sortN s8), dl') = Deals.fill cs may must t 100 dl := qe
            rw [← qe] at q
            have q : (some (Deals.sortN s8), dl') = R3 := q
            subst q
            have l8 : (s8.map fun n : Nat => (n : Int)).length < 64 := by
              rw [List.length_map]
              have := seen_len (s := s8) so8.1 so8.2
              omega
            refine iteT ⟨_, rfl, as, s8.map seenK, s8.map fun n : Nat => (n : Int), rfl, .inl es8, by rw [List.map_map, List.map_map]; rfl, l8, fun ys p pm pw hp => ⟨(by decide : 2 ≤ sizeLine), fun p2 hp2 => ⟨(by decide : 2 ≤ sizeLine), fun p3 hp3 => ?_⟩⟩⟩
            have ey := sorted_eq pm pw
            have e2 : ys.map V.int = (Deals.sortN s8).map natV := by
              rw [ey, List.map_map]
              rfl
            have s9 : Same H8 (upd H8 p (.lst (ys.map V.int))) := same_upd hp
            have e9 : upd H8 p (.lst (ys.map V.int)) p = some (.lst ((Deals.sortN s8).map natV)) := by rw [upd_same, e2]
            obtain ⟨a1, a2, a3⟩ := pair_none (K := K) (d := cntD (Deals.sortN s8)) (A := [p]) (s08.trans s9) (tr_cnt e9) ⟨by simp, fun b m => by rw [List.mem_singleton] at m; subst m; exact ⟨s08.free hp, _, e9⟩⟩ hp2 hp3
            exact k _ _ [p] a1 (by rw [hdap]; exact a2) a3
      · rw [decide_eq_false hlt]
        refine iteF ⟨dl', _, _, _, _, _, _, rfl, ed5, c5, fe, ?_⟩
        have e0 : Deals.fill cs may must t m dl' = (none, dl') := by
          cases m with
          | zero => rfl
          | succ m => rw [Deals.fill, if_neg hlt]
        rw [← qe, e0] at q
        exact q

abbrev st_deal_of : Stmt := topS 5
abbrev N_deal_of : List Str := ["counts", "may", "must"]
theorem sc_deal_of : FnScope N_deal_of ["counts", "may", "must"] (defScope st_deal_of) := ⟨rfl, rfl, rfl, by decide +kernel, rfl, by decide +kernel, by decide +kernel⟩
theorem ok_deal_of {f : Addr} {fd : FuncData} (F : Fun K "deal_of" "deal_of" st_deal_of f fd) (gl : mg "deal_of" = some (.ref f)) (B : Bl mg) (c_deal_and_paper : Cal P w K mg base 11 "deal_and_paper" ["counts", "may", "must"] (spD K s_deal_and_paper)) : Cal P w K mg base 12 "deal_of" ["counts", "may", "must"] (spD K s_deal_of) := by
  refine cal_mk F gl sc_deal_of (fun _ _ _ _ _ _ us hl => match us, hl with | [_, _, _], _ => rfl) fun cdv A outer s H E hr => ?_
  have nd := (sc_deal_of).nd
  exact (sss_one (ss_retF (ef_ix (ef_cal c_deal_and_paper hr (by decide) rfl (aa_cons (ea_var 0) (aa_cons (ea_var 1) (aa_cons (ea_var 2) aa_nil)))) (ea_of ef_int))))
abbrev st_why_none : Stmt := topS 6
abbrev N_why_none : List Str := ["counts", "may", "must"]
theorem sc_why_none : FnScope N_why_none ["counts", "may", "must"] (defScope st_why_none) := ⟨rfl, rfl, rfl, by decide +kernel, rfl, by decide +kernel, by decide +kernel⟩
theorem ok_why_none {f : Addr} {fd : FuncData} (F : Fun K "why_none" "why_none" st_why_none f fd) (gl : mg "why_none" = some (.ref f)) (B : Bl mg) (c_deal_and_paper : Cal P w K mg base 11 "deal_and_paper" ["counts", "may", "must"] (spD K s_deal_and_paper)) : Cal P w K mg base 12 "why_none" ["counts", "may", "must"] (spD K s_why_none) := by
  refine cal_mk F gl sc_why_none (fun _ _ _ _ _ _ us hl => match us, hl with | [_, _, _], _ => rfl) fun cdv A outer s H E hr => ?_
  have nd := (sc_why_none).nd
  exact (sss_one (ss_retF (ef_ix (ef_cal c_deal_and_paper hr (by decide) rfl (aa_cons (ea_var 0) (aa_cons (ea_var 1) (aa_cons (ea_var 2) aa_nil)))) (ea_of ef_int))))
abbrev st__law_cell_at : Stmt := topS 8
abbrev N__law_cell_at : List Str := ["script", "k"]
theorem sc__law_cell_at : FnScope N__law_cell_at ["script", "k"] (defScope st__law_cell_at) := ⟨rfl, rfl, rfl, by decide +kernel, rfl, by decide +kernel, by decide +kernel⟩
theorem ok__law_cell_at {f : Addr} {fd : FuncData} (F : Fun K "_law_cell_at" "_law_cell_at" st__law_cell_at f fd) (gl : mg "_law_cell_at" = some (.ref f)) (B : Bl mg) : Cal P w K mg base 1 "_law_cell_at" ["script", "k"] (spD K s_law_cell_at_90ae) := by
  refine cal_mk F gl sc__law_cell_at (fun _ _ _ _ _ _ us hl => match us, hl with | [_, _], _ => rfl) fun cdv A outer s H E hr => ?_
  have nd := (sc__law_cell_at).nd
  exact (sss_cons (ss_if (et_cmp op_lt_F (ea_var 1) (ea_of (ef_callB call_len_F rfl B.len (by decide +kernel) (aa_cons (ea_var 0) aa_nil))) (nomark _))
    (sss_one (ss_retF (ef_flat (ea_ix (ea_var 0) (ea_var 1)))))
    sss_nil)
    (sss_one (ss_retF ef_int)))
abbrev st__law_turned : Stmt := topS 9
abbrev N__law_turned : List Str := ["some", "cell", "rest", "found"]
theorem sc__law_turned : FnScope N__law_turned ["some", "cell"] (defScope st__law_turned) := ⟨rfl, rfl, rfl, by decide +kernel, rfl, by decide +kernel, by decide +kernel⟩
theorem ok__law_turned {f : Addr} {fd : FuncData} (F : Fun K "_law_turned" "_law_turned" st__law_turned f fd) (gl : mg "_law_turned" = some (.ref f)) (B : Bl mg) : Cal P w K mg base 1 "_law_turned" ["some", "cell"] (spD K s_law_turned_d258) := by
  refine cal_mk F gl sc__law_turned (fun _ _ _ _ _ _ us hl => match us, hl with | [_, _], _ => rfl) fun cdv A outer s H E hr => ?_
  have nd := (sc__law_turned).nd
  exact (sss_cons (ss_setF (i := 2) nd rfl (.inl rfl) (ef_callT call_list_F rfl B.list (by decide +kernel) (aa_cons (ea_var 0) aa_nil)))
    (sss_cons (ss_setF (i := 3) nd rfl (.inl rfl) (ef_lst af_nil))
    (sss_cons (ss_while 100000 PassesOwn.never (et_cmp (op_ne_F hr.units) (ea_var 2) (ea_of (ef_lst af_nil)) (nomark _))
    (sss_cons (ss_appPop 3 2 (by decide) (ea_of (ef_op op_mod_F (ea_var 1) (ea_of (ef_callB call_len_F rfl B.len (by decide +kernel) (aa_cons (ea_var 2) aa_nil))))))
    (sss_one (ss_setF (i := 1) nd rfl (.inl rfl) (ef_op op_fdiv_F (ea_var 1) (ea_of ef_int))))))
    (sss_one (ss_retV 3)))))
abbrev st__law_picked : Stmt := topS 10
abbrev N__law_picked : List Str := ["cell", "many", "bits", "some", "k"]
theorem sc__law_picked : FnScope N__law_picked ["cell", "many"] (defScope st__law_picked) := ⟨rfl, rfl, rfl, by decide +kernel, rfl, by decide +kernel, by decide +kernel⟩
theorem ok__law_picked {f : Addr} {fd : FuncData} (F : Fun K "_law_picked" "_law_picked" st__law_picked f fd) (gl : mg "_law_picked" = some (.ref f)) (B : Bl mg) (c__law_turned : Cal P w K mg base 1 "_law_turned" ["some", "cell"] (spD K s_law_turned_d258)) : Cal P w K mg base 2 "_law_picked" ["cell", "many"] (spD K s_law_picked_463e) := by
  refine cal_mk F gl sc__law_picked (fun _ _ _ _ _ _ us hl => match us, hl with | [_, _], _ => rfl) fun cdv A outer s H E hr => ?_
  have nd := (sc__law_picked).nd
  exact (sss_cons (ss_setF (i := 2) nd rfl (.inr rfl) (ef_lst (af_cons ef_int (af_cons ef_int (af_cons ef_int (af_cons ef_int (af_cons ef_int (af_cons ef_int (af_cons ef_int af_nil)))))))))
    (sss_cons (ss_lcF (i := 3) (own := [("k", 4)]) rfl nd rfl rfl (sw_true rfl rfl rfl (by decide +kernel)) (ia_range1 rfl B.range (aa_cons (ea_var 1) aa_nil)) (blkOk_by (own := [("k", 4)]) (N := N__law_picked) (sc := defScope st__law_picked) (by decide +kernel)) (fun _ _ _ _ _ => (ge_name (i := 4) (by simp) nd rfl (Or.inl rfl))) (fun _ _ _ _ _ => (ets_one (et_cmp (op_eq_F hr.units) (ea_of (ef_op op_mod_F (ea_of (ef_op op_fdiv_F (ea_var 0) (ea_ix (ea_var 2) (ea_var 4)))) (ea_of ef_int))) (ea_of ef_int) (nomark _)))) (fun _ _ _ _ _ => (ef_flat (ea_var 4))))
    (sss_cons (ss_if (et_cmp (op_eq_F hr.units) (ea_of (ef_op op_mod_F (ea_of (ef_op op_fdiv_F (ea_var 0) (ea_of ef_int))) (ea_of ef_int))) (ea_of ef_int) (nomark _))
    (sss_one (ss_setF (i := 3) nd rfl (.inl rfl) (ef_slice (ea_var 3) eo_none (eo_some (ea_of ef_int)))))
    sss_nil)
    (sss_one (ss_retF (ef_cal c__law_turned hr (by decide) rfl (aa_cons (ea_var 3) (aa_cons (ea_of (ef_op op_mod_F (ea_of (ef_op op_fdiv_F (ea_var 0) (ea_of ef_int))) (ea_of (ef_op op_pow_F (ea_of ef_int) (ea_of ef_int))))) aa_nil))))))))
abbrev st__law_case : Stmt := topS 11
abbrev N__law_case : List Str := ["cells", "number", "many", "askers", "counts", "k", "cell", "may"]
theorem sc__law_case : FnScope N__law_case ["cells"] (defScope st__law_case) := ⟨rfl, rfl, rfl, by decide +kernel, rfl, by decide +kernel, by decide +kernel⟩
theorem ok__law_case {f : Addr} {fd : FuncData} (F : Fun K "_law_case" "_law_case" st__law_case f fd) (gl : mg "_law_case" = some (.ref f)) (B : Bl mg) (c__law_picked : Cal P w K mg base 2 "_law_picked" ["cell", "many"] (spD K s_law_picked_463e)) : Cal P w K mg base 3 "_law_case" ["cells"] (spD K s_law_case_a104) := by
  refine cal_mk F gl sc__law_case (fun _ _ _ _ _ _ us hl => match us, hl with | [_], _ => rfl) fun cdv A outer s H E hr => ?_
  have nd := (sc__law_case).nd
  exact (sss_cons (ss_setA (i := 1) nd rfl (.inl rfl) (ea_ix (ea_var 0) (ea_of ef_int)))
    (sss_cons (ss_setF (i := 2) nd rfl (.inl rfl) (ef_op op_mod_F (ea_var 1) (ea_of ef_int)))
    (sss_cons (ss_setF (i := 3) nd rfl (.inl rfl) (ef_op op_add_F (ea_of ef_int) (ea_of (ef_op op_mod_F (ea_of (ef_op op_fdiv_F (ea_var 1) (ea_of ef_int))) (ea_of ef_int)))))
    (sss_cons (ss_setF (i := 4) nd rfl (.inl rfl) (ef_lst af_nil))
    (sss_cons (ss_for PassesOwn.never rfl (ia_range1 rfl B.range (aa_cons (ea_var 2) aa_nil)) (gt_name (i := 5) nd rfl (.inl rfl))
    (sss_cons (ss_setF (i := 6) nd rfl (.inl rfl) (ef_op op_fdiv_F (ea_ix (ea_var 0) (ea_of ef_int)) (ea_ix (ea_of (ef_lst (af_cons ef_int (af_cons ef_int (af_cons ef_int (af_cons ef_int (af_cons ef_int (af_cons ef_int af_nil)))))))) (ea_var 5))))
    (sss_one (ss_append 4 (ef_flat (ea_ix (ea_of (ef_lst (af_cons (ef_op op_mod_F (ea_of (ef_op op_fdiv_F (ea_var 6) (ea_of ef_int))) (ea_of ef_int)) (af_cons (ef_op op_mod_F (ea_of (ef_op op_fdiv_F (ea_var 6) (ea_of ef_int))) (ea_of ef_int)) (af_cons (ef_op op_mod_F (ea_of (ef_op op_fdiv_F (ea_var 6) (ea_of ef_int))) (ea_of ef_int)) (af_cons (ef_op op_mod_F (ea_of (ef_op op_fdiv_F (ea_var 6) (ea_of ef_int))) (ea_of ef_int)) af_nil)))))) (ea_of (ef_op op_mod_F (ea_var 6) (ea_of ef_int)))))))))
    (sss_cons (ss_setF (i := 7) nd rfl (.inl rfl) (ef_lst af_nil))
    (sss_cons (ss_for PassesOwn.never rfl (ia_range1 rfl B.range (aa_cons (ea_var 3) aa_nil)) (gt_name (i := 5) nd rfl (.inl rfl))
    (sss_one (ss_append 7 (ef_cal c__law_picked hr (by decide) rfl (aa_cons (ea_ix (ea_var 0) (ea_of (ef_op op_add_F (ea_of ef_int) (ea_var 5)))) (aa_cons (ea_of (ef_op op_add_F (ea_var 2) (ea_of ef_int))) aa_nil))))))
    (sss_one (ss_retM (em_tup (am_cons (em_var 4) (am_cons (em_var 7) (am_cons (em_of (ef_cal c__law_picked hr (by decide) rfl (aa_cons (ea_ix (ea_var 0) (ea_of ef_int)) (aa_cons (ea_var 2) aa_nil)))) am_nil (by decide)) (by decide)) (by decide))))))))))))
abbrev st__law_plain : Stmt := topS 12
abbrev N__law_plain : List Str := ["found", "one"]
theorem sc__law_plain : FnScope N__law_plain ["found"] (defScope st__law_plain) := ⟨rfl, rfl, rfl, by decide +kernel, rfl, by decide +kernel, by decide +kernel⟩
theorem ok__law_plain {f : Addr} {fd : FuncData} (F : Fun K "_law_plain" "_law_plain" st__law_plain f fd) (gl : mg "_law_plain" = some (.ref f)) (B : Bl mg) : Cal P w K mg base 1 "_law_plain" ["found"] (spD K s_law_plain_a4df) := by
  refine cal_mk F gl sc__law_plain (fun _ _ _ _ _ _ us hl => match us, hl with | [_], _ => rfl) fun cdv A outer s H E hr => ?_
  have nd := (sc__law_plain).nd
  exact (sss_cons (ss_if (et_not (et_eb (eb_isi .list (ea_var 0) rfl B.isinstance (pe_bltn rfl B.list (by decide +kernel) rfl))))
    (sss_one (ss_retF ef_bl))
    sss_nil)
    (sss_one (ss_retF (ef_cmp (op_eq_F hr.units) (ea_of (ef_lc (own := [("one", 1)]) rfl nd (ia_list (ea_var 0)) (blkOk_by (own := [("one", 1)]) (N := N__law_plain) (sc := defScope st__law_plain) (by decide +kernel)) (fun _ _ _ _ _ => (ge_name (i := 1) (by simp) nd rfl (Or.inl rfl))) (fun _ _ _ _ _ => (ets_one (PW.pt (ew_or (et_not (et_eb (eb_isi .int (ea_var 1) rfl B.isinstance (pe_bltn rfl B.int (by decide +kernel) rfl)))) (ew_or1 (et_eb (eb_isi .bool (ea_var 1) rfl B.isinstance (pe_bltn rfl B.bool (by decide +kernel) rfl)))))))) (fun _ _ _ _ _ => (ef_flat (ea_var 1))))) (ea_of (ef_lst af_nil)) (nomark _)))))
abbrev st__law_is_deal : Stmt := topS 13
abbrev N__law_is_deal : List Str := ["deal", "counts", "may", "must", "thing", "row", "k"]
theorem sc__law_is_deal : FnScope N__law_is_deal ["deal", "counts", "may", "must"] (defScope st__law_is_deal) := ⟨rfl, rfl, rfl, by decide +kernel, rfl, by decide +kernel, by decide +kernel⟩
theorem ok__law_is_deal {f : Addr} {fd : FuncData} (F : Fun K "_law_is_deal" "_law_is_deal" st__law_is_deal f fd) (gl : mg "_law_is_deal" = some (.ref f)) (B : Bl mg) (c__law_plain : Cal P w K mg base 1 "_law_plain" ["found"] (spD K s_law_plain_a4df)) : Cal P w K mg base 2 "_law_is_deal" ["deal", "counts", "may", "must"] (spD K s_law_is_deal_73aa) := by
  refine cal_mk F gl sc__law_is_deal (fun _ _ _ _ _ _ us hl => match us, hl with | [_, _, _, _], _ => rfl) fun cdv A outer s H E hr => ?_
  have nd := (sc__law_is_deal).nd
  exact (sss_cons (ss_if (PW.pt (ew_or (et_not (et_val (ea_of (ef_cal c__law_plain hr (by decide) rfl (aa_cons (ea_var 0) aa_nil))))) (ew_or1 (et_cmp (op_ne_F hr.units) (ea_of (ef_callB call_len_F rfl B.len (by decide +kernel) (aa_cons (ea_var 0) aa_nil))) (ea_of (ef_callB call_len_F rfl B.len (by decide +kernel) (aa_cons (ea_var 2) aa_nil))) (nomark _)))))
    (sss_one (ss_retF ef_bl))
    sss_nil)
    (sss_cons (ss_for PassesOwn.never rfl (ia_zip rfl B.zip (aa_cons (ea_var 0) (aa_cons (ea_var 2) aa_nil))) (gt_tup rfl (gts_cons (gt_name (i := 4) nd rfl (.inl rfl)) (gts_cons (gt_name (i := 5) nd rfl (.inl rfl)) gts_nil)))
    (sss_one (ss_if (et_cmp (op_notin_F (Room.units65 hr)) (ea_var 4) (ea_var 5) rfl)
    (sss_one (ss_retF ef_bl))
    sss_nil)))
    (sss_cons (ss_for PassesOwn.never rfl (ia_range1 rfl B.range (aa_cons (ea_of (ef_callB call_len_F rfl B.len (by decide +kernel) (aa_cons (ea_var 1) aa_nil))) aa_nil)) (gt_name (i := 6) nd rfl (.inl rfl))
    (sss_one (ss_if (PW.pt (ew_or (et_cmp op_gt_F (ea_of (ef_m1 PySem.F.slot_list_count PySem.F.type_list_count (mt_count_F (Room.units65 hr)) countD_list (ea_var 0) (ea_var 6))) (ea_ix (ea_var 1) (ea_var 6)) (nomark _)) (ew_or1 (PW.pt (ew_and (et_cmp (op_in_F (Room.units65 hr)) (ea_var 6) (ea_var 3) rfl) (ew_and1 (et_cmp op_lt_F (ea_of (ef_m1 PySem.F.slot_list_count PySem.F.type_list_count (mt_count_F (Room.units65 hr)) countD_list (ea_var 0) (ea_var 6))) (ea_ix (ea_var 1) (ea_var 6)) (nomark _))))))))
    (sss_one (ss_retF ef_bl))
    sss_nil)))
    (sss_one (ss_retF ef_bl)))))
abbrev st__law_rising : Stmt := topS 14
abbrev N__law_rising : List Str := ["some", "one", "other"]
theorem sc__law_rising : FnScope N__law_rising ["some"] (defScope st__law_rising) := ⟨rfl, rfl, rfl, by decide +kernel, rfl, by decide +kernel, by decide +kernel⟩
theorem ok__law_rising {f : Addr} {fd : FuncData} (F : Fun K "_law_rising" "_law_rising" st__law_rising f fd) (gl : mg "_law_rising" = some (.ref f)) (B : Bl mg) : Cal P w K mg base 1 "_law_rising" ["some"] (spD K s_law_rising_0c62) := by
  refine cal_mk F gl sc__law_rising (fun _ _ _ _ _ _ us hl => match us, hl with | [_], _ => rfl) fun cdv A outer s H E hr => ?_
  have nd := (sc__law_rising).nd
  exact (sss_one (ss_retF (eb_and (ef_cmp (op_ne_F hr.units) (ea_var 0) (ea_of (ef_lst af_nil)) (nomark _)) (eb_one (eb_val (ea_of (ef_callB (call_all_F rfl) rfl B.all (by decide +kernel) (aa_cons (ea_of (ef_lc (own := [("one", 1), ("other", 2)]) rfl nd (ia_zip rfl B.zip (aa_cons (ea_of (ef_slice (ea_var 0) eo_none (eo_some (ea_of (ef_un un_neg_F (ea_of ef_int)))))) (aa_cons (ea_of (ef_slice (ea_var 0) (eo_some (ea_of ef_int)) eo_none)) aa_nil))) (blkOk_by (own := [("one", 1), ("other", 2)]) (N := N__law_rising) (sc := defScope st__law_rising) (by decide +kernel)) (fun _ _ _ _ _ => (ge_tup rfl (ges_cons (ge_name (i := 1) (by simp) nd rfl (Or.inl rfl)) (ges_cons (ge_name (i := 2) (by simp) nd rfl (Or.inl rfl)) ges_nil)))) (fun _ _ _ _ _ => ets_nil) (fun _ _ _ _ _ => (ef_cmp op_lt_F (ea_var 1) (ea_var 2) (nomark _))))) aa_nil))))))))
abbrev st__law_is_paper : Stmt := topS 15
abbrev N__law_is_paper : List Str := ["paper", "counts", "may", "must", "some", "total", "k", "one", "row"]
theorem sc__law_is_paper : FnScope N__law_is_paper ["paper", "counts", "may", "must"] (defScope st__law_is_paper) := ⟨rfl, rfl, rfl, by decide +kernel, rfl, by decide +kernel, by decide +kernel⟩
theorem ok__law_is_paper {f : Addr} {fd : FuncData} (F : Fun K "_law_is_paper" "_law_is_paper" st__law_is_paper f fd) (gl : mg "_law_is_paper" = some (.ref f)) (B : Bl mg) (c__law_plain : Cal P w K mg base 1 "_law_plain" ["found"] (spD K s_law_plain_a4df)) (c__law_rising : Cal P w K mg base 1 "_law_rising" ["some"] (spD K s_law_rising_0c62)) : Cal P w K mg base 2 "_law_is_paper" ["paper", "counts", "may", "must"] (spD K s_law_is_paper_ad33) := by
  refine cal_mk F gl sc__law_is_paper (fun _ _ _ _ _ _ us hl => match us, hl with | [_, _, _, _], _ => rfl) fun cdv A outer s H E hr => ?_
  have nd := (sc__law_is_paper).nd
  exact (sss_cons (ss_if (PW.pt (ew_or (et_not (et_eb (eb_isi .tuple (ea_var 0) rfl B.isinstance (pe_bltn rfl B.tuple (by decide +kernel) rfl)))) (ew_or (et_cmp (op_ne_F hr.units) (ea_of (ef_callB call_len_F rfl B.len (by decide +kernel) (aa_cons (ea_var 0) aa_nil))) (ea_of ef_int) (nomark _)) (ew_or1 (et_not (et_eb (eb_isi .str (ea_ix (ea_var 0) (ea_of ef_int)) rfl B.isinstance (pe_bltn rfl B.str (by decide +kernel) rfl))))))))
    (sss_one (ss_retF ef_bl))
    sss_nil)
    (sss_cons (ss_setA (i := 4) nd rfl (.inr rfl) (ea_ix (ea_var 0) (ea_of ef_int)))
    (sss_cons (ss_if (PW.pt (ew_or (et_not (et_val (ea_of (ef_cal c__law_plain hr (by decide) rfl (aa_cons (ea_var 4) aa_nil))))) (ew_or1 (et_not (et_val (ea_of (ef_cal c__law_rising hr (by decide) rfl (aa_cons (ea_var 4) aa_nil))))))))
    (sss_one (ss_retF ef_bl))
    sss_nil)
    (sss_cons (ss_setF (i := 5) nd rfl (.inl rfl) ef_int)
    (sss_cons (ss_if (et_cmp (op_eq_F hr.units) (ea_ix (ea_var 0) (ea_of ef_int)) (ea_of ef_str) (nomark _))
    (sss_cons (ss_if (PW.pt (ew_or (et_cmp op_lt_F (ea_ix (ea_var 4) (ea_of ef_int)) (ea_of ef_int) (nomark _)) (ew_or1 (et_cmp op_ge_F (ea_ix (ea_var 4) (ea_of (ef_un un_neg_F (ea_of ef_int)))) (ea_of (ef_callB call_len_F rfl B.len (by decide +kernel) (aa_cons (ea_var 2) aa_nil))) (nomark _)))))
    (sss_one (ss_retF ef_bl))
    sss_nil)
    (sss_cons (ss_if (et_cmp (op_ne_F hr.units) (ea_of (ef_lc (own := [("one", 7)]) rfl nd (ia_list (ea_var 4)) (blkOk_by (own := [("one", 7)]) (N := N__law_is_paper) (sc := defScope st__law_is_paper) (by decide +kernel)) (fun _ _ _ _ _ => (ge_name (i := 7) (by simp) nd rfl (Or.inl rfl))) (fun _ _ _ _ _ => (ets_one (et_cmp (op_in_F (Room.units65 hr)) (ea_of (ef_callB call_len_F rfl B.len (by decide +kernel) (aa_cons (ea_var 1) aa_nil))) (ea_ix (ea_var 2) (ea_var 7)) rfl))) (fun _ _ _ _ _ => (ef_flat (ea_var 7))))) (ea_of (ef_lst af_nil)) (nomark _))
    (sss_one (ss_retF ef_bl))
    sss_nil)
    (sss_cons (ss_for PassesOwn.never rfl (ia_range1 rfl B.range (aa_cons (ea_of (ef_callB call_len_F rfl B.len (by decide +kernel) (aa_cons (ea_var 1) aa_nil))) aa_nil)) (gt_name (i := 6) nd rfl (.inr rfl))
    (sss_one (ss_if (et_cmp (op_ne_F hr.units) (ea_of (ef_lc (own := [("one", 7)]) rfl nd (ia_list (ea_var 4)) (blkOk_by (own := [("one", 7)]) (N := N__law_is_paper) (sc := defScope st__law_is_paper) (by decide +kernel)) (fun _ _ _ _ _ => (ge_name (i := 7) (by simp) nd rfl (Or.inl rfl))) (fun _ _ _ _ _ => (ets_one (et_cmp (op_in_F (Room.units65 hr)) (ea_var 6) (ea_ix (ea_var 2) (ea_var 7)) rfl))) (fun _ _ _ _ _ => (ef_flat (ea_var 7))))) (ea_of (ef_lst af_nil)) (nomark _))
    (sss_one (ss_setF (i := 5) nd rfl (.inl rfl) (ef_op op_add_F (ea_var 5) (ea_ix (ea_var 1) (ea_var 6)))))
    sss_nil)))
    (sss_one (ss_retF (ef_cmp op_lt_F (ea_var 5) (ea_of (ef_callB call_len_F rfl B.len (by decide +kernel) (aa_cons (ea_var 4) aa_nil))) (nomark _)))))))
    sss_nil)
    (sss_cons (ss_if (PW.pt (ew_or (et_cmp (op_ne_F hr.units) (ea_ix (ea_var 0) (ea_of ef_int)) (ea_of ef_str) (nomark _)) (ew_or1 (et_cmp (op_ne_F hr.units) (ea_of (ef_lc (own := [("one", 7)]) rfl nd (ia_list (ea_var 4)) (blkOk_by (own := [("one", 7)]) (N := N__law_is_paper) (sc := defScope st__law_is_paper) (by decide +kernel)) (fun _ _ _ _ _ => (ge_name (i := 7) (by simp) nd rfl (Or.inl rfl))) (fun _ _ _ _ _ => (ets_one (et_cmp (op_notin_F (Room.units65 hr)) (ea_var 7) (ea_var 3) rfl))) (fun _ _ _ _ _ => (ef_flat (ea_var 7))))) (ea_of (ef_lst af_nil)) (nomark _)))))
    (sss_one (ss_retF ef_bl))
    sss_nil)
    (sss_cons (ss_for PassesOwn.never rfl (ia_list (ea_var 4)) (gt_name (i := 6) nd rfl (.inr rfl))
    (sss_one (ss_setF (i := 5) nd rfl (.inl rfl) (ef_op op_add_F (ea_var 5) (ea_ix (ea_var 1) (ea_var 6))))))
    (sss_one (ss_retF (ef_cmp op_gt_F (ea_var 5) (ea_of (ef_callB call_len_F rfl B.len (by decide +kernel) (aa_cons (ea_lc (own := [("row", 8)]) rfl nd (ia_list (ea_var 2)) (blkOk_by (own := [("row", 8)]) (N := N__law_is_paper) (sc := defScope st__law_is_paper) (by decide +kernel)) (fun _ _ _ _ _ => (ge_name (i := 8) (by simp) nd rfl (Or.inl rfl))) (fun _ _ _ _ _ => (ets_one (et_cmp (op_ne_F hr.units) (ea_of (ef_lc (own := [("one", 7)]) rfl nd (ia_list (ea_var 8)) (blkOk_by (own := [("one", 7)]) (N := N__law_is_paper) rfl) (fun _ _ _ _ _ => (ge_name (i := 7) (by simp) nd rfl (Or.inl rfl))) (fun _ _ _ _ _ => (ets_one (et_cmp (op_in_F (Room.units65 hr)) (ea_var 7) (ea_var 4) rfl))) (fun _ _ _ _ _ => (ef_flat (ea_var 7))))) (ea_of (ef_lst af_nil)) (nomark _)))) (fun _ _ _ _ _ => (ea_var 8))) aa_nil))) (nomark _)))))))))))
abbrev st__law_told : Stmt := topS 16
abbrev N__law_told : List Str := ["counts", "may", "must", "handed", "deal", "paper", "again", "row"]
theorem sc__law_told : FnScope N__law_told ["counts", "may", "must"] (defScope st__law_told) := ⟨rfl, rfl, rfl, by decide +kernel, rfl, by decide +kernel, by decide +kernel⟩
theorem ok__law_told {f : Addr} {fd : FuncData} (F : Fun K "_law_told" "_law_told" st__law_told f fd) (gl : mg "_law_told" = some (.ref f)) (B : Bl mg) (c_deal_of : Cal P w K mg base 12 "deal_of" ["counts", "may", "must"] (spD K s_deal_of)) (c_why_none : Cal P w K mg base 12 "why_none" ["counts", "may", "must"] (spD K s_why_none)) (c__law_is_paper : Cal P w K mg base 2 "_law_is_paper" ["paper", "counts", "may", "must"] (spD K s_law_is_paper_ad33)) (c__law_is_deal : Cal P w K mg base 2 "_law_is_deal" ["deal", "counts", "may", "must"] (spD K s_law_is_deal_73aa)) : Cal P w K mg base 13 "_law_told" ["counts", "may", "must"] (spD K s_law_told_92c9) := by
  refine cal_mk F gl sc__law_told (fun _ _ _ _ _ _ us hl => match us, hl with | [_, _, _], _ => rfl) fun cdv A outer s H E hr => ?_
  have nd := (sc__law_told).nd
  exact (sss_cons (ss_setF (i := 3) nd rfl (.inl rfl) (ef_lst (af_cons (ef_callT call_list_F rfl B.list (by decide +kernel) (aa_cons (ea_var 0) aa_nil)) (af_cons (ef_lc (own := [("row", 7)]) rfl nd (ia_list (ea_var 1)) (blkOk_by (own := [("row", 7)]) (N := N__law_told) (sc := defScope st__law_told) (by decide +kernel)) (fun _ _ _ _ _ => (ge_name (i := 7) (by simp) nd rfl (Or.inl rfl))) (fun _ _ _ _ _ => ets_nil) (fun _ _ _ _ _ => (ef_callT call_list_F rfl B.list (by decide +kernel) (aa_cons (ea_var 7) aa_nil)))) (af_cons (ef_callT call_list_F rfl B.list (by decide +kernel) (aa_cons (ea_var 2) aa_nil)) af_nil)))))
    (sss_cons (ss_setF (i := 4) nd rfl (.inl rfl) (ef_cal c_deal_of hr (by decide) rfl (aa_cons (ea_ix (ea_var 3) (ea_of ef_int)) (aa_cons (ea_ix (ea_var 3) (ea_of ef_int)) (aa_cons (ea_ix (ea_var 3) (ea_of ef_int)) aa_nil)))))
    (sss_cons (ss_setF (i := 5) nd rfl (.inl rfl) (ef_cal c_why_none hr (by decide) rfl (aa_cons (ea_ix (ea_var 3) (ea_of ef_int)) (aa_cons (ea_ix (ea_var 3) (ea_of ef_int)) (aa_cons (ea_ix (ea_var 3) (ea_of ef_int)) aa_nil)))))
    (sss_cons (ss_if (et_cmp (op_ne_F hr.units) (ea_var 3) (ea_lst (aa_cons (ea_var 0) (aa_cons (ea_var 1) (aa_cons (ea_var 2) aa_nil)))) (nomark _))
    (sss_one (ss_retF ef_bl))
    sss_nil)
    (sss_cons (ss_setF (i := 6) nd rfl (.inl rfl) (ef_cal c_deal_of hr (by decide) rfl (aa_cons (ea_ix (ea_var 3) (ea_of ef_int)) (aa_cons (ea_ix (ea_var 3) (ea_of ef_int)) (aa_cons (ea_ix (ea_var 3) (ea_of ef_int)) aa_nil)))))
    (sss_cons (ss_if (PW.pt (ew_or (et_cmp (op_ne_F hr.units) (ea_var 3) (ea_lst (aa_cons (ea_var 0) (aa_cons (ea_var 1) (aa_cons (ea_var 2) aa_nil)))) (nomark _)) (ew_or1 (et_cmp (op_ne_F hr.units) (ea_of (ef_cmp op_is_F (ea_var 6) (ea_of ef_non) (nomark _))) (ea_of (ef_cmp op_is_F (ea_var 4) (ea_of ef_non) (nomark _))) (nomark _)))))
    (sss_one (ss_retF ef_bl))
    sss_nil)
    (sss_cons (ss_if (et_cmp op_is_F (ea_var 4) (ea_of ef_non) (nomark _))
    (sss_one (ss_retF (ef_cal c__law_is_paper hr (by decide) rfl (aa_cons (ea_var 5) (aa_cons (ea_var 0) (aa_cons (ea_var 1) (aa_cons (ea_var 2) aa_nil)))))))
    sss_nil)
    (sss_cons (ss_if (PW.pt (ew_or (et_cmp op_isnot_F (ea_of (ef_cal c_why_none hr (by decide) rfl (aa_cons (ea_ix (ea_var 3) (ea_of ef_int)) (aa_cons (ea_ix (ea_var 3) (ea_of ef_int)) (aa_cons (ea_ix (ea_var 3) (ea_of ef_int)) aa_nil))))) (ea_of ef_non) (nomark _)) (ew_or1 (et_cmp (op_ne_F hr.units) (ea_var 3) (ea_lst (aa_cons (ea_var 0) (aa_cons (ea_var 1) (aa_cons (ea_var 2) aa_nil)))) (nomark _)))))
    (sss_one (ss_retF ef_bl))
    sss_nil)
    (sss_one (ss_retF (eb_and (eb_val (ea_of (ef_cal c__law_is_deal hr (by decide) rfl (aa_cons (ea_var 4) (aa_cons (ea_var 0) (aa_cons (ea_var 1) (aa_cons (ea_var 2) aa_nil))))))) (eb_one (ef_cmp op_is_F (ea_var 5) (ea_of ef_non) (nomark _))))))))))))))
abbrev st_law : Stmt := topS 17
abbrev N_law : List Str := ["script", "k", "cells", "counts", "may", "must", "j"]
theorem sc_law : FnScope N_law ["script"] (defScope st_law) := ⟨rfl, rfl, rfl, by decide +kernel, rfl, by decide +kernel, by decide +kernel⟩
theorem okf_law {f : Addr} {fd : FuncData} (F : Fun K "law" "law" st_law f fd) (B : Bl mg) (c__law_cell_at : Cal P w K mg base 1 "_law_cell_at" ["script", "k"] (spD K s_law_cell_at_90ae)) (c__law_case : Cal P w K mg base 3 "_law_case" ["cells"] (spD K s_law_case_a104)) (c__law_told : Cal P w K mg base 13 "_law_told" ["counts", "may", "must"] (spD K s_law_told_92c9)) : FnOk P w K mg base CX0 14 f fd ["script"] (spD K s_law_k31) := by
  refine fn_ok F sc_law fun cdv A outer s H E hr => ?_
  have nd := (sc_law).nd
  exact (sss_cons (ss_for PassesOwn.never rfl (ia_range1 rfl B.range (aa_cons (ea_of (ef_callB (call_min_F rfl) rfl B.min (by decide +kernel) (aa_cons (ea_of ef_int) (aa_cons (ea_of (ef_op op_add_F (ea_of ef_int) (ea_of (ef_op op_fdiv_F (ea_of (ef_callB call_len_F rfl B.len (by decide +kernel) (aa_cons (ea_var 0) aa_nil))) (ea_of ef_int))))) aa_nil)))) aa_nil)) (gt_name (i := 1) nd rfl (.inr rfl))
    (sss_cons (ss_lcF (i := 2) (own := [("j", 6)]) rfl nd rfl rfl (sw_true rfl rfl rfl (by decide +kernel)) (ia_range1 rfl B.range (aa_cons (ea_of ef_int) aa_nil)) (blkOk_by (own := [("j", 6)]) (N := N_law) (sc := defScope st_law) (by decide +kernel)) (fun _ _ _ _ _ => (ge_name (i := 6) (by simp) nd rfl (Or.inl rfl))) (fun _ _ _ _ _ => ets_nil) (fun _ _ _ _ _ => (ef_cal c__law_cell_at hr (by decide) rfl (aa_cons (ea_var 0) (aa_cons (ea_of (ef_op op_add_F (ea_of (ef_op op_mul_F (ea_of ef_int) (ea_var 1))) (ea_var 6))) aa_nil)))))
    (sss_cons (ss_unp (ea_of (ef_cal c__law_case hr (by decide) rfl (aa_cons (ea_var 2) aa_nil))) (gt_tup rfl (gts_cons (gt_name (i := 3) nd rfl (.inl rfl)) (gts_cons (gt_name (i := 4) nd rfl (.inl rfl)) (gts_cons (gt_name (i := 5) nd rfl (.inl rfl)) gts_nil)))))
    (sss_cons (ss_if (et_not (et_val (ea_of (ef_cal c__law_told hr (by decide) rfl (aa_cons (ea_var 3) (aa_cons (ea_var 4) (aa_cons (ea_var 5) aa_nil)))))))
    (sss_one (ss_retF ef_bl))
    sss_nil)
    (sss_one (ss_if (et_not (et_val (ea_of (ef_cal c__law_told hr (by decide) rfl (aa_cons (ea_var 3) (aa_cons (ea_var 4) (aa_cons (ea_of (ef_lst af_nil)) aa_nil)))))))
    (sss_one (ss_retF ef_bl))
    sss_nil))))))
    (sss_one (ss_retF ef_bl)))
end
end PV.R_k31
namespace PV.R_k31
open PySem PySem.Spec PyProof.Rows L2 PV
theorem all_mk {P : Program} {w : World} {K : PySem.W.Frag} {h : Heap} {mg : Str → Option Value} {fa f0 f1 f2 f3 f4 f5 f6 f7 f8 f9 f10 f11 f12 f13 f14 f15 : Addr} (X : K.In h) (G : h.Ns mainGlobals mg) (hfa : mg "law" = some (.ref fa))
    {od0 an0 : Option Addr} {sl0 : Array (Option Value)} {oc0 kV0 dc0 pm0 cd0 ct0 : Value}
    (a0 : PySem.W.nsIn K mainGlobals "_law_cell_at" = some (some (.ref f0))) (l0 : K.lookup f0 = some ⟨oc0, od0, .func (PySem.W.fnOf "_law_cell_at" "_law_cell_at" (defArgs st__law_cell_at) (defBody st__law_cell_at) (defScope st__law_cell_at) .none kV0 dc0 pm0 an0 cd0 ct0), sl0⟩) (c0 : PySem.W.codeIn K cd0 "_law_cell_at" = true) (k0 : PySem.W.keepIn K (.ref f0) = true)
    {od1 an1 : Option Addr} {sl1 : Array (Option Value)} {oc1 kV1 dc1 pm1 cd1 ct1 : Value}
    (a1 : PySem.W.nsIn K mainGlobals "_law_turned" = some (some (.ref f1))) (l1 : K.lookup f1 = some ⟨oc1, od1, .func (PySem.W.fnOf "_law_turned" "_law_turned" (defArgs st__law_turned) (defBody st__law_turned) (defScope st__law_turned) .none kV1 dc1 pm1 an1 cd1 ct1), sl1⟩) (c1 : PySem.W.codeIn K cd1 "_law_turned" = true) (k1 : PySem.W.keepIn K (.ref f1) = true)
    {od2 an2 : Option Addr} {sl2 : Array (Option Value)} {oc2 kV2 dc2 pm2 cd2 ct2 : Value}
    (a2 : PySem.W.nsIn K mainGlobals "_law_picked" = some (some (.ref f2))) (l2 : K.lookup f2 = some ⟨oc2, od2, .func (PySem.W.fnOf "_law_picked" "_law_picked" (defArgs st__law_picked) (defBody st__law_picked) (defScope st__law_picked) .none kV2 dc2 pm2 an2 cd2 ct2), sl2⟩) (c2 : PySem.W.codeIn K cd2 "_law_picked" = true) (k2 : PySem.W.keepIn K (.ref f2) = true)
    {od3 an3 : Option Addr} {sl3 : Array (Option Value)} {oc3 kV3 dc3 pm3 cd3 ct3 : Value}
    (a3 : PySem.W.nsIn K mainGlobals "_law_case" = some (some (.ref f3))) (l3 : K.lookup f3 = some ⟨oc3, od3, .func (PySem.W.fnOf "_law_case" "_law_case" (defArgs st__law_case) (defBody st__law_case) (defScope st__law_case) .none kV3 dc3 pm3 an3 cd3 ct3), sl3⟩) (c3 : PySem.W.codeIn K cd3 "_law_case" = true) (k3 : PySem.W.keepIn K (.ref f3) = true)
    {od4 an4 : Option Addr} {sl4 : Array (Option Value)} {oc4 kV4 dc4 pm4 cd4 ct4 : Value}
    (a4 : PySem.W.nsIn K mainGlobals "has_room" = some (some (.ref f4))) (l4 : K.lookup f4 = some ⟨oc4, od4, .func (PySem.W.fnOf "has_room" "has_room" (defArgs st_has_room) (defBody st_has_room) (defScope st_has_room) .none kV4 dc4 pm4 an4 cd4 ct4), sl4⟩) (c4 : PySem.W.codeIn K cd4 "has_room" = true) (k4 : PySem.W.keepIn K (.ref f4) = true)
    {od5 an5 : Option Addr} {sl5 : Array (Option Value)} {oc5 kV5 dc5 pm5 cd5 ct5 : Value}
    (a5 : PySem.W.nsIn K mainGlobals "is_seated" = some (some (.ref f5))) (l5 : K.lookup f5 = some ⟨oc5, od5, .func (PySem.W.fnOf "is_seated" "is_seated" (defArgs st_is_seated) (defBody st_is_seated) (defScope st_is_seated) .none kV5 dc5 pm5 an5 cd5 ct5), sl5⟩) (c5 : PySem.W.codeIn K cd5 "is_seated" = true) (k5 : PySem.W.keepIn K (.ref f5) = true)
    {od6 an6 : Option Addr} {sl6 : Array (Option Value)} {oc6 kV6 dc6 pm6 cd6 ct6 : Value}
    (a6 : PySem.W.nsIn K mainGlobals "is_brought" = some (some (.ref f6))) (l6 : K.lookup f6 = some ⟨oc6, od6, .func (PySem.W.fnOf "is_brought" "is_brought" (defArgs st_is_brought) (defBody st_is_brought) (defScope st_is_brought) .none kV6 dc6 pm6 an6 cd6 ct6), sl6⟩) (c6 : PySem.W.codeIn K cd6 "is_brought" = true) (k6 : PySem.W.keepIn K (.ref f6) = true)
    {od7 an7 : Option Addr} {sl7 : Array (Option Value)} {oc7 kV7 dc7 pm7 cd7 ct7 : Value}
    (a7 : PySem.W.nsIn K mainGlobals "deal_and_paper" = some (some (.ref f7))) (l7 : K.lookup f7 = some ⟨oc7, od7, .func (PySem.W.fnOf "deal_and_paper" "deal_and_paper" (defArgs st_deal_and_paper) (defBody st_deal_and_paper) (defScope st_deal_and_paper) .none kV7 dc7 pm7 an7 cd7 ct7), sl7⟩) (c7 : PySem.W.codeIn K cd7 "deal_and_paper" = true) (k7 : PySem.W.keepIn K (.ref f7) = true)
    {od8 an8 : Option Addr} {sl8 : Array (Option Value)} {oc8 kV8 dc8 pm8 cd8 ct8 : Value}
    (a8 : PySem.W.nsIn K mainGlobals "deal_of" = some (some (.ref f8))) (l8 : K.lookup f8 = some ⟨oc8, od8, .func (PySem.W.fnOf "deal_of" "deal_of" (defArgs st_deal_of) (defBody st_deal_of) (defScope st_deal_of) .none kV8 dc8 pm8 an8 cd8 ct8), sl8⟩) (c8 : PySem.W.codeIn K cd8 "deal_of" = true) (k8 : PySem.W.keepIn K (.ref f8) = true)
    {od9 an9 : Option Addr} {sl9 : Array (Option Value)} {oc9 kV9 dc9 pm9 cd9 ct9 : Value}
    (a9 : PySem.W.nsIn K mainGlobals "why_none" = some (some (.ref f9))) (l9 : K.lookup f9 = some ⟨oc9, od9, .func (PySem.W.fnOf "why_none" "why_none" (defArgs st_why_none) (defBody st_why_none) (defScope st_why_none) .none kV9 dc9 pm9 an9 cd9 ct9), sl9⟩) (c9 : PySem.W.codeIn K cd9 "why_none" = true) (k9 : PySem.W.keepIn K (.ref f9) = true)
    {od10 an10 : Option Addr} {sl10 : Array (Option Value)} {oc10 kV10 dc10 pm10 cd10 ct10 : Value}
    (a10 : PySem.W.nsIn K mainGlobals "_law_plain" = some (some (.ref f10))) (l10 : K.lookup f10 = some ⟨oc10, od10, .func (PySem.W.fnOf "_law_plain" "_law_plain" (defArgs st__law_plain) (defBody st__law_plain) (defScope st__law_plain) .none kV10 dc10 pm10 an10 cd10 ct10), sl10⟩) (c10 : PySem.W.codeIn K cd10 "_law_plain" = true) (k10 : PySem.W.keepIn K (.ref f10) = true)
    {od11 an11 : Option Addr} {sl11 : Array (Option Value)} {oc11 kV11 dc11 pm11 cd11 ct11 : Value}
    (a11 : PySem.W.nsIn K mainGlobals "_law_rising" = some (some (.ref f11))) (l11 : K.lookup f11 = some ⟨oc11, od11, .func (PySem.W.fnOf "_law_rising" "_law_rising" (defArgs st__law_rising) (defBody st__law_rising) (defScope st__law_rising) .none kV11 dc11 pm11 an11 cd11 ct11), sl11⟩) (c11 : PySem.W.codeIn K cd11 "_law_rising" = true) (k11 : PySem.W.keepIn K (.ref f11) = true)
    {od12 an12 : Option Addr} {sl12 : Array (Option Value)} {oc12 kV12 dc12 pm12 cd12 ct12 : Value}
    (a12 : PySem.W.nsIn K mainGlobals "_law_is_paper" = some (some (.ref f12))) (l12 : K.lookup f12 = some ⟨oc12, od12, .func (PySem.W.fnOf "_law_is_paper" "_law_is_paper" (defArgs st__law_is_paper) (defBody st__law_is_paper) (defScope st__law_is_paper) .none kV12 dc12 pm12 an12 cd12 ct12), sl12⟩) (c12 : PySem.W.codeIn K cd12 "_law_is_paper" = true) (k12 : PySem.W.keepIn K (.ref f12) = true)
    {od13 an13 : Option Addr} {sl13 : Array (Option Value)} {oc13 kV13 dc13 pm13 cd13 ct13 : Value}
    (a13 : PySem.W.nsIn K mainGlobals "_law_is_deal" = some (some (.ref f13))) (l13 : K.lookup f13 = some ⟨oc13, od13, .func (PySem.W.fnOf "_law_is_deal" "_law_is_deal" (defArgs st__law_is_deal) (defBody st__law_is_deal) (defScope st__law_is_deal) .none kV13 dc13 pm13 an13 cd13 ct13), sl13⟩) (c13 : PySem.W.codeIn K cd13 "_law_is_deal" = true) (k13 : PySem.W.keepIn K (.ref f13) = true)
    {od14 an14 : Option Addr} {sl14 : Array (Option Value)} {oc14 kV14 dc14 pm14 cd14 ct14 : Value}
    (a14 : PySem.W.nsIn K mainGlobals "_law_told" = some (some (.ref f14))) (l14 : K.lookup f14 = some ⟨oc14, od14, .func (PySem.W.fnOf "_law_told" "_law_told" (defArgs st__law_told) (defBody st__law_told) (defScope st__law_told) .none kV14 dc14 pm14 an14 cd14 ct14), sl14⟩) (c14 : PySem.W.codeIn K cd14 "_law_told" = true) (k14 : PySem.W.keepIn K (.ref f14) = true)
    {od15 an15 : Option Addr} {sl15 : Array (Option Value)} {oc15 kV15 dc15 pm15 cd15 ct15 : Value}
    (a15 : PySem.W.nsIn K mainGlobals "law" = some (some (.ref f15))) (l15 : K.lookup f15 = some ⟨oc15, od15, .func (PySem.W.fnOf "law" "law" (defArgs st_law) (defBody st_law) (defScope st_law) .none kV15 dc15 pm15 an15 cd15 ct15), sl15⟩) (c15 : PySem.W.codeIn K cd15 "law" = true) (k15 : PySem.W.keepIn K (.ref f15) = true)
    (z0 : PySem.W.nsIn K mainGlobals "len" = some none)
    (z1 : PySem.W.nsIn K mainGlobals "range" = some none)
    (z2 : PySem.W.nsIn K mainGlobals "zip" = some none)
    (z3 : PySem.W.nsIn K mainGlobals "enumerate" = some none)
    (z4 : PySem.W.nsIn K mainGlobals "list" = some none)
    (z5 : PySem.W.nsIn K mainGlobals "tuple" = some none)
    (z6 : PySem.W.nsIn K mainGlobals "isinstance" = some none)
    (z7 : PySem.W.nsIn K mainGlobals "int" = some none)
    (z8 : PySem.W.nsIn K mainGlobals "bool" = some none)
    (z9 : PySem.W.nsIn K mainGlobals "str" = some none)
    (z10 : PySem.W.nsIn K mainGlobals "abs" = some none)
    (z11 : PySem.W.nsIn K mainGlobals "min" = some none)
    (z12 : PySem.W.nsIn K mainGlobals "max" = some none)
    (z13 : PySem.W.nsIn K mainGlobals "sum" = some none)
    (z14 : PySem.W.nsIn K mainGlobals "all" = some none)
    (z15 : PySem.W.nsIn K mainGlobals "any" = some none)
    (z16 : PySem.W.nsIn K mainGlobals "sorted" = some none)
    (z17 : PySem.W.nsIn K mainGlobals "divmod" = some none)
    (z18 : PySem.W.nsIn K mainGlobals "set" = some none)
    : ∃ fd : FuncData, (∀ (s : Shared) (v : Value), BindsTo s fd ⟨[v], []⟩ [("script", v)]) ∧ ∀ base : Heap, K.In base → base.Ns mainGlobals mg → FnOk P w K mg base CX0 14 fa fd ["script"] (spD K s_law_k31) := by
  have e := hfa.symm.trans (PySem.W.mg_of X G a15)
  cases e
  have B : Bl mg := ⟨PySem.W.mg_none_of X G z0, PySem.W.mg_none_of X G z1, PySem.W.mg_none_of X G z2, PySem.W.mg_none_of X G z3, PySem.W.mg_none_of X G z4, PySem.W.mg_none_of X G z5, PySem.W.mg_none_of X G z6, PySem.W.mg_none_of X G z7, PySem.W.mg_none_of X G z8, PySem.W.mg_none_of X G z9, PySem.W.mg_none_of X G z10, PySem.W.mg_none_of X G z11, PySem.W.mg_none_of X G z12, PySem.W.mg_none_of X G z13, PySem.W.mg_none_of X G z14, PySem.W.mg_none_of X G z15, PySem.W.mg_none_of X G z16, PySem.W.mg_none_of X G z17, PySem.W.mg_none_of X G z18⟩
  have F0 := fun_mk (st := st__law_cell_at) l0 c0 k0
  have F1 := fun_mk (st := st__law_turned) l1 c1 k1
  have F2 := fun_mk (st := st__law_picked) l2 c2 k2
  have F3 := fun_mk (st := st__law_case) l3 c3 k3
  have F4 := fun_mk (st := st_has_room) l4 c4 k4
  have F5 := fun_mk (st := st_is_seated) l5 c5 k5
  have F6 := fun_mk (st := st_is_brought) l6 c6 k6
  have F7 := fun_mk (st := st_deal_and_paper) l7 c7 k7
  have F8 := fun_mk (st := st_deal_of) l8 c8 k8
  have F9 := fun_mk (st := st_why_none) l9 c9 k9
  have F10 := fun_mk (st := st__law_plain) l10 c10 k10
  have F11 := fun_mk (st := st__law_rising) l11 c11 k11
  have F12 := fun_mk (st := st__law_is_paper) l12 c12 k12
  have F13 := fun_mk (st := st__law_is_deal) l13 c13 k13
  have F14 := fun_mk (st := st__law_told) l14 c14 k14
  have F15 := fun_mk (st := st_law) l15 c15 k15
  refine ⟨PySem.W.fnOf "law" "law" (defArgs st_law) (defBody st_law) (defScope st_law) .none kV15 dc15 pm15 an15 cd15 ct15, fun s v => .of_eq rfl, fun base _ _ => ?_⟩
  have o__law_cell_at := ok__law_cell_at (P := P) (w := w) (base := base) F0 (PySem.W.mg_of X G a0) B
  have o__law_turned := ok__law_turned (P := P) (w := w) (base := base) F1 (PySem.W.mg_of X G a1) B
  have o__law_picked := ok__law_picked (P := P) (w := w) (base := base) F2 (PySem.W.mg_of X G a2) B o__law_turned
  have o__law_case := ok__law_case (P := P) (w := w) (base := base) F3 (PySem.W.mg_of X G a3) B o__law_picked
  have o_has_room := ok_has_room (P := P) (w := w) (base := base) F4 (PySem.W.mg_of X G a4) B
  have o_is_seated := ok_is_seated (P := P) (w := w) (base := base) F5 (PySem.W.mg_of X G a5) B o_has_room 8
  have o_is_brought := ok_is_brought (P := P) (w := w) (base := base) F6 (PySem.W.mg_of X G a6) B 8
  have o_deal_and_paper : Cal P w K mg base 11 "deal_and_paper" ["counts", "may", "must"] (spD K s_deal_and_paper) := ⟨_, _, ok_deal_and_paper F7 (PySem.W.mg_of X G a7) B o_is_seated (PySem.W.mg_of X G a5) F5.kp (F5.binds (ps := ["counts", "may", "deal", "asker", "seen"]) (fun _ _ _ _ _ _ us hl => match us, hl with | [_, _, _, _, _], _ => rfl)) o_is_brought (PySem.W.mg_of X G a6) F6.kp (F6.binds (ps := ["may", "must", "deal", "thing", "seen"]) (fun _ _ _ _ _ _ us hl => match us, hl with | [_, _, _, _, _], _ => rfl)), (PySem.W.mg_of X G a7), F7.kp, F7.binds (fun _ _ _ _ _ _ us hl => match us, hl with | [_, _, _], _ => rfl)⟩
  have o_deal_of := ok_deal_of (P := P) (w := w) (base := base) F8 (PySem.W.mg_of X G a8) B o_deal_and_paper
  have o_why_none := ok_why_none (P := P) (w := w) (base := base) F9 (PySem.W.mg_of X G a9) B o_deal_and_paper
  have o__law_plain := ok__law_plain (P := P) (w := w) (base := base) F10 (PySem.W.mg_of X G a10) B
  have o__law_rising := ok__law_rising (P := P) (w := w) (base := base) F11 (PySem.W.mg_of X G a11) B
  have o__law_is_paper := ok__law_is_paper (P := P) (w := w) (base := base) F12 (PySem.W.mg_of X G a12) B o__law_plain o__law_rising
  have o__law_is_deal := ok__law_is_deal (P := P) (w := w) (base := base) F13 (PySem.W.mg_of X G a13) B o__law_plain
  have o__law_told := ok__law_told (P := P) (w := w) (base := base) F14 (PySem.W.mg_of X G a14) B o_deal_of o_why_none o__law_is_paper o__law_is_deal
  exact okf_law F15 B o__law_cell_at o__law_case o__law_told
theorem tr_script {K : PySem.W.Frag} {H : Hp} {a : Addr} {ns : List Int} (h : SqL K H a (ns.map V.int)) : ∃ A, Tr K true H (.ref a) (intL ns) A := by
  rcases h with h | h
  · exact ⟨_, .lst h (TrA.ints ns)⟩
  · exact ⟨_, .kls rfl h (TrA.ints ns)⟩
theorem sp_script {K : PySem.W.Frag} {H : Hp} {E : XK} {a : Addr} {ns : List Int} (h : SqL K H a (ns.map V.int)) : spD K s_law_k31 [.ref a] H (fun v _ => v = .bl true) E := by
  obtain ⟨A, t⟩ := tr_script h
  exact ⟨[intL ns], _, .bool true, .cons t .nil, law_k31 ns, fun v H' B _ t _ => by cases t; rfl⟩
end PV.R_k31
open PySem PySem.W PyProof.Rows
set_option maxHeartbeats 0 in
theorem PySem.Challenge.cw_lotmeal_k31_whole_deal_or_paper_holds : PySem.Challenge.rw_lotmeal_k31_whole_deal_or_paper.Holds := by
  w_on; o_law; k_head; (case hw => w_witness2)
  k_fill
  refine L2.walk_of (l := PySem.Challenge.rw_lotmeal_k31_whole_deal_or_paper) (n := 63) (k := 14) (x := "script") (CX := fun _ => L2.CX0) (sp := fun w => PV.spD _ PV.s_law_k31) rfl (by decide) rfl ⟨rfl, by decide, by decide⟩ (fun w h Y => PySem.W.kIn_of Y) ?F (fun _ _ a ns hl _ hS => PV.R_k31.sp_script hS) (fun _ _ _ _ _ h => h)
  case F =>
    intro w mg fa h KX G hmg
    refine' PV.R_k31.all_mk KX G hmg ?a0 ?l0 ?c0 ?k0 ?a1 ?l1 ?c1 ?k1 ?a2 ?l2 ?c2 ?k2 ?a3 ?l3 ?c3 ?k3 ?a4 ?l4 ?c4 ?k4 ?a5 ?l5 ?c5 ?k5 ?a6 ?l6 ?c6 ?k6 ?a7 ?l7 ?c7 ?k7 ?a8 ?l8 ?c8 ?k8 ?a9 ?l9 ?c9 ?k9 ?a10 ?l10 ?c10 ?k10 ?a11 ?l11 ?c11 ?k11 ?a12 ?l12 ?c12 ?k12 ?a13 ?l13 ?c13 ?k13 ?a14 ?l14 ?c14 ?k14 ?a15 ?l15 ?c15 ?k15 ?z0 ?z1 ?z2 ?z3 ?z4 ?z5 ?z6 ?z7 ?z8 ?z9 ?z10 ?z11 ?z12 ?z13 ?z14 ?z15 ?z16 ?z17 ?z18
    (case a0 => k_is); (case l0 => k_is); (case c0 => k_is); (case k0 => k_is); (case a1 => k_is); (case l1 => k_is); (case c1 => k_is); (case k1 => k_is); (case a2 => k_is); (case l2 => k_is); (case c2 => k_is); (case k2 => k_is); (case a3 => k_is); (case l3 => k_is); (case c3 => k_is); (case k3 => k_is); (case a4 => k_is); (case l4 => k_is); (case c4 => k_is); (case k4 => k_is); (case a5 => k_is); (case l5 => k_is); (case c5 => k_is); (case k5 => k_is); (case a6 => k_is); (case l6 => k_is); (case c6 => k_is); (case k6 => k_is); (case a7 => k_is); (case l7 => k_is); (case c7 => k_is); (case k7 => k_is); (case a8 => k_is); (case l8 => k_is); (case c8 => k_is); (case k8 => k_is); (case a9 => k_is); (case l9 => k_is); (case c9 => k_is); (case k9 => k_is); (case a10 => k_is); (case l10 => k_is); (case c10 => k_is); (case k10 => k_is); (case a11 => k_is); (case l11 => k_is); (case c11 => k_is); (case k11 => k_is); (case a12 => k_is); (case l12 => k_is); (case c12 => k_is); (case k12 => k_is); (case a13 => k_is); (case l13 => k_is); (case c13 => k_is); (case k13 => k_is); (case a14 => k_is); (case l14 => k_is); (case c14 => k_is); (case k14 => k_is); (case a15 => k_is); (case l15 => k_is); (case c15 => k_is); (case k15 => k_is); (case z0 => k_is); (case z1 => k_is); (case z2 => k_is); (case z3 => k_is); (case z4 => k_is); (case z5 => k_is); (case z6 => k_is); (case z7 => k_is); (case z8 => k_is); (case z9 => k_is); (case z10 => k_is); (case z11 => k_is); (case z12 => k_is); (case z13 => k_is); (case z14 => k_is); (case z15 => k_is); (case z16 => k_is); (case z17 => k_is); (case z18 => k_is)
