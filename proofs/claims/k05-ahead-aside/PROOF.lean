import PyProof.Rows.All
import Wide.All
import OpenK.AllK
import Wide.FinOn
import HandS.ForMost
import HandS.Wide
import HandS.IsInst
import HandS.Zip
import HandS.TupAny
import HandS.Style
import HandS.Flow
import HandS.CallLocal
import HandS.Defaults
import HandS.Deep
import HandS.RaiseMore
import HandS.HeadEnd
import HandS.HeadHook1
import HandS.HeadHook2
import HandS.HeadHook4
import HandS.EndBits
import HandS.Head0
import HandS.Head1
import HandS.Head2
import HandS.Words
import HandS.WordsExc
import PySem.Challenge.RW_towerfires_k05_ahead_aside_in_the_box
set_option Elab.async false
set_option linter.all false
set_option maxRecDepth 1000000
set_option maxHeartbeats 0
/-! Ev: an evaluator over plain data, and its soundness over HandS's judgements. -/
namespace Ev
open PySem PySem.Spec PyProof.Rows L2

/-- data: tuples by value, lists and dicts by their number in the store -/
inductive D where
  | non | bl (b : Bool) | int (i : Int) | str (x : Str) | tup (ds : List D) | ref (n : Nat) | fn (i : Nat)
/-- a mutable object; fro: the script (read alone) -/
inductive Cell where
  | lst (ds : List D)
  | fro (ds : List D)
  | dic (kvs : List (Key × D))
abbrev Store := List Cell
inductive Res (α : Type) where
  | ok (a : α) (S : Store)
  | exc (c : Nat) (a : Option D) (S : Store)
  | bad
/-- what runs: from a store -/
def M (α : Type) := Store → Res α
def M.ret {α : Type} (a : α) : M α := fun S => .ok a S
def M.bnd {α β : Type} (m : M α) (f : α → M β) : M β := fun S => match m S with
  | .ok a S' => f a S'
  | .exc c a S' => .exc c a S'
  | .bad => .bad
instance : Monad M where
  pure := M.ret
  bind := M.bnd
def M.fail {α : Type} : M α := fun _ => .bad

/-- the world of a law: what is written, where the program's functions stand, its exceptions -/
structure Wd where
  K : PySem.W.Frag
  G : Nat → Option Addr
  XC : Nat → Option Addr

mutual
inductive RD (W : Wd) (H : Hp) (α : List Addr) : D → V → Prop
  | non : RD W H α .non .non
  | bl (b : Bool) : RD W H α (.bl b) (.bl b)
  | int (i : Int) : RD W H α (.int i) (.int i)
  | str (x : Str) : RD W H α (.str x) (.str x)
  | tup {a : Addr} {xs : List V} {ds : List D} : SqT W.K H a xs → RDs W H α ds xs → RD W H α (.tup ds) (.ref a)
  | ref {n : Nat} {a : Addr} : α[n]? = some a → RD W H α (.ref n) (.ref a)
  | fn {i : Nat} {a : Addr} : W.G i = some a → RD W H α (.fn i) (.ref a)
inductive RDs (W : Wd) (H : Hp) (α : List Addr) : List D → List V → Prop
  | nil : RDs W H α [] []
  | cons {d : D} {ds : List D} {v : V} {vs : List V} : RD W H α d v → RDs W H α ds vs → RDs W H α (d :: ds) (v :: vs)
end
inductive RKs (W : Wd) (H : Hp) (α : List Addr) : List (Key × D) → List (Key × V) → Prop
  | nil : RKs W H α [] []
  | cons {k : Key} {d : D} {ds : List (Key × D)} {v : V} {vs : List (Key × V)} : RD W H α d v → RKs W H α ds vs → RKs W H α ((k, d) :: ds) ((k, v) :: vs)

/-- the cell stands at a -/
inductive RC (W : Wd) (H : Hp) (α : List Addr) (a : Addr) : Cell → Prop
  | lst {ds : List D} {xs : List V} : H a = some (.lst xs) → RDs W H α ds xs → RC W H α a (.lst ds)
  | fro {ds : List D} {xs : List V} : (∃ o, H a = some (.frz o (.lst xs))) → RDs W H α ds xs → RC W H α a (.fro ds)
  | dic {ds : List (Key × D)} {xs : List (Key × V)} : H a = some (.dK xs) → RKs W H α ds xs → RC W H α a (.dic ds)

/-- the store is held -/
structure StOk (W : Wd) (H : Hp) (α : List Addr) (S : Store) : Prop where
  len : α.length = S.length
  nd : ∀ (n m : Nat) (a : Addr), α[n]? = some a → α[m]? = some a → n = m
  at_ : ∀ (n : Nat) (c : Cell) (a : Addr), S[n]? = some c → α[n]? = some a → RC W H α a c

/-- from a state to a later one -/
structure Step (W : Wd) (H : Hp) (α : List Addr) (H' : Hp) (α' : List Addr) : Prop where
  pre : ∃ β, α' = α ++ β ∧ ∀ b ∈ β, H b = none
  keep : ∀ a o, H a = some o → a ∉ α → H' a = some o
  live : ∀ a o, H a = some o → H' a ≠ none
  tups : ∀ a xs, SqT W.K H a xs → SqT W.K H' a xs

section
variable {W : Wd} {H H1 H2 : Hp} {α α1 α2 : List Addr} {S S1 : Store} {d : D} {v : V} {ds : List D} {vs : List V}
theorem Step.refl : Step W H α H α :=
  { pre := ⟨[], by simp, fun _ h => nomatch h⟩, keep := fun _ _ e _ => e, live := fun _ _ e z => by (rw [e] at z; cases z), tups := fun _ _ e => e }
theorem Step.trans (s : Step W H α H1 α1) (t : Step W H1 α1 H2 α2) : Step W H α H2 α2 := by
  obtain ⟨β, e, f⟩ := s.pre
  obtain ⟨γ, e2, g⟩ := t.pre
  have key : ∀ b, b ∉ α → ∀ o, H b = some o → b ∉ α1 := fun b hb o ho hm => by
    rw [e] at hm
    rcases List.mem_append.mp hm with z | z
    · exact hb z
    · have q := f b z
      rw [ho] at q
      cases q
  refine ⟨⟨β ++ γ, by rw [e2, e, List.append_assoc], fun b hb => ?_⟩, fun a o h n => t.keep a o (s.keep a o h n) (key a n o h), fun a o h z => ?_, fun a xs h => t.tups a xs (s.tups a xs h)⟩
  · rcases List.mem_append.mp hb with z | z
    · exact f b z
    · cases q : H b with
      | none => rfl
      | some o => exact absurd (g b z) (s.live b o q)
  · cases q : H1 a with
    | none => exact s.live a o h q
    | some u => exact t.live a u q z
theorem Step.at_ (s : Step W H α H1 α1) {n : Nat} {a : Addr} (h : α[n]? = some a) : α1[n]? = some a := by
  obtain ⟨β, e, _⟩ := s.pre
  rw [e, List.getElem?_append_left (List.getElem?_eq_some_iff.mp h).1]
  exact h
mutual
theorem RD.mono (s : Step W H α H1 α1) : ∀ {d : D} {v : V}, RD W H α d v → RD W H1 α1 d v
  | _, _, .non => .non
  | _, _, .bl b => .bl b
  | _, _, .int i => .int i
  | _, _, .str x => .str x
  | _, _, .tup h r => .tup (s.tups _ _ h) (RDs.mono s r)
  | _, _, .ref h => .ref (s.at_ h)
  | _, _, .fn h => .fn h
theorem RDs.mono (s : Step W H α H1 α1) : ∀ {ds : List D} {vs : List V}, RDs W H α ds vs → RDs W H1 α1 ds vs
  | _, _, .nil => .nil
  | _, _, .cons a b => .cons (RD.mono s a) (RDs.mono s b)
end
theorem RKs.mono (s : Step W H α H1 α1) : ∀ {ds : List (Key × D)} {vs : List (Key × V)}, RKs W H α ds vs → RKs W H1 α1 ds vs
  | _, _, .nil => .nil
  | _, _, .cons a b => .cons (a.mono s) (RKs.mono s b)
theorem RDs.length : ∀ {ds : List D} {vs : List V}, RDs W H α ds vs → ds.length = vs.length
  | _, _, .nil => rfl
  | _, _, .cons _ b => by rw [List.length_cons, List.length_cons, RDs.length b]
theorem RDs.get : ∀ {ds : List D} {vs : List V} {i : Nat} {d : D}, RDs W H α ds vs → ds[i]? = some d → ∃ v, vs[i]? = some v ∧ RD W H α d v
  | _, _, 0, _, .cons a _, e => by simp at e; subst e; exact ⟨_, rfl, a⟩
  | _, _, i + 1, d, .cons _ b, e => by
    obtain ⟨v, h1, h2⟩ := RDs.get (i := i) (d := d) b (by simpa using e)
    exact ⟨v, by simpa using h1, h2⟩
theorem RDs.getV : ∀ {ds : List D} {vs : List V} {i : Nat} {v : V}, RDs W H α ds vs → vs[i]? = some v → ∃ d, ds[i]? = some d ∧ RD W H α d v
  | _, _, 0, _, .cons a _, e => by simp at e; subst e; exact ⟨_, rfl, a⟩
  | _, _, i + 1, v, .cons _ b, e => by
    obtain ⟨d, h1, h2⟩ := RDs.getV (i := i) (v := v) b (by simpa using e)
    exact ⟨d, by simpa using h1, h2⟩
theorem RDs.append : ∀ {as bs : List D} {vs us : List V}, RDs W H α as vs → RDs W H α bs us → RDs W H α (as ++ bs) (vs ++ us)
  | _, _, _, _, .nil, s => s
  | _, _, _, _, .cons r t, s => .cons r (RDs.append t s)
theorem RDs.take : ∀ {ds : List D} {vs : List V} (n : Nat), RDs W H α ds vs → RDs W H α (ds.take n) (vs.take n)
  | _, _, 0, _ => .nil
  | _, _, _ + 1, .nil => .nil
  | _, _, n + 1, .cons r t => .cons r (RDs.take n t)
theorem RDs.drop : ∀ {ds : List D} {vs : List V} (n : Nat), RDs W H α ds vs → RDs W H α (ds.drop n) (vs.drop n)
  | _, _, 0, r => r
  | _, _, _ + 1, .nil => .nil
  | _, _, n + 1, .cons _ t => RDs.drop n t
theorem RDs.set (r : RD W H α d v) : ∀ {ds : List D} {vs : List V} (i : Nat), RDs W H α ds vs → RDs W H α (ds.set i d) (vs.set i v)
  | _, _, _, .nil => .nil
  | _, _, 0, .cons _ t => .cons r t
  | _, _, i + 1, .cons q t => .cons q (RDs.set r i t)
theorem RDs.dropLast : ∀ {ds : List D} {vs : List V}, RDs W H α ds vs → RDs W H α ds.dropLast vs.dropLast
  | _, _, .nil => .nil
  | _, _, .cons _ .nil => .nil
  | _, _, .cons a (.cons b c) => .cons a (RDs.dropLast (.cons b c))
theorem RDs.eraseIdx : ∀ {ds : List D} {vs : List V} (i : Nat), RDs W H α ds vs → RDs W H α (ds.eraseIdx i) (vs.eraseIdx i)
  | _, _, _, .nil => .nil
  | _, _, 0, .cons _ t => t
  | _, _, i + 1, .cons q t => .cons q (RDs.eraseIdx i t)
theorem RDs.reverse : ∀ {ds : List D} {vs : List V}, RDs W H α ds vs → RDs W H α ds.reverse vs.reverse
  | _, _, .nil => .nil
  | _, _, .cons a b => by
    rw [List.reverse_cons, List.reverse_cons]
    exact (RDs.reverse b).append (.cons a .nil)
theorem RC.live {a : Addr} {c : Cell} (h : RC W H α a c) : H a ≠ none := by
  cases h with
  | lst e r => rw [e]; intro z; cases z
  | fro e r => obtain ⟨o, e⟩ := e; rw [e]; intro z; cases z
  | dic e r => rw [e]; intro z; cases z
theorem RC.mono (s : Step W H α H1 α1) {a : Addr} {c : Cell} (h : RC W H α a c) (k2 : H a ≠ none → H1 a = H a) : RC W H1 α1 a c := by
  have k2 := k2 h.live
  cases h with
  | lst e r => exact .lst (by rw [k2]; exact e) (r.mono s)
  | fro e r =>
    obtain ⟨o, e⟩ := e
    exact .fro ⟨o, by rw [k2]; exact e⟩ (r.mono s)
  | dic e r => exact .dic (by rw [k2]; exact e) (r.mono s)
theorem RC.sql {a : Addr} {ds : List D} (h : RC W H α a (.lst ds) ∨ RC W H α a (.fro ds)) : ∃ xs, SqL W.K H a xs ∧ RDs W H α ds xs := by
  rcases h with h | h
  · cases h with
    | lst e r => exact ⟨_, .inl (.inl e), r⟩
  · cases h with
    | fro e r => exact ⟨_, .inl (.inr e), r⟩
theorem StOk.ex (h : StOk W H α S) {n : Nat} {c : Cell} (e : S[n]? = some c) : ∃ a, α[n]? = some a ∧ RC W H α a c := by
  have hn : n < α.length := by rw [h.len]; exact (List.getElem?_eq_some_iff.mp e).1
  exact ⟨α[n], List.getElem?_eq_getElem hn, h.at_ n c _ e (List.getElem?_eq_getElem hn)⟩
theorem StOk.cell (h : StOk W H α S) {n : Nat} {a : Addr} (e : α[n]? = some a) : ∃ c, S[n]? = some c ∧ RC W H α a c := by
  have hn : n < S.length := by rw [← h.len]; exact (List.getElem?_eq_some_iff.mp e).1
  exact ⟨S[n], List.getElem?_eq_getElem hn, h.at_ n _ a (List.getElem?_eq_getElem hn) e⟩
theorem StOk.fresh_ne (h : StOk W H α S) {p : Addr} (hp : H p = none) : p ∉ α := fun hm => by
  obtain ⟨n, hn⟩ := List.mem_iff_getElem?.mp hm
  obtain ⟨c, _, h2⟩ := h.cell hn
  exact h2.live hp
/-- SqT under an update at a place that holds no tuple -/
theorem sqT_upd {K : PySem.W.Frag} {p : Addr} {o : HO} (hn : ∀ xs, H p ≠ some (.tup xs)) (hf : ∀ ob xs, H p ≠ some (.frz ob (.tup xs))) {a : Addr} {xs : List V} (h : SqT K H a xs) : SqT K (upd H p o) a xs := by
  rcases h with h | h
  · left
    rcases h with h | ⟨ob, h⟩
    · exact .inl (by rw [upd_ne (fun e => hn xs (by rw [← e]; exact h))]; exact h)
    · exact .inr ⟨ob, by rw [upd_ne (fun e => hf ob xs (by rw [← e]; exact h))]; exact h⟩
  · exact .inr h
/-- a new thing at p that the store does not number -/
theorem Step.fresh {p : Addr} {o : HO} (hp : H p = none) : Step W H α (upd H p o) α :=
  { pre := ⟨[], by simp, fun _ h => nomatch h⟩
    keep := fun a u e _ => by rw [upd_ne (ne_of_none e hp)]; exact e
    live := fun a u e z => by rw [upd_ne (ne_of_none e hp), e] at z; cases z
    tups := fun a xs h => sqT_upd (fun _ e => by rw [hp] at e; cases e) (fun _ _ e => by rw [hp] at e; cases e) h }
/-- .. and that it does -/
theorem Step.alloc {p : Addr} {o : HO} (hp : H p = none) : Step W H α (upd H p o) (α ++ [p]) :=
  { pre := ⟨[p], rfl, fun b h => by rw [List.mem_singleton.mp h]; exact hp⟩
    keep := fun a u e _ => by rw [upd_ne (ne_of_none e hp)]; exact e
    live := fun a u e z => by rw [upd_ne (ne_of_none e hp), e] at z; cases z
    tups := fun a xs h => sqT_upd (fun _ e => by rw [hp] at e; cases e) (fun _ _ e => by rw [hp] at e; cases e) h }
theorem upd_fresh {p a : Addr} {o : HO} (hp : H p = none) (h : H a ≠ none) : upd H p o a = H a := upd_ne fun e => h (by rw [e]; exact hp)
theorem StOk.fresh {p : Addr} {o : HO} (st : StOk W H α S) (hp : H p = none) : StOk W (upd H p o) α S :=
  ⟨st.len, st.nd, fun n c a e1 e2 => (st.at_ n c a e1 e2).mono (Step.fresh hp) (upd_fresh hp)⟩
theorem StOk.alloc {p : Addr} {o : HO} {c : Cell} (st : StOk W H α S) (hp : H p = none) (hc : RC W (upd H p o) (α ++ [p]) p c) : StOk W (upd H p o) (α ++ [p]) (S ++ [c]) := by
  have old : ∀ {n : Nat} {a : Addr}, (α ++ [p])[n]? = some a → (n < S.length ∧ α[n]? = some a) ∨ (n = S.length ∧ a = p) := fun {n a} e => by
    by_cases hn : n < S.length
    · rw [List.getElem?_append_left (by rw [st.len]; exact hn)] at e
      exact .inl ⟨hn, e⟩
    · have h1 := (List.getElem?_eq_some_iff.mp e).1
      rw [List.length_append, List.length_singleton, st.len] at h1
      have e2 : n = S.length := by omega
      subst e2
      rw [← st.len] at e
      exact .inr ⟨rfl, by have q : p = a := by simpa using e
                          exact q.symm⟩
  refine ⟨by simp [st.len], fun n m a e1 e2 => ?_, fun n c' a e1 e2 => ?_⟩
  · rcases old e1 with ⟨n1, n2⟩ | ⟨n1, n2⟩
    · rcases old e2 with ⟨m1, m2⟩ | ⟨m1, m2⟩
      · exact st.nd n m a n2 m2
      · subst m2
        exact absurd (List.mem_iff_getElem?.mpr ⟨n, n2⟩) (st.fresh_ne hp)
    · rcases old e2 with ⟨m1, m2⟩ | ⟨m1, m2⟩
      · subst n2
        exact absurd (List.mem_iff_getElem?.mpr ⟨m, m2⟩) (st.fresh_ne hp)
      · exact n1.trans m1.symm
  · rcases old e2 with ⟨n1, n2⟩ | ⟨n1, n2⟩
    · rw [List.getElem?_append_left n1] at e1
      exact (st.at_ n c' a e1 n2).mono (Step.alloc hp) (upd_fresh hp)
    · subst n1 n2
      have q1 : c = c' := by simpa using e1
      subst q1
      exact hc
/-- a list of the store is written -/
theorem Step.write {a : Addr} {xs ys : List V} (ha : a ∈ α) (e : H a = some (.lst xs)) : Step W H α (upd H a (.lst ys)) α :=
  { pre := ⟨[], by simp, fun _ h => nomatch h⟩
    keep := fun b u q n => by rw [upd_ne (fun z => n (by rw [z]; exact ha))]; exact q
    live := fun b u q z => by
      by_cases hb : b = a
      · rw [hb, upd_same] at z; cases z
      · rw [upd_ne hb, q] at z; cases z
    tups := fun b zs h => sqT_upd (fun _ q => by rw [e] at q; cases q) (fun _ _ q => by rw [e] at q; cases q) h }
theorem StOk.write {n : Nat} {a : Addr} {xs ys : List V} {ds es : List D} (st : StOk W H α S) (hn : α[n]? = some a) (hS : S[n]? = some (.lst ds)) (e : H a = some (.lst xs)) (r : RDs W H α es ys) :
    StOk W (upd H a (.lst ys)) α (S.set n (.lst es)) := by
  have ha : a ∈ α := List.mem_iff_getElem?.mpr ⟨n, hn⟩
  have sp := Step.write (W := W) (ys := ys) ha e
  have hl : n < S.length := (List.getElem?_eq_some_iff.mp hS).1
  have at2 : ∀ {m : Nat} {c : Cell}, (S.set n (.lst es))[m]? = some c → (m = n ∧ c = .lst es) ∨ (m ≠ n ∧ S[m]? = some c) := fun {m c} q => by
    by_cases hm : n = m
    · subst hm
      rw [List.getElem?_set_self hl] at q
      exact .inl ⟨rfl, (Option.some.inj q).symm⟩
    · rw [List.getElem?_set_ne hm] at q
      exact .inr ⟨fun z => hm z.symm, q⟩
  refine ⟨by simp [st.len], st.nd, fun m c b e1 e2 => ?_⟩
  rcases at2 e1 with ⟨rfl, rfl⟩ | ⟨hm, q⟩
  · have eb : b = a := by rw [hn] at e2; exact (Option.some.inj e2).symm
    rw [eb]
    exact .lst upd_same (r.mono sp)
  · have hb : b ≠ a := fun z => by
      subst z
      exact hm (st.nd m n b e2 hn)
    exact (st.at_ m c b q e2).mono sp fun _ => upd_ne hb
end

/-! ### results -/
/-- the exception class numbered c, its argument -/
def XR (W : Wd) (H : Hp) (α : List Addr) (c : Nat) (a : Option D) (e : Value) (dd : Option Addr) : Prop :=
  ∃ C, W.XC c = some C ∧ e = .ref C ∧ match a with
    | none => dd = none
    | some x => ∃ ad v, dd = some ad ∧ H ad = some (.xd [("number", v)]) ∧ RD W H α x v
def okM {β : Type} (W : Wd) (E : XK) (H : Hp) (α : List Addr) (r : Res β) (Q : β → Store → Hp → List Addr → Prop) : Prop := match r with
  | .ok b S' => ∀ H' α', Step W H α H' α' → StOk W H' α' S' → Q b S' H' α'
  | .exc c a S' => ∀ e dd H' α', Step W H α H' α' → StOk W H' α' S' → XR W H' α' c a e dd → E e dd H'
  | .bad => False
section
variable {W : Wd} {E : XK} {H H1 H2 : Hp} {α α1 α2 : List Addr} {S S1 : Store} {β γ : Type}
theorem okM.mono {r : Res β} {Q Q' : β → Store → Hp → List Addr → Prop} (h : okM W E H α r Q) (k : ∀ b S' H' α', Step W H α H' α' → StOk W H' α' S' → Q b S' H' α' → Q' b S' H' α') : okM W E H α r Q' := by
  cases r with
  | ok b S' => exact fun H' α' s t => k b S' H' α' s t (h H' α' s t)
  | exc c a S' => exact h
  | bad => exact h
theorem okM.bind {m : M β} {f : β → M γ} {Q : γ → Store → Hp → List Addr → Prop} (h : okM W E H α ((m >>= f) S) Q) : okM W E H α (m S) (fun b S1 H1 α1 => okM W E H1 α1 (f b S1) Q) := by
  have e : (m >>= f) S = M.bnd m f S := rfl
  rw [e] at h
  unfold M.bnd at h
  cases hm : m S with
  | ok b S' =>
    rw [hm] at h
    intro H1 α1 s1 t1
    have h' : okM W E H α (f b S') Q := h
    cases hf : f b S' with
    | ok c S2 =>
      rw [hf] at h'
      exact fun H2 α2 s2 t2 => h' H2 α2 (s1.trans s2) t2
    | exc c a S2 =>
      rw [hf] at h'
      exact fun e dd H2 α2 s2 t2 x => h' e dd H2 α2 (s1.trans s2) t2 x
    | bad =>
      rw [hf] at h'
      exact h'
  | exc c a S' => rw [hm] at h; exact h
  | bad => rw [hm] at h; exact h
/-- moved on -/
theorem okM.step {r : Res β} {Q : β → Store → Hp → List Addr → Prop} (h : okM W E H α r Q) (s : Step W H α H1 α1) : okM W E H1 α1 r Q := by
  cases r with
  | ok b S' => exact fun H' α' s' t => h H' α' (s.trans s') t
  | exc c a S' => exact fun e dd H' α' s' t x => h e dd H' α' (s.trans s') t x
  | bad => exact h
theorem okM.ret {b : β} {Q : β → Store → Hp → List Addr → Prop} (t : StOk W H α S) (h : okM W E H α (.ok b S) Q) : Q b S H α := h H α Step.refl t
end

/-! ### the frame -/
abbrev Fr := List (Option D)
structure RE (W : Wd) (H : Hp) (α : List Addr) (env : Fr) (σ : L2.St) : Prop where
  len : env.length = σ.length
  at_ : ∀ (i : Nat) (d : D), env[i]? = some (some d) → ∃ v, σ[i]? = some (some v) ∧ RD W H α d v
section
variable {W : Wd} {H H1 : Hp} {α α1 : List Addr} {env : Fr} {σ : L2.St}
theorem RE.mono (h : RE W H α env σ) (s : Step W H α H1 α1) : RE W H1 α1 env σ :=
  ⟨h.len, fun i d e => let ⟨v, h1, h2⟩ := h.at_ i d e; ⟨v, h1, h2.mono s⟩⟩
theorem RE.set (h : RE W H α env σ) {d : D} {v : V} (r : RD W H α d v) (i : Nat) : RE W H α (env.set i (some d)) (σ.set i (some v)) := by
  refine ⟨by simp [h.len], fun j e hj => ?_⟩
  by_cases hi : i = j
  · subst hi
    by_cases hl : i < env.length
    · rw [List.getElem?_set_self hl] at hj
      have q : d = e := by simpa using hj
      subst q
      exact ⟨v, by rw [List.getElem?_set_self (by rw [← h.len]; exact hl)], r⟩
    · rw [List.getElem?_eq_none (by rw [List.length_set]; omega)] at hj
      cases hj
  · rw [List.getElem?_set_ne hi] at hj
    obtain ⟨u, h1, h2⟩ := h.at_ j e hj
    exact ⟨u, by rw [List.getElem?_set_ne hi]; exact h1, h2⟩
def wipeF (env : Fr) : List Nat → Fr
  | [] => env
  | v :: vs => (wipeF env vs).set v none
theorem RE.unset (h : RE W H α env σ) (i : Nat) : RE W H α (env.set i none) (σ.set i none) := by
  refine ⟨by simp [h.len], fun j e hj => ?_⟩
  by_cases hi : i = j
  · subst hi
    by_cases hl : i < env.length
    · rw [List.getElem?_set_self hl] at hj; cases hj
    · rw [List.getElem?_eq_none (by rw [List.length_set]; omega)] at hj; cases hj
  · rw [List.getElem?_set_ne hi] at hj
    obtain ⟨u, h1, h2⟩ := h.at_ j e hj
    exact ⟨u, by rw [List.getElem?_set_ne hi]; exact h1, h2⟩
theorem RE.wipe (h : RE W H α env σ) : ∀ vs : List Nat, RE W H α (wipeF env vs) (L2.wipe σ vs)
  | [] => h
  | v :: vs => (RE.wipe h vs).unset v
end

/-! ### readings -/
/-- an expression's reading by what it evaluates to -/
def tE (W : Wd) (E : XK) (m : Fr → M D) : TE := fun σ H Q => ∃ env S α, StOk W H α S ∧ RE W H α env σ ∧ okM W E H α (m env S) fun d _ H' α' => ∀ v, RD W H' α' d v → Q v H'
def tT (W : Wd) (E : XK) (m : Fr → M D) : TT := fun σ H Q => ∃ env S α, StOk W H α S ∧ RE W H α env σ ∧ okM W E H α (m env S) fun d _ H' _ => ∃ b, d = .bl b ∧ Q b H'
def tAs (W : Wd) (E : XK) (m : Fr → M (List D)) : TA := fun σ H Q => ∃ env S α, StOk W H α S ∧ RE W H α env σ ∧ okM W E H α (m env S) fun ds _ H' α' => ∀ vs, RDs W H' α' ds vs → Q vs H'
/-- values in, a value out -/
def vR (W : Wd) (E : XK) (f : List D → M D) : List V → Hp → VK → Prop := fun vs H Q => ∃ ds S α, StOk W H α S ∧ RDs W H α ds vs ∧ okM W E H α (f ds S) fun d _ H' α' => ∀ v, RD W H' α' d v → Q v H'
end Ev
namespace Ev
open PySem PySem.Spec PyProof.Rows L2
abbrev wd (X : Cx) (G XC : Nat → Option Addr) : Wd := ⟨X.K, G, XC⟩
abbrev LINE : Nat := 16777216
theorem line_eq : sizeLine = LINE := sizeLine_eq
/-! ### data of the store as plain data -/
def kpy : Key → PyData
  | .inl i => .int i
  | .inr z => .str z
mutual
def py : Nat → Store → D → Option PyData
  | _, _, .non => some .none
  | _, _, .bl b => some (.bool b)
  | _, _, .int i => some (.int i)
  | _, _, .str x => some (.str x)
  | n + 1, S, .tup ds => (pys n S ds).map .tuple
  | n + 1, S, .ref a => match S[a]? with
    | some (.lst ds) => (pys n S ds).map .list
    | some (.fro ds) => (pys n S ds).map .list
    | some (.dic kvs) => (pyk n S kvs).map .dict
    | none => none
  | _, _, _ => none
termination_by n _ _ => (n, 0)
def pys : Nat → Store → List D → Option (List PyData)
  | _, _, [] => some []
  | n, S, d :: ds => match py n S d, pys n S ds with
    | some x, some xs => some (x :: xs)
    | _, _ => none
termination_by n _ ds => (n, ds.length + 1)
def pyk : Nat → Store → List (Key × D) → Option (List (PyData × PyData))
  | _, _, [] => some []
  | n, S, (k, d) :: ds => match py n S d, pyk n S ds with
    | some x, some xs => some ((kpy k, x) :: xs)
    | _, _ => none
termination_by n _ ds => (n, ds.length + 1)
end
theorem py_non (n S) : py n S .non = some .none := by cases n <;> rw [py]
theorem py_bl (n S b) : py n S (.bl b) = some (.bool b) := by cases n <;> rw [py]
theorem py_int (n S i) : py n S (.int i) = some (.int i) := by cases n <;> rw [py]
theorem py_str (n S x) : py n S (.str x) = some (.str x) := by cases n <;> rw [py]
theorem py_fn (n S x) : py n S (.fn x) = none := by cases n <;> (rw [py] <;> simp)
theorem py_tup (n S ds) : py (n+1) S (.tup ds) = (pys n S ds).map .tuple := by rw [py]
theorem py_tup0 (S ds) : py 0 S (.tup ds) = none := by rw [py] <;> simp
theorem py_ref0 (S a) : py 0 S (.ref a) = none := by rw [py] <;> simp
theorem py_ref (n S a) : py (n+1) S (.ref a) = match S[a]? with
    | some (.lst ds) => (pys n S ds).map .list
    | some (.fro ds) => (pys n S ds).map .list
    | some (.dic kvs) => (pyk n S kvs).map .dict
    | none => none := by rw [py]
theorem pys_nil (n S) : pys n S [] = some [] := by rw [pys]
theorem pys_cons (n S d ds) : pys n S (d :: ds) = match py n S d, pys n S ds with
    | some x, some xs => some (x :: xs)
    | _, _ => none := by rw [pys]
theorem pyk_nil (n S) : pyk n S [] = some [] := by rw [pyk]
theorem pyk_cons (n S k d ds) : pyk n S ((k, d) :: ds) = match py n S d, pyk n S ds with
    | some x, some xs => some ((kpy k, x) :: xs)
    | _, _ => none := by rw [pyk]
section
variable {W : Wd} {H : Hp} {α : List Addr} {S : Store}
theorem pys_some {n : Nat} {d : D} {ds : List D} {xs : List PyData} (h : pys n S (d :: ds) = some xs) : ∃ x ys, py n S d = some x ∧ pys n S ds = some ys ∧ xs = x :: ys := by
  rw [pys_cons] at h
  cases e : py n S d with
  | none => rw [e] at h; simp at h
  | some x =>
    cases e2 : pys n S ds with
    | none => rw [e, e2] at h; simp at h
    | some ys =>
      rw [e, e2] at h
      exact ⟨x, ys, rfl, rfl, (by simpa using h.symm)⟩
/-- without dicts: HandS's own -/
theorem dp_of (st : StOk W H α S) : ∀ (n : Nat), (∀ (d : D) (v : V) (x : PyData), py n S d = some x → x.hasDict = false → RD W H α d v → Dp W.K H v x) ∧
    ∀ (ds : List D) (vs : List V) (xs : List PyData), pys n S ds = some xs → PyData.hasDictAll xs = false → RDs W H α ds vs → DpAll W.K H vs xs := by
  intro n
  have all : ∀ n, (∀ (d : D) (v : V) (x : PyData), py n S d = some x → x.hasDict = false → RD W H α d v → Dp W.K H v x) → ∀ (ds : List D) (vs : List V) (xs : List PyData), pys n S ds = some xs → PyData.hasDictAll xs = false → RDs W H α ds vs → DpAll W.K H vs xs := by
    intro n ih ds
    induction ds with
    | nil =>
      intro vs xs h _ r
      rw [pys_nil] at h
      cases h
      cases r
      exact .nil
    | cons d ds ih2 =>
      intro vs xs h hd r
      obtain ⟨x, ys, h1, h2, rfl⟩ := pys_some h
      rw [PyData.hasDictAll, Bool.or_eq_false_iff] at hd
      cases r with
      | cons a b => exact .cons (ih d _ x h1 hd.1 a) (ih2 _ ys h2 hd.2 b)
  have one : ∀ (n : Nat) (d : D) (v : V) (x : PyData), py n S d = some x → x.hasDict = false → RD W H α d v → Dp W.K H v x := by
    intro n
    induction n with
    | zero =>
      intro d v x h hd r
      cases r with
      | non => rw [py_non] at h; cases h; exact .non
      | bl b => rw [py_bl] at h; cases h; exact .bl b
      | int i => rw [py_int] at h; cases h; exact .int i
      | str y => rw [py_str] at h; cases h; exact .str y
      | tup _ _ => rw [py_tup0] at h; cases h
      | ref _ => rw [py_ref0] at h; cases h
      | fn _ => rw [py_fn] at h; cases h
    | succ n ih =>
      intro d v x h hd r
      cases r with
      | non => rw [py_non] at h; cases h; exact .non
      | bl b => rw [py_bl] at h; cases h; exact .bl b
      | int i => rw [py_int] at h; cases h; exact .int i
      | str y => rw [py_str] at h; cases h; exact .str y
      | tup q rs =>
        rw [py_tup, Option.map_eq_some_iff] at h
        obtain ⟨xs, h1, rfl⟩ := h
        exact .tup q (all n ih _ _ xs h1 (by rwa [PyData.hasDict] at hd) rs)
      | ref q =>
        rw [py_ref] at h
        obtain ⟨c, h1, h2⟩ := st.cell q
        rw [h1] at h
        cases c with
        | lst ds =>
          simp only [Option.map_eq_some_iff] at h
          obtain ⟨xs, h3, rfl⟩ := h
          obtain ⟨vs, h4, h5⟩ := RC.sql (.inl h2)
          exact .lst h4 (all n ih _ _ xs h3 (by rwa [PyData.hasDict] at hd) h5)
        | fro ds =>
          simp only [Option.map_eq_some_iff] at h
          obtain ⟨xs, h3, rfl⟩ := h
          obtain ⟨vs, h4, h5⟩ := RC.sql (.inr h2)
          exact .lst h4 (all n ih _ _ xs h3 (by rwa [PyData.hasDict] at hd) h5)
        | dic kvs =>
          simp only [Option.map_eq_some_iff] at h
          obtain ⟨xs, _, rfl⟩ := h
          simp only [PyData.hasDict] at hd
          cases hd
      | fn _ => rw [py_fn] at h; cases h
  exact ⟨one n, all n (one n)⟩
end
/-! ### operations on data -/
abbrev FU : Nat := 60
def alloc (c : Cell) : M D := fun S => .ok (.ref S.length) (S ++ [c])
def shp (d : PyData) : Bool := SeqAt.shaped d
def dEq (a b : D) : M D := fun S => match a, b with
  | .int i, .int j => .ok (.bl (decide (i = j))) S
  | .str x, .str y => .ok (.bl (decide (x = y))) S
  | .bl x, .bl y => .ok (.bl (decide (x = y))) S
  | .non, .non => .ok (.bl true) S
  | a, b => match py FU S a, py FU S b with
    | some x, some y => if shp x = true ∧ shp y = true then .ok (.bl (PyData.eqv x y)) S else .bad
    | _, _ => .bad
def dNot (a : D) : M D := fun S => match a with
  | .bl b => .ok (.bl (!b)) S
  | _ => .bad
def dNe (a b : D) : M D := do let c ← dEq a b; dNot c
def mulOk (i j : Int) : Prop := i.natAbs < 2 ^ 64 ∨ j.natAbs < 2 ^ 64 ∨ i.natAbs.log2 + j.natAbs.log2 < 1000000
instance (i j : Int) : Decidable (mulOk i j) := by unfold mulOk; infer_instance
def divOk (j : Int) : Prop := j ≠ 0 ∧ j.natAbs.log2 < 9000
instance (j : Int) : Decidable (divOk j) := by unfold divOk; infer_instance
def powOk (i j : Int) : Prop := 0 ≤ j ∧ j ≤ 1000000 ∧ i.natAbs < 2 ^ 64
instance (i j : Int) : Decidable (powOk i j) := by unfold powOk; infer_instance
def dAdd (a b : D) : M D := fun S => match a, b with
  | .int i, .int j => .ok (.int (i + j)) S
  | .str x, .str y => if x.length + y.length ≤ LINE then .ok (.str (x ++ y)) S else .bad
  | .tup xs, .tup ys => if xs.length + ys.length ≤ LINE then .ok (.tup (xs ++ ys)) S else .bad
  | .ref n, .ref m => match S[n]?, S[m]? with
    | some (.lst xs), some (.lst ys) => if xs.length + ys.length ≤ LINE then alloc (.lst (xs ++ ys)) S else .bad
    | _, _ => .bad
  | _, _ => .bad
def dSub (a b : D) : M D := fun S => match a, b with
  | .int i, .int j => .ok (.int (i - j)) S
  | _, _ => .bad
def dMul (a b : D) : M D := fun S => match a, b with
  | .int i, .int j => if mulOk i j then .ok (.int (i * j)) S else .bad
  | .ref n, .int k => match S[n]? with
    | some (.lst xs) => if -(2 ^ 63) ≤ k ∧ k < 2 ^ 63 ∧ xs.length * k.toNat ≤ LINE then alloc (.lst (List.replicate k.toNat xs).flatten) S else .bad
    | _ => .bad
  | _, _ => .bad
def dDiv (a b : D) : M D := fun S => match a, b with
  | .int i, .int j => if divOk j then .ok (.int (if 0 < j then i / j else i.fdiv j)) S else .bad
  | _, _ => .bad
def dMod (a b : D) : M D := fun S => match a, b with
  | .int i, .int j => if j ≠ 0 then .ok (.int (if 0 < j then i % j else i.fmod j)) S else .bad
  | _, _ => .bad
def dPow (a b : D) : M D := fun S => match a, b with
  | .int i, .int j => if powOk i j then .ok (.int (i ^ j.toNat)) S else .bad
  | _, _ => .bad
def dShl (a b : D) : M D := fun S => match a, b with
  | .int i, .int j => if powOk i j then .ok (.int (i * 2 ^ j.toNat)) S else .bad
  | _, _ => .bad
def dShr (a b : D) : M D := fun S => match a, b with
  | .int i, .int j => if 0 ≤ j then .ok (.int (i / 2 ^ j.toNat)) S else .bad
  | _, _ => .bad
def dAnd (a b : D) : M D := fun S => match a, b with
  | .int i, .int j => .ok (.int (Builtin.bitAnd i j)) S
  | _, _ => .bad
/-- tuples of ints (for <) -/
def allInts : List D → Option (List Int)
  | [] => some []
  | .int i :: r => (allInts r).map (i :: ·)
  | _ :: _ => none
def dLt (a b : D) : M D := fun S => match a, b with
  | .int i, .int j => .ok (.bl (decide (i < j))) S
  | .tup xs, .tup ys => match allInts xs, allInts ys with
    | some ns, some ms => .ok (.bl (HT.lexLt ns ms)) S
    | _, _ => .bad
  | _, _ => .bad
def dLe (a b : D) : M D := fun S => match a, b with
  | .int i, .int j => .ok (.bl (decide (i ≤ j))) S
  | _, _ => .bad
def dGt (a b : D) : M D := fun S => match a, b with
  | .int i, .int j => .ok (.bl (decide (j < i))) S
  | _, _ => .bad
def dGe (a b : D) : M D := fun S => match a, b with
  | .int i, .int j => .ok (.bl (decide (j ≤ i))) S
  | _, _ => .bad
def isNon : D → Bool
  | .non => true
  | _ => false
def dIs (a b : D) : M D := fun S => match b with
  | .non => .ok (.bl (isNon a)) S
  | .bl y => match a with
    | .bl x => .ok (.bl (decide (x = y))) S
    | _ => .bad
  | _ => .bad
def dIsNot (a b : D) : M D := fun S => match b with
  | .non => .ok (.bl (!isNon a)) S
  | .bl y => match a with
    | .bl x => .ok (.bl (!decide (x = y))) S
    | _ => .bad
  | _ => .bad
def vR1 (W : Wd) (E : XK) (f : D → M D) : V → Hp → VK → Prop := fun x H Q => ∃ a S α, StOk W H α S ∧ RD W H α a x ∧ okM W E H α (f a S) fun d _ H' α' => ∀ v, RD W H' α' d v → Q v H'
def vR2 (W : Wd) (E : XK) (f : D → D → M D) : R2 := fun x y H Q => ∃ a b S α, StOk W H α S ∧ RD W H α a x ∧ RD W H α b y ∧ okM W E H α (f a b S) fun d _ H' α' => ∀ v, RD W H' α' d v → Q v H'
section
variable {X : Cx} {G XC : Nat → Option Addr} {E : XK} {H : Hp} {α : List Addr} {S : Store} {Q : VK}
/-- a new list -/
theorem new_lst {W : Wd} {xs : List V} {ds : List D} {p : Addr} (st : StOk W H α S) (r : RDs W H α ds xs) (h : okM W E H α (alloc (.lst ds) S) fun d _ H' α' => ∀ v, RD W H' α' d v → Q v H') (hp : H p = none) : Q (.ref p) (upd H p (.lst xs)) := by
  have sp := Step.alloc (W := W) (α := α) (o := .lst xs) hp
  refine h (upd H p (.lst xs)) (α ++ [p]) sp (st.alloc hp (.lst upd_same (r.mono sp))) _ (.ref ?_)
  rw [← st.len]
  simp
/-- a new tuple -/
theorem new_tup {W : Wd} {xs : List V} {ds : List D} {p : Addr} (st : StOk W H α S) (r : RDs W H α ds xs) (h : okM W E H α (.ok (.tup ds) S) fun d _ H' α' => ∀ v, RD W H' α' d v → Q v H') (hp : H p = none) : Q (.ref p) (upd H p (.tup xs)) := by
  have sp := Step.fresh (W := W) (α := α) (o := .tup xs) hp
  exact h (upd H p (.tup xs)) α sp (st.fresh hp) _ (.tup (.inl (.inl upd_same)) (r.mono sp))
theorem same {W : Wd} {d : D} {v : V} (st : StOk W H α S) (h : okM W E H α (.ok d S) fun d _ H' α' => ∀ v, RD W H' α' d v → Q v H') (r : RD W H α d v) : Q v H := h H α Step.refl st v r
theorem sqT_len {pins : List (Addr × Obj)} {σ : L2.St} {s : Shared} {a : Addr} {xs : List V} (I : Inv X pins σ H s) (h : SqT X.K H a xs) : xs.length ≤ LINE := by
  obtain ⟨_, _, _, z⟩ := I.tuple h
  rw [← line_eq]; exact z
theorem opAdd : OpR X (binaryOp .Add) (vR2 (wd X G XC) E dAdd) := by
  intro pins s σ H x y v u Q I rx ry ⟨a, b, S, α, st, ra, rb, h⟩
  unfold dAdd at h
  split at h
  · cases ra; cases rb
    exact op_add pins s σ H _ _ v u Q I rx ry ⟨_, _, rfl, rfl, same st h (.int _)⟩
  · cases ra; cases rb
    split at h
    · rename_i hz
      exact op_add_str pins s σ H _ _ v u Q I rx ry ⟨_, _, rfl, rfl, by rw [line_eq]; exact hz, same st h (.str _)⟩
    · exact h.elim
  · split at h
    · rename_i xs ys hz
      cases ra with
      | tup ha ra =>
        cases rb with
        | tup hb rb =>
          refine op_catA pins s σ H _ _ v u Q I rx ry ⟨_, _, _, _, rfl, rfl, ha, hb, by rw [line_eq, ← ra.length, ← rb.length]; exact hz, fun e => ?_, fun _ e => ?_, fun _ _ p hp => new_tup st (ra.append rb) h hp⟩
          · subst e
            cases ra
            exact same st h (.tup hb rb)
          · subst e
            cases rb
            rw [List.append_nil] at h
            exact same st h (.tup ha ra)
    · exact h.elim
  · split at h
    · rename_i n m xs ys e1 e2
      split at h
      · rename_i hz
        cases ra with
        | ref ha =>
          cases rb with
          | ref hb =>
            have h1 := st.at_ _ _ _ e1 ha
            have h2 := st.at_ _ _ _ e2 hb
            cases h1 with
            | lst q1 r1 =>
              cases h2 with
              | lst q2 r2 =>
                exact op_cat pins s σ H _ _ v u Q I rx ry ⟨_, _, _, _, rfl, rfl, q1, q2, by rw [line_eq, ← r1.length, ← r2.length]; exact hz, fun p hp => new_lst st (r1.append r2) h hp⟩
      · exact h.elim
    · exact h.elim
  · exact h.elim
theorem opSub : OpR X (binaryOp .Sub) (vR2 (wd X G XC) E dSub) := by
  intro pins s σ H x y v u Q I rx ry ⟨a, b, S, α, st, ra, rb, h⟩
  unfold dSub at h
  split at h
  · cases ra; cases rb
    exact op_sub pins s σ H _ _ v u Q I rx ry ⟨_, _, rfl, rfl, same st h (.int _)⟩
  · exact h.elim
theorem opMul : OpR X (binaryOp .Mult) (vR2 (wd X G XC) E dMul) := by
  intro pins s σ H x y v u Q I rx ry ⟨a, b, S, α, st, ra, rb, h⟩
  unfold dMul at h
  split at h
  · cases ra; cases rb
    split at h
    · rename_i hm
      rcases hm with hm | hm | hm
      · exact op_mul pins s σ H _ _ v u Q I rx ry ⟨_, _, rfl, rfl, .inl (by omega), same st h (.int _)⟩
      · exact op_mul pins s σ H _ _ v u Q I rx ry ⟨_, _, rfl, rfl, .inr (by omega), same st h (.int _)⟩
      · exact op_mulW pins s σ H _ _ v u Q I rx ry ⟨_, _, rfl, rfl, hm, same st h (.int _)⟩
    · exact h.elim
  · split at h
    · rename_i n k xs e1
      split at h
      · rename_i hz
        cases rb
        cases ra with
        | ref ha =>
          have h1 := st.at_ _ _ _ e1 ha
          cases h1 with
          | lst q1 r1 =>
            have rep : ∀ (m : Nat) {ds : List D} {vs : List V}, RDs (wd X G XC) H α ds vs → RDs (wd X G XC) H α (List.replicate m ds).flatten (List.replicate m vs).flatten := fun m ds vs r => by
              induction m with
              | zero => exact .nil
              | succ m ih =>
                simp only [List.replicate_succ, List.flatten_cons]
                exact r.append ih
            refine op_rep pins s σ H _ _ v u Q I rx ry ⟨_, _, _, rfl, rfl, q1, hz.1, hz.2.1, by rw [line_eq, ← r1.length]; exact hz.2.2, fun p hp => ?_⟩
            exact new_lst st (rep _ r1) h hp
      · exact h.elim
    · exact h.elim
  · exact h.elim
theorem divAny : OpR X (binaryOp .FloorDiv) (rI (fun _ j => divOk j) fun i j => .int (if 0 < j then i / j else i.fdiv j)) := opI fun i j _ _ _ _ _ hc q => by
  have h0 : j ≠ 0 := hc.1
  refine floordiv_int h0 ?_ (.inl (PyProof.noPylong_of_log2 hc.2))
  by_cases h1 : 0 < j
  · rw [if_pos h1] at q
    rw [Int.fdiv_eq_ediv_of_nonneg i (by omega)]; exact q
  · rw [if_neg h1] at q; exact q
theorem modAny : OpR X (binaryOp .Mod) (rI (fun _ j => j ≠ 0) fun i j => .int (if 0 < j then i % j else i.fmod j)) := opI fun i j _ _ _ _ _ hc q => by
  refine mod_int' hc ?_
  by_cases h1 : 0 < j
  · rw [if_pos h1] at q
    rw [Int.fmod_eq_emod_of_nonneg i (by omega)]; exact q
  · rw [if_neg h1] at q; exact q
theorem opDiv : OpR X (binaryOp .FloorDiv) (vR2 (wd X G XC) E dDiv) := by
  intro pins s σ H x y v u Q I rx ry ⟨a, b, S, α, st, ra, rb, h⟩
  unfold dDiv at h
  split at h
  · cases ra; cases rb
    split at h
    · rename_i hz
      exact divAny pins s σ H _ _ v u Q I rx ry ⟨_, _, rfl, rfl, hz, same st h (.int _)⟩
    · exact h.elim
  · exact h.elim
theorem opMod : OpR X (binaryOp .Mod) (vR2 (wd X G XC) E dMod) := by
  intro pins s σ H x y v u Q I rx ry ⟨a, b, S, α, st, ra, rb, h⟩
  unfold dMod at h
  split at h
  · cases ra; cases rb
    split at h
    · rename_i hz
      exact modAny pins s σ H _ _ v u Q I rx ry ⟨_, _, rfl, rfl, hz, same st h (.int _)⟩
    · exact h.elim
  · exact h.elim
theorem opPow : OpR X (binaryOp .Pow) (vR2 (wd X G XC) E dPow) := by
  intro pins s σ H x y v u Q I rx ry ⟨a, b, S, α, st, ra, rb, h⟩
  unfold dPow at h
  split at h
  · cases ra; cases rb
    split at h
    · rename_i hz
      exact op_pow pins s σ H _ _ v u Q I rx ry ⟨_, _, rfl, rfl, hz, same st h (.int _)⟩
    · exact h.elim
  · exact h.elim
theorem opShl : OpR X (binaryOp .LShift) (vR2 (wd X G XC) E dShl) := by
  intro pins s σ H x y v u Q I rx ry ⟨a, b, S, α, st, ra, rb, h⟩
  unfold dShl at h
  split at h
  · cases ra; cases rb
    split at h
    · rename_i hz
      exact op_shl pins s σ H _ _ v u Q I rx ry ⟨_, _, rfl, rfl, hz, same st h (.int _)⟩
    · exact h.elim
  · exact h.elim
theorem opShr : OpR X (binaryOp .RShift) (vR2 (wd X G XC) E dShr) := by
  intro pins s σ H x y v u Q I rx ry ⟨a, b, S, α, st, ra, rb, h⟩
  unfold dShr at h
  split at h
  · cases ra; cases rb
    split at h
    · rename_i hz
      exact op_shr pins s σ H _ _ v u Q I rx ry ⟨_, _, rfl, rfl, hz, same st h (.int _)⟩
    · exact h.elim
  · exact h.elim
theorem opAnd : OpR X (binaryOp .BitAnd) (vR2 (wd X G XC) E dAnd) := by
  intro pins s σ H x y v u Q I rx ry ⟨a, b, S, α, st, ra, rb, h⟩
  unfold dAnd at h
  split at h
  · cases ra; cases rb
    exact op_and pins s σ H _ _ v u Q I rx ry ⟨_, _, rfl, rfl, same st h (.int _)⟩
  · exact h.elim
/-! ### comparisons -/
theorem ints_map {W : Wd} : ∀ {ds : List D} {ns : List Int} {xs : List V}, allInts ds = some ns → RDs W H α ds xs → xs = ns.map V.int
  | [], ns, xs, h, r => by
    cases h
    cases r
    rfl
  | .int i :: ds, ns, xs, h, r => by
    rw [allInts, Option.map_eq_some_iff] at h
    obtain ⟨ms, h1, rfl⟩ := h
    cases r with
    | cons a b =>
      cases a
      rw [ints_map h1 b]
      rfl
  | .non :: _, _, _, h, _ => by cases h
  | .bl _ :: _, _, _, h, _ => by cases h
  | .str _ :: _, _, _, h, _ => by cases h
  | .tup _ :: _, _, _, h, _ => by cases h
  | .ref _ :: _, _, _, h, _ => by cases h
  | .fn _ :: _, _, _, h, _ => by cases h
theorem opLt (hu : X.A.units < cLine) : OpR X (compareOp .Lt) (vR2 (wd X G XC) E dLt) := by
  intro pins s σ H x y v u Q I rx ry ⟨a, b, S, α, st, ra, rb, h⟩
  unfold dLt at h
  split at h
  · cases ra; cases rb
    exact op_lt pins s σ H _ _ v u Q I rx ry ⟨_, _, rfl, rfl, same st h (.bl _)⟩
  · split at h
    · rename_i xs ys ns ms e1 e2
      cases ra with
      | tup ha ra =>
        cases rb with
        | tup hb rb =>
          rw [ints_map e1 ra] at ha
          rw [ints_map e2 rb] at hb
          exact op_ltT hu pins s σ H _ _ v u Q I rx ry ⟨_, _, ns, ms, rfl, rfl, ha, hb, same st h (.bl _)⟩
    · exact h.elim
  · exact h.elim
theorem opLe : OpR X (compareOp .LtE) (vR2 (wd X G XC) E dLe) := by
  intro pins s σ H x y v u Q I rx ry ⟨a, b, S, α, st, ra, rb, h⟩
  unfold dLe at h
  split at h
  · cases ra; cases rb
    exact op_le pins s σ H _ _ v u Q I rx ry ⟨_, _, rfl, rfl, same st h (.bl _)⟩
  · exact h.elim
theorem opGt : OpR X (compareOp .Gt) (vR2 (wd X G XC) E dGt) := by
  intro pins s σ H x y v u Q I rx ry ⟨a, b, S, α, st, ra, rb, h⟩
  unfold dGt at h
  split at h
  · cases ra; cases rb
    exact op_gt pins s σ H _ _ v u Q I rx ry ⟨_, _, rfl, rfl, same st h (.bl _)⟩
  · exact h.elim
theorem opGe : OpR X (compareOp .GtE) (vR2 (wd X G XC) E dGe) := by
  intro pins s σ H x y v u Q I rx ry ⟨a, b, S, α, st, ra, rb, h⟩
  unfold dGe at h
  split at h
  · cases ra; cases rb
    exact op_ge pins s σ H _ _ v u Q I rx ry ⟨_, _, rfl, rfl, same st h (.bl _)⟩
  · exact h.elim
theorem dv_int {i j : Int} : decide (V.int i = V.int j) = decide (i = j) := by simp
theorem dv_str {i j : Str} : decide (V.str i = V.str j) = decide (i = j) := by simp
theorem dv_bl {i j : Bool} : decide (V.bl i = V.bl j) = decide (i = j) := by simp
theorem shp_nodict {x : PyData} (h : shp x = true) : x.hasDict = false := PyData.hasDict_of_canLay x (SeqAt.canLay_of_shaped h)
theorem opEq (hu : X.A.units + 64 < cLine) : OpR X (compareOp .Eq) (vR2 (wd X G XC) E dEq) := by
  intro pins s σ H x y v u Q I rx ry ⟨a, b, S, α, st, ra, rb, h⟩
  unfold dEq at h
  split at h
  · cases ra; cases rb
    exact op_eq pins s σ H _ _ v u Q I rx ry ⟨rfl, by rw [dv_int]; exact same st h (.bl _)⟩
  · cases ra; cases rb
    exact op_eq pins s σ H _ _ v u Q I rx ry ⟨rfl, by rw [dv_str]; exact same st h (.bl _)⟩
  · cases ra; cases rb
    exact op_eq pins s σ H _ _ v u Q I rx ry ⟨rfl, by rw [dv_bl]; exact same st h (.bl _)⟩
  · cases ra; cases rb
    exact op_eq pins s σ H _ _ v u Q I rx ry ⟨rfl, by simpa using same st h (.bl _)⟩
  · split at h
    · rename_i x' y' e1 e2
      split at h
      · rename_i hs
        have d1 := (dp_of st FU).1 _ _ _ e1 (shp_nodict hs.1) ra
        have d2 := (dp_of st FU).1 _ _ _ e2 (shp_nodict hs.2) rb
        exact op_eqD hu pins s σ H _ _ v u Q I rx ry ⟨_, _, d1, d2, hs.1, hs.2, same st h (.bl _)⟩
      · exact h.elim
    · exact h.elim
theorem opNe (hu : X.A.units + 64 < cLine) : OpR X (compareOp .NotEq) (vR2 (wd X G XC) E dNe) := by
  intro pins s σ H x y v u Q I rx ry ⟨a, b, S, α, st, ra, rb, h⟩
  have h := okM.bind h
  unfold dEq at h
  have fin : ∀ {c : Bool}, okM (wd X G XC) E H α (.ok (.bl c) S) (fun b S1 H1 α1 => okM (wd X G XC) E H1 α1 (dNot b S1) fun d _ H' α' => ∀ v, RD (wd X G XC) H' α' d v → Q v H') → Q (.bl !c) H := fun {c} h => by
    have h2 := okM.ret st h
    exact same st h2 (.bl _)
  split at h
  · cases ra; cases rb
    exact op_ne pins s σ H _ _ v u Q I rx ry ⟨rfl, by rw [dv_int]; exact fin h⟩
  · cases ra; cases rb
    exact op_ne pins s σ H _ _ v u Q I rx ry ⟨rfl, by rw [dv_str]; exact fin h⟩
  · cases ra; cases rb
    exact op_ne pins s σ H _ _ v u Q I rx ry ⟨rfl, by rw [dv_bl]; exact fin h⟩
  · cases ra; cases rb
    exact op_ne pins s σ H _ _ v u Q I rx ry ⟨rfl, by simpa using fin h⟩
  · split at h
    · rename_i x' y' e1 e2
      split at h
      · rename_i hs
        have d1 := (dp_of st FU).1 _ _ _ e1 (shp_nodict hs.1) ra
        have d2 := (dp_of st FU).1 _ _ _ e2 (shp_nodict hs.2) rb
        exact op_neD hu pins s σ H _ _ v u Q I rx ry ⟨_, _, d1, d2, hs.1, hs.2, fin h⟩
      · exact h.elim
    · exact h.elim
theorem RD.nonb {W : Wd} {a : D} {x : V} (r : RD W H α a x) : isNon a = decide (x = .non) := by cases r <;> simp [isNon]
theorem opIs : OpR X (compareOp .Is) (vR2 (wd X G XC) E dIs) := by
  intro pins s σ H x y v u Q I rx ry ⟨a, b, S, α, st, ra, rb, h⟩
  unfold dIs at h
  split at h
  · cases rb
    exact op_isN pins s σ H _ _ v u Q I rx ry ⟨rfl, by rw [← ra.nonb]; exact same st h (.bl _)⟩
  · split at h
    · cases ra; cases rb
      exact op_isBl pins s σ H _ _ v u Q I rx ry ⟨_, _, rfl, rfl, same st h (.bl _)⟩
    · exact h.elim
  · exact h.elim
theorem opIsNot : OpR X (compareOp .IsNot) (vR2 (wd X G XC) E dIsNot) := by
  intro pins s σ H x y v u Q I rx ry ⟨a, b, S, α, st, ra, rb, h⟩
  unfold dIsNot at h
  split at h
  · cases rb
    refine op_notN pins s σ H _ _ v u Q I rx ry ⟨rfl, ?_⟩
    rw [← ra.nonb]
    exact same st h (.bl _)
  · split at h
    · cases ra; cases rb
      exact op_notBl pins s σ H _ _ v u Q I rx ry ⟨_, _, rfl, rfl, same st h (.bl _)⟩
    · exact h.elim
  · exact h.elim
end
end Ev
namespace Ev
open PySem PySem.Spec PyProof.Rows L2
/-! ### subscripts, slices -/
def dIx (a b : D) : M D := fun S => match a, b with
  | .tup xs, .int i => match atI xs i with
    | some d => .ok d S
    | none => .bad
  | .str z, .int i => if z.length ≤ LINE then (match atI z.cps.toList i with
    | some c => .ok (.str ⟨#[c]⟩) S
    | none => .bad) else .bad
  | .ref n, .int i => match S[n]? with
    | some (.lst xs) => (match atI xs i with
      | some d => .ok d S
      | none => .bad)
    | some (.fro xs) => (match atI xs i with
      | some d => .ok d S
      | none => .bad)
    | _ => .bad
  | _, _ => .bad
def cutD (xs : List D) (lo hi : Option Int) : List D := (xs.drop (HT.sIx xs.length 0 lo)).take (HT.sIx xs.length xs.length hi - HT.sIx xs.length 0 lo)
def dSl (a : D) (lo hi : Option Int) : M D := fun S => match a with
  | .tup xs => .ok (.tup (cutD xs lo hi)) S
  | .str z => if z.length ≤ LINE then .ok (.str (cutS z lo hi)) S else .bad
  | .ref n => match S[n]? with
    | some (.lst xs) => alloc (.lst (cutD xs lo hi)) S
    | some (.fro xs) => alloc (.lst (cutD xs lo hi)) S
    | _ => .bad
  | _ => .bad
/-- o[i] = v, the store behind it -/
def dSet (o i v : D) : M Unit := fun S => match o, i with
  | .ref n, .int k => match S[n]? with
    | some (.lst xs) => (match ixN xs.length k with
      | some j => .ok () (S.set n (.lst (xs.set j v)))
      | none => .bad)
    | _ => .bad
  | _, _ => .bad
theorem cutD_len (xs : List D) (lo hi : Option Int) : (cutD xs lo hi).length ≤ xs.length := by
  unfold cutD
  rw [List.length_take, List.length_drop]
  omega
section
variable {X : Cx} {G XC : Nat → Option Addr} {E : XK} {H : Hp} {α : List Addr} {S : Store} {Q : VK}
theorem RDs.atI {W : Wd} {ds : List D} {vs : List V} {i : Int} {d : D} (r : RDs W H α ds vs) (h : L2.atI ds i = some d) : ∃ v, L2.atI vs i = some v ∧ RD W H α d v := by
  unfold L2.atI at h ⊢
  rw [← r.length]
  rw [Option.bind_eq_some_iff] at h
  obtain ⟨j, h1, h2⟩ := h
  obtain ⟨v, h3, h4⟩ := r.get h2
  exact ⟨v, by rw [h1]; exact h3, h4⟩
theorem RDs.cut {W : Wd} {ds : List D} {vs : List V} {lo hi : Option Int} (r : RDs W H α ds vs) : RDs W H α (cutD ds lo hi) (cutV vs lo hi) := by
  unfold cutD cutV
  rw [r.length]
  exact (r.drop _).take _
theorem ixAny : IxR X (vR2 (wd X G XC) E dIx) := by
  intro value slice pins s σ H x y v u Q I rx ry ⟨a, b, S, α, st, ra, rb, h⟩ hs
  have lst : ∀ {p : Addr} {ds : List D} {xs : List V} {i : Int}, SqL X.K H p xs → RDs (wd X G XC) H α ds xs → x = .ref p → y = .int i → okM (wd X G XC) E H α (match L2.atI ds i with
      | some d => .ok d S
      | none => .bad) (fun d _ H' α' => ∀ v, RD (wd X G XC) H' α' d v → Q v H') → wpAny (model X.prog X.w) X.A (subscriptTail value slice v u) (EP X pins σ Q) X.xe s := fun {p ds xs i} hq r e1 e2 h => by
    subst e1 e2
    split at h
    · rename_i d e
      obtain ⟨w', e3, r3⟩ := r.atI e
      exact ix_list value slice pins s σ H _ _ v u Q I rx ry ⟨_, _, _, _, rfl, rfl, hq, e3, same st h r3⟩ hs
    · exact h.elim
  unfold dIx at h
  split at h
  · cases ra with
    | tup ha ra =>
      cases rb
      split at h
      · rename_i e
        obtain ⟨w', e3, r3⟩ := ra.atI e
        exact ix_tup value slice pins s σ H _ _ v u Q I rx ry ⟨_, _, _, _, rfl, rfl, ha, e3, same st h r3⟩ hs
      · exact h.elim
  · cases ra; cases rb
    split at h
    · rename_i hz
      split at h
      · rename_i e
        exact ix_str value slice pins s σ H _ _ v u Q I rx ry ⟨_, _, _, rfl, rfl, by rw [line_eq]; exact hz, e, same st h (.str _)⟩ hs
      · exact h.elim
    · exact h.elim
  · split at h
    · rename_i e1
      cases ra with
      | ref ha =>
        cases rb
        obtain ⟨xs, hq, r⟩ := RC.sql (.inl (st.at_ _ _ _ e1 ha))
        exact lst hq r rfl rfl h
    · rename_i e1
      cases ra with
      | ref ha =>
        cases rb
        obtain ⟨xs, hq, r⟩ := RC.sql (.inr (st.at_ _ _ _ e1 ha))
        exact lst hq r rfl rfl h
    · exact h.elim
  · exact h.elim
def vRS (W : Wd) (E : XK) : V → Option Int → Option Int → Hp → VK → Prop := fun x lo hi H Q => ∃ a S α, StOk W H α S ∧ RD W H α a x ∧ okM W E H α (dSl a lo hi S) fun d _ H' α' => ∀ v, RD W H' α' d v → Q v H'
theorem slAny : SlR X (vRS (wd X G XC) E) := by
  intro pins s σ H x v vl vu lo hi sl Q I rx hs pl pu ⟨a, S, α, st, ra, h⟩
  unfold dSl at h
  split at h
  · rename_i xs
    cases ra with
    | tup ha ra =>
      refine sl_tupA pins s σ H _ v vl vu lo hi sl Q I rx hs pl pu ⟨_, _, rfl, ha, fun hw => ?_, fun _ p hp => new_tup st ra.cut h hp⟩
      have e : cutD xs lo hi = xs := by
        unfold cutD
        rw [ra.length, hw.1, hw.2, List.drop_zero, List.take_of_length_le (by rw [ra.length]; omega)]
      rw [e] at h
      exact same st h (.tup ha ra)
  · cases ra
    split at h
    · rename_i hz
      exact sl_str pins s σ H _ v vl vu lo hi sl Q I rx hs pl pu ⟨_, rfl, by rw [line_eq]; exact hz, same st h (.str _)⟩
    · exact h.elim
  · split at h
    · rename_i e1
      cases ra with
      | ref ha =>
        obtain ⟨xs, hq, r⟩ := RC.sql (.inl (st.at_ _ _ _ e1 ha))
        exact sl_list pins s σ H _ v vl vu lo hi sl Q I rx hs pl pu ⟨_, _, rfl, hq, fun p hp => new_lst st r.cut h hp⟩
    · rename_i e1
      cases ra with
      | ref ha =>
        obtain ⟨xs, hq, r⟩ := RC.sql (.inr (st.at_ _ _ _ e1 ha))
        exact sl_list pins s σ H _ v vl vu lo hi sl Q I rx hs pl pu ⟨_, _, rfl, hq, fun p hp => new_lst st r.cut h hp⟩
    · exact h.elim
  · exact h.elim
def vRSet (W : Wd) (E : XK) : TSet := fun o i v H Q => ∃ a b c S α, StOk W H α S ∧ RD W H α a o ∧ RD W H α b i ∧ RD W H α c v ∧ okM W E H α (dSet a b c S) fun _ _ H' _ => Q H'
theorem setAny : PSet X (vRSet (wd X G XC) E) := by
  intro pins s σ H o i v ov iv u Q I ro ri rv ⟨a, b, c, S, α, st, ra, rb, rc, h⟩
  unfold dSet at h
  split at h
  · split at h
    · rename_i e1
      split at h
      · rename_i j e2
        cases ra with
        | ref ha =>
          cases rb
          have h1 := st.at_ _ _ _ e1 ha
          cases h1 with
          | lst q r =>
            refine set_list pins s σ H _ _ v ov iv u Q I ro ri rv ⟨_, _, _, j, rfl, rfl, q, by rw [← r.length]; exact e2, ?_⟩
            exact h _ _ (Step.write (List.mem_iff_getElem?.mpr ⟨_, ha⟩) q) (st.write ha e1 q (RDs.set rc j r))
      · exact h.elim
    · exact h.elim
  · exact h.elim
end
/-! ### built-ins -/
inductive Ty where
  | int | bool | str | tuple | list | dict
  deriving DecidableEq
def Ty.name : Ty → String
  | .int => "int" | .bool => "bool" | .str => "str" | .tuple => "tuple" | .list => "list" | .dict => "dict"
/-- isinstance's answer -/
def Ty.sub : Ty → Ty → Bool
  | .bool, .int => true
  | a, b => decide (a = b)
def tyOf (d : D) (S : Store) : Option (Option Ty) := match d with
  | .non => some none
  | .bl _ => some (some .bool)
  | .int _ => some (some .int)
  | .str _ => some (some .str)
  | .tup _ => some (some .tuple)
  | .ref n => match S[n]? with
    | some (.lst _) => some (some .list)
    | some (.fro _) => some (some .list)
    | some (.dic _) => some (some .dict)
    | none => none
  | .fn _ => none
def dIsi (t : Ty) (d : D) : M D := fun S => match tyOf d S with
  | some (some u) => .ok (.bl (u.sub t)) S
  | some none => .ok (.bl false) S
  | none => .bad
def dLen (d : D) : M D := fun S => match d with
  | .str x => if x.length ≤ LINE then .ok (.int x.length) S else .bad
  | .tup xs => .ok (.int xs.length) S
  | .ref n => match S[n]? with
    | some (.lst xs) => .ok (.int xs.length) S
    | some (.fro xs) => .ok (.int xs.length) S
    | some (.dic kvs) => .ok (.int kvs.length) S
    | none => .bad
  | _ => .bad
def dAbs (d : D) : M D := fun S => match d with
  | .int i => .ok (.int (if i < 0 then -i else i)) S
  | _ => .bad
def dInt (d : D) : M D := fun S => match d with
  | .int i => .ok (.int i) S
  | .bl b => .ok (.int (if b then 1 else 0)) S
  | .str x => match PySem.intText? x with
    | some n => if x.length ≤ 640 then .ok (.int n) S else .bad
    | none => .bad
  | _ => .bad
def dStr (d : D) : M D := fun S => match d with
  | .int i => if i.natAbs.log2 < 1920 then .ok (.str (toString i)) S else .bad
  | _ => .bad
def dMax2 (a b : D) : M D := fun S => match a, b with
  | .int i, .int j => .ok (.int (if j > i then j else i)) S
  | _, _ => .bad
def dMin2 (a b : D) : M D := fun S => match a, b with
  | .int i, .int j => .ok (.int (if j < i then j else i)) S
  | _, _ => .bad
/-- the items of a list or a tuple -/
def itemsOf (d : D) (S : Store) : Option (List D) := match d with
  | .tup xs => some xs
  | .ref n => match S[n]? with
    | some (.lst xs) => some xs
    | some (.fro xs) => some xs
    | _ => none
  | _ => none
def dTuple (d : D) : M D := fun S => match itemsOf d S with
  | some xs => .ok (.tup xs) S
  | none => .bad
def dList (d : D) : M D := fun S => match itemsOf d S with
  | some xs => alloc (.lst xs) S
  | none => .bad
def bls : List D → Option (List Bool)
  | [] => some []
  | .bl i :: r => (bls r).map (i :: ·)
  | _ :: _ => none
def listOf? (d : D) (S : Store) : Option (List D) := match d with
  | .ref n => match S[n]? with
    | some (.lst xs) => some xs
    | some (.fro xs) => some xs
    | _ => none
  | _ => none
def dAll (d : D) : M D := fun S => match (listOf? d S).bind bls with
  | some bs => .ok (.bl (bs.all id)) S
  | none => .bad
def dAny (d : D) : M D := fun S => match (listOf? d S).bind bls with
  | some bs => .ok (.bl (bs.any id)) S
  | none => .bad
def dSum (d : D) : M D := fun S => match (listOf? d S).bind allInts with
  | some ns => .ok (.int ns.sum) S
  | none => .bad
def vRL (W : Wd) (E : XK) (f : List D → M D) : List V → Hp → VK → Prop := fun xs H Q => ∃ ds S α, StOk W H α S ∧ RDs W H α ds xs ∧ okM W E H α (f ds S) fun d _ H' α' => ∀ v, RD W H' α' d v → Q v H'
def on1 (f : D → M D) : List D → M D
  | [a] => f a
  | _ => M.fail
def on2 (f : D → D → M D) : List D → M D
  | [a, b] => f a b
  | _ => M.fail
section
variable {X : Cx} {G XC : Nat → Option Addr} {E : XK} {H : Hp} {α : List Addr} {S : Store} {Q : VK}
theorem callR1 {f : Value} {g : D → M D} (h : CallR X f fun xs H Q => ∃ x, xs = [x] ∧ vR1 (wd X G XC) E g x H Q) : CallR X f (vRL (wd X G XC) E (on1 g)) := by
  intro pins s σ H xs us Q I r ⟨ds, S, α, st, rs, q⟩
  match ds, rs, q with
  | [a], .cons ra .nil, q => exact h pins s σ H _ us Q I r ⟨_, rfl, a, S, α, st, ra, q⟩
  | [], .nil, q => exact q.elim
  | _ :: _ :: _, .cons _ (.cons _ _), q => exact q.elim
theorem callR2 {f : Value} {g : D → D → M D} (h : CallR X f fun xs H Q => ∃ x y, xs = [x, y] ∧ vR2 (wd X G XC) E g x y H Q) : CallR X f (vRL (wd X G XC) E (on2 g)) := by
  intro pins s σ H xs us Q I r ⟨ds, S, α, st, rs, q⟩
  match ds, rs, q with
  | [a, b], .cons ra (.cons rb .nil), q => exact h pins s σ H _ us Q I r ⟨_, _, rfl, a, b, S, α, st, ra, rb, q⟩
  | [], .nil, q => exact q.elim
  | [_], .cons _ .nil, q => exact q.elim
  | _ :: _ :: _ :: _, .cons _ (.cons _ (.cons _ _)), q => exact q.elim
theorem cLen : CallR X (.builtin "len") (vRL (wd X G XC) E (on1 dLen)) := by
  refine callR1 fun pins s σ H xs us Q I r ⟨x, e, a, S, α, st, ra, h⟩ => ?_
  subst e
  unfold dLen at h
  split at h
  · cases ra
    split at h
    · rename_i hz
      exact call_len pins s σ H _ us Q I r ⟨_, _, rfl, ⟨by rw [line_eq]; exact hz, rfl⟩, same st h (.int _)⟩
    · exact h.elim
  · cases ra with
    | tup ha ra => exact call_len pins s σ H _ us Q I r ⟨_, _, rfl, .inr ⟨_, ha, rfl⟩, by rw [← ra.length]; exact same st h (.int _)⟩
  · split at h
    · rename_i e1
      cases ra with
      | ref ha =>
        obtain ⟨xs, hq, rq⟩ := RC.sql (.inl (st.at_ _ _ _ e1 ha))
        exact call_len pins s σ H _ us Q I r ⟨_, _, rfl, .inl ⟨_, hq, rfl⟩, by rw [← rq.length]; exact same st h (.int _)⟩
    · rename_i e1
      cases ra with
      | ref ha =>
        obtain ⟨xs, hq, rq⟩ := RC.sql (.inr (st.at_ _ _ _ e1 ha))
        exact call_len pins s σ H _ us Q I r ⟨_, _, rfl, .inl ⟨_, hq, rfl⟩, by rw [← rq.length]; exact same st h (.int _)⟩
    · rename_i e1
      cases ra with
      | ref ha =>
        have h1 := st.at_ _ _ _ e1 ha
        cases h1 with
        | dic q rk =>
          have hl : ∀ {ds : List (Key × D)} {vs : List (Key × V)}, RKs (wd X G XC) H α ds vs → ds.length = vs.length := fun r => by
            induction r with
            | nil => rfl
            | cons _ _ ih => rw [List.length_cons, List.length_cons, ih]
          exact call_lenD pins s σ H _ us Q I r ⟨_, _, rfl, q, by rw [← hl rk]; exact same st h (.int _)⟩
    · exact h.elim
  · exact h.elim
theorem cAbs : CallR X (.builtin "abs") (vRL (wd X G XC) E (on1 dAbs)) := by
  refine callR1 fun pins s σ H xs us Q I r ⟨x, e, a, S, α, st, ra, h⟩ => ?_
  subst e
  unfold dAbs at h
  split at h
  · cases ra
    exact call_abs pins s σ H _ us Q I r ⟨_, rfl, same st h (.int _)⟩
  · exact h.elim
theorem cInt : CallR X (.type "int") (vRL (wd X G XC) E (on1 dInt)) := by
  refine callR1 fun pins s σ H xs us Q I r ⟨x, e, a, S, α, st, ra, h⟩ => ?_
  subst e
  unfold dInt at h
  split at h
  · cases ra
    exact call_int1 pins s σ H _ us Q I r (.inl ⟨_, rfl, same st h (.int _)⟩)
  · cases ra
    exact call_int1 pins s σ H _ us Q I r (.inr ⟨_, rfl, same st h (.int _)⟩)
  · split at h
    · rename_i e1
      split at h
      · rename_i hz
        cases ra
        exact call_int_str pins s σ H _ us Q I r ⟨_, _, rfl, e1, hz, same st h (.int _)⟩
      · exact h.elim
    · exact h.elim
  · exact h.elim
theorem cStr : CallR X (.type "str") (vRL (wd X G XC) E (on1 dStr)) := by
  refine callR1 fun pins s σ H xs us Q I r ⟨x, e, a, S, α, st, ra, h⟩ => ?_
  subst e
  unfold dStr at h
  split at h
  · cases ra
    split at h
    · rename_i hz
      exact call_str_int pins s σ H _ us Q I r ⟨_, rfl, hz, same st h (.str _)⟩
    · exact h.elim
  · exact h.elim
theorem cMax2 (hc : X.calm = true) : CallR X (.builtin "max") (vRL (wd X G XC) E (on2 dMax2)) := by
  refine callR2 fun pins s σ H xs us Q I r ⟨x, y, e, a, b, S, α, st, ra, rb, h⟩ => ?_
  subst e
  unfold dMax2 at h
  split at h
  · cases ra; cases rb
    exact call_max2 hc pins s σ H _ us Q I r ⟨_, _, rfl, same st h (.int _)⟩
  · exact h.elim
theorem cMin2 (hc : X.calm = true) : CallR X (.builtin "min") (vRL (wd X G XC) E (on2 dMin2)) := by
  refine callR2 fun pins s σ H xs us Q I r ⟨x, y, e, a, b, S, α, st, ra, rb, h⟩ => ?_
  subst e
  unfold dMin2 at h
  split at h
  · cases ra; cases rb
    exact call_min2 hc pins s σ H _ us Q I r ⟨_, _, rfl, same st h (.int _)⟩
  · exact h.elim
/-- the items stand -/
theorem items_rd {W : Wd} {d : D} {x : V} {xs : List D} (st : StOk W H α S) (r : RD W H α d x) (h : itemsOf d S = some xs) : ∃ a vs, x = .ref a ∧ RDs W H α xs vs ∧ ((SqL W.K H a vs ∧ ∀ ys, d ≠ .tup ys) ∨ (SqT W.K H a vs ∧ d = .tup xs)) := by
  unfold itemsOf at h
  split at h
  · cases h
    cases r with
    | tup ha ra => exact ⟨_, _, rfl, ra, .inr ⟨ha, rfl⟩⟩
  · split at h
    · rename_i e1
      cases h
      cases r with
      | ref ha =>
        obtain ⟨vs, hq, rq⟩ := RC.sql (.inl (st.at_ _ _ _ e1 ha))
        exact ⟨_, vs, rfl, rq, .inl ⟨hq, fun _ z => by cases z⟩⟩
    · rename_i e1
      cases h
      cases r with
      | ref ha =>
        obtain ⟨vs, hq, rq⟩ := RC.sql (.inr (st.at_ _ _ _ e1 ha))
        exact ⟨_, vs, rfl, rq, .inl ⟨hq, fun _ z => by cases z⟩⟩
    · cases h
  · cases h
theorem list_rd {W : Wd} {d : D} {x : V} {xs : List D} (st : StOk W H α S) (r : RD W H α d x) (h : listOf? d S = some xs) : ∃ a vs, x = .ref a ∧ RDs W H α xs vs ∧ SqL W.K H a vs := by
  unfold listOf? at h
  split at h
  · split at h
    · rename_i e1
      cases h
      cases r with
      | ref ha =>
        obtain ⟨vs, hq, rq⟩ := RC.sql (.inl (st.at_ _ _ _ e1 ha))
        exact ⟨_, vs, rfl, rq, hq⟩
    · rename_i e1
      cases h
      cases r with
      | ref ha =>
        obtain ⟨vs, hq, rq⟩ := RC.sql (.inr (st.at_ _ _ _ e1 ha))
        exact ⟨_, vs, rfl, rq, hq⟩
    · cases h
  · cases h
theorem cTuple : CallR X (.type "tuple") (vRL (wd X G XC) E (on1 dTuple)) := by
  refine callR1 fun pins s σ H xs us Q I r ⟨x, e, a, S, α, st, ra, h⟩ => ?_
  subst e
  unfold dTuple at h
  split at h
  · rename_i ys e1
    obtain ⟨p, vs, rfl, rs, hh⟩ := items_rd st ra e1
    refine call_tuple_of pins s σ H _ us Q I r ⟨_, vs, rfl, ?_⟩
    rcases hh with ⟨hq, _⟩ | ⟨hq, _⟩
    · exact .inl ⟨hq, fun p hp => new_tup st rs h hp⟩
    · exact .inr ⟨hq, same st h (.tup hq rs)⟩
  · exact h.elim
theorem cList : CallR X (.type "list") (vRL (wd X G XC) E (on1 dList)) := by
  refine callR1 fun pins s σ H xs us Q I r ⟨x, e, a, S, α, st, ra, h⟩ => ?_
  subst e
  unfold dList at h
  split at h
  · rename_i ys e1
    obtain ⟨p, vs, rfl, rs, hh⟩ := items_rd st ra e1
    refine call_list_of pins s σ H _ us Q I r ⟨_, vs, rfl, ?_, fun p hp => new_lst st rs h hp⟩
    rcases hh with ⟨hq, _⟩ | ⟨hq, _⟩
    · exact .inl hq
    · exact .inr hq
  · exact h.elim
theorem bls_map {W : Wd} : ∀ {ds : List D} {ns : List Bool} {xs : List V}, bls ds = some ns → RDs W H α ds xs → xs = ns.map V.bl
  | [], ns, xs, h, r => by
    cases h
    cases r
    rfl
  | .bl i :: ds, ns, xs, h, r => by
    rw [bls, Option.map_eq_some_iff] at h
    obtain ⟨ms, h1, rfl⟩ := h
    cases r with
    | cons a b =>
      cases a
      rw [bls_map h1 b]
      rfl
  | .non :: _, _, _, h, _ => by cases h
  | .int _ :: _, _, _, h, _ => by cases h
  | .str _ :: _, _, _, h, _ => by cases h
  | .tup _ :: _, _, _, h, _ => by cases h
  | .ref _ :: _, _, _, h, _ => by cases h
  | .fn _ :: _, _, _, h, _ => by cases h
theorem cAll (hc : X.calm = true) : CallR X (.builtin "all") (vRL (wd X G XC) E (on1 dAll)) := by
  refine callR1 fun pins s σ H xs us Q I r ⟨x, e, a, S, α, st, ra, h⟩ => ?_
  subst e
  unfold dAll at h
  split at h
  · rename_i bs e1
    rw [Option.bind_eq_some_iff] at e1
    obtain ⟨ys, e1, e2⟩ := e1
    obtain ⟨p, vs, rfl, rs, hq⟩ := list_rd st ra e1
    rw [bls_map e2 rs] at hq
    exact cr_all hc pins s σ H _ us Q I r ⟨_, _, rfl, hq, same st h (.bl _)⟩
  · exact h.elim
theorem cAny (hc : X.calm = true) : CallR X (.builtin "any") (vRL (wd X G XC) E (on1 dAny)) := by
  refine callR1 fun pins s σ H xs us Q I r ⟨x, e, a, S, α, st, ra, h⟩ => ?_
  subst e
  unfold dAny at h
  split at h
  · rename_i bs e1
    rw [Option.bind_eq_some_iff] at e1
    obtain ⟨ys, e1, e2⟩ := e1
    obtain ⟨p, vs, rfl, rs, hq⟩ := list_rd st ra e1
    rw [bls_map e2 rs] at hq
    exact cr_any hc pins s σ H _ us Q I r ⟨_, _, rfl, hq, same st h (.bl _)⟩
  · exact h.elim
theorem cSum (hc : X.calm = true) : CallR X (.builtin "sum") (vRL (wd X G XC) E (on1 dSum)) := by
  refine callR1 fun pins s σ H xs us Q I r ⟨x, e, a, S, α, st, ra, h⟩ => ?_
  subst e
  unfold dSum at h
  split at h
  · rename_i bs e1
    rw [Option.bind_eq_some_iff] at e1
    obtain ⟨ys, e1, e2⟩ := e1
    obtain ⟨p, vs, rfl, rs, hq⟩ := list_rd st ra e1
    rw [ints_map e2 rs] at hq
    exact cr_sum hc pins s σ H _ us Q I r ⟨_, _, rfl, hq, same st h (.int _)⟩
  · exact h.elim
theorem kitTy (K : PySem.W.Frag) (u t : Ty) : PySem.W.kitOne K (.type u.name) (.type t.name) = some (u.sub t) := by
  cases u <;> cases t <;> exact kit_ty (by decide +kernel)
theorem kitNone (K : PySem.W.Frag) (t : Ty) : PySem.W.kitOne K (.type "NoneType") (.type t.name) = some false := by
  cases t <;> exact kit_ty (by decide +kernel)
theorem tyX_tup {K : PySem.W.Frag} {a : Addr} {xs : List V} (h : SqT K H a xs) : TyX K H (.ref a) (.type "tuple") := by
  rcases h with (h | ⟨o, h⟩) | ⟨o, its, n, h, c, _⟩
  · exact .base (.tup h)
  · exact .fTuple h
  · exact .kTuple h c
theorem tyX_lst {K : PySem.W.Frag} {a : Addr} {xs : List V} (h : SqL K H a xs) : TyX K H (.ref a) (.type "list") := by
  rcases h with (h | ⟨o, h⟩) | ⟨o, its, n, h, c, _⟩
  · exact .base (.lst h)
  · exact .base (.frz h)
  · exact .kList h c
/-- isinstance(x, T): the second argument is the type -/
theorem cIsi (t : Ty) : CallR X (.builtin "isinstance") (fun xs H Q => ∃ x, xs = [x, .ty t.name] ∧ vR1 (wd X G XC) E (dIsi t) x H Q) := by
  intro pins s σ H xs us Q I r ⟨x, e, a, S, α, st, ra, h⟩
  subst e
  unfold dIsi at h
  have fin : ∀ {u : Ty}, okM (wd X G XC) E H α (.ok (.bl (u.sub t)) S) (fun d _ H' α' => ∀ v, RD (wd X G XC) H' α' d v → Q v H') → TyX X.K H x (.type u.name) → wpAny (model X.prog X.w) X.A (call (.builtin "isinstance") us) (EP X pins σ Q) X.xe s := fun {u} h ty =>
    call_isi pins s σ H _ us Q I r ⟨x, _, _, _, _, rfl, .ty _, ty, kitTy X.K u t, same st h (.bl _)⟩
  split at h
  · rename_i u e1
    unfold tyOf at e1
    split at e1
    · cases e1
    · cases e1; cases ra; exact fin h (.base (.bl _))
    · cases e1; cases ra; exact fin h (.base (.int _))
    · cases e1; cases ra; exact fin h (.base (.str _))
    · cases e1
      cases ra with
      | tup ha _ => exact fin h (tyX_tup ha)
    · split at e1
      · rename_i e2
        cases e1
        cases ra with
        | ref ha =>
          obtain ⟨vs, hq, _⟩ := RC.sql (.inl (st.at_ _ _ _ e2 ha))
          exact fin h (tyX_lst hq)
      · rename_i e2
        cases e1
        cases ra with
        | ref ha =>
          obtain ⟨vs, hq, _⟩ := RC.sql (.inr (st.at_ _ _ _ e2 ha))
          exact fin h (tyX_lst hq)
      · rename_i e2
        cases e1
        cases ra with
        | ref ha =>
          have h1 := st.at_ _ _ _ e2 ha
          cases h1 with
          | dic q _ => exact fin h (.base (.dK q))
      · cases e1
    · cases e1
  · rename_i e1
    unfold tyOf at e1
    split at e1
    · cases ra
      exact call_isi pins s σ H _ us Q I r ⟨_, _, _, _, _, rfl, .ty _, .base .non, kitNone X.K t, same st h (.bl _)⟩
    · cases e1
    · cases e1
    · cases e1
    · cases e1
    · split at e1 <;> cases e1
    · cases e1
  · exact h.elim
/-! ### methods -/
def dAppend (o : D) (d : D) : M D := fun S => match o with
  | .ref n => match S[n]? with
    | some (.lst xs) => if xs.length < LINE then .ok .non (S.set n (.lst (xs ++ [d]))) else .bad
    | _ => .bad
  | _ => .bad
def dExtend (o : D) (d : D) : M D := fun S => match o, d with
  | .ref n, .ref m => match S[n]?, S[m]? with
    | some (.lst xs), some (.lst ys) => if xs.length + ys.length ≤ LINE then .ok .non (S.set n (.lst (xs ++ ys))) else .bad
    | _, _ => .bad
  | _, _ => .bad
def dPop (o : D) : M D := fun S => match o with
  | .ref n => match S[n]? with
    | some (.lst xs) => match xs[xs.length - 1]? with
      | some d => .ok d (S.set n (.lst xs.dropLast))
      | none => .bad
    | _ => .bad
  | _ => .bad
def dPopAt (o : D) (i : D) : M D := fun S => match o, i with
  | .ref n, .int i => match S[n]? with
    | some (.lst xs) => if -(2 ^ 63) ≤ i ∧ i < 2 ^ 63 then (match seqIndex? i xs.length with
      | some k => match xs[k]? with
        | some d => .ok d (S.set n (.lst (xs.eraseIdx k)))
        | none => .bad
      | none => .bad) else .bad
    | _ => .bad
  | _, _ => .bad
/-- a method's reading -/
def vRM (W : Wd) (E : XK) (f : D → List D → M D) : V → List V → Hp → VK → Prop := fun x xs H Q => ∃ a ds S α, StOk W H α S ∧ RD W H α a x ∧ RDs W H α ds xs ∧ okM W E H α (f a ds S) fun d _ H' α' => ∀ v, RD W H' α' d v → Q v H'
def m0 (f : D → M D) : D → List D → M D
  | a, [] => f a
  | _, _ => M.fail
def m1 (f : D → D → M D) : D → List D → M D
  | a, [b] => f a b
  | _, _ => M.fail
theorem mAppend : MtR X "list.append" (vRM (wd X G XC) E (m1 dAppend)) := by
  intro pins s σ H x xs v us Q I rx rs ⟨a, ds, S, α, st, ra, rd, h⟩
  match ds, rd, h with
  | [b], .cons rb .nil, h =>
    have h : okM (wd X G XC) E H α (dAppend a b S) _ := h
    unfold dAppend at h
    split at h
    · split at h
      · rename_i e1
        split at h
        · rename_i hz
          cases ra with
          | ref ha =>
            have h1 := st.at_ _ _ _ e1 ha
            cases h1 with
            | lst q r =>
              refine mt_append pins s σ H _ _ v us Q I rx rs ⟨_, _, _, rfl, rfl, q, by rw [line_eq, ← r.length]; exact hz, ?_⟩
              exact h _ _ (Step.write (List.mem_iff_getElem?.mpr ⟨_, ha⟩) q) (st.write ha e1 q (r.append (.cons rb .nil))) _ .non
        · exact h.elim
      · exact h.elim
    · exact h.elim
  | [], .nil, h => exact h.elim
  | _ :: _ :: _, .cons _ (.cons _ _), h => exact h.elim
theorem mExtend : MtR X "list.extend" (vRM (wd X G XC) E (m1 dExtend)) := by
  intro pins s σ H x xs v us Q I rx rs ⟨a, ds, S, α, st, ra, rd, h⟩
  match ds, rd, h with
  | [b], .cons rb .nil, h =>
    have h : okM (wd X G XC) E H α (dExtend a b S) _ := h
    unfold dExtend at h
    split at h
    · split at h
      · rename_i e1 e2
        split at h
        · rename_i hz
          cases ra with
          | ref ha =>
            cases rb with
            | ref hb =>
              have h1 := st.at_ _ _ _ e1 ha
              have h2 := st.at_ _ _ _ e2 hb
              cases h1 with
              | lst q r =>
                cases h2 with
                | lst q2 r2 =>
                  refine mt_extend pins s σ H _ _ v us Q I rx rs ⟨_, _, _, _, rfl, rfl, q, q2, by rw [line_eq, ← r.length, ← r2.length]; exact hz, ?_⟩
                  exact h _ _ (Step.write (List.mem_iff_getElem?.mpr ⟨_, ha⟩) q) (st.write ha e1 q (r.append r2)) _ .non
        · exact h.elim
      · exact h.elim
    · exact h.elim
  | [], .nil, h => exact h.elim
  | _ :: _ :: _, .cons _ (.cons _ _), h => exact h.elim
theorem mPop : MtR X "list.pop" (vRM (wd X G XC) E (m0 dPop)) := by
  intro pins s σ H x xs v us Q I rx rs ⟨a, ds, S, α, st, ra, rd, h⟩
  match ds, rd, h with
  | [], .nil, h =>
    have h : okM (wd X G XC) E H α (dPop a S) _ := h
    unfold dPop at h
    split at h
    · split at h
      · rename_i e1
        split at h
        · rename_i e2
          cases ra with
          | ref ha =>
            have h1 := st.at_ _ _ _ e1 ha
            cases h1 with
            | lst q r =>
              obtain ⟨w', e3, r3⟩ := r.get e2
              refine mt_pop pins s σ H _ _ v us Q I rx rs ⟨_, _, w', rfl, rfl, q, by rw [← r.length]; exact e3, ?_⟩
              exact h _ _ (Step.write (List.mem_iff_getElem?.mpr ⟨_, ha⟩) q) (st.write ha e1 q r.dropLast) _ (r3.mono (Step.write (List.mem_iff_getElem?.mpr ⟨_, ha⟩) q))
        · exact h.elim
      · exact h.elim
    · exact h.elim
  | _ :: _, .cons _ _, h => exact h.elim
theorem mPopAt : MtR X "list.pop" (vRM (wd X G XC) E (m1 dPopAt)) := by
  intro pins s σ H x xs v us Q I rx rs ⟨a, ds, S, α, st, ra, rd, h⟩
  match ds, rd, h with
  | [b], .cons rb .nil, h =>
    have h : okM (wd X G XC) E H α (dPopAt a b S) _ := h
    unfold dPopAt at h
    split at h
    · split at h
      · rename_i e1
        split at h
        · rename_i hz
          split at h
          · rename_i e2
            split at h
            · rename_i e3
              cases ra with
              | ref ha =>
                cases rb
                have h1 := st.at_ _ _ _ e1 ha
                cases h1 with
                | lst q r =>
                  obtain ⟨w', e4, r4⟩ := r.get e3
                  refine mt_popAt pins s σ H _ _ v us Q I rx rs ⟨_, _, _, _, w', rfl, rfl, q, hz.1, hz.2, by rw [← r.length]; exact e2, e4, ?_⟩
                  exact h _ _ (Step.write (List.mem_iff_getElem?.mpr ⟨_, ha⟩) q) (st.write ha e1 q (r.eraseIdx _)) _ (r4.mono (Step.write (List.mem_iff_getElem?.mpr ⟨_, ha⟩) q))
            · exact h.elim
          · exact h.elim
        · exact h.elim
      · exact h.elim
    · exact h.elim
  | [], .nil, h => exact h.elim
  | _ :: _ :: _, .cons _ (.cons _ _), h => exact h.elim
end
/-! ### repr, in -/
def dRepr (d : D) : M D := fun S => match d with
  | .int i => if i.natAbs.log2 < 1920 then .ok (.str (toString i)) S else .bad
  | .bl b => .ok (.str (if b then "True" else "False")) S
  | .non => .ok (.str "None") S
  | .str x => if (reprText x).length ≤ LINE then .ok (.str (reprText x)) S else .bad
  | d => match py FU S d with
    | some x => if (x.hasDict = false ∧ x.showable = true) ∧ x.shown.length ≤ LINE ∧ x.depth ≤ 64 then .ok (.str x.shown) S else .bad
    | none => .bad
def dIn (a b : D) : M D := fun S => match a, b with
  | .str x, .str y => .ok (.bl (!(Builtin.Str.occurrences y x 0 y.length 1).isEmpty)) S
  | a, .ref n => match py FU S a, py FU S (.ref n) with
    | some x, some (.list ys) => if shp x = true ∧ shp (.list ys) = true then .ok (.bl (ys.any fun z => PyData.eqv z x)) S else .bad
    | _, _ => .bad
  | _, _ => .bad
def dNotIn (a b : D) : M D := do let c ← dIn a b; dNot c
section
variable {X : Cx} {G XC : Nat → Option Addr} {E : XK} {H : Hp} {α : List Addr} {S : Store} {Q : VK}
theorem cRepr (hg : X.A.guards = some []) (hu : X.A.units + 64 < cLine) (hu2 : X.A.units + 66 < cLine) : CallR X (.builtin "repr") (vRL (wd X G XC) E (on1 dRepr)) := by
  refine callR1 fun pins s σ H xs us Q I r ⟨x, e, a, S, α, st, ra, h⟩ => ?_
  subst e
  obtain ⟨u, rfl, ru⟩ := vals1 r
  have deep : ∀ {b : Addr}, x = .ref b → okM (wd X G XC) E H α (match py FU S a with
    | some x => if (x.hasDict = false ∧ x.showable = true) ∧ x.shown.length ≤ LINE ∧ x.depth ≤ 64 then .ok (.str x.shown) S else .bad
    | none => .bad) (fun d _ H' α' => ∀ v, RD (wd X G XC) H' α' d v → Q v H') → wpAny (model X.prog X.w) X.A (call (.builtin "repr") [u]) (EP X pins σ Q) X.xe s := fun {b} hb h => by
    subst hb
    have ru : u = .ref b := ru
    subst ru
    split at h
    · rename_i z e1
      split at h
      · rename_i hz
        obtain ⟨⟨z1, z2⟩, z3, z4⟩ := hz
        obtain ⟨as, rd⟩ := Dp.reads I z _ _ ((dp_of st FU).1 _ _ _ e1 z1 ra) rfl
        exact repr_of_reads' rd z2 (PyData.noDict_hsm z1) hg (by omega) (fun _ _ e => e) (fun h' u tk hk => ⟨.str _, H, I.kept hk, ⟨_, rfl⟩, same st h (.str _)⟩) (by rw [line_eq]; exact z3)
      · exact h.elim
    · exact h.elim
  unfold dRepr at h
  split at h
  · cases ra
    split at h
    · rename_i hz
      obtain ⟨t, rfl⟩ := ru
      exact PySem.P.repr_of_int hz ⟨.str _, H, I.tok _, ⟨_, rfl⟩, same st h (.str _)⟩
    · exact h.elim
  · cases ra
    have ru : u = .bool _ := ru
    subst ru
    exact PySem.P.repr_of_bool ⟨.str _, H, I.tok _, ⟨_, rfl⟩, same st h (.str _)⟩
  · cases ra
    have ru : u = .none := ru
    subst ru
    exact PySem.P.repr_of_none ⟨.str _, H, I.tok _, ⟨_, rfl⟩, same st h (.str _)⟩
  · cases ra
    split at h
    · rename_i hz
      obtain ⟨t, rfl⟩ := ru
      exact PySem.P.repr_of_str ⟨.str _, H, I.tok _, ⟨_, rfl⟩, same st h (.str _)⟩ (by rw [line_eq]; exact hz)
    · exact h.elim
  · rename_i n1 n2 n3 n4
    cases ra with
    | non => exact (n3 rfl).elim
    | bl b => exact (n2 b rfl).elim
    | int i => exact (n1 i rfl).elim
    | str y => exact (n4 y rfl).elim
    | tup q rs => exact deep rfl h
    | ref q => exact deep rfl h
    | fn q => exact deep rfl h
theorem opIn (hu : X.A.units + 64 < cLine) (hu2 : X.A.units + 65 < cLine) : OpR X (compareOp .In) (vR2 (wd X G XC) E dIn) := by
  intro pins s σ H x y v u Q I rx ry ⟨a, b, S, α, st, ra, rb, h⟩
  unfold dIn at h
  split at h
  · cases ra; cases rb
    exact op_in_str pins s σ H _ _ v u Q I rx ry ⟨_, _, rfl, rfl, same st h (.bl _)⟩
  · split at h
    · rename_i x' ys e1 e2
      split at h
      · rename_i hs
        have d1 := (dp_of st FU).1 _ _ _ e1 (shp_nodict hs.1) ra
        have d2 := (dp_of st FU).1 _ _ _ e2 (shp_nodict hs.2) rb
        exact op_inD hu2 pins s σ H _ _ v u Q I rx ry ⟨_, _, d1, d2, hs.1, hs.2, same st h (.bl _)⟩
      · exact h.elim
    · exact h.elim
  · exact h.elim
theorem opNotIn (hu : X.A.units + 64 < cLine) (hu2 : X.A.units + 65 < cLine) : OpR X (compareOp .NotIn) (vR2 (wd X G XC) E dNotIn) := by
  intro pins s σ H x y v u Q I rx ry ⟨a, b, S, α, st, ra, rb, h⟩
  have h := okM.bind h
  have fin : ∀ {c : Bool}, okM (wd X G XC) E H α (.ok (.bl c) S) (fun b S1 H1 α1 => okM (wd X G XC) E H1 α1 (dNot b S1) fun d _ H' α' => ∀ v, RD (wd X G XC) H' α' d v → Q v H') → Q (.bl !c) H := fun {c} h => by
    have h2 := okM.ret st h
    exact same st h2 (.bl _)
  unfold dIn at h
  split at h
  · cases ra; cases rb
    exact op_notin_str pins s σ H _ _ v u Q I rx ry ⟨_, _, rfl, rfl, fin h⟩
  · split at h
    · rename_i x' ys e1 e2
      split at h
      · rename_i hs
        have d1 := (dp_of st FU).1 _ _ _ e1 (shp_nodict hs.1) ra
        have d2 := (dp_of st FU).1 _ _ _ e2 (shp_nodict hs.2) rb
        exact op_notInD hu2 pins s σ H _ _ v u Q I rx ry ⟨_, _, d1, d2, hs.1, hs.2, fin h⟩
      · exact h.elim
    · exact h.elim
  · exact h.elim
end
end Ev
namespace Ev
open PySem PySem.Spec PyProof.Rows L2
/-! ### the small language -/
inductive Bop where | add | sub | mul | div | mod | pow | shl | shr | and
  deriving DecidableEq
inductive Cop where | eq | ne | lt | le | gt | ge | is | isNot | in_ | notIn
  deriving DecidableEq
inductive Blt where | len | abs | int | str | max2 | min2 | tuple | list | all | any | sum | repr
  deriving DecidableEq
inductive Mth where | append | extend | pop | popAt
  deriving DecidableEq
/-- what a for, a comprehension walks -/
inductive IK where | seq | rng1 | rng2 | enum | zip
  deriving DecidableEq
/-- targets -/
inductive T where | nm (i : Nat) | tup (ts : List T)
inductive E where
  | var (i : Nat) | int (i : Int) | str (x : Str) | bl (b : Bool) | non
  | tup (es : List E) | lst (es : List E)
  | bin (o : Bop) (a b : E) | neg (a : E)
  | cmp (o : Cop) (a b : E) | chain (o p : Cop) (a b c : E)
  | and (a b : E) | or (a b : E) | not (a : E) | ife (c a b : E)
  | ix (a i : E) | slLo (a lo : E) | slHi (a hi : E) | slLH (a lo hi : E)
  | call (f : Nat) (es : List E) | callv (i : Nat) (es : List E)
  | blt (b : Blt) (es : List E) | isi (t : Ty) (a : E)
  | mth (m : Mth) (o : E) (es : List E)
  | lc (own : List Nat) (tg : T) (k : IK) (es : List E) (ifs : List E) (elt : E)
  | glob (d : D) | fnv (i : Nat) | bad
inductive St where
  | set (i : Nat) (e : E) | asg (t : T) (e : E) | par2 (i j : Nat) (a b : E) | par3 (i j k : Nat) (a b c : E)
  | sub (o i e : E) | drop (e : E) | ret (e : E) | retN
  | ife (c : E) (a b : List St) | whl (c : E) (b : List St) | for (t : T) (k : IK) (es : List E) (b : List St)
  | aug (i : Nat) (o : Bop) (e : E) | pass | brk | cont | raise (c : Nat)
inductive Fl where | nx | rt (d : D) | bk | ct
/-! ### what it does -/
def Bop.run : Bop → D → D → M D
  | .add => dAdd | .sub => dSub | .mul => dMul | .div => dDiv | .mod => dMod | .pow => dPow | .shl => dShl | .shr => dShr | .and => dAnd
def Cop.run : Cop → D → D → M D
  | .eq => dEq | .ne => dNe | .lt => dLt | .le => dLe | .gt => dGt | .ge => dGe | .is => dIs | .isNot => dIsNot | .in_ => dIn | .notIn => dNotIn
def Blt.run : Blt → List D → M D
  | .len => on1 dLen | .abs => on1 dAbs | .int => on1 dInt | .str => on1 dStr | .max2 => on2 dMax2 | .min2 => on2 dMin2 | .tuple => on1 dTuple | .list => on1 dList
  | .all => on1 dAll | .any => on1 dAny | .sum => on1 dSum | .repr => on1 dRepr
def Mth.run : Mth → D → List D → M D
  | .append => m1 dAppend | .extend => m1 dExtend | .pop => m0 dPop | .popAt => m1 dPopAt
def chk (p : Store → Bool) : M Unit := fun S => if p S = true then .ok () S else .bad
def isLst (d : D) (S : Store) : Bool := match d with
  | .ref n => match S[n]? with
    | some (.lst _) => true
    | some (.fro _) => true
    | _ => false
  | _ => false
def Mth.kd : Mth → D → Store → Bool
  | _ => isLst
def getV (env : Fr) (i : Nat) : M D := match env[i]? with
  | some (some d) => M.ret d
  | _ => M.fail
/-- a truth -/
def tru {α : Type} (d : D) (a b : M α) : M α := match d with
  | .bl true => a
  | .bl false => b
  | _ => M.fail
def dNeg (d : D) : M D := match d with
  | .int i => M.ret (.int (-i))
  | _ => M.fail
/-- x += e, x -= e: ints alone -/
def dAug (o : Bop) (d e : D) : M D := match o, d, e with
  | .add, .int i, .int j => M.ret (.int (i + j))
  | .sub, .int i, .int j => M.ret (.int (i - j))
  | _, _, _ => M.fail
def dPart (d : D) : M (Option Int) := match d with
  | .int i => M.ret (some i)
  | _ => M.fail
def onTup (n : Nat) (f : List D → M Fr) : D → M Fr
  | .tup ds => if ds.length = n then f ds else M.fail
  | _ => M.fail
mutual
/-- a value into a target -/
def T.put : T → D → Fr → M Fr
  | .nm i, d, env => M.ret (env.set i (some d))
  | .tup ts, d, env => onTup ts.length (fun ds => T.puts ts ds env) d
def T.puts : List T → List D → Fr → M Fr
  | [], [], env => M.ret env
  | [], _ :: _, _ => M.fail
  | t :: ts, d :: ds, env => do
    let env ← T.put t d env
    T.puts ts ds env
  | _ :: _, [], _ => M.fail
end
/-- the items that are walked, and what must stay -/
structure Its where
  ds : List D
  ok : Store → Prop
def seqIts (d : D) : M Its := fun S => match d with
  | .tup xs => .ok ⟨xs, fun _ => True⟩ S
  | .ref n => match S[n]? with
    | some (.lst xs) => .ok ⟨xs, fun S' => S'[n]? = some (.lst xs)⟩ S
    | some (.fro xs) => .ok ⟨xs, fun S' => S'[n]? = some (.fro xs)⟩ S
    | _ => .bad
  | _ => .bad
def rngOk (i j : Int) : Prop := -(2 ^ 62) ≤ i ∧ i < 2 ^ 62 ∧ -(2 ^ 62) ≤ j ∧ j < 2 ^ 62
instance (i j : Int) : Decidable (rngOk i j) := by unfold rngOk; infer_instance
def rngD (lo : Int) (n : Nat) : List D := (List.range n).map fun (k : Nat) => .int (lo + (k : Int))
def zipD : List D → List D → List D
  | x :: xs, y :: ys => .tup [x, y] :: zipD xs ys
  | _, _ => []
def enumD : Nat → List D → List D
  | _, [] => []
  | i, x :: xs => .tup [.int i, x] :: enumD (i + 1) xs
def rng1Its (d : D) : M Its := match d with
  | .int j => if rngOk 0 j then M.ret ⟨rngD 0 j.toNat, fun _ => True⟩ else M.fail
  | _ => M.fail
def rng2Its (a b : D) : M Its := match a, b with
  | .int i, .int j => if rngOk i j then M.ret ⟨rngD i (j - i).toNat, fun _ => True⟩ else M.fail
  | _, _ => M.fail
def enumIts (d : D) : M Its := match d with
  | .ref n => do
    let it ← seqIts (.ref n)
    M.ret ⟨enumD 0 it.ds, it.ok⟩
  | _ => M.fail
def zipIts (x y : D) : M Its := match x, y with
  | .ref n, .ref m => do
    let a ← seqIts (.ref n)
    let b ← seqIts (.ref m)
    M.ret ⟨zipD a.ds b.ds, fun S => a.ok S ∧ b.ok S⟩
  | .tup xs, .tup ys => M.ret ⟨zipD xs ys, fun _ => True⟩
  | _, _ => M.fail
def its1 (f : D → M Its) : List D → M Its
  | [d] => f d
  | _ => M.fail
def its2 (f : D → D → M Its) : List D → M Its
  | [d, e] => f d e
  | _ => M.fail
def IK.its : IK → List D → M Its
  | .seq => its1 seqIts
  | .rng1 => its1 rng1Its
  | .rng2 => its2 rng2Its
  | .enum => its1 enumIts
  | .zip => its2 zipIts
open Classical in
noncomputable def guard (p : Store → Prop) : M Unit := fun S => if p S then .ok () S else .bad
/-- a for -/
noncomputable def loopF (p : Store → Prop) (tgt : D → Fr → M Fr) (body : Fr → M (Fl × Fr)) : List D → Fr → M (Fl × Fr)
  | [], env => do
    guard p
    M.ret (.nx, env)
  | d :: ds, env => do
    guard p
    let env ← tgt d env
    let r ← body env
    match r.1 with
    | .nx => loopF p tgt body ds r.2
    | .ct => loopF p tgt body ds r.2
    | .bk => M.ret (.nx, r.2)
    | .rt d => M.ret (.rt d, r.2)
/-- a comprehension's items -/
noncomputable def lcF (p : Store → Prop) (tgt : D → Fr → M Fr) (cond elt : Fr → M D) (env : Fr) : List D → List D → M (List D)
  | [], acc => do
    guard p
    M.ret acc
  | d :: ds, acc => do
    guard p
    let e2 ← tgt d env
    let c ← cond e2
    tru c (do
      let x ← elt e2
      if acc.length < LINE then lcF p tgt cond elt env ds (acc ++ [x]) else M.fail) (lcF p tgt cond elt env ds acc)
/-- an exception may not leave a comprehension -/
def noexc {α : Type} (m : M α) : M α := fun S => match m S with
  | .ok a S' => .ok a S'
  | _ => .bad
def whileN (c : Fr → M D) (b : Fr → M (Fl × Fr)) : Nat → Fr → M (Fl × Fr)
  | 0, _ => M.fail
  | n + 1, env => do
    let t ← c env
    tru t (do
      let r ← b env
      match r.1 with
      | .nx => whileN c b n r.2
      | .ct => whileN c b n r.2
      | .bk => M.ret (.nx, r.2)
      | .rt d => M.ret (.rt d, r.2)) (M.ret (.nx, env))
def Res.isBad {α : Type} : Res α → Prop
  | .bad => True
  | _ => False
open Classical in
noncomputable def whileF (c : Fr → M D) (b : Fr → M (Fl × Fr)) (env : Fr) : M (Fl × Fr) := fun S =>
  if h : ∃ n, ¬ (whileN c b n env S).isBad then whileN c b h.choose env S else .bad
section
variable (C : Nat → List D → M D)
mutual
noncomputable def evE : E → Fr → M D
  | .var i, env => getV env i
  | .int i, _ => M.ret (.int i)
  | .str x, _ => M.ret (.str x)
  | .bl b, _ => M.ret (.bl b)
  | .non, _ => M.ret .non
  | .glob d, _ => M.ret d
  | .fnv i, _ => M.ret (.fn i)
  | .bad, _ => M.fail
  | .tup es, env => do
    let ds ← evEs es env
    if ds.length ≤ LINE then M.ret (.tup ds) else M.fail
  | .lst es, env => do
    let ds ← evEs es env
    if ds.length ≤ LINE then alloc (.lst ds) else M.fail
  | .bin o a b, env => do
    let x ← evE a env
    let y ← evE b env
    o.run x y
  | .neg a, env => do
    let x ← evE a env
    dNeg x
  | .cmp o a b, env => do
    let x ← evE a env
    let y ← evE b env
    o.run x y
  | .chain o p a b c, env => do
    let x ← evE a env
    let y ← evE b env
    let t ← o.run x y
    tru t (do
      let z ← evE c env
      p.run y z) (M.ret (.bl false))
  | .and a b, env => do
    let x ← evE a env
    tru x (evE b env) (M.ret (.bl false))
  | .or a b, env => do
    let x ← evE a env
    tru x (M.ret (.bl true)) (evE b env)
  | .not a, env => do
    let x ← evE a env
    dNot x
  | .ife c a b, env => do
    let x ← evE c env
    tru x (evE a env) (evE b env)
  | .ix a i, env => do
    let x ← evE a env
    let y ← evE i env
    dIx x y
  | .slLo a lo, env => do
    let x ← evE a env
    let l ← evE lo env
    let l ← dPart l
    dSl x l none
  | .slHi a hi, env => do
    let x ← evE a env
    let l ← evE hi env
    let l ← dPart l
    dSl x none l
  | .slLH a lo hi, env => do
    let x ← evE a env
    let l ← evE lo env
    let l ← dPart l
    let h ← evE hi env
    let h ← dPart h
    dSl x l h
  | .call f es, env => do
    let ds ← evEs es env
    C f ds
  | .callv i es, env => do
    let f ← getV env i
    match f with
    | .fn f => do
      let ds ← evEs es env
      C f ds
    | _ => M.fail
  | .blt b es, env => do
    let ds ← evEs es env
    b.run ds
  | .isi t a, env => do
    let x ← evE a env
    dIsi t x
  | .mth m o es, env => do
    let x ← evE o env
    chk (m.kd x)
    let ds ← evEs es env
    m.run x ds
  | .lc own tg k es ifs elt, env => do
    let it ← (do
      let ds ← evEs es env
      k.its ds)
    let xs ← noexc <| lcF it.ok tg.put (fun e => match ifs with
      | [] => M.ret (.bl true)
      | [c] => evE c e
      | _ => M.fail) (fun e => evE elt e) (wipeF env own) it.ds []
    alloc (.lst xs)
noncomputable def evEs : List E → Fr → M (List D)
  | [], _ => M.ret []
  | e :: es, env => do
    let d ← evE e env
    let ds ← evEs es env
    M.ret (d :: ds)
end
def par2 (i j : Nat) (ds : List D) (env : Fr) : M (Fl × Fr) := match ds with
  | [a, b] => M.ret (.nx, (env.set i (some a)).set j (some b))
  | _ => M.fail
def par3 (i j k : Nat) (ds : List D) (env : Fr) : M (Fl × Fr) := match ds with
  | [a, b, c] => M.ret (.nx, ((env.set i (some a)).set j (some b)).set k (some c))
  | _ => M.fail
/-- one behind the other -/
def seqM (m n : Fr → M (Fl × Fr)) (env : Fr) : M (Fl × Fr) := do
  let r ← m env
  match r.1 with
  | .nx => n r.2
  | f => M.ret (f, r.2)
mutual
noncomputable def evS : St → Fr → M (Fl × Fr)
  | .set i e, env => do
    let d ← evE C e env
    M.ret (.nx, env.set i (some d))
  | .asg t e, env => do
    let d ← evE C e env
    let env' ← t.put d env
    M.ret (.nx, env')
  | .par2 i j a b, env => do
    let ds ← evEs C [a, b] env
    par2 i j ds env
  | .par3 i j k a b c, env => do
    let ds ← evEs C [a, b, c] env
    par3 i j k ds env
  | .sub o i e, env => do
    let d ← evE C e env
    let o ← evE C o env
    let i ← evE C i env
    dSet o i d
    M.ret (.nx, env)
  | .drop e, env => do
    let _ ← evE C e env
    M.ret (.nx, env)
  | .ret e, env => do
    let d ← evE C e env
    M.ret (.rt d, env)
  | .retN, env => M.ret (.rt .non, env)
  | .ife c a b, env => do
    let t ← evE C c env
    tru t (evSs a env) (evSs b env)
  | .whl c b, env => whileF (evE C c) (evSs b) env
  | .for t k es b, env => do
    let it ← (do
      let ds ← evEs C es env
      k.its ds)
    loopF it.ok t.put (evSs b) it.ds env
  | .aug i o e, env => do
    let d ← getV env i
    let d2 ← evE C e env
    let d3 ← dAug o d d2
    M.ret (.nx, env.set i (some d3))
  | .pass, env => M.ret (.nx, env)
  | .brk, env => M.ret (.bk, env)
  | .cont, env => M.ret (.ct, env)
  | .raise _, _ => M.fail
noncomputable def evSs : List St → Fr → M (Fl × Fr)
  | [], env => M.ret (.nx, env)
  | s :: ss, env => seqM (evS s) (evSs ss) env
end
end
/-! ### a program -/
structure FD where
  ps : Nat
  slots : Nat
  body : List St
def fin : Fl → M D
  | .nx => M.ret .non
  | .rt d => M.ret d
  | _ => M.fail
/-- a call, so many calls deep at most -/
noncomputable def evF (P : Nat → Option FD) : Nat → Nat → List D → M D
  | 0, _, _ => M.fail
  | n + 1, f, ds => match P f with
    | none => M.fail
    | some fd => if ds.length = fd.ps then do
        let r ← evSs (evF P n) fd.body (ds.map some ++ List.replicate (fd.slots - ds.length) none)
        fin r.1
      else M.fail
end Ev
namespace Ev
open PySem PySem.Spec PyProof.Rows L2
/-! ### soundness of expressions -/
theorem PE.weak {X : Cx} {e : Expr} {t t' : TE} (h : PE X e t) (k : ∀ σ H Q, t' σ H Q → t σ H Q) : PE X e t' := ⟨fun pins s σ H Q I q => h.run pins s σ H Q I (k σ H Q q)⟩
theorem PT.weak {X : Cx} {e : Expr} {t t' : TT} (h : PT X e t) (k : ∀ σ H Q, t' σ H Q → t σ H Q) : PT X e t' := ⟨fun pins s σ H Q I q => h.run pins s σ H Q I (k σ H Q q)⟩
theorem PA.weak {X : Cx} {e : List Expr} {t t' : TA} (h : PA X e t) (k : ∀ σ H Q, t' σ H Q → t σ H Q) : PA X e t' := ⟨fun pos pins s σ H Q I q => h.run pos pins s σ H Q I (k σ H Q q)⟩
section
variable {W : Wd} {E : XK} {H H1 H2 : Hp} {α α1 α2 : List Addr} {S S1 : Store} {β γ : Type} {env : Fr} {σ : L2.St}
theorem tE.mono {m : Fr → M D} {Q Q' : VK} (h : tE W E m σ H Q) (k : ∀ v H', Q v H' → Q' v H') : tE W E m σ H Q' := by
  obtain ⟨env, S, α, st, re, h⟩ := h
  exact ⟨env, S, α, st, re, h.mono fun d S' H' α' _ _ q v r => k v H' (q v r)⟩
theorem tAs.mono {m : Fr → M (List D)} {Q Q' : List V → Hp → Prop} (h : tAs W E m σ H Q) (k : ∀ v H', Q v H' → Q' v H') : tAs W E m σ H Q' := by
  obtain ⟨env, S, α, st, re, h⟩ := h
  exact ⟨env, S, α, st, re, h.mono fun d S' H' α' _ _ q v r => k v H' (q v r)⟩
theorem tT.mono {m : Fr → M D} {Q Q' : Bool → Hp → Prop} (h : tT W E m σ H Q) (k : ∀ v H', Q v H' → Q' v H') : tT W E m σ H Q' := by
  obtain ⟨env, S, α, st, re, h⟩ := h
  exact ⟨env, S, α, st, re, h.mono fun d S' H' α' _ _ ⟨b, e, q⟩ => ⟨b, e, k b H' q⟩⟩
/-- the state ahead of what follows -/
abbrev At (W : Wd) (E : XK) (σ : L2.St) (env : Fr) (H : Hp) (α : List Addr) (P : D → Store → Hp → List Addr → Prop) (v : V) (H' : Hp) : Prop :=
  ∃ d S' α', Step W H α H' α' ∧ StOk W H' α' S' ∧ RE W H' α' env σ ∧ RD W H' α' d v ∧ P d S' H' α'
theorem tE_of {m : Fr → M D} {g : D → M β} {P : β → Store → Hp → List Addr → Prop} (st : StOk W H α S) (re : RE W H α env σ) (h : okM W E H α ((m env >>= g) S) P) :
    tE W E m σ H (At W E σ env H α fun d S' H' α' => okM W E H' α' (g d S') P) :=
  ⟨env, S, α, st, re, (okM.bind h).mono fun d S2 H2 α2 sp t h v r => ⟨d, S2, α2, sp, t, re.mono sp, r, h⟩⟩
theorem tE_end {m : Fr → M D} {P : D → Store → Hp → List Addr → Prop} (st : StOk W H α S) (re : RE W H α env σ) (h : okM W E H α (m env S) P) :
    tE W E m σ H (At W E σ env H α P) :=
  ⟨env, S, α, st, re, h.mono fun d S2 H2 α2 sp t h v r => ⟨d, S2, α2, sp, t, re.mono sp, r, h⟩⟩
theorem tAs_of {m : Fr → M (List D)} {g : List D → M β} {P : β → Store → Hp → List Addr → Prop} (st : StOk W H α S) (re : RE W H α env σ) (h : okM W E H α ((m env >>= g) S) P) :
    tAs W E m σ H (fun vs H' => ∃ ds S' α', Step W H α H' α' ∧ StOk W H' α' S' ∧ RE W H' α' env σ ∧ RDs W H' α' ds vs ∧ okM W E H' α' (g ds S') P) :=
  ⟨env, S, α, st, re, (okM.bind h).mono fun d S2 H2 α2 sp t h v r => ⟨d, S2, α2, sp, t, re.mono sp, r, h⟩⟩
theorem tT_of {m : Fr → M D} {a b : M β} {P : β → Store → Hp → List Addr → Prop} (st : StOk W H α S) (re : RE W H α env σ) (h : okM W E H α ((m env >>= fun d => tru d a b) S) P) :
    tT W E m σ H (fun c H' => ∃ S' α', Step W H α H' α' ∧ StOk W H' α' S' ∧ RE W H' α' env σ ∧ okM W E H' α' ((if c = true then a else b) S') P) := by
  refine ⟨env, S, α, st, re, (okM.bind h).mono fun d S2 H2 α2 sp t h => ?_⟩
  cases d with
  | bl k =>
    refine ⟨k, rfl, S2, α2, sp, t, re.mono sp, ?_⟩
    cases k with
    | true => rw [if_pos rfl]; exact h
    | false => rw [if_neg Bool.false_ne_true]; exact h
  | _ => exact h.elim
theorem okM.bnd_ret {m : M β} {P : β → Store → Hp → List Addr → Prop} (h : okM W E H α (m S) P) : okM W E H α ((m >>= fun d => M.ret d) S) P := by
  have e : (m >>= fun d => M.ret d) = m := by
    funext S
    show M.bnd m _ S = m S
    unfold M.bnd
    cases m S <;> rfl
  rw [e]
  exact h
end
section
variable {X : Cx} {G XC : Nat → Option Addr} {E : XK} {a b c e : Expr} {es : List Expr} {ma mb mc : Fr → M D} {pos : Pos}
/-- what every value tells as a test -/
theorem tT.of_tE {W : Wd} {E : XK} {m : Fr → M D} {σ : L2.St} {H : Hp} {Q : Bool → Hp → Prop} (h : tT W E m σ H Q) : tB (tE W E m) σ H Q := by
  obtain ⟨env, S, α, st, re, h⟩ := h
  refine ⟨env, S, α, st, re, h.mono fun d S' H' α' _ _ ⟨b, e, q⟩ v r => ?_⟩
  subst e
  cases r
  exact ⟨b, rfl, q⟩
theorem ptOf {e : Expr} {m : Fr → M D} (h : PE X e (tE (wd X G XC) E m)) (he : ∀ whole, isTrue e X.env whole = (do let v ← whole; standAt e.pos; holding [v] (truthy v))) : PT X e (tT (wd X G XC) E m) :=
  PT.weak (pt_val h he) fun _ _ _ q => tT.of_tE q
theorem eVar {i : Nat} {x : Str} (hN : X.N[i]? = some x) (hv : Vis X.env.scope x) (hd : (x == ("__debug__" : Str)) = false) (hcd : (x == ("__classdict__" : Str)) = false) : PE X (.Name x pos) (tE (wd X G XC) E fun env => getV env i) := by
  refine PE.weak (pe_var (i := i) hN hv hd hcd) fun σ H Q ⟨env, S, α, st, re, h⟩ => ?_
  have h : okM (wd X G XC) E H α (getV env i S) (fun d _ H' α' => ∀ v, RD (wd X G XC) H' α' d v → Q v H') := h
  unfold getV at h
  cases e : env[i]? with
  | none => rw [e] at h; exact h.elim
  | some o =>
    rw [e] at h
    cases o with
    | none => exact h.elim
    | some d =>
      obtain ⟨v, h1, h2⟩ := re.at_ i d e
      exact ⟨v, h1, h _ _ Step.refl st v h2⟩
theorem eConst {d : D} {v : V} (h : PE X e (tC v)) (r : ∀ H α, RD (wd X G XC) H α d v) : PE X e (tE (wd X G XC) E fun _ => M.ret d) :=
  PE.weak h fun σ H Q ⟨env, S, α, st, re, q⟩ => q _ _ Step.refl st v (r _ _)
theorem eBin {o : Operator} {f : D → D → M D} (ho : OpR X (binaryOp o) (vR2 (wd X G XC) E f)) (ha : PE X a (tE (wd X G XC) E ma)) (hb : PE X b (tE (wd X G XC) E mb)) :
    PE X (.BinOp a o b pos) (tE (wd X G XC) E fun env => do
      let x ← ma env
      let y ← mb env
      f x y) :=
  PE.weak (pe_op ho ha hb) fun σ H Q ⟨env, S, α, st, re, h⟩ => (tE_of st re h).mono fun x H1 ⟨d1, S1, α1, sp1, st1, re1, r1, h1⟩ =>
    (tE_of st1 re1 h1).mono fun y H2 ⟨d2, S2, α2, sp2, st2, re2, r2, h2⟩ => ⟨d1, d2, S2, α2, st2, r1.mono sp2, r2, h2⟩
theorem eCmp {o : CmpOp} {f : D → D → M D} (ho : OpR X (compareOp o) (vR2 (wd X G XC) E f)) (ha : PE X a (tE (wd X G XC) E ma)) (hb : PE X b (tE (wd X G XC) E mb)) (hm : behindInMarks o b = false) :
    PE X (.Compare a [o] [b] pos) (tE (wd X G XC) E fun env => do
      let x ← ma env
      let y ← mb env
      f x y) :=
  PE.weak (pe_cmpR ho ha hb hm) fun σ H Q ⟨env, S, α, st, re, h⟩ => (tE_of st re h).mono fun x H1 ⟨d1, S1, α1, sp1, st1, re1, r1, h1⟩ =>
    (tE_of st1 re1 h1).mono fun y H2 ⟨d2, S2, α2, sp2, st2, re2, r2, h2⟩ => ⟨d1, d2, S2, α2, st2, r1.mono sp2, r2, h2⟩
theorem eCmpT {o : CmpOp} {f : D → D → M D} (ho : OpR X (compareOp o) (vR2 (wd X G XC) E f)) (ha : PE X a (tE (wd X G XC) E ma)) (hb : PE X b (tE (wd X G XC) E mb)) (hm : behindInMarks o b = false) :
    PT X (.Compare a [o] [b] pos) (tT (wd X G XC) E fun env => do
      let x ← ma env
      let y ← mb env
      f x y) :=
  PT.weak (pt_cmpR ho ha hb hm) fun σ H Q ⟨env, S, α, st, re, h⟩ => (tE_of st re h).mono fun x H1 ⟨d1, S1, α1, sp1, st1, re1, r1, h1⟩ =>
    (tE_of st1 re1 h1).mono fun y H2 ⟨d2, S2, α2, sp2, st2, re2, r2, h2⟩ => ⟨d1, d2, S2, α2, st2, r1.mono sp2, r2, h2.mono fun d _ H' α' _ _ ⟨k, e, q⟩ v r => by
      subst e
      cases r
      exact ⟨k, rfl, q⟩⟩
/-- a truth that is handed on -/
theorem tru_bl {W : Wd} {E : XK} {H : Hp} {α : List Addr} {S : Store} {β : Type} {d : D} {v : V} {m n : M β} {P : β → Store → Hp → List Addr → Prop} (r : RD W H α d v) (h : okM W E H α (tru d m n S) P) : ∃ k, v = .bl k ∧ okM W E H α ((if k = true then m else n) S) P := by
  cases d with
  | bl k =>
    cases r
    refine ⟨k, rfl, ?_⟩
    cases k with
    | true => rw [if_pos rfl]; exact h
    | false => rw [if_neg Bool.false_ne_true]; exact h
  | _ => exact h.elim
theorem chain_core {W : Wd} {E : XK} {σ : L2.St} {H : Hp} {Q : VK} {f g : D → D → M D} (h : tE W E (fun env => do
      let x ← ma env
      let y ← mb env
      let t ← f x y
      tru t (do
        let z ← mc env
        g y z) (M.ret (.bl false))) σ H Q) : tChain (vR2 W E f) (vR2 W E g) (tE W E ma) (tE W E mb) (tE W E mc) σ H Q := by
  obtain ⟨env, S, α, st, re, h⟩ := h
  refine (tE_of st re h).mono fun x H1 ⟨d1, S1, α1, sp1, st1, re1, r1, h1⟩ => (tE_of st1 re1 h1).mono fun y H2 ⟨d2, S2, α2, sp2, st2, re2, r2, h2⟩ => ⟨d1, d2, S2, α2, st2, r1.mono sp2, r2, (okM.bind h2).mono fun d S3 H3 α3 sp3 st3 h3 v r3 => ?_⟩
  obtain ⟨k, rfl, h4⟩ := tru_bl r3 h3
  refine ⟨k, rfl, ?_⟩
  cases k with
  | false =>
    rw [if_neg Bool.false_ne_true] at h4 ⊢
    exact h4 _ _ Step.refl st3 _ (.bl _)
  | true =>
    rw [if_pos rfl] at h4 ⊢
    exact (tE_of st3 (re2.mono sp3) h4).mono fun z H4 ⟨d4, S4, α4, sp4, st4, re4, r4, h5⟩ => ⟨d2, d4, S4, α4, st4, (r2.mono sp3).mono sp4, r4, h5⟩
theorem eChain {o p : CmpOp} {f g : D → D → M D} (ho : OpR X (compareOp o) (vR2 (wd X G XC) E f)) (hp : OpR X (compareOp p) (vR2 (wd X G XC) E g)) (ha : PE X a (tE (wd X G XC) E ma)) (hb : PE X b (tE (wd X G XC) E mb)) (hc : PE X c (tE (wd X G XC) E mc))
    (hm : lastMarks [o, p] [b, c] = false) :
    PE X (.Compare a [o, p] [b, c] pos) (tE (wd X G XC) E fun env => do
      let x ← ma env
      let y ← mb env
      let t ← f x y
      tru t (do
        let z ← mc env
        g y z) (M.ret (.bl false))) :=
  PE.weak (pe_chain ho hp ha hb hc hm) fun σ H Q h => chain_core h
theorem eChainT {o p : CmpOp} {f g : D → D → M D} (ho : OpR X (compareOp o) (vR2 (wd X G XC) E f)) (hp : OpR X (compareOp p) (vR2 (wd X G XC) E g)) (ha : PE X a (tE (wd X G XC) E ma)) (hb : PE X b (tE (wd X G XC) E mb)) (hc : PE X c (tE (wd X G XC) E mc))
    (hm : lastMarks [o, p] [b, c] = false) :
    PT X (.Compare a [o, p] [b, c] pos) (tT (wd X G XC) E fun env => do
      let x ← ma env
      let y ← mb env
      let t ← f x y
      tru t (do
        let z ← mc env
        g y z) (M.ret (.bl false))) :=
  PT.weak (pt_chain ho hp ha hb hc hm) fun σ H Q h => chain_core (tT.of_tE h)
theorem eNeg (ha : PE X a (tE (wd X G XC) E ma)) : PE X (.UnaryOp .USub a pos) (tE (wd X G XC) E fun env => do
      let x ← ma env
      dNeg x) :=
  PE.weak (pe_un un_neg ha) fun σ H Q ⟨env, S, α, st, re, h⟩ => (tE_of st re h).mono fun x H1 ⟨d1, S1, α1, sp1, st1, re1, r1, h1⟩ => by
    cases d1 with
    | int i =>
      cases r1
      exact ⟨_, rfl, h1 _ _ Step.refl st1 _ (.int _)⟩
    | _ => exact h1.elim
theorem eNot (ha : PE X a (tE (wd X G XC) E ma)) : PE X (.UnaryOp .Not a pos) (tE (wd X G XC) E fun env => do
      let x ← ma env
      dNot x) :=
  PE.weak (pe_not ha) fun σ H Q ⟨env, S, α, st, re, h⟩ => (tE_of st re h).mono fun x H1 ⟨d1, S1, α1, sp1, st1, re1, r1, h1⟩ => by
    cases d1 with
    | bl k =>
      cases r1
      exact ⟨_, rfl, h1 _ _ Step.refl st1 _ (.bl _)⟩
    | _ => exact h1.elim
theorem eNotT (ha : PT X a (tT (wd X G XC) E ma)) : PT X (.UnaryOp .Not a pos) (tT (wd X G XC) E fun env => do
      let x ← ma env
      dNot x) :=
  PT.weak (pt_not ha) fun σ H Q ⟨env, S, α, st, re, h⟩ => ⟨env, S, α, st, re, (okM.bind h).mono fun d S1 H1 α1 sp1 st1 h1 => by
    cases d with
    | bl b =>
      obtain ⟨k, e, q⟩ := h1 _ _ Step.refl st1
      cases e
      exact ⟨_, rfl, q⟩
    | _ => exact h1.elim⟩
theorem eAnd {rest : List Expr} (ha : PE X a (tE (wd X G XC) E ma)) (hb : PE X (.BoolOp .And (b :: rest) pos) (tE (wd X G XC) E mb)) : PE X (.BoolOp .And (a :: b :: rest) pos) (tE (wd X G XC) E fun env => do
      let x ← ma env
      tru x (mb env) (M.ret (.bl false))) :=
  PE.weak (pe_and ha hb) fun σ H Q ⟨env, S, α, st, re, h⟩ => (tE_of st re h).mono fun x H1 ⟨d1, S1, α1, sp1, st1, re1, r1, h1⟩ => by
    obtain ⟨k, rfl, h2⟩ := tru_bl r1 h1
    refine ⟨k, rfl, ?_⟩
    cases k with
    | false =>
      rw [if_neg Bool.false_ne_true] at h2 ⊢
      exact h2 _ _ Step.refl st1 _ (.bl _)
    | true =>
      rw [if_pos rfl] at h2 ⊢
      exact ⟨env, S1, α1, st1, re1, h2⟩
theorem eOr {rest : List Expr} (ha : PE X a (tE (wd X G XC) E ma)) (hb : PE X (.BoolOp .Or (b :: rest) pos) (tE (wd X G XC) E mb)) : PE X (.BoolOp .Or (a :: b :: rest) pos) (tE (wd X G XC) E fun env => do
      let x ← ma env
      tru x (M.ret (.bl true)) (mb env)) :=
  PE.weak (pe_or ha hb) fun σ H Q ⟨env, S, α, st, re, h⟩ => (tE_of st re h).mono fun x H1 ⟨d1, S1, α1, sp1, st1, re1, r1, h1⟩ => by
    obtain ⟨k, rfl, h2⟩ := tru_bl r1 h1
    refine ⟨k, rfl, ?_⟩
    cases k with
    | true =>
      rw [if_pos rfl] at h2 ⊢
      exact h2 _ _ Step.refl st1 _ (.bl _)
    | false =>
      rw [if_neg Bool.false_ne_true] at h2 ⊢
      exact ⟨env, S1, α1, st1, re1, h2⟩
theorem eAndT {rest : List Expr} (ha : PT X a (tT (wd X G XC) E ma)) (hb : PW X (.BoolOp .And (b :: rest) pos) (tT (wd X G XC) E mb)) : PW X (.BoolOp .And (a :: b :: rest) pos) (tT (wd X G XC) E fun env => do
      let x ← ma env
      tru x (mb env) (M.ret (.bl false))) :=
  ⟨fun wh pins s σ H Q I ⟨env, S, α, st, re, h⟩ => (pw_and ha hb).run wh pins s σ H Q I <| (tT_of st re h).mono fun k H1 ⟨S1, α1, sp1, st1, re1, h2⟩ => by
    cases k with
    | false =>
      rw [if_neg Bool.false_ne_true] at h2 ⊢
      obtain ⟨k, e, q⟩ := h2 _ _ Step.refl st1
      cases e
      exact q
    | true =>
      rw [if_pos rfl] at h2 ⊢
      exact ⟨env, S1, α1, st1, re1, h2⟩⟩
theorem eOrT {rest : List Expr} (ha : PT X a (tT (wd X G XC) E ma)) (hb : PW X (.BoolOp .Or (b :: rest) pos) (tT (wd X G XC) E mb)) : PW X (.BoolOp .Or (a :: b :: rest) pos) (tT (wd X G XC) E fun env => do
      let x ← ma env
      tru x (M.ret (.bl true)) (mb env)) :=
  ⟨fun wh pins s σ H Q I ⟨env, S, α, st, re, h⟩ => (pw_or ha hb).run wh pins s σ H Q I <| (tT_of st re h).mono fun k H1 ⟨S1, α1, sp1, st1, re1, h2⟩ => by
    cases k with
    | true =>
      rw [if_pos rfl] at h2 ⊢
      obtain ⟨k, e, q⟩ := h2 _ _ Step.refl st1
      cases e
      exact q
    | false =>
      rw [if_neg Bool.false_ne_true] at h2 ⊢
      exact ⟨env, S1, α1, st1, re1, h2⟩⟩
theorem eIf (hc : PT X c (tT (wd X G XC) E mc)) (ha : PE X a (tE (wd X G XC) E ma)) (hb : PE X b (tE (wd X G XC) E mb)) : PE X (.IfExp c a b pos) (tE (wd X G XC) E fun env => do
      let x ← mc env
      tru x (ma env) (mb env)) :=
  PE.weak (pe_ifExp hc ha hb) fun σ H Q ⟨env, S, α, st, re, h⟩ => (tT_of st re h).mono fun k H1 ⟨S1, α1, sp1, st1, re1, h2⟩ => by
    cases k with
    | false =>
      rw [if_neg Bool.false_ne_true] at h2 ⊢
      exact ⟨env, S1, α1, st1, re1, h2⟩
    | true =>
      rw [if_pos rfl] at h2 ⊢
      exact ⟨env, S1, α1, st1, re1, h2⟩
theorem eIx (ha : PE X a (tE (wd X G XC) E ma)) (hb : PE X b (tE (wd X G XC) E mb)) (hs : PlainIx b) : PE X (.Subscript a b pos) (tE (wd X G XC) E fun env => do
      let x ← ma env
      let y ← mb env
      dIx x y) :=
  PE.weak (pe_ix ixAny ha hb hs) fun σ H Q ⟨env, S, α, st, re, h⟩ => (tE_of st re h).mono fun x H1 ⟨d1, S1, α1, sp1, st1, re1, r1, h1⟩ =>
    (tE_of st1 re1 h1).mono fun y H2 ⟨d2, S2, α2, sp2, st2, re2, r2, h2⟩ => ⟨d1, d2, S2, α2, st2, r1.mono sp2, r2, h2⟩
theorem dPart_int {W : Wd} {E : XK} {H : Hp} {α : List Addr} {S : Store} {β : Type} {d : D} {v : V} {g : Option Int → M β} {P : β → Store → Hp → List Addr → Prop} (st : StOk W H α S) (r : RD W H α d v) (h : okM W E H α ((dPart d >>= g) S) P) : ∃ i, v = .int i ∧ okM W E H α (g (some i) S) P := by
  have h := okM.bind h
  cases d with
  | int i =>
    cases r
    exact ⟨_, rfl, h _ _ Step.refl st⟩
  | _ => exact h.elim
theorem eSlLo {p2 : Pos} (ha : PE X a (tE (wd X G XC) E ma)) (hb : PE X b (tE (wd X G XC) E mb)) : PE X (.Subscript a (.Slice (some b) none none p2) pos) (tE (wd X G XC) E fun env => do
      let x ← ma env
      let l ← mb env
      let l ← dPart l
      dSl x l none) :=
  PE.weak (pe_slice slAny ha (po_some hb) po_none) fun σ H Q ⟨env, S, α, st, re, h⟩ => (tE_of st re h).mono fun x H1 ⟨d1, S1, α1, sp1, st1, re1, r1, h1⟩ =>
    (tE_of st1 re1 h1).mono fun y H2 ⟨d2, S2, α2, sp2, st2, re2, r2, h2⟩ => by
      obtain ⟨i, rfl, h3⟩ := dPart_int st2 r2 h2
      exact ⟨i, rfl, d1, S2, α2, st2, r1.mono sp2, h3⟩
theorem eSlHi {p2 : Pos} (ha : PE X a (tE (wd X G XC) E ma)) (hb : PE X b (tE (wd X G XC) E mb)) : PE X (.Subscript a (.Slice none (some b) none p2) pos) (tE (wd X G XC) E fun env => do
      let x ← ma env
      let l ← mb env
      let l ← dPart l
      dSl x none l) :=
  PE.weak (pe_slice slAny ha po_none (po_some hb)) fun σ H Q ⟨env, S, α, st, re, h⟩ => (tE_of st re h).mono fun x H1 ⟨d1, S1, α1, sp1, st1, re1, r1, h1⟩ =>
    (tE_of st1 re1 h1).mono fun y H2 ⟨d2, S2, α2, sp2, st2, re2, r2, h2⟩ => by
      obtain ⟨i, rfl, h3⟩ := dPart_int st2 r2 h2
      exact ⟨i, rfl, d1, S2, α2, st2, r1.mono sp2, h3⟩
theorem eSlLH {p2 : Pos} (ha : PE X a (tE (wd X G XC) E ma)) (hb : PE X b (tE (wd X G XC) E mb)) (hc : PE X c (tE (wd X G XC) E mc)) : PE X (.Subscript a (.Slice (some b) (some c) none p2) pos) (tE (wd X G XC) E fun env => do
      let x ← ma env
      let l ← mb env
      let l ← dPart l
      let h ← mc env
      let h ← dPart h
      dSl x l h) :=
  PE.weak (pe_slice slAny ha (po_some hb) (po_some hc)) fun σ H Q ⟨env, S, α, st, re, h⟩ => (tE_of st re h).mono fun x H1 ⟨d1, S1, α1, sp1, st1, re1, r1, h1⟩ =>
    (tE_of st1 re1 h1).mono fun y H2 ⟨d2, S2, α2, sp2, st2, re2, r2, h2⟩ => by
      obtain ⟨i, rfl, h3⟩ := dPart_int st2 r2 h2
      refine ⟨i, rfl, (tE_of st2 re2 h3).mono fun z H3 ⟨d3, S3, α3, sp3, st3, re3, r3, h4⟩ => ?_⟩
      obtain ⟨j, rfl, h5⟩ := dPart_int st3 r3 h4
      exact ⟨j, rfl, d1, S3, α3, st3, (r1.mono sp2).mono sp3, h5⟩
/-! ### argument lists -/
variable {ms : Fr → M (List D)}
theorem eNil : PA X [] (tAs (wd X G XC) E fun _ => M.ret []) := PA.weak pa_nil fun σ H Q ⟨env, S, α, st, re, h⟩ => h _ _ Step.refl st _ .nil
theorem eCons (ha : PE X a (tE (wd X G XC) E ma)) (hr : PA X es (tAs (wd X G XC) E ms)) (hs : starEach (a :: es) X.env = (false, eval a X.env) :: starEach es X.env) : PA X (a :: es) (tAs (wd X G XC) E fun env => do
      let d ← ma env
      let ds ← ms env
      M.ret (d :: ds)) :=
  PA.weak (pa_cons ha hr hs) fun σ H Q ⟨env, S, α, st, re, h⟩ => (tE_of st re h).mono fun x H1 ⟨d1, S1, α1, sp1, st1, re1, r1, h1⟩ =>
    (tAs_of st1 re1 h1).mono fun xs H2 ⟨ds, S2, α2, sp2, st2, re2, r2, h2⟩ => h2 _ _ Step.refl st2 _ (.cons (r1.mono sp2) r2)
theorem eTup {k : Nat} (h : PA X es (tAs (wd X G XC) E ms)) : PE X (.Tuple es k pos) (tE (wd X G XC) E fun env => do
      let ds ← ms env
      if ds.length ≤ LINE then M.ret (.tup ds) else M.fail) :=
  PE.weak (pe_tup h) fun σ H Q ⟨env, S, α, st, re, h⟩ => (tAs_of st re h).mono fun xs H2 ⟨ds, S2, α2, sp2, st2, re2, r2, h2⟩ => by
    split at h2
    · rename_i hz
      exact ⟨by rw [line_eq, ← r2.length]; exact hz, fun p hp => new_tup st2 r2 h2 hp⟩
    · exact h2.elim
theorem eLst (h : PA X es (tAs (wd X G XC) E ms)) : PE X (.List es pos) (tE (wd X G XC) E fun env => do
      let ds ← ms env
      if ds.length ≤ LINE then alloc (.lst ds) else M.fail) :=
  PE.weak (pe_lst h) fun σ H Q ⟨env, S, α, st, re, h⟩ => (tAs_of st re h).mono fun xs H2 ⟨ds, S2, α2, sp2, st2, re2, r2, h2⟩ => by
    split at h2
    · rename_i hz
      exact ⟨by rw [line_eq, ← r2.length]; exact hz, fun p hp => new_lst st2 r2 h2 hp⟩
    · exact h2.elim
/-- f(..), f a built-in -/
theorem eBltF {id : String} {x : Str} {p : Pos} {f : List D → M D} (hc : CallR X (.builtin id) (vRL (wd X G XC) E f)) (hg : Gl X x) (hm : X.mg x = none) (hv : bootBuiltins x = some (.builtin id)) (h : PA X (a :: es) (tAs (wd X G XC) E ms)) (hn : x ≠ "__name__") (hdb : (x == ("__debug__" : Str)) = false)
    (he : starEach (a :: es) X.env = (false, eval a X.env) :: starEach es X.env) (hpl : (backTo pos (starEach es X.env)).any (·.1) = false) : PE X (.Call (.Name x p) (a :: es) [] pos) (tE (wd X G XC) E fun env => do
      let ds ← ms env
      f ds) :=
  PE.weak (pe_callB hc hg hm hv h hn hdb he hpl) fun σ H Q ⟨env, S, α, st, re, h⟩ => (tAs_of st re h).mono fun xs H2 ⟨ds, S2, α2, sp2, st2, re2, r2, h2⟩ => ⟨ds, S2, α2, st2, r2, h2⟩
theorem eBltT {T : String} {x : Str} {p : Pos} {f : List D → M D} (hc : CallR X (.type T) (vRL (wd X G XC) E f)) (hg : Gl X x) (hm : X.mg x = none) (hv : bootBuiltins x = some (.type T)) (h : PA X (a :: es) (tAs (wd X G XC) E ms)) (hn : x ≠ "__name__") (hdb : (x == ("__debug__" : Str)) = false)
    (he : starEach (a :: es) X.env = (false, eval a X.env) :: starEach es X.env) (hpl : (backTo pos (starEach es X.env)).any (·.1) = false) : PE X (.Call (.Name x p) (a :: es) [] pos) (tE (wd X G XC) E fun env => do
      let ds ← ms env
      f ds) :=
  PE.weak (pe_callTy hc hg hm hv h hn hdb he hpl) fun σ H Q ⟨env, S, α, st, re, h⟩ => (tAs_of st re h).mono fun xs H2 ⟨ds, S2, α2, sp2, st2, re2, r2, h2⟩ => ⟨ds, S2, α2, st2, r2, h2⟩
/-- isinstance(a, T) -/
theorem eIsi {t : Ty} {x y : Str} {p p2 : Pos} (hx : x = "isinstance") (hg : Gl X x) (hm : X.mg x = none) (hy : bootBuiltins y = some (.type t.name)) (hgy : Gl X y) (hmy : X.mg y = none) (hny : y ≠ "__name__") (hdy : (y == ("__debug__" : Str)) = false) (ha : PE X a (tE (wd X G XC) E ma))
    (he : starEach [a, .Name y p2] X.env = (false, eval a X.env) :: starEach [.Name y p2] X.env) : PE X (.Call (.Name x p) [a, .Name y p2] [] pos) (tE (wd X G XC) E fun env => do
      let v ← ma env
      dIsi t v) := by
  subst hx
  refine PE.weak (pe_callB (cIsi (G := G) (XC := XC) (E := E) t) hg hm (by decide +kernel) (pa_cons ha (pa_cons (pe_bltn (v := .ty t.name) hgy hmy hy rfl hny hdy) pa_nil) he) (by decide) (by decide) he rfl) fun σ H Q ⟨env, S, α, st, re, h⟩ => ?_
  exact (tE_of st re h).mono fun v H1 ⟨d1, S1, α1, sp1, st1, re1, r1, h1⟩ => ⟨v, rfl, d1, S1, α1, st1, r1, h1⟩
/-! ### calls of the program's functions -/
theorem eCallG {x : Str} {p : Pos} {f : Addr} {g : List D → M D} (hc : CallR X (.ref f) (vRL (wd X G XC) E g)) (hg : Gl X x) (hm : X.mg x = some (.ref f)) (hk : PySem.W.keepIn X.K (.ref f) = true) (h : PA X (a :: es) (tAs (wd X G XC) E ms)) (hdb : (x == ("__debug__" : Str)) = false)
    (he : starEach (a :: es) X.env = (false, eval a X.env) :: starEach es X.env) (hpl : (backTo pos (starEach es X.env)).any (·.1) = false) : PE X (.Call (.Name x p) (a :: es) [] pos) (tE (wd X G XC) E fun env => do
      let ds ← ms env
      g ds) := by
  refine ⟨fun pins s σ H Q I ⟨env, S, α, st, re, q⟩ => wpAny_Call_Name_kw (ld_glob I hg hm ?_ hdb)⟩
  refine PySem.W.callWith_K I.ok.mod.kin hk ?_ he hpl
  exact thn (h.run pos pins s σ H _ I (tAs_of st re q)) fun us s1 ⟨vs, H1, I1, r, ds, S1, α1, sp1, st1, re1, r1, h1⟩ =>
    ⟨I1.kIn, hc pins s1 σ H1 vs us Q I1 r ⟨ds, S1, α1, st1, r1, h1⟩⟩
theorem eCallG0 {x : Str} {p : Pos} {f : Addr} {g : List D → M D} (hc : CallR X (.ref f) (vRL (wd X G XC) E g)) (hg : Gl X x) (hm : X.mg x = some (.ref f)) (hk : PySem.W.keepIn X.K (.ref f) = true) (hdb : (x == ("__debug__" : Str)) = false) : PE X (.Call (.Name x p) [] [] pos) (tE (wd X G XC) E fun _ => do
      let ds ← M.ret []
      g ds) := by
  refine ⟨fun pins s σ H Q I ⟨env, S, α, st, re, q⟩ => wpAny_Call_Name_kw (ld_glob I hg hm ?_ hdb)⟩
  exact PySem.W.callWith_K0 I.kIn hk (hc pins s σ H [] [] Q I .nil ⟨[], S, α, st, .nil, (okM.bind q) _ _ Step.refl st⟩)
/-- a local that holds a function -/
theorem eCallV {x : Str} {p : Pos} {i : Nat} {C : Nat → List D → M D} (hc : ∀ j f, G j = some f → CallR X (.ref f) (vRL (wd X G XC) E (C j)) ∧ PySem.W.keepIn X.K (.ref f) = true) (hN : X.N[i]? = some x) (hv : Vis X.env.scope x) (h : PA X (a :: es) (tAs (wd X G XC) E ms)) (hdb : (x == ("__debug__" : Str)) = false) (hcd : (x == ("__classdict__" : Str)) = false)
    (he : starEach (a :: es) X.env = (false, eval a X.env) :: starEach es X.env) (hpl : (backTo pos (starEach es X.env)).any (·.1) = false) : PE X (.Call (.Name x p) (a :: es) [] pos) (tE (wd X G XC) E fun env => do
      let f ← getV env i
      match f with
      | .fn f => do
        let ds ← ms env
        C f ds
      | _ => M.fail) := by
  refine ⟨fun pins s σ H Q I ⟨env, S, α, st, re, q⟩ => wpAny_Call_Name_kw ?_⟩
  refine thn ((eVar (pos := p) (G := G) (XC := XC) (E := E) hN hv hdb hcd).run pins s σ H _ I (tE_of st re q)) fun u s1 ⟨v, H1, I1, r1, d1, S1, α1, sp1, st1, re1, rd1, h1⟩ => ?_
  cases d1 with
  | fn j =>
    cases rd1 with
    | fn hj =>
      cases r1
      obtain ⟨hc1, hk⟩ := hc _ _ hj
      refine PySem.W.callWith_K I.ok.mod.kin hk ?_ he hpl
      exact thn (h.run pos pins s1 σ H1 _ I1 (tAs_of st1 re1 h1)) fun us s2 ⟨vs, H2, I2, r, ds, S2, α2, sp2, st2, re2, r2, h2⟩ =>
        ⟨I2.kIn, hc1 pins s2 σ H2 vs us Q I2 r ⟨ds, S2, α2, st2, r2, h2⟩⟩
  | _ => exact h1.elim
/-! ### methods -/
theorem chk_ok {W : Wd} {E : XK} {H : Hp} {α : List Addr} {S : Store} {β : Type} {p : Store → Bool} {g : Unit → M β} {P : β → Store → Hp → List Addr → Prop} (st : StOk W H α S) (h : okM W E H α ((chk p >>= g) S) P) : p S = true ∧ okM W E H α (g () S) P := by
  have h := okM.bind h
  unfold chk at h
  by_cases e : p S = true
  · rw [if_pos e] at h
    exact ⟨e, h _ _ Step.refl st⟩
  · rw [if_neg e] at h
    exact h.elim
theorem eMth0 {T id : String} {name : Str} {apos : Pos} {f : D → List D → M D} {kd : D → Store → Bool} (pa : PlainAttrs T) (slot : Slot T name id) (hty : typeOf (.builtin id) = pure (.type "method_descriptor")) (hm : MtR X id (vRM (wd X G XC) E f))
    (hT : ∀ {H : Hp} {α : List Addr} {S : Store} {d : D} {x : V}, StOk (wd X G XC) H α S → RD (wd X G XC) H α d x → kd d S = true → tyV X.K T x H)
    (ha : PE X a (tE (wd X G XC) E ma)) (hbase : attributeBase a name X.env (eval a X.env) = eval a X.env) (hline : (apos.endLine == pos.line) = true) : PE X (.Call (.Attribute a name apos) [] [] pos) (tE (wd X G XC) E fun env => do
      let x ← ma env
      chk (kd x)
      let ds ← M.ret []
      f x ds) :=
  PE.weak (pe_bm0 pa slot hty hm ha hbase hline) fun σ H Q ⟨env, S, α, st, re, h⟩ => (tE_of st re h).mono fun x H1 ⟨d1, S1, α1, sp1, st1, re1, r1, h1⟩ => by
    obtain ⟨k, h1⟩ := chk_ok st1 h1
    have h2 := okM.bind h1 _ _ Step.refl st1
    exact ⟨hT st1 r1 k, d1, [], S1, α1, st1, r1, .nil, h2⟩
theorem eMth {T id : String} {name : Str} {apos : Pos} {f : D → List D → M D} {kd : D → Store → Bool} (pa : PlainAttrs T) (slot : Slot T name id) (hty : typeOf (.builtin id) = pure (.type "method_descriptor")) (hm : MtR X id (vRM (wd X G XC) E f))
    (hT : ∀ {H : Hp} {α : List Addr} {S : Store} {d : D} {x : V}, StOk (wd X G XC) H α S → RD (wd X G XC) H α d x → kd d S = true → tyV X.K T x H)
    (ha : PE X a (tE (wd X G XC) E ma)) (hs : PA X (b :: es) (tAs (wd X G XC) E ms)) (hbase : attributeBase a name X.env (eval a X.env) = eval a X.env)
    (hfew : ((backTo pos (starEach (b :: es) X.env)).all (fun x => !x.1) && (backToKw pos (keywordEach [] X.env)).all (fun x => x.1.isSome)
      && decide ((b :: es).length + ([] : List Keyword).length + (if ([] : List Keyword).isEmpty then 0 else 1) < 30)) = true)
    (hline : (apos.endLine == pos.line) = true) (he : starEach (b :: es) X.env = (false, eval b X.env) :: starEach es X.env) (hpl : (backTo pos (starEach es X.env)).any (·.1) = false) : PE X (.Call (.Attribute a name apos) (b :: es) [] pos) (tE (wd X G XC) E fun env => do
      let x ← ma env
      chk (kd x)
      let ds ← ms env
      f x ds) :=
  PE.weak (pe_bm pa slot hty hm ha hs hbase hfew hline he hpl) fun σ H Q ⟨env, S, α, st, re, h⟩ => (tE_of st re h).mono fun x H1 ⟨d1, S1, α1, sp1, st1, re1, r1, h1⟩ => by
    obtain ⟨k, h1⟩ := chk_ok st1 h1
    exact ⟨hT st1 r1 k, ⟨env, S1, α1, st1, re1, (okM.bind h1).mono fun ds S2 H2 α2 sp2 st2 h2 vs r2 => ⟨d1, ds, S2, α2, st2, r1.mono sp2, r2, h2⟩⟩⟩
end
end Ev
namespace Ev
open PySem PySem.Spec PyProof.Rows L2
/-! ### what is walked -/
/-- an iterator of HandS's over such items, from a state on -/
structure ItOk (W : Wd) (H0 : Hp) (α0 : List Addr) (J : It) (it : Its) : Prop where
  go : ∀ i H α S, Step W H0 α0 H α → StOk W H α S → it.ok S → i < it.ds.length → J.go i H
  stop : ∀ i H α S, Step W H0 α0 H α → StOk W H α S → it.ok S → it.ds.length ≤ i → J.stop i H
  yld : ∀ i H α S x H', Step W H0 α0 H α → StOk W H α S → it.ok S → i < it.ds.length → J.yld i H x H' → ∃ d, it.ds[i]? = some d ∧ Step W H α H' α ∧ StOk W H' α S ∧ RD W H' α d x
def tI (W : Wd) (E : XK) (mi : Fr → M Its) : TI := fun σ H R => ∃ env S α, StOk W H α S ∧ RE W H α env σ ∧ okM W E H α (mi env S) fun it _ H' α' => ∀ J, ItOk W H' α' J it → R J H'
section
variable {W : Wd} {H : Hp} {α : List Addr} {S : Store}
theorem itl_ok {n : Nat} {a : Addr} {xs : List D} {c : Cell} (ha : α[n]? = some a) (hc : ∀ {H α}, RC W H α a c → ∃ vs, SqL W.K H a vs ∧ RDs W H α xs vs) : ItOk W H α (Itl W.K a) ⟨xs, fun S => S[n]? = some c⟩ where
  go := fun i H' α' S' sp st e hi => by
    obtain ⟨vs, q, r⟩ := hc (st.at_ n c a e (sp.at_ ha))
    obtain ⟨v, h1, _⟩ := r.get (List.getElem?_eq_getElem hi)
    exact ⟨vs, v, q, h1⟩
  stop := fun i H' α' S' sp st e hi => by
    obtain ⟨vs, q, r⟩ := hc (st.at_ n c a e (sp.at_ ha))
    exact ⟨vs, q, by rw [← r.length]; exact hi⟩
  yld := fun i H' α' S' x H2 sp st e hi y => by
    obtain ⟨vs, q, r⟩ := hc (st.at_ n c a e (sp.at_ ha))
    obtain ⟨rfl, f⟩ := y
    obtain ⟨d, h1, h2⟩ := r.getV (f vs q)
    exact ⟨d, h1, Step.refl, st, h2⟩
theorem itt_ok {a : Addr} {xs : List D} {vs : List V} (q : SqT W.K H a vs) (r : RDs W H α xs vs) : ItOk W H α (Itt W.K a) ⟨xs, fun _ => True⟩ where
  go := fun i H' α' S' sp st _ hi => by
    obtain ⟨v, h1, _⟩ := r.get (List.getElem?_eq_getElem hi)
    exact ⟨vs, v, sp.tups _ _ q, h1⟩
  stop := fun i H' α' S' sp st e hi => ⟨vs, sp.tups _ _ q, by rw [← r.length]; exact hi⟩
  yld := fun i H' α' S' x H2 sp st e hi y => by
    obtain ⟨rfl, f⟩ := y
    obtain ⟨d, h1, h2⟩ := r.getV (f vs (sp.tups _ _ q))
    exact ⟨d, h1, Step.refl, st, h2.mono sp⟩
theorem itr_ok {lo : Int} {n : Nat} : ItOk W H α (Itr lo n) ⟨rngD lo n, fun _ => True⟩ where
  go := fun i H' α' S' sp st _ hi => by
    show i < n
    simpa [rngD] using hi
  stop := fun i H' α' S' sp st e hi => by
    show n ≤ i
    simpa [rngD] using hi
  yld := fun i H' α' S' x H2 sp st e hi y => by
    obtain ⟨rfl, rfl⟩ := y
    have hi : i < n := by simpa [rngD] using hi
    exact ⟨.int (lo + (i : Int)), by simp [rngD, hi], Step.refl, st, .int _⟩
theorem enumD_len : ∀ (i : Nat) (xs : List D), (enumD i xs).length = xs.length
  | _, [] => rfl
  | i, x :: xs => by rw [enumD, List.length_cons, List.length_cons, enumD_len (i + 1) xs]
theorem enumD_get : ∀ (k : Nat) (xs : List D) (i : Nat) (d : D), xs[i]? = some d → (enumD k xs)[i]? = some (.tup [.int (k + i : Nat), d])
  | _, [], _, _, h => by simp at h
  | k, x :: xs, 0, d, h => by
    simp at h
    subst h
    rfl
  | k, x :: xs, i + 1, d, h => by
    have e := enumD_get (k + 1) xs i d (by simpa using h)
    rw [enumD, List.getElem?_cons_succ, e]
    have e2 : k + 1 + i = k + (i + 1) := by omega
    rw [e2]
theorem zipD_len : ∀ (xs ys : List D), (zipD xs ys).length = min xs.length ys.length
  | [], _ => by simp [zipD]
  | _ :: _, [] => by simp [zipD]
  | x :: xs, y :: ys => by rw [zipD, List.length_cons, zipD_len xs ys, List.length_cons, List.length_cons]; omega
theorem zipD_get : ∀ (xs ys : List D) (i : Nat) (d e : D), xs[i]? = some d → ys[i]? = some e → (zipD xs ys)[i]? = some (.tup [d, e])
  | [], _, _, _, _, h, _ => by simp at h
  | _ :: _, [], _, _, _, _, h => by simp at h
  | x :: xs, y :: ys, 0, d, e, h, h2 => by
    simp at h h2
    subst h h2
    rfl
  | x :: xs, y :: ys, i + 1, d, e, h, h2 => by
    rw [zipD, List.getElem?_cons_succ]
    exact zipD_get xs ys i d e (by simpa using h) (by simpa using h2)
theorem new_pair {H' : Hp} {T : Addr} {d e : D} {x y : V} (st : StOk W H α S) (hT : H T = none) (eH : H' = upd H T (.tup [x, y])) (r1 : RD W H α d x) (r2 : RD W H α e y) : Step W H α H' α ∧ StOk W H' α S ∧ RD W H' α (.tup [d, e]) (.ref T) := by
  subst eH
  have sp := Step.fresh (W := W) (α := α) (o := .tup [x, y]) hT
  exact ⟨sp, st.fresh hT, .tup (.inl (.inl upd_same)) (.cons (r1.mono sp) (.cons (r2.mono sp) .nil))⟩
theorem seqIts_lst {n : Nat} {xs : List D} (h : S[n]? = some (.lst xs)) : seqIts (.ref n) S = .ok ⟨xs, fun S' => S'[n]? = some (.lst xs)⟩ S := by
  unfold seqIts
  simp only [h]
theorem seqIts_fro {n : Nat} {xs : List D} (h : S[n]? = some (.fro xs)) : seqIts (.ref n) S = .ok ⟨xs, fun S' => S'[n]? = some (.fro xs)⟩ S := by
  unfold seqIts
  simp only [h]
theorem seqIts_dic {n : Nat} {xs : List (Key × D)} (h : S[n]? = some (.dic xs)) : seqIts (.ref n) S = .bad := by
  unfold seqIts
  simp only [h]
/-- what a list of the store gives -/
structure LOk (W : Wd) (a : Addr) (n : Nat) (xs : List D) (p : Store → Prop) (α : List Addr) : Prop where
  ha : α[n]? = some a
  at_ : ∀ {H α S}, StOk W H α S → α[n]? = some a → p S → ∃ vs, SqL W.K H a vs ∧ RDs W H α xs vs
theorem seq_lok {E : XK} {n : Nat} {x : V} {β : Type} {g : Its → M β} {P : β → Store → Hp → List Addr → Prop} (st : StOk W H α S) (r : RD W H α (.ref n) x) (h : okM W E H α ((seqIts (.ref n) >>= g) S) P) :
    ∃ a it, x = .ref a ∧ LOk W a n it.ds it.ok α ∧ it.ok S ∧ okM W E H α (g it S) P := by
  cases r with
  | ref ha =>
    obtain ⟨c, h1, h2⟩ := st.cell ha
    have h := okM.bind h
    cases c with
    | lst xs =>
      rw [seqIts_lst h1] at h
      exact ⟨_, ⟨xs, fun S' => S'[n]? = some (.lst xs)⟩, rfl, ⟨ha, fun st e q => RC.sql (.inl (st.at_ _ _ _ q e))⟩, h1, h _ _ Step.refl st⟩
    | fro xs =>
      rw [seqIts_fro h1] at h
      exact ⟨_, ⟨xs, fun S' => S'[n]? = some (.fro xs)⟩, rfl, ⟨ha, fun st e q => RC.sql (.inr (st.at_ _ _ _ q e))⟩, h1, h _ _ Step.refl st⟩
    | dic kvs =>
      rw [seqIts_dic h1] at h
      exact h.elim
theorem LOk.it {a : Addr} {n : Nat} {xs : List D} {p : Store → Prop} (l : LOk W a n xs p α) : ItOk W H α (Itl W.K a) ⟨xs, p⟩ where
  go := fun i H' α' S' sp st e hi => by
    obtain ⟨vs, q, r⟩ := l.at_ st (sp.at_ l.ha) e
    obtain ⟨v, h1, _⟩ := r.get (List.getElem?_eq_getElem hi)
    exact ⟨vs, v, q, h1⟩
  stop := fun i H' α' S' sp st e hi => by
    obtain ⟨vs, q, r⟩ := l.at_ st (sp.at_ l.ha) e
    exact ⟨vs, q, by rw [← r.length]; exact hi⟩
  yld := fun i H' α' S' x H2 sp st e hi y => by
    obtain ⟨vs, q, r⟩ := l.at_ st (sp.at_ l.ha) e
    obtain ⟨rfl, f⟩ := y
    obtain ⟨d, h1, h2⟩ := r.getV (f vs q)
    exact ⟨d, h1, Step.refl, st, h2⟩
theorem LOk.enum {a : Addr} {n : Nat} {xs : List D} {p : Store → Prop} (l : LOk W a n xs p α) : ItOk W H α (Ite W.K a) ⟨enumD 0 xs, p⟩ where
  go := fun i H' α' S' sp st e hi => by
    obtain ⟨vs, q, r⟩ := l.at_ st (sp.at_ l.ha) e
    have hi : i < xs.length := by rw [← enumD_len 0 xs]; exact hi
    obtain ⟨v, h1, _⟩ := r.get (List.getElem?_eq_getElem hi)
    exact ⟨vs, v, q, h1⟩
  stop := fun i H' α' S' sp st e hi => by
    obtain ⟨vs, q, r⟩ := l.at_ st (sp.at_ l.ha) e
    have hi : xs.length ≤ i := by rw [← enumD_len 0 xs]; exact hi
    exact ⟨vs, q, by rw [← r.length]; exact hi⟩
  yld := fun i H' α' S' x H2 sp st e hi y => by
    obtain ⟨vs, q, r⟩ := l.at_ st (sp.at_ l.ha) e
    obtain ⟨T, x', rfl, hT, eH, f⟩ := y
    obtain ⟨d, h1, h2⟩ := r.getV (f vs q)
    have h3 := enumD_get 0 xs i d h1
    rw [Nat.zero_add] at h3
    exact ⟨_, h3, new_pair st hT eH (.int _) h2⟩
theorem LOk.zip {a b : Addr} {n m : Nat} {xs ys : List D} {p p2 : Store → Prop} (l : LOk W a n xs p α) (l2 : LOk W b m ys p2 α) : ItOk W H α (Itz W.K a b) ⟨zipD xs ys, fun S => p S ∧ p2 S⟩ where
  go := fun i H' α' S' sp st e hi => by
    obtain ⟨vs, q, r⟩ := l.at_ st (sp.at_ l.ha) e.1
    obtain ⟨vs2, q2, r2⟩ := l2.at_ st (sp.at_ l2.ha) e.2
    have hi : i < min xs.length ys.length := by rw [← zipD_len]; exact hi
    obtain ⟨v, h1, _⟩ := r.get (List.getElem?_eq_getElem (show i < xs.length by omega))
    obtain ⟨v2, h2, _⟩ := r2.get (List.getElem?_eq_getElem (show i < ys.length by omega))
    exact ⟨vs, vs2, v, v2, q, q2, h1, h2⟩
  stop := fun i H' α' S' sp st e hi => by
    obtain ⟨vs, q, r⟩ := l.at_ st (sp.at_ l.ha) e.1
    obtain ⟨vs2, q2, r2⟩ := l2.at_ st (sp.at_ l2.ha) e.2
    have hi : min xs.length ys.length ≤ i := by rw [← zipD_len]; exact hi
    exact ⟨vs, vs2, q, q2, by rw [← r.length, ← r2.length]; omega⟩
  yld := fun i H' α' S' x H2 sp st e hi y => by
    obtain ⟨vs, q, r⟩ := l.at_ st (sp.at_ l.ha) e.1
    obtain ⟨vs2, q2, r2⟩ := l2.at_ st (sp.at_ l2.ha) e.2
    obtain ⟨T, x', y', rfl, hT, eH, f, f2⟩ := y
    obtain ⟨d, h1, h2⟩ := r.getV (f vs q)
    obtain ⟨d2, h3, h4⟩ := r2.getV (f2 vs2 q2)
    exact ⟨_, zipD_get _ _ _ _ _ h1 h3, new_pair st hT eH h2 h4⟩
theorem zipT_ok {a b : Addr} {xs ys : List D} {vs vs2 : List V} (q : SqT W.K H a vs) (r : RDs W H α xs vs) (q2 : SqT W.K H b vs2) (r2 : RDs W H α ys vs2) : ItOk W H α (RZ.ItzT W.K a b) ⟨zipD xs ys, fun _ => True⟩ where
  go := fun i H' α' S' sp st _ hi => by
    have hi : i < min xs.length ys.length := by rw [← zipD_len]; exact hi
    obtain ⟨v, h1, _⟩ := r.get (List.getElem?_eq_getElem (show i < xs.length by omega))
    obtain ⟨v2, h2, _⟩ := r2.get (List.getElem?_eq_getElem (show i < ys.length by omega))
    exact ⟨vs, vs2, v, v2, sp.tups _ _ q, sp.tups _ _ q2, h1, h2⟩
  stop := fun i H' α' S' sp st e hi => by
    have hi : min xs.length ys.length ≤ i := by rw [← zipD_len]; exact hi
    exact ⟨vs, vs2, sp.tups _ _ q, sp.tups _ _ q2, by rw [← r.length, ← r2.length]; omega⟩
  yld := fun i H' α' S' x H2 sp st e hi y => by
    obtain ⟨T, x', y', rfl, hT, eH, f, f2⟩ := y
    obtain ⟨d, h1, h2⟩ := r.getV (f vs (sp.tups _ _ q))
    obtain ⟨d2, h3, h4⟩ := r2.getV (f2 vs2 (sp.tups _ _ q2))
    exact ⟨_, zipD_get _ _ _ _ _ h1 h3, new_pair st hT eH (h2.mono sp) (h4.mono sp)⟩
end
section
variable {X : Cx} {G XC : Nat → Option Addr} {E : XK} {a b c e tg : Expr} {es : List Expr} {ma mb mc : Fr → M D} {ms : Fr → M (List D)} {pos p tpos : Pos}
theorem iSeq (he : PE X e (tE (wd X G XC) E ma)) : PI X tg e (tI (wd X G XC) E fun env => do
      let d ← ma env
      seqIts d) := by
  refine ⟨fun pins s σ H R I ⟨env, S, α, st, re, h⟩ => thn (he.run pins s σ H _ I (tE_of st re h)) fun v s1 ⟨x, H1, I1, r1, d1, S1, α1, sp1, st1, re1, rd1, h1⟩ => ?_⟩
  cases d1 with
  | tup xs =>
    cases rd1 with
    | tup q r =>
      cases r1
      obtain ⟨its, _, t, _⟩ := I1.tuple q
      refine wpAny_pyIter_tuple (items := its.toArray) t ?_
      exact pi_one I1 _ (turn_tuple _ _) ⟨_, Heap.get?_push_size _ rfl, rfl, rfl⟩ (h1 _ _ Step.refl st1 _ (itt_ok q r))
  | ref n =>
    obtain ⟨ad, it, rfl, l, hit, h2⟩ := seq_lok st1 rd1 (okM.bnd_ret h1)
    cases r1
    obtain ⟨vs, q, _⟩ := l.at_ st1 l.ha hit
    obtain ⟨its, _, t, _⟩ := I1.list q
    refine wpAny_pyIter_list t.isList ?_
    exact pi_one I1 _ (turn_list _ _) ⟨_, Heap.get?_push_size _ rfl, rfl, rfl⟩ (h2 _ _ Step.refl st1 _ l.it)
  | _ => exact h1.elim
theorem one_of {W : Wd} {E : XK} {H : Hp} {α : List Addr} {S : Store} {f : D → M Its} {P : Its → Store → Hp → List Addr → Prop} {ds : List D} {vs : List V} (r : RDs W H α ds vs) (h : okM W E H α (its1 f ds S) P) : ∃ d v, vs = [v] ∧ RD W H α d v ∧ okM W E H α (f d S) P := by
  match ds, r, h with
  | [d], .cons a .nil, h => exact ⟨d, _, rfl, a, h⟩
  | [], _, h => exact h.elim
  | _ :: _ :: _, _, h => exact h.elim
theorem two_of {W : Wd} {E : XK} {H : Hp} {α : List Addr} {S : Store} {f : D → D → M Its} {P : Its → Store → Hp → List Addr → Prop} {ds : List D} {vs : List V} (r : RDs W H α ds vs) (h : okM W E H α (its2 f ds S) P) : ∃ d v e u, vs = [v, u] ∧ RD W H α d v ∧ RD W H α e u ∧ okM W E H α (f d e S) P := by
  match ds, r, h with
  | [d, e], .cons a (.cons b .nil), h => exact ⟨d, _, e, _, rfl, a, b, h⟩
  | [], _, h => exact h.elim
  | [_], _, h => exact h.elim
  | _ :: _ :: _ :: _, _, h => exact h.elim
theorem iRng1 (hg : Gl X "range") (hm : X.mg "range" = none) (ha : PA X [a] (tAs (wd X G XC) E ms)) (hs : starEach [a] X.env = [(false, eval a X.env)]) : PI X tg (.Call (.Name "range" p) [a] [] pos) (tI (wd X G XC) E fun env => do
      let ds ← ms env
      its1 rng1Its ds) := by
  refine ⟨fun pins s σ H R I ⟨env, S, α, st, re, h⟩ => (pi_range1 hg hm ha hs).run pins s σ H R I ((tAs_of st re h).mono fun vs H1 ⟨ds, S1, α1, sp1, st1, re1, rd1, h1⟩ => ?_)⟩
  obtain ⟨d, v, rfl, r, h1⟩ := one_of rd1 h1
  cases d with
  | int j =>
    cases r
    by_cases hj : rngOk 0 j
    · simp only [rng1Its, if_pos hj] at h1
      exact ⟨j, rfl, hj.2.2.1, hj.2.2.2, h1 _ _ Step.refl st1 _ itr_ok⟩
    · simp only [rng1Its, if_neg hj] at h1
      exact h1.elim
  | _ => exact h1.elim
theorem iRng2 (hg : Gl X "range") (hm : X.mg "range" = none) (ha : PA X [a, b] (tAs (wd X G XC) E ms)) (hs : starEach [a, b] X.env = [(false, eval a X.env), (false, eval b X.env)]) (hs2 : starEach [b] X.env = [(false, eval b X.env)]) : PI X tg (.Call (.Name "range" p) [a, b] [] pos) (tI (wd X G XC) E fun env => do
      let ds ← ms env
      its2 rng2Its ds) := by
  refine ⟨fun pins s σ H R I ⟨env, S, α, st, re, h⟩ => (pi_range2 hg hm ha hs hs2).run pins s σ H R I ((tAs_of st re h).mono fun vs H1 ⟨ds, S1, α1, sp1, st1, re1, rd1, h1⟩ => ?_)⟩
  obtain ⟨d, v, e, u, rfl, r, r2, h1⟩ := two_of rd1 h1
  cases d with
  | int i =>
    cases e with
    | int j =>
      cases r
      cases r2
      by_cases hj : rngOk i j
      · simp only [rng2Its, if_pos hj] at h1
        exact ⟨i, j, rfl, hj, h1 _ _ Step.refl st1 _ itr_ok⟩
      · simp only [rng2Its, if_neg hj] at h1
        exact h1.elim
    | _ => exact h1.elim
  | _ => exact h1.elim
theorem iEnm {elts : List Expr} {kk : Nat} (hg : Gl X "enumerate") (hm : X.mg "enumerate" = none) (ha : PA X [a] (tAs (wd X G XC) E ms)) (hs : starEach [a] X.env = [(false, eval a X.env)]) : PI X (.Tuple elts kk tpos) (.Call (.Name "enumerate" p) [a] [] pos) (tI (wd X G XC) E fun env => do
      let ds ← ms env
      its1 enumIts ds) := by
  refine ⟨fun pins s σ H R I ⟨env, S, α, st, re, h⟩ => (pi_enum hg hm ha hs).run pins s σ H R I ((tAs_of st re h).mono fun vs H1 ⟨ds, S1, α1, sp1, st1, re1, rd1, h1⟩ => ?_)⟩
  obtain ⟨d, v, rfl, r, h1⟩ := one_of rd1 h1
  cases d with
  | ref n =>
    have h1 : okM (wd X G XC) E H1 α1 ((seqIts (.ref n) >>= fun it => M.ret (Its.mk (enumD 0 it.ds) it.ok)) S1) _ := h1
    obtain ⟨ad, it, rfl, l, hit, h2⟩ := seq_lok st1 r h1
    obtain ⟨vs, q, _⟩ := l.at_ st1 l.ha hit
    exact ⟨ad, vs, rfl, q, h2 _ _ Step.refl st1 _ l.enum⟩
  | _ => exact h1.elim
theorem iZip {elts : List Expr} {kk : Nat} (hg : Gl X "zip") (hm : X.mg "zip" = none) (ha : PA X [a, b] (tAs (wd X G XC) E ms)) (hs : starEach [a, b] X.env = (false, eval a X.env) :: starEach [b] X.env) (hpl : (backTo pos (starEach [b] X.env)).any (·.1) = false) : PI X (.Tuple elts kk tpos) (.Call (.Name "zip" p) [a, b] [] pos) (tI (wd X G XC) E fun env => do
      let ds ← ms env
      its2 zipIts ds) := by
  refine ⟨fun pins s σ H R I ⟨env, S, α, st, re, h⟩ => (RZ.pi_zipA hg hm ha hs hpl).run pins s σ H R I ((tAs_of st re h).mono fun vs H1 ⟨ds, S1, α1, sp1, st1, re1, rd1, h1⟩ => ?_)⟩
  obtain ⟨d, v, e, u, rfl, r, r2, h1⟩ := two_of rd1 h1
  cases d with
  | ref n =>
    cases e with
    | ref m =>
      have h1 : okM (wd X G XC) E H1 α1 ((seqIts (.ref n) >>= fun it => seqIts (.ref m) >>= fun it2 => M.ret (Its.mk (zipD it.ds it2.ds) (fun S => it.ok S ∧ it2.ok S))) S1) _ := h1
      obtain ⟨ad, it, rfl, l, hit, h2⟩ := seq_lok st1 r h1
      obtain ⟨ad2, it2, rfl, l2, hit2, h3⟩ := seq_lok st1 r2 h2
      obtain ⟨vs, q, _⟩ := l.at_ st1 l.ha hit
      obtain ⟨vs2, q2, _⟩ := l2.at_ st1 l2.ha hit2
      exact ⟨ad, ad2, vs, vs2, rfl, .inl ⟨q, q2, h3 _ _ Step.refl st1 _ (l.zip l2)⟩⟩
    | _ => exact h1.elim
  | tup xs =>
    cases e with
    | tup ys =>
      cases r with
      | tup q rq =>
        cases r2 with
        | tup q2 rq2 => exact ⟨_, _, _, _, rfl, .inr ⟨q, q2, h1 _ _ Step.refl st1 _ (zipT_ok q rq q2 rq2)⟩⟩
    | _ => exact h1.elim
  | _ => exact h1.elim
/-! ### targets -/
/-- what the slots' stores keep: a reflexive, transitive relation -/
structure Rl where
  r : L2.St → L2.St → Prop
  rf : ∀ σ, r σ σ
  tr : ∀ σ1 σ2 σ3, r σ1 σ2 → r σ2 σ3 → r σ1 σ3
def Rl.any : Rl := ⟨fun _ _ => True, fun _ => trivial, fun _ _ _ _ _ => trivial⟩
/-- all but the slots at vs -/
def Rl.but (vs : List Nat) : Rl := ⟨fun σ σ' => L2.wipe σ' vs = L2.wipe σ vs, fun _ => rfl, fun _ _ _ a b => b.trans a⟩
def tG (Rr : Rl) (W : Wd) (E : XK) (put : D → Fr → M Fr) : TG := fun v σ H Q => ∃ d env S α, StOk W H α S ∧ RE W H α env σ ∧ RD W H α d v ∧ okM W E H α (put d env S) fun env' _ H' α' => ∀ σ', RE W H' α' env' σ' → Rr.r σ σ' → Q σ' H'
def tGs (Rr : Rl) (W : Wd) (E : XK) (put : List D → Fr → M Fr) : TGs := fun vs σ H Q => ∃ ds env S α, StOk W H α S ∧ RE W H α env σ ∧ RDs W H α ds vs ∧ okM W E H α (put ds env S) fun env' _ H' α' => ∀ σ', RE W H' α' env' σ' → Rr.r σ σ' → Q σ' H'
theorem PG.weak {t t' : TG} (h : PG X tg t) (k : ∀ v σ H Q, t' v σ H Q → t v σ H Q) : PG X tg t' := ⟨fun pins s σ H v u Q I r q => h.run pins s σ H v u Q I r (k v σ H Q q)⟩
theorem PGs.weak {es : List Expr} {t t' : TGs} (h : PGs X es t) (k : ∀ v σ H Q, t' v σ H Q → t v σ H Q) : PGs X es t' := ⟨fun pins s σ H v u Q I r q => h.run pins s σ H v u Q I r (k v σ H Q q)⟩
variable {Rr : Rl}
theorem gNm {i : Nat} {x : Str} (hN : X.N.Nodup) (hi : X.N[i]? = some x) (hx : Loc X.env.scope x) (hf : X.fn x = true ∨ X.env.scope.names.lookup x = some .local) (hR : ∀ σ v, Rr.r σ (σ.set i v)) : PG X (.Name x pos) (tG Rr (wd X G XC) E (T.put (.nm i))) :=
  PG.weak (pg_name hN hi hx hf) fun v σ H Q ⟨d, env, S, α, st, re, r, h⟩ => h _ _ Step.refl st _ (re.set r i) (hR _ _)
theorem gNil : PGs X [] (tGs Rr (wd X G XC) E (T.puts [])) :=
  PGs.weak pgs_nil fun v σ H Q ⟨d, env, S, α, st, re, r, h⟩ => by
    cases r with
    | nil =>
      rw [T.puts] at h
      exact ⟨rfl, h _ _ Step.refl st _ re (Rr.rf _)⟩
    | cons _ _ =>
      rw [T.puts] at h
      exact h.elim
theorem gCns {t : T} {ts : List T} (h1 : PG X e (tG Rr (wd X G XC) E t.put)) (h2 : PGs X es (tGs Rr (wd X G XC) E (T.puts ts))) (hs : (assignEach (e :: es) X.env).map (·.2) = assign e X.env :: (assignEach es X.env).map (·.2)) : PGs X (e :: es) (tGs Rr (wd X G XC) E (T.puts (t :: ts))) :=
  PGs.weak (pgs_cons h1 h2 hs) fun v σ H Q ⟨d, env, S, α, st, re, r, h⟩ => by
    cases r with
    | nil =>
      rw [T.puts] at h
      exact h.elim
    | cons a b =>
      rw [T.puts] at h
      exact ⟨_, _, rfl, _, env, S, α, st, re, a, (okM.bind h).mono fun env' S' H' α' sp st' q σ' re' rr => ⟨_, env', S', α', st', re', b.mono sp, q.mono fun _ _ _ _ _ _ q2 σ2 re2 rr2 => q2 σ2 re2 (Rr.tr _ _ _ rr rr2)⟩⟩
theorem gTp {k : Nat} {ts : List T} (hc : X.calm = true) (h : PGs X es (tGs Rr (wd X G XC) E (T.puts ts))) (hn : (assignEach es X.env).length = ts.length) (hst : (assignEach es X.env).findIdx? (·.1) = none) : PG X (.Tuple es k pos) (tG Rr (wd X G XC) E (T.put (.tup ts))) :=
  PG.weak (pg_tup hc h hn hst) fun v σ H Q ⟨d, env, S, α, st, re, r, h⟩ => by
    rw [T.put] at h
    cases d with
    | tup ds =>
      cases r with
      | tup q rs =>
        by_cases hl : ds.length = ts.length
        · simp only [onTup, if_pos hl] at h
          exact ⟨_, _, rfl, q, by rw [← rs.length]; exact hl, ds, env, S, α, st, re, rs, h⟩
        · simp only [onTup, if_neg hl] at h
          exact h.elim
    | _ => exact h.elim
/-! ### statements -/
/-- what follows by the flow -/
def post (W : Wd) (D : Ends) (r : Fl × Fr) (H : Hp) (α : List Addr) : Prop := match r.1 with
  | .nx => ∀ σ', RE W H α r.2 σ' → D.nx σ' H
  | .rt d => ∀ v, RD W H α d v → D.rt v H
  | .bk => ∀ σ', RE W H α r.2 σ' → D.bk σ' H
  | .ct => ∀ σ', RE W H α r.2 σ' → D.ct σ' H
def tS (W : Wd) (E : XK) (m : Fr → M (Fl × Fr)) : TS := fun D σ H => ∃ env S α, StOk W H α S ∧ RE W H α env σ ∧ okM W E H α (m env S) fun r _ H' α' => post W D r H' α'
theorem PS.weak {st : Stmt} {t t' : TS} (h : PS X st t) (k : ∀ D σ H, t' D σ H → t D σ H) : PS X st t' := ⟨fun pins s σ H D I q => h.run pins s σ H D I (k D σ H q)⟩
theorem PSs.weak {st : List Stmt} {t t' : TS} (h : PSs X st t) (k : ∀ D σ H, t' D σ H → t D σ H) : PSs X st t' := ⟨fun pins s σ H D I q => h.run pins s σ H D I (k D σ H q)⟩
variable {st : Stmt} {rest body orelse : List Stmt} {m n : Fr → M (Fl × Fr)}
theorem sNil : PSs X [] (tS (wd X G XC) E fun env => M.ret (.nx, env)) := PSs.weak pss_nil fun D σ H ⟨env, S, α, st, re, h⟩ => h _ _ Step.refl st σ re
theorem sCons (h1 : PS X st (tS (wd X G XC) E m)) (h2 : PSs X rest (tS (wd X G XC) E n)) : PSs X (st :: rest) (tS (wd X G XC) E (seqM m n)) :=
  PSs.weak (pss_cons h1 h2) fun D σ H ⟨env, S, α, st, re, h⟩ => ⟨env, S, α, st, re, (okM.bind h).mono fun r S' H' α' sp st' q => by
    obtain ⟨f, env'⟩ := r
    cases f with
    | nx => exact fun σ' re' => ⟨env', S', α', st', re', q⟩
    | rt d => exact q _ _ Step.refl st'
    | bk => exact q _ _ Step.refl st'
    | ct => exact q _ _ Step.refl st'⟩
theorem sPass : PS X (.Pass pos) (tS (wd X G XC) E fun env => M.ret (.nx, env)) := PS.weak ps_pass fun D σ H ⟨env, S, α, st, re, h⟩ => h _ _ Step.refl st σ re
theorem sBrk : PS X (.Break pos) (tS (wd X G XC) E fun env => M.ret (.bk, env)) := PS.weak ps_break fun D σ H ⟨env, S, α, st, re, h⟩ => h _ _ Step.refl st σ re
theorem sCont : PS X (.Continue pos) (tS (wd X G XC) E fun env => M.ret (.ct, env)) := PS.weak ps_continue fun D σ H ⟨env, S, α, st, re, h⟩ => h _ _ Step.refl st σ re
theorem sRet (he : PE X e (tE (wd X G XC) E ma)) : PS X (.Return (some e) pos) (tS (wd X G XC) E fun env => do
      let d ← ma env
      M.ret (.rt d, env)) :=
  PS.weak (ps_ret he) fun D σ H ⟨env, S, α, st, re, h⟩ => (tE_of st re h).mono fun v H1 ⟨d1, S1, α1, sp1, st1, re1, r1, h1⟩ => h1 _ _ Step.refl st1 v r1
theorem sRetN : PS X (.Return none pos) (tS (wd X G XC) E fun env => M.ret (.rt .non, env)) := PS.weak ps_retN fun D σ H ⟨env, S, α, st, re, h⟩ => h _ _ Step.refl st _ .non
theorem sDrop (he : PE X e (tE (wd X G XC) E ma)) (hs : swapsWith e none pos.line X.env = pure false) : PS X (.Expr e pos) (tS (wd X G XC) E fun env => do
      let _ ← ma env
      M.ret (.nx, env)) :=
  PS.weak (ps_expr he hs) fun D σ H ⟨env, S, α, st, re, h⟩ => (tE_of st re h).mono fun v H1 ⟨d1, S1, α1, sp1, st1, re1, r1, h1⟩ => h1 _ _ Step.refl st1 σ re1
theorem sIf (hc : PT X c (tT (wd X G XC) E mc)) (ha : PSs X body (tS (wd X G XC) E m)) (hb : PSs X orelse (tS (wd X G XC) E n)) : PS X (.If c body orelse pos) (tS (wd X G XC) E fun env => do
      let t ← mc env
      tru t (m env) (n env)) :=
  PS.weak (ps_if hc ha hb) fun D σ H ⟨env, S, α, st, re, h⟩ => (tT_of st re h).mono fun k H1 ⟨S1, α1, sp1, st1, re1, h1⟩ => by
    cases k with
    | true =>
      rw [if_pos rfl] at h1 ⊢
      exact ⟨env, S1, α1, st1, re1, h1⟩
    | false =>
      rw [if_neg Bool.false_ne_true] at h1 ⊢
      exact ⟨env, S1, α1, st1, re1, h1⟩
theorem sSet {i : Nat} {x : Str} {p2 : Pos} (hN : X.N.Nodup) (hi : X.N[i]? = some x) (hx : Loc X.env.scope x) (he : PE X e (tE (wd X G XC) E ma)) (hs : swapsWith e (some (.Name x p2)) pos.line X.env = pure false) (hf : X.fn x = true ∨ X.env.scope.names.lookup x = some .local) : PS X (.Assign [.Name x p2] e pos) (tS (wd X G XC) E fun env => do
      let d ← ma env
      M.ret (.nx, env.set i (some d))) :=
  PS.weak (ps_set hN hi hx he hs hf) fun D σ H ⟨env, S, α, st, re, h⟩ => (tE_of st re h).mono fun v H1 ⟨d1, S1, α1, sp1, st1, re1, r1, h1⟩ => h1 _ _ Step.refl st1 _ (re1.set r1 i)
theorem sAsg {t : T} (he : PE X e (tE (wd X G XC) E ma)) (hg : PG X tg (tG Rl.any (wd X G XC) E t.put)) (hs : swapsWithSole [tg] e pos.line X.env = pure false) (hw : swappedStores [tg] e X.env = pure none) (h1 : (assignEach [tg] X.env).map (·.2) = [assign tg X.env]) : PS X (.Assign [tg] e pos) (tS (wd X G XC) E fun env => do
      let d ← ma env
      let env' ← t.put d env
      M.ret (.nx, env')) :=
  PS.weak (ps_asg he hg hs hw h1) fun D σ H ⟨env, S, α, st, re, h⟩ => (tE_of st re h).mono fun v H1 ⟨d1, S1, α1, sp1, st1, re1, r1, h1⟩ => ⟨d1, env, S1, α1, st1, re1, r1, (okM.bind h1).mono fun env' S2 H2 α2 sp2 st2 h2 σ' re' _ => h2 _ _ Step.refl st2 σ' re'⟩
/-- o[i] = e -/
theorem sSub {p2 : Pos} (he : PE X e (tE (wd X G XC) E ma)) (ho : PE X a (tE (wd X G XC) E mb)) (hi : PE X b (tE (wd X G XC) E mc))
    (ha : ∀ v, assign (.Subscript a b p2) X.env v = (do
      let ov ← holding [v] (eval a X.env)
      let iv ← holding [v, ov] (eval b X.env)
      standAt p2
      holding [v, ov, iv] (setItem ov iv v)
      release [v, ov, iv] []))
    (hs : swapsWithSole [.Subscript a b p2] e pos.line X.env = pure false) (hw : swappedStores [.Subscript a b p2] e X.env = pure none) (h1 : (assignEach [.Subscript a b p2] X.env).map (·.2) = [assign (.Subscript a b p2) X.env]) :
    PS X (.Assign [.Subscript a b p2] e pos) (tS (wd X G XC) E fun env => do
      let d ← ma env
      let o ← mb env
      let i ← mc env
      dSet o i d
      M.ret (.nx, env)) :=
  PS.weak (ps_asg he (pg_sub ho hi (setAny (G := G) (XC := XC) (E := E)) ha) hs hw h1) fun D σ H ⟨env, S, α, st, re, h⟩ => (tE_of st re h).mono fun v H1 ⟨d1, S1, α1, sp1, st1, re1, r1, h1⟩ =>
    (tE_of st1 re1 h1).mono fun o H2 ⟨d2, S2, α2, sp2, st2, re2, r2, h2⟩ => (tE_of st2 re2 h2).mono fun i H3 ⟨d3, S3, α3, sp3, st3, re3, r3, h3⟩ =>
      ⟨d2, d3, d1, S3, α3, st3, r2.mono sp3, r3, (r1.mono sp2).mono sp3, (okM.bind h3).mono fun _ S4 H4 α4 sp4 st4 h4 => h4 _ _ Step.refl st4 σ (re3.mono sp4)⟩
end
end Ev
namespace Ev
open PySem PySem.Spec PyProof.Rows L2
section
variable {W : Wd} {E : XK} {H H1 : Hp} {α α1 : List Addr} {S S1 : Store}
mutual
/-- what a datum leans on: the tuples, the places -/
theorem RD.ext (ht : ∀ a xs, SqT W.K H a xs → SqT W.K H1 a xs) : ∀ {d : D} {v : V}, RD W H α d v → RD W H1 α d v
  | _, _, .non => .non
  | _, _, .bl b => .bl b
  | _, _, .int i => .int i
  | _, _, .str x => .str x
  | _, _, .tup h r => .tup (ht _ _ h) (RDs.ext ht r)
  | _, _, .ref h => .ref h
  | _, _, .fn h => .fn h
theorem RDs.ext (ht : ∀ a xs, SqT W.K H a xs → SqT W.K H1 a xs) : ∀ {ds : List D} {vs : List V}, RDs W H α ds vs → RDs W H1 α ds vs
  | _, _, .nil => .nil
  | _, _, .cons a b => .cons (RD.ext ht a) (RDs.ext ht b)
end
theorem RKs.ext (ht : ∀ a xs, SqT W.K H a xs → SqT W.K H1 a xs) : ∀ {ds : List (Key × D)} {vs : List (Key × V)}, RKs W H α ds vs → RKs W H1 α ds vs
  | _, _, .nil => .nil
  | _, _, .cons a b => .cons (a.ext ht) (RKs.ext ht b)
theorem RC.ext (ht : ∀ a xs, SqT W.K H a xs → SqT W.K H1 a xs) {a : Addr} {c : Cell} (h : RC W H α a c) (k2 : H1 a = H a) : RC W H1 α a c := by
  cases h with
  | lst e r => exact .lst (by rw [k2]; exact e) (r.ext ht)
  | fro e r =>
    obtain ⟨o, e⟩ := e
    exact .fro ⟨o, by rw [k2]; exact e⟩ (r.ext ht)
  | dic e r => exact .dic (by rw [k2]; exact e) (r.ext ht)
mutual
theorem RD.grow (hp : ∀ {n : Nat} {a : Addr}, α[n]? = some a → α1[n]? = some a) : ∀ {d : D} {v : V}, RD W H α d v → RD W H α1 d v
  | _, _, .non => .non
  | _, _, .bl b => .bl b
  | _, _, .int i => .int i
  | _, _, .str x => .str x
  | _, _, .tup h r => .tup h (RDs.grow hp r)
  | _, _, .ref h => .ref (hp h)
  | _, _, .fn h => .fn h
theorem RDs.grow (hp : ∀ {n : Nat} {a : Addr}, α[n]? = some a → α1[n]? = some a) : ∀ {ds : List D} {vs : List V}, RDs W H α ds vs → RDs W H α1 ds vs
  | _, _, .nil => .nil
  | _, _, .cons a b => .cons (RD.grow hp a) (RDs.grow hp b)
end
theorem RKs.grow (hp : ∀ {n : Nat} {a : Addr}, α[n]? = some a → α1[n]? = some a) : ∀ {ds : List (Key × D)} {vs : List (Key × V)}, RKs W H α ds vs → RKs W H α1 ds vs
  | _, _, .nil => .nil
  | _, _, .cons a b => .cons (a.grow hp) (RKs.grow hp b)
theorem RC.grow (hp : ∀ {n : Nat} {a : Addr}, α[n]? = some a → α1[n]? = some a) {a : Addr} {c : Cell} (h : RC W H α a c) : RC W H α1 a c := by
  cases h with
  | lst e r => exact .lst e (r.grow hp)
  | fro e r => exact .fro e (r.grow hp)
  | dic e r => exact .dic e (r.grow hp)
/-- a list that the store does not number is written -/
theorem StOk.other {p : Addr} {xs ys : List V} (st : StOk W H α S) (hp : p ∉ α) (e : H p = some (.lst xs)) : StOk W (upd H p (.lst ys)) α S :=
  ⟨st.len, st.nd, fun n c a e1 e2 => (st.at_ n c a e1 e2).ext (fun _ _ h => sqT_upd (fun _ q => by rw [e] at q; cases q) (fun _ _ q => by rw [e] at q; cases q) h) (upd_ne fun z => hp (z ▸ List.mem_iff_getElem?.mpr ⟨n, e2⟩))⟩
theorem Step.other {p : Addr} {xs ys : List V} (s : Step W H α H1 α1) (hp : H p = none) (e : H1 p = some (.lst xs)) : Step W H α (upd H1 p (.lst ys)) α1 :=
  { pre := s.pre
    keep := fun a o q n => by rw [upd_ne (ne_of_none q hp)]; exact s.keep a o q n
    live := fun a o q => by rw [upd_ne (ne_of_none q hp)]; exact s.live a o q
    tups := fun a zs q => sqT_upd (fun _ q => by rw [e] at q; cases q) (fun _ _ q => by rw [e] at q; cases q) (s.tups a zs q) }
/-- .. and is then numbered -/
theorem StOk.add {p : Addr} {xs : List V} {ds : List D} (st : StOk W H α S) (hp : p ∉ α) (e : H p = some (.lst xs)) (r : RDs W H α ds xs) : StOk W H (α ++ [p]) (S ++ [.lst ds]) := by
  have old : ∀ {n : Nat} {a : Addr}, (α ++ [p])[n]? = some a → (n < S.length ∧ α[n]? = some a) ∨ (n = S.length ∧ a = p) := fun {n a} e => by
    by_cases hn : n < S.length
    · rw [List.getElem?_append_left (by rw [st.len]; exact hn)] at e
      exact .inl ⟨hn, e⟩
    · have h1 := (List.getElem?_eq_some_iff.mp e).1
      rw [List.length_append, List.length_singleton, st.len] at h1
      have e2 : n = S.length := by omega
      subst e2
      rw [← st.len] at e
      exact .inr ⟨rfl, by have q : p = a := by simpa using e
                          exact q.symm⟩
  have up : ∀ {n : Nat} {a : Addr}, α[n]? = some a → (α ++ [p])[n]? = some a := fun {n a} q => by
    rw [List.getElem?_append_left (List.getElem?_eq_some_iff.mp q).1]; exact q
  refine ⟨by simp [st.len], fun n m a e1 e2 => ?_, fun n c a e1 e2 => ?_⟩
  · rcases old e1 with ⟨n1, n2⟩ | ⟨n1, n2⟩
    · rcases old e2 with ⟨m1, m2⟩ | ⟨m1, m2⟩
      · exact st.nd n m a n2 m2
      · subst m2
        exact absurd (List.mem_iff_getElem?.mpr ⟨n, n2⟩) hp
    · rcases old e2 with ⟨m1, m2⟩ | ⟨m1, m2⟩
      · subst n2
        exact absurd (List.mem_iff_getElem?.mpr ⟨m, m2⟩) hp
      · exact n1.trans m1.symm
  · rcases old e2 with ⟨n1, n2⟩ | ⟨n1, n2⟩
    · rw [List.getElem?_append_left n1] at e1
      exact RC.grow up (st.at_ n c a e1 n2)
    · subst n1 n2
      have q1 : Cell.lst ds = c := by simpa using e1
      subst q1
      exact .lst e (RDs.grow up r)
end
section
variable {X : Cx} {G XC : Nat → Option Addr} {E : XK} {a b c e tg iter elt : Expr} {es : List Expr} {ma mb mc me : Fr → M D} {ms : Fr → M (List D)} {mi : Fr → M Its} {pos p tpos : Pos} {st : Stmt} {rest body orelse : List Stmt} {m n : Fr → M (Fl × Fr)}
/-! ### while -/
theorem whileN_succ (k : Nat) (env : Fr) : whileN mc m (k + 1) env = (do
    let t ← mc env
    tru t (do
      let r ← m env
      match r.1 with
      | .nx => whileN mc m k r.2
      | .ct => whileN mc m k r.2
      | .bk => M.ret (.nx, r.2)
      | .rt d => M.ret (.rt d, r.2)) (M.ret (.nx, env))) := rfl
theorem sWhile (hp : PassesOwn (model X.prog X.w) X.A X.env X.xe) (hc : PT X c (tT (wd X G XC) E mc)) (hb : PSs X body (tS (wd X G XC) E m)) : PS X (.While c body [] pos) (tS (wd X G XC) E (whileF mc m)) := by
  refine PS.weak (ps_while hp hc hb) fun D σ H ⟨env, S, α, st, re, h⟩ => ?_
  unfold whileF at h
  by_cases hx : ∃ n, ¬ (whileN mc m n env S).isBad
  · rw [dif_pos hx] at h
    refine ⟨fun k σ H => ∃ env S α, StOk (wd X G XC) H α S ∧ RE (wd X G XC) H α env σ ∧ okM (wd X G XC) E H α (whileN mc m k env S) (fun r _ H' α' => post (wd X G XC) D r H' α'), ⟨_, env, S, α, st, re, h⟩, ?_⟩
    rintro k σ H ⟨env, S, α, st, re, h⟩
    cases k with
    | zero => exact h.elim
    | succ k =>
      rw [whileN_succ] at h
      refine (tT_of st re h).mono fun t H1 ⟨S1, α1, sp1, st1, re1, h1⟩ => ?_
      cases t with
      | true =>
        rw [if_pos rfl] at h1 ⊢
        refine ⟨_, fun σ' H' w => ⟨k, Nat.lt_succ_self k, w⟩, env, S1, α1, st1, re1, (okM.bind h1).mono fun r S2 H2 α2 sp2 st2 h2 => ?_⟩
        obtain ⟨f, env'⟩ := r
        cases f with
        | nx => exact fun σ' re' => ⟨env', S2, α2, st2, re', h2⟩
        | ct => exact fun σ' re' => ⟨env', S2, α2, st2, re', h2⟩
        | bk => exact h2 _ _ Step.refl st2
        | rt d => exact h2 _ _ Step.refl st2
      | false =>
        rw [if_neg Bool.false_ne_true] at h1 ⊢
        exact h1 _ _ Step.refl st1 _ re1
  · rw [dif_neg hx] at h
    exact h.elim
/-! ### for -/
theorem guard_ok {W : Wd} {E : XK} {H : Hp} {α : List Addr} {S : Store} {β : Type} {q : Store → Prop} {g : Unit → M β} {P : β → Store → Hp → List Addr → Prop} (st : StOk W H α S) (h : okM W E H α ((guard q >>= g) S) P) : q S ∧ okM W E H α (g () S) P := by
  have h := okM.bind h
  unfold guard at h
  by_cases e : q S
  · rw [if_pos e] at h
    exact ⟨e, h _ _ Step.refl st⟩
  · rw [if_neg e] at h
    exact h.elim
theorem loopF_nil {q : Store → Prop} {put : D → Fr → M Fr} (env : Fr) : loopF q put m [] env = (do
    guard q
    M.ret (.nx, env)) := rfl
theorem loopF_cons {q : Store → Prop} {put : D → Fr → M Fr} (d : D) (ds : List D) (env : Fr) : loopF q put m (d :: ds) env = (do
    guard q
    let env ← put d env
    let r ← m env
    match r.1 with
    | .nx => loopF q put m ds r.2
    | .ct => loopF q put m ds r.2
    | .bk => M.ret (.nx, r.2)
    | .rt d => M.ret (.rt d, r.2)) := rfl
theorem sFor {t : T} (hp : PassesOwn (model X.prog X.w) X.A X.env X.xe) (hc : X.calm = true) (hi : PI X tg iter (tI (wd X G XC) E mi)) (hg : PG X tg (tG Rl.any (wd X G XC) E t.put)) (hb : PSs X body (tS (wd X G XC) E m)) (hs : ∀ x, foldedSetIterable iter X.env x = pure x) :
    PS X (.For tg iter body [] pos) (tS (wd X G XC) E fun env => do
      let it ← mi env
      loopF it.ok t.put m it.ds env) := by
  refine PS.weak (ps_for hp hc hi hg hb hs) fun D σ H ⟨env, S, α, st, re, h⟩ => ⟨env, S, α, st, re, (okM.bind h).mono fun it S1 H1 α1 sp1 st1 h1 J ok => ?_⟩
  refine ⟨fun i k σ H => ∃ env S α, k = it.ds.length - i ∧ i ≤ it.ds.length ∧ Step (wd X G XC) H1 α1 H α ∧ StOk (wd X G XC) H α S ∧ RE (wd X G XC) H α env σ ∧
    okM (wd X G XC) E H α (loopF it.ok t.put m (it.ds.drop i) env S) (fun r _ H' α' => post (wd X G XC) D r H' α'), ⟨_, env, S1, α1, rfl, Nat.zero_le _, Step.refl, st1, re.mono sp1, by rw [List.drop_zero]; exact h1⟩, ?_⟩
  rintro i k σ H ⟨env, S, α, rfl, hi, sp, st, re, h⟩
  by_cases hl : i < it.ds.length
  · rw [List.drop_eq_getElem_cons hl, loopF_cons] at h
    obtain ⟨gd, h⟩ := guard_ok st h
    refine .inr ⟨ok.go i H α S sp st gd hl, fun σ' H' => ∃ env S α, i + 1 ≤ it.ds.length ∧ Step (wd X G XC) H1 α1 H' α ∧ StOk (wd X G XC) H' α S ∧ RE (wd X G XC) H' α env σ' ∧
      okM (wd X G XC) E H' α (loopF it.ok t.put m (it.ds.drop (i + 1)) env S) (fun r _ H' α' => post (wd X G XC) D r H' α'), fun σ' H' ⟨env, S, α, a1, a2, a3, a4, a5⟩ => ⟨it.ds.length - (i + 1), by omega, env, S, α, rfl, a1, a2, a3, a4, a5⟩, fun x H' y => ?_⟩
    obtain ⟨d, e1, sp2, st2, rd⟩ := ok.yld i H α S x H' sp st gd hl y
    have e2 : it.ds[i] = d := by rw [List.getElem?_eq_getElem hl] at e1; exact Option.some.inj e1
    rw [e2] at h
    refine ⟨d, env, S, α, st2, re.mono sp2, rd, (okM.bind (h.step sp2)).mono fun env' S3 H3 α3 sp3 st3 h3 σ' re' _ => ⟨env', S3, α3, st3, re', (okM.bind h3).mono fun r S4 H4 α4 sp4 st4 h4 => ?_⟩⟩
    obtain ⟨f, env4⟩ := r
    cases f with
    | nx => exact fun σ2 re2 => ⟨env4, S4, α4, hl, ((sp.trans sp2).trans sp3).trans sp4, st4, re2, h4⟩
    | ct => exact fun σ2 re2 => ⟨env4, S4, α4, hl, ((sp.trans sp2).trans sp3).trans sp4, st4, re2, h4⟩
    | bk => exact h4 _ _ Step.refl st4
    | rt d => exact h4 _ _ Step.refl st4
  · have hi2 : it.ds.length ≤ i := by omega
    rw [List.drop_of_length_le hi2, loopF_nil] at h
    obtain ⟨gd, h⟩ := guard_ok st h
    exact .inl ⟨ok.stop i H α S sp st gd hi2, h _ _ Step.refl st σ re⟩
/-! ### a comprehension -/
theorem wipe_get {σ : L2.St} : ∀ {vs : List Nat} {i : Nat}, (L2.wipe σ vs)[i]? = if i ∈ vs then (σ[i]?).map (fun _ => none) else σ[i]?
  | [], i => by simp [L2.wipe]
  | v :: vs, i => by
    unfold L2.wipe
    by_cases h : v = i
    · subst h
      rw [if_pos List.mem_cons_self]
      by_cases hl : v < σ.length
      · rw [List.getElem?_set_self (by rw [L2.wipe_length]; exact hl), List.getElem?_eq_getElem hl]
        rfl
      · rw [List.getElem?_eq_none (by rw [List.length_set, L2.wipe_length]; omega), List.getElem?_eq_none (by omega)]
        rfl
    · rw [List.getElem?_set_ne h, wipe_get (vs := vs)]
      have e : (i ∈ v :: vs) ↔ i ∈ vs := by
        rw [List.mem_cons]
        exact ⟨fun z => z.resolve_left fun q => h q.symm, .inr⟩
      simp only [e]
theorem wipe_idem {σ : L2.St} {vs : List Nat} : L2.wipe (L2.wipe σ vs) vs = L2.wipe σ vs := by
  apply List.ext_getElem?
  intro i
  rw [wipe_get, wipe_get]
  split
  · cases σ[i]? <;> rfl
  · rfl
theorem but_set {vs : List Nat} {i : Nat} (h : i ∈ vs) (σ : L2.St) (v : Option V) : (Rl.but vs).r σ (σ.set i v) := by
  show L2.wipe (σ.set i v) vs = L2.wipe σ vs
  apply List.ext_getElem?
  intro j
  rw [wipe_get, wipe_get]
  by_cases hj : j ∈ vs
  · rw [if_pos hj, if_pos hj, List.getElem?_set]
    split
    · rename_i e
      subst e
      split
      · rename_i hl
        rw [List.getElem?_eq_getElem hl]
        rfl
      · rename_i hl
        rw [List.getElem?_eq_none (by omega)]
    · rfl
  · rw [if_neg hj, if_neg hj, List.getElem?_set_ne (fun e => hj (by rw [← e]; exact h))]
theorem bnd_ok {α β : Type} {m : M α} {f : α → M β} {S S2 : Store} {b : β} (h : (m >>= f) S = .ok b S2) : ∃ a S1, m S = .ok a S1 ∧ f a S1 = .ok b S2 := by
  have h : M.bnd m f S = .ok b S2 := h
  unfold M.bnd at h
  cases e : m S with
  | ok a S1 => rw [e] at h; exact ⟨a, S1, rfl, h⟩
  | exc c a S1 => rw [e] at h; cases h
  | bad => rw [e] at h; cases h
theorem okM.of_ok {W : Wd} {E : XK} {H : Hp} {α : List Addr} {β : Type} {r : Res β} {b : β} {S' : Store} {P : β → Store → Hp → List Addr → Prop} (e : r = .ok b S') (h : ∀ H' α', Step W H α H' α' → StOk W H' α' S' → P b S' H' α') : okM W E H α r P := by
  subst e
  exact h
theorem guard_eq {q : Store → Prop} {S S2 : Store} (h : guard q S = .ok () S2) : q S ∧ S2 = S := by
  unfold guard at h
  by_cases e : q S
  · rw [if_pos e] at h
    cases h
    exact ⟨e, rfl⟩
  · rw [if_neg e] at h
    cases h
theorem tru_eq {β : Type} {d : D} {m n : M β} {S S2 : Store} {b : β} (h : tru d m n S = .ok b S2) : ∃ k, d = .bl k ∧ (if k = true then m else n) S = .ok b S2 := by
  cases d with
  | bl k =>
    refine ⟨k, rfl, ?_⟩
    cases k with
    | true => rw [if_pos rfl]; exact h
    | false => rw [if_neg Bool.false_ne_true]; exact h
  | _ => cases h
theorem lcF_cons {q : Store → Prop} {put : D → Fr → M Fr} {cond el : Fr → M D} {env : Fr} (d : D) (ds acc : List D) : lcF q put cond el env (d :: ds) acc = (do
    guard q
    let e2 ← put d env
    let c ← cond e2
    tru c (do
      let x ← el e2
      if acc.length < LINE then lcF q put cond el env ds (acc ++ [x]) else M.fail) (lcF q put cond el env ds acc)) := rfl
theorem lcF_nil {q : Store → Prop} {put : D → Fr → M Fr} {cond el : Fr → M D} {env : Fr} (acc : List D) : lcF q put cond el env [] acc = (do
    guard q
    M.ret acc) := rfl
theorem lc_read {t : T} {vs : List Nat} {mt : Fr → M D} {tt : TT} {W : Wd} {E : XK} {σ : L2.St} {H : Hp} {Q : VK} (ht : ∀ {σ H Q}, tT W E0 mt σ H Q → tt σ H Q)
    (h : tE W E (fun env => do
      let it ← mi env
      let xs ← noexc <| lcF it.ok t.put mt me (wipeF env vs) it.ds []
      alloc (.lst xs)) σ H Q) : tLc (tI W E mi) (tG (Rl.but vs) W E0 t.put) tt (tE W E0 me) vs σ H Q := by
  obtain ⟨env, S, α, st, re, h⟩ := h
  refine ⟨env, S, α, st, re, (okM.bind h).mono fun it S1 H1 α1 sp1 st1 h1 J ok D hD => ?_⟩
  -- the items are there
  obtain ⟨xs, S2, e0, hP⟩ : ∃ xs S2, lcF it.ok t.put mt me (wipeF env vs) it.ds [] S1 = .ok xs S2 ∧ (∀ H' α', Step W H1 α1 H' α' → StOk W H' α' (S2 ++ [.lst xs]) → ∀ v, RD W H' α' (.ref S2.length) v → Q v H') := by
    have h2 : okM W E H1 α1 (M.bnd (noexc (lcF it.ok t.put mt me (wipeF env vs) it.ds [])) (fun xs => alloc (.lst xs)) S1) _ := h1
    unfold M.bnd noexc at h2
    cases e : lcF it.ok t.put mt me (wipeF env vs) it.ds [] S1 with
    | ok xs S2 => rw [e] at h2; exact ⟨xs, S2, rfl, h2⟩
    | exc c a S2 => rw [e] at h2; exact h2.elim
    | bad => rw [e] at h2; exact h2.elim
  clear h1 h
  refine ⟨fun i k H => ∃ S α acc ad, k = it.ds.length - i ∧ i ≤ it.ds.length ∧ Step W H1 α1 H α ∧ StOk W H α S ∧ H D = some (.lst acc) ∧ D ∉ α ∧ RDs W H α ad acc ∧ lcF it.ok t.put mt me (wipeF env vs) (it.ds.drop i) ad S = .ok xs S2,
    ⟨_, S1, α1, [], [], rfl, Nat.zero_le _, Step.fresh hD, st1.fresh hD, upd_same, fun z => ?_, .nil, by rw [List.drop_zero]; exact e0⟩, ?_⟩
  · exact st1.fresh_ne hD z
  rintro i k H ⟨S, α, acc, ad, rfl, hi, sp, st, eD, nD, rA, e1⟩
  by_cases hl : i < it.ds.length
  · rw [List.drop_eq_getElem_cons hl, lcF_cons] at e1
    obtain ⟨_, S3, e2, e1a⟩ := bnd_ok e1
    obtain ⟨gd, e2b⟩ := guard_eq e2
    subst e2b
    clear e1 e2
    refine .inr ⟨ok.go i H α _ sp st gd hl, fun H' => ∃ S α acc ad, i + 1 ≤ it.ds.length ∧ Step W H1 α1 H' α ∧ StOk W H' α S ∧ H' D = some (.lst acc) ∧ D ∉ α ∧ RDs W H' α ad acc ∧ lcF it.ok t.put mt me (wipeF env vs) (it.ds.drop (i + 1)) ad S = .ok xs S2,
      fun H' ⟨S, α, acc, ad, a1, a2, a3, a4, a5, a6, a7⟩ => ⟨it.ds.length - (i + 1), by omega, S, α, acc, ad, rfl, a1, a2, a3, a4, a5, a6, a7⟩, fun x H' y => ?_⟩
    obtain ⟨d, e3, sp2, st2, rd⟩ := ok.yld i H α _ x H' sp st gd hl y
    have e4 : it.ds[i] = d := by rw [List.getElem?_eq_getElem hl] at e3; exact Option.some.inj e3
    rw [e4] at e1a
    obtain ⟨env2, S4, e5, e1b⟩ := bnd_ok e1a
    obtain ⟨cd, S5, e6, e1c⟩ := bnd_ok e1b
    have kD : ∀ {Ha αa Hb αb}, Step W Ha αa Hb αb → Ha D = some (.lst acc) → D ∉ αa → Hb D = some (.lst acc) ∧ D ∉ αb := fun {Ha αa Hb αb} s h1 h2 => by
      refine ⟨s.keep D _ h1 h2, fun hm => ?_⟩
      obtain ⟨β, e, f⟩ := s.pre
      rw [e] at hm
      rcases List.mem_append.mp hm with z | z
      · exact h2 z
      · have q := f D z
        rw [h1] at q; cases q
    obtain ⟨eD2, nD2⟩ := kD sp2 eD nD
    have re2 : RE W H' α (wipeF env vs) (L2.wipe σ vs) := ((re.mono (sp1.trans (sp.trans sp2))).wipe vs)
    refine ⟨d, wipeF env vs, _, α, st2, re2, rd, okM.of_ok e5 fun H3 α3 sp3 st3 σ' re' rw' => ⟨rw'.trans wipe_idem, ht ⟨env2, S4, α3, st3, re', okM.of_ok e6 fun H4 α4 sp4 st4 => ?_⟩⟩⟩
    obtain ⟨k, rfl, e7⟩ := tru_eq e1c
    refine ⟨k, rfl, ?_⟩
    obtain ⟨eD4, nD4⟩ := kD (sp3.trans sp4) eD2 nD2
    have sp14 : Step W H1 α1 H4 α4 := sp.trans (sp2.trans (sp3.trans sp4))
    have rA4 : RDs W H4 α4 ad acc := rA.mono (sp2.trans (sp3.trans sp4))
    cases k with
    | true =>
      rw [if_pos rfl] at e7 ⊢
      obtain ⟨x5, S6, e8, e9⟩ := bnd_ok e7
      refine ⟨env2, S5, α4, st4, re'.mono sp4, okM.of_ok e8 fun H5 α5 sp5 st5 y ry => ?_⟩
      obtain ⟨eD5, nD5⟩ := kD sp5 eD4 nD4
      by_cases hz : ad.length < LINE
      · rw [if_pos hz] at e9
        have tl : ∀ a zs, SqT W.K H5 a zs → SqT W.K (upd H5 D (.lst (acc ++ [y]))) a zs := fun a zs q => sqT_upd (fun _ z => by rw [eD5] at z; cases z) (fun _ _ z => by rw [eD5] at z; cases z) q
        exact ⟨acc, eD5, by rw [line_eq, ← rA.length]; exact hz, S6, α5, acc ++ [y], ad ++ [x5], hl, (sp14.trans sp5).other hD eD5, st5.other nD5 eD5, upd_same, nD5, ((rA4.mono sp5).append (.cons ry .nil)).ext tl, e9⟩
      · rw [if_neg hz] at e9
        cases e9
    | false =>
      rw [if_neg Bool.false_ne_true] at e7 ⊢
      exact ⟨S5, α4, acc, ad, hl, sp14, st4, eD4, nD4, rA4, e7⟩
  · have hi2 : it.ds.length ≤ i := by omega
    rw [List.drop_of_length_le hi2, lcF_nil] at e1
    obtain ⟨_, S3, e2, e1a⟩ := bnd_ok e1
    obtain ⟨gd, e2b⟩ := guard_eq e2
    subst e2b
    clear e1 e2
    have e1a : Res.ok ad S3 = Res.ok xs S2 := e1a
    cases e1a
    refine .inl ⟨ok.stop i H α _ sp st gd hi2, hP H (α ++ [D]) ?_ (st.add nD eD rA) _ (.ref (by rw [← st.len]; simp))⟩
    obtain ⟨β, e, f⟩ := sp.pre
    refine { pre := ⟨β ++ [D], by rw [e, List.append_assoc], fun b hb => ?_⟩, keep := sp.keep, live := sp.live, tups := sp.tups }
    rcases List.mem_append.mp hb with z | z
    · exact f b z
    · rw [List.mem_singleton.mp z]; exact hD
/-- the block's tests -/
theorem ptsNil : PTs X [] tYes := pts_nil
theorem read_nil {W : Wd} {σ : L2.St} {H : Hp} {Q : Bool → Hp → Prop} (h : tT W E0 (fun _ => M.ret (.bl true)) σ H Q) : tYes σ H Q := by
  obtain ⟨env, S, α, st, re, h⟩ := h
  obtain ⟨b, e, q⟩ := h _ _ Step.refl st
  cases e
  exact q
/-- a comprehension as a value -/
theorem eLc {t : T} {ifs : List Expr} {scope : Scope} {own : List (Str × Nat)} {mt : Fr → M D} {tt : TT} (hc : X.calm = true) (hN : X.N.Nodup) (hi : PI X tg iter (tI (wd X G XC) E mi)) (ok : BlkOk X.N X.env.scope scope own)
    (hg : ∀ (s : Shared) (H : Hp) (C : Addr) (cl : List (Str × Addr)) (fp : List Addr), PG (X.blk s H scope (compEnvC scope cl C X.env) fp) tg (tG (Rl.but (own.map (·.2))) (wd X G XC) E0 t.put))
    (ht : ∀ (s : Shared) (H : Hp) (C : Addr) (cl : List (Str × Addr)) (fp : List Addr), PTs (X.blk s H scope (compEnvC scope cl C X.env) fp) ifs tt) (htt : ∀ {σ H Q}, tT (wd X G XC) E0 mt σ H Q → tt σ H Q)
    (he : ∀ (s : Shared) (H : Hp) (C : Addr) (cl : List (Str × Addr)) (fp : List Addr), PE (X.blk s H scope (compEnvC scope cl C X.env) fp) elt (tE (wd X G XC) E0 me)) (hs : ∀ x, foldedSetIterable iter X.env x = pure x) :
    PE X (.ListComp elt [⟨tg, iter, ifs, 0⟩] scope pos) (tE (wd X G XC) E fun env => do
      let it ← mi env
      let xs ← noexc <| lcF it.ok t.put mt me (wipeF env (own.map (·.2))) it.ds []
      alloc (.lst xs)) :=
  PE.weak (pe_lc hc hN hi ok hg ht he hs) fun σ H Q h => lc_read htt h
/-- name = [..] -/
theorem sSetLc {i : Nat} {y : Str} {py spos : Pos} {t : T} {ifs : List Expr} {scope : Scope} {own : List (Str × Nat)} {mt : Fr → M D} {tt : TT} (hc : X.calm = true) (hN : X.N.Nodup) (hy : X.N[i]? = some y) (hyl : X.env.scope.names.lookup y = some .local)
    (hsw : swapsWith (.ListComp elt [⟨tg, iter, ifs, 0⟩] scope pos) (some (.Name y py)) spos.line X.env = pure true) (hi : PI X tg iter (tI (wd X G XC) E mi)) (ok : BlkOk X.N X.env.scope scope own)
    (hg : ∀ (s : Shared) (H : Hp) (C : Addr) (cl : List (Str × Addr)) (fp : List Addr), PG (X.blk s H scope (compEnvC scope cl C X.env) fp) tg (tG (Rl.but (own.map (·.2))) (wd X G XC) E0 t.put))
    (ht : ∀ (s : Shared) (H : Hp) (C : Addr) (cl : List (Str × Addr)) (fp : List Addr), PTs (X.blk s H scope (compEnvC scope cl C X.env) fp) ifs tt) (htt : ∀ {σ H Q}, tT (wd X G XC) E0 mt σ H Q → tt σ H Q)
    (he : ∀ (s : Shared) (H : Hp) (C : Addr) (cl : List (Str × Addr)) (fp : List Addr), PE (X.blk s H scope (compEnvC scope cl C X.env) fp) elt (tE (wd X G XC) E0 me)) (hs : ∀ x, foldedSetIterable iter X.env x = pure x) :
    PS X (.Assign [.Name y py] (.ListComp elt [⟨tg, iter, ifs, 0⟩] scope pos) spos) (tS (wd X G XC) E fun env => do
      let d ← (do
        let it ← mi env
        let xs ← noexc <| lcF it.ok t.put mt me (wipeF env (own.map (·.2))) it.ds []
        alloc (.lst xs))
      M.ret (.nx, env.set i (some d))) :=
  PS.weak (ps_setLc hc hN hy hyl hsw hi ok hg ht he hs) fun D σ H ⟨env, S, α, st, re, h⟩ =>
    lc_read (mi := mi) (me := me) (mt := mt) htt ((tE_of (m := fun env => (do
        let it ← mi env
        let xs ← noexc <| lcF it.ok t.put mt me (wipeF env (own.map (·.2))) it.ds []
        alloc (.lst xs))) st re h).mono fun v H1 ⟨d1, S1, α1, sp1, st1, re1, r1, h1⟩ => h1 _ _ Step.refl st1 _ (re1.set r1 i))
/-! ### paired and augmented assignments -/
theorem sPar2 {i j : Nat} {x y : Str} {px py pt : Pos} {kt k2 pt2} (hc : X.calm = true) (hN : X.N.Nodup) (hi : X.N[i]? = some x) (hj : X.N[j]? = some y) (hij : i ≠ j)
    (hx : X.env.scope.names.lookup x = some .local) (hy : X.env.scope.names.lookup y = some .local) (ha : PA X [a, b] (tAs (wd X G XC) E ms))
    (hw : swappedStores [.Tuple [.Name x px, .Name y py] kt pt] (.Tuple [a, b] k2 pt2) X.env = pure (some [x, y])) :
    PS X (.Assign [.Tuple [.Name x px, .Name y py] kt pt] (.Tuple [a, b] k2 pt2) pos) (tS (wd X G XC) E fun env => do
      let ds ← ms env
      par2 i j ds env) :=
  PS.weak (ps_par hc hN hi hj hij hx hy ha hw) fun D σ H ⟨env, S, α, st, re, h⟩ => (tAs_of st re h).mono fun vs H1 ⟨ds, S1, α1, sp1, st1, re1, r1, h1⟩ => by
    match ds, r1, h1 with
    | [d1, d2], .cons ra (.cons rb .nil), h1 => exact ⟨_, _, rfl, h1 _ _ Step.refl st1 _ ((re1.set ra i).set rb j)⟩
    | [], _, h1 => exact h1.elim
    | [_], _, h1 => exact h1.elim
    | _ :: _ :: _ :: _, _, h1 => exact h1.elim
theorem sPar3 {i j l : Nat} {x y z : Str} {px py pz pt : Pos} {kt k2 pt2} (hc : X.calm = true) (hN : X.N.Nodup) (hi : X.N[i]? = some x) (hj : X.N[j]? = some y) (hl : X.N[l]? = some z) (hij : i ≠ j) (hil : i ≠ l) (hjl : j ≠ l)
    (hx : X.env.scope.names.lookup x = some .local) (hy : X.env.scope.names.lookup y = some .local) (hz : X.env.scope.names.lookup z = some .local) (ha : PA X [a, b, c] (tAs (wd X G XC) E ms))
    (hw : swappedStores [.Tuple [.Name x px, .Name y py, .Name z pz] kt pt] (.Tuple [a, b, c] k2 pt2) X.env = pure (some [x, y, z])) :
    PS X (.Assign [.Tuple [.Name x px, .Name y py, .Name z pz] kt pt] (.Tuple [a, b, c] k2 pt2) pos) (tS (wd X G XC) E fun env => do
      let ds ← ms env
      par3 i j l ds env) :=
  PS.weak (ps_par3 hc hN hi hj hl hij hil hjl hx hy hz ha hw) fun D σ H ⟨env, S, α, st, re, h⟩ => (tAs_of st re h).mono fun vs H1 ⟨ds, S1, α1, sp1, st1, re1, r1, h1⟩ => by
    match ds, r1, h1 with
    | [d1, d2, d3], .cons ra (.cons rb (.cons rc .nil)), h1 => exact ⟨_, _, _, rfl, h1 _ _ Step.refl st1 _ (((re1.set ra i).set rb j).set rc l)⟩
    | [], _, h1 => exact h1.elim
    | [_], _, h1 => exact h1.elim
    | [_, _], _, h1 => exact h1.elim
    | _ :: _ :: _ :: _ :: _, _, h1 => exact h1.elim
/-- i -= e and i += e, ints -/
theorem sAug {i : Nat} {x : Str} {p2 : Pos} {o : Operator} {f : Int → Int → Int} {g : D → D → M D} (hip : PIp X o (ipI f)) (hg : ∀ {H α S x y} {d e : D} {P : D → Store → Hp → List Addr → Prop}, StOk (wd X G XC) H α S → RD (wd X G XC) H α d x → RD (wd X G XC) H α e y → okM (wd X G XC) E H α (g d e S) P →
      ∃ i j, x = .int i ∧ y = .int j ∧ P (.int (f i j)) S H α) (hN : X.N.Nodup) (hi : X.N[i]? = some x) (hx : Loc X.env.scope x) (he : PE X e (tE (wd X G XC) E ma)) (hf : X.fn x = true ∨ X.env.scope.names.lookup x = some .local) :
    PS X (.AugAssign (.Name x p2) o e pos) (tS (wd X G XC) E fun env => do
      let d ← getV env i
      let d2 ← ma env
      let d3 ← g d d2
      M.ret (.nx, env.set i (some d3))) :=
  PS.weak (ps_aug hN hi hx he hip hf) fun D σ H ⟨env, S, α, st, re, h⟩ => by
    have h := okM.bind h
    unfold getV at h
    cases e : env[i]? with
    | none => rw [e] at h; exact h.elim
    | some o =>
      rw [e] at h
      cases o with
      | none => exact h.elim
      | some d =>
        obtain ⟨v, h1, h2⟩ := re.at_ i d e
        refine ⟨v, h1, (tE_of st re (h _ _ Step.refl st)).mono fun u H1 ⟨d2, S1, α1, sp1, st1, re1, r1, h3⟩ => ?_⟩
        have h4 := okM.bind h3
        obtain ⟨i1, j1, rfl, rfl, k⟩ := hg st1 (h2.mono sp1) r1 h4
        exact ⟨i1, j1, rfl, rfl, k _ _ Step.refl st1 _ (re1.set (.int _) i)⟩
end
end Ev
namespace Ev
open PySem PySem.Spec PyProof.Rows L2
/-! ### from the text to the small language -/
structure Cc where
  N : List Str
  fns : List Str
  cons : List (Str × D)
def idx (x : Str) : List Str → Option Nat
  | [] => none
  | y :: r => if y = x then some 0 else (idx x r).map (· + 1)
theorem idx_get {x : Str} : ∀ {l : List Str} {i : Nat}, idx x l = some i → l[i]? = some x
  | [], _, h => by cases h
  | y :: r, i, h => by
    unfold idx at h
    split at h
    · rename_i e
      cases h
      rw [e]; rfl
    · rw [Option.map_eq_some_iff] at h
      obtain ⟨j, h1, rfl⟩ := h
      rw [List.getElem?_cons_succ]
      exact idx_get h1
def okName (x : Str) : Bool := !(x == ("__debug__" : Str)) && (!(x == ("__classdict__" : Str)) && !(x == ("__name__" : Str)))
def visB (sc : Scope) (x : Str) : Bool := match sc.names.lookup x with
  | some .local => true
  | some .cell => true
  | some .free => true
  | _ => false
def locB (sc : Scope) (x : Str) : Bool := decide (sc.names.lookup x = some .local)
def glB (sc : Scope) (x : Str) : Bool := decide (sc.names.lookup x = some .globalImplicit)
def cName (c : Cc) (sc : Scope) (x : Str) : Option E :=
  if okName x = true then (if visB sc x = true then (idx x c.N).map .var else if glB sc x = true then (match idx x c.fns with
    | some f => some (.fnv f)
    | none => (c.cons.lookup x).map .glob) else none) else none
def cConst : Const → Option E
  | .int i => some (.int i)
  | .str x => some (.str x)
  | .bool b => some (.bl b)
  | .none => some .non
  | _ => none
def kList (f : Expr → Option E) : List Expr → Option (List E)
  | [] => some []
  | e :: es => match f e, kList f es with
    | some x, some xs => some (x :: xs)
    | _, _ => none
def cBop : Operator → Option Bop
  | .Add => some .add | .Sub => some .sub | .Mult => some .mul | .FloorDiv => some .div | .Mod => some .mod | .Pow => some .pow | .LShift => some .shl | .RShift => some .shr | .BitAnd => some .and
  | _ => none
def cCop : CmpOp → Option Cop
  | .Eq => some .eq | .NotEq => some .ne | .Lt => some .lt | .LtE => some .le | .Gt => some .gt | .GtE => some .ge | .Is => some .is | .IsNot => some .isNot | .In => some .in_ | .NotIn => some .notIn
def cAnd (f : Expr → Option E) : List Expr → Option E
  | [] => none
  | [a] => f a
  | a :: b :: r => match f a, cAnd f (b :: r) with
    | some x, some y => some (.and x y)
    | _, _ => none
def cOr (f : Expr → Option E) : List Expr → Option E
  | [] => none
  | [a] => f a
  | a :: b :: r => match f a, cOr f (b :: r) with
    | some x, some y => some (.or x y)
    | _, _ => none
def tyNm (y : Str) : Option Ty :=
  if y = "int" then some .int else if y = "bool" then some .bool else if y = "str" then some .str else if y = "tuple" then some .tuple else if y = "list" then some .list else if y = "dict" then some .dict else none
def bltTab : List (Str × Nat × Blt) := [("len", 1, .len), ("abs", 1, .abs), ("int", 1, .int), ("str", 1, .str), ("max", 2, .max2), ("min", 2, .min2), ("tuple", 1, .tuple), ("list", 1, .list), ("all", 1, .all), ("any", 1, .any), ("sum", 1, .sum), ("repr", 1, .repr)]
def bltNm (x : Str) (n : Nat) : Option Blt := (bltTab.find? fun q => decide (q.1 = x ∧ q.2.1 = n)).map (·.2.2)
theorem bltNm_mem {x : Str} {n : Nat} {b : Blt} (h : bltNm x n = some b) : (x, n, b) ∈ bltTab := by
  unfold bltNm at h
  rw [Option.map_eq_some_iff] at h
  obtain ⟨⟨y, m, c⟩, h1, h2⟩ := h
  have h4 : c = b := h2
  subst h4
  have h3 : y = x ∧ m = n := by simpa using List.find?_some h1
  obtain ⟨e1, e2⟩ := h3
  subst e1 e2
  exact List.mem_of_find?_eq_some h1
def mthNm (x : Str) (n : Nat) : Option Mth :=
  if x = "append" ∧ n = 1 then some .append else if x = "extend" ∧ n = 1 then some .extend else if x = "pop" ∧ n = 0 then some .pop else if x = "pop" ∧ n = 1 then some .popAt else none
/-- the names of built-ins that a law may use -/
def bltNames : List Str := ["len", "abs", "int", "str", "bool", "max", "min", "tuple", "list", "dict", "all", "any", "sum", "range", "enumerate", "zip", "isinstance", "repr", "sorted", "set"]
def plainIx : Expr → Bool
  | .Slice _ _ _ _ => false
  | _ => true
def baseOk : Expr → Bool
  | .Call _ _ _ _ => false
  | _ => true
def isStar : Expr → Bool
  | .Starred _ _ => true
  | _ => false
/-- f(..) -/
def cCall (c : Cc) (sc : Scope) (x : Str) (args : List Expr) (es : Option (List E)) : Option E :=
  if okName x = true then match es with
    | none => (if glB sc x = true ∧ x = "isinstance" ∧ (idx x c.fns).isNone then none else none)
    | some es => if visB sc x = true then (match idx x c.N, args with
        | some i, _ :: _ => some (.callv i es)
        | _, _ => none)
      else if glB sc x = true then (match idx x c.fns with
        | some f => some (.call f es)
        | none => match args, bltNm x es.length with
          | _ :: _, some b => some (.blt b es)
          | _, _ => none)
      else none
  else none
def kIsi (c : Cc) (sc : Scope) (x y : Str) (a : Option E) : Option E :=
  if okName x = true ∧ glB sc x = true ∧ x = "isinstance" ∧ okName y = true ∧ glB sc y = true then match tyNm y, a with
    | some t, some a => some (.isi t a)
    | _, _ => none
  else none
mutual
def cT (top : Bool) (c : Cc) (sc : Scope) : Expr → Option T
  | .Name x _ => if locB sc x = true ∨ (top = true ∧ sc.names.lookup x = some .cell) then (idx x c.N).map .nm else none
  | .Tuple ts _ _ => (cTs top c sc ts).map .tup
  | _ => none
def cTs (top : Bool) (c : Cc) (sc : Scope) : List Expr → Option (List T)
  | [] => some []
  | t :: ts => match cT top c sc t, cTs top c sc ts with
    | some x, some xs => some (x :: xs)
    | _, _ => none
end
mutual
def T.all (p : Nat → Bool) : T → Bool
  | .nm i => p i
  | .tup ts => T.alls p ts
def T.alls (p : Nat → Bool) : List T → Bool
  | [] => true
  | t :: ts => T.all p t && T.alls p ts
end
mutual
/-- the names that a target binds -/
def tNames : Expr → List Str
  | .Name x _ => [x]
  | .Tuple ts _ _ => tNamess ts
  | _ => []
def tNamess : List Expr → List Str
  | [] => []
  | t :: ts => tNames t ++ tNamess ts
end
def ownOf (c : Cc) (tg : Expr) : List (Str × Nat) := (tNames tg).filterMap fun x => (idx x c.N).map fun i => (x, i)
/-- what is walked: the kind and its arguments -/
def isTup : Expr → Bool
  | .Tuple _ _ _ => true
  | _ => false
def cIt (c : Cc) (sc : Scope) (f : Expr → Option E) (tg : Expr) : Expr → Option (IK × List E)
  | .Call (.Name x p) [a] [] pos =>
    if x = "range" ∧ glB sc x = true then (f a).map fun a => (.rng1, [a])
    else if x = "enumerate" ∧ glB sc x = true then (if isTup tg = true then (f a).map fun a => (.enum, [a]) else none)
    else (f (.Call (.Name x p) [a] [] pos)).map fun e => (.seq, [e])
  | .Call (.Name x p) [a, b] [] pos =>
    if x = "range" ∧ glB sc x = true then (match f a, f b with
      | some a, some b => some (.rng2, [a, b])
      | _, _ => none)
    else if x = "zip" ∧ glB sc x = true then (if isTup tg = true then (match f a, f b with
      | some a, some b => some (.zip, [a, b])
      | _, _ => none) else none)
    else (f (.Call (.Name x p) [a, b] [] pos)).map fun e => (.seq, [e])
  | e => (f e).map fun e => (.seq, [e])
def cE : Nat → Cc → Scope → Expr → Option E
  | 0, _, _, _ => none
  | n + 1, c, sc, e => match e with
    | .Name x _ => cName c sc x
    | .Constant k _ _ => cConst k
    | .Tuple es _ _ => (kList (cE n c sc) es).map .tup
    | .List es _ => (kList (cE n c sc) es).map .lst
    | .BinOp a o b _ => match cBop o, cE n c sc a, cE n c sc b with
      | some o, some a, some b => some (.bin o a b)
      | _, _, _ => none
    | .UnaryOp .Not a _ => (cE n c sc a).map .not
    | .UnaryOp .USub a _ => (cE n c sc a).map .neg
    | .BoolOp .And vs _ => cAnd (cE n c sc) vs
    | .BoolOp .Or vs _ => cOr (cE n c sc) vs
    | .IfExp t a b _ => match cE n c sc t, cE n c sc a, cE n c sc b with
      | some t, some a, some b => some (.ife t a b)
      | _, _, _ => none
    | .Compare a [o] [b] _ => match cCop o, cE n c sc a, cE n c sc b with
      | some o, some a, some b => some (.cmp o a b)
      | _, _, _ => none
    | .Compare a [o, p] [b, d] _ => match cCop o, cCop p, cE n c sc a, cE n c sc b, cE n c sc d with
      | some o, some p, some a, some b, some d => some (.chain o p a b d)
      | _, _, _, _, _ => none
    | .Subscript a (.Slice (some l) none none _) _ => match cE n c sc a, cE n c sc l with
      | some a, some l => some (.slLo a l)
      | _, _ => none
    | .Subscript a (.Slice none (some h) none _) _ => match cE n c sc a, cE n c sc h with
      | some a, some h => some (.slHi a h)
      | _, _ => none
    | .Subscript a (.Slice (some l) (some h) none _) _ => match cE n c sc a, cE n c sc l, cE n c sc h with
      | some a, some l, some h => some (.slLH a l h)
      | _, _, _ => none
    | .Subscript a i _ => if plainIx i = true then (match cE n c sc a, cE n c sc i with
      | some a, some i => some (.ix a i)
      | _, _ => none) else none
    | .Call (.Name x _) args [] _ => match args with
      | [a, .Name y _] => if x = "isinstance" then kIsi c sc x y (cE n c sc a) else cCall c sc x args (kList (cE n c sc) args)
      | _ => cCall c sc x args (kList (cE n c sc) args)
    | .Call (.Attribute o m apos) args [] pos => if baseOk o = true ∧ (apos.endLine == pos.line) = true ∧ args.length < 30 then (match cE n c sc o, kList (cE n c sc) args, mthNm m args.length with
      | some o, some es, some m => some (.mth m o es)
      | _, _, _ => none) else none
    | .ListComp elt [⟨tg, iter, ifs, 0⟩] scope _ =>
      if blkC c.N sc scope (ownOf c tg) = true ∧ ifs.length ≤ 1 then (match cIt c sc (cE n c sc) tg iter, cT false c (relS scope sc) tg, kList (cE n c (relS scope sc)) ifs, cE n c (relS scope sc) elt with
        | some (k, es), some t, some fs, some e => if t.all (fun i => (ownOf c tg).any fun p => p.2 == i) = true then some (.lc ((ownOf c tg).map (·.2)) t k es fs e) else none
        | _, _, _, _ => none) else none
    | _ => none
end Ev
namespace Ev
open PySem PySem.Spec PyProof.Rows L2
/-! ### functions that are called where no repr runs -/
/-- HandS's FnOk, told of the guards too -/
structure FnG (P : Program) (w : World) (K : PySem.W.Frag) (mg : Str → Option Value) (base : Heap) (CX : CXT) (k : Nat) (f : Addr) (fd : FuncData) (ps : List Str) (sp : Sp) : Prop where
  len : ∀ vs H Q E, sp vs H Q E → vs.length = ps.length
  run : ∀ (A : Around) (outer : List Env) (s : Shared) (H : Hp) (args : Args) (us : List Value) (vs : List V) (Q : VK) (E : XK), Room k A → A.guards = some [] → Env0 P w K mg base A outer s H → BindsTo s fd args (ps.zip us) →
    Vals vs us → sp vs H Q E → codeAny (model P w) A (.call (.ref f) args) (CR CX outer P w H s Q E) s
/-- what f's call promises -/
def spF (W : Wd) (g : List D → M D) : Sp := fun vs H Q E => ∃ ds S α, StOk W H α S ∧ RDs W H α ds vs ∧ okM W E H α (g ds S) fun d _ H' α' => ∀ v, RD W H' α' d v → Q v H'
structure FnsOk (P : Program) (w : World) (K : PySem.W.Frag) (mg : Str → Option Value) (base : Heap) (CX : CXT) (k : Nat) (G XC : Nat → Option Addr) (C : Nat → List D → M D) : Prop where
  fn : ∀ f a, G f = some a → PySem.W.keepIn K (.ref a) = true ∧ ∃ fd ps, FnG P w K mg base CX k a fd ps (spF ⟨K, G, XC⟩ (C f)) ∧ Binds K fd ps []
  no : ∀ outer H s e s', CX outer H s E0 e s' → False
theorem callG {X : Cx} {CX : CXT} {k : Nat} {f : Addr} {fd : FuncData} {ps : List Str} {G XC : Nat → Option Addr} {g : List D → M D} {E : XK} (F : FnG X.prog X.w X.K X.mg X.base CX k f fd ps (spF (wd X G XC) g)) (hr : Room k X.A) (hg : X.A.guards = some []) (hb : Binds X.K fd ps []) (hx : Passes CX X E) :
    CallR X (.ref f) (vRL (wd X G XC) E g) := by
  intro pins s σ H xs us Q I r h
  have hl : (us ++ []).length = ps.length := by
    rw [List.append_nil, ← r.length]
    exact F.len xs H Q E h
  have bd := hb s us I.kIn hl
  rw [List.append_nil] at bd
  refine wpAny_call (codeAny_mono (F.run X.A X.stack s H ⟨us, []⟩ us xs Q E hr hg I.env0 bd r h) fun r s' hq => ?_)
  match r, hq with
  | .error e, hq => exact hx pins σ H s e s' I hq
  | .ok (.ret u), hq => exact I.after hq
  | .ok .next, hq => exact False.elim hq
  | .ok .brk, hq => exact False.elim hq
  | .ok .cont, hq => exact False.elim hq
/-! ### the context of a text -/
structure XOk (CX : CXT) (k : Nat) (G XC : Nat → Option Addr) (C : Nat → List D → M D) (E : XK) (c : Cc) (sc : Scope) (top : Bool) (X : Cx) : Prop where
  hsc : X.env.scope = sc
  hN : X.N = c.N
  nd : c.N.Nodup
  calm : X.calm = true
  room : Room k X.A
  gd : X.A.guards = some []
  fo : FnsOk X.prog X.w X.K X.mg X.base CX k G XC C
  fns : ∀ f x, c.fns[f]? = some x → ∃ a, G f = some a ∧ X.mg x = some (.ref a)
  cons : ∀ x d, c.cons.lookup x = some d → ∃ v u, X.mg x = some u ∧ RelV v u ∧ ∀ H α, RD (wd X G XC) H α d v
  blts : ∀ x ∈ bltNames, X.mg x = none
  pass : Passes CX X E
  tp : top = true → ∀ x, X.fn x = true
section
variable {CX : CXT} {k : Nat} {G XC : Nat → Option Addr} {C : Nat → List D → M D} {E : XK} {c : Cc} {sc : Scope} {top : Bool} {X : Cx}
theorem XOk.hu (x : XOk CX k G XC C E c sc top X) : X.A.units + 64 < cLine := x.room.units
theorem XOk.call (x : XOk CX k G XC C E c sc top X) {f : Nat} {a : Addr} (h : G f = some a) : CallR X (.ref a) (vRL (wd X G XC) E (C f)) ∧ PySem.W.keepIn X.K (.ref a) = true := by
  obtain ⟨hk, fd, ps, F, hb⟩ := x.fo.fn f a h
  exact ⟨callG F x.room x.gd hb x.pass, hk⟩
theorem XOk.blk (x : XOk CX k G XC C E c sc top X) (s : Shared) (H : Hp) (scope : Scope) (D : Addr) (cl : List (Str × Addr)) (fp : List Addr) : XOk CX k G XC C E0 c (relS scope sc) false (X.blk s H scope (compEnvC scope cl D X.env) fp) where
  hsc := by rw [← x.hsc]; rfl
  hN := x.hN
  nd := x.nd
  calm := x.calm
  room := x.room
  gd := x.gd
  fo := x.fo
  fns := x.fns
  cons := x.cons
  blts := x.blts
  pass := fun pins σ H s e s' I h => (x.fo.no _ _ _ _ _ h).elim
  tp := fun h => nomatch h
end
/-! ### plain arguments -/
theorem star_cons {e : Expr} {es : List Expr} {env : Env} (h : isStar e = false) : starEach (e :: es) env = (false, eval e env) :: starEach es env := by
  cases e <;> first
    | rfl
    | cases h
theorem star_any {env : Env} {pos : Pos} : ∀ {es : List Expr}, (∀ e ∈ es, isStar e = false) → (backTo pos (starEach es env)).any (·.1) = false
  | [], _ => rfl
  | e :: es, h => by
    rw [star_cons (h e List.mem_cons_self)]
    show (false || (backTo pos (starEach es env)).any (·.1)) = false
    rw [star_any fun x hx => h x (List.mem_cons_of_mem _ hx)]
    rfl
theorem star_all {env : Env} {pos : Pos} : ∀ {es : List Expr}, (∀ e ∈ es, isStar e = false) → (backTo pos (starEach es env)).all (fun x => !x.1) = true
  | [], _ => rfl
  | e :: es, h => by
    rw [star_cons (h e List.mem_cons_self)]
    show (true && (backTo pos (starEach es env)).all (fun x => !x.1)) = true
    rw [star_all fun x hx => h x (List.mem_cons_of_mem _ hx)]
    rfl
theorem asg_cons {e : Expr} {es : List Expr} {env : Env} (h : isStar e = false) : assignEach (e :: es) env = (false, assign e env) :: assignEach es env := by
  cases e <;> first
    | rfl
    | cases h
theorem asg_len {env : Env} : ∀ {es : List Expr}, (∀ e ∈ es, isStar e = false) → (assignEach es env).length = es.length ∧ (assignEach es env).findIdx? (·.1) = none
  | [], _ => ⟨rfl, rfl⟩
  | e :: es, h => by
    obtain ⟨h1, h2⟩ := asg_len (env := env) fun x hx => h x (List.mem_cons_of_mem _ hx)
    rw [asg_cons (h e List.mem_cons_self)]
    refine ⟨by rw [List.length_cons, List.length_cons, h1], ?_⟩
    rw [List.findIdx?_cons]
    simp [h2]
section
variable {CX : CXT} {k : Nat} {G XC : Nat → Option Addr} {C : Nat → List D → M D} {E : XK} {c : Cc} {sc : Scope} {top : Bool} {X : Cx}
theorem vis_of {x : Str} (h : visB sc x = true) : Vis sc x := by
  unfold visB at h
  split at h
  · exact .inl (by assumption)
  · exact .inr (.inl (by assumption))
  · exact .inr (.inr (by assumption))
  · cases h
theorem okName_of {x : Str} (h : okName x = true) : (x == ("__debug__" : Str)) = false ∧ (x == ("__classdict__" : Str)) = false ∧ x ≠ "__name__" := by
  unfold okName at h
  simp only [Bool.and_eq_true, Bool.not_eq_true'] at h
  exact ⟨h.1, h.2.1, fun e => by rw [e] at h; exact absurd h.2.2 (by simp)⟩
theorem kList_ok {n : Nat} (ih : ∀ {e ir}, cE n c sc e = some ir → PE X e (tE (wd X G XC) E (evE C ir)) ∧ isStar e = false) : ∀ {es : List Expr} {irs : List Ev.E}, kList (cE n c sc) es = some irs → PA X es (tAs (wd X G XC) E (evEs C irs)) ∧ (∀ e ∈ es, isStar e = false) ∧ es.length = irs.length
  | [], irs, h => by
    cases h
    exact ⟨eNil, (fun _ z => by cases z), rfl⟩
  | e :: es, irs, h => by
    unfold kList at h
    split at h
    · rename_i x xs h1 h2
      cases h
      obtain ⟨i1, i2⟩ := ih h1
      obtain ⟨j1, j2, j3⟩ := kList_ok (es := es) ih h2
      exact ⟨eCons i1 j1 (star_cons i2), fun y hy => by
        rcases List.mem_cons.mp hy with z | z
        · rw [z]; exact i2
        · exact j2 y z, by rw [List.length_cons, List.length_cons, j3]⟩
    · cases h
theorem bopR (o : Operator) {b : Bop} (h : cBop o = some b) : OpR X (binaryOp o) (vR2 (wd X G XC) E b.run) := by
  cases o <;> simp only [cBop, Option.some.injEq] at h <;> first
    | (subst h; first | exact opAdd | exact opSub | exact opMul | exact opDiv | exact opMod | exact opPow | exact opShl | exact opShr | exact opAnd)
    | cases h
def notSet : Expr → Bool
  | .Set _ _ _ => false
  | _ => true
theorem marks_no {o : CmpOp} {e : Expr} (h : notSet e = true) : behindInMarks o e = false := by
  cases e <;> first
    | rfl
    | cases h
theorem copR (x : XOk CX k G XC C E c sc top X) (o : CmpOp) {b : Cop} (h : cCop o = some b) : OpR X (compareOp o) (vR2 (wd X G XC) E b.run) ∧ ∀ e, notSet e = true → behindInMarks o e = false := by
  have hu := x.hu
  have hu0 : X.A.units < cLine := by omega
  have hu1 : X.A.units + 65 < cLine := by have := x.room.un; omega
  cases o <;> simp only [cCop, Option.some.injEq] at h <;> first
    | (subst h; refine ⟨?_, fun e he => marks_no he⟩; first | exact opEq hu | exact opNe hu | exact opLt hu0 | exact opLe | exact opGt | exact opGe | exact opIs | exact opIsNot | exact opIn hu hu1 | exact opNotIn hu hu1)
    | cases h
theorem cName_ok (x : XOk CX k G XC C E c sc top X) {y : Str} {p : Pos} {ir : Ev.E} (h : cName c sc y = some ir) : PE X (.Name y p) (tE (wd X G XC) E (evE C ir)) := by
  unfold cName at h
  split at h
  · rename_i hn
    obtain ⟨n1, n2, n3⟩ := okName_of hn
    split at h
    · rename_i hv
      rw [Option.map_eq_some_iff] at h
      obtain ⟨i, h1, rfl⟩ := h
      exact eVar (by rw [x.hN]; exact idx_get h1) (by rw [x.hsc]; exact vis_of hv) n1 n2
    · split at h
      · rename_i hg
        have hg : Gl X y := by show X.env.scope.names.lookup y = _; rw [x.hsc]; exact of_decide_eq_true hg
        split at h
        · rename_i f hf
          cases h
          obtain ⟨a, g1, g2⟩ := x.fns f y (idx_get hf)
          exact eConst (v := .ref a) (pe_glob hg g2 rfl n1) fun H α => .fn g1
        · rw [Option.map_eq_some_iff] at h
          obtain ⟨d, h1, rfl⟩ := h
          obtain ⟨v, u, g1, g2, g3⟩ := x.cons y d h1
          exact eConst (pe_glob hg g1 g2 n1) g3
      · cases h
  · cases h
theorem cConst_ok {kc : Const} {j : Nat} {p : Pos} {ir : Ev.E} (h : cConst kc = some ir) : PE X (.Constant kc j p) (tE (wd X G XC) E (evE C ir)) := by
  unfold cConst at h
  split at h <;> first
    | (cases h; first
        | exact eConst pe_int fun H α => .int _
        | exact eConst pe_str fun H α => .str _
        | exact eConst pe_bl fun H α => .bl _
        | exact eConst pe_non fun H α => .non)
    | cases h
/-- and, or -/
theorem cAnd_ok {n : Nat} (ih : ∀ {e ir}, cE n c sc e = some ir → PE X e (tE (wd X G XC) E (evE C ir)) ∧ PT X e (tT (wd X G XC) E (evE C ir))) : ∀ {vs : List Expr} {ir : Ev.E} {p : Pos}, cAnd (cE n c sc) vs = some ir →
    PE X (.BoolOp .And vs p) (tE (wd X G XC) E (evE C ir)) ∧ PW X (.BoolOp .And vs p) (tT (wd X G XC) E (evE C ir))
  | [], _, _, h => by cases h
  | [a], ir, p, h => by
    obtain ⟨h1, h2⟩ := ih (e := a) (ir := ir) h
    exact ⟨pe_one h1, pw_and1 h2⟩
  | a :: b :: r, ir, p, h => by
    unfold cAnd at h
    split at h
    · rename_i x y h1 h2
      cases h
      obtain ⟨i1, i2⟩ := ih h1
      obtain ⟨j1, j2⟩ := cAnd_ok ih (p := p) h2
      exact ⟨eAnd i1 j1, eAndT i2 j2⟩
    · cases h
theorem cOr_ok {n : Nat} (ih : ∀ {e ir}, cE n c sc e = some ir → PE X e (tE (wd X G XC) E (evE C ir)) ∧ PT X e (tT (wd X G XC) E (evE C ir))) : ∀ {vs : List Expr} {ir : Ev.E} {p : Pos}, cOr (cE n c sc) vs = some ir →
    PE X (.BoolOp .Or vs p) (tE (wd X G XC) E (evE C ir)) ∧ PW X (.BoolOp .Or vs p) (tT (wd X G XC) E (evE C ir))
  | [], _, _, h => by cases h
  | [a], ir, p, h => by
    obtain ⟨h1, h2⟩ := ih (e := a) (ir := ir) h
    exact ⟨pe_one h1, pw_or1 h2⟩
  | a :: b :: r, ir, p, h => by
    unfold cOr at h
    split at h
    · rename_i x y h1 h2
      cases h
      obtain ⟨i1, i2⟩ := ih h1
      obtain ⟨j1, j2⟩ := cOr_ok ih (p := p) h2
      exact ⟨eOr i1 j1, eOrT i2 j2⟩
    · cases h
theorem blt_free (x : XOk CX k G XC C E c sc top X) {y : Str} (h : y ∈ bltNames) : X.mg y = none := x.blts y h
theorem blt_ok (x : XOk CX k G XC C E c sc top X) {y : Str} {p pos : Pos} {n : Nat} {b : Blt} {a : Expr} {es : List Expr} {ms : Fr → M (List D)} (h : bltNm y n = some b) (hg : Gl X y) (ha : PA X (a :: es) (tAs (wd X G XC) E ms)) (hs : ∀ e ∈ a :: es, isStar e = false) :
    PE X (.Call (.Name y p) (a :: es) [] pos) (tE (wd X G XC) E fun env => do
      let ds ← ms env
      b.run ds) := by
  have s1 : starEach (a :: es) X.env = (false, eval a X.env) :: starEach es X.env := star_cons (hs a List.mem_cons_self)
  have s2 : (backTo pos (starEach es X.env)).any (·.1) = false := star_any fun e he => hs e (List.mem_cons_of_mem _ he)
  have hc := x.calm
  have m := bltNm_mem h
  have key : y ∈ bltNames ∧ y ≠ "__name__" ∧ (y == ("__debug__" : Str)) = false := by
    have : ∀ q ∈ bltTab, q.1 ∈ bltNames ∧ q.1 ≠ "__name__" ∧ (q.1 == ("__debug__" : Str)) = false := by decide +kernel
    exact this _ m
  obtain ⟨k1, k2, k3⟩ := key
  have hm := blt_free x k1
  clear h
  simp only [bltTab, List.mem_cons, Prod.mk.injEq, List.not_mem_nil, or_false] at m
  rcases m with ⟨e, _, rfl⟩ | ⟨e, _, rfl⟩ | ⟨e, _, rfl⟩ | ⟨e, _, rfl⟩ | ⟨e, _, rfl⟩ | ⟨e, _, rfl⟩ | ⟨e, _, rfl⟩ | ⟨e, _, rfl⟩ | ⟨e, _, rfl⟩ | ⟨e, _, rfl⟩ | ⟨e, _, rfl⟩ | ⟨e, _, rfl⟩
  · subst e; exact eBltF cLen hg hm (by decide +kernel) ha k2 k3 s1 s2
  · subst e; exact eBltF cAbs hg hm (by decide +kernel) ha k2 k3 s1 s2
  · subst e; exact eBltT cInt hg hm (by decide +kernel) ha k2 k3 s1 s2
  · subst e; exact eBltT cStr hg hm (by decide +kernel) ha k2 k3 s1 s2
  · subst e; exact eBltF (cMax2 hc) hg hm (by decide +kernel) ha k2 k3 s1 s2
  · subst e; exact eBltF (cMin2 hc) hg hm (by decide +kernel) ha k2 k3 s1 s2
  · subst e; exact eBltT cTuple hg hm (by decide +kernel) ha k2 k3 s1 s2
  · subst e; exact eBltT Ev.cList hg hm (by decide +kernel) ha k2 k3 s1 s2
  · subst e; exact eBltF (cAll hc) hg hm (by decide +kernel) ha k2 k3 s1 s2
  · subst e; exact eBltF (cAny hc) hg hm (by decide +kernel) ha k2 k3 s1 s2
  · subst e; exact eBltF (cSum hc) hg hm (by decide +kernel) ha k2 k3 s1 s2
  · subst e; exact eBltF (cRepr x.gd x.hu (by have := x.room.un; omega)) hg hm (by decide +kernel) ha k2 k3 s1 s2
theorem tyNm_ok {y : Str} {t : Ty} (h : tyNm y = some t) : y ∈ bltNames ∧ bootBuiltins y = some (.type t.name) := by
  unfold tyNm at h
  repeat' split at h
  all_goals first
    | (rename_i e; subst e; cases h; exact ⟨by decide +kernel, by decide +kernel⟩)
    | cases h
theorem isLst_ty {H : Hp} {α : List Addr} {S : Store} {d : D} {v : V} (st : StOk (wd X G XC) H α S) (r : RD (wd X G XC) H α d v) (h : isLst d S = true) : tyV X.K "list" v H := by
  unfold isLst at h
  split at h
  · cases r with
    | ref ha =>
      split at h
      · rename_i e
        obtain ⟨vs, q, _⟩ := RC.sql (.inl (st.at_ _ _ _ e ha))
        exact .inl ⟨rfl, vs, q⟩
      · rename_i e
        obtain ⟨vs, q, _⟩ := RC.sql (.inr (st.at_ _ _ _ e ha))
        exact .inl ⟨rfl, vs, q⟩
      · cases h
  · cases h
theorem base_ok {o : Expr} {m : Str} (h : baseOk o = true) : attributeBase o m X.env (eval o X.env) = eval o X.env := by
  cases o <;> first
    | rfl
    | cases h
theorem mth_ok (x : XOk CX k G XC C E c sc top X) {m : Str} {apos pos : Pos} {b : Mth} {o : Expr} {es : List Expr} {ma : Fr → M D} {irs : List Ev.E} (h : mthNm m es.length = some b) (ho : PE X o (tE (wd X G XC) E ma)) (ha : PA X es (tAs (wd X G XC) E (evEs C irs))) (hs : ∀ e ∈ es, isStar e = false)
    (hb : baseOk o = true) (hl : (apos.endLine == pos.line) = true) (h30 : es.length < 30) (hln : es.length = irs.length) :
    PE X (.Call (.Attribute o m apos) es [] pos) (tE (wd X G XC) E fun env => do
      let x ← ma env
      chk (b.kd x)
      let ds ← evEs C irs env
      b.run x ds) := by
  have two : ∀ {id : String} {f : D → List D → M D}, 0 < es.length → Slot "list" m id → typeOf (.builtin id) = pure (.type "method_descriptor") → MtR X id (vRM (wd X G XC) E f) → PE X (.Call (.Attribute o m apos) es [] pos) (tE (wd X G XC) E fun env => do
      let x ← ma env
      chk (isLst x)
      let ds ← evEs C irs env
      f x ds) := fun {id f} h0 sl ty mt => by
    cases es with
    | nil => exact absurd h0 (by simp)
    | cons e es =>
      have s1 : starEach (e :: es) X.env = (false, eval e X.env) :: starEach es X.env := star_cons (hs e List.mem_cons_self)
      have s2 : (backTo pos (starEach es X.env)).any (·.1) = false := star_any fun y hy => hs y (List.mem_cons_of_mem _ hy)
      refine eMth (kd := isLst) PySem.F.plainAttrs_list sl ty mt isLst_ty ho ha (base_ok hb) ?_ hl s1 s2
      rw [star_all hs]
      simp only [List.length_nil, List.isEmpty_nil, if_true, Nat.add_zero]
      rw [decide_eq_true h30]
      rfl
  unfold mthNm at h
  split at h
  · rename_i e; obtain ⟨rfl, e⟩ := e; cases h
    exact two (by omega) PySem.F.slot_list_append PySem.F.type_list_append mAppend
  split at h
  · rename_i e; obtain ⟨rfl, e⟩ := e; cases h
    exact two (by omega) PySem.F.slot_list_extend PySem.F.type_list_extend mExtend
  split at h
  · rename_i e; obtain ⟨rfl, e⟩ := e; cases h
    have e1 : es = [] := List.eq_nil_of_length_eq_zero e
    subst e1
    have e2 : irs = [] := List.eq_nil_of_length_eq_zero hln.symm
    subst e2
    exact eMth0 (kd := isLst) PySem.F.plainAttrs_list PySem.F.slot_list_pop PySem.F.type_list_pop mPop isLst_ty ho (base_ok hb) hl
  split at h
  · rename_i e; obtain ⟨rfl, e⟩ := e; cases h
    exact two (by omega) PySem.F.slot_list_pop PySem.F.type_list_pop mPopAt
  · cases h
theorem plain_ok {i : Expr} (h : plainIx i = true) : PlainIx i := by
  intro o v
  cases i <;> first
    | rfl
    | cases h
end
end Ev
namespace Ev
open PySem PySem.Spec PyProof.Rows L2
section
variable {CX : CXT} {k : Nat} {G XC : Nat → Option Addr} {C : Nat → List D → M D} {E : XK} {c : Cc} {sc : Scope} {top : Bool} {X : Cx} {Rr : Rl}
/-! ### targets -/
theorem T.noStar {t : Expr} {ir : T} (h : cT top c sc t = some ir) : isStar t = false := by
  cases t <;> first
    | rfl
    | (simp only [cT] at h; cases h)
mutual
theorem cT_ok (x : XOk CX k G XC C E c sc top X) (p : Nat → Bool) (hR : ∀ i, p i = true → ∀ σ v, Rr.r σ (σ.set i v)) : ∀ {t : Expr} {ir : T}, cT top c sc t = some ir → ir.all p = true → PG X t (tG Rr (wd X G XC) E ir.put)
  | .Name y pos, ir, h, hp => by
    simp only [cT] at h
    split at h
    · rename_i hl
      rw [Option.map_eq_some_iff] at h
      obtain ⟨i, h1, rfl⟩ := h
      rw [T.all] at hp
      have hN : X.N[i]? = some y := by rw [x.hN]; exact idx_get h1
      rcases hl with hl | ⟨ht, hl⟩
      · have hl : X.env.scope.names.lookup y = some .local := by rw [x.hsc]; exact of_decide_eq_true hl
        exact gNm (by rw [x.hN]; exact x.nd) hN (.inl hl) (.inr hl) (hR i hp)
      · have hl : X.env.scope.names.lookup y = some .cell := by rw [x.hsc]; exact hl
        exact gNm (by rw [x.hN]; exact x.nd) hN (.inr hl) (.inl (x.tp ht y)) (hR i hp)
    · cases h
  | .Tuple ts kk pos, ir, h, hp => by
    simp only [cT, Option.map_eq_some_iff] at h
    obtain ⟨irs, h1, rfl⟩ := h
    rw [T.all] at hp
    obtain ⟨g, hl, hs⟩ := cTs_ok x p hR h1 hp
    obtain ⟨a1, a2⟩ := asg_len (env := X.env) hs
    exact gTp x.calm g (by rw [a1, hl]) a2
  | .BoolOp _ _ _, _, h, _ => by simp only [cT] at h; cases h
  | .NamedExpr _ _ _, _, h, _ => by simp only [cT] at h; cases h
  | .BinOp _ _ _ _, _, h, _ => by simp only [cT] at h; cases h
  | .UnaryOp _ _ _, _, h, _ => by simp only [cT] at h; cases h
  | .Lambda _ _ _ _, _, h, _ => by simp only [cT] at h; cases h
  | .IfExp _ _ _ _, _, h, _ => by simp only [cT] at h; cases h
  | .Dict _ _ _, _, h, _ => by simp only [cT] at h; cases h
  | .Set _ _ _, _, h, _ => by simp only [cT] at h; cases h
  | .ListComp _ _ _ _, _, h, _ => by simp only [cT] at h; cases h
  | .SetComp _ _ _ _, _, h, _ => by simp only [cT] at h; cases h
  | .DictComp _ _ _ _ _, _, h, _ => by simp only [cT] at h; cases h
  | .GeneratorExp _ _ _ _, _, h, _ => by simp only [cT] at h; cases h
  | .Await _ _, _, h, _ => by simp only [cT] at h; cases h
  | .Yield _ _, _, h, _ => by simp only [cT] at h; cases h
  | .YieldFrom _ _, _, h, _ => by simp only [cT] at h; cases h
  | .Compare _ _ _ _, _, h, _ => by simp only [cT] at h; cases h
  | .Call _ _ _ _, _, h, _ => by simp only [cT] at h; cases h
  | .FormattedValue _ _ _ _, _, h, _ => by simp only [cT] at h; cases h
  | .JoinedStr _ _, _, h, _ => by simp only [cT] at h; cases h
  | .Constant _ _ _, _, h, _ => by simp only [cT] at h; cases h
  | .Attribute _ _ _, _, h, _ => by simp only [cT] at h; cases h
  | .Subscript _ _ _, _, h, _ => by simp only [cT] at h; cases h
  | .Starred _ _, _, h, _ => by simp only [cT] at h; cases h
  | .List _ _, _, h, _ => by simp only [cT] at h; cases h
  | .Slice _ _ _ _, _, h, _ => by simp only [cT] at h; cases h
theorem cTs_ok (x : XOk CX k G XC C E c sc top X) (p : Nat → Bool) (hR : ∀ i, p i = true → ∀ σ v, Rr.r σ (σ.set i v)) : ∀ {ts : List Expr} {irs : List T}, cTs top c sc ts = some irs → T.alls p irs = true → PGs X ts (tGs Rr (wd X G XC) E (T.puts irs)) ∧ ts.length = irs.length ∧ ∀ t ∈ ts, isStar t = false
  | [], irs, h, hp => by
    rw [cTs] at h
    cases h
    exact ⟨gNil, rfl, fun _ z => by cases z⟩
  | t :: ts, irs, h, hp => by
    rw [cTs] at h
    split at h
    · rename_i i is h1 h2
      cases h
      rw [T.alls, Bool.and_eq_true] at hp
      have g1 := cT_ok x p hR h1 hp.1
      obtain ⟨g2, l2, s2⟩ := cTs_ok x p hR h2 hp.2
      have st := T.noStar h1
      exact ⟨gCns g1 g2 (by rw [asg_cons st]; rfl), by rw [List.length_cons, List.length_cons, l2], fun y hy => by
        rcases List.mem_cons.mp hy with z | z
        · rw [z]; exact st
        · exact s2 y z⟩
    · cases h
end
/-! ### what is walked -/
theorem evs1 {e : Ev.E} {f : D → M Its} : (fun env => (do
    let ds ← evEs C [e] env
    its1 f ds)) = fun env => (do
    let d ← evE C e env
    f d) := by
  funext env S
  show M.bnd (evEs C [e] env) _ S = M.bnd (evE C e env) _ S
  rw [evEs, evEs]
  show M.bnd (M.bnd (evE C e env) fun d => M.bnd (M.ret []) fun ds => M.ret (d :: ds)) _ S = _
  unfold M.bnd
  cases evE C e env S <;> rfl
theorem noSet {iter : Expr} {n : Nat} {ir : Ev.E} (h : cE n c sc iter = some ir) : ∀ env x, foldedSetIterable iter env x = pure x := by
  intro env x
  cases n with
  | zero => cases h
  | succ n =>
    cases iter <;> first
      | rfl
      | (simp only [cE] at h; cases h)
theorem noSetE {e : Expr} {n : Nat} {ir : Ev.E} (h : cE n c sc e = some ir) : notSet e = true := by
  cases n with
  | zero => cases h
  | succ n =>
    cases e <;> first
      | rfl
      | (simp only [cE] at h; cases h)
theorem tI.of {W : Wd} {E : XK} {mi mj : Fr → M Its} {X : Cx} {tg iter : Expr} (h : PI X tg iter (tI W E mi)) (e : mj = mi) : PI X tg iter (tI W E mj) := by rw [e]; exact h
theorem cIt_ok (x : XOk CX k G XC C E c sc top X) {n : Nat} {tg iter : Expr} {ki : IK} {es : List Ev.E} (ih : ∀ {e ir}, cE n c sc e = some ir → PE X e (tE (wd X G XC) E (evE C ir)) ∧ isStar e = false) (h : cIt c sc (cE n c sc) tg iter = some (ki, es)) :
    PI X tg iter (tI (wd X G XC) E fun env => do
      let ds ← evEs C es env
      ki.its ds) ∧ ∀ v, foldedSetIterable iter X.env v = pure v := by
  have sq : ∀ {e : Expr}, (cE n c sc e).map (fun e => (IK.seq, [e])) = some (ki, es) → PI X tg e (tI (wd X G XC) E fun env => do
      let ds ← evEs C es env
      ki.its ds) ∧ ∀ v, foldedSetIterable e X.env v = pure v := fun {e} h => by
    rw [Option.map_eq_some_iff] at h
    obtain ⟨ir, h1, h2⟩ := h
    cases h2
    exact ⟨tI.of (iSeq (ih h1).1) evs1, noSet h1 X.env⟩
  have gl : ∀ {y : Str}, glB sc y = true → Gl X y := fun {y} hg => by show X.env.scope.names.lookup y = _; rw [x.hsc]; exact of_decide_eq_true hg
  unfold cIt at h
  split at h
  · split at h
    · rename_i e
      obtain ⟨rfl, hg⟩ := e
      rw [Option.map_eq_some_iff] at h
      obtain ⟨ir, h1, h2⟩ := h
      cases h2
      obtain ⟨i1, i2⟩ := ih h1
      exact ⟨iRng1 (gl hg) (blt_free x (by decide +kernel)) (eCons i1 eNil (star_cons i2)) (star_cons i2), fun _ => rfl⟩
    split at h
    · rename_i e
      obtain ⟨rfl, hg⟩ := e
      split at h
      · rename_i ht
        rw [Option.map_eq_some_iff] at h
        obtain ⟨ir, h1, h2⟩ := h
        cases h2
        obtain ⟨i1, i2⟩ := ih h1
        cases tg <;> first
          | exact ⟨iEnm (gl hg) (blt_free x (by decide +kernel)) (eCons i1 eNil (star_cons i2)) (star_cons i2), fun _ => rfl⟩
          | cases ht
      · cases h
    · exact sq h
  · split at h
    · rename_i e
      obtain ⟨rfl, hg⟩ := e
      split at h
      · rename_i a' b' h1 h2
        cases h
        obtain ⟨i1, i2⟩ := ih h1
        obtain ⟨j1, j2⟩ := ih h2
        have s1 := star_cons (es := []) (env := X.env) j2
        have s2 : starEach [_, _] X.env = [_, _] := (star_cons (env := X.env) i2).trans (by rw [s1]; rfl)
        exact ⟨iRng2 (gl hg) (blt_free x (by decide +kernel)) (eCons i1 (eCons j1 eNil s1) (star_cons i2)) s2 s1, fun _ => rfl⟩
      · cases h
    split at h
    · rename_i e
      obtain ⟨rfl, hg⟩ := e
      split at h
      · rename_i ht
        split at h
        · rename_i a' b' h1 h2
          cases h
          obtain ⟨i1, i2⟩ := ih h1
          obtain ⟨j1, j2⟩ := ih h2
          have s1 := star_cons (es := []) (env := X.env) j2
          cases tg <;> first
            | exact ⟨iZip (gl hg) (blt_free x (by decide +kernel)) (eCons i1 (eCons j1 eNil s1) (star_cons i2)) (star_cons i2) (by rw [s1]; rfl), fun _ => rfl⟩
            | cases ht
        · cases h
      · cases h
    · exact sq h
  · exact sq h
/-! ### expressions -/
theorem eIfT {t a b : Expr} {mt ma mb : Fr → M D} {pos : Pos} (hc : PT X t (tT (wd X G XC) E mt)) (ha : PT X a (tT (wd X G XC) E ma)) (hb : PT X b (tT (wd X G XC) E mb)) : PT X (.IfExp t a b pos) (tT (wd X G XC) E fun env => do
      let x ← mt env
      tru x (ma env) (mb env)) := by
  refine ⟨fun pins s σ H Q I ⟨env, S, α, st, re, h⟩ => ?_⟩
  show wpAny _ _ (isTrue t X.env (eval t X.env) >>= fun r => if r = true then isTrue a X.env (eval a X.env) else isTrue b X.env (eval b X.env)) _ _ s
  refine wpAny_bind (thn (hc.run pins s σ H _ I (tT_of st re h)) fun r s1 ⟨H1, I1, S1, α1, sp1, st1, re1, h1⟩ => ?_)
  cases r with
  | true =>
    rw [if_pos rfl] at h1 ⊢
    exact ha.run pins s1 σ H1 Q I1 ⟨env, S1, α1, st1, re1, h1⟩
  | false =>
    rw [if_neg Bool.false_ne_true] at h1 ⊢
    exact hb.run pins s1 σ H1 Q I1 ⟨env, S1, α1, st1, re1, h1⟩
theorem pt_plain {e : Expr} {ir : Ev.E} (h : PE X e (tE (wd X G XC) E (evE C ir))) (he : ∀ whole, isTrue e X.env whole = (do let v ← whole; standAt e.pos; holding [v] (truthy v))) (hs : isStar e = false) :
    PE X e (tE (wd X G XC) E (evE C ir)) ∧ PT X e (tT (wd X G XC) E (evE C ir)) ∧ isStar e = false := ⟨h, ptOf h he, hs⟩
theorem own_ix {tg : Expr} {p : Str × Nat} (h : p ∈ ownOf c tg) : c.N[p.2]? = some p.1 := by
  unfold ownOf at h
  obtain ⟨y, _, h2⟩ := List.mem_filterMap.mp h
  rw [Option.map_eq_some_iff] at h2
  obtain ⟨i, h3, rfl⟩ := h2
  exact idx_get h3
theorem cE_ok : ∀ (n : Nat) {E : XK} {sc : Scope} {top : Bool} {X : Cx} {e : Expr} {ir : Ev.E}, cE n c sc e = some ir → XOk CX k G XC C E c sc top X → PE X e (tE (wd X G XC) E (evE C ir)) ∧ PT X e (tT (wd X G XC) E (evE C ir)) ∧ isStar e = false := by
  intro n
  induction n with
  | zero => intro E sc top X e ir h; cases h
  | succ n ih =>
    intro E sc top X e ir h x
    have ih1 : ∀ {e ir}, cE n c sc e = some ir → PE X e (tE (wd X G XC) E (evE C ir)) ∧ isStar e = false := fun h => let ⟨a, _, b⟩ := ih h x; ⟨a, b⟩
    have ih2 : ∀ {e ir}, cE n c sc e = some ir → PE X e (tE (wd X G XC) E (evE C ir)) ∧ PT X e (tT (wd X G XC) E (evE C ir)) := fun h => let ⟨a, b, _⟩ := ih h x; ⟨a, b⟩
    have gl : ∀ {y : Str}, glB sc y = true → Gl X y := fun {y} hg => by show X.env.scope.names.lookup y = _; rw [x.hsc]; exact of_decide_eq_true hg
    have call : ∀ {y : Str} {p pos : Pos} {args : List Expr} {ir : Ev.E}, cCall c sc y args (kList (cE n c sc) args) = some ir → PE X (.Call (.Name y p) args [] pos) (tE (wd X G XC) E (evE C ir)) := fun {y p pos args ir} h => by
      unfold cCall at h
      split at h
      · rename_i hn
        obtain ⟨n1, n2, n3⟩ := okName_of hn
        split at h
        · split at h <;> cases h
        · rename_i irs e1
          obtain ⟨l1, l2, l3⟩ := kList_ok (es := args) ih1 e1
          split at h
          · rename_i hv
            split at h
            · rename_i i a as e2
              cases h
              exact eCallV (fun j f hj => x.call hj) (by rw [x.hN]; exact idx_get e2) (by rw [x.hsc]; exact vis_of hv) l1 n1 n2 (star_cons (l2 a List.mem_cons_self)) (star_any fun e he => l2 e (List.mem_cons_of_mem _ he))
            · cases h
          split at h
          · rename_i hg
            split at h
            · rename_i f e2
              cases h
              obtain ⟨a, g1, g2⟩ := x.fns f y (idx_get e2)
              obtain ⟨c1, c2⟩ := x.call g1
              cases args with
              | nil =>
                have e3 : irs = [] := List.eq_nil_of_length_eq_zero l3.symm
                subst e3
                exact eCallG0 c1 (gl hg) g2 c2 n1
              | cons a as => exact eCallG c1 (gl hg) g2 c2 l1 n1 (star_cons (l2 a List.mem_cons_self)) (star_any fun e he => l2 e (List.mem_cons_of_mem _ he))
            · split at h
              · rename_i e2
                cases h
                exact blt_ok x e2 (gl hg) l1 l2
              · cases h
          · cases h
      · cases h
    unfold cE at h
    split at h
    · exact pt_plain (cName_ok x h) (fun _ => rfl) rfl
    · exact pt_plain (cConst_ok h) (fun _ => rfl) rfl
    · rw [Option.map_eq_some_iff] at h
      obtain ⟨irs, h1, rfl⟩ := h
      exact pt_plain (eTup (kList_ok ih1 h1).1) (fun _ => rfl) rfl
    · rw [Option.map_eq_some_iff] at h
      obtain ⟨irs, h1, rfl⟩ := h
      exact pt_plain (eLst (kList_ok ih1 h1).1) (fun _ => rfl) rfl
    · split at h
      · rename_i h1 h2 h3
        cases h
        exact pt_plain (eBin (bopR _ h1) (ih1 h2).1 (ih1 h3).1) (fun _ => rfl) rfl
      · cases h
    · rw [Option.map_eq_some_iff] at h
      obtain ⟨irs, h1, rfl⟩ := h
      exact ⟨eNot (ih2 h1).1, eNotT (ih2 h1).2, rfl⟩
    · rw [Option.map_eq_some_iff] at h
      obtain ⟨irs, h1, rfl⟩ := h
      exact pt_plain (eNeg (ih1 h1).1) (fun _ => rfl) rfl
    · obtain ⟨h1, h2⟩ := cAnd_ok ih2 h
      exact ⟨h1, h2.pt, rfl⟩
    · obtain ⟨h1, h2⟩ := cOr_ok ih2 h
      exact ⟨h1, h2.pt, rfl⟩
    · split at h
      · rename_i h1 h2 h3
        cases h
        exact ⟨eIf (ih2 h1).2 (ih1 h2).1 (ih1 h3).1, eIfT (ih2 h1).2 (ih2 h2).2 (ih2 h3).2, rfl⟩
      · cases h
    · split at h
      · rename_i h1 h2 h3
        cases h
        obtain ⟨o1, o2⟩ := copR x _ h1
        exact ⟨eCmp o1 (ih1 h2).1 (ih1 h3).1 (o2 _ (noSetE h3)), eCmpT o1 (ih1 h2).1 (ih1 h3).1 (o2 _ (noSetE h3)), rfl⟩
      · cases h
    · split at h
      · rename_i h1 h2 h3 h4 h5
        cases h
        obtain ⟨o1, o2⟩ := copR x _ h1
        obtain ⟨p1, p2⟩ := copR x _ h2
        exact ⟨eChain o1 p1 (ih1 h3).1 (ih1 h4).1 (ih1 h5).1 (p2 _ (noSetE h5)), eChainT o1 p1 (ih1 h3).1 (ih1 h4).1 (ih1 h5).1 (p2 _ (noSetE h5)), rfl⟩
      · cases h
    · split at h
      · rename_i h1 h2
        cases h
        exact pt_plain (eSlLo (ih1 h1).1 (ih1 h2).1) (fun _ => rfl) rfl
      · cases h
    · split at h
      · rename_i h1 h2
        cases h
        exact pt_plain (eSlHi (ih1 h1).1 (ih1 h2).1) (fun _ => rfl) rfl
      · cases h
    · split at h
      · rename_i h1 h2 h3
        cases h
        exact pt_plain (eSlLH (ih1 h1).1 (ih1 h2).1 (ih1 h3).1) (fun _ => rfl) rfl
      · cases h
    · split at h
      · rename_i hp
        split at h
        · rename_i h1 h2
          cases h
          exact pt_plain (eIx (ih1 h1).1 (ih1 h2).1 (plain_ok hp)) (fun _ => rfl) rfl
        · cases h
      · cases h
    · split at h
      · split at h
        · unfold kIsi at h
          split at h
          · rename_i hh
            obtain ⟨q1, q2, q3, q4, q5⟩ := hh
            split at h
            · rename_i t a e1 e2
              cases h
              obtain ⟨i1, i2⟩ := ih1 e2
              obtain ⟨t1, t2⟩ := tyNm_ok e1
              obtain ⟨n1, n2, n3⟩ := okName_of q4
              refine pt_plain (eIsi q3 (gl q2) (blt_free x (by rw [q3]; decide +kernel)) t2 (gl q5) (blt_free x t1) n3 n1 i1 (star_cons i2)) (fun _ => rfl) rfl
            · cases h
          · cases h
        · exact pt_plain (call h) (fun _ => rfl) rfl
      · exact pt_plain (call h) (fun _ => rfl) rfl
    · split at h
      · rename_i hh
        obtain ⟨q1, q2, q3⟩ := hh
        split at h
        · rename_i h1 h2 h3
          cases h
          obtain ⟨l1, l2, l3⟩ := kList_ok ih1 h2
          exact pt_plain (mth_ok x h3 (ih1 h1).1 l1 l2 q1 q2 q3 l3) (fun _ => rfl) rfl
        · cases h
      · cases h
    · split at h
      · rename_i elt tg iter ifs scope pos hh
        obtain ⟨q1, q2⟩ := hh
        split at h
        · rename_i ki es t fs el h1 h2 h3 h4
          split at h
          · rename_i ha
            cases h
            obtain ⟨w1, w2⟩ := cIt_ok x ih1 h1
            have ok : BlkOk X.N X.env.scope scope (ownOf c tg) := by rw [x.hN, x.hsc]; exact blkOk_by q1
            have tg := fun s H D cl fp => cT_ok (Rr := Rl.but ((ownOf c tg).map (·.2))) (x.blk s H scope D cl fp) (fun i => (ownOf c tg).any fun p => p.2 == i) (fun i hi => but_set (by
              rw [List.any_eq_true] at hi
              obtain ⟨p, p1, p2⟩ := hi
              exact List.mem_map.mpr ⟨p, p1, eq_of_beq p2⟩)) h2 ha
            cases ifs with
            | nil =>
              cases h3
              exact pt_plain (eLc x.calm (by rw [x.hN]; exact x.nd) w1 ok tg (fun _ _ _ _ _ => pts_nil) (fun h => read_nil h) (fun s H D cl fp => (ih h4 (x.blk s H _ D cl fp)).1) w2) (fun _ => rfl) rfl
            | cons i is =>
              have e0 : is = [] := List.eq_nil_of_length_eq_zero (by rw [List.length_cons] at q2; omega)
              subst e0
              unfold kList at h3
              split at h3
              · rename_i f fs' e1 e2
                cases h3
                cases e2
                exact pt_plain (eLc x.calm (by rw [x.hN]; exact x.nd) w1 ok tg (fun s H D cl fp => pts_one (ih e1 (x.blk s H _ D cl fp)).2.1) (fun h => h) (fun s H D cl fp => (ih h4 (x.blk s H _ D cl fp)).1) w2) (fun _ => rfl) rfl
              · cases h3
          · cases h
        · cases h
      · cases h
    · cases h
end
end Ev
namespace Ev
open PySem PySem.Spec PyProof.Rows L2
/-! ### statements: the compiler -/
def isComp : Expr → Bool
  | .ListComp _ _ _ _ => true
  | .SetComp _ _ _ _ => true
  | .DictComp _ _ _ _ _ => true
  | _ => false
def swNames (sc : Scope) (ts : List Expr) : List Str := List.filterMap (fun x => match x with
  | Expr.Name id pos => if (sc.names.lookup id == some NameKind.local && pos.line == (Option.map (fun (x : Expr) => x.pos.line) ts.head?).getD 0) = true then some id else none
  | x => none) ts
def swNone (sc : Scope) (ts vs : List Expr) : Bool :=
  (!(ts.length == 2 || ts.length == 3) || vs.length != ts.length) || (((swNames sc ts).length != ts.length || (swNames sc ts).eraseDups.length != (swNames sc ts).length) || vs.all (foldedForSure 8))
def noStarB (vs : List Expr) : Bool := vs.all fun x => !isStar x
theorem noStarB_ok {vs : List Expr} (h : noStarB vs = true) : (vs.any fun x => match x with
              | Expr.Starred value pos => true
              | x => false) = false := by
  unfold noStarB at h
  rw [List.all_eq_true] at h
  rw [List.any_eq_false]
  intro x hx
  have := h x hx
  cases x <;> simp_all [isStar]
theorem swNone_ok {env : Env} {ts vs : List Expr} {k k2 : Nat} {p p2 : Pos} (h : swNone env.scope ts vs = true) : swappedStores [.Tuple ts k p] (.Tuple vs k2 p2) env = pure none := by
  unfold swappedStores
  dsimp only
  split
  · rfl
  split
  · rfl
  rename_i h1 h2
  unfold swNone at h
  have e1 : (!(ts.length == 2 || ts.length == 3) || vs.length != ts.length) = false := by
    cases q : (!(ts.length == 2 || ts.length == 3) || vs.length != ts.length) with
    | false => rfl
    | true => rw [q] at h1; exact absurd rfl h1
  rw [e1, Bool.false_or, Bool.or_eq_true] at h
  rcases h with h | h
  · exact if_pos h
  · rw [if_pos h]
    split <;> rfl
theorem blk_fn {env : Env} (h : env.scope.kind = .function) : env.blockKind = .function := by unfold Env.blockKind; rw [h]; rfl
theorem swSome_ok {env : Env} {ts vs : List Expr} {k k2 : Nat} {p p2 : Pos} (hk : env.scope.kind = .function) (hs : noStarB vs = true) (h1 : (!(ts.length == 2 || ts.length == 3) || vs.length != ts.length) = false)
    (h2 : ((swNames env.scope ts).length != ts.length || (swNames env.scope ts).eraseDups.length != (swNames env.scope ts).length) = false) (h3 : vs.all (foldedForSure 8) = false) (h4 : vs.all (constantsAlone 8) = false) :
    swappedStores [.Tuple ts k p] (.Tuple vs k2 p2) env = pure (some (swNames env.scope ts)) := by
  unfold swappedStores
  dsimp only
  rw [if_neg (by rw [h1, blk_fn hk]; exact fun h => nomatch h)]
  split
  · rename_i q
    exact Bool.noConfusion ((noStarB_ok hs).symm.trans q)
  refine (if_neg (c := ((swNames env.scope ts).length != ts.length || (swNames env.scope ts).eraseDups.length != (swNames env.scope ts).length) = true) (by rw [h2]; exact fun h => nomatch h)).trans ?_
  rw [if_neg (by rw [h3]; exact fun h => nomatch h), if_neg (by rw [h4]; exact fun h => nomatch h)]
  rfl
/-- two, three names side by side -/
def swOk (sc : Scope) (ts vs : List Expr) : Bool :=
  decide (sc.kind = .function) && (noStarB vs && (!(!(ts.length == 2 || ts.length == 3) || vs.length != ts.length) && (!((swNames sc ts).length != ts.length || (swNames sc ts).eraseDups.length != (swNames sc ts).length) && (!(vs.all (foldedForSure 8)) && !(vs.all (constantsAlone 8))))))
theorem swOk_ok {env : Env} {ts vs : List Expr} {k k2 : Nat} {p p2 : Pos} (h : swOk env.scope ts vs = true) : swappedStores [.Tuple ts k p] (.Tuple vs k2 p2) env = pure (some (swNames env.scope ts)) := by
  unfold swOk at h
  simp only [Bool.and_eq_true, Bool.not_eq_true', decide_eq_true_eq] at h
  obtain ⟨a, b, c, d, e, f⟩ := h
  exact swSome_ok a b c d e f
def kStm (f : Stmt → Option St) : List Stmt → Option (List St)
  | [] => some []
  | e :: es => (kStm f es).map fun xs => (f e).getD (.raise 0) :: xs
def distB : List Nat → Bool
  | [a, b] => decide (a ≠ b)
  | [a, b, c] => decide (a ≠ b ∧ a ≠ c ∧ b ≠ c)
  | _ => false
/-- the swap of name = [..] -/
def lcSw (sc scope : Scope) (y : Str) (py pos : Pos) : Bool := decide (sc.names.lookup y = some .local) && (py.line == pos.line && !(scope.names.any fun (n, k) => n == y && (k == .local || k == .cell)))
def cS : Nat → Cc → Scope → Stmt → Option St
  | 0, _, _, _ => none
  | n + 1, c, sc, st => match st with
    | .Pass _ => some .pass
    | .Break _ => some .brk
    | .Continue _ => some .cont
    | .Return none _ => some .retN
    | .Return (some e) _ => (cE 40 c sc e).map .ret
    | .Expr e _ => if isComp e = true then none else (cE 40 c sc e).map .drop
    | .If t a b _ => match cE 40 c sc t, kStm (cS n c sc) a, kStm (cS n c sc) b with
      | some t, some a, some b => some (.ife t a b)
      | _, _, _ => none
    | .While t a [] _ => match cE 40 c sc t, kStm (cS n c sc) a with
      | some t, some a => some (.whl t a)
      | _, _ => none
    | .For tg it a [] _ => match cT true c sc tg, cIt c sc (cE 40 c sc) tg it, kStm (cS n c sc) a with
      | some t, some (k, es), some a => some (.for t k es a)
      | _, _, _ => none
    | .Assign [.Name x px] e pos => if locB sc x = true ∨ sc.names.lookup x = some .cell then (match e with
      | .ListComp el gs scope pe => if sc.kind = .function then (if lcSw sc scope x px pe = true ∨ decide (sc.names.lookup x = some .cell) = true then (match idx x c.N, cE 40 c sc (.ListComp el gs scope pe) with
        | some i, some e => some (.set i e)
        | _, _ => none) else none) else none
      | e => if isComp e = true then none else (match idx x c.N, cE 40 c sc e with
        | some i, some e => some (.set i e)
        | _, _ => none)) else none
    | .Assign [.Tuple ts kt pt] (.Tuple vs kv pv) pos => if swNone sc ts vs = true then (match cTs true c sc ts, cE 40 c sc (.Tuple vs kv pv) with
        | some t, some e => some (.asg (.tup t) e)
        | _, _ => none) else if swOk sc ts vs = true then (match ts, vs, kList (cE 40 c sc) vs with
          | [.Name x _, .Name y _], [a, b], some [ea, eb] => match idx x c.N, idx y c.N with
            | some i, some j => if swNames sc ts = [x, y] ∧ distB [i, j] = true ∧ locB sc x = true ∧ locB sc y = true then some (.par2 i j ea eb) else none
            | _, _ => none
          | [.Name x _, .Name y _, .Name z _], [a, b, d], some [ea, eb, ed] => match idx x c.N, idx y c.N, idx z c.N with
            | some i, some j, some l => if swNames sc ts = [x, y, z] ∧ distB [i, j, l] = true ∧ locB sc x = true ∧ locB sc y = true ∧ locB sc z = true then some (.par3 i j l ea eb ed) else none
            | _, _, _ => none
          | _, _, _ => none) else none
    | .Assign [.Tuple ts kt pt] e pos => if isTup e = true then none else (match cTs true c sc ts, cE 40 c sc e with
        | some t, some e => some (.asg (.tup t) e)
        | _, _ => none)
    | .Assign [.Subscript a i _] e _ => if plainIx i = true then (match cE 40 c sc a, cE 40 c sc i, cE 40 c sc e with
        | some a, some i, some e => some (.sub a i e)
        | _, _, _ => none) else none
    | .AugAssign (.Name x _) o e _ => if locB sc x = true ∨ sc.names.lookup x = some .cell then (match o, idx x c.N, cE 40 c sc e with
        | .Add, some i, some e => some (.aug i .add e)
        | .Sub, some i, some e => some (.aug i .sub e)
        | _, _, _ => none) else none
    | _ => none
def cSs (n : Nat) (c : Cc) (sc : Scope) (b : List Stmt) : Option (List St) := kStm (cS n c sc) b
/-! ### .. and what it reads -/
section
variable {CX : CXT} {k : Nat} {G XC : Nat → Option Addr} {C : Nat → List D → M D} {E : XK} {c : Cc} {sc : Scope} {X : Cx}
theorem swW {e : Expr} {tg : Option Expr} {l : Nat} {env : Env} (h : isComp e = false) : swapsWith e tg l env = pure false := by
  cases e <;> first
    | rfl
    | cases h
theorem swT {e : Expr} {ts : List Expr} {k : Nat} {p : Pos} {l : Nat} {env : Env} : swapsWithSole [.Tuple ts k p] e l env = pure false := by
  cases e <;> rfl
theorem swS {e a i : Expr} {p : Pos} {l : Nat} {env : Env} : swapsWithSole [.Subscript a i p] e l env = pure false := by
  cases e <;> rfl
theorem stT {e : Expr} {ts : List Expr} {k : Nat} {p : Pos} {env : Env} (h : isTup e = false) : swappedStores [.Tuple ts k p] e env = pure none := by
  cases e <;> first
    | rfl
    | cases h
theorem stS {e a i : Expr} {p : Pos} {env : Env} : swappedStores [.Subscript a i p] e env = pure none := by
  cases e <;> rfl
theorem sFail {st : Stmt} : PS X st (tS (wd X G XC) E fun _ => M.fail) := ⟨fun pins s σ H D I ⟨_, _, _, _, _, h⟩ => h.elim⟩
theorem kStm_ok {n : Nat} (ih : ∀ {s ir}, cS n c sc s = some ir → PS X s (tS (wd X G XC) E (evS C ir))) : ∀ {ss : List Stmt} {irs : List St}, kStm (cS n c sc) ss = some irs → PSs X ss (tS (wd X G XC) E (evSs C irs))
  | [], irs, h => by
    cases h
    exact sNil
  | s :: ss, irs, h => by
    unfold kStm at h
    rw [Option.map_eq_some_iff] at h
    obtain ⟨xs, h2, rfl⟩ := h
    cases h1 : cS n c sc s with
    | none => exact sCons sFail (kStm_ok ih h2)
    | some x => exact sCons (ih h1) (kStm_ok ih h2)
theorem loc_of {x : Str} (hsc : X.env.scope = sc) (h : locB sc x = true ∨ sc.names.lookup x = some .cell) : Loc X.env.scope x := by
  rw [hsc]
  rcases h with h | h
  · exact .inl (of_decide_eq_true h)
  · exact .inr h
theorem asg_one {t : Expr} {env : Env} (h : isStar t = false) : (assignEach [t] env).map (·.2) = [assign t env] := by rw [asg_cons h]; rfl
theorem T.allT : (∀ (t : T), t.all (fun _ => true) = true) := fun t => by
  refine T.rec (motive_1 := fun t => T.all (fun _ => true) t = true) (motive_2 := fun ts => T.alls (fun _ => true) ts = true) ?_ ?_ ?_ ?_ t
  · intro i; rw [T.all]
  · intro ts h; rw [T.all]; exact h
  · rw [T.alls]
  · intro t ts h1 h2; rw [T.alls, h1, h2]; rfl
theorem augAdd {W : Wd} {E : XK} {H α S x y} {d e : D} {P : D → Store → Hp → List Addr → Prop} (st : StOk W H α S) (r1 : RD W H α d x) (r2 : RD W H α e y) (h : okM W E H α (dAug .add d e S) P) : ∃ i j, x = .int i ∧ y = .int j ∧ P (.int (i + j)) S H α := by
  cases d with
  | int i =>
    cases e with
    | int j =>
      cases r1
      cases r2
      exact ⟨i, j, rfl, rfl, h _ _ Step.refl st⟩
    | _ => exact h.elim
  | _ => cases e <;> exact h.elim
theorem augSub {W : Wd} {E : XK} {H α S x y} {d e : D} {P : D → Store → Hp → List Addr → Prop} (st : StOk W H α S) (r1 : RD W H α d x) (r2 : RD W H α e y) (h : okM W E H α (dAug .sub d e S) P) : ∃ i j, x = .int i ∧ y = .int j ∧ P (.int (i - j)) S H α := by
  cases d with
  | int i =>
    cases e with
    | int j =>
      cases r1
      cases r2
      exact ⟨i, j, rfl, rfl, h _ _ Step.refl st⟩
    | _ => exact h.elim
  | _ => cases e <;> exact h.elim
theorem gTup (x : XOk CX k G XC C E c sc true X) {ts : List Expr} {irs : List T} {kt : Nat} {pt : Pos} (h : cTs true c sc ts = some irs) : PG X (.Tuple ts kt pt) (tG Rl.any (wd X G XC) E (T.put (.tup irs))) :=
  cT_ok (Rr := Rl.any) (t := .Tuple ts kt pt) (ir := .tup irs) x (fun _ => true) (fun _ _ _ _ => trivial) (by rw [cT, h]; rfl) (T.allT _)
theorem lc_parts (x : XOk CX k G XC C E c sc true X) {n : Nat} {elt : Expr} {gs : List Comprehension} {scope : Scope} {pos : Pos} {ir : Ev.E} (h : cE (n + 1) c sc (.ListComp elt gs scope pos) = some ir) :
    ∃ (tg iter : Expr) (ifs : List Expr) (own : List (Str × Nat)) (t : T) (mi : Fr → M Its) (mt me : Fr → M D) (tt : TT), gs = [⟨tg, iter, ifs, 0⟩] ∧ PI X tg iter (tI (wd X G XC) E mi) ∧ BlkOk X.N X.env.scope scope own ∧
    (∀ (s : Shared) (H : Hp) (C : Addr) (cl : List (Str × Addr)) (fp : List Addr), PG (X.blk s H scope (compEnvC scope cl C X.env) fp) tg (tG (Rl.but (own.map (·.2))) (wd X G XC) E0 t.put)) ∧
    (∀ (s : Shared) (H : Hp) (C : Addr) (cl : List (Str × Addr)) (fp : List Addr), PTs (X.blk s H scope (compEnvC scope cl C X.env) fp) ifs tt) ∧ (∀ {σ H Q}, tT (wd X G XC) E0 mt σ H Q → tt σ H Q) ∧
    (∀ (s : Shared) (H : Hp) (C : Addr) (cl : List (Str × Addr)) (fp : List Addr), PE (X.blk s H scope (compEnvC scope cl C X.env) fp) elt (tE (wd X G XC) E0 me)) ∧ (∀ x, foldedSetIterable iter X.env x = pure x) ∧
    evE C ir = (fun env => (do
      let it ← mi env
      let xs ← noexc <| lcF it.ok t.put mt me (wipeF env (own.map (·.2))) it.ds []
      alloc (.lst xs))) := by
  have ih1 : ∀ {e ir}, cE n c sc e = some ir → PE X e (tE (wd X G XC) E (evE C ir)) ∧ isStar e = false := fun h => let ⟨a, _, b⟩ := cE_ok n h x; ⟨a, b⟩
  unfold cE at h
  split at h
  all_goals first
    | (rename_i he; cases he; done)
    | (cases h; done)
    | skip
  · rename_i elt tg iter ifs scope pos he
    cases he
    split at h
    · rename_i hh
      obtain ⟨q1, q2⟩ := hh
      split at h
      · rename_i ki es t fs el h1 h2 h3 h4
        split at h
        · rename_i ha
          cases h
          obtain ⟨w1, w2⟩ := cIt_ok x ih1 h1
          have ok : BlkOk X.N X.env.scope scope (ownOf c tg) := by rw [x.hN, x.hsc]; exact blkOk_by q1
          have tg' := fun s H D cl fp => cT_ok (Rr := Rl.but ((ownOf c tg).map (·.2))) (x.blk s H scope D cl fp) (fun i => (ownOf c tg).any fun p => p.2 == i) (fun i hi => but_set (by
            rw [List.any_eq_true] at hi
            obtain ⟨p, p1, p2⟩ := hi
            exact List.mem_map.mpr ⟨p, p1, eq_of_beq p2⟩)) h2 ha
          cases ifs with
          | nil =>
            cases h3
            exact ⟨tg, iter, [], ownOf c tg, t, _, _, _, _, rfl, w1, ok, tg', (fun _ _ _ _ _ => pts_nil), (fun h => read_nil h), (fun s H D cl fp => (cE_ok n h4 (x.blk s H _ D cl fp)).1), w2, rfl⟩
          | cons i is =>
            have e0 : is = [] := List.eq_nil_of_length_eq_zero (by rw [List.length_cons] at q2; omega)
            subst e0
            unfold kList at h3
            split at h3
            · rename_i f fs' e1 e2
              cases h3
              cases e2
              exact ⟨tg, iter, [i], ownOf c tg, t, _, _, _, _, rfl, w1, ok, tg', (fun s H D cl fp => pts_one (cE_ok n e1 (x.blk s H _ D cl fp)).2.1), (fun h => h), (fun s H D cl fp => (cE_ok n h4 (x.blk s H _ D cl fp)).1), w2, rfl⟩
            · cases h3
        · cases h
      · cases h
    · cases h
theorem sw_cell {elt : Expr} {gs : List Comprehension} {scope : Scope} {pos py : Pos} {y : Str} {l : Nat} {env : Env} (hy : env.scope.names.lookup y = some .cell) : swapsWith (.ListComp elt gs scope pos) (some (.Name y py)) l env = pure false := by
  have ky : env.kindOf y = some .cell := hy
  unfold swapsWith
  simp only [ky]
  have : ((some NameKind.cell : Option NameKind) == some NameKind.local) = false := rfl
  simp only [this, Bool.and_false, Bool.false_and]
theorem cS_ok (x : XOk CX k G XC C E c sc true X) (hp : PassesOwn (model X.prog X.w) X.A X.env X.xe) : ∀ (n : Nat) {s : Stmt} {ir : St}, cS n c sc s = some ir → PS X s (tS (wd X G XC) E (evS C ir)) := by
  intro n
  have nd : X.N.Nodup := by rw [x.hN]; exact x.nd
  have ex : ∀ {e : Expr} {ir : Ev.E}, cE 40 c sc e = some ir → PE X e (tE (wd X G XC) E (evE C ir)) := fun h => (cE_ok 40 h x).1
  have ih1 : ∀ {e ir}, cE 40 c sc e = some ir → PE X e (tE (wd X G XC) E (evE C ir)) ∧ isStar e = false := fun h => let ⟨a, _, b⟩ := cE_ok 40 h x; ⟨a, b⟩
  induction n with
  | zero => intro s ir h; cases h
  | succ n ih =>
    intro s ir h
    unfold cS at h
    split at h
    · cases h; exact sPass
    · cases h; exact sBrk
    · cases h; exact sCont
    · cases h; exact sRetN
    · rw [Option.map_eq_some_iff] at h
      obtain ⟨e, h1, rfl⟩ := h
      exact sRet (ex h1)
    · split at h
      · cases h
      · rename_i hc
        rw [Option.map_eq_some_iff] at h
        obtain ⟨e, h1, rfl⟩ := h
        exact sDrop (ex h1) (swW (by simpa using hc))
    · split at h
      · rename_i h1 h2 h3
        cases h
        exact sIf (cE_ok 40 h1 x).2.1 (kStm_ok ih h2) (kStm_ok ih h3)
      · cases h
    · split at h
      · rename_i h1 h2
        cases h
        exact sWhile hp (cE_ok 40 h1 x).2.1 (kStm_ok ih h2)
      · cases h
    · split at h
      · rename_i h1 h2 h3
        cases h
        obtain ⟨i1, i2⟩ := cIt_ok x ih1 h2
        exact sFor hp x.calm i1 (cT_ok x (fun _ => true) (fun _ _ _ _ => trivial) h1 (T.allT _)) (kStm_ok ih h3) i2
      · cases h
    · rename_i y px e pos
      split at h
      · rename_i hl
        have hx := loc_of (X := X) x.hsc hl
        split at h
        · split at h
          · rename_i hk
            split at h
            · rename_i hsw
              split at h
              · rename_i h1 h2
                cases h
                have hi := idx_get h1
                rw [← x.hN] at hi
                rcases hsw with hq | hq
                · unfold lcSw at hq
                  simp only [Bool.and_eq_true, Bool.not_eq_true', decide_eq_true_eq] at hq
                  obtain ⟨r1, r2, r3⟩ := hq
                  obtain ⟨tg, iter, ifs, own, t, mi, mt, me, tt, rfl, a1, a2, a3, a4, a5, a6, a7, a8⟩ := lc_parts x h2
                  have q := sSetLc (i := _) (spos := pos) (py := px) x.calm nd hi (by rw [x.hsc]; exact r1) (sw_true (l := pos.line) (by rw [x.hsc]; exact hk) (by rw [x.hsc]; exact r1) r2 r3) a1 a2 a3 a4 a5 a6 a7
                  exact PS.weak q fun D σ H hz => by
                    obtain ⟨env, S, α, st, re, hz⟩ := hz
                    refine ⟨env, S, α, st, re, ?_⟩
                    have hz : okM _ _ H α ((evE C _ env >>= fun d => M.ret (Fl.nx, env.set _ (some d))) S) _ := hz
                    rw [a8] at hz
                    exact hz
                · exact sSet nd hi hx (ex h2) (sw_cell (by rw [x.hsc]; exact of_decide_eq_true hq)) (.inl (x.tp rfl _))
              · cases h
            · cases h
          · cases h
        · split at h
          · cases h
          · rename_i hc
            split at h
            · rename_i h1 h2
              cases h
              have hi := idx_get h1
              rw [← x.hN] at hi
              exact sSet nd hi hx (ex h2) (swW (by simpa using hc)) (.inl (x.tp rfl _))
            · cases h
      · cases h
    · split at h
      · rename_i hsw
        split at h
        · rename_i h1 h2
          cases h
          exact sAsg (ex h2) (gTup x h1) swT (swNone_ok (by rw [x.hsc]; exact hsw)) (asg_one rfl)
        · cases h
      · split at h
        · rename_i hsw
          have w := fun k k2 p p2 => swOk_ok (env := X.env) (k := k) (k2 := k2) (p := p) (p2 := p2) (by rw [x.hsc]; exact hsw)
          split at h
          · rename_i h1
            split at h
            · rename_i i j h2 h3
              split at h
              · rename_i hq
                obtain ⟨q1, q2, q3, q4⟩ := hq
                cases h
                obtain ⟨l1, l2, l3⟩ := kList_ok ih1 (by assumption)
                simp only [x.hsc, q1] at w
                exact sPar2 x.calm nd (by rw [x.hN]; exact idx_get h2) (by rw [x.hN]; exact idx_get h3) (of_decide_eq_true q2) (by rw [x.hsc]; exact of_decide_eq_true q3) (by rw [x.hsc]; exact of_decide_eq_true q4) l1 (w _ _ _ _)
              · cases h
            · cases h
          · rename_i h1
            split at h
            · rename_i i j l h2 h3 h4
              split at h
              · rename_i hq
                obtain ⟨q1, q2, q3, q4, q5⟩ := hq
                cases h
                obtain ⟨l1, l2, l3⟩ := kList_ok ih1 (by assumption)
                simp only [x.hsc, q1] at w
                obtain ⟨d1, d2, d3⟩ := of_decide_eq_true q2
                exact sPar3 x.calm nd (by rw [x.hN]; exact idx_get h2) (by rw [x.hN]; exact idx_get h3) (by rw [x.hN]; exact idx_get h4) d1 d2 d3 (by rw [x.hsc]; exact of_decide_eq_true q3) (by rw [x.hsc]; exact of_decide_eq_true q4) (by rw [x.hsc]; exact of_decide_eq_true q5) l1 (w _ _ _ _)
              · cases h
            · cases h
          · cases h
        · cases h
    · split at h
      · cases h
      · rename_i hc
        split at h
        · rename_i h1 h2
          cases h
          exact sAsg (ex h2) (gTup x h1) swT (stT (by simpa using hc)) (asg_one rfl)
        · cases h
    · split at h
      · rename_i hpl
        split at h
        · rename_i h1 h2 h3
          cases h
          exact sSub (ex h3) (ex h1) (ex h2) (by
            rename_i i _ _ _ _ _ _ _ _ _
            cases i <;> first
              | (intro v; rfl)
              | cases hpl) swS stS (asg_one rfl)
        · cases h
      · cases h
    · split at h
      · rename_i hl
        have hx := loc_of (X := X) x.hsc hl
        split at h
        · rename_i h1 h2
          cases h
          exact sAug ip_add augAdd nd (by rw [x.hN]; exact idx_get h1) hx (ex h2) (.inl (x.tp rfl _))
        · rename_i h1 h2
          cases h
          exact sAug ip_sub augSub nd (by rw [x.hN]; exact idx_get h1) hx (ex h2) (.inl (x.tp rfl _))
        · cases h
      · cases h
    · cases h
end
end Ev
namespace Ev
open PySem PySem.Spec PyProof.Rows L2
/-! ### a def of the program, a table of them -/
structure Fn where
  name : Str
  params : Arguments
  text : List Stmt
  scope : Scope
  ps : List Str
  N : List Str
  body : List St
def CXn : CXT := fun _ _ _ _ _ _ => False
def Pr (l : List Fn) : Nat → Option FD := fun i => (l[i]?).map fun f => ⟨f.ps.length, f.N.length, f.body⟩
def nms (l : List Fn) : List Str := l.map (·.name)
/-- what is checked of a def's text -/
structure Fn.Ok (names : List Str) (cons : List (Str × D)) (f : Fn) : Prop where
  sc : FnScope f.N f.ps f.scope
  bind : ∀ (kV doc pm : Value) (an : Option Addr) (cdv ct : Value) (us : List Value), us.length = f.ps.length → bindArgs (PySem.W.fnOf f.name f.name f.params f.text f.scope .none kV doc pm an cdv ct) ⟨us, []⟩ = pure (f.ps.zip us)
  ir : cSs 60 ⟨f.N, names, cons⟩ f.scope f.text = some f.body
/-! ### a def by its body -/
theorem fng_of {CX : CXT} {P : Program} {w : World} {K : PySem.W.Frag} {mg : Str → Option Value} {base : Heap} {k : Nat} {f : Addr} {name qual : Str} {params : Arguments} {body : List Stmt} {scope : Scope} {dV kV doc pm cdv ct oc : Value} {an od : Option Addr}
    {osl : Array (Option Value)} {N ps : List Str} {sp : Sp} (S : FnScope N ps scope) (lk : K.lookup f = some ⟨oc, od, .func (PySem.W.fnOf name qual params body scope dV kV doc pm an cdv ct), osl⟩)
    (hcd : PySem.W.codeIn K cdv qual = true) (lens : ∀ vs H Q E, sp vs H Q E → vs.length = ps.length)
    (hbody : ∀ (A : Around) (outer : List Env) (s : Shared) (H : Hp) (vs : List V) (Q : VK) (E : XK), Room k (A.deeper (envOfC qual scope s.heap.objs.size f cdv)) → A.guards = some [] → sp vs H Q E →
      ∃ t, PSs (cxOf CX P w K mg base N qual scope f cdv A outer s H E) body t ∧ t { nx := fun _ H' => Q .non H', rt := Q } (L2.start N vs) H) :
    FnG P w K mg base CX (k + 1) f (PySem.W.fnOf name qual params body scope dV kV doc pm an cdv ct) ps sp := by
  refine ⟨lens, fun A outer s H args us vs Q E hr hgd e0 hb r hsp => ?_⟩
  have hl := lens _ _ _ _ hsp
  have inK : K.In s.heap := e0.mod.kin.keeps fun b o e => (e0.bs b o e).1
  have kinds : ∀ y ∈ ps.zip us, scope.names.lookup y.1 = some .local ∨ (scope.names.lookup y.1 = some .cell ∧ ((cellsFrom (s.heap.objs.size + 1) scope.names []).lookup y.1).isSome = true) := fun y hy =>
    (S.par y.1 (List.of_mem_zip (a := y.1) (b := y.2) hy).1).imp id fun q => ⟨q, PySem.W.cellsFrom_some _ _ _ (.inl q)⟩
  refine codeAny_call_function hr.depth (inK _ _ lk) rfl S.co S.gen rfl (PySem.W.codeRec_of inK hcd) (hb _ _ _ _ ?_)
  refine wpAny_newFunctionEnv_cells S.kind kinds fun env he s1 x => ?_
  subst he
  refine ⟨(e0.mod.nolimit.keeps fun b o e => (e0.bs b o e).1).keeps x.toInCall.keep, codeAny_func ?_⟩
  obtain ⟨t, ht, hq⟩ := hbody A outer s H vs Q E (hr.deeper _) hgd hsp
  have I0 : Inv (cxOf CX P w K mg base N qual scope f cdv A outer s H E) [] (L2.start N vs) H s1 := inv_start S hr.hd e0 hl r x
  refine wpAny_mono (ht.run [] s1 (L2.start N vs) H _ I0 hq) (fun fl s' hs => ?_) fun _ _ hs => hs
  cases fl with
  | ret u =>
    obtain ⟨x, σx, Hx, J, rv, q⟩ := hs
    exact ⟨x, Hx, J.os, J.bare, J.base, J.hok, rv, q⟩
  | next =>
    obtain ⟨σ', H', J, q⟩ := hs
    exact ⟨V.non, H', J.os, J.bare, J.base, J.hok, rfl, q⟩
  | brk => exact hs.choose_spec.choose_spec.2.elim
  | cont => exact hs.choose_spec.choose_spec.2.elim
theorem RDs.env {W : Wd} {H : Hp} {α : List Addr} {ds : List D} {vs : List V} (r : RDs W H α ds vs) (n : Nat) : RE W H α (ds.map some ++ List.replicate (n - ds.length) none) (vs.map some ++ List.replicate (n - vs.length) none) := by
  refine ⟨by simp [r.length], fun i d e => ?_⟩
  by_cases hi : i < ds.length
  · rw [List.getElem?_append_left (by simpa using hi), List.getElem?_map] at e
    cases q : ds[i]? with
    | none => rw [q] at e; cases e
    | some x =>
      rw [q] at e
      cases e
      obtain ⟨v, h1, h2⟩ := r.get q
      refine ⟨v, ?_, h2⟩
      rw [List.getElem?_append_left (by simpa [← r.length] using hi), List.getElem?_map, h1]
      rfl
  · rw [List.getElem?_append_right (by simpa using hi), List.getElem?_replicate] at e
    split at e <;> cases e
section
variable {P : Program} {w : World} {K : PySem.W.Frag} {mg : Str → Option Value} {base : Heap} {l : List Fn} {names : List Str} {cons : List (Str × D)} {G XC : Nat → Option Addr}
/-- what the head tells -/
structure HdOk (K : PySem.W.Frag) (mg : Str → Option Value) (l : List Fn) (cons : List (Str × D)) (G XC : Nat → Option Addr) : Prop where
  fn : ∀ (i : Nat) (f : Fn) (a : Addr), l[i]? = some f → G i = some a → ∃ fd, FunD K f.name f.name f.params f.text f.scope [] [] a fd
  dom : ∀ (i : Nat) (a : Addr), G i = some a → ∃ f, l[i]? = some f
  gl : ∀ (i : Nat) (f : Fn), l[i]? = some f → ∃ a, G i = some a ∧ mg f.name = some (.ref a)
  cons : ∀ x d, cons.lookup x = some d → ∃ v u, mg x = some u ∧ RelV v u ∧ ∀ H α, RD ⟨K, G, XC⟩ H α d v
  blts : ∀ x ∈ bltNames, mg x = none
theorem fns_ok (hd : HdOk K mg l cons G XC) (hl : ∀ (i : Nat) (f : Fn), l[i]? = some f → f.Ok (nms l) cons) : ∀ n, FnsOk P w K mg base CXn n G XC (evF (Pr l) n)
  | 0 => by
    refine ⟨fun i a hi => ?_, fun _ _ _ _ _ h => h⟩
    obtain ⟨f, hf⟩ := hd.dom i a hi
    obtain ⟨fd, F⟩ := hd.fn i f a hf hi
    refine ⟨F.kp, fd, f.ps, ⟨fun vs H Q E ⟨ds, S, α, _, _, h⟩ => h.elim, fun A outer s H args us vs Q E hr hg e0 hb r ⟨ds, S, α, _, _, h⟩ => h.elim⟩, F.bindsN (hl i f hf).bind⟩
  | n + 1 => by
    have ih := fns_ok hd hl n
    refine ⟨fun i a hi => ?_, fun _ _ _ _ _ h => h⟩
    obtain ⟨f, hf⟩ := hd.dom i a hi
    obtain ⟨fd, F⟩ := hd.fn i f a hf hi
    have ok := hl i f hf
    refine ⟨F.kp, fd, f.ps, ?_, F.bindsN ok.bind⟩
    obtain ⟨oc, od, dV, kV, doc, pm, an, cdv, ct, osl, rfl, look, hcd, _, _⟩ := F.ex
    have eC : ∀ ds, evF (Pr l) (n + 1) i ds = if ds.length = f.ps.length then (do
        let r ← evSs (evF (Pr l) n) f.body (ds.map some ++ List.replicate (f.N.length - ds.length) none)
        fin r.1) else M.fail := fun ds => by
      rw [evF]
      unfold Pr
      rw [hf]
      rfl
    have lens : ∀ (vs : List V) (H : Hp) (Q : VK) (E : XK), spF ⟨K, G, XC⟩ (evF (Pr l) (n + 1) i) vs H Q E → vs.length = f.ps.length := fun vs H Q E ⟨ds, S, α, st, rd, h⟩ => by
      rw [eC] at h
      split at h
      · rename_i e
        rw [← rd.length]; exact e
      · exact h.elim
    refine fng_of ok.sc look hcd lens fun A outer s H vs Q E hr hg ⟨ds, S, α, st, rd, h⟩ => ?_
    rw [eC] at h
    split at h
    case isFalse => exact h.elim
    case isTrue e =>
    have xo : XOk CXn n G XC (evF (Pr l) n) E ⟨f.N, nms l, cons⟩ f.scope true (cxOf CXn P w K mg base f.N f.name f.scope a cdv A outer s H E).nox :=
      { hsc := rfl, hN := rfl, nd := ok.sc.nd, calm := rfl, room := hr, gd := hg, fo := ih, fns := fun j x hj => by
          have hj : (nms l)[j]? = some x := hj
          unfold nms at hj
          rw [List.getElem?_map] at hj
          cases q : l[j]? with
          | none => rw [q] at hj; cases hj
          | some g =>
            rw [q] at hj
            cases hj
            exact hd.gl j g q
        cons := hd.cons, blts := hd.blts, pass := fun _ _ _ _ _ _ _ h => h.elim, tp := fun _ _ => rfl }
    refine ⟨_, PSs.nox (kStm_ok (cS_ok xo .never 60) ok.ir), _, S, α, st, rd.env _, (okM.bind h).mono fun r S' H' α' sp st' q => ?_⟩
    obtain ⟨fl, env'⟩ := r
    cases fl with
    | nx => exact fun σ' re' => q _ _ Step.refl st' _ .non
    | rt d => exact fun v rv => q _ _ Step.refl st' v rv
    | bk => exact q.elim
    | ct => exact q.elim
end
end Ev
namespace Ev
open PySem PySem.Spec PyProof.Rows L2
/-! ### a law's end -/
def scr (ns : List Int) : Store := [.fro (ns.map .int)]
theorem rds_ints {W : Wd} {H : Hp} {α : List Addr} : ∀ {ns : List Int}, RDs W H α (ns.map .int) (ns.map V.int)
  | [] => .nil
  | n :: ns => .cons (.int n) (rds_ints (ns := ns))
theorem law_run {P : Program} {w : World} {K : PySem.W.Frag} {mg mb : Str → Option Value} {k : Nat} {fa a : Addr} {G XC : Nat → Option Addr} {g : List D → M D} {s₁ : Shared} {vs : List Value} {ns : List Int}
    (KX : K.In s₁.heap) (hns : s₁.heap.Ns mainGlobals mg) (hb : s₁.heap.Ns builtinsNs mb)
    (hbb : ∀ x : Str, x ≠ "__name__" → mb x = bootBuiltins x) (hlim : s₁.heap.NoLimit) (hg : s₁.gens = #[])
    (ha : s₁.heap.get? a = some { cls := .type "list", data := .seq vs.toArray }) (hi : IntsAre vs ns) (hl : ns.length ≤ sizeLine) (hr : Room k callerA) (hka : K.lookup a = none)
    (F : ∀ base : Heap, ∃ fd ps, FnG P w K mg base CXn k fa fd ps (spF ⟨K, G, XC⟩ g) ∧ Binds K fd ps [])
    (hC : ∃ S', g [.ref 0] (scr ns) = .ok (.bl true) S') :
    codeAny (model P w) callerA (.call (.ref fa) ⟨[.ref a], []⟩)
      (fun r z => r = .ok (.ret (.bool true)) ∧ OldK s₁.heap z.heap ∧ z.os = s₁.os ∧ AllBare z.gens) s₁ := by
  have rv := vals_ints hi
  let H : Hp := fun b => if b = a then some (.frz { cls := .type "list", data := .seq vs.toArray } (.lst (ns.map V.int))) else none
  have Ha : H a = some (.frz { cls := .type "list", data := .seq vs.toArray } (.lst (ns.map V.int))) := if_pos rfl
  have Hn : ∀ {b : Addr}, b ≠ a → H b = none := fun z => if_neg z
  have Hx : ∀ {b : Addr} {o : HO}, H b = some o → b = a := fun {b o} z => by
    by_cases hb : b = a
    · exact hb
    · rw [Hn hb] at z; cases z
  have hok : HOk P w H s₁.heap := fun b u z => by
    have e := Hx z
    subst e
    rw [Ha] at z
    cases z
    exact ⟨ha, (by rw [List.length_map]; exact hl), vs, _, rv, ha⟩
  have nd : ∀ {b : Addr} {o : Obj} {es : Array DictEntry} {ep : Nat}, s₁.heap.get? b = some o → o.data = .dict es ep → H b = none := fun {b o es ep} e d => by
    by_cases hb : b = a
    · subst hb
      rw [ha] at e
      cases e
      exact nomatch (show Data.seq vs.toArray _ = Data.dict es ep from d)
    · exact Hn hb
  have nsB : ∀ {b : Addr} {m : Str → Option Value}, s₁.heap.Ns b m → (hidT s₁.heap H).Ns b m := fun {b m} ⟨o, es, ep, e, d, r⟩ => ⟨o, es, ep, hidT_get e (nd e d), d, r⟩
  have inB : K.In (hidT s₁.heap H) := fun b o e => hidT_get (KX b o e) (Hn fun z => by rw [z, hka] at e; cases e)
  have md : Mod K mg (hidT s₁.heap H) := ⟨inB, nsB hns, ⟨mb, nsB hb, hbb⟩, let ⟨mc, h1, h2⟩ := hlim; ⟨mc, nsB h1, h2⟩⟩
  have e0 : Env0 P w K mg (hidT s₁.heap H) callerA [] s₁ H := ⟨rfl, md, fun b o e => of_hidT e, Nat.le_of_eq (hidT_size _ _), trivial, fun b hb => (nomatch hb), hok, .of_eq hg⟩
  have st : StOk ⟨K, G, XC⟩ H [a] (scr ns) := by
    refine ⟨rfl, fun n m b e1 e2 => ?_, fun n c b e1 e2 => ?_⟩
    · cases n with
      | zero =>
        cases m with
        | zero => rfl
        | succ m => cases e2
      | succ n => cases e1
    · cases n with
      | zero =>
        cases e1
        cases e2
        exact .fro ⟨_, Ha⟩ rds_ints
      | succ n => cases e2
  obtain ⟨S', hC⟩ := hC
  have sp : spF ⟨K, G, XC⟩ g [.ref a] H (fun v _ => v = .bl true) fun _ _ _ => False := ⟨[.ref 0], scr ns, [a], st, .cons (.ref rfl) .nil, by
    rw [hC]
    intro H' α' s t v r
    cases r
    rfl⟩
  obtain ⟨fd, ps, FG, hbd⟩ := F (hidT s₁.heap H)
  have bd := hbd s₁ [.ref a] KX (by rw [List.append_nil]; exact FG.len _ _ _ _ sp)
  rw [List.append_nil] at bd
  refine codeAny_mono (FG.run callerA [] s₁ H ⟨[.ref a], []⟩ [.ref a] [.ref a] _ _ hr rfl e0 bd (.cons rfl .nil) sp) fun r s' h => ?_
  match r, h with
  | .error e, h => exact h.elim
  | .ok .next, h => exact False.elim h
  | .ok .brk, h => exact False.elim h
  | .ok .cont, h => exact False.elim h
  | .ok (.ret u), h =>
    obtain ⟨v, Hz, os, bare, un, hok', r', q⟩ := h
    have q : v = .bl true := q
    subst q
    obtain rfl : u = Value.bool true := r'
    refine ⟨rfl, OldK.of_keep (fun b o e => ?_), os, bare⟩
    by_cases hb : b = a
    · subst hb
      obtain ⟨e1, _⟩ := hok b _ Ha
      obtain ⟨e2, _⟩ := hok' b _ (un.frzs b _ _ Ha)
      rw [e] at e1
      cases e1
      exact e2
    · exact un.keep b o e (Hn hb) (fun z => nomatch (show b ∈ ([] : List Addr) from z)) (by simp)
/-! ### what the head is asked -/
mutual
def relD (K : PySem.W.Frag) : D → Value → Bool
  | .non, .none => true
  | .bl b, .bool c => b == c
  | .int i, .int j _ => decide (i = j)
  | .str x, .str y _ => decide (x = y)
  | .tup ds, .ref a => match K.lookup a with
    | some ⟨.type c, _, .seq its _, _⟩ => decide (c = "tuple") && (decide (its.size ≤ sizeLine) && relDs K ds its.toList)
    | _ => false
  | _, _ => false
def relDs (K : PySem.W.Frag) : List D → List Value → Bool
  | [], [] => true
  | d :: ds, u :: us => relD K d u && relDs K ds us
  | _, _ => false
end
mutual
theorem relD_ok {W : Wd} : ∀ {d : D} {u : Value}, relD W.K d u = true → ∃ v, RelV v u ∧ ∀ H α, RD W H α d v
  | .non, u, h => by
    cases u with
    | none => exact ⟨.non, rfl, fun _ _ => .non⟩
    | _ => simp [relD] at h
  | .bl b, u, h => by
    cases u with
    | bool c =>
      rw [relD] at h
      rw [← eq_of_beq h]
      exact ⟨.bl b, rfl, fun _ _ => .bl b⟩
    | _ => simp [relD] at h
  | .int i, u, h => by
    cases u with
    | int j t =>
      rw [relD] at h
      rw [← of_decide_eq_true h]
      exact ⟨.int i, ⟨t, rfl⟩, fun _ _ => .int i⟩
    | _ => simp [relD] at h
  | .str x, u, h => by
    cases u with
    | str j t =>
      rw [relD] at h
      rw [← of_decide_eq_true h]
      exact ⟨.str x, ⟨t, rfl⟩, fun _ _ => .str x⟩
    | _ => simp [relD] at h
  | .tup ds, u, h => by
    cases u with
    | ref a =>
      rw [relD] at h
      split at h
      · rename_i c od its n sl q
        simp only [Bool.and_eq_true, decide_eq_true_eq] at h
        obtain ⟨h1, h2, h3⟩ := h
        subst h1
        obtain ⟨vs, r1, r2⟩ := relDs_ok h3
        exact ⟨.ref a, rfl, fun H α => .tup (.inr ⟨_, its, n, q, rfl, rfl, h2, r1⟩) (r2 H α)⟩
      · cases h
    | _ => simp [relD] at h
  | .ref _, u, h => by simp [relD] at h
  | .fn _, u, h => by simp [relD] at h
theorem relDs_ok {W : Wd} : ∀ {ds : List D} {us : List Value}, relDs W.K ds us = true → ∃ vs, Vals vs us ∧ ∀ H α, RDs W H α ds vs
  | [], [], _ => ⟨[], .nil, fun _ _ => .nil⟩
  | [], _ :: _, h => by simp [relDs] at h
  | _ :: _, [], h => by simp [relDs] at h
  | d :: ds, u :: us, h => by
    rw [relDs, Bool.and_eq_true] at h
    obtain ⟨v, a1, a2⟩ := relD_ok h.1
    obtain ⟨vs, b1, b2⟩ := relDs_ok h.2
    exact ⟨v :: vs, .cons a1 b1, fun H α => .cons (a2 H α) (b2 H α)⟩
end
def noLst (K : PySem.W.Frag) : Bool := K.all fun q => match q.2.cls with
  | .type c => !decide (c = "list")
  | _ => true
def consB (cons : List (Str × D)) (K : PySem.W.Frag) : Bool := cons.all fun q => match PySem.W.nsIn K mainGlobals q.1 with
  | some (some u) => relD K q.2 u
  | _ => false
def exB (cons : List (Str × D)) (K : PySem.W.Frag) : Bool := noLst K && consB cons K
def Fn.dd (f : Fn) : He.DefD := ⟨(f.name, none), f.name, f.name, f.params, f.text, f.scope, [], []⟩
def fas (l : List Fn) : List He.Fa := l.map (fun f => .glo f.name) ++ bltNames.map .free
abbrev hkE (n : Nat) (l : List Fn) (cons : List (Str × D)) : PySem.W.Hook := He.hookX n (fas l) (l.map Fn.dd) [] [] (exB cons)
def obE (n : Nat) (l : List Fn) (cons : List (Str × D)) (s : PySem.W.SharedT) : He.AlX := He.obsX n (fas l) (l.map Fn.dd) [] [] (exB cons) (HandSHeadRun.getT s)
theorem obE_eq {n : Nat} {l : List Fn} {cons : List (Str × D)} (s : PySem.W.SharedT) : obE n l cons s = (hkE n l cons).obs s.abs := He.obsX_eq (HandSHeadRun.getT_eq s)
theorem look_mem {x : Str} {d : D} : ∀ {l : List (Str × D)}, l.lookup x = some d → (x, d) ∈ l
  | [], e => by cases e
  | (y, z) :: l, e => by
    rw [List.lookup_cons] at e
    split at e
    · rename_i q
      cases e
      rw [eq_of_beq q]
      exact List.mem_cons_self
    · exact List.mem_cons_of_mem _ (look_mem e)
/-- where the defs stand -/
def gOf (K : PySem.W.Frag) (l : List Fn) : Nat → Option Addr := fun i => (l[i]?).map fun f => He.ga K f.name
section
variable {P : Program} {w : World} {K : PySem.W.Frag} {mg : Str → Option Value} {l : List Fn} {cons : List (Str × D)} {h : Heap}
theorem hd_ok (X : K.In h) (G : h.Ns mainGlobals mg) (c : He.SaysX (fas l) (l.map Fn.dd) [] [] (exB cons) w h K) : HdOk K mg l cons (gOf K l) (fun _ => none) where
  fn := fun i f a h1 h2 => by
    unfold gOf at h2
    rw [h1] at h2
    cases h2
    exact c.t.d.defs (d := f.dd) (List.mem_map.mpr ⟨f, List.mem_of_getElem? h1, rfl⟩)
  dom := fun i a h2 => by
    unfold gOf at h2
    cases q : l[i]? with
    | none => rw [q] at h2; cases h2
    | some f => exact ⟨f, rfl⟩
  gl := fun i f h1 => ⟨He.ga K f.name, by unfold gOf; rw [h1]; rfl, He.glo_ok X G (c.t.d.facts (f := .glo f.name) (List.mem_append_left _ (List.mem_map.mpr ⟨f, List.mem_of_getElem? h1, rfl⟩)))⟩
  cons := fun x d e => by
    have m := c.more
    unfold exB at m
    rw [Bool.and_eq_true] at m
    have m2 := List.all_eq_true.mp m.2 (x, d) (look_mem e)
    dsimp only at m2
    split at m2
    · rename_i u q
      obtain ⟨v, r1, r2⟩ := relD_ok (W := ⟨K, gOf K l, fun _ => none⟩) m2
      exact ⟨v, u, PySem.W.mg_of X G q, r1, r2⟩
    · cases m2
  blts := fun x hx => He.free_ok X G (c.t.d.facts (f := .free x) (List.mem_append_right _ (List.mem_map.mpr ⟨x, hx, rfl⟩)))
theorem noLst_ok {a : Addr} {vs : List Value} (X : K.In h) (m : noLst K = true) (ha : h.get? a = some { cls := .type "list", data := .seq vs.toArray }) : K.lookup a = none := by
  cases q : K.lookup a with
  | none => rfl
  | some o =>
    have e := X a o q
    rw [ha] at e
    cases e
    have := List.all_eq_true.mp m _ (He.lookup_mem q)
    simp at this
end
/-- THE END: a law by its evaluation -/
theorem walk_ofEv {lw : PySem.W.OpenLaw} {n k m : Nat} {q : Program} {loose : List Str} {XP : (Str → Option Value) → Heap → Prop} {d : DefRec} {l : List Fn} {cons : List (Str × D)} {i : Nat} {f : Fn}
    (hn : lw.most = some n) (hn2 : n ≤ sizeLine) (hdf : d.params.defaults = []) (hr : Room k callerA) (hf : l[i]? = some f) (hdn : d.name = f.name) (hl : ∀ (i : Nat) (f : Fn), l[i]? = some f → f.Ok (nms l) cons)
    (hC : ∀ ns : List Int, ns.length ≤ n → (∀ z ∈ ns, Builtin.Int.intBits z ≤ 1048576) → ∃ S', evF (Pr l) k i [.ref 0] (scr ns) = .ok (.bl true) S') :
    PySem.W.WalkO q loose XP (hkE m l cons).says lw.row.toRowW d [] (fun f vs => PySem.call f vs) := by
  refine Att.attach_callB hn hdf fun w s₀ s₁ mg mb fa o pm cd doc a vs ns G Y ho hd hcd hmg hobj
    hints hlen hbits hg => ?_
  obtain ⟨K, KX, c⟩ := Y
  have H := hd_ok KX G.T.g c
  obtain ⟨a0, g1, g2⟩ := H.gl i f hf
  rw [← hdn, hmg] at g2
  cases g2
  have m2 := c.more
  unfold exB at m2
  rw [Bool.and_eq_true] at m2
  exact law_run (G := gOf K l) (XC := fun _ => none) (g := evF (Pr l) k i) KX G.T.g G.T.b G.T.builtins G.T.nolimit hg hobj hints (Nat.le_trans hlen hn2) hr (noLst_ok KX m2.1 hobj) (fun base => ((fns_ok (P := lw.prog) (w := w) (base := base) H hl k).fn i _ g1).2) (hC ns hlen hbits)
end Ev
namespace Ev
open PySem PySem.Spec PyProof.Rows
/-! ### types of data -/
inductive Ty2
  | bot | int (lo hi : Int) | intA | bl | bc (b : Bool) | non | str (lo hi : Nat) | tup (ts : List Ty2) | seq (t : Ty2) (lo hi : Nat) | lst (t : Ty2) (lo hi : Nat) | own (t : Ty2) (lo hi : Nat) | dk | nm (k : Nat) | fnc (i : Nat) | scr (lo hi : Nat)
/-- what is known of a cell: a deck, one that stays, one that its frame owns -/
inductive Kd | dk | fz (ds : List D) | ow | sc (ds : List D)
abbrev Wl := List Kd
/-- the named predicates, their Bool tests, their plain types; what a deck keeps -/
structure Prm where
  N : Nat → D → Prop
  /-- named ones to try for a list's items -/
  ks : List Nat
  /-- a type whose values all keep it -/
  BT : Nat → Ty2 → Bool
  X : Nat → Ty2
  P : Nat → List D → Prop
  mono : ∀ {a b : Nat} {ds : List D}, P a ds → a ≤ b → P b ds
mutual
def HasTy (p : Prm) (W : Wl) : Ty2 → D → Prop
  | .bot, _ => False
  | .int lo hi, d => ∃ i, d = .int i ∧ lo ≤ i ∧ i ≤ hi
  | .intA, d => ∃ i, d = .int i
  | .bl, d => ∃ b, d = .bl b
  | .bc b, d => d = .bl b
  | .non, d => d = .non
  | .str lo hi, d => ∃ x, d = .str x ∧ lo ≤ x.length ∧ x.length ≤ hi ∧ PyData.strOk x = true
  | .tup ts, d => ∃ ds, d = .tup ds ∧ HasTys p W ts ds
  | .seq t lo hi, d => ∃ ds, d = .tup ds ∧ lo ≤ ds.length ∧ ds.length ≤ hi ∧ ∀ x ∈ ds, HasTy p W t x
  | .lst t lo hi, d => ∃ j ds, d = .ref j ∧ W[j]? = some (.fz ds) ∧ lo ≤ ds.length ∧ ds.length ≤ hi ∧ ∀ x ∈ ds, HasTy p W t x
  | .own _ _ _, _ => False
  | .dk, d => ∃ j : Nat, d = .ref j ∧ W[j]? = some .dk
  | .nm k, d => p.N k d
  | .fnc i, d => d = .fn i
  | .scr lo hi, d => ∃ j ds, d = .ref j ∧ W[j]? = some (.sc ds) ∧ lo ≤ ds.length ∧ ds.length ≤ hi ∧ ∀ x ∈ ds, ∃ i : Int, x = .int i
def HasTys (p : Prm) (W : Wl) : List Ty2 → List D → Prop
  | [], ds => ds = []
  | t :: ts, ds => ∃ x xs, ds = x :: xs ∧ HasTy p W t x ∧ HasTys p W ts xs
end
def Ext (W W' : Wl) : Prop := ∀ (j : Nat) (k : Kd), W[j]? = some k → k ≠ .ow → W'[j]? = some k
theorem Ext.refl {W : Wl} : Ext W W := fun _ _ h _ => h
theorem Ext.trans {W W1 W2 : Wl} (a : Ext W W1) (b : Ext W1 W2) : Ext W W2 := fun j k h n => b j k (a j k h n) n
section
variable {p : Prm} {W W' : Wl}
mutual
theorem HasTy.mono (e : Ext W W') : ∀ {t : Ty2} {d : D}, HasTy p W t d → HasTy p W' t d
  | .bot, _, h => by simp only [HasTy] at h
  | .int _ _, _, h => by simp only [HasTy] at h ⊢; exact h
  | .intA, _, h => by simp only [HasTy] at h ⊢; exact h
  | .bl, _, h => by simp only [HasTy] at h ⊢; exact h
  | .bc _, _, h => by simp only [HasTy] at h ⊢; exact h
  | .non, _, h => by simp only [HasTy] at h ⊢; exact h
  | .str _ _, _, h => by simp only [HasTy] at h ⊢; exact h
  | .tup ts, _, h => by
    simp only [HasTy] at h ⊢
    obtain ⟨ds, rfl, h⟩ := h
    exact ⟨ds, rfl, HasTys.mono e h⟩
  | .seq t _ _, _, h => by
    simp only [HasTy] at h ⊢
    obtain ⟨ds, rfl, a, b, h⟩ := h
    exact ⟨ds, rfl, a, b, fun x hx => HasTy.mono e (h x hx)⟩
  | .lst t _ _, _, h => by
    simp only [HasTy] at h ⊢
    obtain ⟨j, ds, rfl, q, a, b, h⟩ := h
    exact ⟨j, ds, rfl, e _ _ q (fun z => nomatch z), a, b, fun x hx => HasTy.mono e (h x hx)⟩
  | .own _ _ _, _, h => by simp only [HasTy] at h
  | .dk, _, h => by
    simp only [HasTy] at h ⊢
    obtain ⟨j, rfl, q⟩ := h
    exact ⟨j, rfl, e _ _ q (fun z => nomatch z)⟩
  | .nm _, _, h => by simp only [HasTy] at h ⊢; exact h
  | .fnc _, _, h => by simp only [HasTy] at h ⊢; exact h
  | .scr _ _, _, h => by
    simp only [HasTy] at h ⊢
    obtain ⟨j, ds, rfl, q, r⟩ := h
    exact ⟨j, ds, rfl, e _ _ q (fun z => nomatch z), r⟩
theorem HasTys.mono (e : Ext W W') : ∀ {ts : List Ty2} {ds : List D}, HasTys p W ts ds → HasTys p W' ts ds
  | [], _, h => by simp only [HasTys] at h ⊢; exact h
  | t :: ts, _, h => by
    simp only [HasTys] at h ⊢
    obtain ⟨x, xs, rfl, a, b⟩ := h
    exact ⟨x, xs, rfl, HasTy.mono e a, HasTys.mono e b⟩
end
theorem HasTys.length : ∀ {ts : List Ty2} {ds : List D}, HasTys p W ts ds → ds.length = ts.length
  | [], _, h => by simp only [HasTys] at h; rw [h]; rfl
  | t :: ts, _, h => by
    simp only [HasTys] at h
    obtain ⟨x, xs, rfl, a, b⟩ := h
    rw [List.length_cons, List.length_cons, HasTys.length b]
theorem HasTys.get : ∀ {ts : List Ty2} {ds : List D} {i : Nat} {t : Ty2}, HasTys p W ts ds → ts[i]? = some t → ∃ d, ds[i]? = some d ∧ HasTy p W t d
  | [], _, _, _, _, e => by cases e
  | u :: ts, _, i, t, h, e => by
    simp only [HasTys] at h
    obtain ⟨x, xs, rfl, a, b⟩ := h
    cases i with
    | zero => cases e; exact ⟨x, rfl, a⟩
    | succ i =>
      rw [List.getElem?_cons_succ] at e
      obtain ⟨d, h1, h2⟩ := HasTys.get b e
      exact ⟨d, by rw [List.getElem?_cons_succ]; exact h1, h2⟩
end
/-! ### subtypes -/
def all2 {α β : Type} (f : α → β → Bool) : List α → List β → Bool
  | [], [] => true
  | x :: xs, y :: ys => f x y && all2 f xs ys
  | _, _ => false
def sub (p : Prm) : Nat → Ty2 → Ty2 → Bool
  | 0, _, _ => false
  | n + 1, t, u => match t, u with
    | .bot, _ => true
    | .nm a, .nm b => decide (a = b)
    | .nm a, u => sub p n (p.X a) u
    | .int a b, .int c d => decide (c ≤ a) && decide (b ≤ d)
    | .int _ _, .intA => true
    | .intA, .intA => true
    | .bc a, .bc b => a == b
    | .bc _, .bl => true
    | .bl, .bl => true
    | .non, .non => true
    | .str a b, .str c d => decide (c ≤ a) && decide (b ≤ d)
    | .tup ts, .tup us => all2 (sub p n) ts us
    | .tup ts, .seq u lo hi => decide (lo ≤ ts.length) && (decide (ts.length ≤ hi) && ts.all fun t => sub p n t u)
    | .seq t a b, .seq u c d => decide (c ≤ a) && (decide (b ≤ d) && (decide (b = 0) || sub p n t u))
    | .lst t a b, .lst u c d => decide (c ≤ a) && (decide (b ≤ d) && (decide (b = 0) || sub p n t u))
    | .dk, .dk => true
    | .fnc i, .fnc j => decide (i = j)
    | .scr a b, .scr c d => decide (c ≤ a) && decide (b ≤ d)
    | .own _ _ _, .nm _ => false
    | t, .nm k => p.BT k t
    | _, _ => false
section
variable {p : Prm} {W : Wl}
theorem all2_ok {f : Ty2 → Ty2 → Bool} (hf : ∀ {t u : Ty2} {d : D}, f t u = true → HasTy p W t d → HasTy p W u d) : ∀ {ts us : List Ty2} {ds : List D}, all2 f ts us = true → HasTys p W ts ds → HasTys p W us ds
  | [], [], _, _, h => h
  | [], _ :: _, _, h, _ => by cases h
  | _ :: _, [], _, h, _ => by cases h
  | t :: ts, u :: us, _, h, hs => by
    simp only [HasTys] at hs ⊢
    obtain ⟨x, xs, rfl, a, b⟩ := hs
    rw [all2, Bool.and_eq_true] at h
    exact ⟨x, xs, rfl, hf h.1 a, all2_ok hf h.2 b⟩
theorem HasTys.all {u : Ty2} {f : Ty2 → Bool} (hf : ∀ {t : Ty2} {d : D}, f t = true → HasTy p W t d → HasTy p W u d) : ∀ {ts : List Ty2} {ds : List D}, ts.all f = true → HasTys p W ts ds → ∀ x ∈ ds, HasTy p W u x
  | [], _, _, hs, x, hx => by
    simp only [HasTys] at hs
    rw [hs] at hx
    cases hx
  | t :: ts, _, h, hs, x, hx => by
    simp only [HasTys] at hs
    obtain ⟨y, ys, rfl, a, b⟩ := hs
    rw [List.all_cons, Bool.and_eq_true] at h
    rcases List.mem_cons.mp hx with z | z
    · rw [z]; exact hf h.1 a
    · exact HasTys.all hf h.2 b x z
/-- the named predicates are as told -/
structure PrOk (p : Prm) : Prop where
  x : ∀ {k : Nat} {d : D} {W : Wl}, p.N k d → HasTy p W (p.X k) d
  b : ∀ {k : Nat} {t : Ty2} {d : D} {W : Wl}, p.BT k t = true → HasTy p W t d → p.N k d
theorem sub_ok (hX : PrOk p) : ∀ (n : Nat) {t u : Ty2} {d : D}, sub p n t u = true → HasTy p W t d → HasTy p W u d := by
  intro n
  induction n with
  | zero => intro t u d h; cases h
  | succ n ih =>
    intro t u d h ht
    unfold sub at h
    split at h
    · simp only [HasTy] at ht
    · rw [← of_decide_eq_true h]; exact ht
    · simp only [HasTy] at ht
      exact ih h (hX.x ht)
    · simp only [Bool.and_eq_true, decide_eq_true_eq] at h
      simp only [HasTy] at ht ⊢
      obtain ⟨i, rfl, a, b⟩ := ht
      exact ⟨i, rfl, by omega, by omega⟩
    · simp only [HasTy] at ht ⊢
      obtain ⟨i, rfl, a, b⟩ := ht
      exact ⟨i, rfl⟩
    · exact ht
    · rw [← eq_of_beq h]; exact ht
    · simp only [HasTy] at ht ⊢
      exact ⟨_, ht⟩
    · exact ht
    · exact ht
    · simp only [HasTy] at ht ⊢
      obtain ⟨x, rfl, a, b, z⟩ := ht
      rw [Bool.and_eq_true, decide_eq_true_eq, decide_eq_true_eq] at h
      exact ⟨x, rfl, by omega, by omega, z⟩
    · simp only [HasTy] at ht ⊢
      obtain ⟨ds, rfl, hs⟩ := ht
      exact ⟨ds, rfl, all2_ok (fun a b => ih a b) h hs⟩
    · simp only [Bool.and_eq_true, decide_eq_true_eq] at h
      simp only [HasTy] at ht ⊢
      obtain ⟨ds, rfl, hs⟩ := ht
      have hl := hs.length
      exact ⟨ds, rfl, by omega, by omega, HasTys.all (fun a b => ih a b) h.2.2 hs⟩
    · simp only [Bool.and_eq_true, Bool.or_eq_true, decide_eq_true_eq] at h
      simp only [HasTy] at ht ⊢
      obtain ⟨ds, rfl, a, b, hs⟩ := ht
      refine ⟨ds, rfl, by omega, by omega, fun x hx => ?_⟩
      rcases h.2.2 with z | z
      · have : ds = [] := List.eq_nil_of_length_eq_zero (by omega)
        rw [this] at hx; cases hx
      · exact ih z (hs x hx)
    · simp only [Bool.and_eq_true, Bool.or_eq_true, decide_eq_true_eq] at h
      simp only [HasTy] at ht ⊢
      obtain ⟨j, ds, rfl, q, a, b, hs⟩ := ht
      refine ⟨j, ds, rfl, q, by omega, by omega, fun x hx => ?_⟩
      rcases h.2.2 with z | z
      · have : ds = [] := List.eq_nil_of_length_eq_zero (by omega)
        rw [this] at hx; cases hx
      · exact ih z (hs x hx)
    · exact ht
    · rw [← of_decide_eq_true h]; exact ht
    · simp only [Bool.and_eq_true, decide_eq_true_eq] at h
      simp only [HasTy] at ht ⊢
      obtain ⟨j, ds, rfl, q, a, b, hs⟩ := ht
      exact ⟨j, ds, rfl, q, by omega, by omega, hs⟩
    · cases h
    · simp only [HasTy]
      exact hX.b h ht
    · cases h
end
/-- a join: checked, so that nothing need be shown of it -/
def hull : Nat → Ty2 → Ty2 → Ty2
  | 0, _, _ => .bot
  | n + 1, t, u => match t, u with
    | .bot, u => u
    | t, .bot => t
    | .nm k, _ => .nm k
    | _, .nm k => .nm k
    | .int a b, .int c d => .int (min a c) (max b d)
    | .bc a, .bc b => if a = b then .bc a else .bl
    | .bc _, .bl => .bl
    | .bl, .bc _ => .bl
    | .str a b, .str c d => .str (min a c) (max b d)
    | .tup ts, .tup us => if ts.length = us.length then .tup (List.zipWith (hull n) ts us) else .seq ((ts ++ us).foldl (hull n) .bot) (min ts.length us.length) (max ts.length us.length)
    | .tup ts, .seq u c d => .seq (ts.foldl (hull n) u) (min ts.length c) (max ts.length d)
    | .seq u c d, .tup ts => .seq (ts.foldl (hull n) u) (min ts.length c) (max ts.length d)
    | .seq t a b, .seq u c d => .seq (hull n t u) (min a c) (max b d)
    | .lst t a b, .lst u c d => .lst (hull n t u) (min a c) (max b d)
    | .own t a b, .own u c d => .own (hull n t u) (min a c) (max b d)
    | t, _ => t
def FT : Nat := 12
def subT (p : Prm) (t u : Ty2) : Bool := match t, u with
  | .own t a b, .own u c d => decide (c ≤ a) && (decide (b ≤ d) && (decide (b = 0) || sub p FT t u))
  | t, u => sub p FT t u
def cand (p : Prm) (t u v : Ty2) : Option Ty2 := if subT p t v = true ∧ subT p u v = true then some v else none
def expT (p : Prm) : Ty2 → Ty2
  | .nm k => p.X k
  | t => t
def orE {α : Type} (a b : Option α) : Option α := match a with
  | some x => some x
  | none => b
/-- named ones widened, if need be -/
def join (p : Prm) (t u : Ty2) : Option Ty2 := orE (cand p t u u) (orE (cand p t u t) (orE (cand p t u (hull FT t u)) (cand p t u (hull FT (expT p t) (expT p u)))))
/-- the join of a list's items -/
def joinL (p : Prm) : List Ty2 → Ty2 → Ty2
  | [], v => v
  | t :: ts, v => joinL p ts ((join p v t).getD v)
def pickL (p : Prm) (ts : List Ty2) : Ty2 :=
  let v := joinL p ts .bot
  match p.ks.find? fun k => ts.all (fun t => sub p FT t (.nm k)) && !(sub p FT v (.nm k)) with
  | some k => if ts.isEmpty then v else .nm k
  | none => v
theorem cand_ok {p : Prm} {t u v w : Ty2} (h : cand p t u v = some w) : subT p t w = true ∧ subT p u w = true := by
  unfold cand at h
  split at h
  · cases h; assumption
  · cases h
theorem orE_some {α : Type} {a b : Option α} {x : α} (h : orE a b = some x) : a = some x ∨ b = some x := by
  unfold orE at h
  split at h
  · exact .inl h
  · exact .inr h
theorem join_ok {p : Prm} {t u v : Ty2} (h : join p t u = some v) : subT p t v = true ∧ subT p u v = true := by
  unfold join at h
  rcases orE_some h with h | h
  · exact cand_ok h
  rcases orE_some h with h | h
  · exact cand_ok h
  rcases orE_some h with h | h
  · exact cand_ok h
  · exact cand_ok h
end Ev
namespace Ev
open PySem PySem.Spec PyProof.Rows
/-! ### a store that is as the world says -/
structure WF (p : Prm) (t : Nat) (W : Wl) (S : Store) : Prop where
  len : W.length = S.length
  fz : ∀ (j : Nat) (ds : List D), W[j]? = some (.fz ds) → S[j]? = some (.lst ds)
  sc : ∀ (j : Nat) (ds : List D), W[j]? = some (.sc ds) → S[j]? = some (.fro ds)
  dk : ∀ (j : Nat), W[j]? = some .dk → ∃ ds, S[j]? = some (.lst ds) ∧ p.P t ds
  ow : ∀ (j : Nat), W[j]? = some .ow → ∃ ds, S[j]? = some (.lst ds)
/-- a value looked at: a list by its items -/
def PV (p : Prm) (W : Wl) (S : Store) (t : Ty2) (d : D) : Prop := match t with
  | .own t lo hi => ∃ j ds, d = .ref j ∧ S[j]? = some (.lst ds) ∧ lo ≤ ds.length ∧ ds.length ≤ hi ∧ ∀ x ∈ ds, HasTy p W t x
  | .lst t lo hi => ∃ j ds, d = .ref j ∧ S[j]? = some (.lst ds) ∧ lo ≤ ds.length ∧ ds.length ≤ hi ∧ ∀ x ∈ ds, HasTy p W t x
  | .scr lo hi => ∃ j ds, d = .ref j ∧ S[j]? = some (.fro ds) ∧ lo ≤ ds.length ∧ ds.length ≤ hi ∧ ∀ x ∈ ds, HasTy p W .intA x
  | t => HasTy p W t d
/-- what an operation answers: a value, the store as it was, or a new list -/
def TR (p : Prm) (W : Wl) (S : Store) (r : Res D) (u : Ty2) : Prop := ∃ d S', r = .ok d S' ∧ ((S' = S ∧ HasTy p W u d) ∨ ∃ t lo hi ds, u = .own t lo hi ∧ S' = S ++ [.lst ds] ∧ d = .ref S.length ∧ lo ≤ ds.length ∧ ds.length ≤ hi ∧ ∀ x ∈ ds, HasTy p W t x)
section
variable {p : Prm} {W : Wl} {S : Store} {t u v : Ty2} {d e : D}
theorem PV.of (w : WF p n W S) (h : HasTy p W t d) : PV p W S t d := by
  cases t <;> try exact h
  case own => simp only [HasTy] at h
  case lst t lo hi =>
    simp only [HasTy] at h
    obtain ⟨j, ds, rfl, q, r⟩ := h
    exact ⟨j, ds, rfl, w.fz j ds q, r⟩
  case scr lo hi =>
    simp only [HasTy] at h
    obtain ⟨j, ds, rfl, q, r1, r2, r3⟩ := h
    exact ⟨j, ds, rfl, w.sc j ds q, r1, r2, fun x hx => by simp only [HasTy]; exact r3 x hx⟩
theorem TR.val {d : D} (h : HasTy p W u d) : TR p W S (.ok d S) u := ⟨d, S, rfl, .inl ⟨rfl, h⟩⟩
theorem TR.new {t : Ty2} {lo hi : Nat} {ds : List D} (h1 : lo ≤ ds.length) (h2 : ds.length ≤ hi) (h3 : ∀ x ∈ ds, HasTy p W t x) : TR p W S (alloc (.lst ds) S) (.own t lo hi) := ⟨_, _, rfl, .inr ⟨t, lo, hi, ds, rfl, rfl, rfl, h1, h2, h3⟩⟩
/-! ### shapes -/
def asInt (p : Prm) (t : Ty2) : Option (Int × Int) := match expT p t with
  | .int a b => some (a, b)
  | _ => none
def asL : Ty2 → Option (Ty2 × Nat × Nat)
  | .own t a b => some (t, a, b)
  | .lst t a b => some (t, a, b)
  | _ => none
/-- to read from -/
def asLr : Ty2 → Option (Ty2 × Nat × Nat)
  | .own t a b => some (t, a, b)
  | .lst t a b => some (t, a, b)
  | .scr a b => some (.intA, a, b)
  | _ => none
def asSeq (p : Prm) (t : Ty2) : Option (Ty2 × Nat × Nat) := match expT p t with
  | .seq t a b => some (t, a, b)
  | .tup ts => let v := pickL p ts; if ts.all (fun t => sub p FT t v) = true then some (v, ts.length, ts.length) else none
  | _ => none
variable (hX : PrOk p)
include hX
theorem expT_ok (h : HasTy p W t d) : HasTy p W (expT p t) d := by
  unfold expT
  split
  · simp only [HasTy] at h
    exact hX.x h
  · exact h
theorem PV.int {a b : Int} (h : PV p W S t d) (e : asInt p t = some (a, b)) : ∃ i, d = .int i ∧ a ≤ i ∧ i ≤ b := by
  unfold asInt at e
  have h2 : HasTy p W (expT p t) d := by
    cases t <;> first
      | exact expT_ok hX h
      | cases e
  split at e
  · rename_i q
    cases e
    rw [q] at h2
    simpa only [HasTy] using h2
  · cases e
omit hX in
theorem PV.lr {u : Ty2} {a b : Nat} (h : PV p W S t d) (e : asLr t = some (u, a, b)) : ∃ j ds, d = .ref j ∧ (S[j]? = some (.lst ds) ∨ S[j]? = some (.fro ds)) ∧ a ≤ ds.length ∧ ds.length ≤ b ∧ ∀ x ∈ ds, HasTy p W u x := by
  unfold asLr at e
  split at e
  · cases e
    obtain ⟨j, ds, e, q, r⟩ := h
    exact ⟨j, ds, e, .inl q, r⟩
  · cases e
    obtain ⟨j, ds, e, q, r⟩ := h
    exact ⟨j, ds, e, .inl q, r⟩
  · cases e
    obtain ⟨j, ds, e, q, r⟩ := h
    exact ⟨j, ds, e, .inr q, r⟩
  · cases e
omit hX in
theorem PV.l {u : Ty2} {a b : Nat} (h : PV p W S t d) (e : asL t = some (u, a, b)) : ∃ j ds, d = .ref j ∧ S[j]? = some (.lst ds) ∧ a ≤ ds.length ∧ ds.length ≤ b ∧ ∀ x ∈ ds, HasTy p W u x := by
  unfold asL at e
  split at e
  · cases e; exact h
  · cases e; exact h
  · cases e
theorem PV.sq {u : Ty2} {a b : Nat} (h : PV p W S t d) (e : asSeq p t = some (u, a, b)) : ∃ ds, d = .tup ds ∧ a ≤ ds.length ∧ ds.length ≤ b ∧ ∀ x ∈ ds, HasTy p W u x := by
  unfold asSeq at e
  have h2 : HasTy p W (expT p t) d := by
    cases t <;> first
      | exact expT_ok hX h
      | cases e
  split at e
  · rename_i q
    cases e
    rw [q] at h2
    simpa only [HasTy] using h2
  · rename_i ts q
    dsimp only at e
    split at e
    · rename_i z
      cases e
      rw [q] at h2
      simp only [HasTy] at h2
      obtain ⟨ds, rfl, hs⟩ := h2
      have hl := hs.length
      exact ⟨ds, rfl, by omega, by omega, HasTys.all (fun a b => sub_ok hX FT a b) z hs⟩
    · cases e
  · cases e
end
/-! ### ints -/
theorem imul {a b c d i j : Int} (h1 : a ≤ i) (h2 : i ≤ b) (h3 : c ≤ j) (h4 : j ≤ d) : min (min (a * c) (a * d)) (min (b * c) (b * d)) ≤ i * j ∧ i * j ≤ max (max (a * c) (a * d)) (max (b * c) (b * d)) := by
  have one : ∀ k : Int, (k * c ≤ k * j ∧ k * j ≤ k * d) ∨ (k * d ≤ k * j ∧ k * j ≤ k * c) := fun k => by
    by_cases hk : 0 ≤ k
    · exact .inl ⟨Int.mul_le_mul_of_nonneg_left h3 hk, Int.mul_le_mul_of_nonneg_left h4 hk⟩
    · exact .inr ⟨Int.mul_le_mul_of_nonpos_left (by omega) h4, Int.mul_le_mul_of_nonpos_left (by omega) h3⟩
  have two : (a * j ≤ i * j ∧ i * j ≤ b * j) ∨ (b * j ≤ i * j ∧ i * j ≤ a * j) := by
    by_cases hk : 0 ≤ j
    · exact .inl ⟨Int.mul_le_mul_of_nonneg_right h1 hk, Int.mul_le_mul_of_nonneg_right h2 hk⟩
    · exact .inr ⟨Int.mul_le_mul_of_nonpos_right h2 (by omega), Int.mul_le_mul_of_nonpos_right h1 (by omega)⟩
  have oa := one a
  have ob := one b
  generalize a * c = x1 at *
  generalize a * d = x2 at *
  generalize b * c = x3 at *
  generalize b * d = x4 at *
  generalize a * j = x5 at *
  generalize b * j = x6 at *
  generalize i * j = x7 at *
  omega
/-- a bound of both signs -/
def mag (a b : Int) : Nat := max a.natAbs b.natAbs
theorem mag_ok {a b i : Int} (h1 : a ≤ i) (h2 : i ≤ b) : i.natAbs ≤ mag a b := by unfold mag; omega
def mulT (a b c d : Int) : Bool := decide (mag a b < 2 ^ 64) || (decide (mag c d < 2 ^ 64) || decide ((mag a b).log2 + (mag c d).log2 < 1000000))
theorem log2_mono {a b : Nat} (h : a ≤ b) : a.log2 ≤ b.log2 := by
  by_cases ha : a = 0
  · subst ha; simp
  · exact (Nat.le_log2 (by omega)).mpr (Nat.le_trans ((Nat.le_log2 ha).mp (Nat.le_refl _)) h)
theorem mulT_ok {a b c d i j : Int} (h : mulT a b c d = true) (h1 : a ≤ i) (h2 : i ≤ b) (h3 : c ≤ j) (h4 : j ≤ d) : mulOk i j := by
  have m1 := mag_ok h1 h2
  have m2 := mag_ok h3 h4
  unfold mulT at h
  simp only [Bool.or_eq_true, decide_eq_true_eq] at h
  unfold mulOk
  rcases h with h | h | h
  · exact .inl (by omega)
  · exact .inr (.inl (by omega))
  · have l1 := log2_mono m1
    have l2 := log2_mono m2
    exact .inr (.inr (by omega))
def iBin (o : Bop) (a b c d : Int) : Option Ty2 := match o with
  | .add => some (.int (a + c) (b + d))
  | .sub => some (.int (a - d) (b - c))
  | .mul => if mulT a b c d = true then some (.int (min (min (a * c) (a * d)) (min (b * c) (b * d))) (max (max (a * c) (a * d)) (max (b * c) (b * d)))) else none
  | .div => if 0 < c ∧ d.natAbs.log2 < 9000 then some (.int (if 0 ≤ a then 0 else a) (if 0 ≤ b then b / c else 0)) else none
  | .mod => if 0 < c then some (if 0 ≤ a ∧ b < c then .int a b else .int 0 (d - 1)) else none
  | .pow => if a = b ∧ c = d ∧ 0 ≤ c ∧ c ≤ 1000 ∧ a.natAbs < 2 ^ 64 then some (.int (a ^ c.toNat) (a ^ c.toNat)) else none
  | _ => none
theorem iBin_ok {p : Prm} {W : Wl} {S : Store} {o : Bop} {a b c d i j : Int} {u : Ty2} (h : iBin o a b c d = some u) (h1 : a ≤ i) (h2 : i ≤ b) (h3 : c ≤ j) (h4 : j ≤ d) : TR p W S (o.run (.int i) (.int j) S) u := by
  unfold iBin at h
  cases o <;> simp only at h
  case add => cases h; exact TR.val (by simp only [HasTy]; exact ⟨_, rfl, by omega, by omega⟩)
  case sub => cases h; exact TR.val (by simp only [HasTy]; exact ⟨_, rfl, by omega, by omega⟩)
  case mul =>
    split at h
    · rename_i z
      cases h
      have m := mulT_ok z h1 h2 h3 h4
      have q := imul h1 h2 h3 h4
      simp only [Bop.run]
      unfold dMul
      simp only [if_pos m]
      exact TR.val (by simp only [HasTy]; exact ⟨_, rfl, q.1, q.2⟩)
    · cases h
  case div =>
    split at h
    · rename_i z
      cases h
      have l : j.natAbs.log2 ≤ d.natAbs.log2 := log2_mono (by omega)
      have hd : divOk j := ⟨by omega, by omega⟩
      simp only [Bop.run]
      unfold dDiv
      simp only [if_pos hd, if_pos (show 0 < j by omega)]
      refine TR.val ?_
      simp only [HasTy]
      refine ⟨_, rfl, ?_, ?_⟩
      · split
        · exact Int.ediv_nonneg (by omega) (by omega)
        · by_cases hi : 0 ≤ i
          · have := Int.ediv_nonneg hi (show 0 ≤ j by omega)
            omega
          · have : i ≤ i / j := by
              rw [Int.le_ediv_iff_mul_le (by omega)]
              have h5 := Int.mul_le_mul_of_nonpos_left (a := i) (b := j) (c := 1) (by omega) (by omega)
              omega
            omega
      · split
        · rename_i hb
          by_cases hi : 0 ≤ i
          · have e1 : i / j ≤ i / c := by
              rw [Int.le_ediv_iff_mul_le z.1]
              have h5 := Int.ediv_mul_le i (show j ≠ 0 by omega)
              have h6 := Int.mul_le_mul_of_nonneg_left h3 (Int.ediv_nonneg hi (show 0 ≤ j by omega))
              omega
            have e2 : i / c ≤ b / c := Int.ediv_le_ediv z.1 h2
            omega
          · have e1 : i / j < 0 := Int.ediv_neg_of_neg_of_pos (by omega) (by omega)
            have e2 := Int.ediv_nonneg hb (show 0 ≤ c by omega)
            omega
        · have e1 : i / j < 0 := Int.ediv_neg_of_neg_of_pos (by omega) (by omega)
          omega
    · cases h
  case mod =>
    split at h
    · rename_i z
      cases h
      simp only [Bop.run]
      unfold dMod
      simp only [if_pos (show j ≠ 0 by omega), if_pos (show 0 < j by omega)]
      refine TR.val ?_
      have e1 := Int.emod_nonneg i (show j ≠ 0 by omega)
      have e2 := Int.emod_lt_of_pos i (show 0 < j by omega)
      split
      · rename_i q
        simp only [HasTy]
        rw [Int.emod_eq_of_lt (by omega) (by omega)]
        exact ⟨_, rfl, h1, h2⟩
      · simp only [HasTy]
        exact ⟨_, rfl, e1, by omega⟩
    · cases h
  case pow =>
    split at h
    · rename_i z
      obtain ⟨rfl, rfl, z1, z2, z3⟩ := z
      cases h
      have e1 : i = a := by omega
      have e2 : j = c := by omega
      subst e1 e2
      have m : powOk i j := ⟨z1, by omega, z3⟩
      simp only [Bop.run]
      unfold dPow
      simp only [if_pos m]
      exact TR.val (by simp only [HasTy]; exact ⟨_, rfl, Int.le_refl _, Int.le_refl _⟩)
    · cases h
  all_goals cases h
end Ev
namespace Ev
open PySem PySem.Spec PyProof.Rows
/-! ### plain data -/
def plain (p : Prm) : Nat → Ty2 → Bool
  | 0, _ => false
  | n + 1, t => match t with
    | .bot => true
    | .int _ _ => true
    | .intA => true
    | .bl => true
    | .bc _ => true
    | .non => true
    | .str _ _ => true
    | .tup ts => ts.all (plain p n)
    | .seq t _ _ => plain p n t
    | .lst t _ _ => plain p n t
    | .own t _ _ => plain p n t
    | .nm k => plain p n (p.X k)
    | _ => false
section
variable {p : Prm} {W : Wl} {S : Store} {t u v : Ty2} {d e : D} {tm : Nat}
variable (hX : PrOk p)
theorem pys_all {m n : Nat} : ∀ {ds : List D}, (∀ x ∈ ds, ∃ y, py m S x = some y ∧ y.canLay0 = true ∧ y.depth ≤ n) → ∃ ys, pys m S ds = some ys ∧ PyData.canLayAll0 ys = true ∧ PyData.depthAll ys ≤ n
  | [], _ => ⟨[], pys_nil _ _, rfl, by simp [PyData.depthAll]⟩
  | d :: ds, h => by
    obtain ⟨y, h1, h2, h3⟩ := h d List.mem_cons_self
    obtain ⟨ys, k1, k2, k3⟩ := pys_all (ds := ds) fun x hx => h x (List.mem_cons_of_mem _ hx)
    refine ⟨y :: ys, by rw [pys_cons, h1, k1], by rw [PyData.canLayAll0, h2, k2]; rfl, ?_⟩
    simp only [PyData.depthAll]
    omega
include hX in
theorem py_plain (w : WF p tm W S) : ∀ (n : Nat) {t : Ty2} {d : D}, plain p n t = true → HasTy p W t d → ∀ m, n ≤ m → ∃ x, py m S d = some x ∧ x.canLay0 = true ∧ x.depth ≤ n := by
  intro n
  induction n with
  | zero => intro t d h; cases h
  | succ n ih =>
    intro t d h ht m hm
    unfold plain at h
    split at h
    · simp only [HasTy] at ht
    · simp only [HasTy] at ht
      obtain ⟨i, rfl, _⟩ := ht
      exact ⟨_, py_int _ _ _, rfl, by simp [PyData.depth]⟩
    · simp only [HasTy] at ht
      obtain ⟨i, rfl⟩ := ht
      exact ⟨_, py_int _ _ _, rfl, by simp [PyData.depth]⟩
    · simp only [HasTy] at ht
      obtain ⟨i, rfl⟩ := ht
      exact ⟨_, py_bl _ _ _, rfl, by simp [PyData.depth]⟩
    · simp only [HasTy] at ht
      subst ht
      exact ⟨_, py_bl _ _ _, rfl, by simp [PyData.depth]⟩
    · simp only [HasTy] at ht
      subst ht
      exact ⟨_, py_non _ _, rfl, by simp [PyData.depth]⟩
    · simp only [HasTy] at ht
      obtain ⟨x, rfl, _, _, z⟩ := ht
      exact ⟨_, py_str _ _ _, z, by simp [PyData.depth]⟩
    · rename_i ts
      simp only [HasTy] at ht
      obtain ⟨ds, rfl, hs⟩ := ht
      cases m with
      | zero => omega
      | succ m =>
        have key : ∀ x ∈ ds, ∃ y, py m S x = some y ∧ y.canLay0 = true ∧ y.depth ≤ n := by
          have ih2 : ∀ {t : Ty2} {d : D}, plain p n t = true → HasTy p W t d → ∃ x, py m S d = some x ∧ x.canLay0 = true ∧ x.depth ≤ n := fun a b => ih a b m (by omega)
          clear ih
          induction ts generalizing ds with
          | nil =>
            simp only [HasTys] at hs
            rw [hs]
            intro x hx
            cases hx
          | cons t ts ih3 =>
            simp only [HasTys] at hs
            obtain ⟨x, xs, rfl, a, b⟩ := hs
            rw [List.all_cons, Bool.and_eq_true] at h
            intro y hy
            rcases List.mem_cons.mp hy with z | z
            · rw [z]; exact ih2 h.1 a
            · exact ih3 h.2 xs b y z
        obtain ⟨ys, k1, k2, k3⟩ := pys_all key
        exact ⟨.tuple ys, by rw [py_tup, k1]; rfl, by rw [PyData.canLay0]; exact k2, by simp only [PyData.depth]; omega⟩
    · simp only [HasTy] at ht
      obtain ⟨ds, rfl, _, _, hs⟩ := ht
      cases m with
      | zero => omega
      | succ m =>
        obtain ⟨ys, k1, k2, k3⟩ := pys_all (m := m) fun x hx => ih h (hs x hx) m (by omega)
        exact ⟨.tuple ys, by rw [py_tup, k1]; rfl, by rw [PyData.canLay0]; exact k2, by simp only [PyData.depth]; omega⟩
    · simp only [HasTy] at ht
      obtain ⟨j, ds, rfl, q, _, _, hs⟩ := ht
      cases m with
      | zero => omega
      | succ m =>
        obtain ⟨ys, k1, k2, k3⟩ := pys_all (m := m) fun x hx => ih h (hs x hx) m (by omega)
        refine ⟨.list ys, ?_, by rw [PyData.canLay0]; exact k2, by simp only [PyData.depth]; omega⟩
        rw [py_ref]
        rw [w.fz j ds q]
        dsimp only
        rw [k1]; rfl
    · simp only [HasTy] at ht
    · simp only [HasTy] at ht
      obtain ⟨x, h1, h2, h3⟩ := ih h (hX.x ht) m (by omega)
      exact ⟨x, h1, h2, by omega⟩
    · cases h
include hX in
theorem pv_plain (w : WF p tm W S) (h : plain p 40 t = true) (ht : PV p W S t d) : ∃ x, py FU S d = some x ∧ shp x = true := by
  have fin : ∀ {x : PyData}, x.canLay0 = true → x.depth ≤ 40 → shp x = true := fun {x} a b => by
    unfold shp SeqAt.shaped
    rw [a, Bool.true_and]
    exact decide_eq_true (by omega)
  have lst : ∀ {t : Ty2}, plain p 39 t = true → (∃ j ds, d = .ref j ∧ S[j]? = some (.lst ds) ∧ ∀ x ∈ ds, HasTy p W t x) → ∃ x, py FU S d = some x ∧ shp x = true := fun {t} h ⟨j, ds, e, q, hs⟩ => by
    subst e
    obtain ⟨ys, k1, k2, k3⟩ := pys_all (m := 59) fun x hx => py_plain hX w 39 h (hs x hx) 59 (by omega)
    refine ⟨.list ys, ?_, fin (by rw [PyData.canLay0]; exact k2) (by simp only [PyData.depth]; omega)⟩
    show py (59 + 1) S _ = _
    rw [py_ref, q]
    dsimp only
    rw [k1]; rfl
  have gen : HasTy p W t d → ∃ x, py FU S d = some x ∧ shp x = true := fun ht => by
    obtain ⟨x, h1, h2, h3⟩ := py_plain hX w 40 h ht FU (by decide)
    exact ⟨x, h1, fin h2 h3⟩
  cases t <;> try exact gen ht
  case lst t a b =>
    obtain ⟨j, ds, e, q, _, _, r⟩ := ht
    exact lst (t := t) (by simpa only [plain] using h) ⟨j, ds, e, q, r⟩
  case own t a b =>
    obtain ⟨j, ds, e, q, _, _, r⟩ := ht
    exact lst (t := t) (by simpa only [plain] using h) ⟨j, ds, e, q, r⟩
  case scr a b => simp [plain] at h
theorem dEq_b {x y : PyData} (h1 : py FU S d = some x) (h2 : py FU S e = some y) (s1 : shp x = true) (s2 : shp y = true) : ∃ b, dEq d e S = .ok (.bl b) S := by
  unfold dEq
  split
  · exact ⟨_, rfl⟩
  · exact ⟨_, rfl⟩
  · exact ⟨_, rfl⟩
  · exact ⟨_, rfl⟩
  · rw [h1, h2]
    dsimp only
    rw [if_pos ⟨s1, s2⟩]
    exact ⟨_, rfl⟩
theorem dNe_b {b : Bool} (h : dEq d e S = .ok (.bl b) S) : dNe d e S = .ok (.bl (!b)) S := by
  show M.bnd (dEq d e) _ S = _
  unfold M.bnd
  rw [h]
  rfl
/-! ### comparisons -/
/-- a truth that is known or not -/
def tB (yes no : Bool) : Ty2 := if yes = true then .bc true else if no = true then .bc false else .bl
theorem tB_ok {yes no b : Bool} (h1 : yes = true → b = true) (h2 : no = true → b = false) : HasTy p W (tB yes no) (.bl b) := by
  unfold tB
  split
  · simp only [HasTy]; rw [h1 (by assumption)]
  split
  · simp only [HasTy]; rw [h2 (by assumption)]
  · simp only [HasTy]; exact ⟨b, rfl⟩
def iCmp (o : Cop) (a b c d : Int) : Option Ty2 := match o with
  | .eq => some (tB (decide (a = b ∧ c = d ∧ a = c)) (decide (b < c ∨ d < a)))
  | .ne => some (tB (decide (b < c ∨ d < a)) (decide (a = b ∧ c = d ∧ a = c)))
  | .lt => some (tB (decide (b < c)) (decide (d ≤ a)))
  | .le => some (tB (decide (b ≤ c)) (decide (d < a)))
  | .gt => some (tB (decide (d < a)) (decide (b ≤ c)))
  | .ge => some (tB (decide (d ≤ a)) (decide (b < c)))
  | _ => none
theorem iCmp_ok {o : Cop} {a b c d i j : Int} {u : Ty2} (h : iCmp o a b c d = some u) (h1 : a ≤ i) (h2 : i ≤ b) (h3 : c ≤ j) (h4 : j ≤ d) : TR p W S (o.run (.int i) (.int j) S) u := by
  unfold iCmp at h
  cases o <;> simp only [Option.some.injEq] at h
  case eq =>
    cases h
    refine TR.val (tB_ok (fun z => ?_) (fun z => ?_))
    · have := of_decide_eq_true z
      exact decide_eq_true (by omega)
    · have := of_decide_eq_true z
      exact decide_eq_false (by omega)
  case ne =>
    cases h
    have : dNe (.int i) (.int j) S = .ok (.bl (!decide (i = j))) S := dNe_b rfl
    simp only [Cop.run]
    rw [this]
    refine TR.val (tB_ok (fun z => ?_) (fun z => ?_))
    · have := of_decide_eq_true z
      rw [decide_eq_false (by omega)]; rfl
    · have := of_decide_eq_true z
      rw [decide_eq_true (by omega)]; rfl
  case lt =>
    cases h
    refine TR.val (tB_ok (fun z => ?_) (fun z => ?_))
    · have := of_decide_eq_true z
      exact decide_eq_true (by omega)
    · have := of_decide_eq_true z
      exact decide_eq_false (by omega)
  case le =>
    cases h
    refine TR.val (tB_ok (fun z => ?_) (fun z => ?_))
    · have := of_decide_eq_true z
      exact decide_eq_true (by omega)
    · have := of_decide_eq_true z
      exact decide_eq_false (by omega)
  case gt =>
    cases h
    refine TR.val (tB_ok (fun z => ?_) (fun z => ?_))
    · have := of_decide_eq_true z
      exact decide_eq_true (by omega)
    · have := of_decide_eq_true z
      exact decide_eq_false (by omega)
  case ge =>
    cases h
    refine TR.val (tB_ok (fun z => ?_) (fun z => ?_))
    · have := of_decide_eq_true z
      exact decide_eq_true (by omega)
    · have := of_decide_eq_true z
      exact decide_eq_false (by omega)
  all_goals cases h
/-- is it None? -/
def isNonT (p : Prm) : Ty2 → Option Bool
  | .non => some true
  | .int _ _ => some false
  | .bl => some false
  | .bc _ => some false
  | .tup _ => some false
  | .str _ _ => some false
  | .seq _ _ _ => some false
  | _ => none
theorem isNonT_ok {b : Bool} (h : isNonT p t = some b) (ht : PV p W S t d) : isNon d = b := by
  unfold isNonT at h
  split at h <;> cases h
  · have ht : HasTy p W _ d := ht
    simp only [HasTy] at ht
    rw [ht]; rfl
  · have ht : HasTy p W _ d := ht
    simp only [HasTy] at ht
    obtain ⟨_, rfl, _⟩ := ht
    rfl
  · have ht : HasTy p W _ d := ht
    simp only [HasTy] at ht
    obtain ⟨_, rfl⟩ := ht
    rfl
  · have ht : HasTy p W _ d := ht
    simp only [HasTy] at ht
    subst ht
    rfl
  · have ht : HasTy p W _ d := ht
    simp only [HasTy] at ht
    obtain ⟨_, rfl, _⟩ := ht
    rfl
  · have ht : HasTy p W _ d := ht
    simp only [HasTy] at ht
    obtain ⟨_, rfl, _⟩ := ht
    rfl
  · have ht : HasTy p W _ d := ht
    simp only [HasTy] at ht
    obtain ⟨_, rfl, _⟩ := ht
    rfl
def isT (p : Prm) (t u : Ty2) : Option Ty2 := match u with
  | .non => some (match isNonT p t with
    | some b => .bc b
    | none => .bl)
  | .bc y => (match t with
    | .bc x => some (.bc (decide (x = y)))
    | .bl => some .bl
    | _ => none)
  | _ => none
def notT : Ty2 → Option Ty2
  | .bl => some .bl
  | .bc b => some (.bc !b)
  | _ => none
theorem isT_ok (h : isT p t u = some v) (h1 : PV p W S t d) (h2 : PV p W S u e) : ∃ b, dIs d e S = .ok (.bl b) S ∧ dIsNot d e S = .ok (.bl !b) S ∧ HasTy p W v (.bl b) := by
  unfold isT at h
  split at h
  · cases h
    have h2 : HasTy p W _ e := h2
    simp only [HasTy] at h2
    subst h2
    refine ⟨isNon d, rfl, rfl, ?_⟩
    split
    · rename_i b q
      simp only [HasTy]
      rw [isNonT_ok q h1]
    · simp only [HasTy]
      exact ⟨_, rfl⟩
  · have h2 : HasTy p W _ e := h2
    simp only [HasTy] at h2
    subst h2
    split at h
    · cases h
      have h1 : HasTy p W _ d := h1
      simp only [HasTy] at h1
      subst h1
      refine ⟨_, rfl, rfl, ?_⟩
      simp only [HasTy]
    · cases h
      have h1 : HasTy p W _ d := h1
      simp only [HasTy] at h1
      obtain ⟨x, rfl⟩ := h1
      refine ⟨_, rfl, rfl, ?_⟩
      simp only [HasTy]
      exact ⟨_, rfl⟩
    · cases h
  · cases h
theorem notT_ok {b : Bool} (h : notT t = some u) (ht : HasTy p W t (.bl b)) : HasTy p W u (.bl !b) := by
  unfold notT at h
  split at h
  · cases h
    simp only [HasTy]
    exact ⟨_, rfl⟩
  · cases h
    simp only [HasTy] at ht ⊢
    cases ht
    rfl
  · cases h
def tCmp (p : Prm) (o : Cop) (t u : Ty2) : Option Ty2 := match asInt p t, asInt p u with
  | some (a, b), some (c, d) => iCmp o a b c d
  | _, _ => match o with
    | .is => isT p t u
    | .isNot => (isT p t u).bind notT
    | .eq => if plain p 40 t = true ∧ plain p 40 u = true then some .bl else none
    | .ne => if plain p 40 t = true ∧ plain p 40 u = true then some .bl else none
    | .in_ => if plain p 40 t = true ∧ plain p 40 u = true ∧ (asL u).isSome = true then some .bl else none
    | .notIn => if plain p 40 t = true ∧ plain p 40 u = true ∧ (asL u).isSome = true then some .bl else none
    | _ => none
theorem dIn_b {x : PyData} {j : Nat} {ys : List PyData} (h1 : py FU S d = some x) (h2 : py FU S (.ref j) = some (.list ys)) (s1 : shp x = true) (s2 : shp (.list ys) = true) : ∃ b, dIn d (.ref j) S = .ok (.bl b) S := by
  unfold dIn
  split
  · rename_i q
    cases q
  · rename_i q
    cases q
    rw [h1, h2]
    dsimp only
    rw [if_pos ⟨s1, s2⟩]
    exact ⟨_, rfl⟩
  · rename_i q1 q2
    first
      | exact absurd rfl (q1 j)
      | exact absurd rfl (q2 j)
      | exact (q1 j rfl).elim
      | exact (q2 j rfl).elim
include hX in
theorem tCmp_ok (w : WF p tm W S) {o : Cop} (h : tCmp p o t u = some v) (h1 : PV p W S t d) (h2 : PV p W S u e) : TR p W S (o.run d e S) v := by
  unfold tCmp at h
  have bl : ∀ {b : Bool}, HasTy p W .bl (.bl b) := fun {b} => by simp only [HasTy]; exact ⟨b, rfl⟩
  split at h
  · rename_i q1 q2
    obtain ⟨i, rfl, a1, a2⟩ := PV.int hX h1 q1
    obtain ⟨j, rfl, b1, b2⟩ := PV.int hX h2 q2
    exact iCmp_ok h a1 a2 b1 b2
  · have inB : plain p 40 t = true ∧ plain p 40 u = true ∧ (asL u).isSome = true → ∃ b, dIn d e S = .ok (.bl b) S := fun ⟨z1, z2, z3⟩ => by
      obtain ⟨⟨u', a, b⟩, q⟩ := Option.isSome_iff_exists.mp z3
      obtain ⟨j, ds, rfl, _⟩ := h2.l q
      obtain ⟨x, k1, k2⟩ := pv_plain hX w z1 h1
      obtain ⟨y, l1, l2⟩ := pv_plain hX w z2 h2
      obtain ⟨ys, rfl⟩ : ∃ ys, y = .list ys := by
        have l3 : py (59 + 1) S (.ref j) = some y := l1
        rw [py_ref] at l3
        obtain ⟨j', ds', e', q', _⟩ := h2.l q
        cases e'
        rw [q'] at l3
        dsimp only at l3
        rw [Option.map_eq_some_iff] at l3
        obtain ⟨ys, _, rfl⟩ := l3
        exact ⟨ys, rfl⟩
      exact dIn_b k1 l1 k2 l2
    split at h
    · obtain ⟨b, k1, _, k3⟩ := isT_ok h h1 h2
      simp only [Cop.run]
      rw [k1]
      exact TR.val k3
    · rw [Option.bind_eq_some_iff] at h
      obtain ⟨v', h3, h4⟩ := h
      obtain ⟨b, _, k2, k3⟩ := isT_ok h3 h1 h2
      simp only [Cop.run]
      rw [k2]
      exact TR.val (notT_ok h4 k3)
    · split at h
      · rename_i z
        cases h
        obtain ⟨x, k1, k2⟩ := pv_plain hX w z.1 h1
        obtain ⟨y, l1, l2⟩ := pv_plain hX w z.2 h2
        obtain ⟨b, q⟩ := dEq_b k1 l1 k2 l2
        simp only [Cop.run]
        rw [q]
        exact TR.val bl
      · cases h
    · split at h
      · rename_i z
        cases h
        obtain ⟨x, k1, k2⟩ := pv_plain hX w z.1 h1
        obtain ⟨y, l1, l2⟩ := pv_plain hX w z.2 h2
        obtain ⟨b, q⟩ := dEq_b k1 l1 k2 l2
        simp only [Cop.run]
        rw [dNe_b q]
        exact TR.val bl
      · cases h
    · split at h
      · rename_i z
        cases h
        obtain ⟨b, q⟩ := inB z
        simp only [Cop.run]
        rw [q]
        exact TR.val bl
      · cases h
    · split at h
      · rename_i z
        cases h
        obtain ⟨b, q⟩ := inB z
        simp only [Cop.run]
        have : dNotIn d e S = .ok (.bl (!b)) S := by
          show M.bnd (dIn d e) _ S = _
          unfold M.bnd
          rw [q]
          rfl
        rw [this]
        exact TR.val bl
      · cases h
    · cases h
end
end Ev
namespace Ev
open PySem PySem.Spec PyProof.Rows
section
variable {p : Prm} {W : Wl} {S : Store} {t u v : Ty2} {d e : D} {tm : Nat}
variable (hX : PrOk p)
/-! ### a + b -/
theorem HasTys.app : ∀ {ts us : List Ty2} {ds es : List D}, HasTys p W ts ds → HasTys p W us es → HasTys p W (ts ++ us) (ds ++ es)
  | [], _, _, _, h, k => by
    simp only [HasTys] at h
    subst h
    exact k
  | t :: ts, _, _, _, h, k => by
    simp only [HasTys] at h
    obtain ⟨x, xs, rfl, a, b⟩ := h
    simp only [List.cons_append, HasTys]
    exact ⟨x, _, rfl, a, HasTys.app b k⟩
theorem HasTys.drop : ∀ {ts : List Ty2} {ds : List D} (n : Nat), HasTys p W ts ds → HasTys p W (ts.drop n) (ds.drop n)
  | ts, ds, 0, h => by simpa using h
  | [], _, n + 1, h => by
    simp only [HasTys] at h
    subst h
    simp only [List.drop_nil, HasTys]
  | t :: ts, _, n + 1, h => by
    simp only [HasTys] at h
    obtain ⟨x, xs, rfl, a, b⟩ := h
    exact HasTys.drop n b
theorem HasTys.take : ∀ {ts : List Ty2} {ds : List D} (n : Nat), HasTys p W ts ds → HasTys p W (ts.take n) (ds.take n)
  | ts, ds, 0, h => by simp only [List.take_zero, HasTys]
  | [], _, n + 1, h => by
    simp only [HasTys] at h
    subst h
    simp only [List.take_nil, HasTys]
  | t :: ts, _, n + 1, h => by
    simp only [HasTys] at h
    obtain ⟨x, xs, rfl, a, b⟩ := h
    simp only [List.take_succ_cons, HasTys]
    exact ⟨x, _, rfl, a, HasTys.take n b⟩
theorem subT_ok (h1 : subT p t u = true) (hX : PrOk p) (h : HasTy p W t d) : HasTy p W u d := by
  unfold subT at h1
  split at h1
  · simp only [HasTy] at h
  · exact sub_ok hX FT h1 h
theorem LINE_eq : LINE = 16777216 := rfl
theorem strOk_app {x y : Str} (h1 : PyData.strOk x = true) (h2 : PyData.strOk y = true) : PyData.strOk (x ++ y) = true := by
  unfold PyData.strOk at *
  show (x.cps ++ y.cps).all _ = true
  rw [Array.all_append, h1, h2]
  rfl
theorem str_app_len {x y : Str} : (x ++ y).length = x.length + y.length := by
  show (x.cps ++ y.cps).size = _
  rw [Array.size_append]
  rfl
def addT (p : Prm) (t u : Ty2) : Option Ty2 := match asL t, asL u with
  | some (t, a, b), some (u, c, d) => if b + d ≤ LINE then (join p t u).map fun v => .own v (a + c) (b + d) else none
  | _, _ => match expT p t, expT p u with
    | .tup ts, .tup us => if ts.length + us.length ≤ LINE then some (.tup (ts ++ us)) else none
    | .str a b, .str c d => if b + d ≤ LINE then some (.str (a + c) (b + d)) else none
    | _, _ => match asSeq p t, asSeq p u with
      | some (t, a, b), some (u, c, d) => if b + d ≤ LINE then (join p t u).map fun v => .seq v (a + c) (b + d) else none
      | _, _ => none
theorem all_app {P : D → Prop} {xs ys : List D} (h1 : ∀ x ∈ xs, P x) (h2 : ∀ x ∈ ys, P x) : ∀ x ∈ xs ++ ys, P x := fun x hx => by
  rcases List.mem_append.mp hx with z | z
  · exact h1 x z
  · exact h2 x z
include hX in
theorem pv_exp (h : PV p W S t d) (h2 : asLr t = none) : HasTy p W (expT p t) d := by
  cases t <;> first
    | exact expT_ok hX h
    | cases h2
def binT (p : Prm) (o : Bop) (t u : Ty2) : Option Ty2 := match asInt p t, asInt p u with
  | some (a, b), some (c, d) => iBin o a b c d
  | _, _ => match o with
    | .add => addT p t u
    | _ => none
theorem asL_exp {t u : Ty2} (h : expT p t = u) (hu : ∀ a b c, u ≠ .own a b c) (hl : ∀ a b c, u ≠ .lst a b c) (hs : ∀ a b, u ≠ .scr a b) : asLr t = none := by
  unfold expT at h
  split at h
  · rfl
  · subst h
    unfold asLr
    split
    · exact absurd rfl (hu _ _ _)
    · exact absurd rfl (hl _ _ _)
    · exact absurd rfl (hs _ _)
    · rfl
include hX in
theorem binT_ok {o : Bop} (h : binT p o t u = some v) (h1 : PV p W S t d) (h2 : PV p W S u e) : TR p W S (o.run d e S) v := by
  unfold binT at h
  split at h
  · rename_i q1 q2
    obtain ⟨i, rfl, a1, a2⟩ := PV.int hX h1 q1
    obtain ⟨j, rfl, b1, b2⟩ := PV.int hX h2 q2
    exact iBin_ok h a1 a2 b1 b2
  · split at h
    · unfold addT at h
      simp only [Bop.run]
      split at h
      · rename_i q1 q2
        split at h
        · rename_i z
          rw [Option.map_eq_some_iff] at h
          obtain ⟨w, h3, rfl⟩ := h
          obtain ⟨j1, h4⟩ := join_ok h3
          obtain ⟨j, ds, rfl, s1, l1, l2, l3⟩ := h1.l q1
          obtain ⟨k, es, rfl, s2, m1, m2, m3⟩ := h2.l q2
          unfold dAdd
          simp only [s1, s2]
          rw [if_pos (by omega)]
          exact TR.new (by rw [List.length_append]; omega) (by rw [List.length_append]; omega) (all_app (fun x hx => subT_ok j1 hX (l3 x hx)) (fun x hx => subT_ok h4 hX (m3 x hx)))
        · cases h
      · split at h
        · rename_i q1 q2
          have e1 := pv_exp hX h1 (asL_exp q1 (fun _ _ _ => nofun) (fun _ _ _ => nofun) (fun _ _ => nofun))
          have e2 := pv_exp hX h2 (asL_exp q2 (fun _ _ _ => nofun) (fun _ _ _ => nofun) (fun _ _ => nofun))
          rw [q1] at e1
          rw [q2] at e2
          simp only [HasTy] at e1 e2
          obtain ⟨ds, rfl, hs⟩ := e1
          obtain ⟨es, rfl, ks⟩ := e2
          have g1 := hs.length
          have g2 := ks.length
          split at h
          · cases h
            unfold dAdd
            simp only
            rw [if_pos (by omega)]
            exact TR.val (by simp only [HasTy]; exact ⟨_, rfl, hs.app ks⟩)
          · cases h
        · rename_i q1 q2
          have e1 := pv_exp hX h1 (asL_exp q1 (fun _ _ _ => nofun) (fun _ _ _ => nofun) (fun _ _ => nofun))
          have e2 := pv_exp hX h2 (asL_exp q2 (fun _ _ _ => nofun) (fun _ _ _ => nofun) (fun _ _ => nofun))
          rw [q1] at e1
          rw [q2] at e2
          simp only [HasTy] at e1 e2
          obtain ⟨x, rfl, x1, x2, x3⟩ := e1
          obtain ⟨y, rfl, y1, y2, y3⟩ := e2
          split at h
          · cases h
            unfold dAdd
            simp only
            rw [if_pos (by omega)]
            exact TR.val (by simp only [HasTy]; exact ⟨_, rfl, by rw [str_app_len]; omega, by rw [str_app_len]; omega, strOk_app x3 y3⟩)
          · cases h
        · split at h
          · rename_i q1 q2
            split at h
            · rw [Option.map_eq_some_iff] at h
              obtain ⟨w, h3, rfl⟩ := h
              obtain ⟨j1, h4⟩ := join_ok h3
              obtain ⟨ds, rfl, l1, l2, l3⟩ := PV.sq hX h1 q1
              obtain ⟨es, rfl, m1, m2, m3⟩ := PV.sq hX h2 q2
              unfold dAdd
              simp only
              rw [if_pos (by omega)]
              exact TR.val (by simp only [HasTy]; exact ⟨_, rfl, by rw [List.length_append]; omega, by rw [List.length_append]; omega, all_app (fun x hx => subT_ok j1 hX (l3 x hx)) (fun x hx => subT_ok h4 hX (m3 x hx))⟩)
            · cases h
          · cases h
    · cases h
/-! ### a[i] -/
theorem atI_in {α : Type} {xs : List α} {i : Int} (h1 : -(xs.length : Int) ≤ i) (h2 : i < xs.length) : ∃ x, L2.atI xs i = some x ∧ x ∈ xs := by
  unfold L2.atI L2.ixN
  by_cases h0 : 0 ≤ i
  · rw [if_pos h0, if_pos h2]
    have : i.toNat < xs.length := by omega
    exact ⟨xs[i.toNat], by simp [this], List.getElem_mem _⟩
  · rw [if_neg h0, if_pos h1]
    have : (i + (xs.length : Int)).toNat < xs.length := by omega
    exact ⟨xs[(i + (xs.length : Int)).toNat], by simp [this], List.getElem_mem _⟩
def ixT (p : Prm) (t u : Ty2) : Option Ty2 := match asInt p u with
  | some (c, d) => match asLr t with
    | some (t, a, _) => if -(a : Int) ≤ c ∧ d < a then some t else none
    | none => match expT p t with
      | .tup ts => if c = d then L2.atI ts c else match asSeq p t with
        | some (t, a, _) => if -(a : Int) ≤ c ∧ d < a then some t else none
        | none => none
      | .seq t a _ => if -(a : Int) ≤ c ∧ d < a then some t else none
      | .str a b => if -(a : Int) ≤ c ∧ d < a ∧ b ≤ LINE then some (.str 1 1) else none
      | _ => none
  | none => none
theorem HasTys.atI {ts : List Ty2} {ds : List D} {i : Int} {t : Ty2} (h : HasTys p W ts ds) (e : L2.atI ts i = some t) : ∃ d, L2.atI ds i = some d ∧ HasTy p W t d := by
  unfold L2.atI at e ⊢
  rw [h.length]
  rw [Option.bind_eq_some_iff] at e
  obtain ⟨j, h1, h2⟩ := e
  obtain ⟨v, h3, h4⟩ := h.get h2
  exact ⟨v, by rw [h1]; exact h3, h4⟩
include hX in
theorem ixT_ok (h : ixT p t u = some v) (h1 : PV p W S t d) (h2 : PV p W S u e) : TR p W S (dIx d e S) v := by
  unfold ixT at h
  split at h
  · rename_i c0 d0 q
    obtain ⟨i, rfl, i1, i2⟩ := PV.int hX h2 q
    have tupK : ∀ {ds : List D} {v : Ty2}, (∀ x ∈ ds, HasTy p W v x) → -(ds.length : Int) ≤ i → i < ds.length → TR p W S (dIx (.tup ds) (.int i) S) v := fun {ds v} hs a b => by
      obtain ⟨x, x1, x2⟩ := atI_in a b
      unfold dIx
      simp only [x1]
      exact TR.val (hs x x2)
    split at h
    · rename_i q1
      split at h
      · cases h
        obtain ⟨j, ds, rfl, s1, l1, l2, l3⟩ := h1.lr q1
        obtain ⟨x, x1, x2⟩ := atI_in (xs := ds) (i := i) (by omega) (by omega)
        unfold dIx
        rcases s1 with s1 | s1
        · simp only [s1, x1]
          exact TR.val (l3 x x2)
        · simp only [s1, x1]
          exact TR.val (l3 x x2)
      · cases h
    · rename_i q1
      have e1 := pv_exp hX h1 q1
      split at h
      · rename_i ts q2
        rw [q2] at e1
        simp only [HasTy] at e1
        obtain ⟨ds, rfl, hs⟩ := e1
        split at h
        · have : i = c0 := by omega
          subst this
          obtain ⟨x, x1, x2⟩ := hs.atI h
          unfold dIx
          simp only [x1]
          exact TR.val x2
        · split at h
          · rename_i q3
            split at h
            · cases h
              obtain ⟨es, e2, l1, l2, l3⟩ := PV.sq hX h1 q3
              cases e2
              exact tupK l3 (by omega) (by omega)
            · cases h
          · cases h
      · rename_i q2
        rw [q2] at e1
        simp only [HasTy] at e1
        obtain ⟨ds, rfl, l1, l2, l3⟩ := e1
        split at h
        · cases h
          exact tupK l3 (by omega) (by omega)
        · cases h
      · rename_i q2
        rw [q2] at e1
        simp only [HasTy] at e1
        obtain ⟨x, rfl, l1, l2, l3⟩ := e1
        split at h
        · cases h
          have hl : x.cps.toList.length = x.length := by simp [Str.length]
          obtain ⟨c, x1, x2⟩ := atI_in (xs := x.cps.toList) (i := i) (by omega) (by omega)
          unfold dIx
          simp only
          rw [if_pos (by omega)]
          simp only [x1]
          refine TR.val ?_
          simp only [HasTy]
          refine ⟨_, rfl, Nat.le_refl _, Nat.le_refl _, ?_⟩
          unfold PyData.strOk at l3 ⊢
          rw [Array.all_eq_true'] at l3
          have := l3 c (Array.mem_toList_iff.mp x2)
          simpa using this
        · cases h
      · cases h
  · cases h
/-! ### a[lo:hi] -/
def partT (p : Prm) : Option Ty2 → Option (Option (Int × Int))
  | none => some none
  | some t => (asInt p t).map some
/-- how long at the least, the most -/
def cutLen (a b : Nat) : Option (Int × Int) → Option (Int × Int) → Nat × Nat
  | none, some (c, d) => if c = d ∧ 0 ≤ c then (min a c.toNat, min b c.toNat) else if 0 ≤ c then (0, min b d.toNat) else (0, b)
  | some (c, d), none => if c = d ∧ 0 ≤ c then (a - c.toNat, b - c.toNat) else (0, b)
  | _, some (c, d) => if 0 ≤ c then (0, min b d.toNat) else (0, b)
  | _, _ => (0, b)
def inP (l : Option Int) : Option (Int × Int) → Prop
  | none => l = none
  | some (c, d) => ∃ i, l = some i ∧ c ≤ i ∧ i ≤ d
theorem cutD_length (xs : List D) (lo hi : Option Int) : (cutD xs lo hi).length = min (HT.sIx xs.length xs.length hi - HT.sIx xs.length 0 lo) (xs.length - HT.sIx xs.length 0 lo) := by
  unfold cutD
  rw [List.length_take, List.length_drop]
theorem cutLen_ok {a b : Nat} {xs : List D} {lo hi : Option Int} {l h : Option (Int × Int)} (h1 : a ≤ xs.length) (h2 : xs.length ≤ b) (hl : inP lo l) (hh : inP hi h) : (cutLen a b l h).1 ≤ (cutD xs lo hi).length ∧ (cutD xs lo hi).length ≤ (cutLen a b l h).2 := by
  have top := cutD_len xs lo hi
  have ln := cutD_length xs lo hi
  unfold cutLen
  cases h with
  | none =>
    cases l with
    | none => exact ⟨Nat.zero_le _, by dsimp only; omega⟩
    | some q =>
      obtain ⟨c, d⟩ := q
      obtain ⟨i, rfl, i1, i2⟩ := hl
      dsimp only
      split
      · rename_i z
        have e : i = c := by omega
        subst e
        have hh : hi = none := hh
        subst hh
        rw [HT.sIx_none] at ln
        have e2 : HT.sIx xs.length 0 (some i) = min i.toNat xs.length := by
          unfold HT.sIx
          dsimp only
          rw [if_neg (by omega)]
        rw [e2] at ln
        omega
      · exact ⟨Nat.zero_le _, by dsimp only; omega⟩
  | some q =>
    obtain ⟨c, d⟩ := q
    obtain ⟨i, rfl, i1, i2⟩ := hh
    have up : 0 ≤ c → (cutD xs lo (some i)).length ≤ min b d.toNat := fun z => by
      have e2 : HT.sIx xs.length xs.length (some i) = min i.toNat xs.length := by
        unfold HT.sIx
        dsimp only
        rw [if_neg (by omega)]
      rw [e2] at ln
      omega
    cases l with
    | none =>
      dsimp only
      split
      · rename_i z
        have e : i = c := by omega
        subst e
        have hl : lo = none := hl
        subst hl
        rw [HT.sIx_none] at ln
        have e2 : HT.sIx xs.length xs.length (some i) = min i.toNat xs.length := by
          unfold HT.sIx
          dsimp only
          rw [if_neg (by omega)]
        rw [e2] at ln
        omega
      · split
        · rename_i z
          exact ⟨Nat.zero_le _, up z⟩
        · exact ⟨Nat.zero_le _, by dsimp only; omega⟩
    | some q2 =>
      dsimp only
      split
      · rename_i z
        exact ⟨Nat.zero_le _, up z⟩
      · exact ⟨Nat.zero_le _, by dsimp only; omega⟩
def ptv : Option (Int × Int) → Option (Option Int)
  | none => some none
  | some (c, d) => if c = d then some (some c) else none
def slT (p : Prm) (t : Ty2) (l h : Option (Int × Int)) : Option Ty2 := match asLr t with
  | some (t, a, b) => some (.own t (cutLen a b l h).1 (cutLen a b l h).2)
  | none => match expT p t, ptv l, ptv h with
    | .tup ts, some l, some h => some (.tup ((ts.drop (HT.sIx ts.length 0 l)).take (HT.sIx ts.length ts.length h - HT.sIx ts.length 0 l)))
    | _, _, _ => match asSeq p t with
      | some (t, a, b) => some (.seq t (cutLen a b l h).1 (cutLen a b l h).2)
      | none => none
theorem ptv_ok {l : Option Int} {q : Option (Int × Int)} {r : Option Int} (h : ptv q = some r) (hl : inP l q) : l = r := by
  unfold ptv at h
  split at h
  · cases h; exact hl
  · split at h
    · cases h
      obtain ⟨i, rfl, i1, i2⟩ := hl
      congr 1
      omega
    · cases h
theorem mem_cut {xs : List D} {lo hi : Option Int} {x : D} (h : x ∈ cutD xs lo hi) : x ∈ xs := by
  unfold cutD at h
  exact List.mem_of_mem_drop (List.mem_of_mem_take h)
include hX in
theorem slT_ok {l h : Option (Int × Int)} {lo hi : Option Int} (hs : slT p t l h = some v) (h1 : PV p W S t d) (hl : inP lo l) (hh : inP hi h) : TR p W S (dSl d lo hi S) v := by
  unfold slT at hs
  split at hs
  · rename_i q1
    cases hs
    obtain ⟨j, ds, rfl, s1, l1, l2, l3⟩ := h1.lr q1
    obtain ⟨c1, c2⟩ := cutLen_ok l1 l2 hl hh
    unfold dSl
    rcases s1 with s1 | s1
    · simp only [s1]
      exact TR.new c1 c2 fun x hx => l3 x (mem_cut hx)
    · simp only [s1]
      exact TR.new c1 c2 fun x hx => l3 x (mem_cut hx)
  · rename_i q1
    have e1 := pv_exp hX h1 q1
    split at hs
    · rename_i ts l' h' q2 q3 q4
      cases hs
      have f1 := ptv_ok q3 hl
      have f2 := ptv_ok q4 hh
      subst f1 f2
      rw [q2] at e1
      simp only [HasTy] at e1
      obtain ⟨ds, rfl, ks⟩ := e1
      unfold dSl
      refine TR.val ?_
      simp only [HasTy]
      refine ⟨_, rfl, ?_⟩
      unfold cutD
      rw [ks.length]
      exact (ks.drop _).take _
    · split at hs
      · rename_i q3
        cases hs
        obtain ⟨ds, rfl, l1, l2, l3⟩ := PV.sq hX h1 q3
        obtain ⟨c1, c2⟩ := cutLen_ok l1 l2 hl hh
        unfold dSl
        refine TR.val ?_
        simp only [HasTy]
        exact ⟨_, rfl, c1, c2, fun x hx => l3 x (mem_cut hx)⟩
      · cases hs
end
end Ev
namespace Ev
open PySem PySem.Spec PyProof.Rows
inductive PVs (p : Prm) (W : Wl) (S : Store) : List Ty2 → List D → Prop
  | nil : PVs p W S [] []
  | cons {t : Ty2} {ts : List Ty2} {d : D} {ds : List D} : PV p W S t d → PVs p W S ts ds → PVs p W S (t :: ts) (d :: ds)
section
variable {p : Prm} {W : Wl} {S : Store} {t u v : Ty2} {d e : D} {tm : Nat}
variable (hX : PrOk p)
def negT (p : Prm) (t : Ty2) : Option Ty2 := (asInt p t).map fun q => .int (-q.2) (-q.1)
include hX in
theorem negT_ok (h : negT p t = some v) (h1 : PV p W S t d) : TR p W S (dNeg d S) v := by
  unfold negT at h
  rw [Option.map_eq_some_iff] at h
  obtain ⟨⟨a, b⟩, q, rfl⟩ := h
  obtain ⟨i, rfl, i1, i2⟩ := PV.int hX h1 q
  refine TR.val ?_
  simp only [HasTy]
  exact ⟨_, rfl, by omega, by omega⟩
/-- the class of a value, if the type tells -/
def clsT (p : Prm) (t : Ty2) : Option (Option Ty) := match t with
  | .own _ _ _ => some (some .list)
  | .lst _ _ _ => some (some .list)
  | .scr _ _ => some (some .list)
  | t => match expT p t with
    | .int _ _ => some (some .int)
    | .intA => some (some .int)
    | .bl => some (some .bool)
    | .bc _ => some (some .bool)
    | .non => some none
    | .str _ _ => some (some .str)
    | .tup _ => some (some .tuple)
    | .seq _ _ _ => some (some .tuple)
    | _ => none
def isiT (p : Prm) (y : Ty) (t : Ty2) : Option Ty2 := (clsT p t).map fun c => .bc (match c with
  | some u => u.sub y
  | none => false)
include hX in
theorem clsT_ok {c : Option Ty} (h : clsT p t = some c) (h1 : PV p W S t d) : tyOf d S = some c := by
  have lst : ∀ {t : Ty2} {a b : Nat}, (∃ j ds, d = .ref j ∧ (S[j]? = some (.lst ds) ∨ S[j]? = some (.fro ds)) ∧ a ≤ ds.length ∧ ds.length ≤ b ∧ ∀ x ∈ ds, HasTy p W t x) → tyOf d S = some (some .list) := fun ⟨j, ds, e, q, _⟩ => by
    subst e
    unfold tyOf
    rcases q with q | q
    · simp only [q]
    · simp only [q]
  unfold clsT at h
  split at h
  · cases h
    obtain ⟨j, ds, e, q, r⟩ := h1
    exact lst ⟨j, ds, e, .inl q, r⟩
  · cases h
    obtain ⟨j, ds, e, q, r⟩ := h1
    exact lst ⟨j, ds, e, .inl q, r⟩
  · cases h
    obtain ⟨j, ds, e, q, r⟩ := h1
    exact lst ⟨j, ds, e, .inr q, r⟩
  · rename_i n1 n2 n3
    have al : asLr t = none := by
      unfold asLr
      split
      · exact absurd rfl (n1 _ _ _)
      · exact absurd rfl (n2 _ _ _)
      · exact absurd rfl (n3 _ _)
      · rfl
    have e1 := pv_exp hX h1 al
    split at h <;> first
      | (rename_i q; cases h; rw [q] at e1; simp only [HasTy] at e1; obtain ⟨_, rfl, _⟩ := e1; rfl)
      | (rename_i q; cases h; rw [q] at e1; simp only [HasTy] at e1; obtain ⟨_, rfl⟩ := e1; rfl)
      | (rename_i q; cases h; rw [q] at e1; simp only [HasTy] at e1; subst e1; rfl)
      | cases h
include hX in
theorem isiT_ok {y : Ty} (h : isiT p y t = some v) (h1 : PV p W S t d) : TR p W S (dIsi y d S) v := by
  unfold isiT at h
  rw [Option.map_eq_some_iff] at h
  obtain ⟨c, q, rfl⟩ := h
  have e := clsT_ok hX q h1
  unfold dIsi
  rw [e]
  cases c with
  | none => exact TR.val (by simp only [HasTy])
  | some u => exact TR.val (by simp only [HasTy])
def lenT (p : Prm) (t : Ty2) : Option (Nat × Nat) := match asLr t with
  | some (_, a, b) => some (a, b)
  | none => match expT p t with
    | .tup ts => some (ts.length, ts.length)
    | .seq _ a b => some (a, b)
    | .str a b => if b ≤ LINE then some (a, b) else none
    | _ => none
include hX in
theorem lenT_ok {a b : Nat} (h : lenT p t = some (a, b)) (h1 : PV p W S t d) : ∃ n : Nat, dLen d S = .ok (.int n) S ∧ a ≤ n ∧ n ≤ b := by
  unfold lenT at h
  split at h
  · rename_i q
    cases h
    obtain ⟨j, ds, rfl, s1, l1, l2, _⟩ := h1.lr q
    refine ⟨ds.length, ?_, l1, l2⟩
    unfold dLen
    rcases s1 with s1 | s1
    · simp only [s1]
    · simp only [s1]
  · rename_i q
    have e1 := pv_exp hX h1 q
    split at h
    · rename_i q2
      cases h
      rw [q2] at e1
      simp only [HasTy] at e1
      obtain ⟨ds, rfl, hs⟩ := e1
      exact ⟨ds.length, rfl, by rw [hs.length]; exact Nat.le_refl _, by rw [hs.length]; exact Nat.le_refl _⟩
    · rename_i q2
      cases h
      rw [q2] at e1
      simp only [HasTy] at e1
      obtain ⟨ds, rfl, l1, l2, _⟩ := e1
      exact ⟨ds.length, rfl, l1, l2⟩
    · rename_i q2
      split at h
      · cases h
        rw [q2] at e1
        simp only [HasTy] at e1
        obtain ⟨x, rfl, l1, l2, _⟩ := e1
        refine ⟨x.length, ?_, l1, l2⟩
        unfold dLen
        simp only
        rw [if_pos (by omega)]
      · cases h
    · cases h
/-- a list's, a tuple's items -/
def itT (p : Prm) (t : Ty2) : Option (Ty2 × Nat × Nat) := match asLr t with
  | some q => some q
  | none => asSeq p t
include hX in
theorem itT_ok {u : Ty2} {a b : Nat} (h : itT p t = some (u, a, b)) (h1 : PV p W S t d) : ∃ ds, itemsOf d S = some ds ∧ a ≤ ds.length ∧ ds.length ≤ b ∧ ∀ x ∈ ds, HasTy p W u x := by
  unfold itT at h
  split at h
  · rename_i q
    cases h
    obtain ⟨j, ds, rfl, s1, l⟩ := h1.lr q
    refine ⟨ds, ?_, l⟩
    unfold itemsOf
    rcases s1 with s1 | s1
    · simp only [s1]
    · simp only [s1]
  · obtain ⟨ds, rfl, l⟩ := PV.sq hX h1 h
    exact ⟨ds, rfl, l⟩
def bltT (p : Prm) (b : Blt) (ts : List Ty2) : Option Ty2 := match b, ts with
  | .len, [t] => (lenT p t).map fun q => .int q.1 q.2
  | .abs, [t] => (asInt p t).map fun q => .int (if 0 ≤ q.1 then q.1 else if q.2 ≤ 0 then -q.2 else 0) (max (-q.1) q.2)
  | .int, [t] => match asInt p t with
    | some (a, b) => some (.int a b)
    | none => match t with
      | .bl => some (.int 0 1)
      | .bc true => some (.int 1 1)
      | .bc false => some (.int 0 0)
      | _ => none
  | .max2, [t, u] => match asInt p t, asInt p u with
    | some (a, b), some (c, d) => some (.int (max a c) (max b d))
    | _, _ => none
  | .min2, [t, u] => match asInt p t, asInt p u with
    | some (a, b), some (c, d) => some (.int (min a c) (min b d))
    | _, _ => none
  | .tuple, [t] => match asLr t with
    | some (t, a, b) => some (.seq t a b)
    | none => match expT p t with
      | .tup ts => some (.tup ts)
      | .seq t a b => some (.seq t a b)
      | _ => none
  | .list, [t] => (itT p t).map fun q => .own q.1 q.2.1 q.2.2
  | .all, [t] => match asL t with
    | some (t, _, _) => if subT p t .bl = true then some .bl else none
    | none => none
  | .any, [t] => match asL t with
    | some (t, _, _) => if subT p t .bl = true then some .bl else none
    | none => none
  | _, _ => none
theorem bls_ok : ∀ {ds : List D}, (∀ x ∈ ds, HasTy p W .bl x) → ∃ bs, bls ds = some bs
  | [], _ => ⟨[], rfl⟩
  | d :: ds, h => by
    have h1 := h d List.mem_cons_self
    simp only [HasTy] at h1
    obtain ⟨b, rfl⟩ := h1
    obtain ⟨bs, e⟩ := bls_ok (ds := ds) fun x hx => h x (List.mem_cons_of_mem _ hx)
    exact ⟨b :: bs, by rw [bls, e]; rfl⟩
include hX in
theorem bltT_ok {b : Blt} {ts : List Ty2} {ds : List D} (h : bltT p b ts = some v) (h1 : PVs p W S ts ds) : TR p W S (b.run ds S) v := by
  have lb : ∀ {t t' : Ty2} {a c : Nat} {d : D}, asL t = some (t', a, c) → subT p t' .bl = true → PV p W S t d → ∃ bs, (listOf? d S).bind bls = some bs := fun {t t' a c d} q z k => by
    obtain ⟨j, ds, rfl, s1, l1, l2, l3⟩ := k.l q
    obtain ⟨bs, e⟩ := bls_ok (ds := ds) fun x hx => subT_ok z hX (l3 x hx)
    refine ⟨bs, ?_⟩
    unfold listOf?
    simp only [s1]; exact e
  unfold bltT at h
  split at h
  · cases h1 with
    | cons k1 k2 =>
      cases k2
      rw [Option.map_eq_some_iff] at h
      obtain ⟨⟨a, b⟩, q, rfl⟩ := h
      obtain ⟨n, e1, e2, e3⟩ := lenT_ok hX q k1
      simp only [Blt.run, on1]
      rw [e1]
      refine TR.val ?_
      simp only [HasTy]
      exact ⟨_, rfl, by omega, by omega⟩
  · cases h1 with
    | cons k1 k2 =>
      cases k2
      rw [Option.map_eq_some_iff] at h
      obtain ⟨⟨a, b⟩, q, rfl⟩ := h
      obtain ⟨i, rfl, i1, i2⟩ := PV.int hX k1 q
      simp only [Blt.run, on1, dAbs]
      refine TR.val ?_
      simp only [HasTy]
      refine ⟨_, rfl, ?_, ?_⟩
      · split <;> split <;> first
          | omega
          | (split <;> omega)
      · split <;> omega
  · cases h1 with
    | cons k1 k2 =>
      cases k2
      split at h
      · rename_i q
        cases h
        obtain ⟨i, rfl, i1, i2⟩ := PV.int hX k1 q
        simp only [Blt.run, on1, dInt]
        refine TR.val ?_
        simp only [HasTy]
        exact ⟨_, rfl, i1, i2⟩
      · split at h
        · cases h
          have k1 : HasTy p W _ _ := k1
          simp only [HasTy] at k1
          obtain ⟨b, rfl⟩ := k1
          simp only [Blt.run, on1, dInt]
          refine TR.val ?_
          simp only [HasTy]
          exact ⟨_, rfl, by cases b <;> decide, by cases b <;> decide⟩
        · cases h
          have k1 : HasTy p W _ _ := k1
          simp only [HasTy] at k1
          subst k1
          simp only [Blt.run, on1, dInt]
          refine TR.val ?_
          simp only [HasTy]
          exact ⟨_, rfl, by decide, by decide⟩
        · cases h
          have k1 : HasTy p W _ _ := k1
          simp only [HasTy] at k1
          subst k1
          simp only [Blt.run, on1, dInt]
          refine TR.val ?_
          simp only [HasTy]
          exact ⟨_, rfl, by decide, by decide⟩
        · cases h
  · cases h1 with
    | cons k1 k2 =>
      cases k2 with
      | cons k2 k3 =>
        cases k3
        split at h
        · rename_i q1 q2
          cases h
          obtain ⟨i, rfl, i1, i2⟩ := PV.int hX k1 q1
          obtain ⟨j, rfl, j1, j2⟩ := PV.int hX k2 q2
          simp only [Blt.run, on2, dMax2]
          refine TR.val ?_
          simp only [HasTy]
          refine ⟨_, rfl, ?_, ?_⟩ <;> split <;> omega
        · cases h
  · cases h1 with
    | cons k1 k2 =>
      cases k2 with
      | cons k2 k3 =>
        cases k3
        split at h
        · rename_i q1 q2
          cases h
          obtain ⟨i, rfl, i1, i2⟩ := PV.int hX k1 q1
          obtain ⟨j, rfl, j1, j2⟩ := PV.int hX k2 q2
          simp only [Blt.run, on2, dMin2]
          refine TR.val ?_
          simp only [HasTy]
          refine ⟨_, rfl, ?_, ?_⟩ <;> split <;> omega
        · cases h
  · cases h1 with
    | cons k1 k2 =>
      cases k2
      split at h
      · rename_i q
        cases h
        obtain ⟨j, ds, rfl, s1, l1, l2, l3⟩ := k1.lr q
        simp only [Blt.run, on1, dTuple, itemsOf]
        rcases s1 with s1 | s1
        · simp only [s1]
          refine TR.val ?_
          simp only [HasTy]
          exact ⟨_, rfl, l1, l2, l3⟩
        · simp only [s1]
          refine TR.val ?_
          simp only [HasTy]
          exact ⟨_, rfl, l1, l2, l3⟩
      · rename_i q
        have e1 := pv_exp hX k1 q
        split at h
        · rename_i q2
          cases h
          rw [q2] at e1
          have e2 := e1
          simp only [HasTy] at e2
          obtain ⟨ds, rfl, hs⟩ := e2
          exact TR.val e1
        · rename_i q2
          cases h
          rw [q2] at e1
          have e2 := e1
          simp only [HasTy] at e2
          obtain ⟨ds, rfl, hs⟩ := e2
          exact TR.val e1
        · cases h
  · cases h1 with
    | cons k1 k2 =>
      cases k2
      rw [Option.map_eq_some_iff] at h
      obtain ⟨⟨u', a, b⟩, q, rfl⟩ := h
      obtain ⟨ds, e, l1, l2, l3⟩ := itT_ok hX q k1
      simp only [Blt.run, on1, dList]
      rw [e]
      exact TR.new l1 l2 l3
  · cases h1 with
    | cons k1 k2 =>
      cases k2
      split at h
      · rename_i q
        split at h
        · rename_i z
          cases h
          obtain ⟨bs, e⟩ := lb q z k1
          simp only [Blt.run, on1, dAll]
          rw [e]
          refine TR.val ?_
          simp only [HasTy]
          exact ⟨_, rfl⟩
        · cases h
      · cases h
  · cases h1 with
    | cons k1 k2 =>
      cases k2
      split at h
      · rename_i q
        split at h
        · rename_i z
          cases h
          obtain ⟨bs, e⟩ := lb q z k1
          simp only [Blt.run, on1, dAny]
          rw [e]
          refine TR.val ?_
          simp only [HasTy]
          exact ⟨_, rfl⟩
        · cases h
      · cases h
  · cases h
end
end Ev
namespace Ev
open PySem PySem.Spec PyProof.Rows
/-! ### frames by types -/
abbrev En := List (Option Ty2)
def Val (p : Prm) (W : Wl) (S : Store) (t : Ty2) (d : D) : Prop := match t with
  | .own t lo hi => ∃ j ds, d = .ref j ∧ W[j]? = some .ow ∧ S[j]? = some (.lst ds) ∧ lo ≤ ds.length ∧ ds.length ≤ hi ∧ ∀ x ∈ ds, HasTy p W t x
  | t => HasTy p W t d
def isOwn : Ty2 → Bool
  | .own _ _ _ => true
  | _ => false
def Own (G : En) (env : Fr) (j : Nat) : Prop := ∃ (i : Nat) (t : Ty2), G[i]? = some (some t) ∧ isOwn t = true ∧ env[i]? = some (some (D.ref j))
structure EnvOk (p : Prm) (W : Wl) (S : Store) (G : En) (env : Fr) : Prop where
  len : env.length = G.length
  at_ : ∀ (i : Nat) (t : Ty2), G[i]? = some (some t) → ∃ d, env[i]? = some (some d) ∧ Val p W S t d
  uniq : ∀ (i k : Nat) (t u : Ty2) (d : D), G[i]? = some (some t) → isOwn t = true → G[k]? = some (some u) → isOwn u = true → env[i]? = some (some d) → env[k]? = some (some d) → i = k
/-- from a state to a later one, the frame's own lists apart -/
structure Go (p : Prm) (W : Wl) (S : Store) (t : Nat) (O : Nat → Prop) (W' : Wl) (S' : Store) (t' c : Nat) : Prop where
  ext : Ext W W'
  wf : WF p t' W' S'
  t1 : t ≤ t'
  t2 : t' ≤ t + c
  fr : ∀ (j : Nat), W[j]? = some .ow → S'[j]? = S[j]? ∧ (W'[j]? = some .ow ∨ (O j ∧ ∃ ds, W'[j]? = some (.fz ds)))
  grow : S.length ≤ S'.length
section
variable {p : Prm} {W W1 W2 : Wl} {S S1 S2 : Store} {t t1 t2 c c1 c2 : Nat} {O O1 O2 : Nat → Prop} {G G1 G2 : En} {env : Fr} {u v : Ty2} {d : D}
theorem Go.refl (w : WF p t W S) : Go p W S t O W S t 0 := ⟨.refl, w, Nat.le_refl _, Nat.le_refl _, fun _ h => ⟨rfl, .inl h⟩, Nat.le_refl _⟩
theorem Go.lt (w : WF p t W S) {j : Nat} (h : W[j]? = some .ow) : j < S.length := by
  rw [← w.len]
  exact (List.getElem?_eq_some_iff.mp h).1
theorem Go.trans (a : Go p W S t O W1 S1 t1 c1) (b : Go p W1 S1 t1 O1 W2 S2 t2 c2) (ho : ∀ j, O1 j → j < S.length → O j) (w : WF p t W S) : Go p W S t O W2 S2 t2 (c1 + c2) where
  ext := a.ext.trans b.ext
  wf := b.wf
  t1 := Nat.le_trans a.t1 b.t1
  t2 := by have := a.t2; have := b.t2; omega
  fr := fun j h => by
    obtain ⟨h1, h2⟩ := a.fr j h
    rcases h2 with h2 | ⟨h2, ds, h3⟩
    · obtain ⟨k1, k2⟩ := b.fr j h2
      refine ⟨k1.trans h1, ?_⟩
      rcases k2 with k2 | ⟨k2, k3⟩
      · exact .inl k2
      · exact .inr ⟨ho j k2 (Go.lt w h), k3⟩
    · have e := b.ext j _ h3 (fun z => nomatch z)
      exact ⟨by rw [b.wf.fz j ds e, ← h1, a.wf.fz j ds h3], .inr ⟨h2, ds, e⟩⟩
  grow := Nat.le_trans a.grow b.grow
theorem Go.weak (a : Go p W S t O W1 S1 t1 c) (h : c ≤ c1) (ho : ∀ j, O j → O1 j) : Go p W S t O1 W1 S1 t1 c1 :=
  ⟨a.ext, a.wf, a.t1, by have := a.t2; omega, fun j q => by
    obtain ⟨h1, h2⟩ := a.fr j q
    exact ⟨h1, h2.imp id fun ⟨x, y⟩ => ⟨ho j x, y⟩⟩, a.grow⟩
/-- no cell but a deck's changes -/
theorem Go.same (a : Go p W S t O W1 S1 t1 c) (w : WF p t W S) {j : Nat} {k : Kd} (h : W[j]? = some k) (hk : k ≠ .dk) : S1[j]? = S[j]? := by
  cases k with
  | dk => exact absurd rfl hk
  | ow => exact (a.fr j h).1
  | fz ds => rw [w.fz j ds h, a.wf.fz j ds (a.ext j _ h (fun z => nomatch z))]
  | sc ds => rw [w.sc j ds h, a.wf.sc j ds (a.ext j _ h (fun z => nomatch z))]
variable (hX : PrOk p)
theorem Val.has (h : Val p W S u d) (h2 : isOwn u = false) : HasTy p W u d := by
  cases u <;> first
    | exact h
    | cases h2
theorem Val.of (h : HasTy p W u d) : Val p W S u d := by
  cases u <;> first
    | exact h
    | (simp only [HasTy] at h)
/-- a value looked at later -/
theorem Val.pv (h : Val p W S u d) (w : WF p t W S) (a : Go p W S t O W1 S1 t1 c) : PV p W1 S1 u d := by
  by_cases ho : isOwn u = true
  · cases u <;> first
      | (cases ho; done)
      | skip
    obtain ⟨j, ds, e, q1, q2, r1, r2, r3⟩ := h
    exact ⟨j, ds, e, by rw [(a.fr j q1).1]; exact q2, r1, r2, fun x hx => (r3 x hx).mono a.ext⟩
  · have ho : isOwn u = false := by simpa using ho
    exact PV.of a.wf ((h.has ho).mono a.ext)
theorem Val.pv0 (h : Val p W S u d) (w : WF p t W S) : PV p W S u d := h.pv w (Go.refl (O := fun _ => False) w)
theorem Val.go (h : Val p W S u d) (a : Go p W S t (fun _ => False) W1 S1 t1 c) : Val p W1 S1 u d := by
  by_cases ho : isOwn u = true
  · cases u <;> first
      | (cases ho; done)
      | skip
    obtain ⟨j, ds, e, q1, q2, r1, r2, r3⟩ := h
    obtain ⟨z1, z2⟩ := a.fr j q1
    rcases z2 with z2 | ⟨z2, _⟩
    · exact ⟨j, ds, e, z2, by rw [z1]; exact q2, r1, r2, fun x hx => (r3 x hx).mono a.ext⟩
    · exact z2.elim
  · have ho : isOwn u = false := by simpa using ho
    exact Val.of ((h.has ho).mono a.ext)
theorem EnvOk.go (h : EnvOk p W S G env) (a : Go p W S t (fun _ => False) W1 S1 t1 c) : EnvOk p W1 S1 G env :=
  ⟨h.len, fun i u e => by
    obtain ⟨d, h1, h2⟩ := h.at_ i u e
    exact ⟨d, h1, h2.go a⟩, h.uniq⟩
/-- the own cells are the frame's -/
theorem EnvOk.ow (h : EnvOk p W S G env) {j : Nat} (o : Own G env j) : W[j]? = some .ow := by
  obtain ⟨i, u, h1, h2, h3⟩ := o
  obtain ⟨d, e1, e2⟩ := h.at_ i u h1
  rw [h3] at e1
  cases e1
  cases u <;> first
    | (cases h2; done)
    | skip
  obtain ⟨j', ds, e, q, _⟩ := e2
  cases e
  exact q
include hX in
theorem Val.sub (h : Val p W S u d) (hs : subT p u v = true) : Val p W S v d := by
  unfold subT at hs
  split at hs
  · simp only [Bool.and_eq_true, Bool.or_eq_true, decide_eq_true_eq] at hs
    obtain ⟨j, ds, e, q1, q2, r1, r2, r3⟩ := h
    refine ⟨j, ds, e, q1, q2, by omega, by omega, fun x hx => ?_⟩
    rcases hs.2.2 with z | z
    · have : ds = [] := List.eq_nil_of_length_eq_zero (by omega)
      rw [this] at hx; cases hx
    · exact sub_ok hX FT z (r3 x hx)
  · rename_i n1
    by_cases ho : isOwn u = true
    · cases u <;> first
        | (cases ho; done)
        | skip
      -- own is below nothing else
      exfalso
      unfold FT at hs
      unfold Ev.sub at hs
      split at hs <;> first
        | (rename_i q _; cases q; done)
        | (rename_i q; cases q; done)
        | (cases hs; done)
        | (rename_i n2 _ _; exact n2 _ _ _ rfl)
        | (rename_i n2 _; exact n2 _ _ _ rfl)
        | (rename_i n2; exact n2 _ _ _ rfl)
        | simp_all
    · have ho : isOwn u = false := by simpa using ho
      exact Val.of (sub_ok hX FT hs (h.has ho))
/-- pointwise below -/
def subEn (p : Prm) : En → En → Bool
  | [], [] => true
  | _ :: a, none :: b => subEn p a b
  | some t :: a, some u :: b => subT p t u && subEn p a b
  | _, _ => false
def joinEn (p : Prm) (a b : En) : Option En := if a.length = b.length then
    let g := List.zipWith (fun x y => match x, y with
      | some t, some u => join p t u
      | _, _ => none) a b
    if subEn p a g = true ∧ subEn p b g = true then some g else none
  else none
theorem subEn_len : ∀ {a b : En}, subEn p a b = true → a.length = b.length
  | [], [], _ => rfl
  | [], _ :: _, h => by cases h
  | x :: a, none :: b, h => by
    have h : subEn p a b = true := by cases x <;> exact h
    rw [List.length_cons, List.length_cons, subEn_len h]
  | none :: a, some _ :: b, h => by cases h
  | some t :: a, some u :: b, h => by
    have h : (subT p t u && subEn p a b) = true := h
    rw [Bool.and_eq_true] at h
    rw [List.length_cons, List.length_cons, subEn_len h.2]
  | x :: _, [], h => by cases x <;> cases h
theorem subEn_at : ∀ {a b : En} {i : Nat} {u : Ty2}, subEn p a b = true → b[i]? = some (some u) → ∃ t, a[i]? = some (some t) ∧ subT p t u = true
  | [], [], _, _, _, e => by cases e
  | [], _ :: _, _, _, h, _ => by cases h
  | x :: a, none :: b, i, u, h, e => by
    have h : subEn p a b = true := by cases x <;> exact h
    cases i with
    | zero => cases e
    | succ i =>
      obtain ⟨t, h1, h2⟩ := subEn_at h (by simpa using e)
      exact ⟨t, by simpa using h1, h2⟩
  | none :: a, some _ :: b, _, _, h, _ => by cases h
  | some t :: a, some u :: b, i, v, h, e => by
    have h : (subT p t u && subEn p a b) = true := h
    rw [Bool.and_eq_true] at h
    cases i with
    | zero =>
      cases e
      exact ⟨t, rfl, h.1⟩
    | succ i =>
      obtain ⟨t, h1, h2⟩ := subEn_at h.2 (by simpa using e)
      exact ⟨t, by simpa using h1, h2⟩
  | x :: _, [], _, _, h, _ => by cases x <;> cases h
/-- nothing but an own list is below one -/
theorem sub_own (n : Nat) {t' : Ty2} {a b : Nat} (h : sub p n u (.own t' a b) = true) : u = .bot ∨ ∃ k, u = .nm k := by
  cases n with
  | zero => cases h
  | succ n =>
    unfold Ev.sub at h
    split at h <;> first
      | exact .inl rfl
      | (rename_i q; cases q; done)
      | (rename_i q _; cases q; done)
      | exact .inr ⟨_, rfl⟩
      | (cases h; done)
      | skip
theorem sub_ownF : ∀ (n : Nat) {u t' : Ty2} {a b : Nat} {d : D} (hX : PrOk p), sub p n u (.own t' a b) = true → HasTy p W u d → False := fun n {u t' a b d} hX h ht => by
  have := sub_ok hX n h ht
  simp only [HasTy] at this
include hX in
theorem EnvOk.sub (h : EnvOk p W S G env) (hs : subEn p G G1 = true) : EnvOk p W S G1 env ∧ ∀ j, Own G1 env j → Own G env j := by
  have key : ∀ (i : Nat) (u : Ty2), G1[i]? = some (some u) → isOwn u = true → ∃ t, G[i]? = some (some t) ∧ isOwn t = true := fun i u e ho => by
    obtain ⟨t, h1, h2⟩ := subEn_at hs e
    refine ⟨t, h1, ?_⟩
    obtain ⟨d, _, k2⟩ := h.at_ i t h1
    have k3 := Val.sub hX k2 h2
    by_cases hot : isOwn t = true
    · exact hot
    · exfalso
      have hot : isOwn t = false := by simpa using hot
      have k4 := k2.has hot
      cases u <;> first
        | (cases ho; done)
        | skip
      unfold subT at h2
      split at h2
      · cases hot
      · exact sub_ownF FT hX h2 k4
  refine ⟨⟨by rw [h.len]; exact subEn_len hs, fun i u e => ?_, fun i k t u d e1 o1 e2 o2 e3 e4 => ?_⟩, fun j ⟨i, u, e1, o1, e2⟩ => ?_⟩
  · obtain ⟨t, h1, h2⟩ := subEn_at hs e
    obtain ⟨d, k1, k2⟩ := h.at_ i t h1
    exact ⟨d, k1, Val.sub hX k2 h2⟩
  · obtain ⟨t', f1, f2⟩ := key i t e1 o1
    obtain ⟨u', g1, g2⟩ := key k u e2 o2
    exact h.uniq i k t' u' d f1 f2 g1 g2 e3 e4
  · obtain ⟨t', f1, f2⟩ := key i u e1 o1
    exact ⟨i, t', f1, f2, e2⟩
theorem joinEn_ok (h : joinEn p G G1 = some G2) : subEn p G G2 = true ∧ subEn p G1 G2 = true := by
  unfold joinEn at h
  split at h
  · dsimp only at h
    split at h
    · cases h; assumption
    · cases h
  · cases h
end
end Ev
namespace Ev
open PySem PySem.Spec PyProof.Rows
/-! ### what an expression answers -/
structure Rx where
  ty : Ty2
  pv : Option Nat
  G : En
  c : Nat
  tG : Option En
  fG : Option En
def mkR (t : Ty2) (pv : Option Nat) (G : En) (c : Nat) : Rx := ⟨t, pv, G, c, if t matches .bc false then none else some G, if t matches .bc true then none else some G⟩
def PvOk (n : Nat) (G : En) (env : Fr) (t : Ty2) (pv : Option Nat) (d : D) : Prop := isOwn t = true → match pv with
  | some i => G[i]? = some (some t) ∧ env[i]? = some (some d)
  | none => ∃ j : Nat, d = .ref j ∧ n ≤ j
def OkX (p : Prm) (res : Res D) (W : Wl) (S : Store) (t : Nat) (G : En) (env : Fr) (r : Rx) : Prop :=
  ∃ d S' W' t', res = .ok d S' ∧ Go p W S t (Own G env) W' S' t' r.c ∧ EnvOk p W' S' r.G env ∧ (∀ j, Own r.G env j → Own G env j) ∧ Val p W' S' r.ty d ∧ PvOk S.length r.G env r.ty r.pv d ∧
    ∀ b, d = .bl b → ∃ G', (if b = true then r.tG else r.fG) = some G' ∧ EnvOk p W' S' G' env ∧ ∀ j, Own G' env j → Own G env j
def frz (r : Rx) : Ty2 × En := match r.ty with
  | .own t a b => (.lst t a b, match r.pv with
    | some i => r.G.set i (some (.lst t a b))
    | none => r.G)
  | t => (t, r.G)
def OkF (p : Prm) (res : Res D) (W : Wl) (S : Store) (t : Nat) (G : En) (env : Fr) (u : Ty2) (G' : En) (c : Nat) : Prop :=
  ∃ d S' W' t', res = .ok d S' ∧ Go p W S t (Own G env) W' S' t' c ∧ EnvOk p W' S' G' env ∧ (∀ j, Own G' env j → Own G env j) ∧ HasTy p W' u d
section
variable {p : Prm} {W W1 W2 : Wl} {S S1 S2 : Store} {t t1 t2 c c1 c2 : Nat} {O O1 O2 : Nat → Prop} {G G1 G2 : En} {env : Fr} {u v : Ty2} {d : D} {res : Res D} {r : Rx}
theorem EnvOk.own_lt (h : EnvOk p W S G env) (w : WF p t W S) {j : Nat} (o : Own G env j) : j < S.length := Go.lt w (h.ow o)
/-- one own cell is closed -/
theorem freeze {j : Nat} {ds : List D} (w : WF p t W S) (h1 : W[j]? = some .ow) (h2 : S[j]? = some (.lst ds)) : Go p W S t (fun k => k = j) (W.set j (.fz ds)) S t 0 := by
  have hl : j < W.length := (List.getElem?_eq_some_iff.mp h1).1
  have ne : ∀ {i : Nat}, i ≠ j → (W.set j (.fz ds))[i]? = W[i]? := fun h => List.getElem?_set_ne (fun e => h e.symm)
  have eq : (W.set j (.fz ds))[j]? = some (.fz ds) := by rw [List.getElem?_set_self hl]
  refine ⟨fun i k e hk => ?_, ⟨by rw [List.length_set]; exact w.len, fun i es e => ?_, fun i es e => ?_, fun i e => ?_, fun i e => ?_⟩, Nat.le_refl _, Nat.le_refl _, fun i e => ⟨rfl, ?_⟩, Nat.le_refl _⟩
  · by_cases hi : i = j
    · subst hi
      rw [h1] at e
      cases e
      exact absurd rfl hk
    · rw [ne hi]; exact e
  · by_cases hi : i = j
    · subst hi
      rw [eq] at e
      cases e
      exact h2
    · rw [ne hi] at e
      exact w.fz i es e
  · by_cases hi : i = j
    · subst hi
      rw [eq] at e
      cases e
    · rw [ne hi] at e
      exact w.sc i es e
  · by_cases hi : i = j
    · subst hi
      rw [eq] at e
      cases e
    · rw [ne hi] at e
      exact w.dk i e
  · by_cases hi : i = j
    · subst hi
      exact ⟨ds, h2⟩
    · rw [ne hi] at e
      exact w.ow i e
  · by_cases hi : i = j
    · subst hi
      exact .inr ⟨rfl, ds, eq⟩
    · rw [ne hi]
      exact .inl e
theorem Val.go2 (h : Val p W S u d) (a : Go p W S t O W1 S1 t1 c) (hn : isOwn u = true → ∀ j, d = .ref j → ¬ O j) : Val p W1 S1 u d := by
  by_cases ho : isOwn u = true
  · cases u <;> first
      | (cases ho; done)
      | skip
    obtain ⟨j, ds, e, q1, q2, r1, r2, r3⟩ := h
    obtain ⟨z1, z2⟩ := a.fr j q1
    rcases z2 with z2 | ⟨z2, _⟩
    · exact ⟨j, ds, e, z2, by rw [z1]; exact q2, r1, r2, fun x hx => (r3 x hx).mono a.ext⟩
    · exact (hn rfl j e z2).elim
  · have ho : isOwn u = false := by simpa using ho
    exact Val.of ((h.has ho).mono a.ext)
theorem OkX.frz (w : WF p t W S) (en0 : EnvOk p W S G env) (h : OkX p res W S t G env r) : OkF p res W S t G env (Ev.frz r).1 (Ev.frz r).2 r.c := by
  obtain ⟨d, S1, W1, t1, e, go, en, ow, va, pv, _⟩ := h
  unfold Ev.frz
  split
  · rename_i u a b q
    rw [q] at va pv
    obtain ⟨j, ds, rfl, q1, q2, l1, l2, l3⟩ := va
    have pv := pv rfl
    have gf := freeze go.wf q1 q2
    have hl : j < W1.length := (List.getElem?_eq_some_iff.mp q1).1
    have hj : (W1.set j (.fz ds))[j]? = some (.fz ds) := by rw [List.getElem?_set_self hl]
    have oj : j < S.length → Own G env j := fun hlt => by
      cases qp : r.pv with
      | none =>
        rw [qp] at pv
        obtain ⟨j', e', hge⟩ := pv
        cases e'
        omega
      | some i =>
        rw [qp] at pv
        exact ow j ⟨i, _, pv.1, rfl, pv.2⟩
    have go2 : Go p W S t (Own G env) (W1.set j (.fz ds)) S1 t1 (r.c + 0) := go.trans gf (fun k hk hlt => by subst hk; exact oj hlt) w
    have hty : HasTy p (W1.set j (.fz ds)) (.lst u a b) (.ref j) := by
      simp only [HasTy]
      exact ⟨j, ds, rfl, hj, l1, l2, fun x hx => (l3 x hx).mono gf.ext⟩
    refine ⟨_, S1, _, t1, e, go2, ?_, ?_, hty⟩
    · cases qp : r.pv with
      | none =>
        rw [qp] at pv
        obtain ⟨j', e', hge⟩ := pv
        cases e'
        dsimp only
        refine ⟨en.len, fun i t ei => ?_, en.uniq⟩
        obtain ⟨x, h1, h2⟩ := en.at_ i t ei
        refine ⟨x, h1, h2.go2 gf fun ho k hk hkj => ?_⟩
        subst hk
        subst hkj
        have := en0.own_lt w (ow k ⟨i, t, ei, ho, h1⟩)
        omega
      | some i =>
        rw [qp] at pv
        dsimp only
        refine ⟨by rw [List.length_set]; exact en.len, fun k t ek => ?_, fun k l t u' x e1 o1 e2 o2 e3 e4 => ?_⟩
        · by_cases hk : k = i
          · subst hk
            have hlt : k < r.G.length := (List.getElem?_eq_some_iff.mp pv.1).1
            rw [List.getElem?_set_self hlt] at ek
            cases ek
            exact ⟨_, pv.2, Val.of hty⟩
          · rw [List.getElem?_set_ne (fun z => hk z.symm)] at ek
            obtain ⟨x, h1, h2⟩ := en.at_ k t ek
            refine ⟨x, h1, h2.go2 gf fun ho m hm hmj => ?_⟩
            subst hm
            subst hmj
            exact hk (en.uniq k i t _ _ ek ho pv.1 rfl h1 pv.2)
        · have hk : k ≠ i := fun z => by
            subst z
            have hlt : k < r.G.length := (List.getElem?_eq_some_iff.mp pv.1).1
            rw [List.getElem?_set_self hlt] at e1
            cases e1
            cases o1
          have hl : l ≠ i := fun z => by
            subst z
            have hlt : l < r.G.length := (List.getElem?_eq_some_iff.mp pv.1).1
            rw [List.getElem?_set_self hlt] at e2
            cases e2
            cases o2
          rw [List.getElem?_set_ne (fun z => hk z.symm)] at e1
          rw [List.getElem?_set_ne (fun z => hl z.symm)] at e2
          exact en.uniq k l t u' x e1 o1 e2 o2 e3 e4
    · cases qp : r.pv with
      | none => exact ow
      | some i =>
        dsimp only
        rw [qp] at pv
        intro k ⟨l, t, e1, o1, e2⟩
        have hl : l ≠ i := fun z => by
          subst z
          have hlt : l < r.G.length := (List.getElem?_eq_some_iff.mp pv.1).1
          rw [List.getElem?_set_self hlt] at e1
          cases e1
          cases o1
        rw [List.getElem?_set_ne (fun z => hl z.symm)] at e1
        exact ow k ⟨l, t, e1, o1, e2⟩
  · rename_i n1
    have ho : isOwn r.ty = false := by
      cases q : r.ty <;> first
        | rfl
        | exact (n1 _ _ _ q).elim
    exact ⟨d, S1, W1, t1, e, go, en, ow, va.has ho⟩
/-- a value that is looked at later -/
def Lv (p : Prm) (W : Wl) (S : Store) (u : Ty2) (d : D) : Prop := match u with
  | .own t lo hi => ∃ j ds, d = .ref j ∧ (W[j]? = some .ow ∨ W[j]? = some (.fz ds)) ∧ S[j]? = some (.lst ds) ∧ lo ≤ ds.length ∧ ds.length ≤ hi ∧ ∀ x ∈ ds, HasTy p W t x
  | t => HasTy p W t d
theorem Val.lv (h : Val p W S u d) : Lv p W S u d := by
  cases u <;> try exact h
  obtain ⟨j, ds, e, q1, r⟩ := h
  exact ⟨j, ds, e, .inl q1, r⟩
theorem Lv.pv (h : Lv p W S u d) (w : WF p t W S) : PV p W S u d := by
  cases u <;> try exact PV.of w h
  obtain ⟨j, ds, e, q1, r⟩ := h
  exact ⟨j, ds, e, r⟩
theorem Lv.go (h : Lv p W S u d) (w : WF p t W S) (a : Go p W S t O W1 S1 t1 c) : Lv p W1 S1 u d := by
  cases u <;> try exact HasTy.mono a.ext h
  obtain ⟨j, ds, e, q1, q2, r1, r2, r3⟩ := h
  have hs : S1[j]? = some (.lst ds) := by
    rcases q1 with q1 | q1
    · rw [(a.fr j q1).1]; exact q2
    · exact a.wf.fz j ds (a.ext j _ q1 fun z => nomatch z)
  refine ⟨j, ds, e, ?_, hs, r1, r2, fun x hx => (r3 x hx).mono a.ext⟩
  rcases q1 with q1 | q1
  · rcases (a.fr j q1).2 with z | ⟨_, ds', z⟩
    · exact .inl z
    · have := a.wf.fz j ds' z
      rw [hs] at this
      cases this
      exact .inr z
  · exact .inr (a.ext j _ q1 fun z => nomatch z)
/-- a new list -/
theorem go_alloc {ds : List D} (w : WF p t W S) : Go p W S t (fun _ => False) (W ++ [.ow]) (S ++ [.lst ds]) t 0 := by
  have old : ∀ {i : Nat}, i < S.length → (W ++ [.ow])[i]? = W[i]? ∧ (S ++ [.lst ds])[i]? = S[i]? := fun {i} h => ⟨by rw [List.getElem?_append_left (by rw [w.len]; exact h)], by rw [List.getElem?_append_left h]⟩
  have lt : ∀ {i : Nat} {k : Kd}, W[i]? = some k → i < S.length := fun h => by
    rw [← w.len]
    exact (List.getElem?_eq_some_iff.mp h).1
  have new : ∀ {i : Nat} {k : Kd}, (W ++ [.ow])[i]? = some k → (W[i]? = some k ∧ i < S.length) ∨ (i = S.length ∧ k = .ow) := fun {i k} h => by
    by_cases hi : i < S.length
    · rw [(old hi).1] at h
      exact .inl ⟨h, hi⟩
    · rw [List.getElem?_append_right (by rw [w.len]; omega)] at h
      have hl := (List.getElem?_eq_some_iff.mp h).1
      rw [List.length_singleton, w.len] at hl
      have : i = S.length := by omega
      subst this
      rw [w.len, Nat.sub_self] at h
      cases h
      exact .inr ⟨rfl, rfl⟩
  refine ⟨fun i k e hk => by rw [(old (lt e)).1]; exact e, ⟨by simp [w.len], fun i es e => ?_, fun i es e => ?_, fun i e => ?_, fun i e => ?_⟩, Nat.le_refl _, Nat.le_refl _, fun i e => ⟨(old (lt e)).2, .inl (by rw [(old (lt e)).1]; exact e)⟩, by simp⟩
  · rcases new e with ⟨h1, h2⟩ | ⟨_, h2⟩
    · rw [(old h2).2]; exact w.fz i es h1
    · cases h2
  · rcases new e with ⟨h1, h2⟩ | ⟨_, h2⟩
    · rw [(old h2).2]; exact w.sc i es h1
    · cases h2
  · rcases new e with ⟨h1, h2⟩ | ⟨_, h2⟩
    · rw [(old h2).2]; exact w.dk i h1
    · cases h2
  · rcases new e with ⟨h1, h2⟩ | ⟨h1, _⟩
    · rw [(old h2).2]; exact w.ow i h1
    · subst h1
      exact ⟨ds, by simp⟩
theorem OkX.val (w : WF p t W S) (go : Go p W S t (Own G env) W1 S1 t1 c) (en : EnvOk p W1 S1 G1 env) (ow : ∀ j, Own G1 env j → Own G env j) (h : HasTy p W1 u d) (e : res = .ok d S1) : OkX p res W S t G env (mkR u none G1 c) := by
  refine ⟨d, S1, W1, t1, e, go, en, ow, Val.of h, fun ho => ?_, fun b hb => ?_⟩
  · unfold mkR at ho
    cases u <;> first
      | (cases ho; done)
      | (simp only [HasTy] at h; done)
  · subst hb
    cases b with
    | true =>
      refine ⟨G1, ?_, en, ow⟩
      unfold mkR
      rw [if_pos rfl]
      dsimp only
      split
      · simp only [HasTy] at h
        cases h
      · rfl
    | false =>
      refine ⟨G1, ?_, en, ow⟩
      unfold mkR
      rw [if_neg Bool.false_ne_true]
      dsimp only
      split
      · simp only [HasTy] at h
        cases h
      · rfl
theorem OkX.tr (w : WF p t W S) (go : Go p W S t (Own G env) W1 S1 t1 c) (en : EnvOk p W1 S1 G1 env) (ow : ∀ j, Own G1 env j → Own G env j) (h : TR p W1 S1 res u) : OkX p res W S t G env (mkR u none G1 c) := by
  obtain ⟨d, S2, e, h⟩ := h
  rcases h with ⟨rfl, h⟩ | ⟨v, lo, hi, ds, rfl, rfl, rfl, l1, l2, l3⟩
  · exact OkX.val w go en ow h e
  · have ga := go_alloc (ds := ds) go.wf
    refine ⟨_, _, _, t1, e, go.trans ga (fun _ z => z.elim) w, en.go ga, ow, ?_, fun _ => ⟨_, rfl, go.grow⟩, fun b hb => nomatch hb⟩
    refine ⟨_, ds, rfl, ?_, by simp, l1, l2, fun x hx => (l3 x hx).mono ga.ext⟩
    rw [← go.wf.len]
    simp
/-- the first of two -/
theorem OkX.bind {m : M D} {f : D → M D} {r2 : Rx} (w : WF p t W S) (h : OkX p (m S) W S t G env r)
    (k : ∀ d S1 W1 t1, Go p W S t (Own G env) W1 S1 t1 r.c → EnvOk p W1 S1 r.G env → (∀ j, Own r.G env j → Own G env j) → Val p W1 S1 r.ty d → PvOk S.length r.G env r.ty r.pv d →
      (∀ b, d = .bl b → ∃ G', (if b = true then r.tG else r.fG) = some G' ∧ EnvOk p W1 S1 G' env ∧ ∀ j, Own G' env j → Own G env j) → OkX p (f d S1) W S t G env r2) : OkX p ((m >>= f) S) W S t G env r2 := by
  obtain ⟨d, S1, W1, t1, e, a1, a2, a3, a4, a5, a6⟩ := h
  have : (m >>= f) S = f d S1 := by
    show M.bnd m f S = _
    unfold M.bnd
    rw [e]
  rw [this]
  exact k d S1 W1 t1 a1 a2 a3 a4 a5 a6
/-- what follows, seen from the start -/
theorem OkX.from (w : WF p t W S) (go : Go p W S t (Own G env) W1 S1 t1 c) (ow : ∀ j, Own G1 env j → Own G env j) (h : OkX p res W1 S1 t1 G1 env r) : OkX p res W S t G env { r with c := c + r.c } := by
  obtain ⟨d, S2, W2, t2, e, a1, a2, a3, a4, a5, a6⟩ := h
  refine ⟨d, S2, W2, t2, e, go.trans a1 (fun j z _ => ow j z) w, a2, fun j z => ow j (a3 j z), a4, fun ho => ?_, fun b hb => ?_⟩
  · have q := a5 ho
    dsimp only at q ⊢
    cases qp : r.pv with
    | none =>
      rw [qp] at q
      obtain ⟨j, e1, e2⟩ := q
      exact ⟨j, e1, Nat.le_trans go.grow e2⟩
    | some i =>
      rw [qp] at q
      exact q
  · obtain ⟨G', q1, q2, q3⟩ := a6 b hb
    exact ⟨G', q1, q2, fun j z => ow j (q3 j z)⟩
end
end Ev
namespace Ev
open PySem PySem.Spec PyProof.Rows
/-! ### the interpreter of expressions -/
abbrev Sg := Nat → List Ty2 → Option (Ty2 × Nat)
def TM : Nat := 2 ^ 60
mutual
def litT : D → Option Ty2
  | .int i => some (.int i i)
  | .bl b => some (.bc b)
  | .non => some .non
  | .str x => if PyData.strOk x = true then some (.str x.length x.length) else none
  | .tup ds => (litTs ds).map .tup
  | _ => none
def litTs : List D → Option (List Ty2)
  | [] => some []
  | d :: ds => match litT d, litTs ds with
    | some t, some ts => some (t :: ts)
    | _, _ => none
end
def isBl : Ty2 → Bool
  | .bl => true
  | .bc _ => true
  | _ => false
def joinO (p : Prm) : Option En → Option En → Option (Option En)
  | none, x => some x
  | some a, none => some (some a)
  | some a, some b => (joinEn p a b).map some
/-- a truth, by what is known if it holds and if not -/
def mkC (p : Prm) (a b : Option En) (c : Nat) : Option Rx := match joinO p a b with
  | some (some g) => some ⟨match a, b with
    | some _, none => .bc true
    | none, some _ => .bc false
    | _, _ => .bl, none, g, c, a, b⟩
  | _ => none
def andX (p : Prm) (r1 : Rx) (k : En → Option Rx) : Option Rx := if isBl r1.ty = true then (match r1.tG with
  | none => mkC p none r1.fG r1.c
  | some g1 => match k g1 with
    | some r2 => if isBl r2.ty = true then (match joinO p r1.fG r2.fG with
      | some f => mkC p r2.tG f (r1.c + r2.c)
      | none => none) else none
    | none => none) else none
def orX (p : Prm) (r1 : Rx) (k : En → Option Rx) : Option Rx := if isBl r1.ty = true then (match r1.fG with
  | none => mkC p r1.tG none r1.c
  | some g1 => match k g1 with
    | some r2 => if isBl r2.ty = true then (match joinO p r1.tG r2.tG with
      | some f => mkC p f r2.fG (r1.c + r2.c)
      | none => none) else none
    | none => none) else none
def notX (p : Prm) (r1 : Rx) : Option Rx := if isBl r1.ty = true then mkC p r1.fG r1.tG r1.c else none
def frR (r : Rx) (c : Nat) : Rx := mkR (frz r).1 none (frz r).2 (c + r.c)
def ifeX (p : Prm) (r1 : Rx) (ka kb : En → Option Rx) : Option Rx := if isBl r1.ty = true then (match r1.tG, r1.fG with
  | some g, none => (ka g).map fun r => frR r r1.c
  | none, some g => (kb g).map fun r => frR r r1.c
  | some g1, some g2 => match ka g1, kb g2 with
    | some ra, some rb => match join p (frz ra).1 (frz rb).1, joinEn p (frz ra).2 (frz rb).2 with
      | some t, some g => some (mkR t none g (r1.c + max ra.c rb.c))
      | _, _ => none
    | _, _ => none
  | none, none => none) else none
/-- what is walked: the items' type, how many -/
def itsT (p : Prm) (k : IK) (ts : List Ty2) : Option (Ty2 × Nat × Nat) := match k, ts with
  | .seq, [t] => itT p t
  | .rng1, [t] => match asInt p t with
    | some (a, b) => if -(2 ^ 62) ≤ a ∧ b < 2 ^ 62 then some (.int 0 (b - 1), a.toNat, b.toNat) else none
    | none => none
  | .rng2, [t, u] => match asInt p t, asInt p u with
    | some (a, b), some (c, d) => if -(2 ^ 62) ≤ a ∧ b < 2 ^ 62 ∧ -(2 ^ 62) ≤ c ∧ d < 2 ^ 62 then some (.int a (d - 1), (c - b).toNat, (d - a).toNat) else none
    | _, _ => none
  | .enum, [t] => match asLr t with
    | some (t, a, b) => some (.tup [.int 0 (b - 1), t], a, b)
    | none => none
  | .zip, [t, u] => match asLr t, asLr u with
    | some (t, a, b), some (u, c, d) => some (.tup [t, u], min a c, min b d)
    | none, none => match asSeq p t, asSeq p u with
      | some (t, a, b), some (u, c, d) => some (.tup [t, u], min a c, min b d)
      | _, _ => none
    | _, _ => none
  | _, _ => none
mutual
def putT (p : Prm) : T → Ty2 → En → Option En
  | .nm i, t, G => if i < G.length then some (G.set i (some t)) else none
  | .tup ts, t, G => match expT p t with
    | .tup us => putTs p ts us G
    | .seq u a b => if a = b ∧ a = ts.length then putTs p ts (List.replicate a u) G else none
    | _ => none
def putTs (p : Prm) : List T → List Ty2 → En → Option En
  | [], [], G => some G
  | t :: ts, u :: us, G => match putT p t u G with
    | some G => putTs p ts us G
    | none => none
  | _, _, _ => none
end
def dropOwn (G : En) : En := G.map fun x => match x with
  | some t => if isOwn t = true then none else some t
  | none => none
def wipeEn : En → List Nat → En
  | G, [] => G
  | G, i :: is => (wipeEn G is).set i none
/-- x o k for a variable: what is then known of it -/
def refT (o : Cop) (x y k : Int) : Option Ty2 := match o with
  | .eq => if x ≤ k ∧ k ≤ y then some (.int k k) else none
  | .ne => if x = k ∧ y = k then none else if x = k then some (.int (k + 1) y) else if y = k then some (.int x (k - 1)) else some (.int x y)
  | .lt => if x < k then some (.int x (min y (k - 1))) else none
  | .le => if x ≤ k then some (.int x (min y k)) else none
  | .gt => if k < y then some (.int (max x (k + 1)) y) else none
  | .ge => if k ≤ y then some (.int (max x k) y) else none
  | _ => some (.int x y)
def negC : Cop → Cop
  | .eq => .ne | .ne => .eq | .lt => .ge | .le => .gt | .gt => .le | .ge => .lt | o => o
def isOrd : Cop → Bool
  | .eq => true | .ne => true | .lt => true | .le => true | .gt => true | .ge => true | _ => false
def refX (o : Cop) (a b : E) (r : Rx) : Rx := match a, b with
  | .var i, .int k => match r.G[i]? with
    | some (some (.int x y)) => if isOrd o = true then { r with tG := (refT o x y k).map fun t => r.G.set i (some t), fG := (refT (negC o) x y k).map fun t => r.G.set i (some t) } else r
    | _ => r
  | _, _ => r
/-- a comprehension -/
def lcX (p : Prm) (own : List Nat) (tg : T) (k : IK) (args : Option (List Ty2 × En × Nat)) (fI : En → Option (Option En × Nat × Bool)) (fE : En → Option Rx) : Option Rx := match args with
  | some (ts, G1, c) => match itsT p k ts with
    | some (t, a, b) => match putT p tg t (wipeEn (dropOwn G1) own) with
      | some G2 => match fI G2 with
        | some (some G3, c2, all) => match fE G3 with
          | some r => if b ≤ LINE then some (mkR (.own (frz r).1 (if all = true then a else 0) b) none G1 (c + b * (c2 + r.c))) else none
          | none => none
        | some (none, c2, _) => if b ≤ LINE then some (mkR (.own .bot 0 0) none G1 (c + b * c2)) else none
        | none => none
      | none => none
    | none => none
  | none => none
section
variable (p : Prm) (sg : Sg)
mutual
def inE : E → En → Option Rx
  | .var i, G => match G[i]? with
    | some (some t) => some (mkR t (some i) G 0)
    | _ => none
  | .int i, G => some (mkR (.int i i) none G 0)
  | .str x, G => if PyData.strOk x = true then some (mkR (.str x.length x.length) none G 0) else none
  | .bl b, G => some (mkR (.bc b) none G 0)
  | .non, G => some (mkR .non none G 0)
  | .glob d, G => (litT d).map fun t => mkR t none G 0
  | .fnv i, G => some (mkR (.fnc i) none G 0)
  | .bad, _ => none
  | .tup es, G => match inEs es G with
    | some (ts, G1, c) => if ts.length ≤ LINE then some (mkR (.tup ts) none G1 c) else none
    | none => none
  | .lst es, G => match inEs es G with
    | some (ts, G1, c) => let v := pickL p ts
      if ts.length ≤ LINE ∧ ts.all (fun t => sub p FT t v) = true then some (mkR (.own v ts.length ts.length) none G1 c) else none
    | none => none
  | .bin o a b, G => match inE a G with
    | some r1 => match inE b r1.G with
      | some r2 => match binT p o r1.ty r2.ty with
        | some u => some (mkR u none r2.G (r1.c + r2.c))
        | none => none
      | none => none
    | none => none
  | .neg a, G => match inE a G with
    | some r1 => match negT p r1.ty with
      | some u => some (mkR u none r1.G r1.c)
      | none => none
    | none => none
  | .cmp o a b, G => match inE a G with
    | some r1 => match inE b r1.G with
      | some r2 => match tCmp p o r1.ty r2.ty with
        | some u => some (refX o a b (mkR u none r2.G (r1.c + r2.c)))
        | none => none
      | none => none
    | none => none
  | .chain o q a b c, G => match inE a G with
    | some r1 => match inE b r1.G with
      | some r2 => match tCmp p o r1.ty r2.ty, inE c r2.G with
        | some u, some r3 => match tCmp p q r2.ty r3.ty, joinEn p r2.G r3.G with
          | some v, some g => if isBl u = true ∧ isBl v = true then some (mkR .bl none g (r1.c + r2.c + r3.c)) else none
          | _, _ => none
        | _, _ => none
      | none => none
    | none => none
  | .and a b, G => match inE a G with
    | some r1 => andX p r1 fun g => inE b g
    | none => none
  | .or a b, G => match inE a G with
    | some r1 => orX p r1 fun g => inE b g
    | none => none
  | .not a, G => match inE a G with
    | some r1 => notX p r1
    | none => none
  | .ife c a b, G => match inE c G with
    | some r1 => ifeX p r1 (fun g => inE a g) fun g => inE b g
    | none => none
  | .ix a i, G => match inE a G with
    | some r1 => match inE i r1.G with
      | some r2 => match ixT p r1.ty r2.ty with
        | some u => some (mkR u none r2.G (r1.c + r2.c))
        | none => none
      | none => none
    | none => none
  | .slLo a l, G => match inE a G with
    | some r1 => match inE l r1.G with
      | some r2 => match asInt p r2.ty with
        | some q => match slT p r1.ty (some q) none with
          | some u => some (mkR u none r2.G (r1.c + r2.c))
          | none => none
        | none => none
      | none => none
    | none => none
  | .slHi a l, G => match inE a G with
    | some r1 => match inE l r1.G with
      | some r2 => match asInt p r2.ty with
        | some q => match slT p r1.ty none (some q) with
          | some u => some (mkR u none r2.G (r1.c + r2.c))
          | none => none
        | none => none
      | none => none
    | none => none
  | .slLH a l h, G => match inE a G with
    | some r1 => match inE l r1.G with
      | some r2 => match inE h r2.G with
        | some r3 => match asInt p r2.ty, asInt p r3.ty with
          | some q2, some q3 => match slT p r1.ty (some q2) (some q3) with
            | some u => some (mkR u none r3.G (r1.c + r2.c + r3.c))
            | none => none
          | _, _ => none
        | none => none
      | none => none
    | none => none
  | .call f es, G => match inEs es G with
    | some (ts, G1, c) => match sg f ts with
      | some (u, c1) => some (mkR u none G1 (c + c1))
      | none => none
    | none => none
  | .callv i es, G => match G[i]? with
    | some (some (.fnc f)) => match inEs es G with
      | some (ts, G1, c) => match sg f ts with
        | some (u, c1) => some (mkR u none G1 (c + c1))
        | none => none
      | none => none
    | _ => none
  | .blt b es, G => match inPs es G with
    | some (ts, G1, c) => match bltT p b ts with
      | some u => some (mkR u none G1 c)
      | none => none
    | none => none
  | .isi y a, G => match inE a G with
    | some r1 => match isiT p y r1.ty with
      | some u => some (mkR u none r1.G r1.c)
      | none => none
    | none => none
  | .mth _ _ _, _ => none
  | .lc own tg k es ifs elt, G => lcX p own tg k (inPs es G) (fun g => inIf ifs g) fun g => inE elt g
def inEs : List E → En → Option (List Ty2 × En × Nat)
  | [], G => some ([], G, 0)
  | e :: es, G => match inE e G with
    | some r => match inEs es (frz r).2 with
      | some (ts, G1, c) => some ((frz r).1 :: ts, G1, r.c + c)
      | none => none
    | none => none
def inIf : List E → En → Option (Option En × Nat × Bool)
  | [], G => some (some G, 0, true)
  | q :: qs, G => match qs with
    | [] => match inE q G with
      | some r => if isBl r.ty = true then some (r.tG, r.c, false) else none
      | none => none
    | _ :: _ => none
def inPs : List E → En → Option (List Ty2 × En × Nat)
  | [], G => some ([], G, 0)
  | e :: es, G => match inE e G with
    | some r => match inPs es r.G with
      | some (ts, G1, c) => some (r.ty :: ts, G1, r.c + c)
      | none => none
    | none => none
end
end
end Ev
namespace Ev
open PySem PySem.Spec PyProof.Rows
structure SgOk (p : Prm) (C : Nat → List D → M D) (sg : Sg) : Prop where
  ok : ∀ (f : Nat) (ts : List Ty2) (u : Ty2) (c : Nat), sg f ts = some (u, c) → ∀ (ds : List D) (W : Wl) (S : Store) (t : Nat), HasTys p W ts ds → WF p t W S → t + c ≤ TM →
    ∃ d S' W' t', C f ds S = .ok d S' ∧ Go p W S t (fun _ => False) W' S' t' c ∧ Val p W' S' u d ∧ (isOwn u = true → ∃ j : Nat, d = .ref j ∧ S.length ≤ j)
def OkFs (p : Prm) (res : Res (List D)) (W : Wl) (S : Store) (t : Nat) (G : En) (env : Fr) (ts : List Ty2) (G' : En) (c : Nat) : Prop :=
  ∃ ds S' W' t', res = .ok ds S' ∧ Go p W S t (Own G env) W' S' t' c ∧ EnvOk p W' S' G' env ∧ (∀ j, Own G' env j → Own G env j) ∧ HasTys p W' ts ds
inductive Lvs (p : Prm) (W : Wl) (S : Store) : List Ty2 → List D → Prop
  | nil : Lvs p W S [] []
  | cons {t : Ty2} {ts : List Ty2} {d : D} {ds : List D} : Lv p W S t d → Lvs p W S ts ds → Lvs p W S (t :: ts) (d :: ds)
def OkPs (p : Prm) (res : Res (List D)) (W : Wl) (S : Store) (t : Nat) (G : En) (env : Fr) (ts : List Ty2) (G' : En) (c : Nat) : Prop :=
  ∃ ds S' W' t', res = .ok ds S' ∧ Go p W S t (Own G env) W' S' t' c ∧ EnvOk p W' S' G' env ∧ (∀ j, Own G' env j → Own G env j) ∧ Lvs p W' S' ts ds
section
variable {p : Prm} {W W1 W2 : Wl} {S S1 S2 : Store} {t t1 t2 c c1 c2 : Nat} {O O1 O2 : Nat → Prop} {G G1 G2 : En} {env : Fr} {u v : Ty2} {d : D} {res : Res D} {r : Rx}
theorem Lvs.pvs (w : WF p t W S) : ∀ {ts : List Ty2} {ds : List D}, Lvs p W S ts ds → PVs p W S ts ds
  | _, _, .nil => .nil
  | _, _, .cons a b => .cons (a.pv w) (Lvs.pvs w b)
theorem Lvs.go (w : WF p t W S) (a : Go p W S t O W1 S1 t1 c) : ∀ {ts : List Ty2} {ds : List D}, Lvs p W S ts ds → Lvs p W1 S1 ts ds
  | _, _, .nil => .nil
  | _, _, .cons x y => .cons (x.go w a) (Lvs.go w a y)
mutual
theorem litT_ok : ∀ {d : D} {u : Ty2}, litT d = some u → HasTy p W u d
  | .int i, u, h => by simp only [litT] at h; cases h; simp only [HasTy]; exact ⟨i, rfl, Int.le_refl _, Int.le_refl _⟩
  | .bl b, u, h => by simp only [litT] at h; cases h; simp only [HasTy]
  | .non, u, h => by simp only [litT] at h; cases h; simp only [HasTy]
  | .str x, u, h => by
    simp only [litT] at h
    split at h
    · cases h
      simp only [HasTy]
      exact ⟨x, rfl, Nat.le_refl _, Nat.le_refl _, by assumption⟩
    · cases h
  | .tup ds, u, h => by
    simp only [litT, Option.map_eq_some_iff] at h
    obtain ⟨ts, h1, rfl⟩ := h
    simp only [HasTy]
    exact ⟨ds, rfl, litTs_ok h1⟩
  | .ref _, u, h => by simp only [litT] at h; cases h
  | .fn _, u, h => by simp only [litT] at h; cases h
theorem litTs_ok : ∀ {ds : List D} {us : List Ty2}, litTs ds = some us → HasTys p W us ds
  | [], us, h => by simp only [litTs] at h; cases h; simp only [HasTys]
  | d :: ds, us, h => by
    simp only [litTs] at h
    split at h
    · rename_i t ts h1 h2
      cases h
      simp only [HasTys]
      exact ⟨d, ds, rfl, litT_ok h1, litTs_ok h2⟩
    · cases h
end
theorem Val.bl (h : Val p W S u d) (hb : isBl u = true) : ∃ b, d = .bl b := by
  cases u <;> first
    | (cases hb; done)
    | skip
  · have h : HasTy p W _ d := h
    simp only [HasTy] at h
    exact h
  · have h : HasTy p W _ d := h
    simp only [HasTy] at h
    exact ⟨_, h⟩
theorem OkX.lit (w : WF p t W S) (en : EnvOk p W S G env) (h : HasTy p W u d) : OkX p (M.ret d S) W S t G env (mkR u none G 0) := OkX.val w (Go.refl w) en (fun _ h => h) h rfl
variable (hX : PrOk p)
/-- what is known of a frame at a state, seen from the start -/
def Kn (p : Prm) (W : Wl) (S : Store) (G0 G : En) (env : Fr) : Prop := EnvOk p W S G env ∧ ∀ j, Own G env j → Own G0 env j
include hX in
theorem joinO_l {a b : Option En} {g : Option En} (h : joinO p a b = some g) {x : En} (ha : a = some x) (k : Kn p W S G x env) : ∃ y, g = some y ∧ Kn p W S G y env := by
  subst ha
  cases b with
  | none => cases h; exact ⟨x, rfl, k⟩
  | some b =>
    unfold joinO at h
    rw [Option.map_eq_some_iff] at h
    obtain ⟨y, h1, rfl⟩ := h
    obtain ⟨k1, k2⟩ := EnvOk.sub hX k.1 (joinEn_ok h1).1
    exact ⟨y, rfl, k1, fun j z => k.2 j (k2 j z)⟩
include hX in
theorem joinO_r {a b : Option En} {g : Option En} (h : joinO p a b = some g) {x : En} (ha : b = some x) (k : Kn p W S G x env) : ∃ y, g = some y ∧ Kn p W S G y env := by
  subst ha
  cases a with
  | none => cases h; exact ⟨x, rfl, k⟩
  | some a =>
    unfold joinO at h
    rw [Option.map_eq_some_iff] at h
    obtain ⟨y, h1, rfl⟩ := h
    obtain ⟨k1, k2⟩ := EnvOk.sub hX k.1 (joinEn_ok h1).2
    exact ⟨y, rfl, k1, fun j z => k.2 j (k2 j z)⟩
include hX in
/-- a truth that came out -/
theorem mkC_ok {a b : Option En} (h : mkC p a b c = some r) {k : Bool} (go : Go p W S t (Own G env) W1 S1 t1 c) (kn : ∃ x, (if k = true then a else b) = some x ∧ Kn p W1 S1 G x env) (e : res = .ok (.bl k) S1) : OkX p res W S t G env r := by
  unfold mkC at h
  split at h
  · rename_i g q
    cases h
    obtain ⟨x, e1, k1⟩ := kn
    have k2 : Kn p W1 S1 G g env := by
      cases k with
      | true =>
        rw [if_pos rfl] at e1
        obtain ⟨y, e2, k2⟩ := joinO_l hX q e1 k1
        cases e2
        exact k2
      | false =>
        rw [if_neg Bool.false_ne_true] at e1
        obtain ⟨y, e2, k2⟩ := joinO_r hX q e1 k1
        cases e2
        exact k2
    refine ⟨_, S1, W1, t1, e, go, k2.1, k2.2, ?_, fun ho => ?_, fun b' hb => ?_⟩
    · dsimp only
      split
      · cases k with
        | true => exact Val.of (by simp only [HasTy])
        | false => rw [if_neg Bool.false_ne_true] at e1; cases e1
      · cases k with
        | false => exact Val.of (by simp only [HasTy])
        | true => rw [if_pos rfl] at e1; cases e1
      · exact Val.of (by simp only [HasTy]; exact ⟨k, rfl⟩)
    · dsimp only at ho
      split at ho <;> cases ho
    · cases hb
      exact ⟨x, e1, k1.1, k1.2⟩
  · cases h
/-- what an OkX says of a truth -/
theorem OkX.truth (h : OkX p res W S t G env r) (hb : isBl r.ty = true) : ∃ k S1 W1 t1, res = .ok (.bl k) S1 ∧ Go p W S t (Own G env) W1 S1 t1 r.c ∧ ∃ x, (if k = true then r.tG else r.fG) = some x ∧ Kn p W1 S1 G x env := by
  obtain ⟨d, S1, W1, t1, e, go, en, ow, va, pv, tr⟩ := h
  obtain ⟨k, rfl⟩ := va.bl hb
  obtain ⟨x, e1, e2, e3⟩ := tr k rfl
  exact ⟨k, S1, W1, t1, e, go, x, e1, e2, e3⟩
theorem bnd_of {m : M D} {β : Type} {f : D → M β} (e : m S = .ok d S1) : (m >>= f) S = f d S1 := by
  show M.bnd m f S = _
  unfold M.bnd
  rw [e]
include hX in
theorem andX_ok {ma mb : M D} {r1 : Rx} {k : En → Option Rx} (w : WF p t W S) (h1 : OkX p (ma S) W S t G env r1) (h : andX p r1 k = some r) (hc : t + r.c ≤ TM)
    (hk : ∀ g r2 W1 S1 t1, k g = some r2 → WF p t1 W1 S1 → EnvOk p W1 S1 g env → t1 + r2.c ≤ TM → OkX p (mb S1) W1 S1 t1 g env r2) : OkX p ((do
      let x ← ma
      tru x mb (M.ret (D.bl false))) S) W S t G env r := by
  unfold andX at h
  split at h
  case isFalse => cases h
  case isTrue hb =>
  obtain ⟨b, S1, W1, t1, e, go, x, e1, kn⟩ := h1.truth hb
  rw [bnd_of e]
  split at h
  · rename_i q
    cases b with
    | true => rw [if_pos rfl, q] at e1; cases e1
    | false =>
      have hcc : r.c = r1.c := by
        unfold mkC at h
        split at h
        · cases h; rfl
        · cases h
      rw [if_neg Bool.false_ne_true] at e1
      exact mkC_ok hX h go (k := false) ⟨x, by rw [if_neg Bool.false_ne_true]; exact e1, kn⟩ rfl
  · rename_i g1 q
    split at h
    · rename_i r2 q2
      split at h
      case isFalse => cases h
      case isTrue hb2 =>
      split at h
      · rename_i f q3
        have hcc : r.c = r1.c + r2.c := by
          unfold mkC at h
          split at h
          · cases h; rfl
          · cases h
        cases b with
        | true =>
          rw [if_pos rfl, q] at e1
          cases e1
          have h2 := hk _ r2 W1 S1 t1 q2 go.wf kn.1 (by have := go.t2; omega)
          obtain ⟨b2, S2, W2, t2, e2, go2, x2, e3, kn2⟩ := h2.truth hb2
          have go3 := go.trans go2 (fun j z _ => kn.2 j z) w
          have kn3 : Kn p W2 S2 G x2 env := ⟨kn2.1, fun j z => kn.2 j (kn2.2 j z)⟩
          refine mkC_ok hX h go3 (k := b2) ?_ e2
          cases b2 with
          | true => exact ⟨x2, e3, kn3⟩
          | false =>
            rw [if_neg Bool.false_ne_true] at e3
            obtain ⟨y, e4, k4⟩ := joinO_r hX q3 e3 kn3
            exact ⟨y, e4, k4⟩
        | false =>
          rw [if_neg Bool.false_ne_true] at e1
          obtain ⟨y, e4, k4⟩ := joinO_l hX q3 e1 kn
          exact mkC_ok hX h (go.weak (by omega) fun _ z => z) (k := false) ⟨y, e4, k4⟩ rfl
      · cases h
    · cases h
include hX in
theorem orX_ok {ma mb : M D} {r1 : Rx} {k : En → Option Rx} (w : WF p t W S) (h1 : OkX p (ma S) W S t G env r1) (h : orX p r1 k = some r) (hc : t + r.c ≤ TM)
    (hk : ∀ g r2 W1 S1 t1, k g = some r2 → WF p t1 W1 S1 → EnvOk p W1 S1 g env → t1 + r2.c ≤ TM → OkX p (mb S1) W1 S1 t1 g env r2) : OkX p ((do
      let x ← ma
      tru x (M.ret (D.bl true)) mb) S) W S t G env r := by
  unfold orX at h
  split at h
  case isFalse => cases h
  case isTrue hb =>
  obtain ⟨b, S1, W1, t1, e, go, x, e1, kn⟩ := h1.truth hb
  rw [bnd_of e]
  split at h
  · rename_i q
    cases b with
    | false => rw [if_neg Bool.false_ne_true, q] at e1; cases e1
    | true =>
      have hcc : r.c = r1.c := by
        unfold mkC at h
        split at h
        · cases h; rfl
        · cases h
      rw [if_pos rfl] at e1
      exact mkC_ok hX h go (k := true) ⟨x, by rw [if_pos rfl]; exact e1, kn⟩ rfl
  · rename_i g1 q
    split at h
    · rename_i r2 q2
      split at h
      case isFalse => cases h
      case isTrue hb2 =>
      split at h
      · rename_i f q3
        have hcc : r.c = r1.c + r2.c := by
          unfold mkC at h
          split at h
          · cases h; rfl
          · cases h
        cases b with
        | false =>
          rw [if_neg Bool.false_ne_true, q] at e1
          cases e1
          have h2 := hk _ r2 W1 S1 t1 q2 go.wf kn.1 (by have := go.t2; omega)
          obtain ⟨b2, S2, W2, t2, e2, go2, x2, e3, kn2⟩ := h2.truth hb2
          have go3 := go.trans go2 (fun j z _ => kn.2 j z) w
          have kn3 : Kn p W2 S2 G x2 env := ⟨kn2.1, fun j z => kn.2 j (kn2.2 j z)⟩
          refine mkC_ok hX h go3 (k := b2) ?_ e2
          cases b2 with
          | false => exact ⟨x2, e3, kn3⟩
          | true =>
            rw [if_pos rfl] at e3
            obtain ⟨y, e4, k4⟩ := joinO_r hX q3 e3 kn3
            exact ⟨y, e4, k4⟩
        | true =>
          rw [if_pos rfl] at e1
          obtain ⟨y, e4, k4⟩ := joinO_l hX q3 e1 kn
          exact mkC_ok hX h (go.weak (by omega) fun _ z => z) (k := true) ⟨y, e4, k4⟩ rfl
      · cases h
    · cases h
include hX in
theorem notX_ok {ma : M D} {r1 : Rx} (h1 : OkX p (ma S) W S t G env r1) (h : notX p r1 = some r) : OkX p ((do
      let x ← ma
      dNot x) S) W S t G env r := by
  unfold notX at h
  split at h
  · rename_i hb
    obtain ⟨b, S1, W1, t1, e, go, x, e1, kn⟩ := h1.truth hb
    rw [bnd_of e]
    refine mkC_ok hX h go (k := !b) ⟨x, ?_, kn⟩ rfl
    cases b with
    | true => exact e1
    | false => exact e1
  · cases h
theorem OkX.mk (w : WF p t W S) (h : OkF p res W S t G env u G1 c) : OkX p res W S t G env (mkR u none G1 c) := by
  obtain ⟨d, S1, W1, t1, e, go, en, ow, va⟩ := h
  exact OkX.val w go en ow va e
theorem OkF.from (w : WF p t W S) (go : Go p W S t (Own G env) W1 S1 t1 c) (ow : ∀ j, Own G1 env j → Own G env j) (h : OkF p res W1 S1 t1 G1 env u G2 c1) : OkF p res W S t G env u G2 (c + c1) := by
  obtain ⟨d, S2, W2, t2, e, a1, a2, a3, a4⟩ := h
  exact ⟨d, S2, W2, t2, e, go.trans a1 (fun j z _ => ow j z) w, a2, fun j z => ow j (a3 j z), a4⟩
include hX in
theorem OkF.weak (h : OkF p res W S t G env u G1 c) (hs : subT p u v = true) (hg : subEn p G1 G2 = true) (hc : c ≤ c1) : OkF p res W S t G env v G2 c1 := by
  obtain ⟨d, S1, W1, t1, e, go, en, ow, va⟩ := h
  obtain ⟨k1, k2⟩ := EnvOk.sub hX en hg
  exact ⟨d, S1, W1, t1, e, go.weak hc fun _ z => z, k1, fun j z => ow j (k2 j z), subT_ok hs hX va⟩
include hX in
theorem ifeX_ok {mc ma mb : M D} {r1 : Rx} {ka kb : En → Option Rx} (w : WF p t W S) (h1 : OkX p (mc S) W S t G env r1) (h : ifeX p r1 ka kb = some r) (hc : t + r.c ≤ TM)
    (hka : ∀ g r2 W1 S1 t1, ka g = some r2 → WF p t1 W1 S1 → EnvOk p W1 S1 g env → t1 + r2.c ≤ TM → OkX p (ma S1) W1 S1 t1 g env r2)
    (hkb : ∀ g r2 W1 S1 t1, kb g = some r2 → WF p t1 W1 S1 → EnvOk p W1 S1 g env → t1 + r2.c ≤ TM → OkX p (mb S1) W1 S1 t1 g env r2) : OkX p ((do
      let x ← mc
      tru x ma mb) S) W S t G env r := by
  unfold ifeX at h
  split at h
  case isFalse => cases h
  case isTrue hb =>
  obtain ⟨b, S1, W1, t1, e, go, x, e1, kn⟩ := h1.truth hb
  rw [bnd_of e]
  split at h
  · rename_i g q1 q2
    rw [Option.map_eq_some_iff] at h
    obtain ⟨r2, h2, rfl⟩ := h
    cases b with
    | true =>
      rw [if_pos rfl, q1] at e1
      cases e1
      have hcc : (frR r2 r1.c).c = r1.c + r2.c := rfl
      exact OkX.mk w (((hka _ r2 W1 S1 t1 h2 go.wf kn.1 (by have := go.t2; omega)).frz go.wf kn.1).from w go kn.2)
    | false => rw [if_neg Bool.false_ne_true, q2] at e1; cases e1
  · rename_i g q1 q2
    rw [Option.map_eq_some_iff] at h
    obtain ⟨r2, h2, rfl⟩ := h
    cases b with
    | false =>
      rw [if_neg Bool.false_ne_true, q2] at e1
      cases e1
      have hcc : (frR r2 r1.c).c = r1.c + r2.c := rfl
      exact OkX.mk w (((hkb _ r2 W1 S1 t1 h2 go.wf kn.1 (by have := go.t2; omega)).frz go.wf kn.1).from w go kn.2)
    | true => rw [if_pos rfl, q1] at e1; cases e1
  · rename_i g1 g2 q1 q2
    split at h
    · rename_i ra rb h2 h3
      split at h
      · rename_i tt gg h4 h5
        cases h
        obtain ⟨s1, s2⟩ := join_ok h4
        obtain ⟨z1, z2⟩ := joinEn_ok h5
        have hcc : (mkR tt none gg (r1.c + max ra.c rb.c)).c = r1.c + max ra.c rb.c := rfl
        cases b with
        | true =>
          rw [if_pos rfl, q1] at e1
          cases e1
          exact OkX.mk w ((((hka _ ra W1 S1 t1 h2 go.wf kn.1 (by have := go.t2; omega)).frz go.wf kn.1).from w go kn.2).weak hX s1 z1 (by omega))
        | false =>
          rw [if_neg Bool.false_ne_true, q2] at e1
          cases e1
          exact OkX.mk w ((((hkb _ rb W1 S1 t1 h3 go.wf kn.1 (by have := go.t2; omega)).frz go.wf kn.1).from w go kn.2).weak hX s2 z2 (by omega))
      · cases h
    · cases h
  · cases h
end
end Ev
namespace Ev
open PySem PySem.Spec PyProof.Rows
section
variable {p : Prm} {W W1 W2 : Wl} {S S1 S2 : Store} {t t1 t2 c c1 c2 : Nat} {O O1 O2 : Nat → Prop} {G G1 G2 : En} {env : Fr} {u v : Ty2} {d : D} {res : Res D} {r : Rx}
variable (hX : PrOk p)
/-! ### slots set -/
theorem EnvOk.put {i : Nat} (h : EnvOk p W S G env) (hv : Val p W S u d) (hf : isOwn u = true → ∀ (k : Nat) (t : Ty2), k ≠ i → G[k]? = some (some t) → isOwn t = true → env[k]? ≠ some (some d)) :
    EnvOk p W S (G.set i (some u)) (env.set i (some d)) ∧ ∀ j, Own (G.set i (some u)) (env.set i (some d)) j → Own G env j ∨ (isOwn u = true ∧ d = .ref j) := by
  have get : ∀ {k : Nat} {t : Ty2}, (G.set i (some u))[k]? = some (some t) → (k = i ∧ t = u ∧ (env.set i (some d))[k]? = some (some d)) ∨ (k ≠ i ∧ G[k]? = some (some t) ∧ (env.set i (some d))[k]? = env[k]?) := fun {k t} e => by
    by_cases hk : k = i
    · subst hk
      have hl : k < (G.set k (some u)).length := (List.getElem?_eq_some_iff.mp e).1
      rw [List.length_set] at hl
      rw [List.getElem?_set_self hl] at e
      cases e
      exact .inl ⟨rfl, rfl, by rw [List.getElem?_set_self (by rw [h.len]; exact hl)]⟩
    · rw [List.getElem?_set_ne (fun z => hk z.symm)] at e
      exact .inr ⟨hk, e, by rw [List.getElem?_set_ne (fun z => hk z.symm)]⟩
  refine ⟨⟨by rw [List.length_set, List.length_set]; exact h.len, fun k t e => ?_, fun k l t t' x e1 o1 e2 o2 e3 e4 => ?_⟩, fun j ⟨k, t, e1, o1, e2⟩ => ?_⟩
  · rcases get e with ⟨rfl, rfl, e2⟩ | ⟨_, e1, e2⟩
    · exact ⟨d, e2, hv⟩
    · obtain ⟨x, h1, h2⟩ := h.at_ k t e1
      exact ⟨x, by rw [e2]; exact h1, h2⟩
  · rcases get e1 with ⟨k1, k2, k3⟩ | ⟨k1, k2, k3⟩
    · rcases get e2 with ⟨l1, l2, l3⟩ | ⟨l1, l2, l3⟩
      · rw [k1, l1]
      · exfalso
        rw [k3] at e3
        rw [l3] at e4
        cases e3
        subst k2
        exact hf o1 l t' l1 l2 o2 e4
    · rcases get e2 with ⟨l1, l2, l3⟩ | ⟨l1, l2, l3⟩
      · exfalso
        rw [k3] at e3
        rw [l3] at e4
        cases e4
        subst l2
        exact hf o2 k t k1 k2 o1 e3
      · rw [k3] at e3
        rw [l3] at e4
        exact h.uniq k l t t' x k2 o1 l2 o2 e3 e4
  · rcases get e1 with ⟨k1, k2, k3⟩ | ⟨k1, k2, k3⟩
    · rw [k3] at e2
      cases e2
      subst k2
      exact .inr ⟨o1, rfl⟩
    · rw [k3] at e2
      exact .inl ⟨k, t, k2, o1, e2⟩
theorem HasTy.notOwn (h : HasTy p W u d) : isOwn u = false := by
  cases u <;> first
    | rfl
    | (simp only [HasTy] at h)
theorem EnvOk.put1 {i : Nat} (h : EnvOk p W S G env) (hv : HasTy p W u d) : EnvOk p W S (G.set i (some u)) (env.set i (some d)) ∧ ∀ j, Own (G.set i (some u)) (env.set i (some d)) j → Own G env j := by
  have no := hv.notOwn
  obtain ⟨a, b⟩ := h.put (i := i) (Val.of hv) (fun ho => by rw [no] at ho; cases ho)
  refine ⟨a, fun j z => ?_⟩
  rcases b j z with z | ⟨z, _⟩
  · exact z
  · rw [no] at z; cases z
theorem putTs_len : ∀ {ts : List T} {us : List Ty2} {G G1 : En}, putTs p ts us G = some G1 → ts.length = us.length
  | [], [], _, _, _ => rfl
  | [], _ :: _, _, _, h => by simp [putTs] at h
  | _ :: _, [], _, _, h => by simp [putTs] at h
  | t :: ts, u :: us, G, G1, h => by
    simp only [putTs] at h
    split at h
    · rw [List.length_cons, List.length_cons, putTs_len h]
    · cases h
theorem hasTys_rep {n : Nat} : ∀ {ds : List D}, ds.length = n → (∀ x ∈ ds, HasTy p W u x) → HasTys p W (List.replicate n u) ds := by
  induction n with
  | zero => intro ds h _; simp only [List.replicate_zero, HasTys]; exact List.eq_nil_of_length_eq_zero h
  | succ n ih =>
    intro ds h hs
    cases ds with
    | nil => cases h
    | cons x xs =>
      simp only [List.replicate_succ, HasTys]
      exact ⟨x, xs, rfl, hs x List.mem_cons_self, ih (by simpa using h) fun y hy => hs y (List.mem_cons_of_mem _ hy)⟩
mutual
theorem putT_ok (hX : PrOk p) : ∀ {tg : T} {u : Ty2} {G G1 : En} {env : Fr} {d : D}, putT p tg u G = some G1 → EnvOk p W S G env → HasTy p W u d → ∃ env1, T.put tg d env S = .ok env1 S ∧ EnvOk p W S G1 env1 ∧ ∀ j, Own G1 env1 j → Own G env j
  | .nm i, u, G, G1, env, d, h, en, hv => by
    simp only [putT] at h
    split at h
    · cases h
      obtain ⟨a, b⟩ := en.put1 (i := i) hv
      exact ⟨_, by rw [T.put]; rfl, a, b⟩
    · cases h
  | .tup ts, u, G, G1, env, d, h, en, hv => by
    simp only [putT] at h
    have hv2 := expT_ok hX hv
    have fin : ∀ {us : List Ty2} {ds : List D}, putTs p ts us G = some G1 → HasTys p W us ds → ∃ env1, T.put (.tup ts) (.tup ds) env S = .ok env1 S ∧ EnvOk p W S G1 env1 ∧ ∀ j, Own G1 env1 j → Own G env j := fun {us ds} h hs => by
      obtain ⟨env1, e, a, b⟩ := putTs_ok hX h en hs
      refine ⟨env1, ?_, a, b⟩
      rw [T.put]
      have : onTup ts.length (fun ds => T.puts ts ds env) (.tup ds) = T.puts ts ds env := if_pos (by rw [hs.length, putTs_len h])
      rw [this]
      exact e
    split at h
    · rename_i us q
      rw [q] at hv2
      simp only [HasTy] at hv2
      obtain ⟨ds, rfl, hs⟩ := hv2
      exact fin h hs
    · rename_i u' a b q
      rw [q] at hv2
      simp only [HasTy] at hv2
      obtain ⟨ds, rfl, l1, l2, hs⟩ := hv2
      split at h
      · rename_i z
        exact fin h (hasTys_rep (by omega) hs)
      · cases h
    · cases h
theorem putTs_ok (hX : PrOk p) : ∀ {ts : List T} {us : List Ty2} {G G1 : En} {env : Fr} {ds : List D}, putTs p ts us G = some G1 → EnvOk p W S G env → HasTys p W us ds → ∃ env1, T.puts ts ds env S = .ok env1 S ∧ EnvOk p W S G1 env1 ∧ ∀ j, Own G1 env1 j → Own G env j
  | [], [], G, G1, env, ds, h, en, hs => by
    simp only [putTs] at h
    cases h
    simp only [HasTys] at hs
    subst hs
    exact ⟨env, by rw [T.puts]; rfl, en, fun _ z => z⟩
  | [], _ :: _, _, _, _, _, h, _, _ => by simp [putTs] at h
  | _ :: _, [], _, _, _, _, h, _, _ => by simp [putTs] at h
  | t :: ts, u :: us, G, G1, env, ds, h, en, hs => by
    simp only [putTs] at h
    simp only [HasTys] at hs
    obtain ⟨x, xs, rfl, a, b⟩ := hs
    split at h
    · rename_i G2 q
      obtain ⟨env1, e1, en1, ow1⟩ := putT_ok hX q en a
      obtain ⟨env2, e2, en2, ow2⟩ := putTs_ok hX h en1 b
      refine ⟨env2, ?_, en2, fun j z => ow1 j (ow2 j z)⟩
      rw [T.puts]
      show M.bnd (T.put t x env) _ S = _
      unfold M.bnd
      rw [e1]
      exact e2
    · cases h
end
/-! ### what is walked -/
theorem Lv.cell {a b : Nat} {v : Ty2} {B : Kd → Prop} (hf : ∀ x, B (.fz x)) (hs : ∀ x, B (.sc x)) (ho : isOwn u = true → B .ow) (h : Lv p W S u d) (w : WF p t W S) (e : asLr u = some (v, a, b)) : ∃ j ds kd, d = .ref j ∧ W[j]? = some kd ∧ B kd ∧ (S[j]? = some (.lst ds) ∨ S[j]? = some (.fro ds)) ∧ a ≤ ds.length ∧ ds.length ≤ b ∧ ∀ x ∈ ds, HasTy p W v x := by
  unfold asLr at e
  split at e
  · cases e
    obtain ⟨j, ds, e, q, s, r⟩ := h
    rcases q with q | q
    · exact ⟨j, ds, _, e, q, ho rfl, .inl s, r⟩
    · exact ⟨j, ds, _, e, q, hf _, .inl s, r⟩
  · cases e
    have h : HasTy p W _ d := h
    simp only [HasTy] at h
    obtain ⟨j, ds, e, q, r⟩ := h
    exact ⟨j, ds, _, e, q, hf _, .inl (w.fz j ds q), r⟩
  · cases e
    have h : HasTy p W _ d := h
    simp only [HasTy] at h
    obtain ⟨j, ds, e, q, r1, r2, r3⟩ := h
    exact ⟨j, ds, _, e, q, hs _, .inr (w.sc j ds q), r1, r2, fun x hx => by simp only [HasTy]; exact r3 x hx⟩
  · cases e
theorem rngD_mem {lo : Int} {n : Nat} {x : D} (h : x ∈ rngD lo n) : ∃ k : Nat, k < n ∧ x = .int (lo + k) := by
  unfold rngD at h
  obtain ⟨k, h1, h2⟩ := List.mem_map.mp h
  exact ⟨k, List.mem_range.mp h1, h2.symm⟩
theorem enumD_mem {x : D} : ∀ {ds : List D} {i : Nat}, x ∈ enumD i ds → ∃ (k : Nat) (y : D), k < ds.length ∧ y ∈ ds ∧ x = .tup [.int ((i + k : Nat) : Int), y]
  | [], _, h => by cases h
  | d :: ds, i, h => by
    rw [enumD] at h
    rcases List.mem_cons.mp h with z | z
    · exact ⟨0, d, by simp, List.mem_cons_self, z⟩
    · obtain ⟨k, y, h1, h2, h3⟩ := enumD_mem z
      refine ⟨k + 1, y, by simpa using h1, List.mem_cons_of_mem _ h2, ?_⟩
      rw [h3, show i + 1 + k = i + (k + 1) by omega]
theorem enD_len : ∀ {ds : List D} {i : Nat}, (enumD i ds).length = ds.length
  | [], _ => rfl
  | d :: ds, i => by rw [enumD, List.length_cons, List.length_cons, enD_len]
theorem zpD_len : ∀ {xs ys : List D}, (zipD xs ys).length = min xs.length ys.length
  | [], ys => by simp [zipD]
  | _ :: _, [] => by simp [zipD]
  | x :: xs, y :: ys => by rw [zipD, List.length_cons, zpD_len, List.length_cons, List.length_cons]; omega
theorem zipD_mem {z : D} : ∀ {xs ys : List D}, z ∈ zipD xs ys → ∃ x y, x ∈ xs ∧ y ∈ ys ∧ z = .tup [x, y]
  | [], _, h => by cases h
  | _ :: _, [], h => by cases h
  | x :: xs, y :: ys, h => by
    rw [zipD] at h
    rcases List.mem_cons.mp h with e | e
    · exact ⟨x, y, List.mem_cons_self, List.mem_cons_self, e⟩
    · obtain ⟨a, b, h1, h2, h3⟩ := zipD_mem e
      exact ⟨a, b, List.mem_cons_of_mem _ h1, List.mem_cons_of_mem _ h2, h3⟩
def Stb (B : Kd → Prop) (W : Wl) (S S' : Store) : Prop := ∀ (j : Nat) (k : Kd), W[j]? = some k → B k → S'[j]? = S[j]?
theorem seqL {B : Kd → Prop} {j : Nat} {ds : List D} {kd : Kd} (h1 : W[j]? = some kd) (h2 : B kd) (h3 : S[j]? = some (.lst ds) ∨ S[j]? = some (.fro ds)) : ∃ ok : Store → Prop, seqIts (.ref j) S = .ok ⟨ds, ok⟩ S ∧ ∀ S', Stb B W S S' → ok S' := by
  rcases h3 with h3 | h3
  · exact ⟨_, by unfold seqIts; simp only [h3]; rfl, fun S' st => by show S'[j]? = _; rw [st j kd h1 h2]; exact h3⟩
  · exact ⟨_, by unfold seqIts; simp only [h3]; rfl, fun S' st => by show S'[j]? = _; rw [st j kd h1 h2]; exact h3⟩
theorem asSeq_nl {a b : Nat} (e : asSeq p u = some (v, a, b)) : asLr u = none := by
  cases u <;> first
    | rfl
    | (simp [asSeq, expT] at e)
include hX in
theorem itsT_ok {B : Kd → Prop} (hf : ∀ x, B (.fz x)) (hs : ∀ x, B (.sc x)) {k : IK} {ts : List Ty2} {ds : List D} {a b : Nat} (h : itsT p k ts = some (u, a, b)) (ho : ∀ u ∈ ts, isOwn u = true → B .ow) (hl : Lvs p W S ts ds) (w : WF p t W S) :
    ∃ it, k.its ds S = .ok it S ∧ a ≤ it.ds.length ∧ it.ds.length ≤ b ∧ (∀ x ∈ it.ds, HasTy p W u x) ∧ ∀ S', Stb B W S S' → it.ok S' := by
  unfold itsT at h
  split at h
  · cases hl with
    | cons k1 k2 =>
      cases k2
      unfold itT at h
      split at h
      · rename_i q
        cases h
        obtain ⟨j, ds, kd, rfl, h1, h2, h3, l1, l2, l3⟩ := k1.cell hf hs (ho _ (by simp)) w q
        obtain ⟨ok, e1, e2⟩ := seqL h1 h2 h3
        exact ⟨⟨ds, ok⟩, e1, l1, l2, l3, e2⟩
      · obtain ⟨ds, rfl, l1, l2, l3⟩ := PV.sq hX (k1.pv w) h
        exact ⟨⟨ds, _⟩, rfl, l1, l2, l3, fun _ _ => trivial⟩
  · cases hl with
    | cons k1 k2 =>
      cases k2
      split at h
      · rename_i x y q
        obtain ⟨i, rfl, i1, i2⟩ := PV.int hX (k1.pv w) q
        split at h
        · rename_i z
          cases h
          have hr : rngOk 0 i := by
            unfold rngOk
            have : (2 : Int) ^ 62 = 4611686018427387904 := by decide
            omega
          refine ⟨⟨rngD 0 i.toNat, fun _ => True⟩, ?_, ?_, ?_, fun x hx => ?_, fun _ _ => trivial⟩
          · simp only [IK.its, its1, rng1Its]
            rw [if_pos hr]
            rfl
          · simp only [rngD, List.length_map, List.length_range]; omega
          · simp only [rngD, List.length_map, List.length_range]; omega
          · obtain ⟨k, k1, rfl⟩ := rngD_mem hx
            simp only [HasTy]
            exact ⟨_, rfl, by omega, by omega⟩
        · cases h
      · cases h
  · cases hl with
    | cons k1 k2 =>
      cases k2 with
      | cons k2 k3 =>
        cases k3
        split at h
        · rename_i x y x' y' q q'
          obtain ⟨i, rfl, i1, i2⟩ := PV.int hX (k1.pv w) q
          obtain ⟨i', rfl, i1', i2'⟩ := PV.int hX (k2.pv w) q'
          split at h
          · rename_i z
            cases h
            have hr : rngOk i i' := by
              unfold rngOk
              have : (2 : Int) ^ 62 = 4611686018427387904 := by decide
              omega
            refine ⟨⟨rngD i (i' - i).toNat, fun _ => True⟩, ?_, ?_, ?_, fun x hx => ?_, fun _ _ => trivial⟩
            · simp only [IK.its, its2, rng2Its]
              rw [if_pos hr]
              rfl
            · simp only [rngD, List.length_map, List.length_range]; omega
            · simp only [rngD, List.length_map, List.length_range]; omega
            · obtain ⟨k, k1, rfl⟩ := rngD_mem hx
              simp only [HasTy]
              exact ⟨_, rfl, by omega, by omega⟩
          · cases h
        · cases h
  · cases hl with
    | cons k1 k2 =>
      cases k2
      split at h
      · rename_i q
        cases h
        obtain ⟨j, ds, kd, rfl, h1, h2, h3, l1, l2, l3⟩ := k1.cell hf hs (ho _ (by simp)) w q
        obtain ⟨ok, e1, e2⟩ := seqL h1 h2 h3
        refine ⟨⟨enumD 0 ds, ok⟩, ?_, by rw [enD_len]; exact l1, by rw [enD_len]; exact l2, fun x hx => ?_, e2⟩
        · simp only [IK.its, its1, enumIts]
          show M.bnd (seqIts (.ref j)) _ S = _
          unfold M.bnd
          rw [e1]
          rfl
        · obtain ⟨k, y, z1, z2, rfl⟩ := enumD_mem hx
          simp only [HasTy, HasTys]
          exact ⟨_, rfl, _, _, rfl, ⟨_, rfl, by omega, by omega⟩, _, _, rfl, l3 y z2, rfl⟩
      · cases h
  · cases hl with
    | cons k1 k2 =>
      cases k2 with
      | cons k2 k3 =>
        cases k3
        split at h
        · rename_i q q'
          cases h
          obtain ⟨j, ds, kd, rfl, h1, h2, h3, l1, l2, l3⟩ := k1.cell hf hs (ho _ (by simp)) w q
          obtain ⟨j', ds', kd', rfl, h1', h2', h3', l1', l2', l3'⟩ := k2.cell hf hs (ho _ (by simp)) w q'
          obtain ⟨ok, e1, e2⟩ := seqL h1 h2 h3
          obtain ⟨ok', e1', e2'⟩ := seqL h1' h2' h3'
          refine ⟨⟨zipD ds ds', fun S => ok S ∧ ok' S⟩, ?_, by rw [zpD_len]; omega, by rw [zpD_len]; omega, fun x hx => ?_, fun S' st => ⟨e2 S' st, e2' S' st⟩⟩
          · simp only [IK.its, its2, zipIts]
            show M.bnd (seqIts (.ref j)) _ S = _
            unfold M.bnd
            rw [e1]
            show M.bnd (seqIts (.ref j')) _ S = _
            unfold M.bnd
            rw [e1']
            rfl
          · obtain ⟨y, y', z1, z2, rfl⟩ := zipD_mem hx
            simp only [HasTy, HasTys]
            exact ⟨_, rfl, _, _, rfl, l3 y z1, _, _, rfl, l3' y' z2, rfl⟩
        · split at h
          · rename_i q q'
            cases h
            obtain ⟨ds, rfl, l1, l2, l3⟩ := PV.sq hX (k1.pv w) q
            obtain ⟨ds', rfl, l1', l2', l3'⟩ := PV.sq hX (k2.pv w) q'
            refine ⟨⟨zipD ds ds', fun _ => True⟩, rfl, by rw [zpD_len]; omega, by rw [zpD_len]; omega, fun x hx => ?_, fun _ _ => trivial⟩
            obtain ⟨y, y', z1, z2, rfl⟩ := zipD_mem hx
            simp only [HasTy, HasTys]
            exact ⟨_, rfl, _, _, rfl, l3 y z1, _, _, rfl, l3' y' z2, rfl⟩
          · cases h
        · cases h
  · cases h
/-! ### a comprehension's frame -/
theorem dropOwn_at {i : Nat} (e : (dropOwn G)[i]? = some (some u)) : G[i]? = some (some u) ∧ isOwn u = false := by
  unfold dropOwn at e
  rw [List.getElem?_map] at e
  cases q : G[i]? with
  | none => rw [q] at e; cases e
  | some x =>
    rw [q] at e
    cases x with
    | none => cases e
    | some v =>
      have e : (if isOwn v = true then none else some v) = some u := Option.some.inj e
      split at e
      · cases e
      · rename_i z
        cases e
        exact ⟨rfl, by simpa using z⟩
theorem EnvOk.dropOwn (h : EnvOk p W S G env) : EnvOk p W S (dropOwn G) env ∧ ∀ j, ¬ Own (Ev.dropOwn G) env j :=
  ⟨⟨by rw [h.len]; unfold Ev.dropOwn; rw [List.length_map], fun i u e => h.at_ i u (dropOwn_at e).1, fun i k t u d e1 o1 => by rw [(dropOwn_at e1).2] at o1; cases o1⟩, fun j ⟨i, t, e1, o1, _⟩ => by rw [(dropOwn_at e1).2] at o1; cases o1⟩
theorem wipeEn_at {i : Nat} : ∀ {is : List Nat}, (wipeEn G is)[i]? = some (some u) → G[i]? = some (some u) ∧ i ∉ is
  | [], e => ⟨e, by simp⟩
  | k :: is, e => by
    unfold wipeEn at e
    by_cases hk : i = k
    · subst hk
      have hl : i < ((wipeEn G is).set i none).length := (List.getElem?_eq_some_iff.mp e).1
      rw [List.length_set] at hl
      rw [List.getElem?_set_self hl] at e
      cases e
    · rw [List.getElem?_set_ne (fun z => hk z.symm)] at e
      obtain ⟨h1, h2⟩ := wipeEn_at e
      exact ⟨h1, by simp [hk, h2]⟩
theorem wipeEn_len : ∀ {is : List Nat}, (wipeEn G is).length = G.length
  | [] => rfl
  | k :: is => by unfold wipeEn; rw [List.length_set, wipeEn_len]
theorem wipeF_at {i : Nat} : ∀ {is : List Nat}, i ∉ is → (wipeF env is)[i]? = env[i]?
  | [], _ => rfl
  | k :: is, h => by
    unfold wipeF
    rw [List.getElem?_set_ne (fun z => h (by simp [z])), wipeF_at fun z => h (by simp [z])]
theorem wipeF_len : ∀ {is : List Nat}, (wipeF env is).length = env.length
  | [] => rfl
  | k :: is => by unfold wipeF; rw [List.length_set, wipeF_len]
theorem EnvOk.wipe {is : List Nat} (h : EnvOk p W S G env) : EnvOk p W S (wipeEn G is) (wipeF env is) ∧ ∀ j, Own (wipeEn G is) (wipeF env is) j → Own G env j :=
  ⟨⟨by rw [wipeF_len, wipeEn_len]; exact h.len, fun i u e => by
    obtain ⟨h1, h2⟩ := wipeEn_at e
    obtain ⟨d, k1, k2⟩ := h.at_ i u h1
    exact ⟨d, by rw [wipeF_at h2]; exact k1, k2⟩, fun i k t u d e1 o1 e2 o2 e3 e4 => by
    obtain ⟨h1, h2⟩ := wipeEn_at e1
    obtain ⟨h3, h4⟩ := wipeEn_at e2
    rw [wipeF_at h2] at e3
    rw [wipeF_at h4] at e4
    exact h.uniq i k t u d h1 o1 h3 o2 e3 e4⟩, fun j ⟨i, t, e1, o1, e2⟩ => by
    obtain ⟨h1, h2⟩ := wipeEn_at e1
    rw [wipeF_at h2] at e2
    exact ⟨i, t, h1, o1, e2⟩⟩
end
end Ev
namespace Ev
open PySem PySem.Spec PyProof.Rows
section
variable {p : Prm} {W W1 W2 : Wl} {S S1 S2 : Store} {t t1 t2 c c1 c2 : Nat} {O O1 O2 : Nat → Prop} {G G1 G2 : En} {env : Fr} {u v : Ty2} {d : D} {res : Res D} {r : Rx}
variable (hX : PrOk p)
theorem TR.bl (h : TR p W S res u) (hb : isBl u = true) : ∃ b, res = .ok (.bl b) S ∧ HasTy p W u (.bl b) := by
  obtain ⟨d, S', e, h⟩ := h
  rcases h with ⟨rfl, h⟩ | ⟨v, lo, hi, ds, rfl, _⟩
  · obtain ⟨b, rfl⟩ := Val.bl (S := []) (Val.of h) hb
    exact ⟨b, e, h⟩
  · cases hb
/-! ### a comparison tells of a variable -/
def ordB (o : Cop) (i k : Int) : Bool := match o with
  | .eq => decide (i = k) | .ne => !decide (i = k) | .lt => decide (i < k) | .le => decide (i ≤ k) | .gt => decide (k < i) | .ge => decide (k ≤ i) | _ => false
theorem ord_run {o : Cop} {i k : Int} (h : isOrd o = true) : o.run (.int i) (.int k) S = .ok (.bl (ordB o i k)) S := by
  cases o <;> first
    | rfl
    | (cases h; done)
theorem refT_ok {o : Cop} {x y i k : Int} (h : isOrd o = true) (h1 : x ≤ i) (h2 : i ≤ y) (hb : ordB o i k = true) : ∃ u, refT o x y k = some u ∧ HasTy p W u (.int i) := by
  cases o <;> simp only [ordB, Bool.not_eq_true', decide_eq_true_eq, decide_eq_false_iff_not] at hb <;> simp only [refT]
  case eq =>
    rw [if_pos (by omega)]
    exact ⟨_, rfl, by simp only [HasTy]; exact ⟨i, rfl, by omega, by omega⟩⟩
  case ne =>
    rw [if_neg (by omega)]
    split
    · exact ⟨_, rfl, by simp only [HasTy]; exact ⟨i, rfl, by omega, by omega⟩⟩
    · split
      · exact ⟨_, rfl, by simp only [HasTy]; exact ⟨i, rfl, by omega, by omega⟩⟩
      · exact ⟨_, rfl, by simp only [HasTy]; exact ⟨i, rfl, by omega, by omega⟩⟩
  case lt =>
    rw [if_pos (by omega)]
    exact ⟨_, rfl, by simp only [HasTy]; exact ⟨i, rfl, by omega, by omega⟩⟩
  case le =>
    rw [if_pos (by omega)]
    exact ⟨_, rfl, by simp only [HasTy]; exact ⟨i, rfl, by omega, by omega⟩⟩
  case gt =>
    rw [if_pos (by omega)]
    exact ⟨_, rfl, by simp only [HasTy]; exact ⟨i, rfl, by omega, by omega⟩⟩
  case ge =>
    rw [if_pos (by omega)]
    exact ⟨_, rfl, by simp only [HasTy]; exact ⟨i, rfl, by omega, by omega⟩⟩
  all_goals cases h
theorem negC_ord {o : Cop} (h : isOrd o = true) : isOrd (negC o) = true := by cases o <;> first | rfl | cases h
theorem negC_b {o : Cop} {i k : Int} (h : isOrd o = true) (hb : ordB o i k = false) : ordB (negC o) i k = true := by
  cases o <;> simp only [ordB, Bool.not_eq_false', decide_eq_true_eq, decide_eq_false_iff_not] at hb <;> simp only [negC, ordB, Bool.not_eq_true', decide_eq_true_eq, decide_eq_false_iff_not] <;> first
    | omega
    | cases h
theorem EnvOk.set_int {i : Nat} {j : Int} (h : EnvOk p W S G env) (he : env[i]? = some (some (.int j))) (hv : HasTy p W u (.int j)) : EnvOk p W S (G.set i (some u)) env ∧ ∀ k, Own (G.set i (some u)) env k → Own G env k := by
  have := h.put1 (i := i) hv
  have e : env.set i (some (.int j)) = env := by
    apply List.ext_getElem?
    intro k
    by_cases hk : i = k
    · subst hk
      rw [List.getElem?_set_self (List.getElem?_eq_some_iff.mp he).1, he]
    · rw [List.getElem?_set_ne hk]
  rw [e] at this
  exact this
theorem refX_ok {o : Cop} {a b : E} (h : OkX p res W S t G env r) (hk : ∀ d S', res = .ok d S' → ∀ i k j, a = .var i → b = .int k → env[i]? = some (some (.int j)) → isOrd o = true → d = .bl (ordB o j k)) : OkX p res W S t G env (refX o a b r) := by
  unfold refX
  split
  · rename_i i k
    split
    · rename_i x y q
      split
      · rename_i ho
        obtain ⟨d, S1, W1, t1, e, go, en, ow, va, pv, tr⟩ := h
        obtain ⟨z, z1, z2⟩ := en.at_ i _ q
        have z2 : HasTy p W1 _ z := z2
        simp only [HasTy] at z2
        obtain ⟨j, rfl, j1, j2⟩ := z2
        have hd := hk d S1 e i k j rfl rfl z1 ho
        refine ⟨d, S1, W1, t1, e, go, en, ow, va, pv, fun b hb => ?_⟩
        rw [hd] at hb
        have hb : ordB o j k = b := by cases hb; rfl
        cases b with
        | true =>
          obtain ⟨u, e1, e2⟩ := refT_ok (p := p) (W := W1) ho j1 j2 hb
          obtain ⟨k1, k2⟩ := en.set_int z1 e2
          refine ⟨r.G.set i (some u), ?_, k1, fun m hm => ow m (k2 m hm)⟩
          rw [if_pos rfl]
          dsimp only
          rw [e1]
          rfl
        | false =>
          obtain ⟨u, e1, e2⟩ := refT_ok (p := p) (W := W1) (negC_ord ho) j1 j2 (negC_b ho hb)
          obtain ⟨k1, k2⟩ := en.set_int z1 e2
          refine ⟨r.G.set i (some u), ?_, k1, fun m hm => ow m (k2 m hm)⟩
          rw [if_neg Bool.false_ne_true]
          dsimp only
          rw [e1]
          rfl
      · exact h
    · exact h
  · exact h
/-! ### a comprehension -/
theorem guard_yes {q : Store → Prop} (h : q S) : guard q S = .ok () S := if_pos h
theorem lcF_ok {q : Store → Prop} {put : D → Fr → M Fr} {cond elt : Fr → M D} {G0 : En} {env0 : Fr} {it : Ty2} {cc : Nat} {all : Bool}
    (step : ∀ d W S t, HasTy p W it d → WF p t W S → EnvOk p W S G0 env0 → t + cc ≤ TM → ∃ e2 b S1 W1 t1 c1, put d env0 S = .ok e2 S ∧ cond e2 S = .ok (.bl b) S1 ∧ Go p W S t (fun _ => False) W1 S1 t1 c1 ∧ c1 ≤ cc ∧ (all = true → b = true) ∧
      (b = true → ∃ x S2 W2 t2 c2, elt e2 S1 = .ok x S2 ∧ Go p W1 S1 t1 (fun _ => False) W2 S2 t2 c2 ∧ HasTy p W2 u x ∧ c1 + c2 ≤ cc)) :
    ∀ (ds acc : List D) (W : Wl) (S : Store) (t : Nat), (∀ x ∈ ds, HasTy p W it x) → (∀ x ∈ acc, HasTy p W u x) → WF p t W S → EnvOk p W S G0 env0 → (∀ W' S' t' c', Go p W S t (fun _ => False) W' S' t' c' → q S') → acc.length + ds.length ≤ LINE → t + ds.length * cc ≤ TM →
      ∃ xs S' W' t', lcF q put cond elt env0 ds acc S = .ok xs S' ∧ Go p W S t (fun _ => False) W' S' t' (ds.length * cc) ∧ (∀ x ∈ xs, HasTy p W' u x) ∧ (if all = true then acc.length + ds.length else acc.length) ≤ xs.length ∧ xs.length ≤ acc.length + ds.length
  | [], acc, W, S, t, _, ha, w, en, hq, hl, ht => by
    refine ⟨acc, S, W, t, ?_, (Go.refl w).weak (by omega) fun _ z => z, ha, by split <;> simp, by simp⟩
    rw [lcF_nil]
    show M.bnd (guard q) _ S = _
    unfold M.bnd
    rw [guard_yes (hq W S t 0 (Go.refl w))]
    rfl
  | d :: ds, acc, W, S, t, hd, ha, w, en, hq, hl, ht => by
    have e0 : (d :: ds).length * cc = ds.length * cc + cc := by rw [List.length_cons, Nat.succ_mul]
    rw [e0] at ht
    rw [List.length_cons] at hl
    obtain ⟨e2, b, S1, W1, t1, c1, h1, h2, g1, hc1, hall, hb⟩ := step d W S t (hd d List.mem_cons_self) w en (by omega)
    have go1 : lcF q put cond elt env0 (d :: ds) acc S = tru (.bl b) (do
        let x ← elt e2
        if acc.length < LINE then lcF q put cond elt env0 ds (acc ++ [x]) else M.fail) (lcF q put cond elt env0 ds acc) S1 := by
      rw [lcF_cons]
      show M.bnd (guard q) _ S = _
      unfold M.bnd
      rw [guard_yes (hq W S t 0 (Go.refl w))]
      show M.bnd (put d env0) _ S = _
      unfold M.bnd
      rw [h1]
      show M.bnd (cond e2) _ S = _
      unfold M.bnd
      rw [h2]
    rw [go1]
    cases b with
    | true =>
      obtain ⟨x, S2, W2, t2, c2, k1, g2, kx, kc⟩ := hb rfl
      have g12 := g1.trans g2 (fun _ z _ => z) w
      have go2 : tru (.bl true) (do
          let x ← elt e2
          if acc.length < LINE then lcF q put cond elt env0 ds (acc ++ [x]) else M.fail) (lcF q put cond elt env0 ds acc) S1 = lcF q put cond elt env0 ds (acc ++ [x]) S2 := by
        show M.bnd (elt e2) _ S1 = _
        unfold M.bnd
        rw [k1]
        dsimp only
        rw [if_pos (by omega)]
      rw [go2]
      obtain ⟨xs, S', W', t', r1, r2, r3, r4, r5⟩ := lcF_ok step ds (acc ++ [x]) W2 S2 t2 (fun y hy => (hd y (List.mem_cons_of_mem _ hy)).mono g12.ext) (fun y hy => by
        rcases List.mem_append.mp hy with z | z
        · exact (ha y z).mono g12.ext
        · rw [List.mem_singleton.mp z]; exact kx) g12.wf (en.go g12) (fun W' S' t' c' g => hq W' S' t' _ (g12.trans g (fun _ z _ => z) w)) (by rw [List.length_append, List.length_singleton]; omega) (by have := g12.t2; omega)
      refine ⟨xs, S', W', t', r1, (g12.trans r2 (fun _ z _ => z) w).weak (by omega) fun _ z => z, r3, ?_, ?_⟩
      · rw [List.length_append, List.length_singleton] at r4
        rw [List.length_cons]
        split at r4 <;> split <;> first
          | omega
          | (rename_i z1 z2; exact absurd z2 z1)
          | (rename_i z1 z2; exact absurd z1 z2)
      · rw [List.length_append, List.length_singleton] at r5
        rw [List.length_cons]
        omega
    | false =>
      have na : all = false := by
        cases all with
        | false => rfl
        | true => exact absurd (hall rfl) Bool.false_ne_true
      obtain ⟨xs, S', W', t', r1, r2, r3, r4, r5⟩ := lcF_ok step ds acc W1 S1 t1 (fun y hy => (hd y (List.mem_cons_of_mem _ hy)).mono g1.ext) (fun y hy => (ha y hy).mono g1.ext) g1.wf (en.go g1) (fun W' S' t' c' g => hq W' S' t' _ (g1.trans g (fun _ z _ => z) w)) (by omega) (by have := g1.t2; omega)
      refine ⟨xs, S', W', t', r1, (g1.trans r2 (fun _ z _ => z) w).weak (by omega) fun _ z => z, r3, ?_, ?_⟩
      · rw [na] at r4 ⊢
        rw [if_neg Bool.false_ne_true] at r4 ⊢
        exact r4
      · rw [List.length_cons]; omega
end
end Ev
namespace Ev
open PySem PySem.Spec PyProof.Rows
section
variable {p : Prm} {W W1 W2 : Wl} {S S1 S2 : Store} {t t1 t2 c c1 c2 : Nat} {O O1 O2 : Nat → Prop} {G G1 G2 : En} {env : Fr} {u v : Ty2} {d : D} {res : Res D} {r : Rx}
/-- two operands, then an answer -/
theorem two_ok {ma mb : M D} {f : D → D → M D} {r1 r2 : Rx} (w : WF p t W S) (h1 : OkX p (ma S) W S t G env r1) (hc : t + (r1.c + r2.c) ≤ TM)
    (h2 : ∀ W1 S1 t1, WF p t1 W1 S1 → EnvOk p W1 S1 r1.G env → t1 + r2.c ≤ TM → OkX p (mb S1) W1 S1 t1 r1.G env r2)
    (k : ∀ d1 d2 W2 S2 t2, WF p t2 W2 S2 → PV p W2 S2 r1.ty d1 → PV p W2 S2 r2.ty d2 → TR p W2 S2 (f d1 d2 S2) u) :
    OkX p ((do
      let x ← ma
      let y ← mb
      f x y) S) W S t G env (mkR u none r2.G (r1.c + r2.c)) := by
  refine OkX.bind w h1 fun d1 S1 W1 t1 go1 en1 ow1 va1 pv1 tr1 => ?_
  have q : OkX p ((mb >>= fun y => f d1 y) S1) W1 S1 t1 r1.G env (mkR u none r2.G r2.c) :=
    OkX.bind go1.wf (h2 W1 S1 t1 go1.wf en1 (by have := go1.t2; omega)) fun d2 S2 W2 t2 go2 en2 ow2 va2 pv2 tr2 =>
      OkX.tr go1.wf go2 en2 ow2 (k d1 d2 W2 S2 t2 go2.wf ((va1.lv.go go1.wf go2).pv go2.wf) (va2.pv0 go2.wf))
  exact OkX.from w go1 ow1 q
theorem one_ok {ma : M D} {f : D → M D} {r1 : Rx} (w : WF p t W S) (h1 : OkX p (ma S) W S t G env r1) (k : ∀ d1 W1 S1 t1, WF p t1 W1 S1 → PV p W1 S1 r1.ty d1 → TR p W1 S1 (f d1 S1) u) :
    OkX p ((do
      let x ← ma
      f x) S) W S t G env (mkR u none r1.G r1.c) :=
  OkX.bind w h1 fun d1 S1 W1 t1 go1 en1 ow1 va1 pv1 tr1 => OkX.tr w go1 en1 ow1 (k d1 W1 S1 t1 go1.wf (va1.pv0 go1.wf))
theorem part_ok {i : Int} : dPart (.int i) S = .ok (some i) S := rfl
theorem bndR {α β : Type} {m : M α} {f : α → M β} {a : α} (e : m S = .ok a S1) : (m >>= f) S = f a S1 := by
  show M.bnd m f S = _
  unfold M.bnd
  rw [e]
/-- a call's answer -/
theorem call_ok {C : Nat → List D → M D} {sg : Sg} (sk : SgOk p C sg) {f : Nat} {ts : List Ty2} {ms : M (List D)} (w : WF p t W S) (h : OkFs p (ms S) W S t G env ts G1 c) (hs : sg f ts = some (u, c1)) (hc : t + (c + c1) ≤ TM) :
    OkX p ((do
      let ds ← ms
      C f ds) S) W S t G env (mkR u none G1 (c + c1)) := by
  obtain ⟨ds, S1, W1, t1, e, go, en, ow, hd⟩ := h
  rw [bndR e]
  obtain ⟨d, S2, W2, t2, e2, go2, va, ho⟩ := sk.ok f ts u c1 hs ds W1 S1 t1 hd go.wf (by have := go.t2; omega)
  refine ⟨d, S2, W2, t2, e2, go.trans go2 (fun _ z _ => z.elim) w, en.go go2, ow, va, fun hw => ?_, fun b hb => ?_⟩
  · obtain ⟨j, e3, e4⟩ := ho hw
    exact ⟨j, e3, Nat.le_trans go.grow e4⟩
  · refine ⟨G1, ?_, en.go go2, ow⟩
    subst hb
    have va2 : isOwn u = false → HasTy p W2 u (.bl b) := fun z => va.has z
    cases b with
    | true =>
      rw [if_pos rfl]
      unfold mkR
      dsimp only
      split
      · have := va2 rfl
        simp only [HasTy] at this
        cases this
      · rfl
    | false =>
      rw [if_neg Bool.false_ne_true]
      unfold mkR
      dsimp only
      split
      · have := va2 rfl
        simp only [HasTy] at this
        cases this
      · rfl
variable {C : Nat → List D → M D} {sg : Sg}
theorem refX_c {o : Cop} {a b : E} : (refX o a b r).c = r.c := by
  unfold refX
  split
  · split
    · split <;> rfl
    · rfl
  · rfl
theorem mkC_c {a b : Option En} (h : mkC p a b c = some r) : r.c = c := by
  unfold mkC at h
  split at h
  · cases h; rfl
  · cases h
theorem andX_c {r1 : Rx} {k : En → Option Rx} (h : andX p r1 k = some r) : r1.c ≤ r.c := by
  unfold andX at h
  split at h
  · split at h
    · rw [mkC_c h]; exact Nat.le_refl _
    · split at h
      · split at h
        · split at h
          · rw [mkC_c h]; omega
          · cases h
        · cases h
      · cases h
  · cases h
theorem orX_c {r1 : Rx} {k : En → Option Rx} (h : orX p r1 k = some r) : r1.c ≤ r.c := by
  unfold orX at h
  split at h
  · split at h
    · rw [mkC_c h]; exact Nat.le_refl _
    · split at h
      · split at h
        · split at h
          · rw [mkC_c h]; omega
          · cases h
        · cases h
      · cases h
  · cases h
theorem ifeX_c {r1 : Rx} {ka kb : En → Option Rx} (h : ifeX p r1 ka kb = some r) : r1.c ≤ r.c := by
  unfold ifeX at h
  split at h
  · split at h
    · rw [Option.map_eq_some_iff] at h
      obtain ⟨r2, _, rfl⟩ := h
      show r1.c ≤ r1.c + r2.c
      omega
    · rw [Option.map_eq_some_iff] at h
      obtain ⟨r2, _, rfl⟩ := h
      show r1.c ≤ r1.c + r2.c
      omega
    · split at h
      · split at h
        · cases h
          show r1.c ≤ r1.c + _
          omega
        · cases h
      · cases h
    · cases h
  · cases h
theorem notX_c {r1 : Rx} (h : notX p r1 = some r) : r.c = r1.c := by
  unfold notX at h
  split at h
  · exact mkC_c h
  · cases h
noncomputable def condF (C : Nat → List D → M D) (ifs : List E) (e : Fr) : M D := match ifs with
  | [] => M.ret (.bl true)
  | [c] => evE C c e
  | _ => M.fail
theorem lc_run {own : List Nat} {tg : T} {k : IK} {es ifs : List E} {elt : E} {ds xs : List D} {it : Its} (e1 : evEs C es env S = .ok ds S1) (e2 : k.its ds S1 = .ok it S1) (e3 : lcF it.ok tg.put (condF C ifs) (fun e => evE C elt e) (wipeF env own) it.ds [] S1 = .ok xs S2) :
    evE C (.lc own tg k es ifs elt) env S = alloc (.lst xs) S2 := by
  rw [evE]
  have e0 : ((do
      let ds ← evEs C es env
      k.its ds) : M Its) S = .ok it S1 := by
    rw [bndR e1]; exact e2
  rw [bndR e0]
  have e4 : noexc (lcF it.ok tg.put (condF C ifs) (fun e => evE C elt e) (wipeF env own) it.ds []) S1 = .ok xs S2 := by
    unfold noexc
    rw [e3]
  exact bndR e4
mutual
theorem inE_ok (hX : PrOk p) (sk : SgOk p C sg) : ∀ {e : E} {G : En} {r : Rx}, inE p sg e G = some r → ∀ {W : Wl} {S : Store} {t : Nat} {env : Fr}, WF p t W S → EnvOk p W S G env → t + r.c ≤ TM → OkX p (evE C e env S) W S t G env r
  | .var i, G, r, h, W, S, t, env, w, en, hc => by
    simp only [inE] at h
    split at h
    · rename_i u q
      cases h
      obtain ⟨d, h1, h2⟩ := en.at_ i u q
      have e : evE C (.var i) env S = .ok d S := by
        rw [evE]
        unfold getV
        rw [h1]
        rfl
      refine ⟨d, S, W, t, e, Go.refl w, en, fun _ z => z, h2, fun _ => ⟨q, h1⟩, fun b hb => ?_⟩
      subst hb
      refine ⟨G, ?_, en, fun _ z => z⟩
      have hv : isOwn u = false → HasTy p W u (.bl b) := fun z => h2.has z
      cases b with
      | true =>
        rw [if_pos rfl]
        unfold mkR
        dsimp only
        split
        · have := hv rfl
          simp only [HasTy] at this
          cases this
        · rfl
      | false =>
        rw [if_neg Bool.false_ne_true]
        unfold mkR
        dsimp only
        split
        · have := hv rfl
          simp only [HasTy] at this
          cases this
        · rfl
    · cases h
  | .int i, G, r, h, W, S, t, env, w, en, hc => by
    simp only [inE] at h
    cases h
    rw [evE]
    exact OkX.lit w en (by simp only [HasTy]; exact ⟨i, rfl, Int.le_refl _, Int.le_refl _⟩)
  | .str x, G, r, h, W, S, t, env, w, en, hc => by
    simp only [inE] at h
    split at h
    · cases h
      rw [evE]
      exact OkX.lit w en (by simp only [HasTy]; exact ⟨x, rfl, Nat.le_refl _, Nat.le_refl _, by assumption⟩)
    · cases h
  | .bl b, G, r, h, W, S, t, env, w, en, hc => by
    simp only [inE] at h
    cases h
    rw [evE]
    exact OkX.lit w en (by simp only [HasTy])
  | .non, G, r, h, W, S, t, env, w, en, hc => by
    simp only [inE] at h
    cases h
    rw [evE]
    exact OkX.lit w en (by simp only [HasTy])
  | .glob d, G, r, h, W, S, t, env, w, en, hc => by
    simp only [inE, Option.map_eq_some_iff] at h
    obtain ⟨u, h1, rfl⟩ := h
    rw [evE]
    exact OkX.lit w en (litT_ok h1)
  | .fnv i, G, r, h, W, S, t, env, w, en, hc => by
    simp only [inE] at h
    cases h
    rw [evE]
    exact OkX.lit w en (by simp only [HasTy])
  | .bad, G, r, h, W, S, t, env, w, en, hc => by
    simp only [inE] at h
    cases h
  | .tup es, G, r, h, W, S, t, env, w, en, hc => by
    simp only [inE] at h
    split at h
    · rename_i ts G1 c q
      split at h
      · rename_i z
        cases h
        obtain ⟨ds, S1, W1, t1, e, go, en1, ow1, hd⟩ := inEs_ok hX sk q w en hc
        rw [evE, bndR e, if_pos (by rw [hd.length]; exact z)]
        exact OkX.val w go en1 ow1 (by simp only [HasTy]; exact ⟨ds, rfl, hd⟩) rfl
      · cases h
    · cases h
  | .lst es, G, r, h, W, S, t, env, w, en, hc => by
    simp only [inE] at h
    split at h
    · rename_i ts G1 c q
      split at h
      · rename_i z
        cases h
        obtain ⟨ds, S1, W1, t1, e, go, en1, ow1, hd⟩ := inEs_ok hX sk q w en hc
        rw [evE, bndR e, if_pos (by rw [hd.length]; exact z.1)]
        exact OkX.tr w go en1 ow1 (TR.new (by rw [hd.length]; exact Nat.le_refl _) (by rw [hd.length]; exact Nat.le_refl _) (HasTys.all (fun a b => sub_ok hX FT a b) z.2 hd))
      · cases h
    · cases h
  | .bin o a b, G, r, h, W, S, t, env, w, en, hc => by
    simp only [inE] at h
    split at h
    · rename_i r1 q1
      split at h
      · rename_i r2 q2
        split at h
        · rename_i u q3
          cases h
          have hc : t + (r1.c + r2.c) ≤ TM := hc
          rw [evE]
          exact two_ok w (inE_ok hX sk q1 w en (by omega)) hc (fun W1 S1 t1 w1 en1 hc1 => inE_ok hX sk q2 w1 en1 hc1) fun d1 d2 W2 S2 t2 w2 p1 p2 => binT_ok hX q3 p1 p2
        · cases h
      · cases h
    · cases h
  | .neg a, G, r, h, W, S, t, env, w, en, hc => by
    simp only [inE] at h
    split at h
    · rename_i r1 q1
      split at h
      · rename_i u q2
        cases h
        rw [evE]
        exact one_ok w (inE_ok hX sk q1 w en hc) fun d1 W1 S1 t1 w1 p1 => negT_ok hX q2 p1
      · cases h
    · cases h
  | .cmp o a b, G, r, h, W, S, t, env, w, en, hc => by
    simp only [inE] at h
    split at h
    · rename_i r1 q1
      split at h
      · rename_i r2 q2
        split at h
        · rename_i u q3
          cases h
          rw [refX_c] at hc
          have hc : t + (r1.c + r2.c) ≤ TM := hc
          refine refX_ok ?_ fun d S' hr i k j ha hb he ho => ?_
          · rw [evE]
            exact two_ok w (inE_ok hX sk q1 w en (by omega)) hc (fun W1 S1 t1 w1 en1 hc1 => inE_ok hX sk q2 w1 en1 hc1) fun d1 d2 W2 S2 t2 w2 p1 p2 => tCmp_ok hX w2 q3 p1 p2
          · subst ha hb
            have e1 : evE C (.var i) env S = .ok (.int j) S := by
              rw [evE]
              unfold getV
              rw [he]
              rfl
            rw [evE, bndR e1, evE] at hr
            have hr : o.run (.int j) (.int k) S = .ok d S' := hr
            rw [ord_run ho] at hr
            cases hr
            rfl
        · cases h
      · cases h
    · cases h
  | .chain o q a b cc, G, r, h, W, S, t, env, w, en, hc => by
    simp only [inE] at h
    split at h
    · rename_i r1 q1
      split at h
      · rename_i r2 q2
        split at h
        · rename_i u r3 q3 q4
          split at h
          · rename_i v g q5 q6
            split at h
            · rename_i z
              cases h
              have hc : t + (r1.c + r2.c + r3.c) ≤ TM := hc
              obtain ⟨j1, j2⟩ := joinEn_ok q6
              rw [evE]
              refine OkX.bind w (inE_ok hX sk q1 w en (by omega)) fun d1 S1 W1 t1 go1 en1 ow1 va1 pv1 tr1 => ?_
              have k2 := inE_ok hX sk q2 go1.wf en1 (by have := go1.t2; omega)
              obtain ⟨d2, S2, W2, t2, e2, go2, en2, ow2, va2, pv2, tr2⟩ := k2
              rw [bndR e2]
              have go12 := go1.trans go2 (fun j z _ => ow1 j z) w
              obtain ⟨b1, e3, _⟩ := (tCmp_ok hX go2.wf q3 ((va1.lv.go go1.wf go2).pv go2.wf) (va2.pv0 go2.wf)).bl z.1
              rw [bndR e3]
              cases b1 with
              | false =>
                obtain ⟨k1, k3⟩ := EnvOk.sub hX en2 j1
                exact OkX.val w (go12.weak (by omega) fun _ z => z) k1 (fun j z => ow1 j (ow2 j (k3 j z))) (by simp only [HasTy]; exact ⟨false, rfl⟩) rfl
              | true =>
                obtain ⟨d3, S3, W3, t3, e4, go3, en3, ow3, va3, pv3, tr3⟩ := inE_ok hX sk q4 go2.wf en2 (by have := go12.t2; omega)
                have go123 := go12.trans go3 (fun j z _ => ow1 j (ow2 j z)) w
                obtain ⟨b2, e5, _⟩ := (tCmp_ok hX go3.wf q5 ((va2.lv.go go2.wf go3).pv go3.wf) (va3.pv0 go3.wf)).bl z.2
                obtain ⟨k1, k3⟩ := EnvOk.sub hX en3 j2
                refine OkX.val w go123 k1 (fun j z => ow1 j (ow2 j (ow3 j (k3 j z)))) (by simp only [HasTy]; exact ⟨b2, rfl⟩) ?_
                show M.bnd (evE C cc env) _ S2 = _
                unfold M.bnd
                rw [e4]
                exact e5
            · cases h
          · cases h
        · cases h
      · cases h
    · cases h
  | .and a b, G, r, h, W, S, t, env, w, en, hc => by
    simp only [inE] at h
    split at h
    · rename_i r1 q1
      rw [evE]
      have := andX_c h
      exact andX_ok hX w (inE_ok hX sk q1 w en (by omega)) h hc fun g r2 W1 S1 t1 q2 w1 en1 hc1 => inE_ok hX sk q2 w1 en1 hc1
    · cases h
  | .or a b, G, r, h, W, S, t, env, w, en, hc => by
    simp only [inE] at h
    split at h
    · rename_i r1 q1
      rw [evE]
      have := orX_c h
      exact orX_ok hX w (inE_ok hX sk q1 w en (by omega)) h hc fun g r2 W1 S1 t1 q2 w1 en1 hc1 => inE_ok hX sk q2 w1 en1 hc1
    · cases h
  | .not a, G, r, h, W, S, t, env, w, en, hc => by
    simp only [inE] at h
    split at h
    · rename_i r1 q1
      rw [evE]
      have := notX_c h
      exact notX_ok hX (inE_ok hX sk q1 w en (by omega)) h
    · cases h
  | .ife cc a b, G, r, h, W, S, t, env, w, en, hc => by
    simp only [inE] at h
    split at h
    · rename_i r1 q1
      rw [evE]
      have := ifeX_c h
      exact ifeX_ok hX w (inE_ok hX sk q1 w en (by omega)) h hc (fun g r2 W1 S1 t1 q2 w1 en1 hc1 => inE_ok hX sk q2 w1 en1 hc1) fun g r2 W1 S1 t1 q2 w1 en1 hc1 => inE_ok hX sk q2 w1 en1 hc1
    · cases h
  | .ix a i, G, r, h, W, S, t, env, w, en, hc => by
    simp only [inE] at h
    split at h
    · rename_i r1 q1
      split at h
      · rename_i r2 q2
        split at h
        · rename_i u q3
          cases h
          have hc : t + (r1.c + r2.c) ≤ TM := hc
          rw [evE]
          exact two_ok w (inE_ok hX sk q1 w en (by omega)) hc (fun W1 S1 t1 w1 en1 hc1 => inE_ok hX sk q2 w1 en1 hc1) fun d1 d2 W2 S2 t2 w2 p1 p2 => ixT_ok hX q3 p1 p2
        · cases h
      · cases h
    · cases h
  | .slLo a l, G, r, h, W, S, t, env, w, en, hc => by
    simp only [inE] at h
    split at h
    · rename_i r1 q1
      split at h
      · rename_i r2 q2
        split at h
        · rename_i q q3
          split at h
          · rename_i u q4
            cases h
            have hc : t + (r1.c + r2.c) ≤ TM := hc
            rw [evE]
            refine two_ok (f := fun x l => do
              let l ← dPart l
              dSl x l none) w (inE_ok hX sk q1 w en (by omega)) hc (fun W1 S1 t1 w1 en1 hc1 => inE_ok hX sk q2 w1 en1 hc1) fun d1 d2 W2 S2 t2 w2 p1 p2 => ?_
            obtain ⟨x, y⟩ := q
            obtain ⟨i, rfl, i1, i2⟩ := PV.int hX p2 q3
            exact slT_ok hX q4 p1 ⟨i, rfl, i1, i2⟩ rfl
          · cases h
        · cases h
      · cases h
    · cases h
  | .slHi a l, G, r, h, W, S, t, env, w, en, hc => by
    simp only [inE] at h
    split at h
    · rename_i r1 q1
      split at h
      · rename_i r2 q2
        split at h
        · rename_i q q3
          split at h
          · rename_i u q4
            cases h
            have hc : t + (r1.c + r2.c) ≤ TM := hc
            rw [evE]
            refine two_ok (f := fun x l => do
              let l ← dPart l
              dSl x none l) w (inE_ok hX sk q1 w en (by omega)) hc (fun W1 S1 t1 w1 en1 hc1 => inE_ok hX sk q2 w1 en1 hc1) fun d1 d2 W2 S2 t2 w2 p1 p2 => ?_
            obtain ⟨x, y⟩ := q
            obtain ⟨i, rfl, i1, i2⟩ := PV.int hX p2 q3
            exact slT_ok hX q4 p1 rfl ⟨i, rfl, i1, i2⟩
          · cases h
        · cases h
      · cases h
    · cases h
  | .slLH a l hh, G, r, h, W, S, t, env, w, en, hc => by
    simp only [inE] at h
    split at h
    · rename_i r1 q1
      split at h
      · rename_i r2 q2
        split at h
        · rename_i r3 q3
          split at h
          · rename_i x2 x3 q4 q5
            split at h
            · rename_i u q6
              cases h
              have hc : t + (r1.c + r2.c + r3.c) ≤ TM := hc
              rw [evE]
              refine OkX.bind w (inE_ok hX sk q1 w en (by omega)) fun d1 S1 W1 t1 go1 en1 ow1 va1 pv1 tr1 => ?_
              obtain ⟨d2, S2, W2, t2, e2, go2, en2, ow2, va2, pv2, tr2⟩ := inE_ok hX sk q2 go1.wf en1 (by have := go1.t2; omega)
              rw [bndR e2]
              have go12 := go1.trans go2 (fun j z _ => ow1 j z) w
              obtain ⟨x, y⟩ := x2
              obtain ⟨i, rfl, i1, i2⟩ := PV.int hX (va2.pv0 go2.wf) q4
              rw [bndR part_ok]
              obtain ⟨d3, S3, W3, t3, e4, go3, en3, ow3, va3, pv3, tr3⟩ := inE_ok hX sk q3 go2.wf en2 (by have := go12.t2; omega)
              rw [bndR e4]
              have go123 := go12.trans go3 (fun j z _ => ow1 j (ow2 j z)) w
              obtain ⟨x', y'⟩ := x3
              obtain ⟨i', rfl, i1', i2'⟩ := PV.int hX (va3.pv0 go3.wf) q5
              rw [bndR part_ok]
              exact OkX.tr w go123 en3 (fun j z => ow1 j (ow2 j (ow3 j z))) (slT_ok hX q6 (((va1.lv.go go1.wf go2).go go2.wf go3).pv go3.wf) ⟨i, rfl, i1, i2⟩ ⟨i', rfl, i1', i2'⟩)
            · cases h
          · cases h
        · cases h
      · cases h
    · cases h
  | .call f es, G, r, h, W, S, t, env, w, en, hc => by
    simp only [inE] at h
    split at h
    · rename_i ts G1 c q
      split at h
      · rename_i u c1 q2
        cases h
        have hc : t + (c + c1) ≤ TM := hc
        rw [evE]
        exact call_ok sk w (inEs_ok hX sk q w en (by omega)) q2 hc
      · cases h
    · cases h
  | .callv i es, G, r, h, W, S, t, env, w, en, hc => by
    simp only [inE] at h
    split at h
    · rename_i f q0
      split at h
      · rename_i ts G1 c q
        split at h
        · rename_i u c1 q2
          cases h
          have hc : t + (c + c1) ≤ TM := hc
          obtain ⟨d, h1, h2⟩ := en.at_ i _ q0
          have h2 : HasTy p W (.fnc f) d := h2
          simp only [HasTy] at h2
          subst h2
          have e1 : getV env i S = .ok (.fn f) S := by
            unfold getV
            rw [h1]
            rfl
          rw [evE, bndR e1]
          exact call_ok sk w (inEs_ok hX sk q w en (by omega)) q2 hc
        · cases h
      · cases h
    · cases h
  | .blt b es, G, r, h, W, S, t, env, w, en, hc => by
    simp only [inE] at h
    split at h
    · rename_i ts G1 c q
      split at h
      · rename_i u q2
        cases h
        obtain ⟨ds, S1, W1, t1, e, go, en1, ow1, hd⟩ := inPs_ok hX sk q w en hc
        rw [evE, bndR e]
        exact OkX.tr w go en1 ow1 (bltT_ok hX q2 (hd.pvs go.wf))
      · cases h
    · cases h
  | .isi y a, G, r, h, W, S, t, env, w, en, hc => by
    simp only [inE] at h
    split at h
    · rename_i r1 q1
      split at h
      · rename_i u q2
        cases h
        rw [evE]
        exact one_ok w (inE_ok hX sk q1 w en hc) fun d1 W1 S1 t1 w1 p1 => isiT_ok hX q2 p1
      · cases h
    · cases h
  | .mth _ _ _, G, r, h, W, S, t, env, w, en, hc => by
    simp only [inE] at h
    cases h
  | .lc own tg k es ifs elt, G, r, h, W, S, t, env, w, en, hc => by
    simp only [inE] at h
    unfold lcX at h
    split at h
    · rename_i ts G1 c q1
      split at h
      · rename_i u a b q2
        split at h
        · rename_i G2 q3
          split at h
          · rename_i G3 c2 all q4
            split at h
            · rename_i r2 q5
              split at h
              · rename_i hb
                cases h
                have hc : t + (c + b * (c2 + r2.c)) ≤ TM := hc
                obtain ⟨ds, S1, W1, t1, e1, go1, en1, ow1, hd⟩ := inPs_ok hX sk q1 w en (by omega)
                obtain ⟨it, e2, l1, l2, l3, stb⟩ := itsT_ok (B := fun k => k ≠ .dk) hX (fun _ z => nomatch z) (fun _ z => nomatch z) q2 (fun _ _ _ z => nomatch z) hd go1.wf
                obtain ⟨en0, no0⟩ := en1.dropOwn
                obtain ⟨en0, ow0⟩ := en0.wipe (is := own)
                have no0 : ∀ j, ¬ Own (wipeEn (dropOwn G1) own) (wipeF env own) j := fun j z => no0 j (ow0 j z)
                have hm : it.ds.length * (c2 + r2.c) ≤ b * (c2 + r2.c) := Nat.mul_le_mul_right _ l2
                obtain ⟨xs, S2, W2, t2, e3, go2, x1, x2, x3⟩ := lcF_ok (u := (frz r2).1) (q := it.ok) (put := tg.put) (cond := condF C ifs) (elt := fun e => evE C elt e) (G0 := wipeEn (dropOwn G1) own) (env0 := wipeF env own) (it := u) (cc := c2 + r2.c) (all := all)
                  (fun d W S t hd w en hc => by
                    obtain ⟨e2', p1, p2, p3⟩ := putT_ok (S := S) hX q3 en hd
                    have none2 : ∀ j, ¬ Own G2 e2' j := fun j z => no0 j (p3 j z)
                    obtain ⟨k, S1, W1, t1, k1, g1, h1, h2⟩ := inIf_ok hX sk q4 w p2 (by omega)
                    refine ⟨e2', k, S1, W1, t1, c2, p1, k1, g1.weak (Nat.le_refl _) (fun j z => none2 j z), by omega, h1, fun hk => ?_⟩
                    obtain ⟨x, k2, k3⟩ := h2 hk
                    cases k2
                    obtain ⟨y, S2, W2, t2, k4, g2, _, _, k5⟩ := (inE_ok hX sk q5 g1.wf k3.1 (by have := g1.t2; omega)).frz g1.wf k3.1
                    exact ⟨y, S2, W2, t2, r2.c, k4, g2.weak (Nat.le_refl _) (fun j z => none2 j (k3.2 j z)), k5, by omega⟩) it.ds [] W1 S1 t1 l3 (fun _ z => by cases z) go1.wf en0 (fun W' S' t' c' g => stb S' fun j kd h1 h2 => g.same go1.wf h1 h2) (by simp only [List.length_nil]; omega) (by have := go1.t2; omega)
                rw [lc_run e1 e2 e3]
                have go12 := go1.trans go2 (fun _ z _ => z.elim) w
                refine OkX.tr w (go12.weak (by omega) fun _ z => z) (en1.go go2) ow1 (TR.new ?_ ?_ x1)
                · split at x2
                  · rw [if_pos (by assumption)]
                    simp only [List.length_nil] at x2
                    omega
                  · rw [if_neg (by assumption)]
                    exact Nat.zero_le _
                · simp only [List.length_nil] at x3
                  omega
              · cases h
            · cases h
          · rename_i c2 all q4
            split at h
            · rename_i hb
              cases h
              have hc : t + (c + b * c2) ≤ TM := hc
              obtain ⟨ds, S1, W1, t1, e1, go1, en1, ow1, hd⟩ := inPs_ok hX sk q1 w en (by omega)
              obtain ⟨it, e2, l1, l2, l3, stb⟩ := itsT_ok (B := fun k => k ≠ .dk) hX (fun _ z => nomatch z) (fun _ z => nomatch z) q2 (fun _ _ _ z => nomatch z) hd go1.wf
              obtain ⟨en0, no0⟩ := en1.dropOwn
              obtain ⟨en0, ow0⟩ := en0.wipe (is := own)
              have no0 : ∀ j, ¬ Own (wipeEn (dropOwn G1) own) (wipeF env own) j := fun j z => no0 j (ow0 j z)
              have hm : it.ds.length * c2 ≤ b * c2 := Nat.mul_le_mul_right _ l2
              obtain ⟨xs, S2, W2, t2, e3, go2, x1, x2, x3⟩ := lcF_ok (u := .bot) (q := it.ok) (put := tg.put) (cond := condF C ifs) (elt := fun e => evE C elt e) (G0 := wipeEn (dropOwn G1) own) (env0 := wipeF env own) (it := u) (cc := c2) (all := false)
                (fun d W S t hd w en hc => by
                  obtain ⟨e2', p1, p2, p3⟩ := putT_ok (S := S) hX q3 en hd
                  have none2 : ∀ j, ¬ Own G2 e2' j := fun j z => no0 j (p3 j z)
                  obtain ⟨k, S1, W1, t1, k1, g1, h1, h2⟩ := inIf_ok hX sk q4 w p2 (by omega)
                  refine ⟨e2', k, S1, W1, t1, c2, p1, k1, g1.weak (Nat.le_refl _) (fun j z => none2 j z), by omega, (fun z => nomatch z), fun hk => ?_⟩
                  obtain ⟨x, k2, k3⟩ := h2 hk
                  cases k2) it.ds [] W1 S1 t1 l3 (fun _ z => by cases z) go1.wf en0 (fun W' S' t' c' g => stb S' fun j kd h1 h2 => g.same go1.wf h1 h2) (by simp only [List.length_nil]; omega) (by have := go1.t2; omega)
              rw [lc_run e1 e2 e3]
              have hn : xs = [] := by
                cases xs with
                | nil => rfl
                | cons x xs =>
                  have := x1 x List.mem_cons_self
                  simp only [HasTy] at this
              subst hn
              have go12 := go1.trans go2 (fun _ z _ => z.elim) w
              exact OkX.tr w (go12.weak (by omega) fun _ z => z) (en1.go go2) ow1 (TR.new (Nat.zero_le _) (Nat.le_refl _) x1)
            · cases h
          · cases h
        · cases h
      · cases h
    · cases h
theorem inIf_ok (hX : PrOk p) (sk : SgOk p C sg) : ∀ {es : List E} {G : En} {g : Option En} {c : Nat} {all : Bool}, inIf p sg es G = some (g, c, all) → ∀ {W : Wl} {S : Store} {t : Nat} {env : Fr}, WF p t W S → EnvOk p W S G env → t + c ≤ TM →
    ∃ k S1 W1 t1, condF C es env S = .ok (.bl k) S1 ∧ Go p W S t (Own G env) W1 S1 t1 c ∧ (all = true → k = true) ∧ (k = true → ∃ x, g = some x ∧ Kn p W1 S1 G x env)
  | [], G, g, c, all, h, W, S, t, env, w, en, hc => by
    simp only [inIf] at h
    cases h
    exact ⟨true, S, W, t, rfl, Go.refl w, fun _ => rfl, fun _ => ⟨G, rfl, en, fun _ z => z⟩⟩
  | [q], G, g, c, all, h, W, S, t, env, w, en, hc => by
    simp only [inIf] at h
    split at h
    · rename_i rc q6
      split at h
      · rename_i hbl
        simp only [Option.some.injEq, Prod.mk.injEq] at h
        obtain ⟨z1, z2, z3⟩ := h
        subst z2 z3
        obtain ⟨k, S1, W1, t1, k1, g1, x, k2, k3⟩ := (inE_ok hX sk q6 w en hc).truth hbl
        refine ⟨k, S1, W1, t1, k1, g1, (fun z => nomatch z), fun hk => ?_⟩
        subst hk
        rw [if_pos rfl] at k2
        exact ⟨x, by rw [← z1]; exact k2, k3⟩
      · cases h
    · cases h
  | _ :: _ :: _, G, g, c, all, h, W, S, t, env, w, en, hc => by
    simp only [inIf] at h
    cases h
theorem inEs_ok (hX : PrOk p) (sk : SgOk p C sg) : ∀ {es : List E} {G : En} {ts : List Ty2} {G1 : En} {c : Nat}, inEs p sg es G = some (ts, G1, c) → ∀ {W : Wl} {S : Store} {t : Nat} {env : Fr}, WF p t W S → EnvOk p W S G env → t + c ≤ TM → OkFs p (evEs C es env S) W S t G env ts G1 c
  | [], G, ts, G1, c, h, W, S, t, env, w, en, hc => by
    simp only [inEs] at h
    cases h
    rw [evEs]
    exact ⟨[], S, W, t, rfl, Go.refl w, en, fun _ z => z, by simp only [HasTys]⟩
  | e :: es, G, ts, G1, c, h, W, S, t, env, w, en, hc => by
    simp only [inEs] at h
    split at h
    · rename_i r1 q1
      split at h
      · rename_i ts' G2 c2 q2
        cases h
        obtain ⟨d, S1, W1, t1, e1, go1, en1, ow1, va1⟩ := (inE_ok hX sk q1 w en (by omega)).frz w en
        obtain ⟨ds, S2, W2, t2, e2, go2, en2, ow2, hd⟩ := inEs_ok hX sk q2 go1.wf en1 (by have := go1.t2; omega)
        refine ⟨d :: ds, S2, W2, t2, ?_, go1.trans go2 (fun j z _ => ow1 j z) w, en2, fun j z => ow1 j (ow2 j z), ?_⟩
        · rw [evEs, bndR e1, bndR e2]
          rfl
        · simp only [HasTys]
          exact ⟨d, ds, rfl, va1.mono go2.ext, hd⟩
      · cases h
    · cases h
theorem inPs_ok (hX : PrOk p) (sk : SgOk p C sg) : ∀ {es : List E} {G : En} {ts : List Ty2} {G1 : En} {c : Nat}, inPs p sg es G = some (ts, G1, c) → ∀ {W : Wl} {S : Store} {t : Nat} {env : Fr}, WF p t W S → EnvOk p W S G env → t + c ≤ TM → OkPs p (evEs C es env S) W S t G env ts G1 c
  | [], G, ts, G1, c, h, W, S, t, env, w, en, hc => by
    simp only [inPs] at h
    cases h
    rw [evEs]
    exact ⟨[], S, W, t, rfl, Go.refl w, en, fun _ z => z, .nil⟩
  | e :: es, G, ts, G1, c, h, W, S, t, env, w, en, hc => by
    simp only [inPs] at h
    split at h
    · rename_i r1 q1
      split at h
      · rename_i ts' G2 c2 q2
        cases h
        obtain ⟨d, S1, W1, t1, e1, go1, en1, ow1, va1, _, _⟩ := inE_ok hX sk q1 w en (by omega)
        obtain ⟨ds, S2, W2, t2, e2, go2, en2, ow2, hd⟩ := inPs_ok hX sk q2 go1.wf en1 (by have := go1.t2; omega)
        refine ⟨d :: ds, S2, W2, t2, ?_, go1.trans go2 (fun j z _ => ow1 j z) w, en2, fun j z => ow1 j (ow2 j z), .cons (va1.lv.go go1.wf go2) hd⟩
        rw [evEs, bndR e1, bndR e2]
        rfl
      · cases h
    · cases h
end
end
end Ev
namespace Ev
open PySem PySem.Spec PyProof.Rows
/-! ### the interpreter of statements -/
structure Rs where
  nx : Option En
  bk : Option En
  ct : Option En
  rt : Option Ty2
  c : Nat
def joinR (p : Prm) : Option Ty2 → Option Ty2 → Option (Option Ty2)
  | none, x => some x
  | some a, none => some (some a)
  | some a, some b => (join p a b).map some
def joinS (p : Prm) (a b : Rs) (c : Nat) : Option Rs := match joinO p a.nx b.nx, joinO p a.bk b.bk, joinO p a.ct b.ct, joinR p a.rt b.rt with
  | some n, some k, some t, some r => some ⟨n, k, t, r, c⟩
  | _, _, _, _ => none
def setX (r : Rx) (i : Nat) : En := match r.ty, r.pv with
  | .own t a b, none => r.G.set i (some (.own t a b))
  | _, _ => (frz r).2.set i (some (frz r).1)
def nxt (G : En) (c : Nat) : Rs := ⟨some G, none, none, none, c⟩
def seqS (p : Prm) (a : Rs) (k : En → Option Rs) : Option Rs := match a.nx with
  | none => some a
  | some g => match k g with
    | some b => match joinO p a.bk b.bk, joinO p a.ct b.ct, joinR p a.rt b.rt with
      | some x, some y, some z => some ⟨b.nx, x, y, z, a.c + b.c⟩
      | _, _, _ => none
    | none => none
def ifS (p : Prm) (r : Rx) (ka kb : En → Option Rs) : Option Rs := if isBl r.ty = true then (match r.tG, r.fG with
  | some g, none => (ka g).map fun s => { s with c := r.c + s.c }
  | none, some g => (kb g).map fun s => { s with c := r.c + s.c }
  | some g1, some g2 => match ka g1, kb g2 with
    | some a, some b => joinS p a b (r.c + max a.c b.c)
    | _, _ => none
  | none, none => none) else none
/-- a for, turn by turn; lo: so many turns at the least -/
def loopX (p : Prm) (put : En → Option En) (f : En → Option Rs) : Nat → Nat → En → Option Rs
  | _, 0, G => some (nxt G 0)
  | lo, n + 1, G => match put G with
    | some G1 => match f G1 with
      | some rb => match joinO p rb.nx rb.ct with
        | some none => match joinO p (if lo = 0 then some G else none) rb.bk with
          | some x => some ⟨x, none, none, rb.rt, rb.c⟩
          | none => none
        | some (some G2) => if subEn p G2 G = true then (match joinO p (some G) rb.bk with
            | some x => some ⟨x, none, none, rb.rt, (n + 1) * rb.c⟩
            | none => none) else match loopX p put f (lo - 1) n G2 with
          | some rr => match joinO p (if lo = 0 then some G else none) rb.bk with
            | some x => match joinO p x rr.nx, joinR p rb.rt rr.rt with
              | some y, some z => some ⟨y, none, none, z, rb.c + rr.c⟩
              | _, _ => none
            | none => none
          | none => none
        | none => none
      | none => none
    | none => none
/-- l.append(e) and the like, l the frame's own -/
def appX (p : Prm) (k : Nat) (args : Option (List Ty2 × En × Nat)) : Option Rs := match args with
  | some ([u], G1, c) => match G1[k]? with
    | some (some (.own t a b)) => match join p t u with
      | some v => if b + 1 ≤ LINE then some (nxt (G1.set k (some (.own v (a + 1) (b + 1)))) c) else none
      | none => none
    | _ => none
  | _ => none
/-- l[i] = e, l the frame's own -/
def subX (p : Prm) (k : Nat) (re : Rx) (ri : En → Option Rx) : Option Rs := match ri (frz re).2 with
  | some r => match r.G[k]?, asInt p r.ty with
    | some (some (.own t a b)), some (c, d) => if -(a : Int) ≤ c ∧ d < a then (match join p t (frz re).1 with
      | some v => some (nxt (r.G.set k (some (.own v a b))) (re.c + r.c))
      | none => none) else none
    | _, _ => none
  | none => none
section
variable (p : Prm) (sg : Sg)
mutual
def inS : St → En → Option Rs
  | .set i e, G => match inE p sg e G with
    | some r => if i < r.G.length then some (nxt (setX r i) r.c) else none
    | none => none
  | .asg tg e, G => match inE p sg e G with
    | some r => match putT p tg (frz r).1 (frz r).2 with
      | some G1 => some (nxt G1 r.c)
      | none => none
    | none => none
  | .par2 i j a b, G => match inEs p sg [a, b] G with
    | some ([t, u], G1, c) => some (nxt ((G1.set i (some t)).set j (some u)) c)
    | _ => none
  | .par3 i j k a b d, G => match inEs p sg [a, b, d] G with
    | some ([t, u, v], G1, c) => some (nxt (((G1.set i (some t)).set j (some u)).set k (some v)) c)
    | _ => none
  | .sub o i e, G => match o with
    | .var k => match inE p sg e G with
      | some re => subX p k re fun g => inE p sg i g
      | none => none
    | _ => none
  | .drop e, G => match e with
    | .mth .append (.var k) es => match G[k]? with
      | some (some (.own _ _ _)) => appX p k (inEs p sg es G)
      | _ => none
    | e => match inE p sg e G with
      | some r => some (nxt r.G r.c)
      | none => none
  | .ret e, G => match inE p sg e G with
    | some r => some ⟨none, none, none, some r.ty, r.c⟩
    | none => none
  | .retN, _ => some ⟨none, none, none, some .non, 0⟩
  | .ife c a b, G => match inE p sg c G with
    | some r => ifS p r (fun g => inSs a g) fun g => inSs b g
    | none => none
  | .whl _ _, _ => none
  | .for tg k es b, G => match inEs p sg es G with
    | some (ts, G1, c) => match itsT p k ts with
      | some (t, lo, n) => match loopX p (fun g => putT p tg t g) (fun g => inSs b g) lo n G1 with
        | some r => some { r with c := c + r.c }
        | none => none
      | none => none
    | none => none
  | .aug i o e, G => match G[i]? with
    | some (some (.int a b)) => match inE p sg e G with
      | some r => match asInt p r.ty, o with
        | some (c, d), .add => some (nxt (r.G.set i (some (.int (a + c) (b + d)))) r.c)
        | some (c, d), .sub => some (nxt (r.G.set i (some (.int (a - d) (b - c)))) r.c)
        | _, _ => none
      | none => none
    | _ => none
  | .pass, G => some (nxt G 0)
  | .brk, G => some ⟨none, some G, none, none, 0⟩
  | .cont, G => some ⟨none, none, some G, none, 0⟩
  | .raise _, _ => none
def inSs : List St → En → Option Rs
  | [], G => some (nxt G 0)
  | s :: ss, G => match inS s G with
    | some a => seqS p a fun g => inSs ss g
    | none => none
end
/-- a def at these types -/
def inF (fd : FD) (ts : List Ty2) : Option (Ty2 × Nat) := if ts.length = fd.ps ∧ fd.ps ≤ fd.slots then (match inSs p sg fd.body (ts.map some ++ List.replicate (fd.slots - fd.ps) none) with
  | some r => match r.bk, r.ct, joinR p r.rt (r.nx.map fun _ => .non) with
    | none, none, some (some u) => some (u, r.c)
    | _, _, _ => none
  | none => none) else none
end
/-! ### what it says -/
structure GoM (p : Prm) (W : Wl) (S : Store) (t : Nat) (O : Nat → Prop) (W' : Wl) (S' : Store) (t' c : Nat) : Prop where
  ext : Ext W W'
  wf : WF p t' W' S'
  t1 : t ≤ t'
  t2 : t' ≤ t + c
  fr : ∀ (j : Nat), W[j]? = some .ow → ¬ O j → S'[j]? = S[j]? ∧ W'[j]? = some .ow
  grow : S.length ≤ S'.length
def KnS (p : Prm) (W : Wl) (S : Store) (n : Nat) (G0 : En) (env0 : Fr) (G : En) (env : Fr) : Prop := EnvOk p W S G env ∧ ∀ j, Own G env j → Own G0 env0 j ∨ n ≤ j
def FlOk (p : Prm) (W' : Wl) (S' : Store) (n : Nat) (G : En) (env : Fr) (r : Rs) (fl : Fl) (env' : Fr) : Prop := match fl with
  | .nx => ∃ g, r.nx = some g ∧ KnS p W' S' n G env g env'
  | .bk => ∃ g, r.bk = some g ∧ KnS p W' S' n G env g env'
  | .ct => ∃ g, r.ct = some g ∧ KnS p W' S' n G env g env'
  | .rt d => ∃ u, r.rt = some u ∧ Val p W' S' u d ∧ (isOwn u = true → ∃ j : Nat, d = .ref j ∧ (Own G env j ∨ n ≤ j))
def OkS (p : Prm) (res : Res (Fl × Fr)) (W : Wl) (S : Store) (t : Nat) (G : En) (env : Fr) (r : Rs) : Prop :=
  ∃ fl env' S' W' t', res = .ok (fl, env') S' ∧ GoM p W S t (Own G env) W' S' t' r.c ∧ FlOk p W' S' S.length G env r fl env'
section
variable {p : Prm} {W W1 W2 : Wl} {S S1 S2 : Store} {t t1 t2 c c1 c2 : Nat} {O O1 O2 : Nat → Prop} {G G1 G2 : En} {env env1 : Fr} {u v : Ty2} {d : D} {res : Res D} {r : Rx} {rs : Rs}
theorem Go.m (a : Go p W S t O W1 S1 t1 c) : GoM p W S t O W1 S1 t1 c :=
  ⟨a.ext, a.wf, a.t1, a.t2, fun j h n => by
    obtain ⟨h1, h2⟩ := a.fr j h
    rcases h2 with h2 | ⟨h2, _⟩
    · exact ⟨h1, h2⟩
    · exact absurd h2 n, a.grow⟩
theorem GoM.trans (a : GoM p W S t O W1 S1 t1 c1) (b : GoM p W1 S1 t1 O1 W2 S2 t2 c2) (ho : ∀ j, O1 j → j < S.length → O j) (w : WF p t W S) : GoM p W S t O W2 S2 t2 (c1 + c2) where
  ext := a.ext.trans b.ext
  wf := b.wf
  t1 := Nat.le_trans a.t1 b.t1
  t2 := by have := a.t2; have := b.t2; omega
  fr := fun j h n => by
    obtain ⟨h1, h2⟩ := a.fr j h n
    obtain ⟨k1, k2⟩ := b.fr j h2 fun z => n (ho j z (Go.lt w h))
    exact ⟨k1.trans h1, k2⟩
  grow := Nat.le_trans a.grow b.grow
theorem GoM.weak (a : GoM p W S t O W1 S1 t1 c) (h : c ≤ c1) (ho : ∀ j, O j → O1 j) : GoM p W S t O1 W1 S1 t1 c1 :=
  ⟨a.ext, a.wf, a.t1, by have := a.t2; omega, fun j h n => a.fr j h fun z => n (ho j z), a.grow⟩
theorem KnS.lt {n : Nat} {G0 : En} {env0 : Fr} (k : KnS p W S n G0 env0 G env) {j : Nat} (h : Own G env j) (hl : j < n) : Own G0 env0 j := by
  rcases k.2 j h with z | z
  · exact z
  · omega
/-- one statement behind another -/
theorem FlOk.from {n m : Nat} {G0 : En} {env0 : Fr} {fl : Fl} {env' : Fr} (hn : n ≤ m) (k : ∀ j, Own G env j → Own G0 env0 j ∨ n ≤ j) (h : FlOk p W S m G env rs fl env') : FlOk p W S n G0 env0 rs fl env' := by
  have key : ∀ {g : En} {e : Fr}, KnS p W S m G env g e → KnS p W S n G0 env0 g e := fun ⟨a, b⟩ => ⟨a, fun j z => by
    rcases b j z with b | b
    · exact k j b
    · exact .inr (by omega)⟩
  cases fl with
  | nx => obtain ⟨g, h1, h2⟩ := h; exact ⟨g, h1, key h2⟩
  | bk => obtain ⟨g, h1, h2⟩ := h; exact ⟨g, h1, key h2⟩
  | ct => obtain ⟨g, h1, h2⟩ := h; exact ⟨g, h1, key h2⟩
  | rt d =>
    obtain ⟨u, h1, h2, h3⟩ := h
    refine ⟨u, h1, h2, fun ho => ?_⟩
    obtain ⟨j, e, z⟩ := h3 ho
    refine ⟨j, e, ?_⟩
    rcases z with z | z
    · exact k j z
    · exact .inr (by omega)
theorem OkS.from (w : WF p t W S) (go : GoM p W S t (Own G env) W1 S1 t1 c) {res : Res (Fl × Fr)} (kn : ∀ j, Own G1 env1 j → Own G env j ∨ S.length ≤ j) (h : OkS p res W1 S1 t1 G1 env1 rs) : OkS p res W S t G env { rs with c := c + rs.c } := by
  obtain ⟨fl, e', S2, W2, t2, e, go2, f⟩ := h
  refine ⟨fl, e', S2, W2, t2, e, go.trans go2 (fun j z hl => ?_) w, ?_⟩
  · rcases kn j z with q | q
    · exact q
    · omega
  · have := FlOk.from go.grow kn f
    cases fl <;> exact this
theorem okNx {res : Res (Fl × Fr)} (go : GoM p W S t (Own G env) W1 S1 t1 c) (e : res = .ok (.nx, env1) S1) (k : KnS p W1 S1 S.length G env G1 env1) : OkS p res W S t G env (nxt G1 c) := ⟨.nx, env1, S1, W1, t1, e, go, G1, rfl, k⟩
variable (hX : PrOk p)
include hX in
theorem joinO_ls {n : Nat} {G0 : En} {env0 : Fr} {a b : Option En} {g : Option En} (h : joinO p a b = some g) {x : En} (ha : a = some x) (k : KnS p W S n G0 env0 x env) : ∃ y, g = some y ∧ KnS p W S n G0 env0 y env := by
  subst ha
  cases b with
  | none => cases h; exact ⟨x, rfl, k⟩
  | some b =>
    unfold joinO at h
    rw [Option.map_eq_some_iff] at h
    obtain ⟨y, h1, rfl⟩ := h
    obtain ⟨k1, k2⟩ := EnvOk.sub hX k.1 (joinEn_ok h1).1
    exact ⟨y, rfl, k1, fun j z => k.2 j (k2 j z)⟩
include hX in
theorem joinO_rs {n : Nat} {G0 : En} {env0 : Fr} {a b : Option En} {g : Option En} (h : joinO p a b = some g) {x : En} (ha : b = some x) (k : KnS p W S n G0 env0 x env) : ∃ y, g = some y ∧ KnS p W S n G0 env0 y env := by
  subst ha
  cases a with
  | none => cases h; exact ⟨x, rfl, k⟩
  | some a =>
    unfold joinO at h
    rw [Option.map_eq_some_iff] at h
    obtain ⟨y, h1, rfl⟩ := h
    obtain ⟨k1, k2⟩ := EnvOk.sub hX k.1 (joinEn_ok h1).2
    exact ⟨y, rfl, k1, fun j z => k.2 j (k2 j z)⟩
/-- a returned value -/
def RtOk (p : Prm) (W : Wl) (S : Store) (n : Nat) (G : En) (env : Fr) (u : Ty2) (d : D) : Prop := Val p W S u d ∧ (isOwn u = true → ∃ j : Nat, d = .ref j ∧ (Own G env j ∨ n ≤ j))
theorem ownOf_ref (h : Val p W S u d) (ho : isOwn u = true) : ∃ t a b, u = .own t a b := by
  cases u <;> first
    | exact ⟨_, _, _, rfl⟩
    | cases ho
include hX in
theorem RtOk.sub {n : Nat} (h : RtOk p W S n G env u d) (hs : subT p u v = true) : RtOk p W S n G env v d := by
  refine ⟨Val.sub hX h.1 hs, fun ho => ?_⟩
  by_cases hu : isOwn u = true
  · exact h.2 hu
  · exfalso
    have hu : isOwn u = false := by simpa using hu
    have hv := Val.sub hX h.1 hs
    have k := h.1.has hu
    cases v <;> first
      | (cases ho; done)
      | skip
    unfold subT at hs
    split at hs
    · cases hu
    · exact sub_ownF FT hX hs k
include hX in
theorem joinR_l {n : Nat} {a b g : Option Ty2} (h : joinR p a b = some g) (ha : a = some u) (k : RtOk p W S n G env u d) : ∃ y, g = some y ∧ RtOk p W S n G env y d := by
  subst ha
  cases b with
  | none => cases h; exact ⟨u, rfl, k⟩
  | some b =>
    unfold joinR at h
    rw [Option.map_eq_some_iff] at h
    obtain ⟨y, h1, rfl⟩ := h
    exact ⟨y, rfl, k.sub hX (join_ok h1).1⟩
include hX in
theorem joinR_r {n : Nat} {a b g : Option Ty2} (h : joinR p a b = some g) (ha : b = some u) (k : RtOk p W S n G env u d) : ∃ y, g = some y ∧ RtOk p W S n G env y d := by
  subst ha
  cases a with
  | none => cases h; exact ⟨u, rfl, k⟩
  | some a =>
    unfold joinR at h
    rw [Option.map_eq_some_iff] at h
    obtain ⟨y, h1, rfl⟩ := h
    exact ⟨y, rfl, k.sub hX (join_ok h1).2⟩
include hX in
theorem joinS_ok {a b : Rs} {c' n : Nat} {G0 : En} {env0 : Fr} {fl : Fl} {env' : Fr} (h : joinS p a b c' = some rs) (hf : FlOk p W S n G0 env0 a fl env' ∨ FlOk p W S n G0 env0 b fl env') : FlOk p W S n G0 env0 rs fl env' ∧ rs.c = c' := by
  unfold joinS at h
  split at h
  · rename_i x y z w h1 h2 h3 h4
    cases h
    refine ⟨?_, rfl⟩
    rcases hf with hf | hf
    · cases fl with
      | nx => obtain ⟨g, e, k⟩ := hf; exact joinO_ls hX h1 e k
      | bk => obtain ⟨g, e, k⟩ := hf; exact joinO_ls hX h2 e k
      | ct => obtain ⟨g, e, k⟩ := hf; exact joinO_ls hX h3 e k
      | rt d => obtain ⟨u, e, k⟩ := hf; exact joinR_l hX h4 e k
    · cases fl with
      | nx => obtain ⟨g, e, k⟩ := hf; exact joinO_rs hX h1 e k
      | bk => obtain ⟨g, e, k⟩ := hf; exact joinO_rs hX h2 e k
      | ct => obtain ⟨g, e, k⟩ := hf; exact joinO_rs hX h3 e k
      | rt d => obtain ⟨u, e, k⟩ := hf; exact joinR_r hX h4 e k
  · cases h
end
end Ev
namespace Ev
open PySem PySem.Spec PyProof.Rows
section
variable {p : Prm} {W W1 W2 : Wl} {S S1 S2 : Store} {t t1 t2 c c1 c2 : Nat} {O O1 O2 : Nat → Prop} {G G1 G2 : En} {env env1 : Fr} {u v : Ty2} {d : D} {r : Rx} {rs : Rs}
variable (hX : PrOk p)
/-! ### a slot set -/
theorem setX_ok {res : Res D} {i : Nat} (w : WF p t W S) (en0 : EnvOk p W S G env) (h : OkX p res W S t G env r) : ∃ d S' W' t', res = .ok d S' ∧ Go p W S t (Own G env) W' S' t' r.c ∧ KnS p W' S' S.length G env (setX r i) (env.set i (some d)) := by
  have other : (setX r i = (frz r).2.set i (some (frz r).1)) → ∃ d S' W' t', res = .ok d S' ∧ Go p W S t (Own G env) W' S' t' r.c ∧ KnS p W' S' S.length G env (setX r i) (env.set i (some d)) := fun e => by
    obtain ⟨d, S1, W1, t1, e1, go, en, ow, va⟩ := h.frz w en0
    obtain ⟨k1, k2⟩ := en.put1 (i := i) va
    exact ⟨d, S1, W1, t1, e1, go, by rw [e]; exact k1, fun j z => .inl (ow j (k2 j (by rw [← e]; exact z)))⟩
  unfold setX
  split
  · rename_i u a b q1 q2
    obtain ⟨d, S1, W1, t1, e1, go, en, ow, va, pv, _⟩ := h
    rw [q1] at va pv
    rw [q2] at pv
    obtain ⟨j, e2, hge⟩ := pv rfl
    obtain ⟨k1, k2⟩ := en.put (i := i) va (fun _ k t hk e3 o3 e4 => by
      subst e2
      have := en0.own_lt w (ow j ⟨k, t, e3, o3, e4⟩)
      omega)
    refine ⟨d, S1, W1, t1, e1, go, k1, fun m z => ?_⟩
    rcases k2 m z with z | ⟨_, z⟩
    · exact .inl (ow m z)
    · rw [e2] at z
      cases z
      exact .inr hge
  · rename_i n1
    have e : setX r i = (frz r).2.set i (some (frz r).1) := by
      unfold setX
      split
      · rename_i u a b q1 q2
        exact absurd q2 (n1 u a b q1)
      · rfl
    obtain ⟨d, S1, W1, t1, e1, go, k⟩ := other e
    rw [e] at k
    exact ⟨d, S1, W1, t1, e1, go, k⟩
/-! ### an own list changed -/
theorem own_set {j : Nat} {ys : List D} (w : WF p t W S) (h1 : W[j]? = some .ow) : GoM p W S t (fun k => k = j) W (S.set j (.lst ys)) t 0 := by
  have hl : j < S.length := Go.lt w h1
  have ne : ∀ {i : Nat}, i ≠ j → (S.set j (.lst ys))[i]? = S[i]? := fun h => List.getElem?_set_ne (fun e => h e.symm)
  have nj : ∀ {i : Nat} {k : Kd}, W[i]? = some k → k ≠ .ow → i ≠ j := fun {i k} e hk z => by
    subst z
    rw [h1] at e
    cases e
    exact hk rfl
  refine ⟨.refl, ⟨by rw [List.length_set]; exact w.len, fun i es e => ?_, fun i es e => ?_, fun i e => ?_, fun i e => ?_⟩, Nat.le_refl _, Nat.le_refl _, fun i e n => ⟨ne n, e⟩, by rw [List.length_set]; exact Nat.le_refl _⟩
  · rw [ne (nj e fun z => nomatch z)]
    exact w.fz i es e
  · rw [ne (nj e fun z => nomatch z)]
    exact w.sc i es e
  · rw [ne (nj e fun z => nomatch z)]
    exact w.dk i e
  · by_cases hi : i = j
    · subst hi
      exact ⟨ys, by rw [List.getElem?_set_self hl]⟩
    · rw [ne hi]
      exact w.ow i e
theorem own_upd {j k : Nat} {ys : List D} {t' : Ty2} {a b a' b' : Nat} (w : WF p t W S) (en : EnvOk p W S G env) (hk : G[k]? = some (some (.own t' a b))) (he : env[k]? = some (some (.ref j))) (h1 : W[j]? = some .ow)
    (l1 : a' ≤ ys.length) (l2 : ys.length ≤ b') (l3 : ∀ x ∈ ys, HasTy p W v x) : EnvOk p W (S.set j (.lst ys)) (G.set k (some (.own v a' b'))) env ∧ ∀ m, Own (G.set k (some (.own v a' b'))) env m → Own G env m := by
  have hl : j < S.length := Go.lt w h1
  have hkl : k < G.length := (List.getElem?_eq_some_iff.mp hk).1
  have get : ∀ {i : Nat} {u : Ty2}, (G.set k (some (.own v a' b')))[i]? = some (some u) → (i = k ∧ u = .own v a' b') ∨ (i ≠ k ∧ G[i]? = some (some u)) := fun {i u} e => by
    by_cases hi : i = k
    · subst hi
      rw [List.getElem?_set_self hkl] at e
      cases e
      exact .inl ⟨rfl, rfl⟩
    · rw [List.getElem?_set_ne (fun z => hi z.symm)] at e
      exact .inr ⟨hi, e⟩
  refine ⟨⟨by rw [List.length_set]; exact en.len, fun i u e => ?_, fun i l u u' x e1 o1 e2 o2 e3 e4 => ?_⟩, fun m ⟨i, u, e1, o1, e2⟩ => ?_⟩
  · rcases get e with ⟨rfl, rfl⟩ | ⟨hi, e⟩
    · exact ⟨_, he, j, ys, rfl, h1, by rw [List.getElem?_set_self hl], l1, l2, l3⟩
    · obtain ⟨x, z1, z2⟩ := en.at_ i u e
      refine ⟨x, z1, ?_⟩
      by_cases hu : isOwn u = true
      · obtain ⟨t1, a1, b1, rfl⟩ := ownOf_ref z2 hu
        obtain ⟨m, ds, rfl, m1, m2, m3⟩ := z2
        have hm : m ≠ j := fun z => by
          subst z
          exact hi (en.uniq i k _ _ _ e hu hk rfl z1 he)
        exact ⟨m, ds, rfl, m1, by rw [List.getElem?_set_ne (fun z => hm z.symm)]; exact m2, m3⟩
      · exact Val.of (z2.has (by simpa using hu))
  · rcases get e1 with ⟨rfl, rfl⟩ | ⟨hi, f1⟩
    · rcases get e2 with ⟨rfl, rfl⟩ | ⟨hl2, f2⟩
      · rfl
      · exact en.uniq _ l _ u' x hk rfl f2 o2 e3 e4
    · rcases get e2 with ⟨rfl, rfl⟩ | ⟨hl2, f2⟩
      · exact en.uniq i _ u _ x f1 o1 hk rfl e3 e4
      · exact en.uniq i l u u' x f1 o1 f2 o2 e3 e4
  · rcases get e1 with ⟨rfl, rfl⟩ | ⟨hi, e1⟩
    · exact ⟨_, _, hk, rfl, e2⟩
    · exact ⟨i, u, e1, o1, e2⟩
variable {C : Nat → List D → M D} {sg : Sg}
include hX in
theorem appX_ok {k : Nat} {es : List E} {t0 : Ty2} {a0 b0 : Nat} (hk : G[k]? = some (some (.own t0 a0 b0))) {args : Option (List Ty2 × En × Nat)} (h : appX p k args = some rs) (w : WF p t W S) (en : EnvOk p W S G env)
    (ha : ∀ ts G1 c, args = some (ts, G1, c) → OkFs p (evEs C es env S) W S t G env ts G1 c) : OkS p (evS C (.drop (.mth .append (.var k) es)) env S) W S t G env rs := by
  unfold appX at h
  split at h
  · rename_i u G1 c
    obtain ⟨ds, S1, W1, t1, e1, go, en1, ow1, hd⟩ := ha _ _ _ rfl
    split at h
    · rename_i t' a b q
      split at h
      · rename_i v' q2
        split at h
        · rename_i hb
          cases h
          obtain ⟨j1, j2⟩ := join_ok q2
          obtain ⟨x0, z1, z2⟩ := en.at_ k _ hk
          obtain ⟨j, xs0, rfl, m1, m2, _⟩ := z2
          obtain ⟨x1, y1, y2⟩ := en1.at_ k _ q
          rw [z1] at y1
          cases y1
          obtain ⟨j', xs, e', n1, n2, l1, l2, l3⟩ := y2
          cases e'
          simp only [HasTys] at hd
          obtain ⟨x, _, rfl, hx, rfl⟩ := hd
          have ev : evS C (.drop (.mth .append (.var k) es)) env S = .ok (.nx, env) (S1.set j (.lst (xs ++ [x]))) := by
            rw [evS]
            have e2 : evE C (.mth .append (.var k) es) env S = .ok .non (S1.set j (.lst (xs ++ [x]))) := by
              have g : evE C (.var k) env S = .ok (.ref j) S := by
                rw [evE]
                unfold getV
                rw [z1]
                rfl
              rw [evE, bndR g]
              have ck : chk (Mth.kd .append (.ref j)) S = .ok () S := by
                unfold chk
                rw [if_pos (by simp only [Mth.kd, isLst, m2])]
              rw [bndR ck, bndR e1]
              simp only [Mth.run, Ev.m1, dAppend, n2]
              rw [if_pos (by omega)]
            rw [bndR e2]
            rfl
          have up := own_upd (v := v') (a' := a + 1) (b' := b + 1) (ys := xs ++ [x]) go.wf en1 q z1 n1 (by rw [List.length_append, List.length_singleton]; omega) (by rw [List.length_append, List.length_singleton]; omega) (all_app (fun y hy => subT_ok j1 hX (l3 y hy)) (fun y hy => by
            rw [List.mem_singleton.mp hy]
            exact subT_ok j2 hX hx))
          have oj : Own G env j := ow1 j ⟨k, _, q, rfl, z1⟩
          exact okNx (go.m.trans (own_set go.wf n1) (fun m hm _ => by subst hm; exact oj) w) ev ⟨up.1, fun m hm => .inl (ow1 m (up.2 m hm))⟩
        · cases h
      · cases h
    · cases h
  · cases h
include hX in
theorem subX_ok {k : Nat} {e i : E} {re : Rx} {ri : En → Option Rx} (h : subX p k re ri = some rs) (hc : t + rs.c ≤ TM) (w : WF p t W S) (en : EnvOk p W S G env) (h1 : OkX p (evE C e env S) W S t G env re)
    (hi : ∀ g r W S t, ri g = some r → WF p t W S → EnvOk p W S g env → t + r.c ≤ TM → OkX p (evE C i env S) W S t g env r) : OkS p (evS C (.sub (.var k) i e) env S) W S t G env rs := by
  unfold subX at h
  split at h
  · rename_i r q0
    split at h
    · rename_i t' a b cc dd q1 q2
      split at h
      · rename_i hr
        split at h
        · rename_i v' q3
          cases h
          have hc : t + (re.c + r.c) ≤ TM := hc
          obtain ⟨x, S1, W1, t1, e1, go1, en1, ow1, hx⟩ := h1.frz w en
          obtain ⟨di, S2, W2, t2, e2, go2, en2, ow2, va2, _, _⟩ := hi _ r W1 S1 t1 q0 go1.wf en1 (by have := go1.t2; omega)
          obtain ⟨ii, rfl, i1, i2⟩ := PV.int hX (va2.pv0 go2.wf) q2
          obtain ⟨j1, j2⟩ := join_ok q3
          obtain ⟨x1, y1, y2⟩ := en2.at_ k _ q1
          obtain ⟨j, xs, rfl, n1, n2, l1, l2, l3⟩ := y2
          obtain ⟨m, hm⟩ : ∃ m, L2.ixN xs.length ii = some m := by
            unfold L2.ixN
            by_cases h0 : 0 ≤ ii
            · rw [if_pos h0, if_pos (by omega)]; exact ⟨_, rfl⟩
            · rw [if_neg h0, if_pos (by omega)]; exact ⟨_, rfl⟩
          have ev : evS C (.sub (.var k) i e) env S = .ok (.nx, env) (S2.set j (.lst (xs.set m x))) := by
            rw [evS, bndR e1]
            have g : evE C (.var k) env S1 = .ok (.ref j) S1 := by
              rw [evE]
              unfold getV
              rw [y1]
              rfl
            rw [bndR g, bndR e2]
            have s : dSet (.ref j) (.int ii) x S2 = .ok () (S2.set j (.lst (xs.set m x))) := by
              unfold dSet
              simp only [n2, hm]
            rw [bndR s]
            rfl
          have up := own_upd (v := v') (a' := a) (b' := b) (ys := xs.set m x) go2.wf en2 q1 y1 n1 (by rw [List.length_set]; exact l1) (by rw [List.length_set]; exact l2) (fun y hy => by
            rcases List.mem_or_eq_of_mem_set hy with z | z
            · exact subT_ok j1 hX (l3 y z)
            · rw [z]; exact subT_ok j2 hX (hx.mono go2.ext))
          have go12 := go1.trans go2 (fun j z _ => ow1 j z) w
          have oj : Own G env j := ow1 j (ow2 j ⟨k, _, q1, rfl, y1⟩)
          exact okNx (go12.m.trans (own_set go2.wf n1) (fun m hm _ => by subst hm; exact oj) w) ev ⟨up.1, fun m hm => .inl (ow1 m (ow2 m (up.2 m hm)))⟩
        · cases h
      · cases h
    · cases h
  · cases h
/-! ### behind one another -/
include hX in
theorem seqS_ok {a : Rs} {k : En → Option Rs} {m n : Fr → M (Fl × Fr)} (h : seqS p a k = some rs) (hc : t + rs.c ≤ TM) (w : WF p t W S) (h1 : OkS p (m env S) W S t G env a)
    (hk : ∀ g b W S t env, k g = some b → WF p t W S → EnvOk p W S g env → t + b.c ≤ TM → OkS p (n env S) W S t g env b) : OkS p (seqM m n env S) W S t G env rs := by
  unfold seqS at h
  obtain ⟨fl, e1, S1, W1, t1, e, go, f⟩ := h1
  have sq : seqM m n env S = (match fl with
    | .nx => n e1 S1
    | f => .ok (f, e1) S1) := by
    unfold seqM
    rw [bndR e]
    cases fl <;> rfl
  split at h
  · rename_i q
    cases h
    cases fl with
    | nx =>
      obtain ⟨g, z, _⟩ := f
      rw [q] at z
      cases z
    | rt d => exact ⟨.rt d, e1, S1, W1, t1, sq, go, f⟩
    | bk => exact ⟨.bk, e1, S1, W1, t1, sq, go, f⟩
    | ct => exact ⟨.ct, e1, S1, W1, t1, sq, go, f⟩
  · rename_i g q
    split at h
    · rename_i b q2
      split at h
      · rename_i x y z h1 h2 h3
        cases h
        have hc : t + (a.c + b.c) ≤ TM := hc
        cases fl with
        | nx =>
          obtain ⟨g', z1, kn⟩ := f
          rw [q] at z1
          cases z1
          have o2 := OkS.from w go kn.2 (hk _ b W1 S1 t1 e1 q2 go.wf kn.1 (by have := go.t2; omega))
          obtain ⟨fl2, e2, S2, W2, t2, e', go2, f2⟩ := o2
          refine ⟨fl2, e2, S2, W2, t2, sq.trans e', go2, ?_⟩
          cases fl2 with
          | nx => exact f2
          | bk => obtain ⟨g, e, k⟩ := f2; exact joinO_rs hX h1 e k
          | ct => obtain ⟨g, e, k⟩ := f2; exact joinO_rs hX h2 e k
          | rt d => obtain ⟨u, e, k⟩ := f2; exact joinR_r hX h3 e k
        | rt d =>
          obtain ⟨u, e', k⟩ := f
          exact ⟨.rt d, e1, S1, W1, t1, sq, go.weak (by show a.c ≤ a.c + b.c; omega) fun _ z => z, joinR_l hX h3 e' k⟩
        | bk =>
          obtain ⟨g, e', k⟩ := f
          exact ⟨.bk, e1, S1, W1, t1, sq, go.weak (by show a.c ≤ a.c + b.c; omega) fun _ z => z, joinO_ls hX h1 e' k⟩
        | ct =>
          obtain ⟨g, e', k⟩ := f
          exact ⟨.ct, e1, S1, W1, t1, sq, go.weak (by show a.c ≤ a.c + b.c; omega) fun _ z => z, joinO_ls hX h2 e' k⟩
      · cases h
    · cases h
include hX in
theorem ifS_ok {mc : M D} {ma mb : M (Fl × Fr)} {ka kb : En → Option Rs} (w : WF p t W S) (h1 : OkX p (mc S) W S t G env r) (h : ifS p r ka kb = some rs) (hc : t + rs.c ≤ TM)
    (hka : ∀ g a W S t, ka g = some a → WF p t W S → EnvOk p W S g env → t + a.c ≤ TM → OkS p (ma S) W S t g env a)
    (hkb : ∀ g a W S t, kb g = some a → WF p t W S → EnvOk p W S g env → t + a.c ≤ TM → OkS p (mb S) W S t g env a) : OkS p ((do
      let x ← mc
      tru x ma mb) S) W S t G env rs := by
  unfold ifS at h
  split at h
  case isFalse => cases h
  case isTrue hb =>
  obtain ⟨b, S1, W1, t1, e, go, x, e1, kn⟩ := h1.truth hb
  rw [bndR e]
  split at h
  · rename_i g q1 q2
    rw [Option.map_eq_some_iff] at h
    obtain ⟨a, h2, rfl⟩ := h
    have hc : t + (r.c + a.c) ≤ TM := hc
    cases b with
    | true =>
      rw [if_pos rfl, q1] at e1
      cases e1
      exact OkS.from w go.m (fun j z => .inl (kn.2 j z)) (hka _ a W1 S1 t1 h2 go.wf kn.1 (by have := go.t2; omega))
    | false => rw [if_neg Bool.false_ne_true, q2] at e1; cases e1
  · rename_i g q1 q2
    rw [Option.map_eq_some_iff] at h
    obtain ⟨a, h2, rfl⟩ := h
    have hc : t + (r.c + a.c) ≤ TM := hc
    cases b with
    | false =>
      rw [if_neg Bool.false_ne_true, q2] at e1
      cases e1
      exact OkS.from w go.m (fun j z => .inl (kn.2 j z)) (hkb _ a W1 S1 t1 h2 go.wf kn.1 (by have := go.t2; omega))
    | true => rw [if_pos rfl, q1] at e1; cases e1
  · rename_i g1 g2 q1 q2
    split at h
    · rename_i a b' h2 h3
      have hcc := (joinS_ok (W := W) (S := S) (n := 0) (G0 := G) (env0 := env) (fl := .nx) (env' := env) hX h)
      have hcr : rs.c = r.c + max a.c b'.c := by
        unfold joinS at h
        split at h
        · cases h; rfl
        · cases h
      cases b with
      | true =>
        rw [if_pos rfl, q1] at e1
        cases e1
        obtain ⟨fl, e2, S2, W2, t2, e3, go2, f2⟩ := OkS.from w go.m (fun j z => .inl (kn.2 j z)) (hka _ a W1 S1 t1 h2 go.wf kn.1 (by have := go.t2; omega))
        exact ⟨fl, e2, S2, W2, t2, e3, go2.weak (by show r.c + a.c ≤ rs.c; omega) fun _ z => z, (joinS_ok hX h (.inl (by cases fl <;> exact f2))).1⟩
      | false =>
        rw [if_neg Bool.false_ne_true, q2] at e1
        cases e1
        obtain ⟨fl, e2, S2, W2, t2, e3, go2, f2⟩ := OkS.from w go.m (fun j z => .inl (kn.2 j z)) (hkb _ b' W1 S1 t1 h3 go.wf kn.1 (by have := go.t2; omega))
        exact ⟨fl, e2, S2, W2, t2, e3, go2.weak (by show r.c + b'.c ≤ rs.c; omega) fun _ z => z, (joinS_ok hX h (.inr (by cases fl <;> exact f2))).1⟩
    · cases h
  · cases h
end
end Ev
namespace Ev
open PySem PySem.Spec PyProof.Rows
section
variable {p : Prm} {W W1 W2 : Wl} {S S1 S2 : Store} {t t1 t2 c c1 c2 : Nat} {O O1 O2 : Nat → Prop} {G G1 G2 : En} {env env1 : Fr} {u v : Ty2} {d : D} {r : Rx} {rs : Rs}
theorem HasTy.lv (h : HasTy p W u d) : Lv p W S u d := by
  cases u <;> first
    | exact h
    | (simp only [HasTy] at h)
theorem HasTys.lvs : ∀ {ts : List Ty2} {ds : List D}, HasTys p W ts ds → Lvs p W S ts ds ∧ ∀ u ∈ ts, isOwn u = false
  | [], _, h => by
    simp only [HasTys] at h
    subst h
    exact ⟨.nil, fun _ z => by cases z⟩
  | t :: ts, _, h => by
    simp only [HasTys] at h
    obtain ⟨x, xs, rfl, a, b⟩ := h
    obtain ⟨k1, k2⟩ := HasTys.lvs b
    exact ⟨.cons a.lv k1, fun u hu => by
      rcases List.mem_cons.mp hu with z | z
      · rw [z]; exact a.notOwn
      · exact k2 u z⟩
theorem GoM.refl (w : WF p t W S) : GoM p W S t O W S t 0 := ⟨.refl, w, Nat.le_refl _, Nat.le_refl _, fun _ h _ => ⟨rfl, h⟩, Nat.le_refl _⟩
theorem KnS.refl {n : Nat} (en : EnvOk p W S G env) : KnS p W S n G env G env := ⟨en, fun _ z => .inl z⟩
theorem KnS.trans {n m : Nat} {G0 : En} {env0 : Fr} (k : KnS p W1 S1 m G env G1 env1) (h : ∀ j, Own G env j → Own G0 env0 j ∨ n ≤ j) (hn : n ≤ m) : KnS p W1 S1 n G0 env0 G1 env1 :=
  ⟨k.1, fun j z => by
    rcases k.2 j z with q | q
    · exact h j q
    · exact .inr (by omega)⟩
variable (hX : PrOk p)
/-! ### a for -/
section
variable {q : Store → Prop} {tgt : D → Fr → M Fr} {body : Fr → M (Fl × Fr)} {put : En → Option En} {f : En → Option Rs} {item : Ty2}
/-- one turn -/
theorem turn (hp : ∀ (G G1 : En), put G = some G1 → ∀ (d : D) (W : Wl) (S : Store) (env : Fr), EnvOk p W S G env → HasTy p W item d → ∃ env1, tgt d env S = .ok env1 S ∧ EnvOk p W S G1 env1 ∧ ∀ j, Own G1 env1 j → Own G env j)
    (hf : ∀ (G : En) (rb : Rs), f G = some rb → ∀ (W : Wl) (S : Store) (t : Nat) (env : Fr), WF p t W S → EnvOk p W S G env → t + rb.c ≤ TM → OkS p (body env S) W S t G env rb) {d : D} {ds : List D} {rb : Rs}
    (h1 : put G = some G1) (h2 : f G1 = some rb) (w : WF p t W S) (en : EnvOk p W S G env) (hd : HasTy p W item d) (hc : t + rb.c ≤ TM) (hq : q S) :
    ∃ fl e2 S1 W1 t1, loopF q tgt body (d :: ds) env S = (match fl with
      | .nx => loopF q tgt body ds e2 S1
      | .ct => loopF q tgt body ds e2 S1
      | .bk => .ok (.nx, e2) S1
      | .rt d => .ok (.rt d, e2) S1) ∧ GoM p W S t (Own G env) W1 S1 t1 rb.c ∧ FlOk p W1 S1 S.length G env rb fl e2 := by
  obtain ⟨env1, e1, en1, ow1⟩ := hp G G1 h1 d W S env en hd
  obtain ⟨fl, e2, S1, W1, t1, e, go, fk⟩ := hf G1 rb h2 W S t env1 w en1 hc
  refine ⟨fl, e2, S1, W1, t1, ?_, go.weak (Nat.le_refl _) ow1, FlOk.from (Nat.le_refl _) (fun j z => .inl (ow1 j z)) fk⟩
  rw [loopF_cons]
  rw [bndR (guard_yes hq), bndR e1, bndR e]
  cases fl <;> rfl
include hX in
theorem loop_fix (hp : ∀ (G G1 : En), put G = some G1 → ∀ (d : D) (W : Wl) (S : Store) (env : Fr), EnvOk p W S G env → HasTy p W item d → ∃ env1, tgt d env S = .ok env1 S ∧ EnvOk p W S G1 env1 ∧ ∀ j, Own G1 env1 j → Own G env j)
    (hf : ∀ (G : En) (rb : Rs), f G = some rb → ∀ (W : Wl) (S : Store) (t : Nat) (env : Fr), WF p t W S → EnvOk p W S G env → t + rb.c ≤ TM → OkS p (body env S) W S t G env rb) {rb : Rs} {x : Option En}
    (h1 : put G = some G1) (h2 : f G1 = some rb) (h3 : joinO p rb.nx rb.ct = some (some G2)) (h4 : subEn p G2 G = true) (h5 : joinO p (some G) rb.bk = some x) :
    ∀ (ds : List D) (W : Wl) (S : Store) (t : Nat) (env : Fr), (∀ y ∈ ds, HasTy p W item y) → WF p t W S → EnvOk p W S G env → t + ds.length * rb.c ≤ TM → (∀ W' S' t', Ext W W' → WF p t' W' S' → q S') →
      OkS p (loopF q tgt body ds env S) W S t G env ⟨x, none, none, rb.rt, ds.length * rb.c⟩
  | [], W, S, t, env, hd, w, en, hc, hq => by
    refine ⟨.nx, env, S, W, t, ?_, (GoM.refl w).weak (Nat.zero_le _) fun _ z => z, joinO_ls hX h5 rfl (KnS.refl en)⟩
    rw [loopF_nil, bndR (guard_yes (hq W S t .refl w))]
    rfl
  | d :: ds, W, S, t, env, hd, w, en, hc, hq => by
    rw [List.length_cons, Nat.succ_mul] at hc
    obtain ⟨fl, e2, S1, W1, t1, e, go, fk⟩ := turn (ds := ds) hp hf h1 h2 w en (hd d List.mem_cons_self) (by omega) (hq W S t .refl w)
    rw [e]
    have hcc : (d :: ds).length * rb.c = rb.c + ds.length * rb.c := by rw [List.length_cons, Nat.succ_mul]; omega
    have next : (∃ g, some G2 = some g ∧ KnS p W1 S1 S.length G env g e2) → OkS p (loopF q tgt body ds e2 S1) W S t G env ⟨x, none, none, rb.rt, (d :: ds).length * rb.c⟩ := fun ⟨g, z, kn⟩ => by
      cases z
      obtain ⟨k1, k2⟩ := EnvOk.sub hX kn.1 h4
      have ih := loop_fix hp hf h1 h2 h3 h4 h5 ds W1 S1 t1 e2 (fun y hy => (hd y (List.mem_cons_of_mem _ hy)).mono go.ext) go.wf k1 (by have := go.t2; omega) (fun W' S' t' e w => hq W' S' t' (go.ext.trans e) w)
      have := OkS.from w go (fun j z => kn.2 j (k2 j z)) ih
      rw [hcc]
      exact this
    cases fl with
    | nx =>
      obtain ⟨g, z, kn⟩ := fk
      exact next (joinO_ls hX h3 z kn)
    | ct =>
      obtain ⟨g, z, kn⟩ := fk
      exact next (joinO_rs hX h3 z kn)
    | bk =>
      obtain ⟨g, z, kn⟩ := fk
      exact ⟨.nx, e2, S1, W1, t1, rfl, go.weak (by rw [hcc]; dsimp only; omega) fun _ z => z, joinO_rs hX h5 z kn⟩
    | rt d' => exact ⟨.rt d', e2, S1, W1, t1, rfl, go.weak (by rw [hcc]; dsimp only; omega) fun _ z => z, fk⟩
theorem loopX_fl {n lo : Nat} {G : En} {rs : Rs} (h : loopX p put f lo n G = some rs) : rs.bk = none ∧ rs.ct = none := by
  cases n with
  | zero =>
    unfold loopX at h
    cases h
    exact ⟨rfl, rfl⟩
  | succ n =>
    unfold loopX at h
    repeat' split at h
    all_goals first
      | (cases h; done)
      | (cases h; exact ⟨rfl, rfl⟩)
include hX in
theorem loopX_ok (hp : ∀ (G G1 : En), put G = some G1 → ∀ (d : D) (W : Wl) (S : Store) (env : Fr), EnvOk p W S G env → HasTy p W item d → ∃ env1, tgt d env S = .ok env1 S ∧ EnvOk p W S G1 env1 ∧ ∀ j, Own G1 env1 j → Own G env j)
    (hf : ∀ (G : En) (rb : Rs), f G = some rb → ∀ (W : Wl) (S : Store) (t : Nat) (env : Fr), WF p t W S → EnvOk p W S G env → t + rb.c ≤ TM → OkS p (body env S) W S t G env rb) :
    ∀ (n lo : Nat) (G : En) (rs : Rs), loopX p put f lo n G = some rs → ∀ (ds : List D) (W : Wl) (S : Store) (t : Nat) (env : Fr), (∀ y ∈ ds, HasTy p W item y) → lo ≤ ds.length → ds.length ≤ n → WF p t W S → EnvOk p W S G env → t + rs.c ≤ TM → (∀ W' S' t', Ext W W' → WF p t' W' S' → q S') →
      OkS p (loopF q tgt body ds env S) W S t G env rs := by
  intro n
  induction n with
  | zero =>
    intro lo G rs h ds W S t env hd hlo hn w en hc hq
    unfold loopX at h
    cases h
    have : ds = [] := List.eq_nil_of_length_eq_zero (by omega)
    subst this
    refine ⟨.nx, env, S, W, t, ?_, GoM.refl w, G, rfl, KnS.refl en⟩
    rw [loopF_nil, bndR (guard_yes (hq W S t .refl w))]
    rfl
  | succ n ih =>
    intro lo G rs h ds W S t env hd hlo hn w en hc hq
    unfold loopX at h
    split at h
    · rename_i G1 h1
      split at h
      · rename_i rb h2
        -- no turn left
        have stop : ∀ {x : Option En}, joinO p (if lo = 0 then some G else none) rb.bk = some x → ds = [] → ∃ y, x = some y ∧ KnS p W S S.length G env y env := fun {x} hx hz => by
          subst hz
          have : lo = 0 := by simpa using hlo
          rw [if_pos this] at hx
          exact joinO_ls hX hx rfl (KnS.refl en)
        split at h
        · rename_i h3
          split at h
          · rename_i x h5
            cases h
            cases ds with
            | nil =>
              refine ⟨.nx, env, S, W, t, ?_, (GoM.refl w).weak (Nat.zero_le _) fun _ z => z, stop h5 rfl⟩
              rw [loopF_nil, bndR (guard_yes (hq W S t .refl w))]
              rfl
            | cons d ds =>
              obtain ⟨fl, e2, S1, W1, t1, e, go, fk⟩ := turn (ds := ds) hp hf h1 h2 w en (hd d List.mem_cons_self) hc (hq W S t .refl w)
              rw [e]
              cases fl with
              | nx =>
                obtain ⟨g, z, kn⟩ := fk
                obtain ⟨y, z2, _⟩ := joinO_ls hX h3 z kn
                cases z2
              | ct =>
                obtain ⟨g, z, kn⟩ := fk
                obtain ⟨y, z2, _⟩ := joinO_rs hX h3 z kn
                cases z2
              | bk =>
                obtain ⟨g, z, kn⟩ := fk
                exact ⟨.nx, e2, S1, W1, t1, rfl, go, joinO_rs hX h5 z kn⟩
              | rt d' => exact ⟨.rt d', e2, S1, W1, t1, rfl, go, fk⟩
          · cases h
        · rename_i G2 h3
          split at h
          · rename_i h4
            split at h
            · rename_i x h5
              cases h
              have hm : ds.length * rb.c ≤ (n + 1) * rb.c := Nat.mul_le_mul_right _ hn
              have hc : t + (n + 1) * rb.c ≤ TM := hc
              obtain ⟨fl, e2, S1, W1, t1, e, go, fk⟩ := loop_fix hX hp hf h1 h2 h3 h4 h5 ds W S t env hd w en (by omega) hq
              exact ⟨fl, e2, S1, W1, t1, e, go.weak hm fun _ z => z, by cases fl <;> exact fk⟩
            · cases h
          · split at h
            · rename_i rr h5
              split at h
              · rename_i x h6
                split at h
                · rename_i y z h7 h8
                  cases h
                  have hc : t + (rb.c + rr.c) ≤ TM := hc
                  cases ds with
                  | nil =>
                    refine ⟨.nx, env, S, W, t, ?_, (GoM.refl w).weak (Nat.zero_le _) fun _ z => z, ?_⟩
                    · rw [loopF_nil, bndR (guard_yes (hq W S t .refl w))]
                      rfl
                    · obtain ⟨y', z1, z2⟩ := stop h6 rfl
                      exact joinO_ls hX h7 z1 z2
                  | cons d ds =>
                    obtain ⟨fl, e2, S1, W1, t1, e, go, fk⟩ := turn (ds := ds) hp hf h1 h2 w en (hd d List.mem_cons_self) (by omega) (hq W S t .refl w)
                    rw [e]
                    have next : (∃ g, some G2 = some g ∧ KnS p W1 S1 S.length G env g e2) → OkS p (loopF q tgt body ds e2 S1) W S t G env ⟨y, none, none, z, rb.c + rr.c⟩ := fun ⟨g, zz, kn⟩ => by
                      cases zz
                      rw [List.length_cons] at hlo hn
                      have i2 := ih (lo - 1) G2 rr h5 ds W1 S1 t1 e2 (fun y hy => (hd y (List.mem_cons_of_mem _ hy)).mono go.ext) (by omega) (by omega) go.wf kn.1 (by have := go.t2; omega) (fun W' S' t' e w => hq W' S' t' (go.ext.trans e) w)
                      obtain ⟨fl, e3, S3, W3, t3, e, go3, fk⟩ := OkS.from w go kn.2 i2
                      refine ⟨fl, e3, S3, W3, t3, e, go3, ?_⟩
                      cases fl with
                      | nx => obtain ⟨g, z1, z2⟩ := fk; exact joinO_rs hX h7 z1 z2
                      | rt d' => obtain ⟨g, z1, z2⟩ := fk; exact joinR_r hX h8 z1 z2
                      | bk =>
                        obtain ⟨g, z1, _⟩ := fk
                        rw [show _ = none from (loopX_fl h5).1] at z1
                        cases z1
                      | ct =>
                        obtain ⟨g, z1, _⟩ := fk
                        rw [show _ = none from (loopX_fl h5).2] at z1
                        cases z1
                    cases fl with
                    | nx =>
                      obtain ⟨g, z, kn⟩ := fk
                      exact next (joinO_ls hX h3 z kn)
                    | ct =>
                      obtain ⟨g, z, kn⟩ := fk
                      exact next (joinO_rs hX h3 z kn)
                    | bk =>
                      obtain ⟨g, z1, kn⟩ := fk
                      obtain ⟨y', z2, z3⟩ := joinO_rs hX h6 z1 kn
                      exact ⟨.nx, e2, S1, W1, t1, rfl, go.weak (by show rb.c ≤ rb.c + rr.c; omega) fun _ z => z, joinO_ls hX h7 z2 z3⟩
                    | rt d' =>
                      obtain ⟨g, z1, kn⟩ := fk
                      exact ⟨.rt d', e2, S1, W1, t1, rfl, go.weak (by show rb.c ≤ rb.c + rr.c; omega) fun _ z => z, joinR_l hX h8 z1 kn⟩
                · cases h
              · cases h
            · cases h
        · cases h
      · cases h
    · cases h
end
end
end Ev
namespace Ev
open PySem PySem.Spec PyProof.Rows
section
variable {p : Prm} {W W1 W2 : Wl} {S S1 S2 : Store} {t t1 t2 c c1 c2 : Nat} {O O1 O2 : Nat → Prop} {G G1 G2 : En} {env env1 : Fr} {u v : Ty2} {d : D} {r : Rx} {rs : Rs}
variable {C : Nat → List D → M D} {sg : Sg}
theorem seqS_c {a : Rs} {k : En → Option Rs} (h : seqS p a k = some rs) : a.c ≤ rs.c := by
  unfold seqS at h
  split at h
  · cases h; exact Nat.le_refl _
  · split at h
    · split at h
      · cases h
        show a.c ≤ a.c + _
        omega
      · cases h
    · cases h
theorem ifS_c {ka kb : En → Option Rs} (h : ifS p r ka kb = some rs) : r.c ≤ rs.c := by
  unfold ifS at h
  split at h
  · split at h
    · rw [Option.map_eq_some_iff] at h
      obtain ⟨a, _, rfl⟩ := h
      show r.c ≤ r.c + a.c
      omega
    · rw [Option.map_eq_some_iff] at h
      obtain ⟨a, _, rfl⟩ := h
      show r.c ≤ r.c + a.c
      omega
    · split at h
      · unfold joinS at h
        split at h
        · cases h
          show r.c ≤ r.c + _
          omega
        · cases h
      · cases h
    · cases h
  · cases h
theorem subX_c {k : Nat} {re : Rx} {ri : En → Option Rx} (h : subX p k re ri = some rs) : re.c ≤ rs.c := by
  unfold subX at h
  split at h
  · split at h
    · split at h
      · split at h
        · cases h
          show re.c ≤ re.c + _
          omega
        · cases h
      · cases h
    · cases h
  · cases h
theorem appX_c {k : Nat} {ts : List Ty2} {G1 : En} (h : appX p k (some (ts, G1, c)) = some rs) : c = rs.c := by
  unfold appX at h
  split at h
  · rename_i e
    cases e
    split at h
    · split at h
      · split at h
        · cases h; rfl
        · cases h
      · cases h
    · cases h
  · cases h
theorem getV_ok {i : Nat} (h : env[i]? = some (some d)) : getV env i S = .ok d S := by
  unfold getV
  rw [h]
  rfl
/-- an expression that is dropped -/
theorem drop_ok {e : E} (h : OkX p (evE C e env S) W S t G env r) : OkS p (evS C (.drop e) env S) W S t G env (nxt r.G r.c) := by
  obtain ⟨d, S1, W1, t1, e1, go, en1, ow1, _⟩ := h
  refine okNx go.m ?_ ⟨en1, fun j z => .inl (ow1 j z)⟩
  rw [evS, bndR e1]
  rfl
mutual
theorem inS_ok (hX : PrOk p) (sk : SgOk p C sg) : ∀ {s : St} {G : En} {rs : Rs}, inS p sg s G = some rs → ∀ {W : Wl} {S : Store} {t : Nat} {env : Fr}, WF p t W S → EnvOk p W S G env → t + rs.c ≤ TM → OkS p (evS C s env S) W S t G env rs
  | .set i e, G, rs, h, W, S, t, env, w, en, hc => by
    simp only [inS] at h
    split at h
    · rename_i r q
      split at h
      · cases h
        obtain ⟨d, S1, W1, t1, e1, go, kn⟩ := setX_ok (i := i) w en (inE_ok hX sk q w en hc)
        refine okNx go.m ?_ kn
        rw [evS, bndR e1]
        rfl
      · cases h
    · cases h
  | .asg tg e, G, rs, h, W, S, t, env, w, en, hc => by
    simp only [inS] at h
    split at h
    · rename_i r q
      split at h
      · rename_i G1 q2
        cases h
        obtain ⟨d, S1, W1, t1, e1, go, en1, ow1, va⟩ := (inE_ok hX sk q w en hc).frz w en
        obtain ⟨env2, e2, en2, ow2⟩ := putT_ok (S := S1) hX q2 en1 va
        refine okNx go.m ?_ ⟨en2, fun j z => .inl (ow1 j (ow2 j z))⟩
        rw [evS, bndR e1, bndR e2]
        rfl
      · cases h
    · cases h
  | .par2 i j a b, G, rs, h, W, S, t, env, w, en, hc => by
    simp only [inS] at h
    split at h
    · rename_i u v G1 c q
      cases h
      obtain ⟨ds, S1, W1, t1, e1, go, en1, ow1, hd⟩ := inEs_ok hX sk q w en hc
      simp only [HasTys] at hd
      obtain ⟨x, _, rfl, hx, y, _, rfl, hy, rfl⟩ := hd
      obtain ⟨k1, k2⟩ := en1.put1 (i := i) hx
      obtain ⟨k3, k4⟩ := k1.put1 (i := j) hy
      refine okNx go.m ?_ ⟨k3, fun j z => .inl (ow1 j (k2 j (k4 j z)))⟩
      rw [evS, bndR e1]
      rfl
    · cases h
  | .par3 i j k a b cc, G, rs, h, W, S, t, env, w, en, hc => by
    simp only [inS] at h
    split at h
    · rename_i u v x G1 c q
      cases h
      obtain ⟨ds, S1, W1, t1, e1, go, en1, ow1, hd⟩ := inEs_ok hX sk q w en hc
      simp only [HasTys] at hd
      obtain ⟨x, _, rfl, hx, y, _, rfl, hy, z, _, rfl, hz, rfl⟩ := hd
      obtain ⟨k1, k2⟩ := en1.put1 (i := i) hx
      obtain ⟨k3, k4⟩ := k1.put1 (i := j) hy
      obtain ⟨k5, k6⟩ := k3.put1 (i := k) hz
      refine okNx go.m ?_ ⟨k5, fun j z => .inl (ow1 j (k2 j (k4 j (k6 j z))))⟩
      rw [evS, bndR e1]
      rfl
    · cases h
  | .sub o i e, G, rs, h, W, S, t, env, w, en, hc => by
    simp only [inS] at h
    split at h
    · rename_i k
      split at h
      · rename_i re q
        have := subX_c h
        exact subX_ok hX h hc w en (inE_ok hX sk q w en (by omega)) fun g r W S t q2 w en hc => inE_ok hX sk q2 w en hc
      · cases h
    · cases h
  | .drop e, G, rs, h, W, S, t, env, w, en, hc => by
    simp only [inS] at h
    split at h
    · rename_i k es
      split at h
      · rename_i q0
        cases qa : inEs p sg es G with
        | none =>
          rw [qa] at h
          cases h
        | some a =>
          obtain ⟨ts, G1, c⟩ := a
          have hcc : c = rs.c := appX_c (by rw [qa] at h; exact h)
          exact appX_ok hX q0 h w en fun ts' G1' c' q => by
            rw [qa] at q
            cases q
            exact inEs_ok hX sk qa w en (by omega)
      · cases h
    · split at h
      · rename_i r q
        cases h
        exact drop_ok (inE_ok hX sk q w en hc)
      · cases h
  | .ret e, G, rs, h, W, S, t, env, w, en, hc => by
    simp only [inS] at h
    split at h
    · rename_i r q
      cases h
      obtain ⟨d, S1, W1, t1, e1, go, en1, ow1, va, pv, _⟩ := inE_ok hX sk q w en hc
      refine ⟨.rt d, env, S1, W1, t1, ?_, go.m, r.ty, rfl, va, fun ho => ?_⟩
      · rw [evS, bndR e1]
        rfl
      · have pv := pv ho
        cases qp : r.pv with
        | none =>
          rw [qp] at pv
          obtain ⟨j, e2, e3⟩ := pv
          exact ⟨j, e2, .inr e3⟩
        | some i =>
          rw [qp] at pv
          obtain ⟨t', a, b, e2⟩ := ownOf_ref va ho
          rw [e2] at va
          obtain ⟨j, ds, e3, _⟩ := va
          refine ⟨j, e3, .inl (ow1 j ⟨i, r.ty, pv.1, ho, ?_⟩)⟩
          rw [← e3]
          exact pv.2
    · cases h
  | .retN, G, rs, h, W, S, t, env, w, en, hc => by
    simp only [inS] at h
    cases h
    exact ⟨.rt .non, env, S, W, t, by rw [evS]; rfl, GoM.refl w, .non, rfl, Val.of (by simp only [HasTy]), fun ho => nomatch ho⟩
  | .ife cc a b, G, rs, h, W, S, t, env, w, en, hc => by
    simp only [inS] at h
    split at h
    · rename_i r q
      have := ifS_c h
      rw [evS]
      exact ifS_ok hX w (inE_ok hX sk q w en (by omega)) h hc (fun g a W S t q2 w en hc => inSs_ok hX sk q2 w en hc) fun g a W S t q2 w en hc => inSs_ok hX sk q2 w en hc
    · cases h
  | .whl _ _, G, rs, h, W, S, t, env, w, en, hc => by
    simp only [inS] at h
    cases h
  | .for tg k es b, G, rs, h, W, S, t, env, w, en, hc => by
    simp only [inS] at h
    split at h
    · rename_i ts G1 c q
      split at h
      · rename_i u lo n q2
        split at h
        · rename_i r q3
          cases h
          have hc : t + (c + r.c) ≤ TM := hc
          obtain ⟨ds, S1, W1, t1, e1, go, en1, ow1, hd⟩ := inEs_ok hX sk q w en (by omega)
          obtain ⟨lv, no⟩ := hd.lvs (S := S1)
          obtain ⟨it, e2, l1, l2, l3, stb⟩ := itsT_ok (B := fun k => (∃ x, k = .fz x) ∨ ∃ x, k = .sc x) hX (fun x => .inl ⟨x, rfl⟩) (fun x => .inr ⟨x, rfl⟩) q2 (fun u hu ho => by rw [no u hu] at ho; cases ho) lv go.wf
          have lp := loopX_ok (q := it.ok) (tgt := tg.put) (body := evSs C b) (item := u) hX (fun G G1 h d W S env en hv => putT_ok (S := S) hX h en hv) (fun G rb h W S t env w en hc => inSs_ok hX sk h w en hc) n lo G1 r q3 it.ds W1 S1 t1 env l3 l1 l2 go.wf en1 (by have := go.t2; omega) (fun W' S' t' ex w' => stb S' fun j kd h1 h2 => by
            rcases h2 with ⟨x, rfl⟩ | ⟨x, rfl⟩
            · rw [go.wf.fz j x h1, w'.fz j x (ex j _ h1 fun z => nomatch z)]
            · rw [go.wf.sc j x h1, w'.sc j x (ex j _ h1 fun z => nomatch z)])
          have ev : evS C (.for tg k es b) env S = loopF it.ok tg.put (evSs C b) it.ds env S1 := by
            rw [evS]
            have e0 : ((do
                let ds ← evEs C es env
                k.its ds) : M Its) S = .ok it S1 := by
              rw [bndR e1]; exact e2
            rw [bndR e0]
          rw [ev]
          exact OkS.from w go.m (fun j z => .inl (ow1 j z)) lp
        · cases h
      · cases h
    · cases h
  | .aug i o e, G, rs, h, W, S, t, env, w, en, hc => by
    simp only [inS] at h
    split at h
    · rename_i a b q0
      obtain ⟨x, h1, h2⟩ := en.at_ i _ q0
      have h2 : HasTy p W _ x := h2
      simp only [HasTy] at h2
      obtain ⟨n, rfl, n1, n2⟩ := h2
      split at h
      · rename_i r q
        split at h
        · rename_i c d q2
          cases h
          obtain ⟨y, S1, W1, t1, e1, go, en1, ow1, va, _, _⟩ := inE_ok hX sk q w en hc
          obtain ⟨m, rfl, m1, m2⟩ := PV.int hX (va.pv0 go.wf) q2
          obtain ⟨k1, k2⟩ := en1.put1 (i := i) (u := .int (a + c) (b + d)) (d := .int (n + m)) (by simp only [HasTy]; exact ⟨_, rfl, by omega, by omega⟩)
          refine okNx go.m ?_ ⟨k1, fun j z => .inl (ow1 j (k2 j z))⟩
          rw [evS, bndR (getV_ok h1), bndR e1]
          rfl
        · rename_i c d q2
          cases h
          obtain ⟨y, S1, W1, t1, e1, go, en1, ow1, va, _, _⟩ := inE_ok hX sk q w en hc
          obtain ⟨m, rfl, m1, m2⟩ := PV.int hX (va.pv0 go.wf) q2
          obtain ⟨k1, k2⟩ := en1.put1 (i := i) (u := .int (a - d) (b - c)) (d := .int (n - m)) (by simp only [HasTy]; exact ⟨_, rfl, by omega, by omega⟩)
          refine okNx go.m ?_ ⟨k1, fun j z => .inl (ow1 j (k2 j z))⟩
          rw [evS, bndR (getV_ok h1), bndR e1]
          rfl
        · cases h
      · cases h
    · cases h
  | .pass, G, rs, h, W, S, t, env, w, en, hc => by
    simp only [inS] at h
    cases h
    exact okNx (GoM.refl w) (by rw [evS]; rfl) (KnS.refl en)
  | .brk, G, rs, h, W, S, t, env, w, en, hc => by
    simp only [inS] at h
    cases h
    exact ⟨.bk, env, S, W, t, by rw [evS]; rfl, GoM.refl w, G, rfl, KnS.refl en⟩
  | .cont, G, rs, h, W, S, t, env, w, en, hc => by
    simp only [inS] at h
    cases h
    exact ⟨.ct, env, S, W, t, by rw [evS]; rfl, GoM.refl w, G, rfl, KnS.refl en⟩
  | .raise _, G, rs, h, W, S, t, env, w, en, hc => by
    simp only [inS] at h
    cases h
theorem inSs_ok (hX : PrOk p) (sk : SgOk p C sg) : ∀ {ss : List St} {G : En} {rs : Rs}, inSs p sg ss G = some rs → ∀ {W : Wl} {S : Store} {t : Nat} {env : Fr}, WF p t W S → EnvOk p W S G env → t + rs.c ≤ TM → OkS p (evSs C ss env S) W S t G env rs
  | [], G, rs, h, W, S, t, env, w, en, hc => by
    simp only [inSs] at h
    cases h
    exact okNx (GoM.refl w) (by rw [evSs]; rfl) (KnS.refl en)
  | s :: ss, G, rs, h, W, S, t, env, w, en, hc => by
    simp only [inSs] at h
    split at h
    · rename_i a q
      have := seqS_c h
      rw [evSs]
      exact seqS_ok hX h hc w (inS_ok hX sk q w en (by omega)) fun g b W S t env q2 w en hc => inSs_ok hX sk q2 w en hc
    · cases h
end
/-! ### a def at these types -/
theorem EnvOk.start {ts : List Ty2} {ds : List D} {n : Nat} (h : HasTys p W ts ds) : EnvOk p W S (ts.map some ++ List.replicate n none) (ds.map some ++ List.replicate n none) ∧ ∀ j, ¬ Own (ts.map some ++ List.replicate n none) (ds.map some ++ List.replicate n none) j := by
  have hl := h.length
  obtain ⟨lv, no⟩ := h.lvs (S := S)
  have key : ∀ {i : Nat} {u : Ty2}, (ts.map some ++ List.replicate n none)[i]? = some (some u) → ts[i]? = some u := fun {i u} e => by
    by_cases hi : i < ts.length
    · rw [List.getElem?_append_left (by simpa using hi), List.getElem?_map] at e
      cases q : ts[i]? with
      | none => rw [q] at e; cases e
      | some v => rw [q] at e; cases e; rfl
    · rw [List.getElem?_append_right (by simpa using hi), List.getElem?_replicate] at e
      split at e <;> cases e
  have nown : ∀ {i : Nat} {u : Ty2}, (ts.map some ++ List.replicate n none)[i]? = some (some u) → isOwn u = false := fun {i u} e => no u (List.mem_of_getElem? (key e))
  refine ⟨⟨by simp [hl], fun i u e => ?_, fun i k t u d e1 o1 => ?_⟩, fun j ⟨i, u, e1, o1, _⟩ => ?_⟩
  · obtain ⟨d, h1, h2⟩ := h.get (key e)
    refine ⟨d, ?_, Val.of h2⟩
    rw [List.getElem?_append_left (by simpa using (List.getElem?_eq_some_iff.mp h1).1), List.getElem?_map, h1]
    rfl
  · rw [nown e1] at o1; cases o1
  · rw [nown e1] at o1; cases o1
theorem inF_ok (hX : PrOk p) (sk : SgOk p C sg) {fd : FD} {ts : List Ty2} (h : inF p sg fd ts = some (u, c)) {ds : List D} (hd : HasTys p W ts ds) (w : WF p t W S) (hc : t + c ≤ TM) :
    ∃ d S' W' t', ((if ds.length = fd.ps then do
        let r ← evSs C fd.body (ds.map some ++ List.replicate (fd.slots - ds.length) none)
        fin r.1
      else M.fail) : M D) S = .ok d S' ∧ Go p W S t (fun _ => False) W' S' t' c ∧ Val p W' S' u d ∧ (isOwn u = true → ∃ j : Nat, d = .ref j ∧ S.length ≤ j) := by
  unfold inF at h
  split at h
  · rename_i hz
    have hl := hd.length
    split at h
    · rename_i rs q
      split at h
      · rename_i qb qc q3
        cases h
        obtain ⟨en, no⟩ := EnvOk.start (S := S) (n := fd.slots - fd.ps) hd
        obtain ⟨fl, e2, S1, W1, t1, e, go, fk⟩ := inSs_ok hX sk q w en hc
        have hlen : ds.length = fd.ps := by omega
        have ev : ((if ds.length = fd.ps then do
            let r ← evSs C fd.body (ds.map some ++ List.replicate (fd.slots - ds.length) none)
            fin r.1
          else M.fail) : M D) S = fin fl S1 := by
          rw [if_pos hlen, hlen, bndR e]
        rw [ev]
        have go2 : Go p W S t (fun _ => False) W1 S1 t1 rs.c := ⟨go.ext, go.wf, go.t1, go.t2, fun j hj => by
          obtain ⟨h1, h2⟩ := go.fr j hj (no j)
          exact ⟨h1, .inl h2⟩, go.grow⟩
        cases fl with
        | nx =>
          obtain ⟨g, z, _⟩ := fk
          obtain ⟨y, z2, k1, k2⟩ := joinR_r (W := W1) (S := S1) (n := S.length) (G := ts.map some ++ List.replicate (fd.slots - fd.ps) none) (env := ds.map some ++ List.replicate (fd.slots - fd.ps) none) (u := .non) (d := .non) hX q3 (by rw [z]; rfl) ⟨Val.of (by simp only [HasTy]), fun ho => nomatch ho⟩
          cases z2
          refine ⟨.non, S1, W1, t1, rfl, go2, k1, fun ho => ?_⟩
          obtain ⟨j, e3, e4⟩ := k2 ho
          cases e3
        | rt d =>
          obtain ⟨u', z, k⟩ := fk
          obtain ⟨y, z2, k1, k2⟩ := joinR_l hX q3 z k
          cases z2
          refine ⟨d, S1, W1, t1, rfl, go2, k1, fun ho => ?_⟩
          obtain ⟨j, e3, e4⟩ := k2 ho
          exact ⟨j, e3, e4.resolve_left (no j)⟩
        | bk =>
          obtain ⟨g, z, _⟩ := fk
          rw [qb] at z
          cases z
        | ct =>
          obtain ⟨g, z, _⟩ := fk
          rw [qc] at z
          cases z
      · cases h
    · cases h
  · cases h
end
/-! ### a program's defs -/
/-- by hand where told, else by the text, so many calls deep -/
def sgN (p : Prm) (P : Nat → Option FD) (hand : Nat → Nat → Option (List Ty2 → Option (Ty2 × Nat))) : Nat → Sg
  | 0, _, _ => none
  | n + 1, f, ts => match hand (n + 1) f with
    | some g => g ts
    | none => match P f with
      | some fd => inF p (sgN p P hand n) fd ts
      | none => none
theorem sgN_ok {p : Prm} {P : Nat → Option FD} {hand : Nat → Nat → Option (List Ty2 → Option (Ty2 × Nat))} (hX : PrOk p)
    (hh : ∀ (n f : Nat) (g : List Ty2 → Option (Ty2 × Nat)), hand (n + 1) f = some g → ∀ (ts : List Ty2) (u : Ty2) (c : Nat), g ts = some (u, c) → ∀ (ds : List D) (W : Wl) (S : Store) (t : Nat), HasTys p W ts ds → WF p t W S → t + c ≤ TM →
      ∃ d S' W' t', evF P (n + 1) f ds S = .ok d S' ∧ Go p W S t (fun _ => False) W' S' t' c ∧ Val p W' S' u d ∧ (isOwn u = true → ∃ j : Nat, d = .ref j ∧ S.length ≤ j)) : ∀ n, SgOk p (evF P n) (sgN p P hand n)
  | 0 => ⟨fun f ts u c h => by unfold sgN at h; cases h⟩
  | n + 1 => ⟨fun f ts u c h ds W S t hd w hc => by
    have ih := sgN_ok hX hh n
    unfold sgN at h
    split at h
    · rename_i g q
      exact hh n f g q ts u c h ds W S t hd w hc
    · split at h
      · rename_i fd q
        rw [evF, q]
        exact inF_ok hX ih h hd w hc
      · cases h⟩
end Ev
namespace Ev
open PySem PySem.Spec PyProof.Rows
/-! ### by hand -/
theorem bnd_app {α β : Type} (m : M α) (f : α → M β) (S : Store) : (m >>= f) S = (match m S with
  | .ok a S' => f a S'
  | .exc c a S' => .exc c a S'
  | .bad => .bad) := rfl
theorem ret_app {α : Type} (a : α) (S : Store) : M.ret a S = .ok a S := rfl
theorem tru_t {α : Type} (a b : M α) : tru (.bl true) a b = a := rfl
theorem tru_f {α : Type} (a b : M α) : tru (.bl false) a b = b := rfl
theorem evF_eq {P : Nat → Option FD} {n f : Nat} {fd : FD} {ds : List D} (h : P f = some fd) (hl : ds.length = fd.ps) : evF P (n + 1) f ds = (do
    let r ← evSs (evF P n) fd.body (ds.map some ++ List.replicate (fd.slots - ds.length) none)
    fin r.1) := by
  rw [evF, h]
  exact if_pos hl
section
variable {C : Nat → List D → M D}
theorem step_nx {s : St} {ss : List St} {env env' : Fr} {S S' : Store} (h : evS C s env S = .ok (.nx, env') S') : evSs C (s :: ss) env S = evSs C ss env' S' := by
  rw [evSs]
  unfold seqM
  rw [bnd_app, h]
theorem step_rt {s : St} {ss : List St} {env env' : Fr} {S S' : Store} {d : D} (h : evS C s env S = .ok (.rt d, env') S') : evSs C (s :: ss) env S = .ok (.rt d, env') S' := by
  rw [evSs]
  unfold seqM
  rw [bnd_app, h]
  rfl
theorem evE_var {i : Nat} {env : Fr} : evE C (.var i) env = getV env i := by rw [evE]
theorem evE_blt {b : Blt} {es : List E} {env : Fr} : evE C (.blt b es) env = (do
    let ds ← evEs C es env
    b.run ds) := by rw [evE]
end
/-- a call's end -/
theorem call_rt {P : Nat → Option FD} {n f : Nat} {fd : FD} {ds : List D} {S S' : Store} {d : D} {env' : Fr} (h : P f = some fd) (hl : ds.length = fd.ps) (e : evSs (evF P n) fd.body (ds.map some ++ List.replicate (fd.slots - ds.length) none) S = .ok (.rt d, env') S') : evF P (n + 1) f ds S = .ok d S' := by
  rw [evF_eq h hl, bnd_app, e]
  rfl
/-! ### while -/
theorem whileN_up {c : Fr → M D} {b : Fr → M (Fl × Fr)} : ∀ (n : Nat) (env : Fr) (S : Store), ¬ (whileN c b n env S).isBad → whileN c b (n + 1) env S = whileN c b n env S
  | 0, env, S, h => absurd trivial h
  | n + 1, env, S, h => by
    rw [whileN_succ, bnd_app] at h
    rw [whileN_succ (n + 1), whileN_succ n, bnd_app, bnd_app]
    cases hc : c env S with
    | bad => rfl
    | exc a d S1 => rfl
    | ok t S1 =>
      rw [hc] at h
      dsimp only at h ⊢
      cases t with
      | bl k =>
        cases k with
        | false => rfl
        | true =>
          rw [tru_t] at h ⊢
          rw [tru_t, bnd_app, bnd_app]
          rw [bnd_app] at h
          cases hb : b env S1 with
          | bad => rfl
          | exc a d S2 => rfl
          | ok r S2 =>
            rw [hb] at h
            obtain ⟨fl, e2⟩ := r
            dsimp only at h ⊢
            cases fl with
            | nx => exact whileN_up n e2 S2 h
            | ct => exact whileN_up n e2 S2 h
            | bk => rfl
            | rt d => rfl
      | _ => rfl
theorem whileN_le {c : Fr → M D} {b : Fr → M (Fl × Fr)} {n : Nat} {env : Fr} {S : Store} (h : ¬ (whileN c b n env S).isBad) : ∀ k, whileN c b (n + k) env S = whileN c b n env S
  | 0 => rfl
  | k + 1 => by
    have ih := whileN_le h k
    have := whileN_up (c := c) (b := b) (n + k) env S (by rw [ih]; exact h)
    rw [show n + (k + 1) = n + k + 1 by omega, this, ih]
theorem whileF_ok {c : Fr → M D} {b : Fr → M (Fl × Fr)} {n : Nat} {env : Fr} {S S' : Store} {r : Fl × Fr} (h : whileN c b n env S = .ok r S') : whileF c b env S = .ok r S' := by
  have hn : ¬ (whileN c b n env S).isBad := by rw [h]; exact id
  have ex : ∃ n, ¬ (whileN c b n env S).isBad := ⟨n, hn⟩
  unfold whileF
  rw [dif_pos ex]
  have k1 := whileN_le ex.choose_spec n
  have k2 := whileN_le hn ex.choose
  rw [Nat.add_comm] at k2
  rw [← k1, k2, h]
/-! ### decks -/
section
variable {p : Prm} {W : Wl} {S : Store} {t t1 c : Nat}
/-- a deck drawn from -/
theorem dk_set {j : Nat} {ds : List D} (w : WF p t W S) (h1 : W[j]? = some .dk) (hp : p.P t1 ds) (h2 : t ≤ t1) (h3 : t1 ≤ t + c) : Go p W S t (fun _ => False) W (S.set j (.lst ds)) t1 c := by
  have hl : j < S.length := by rw [← w.len]; exact (List.getElem?_eq_some_iff.mp h1).1
  have ne : ∀ {i : Nat}, i ≠ j → (S.set j (.lst ds))[i]? = S[i]? := fun h => List.getElem?_set_ne (fun e => h e.symm)
  have nj : ∀ {i : Nat} {k : Kd}, W[i]? = some k → k ≠ .dk → i ≠ j := fun {i k} e hk z => by
    subst z
    rw [h1] at e
    cases e
    exact hk rfl
  refine ⟨.refl, ⟨by rw [List.length_set]; exact w.len, fun i es e => ?_, fun i es e => ?_, fun i e => ?_, fun i e => ?_⟩, h2, h3, fun i e => ⟨ne (nj e fun z => nomatch z), .inl e⟩, by rw [List.length_set]; exact Nat.le_refl _⟩
  · rw [ne (nj e fun z => nomatch z)]
    exact w.fz i es e
  · rw [ne (nj e fun z => nomatch z)]
    exact w.sc i es e
  · by_cases hi : i = j
    · subst hi
      exact ⟨ds, by rw [List.getElem?_set_self hl], hp⟩
    · rw [ne hi]
      obtain ⟨es, e1, e2⟩ := w.dk i e
      exact ⟨es, e1, p.mono e2 h2⟩
  · rw [ne (nj e fun z => nomatch z)]
    exact w.ow i e
/-- a new deck -/
theorem dk_new {ds : List D} (w : WF p t W S) (hp : p.P t ds) : Go p W S t (fun _ => False) (W ++ [.dk]) (S ++ [.lst ds]) t 0 := by
  have old : ∀ {i : Nat}, i < S.length → (W ++ [.dk])[i]? = W[i]? ∧ (S ++ [.lst ds])[i]? = S[i]? := fun {i} h => ⟨by rw [List.getElem?_append_left (by rw [w.len]; exact h)], by rw [List.getElem?_append_left h]⟩
  have lt : ∀ {i : Nat} {k : Kd}, W[i]? = some k → i < S.length := fun h => by
    rw [← w.len]
    exact (List.getElem?_eq_some_iff.mp h).1
  have new : ∀ {i : Nat} {k : Kd}, (W ++ [.dk])[i]? = some k → (W[i]? = some k ∧ i < S.length) ∨ (i = S.length ∧ k = .dk) := fun {i k} h => by
    by_cases hi : i < S.length
    · rw [(old hi).1] at h
      exact .inl ⟨h, hi⟩
    · rw [List.getElem?_append_right (by rw [w.len]; omega)] at h
      have hl := (List.getElem?_eq_some_iff.mp h).1
      rw [List.length_singleton, w.len] at hl
      have : i = S.length := by omega
      subst this
      rw [w.len, Nat.sub_self] at h
      cases h
      exact .inr ⟨rfl, rfl⟩
  refine ⟨fun i k e hk => by rw [(old (lt e)).1]; exact e, ⟨by simp [w.len], fun i es e => ?_, fun i es e => ?_, fun i e => ?_, fun i e => ?_⟩, Nat.le_refl _, Nat.le_refl _, fun i e => ⟨(old (lt e)).2, .inl (by rw [(old (lt e)).1]; exact e)⟩, by simp⟩
  · rcases new e with ⟨h1, h2⟩ | ⟨_, h2⟩
    · rw [(old h2).2]; exact w.fz i es h1
    · cases h2
  · rcases new e with ⟨h1, h2⟩ | ⟨_, h2⟩
    · rw [(old h2).2]; exact w.sc i es h1
    · cases h2
  · rcases new e with ⟨h1, h2⟩ | ⟨h1, _⟩
    · rw [(old h2).2]; exact w.dk i h1
    · subst h1
      exact ⟨ds, by simp, hp⟩
  · rcases new e with ⟨h1, h2⟩ | ⟨_, h2⟩
    · rw [(old h2).2]; exact w.ow i h1
    · cases h2
end
/-! ### the greatest divisor -/
/-- while b > 0 (or b != 0): a, b = b, a % b -/
theorem gcd_loop {c : Fr → M D} {b : Fr → M (Fl × Fr)} {S : Store} {E : Int → Int → Fr} (hc : ∀ (x y : Nat) (S : Store), c (E x y) S = .ok (.bl (decide (0 < y))) S) (hb : ∀ (x y : Nat) (S : Store), 0 < y → b (E x y) S = .ok (.nx, E y ((x % y : Nat) : Int)) S) :
    ∀ (y x : Nat), ∃ n, whileN c b n (E x y) S = .ok (.nx, E (Nat.gcd x y) 0) S := by
  intro y
  induction y using Nat.strongRecOn with
  | _ y ih =>
    intro x
    by_cases hy : 0 < y
    · obtain ⟨n, hn⟩ := ih (x % y) (Nat.mod_lt _ hy) y
      refine ⟨n + 1, ?_⟩
      rw [whileN_succ, bnd_app, hc]
      dsimp only
      rw [decide_eq_true hy, tru_t, bnd_app, hb x y S hy]
      dsimp only
      rw [hn, show Nat.gcd y (x % y) = Nat.gcd x y by rw [Nat.gcd_comm x y, Nat.gcd_rec y x, Nat.gcd_comm]]
    · have : y = 0 := by omega
      subst this
      refine ⟨1, ?_⟩
      rw [whileN_succ, bnd_app, hc]
      dsimp only
      rw [decide_eq_false hy, tru_f, ret_app, Nat.gcd_zero_right]
      rfl
end Ev
namespace Ev
open PySem PySem.Spec PyProof.Rows
/-! ### numbers in lowest terms -/
def nX (x y : Int) : Int := x / (Int.gcd x y : Nat)
def nY (x y : Int) : Int := y / (Int.gcd x y : Nat)
def nrm (x y : Int) : D := .tup [.int (nX x y), .int (nY x y)]
theorem gcd_pos {x y : Int} (hy : 1 ≤ y) : 0 < (Int.gcd x y : Int) := by
  have := Int.gcd_pos_of_ne_zero_right x (show y ≠ 0 by omega)
  omega
theorem gcd_le {x y : Int} (hy : 1 ≤ y) : (Int.gcd x y : Int) ≤ y := Int.le_of_dvd (by omega) (Int.gcd_dvd_right x y)
theorem divOk_of {g m : Int} (h : 0 < g) (h2 : g ≤ m) (h3 : m.natAbs.log2 < 9000) : divOk g := ⟨by omega, Nat.lt_of_le_of_lt (log2_mono (show g.natAbs ≤ m.natAbs by omega)) h3⟩
theorem nX_mul (x y : Int) : nX x y * (Int.gcd x y : Int) = x := Int.ediv_mul_cancel (Int.gcd_dvd_left x y)
theorem nY_mul (x y : Int) : nY x y * (Int.gcd x y : Int) = y := Int.ediv_mul_cancel (Int.gcd_dvd_right x y)
theorem nY_pos {x y : Int} (hy : 1 ≤ y) : 1 ≤ nY x y := by
  have g0 := gcd_pos (x := x) hy
  have h := nY_mul x y
  by_cases hn : nY x y ≤ 0
  · have := Int.mul_le_mul_of_nonneg_right hn (show 0 ≤ (Int.gcd x y : Int) by omega)
    omega
  · omega
theorem nY_le {x y : Int} (hy : 1 ≤ y) : nY x y ≤ y := by
  have g0 := gcd_pos (x := x) hy
  have h := nY_mul x y
  have p := nY_pos (x := x) hy
  have := Int.mul_le_mul_of_nonneg_left (show (1 : Int) ≤ (Int.gcd x y : Int) by omega) (show 0 ≤ nY x y by omega)
  omega
theorem nX_abs {x y : Int} (hy : 1 ≤ y) : (nX x y).natAbs ≤ x.natAbs := by
  have g0 := gcd_pos (x := x) hy
  have h := congrArg Int.natAbs (nX_mul x y)
  rw [Int.natAbs_mul] at h
  have g1 : 1 ≤ (Int.gcd x y : Int).natAbs := by omega
  have := Nat.mul_le_mul_left (nX x y).natAbs g1
  omega
theorem n_gcd {x y : Int} (hy : 1 ≤ y) : Int.gcd (nX x y) (nY x y) = 1 := Int.gcd_ediv_gcd_ediv_gcd (by have := gcd_pos (x := x) hy; omega)
/-- the value is kept -/
theorem n_val {x y : Int} (hy : 1 ≤ y) : nX x y * y = x * nY x y := by
  have h1 := nX_mul x y
  have h2 := nY_mul x y
  generalize nX x y = a at *
  generalize nY x y = b at *
  generalize (Int.gcd x y : Int) = g at *
  rw [← h1, ← h2]
  rw [Int.mul_assoc a g b, Int.mul_comm g b]
theorem cross {a b c d x y x' y' : Int} (hy : 1 ≤ y) (hy' : 1 ≤ y') (h1 : a * y = x * b) (h2 : c * y' = x' * d) (h : x * y' = x' * y) (hb : 1 ≤ b) : a * d = c * b := by
  have e : a * d * (y * y') = c * b * (y * y') := by grind
  exact Int.eq_of_mul_eq_mul_right (Int.ne_of_gt (Int.mul_pos (by omega) (by omega))) e
theorem idvd {a b d : Int} (g : Int.gcd b a = 1) (h : b ∣ a * d) : b ∣ d := by
  have h1 : b.natAbs ∣ a.natAbs * d.natAbs := by rw [← Int.natAbs_mul]; exact Int.natAbs_dvd_natAbs.mpr h
  have h2 : Nat.Coprime b.natAbs a.natAbs := g
  exact Int.natAbs_dvd_natAbs.mp (h2.dvd_of_dvd_mul_left h1)
theorem low_eq {a b c d : Int} (hb : 1 ≤ b) (hd : 1 ≤ d) (g1 : Int.gcd a b = 1) (g2 : Int.gcd c d = 1) (h : a * d = c * b) : a = c ∧ b = d := by
  have k1 : b ∣ d := by
    have : b ∣ a * d := ⟨c, by rw [h, Int.mul_comm]⟩
    exact idvd (by rw [Int.gcd_comm]; exact g1) this
  have k2 : d ∣ b := by
    have : d ∣ c * b := ⟨a, by rw [← h, Int.mul_comm]⟩
    exact idvd (by rw [Int.gcd_comm]; exact g2) this
  have e : b = d := Int.le_antisymm (Int.le_of_dvd (by omega) k1) (Int.le_of_dvd (by omega) k2)
  subst e
  exact ⟨Int.eq_of_mul_eq_mul_right (by omega) h, rfl⟩
/-- numbers of one value have one lowest form -/
theorem nrm_eq {x y x' y' : Int} (hy : 1 ≤ y) (hy' : 1 ≤ y') (h : x * y' = x' * y) : nX x y = nX x' y' ∧ nY x y = nY x' y' :=
  low_eq (nY_pos hy) (nY_pos hy') (n_gcd hy) (n_gcd hy') (cross hy hy' (n_val hy) (n_val hy') h (nY_pos hy))
/-! ### sizes -/
def Bd (k : Nat) (i : Int) : Prop := i.natAbs < 2 ^ k
theorem Bd.mono {a b : Nat} {i : Int} (h : Bd a i) (hl : a ≤ b) : Bd b i := Nat.lt_of_lt_of_le h (Nat.pow_le_pow_right (by decide) hl)
theorem Bd.mul {a b : Nat} {i j : Int} (h1 : Bd a i) (h2 : Bd b j) : Bd (a + b) (i * j) := by
  unfold Bd at *
  rw [Int.natAbs_mul, Nat.pow_add]
  exact Nat.mul_lt_mul'' h1 h2
theorem Bd.add {a : Nat} {i j : Int} (h1 : Bd a i) (h2 : Bd a j) : Bd (a + 1) (i + j) := by
  unfold Bd at *
  rw [Nat.pow_succ]
  omega
theorem Bd.sub {a : Nat} {i j : Int} (h1 : Bd a i) (h2 : Bd a j) : Bd (a + 1) (i - j) := by
  unfold Bd at *
  rw [Nat.pow_succ]
  omega
theorem Bd.log {a : Nat} {i : Int} (h : Bd a i) (ha : 0 < a) : i.natAbs.log2 < a := by
  by_cases h0 : i.natAbs = 0
  · rw [h0]; exact ha
  · exact (Nat.log2_lt h0).mpr h
theorem Bd.mulOk {a b : Nat} {i j : Int} (h1 : Bd a i) (h2 : Bd b j) (ha : 0 < a := by decide) (hb : 0 < b := by decide) (hs : a + b ≤ 1000000 := by decide) : mulOk i j :=
  .inr (.inr (by have := h1.log ha; have := h2.log hb; omega))
theorem Bd.nX {a : Nat} {x y : Int} (h : Bd a x) (hy : 1 ≤ y) : Bd a (nX x y) := Nat.lt_of_le_of_lt (nX_abs hy) h
theorem Bd.nY {a : Nat} {x y : Int} (h : Bd a y) (hy : 1 ≤ y) : Bd a (nY x y) := by
  have := nY_le (x := x) hy
  have := nY_pos (x := x) hy
  unfold Bd at *
  omega
end Ev
namespace Ev
open PySem PySem.Spec PyProof.Rows
namespace K05
def top (i : Nat) : Stmt := PySem.Challenge.pw_towerfires_k05_ahead_aside_in_the_box.main.body.getD i (.Pass ⟨0, 0, 0, 0⟩)
def cons : List (Str × D) := [("NOUGHT", .tup [.int 0, .int 1])]
/-- divisor_of -/
def b0 : List St := [.set 0 (.blt .abs [.var 0]), .set 1 (.blt .abs [.var 1]), .whl (.cmp .ne (.var 1) (.int 0)) [.par2 0 1 (.var 1) (.bin .mod (.var 0) (.var 1))], .ret (.var 0)]
def f0 : Fn := ⟨"divisor_of", L2.defArgs (top 5), L2.defBody (top 5), L2.defScope (top 5), ["one", "other"], ["one", "other"], b0⟩
/-- worth_of -/
def b1 : List St := [.ife (.cmp .eq (.var 1) (.int 0)) [.raise 0] [], .set 2 (.call 0 [.var 0, .var 1]), .ife (.cmp .lt (.var 1) (.int 0)) [.set 2 (.bin .sub (.int 0) (.var 2))] [], .ret (.tup [.bin .div (.var 0) (.var 2), .bin .div (.var 1) (.var 2)])]
def f1 : Fn := ⟨"worth_of", L2.defArgs (top 6), L2.defBody (top 6), L2.defScope (top 6), ["top", "bottom"], ["top", "bottom", "by"], b1⟩
/-- summed -/
def b2 : List St := [.ret (.call 1 [.bin .add (.bin .mul (.ix (.var 0) (.int 0)) (.ix (.var 1) (.int 1))) (.bin .mul (.ix (.var 1) (.int 0)) (.ix (.var 0) (.int 1))), .bin .mul (.ix (.var 0) (.int 1)) (.ix (.var 1) (.int 1))])]
def f2 : Fn := ⟨"summed", L2.defArgs (top 7), L2.defBody (top 7), L2.defScope (top 7), ["one", "other"], ["one", "other"], b2⟩
/-- lessened -/
def b3 : List St := [.ret (.call 1 [.bin .sub (.bin .mul (.ix (.var 0) (.int 0)) (.ix (.var 1) (.int 1))) (.bin .mul (.ix (.var 1) (.int 0)) (.ix (.var 0) (.int 1))), .bin .mul (.ix (.var 0) (.int 1)) (.ix (.var 1) (.int 1))])]
def f3 : Fn := ⟨"lessened", L2.defArgs (top 8), L2.defBody (top 8), L2.defScope (top 8), ["one", "other"], ["one", "other"], b3⟩
/-- product_of -/
def b4 : List St := [.ret (.call 1 [.bin .mul (.ix (.var 0) (.int 0)) (.ix (.var 1) (.int 0)), .bin .mul (.ix (.var 0) (.int 1)) (.ix (.var 1) (.int 1))])]
def f4 : Fn := ⟨"product_of", L2.defArgs (top 9), L2.defBody (top 9), L2.defScope (top 9), ["one", "other"], ["one", "other"], b4⟩
/-- is_less -/
def b5 : List St := [.ret (.cmp .lt (.bin .mul (.ix (.var 0) (.int 0)) (.ix (.var 1) (.int 1))) (.bin .mul (.ix (.var 1) (.int 0)) (.ix (.var 0) (.int 1))))]
def f5 : Fn := ⟨"is_less", L2.defArgs (top 10), L2.defBody (top 10), L2.defScope (top 10), ["one", "other"], ["one", "other"], b5⟩
/-- is_in -/
def b6 : List St := [.for (.tup [.nm 2, .nm 3]) .zip [.var 1, .var 0] [.ife (.or (.call 5 [.var 2, .glob (.tup [.int 0, .int 1])]) (.call 5 [.tup [.var 3, .int 1], .var 2])) [.ret (.bl false)] []], .ret (.bl true)]
def f6 : Fn := ⟨"is_in", L2.defArgs (top 12), L2.defBody (top 12), L2.defScope (top 12), ["box", "point"], ["box", "point", "worth", "most"], b6⟩
/-- times -/
def b7 : List St := [.ret (.call 4 [.tup [.var 0, .int 1], .var 1])]
def f7 : Fn := ⟨"times", L2.defArgs (top 13), L2.defBody (top 13), L2.defScope (top 13), ["number", "worth"], ["number", "worth"], b7⟩
/-- ahead_and_aside -/
def b8 : List St := [.asg (.tup [.tup [.nm 2, .nm 3], .tup [.nm 4, .nm 5], .nm 6]) (.var 0), .set 7 (.call 3 [.ix (.var 1) (.int 0), .tup [.var 2, .int 1]]), .set 8 (.call 3 [.ix (.var 1) (.int 1), .tup [.var 3, .int 1]]), .ret (.tup [.call 2 [.call 7 [.var 4, .var 7], .call 7 [.var 5, .var 8]], .call 3 [.call 7 [.var 4, .var 8], .call 7 [.var 5, .var 7]]])]
def f8 : Fn := ⟨"ahead_and_aside", L2.defArgs (top 14), L2.defBody (top 14), L2.defScope (top 14), ["sighting", "point"], ["sighting", "point", "x", "y", "a", "b", "slackness", "right", "up"], b8⟩
/-- _law_deck -/
def b9 : List St := [.ret (.lst [.bin .mul (.var 0) (.blt .int [.cmp .ge (.var 0) (.bin .pow (.int 10) (.int 18))]), .bin .mod (.var 0) (.int 2147483587), .int 0])]
def f9 : Fn := ⟨"_law_deck", L2.defArgs (top 16), L2.defBody (top 16), L2.defScope (top 16), ["_law_cell"], ["_law_cell"], b9⟩
/-- _law_draw -/
def b10 : List St := [.ife (.cmp .gt (.ix (.var 0) (.int 0)) (.int 0)) [.set 2 (.bin .mod (.ix (.var 0) (.int 0)) (.var 1)), .sub (.var 0) (.int 0) (.bin .div (.ix (.var 0) (.int 0)) (.var 1)), .ret (.var 2)] [], .sub (.var 0) (.int 2) (.bin .add (.ix (.var 0) (.int 2)) (.int 1)), .set 3 (.bin .mod (.bin .mul (.bin .add (.bin .add (.ix (.var 0) (.int 1)) (.bin .mul (.int 104729) (.ix (.var 0) (.int 2)))) (.int 17)) (.int 48271)) (.int 2147483647)), .set 3 (.bin .mod (.bin .add (.bin .add (.bin .mul (.var 3) (.var 3)) (.bin .mul (.int 69621) (.var 3))) (.ix (.var 0) (.int 2))) (.int 2147483629)), .ret (.bin .mod (.bin .div (.bin .mod (.bin .mul (.var 3) (.int 39373)) (.int 2147483563)) (.int 8)) (.var 1))]
def f10 : Fn := ⟨"_law_draw", L2.defArgs (top 17), L2.defBody (top 17), L2.defScope (top 17), ["_law_deck_here", "_law_most"], ["_law_deck_here", "_law_most", "_law_got", "_law_mixed"], b10⟩
/-- _law_divides -/
def b11 : List St := [.par2 0 1 (.blt .abs [.var 0]) (.blt .abs [.var 1]), .whl (.cmp .gt (.var 1) (.int 0)) [.par2 0 1 (.var 1) (.bin .mod (.var 0) (.var 1))], .ret (.var 0)]
def f11 : Fn := ⟨"_law_divides", L2.defArgs (top 18), L2.defBody (top 18), L2.defScope (top 18), ["_law_one", "_law_other"], ["_law_one", "_law_other"], b11⟩
/-- _law_worth -/
def b12 : List St := [.set 2 (.call 11 [.var 0, .var 1]), .ife (.cmp .lt (.var 1) (.int 0)) [.set 2 (.bin .sub (.int 0) (.var 2))] [], .ret (.tup [.bin .div (.var 0) (.var 2), .bin .div (.var 1) (.var 2)])]
def f12 : Fn := ⟨"_law_worth", L2.defArgs (top 19), L2.defBody (top 19), L2.defScope (top 19), ["_law_top", "_law_bottom"], ["_law_top", "_law_bottom", "_law_by"], b12⟩
/-- _law_same -/
def b13 : List St := [.ife (.isi .tuple (.var 1)) [.ife (.or (.not (.isi .tuple (.var 0))) (.cmp .ne (.blt .len [.var 0]) (.blt .len [.var 1]))) [.ret (.bl false)] [], .ret (.cmp .notIn (.bl false) (.lc [2, 3] (.tup [.nm 2, .nm 3]) .zip [.var 0, .var 1] [] (.call 13 [.var 2, .var 3])))] [], .ife (.isi .str (.var 1)) [.ret (.and (.isi .str (.var 0)) (.cmp .eq (.var 0) (.var 1)))] [], .ret (.and (.isi .int (.var 0)) (.and (.cmp .eq (.isi .bool (.var 0)) (.isi .bool (.var 1))) (.cmp .eq (.var 0) (.var 1))))]
def f13 : Fn := ⟨"_law_same", L2.defArgs (top 20), L2.defBody (top 20), L2.defScope (top 20), ["_law_found", "_law_due"], ["_law_found", "_law_due", "_law_one", "_law_other"], b13⟩
/-- _law_number -/
def b14 : List St := [.set 1 (.call 10 [.var 0, .int 8]), .ife (.cmp .lt (.var 1) (.int 5)) [.ret (.bin .sub (.call 10 [.var 0, .int 13]) (.int 6))] [], .ife (.cmp .lt (.var 1) (.int 7)) [.ret (.bin .sub (.call 10 [.var 0, .int 81]) (.int 40))] [], .ret (.bin .sub (.call 10 [.var 0, .int 2001]) (.int 1000))]
def f14 : Fn := ⟨"_law_number", L2.defArgs (top 21), L2.defBody (top 21), L2.defScope (top 21), ["_law_deck_here"], ["_law_deck_here", "_law_way"], b14⟩
/-- _law_some_worth -/
def b15 : List St := [.set 1 (.call 10 [.var 0, .int 8]), .ife (.cmp .lt (.var 1) (.int 3)) [.ret (.tup [.bin .sub (.call 10 [.var 0, .int 25]) (.int 6), .int 1])] [], .ife (.cmp .lt (.var 1) (.int 6)) [.ret (.call 12 [.bin .sub (.call 10 [.var 0, .int 81]) (.int 20), .bin .add (.int 1) (.call 10 [.var 0, .int 12])])] [], .ife (.cmp .eq (.var 1) (.int 6)) [.ret (.ix (.lst [.tup [.int 0, .int 1], .tup [.int 1, .int 1], .tup [.neg (.int 1), .int 1], .tup [.int 1, .int 2]]) (.call 10 [.var 0, .int 4]))] [], .ret (.call 12 [.bin .sub (.call 10 [.var 0, .int 2001]) (.int 1000), .bin .add (.int 1) (.call 10 [.var 0, .int 1000])])]
def f15 : Fn := ⟨"_law_some_worth", L2.defArgs (top 22), L2.defBody (top 22), L2.defScope (top 22), ["_law_deck_here"], ["_law_deck_here", "_law_way"], b15⟩
/-- _law_bearing -/
def b16 : List St := [.par2 1 2 (.call 14 [.var 0]) (.call 14 [.var 0]), .set 3 (.call 11 [.var 1, .var 2]), .ife (.cmp .eq (.var 3) (.int 0)) [.ret (.ix (.lst [.tup [.int 1, .int 0], .tup [.int 0, .int 1], .tup [.neg (.int 1), .int 0], .tup [.int 0, .neg (.int 1)]]) (.call 10 [.var 0, .int 4]))] [], .ret (.tup [.bin .div (.var 1) (.var 3), .bin .div (.var 2) (.var 3)])]
def f16 : Fn := ⟨"_law_bearing", L2.defArgs (top 23), L2.defBody (top 23), L2.defScope (top 23), ["_law_deck_here"], ["_law_deck_here", "_law_a", "_law_b", "_law_by"], b16⟩
/-- _law_slackness -/
def b17 : List St := [.set 1 (.call 10 [.var 0, .int 6]), .ife (.cmp .lt (.var 1) (.int 2)) [.ret (.ix (.lst [.tup [.int 0, .int 1], .tup [.int 1, .int 1]]) (.var 1))] [], .ife (.cmp .lt (.var 1) (.int 5)) [.ret (.call 12 [.call 10 [.var 0, .int 9], .bin .add (.int 1) (.call 10 [.var 0, .int 20])])] [], .ret (.call 12 [.call 10 [.var 0, .int 1001], .bin .add (.int 1) (.call 10 [.var 0, .int 1000])])]
def f17 : Fn := ⟨"_law_slackness", L2.defArgs (top 24), L2.defBody (top 24), L2.defScope (top 24), ["_law_deck_here"], ["_law_deck_here", "_law_way"], b17⟩
/-- _law_sighting -/
def b18 : List St := [.ret (.tup [.tup [.call 14 [.var 0], .call 14 [.var 0]], .call 16 [.var 0], .call 17 [.var 0]])]
def f18 : Fn := ⟨"_law_sighting", L2.defArgs (top 25), L2.defBody (top 25), L2.defScope (top 25), ["_law_deck_here"], ["_law_deck_here"], b18⟩
/-- _law_box -/
def b19 : List St := [.set 1 (.call 10 [.var 0, .int 5]), .set 2 (.ix (.lst [.int 1, .int 12, .int 12, .int 10, .int 1000]) (.var 1)), .ret (.tup [.bin .add (.int 1) (.call 10 [.var 0, .var 2]), .bin .add (.int 1) (.call 10 [.var 0, .var 2])])]
def f19 : Fn := ⟨"_law_box", L2.defArgs (top 26), L2.defBody (top 26), L2.defScope (top 26), ["_law_deck_here"], ["_law_deck_here", "_law_way", "_law_most"], b19⟩
/-- _law_ahead_aside -/
def b20 : List St := [.asg (.tup [.tup [.nm 2, .nm 3], .tup [.nm 4, .nm 5], .nm 6]) (.var 0), .asg (.tup [.tup [.nm 7, .nm 8], .tup [.nm 9, .nm 10]]) (.var 1), .set 11 (.bin .sub (.bin .mul (.var 7) (.var 10)) (.bin .mul (.bin .mul (.var 2) (.var 8)) (.var 10))), .set 12 (.bin .sub (.bin .mul (.var 9) (.var 8)) (.bin .mul (.bin .mul (.var 3) (.var 8)) (.var 10))), .set 13 (.bin .add (.bin .mul (.var 4) (.var 11)) (.bin .mul (.var 5) (.var 12))), .set 14 (.bin .sub (.bin .mul (.var 4) (.var 12)) (.bin .mul (.var 5) (.var 11))), .ret (.tup [.var 13, .var 14, .bin .mul (.var 8) (.var 10)])]
def f20 : Fn := ⟨"_law_ahead_aside", L2.defArgs (top 27), L2.defBody (top 27), L2.defScope (top 27), ["_law_sighting_here", "_law_point_here"], ["_law_sighting_here", "_law_point_here", "_law_x", "_law_y", "_law_a", "_law_b", "_law_slackness_here", "_law_px", "_law_qx", "_law_py", "_law_qy", "_law_right_here", "_law_up", "_law_ahead", "_law_aside"], b20⟩
/-- _law_far_point -/
def b21 : List St := [.set 1 (.lst []), .for (.nm 2) .rng1 [.int 2] [.set 3 (.bin .mul (.bin .add (.bin .pow (.int 10) (.int 39)) (.call 10 [.var 0, .bin .pow (.int 10) (.int 6)])) (.ix (.lst [.int 1, .neg (.int 1)]) (.call 10 [.var 0, .int 2]))), .set 4 (.lst [.bin .sub (.bin .sub (.bin .pow (.int 10) (.int 39)) (.int 1)) (.call 10 [.var 0, .bin .pow (.int 10) (.int 6)]), .bin .add (.bin .pow (.int 10) (.int 36)) (.int 1), .int 1]), .drop (.mth .append (.var 1) [.call 12 [.var 3, .ix (.var 4) (.call 10 [.var 0, .int 3])]])], .ret (.blt .tuple [.var 1])]
def f21 : Fn := ⟨"_law_far_point", L2.defArgs (top 28), L2.defBody (top 28), L2.defScope (top 28), ["_law_deck_here"], ["_law_deck_here", "_law_found", "_law_k", "_law_top", "_law_bottoms"], b21⟩
/-- _law_point -/
def b22 : List St := [.set 2 (.lst []), .ife (.cmp .eq (.call 10 [.var 0, .int 8]) (.int 5)) [.ret (.call 21 [.var 0])] [], .for (.nm 3) .seq [.var 1] [.set 4 (.call 10 [.var 0, .int 5]), .set 5 (.call 12 [.bin .sub (.bin .add (.bin .mul (.var 3) (.int 16)) (.call 10 [.var 0, .int 3])) (.int 1), .int 16]), .set 6 (.call 12 [.call 10 [.var 0, .bin .add (.bin .mul (.var 3) (.int 6)) (.int 1)], .int 6]), .set 7 (.call 12 [.bin .sub (.call 10 [.var 0, .int 3]) (.int 1), .bin .add (.int 1) (.call 10 [.var 0, .int 900])]), .drop (.mth .append (.var 2) [.ix (.lst [.tup [.int 0, .int 1], .tup [.var 3, .int 1], .ix (.lst [.var 5, .tup [.var 3, .int 1]]) (.blt .int [.cmp .gt (.var 3) (.int 60)]), .var 6, .var 7]) (.var 4)])], .set 8 (.blt .tuple [.var 2]), .ife (.or (.cmp .eq (.call 10 [.var 0, .int 4]) (.int 0)) (.cmp .gt (.blt .max2 [.ix (.ix (.var 8) (.int 0)) (.int 0), .ix (.ix (.var 8) (.int 1)) (.int 0)]) (.int 1000))) [.ret (.tup [.call 15 [.var 0], .call 15 [.var 0]])] [], .ret (.var 8)]
def f22 : Fn := ⟨"_law_point", L2.defArgs (top 29), L2.defBody (top 29), L2.defScope (top 29), ["_law_deck_here", "_law_box_here"], ["_law_deck_here", "_law_box_here", "_law_found", "_law_most", "_law_way", "_law_near", "_law_inside", "_law_less", "_law_point_here"], b22⟩
/-- _law_right -/
def b23 : List St := [.asg (.tup [.nm 3, .nm 4, .nm 5]) (.call 20 [.var 1, .var 2]), .set 6 (.tup [.call 12 [.var 3, .var 5], .call 12 [.var 4, .var 5]]), .ife (.not (.call 13 [.call 8 [.var 1, .var 2], .var 6])) [.ret (.bl false)] [], .ife (.cmp .ne (.call 8 [.bin .add (.slHi (.var 1) (.int 2)) (.tup [.tup [.int 7, .int 3]]), .var 2]) (.var 6)) [.ret (.bl false)] [], .set 7 (.cmp .eq (.lc [9, 10, 11] (.tup [.tup [.nm 9, .nm 10], .nm 11]) .zip [.var 2, .var 0] [.not (.chain .le .le (.int 0) (.var 9) (.bin .mul (.var 11) (.var 10)))] (.int 1)) (.lst [])), .set 8 (.call 6 [.var 0, .var 2]), .ret (.and (.isi .bool (.var 8)) (.cmp .eq (.var 8) (.var 7)))]
def f23 : Fn := ⟨"_law_right", L2.defArgs (top 30), L2.defBody (top 30), L2.defScope (top 30), ["_law_box_here", "_law_sighting_here", "_law_point_here"], ["_law_box_here", "_law_sighting_here", "_law_point_here", "_law_ahead", "_law_aside", "_law_whole", "_law_due", "_law_inside", "_law_found", "_law_top", "_law_bottom", "_law_most"], b23⟩
/-- _law_rim_right -/
def b24 : List St := [.for (.nm 1) .rng1 [.int 2] [.for (.tup [.nm 2, .nm 3]) .seq [.lst [.tup [.int 1, .bl false], .tup [.neg (.int 1), .bl true], .tup [.int 0, .bl true]]] [.set 4 (.lst [.tup [.int 0, .int 1], .tup [.int 0, .int 1]]), .sub (.var 4) (.var 1) (.call 12 [.bin .add (.bin .mul (.ix (.var 0) (.var 1)) (.bin .pow (.int 10) (.int 36))) (.var 2), .bin .pow (.int 10) (.int 36)]), .ife (.cmp .ne (.blt .repr [.call 6 [.var 0, .blt .tuple [.var 4]]]) (.blt .repr [.var 3])) [.ret (.bl false)] []], .set 4 (.lst [.tup [.int 1, .int 2], .tup [.int 1, .int 2]]), .sub (.var 4) (.var 1) (.tup [.neg (.int 1), .bin .pow (.int 10) (.int 39)]), .ife (.cmp .isNot (.call 6 [.var 0, .blt .tuple [.var 4]]) (.bl false)) [.ret (.bl false)] []], .ret (.bl true)]
def f24 : Fn := ⟨"_law_rim_right", L2.defArgs (top 31), L2.defBody (top 31), L2.defScope (top 31), ["_law_box_here"], ["_law_box_here", "_law_k", "_law_more", "_law_due", "_law_worths"], b24⟩
/-- law -/
def b25 : List St := [.for (.nm 1) .seq [.bin .add (.slHi (.var 0) (.int 12)) (.lst [.int 3])] [.set 2 (.call 9 [.var 1]), .set 3 (.call 19 [.var 2]), .ife (.not (.call 24 [.var 3])) [.ret (.bl false)] [], .set 4 (.lc [5] (.nm 5) .rng1 [.int 4] [] (.call 18 [.var 2])), .for (.nm 5) .rng1 [.int 6] [.set 6 (.call 22 [.var 2, .var 3]), .for (.nm 7) .seq [.bin .add (.var 4) (.slHi (.var 4) (.int 1))] [.ife (.not (.call 23 [.var 3, .var 7, .var 6])) [.ret (.bl false)] []]]], .ret (.bl true)]
def f25 : Fn := ⟨"law", L2.defArgs (top 32), L2.defBody (top 32), L2.defScope (top 32), ["_law_script"], ["_law_script", "_law_cell", "_law_deck_here", "_law_box_here", "_law_some", "_law_k", "_law_point_here", "_law_sighting_here"], b25⟩
def fnl : List Fn := [f0, f1, f2, f3, f4, f5, f6, f7, f8, f9, f10, f11, f12, f13, f14, f15, f16, f17, f18, f19, f20, f21, f22, f23, f24, f25]
theorem ok0 : f0.Ok (nms fnl) cons := ⟨⟨rfl, rfl, rfl, by decide +kernel, rfl, by decide +kernel, by decide +kernel⟩, fun _ _ _ _ _ _ us hl => match us, hl with | [_, _], _ => rfl, by kernel_rfl⟩
theorem ok1 : f1.Ok (nms fnl) cons := ⟨⟨rfl, rfl, rfl, by decide +kernel, rfl, by decide +kernel, by decide +kernel⟩, fun _ _ _ _ _ _ us hl => match us, hl with | [_, _], _ => rfl, by kernel_rfl⟩
theorem ok2 : f2.Ok (nms fnl) cons := ⟨⟨rfl, rfl, rfl, by decide +kernel, rfl, by decide +kernel, by decide +kernel⟩, fun _ _ _ _ _ _ us hl => match us, hl with | [_, _], _ => rfl, by kernel_rfl⟩
theorem ok3 : f3.Ok (nms fnl) cons := ⟨⟨rfl, rfl, rfl, by decide +kernel, rfl, by decide +kernel, by decide +kernel⟩, fun _ _ _ _ _ _ us hl => match us, hl with | [_, _], _ => rfl, by kernel_rfl⟩
theorem ok4 : f4.Ok (nms fnl) cons := ⟨⟨rfl, rfl, rfl, by decide +kernel, rfl, by decide +kernel, by decide +kernel⟩, fun _ _ _ _ _ _ us hl => match us, hl with | [_, _], _ => rfl, by kernel_rfl⟩
theorem ok5 : f5.Ok (nms fnl) cons := ⟨⟨rfl, rfl, rfl, by decide +kernel, rfl, by decide +kernel, by decide +kernel⟩, fun _ _ _ _ _ _ us hl => match us, hl with | [_, _], _ => rfl, by kernel_rfl⟩
theorem ok6 : f6.Ok (nms fnl) cons := ⟨⟨rfl, rfl, rfl, by decide +kernel, rfl, by decide +kernel, by decide +kernel⟩, fun _ _ _ _ _ _ us hl => match us, hl with | [_, _], _ => rfl, by kernel_rfl⟩
theorem ok7 : f7.Ok (nms fnl) cons := ⟨⟨rfl, rfl, rfl, by decide +kernel, rfl, by decide +kernel, by decide +kernel⟩, fun _ _ _ _ _ _ us hl => match us, hl with | [_, _], _ => rfl, by kernel_rfl⟩
theorem ok8 : f8.Ok (nms fnl) cons := ⟨⟨rfl, rfl, rfl, by decide +kernel, rfl, by decide +kernel, by decide +kernel⟩, fun _ _ _ _ _ _ us hl => match us, hl with | [_, _], _ => rfl, by kernel_rfl⟩
theorem ok9 : f9.Ok (nms fnl) cons := ⟨⟨rfl, rfl, rfl, by decide +kernel, rfl, by decide +kernel, by decide +kernel⟩, fun _ _ _ _ _ _ us hl => match us, hl with | [_], _ => rfl, by kernel_rfl⟩
theorem ok10 : f10.Ok (nms fnl) cons := ⟨⟨rfl, rfl, rfl, by decide +kernel, rfl, by decide +kernel, by decide +kernel⟩, fun _ _ _ _ _ _ us hl => match us, hl with | [_, _], _ => rfl, by kernel_rfl⟩
theorem ok11 : f11.Ok (nms fnl) cons := ⟨⟨rfl, rfl, rfl, by decide +kernel, rfl, by decide +kernel, by decide +kernel⟩, fun _ _ _ _ _ _ us hl => match us, hl with | [_, _], _ => rfl, by kernel_rfl⟩
theorem ok12 : f12.Ok (nms fnl) cons := ⟨⟨rfl, rfl, rfl, by decide +kernel, rfl, by decide +kernel, by decide +kernel⟩, fun _ _ _ _ _ _ us hl => match us, hl with | [_, _], _ => rfl, by kernel_rfl⟩
theorem ok13 : f13.Ok (nms fnl) cons := ⟨⟨rfl, rfl, rfl, by decide +kernel, rfl, by decide +kernel, by decide +kernel⟩, fun _ _ _ _ _ _ us hl => match us, hl with | [_, _], _ => rfl, by kernel_rfl⟩
theorem ok14 : f14.Ok (nms fnl) cons := ⟨⟨rfl, rfl, rfl, by decide +kernel, rfl, by decide +kernel, by decide +kernel⟩, fun _ _ _ _ _ _ us hl => match us, hl with | [_], _ => rfl, by kernel_rfl⟩
theorem ok15 : f15.Ok (nms fnl) cons := ⟨⟨rfl, rfl, rfl, by decide +kernel, rfl, by decide +kernel, by decide +kernel⟩, fun _ _ _ _ _ _ us hl => match us, hl with | [_], _ => rfl, by kernel_rfl⟩
theorem ok16 : f16.Ok (nms fnl) cons := ⟨⟨rfl, rfl, rfl, by decide +kernel, rfl, by decide +kernel, by decide +kernel⟩, fun _ _ _ _ _ _ us hl => match us, hl with | [_], _ => rfl, by kernel_rfl⟩
theorem ok17 : f17.Ok (nms fnl) cons := ⟨⟨rfl, rfl, rfl, by decide +kernel, rfl, by decide +kernel, by decide +kernel⟩, fun _ _ _ _ _ _ us hl => match us, hl with | [_], _ => rfl, by kernel_rfl⟩
theorem ok18 : f18.Ok (nms fnl) cons := ⟨⟨rfl, rfl, rfl, by decide +kernel, rfl, by decide +kernel, by decide +kernel⟩, fun _ _ _ _ _ _ us hl => match us, hl with | [_], _ => rfl, by kernel_rfl⟩
theorem ok19 : f19.Ok (nms fnl) cons := ⟨⟨rfl, rfl, rfl, by decide +kernel, rfl, by decide +kernel, by decide +kernel⟩, fun _ _ _ _ _ _ us hl => match us, hl with | [_], _ => rfl, by kernel_rfl⟩
theorem ok20 : f20.Ok (nms fnl) cons := ⟨⟨rfl, rfl, rfl, by decide +kernel, rfl, by decide +kernel, by decide +kernel⟩, fun _ _ _ _ _ _ us hl => match us, hl with | [_, _], _ => rfl, by kernel_rfl⟩
theorem ok21 : f21.Ok (nms fnl) cons := ⟨⟨rfl, rfl, rfl, by decide +kernel, rfl, by decide +kernel, by decide +kernel⟩, fun _ _ _ _ _ _ us hl => match us, hl with | [_], _ => rfl, by kernel_rfl⟩
theorem ok22 : f22.Ok (nms fnl) cons := ⟨⟨rfl, rfl, rfl, by decide +kernel, rfl, by decide +kernel, by decide +kernel⟩, fun _ _ _ _ _ _ us hl => match us, hl with | [_, _], _ => rfl, by kernel_rfl⟩
theorem ok23 : f23.Ok (nms fnl) cons := ⟨⟨rfl, rfl, rfl, by decide +kernel, rfl, by decide +kernel, by decide +kernel⟩, fun _ _ _ _ _ _ us hl => match us, hl with | [_, _, _], _ => rfl, by kernel_rfl⟩
theorem ok24 : f24.Ok (nms fnl) cons := ⟨⟨rfl, rfl, rfl, by decide +kernel, rfl, by decide +kernel, by decide +kernel⟩, fun _ _ _ _ _ _ us hl => match us, hl with | [_], _ => rfl, by kernel_rfl⟩
theorem ok25 : f25.Ok (nms fnl) cons := ⟨⟨rfl, rfl, rfl, by decide +kernel, rfl, by decide +kernel, by decide +kernel⟩, fun _ _ _ _ _ _ us hl => match us, hl with | [_], _ => rfl, by kernel_rfl⟩
theorem oks : ∀ (i : Nat) (f : Fn), fnl[i]? = some f → f.Ok (nms fnl) cons
  | 0, _, h => by cases h; exact ok0
  | 1, _, h => by cases h; exact ok1
  | 2, _, h => by cases h; exact ok2
  | 3, _, h => by cases h; exact ok3
  | 4, _, h => by cases h; exact ok4
  | 5, _, h => by cases h; exact ok5
  | 6, _, h => by cases h; exact ok6
  | 7, _, h => by cases h; exact ok7
  | 8, _, h => by cases h; exact ok8
  | 9, _, h => by cases h; exact ok9
  | 10, _, h => by cases h; exact ok10
  | 11, _, h => by cases h; exact ok11
  | 12, _, h => by cases h; exact ok12
  | 13, _, h => by cases h; exact ok13
  | 14, _, h => by cases h; exact ok14
  | 15, _, h => by cases h; exact ok15
  | 16, _, h => by cases h; exact ok16
  | 17, _, h => by cases h; exact ok17
  | 18, _, h => by cases h; exact ok18
  | 19, _, h => by cases h; exact ok19
  | 20, _, h => by cases h; exact ok20
  | 21, _, h => by cases h; exact ok21
  | 22, _, h => by cases h; exact ok22
  | 23, _, h => by cases h; exact ok23
  | 24, _, h => by cases h; exact ok24
  | 25, _, h => by cases h; exact ok25
  | n + 26, _, h => nomatch h
end K05
end Ev
namespace Ev
namespace K05
open PySem PySem.Spec PyProof.Rows
def BB : Int := 10 ^ 41
def prm : Prm where
  N := fun _ d => ∃ x y : Int, d = .tup [.int x, .int y] ∧ -BB ≤ x ∧ x ≤ BB ∧ 1 ≤ y ∧ y ≤ BB ∧ Int.gcd x y = 1
  ks := [0]
  BT := fun _ t => match t with
    | .tup [.int a b, .int c d] => decide (-BB ≤ a ∧ b ≤ BB ∧ ((c = 1 ∧ d = 1) ∨ (a = b ∧ c = d ∧ 1 ≤ c ∧ c ≤ BB ∧ Int.gcd a c = 1)))
    | _ => false
  X := fun _ => .tup [.int (-BB) BB, .int 1 BB]
  P := fun t ds => ∃ a b c : Int, ds = [.int a, .int b, .int c] ∧ 0 ≤ a ∧ 0 ≤ b ∧ b < 2147483587 ∧ 0 ≤ c ∧ c ≤ (t : Int)
  mono := fun ⟨a, b, c, h⟩ hl => ⟨a, b, c, h.1, h.2.1, h.2.2.1, h.2.2.2.1, h.2.2.2.2.1, by omega⟩
def boxT : Ty2 := .tup [.int 1 1000, .int 1 1000]
def sigT : Ty2 := .tup [.tup [.int (-1000) 1000, .int (-1000) 1000], .tup [.int (-1000) 1000, .int (-1000) 1000], .nm 0]
def ptT : Ty2 := .seq (.nm 0) 2 2
def hand (n f : Nat) : Option (List Ty2 → Option (Ty2 × Nat)) :=
  if f = 9 then some fun ts => match ts with
    | [t] => if sub prm FT t .intA = true ∧ 10 ≤ n then some (.dk, 0) else none
    | _ => none
  else if f = 10 then some fun ts => match ts with
    | [.dk, .int a b] => if 1 ≤ a ∧ b ≤ 10 ^ 9 ∧ 10 ≤ n then some (.int 0 (b - 1), 1) else none
    | _ => none
  else if f = 11 then some fun ts => match ts with
    | [.int a b, .int c d] => if mag a b ≤ 10 ^ 50 ∧ mag c d ≤ 10 ^ 50 ∧ 10 ≤ n then some (.int 0 (max (mag a b) (mag c d)), 0) else none
    | _ => none
  else if f = 12 then some fun ts => match ts with
    | [.int a b, .int c d] => if -BB ≤ a ∧ b ≤ BB ∧ 1 ≤ c ∧ d ≤ BB ∧ 10 ≤ n then some (.nm 0, 0) else none
    | _ => none
  else if f = 23 then some fun ts => match ts with
    | [t, u, v] => if sub prm FT t boxT = true ∧ sub prm FT u sigT = true ∧ sub prm FT v ptT = true ∧ 10 ≤ n then some (.bc true, 0) else none
    | _ => none
  else if f = 24 then some fun ts => match ts with
    | [t] => if sub prm FT t boxT = true ∧ 10 ≤ n then some (.bc true, 0) else none
    | _ => none
  else none
def isYes : Option (Ty2 × Nat) → Bool
  | some (.bc true, c) => decide (c ≤ TM)
  | _ => false
def isSome' {α : Type} : Option α → Bool
  | some _ => true
  | none => false
abbrev sg (n : Nat) := sgN prm (Pr fnl) hand n
theorem c14 : isSome' (sg 30 14 [.dk]) = true := by decide +kernel
theorem c15 : isSome' (sg 30 15 [.dk]) = true := by decide +kernel
theorem c16 : isSome' (sg 30 16 [.dk]) = true := by decide +kernel
theorem c17 : isSome' (sg 30 17 [.dk]) = true := by decide +kernel
theorem c18 : isSome' (sg 30 18 [.dk]) = true := by decide +kernel
theorem c19 : isSome' (sg 30 19 [.dk]) = true := by decide +kernel
theorem c21 : isSome' (sg 30 21 [.dk]) = true := by decide +kernel
theorem c22 : isSome' (sg 30 22 [.dk, boxT]) = true := by decide +kernel
theorem chk : isYes (sg 40 25 [.scr 0 63]) = true := by decide +kernel
end K05
end Ev
namespace Ev
namespace K05
open PySem PySem.Spec PyProof.Rows
theorem pr9 : Pr fnl 9 = some ⟨1, 1, b9⟩ := rfl
theorem pr10 : Pr fnl 10 = some ⟨2, 4, b10⟩ := rfl
theorem draw_run {n j : Nat} {S : Store} {a b c m : Int} (h : S[j]? = some (.lst [.int a, .int b, .int c])) (ha : 0 ≤ a) (hc : 0 ≤ c) (hb : 0 ≤ b) (hm : 1 ≤ m) (hm2 : m ≤ 10 ^ 9) (hb2 : b < 2147483587) (hc2 : c < 2 ^ 62) :
    ∃ r a' c' : Int, evF (Pr fnl) (n + 1) 10 [.ref j, .int m] S = .ok (.int r) (S.set j (.lst [.int a', .int b, .int c'])) ∧ 0 ≤ r ∧ r < m ∧ 0 ≤ a' ∧ c ≤ c' ∧ c' ≤ c + 1 := by
  rw [evF_eq pr10 rfl]
  have hj : j < S.length := (List.getElem?_eq_some_iff.mp h).1
  have m0 : m ≠ 0 := by omega
  have mp : 0 < m := by omega
  have hd : divOk m := ⟨m0, Nat.lt_of_le_of_lt (log2_mono (show m.natAbs ≤ 10 ^ 9 by omega)) (by decide)⟩
  by_cases h0 : 0 < a
  · refine ⟨a % m, a / m, c, ?_, Int.emod_nonneg a m0, Int.emod_lt_of_pos a mp, Int.ediv_nonneg ha (by omega), Int.le_refl _, by omega⟩
    simp [b10, evSs, evS, evE, evEs, seqM, bnd_app, ret_app, getV, dIx, h, L2.atI, L2.ixN, Cop.run, dGt, h0, tru_t, Bop.run, dMod, dDiv, dSet, m0, mp, hd, fin]
  · have big : ∀ {x y : Int}, x.natAbs < 2 ^ 64 ∨ y.natAbs < 2 ^ 64 → mulOk x y := fun h => h.elim .inl fun h => .inr (.inl h)
    have k1 : mulOk 104729 (c + 1) := big (.inl (by decide))
    have k2 : mulOk (b + 104729 * (c + 1) + 17) 48271 := big (.inr (by decide))
    have k3 : ∀ x y : Int, mulOk (x % 2147483647) y := fun x y => big (.inl (by omega))
    have k4 : ∀ y : Int, mulOk 69621 y := fun y => big (.inl (by decide))
    have k5 : ∀ y : Int, mulOk y 39373 := fun y => big (.inr (by decide))
    have e8 : divOk 8 := ⟨by decide, by decide⟩
    have hset : ∀ x : Cell, (List.set S j x)[j]? = some x := fun x => List.getElem?_set_self hj
    have lo : ∀ x : Int, 0 ≤ x % m := fun x => Int.emod_nonneg x m0
    have hi : ∀ x : Int, x % m < m := fun x => Int.emod_lt_of_pos x mp
    refine ⟨?r, 0, c + 1, ?_, ?_⟩
    case r => exact ((((((b + 104729 * (c + 1) + 17) * 48271 % 2147483647) * ((b + 104729 * (c + 1) + 17) * 48271 % 2147483647) + 69621 * ((b + 104729 * (c + 1) + 17) * 48271 % 2147483647) + (c + 1)) % 2147483629) * 39373 % 2147483563) / 8) % m
    · have a0 : a = 0 := by omega
      subst a0
      simp [b10, evSs, evS, evE, evEs, seqM, bnd_app, ret_app, getV, dIx, h, L2.atI, L2.ixN, Cop.run, dGt, tru_f, Bop.run, dMod, dDiv, dSet, m0, mp, hd, fin, dAdd, dMul, k1, k2, k3, k4, k5, e8, hset]
    · exact ⟨lo _, hi _, by omega, by omega, by omega⟩

theorem prOk : PrOk prm where
  x := fun {k d W} h => by
    obtain ⟨x, y, rfl, h1, h2, h3, h4, _⟩ := h
    simp only [prm, HasTy, HasTys]
    exact ⟨_, rfl, _, _, rfl, ⟨x, rfl, h1, h2⟩, _, _, rfl, ⟨y, rfl, h3, h4⟩, rfl⟩
  b := fun {k t d W} h ht => by
    simp only [prm] at h
    split at h
    · rename_i a b c d'
      have h := of_decide_eq_true h
      simp only [HasTy, HasTys] at ht
      obtain ⟨_, rfl, _, _, rfl, ⟨x, rfl, x1, x2⟩, _, _, rfl, ⟨y, rfl, y1, y2⟩, rfl⟩ := ht
      have bb : (1 : Int) ≤ BB := by decide
      obtain ⟨h1, h2, h3⟩ := h
      rcases h3 with ⟨rfl, rfl⟩ | ⟨rfl, rfl, h3, h4, h5⟩
      · have : y = 1 := by omega
        subst this
        exact ⟨x, 1, rfl, by omega, by omega, by omega, bb, by simp⟩
      · have e1 : x = a := by omega
        have e2 : y = c := by omega
        subst e1 e2
        exact ⟨x, y, rfl, by omega, by omega, by omega, by omega, h5⟩
    · cases h
def HOk (f : Nat) (g : List Ty2 → Option (Ty2 × Nat)) (n : Nat) : Prop := ∀ (ts : List Ty2) (u : Ty2) (c : Nat), g ts = some (u, c) → ∀ (ds : List D) (W : Wl) (S : Store) (t : Nat), HasTys prm W ts ds → WF prm t W S → t + c ≤ TM →
  ∃ d S' W' t', evF (Pr fnl) (n + 1) f ds S = .ok d S' ∧ Go prm W S t (fun _ => False) W' S' t' c ∧ Val prm W' S' u d ∧ (isOwn u = true → ∃ j : Nat, d = .ref j ∧ S.length ≤ j)
theorem h10 (n : Nat) : HOk 10 (fun ts => match ts with
    | [.dk, .int a b] => if 1 ≤ a ∧ b ≤ 10 ^ 9 ∧ 10 ≤ n + 1 then some (.int 0 (b - 1), 1) else none
    | _ => none) n := fun ts u c h ds W S t hd w hc => by
  dsimp only at h
  split at h
  · split at h
    · rename_i a b hz
      cases h
      simp only [HasTys, HasTy] at hd
      obtain ⟨_, _, rfl, ⟨j, rfl, hj⟩, _, _, rfl, ⟨m, rfl, m1, m2⟩, rfl⟩ := hd
      obtain ⟨es, e1, x, y, z, rfl, p1, p2, p3, p4, p5⟩ := w.dk j hj
      have tm : (TM : Int) = 1152921504606846976 := by decide
      have t62 : (2:Int)^62 = 4611686018427387904 := by decide
      obtain ⟨r, x', z', e, r1, r2, r3, r4, r5⟩ := draw_run (n := n) e1 p1 p4 p2 (m := m) (by omega) (by omega) p3 (by omega)
      refine ⟨_, _, W, t + 1, e, dk_set w hj ⟨x', y, z', rfl, r3, p2, p3, by omega, by omega⟩ (by omega) (by omega), Val.of (by simp only [HasTy]; exact ⟨r, rfl, r1, by omega⟩), fun ho => nomatch ho⟩
    · cases h
  · cases h
theorem h9 (n : Nat) : HOk 9 (fun ts => match ts with
    | [t] => if sub prm FT t .intA = true ∧ 10 ≤ n + 1 then some (.dk, 0) else none
    | _ => none) n := fun ts u c h ds W S t hd w hc => by
  dsimp only at h
  split at h
  · split at h
    · rename_i ty hz
      cases h
      simp only [HasTys] at hd
      obtain ⟨_, _, rfl, hv, rfl⟩ := hd
      have hv := sub_ok prOk FT hz.1 hv
      simp only [HasTy] at hv
      obtain ⟨i, rfl⟩ := hv
      have run : ∃ a : Int, 0 ≤ a ∧ evF (Pr fnl) (n + 1) 9 [.int i] S = .ok (.ref S.length) (S ++ [.lst [.int a, .int (i % 2147483587), .int 0]]) := by
        rw [evF_eq pr9 rfl]
        have pk : powOk 10 18 := by decide
        have e18 : ((10 : Int) ^ (18 : Int).toNat) = 1000000000000000000 := by decide
        by_cases h0 : (1000000000000000000 : Int) ≤ i
        · refine ⟨i, by omega, ?_⟩
          have mk : mulOk i 1 := .inr (.inl (by decide))
          simp [b9, evSs, evS, evE, evEs, seqM, bnd_app, ret_app, getV, Cop.run, dGe, Bop.run, dMod, dMul, dPow, pk, h0, Blt.run, on1, dInt, mk, fin, alloc, LINE, show 1000000000000000000 ≤ i from h0]
        · refine ⟨0, by omega, ?_⟩
          have mk : mulOk i 0 := .inr (.inl (by decide))
          simp [b9, evSs, evS, evE, evEs, seqM, bnd_app, ret_app, getV, Cop.run, dGe, Bop.run, dMod, dMul, dPow, pk, h0, Blt.run, on1, dInt, mk, fin, alloc, LINE]
      obtain ⟨a, a0, e⟩ := run
      have nw := dk_new (ds := [.int a, .int (i % 2147483587), .int 0]) w ⟨a, i % 2147483587, 0, rfl, a0, by omega, by omega, by omega, by omega⟩
      refine ⟨_, _, _, t, e, nw, Val.of ?_, fun ho => nomatch ho⟩
      simp only [HasTy]
      exact ⟨_, rfl, by rw [← w.len]; simp⟩
    · cases h
  · cases h
/-! ### the greatest divisor, worths -/
theorem pr11 : Pr fnl 11 = some ⟨2, 2, b11⟩ := rfl
theorem pr12 : Pr fnl 12 = some ⟨2, 3, b12⟩ := rfl
theorem ab_nat (z : Int) : (if z < 0 then -z else z) = (z.natAbs : Int) := by split <;> omega
theorem divides_run {n : Nat} {S : Store} {x y : Int} : evF (Pr fnl) (n + 1) 11 [.int x, .int y] S = .ok (.int (Int.gcd x y : Nat)) S := by
  obtain ⟨k, hk⟩ := gcd_loop (c := evE (evF (Pr fnl) n) (.cmp .gt (.var 1) (.int 0))) (b := evSs (evF (Pr fnl) n) [.par2 0 1 (.var 1) (.bin .mod (.var 0) (.var 1))]) (S := S) (E := fun a b => [some (.int a), some (.int b)])
    (fun x y S => by simp [evE, bnd_app, ret_app, getV, Cop.run, dGt]) (fun x y S hy => by
      have h1 : ((y : Int)) ≠ 0 := by omega
      have h2 : (0 : Int) < y := by omega
      simp [evSs, evS, evE, evEs, seqM, bnd_app, ret_app, getV, Bop.run, dMod, par2, h1, h2, hy, show y ≠ 0 by omega]) y.natAbs x.natAbs
  refine call_rt pr11 rfl (env' := [some (.int (Int.gcd x y : Nat)), some (.int 0)]) ?_
  show evSs _ b11 [some (.int x), some (.int y)] S = _
  unfold b11
  rw [step_nx (env' := [some (.int (x.natAbs : Int)), some (.int (y.natAbs : Int))]) (S' := S) (by simp [evS, evE, evEs, bnd_app, ret_app, getV, Blt.run, on1, dAbs, par2, ab_nat])]
  rw [step_nx (env' := [some (.int (Int.gcd x y : Nat)), some (.int 0)]) (S' := S) (by rw [evS]; exact whileF_ok hk)]
  exact step_rt (by simp [evS, evE, bnd_app, ret_app, getV])
theorem worth_run {n : Nat} {S : Store} {x y : Int} (hy : 1 ≤ y) (hl : y.natAbs.log2 < 9000) : evF (Pr fnl) (n + 2) 12 [.int x, .int y] S = .ok (nrm x y) S := by
  have g0 := gcd_pos (x := x) hy
  have gd := divOk_of g0 (gcd_le hy) hl
  refine call_rt pr12 rfl (env' := [some (.int x), some (.int y), some (.int (Int.gcd x y : Nat))]) ?_
  show evSs _ b12 [some (.int x), some (.int y), none] S = _
  unfold b12
  rw [step_nx (env' := [some (.int x), some (.int y), some (.int (Int.gcd x y : Nat))]) (S' := S) (by simp [evS, evE, evEs, bnd_app, ret_app, getV, divides_run])]
  rw [step_nx (env' := [some (.int x), some (.int y), some (.int (Int.gcd x y : Nat))]) (S' := S) (by simp [evS, evSs, evE, evEs, bnd_app, ret_app, getV, Cop.run, dLt, show ¬ y < 0 by omega, tru_f])]
  refine step_rt ?_
  simp [evS, evE, evEs, bnd_app, ret_app, getV, Bop.run, dDiv, gd, g0, LINE, nrm, nX, nY]
  constructor <;> (intros; omega)
theorem nrm_N {x y : Int} (hy : 1 ≤ y) (h1 : -BB ≤ x) (h2 : x ≤ BB) (h3 : y ≤ BB) : prm.N 0 (nrm x y) := by
  have a1 := nX_abs (x := x) hy
  have a2 := nY_pos (x := x) hy
  have a3 := nY_le (x := x) hy
  exact ⟨_, _, rfl, by omega, by omega, a2, by omega, n_gcd hy⟩
theorem BB_log : (BB : Int).natAbs.log2 < 9000 := by decide
theorem h11 (n : Nat) : HOk 11 (fun ts => match ts with
    | [.int a b, .int c d] => if mag a b ≤ 10 ^ 50 ∧ mag c d ≤ 10 ^ 50 ∧ 10 ≤ n + 1 then some (.int 0 (max (mag a b) (mag c d)), 0) else none
    | _ => none) n := fun ts u c h ds W S t hd w hc => by
  dsimp only at h
  split at h
  · split at h
    · rename_i a b c' d' hz
      cases h
      simp only [HasTys, HasTy] at hd
      obtain ⟨_, _, rfl, ⟨x, rfl, x1, x2⟩, _, _, rfl, ⟨y, rfl, y1, y2⟩, rfl⟩ := hd
      refine ⟨_, S, W, t, divides_run, Go.refl w, Val.of ?_, fun ho => nomatch ho⟩
      simp only [HasTy]
      have m1 := mag_ok x1 x2
      have m2 := mag_ok y1 y2
      have g : Int.gcd x y ≤ max x.natAbs y.natAbs := by
        by_cases hx : x = 0
        · subst hx
          simp
        · have : Nat.gcd x.natAbs y.natAbs ≤ x.natAbs := Nat.gcd_le_left _ (Int.natAbs_pos.mpr hx)
          have e : Int.gcd x y = Nat.gcd x.natAbs y.natAbs := rfl
          omega
      exact ⟨_, rfl, by omega, by omega⟩
    · cases h
  · cases h
theorem h12 (n : Nat) : HOk 12 (fun ts => match ts with
    | [.int a b, .int c d] => if -BB ≤ a ∧ b ≤ BB ∧ 1 ≤ c ∧ d ≤ BB ∧ 10 ≤ n + 1 then some (.nm 0, 0) else none
    | _ => none) n := fun ts u c h ds W S t hd w hc => by
  dsimp only at h
  split at h
  · split at h
    · rename_i a b c' d' hz
      cases h
      simp only [HasTys, HasTy] at hd
      obtain ⟨_, _, rfl, ⟨x, rfl, x1, x2⟩, _, _, rfl, ⟨y, rfl, y1, y2⟩, rfl⟩ := hd
      obtain ⟨m, rfl⟩ : ∃ m, n = m + 1 := ⟨n - 1, by omega⟩
      refine ⟨_, S, W, t, worth_run (by omega) (Nat.lt_of_le_of_lt (log2_mono (show y.natAbs ≤ BB.natAbs by omega)) BB_log), Go.refl w, Val.of ?_, fun ho => nomatch ho⟩
      simp only [HasTy]
      exact nrm_N (by omega) (by omega) (by omega) (by omega)
    · cases h
  · cases h
end K05
end Ev
namespace Ev
namespace K05
open PySem PySem.Spec PyProof.Rows
/-! ### the program's own defs -/
def P2 (a b : Int) : D := .tup [.int a, .int b]
theorem nrm_P2 (x y : Int) : nrm x y = P2 (nX x y) (nY x y) := rfl
theorem ix0 {a b : Int} {S : Store} : dIx (P2 a b) (.int 0) S = .ok (.int a) S := rfl
theorem ix1 {a b : Int} {S : Store} : dIx (P2 a b) (.int 1) S = .ok (.int b) S := rfl
theorem pr0 : Pr fnl 0 = some ⟨2, 2, b0⟩ := rfl
theorem pr1 : Pr fnl 1 = some ⟨2, 3, b1⟩ := rfl
theorem pr2 : Pr fnl 2 = some ⟨2, 2, b2⟩ := rfl
theorem pr3 : Pr fnl 3 = some ⟨2, 2, b3⟩ := rfl
theorem pr4 : Pr fnl 4 = some ⟨2, 2, b4⟩ := rfl
theorem pr5 : Pr fnl 5 = some ⟨2, 2, b5⟩ := rfl
theorem pr6 : Pr fnl 6 = some ⟨2, 4, b6⟩ := rfl
theorem pr7 : Pr fnl 7 = some ⟨2, 2, b7⟩ := rfl
theorem pr8 : Pr fnl 8 = some ⟨2, 9, b8⟩ := rfl
theorem pr20 : Pr fnl 20 = some ⟨2, 15, b20⟩ := rfl
theorem divisor_run {n : Nat} {S : Store} {x y : Int} : evF (Pr fnl) (n + 1) 0 [.int x, .int y] S = .ok (.int (Int.gcd x y : Nat)) S := by
  obtain ⟨k, hk⟩ := gcd_loop (c := evE (evF (Pr fnl) n) (.cmp .ne (.var 1) (.int 0))) (b := evSs (evF (Pr fnl) n) [.par2 0 1 (.var 1) (.bin .mod (.var 0) (.var 1))]) (S := S) (E := fun a b => [some (.int a), some (.int b)])
    (fun x y S => by
      have e : (!decide ((y : Int) = 0)) = decide (0 < y) := by
        by_cases h : y = 0
        · subst h; rfl
        · rw [decide_eq_true (show 0 < y by omega), decide_eq_false (show ¬ (y : Int) = 0 by omega)]; rfl
      simp only [evE, bnd_app, ret_app, getV, Cop.run]
      show dNe (.int y) (.int 0) S = _
      rw [dNe_b (b := decide ((y : Int) = 0)) rfl, e]) (fun x y S hy => by
      have h1 : ((y : Int)) ≠ 0 := by omega
      have h2 : (0 : Int) < y := by omega
      simp [evSs, evS, evE, evEs, seqM, bnd_app, ret_app, getV, Bop.run, dMod, par2, h1, h2, hy, show y ≠ 0 by omega]) y.natAbs x.natAbs
  refine call_rt pr0 rfl (env' := [some (.int (Int.gcd x y : Nat)), some (.int 0)]) ?_
  show evSs _ b0 [some (.int x), some (.int y)] S = _
  unfold b0
  rw [step_nx (env' := [some (.int (x.natAbs : Int)), some (.int y)]) (S' := S) (by simp [evS, evE, evEs, bnd_app, ret_app, getV, Blt.run, on1, dAbs, ab_nat])]
  rw [step_nx (env' := [some (.int (x.natAbs : Int)), some (.int (y.natAbs : Int))]) (S' := S) (by simp [evS, evE, evEs, bnd_app, ret_app, getV, Blt.run, on1, dAbs, ab_nat])]
  rw [step_nx (env' := [some (.int (Int.gcd x y : Nat)), some (.int 0)]) (S' := S) (by rw [evS]; exact whileF_ok hk)]
  exact step_rt (by simp [evS, evE, bnd_app, ret_app, getV])
theorem worth_of_run {n : Nat} {S : Store} {x y : Int} (hy : 1 ≤ y) (hl : y.natAbs.log2 < 9000) : evF (Pr fnl) (n + 2) 1 [.int x, .int y] S = .ok (nrm x y) S := by
  have g0 := gcd_pos (x := x) hy
  have gd := divOk_of g0 (gcd_le hy) hl
  refine call_rt pr1 rfl (env' := [some (.int x), some (.int y), some (.int (Int.gcd x y : Nat))]) ?_
  show evSs _ b1 [some (.int x), some (.int y), none] S = _
  unfold b1
  rw [step_nx (env' := [some (.int x), some (.int y), none]) (S' := S) (by simp [evS, evSs, evE, evEs, bnd_app, ret_app, getV, Cop.run, dEq, show y ≠ 0 by omega, tru_f])]
  rw [step_nx (env' := [some (.int x), some (.int y), some (.int (Int.gcd x y : Nat))]) (S' := S) (by simp [evS, evE, evEs, bnd_app, ret_app, getV, divisor_run])]
  rw [step_nx (env' := [some (.int x), some (.int y), some (.int (Int.gcd x y : Nat))]) (S' := S) (by simp [evS, evSs, evE, evEs, bnd_app, ret_app, getV, Cop.run, dLt, show ¬ y < 0 by omega, tru_f])]
  refine step_rt ?_
  simp [evS, evE, evEs, bnd_app, ret_app, getV, Bop.run, dDiv, gd, g0, LINE, nrm, nX, nY, show y ≠ 0 by omega]
theorem ok_log {y : Int} (h : Bd 1000 y) : y.natAbs.log2 < 9000 := by have := h.log (by decide); omega
theorem run1 {n f : Nat} {fd : FD} {ds : List D} {S S' : Store} {d : D} {e : E} (h : Pr fnl f = some fd) (hl : ds.length = fd.ps) (hb : fd.body = [.ret e]) (he : evE (evF (Pr fnl) n) e (ds.map some ++ List.replicate (fd.slots - ds.length) none) S = .ok d S') : evF (Pr fnl) (n + 1) f ds S = .ok d S' := by
  refine call_rt h hl (env' := ds.map some ++ List.replicate (fd.slots - ds.length) none) ?_
  rw [hb]
  refine step_rt ?_
  rw [evS, bndR he]
  rfl
theorem summed_run {n : Nat} {S : Store} {a b c d : Int} (hb : 1 ≤ b) (hd : 1 ≤ d) (k1 : Bd 400 a) (k2 : Bd 400 b) (k3 : Bd 400 c) (k4 : Bd 400 d) : evF (Pr fnl) (n + 3) 2 [P2 a b, P2 c d] S = .ok (nrm (a * d + c * b) (b * d)) S := by
  have m1 : mulOk a d := k1.mulOk k4
  have m2 : mulOk c b := k3.mulOk k2
  have m3 : mulOk b d := k2.mulOk k4
  have p : 1 ≤ b * d := by have := Int.mul_pos (show 0 < b by omega) (show 0 < d by omega); omega
  refine run1 pr2 rfl rfl ?_
  simp [evE, evEs, bnd_app, ret_app, getV, ix0, ix1, Bop.run, dMul, dAdd, m1, m2, m3, worth_of_run p (ok_log ((k2.mul k4).mono (by decide)))]
theorem lessened_run {n : Nat} {S : Store} {a b c d : Int} (hb : 1 ≤ b) (hd : 1 ≤ d) (k1 : Bd 400 a) (k2 : Bd 400 b) (k3 : Bd 400 c) (k4 : Bd 400 d) : evF (Pr fnl) (n + 3) 3 [P2 a b, P2 c d] S = .ok (nrm (a * d - c * b) (b * d)) S := by
  have m1 : mulOk a d := k1.mulOk k4
  have m2 : mulOk c b := k3.mulOk k2
  have m3 : mulOk b d := k2.mulOk k4
  have p : 1 ≤ b * d := by have := Int.mul_pos (show 0 < b by omega) (show 0 < d by omega); omega
  refine run1 pr3 rfl rfl ?_
  simp [evE, evEs, bnd_app, ret_app, getV, ix0, ix1, Bop.run, dMul, dSub, m1, m2, m3, worth_of_run p (ok_log ((k2.mul k4).mono (by decide)))]
theorem product_run {n : Nat} {S : Store} {a b c d : Int} (hb : 1 ≤ b) (hd : 1 ≤ d) (k1 : Bd 400 a) (k2 : Bd 400 b) (k3 : Bd 400 c) (k4 : Bd 400 d) : evF (Pr fnl) (n + 3) 4 [P2 a b, P2 c d] S = .ok (nrm (a * c) (b * d)) S := by
  have m1 : mulOk a c := k1.mulOk k3
  have m3 : mulOk b d := k2.mulOk k4
  have p : 1 ≤ b * d := by have := Int.mul_pos (show 0 < b by omega) (show 0 < d by omega); omega
  refine run1 pr4 rfl rfl ?_
  simp [evE, evEs, bnd_app, ret_app, getV, ix0, ix1, Bop.run, dMul, dSub, m1, m3, worth_of_run p (ok_log ((k2.mul k4).mono (by decide)))]
theorem times_run {n : Nat} {S : Store} {k c d : Int} (hd : 1 ≤ d) (k1 : Bd 400 k) (k3 : Bd 400 c) (k4 : Bd 400 d) : evF (Pr fnl) (n + 4) 7 [.int k, P2 c d] S = .ok (nrm (k * c) (1 * d)) S := by
  refine run1 pr7 rfl rfl ?_
  have := product_run (n := n) (S := S) (a := k) (b := 1) (c := c) (d := d) (by decide) hd k1 (by unfold Bd; decide) k3 k4
  unfold P2 at *
  simp [evE, evEs, bnd_app, ret_app, getV, LINE]
  simpa using this
theorem is_less_run {n : Nat} {S : Store} {a b c d : Int} (k1 : Bd 400 a) (k2 : Bd 400 b) (k3 : Bd 400 c) (k4 : Bd 400 d) : evF (Pr fnl) (n + 1) 5 [P2 a b, P2 c d] S = .ok (.bl (decide (a * d < c * b))) S := by
  have m1 : mulOk a d := k1.mulOk k4
  have m2 : mulOk c b := k3.mulOk k2
  refine run1 pr5 rfl rfl ?_
  simp [evE, evEs, bnd_app, ret_app, getV, ix0, ix1, Bop.run, dMul, Cop.run, dLt, m1, m2]
/-- how far ahead, aside: what the program reckons -/
def rX (p x q : Int) : Int := nX (p * 1 - x * q) (q * 1)
def rY (p x q : Int) : Int := nY (p * 1 - x * q) (q * 1)
theorem ahead_run {n : Nat} {S : Store} {x y a b px qx py qy : Int} {sl : D} (h1 : 1 ≤ qx) (h2 : 1 ≤ qy) (kx : Bd 12 x) (ky : Bd 12 y) (ka : Bd 12 a) (kb : Bd 12 b) (k1 : Bd 140 px) (k2 : Bd 140 qx) (k3 : Bd 140 py) (k4 : Bd 140 qy) :
    evF (Pr fnl) (n + 5) 8 [.tup [P2 x y, P2 a b, sl], .tup [P2 px qx, P2 py qy]] S = .ok (.tup [
      nrm (nX (a * rX px x qx) (1 * rY px x qx) * nY (b * rX py y qy) (1 * rY py y qy) + nX (b * rX py y qy) (1 * rY py y qy) * nY (a * rX px x qx) (1 * rY px x qx)) (nY (a * rX px x qx) (1 * rY px x qx) * nY (b * rX py y qy) (1 * rY py y qy)),
      nrm (nX (a * rX py y qy) (1 * rY py y qy) * nY (b * rX px x qx) (1 * rY px x qx) - nX (b * rX px x qx) (1 * rY px x qx) * nY (a * rX py y qy) (1 * rY py y qy)) (nY (a * rX py y qy) (1 * rY py y qy) * nY (b * rX px x qx) (1 * rY px x qx))]) S := by
  have one : Bd 1 1 := by unfold Bd; decide
  have b1 : Bd 154 (px * 1 - x * qx) := (((k1.mul one).mono (show 140 + 1 ≤ 153 by decide)).sub ((kx.mul k2).mono (by decide))).mono (by decide)
  have b2 : Bd 154 (py * 1 - y * qy) := (((k3.mul one).mono (show 140 + 1 ≤ 153 by decide)).sub ((ky.mul k4).mono (by decide))).mono (by decide)
  have q1 : 1 ≤ qx * 1 := by omega
  have q2 : 1 ≤ qy * 1 := by omega
  have e1 : Bd 154 (rX px x qx) := b1.nX q1
  have e2 : Bd 154 (rX py y qy) := b2.nX q2
  have e3 : Bd 154 (rY px x qx) := ((k2.mul one).nY q1).mono (by decide)
  have e4 : Bd 154 (rY py y qy) := ((k4.mul one).nY q2).mono (by decide)
  have p3 : 1 ≤ rY px x qx := nY_pos q1
  have p4 : 1 ≤ rY py y qy := nY_pos q2
  have p3' : 1 ≤ 1 * rY px x qx := by omega
  have p4' : 1 ≤ 1 * rY py y qy := by omega
  have l1 := lessened_run (n := n + 1) (S := S) (a := px) (b := qx) (c := x) (d := 1) h1 (by decide) (k1.mono (by decide)) (k2.mono (by decide)) (kx.mono (by decide)) (one.mono (by decide))
  have l2 := lessened_run (n := n + 1) (S := S) (a := py) (b := qy) (c := y) (d := 1) h2 (by decide) (k3.mono (by decide)) (k4.mono (by decide)) (ky.mono (by decide)) (one.mono (by decide))
  have tm := fun {k u v : Int} (hk : Bd 12 k) (hu : Bd 154 u) (hv : Bd 154 v) (hp : 1 ≤ v) => times_run (n := n) (S := S) (k := k) (c := u) (d := v) hp (hk.mono (by decide)) (hu.mono (by decide)) (hv.mono (by decide))
  have w1 := fun {k u v : Int} (hk : Bd 12 k) (hu : Bd 154 u) (hv : Bd 154 v) (hp : 1 ≤ 1 * v) => (show Bd 400 (nX (k * u) (1 * v)) from ((hk.mul hu).nX hp).mono (by decide))
  have w2 := fun {k u v : Int} (hv : Bd 154 v) (hp : 1 ≤ 1 * v) => (show Bd 400 (nY (k * u) (1 * v)) from ((one.mul hv).nY hp).mono (by decide))
  have su := summed_run (n := n + 1) (S := S) (a := nX (a * rX px x qx) (1 * rY px x qx)) (b := nY (a * rX px x qx) (1 * rY px x qx)) (c := nX (b * rX py y qy) (1 * rY py y qy)) (d := nY (b * rX py y qy) (1 * rY py y qy)) (nY_pos p3') (nY_pos p4') (w1 ka e1 e3 p3') (w2 e3 p3') (w1 kb e2 e4 p4') (w2 e4 p4')
  have le := lessened_run (n := n + 1) (S := S) (a := nX (a * rX py y qy) (1 * rY py y qy)) (b := nY (a * rX py y qy) (1 * rY py y qy)) (c := nX (b * rX px x qx) (1 * rY px x qx)) (d := nY (b * rX px x qx) (1 * rY px x qx)) (nY_pos p4') (nY_pos p3') (w1 ka e2 e4 p4') (w2 e4 p4') (w1 kb e1 e3 p3') (w2 e3 p3')
  have t1 := tm ka e1 e3 p3
  have t2 := tm kb e2 e4 p4
  have t3 := tm ka e2 e4 p4
  have t4 := tm kb e1 e3 p3
  refine call_rt pr8 rfl (env' := [some (.tup [P2 x y, P2 a b, sl]), some (.tup [P2 px qx, P2 py qy]), some (.int x), some (.int y), some (.int a), some (.int b), some sl, some (P2 (rX px x qx) (rY px x qx)), some (P2 (rX py y qy) (rY py y qy))]) ?_
  show evSs _ b8 [some (.tup [P2 x y, P2 a b, sl]), some (.tup [P2 px qx, P2 py qy]), none, none, none, none, none, none, none] S = _
  unfold b8
  rw [step_nx (env' := [some (.tup [P2 x y, P2 a b, sl]), some (.tup [P2 px qx, P2 py qy]), some (.int x), some (.int y), some (.int a), some (.int b), some sl, none, none]) (S' := S) (by simp [evS, evE, bnd_app, ret_app, getV, T.put, T.puts, onTup, P2])]
  rw [step_nx (env' := [some (.tup [P2 x y, P2 a b, sl]), some (.tup [P2 px qx, P2 py qy]), some (.int x), some (.int y), some (.int a), some (.int b), some sl, some (P2 (rX px x qx) (rY px x qx)), none]) (S' := S) (by
    unfold P2 at *
    simp [evS, evE, evEs, bnd_app, ret_app, getV, dIx, L2.atI, L2.ixN, LINE, l1, nrm, rX, rY])]
  rw [step_nx (env' := [some (.tup [P2 x y, P2 a b, sl]), some (.tup [P2 px qx, P2 py qy]), some (.int x), some (.int y), some (.int a), some (.int b), some sl, some (P2 (rX px x qx) (rY px x qx)), some (P2 (rX py y qy) (rY py y qy))]) (S' := S) (by
    unfold P2 at *
    simp [evS, evE, evEs, bnd_app, ret_app, getV, dIx, L2.atI, L2.ixN, LINE, l2, nrm, rX, rY])]
  refine step_rt ?_
  rw [evS]
  simp only [nrm_P2, Int.one_mul] at *
  simp [evE, evEs, bnd_app, ret_app, getV, LINE, t1, t2, t3, t4, su, le]
theorem cancel {a b m : Int} (hm : 1 ≤ m) (h : a * m = b * m) : a = b := Int.eq_of_mul_eq_mul_right (by omega) h
/-- .. and what it is -/
theorem one_side {k p x q : Int} (hq : 1 ≤ q) : nX (k * rX p x q) (1 * rY p x q) * q = k * (p - x * q) * nY (k * rX p x q) (1 * rY p x q) ∧ 1 ≤ nY (k * rX p x q) (1 * rY p x q) := by
  have q1 : 1 ≤ q * 1 := by omega
  have p3 : 1 ≤ rY p x q := nY_pos q1
  have p3' : 1 ≤ 1 * rY p x q := by omega
  have v1 : rX p x q * (q * 1) = (p * 1 - x * q) * rY p x q := n_val q1
  have v2 := n_val (x := k * rX p x q) p3'
  refine ⟨?_, nY_pos p3'⟩
  generalize nX (k * rX p x q) (1 * rY p x q) = t0 at *
  generalize nY (k * rX p x q) (1 * rY p x q) = t1 at *
  generalize rX p x q = r0 at *
  generalize rY p x q = r1 at *
  refine cancel p3 ?_
  grind
theorem ahead_val {x y a b px qx py qy : Int} (h1 : 1 ≤ qx) (h2 : 1 ≤ qy) :
    nrm (nX (a * rX px x qx) (1 * rY px x qx) * nY (b * rX py y qy) (1 * rY py y qy) + nX (b * rX py y qy) (1 * rY py y qy) * nY (a * rX px x qx) (1 * rY px x qx)) (nY (a * rX px x qx) (1 * rY px x qx) * nY (b * rX py y qy) (1 * rY py y qy)) =
      nrm (a * (px * qy - x * qx * qy) + b * (py * qx - y * qx * qy)) (qx * qy) := by
  obtain ⟨e1, p1⟩ := one_side (k := a) (p := px) (x := x) h1
  obtain ⟨e2, p2⟩ := one_side (k := b) (p := py) (x := y) h2
  generalize nX (a * rX px x qx) (1 * rY px x qx) = t0 at *
  generalize nY (a * rX px x qx) (1 * rY px x qx) = t1 at *
  generalize nX (b * rX py y qy) (1 * rY py y qy) = u0 at *
  generalize nY (b * rX py y qy) (1 * rY py y qy) = u1 at *
  have m1 : 1 ≤ t1 * u1 := by have := Int.mul_pos (show 0 < t1 by omega) (show 0 < u1 by omega); omega
  have m2 : 1 ≤ qx * qy := by have := Int.mul_pos (show 0 < qx by omega) (show 0 < qy by omega); omega
  obtain ⟨k1, k2⟩ := nrm_eq (x := t0 * u1 + u0 * t1) (y := t1 * u1) (x' := a * (px * qy - x * qx * qy) + b * (py * qx - y * qx * qy)) (y' := qx * qy) m1 m2 (by grind)
  unfold nrm
  rw [k1, k2]
theorem aside_val {x y a b px qx py qy : Int} (h1 : 1 ≤ qx) (h2 : 1 ≤ qy) :
    nrm (nX (a * rX py y qy) (1 * rY py y qy) * nY (b * rX px x qx) (1 * rY px x qx) - nX (b * rX px x qx) (1 * rY px x qx) * nY (a * rX py y qy) (1 * rY py y qy)) (nY (a * rX py y qy) (1 * rY py y qy) * nY (b * rX px x qx) (1 * rY px x qx)) =
      nrm (a * (py * qx - y * qx * qy) - b * (px * qy - x * qx * qy)) (qx * qy) := by
  obtain ⟨e1, p1⟩ := one_side (k := a) (p := py) (x := y) h2
  obtain ⟨e2, p2⟩ := one_side (k := b) (p := px) (x := x) h1
  generalize nX (a * rX py y qy) (1 * rY py y qy) = t0 at *
  generalize nY (a * rX py y qy) (1 * rY py y qy) = t1 at *
  generalize nX (b * rX px x qx) (1 * rY px x qx) = u0 at *
  generalize nY (b * rX px x qx) (1 * rY px x qx) = u1 at *
  have m1 : 1 ≤ t1 * u1 := by have := Int.mul_pos (show 0 < t1 by omega) (show 0 < u1 by omega); omega
  have m2 : 1 ≤ qx * qy := by have := Int.mul_pos (show 0 < qx by omega) (show 0 < qy by omega); omega
  obtain ⟨k1, k2⟩ := nrm_eq (x := t0 * u1 - u0 * t1) (y := t1 * u1) (x' := a * (py * qx - y * qx * qy) - b * (px * qy - x * qx * qy)) (y' := qx * qy) m1 m2 (by grind)
  unfold nrm
  rw [k1, k2]
end K05
end Ev
namespace Ev
open PySem PySem.Spec PyProof.Rows
/-! ### lists laid meanwhile -/
def Gr (S S' : Store) : Prop := ∃ cs : List (List D), S' = S ++ cs.map Cell.lst
theorem Gr.refl {S : Store} : Gr S S := ⟨[], by simp⟩
theorem Gr.trans {S S1 S2 : Store} (a : Gr S S1) (b : Gr S1 S2) : Gr S S2 := by
  obtain ⟨c1, rfl⟩ := a
  obtain ⟨c2, rfl⟩ := b
  exact ⟨c1 ++ c2, by simp⟩
theorem Gr.one {S : Store} {ds : List D} : Gr S (S ++ [.lst ds]) := ⟨[ds], by simp⟩
theorem Gr.go {p : Prm} {W : Wl} {S S' : Store} {t : Nat} (g : Gr S S') (w : WF p t W S) : ∃ W', Go p W S t (fun _ => False) W' S' t 0 := by
  obtain ⟨cs, rfl⟩ := g
  induction cs generalizing S W with
  | nil => exact ⟨W, by simpa using Go.refl w⟩
  | cons c cs ih =>
    have g1 := go_alloc (ds := c) w
    obtain ⟨W', g2⟩ := ih g1.wf
    refine ⟨W', ?_⟩
    have e : S ++ (c :: cs).map Cell.lst = (S ++ [.lst c]) ++ cs.map Cell.lst := by simp
    rw [e]
    exact g1.trans g2 (fun _ z _ => z) w
/-! ### a comprehension, item by item -/
section
variable {C : Nat → List D → M D} {q : Store → Prop} {put : D → Fr → M Fr} {cond elt : Fr → M D} {env0 e2 : Fr} {d x : D} {ds acc : List D} {S S1 S' : Store}
theorem lcF_yes (hq : q S) (hp : put d env0 S = .ok e2 S) (hc : cond e2 S = .ok (.bl true) S1) (he : elt e2 S1 = .ok x S') (hl : acc.length < LINE) : lcF q put cond elt env0 (d :: ds) acc S = lcF q put cond elt env0 ds (acc ++ [x]) S' := by
  rw [lcF_cons, bndR (guard_yes hq), bndR hp, bndR hc, tru_t, bndR he, if_pos hl]
theorem lcF_no (hq : q S) (hp : put d env0 S = .ok e2 S) (hc : cond e2 S = .ok (.bl false) S1) : lcF q put cond elt env0 (d :: ds) acc S = lcF q put cond elt env0 ds acc S1 := by
  rw [lcF_cons, bndR (guard_yes hq), bndR hp, bndR hc, tru_f]
theorem lcF_end (hq : q S) : lcF q put cond elt env0 [] acc S = .ok acc S := by
  rw [lcF_nil, bndR (guard_yes hq)]
  rfl
end
theorem dEq_py {d e : D} {S : Store} {x y : PyData} (h1 : py FU S d = some x) (h2 : py FU S e = some y) (s1 : shp x = true) (s2 : shp y = true) (ht : ∀ i j, ¬ (d = .int i ∧ e = .int j)) (hs : ∀ i j, ¬ (d = .str i ∧ e = .str j)) (hb : ∀ i j, ¬ (d = .bl i ∧ e = .bl j)) (hn : ¬ (d = .non ∧ e = .non)) :
    dEq d e S = .ok (.bl (PyData.eqv x y)) S := by
  unfold dEq
  split
  · exact absurd ⟨rfl, rfl⟩ (ht _ _)
  · exact absurd ⟨rfl, rfl⟩ (hs _ _)
  · exact absurd ⟨rfl, rfl⟩ (hb _ _)
  · exact absurd ⟨rfl, rfl⟩ hn
  · rw [h1, h2]
    dsimp only
    rw [if_pos ⟨s1, s2⟩]
theorem notin_tt {m : Nat} {S : Store} (h : S[m]? = some (.lst [.bl true, .bl true])) : dNotIn (.bl false) (.ref m) S = .ok (.bl true) S := by
  have e : py FU S (.ref m) = some (.list [.bool true, .bool true]) := by
    show py (59 + 1) S _ = _
    rw [py_ref, h]
    dsimp only
    rw [pys_cons, pys_cons, pys_nil, py_bl]
    rfl
  have e2 : dIn (.bl false) (.ref m) S = .ok (.bl false) S := by
    unfold dIn
    simp only [e, py_bl]
    rw [if_pos ⟨by decide, by decide⟩]
    rfl
  show M.bnd (dIn _ _) _ S = _
  unfold M.bnd
  rw [e2]
  rfl
namespace K05
theorem pr13 : Pr fnl 13 = some ⟨2, 4, b13⟩ := rfl
theorem pr23 : Pr fnl 23 = some ⟨3, 12, b23⟩ := rfl
theorem pr24 : Pr fnl 24 = some ⟨1, 5, b24⟩ := rfl
theorem same_int {n : Nat} {S : Store} {a : Int} : evF (Pr fnl) (n + 1) 13 [.int a, .int a] S = .ok (.bl true) S := by
  refine call_rt pr13 rfl (env' := [some (.int a), some (.int a), none, none]) ?_
  show evSs _ b13 [some (.int a), some (.int a), none, none] S = _
  unfold b13
  rw [step_nx (env' := [some (.int a), some (.int a), none, none]) (S' := S) (by simp [evS, evSs, evE, bnd_app, ret_app, getV, dIsi, tyOf, Ty.sub, tru_f])]
  rw [step_nx (env' := [some (.int a), some (.int a), none, none]) (S' := S) (by simp [evS, evSs, evE, bnd_app, ret_app, getV, dIsi, tyOf, Ty.sub, tru_f])]
  refine step_rt ?_
  simp [evS, evE, bnd_app, ret_app, getV, dIsi, tyOf, Ty.sub, tru_t, Cop.run, dEq]
def SameAt (n : Nat) (x : D) : Prop := ∀ S : Store, ∃ S', evF (Pr fnl) n 13 [x, x] S = .ok (.bl true) S' ∧ Gr S S'
theorem same_tup {n : Nat} {x y : D} (hx : SameAt n x) (hy : SameAt n y) : SameAt (n + 1) (.tup [x, y]) := fun S => by
  obtain ⟨S1, e1, g1⟩ := hx S
  obtain ⟨S2, e2, g2⟩ := hy S1
  have el : ∀ {a b : D} {S : Store}, evE (evF (Pr fnl) n) (.call 13 [.var 2, .var 3]) [some (.tup [x, y]), some (.tup [x, y]), some a, some b] S = evF (Pr fnl) n 13 [a, b] S := fun {a b S} => by
    simp [evE, evEs, bnd_app, ret_app, getV]
  refine ⟨S2 ++ [.lst [.bl true, .bl true]], ?_, (g1.trans g2).trans .one⟩
  refine call_rt pr13 rfl (env' := [some (.tup [x, y]), some (.tup [x, y]), none, none]) ?_
  show evSs _ b13 [some (.tup [x, y]), some (.tup [x, y]), none, none] S = _
  unfold b13
  refine step_rt ?_
  have lc : evE (evF (Pr fnl) n) (.lc [2, 3] (.tup [.nm 2, .nm 3]) .zip [.var 0, .var 1] [] (.call 13 [.var 2, .var 3])) [some (.tup [x, y]), some (.tup [x, y]), none, none] S = .ok (.ref S2.length) (S2 ++ [.lst [.bl true, .bl true]]) := by
    rw [lc_run (S1 := S) (S2 := S2) (ds := [.tup [x, y], .tup [x, y]]) (it := ⟨[.tup [x, x], .tup [y, y]], fun _ => True⟩) (xs := [.bl true, .bl true]) (by simp [evEs, evE, bnd_app, ret_app, getV]) rfl ?_]
    · rfl
    · dsimp only
      rw [lcF_yes (q := fun _ => True) (S1 := S) trivial (e2 := [some (.tup [x, y]), some (.tup [x, y]), some x, some x]) (by simp [T.put, T.puts, onTup, bnd_app, ret_app, wipeF]) rfl (by rw [el]; exact e1) (by decide)]
      rw [lcF_yes (q := fun _ => True) (S1 := S1) trivial (e2 := [some (.tup [x, y]), some (.tup [x, y]), some y, some y]) (by simp [T.put, T.puts, onTup, bnd_app, ret_app, wipeF]) rfl (by rw [el]; exact e2) (by decide)]
      exact lcF_end trivial
  have ni := notin_tt (S := S2 ++ [.lst [.bl true, .bl true]]) (m := S2.length) (by simp)
  rw [evS]
  have t1 : evE (evF (Pr fnl) n) (.isi .tuple (.var 1)) [some (.tup [x, y]), some (.tup [x, y]), none, none] S = .ok (.bl true) S := by simp [evE, bnd_app, ret_app, getV, dIsi, tyOf, Ty.sub]
  rw [bndR t1, tru_t]
  rw [step_nx (env' := [some (.tup [x, y]), some (.tup [x, y]), none, none]) (S' := S) (by
    have h2 : dNe (.int 2) (.int 2) S = .ok (.bl false) S := rfl
    simp [evS, evSs, evE, evEs, bnd_app, ret_app, getV, dIsi, tyOf, Ty.sub, dNot, tru_f, Blt.run, on1, dLen, Cop.run, h2])]
  refine step_rt ?_
  rw [evS]
  have fin : evE (evF (Pr fnl) n) (.cmp .notIn (.bl false) (.lc [2, 3] (.tup [.nm 2, .nm 3]) .zip [.var 0, .var 1] [] (.call 13 [.var 2, .var 3]))) [some (.tup [x, y]), some (.tup [x, y]), none, none] S = .ok (.bl true) (S2 ++ [.lst [.bl true, .bl true]]) := by
    rw [evE]
    have e0 : evE (evF (Pr fnl) n) (.bl false) [some (.tup [x, y]), some (.tup [x, y]), none, none] S = .ok (.bl false) S := by rw [evE]; rfl
    rw [bndR e0, bndR lc]
    exact ni
  rw [bndR fin]
  rfl
theorem same_P2 {n : Nat} {a b : Int} : SameAt (n + 2) (P2 a b) := same_tup (fun S => ⟨S, same_int, .refl⟩) (fun S => ⟨S, same_int, .refl⟩)
theorem same_PP {n : Nat} {a b c d : Int} : SameAt (n + 3) (.tup [P2 a b, P2 c d]) := same_tup same_P2 same_P2
theorem law_ahead_run {n : Nat} {S : Store} {x y a b px qx py qy : Int} {sl : D} (kx : Bd 12 x) (ky : Bd 12 y) (ka : Bd 12 a) (kb : Bd 12 b) (k1 : Bd 140 px) (k2 : Bd 140 qx) (k3 : Bd 140 py) (k4 : Bd 140 qy) :
    evF (Pr fnl) (n + 1) 20 [.tup [P2 x y, P2 a b, sl], .tup [P2 px qx, P2 py qy]] S = .ok (.tup [.int (a * (px * qy - x * qx * qy) + b * (py * qx - y * qx * qy)), .int (a * (py * qx - y * qx * qy) - b * (px * qy - x * qx * qy)), .int (qx * qy)]) S := by
  have xq := (kx.mul k2)
  have yq := (ky.mul k2)
  have c1 : Bd 294 (px * qy - x * qx * qy) := (((k1.mul k4).mono (show 140 + 140 ≤ 293 by decide)).sub ((xq.mul k4).mono (by decide))).mono (by decide)
  have c2 : Bd 294 (py * qx - y * qx * qy) := (((k3.mul k2).mono (show 140 + 140 ≤ 293 by decide)).sub ((yq.mul k4).mono (by decide))).mono (by decide)
  have m1 : mulOk px qy := k1.mulOk k4
  have m2 : mulOk x qx := kx.mulOk k2
  have m3 : mulOk (x * qx) qy := xq.mulOk k4
  have m4 : mulOk py qx := k3.mulOk k2
  have m5 : mulOk y qx := ky.mulOk k2
  have m6 : mulOk (y * qx) qy := yq.mulOk k4
  have m7 : mulOk a (px * qy - x * qx * qy) := ka.mulOk c1
  have m8 : mulOk b (py * qx - y * qx * qy) := kb.mulOk c2
  have m9 : mulOk a (py * qx - y * qx * qy) := ka.mulOk c2
  have m10 : mulOk b (px * qy - x * qx * qy) := kb.mulOk c1
  have m11 : mulOk qx qy := k2.mulOk k4
  rw [evF_eq pr20 rfl]
  show ((do
    let r ← evSs (evF (Pr fnl) n) b20 [some (.tup [P2 x y, P2 a b, sl]), some (.tup [P2 px qx, P2 py qy]), none, none, none, none, none, none, none, none, none, none, none, none, none]
    fin r.1) : M D) S = _
  unfold P2 b20
  simp [evSs, evS, evE, evEs, seqM, bnd_app, ret_app, getV, T.put, T.puts, onTup, Bop.run, dMul, dSub, dAdd, m1, m2, m3, m4, m5, m6, m7, m8, m9, m10, m11, fin, LINE]
end K05
end Ev
namespace Ev
open PySem PySem.Spec PyProof.Rows
theorem loopF_nx {q : Store → Prop} {put : D → Fr → M Fr} {body : Fr → M (Fl × Fr)} {d : D} {ds : List D} {env e1 e2 : Fr} {S S' : Store} (hq : q S) (hp : put d env S = .ok e1 S) (hb : body e1 S = .ok (.nx, e2) S') : loopF q put body (d :: ds) env S = loopF q put body ds e2 S' := by
  rw [loopF_cons, bndR (guard_yes hq), bndR hp, bndR hb]
theorem loopF_rt {q : Store → Prop} {put : D → Fr → M Fr} {body : Fr → M (Fl × Fr)} {d x : D} {ds : List D} {env e1 e2 : Fr} {S S' : Store} (hq : q S) (hp : put d env S = .ok e1 S) (hb : body e1 S = .ok (.rt x, e2) S') : loopF q put body (d :: ds) env S = .ok (.rt x, e2) S' := by
  rw [loopF_cons, bndR (guard_yes hq), bndR hp, bndR hb]
  rfl
theorem loopF_end {q : Store → Prop} {put : D → Fr → M Fr} {body : Fr → M (Fl × Fr)} {env : Fr} {S : Store} (hq : q S) : loopF q put body [] env S = .ok (.nx, env) S := by
  rw [loopF_nil, bndR (guard_yes hq)]
  rfl
theorem for_run {C : Nat → List D → M D} {tg : T} {k : IK} {es : List E} {b : List St} {env : Fr} {S S1 : Store} {ds : List D} {it : Its} (e1 : evEs C es env S = .ok ds S1) (e2 : k.its ds S1 = .ok it S1) : evS C (.for tg k es b) env S = loopF it.ok tg.put (evSs C b) it.ds env S1 := by
  rw [evS]
  have e0 : ((do
      let ds ← evEs C es env
      k.its ds) : M Its) S = .ok it S1 := by
    rw [bndR e1]; exact e2
  rw [bndR e0]
namespace K05
/-! ### within the box -/
def inB (p q w : Int) : Bool := !decide (p * 1 < 0 * q) && !decide (w * q < p * 1)
def inBody : List St := [.ife (.or (.call 5 [.var 2, .glob (.tup [.int 0, .int 1])]) (.call 5 [.tup [.var 3, .int 1], .var 2])) [.ret (.bl false)] []]
theorem in_body {n : Nat} {S : Store} {a b : Option D} {p q w : Int} (kp : Bd 400 p) (kq : Bd 400 q) (kw : Bd 400 w) : evSs (evF (Pr fnl) (n + 1)) inBody [a, b, some (P2 p q), some (.int w)] S = (if inB p q w = true then .ok (.nx, [a, b, some (P2 p q), some (.int w)]) S else .ok (.rt (.bl false), [a, b, some (P2 p q), some (.int w)]) S) := by
  have one : Bd 400 1 := by unfold Bd; decide
  have zero : Bd 400 0 := by unfold Bd; decide
  have l1 := is_less_run (n := n) (S := S) kp kq zero one
  have l2 := is_less_run (n := n) (S := S) kw one kp kq
  have e1 : evE (evF (Pr fnl) (n + 1)) (.call 5 [.var 2, .glob (.tup [.int 0, .int 1])]) [a, b, some (P2 p q), some (.int w)] S = .ok (.bl (decide (p * 1 < 0 * q))) S := by
    rw [evE]
    have : evEs (evF (Pr fnl) (n + 1)) [.var 2, .glob (.tup [.int 0, .int 1])] [a, b, some (P2 p q), some (.int w)] S = .ok [P2 p q, P2 0 1] S := by simp [evE, evEs, bnd_app, ret_app, getV, P2]
    rw [bndR this]
    exact l1
  have e2 : evE (evF (Pr fnl) (n + 1)) (.call 5 [.tup [.var 3, .int 1], .var 2]) [a, b, some (P2 p q), some (.int w)] S = .ok (.bl (decide (w * q < p * 1))) S := by
    rw [evE]
    have : evEs (evF (Pr fnl) (n + 1)) [.tup [.var 3, .int 1], .var 2] [a, b, some (P2 p q), some (.int w)] S = .ok [P2 w 1, P2 p q] S := by simp [evE, evEs, bnd_app, ret_app, getV, P2, LINE]
    rw [bndR this]
    exact l2
  have e3 : evE (evF (Pr fnl) (n + 1)) (.or (.call 5 [.var 2, .glob (.tup [.int 0, .int 1])]) (.call 5 [.tup [.var 3, .int 1], .var 2])) [a, b, some (P2 p q), some (.int w)] S = .ok (.bl (!inB p q w)) S := by
    rw [evE, bndR e1]
    unfold inB
    by_cases h1 : p * 1 < 0 * q
    · rw [decide_eq_true h1, tru_t]
      rfl
    · rw [decide_eq_false h1, tru_f, e2]
      by_cases h2 : w * q < p * 1
      · rw [decide_eq_true h2]; rfl
      · rw [decide_eq_false h2]; rfl
  unfold inBody
  cases hb : inB p q w with
  | true =>
    rw [if_pos rfl]
    refine (step_nx (env' := [a, b, some (P2 p q), some (.int w)]) (S' := S) ?_).trans (by rw [evSs]; rfl)
    rw [evS, bndR e3, hb]
    show tru (.bl false) _ _ S = _
    rw [tru_f, evSs]
    rfl
  | false =>
    rw [if_neg Bool.false_ne_true]
    refine step_rt ?_
    rw [evS, bndR e3, hb]
    show tru (.bl true) _ _ S = _
    rw [tru_t]
    refine step_rt ?_
    simp [evS, evE, bnd_app, ret_app]
theorem is_in_run {n : Nat} {S : Store} {w h px qx py qy : Int} (kw : Bd 400 w) (kh : Bd 400 h) (k1 : Bd 400 px) (k2 : Bd 400 qx) (k3 : Bd 400 py) (k4 : Bd 400 qy) : evF (Pr fnl) (n + 2) 6 [P2 w h, .tup [P2 px qx, P2 py qy]] S = .ok (.bl (inB px qx w && inB py qy h)) S := by
  have b1 := in_body (n := n) (S := S) (a := some (P2 w h)) (b := some (.tup [P2 px qx, P2 py qy])) k1 k2 kw
  have b2 := in_body (n := n) (S := S) (a := some (P2 w h)) (b := some (.tup [P2 px qx, P2 py qy])) k3 k4 kh
  have fr := for_run (C := evF (Pr fnl) (n + 1)) (tg := .tup [.nm 2, .nm 3]) (k := .zip) (es := [.var 1, .var 0]) (b := inBody) (env := [some (P2 w h), some (.tup [P2 px qx, P2 py qy]), none, none]) (S := S) (S1 := S) (ds := [.tup [P2 px qx, P2 py qy], P2 w h]) (it := ⟨[.tup [P2 px qx, .int w], .tup [P2 py qy, .int h]], fun _ => True⟩) (by simp [evEs, evE, bnd_app, ret_app, getV]) rfl
  have p1 : T.put (.tup [.nm 2, .nm 3]) (.tup [P2 px qx, .int w]) [some (P2 w h), some (.tup [P2 px qx, P2 py qy]), none, none] S = .ok [some (P2 w h), some (.tup [P2 px qx, P2 py qy]), some (P2 px qx), some (.int w)] S := by simp [T.put, T.puts, onTup, bnd_app, ret_app]
  have p2 : T.put (.tup [.nm 2, .nm 3]) (.tup [P2 py qy, .int h]) [some (P2 w h), some (.tup [P2 px qx, P2 py qy]), some (P2 px qx), some (.int w)] S = .ok [some (P2 w h), some (.tup [P2 px qx, P2 py qy]), some (P2 py qy), some (.int h)] S := by simp [T.put, T.puts, onTup, bnd_app, ret_app]
  have fin : ∀ b : Bool, ∀ e : Fr, (evS (evF (Pr fnl) (n + 1)) (.for (.tup [.nm 2, .nm 3]) .zip [.var 1, .var 0] inBody) [some (P2 w h), some (.tup [P2 px qx, P2 py qy]), none, none] S = (if b = true then .ok (.nx, e) S else .ok (.rt (.bl false), e) S)) → evF (Pr fnl) (n + 2) 6 [P2 w h, .tup [P2 px qx, P2 py qy]] S = .ok (.bl b) S := fun b e hb => by
    refine call_rt pr6 rfl (env' := e) ?_
    show evSs _ b6 [some (P2 w h), some (.tup [P2 px qx, P2 py qy]), none, none] S = _
    have : b6 = [.for (.tup [.nm 2, .nm 3]) .zip [.var 1, .var 0] inBody, .ret (.bl true)] := rfl
    rw [this]
    cases b with
    | true =>
      rw [step_nx hb]
      refine step_rt ?_
      simp [evS, evE, bnd_app, ret_app]
    | false => exact step_rt hb
  cases h1 : inB px qx w with
  | false =>
    rw [h1] at b1
    exact fin false [some (P2 w h), some (.tup [P2 px qx, P2 py qy]), some (P2 px qx), some (.int w)] (by rw [fr]; exact loopF_rt trivial p1 b1)
  | true =>
    rw [h1] at b1
    cases h2 : inB py qy h with
    | false =>
      rw [h2] at b2
      exact fin false [some (P2 w h), some (.tup [P2 px qx, P2 py qy]), some (P2 py qy), some (.int h)] (by
        rw [fr]
        dsimp only
        rw [loopF_nx trivial p1 b1]
        exact loopF_rt trivial p2 b2)
    | true =>
      rw [h2] at b2
      exact fin true [some (P2 w h), some (.tup [P2 px qx, P2 py qy]), some (P2 py qy), some (.int h)] (by
        rw [fr]
        dsimp only
        rw [loopF_nx trivial p1 b1, loopF_nx trivial p2 b2]
        exact loopF_end trivial)
/-! ### the law's own look: within the box -/
def lcIn : E := .lc [9, 10, 11] (.tup [.tup [.nm 9, .nm 10], .nm 11]) .zip [.var 2, .var 0] [.not (.chain .le .le (.int 0) (.var 9) (.bin .mul (.var 11) (.var 10)))] (.int 1)
def inC (p q w : Int) : Bool := decide (0 ≤ p) && decide (p ≤ w * q)
theorem in_same {p q w : Int} : inB p q w = inC p q w := by
  unfold inB inC
  rw [Int.mul_one, Int.zero_mul]
  by_cases h1 : p < 0
  · rw [decide_eq_true h1, decide_eq_false (show ¬ 0 ≤ p by omega)]; rfl
  · rw [decide_eq_false h1, decide_eq_true (show 0 ≤ p by omega)]
    by_cases h2 : w * q < p
    · rw [decide_eq_true h2, decide_eq_false (show ¬ p ≤ w * q by omega)] <;> rfl
    · rw [decide_eq_false h2, decide_eq_true (show p ≤ w * q by omega)] <;> rfl
theorem eq_nil {m k : Nat} {S : Store} {xs : List D} (h : S[m]? = some (.lst xs)) (h2 : S[k]? = some (.lst [])) (hx : xs = [] ∨ xs = [.int 1] ∨ xs = [.int 1, .int 1]) : dEq (.ref m) (.ref k) S = .ok (.bl xs.isEmpty) S := by
  have e2 : py FU S (.ref k) = some (.list []) := by
    show py (59 + 1) S _ = _
    rw [py_ref, h2]
    dsimp only
    rw [pys_nil]
    rfl
  have e1 : ∃ ys, py FU S (.ref m) = some (.list ys) ∧ shp (.list ys) = true ∧ PyData.eqv (.list ys) (.list []) = xs.isEmpty := by
    rcases hx with rfl | rfl | rfl
    · exact ⟨[], by show py (59 + 1) S _ = _; rw [py_ref, h]; dsimp only; rw [pys_nil]; rfl, by decide, rfl⟩
    · exact ⟨[.int 1], by show py (59 + 1) S _ = _; rw [py_ref, h]; dsimp only; rw [pys_cons, pys_nil, py_int]; rfl, by decide, rfl⟩
    · exact ⟨[.int 1, .int 1], by show py (59 + 1) S _ = _; rw [py_ref, h]; dsimp only; rw [pys_cons, pys_cons, pys_nil, py_int]; rfl, by decide, rfl⟩
  obtain ⟨ys, e1, s1, q⟩ := e1
  rw [dEq_py e1 e2 s1 (by decide) (by simp) (by simp) (by simp) (by simp), q]
theorem inside_run {n : Nat} {S : Store} {w h px qx py qy : Int} {e1 e3 e4 e5 e6 e7 e8 : Option D} (kw : Bd 12 w) (kh : Bd 12 h) (k2 : Bd 140 qx) (k4 : Bd 140 qy) :
    ∃ S', evE (evF (Pr fnl) n) (.cmp .eq lcIn (.lst [])) [some (P2 w h), e1, some (.tup [P2 px qx, P2 py qy]), e3, e4, e5, e6, e7, e8, none, none, none] S = .ok (.bl (inC px qx w && inC py qy h)) S' ∧ Gr S S' := by
  have m1 : mulOk w qx := kw.mulOk k2
  have m2 : mulOk h qy := kh.mulOk k4
  have cnd : ∀ {p q v : Int}, mulOk v q → condF (evF (Pr fnl) n) [.not (.chain .le .le (.int 0) (.var 9) (.bin .mul (.var 11) (.var 10)))] [some (P2 w h), e1, some (.tup [P2 px qx, P2 py qy]), e3, e4, e5, e6, e7, e8, some (.int p), some (.int q), some (.int v)] S = .ok (.bl (!inC p q v)) S := fun {p q v} hm => by
    unfold condF inC
    by_cases h1 : 0 ≤ p
    · simp [evE, bnd_app, ret_app, getV, Cop.run, dLe, h1, tru_t, Bop.run, dMul, hm, dNot]
    · simp [evE, bnd_app, ret_app, getV, Cop.run, dLe, h1, tru_f, Bop.run, dMul, hm, dNot]
  have pt : ∀ {p q v : Int}, T.put (.tup [.tup [.nm 9, .nm 10], .nm 11]) (.tup [P2 p q, .int v]) (wipeF [some (P2 w h), e1, some (.tup [P2 px qx, P2 py qy]), e3, e4, e5, e6, e7, e8, none, none, none] [9, 10, 11]) S = .ok [some (P2 w h), e1, some (.tup [P2 px qx, P2 py qy]), e3, e4, e5, e6, e7, e8, some (.int p), some (.int q), some (.int v)] S := fun {p q v} => by simp [T.put, T.puts, onTup, bnd_app, ret_app, wipeF, P2]
  have el : ∀ {e : Fr}, evE (evF (Pr fnl) n) (.int 1) e S = .ok (.int 1) S := fun {e} => by simp [evE, ret_app]
  have c1 := cnd (p := px) (q := qx) (v := w) m1
  have c2 := cnd (p := py) (q := qy) (v := h) m2
  have run : ∀ {xs : List D}, lcF (fun _ => True) (T.put (.tup [.tup [.nm 9, .nm 10], .nm 11])) (condF (evF (Pr fnl) n) [.not (.chain .le .le (.int 0) (.var 9) (.bin .mul (.var 11) (.var 10)))]) (fun e => evE (evF (Pr fnl) n) (.int 1) e) (wipeF [some (P2 w h), e1, some (.tup [P2 px qx, P2 py qy]), e3, e4, e5, e6, e7, e8, none, none, none] [9, 10, 11]) [.tup [P2 px qx, .int w], .tup [P2 py qy, .int h]] [] S = .ok xs S →
      (xs = [] ∨ xs = [.int 1] ∨ xs = [.int 1, .int 1]) → xs.isEmpty = (inC px qx w && inC py qy h) → ∃ S', evE (evF (Pr fnl) n) (.cmp .eq lcIn (.lst [])) [some (P2 w h), e1, some (.tup [P2 px qx, P2 py qy]), e3, e4, e5, e6, e7, e8, none, none, none] S = .ok (.bl (inC px qx w && inC py qy h)) S' ∧ Gr S S' := fun {xs} hr hx hy => by
    have lc : evE (evF (Pr fnl) n) lcIn [some (P2 w h), e1, some (.tup [P2 px qx, P2 py qy]), e3, e4, e5, e6, e7, e8, none, none, none] S = .ok (.ref S.length) (S ++ [.lst xs]) :=
      lc_run (S1 := S) (ds := [.tup [P2 px qx, P2 py qy], P2 w h]) (it := ⟨[.tup [P2 px qx, .int w], .tup [P2 py qy, .int h]], fun _ => True⟩) (by simp [evEs, evE, bnd_app, ret_app, getV]) rfl hr
    have nl : evE (evF (Pr fnl) n) (.lst []) [some (P2 w h), e1, some (.tup [P2 px qx, P2 py qy]), e3, e4, e5, e6, e7, e8, none, none, none] (S ++ [.lst xs]) = .ok (.ref (S ++ [Cell.lst xs]).length) (S ++ [.lst xs] ++ [.lst []]) := by
      simp [evE, evEs, bnd_app, ret_app, LINE, alloc]
    refine ⟨S ++ [.lst xs] ++ [.lst []], ?_, Gr.one.trans .one⟩
    rw [evE, bndR lc, bndR nl, ← hy]
    exact eq_nil (by simp) (by simp) hx
  cases h1 : inC px qx w with
  | true =>
    rw [h1] at c1
    rw [h1] at run
    cases h2 : inC py qy h with
    | true =>
      rw [h2] at c2
      rw [h2] at run
      exact run (xs := []) (by rw [lcF_no trivial pt c1, lcF_no trivial pt c2]; exact lcF_end trivial) (.inl rfl) rfl
    | false =>
      rw [h2] at c2
      rw [h2] at run
      exact run (xs := [.int 1]) (by rw [lcF_no trivial pt c1, lcF_yes trivial pt c2 el (by decide)]; exact lcF_end trivial) (.inr (.inl rfl)) rfl
  | false =>
    rw [h1] at c1
    rw [h1] at run
    cases h2 : inC py qy h with
    | true =>
      rw [h2] at c2
      rw [h2] at run
      exact run (xs := [.int 1]) (by rw [lcF_yes trivial pt c1 el (by decide), lcF_no trivial pt c2]; exact lcF_end trivial) (.inr (.inl rfl)) rfl
    | false =>
      rw [h2] at c2
      rw [h2] at run
      exact run (xs := [.int 1, .int 1]) (by rw [lcF_yes trivial pt c1 el (by decide), lcF_yes trivial pt c2 el (by decide)]; exact lcF_end trivial) (.inr (.inr rfl)) rfl
end K05
end Ev
namespace Ev
open PySem PySem.Spec PyProof.Rows
namespace K05
theorem py_PP {a b c d : Int} {S : Store} : py FU S (.tup [P2 a b, P2 c d]) = some (.tuple [.tuple [.int a, .int b], .tuple [.int c, .int d]]) := by
  unfold P2
  show py (59 + 1) S _ = _
  rw [py_tup, pys_cons, pys_cons, pys_nil]
  show (match py (58 + 1) S _, _ with | some x, some xs => some (x :: xs) | _, _ => none : Option (List PyData)).map _ = _
  rw [py_tup, py_tup, pys_cons, pys_cons, pys_nil, pys_cons, pys_cons, pys_nil, py_int, py_int, py_int, py_int]
  rfl
theorem ne_PP {a b c d : Int} {S : Store} : dNe (.tup [P2 a b, P2 c d]) (.tup [P2 a b, P2 c d]) S = .ok (.bl false) S := by
  refine dNe_b (b := true) ?_
  have s : shp (.tuple [.tuple [.int a, .int b], .tuple [.int c, .int d]]) = true := rfl
  rw [dEq_py py_PP py_PP s s (by simp) (by simp) (by simp) (by simp), SeqAt.eqv_refl _ (SeqAt.canLay_of_shaped s)]
theorem right_run {n : Nat} {S : Store} {w h x y a b s1 s2 px qx py qy : Int} (kw : Bd 12 w) (kh : Bd 12 h) (kx : Bd 12 x) (ky : Bd 12 y) (ka : Bd 12 a) (kb : Bd 12 b) (h1 : 1 ≤ qx) (h2 : 1 ≤ qy) (k1 : Bd 140 px) (k2 : Bd 140 qx) (k3 : Bd 140 py) (k4 : Bd 140 qy) :
    ∃ S', evF (Pr fnl) (n + 10) 23 [P2 w h, .tup [P2 x y, P2 a b, P2 s1 s2], .tup [P2 px qx, P2 py qy]] S = .ok (.bl true) S' ∧ Gr S S' := by
  have q0 : 1 ≤ qx * qy := by have := Int.mul_pos (show 0 < qx by omega) (show 0 < qy by omega); omega
  have ql : (qx * qy).natAbs.log2 < 9000 := ok_log ((k2.mul k4).mono (by decide))
  generalize hA : a * (px * qy - x * qx * qy) + b * (py * qx - y * qx * qy) = A
  generalize hB : a * (py * qx - y * qx * qy) - b * (px * qy - x * qx * qy) = B
  have ah : ∀ {sl : D} {S : Store}, evF (Pr fnl) (n + 9) 8 [.tup [P2 x y, P2 a b, sl], .tup [P2 px qx, P2 py qy]] S = .ok (.tup [nrm A (qx * qy), nrm B (qx * qy)]) S := fun {sl S} => by
    have := ahead_run (n := n + 4) (S := S) (sl := sl) h1 h2 kx ky ka kb k1 k2 k3 k4
    rw [ahead_val h1 h2, aside_val h1 h2, hA, hB] at this
    exact this
  have la : evF (Pr fnl) (n + 9) 20 [.tup [P2 x y, P2 a b, P2 s1 s2], .tup [P2 px qx, P2 py qy]] S = .ok (.tup [.int A, .int B, .int (qx * qy)]) S := by
    have := law_ahead_run (n := n + 8) (S := S) (sl := P2 s1 s2) kx ky ka kb k1 k2 k3 k4
    rw [hA, hB] at this
    exact this
  have w1 : evF (Pr fnl) (n + 9) 12 [.int A, .int (qx * qy)] S = .ok (nrm A (qx * qy)) S := worth_run (n := n + 7) q0 ql
  have w2 : evF (Pr fnl) (n + 9) 12 [.int B, .int (qx * qy)] S = .ok (nrm B (qx * qy)) S := worth_run (n := n + 7) q0 ql
  obtain ⟨S1, sm, g1⟩ := same_PP (n := n + 6) (a := nX A (qx * qy)) (b := nY A (qx * qy)) (c := nX B (qx * qy)) (d := nY B (qx * qy)) S
  have ah1 := ah (sl := P2 s1 s2) (S := S)
  have ah2 := ah (sl := P2 7 3) (S := S1)
  generalize hD : D.tup [nrm A (qx * qy), nrm B (qx * qy)] = due at *
  have sm : evF (Pr fnl) (n + 9) 13 [due, due] S = .ok (.bl true) S1 := by rw [← hD]; exact sm
  have ne : dNe due due S1 = .ok (.bl false) S1 := by rw [← hD]; exact ne_PP
  have is := fun (S : Store) => is_in_run (n := n + 7) (S := S) (w := w) (h := h) (px := px) (qx := qx) (py := py) (qy := qy) (kw.mono (by decide)) (kh.mono (by decide)) (k1.mono (by decide)) (k2.mono (by decide)) (k3.mono (by decide)) (k4.mono (by decide))
  obtain ⟨S2, iR, g2⟩ := inside_run (n := n + 9) (S := S1) (w := w) (h := h) (px := px) (qx := qx) (py := py) (qy := qy) (e1 := some (.tup [P2 x y, P2 a b, P2 s1 s2])) (e3 := some (.int A)) (e4 := some (.int B)) (e5 := some (.int (qx * qy))) (e6 := some due) (e7 := none) (e8 := none) kw kh k2 k4
  have is : evF (Pr fnl) (n + 9) 6 [P2 w h, .tup [P2 px qx, P2 py qy]] S2 = _ := is S2
  rw [in_same, in_same] at is
  generalize hI : (inC px qx w && inC py qy h) = inn at *
  refine ⟨S2, ?_, g1.trans g2⟩
  refine call_rt pr23 rfl (env' := [some (P2 w h), some (.tup [P2 x y, P2 a b, P2 s1 s2]), some (.tup [P2 px qx, P2 py qy]), some (.int A), some (.int B), some (.int (qx * qy)), some due, some (.bl inn), some (.bl inn), none, none, none]) ?_
  have eb : b23 = [.asg (.tup [.nm 3, .nm 4, .nm 5]) (.call 20 [.var 1, .var 2]), .set 6 (.tup [.call 12 [.var 3, .var 5], .call 12 [.var 4, .var 5]]), .ife (.not (.call 13 [.call 8 [.var 1, .var 2], .var 6])) [.ret (.bl false)] [], .ife (.cmp .ne (.call 8 [.bin .add (.slHi (.var 1) (.int 2)) (.tup [.tup [.int 7, .int 3]]), .var 2]) (.var 6)) [.ret (.bl false)] [], .set 7 (.cmp .eq lcIn (.lst [])), .set 8 (.call 6 [.var 0, .var 2]), .ret (.and (.isi .bool (.var 8)) (.cmp .eq (.var 8) (.var 7)))] := rfl
  show evSs _ b23 [some (P2 w h), some (.tup [P2 x y, P2 a b, P2 s1 s2]), some (.tup [P2 px qx, P2 py qy]), none, none, none, none, none, none, none, none, none] S = _
  rw [eb]
  rw [step_nx (env' := [some (P2 w h), some (.tup [P2 x y, P2 a b, P2 s1 s2]), some (.tup [P2 px qx, P2 py qy]), some (.int A), some (.int B), some (.int (qx * qy)), none, none, none, none, none, none]) (S' := S) (by
    simp [evS, evE, evEs, bnd_app, ret_app, getV, la, T.put, T.puts, onTup])]
  rw [step_nx (env' := [some (P2 w h), some (.tup [P2 x y, P2 a b, P2 s1 s2]), some (.tup [P2 px qx, P2 py qy]), some (.int A), some (.int B), some (.int (qx * qy)), some due, none, none, none, none, none]) (S' := S) (by
    simp [evS, evE, evEs, bnd_app, ret_app, getV, w1, w2, LINE, hD])]
  rw [step_nx (env' := [some (P2 w h), some (.tup [P2 x y, P2 a b, P2 s1 s2]), some (.tup [P2 px qx, P2 py qy]), some (.int A), some (.int B), some (.int (qx * qy)), some due, none, none, none, none, none]) (S' := S1) (by
    simp [evS, evSs, evE, evEs, bnd_app, ret_app, getV, ah1, sm, dNot, tru_f])]
  rw [step_nx (env' := [some (P2 w h), some (.tup [P2 x y, P2 a b, P2 s1 s2]), some (.tup [P2 px qx, P2 py qy]), some (.int A), some (.int B), some (.int (qx * qy)), some due, none, none, none, none, none]) (S' := S1) (by
    have c : cutD [P2 x y, P2 a b, P2 s1 s2] none (some 2) = [P2 x y, P2 a b] := rfl
    unfold P2 at *
    simp [evS, evSs, evE, evEs, bnd_app, ret_app, getV, dPart, dSl, c, Bop.run, dAdd, LINE, Cop.run, ah2, ne, tru_f])]
  rw [step_nx (env' := [some (P2 w h), some (.tup [P2 x y, P2 a b, P2 s1 s2]), some (.tup [P2 px qx, P2 py qy]), some (.int A), some (.int B), some (.int (qx * qy)), some due, some (.bl inn), none, none, none, none]) (S' := S2) (by
    rw [evS, bndR iR]
    rfl)]
  rw [step_nx (env' := [some (P2 w h), some (.tup [P2 x y, P2 a b, P2 s1 s2]), some (.tup [P2 px qx, P2 py qy]), some (.int A), some (.int B), some (.int (qx * qy)), some due, some (.bl inn), some (.bl inn), none, none, none]) (S' := S2) (by
    simp [evS, evE, evEs, bnd_app, ret_app, getV, is])]
  refine step_rt ?_
  simp [evS, evE, evEs, bnd_app, ret_app, getV, dIsi, tyOf, Ty.sub, tru_t, Cop.run, dEq]
end K05
end Ev
namespace Ev
open PySem PySem.Spec PyProof.Rows
theorem Gr.at_ {S S' : Store} {i : Nat} (g : Gr S S') (h : i < S.length) : S'[i]? = S[i]? := by
  obtain ⟨cs, rfl⟩ := g
  rw [List.getElem?_append_left h]
theorem set_last {S : Store} {a b : Cell} : (S ++ [a]).set S.length b = S ++ [b] := by
  rw [List.set_append_right _ _ (Nat.le_refl _)]
  simp
namespace K05
def T36 : Int := 10 ^ 36
theorem rim_val {w m : Int} (hw : 1 ≤ w) (h1 : -1 ≤ m) : inB (nX (w * T36 + m) T36) (nY (w * T36 + m) T36) w = decide (m ≤ 0) := by
  rw [in_same]
  have hT : (1 : Int) ≤ T36 := by decide
  have v := n_val (x := w * T36 + m) hT
  have p := nY_pos (x := w * T36 + m) hT
  have pos : 0 ≤ w * T36 + m := by
    have := Int.mul_le_mul_of_nonneg_right hw (show 0 ≤ T36 by omega)
    omega
  generalize nX (w * T36 + m) T36 = X at *
  generalize nY (w * T36 + m) T36 = Y at *
  have hT0 : 0 < T36 := by omega
  generalize T36 = T at *
  have x0 : 0 ≤ X := by
    by_cases hx : 0 ≤ X
    · exact hx
    · have a1 := Int.mul_neg_of_neg_of_pos (show X < 0 by omega) hT0
      have a2 := Int.mul_nonneg pos (show 0 ≤ Y by omega)
      omega
  unfold inC
  rw [decide_eq_true x0, Bool.true_and]
  have key : X * T = w * Y * T + m * Y := by rw [v]; grind
  by_cases hm : m ≤ 0
  · rw [decide_eq_true hm, decide_eq_true]
    have a1 : m * Y ≤ 0 := Int.mul_nonpos_of_nonpos_of_nonneg hm (by omega)
    have a2 : X * T ≤ w * Y * T := by omega
    exact Int.le_of_mul_le_mul_right a2 hT0
  · rw [decide_eq_false hm, decide_eq_false]
    intro hle
    have a1 := Int.mul_pos (show 0 < m by omega) (show 0 < Y by omega)
    have a2 := Int.mul_le_mul_of_nonneg_right hle (show 0 ≤ T by omega)
    omega
def inner : List St := [.set 4 (.lst [.tup [.int 0, .int 1], .tup [.int 0, .int 1]]), .sub (.var 4) (.var 1) (.call 12 [.bin .add (.bin .mul (.ix (.var 0) (.var 1)) (.bin .pow (.int 10) (.int 36))) (.var 2), .bin .pow (.int 10) (.int 36)]), .ife (.cmp .ne (.blt .repr [.call 6 [.var 0, .blt .tuple [.var 4]]]) (.blt .repr [.var 3])) [.ret (.bl false)] []]
def outer : List St := [.for (.tup [.nm 2, .nm 3]) .seq [.lst [.tup [.int 1, .bl false], .tup [.neg (.int 1), .bl true], .tup [.int 0, .bl true]]] inner, .set 4 (.lst [.tup [.int 1, .int 2], .tup [.int 1, .int 2]]), .sub (.var 4) (.var 1) (.tup [.neg (.int 1), .bin .pow (.int 10) (.int 39)]), .ife (.cmp .isNot (.call 6 [.var 0, .blt .tuple [.var 4]]) (.bl false)) [.ret (.bl false)] []]
theorem b24_eq : b24 = [.for (.nm 1) .rng1 [.int 2] outer, .ret (.bl true)] := rfl
theorem repr_ne {b : Bool} {S : Store} : dNe (.str (if b then "True" else "False")) (.str (if b then "True" else "False")) S = .ok (.bl false) S := by
  refine dNe_b (b := true) ?_
  unfold dEq
  simp
theorem tup_ref {C : Nat → List D → M D} {m : Nat} {ds : List D} {S : Store} {a b c d : Option D} (h : S[m]? = some (.lst ds)) : evE C (.blt .tuple [.var 4]) [a, b, c, d, some (.ref m)] S = .ok (.tup ds) S := by
  simp [evE, evEs, bnd_app, ret_app, getV, Blt.run, on1, dTuple, itemsOf, h]
theorem T36_eq {C : Nat → List D → M D} {env : Fr} {S : Store} : evE C (.bin .pow (.int 10) (.int 36)) env S = .ok (.int T36) S := by
  have pk : powOk 10 36 := by decide
  simp [evE, bnd_app, ret_app, Bop.run, dPow, pk, T36]
theorem T36_bd : Bd 120 T36 := by unfold Bd; decide
theorem inner_run {n : Nat} {S : Store} {w h k m : Int} {e4 : Option D} (hw : 1 ≤ w) (hw2 : w ≤ 1000) (hh : 1 ≤ h) (hh2 : h ≤ 1000) (hk : k = 0 ∨ k = 1) (hm : -1 ≤ m) (hm2 : m ≤ 1) :
    ∃ j S', evSs (evF (Pr fnl) (n + 9)) inner [some (P2 w h), some (.int k), some (.int m), some (.bl (decide (m ≤ 0))), e4] S = .ok (.nx, [some (P2 w h), some (.int k), some (.int m), some (.bl (decide (m ≤ 0))), some (.ref j)]) S' ∧ Gr S S' := by
  have kw : Bd 12 w := by unfold Bd; omega
  have kh : Bd 12 h := by unfold Bd; omega
  have one : Bd 400 1 := by unfold Bd; decide
  have zero : Bd 400 0 := by unfold Bd; decide
  have bm : Bd 140 m := by
    unfold Bd
    have : m.natAbs ≤ 1 := by omega
    exact Nat.lt_of_le_of_lt this (by decide)
  -- the side that is looked at
  obtain ⟨v, hv, v1, v2, ix⟩ : ∃ v : Int, (k = 0 ∧ v = w ∨ k = 1 ∧ v = h) ∧ 1 ≤ v ∧ v ≤ 1000 ∧ ∀ S, dIx (P2 w h) (.int k) S = .ok (.int v) S := by
    rcases hk with rfl | rfl
    · exact ⟨w, .inl ⟨rfl, rfl⟩, hw, hw2, fun S => rfl⟩
    · exact ⟨h, .inr ⟨rfl, rfl⟩, hh, hh2, fun S => rfl⟩
  have kv : Bd 12 v := by unfold Bd; omega
  have hT : (1 : Int) ≤ T36 := by decide
  have mk : mulOk v T36 := kv.mulOk T36_bd
  have bx : Bd 141 (v * T36 + m) := ((kv.mul T36_bd).mono (show 12 + 120 ≤ 140 by decide)).add bm
  have wr : ∀ S, evF (Pr fnl) (n + 9) 12 [.int (v * T36 + m), .int T36] S = .ok (nrm (v * T36 + m) T36) S := fun S => worth_run (n := n + 7) hT (ok_log (T36_bd.mono (by decide)))
  have bX : Bd 400 (nX (v * T36 + m) T36) := (bx.nX hT).mono (by decide)
  have bY : Bd 400 (nY (v * T36 + m) T36) := (T36_bd.nY hT).mono (by decide)
  have rv := rim_val (w := v) (m := m) v1 hm
  have o1 : ∀ z : Int, 1 ≤ z → inB 0 1 z = true := fun z hz => by
    unfold inB
    rw [decide_eq_false (by omega), decide_eq_false (by omega)]
    rfl
  -- the point
  obtain ⟨pt, hset, hin⟩ : ∃ pt : List D, (∀ S : Store, dSet (.ref S.length) (.int k) (nrm (v * T36 + m) T36) (S ++ [.lst [P2 0 1, P2 0 1]]) = .ok () (S ++ [.lst pt])) ∧ ∀ S, evF (Pr fnl) (n + 9) 6 [P2 w h, .tup pt] S = .ok (.bl (decide (m ≤ 0))) S := by
    rcases hv with ⟨rfl, rfl⟩ | ⟨rfl, rfl⟩
    · refine ⟨[nrm (v * T36 + m) T36, P2 0 1], fun S => ?_, fun S => ?_⟩
      · unfold dSet
        simp [L2.ixN, set_last]
      · have := is_in_run (n := n + 7) (S := S) (w := v) (h := h) (px := nX (v * T36 + m) T36) (qx := nY (v * T36 + m) T36) (py := 0) (qy := 1) (kv.mono (by decide)) (kh.mono (by decide)) bX bY zero one
        rw [rv, o1 h hh, Bool.and_true] at this
        exact this
    · refine ⟨[P2 0 1, nrm (v * T36 + m) T36], fun S => ?_, fun S => ?_⟩
      · unfold dSet
        simp [L2.ixN, set_last]
      · have := is_in_run (n := n + 7) (S := S) (w := w) (h := v) (px := 0) (qx := 1) (py := nX (v * T36 + m) T36) (qy := nY (v * T36 + m) T36) (kw.mono (by decide)) (kv.mono (by decide)) zero one bX bY
        rw [rv, o1 w hw, Bool.true_and] at this
        exact this
  refine ⟨S.length, S ++ [.lst pt], ?_, .one⟩
  unfold inner
  rw [step_nx (env' := [some (P2 w h), some (.int k), some (.int m), some (.bl (decide (m ≤ 0))), some (.ref S.length)]) (S' := S ++ [.lst [P2 0 1, P2 0 1]]) (by simp [evS, evE, evEs, bnd_app, ret_app, LINE, alloc, P2])]
  rw [step_nx (env' := [some (P2 w h), some (.int k), some (.int m), some (.bl (decide (m ≤ 0))), some (.ref S.length)]) (S' := S ++ [.lst pt]) (by
    have e1 : evE (evF (Pr fnl) (n + 9)) (.call 12 [.bin .add (.bin .mul (.ix (.var 0) (.var 1)) (.bin .pow (.int 10) (.int 36))) (.var 2), .bin .pow (.int 10) (.int 36)]) [some (P2 w h), some (.int k), some (.int m), some (.bl (decide (m ≤ 0))), some (.ref S.length)] (S ++ [.lst [P2 0 1, P2 0 1]]) = .ok (nrm (v * T36 + m) T36) (S ++ [.lst [P2 0 1, P2 0 1]]) := by
      rw [evE]
      have e2 : evEs (evF (Pr fnl) (n + 9)) [.bin .add (.bin .mul (.ix (.var 0) (.var 1)) (.bin .pow (.int 10) (.int 36))) (.var 2), .bin .pow (.int 10) (.int 36)] [some (P2 w h), some (.int k), some (.int m), some (.bl (decide (m ≤ 0))), some (.ref S.length)] (S ++ [.lst [P2 0 1, P2 0 1]]) = .ok [.int (v * T36 + m), .int T36] (S ++ [.lst [P2 0 1, P2 0 1]]) := by
        have e3 : evE (evF (Pr fnl) (n + 9)) (.bin .add (.bin .mul (.ix (.var 0) (.var 1)) (.bin .pow (.int 10) (.int 36))) (.var 2)) [some (P2 w h), some (.int k), some (.int m), some (.bl (decide (m ≤ 0))), some (.ref S.length)] (S ++ [.lst [P2 0 1, P2 0 1]]) = .ok (.int (v * T36 + m)) (S ++ [.lst [P2 0 1, P2 0 1]]) := by
          rw [evE]
          have e4 : evE (evF (Pr fnl) (n + 9)) (.bin .mul (.ix (.var 0) (.var 1)) (.bin .pow (.int 10) (.int 36))) [some (P2 w h), some (.int k), some (.int m), some (.bl (decide (m ≤ 0))), some (.ref S.length)] (S ++ [.lst [P2 0 1, P2 0 1]]) = .ok (.int (v * T36)) (S ++ [.lst [P2 0 1, P2 0 1]]) := by
            rw [evE]
            have e5 : evE (evF (Pr fnl) (n + 9)) (.ix (.var 0) (.var 1)) [some (P2 w h), some (.int k), some (.int m), some (.bl (decide (m ≤ 0))), some (.ref S.length)] (S ++ [.lst [P2 0 1, P2 0 1]]) = .ok (.int v) (S ++ [.lst [P2 0 1, P2 0 1]]) := by
              simp [evE, bnd_app, ret_app, getV, ix]
            rw [bndR e5, bndR T36_eq]
            simp [Bop.run, dMul, mk]
          rw [bndR e4]
          simp [evE, bnd_app, ret_app, getV, Bop.run, dAdd]
        rw [evEs, bndR e3, evEs, evEs, bnd_app, bndR T36_eq]
        rfl
      rw [bndR e2]
      exact wr _
    rw [evS, bndR e1]
    simp [evE, bnd_app, ret_app, getV, hset])]
  refine (step_nx (env' := [some (P2 w h), some (.int k), some (.int m), some (.bl (decide (m ≤ 0))), some (.ref S.length)]) (S' := S ++ [.lst pt]) ?_).trans (by rw [evSs]; rfl)
  have t1 := tup_ref (C := evF (Pr fnl) (n + 9)) (m := S.length) (ds := pt) (S := S ++ [.lst pt]) (a := some (P2 w h)) (b := some (.int k)) (c := some (.int m)) (d := some (.bl (decide (m ≤ 0)))) (by simp)
  have e1 : evE (evF (Pr fnl) (n + 9)) (.call 6 [.var 0, .blt .tuple [.var 4]]) [some (P2 w h), some (.int k), some (.int m), some (.bl (decide (m ≤ 0))), some (.ref S.length)] (S ++ [.lst pt]) = .ok (.bl (decide (m ≤ 0))) (S ++ [.lst pt]) := by
    rw [evE]
    have e2 : evEs (evF (Pr fnl) (n + 9)) [.var 0, .blt .tuple [.var 4]] [some (P2 w h), some (.int k), some (.int m), some (.bl (decide (m ≤ 0))), some (.ref S.length)] (S ++ [.lst pt]) = .ok [P2 w h, .tup pt] (S ++ [.lst pt]) := by
      have e0 : evE (evF (Pr fnl) (n + 9)) (.var 0) [some (P2 w h), some (.int k), some (.int m), some (.bl (decide (m ≤ 0))), some (.ref S.length)] (S ++ [.lst pt]) = .ok (P2 w h) (S ++ [.lst pt]) := by simp [evE, getV, ret_app]
      rw [evEs, bndR e0, evEs, evEs, bnd_app, bndR t1]
      rfl
    rw [bndR e2]
    exact hin _
  have e2 : evE (evF (Pr fnl) (n + 9)) (.blt .repr [.call 6 [.var 0, .blt .tuple [.var 4]]]) [some (P2 w h), some (.int k), some (.int m), some (.bl (decide (m ≤ 0))), some (.ref S.length)] (S ++ [.lst pt]) = .ok (.str (if decide (m ≤ 0) then "True" else "False")) (S ++ [.lst pt]) := by
    rw [evE, evEs, evEs, bnd_app, bndR e1]
    rfl
  have e3 : evE (evF (Pr fnl) (n + 9)) (.blt .repr [.var 3]) [some (P2 w h), some (.int k), some (.int m), some (.bl (decide (m ≤ 0))), some (.ref S.length)] (S ++ [.lst pt]) = .ok (.str (if decide (m ≤ 0) then "True" else "False")) (S ++ [.lst pt]) := by
    have e0 : evE (evF (Pr fnl) (n + 9)) (.var 3) [some (P2 w h), some (.int k), some (.int m), some (.bl (decide (m ≤ 0))), some (.ref S.length)] (S ++ [.lst pt]) = .ok (.bl (decide (m ≤ 0))) (S ++ [.lst pt]) := by simp [evE, getV, ret_app]
    rw [evE, evEs, evEs, bnd_app, bndR e0]
    rfl
  have e4 : evE (evF (Pr fnl) (n + 9)) (.cmp .ne (.blt .repr [.call 6 [.var 0, .blt .tuple [.var 4]]]) (.blt .repr [.var 3])) [some (P2 w h), some (.int k), some (.int m), some (.bl (decide (m ≤ 0))), some (.ref S.length)] (S ++ [.lst pt]) = .ok (.bl false) (S ++ [.lst pt]) := by
    rw [evE, bndR e2, bndR e3]
    exact repr_ne
  rw [evS, bndR e4, tru_f, evSs]
  rfl
end K05
end Ev
namespace Ev
open PySem PySem.Spec PyProof.Rows
namespace K05
def its3 : List D := [.tup [.int 1, .bl false], .tup [.int (-1), .bl true], .tup [.int 0, .bl true]]
theorem outer_run {n : Nat} {S : Store} {w h k : Int} {e2 e3 e4 : Option D} (hw : 1 ≤ w) (hw2 : w ≤ 1000) (hh : 1 ≤ h) (hh2 : h ≤ 1000) (hk : k = 0 ∨ k = 1) :
    ∃ x y z S', evSs (evF (Pr fnl) (n + 9)) outer [some (P2 w h), some (.int k), e2, e3, e4] S = .ok (.nx, [some (P2 w h), some (.int k), x, y, z]) S' ∧ Gr S S' := by
  have kw : Bd 400 w := by
    have : Bd 12 w := by unfold Bd; omega
    exact this.mono (by decide)
  have kh : Bd 400 h := by
    have : Bd 12 h := by unfold Bd; omega
    exact this.mono (by decide)
  have one : Bd 400 1 := by unfold Bd; decide
  have two : Bd 400 2 := by unfold Bd; decide
  have mone : Bd 400 (-1) := by unfold Bd; decide
  have t39 : Bd 400 (10 ^ 39) := by unfold Bd; decide
  -- the three
  have fr := for_run (C := evF (Pr fnl) (n + 9)) (tg := .tup [.nm 2, .nm 3]) (k := .seq) (es := [.lst [.tup [.int 1, .bl false], .tup [.neg (.int 1), .bl true], .tup [.int 0, .bl true]]]) (b := inner) (env := [some (P2 w h), some (.int k), e2, e3, e4]) (S := S) (S1 := S ++ [.lst its3]) (ds := [.ref S.length]) (it := ⟨its3, fun S' => S'[S.length]? = some (.lst its3)⟩)
    (by simp [evEs, evE, bnd_app, ret_app, LINE, alloc, dNeg, its3]) (by
      show seqIts (.ref S.length) (S ++ [.lst its3]) = _
      unfold seqIts
      simp)
  have at0 : ∀ {S' : Store}, Gr (S ++ [.lst its3]) S' → S'[S.length]? = some (.lst its3) := fun g => by
    rw [g.at_ (by simp)]
    simp
  have pt : ∀ {a b : D} {x y z : Option D} {S : Store}, T.put (.tup [.nm 2, .nm 3]) (.tup [a, b]) [some (P2 w h), some (.int k), x, y, z] S = .ok [some (P2 w h), some (.int k), some a, some b, z] S := fun {a b x y z S} => by simp [T.put, T.puts, onTup, bnd_app, ret_app]
  obtain ⟨j1, S1, r1, g1⟩ := inner_run (n := n) (S := S ++ [.lst its3]) (e4 := e4) hw hw2 hh hh2 hk (m := 1) (by decide) (by decide)
  obtain ⟨j2, S2, r2, g2⟩ := inner_run (n := n) (S := S1) (e4 := some (.ref j1)) hw hw2 hh hh2 hk (m := -1) (by decide) (by decide)
  obtain ⟨j3, S3, r3, g3⟩ := inner_run (n := n) (S := S2) (e4 := some (.ref j2)) hw hw2 hh hh2 hk (m := 0) (by decide) (by decide)
  have lp : evS (evF (Pr fnl) (n + 9)) (.for (.tup [.nm 2, .nm 3]) .seq [.lst [.tup [.int 1, .bl false], .tup [.neg (.int 1), .bl true], .tup [.int 0, .bl true]]] inner) [some (P2 w h), some (.int k), e2, e3, e4] S = .ok (.nx, [some (P2 w h), some (.int k), some (.int 0), some (.bl true), some (.ref j3)]) S3 := by
    rw [fr]
    have s1 : evSs (evF (Pr fnl) (n + 9)) inner [some (P2 w h), some (.int k), some (.int 1), some (.bl false), e4] (S ++ [.lst its3]) = .ok (.nx, [some (P2 w h), some (.int k), some (.int 1), some (.bl false), some (.ref j1)]) S1 := r1
    have s2 : evSs (evF (Pr fnl) (n + 9)) inner [some (P2 w h), some (.int k), some (.int (-1)), some (.bl true), some (.ref j1)] S1 = .ok (.nx, [some (P2 w h), some (.int k), some (.int (-1)), some (.bl true), some (.ref j2)]) S2 := r2
    have s3 : evSs (evF (Pr fnl) (n + 9)) inner [some (P2 w h), some (.int k), some (.int 0), some (.bl true), some (.ref j2)] S2 = .ok (.nx, [some (P2 w h), some (.int k), some (.int 0), some (.bl true), some (.ref j3)]) S3 := r3
    show loopF (fun S' => S'[S.length]? = some (Cell.lst its3)) (T.put (.tup [.nm 2, .nm 3])) (evSs (evF (Pr fnl) (n + 9)) inner) [.tup [.int 1, .bl false], .tup [.int (-1), .bl true], .tup [.int 0, .bl true]] [some (P2 w h), some (.int k), e2, e3, e4] (S ++ [.lst its3]) = _
    exact (loopF_nx (q := fun S' => S'[S.length]? = some (Cell.lst its3)) (at0 .refl) pt s1).trans ((loopF_nx (q := fun S' => S'[S.length]? = some (Cell.lst its3)) (at0 g1) pt s2).trans ((loopF_nx (q := fun S' => S'[S.length]? = some (Cell.lst its3)) (at0 (g1.trans g2)) pt s3).trans (loopF_end (q := fun S' => S'[S.length]? = some (Cell.lst its3)) (at0 ((g1.trans g2).trans g3)))))
  -- one beyond
  obtain ⟨pt2, hset, hin⟩ : ∃ pt : List D, (∀ S : Store, dSet (.ref S.length) (.int k) (P2 (-1) (10 ^ 39)) (S ++ [.lst [P2 1 2, P2 1 2]]) = .ok () (S ++ [.lst pt])) ∧ ∀ S, evF (Pr fnl) (n + 9) 6 [P2 w h, .tup pt] S = .ok (.bl false) S := by
    have no : ∀ z : Int, inB (-1) (10 ^ 39) z = false := fun z => by
      unfold inB
      rw [decide_eq_true (show (-1 : Int) * 1 < 0 * 10 ^ 39 by decide)]
      rfl
    rcases hk with rfl | rfl
    · refine ⟨[P2 (-1) (10 ^ 39), P2 1 2], fun S => ?_, fun S => ?_⟩
      · unfold dSet
        simp [L2.ixN, set_last]
      · have := is_in_run (n := n + 7) (S := S) (w := w) (h := h) (px := -1) (qx := 10 ^ 39) (py := 1) (qy := 2) kw kh mone t39 one two
        rw [no, Bool.false_and] at this
        exact this
    · refine ⟨[P2 1 2, P2 (-1) (10 ^ 39)], fun S => ?_, fun S => ?_⟩
      · unfold dSet
        simp [L2.ixN, set_last]
      · have := is_in_run (n := n + 7) (S := S) (w := w) (h := h) (px := 1) (qx := 2) (py := -1) (qy := 10 ^ 39) kw kh one two mone t39
        rw [no, Bool.and_false] at this
        exact this
  refine ⟨some (.int 0), some (.bl true), some (.ref S3.length), S3 ++ [.lst pt2], ?_, (((Gr.one.trans g1).trans g2).trans g3).trans .one⟩
  unfold outer
  rw [step_nx lp]
  rw [step_nx (env' := [some (P2 w h), some (.int k), some (.int 0), some (.bl true), some (.ref S3.length)]) (S' := S3 ++ [.lst [P2 1 2, P2 1 2]]) (by simp [evS, evE, evEs, bnd_app, ret_app, LINE, alloc, P2])]
  rw [step_nx (env' := [some (P2 w h), some (.int k), some (.int 0), some (.bl true), some (.ref S3.length)]) (S' := S3 ++ [.lst pt2]) (by
    have pk : powOk 10 39 := by decide
    have e1 : evE (evF (Pr fnl) (n + 9)) (.tup [.neg (.int 1), .bin .pow (.int 10) (.int 39)]) [some (P2 w h), some (.int k), some (.int 0), some (.bl true), some (.ref S3.length)] (S3 ++ [.lst [P2 1 2, P2 1 2]]) = .ok (P2 (-1) (10 ^ 39)) (S3 ++ [.lst [P2 1 2, P2 1 2]]) := by
      simp [evE, evEs, bnd_app, ret_app, dNeg, Bop.run, dPow, pk, LINE, P2]
    rw [evS, bndR e1]
    have e0 : evE (evF (Pr fnl) (n + 9)) (.var 4) [some (P2 w h), some (.int k), some (.int 0), some (.bl true), some (.ref S3.length)] (S3 ++ [.lst [P2 1 2, P2 1 2]]) = .ok (.ref S3.length) (S3 ++ [.lst [P2 1 2, P2 1 2]]) := by simp [evE, getV, ret_app]
    have e2 : evE (evF (Pr fnl) (n + 9)) (.var 1) [some (P2 w h), some (.int k), some (.int 0), some (.bl true), some (.ref S3.length)] (S3 ++ [.lst [P2 1 2, P2 1 2]]) = .ok (.int k) (S3 ++ [.lst [P2 1 2, P2 1 2]]) := by simp [evE, getV, ret_app]
    rw [bndR e0, bndR e2, bndR (hset S3)]
    rfl)]
  refine (step_nx (env' := [some (P2 w h), some (.int k), some (.int 0), some (.bl true), some (.ref S3.length)]) (S' := S3 ++ [.lst pt2]) ?_).trans (by rw [evSs]; rfl)
  have t1 := tup_ref (C := evF (Pr fnl) (n + 9)) (m := S3.length) (ds := pt2) (S := S3 ++ [.lst pt2]) (a := some (P2 w h)) (b := some (.int k)) (c := some (.int 0)) (d := some (.bl true)) (by simp)
  have e1 : evE (evF (Pr fnl) (n + 9)) (.call 6 [.var 0, .blt .tuple [.var 4]]) [some (P2 w h), some (.int k), some (.int 0), some (.bl true), some (.ref S3.length)] (S3 ++ [.lst pt2]) = .ok (.bl false) (S3 ++ [.lst pt2]) := by
    rw [evE]
    have e2 : evEs (evF (Pr fnl) (n + 9)) [.var 0, .blt .tuple [.var 4]] [some (P2 w h), some (.int k), some (.int 0), some (.bl true), some (.ref S3.length)] (S3 ++ [.lst pt2]) = .ok [P2 w h, .tup pt2] (S3 ++ [.lst pt2]) := by
      have e0 : evE (evF (Pr fnl) (n + 9)) (.var 0) [some (P2 w h), some (.int k), some (.int 0), some (.bl true), some (.ref S3.length)] (S3 ++ [.lst pt2]) = .ok (P2 w h) (S3 ++ [.lst pt2]) := by simp [evE, getV, ret_app]
      rw [evEs, bndR e0, evEs, evEs, bnd_app, bndR t1]
      rfl
    rw [bndR e2]
    exact hin _
  have e4 : evE (evF (Pr fnl) (n + 9)) (.cmp .isNot (.call 6 [.var 0, .blt .tuple [.var 4]]) (.bl false)) [some (P2 w h), some (.int k), some (.int 0), some (.bl true), some (.ref S3.length)] (S3 ++ [.lst pt2]) = .ok (.bl false) (S3 ++ [.lst pt2]) := by
    rw [evE, bndR e1]
    have e0 : evE (evF (Pr fnl) (n + 9)) (.bl false) [some (P2 w h), some (.int k), some (.int 0), some (.bl true), some (.ref S3.length)] (S3 ++ [.lst pt2]) = .ok (.bl false) (S3 ++ [.lst pt2]) := by rw [evE]; rfl
    rw [bndR e0]
    rfl
  rw [evS, bndR e4, tru_f, evSs]
  rfl
theorem rim_run {n : Nat} {S : Store} {w h : Int} (hw : 1 ≤ w) (hw2 : w ≤ 1000) (hh : 1 ≤ h) (hh2 : h ≤ 1000) : ∃ S', evF (Pr fnl) (n + 10) 24 [P2 w h] S = .ok (.bl true) S' ∧ Gr S S' := by
  have fr := for_run (C := evF (Pr fnl) (n + 9)) (tg := .nm 1) (k := .rng1) (es := [.int 2]) (b := outer) (env := [some (P2 w h), none, none, none, none]) (S := S) (S1 := S) (ds := [.int 2]) (it := ⟨[.int 0, .int 1], fun _ => True⟩) (by simp [evEs, evE, bnd_app, ret_app]) (by
    have hr : rngOk 0 2 := by decide
    show rng1Its (.int 2) S = _
    unfold rng1Its
    simp only [hr, if_true]
    rfl)
  obtain ⟨x1, y1, z1, S1, r1, g1⟩ := outer_run (n := n) (S := S) (e2 := none) (e3 := none) (e4 := none) hw hw2 hh hh2 (k := 0) (.inl rfl)
  obtain ⟨x2, y2, z2, S2, r2, g2⟩ := outer_run (n := n) (S := S1) (e2 := x1) (e3 := y1) (e4 := z1) hw hw2 hh hh2 (k := 1) (.inr rfl)
  refine ⟨S2, ?_, g1.trans g2⟩
  refine call_rt pr24 rfl (env' := [some (P2 w h), some (.int 1), x2, y2, z2]) ?_
  show evSs _ b24 [some (P2 w h), none, none, none, none] S = _
  rw [b24_eq]
  rw [step_nx (env' := [some (P2 w h), some (.int 1), x2, y2, z2]) (S' := S2) (by
    rw [fr]
    dsimp only
    rw [loopF_nx (e1 := [some (P2 w h), some (.int 0), none, none, none]) trivial (by simp [T.put, ret_app]) r1, loopF_nx (e1 := [some (P2 w h), some (.int 1), x1, y1, z1]) trivial (by simp [T.put, ret_app]) r2]
    exact loopF_end trivial)]
  exact step_rt (by simp [evS, evE, bnd_app, ret_app])
/-! ### the hands -/
theorem BB_bd {x : Int} (h1 : -BB ≤ x) (h2 : x ≤ BB) : Bd 140 x := by
  have : x.natAbs ≤ BB.natAbs := by omega
  exact Nat.lt_of_le_of_lt this (by decide)
theorem k_bd {x : Int} (h1 : -1000 ≤ x) (h2 : x ≤ 1000) : Bd 12 x := by unfold Bd; omega
theorem hfin {W : Wl} {S S' : Store} {t : Nat} {res : Res D} (w : WF prm t W S) (e : res = .ok (.bl true) S') (g : Gr S S') : ∃ d S' W' t', res = .ok d S' ∧ Go prm W S t (fun _ => False) W' S' t' 0 ∧ Val prm W' S' (.bc true) d ∧ (isOwn (.bc true) = true → ∃ j : Nat, d = .ref j ∧ S.length ≤ j) := by
  obtain ⟨W', go⟩ := g.go w
  exact ⟨_, S', W', t, e, go, Val.of (by simp only [HasTy]), fun ho => nomatch ho⟩
theorem box_of {W : Wl} {d : D} (h : HasTy prm W boxT d) : ∃ w h : Int, d = P2 w h ∧ 1 ≤ w ∧ w ≤ 1000 ∧ 1 ≤ h ∧ h ≤ 1000 := by
  simp only [boxT, HasTy, HasTys] at h
  obtain ⟨_, rfl, _, _, rfl, ⟨w, rfl, w1, w2⟩, _, _, rfl, ⟨h, rfl, h1, h2⟩, rfl⟩ := h
  exact ⟨w, h, rfl, w1, w2, h1, h2⟩
theorem h24 (n : Nat) : HOk 24 (fun ts => match ts with
    | [t] => if sub prm FT t boxT = true ∧ 10 ≤ n + 1 then some (.bc true, 0) else none
    | _ => none) n := fun ts u c h ds W S t hd w hc => by
  dsimp only at h
  split at h
  · split at h
    · rename_i ty hz
      cases h
      simp only [HasTys] at hd
      obtain ⟨_, _, rfl, hv, rfl⟩ := hd
      obtain ⟨a, b, rfl, a1, a2, b1, b2⟩ := box_of (sub_ok prOk FT hz.1 hv)
      obtain ⟨m, rfl⟩ : ∃ m, n = m + 9 := ⟨n - 9, by omega⟩
      obtain ⟨S', e, g⟩ := rim_run (n := m) (S := S) a1 a2 b1 b2
      exact hfin w e g
    · cases h
  · cases h
theorem h23 (n : Nat) : HOk 23 (fun ts => match ts with
    | [t, u, v] => if sub prm FT t boxT = true ∧ sub prm FT u sigT = true ∧ sub prm FT v ptT = true ∧ 10 ≤ n + 1 then some (.bc true, 0) else none
    | _ => none) n := fun ts u c h ds W S t hd w hc => by
  dsimp only at h
  split at h
  · split at h
    · rename_i t1 t2 t3 hz
      cases h
      simp only [HasTys] at hd
      obtain ⟨_, _, rfl, hv, _, _, rfl, hs, _, _, rfl, hp, rfl⟩ := hd
      obtain ⟨a, b, rfl, a1, a2, b1, b2⟩ := box_of (sub_ok prOk FT hz.1 hv)
      have hs := sub_ok prOk FT hz.2.1 hs
      have hp := sub_ok prOk FT hz.2.2.1 hp
      simp only [sigT, HasTy, HasTys] at hs
      obtain ⟨_, rfl, _, _, rfl, ⟨_, rfl, _, _, rfl, ⟨x, rfl, x1, x2⟩, _, _, rfl, ⟨y, rfl, y1, y2⟩, rfl⟩, _, _, rfl, ⟨_, rfl, _, _, rfl, ⟨p, rfl, p1, p2⟩, _, _, rfl, ⟨q, rfl, q1, q2⟩, rfl⟩, _, _, rfl, ⟨s1, s2, rfl, _⟩, rfl⟩ := hs
      simp only [ptT, HasTy] at hp
      obtain ⟨ps, rfl, l1, l2, hp⟩ := hp
      match ps, l1, l2, hp with
      | [], l1, _, _ => simp at l1
      | [_], l1, _, _ => simp at l1
      | _ :: _ :: _ :: _, _, l2, _ => simp at l2
      | [u1, u2], _, _, hp =>
        obtain ⟨px, qx, rfl, c1, c2, c3, c4, _⟩ := hp u1 (by simp)
        obtain ⟨py, qy, rfl, d1, d2, d3, d4, _⟩ := hp u2 (by simp)
        obtain ⟨m, rfl⟩ : ∃ m, n = m + 9 := ⟨n - 9, by omega⟩
        obtain ⟨S', e, g⟩ := right_run (n := m) (S := S) (s1 := s1) (s2 := s2) (k_bd (x := a) (by omega) a2) (k_bd (x := b) (by omega) b2) (k_bd x1 x2) (k_bd y1 y2) (k_bd p1 p2) (k_bd q1 q2) c3 d3 (BB_bd c1 c2) (BB_bd (x := qx) (by omega) c4) (BB_bd d1 d2) (BB_bd (x := qy) (by omega) d4)
        exact hfin w e g
    · cases h
  · cases h
theorem hands : ∀ (n f : Nat) (g : List Ty2 → Option (Ty2 × Nat)), hand (n + 1) f = some g → HOk f g n := by
  intro n f g h
  unfold hand at h
  split at h
  · rename_i e; subst e; cases h; exact h9 n
  split at h
  · rename_i e; subst e; cases h; exact h10 n
  split at h
  · rename_i e; subst e; cases h; exact h11 n
  split at h
  · rename_i e; subst e; cases h; exact h12 n
  split at h
  · rename_i e; subst e; cases h; exact h23 n
  split at h
  · rename_i e; subst e; cases h; exact h24 n
  · cases h
theorem spec (ns : List Int) (h : ns.length ≤ 63) (hb : ∀ z ∈ ns, Builtin.Int.intBits z ≤ 1048576) : ∃ S', evF (Pr fnl) 40 25 [.ref 0] (scr ns) = .ok (.bl true) S' := by
  have sk := sgN_ok (p := prm) (P := Pr fnl) (hand := hand) prOk hands 40
  have w : WF prm 0 [.sc (ns.map .int)] (scr ns) := by
    refine ⟨rfl, fun j ds e => ?_, fun j ds e => ?_, fun j e => ?_, fun j e => ?_⟩
    · cases j with
      | zero => cases e
      | succ j => cases e
    · cases j with
      | zero => cases e; rfl
      | succ j => cases e
    · cases j with
      | zero => cases e
      | succ j => cases e
    · cases j with
      | zero => cases e
      | succ j => cases e
  have hd : HasTys prm [.sc (ns.map .int)] [.scr 0 63] [.ref 0] := by
    simp only [HasTys, HasTy]
    exact ⟨_, _, rfl, ⟨0, ns.map .int, rfl, rfl, Nat.zero_le _, by rw [List.length_map]; exact h, fun x hx => by
      obtain ⟨i, _, rfl⟩ := List.mem_map.mp hx
      exact ⟨i, rfl⟩⟩, rfl⟩
  have ck := chk
  cases q : sg 40 25 [.scr 0 63] with
  | none => rw [q] at ck; cases ck
  | some uc =>
    obtain ⟨u, c⟩ := uc
    rw [q] at ck
    unfold isYes at ck
    split at ck
    · rename_i e
      cases e
      have hc := of_decide_eq_true ck
      obtain ⟨d, S', W', t', e, _, va, _⟩ := sk.ok 25 _ _ _ q [.ref 0] _ (scr ns) 0 hd w (by omega)
      have va : HasTy prm W' (.bc true) d := va
      simp only [HasTy] at va
      subst va
      exact ⟨S', e⟩
    · cases ck
end K05
end Ev
namespace Ev
namespace K05
open PySem PySem.Spec PyProof.Rows L2
abbrev R : PySem.W.OpenRow := PySem.W.OpenLaw.row PySem.Challenge.rw_towerfires_k05_ahead_aside_in_the_box
def loose : List Str := ["FireError", "NoWorth", "NOUGHT", "divisor_of", "worth_of", "summed", "lessened", "product_of", "is_less", "is_in", "times", "ahead_and_aside", "_law_deck", "_law_draw", "_law_divides", "_law_worth", "_law_same", "_law_number", "_law_some_worth", "_law_bearing", "_law_slackness", "_law_sighting", "_law_box", "_law_ahead_aside", "_law_far_point", "_law_point", "_law_right", "_law_rim_right"]
theorem runK (w : World) : HandSHeadRun.RunEq R (PySem.W.view R.prog [32]) (hkE 5 fnl cons) (obE 5 fnl cons) 3000 loose w := by
  intro os
  kernel_rfl
end K05
end Ev
open PySem PySem.W PySem.Calls PyProof.Rows
theorem PySem.Challenge.cw_towerfires_k05_ahead_aside_in_the_box_holds : PySem.Challenge.rw_towerfires_k05_ahead_aside_in_the_box.Holds := by
  w_on; o_law
  refine HandSHeadRun.head_any (r := OpenLaw.row PySem.Challenge.rw_towerfires_k05_ahead_aside_in_the_box) (q := view (OpenLaw.row PySem.Challenge.rw_towerfires_k05_ahead_aside_in_the_box).prog [32]) (H := Ev.hkE 5 Ev.K05.fnl Ev.K05.cons) (ob := Ev.obE 5 Ev.K05.fnl Ev.K05.cons) (M := 3000) (loose := Ev.K05.loose) (d := HandSHeadRun.topDef (OpenLaw.row PySem.Challenge.rw_towerfires_k05_ahead_aside_in_the_box).prog 32) (kwd := []) Ev.obE_eq
    (by kernel_rfl) (fun s => by kernel_rfl) Ev.K05.runK (by kernel_rfl) (by kernel_rfl) (by kernel_rfl) (by rfl) (by first | assumption | decide +kernel) (by decide +kernel) ⟨rfl, rfl, rfl, rfl, rfl, by decide +kernel⟩ ?hw ?hc
  case hw => w_witness2
  case hc =>
    exact Ev.walk_ofEv (n := 63) (k := 40) (m := 5) (i := 25) (l := Ev.K05.fnl) (cons := Ev.K05.cons) (f := Ev.K05.f25) rfl (by decide) (by kernel_rfl) ⟨rfl, by decide, by decide⟩ rfl (by kernel_rfl) Ev.K05.oks Ev.K05.spec
