import PyProof.Rows.All
import Wide.All
import OpenK.AllK
import Wide.FinOn
import HandS.ForMost
import HandS.Wide
import HandS.IsInst
import HandS.Zip
import HandS.TupAny
import HandS.Style
import HandS.Flow
import HandS.CallLocal
import HandS.Defaults
import HandS.Deep
import HandS.RaiseMore
import HandS.Text
import HandS.HeadEnd
import HandS.HeadHook1
import HandS.HeadHook2
import HandS.HeadHook4
import HandS.EndBits
import HandS.Head0
import HandS.Head1
import HandS.Head2
import HandS.Words
import HandS.WordsExc
import PySem.Challenge.RW_towerfires_k30_tales_that_make_true
set_option Elab.async false
set_option linter.all false
set_option maxRecDepth 1000000
set_option maxHeartbeats 0
/-! Ev: an evaluator over plain data, and its soundness over HandS's judgements. -/
namespace Ev
open PySem PySem.Spec PyProof.Rows L2

/-- data: tuples by value, lists and dicts by their number in the store -/
inductive D where
  | non | bl (b : Bool) | int (i : Int) | str (x : Str) | tup (ds : List D) | ref (n : Nat) | fn (i : Nat)
/-- a mutable object; fro: the script (read alone) -/
inductive Cell where
  | lst (ds : List D)
  | fro (ds : List D)
  | dic (kvs : List (Key × D))
abbrev Store := List Cell
inductive Res (α : Type) where
  | ok (a : α) (S : Store)
  | exc (c : Nat) (a : Option D) (S : Store)
  | bad
/-- what runs: from a store -/
def M (α : Type) := Store → Res α
def M.ret {α : Type} (a : α) : M α := fun S => .ok a S
def M.bnd {α β : Type} (m : M α) (f : α → M β) : M β := fun S => match m S with
  | .ok a S' => f a S'
  | .exc c a S' => .exc c a S'
  | .bad => .bad
instance : Monad M where
  pure := M.ret
  bind := M.bnd
def M.fail {α : Type} : M α := fun _ => .bad

/-- the world of a law: what is written, where the program's functions stand, its exceptions -/
structure Wd where
  K : PySem.W.Frag
  G : Nat → Option Addr
  XC : Nat → Option Addr

mutual
inductive RD (W : Wd) (H : Hp) (α : List Addr) : D → V → Prop
  | non : RD W H α .non .non
  | bl (b : Bool) : RD W H α (.bl b) (.bl b)
  | int (i : Int) : RD W H α (.int i) (.int i)
  | str (x : Str) : RD W H α (.str x) (.str x)
  | tup {a : Addr} {xs : List V} {ds : List D} : SqT W.K H a xs → RDs W H α ds xs → RD W H α (.tup ds) (.ref a)
  | ref {n : Nat} {a : Addr} : α[n]? = some a → RD W H α (.ref n) (.ref a)
  | fn {i : Nat} {a : Addr} : W.G i = some a → RD W H α (.fn i) (.ref a)
inductive RDs (W : Wd) (H : Hp) (α : List Addr) : List D → List V → Prop
  | nil : RDs W H α [] []
  | cons {d : D} {ds : List D} {v : V} {vs : List V} : RD W H α d v → RDs W H α ds vs → RDs W H α (d :: ds) (v :: vs)
end
inductive RKs (W : Wd) (H : Hp) (α : List Addr) : List (Key × D) → List (Key × V) → Prop
  | nil : RKs W H α [] []
  | cons {k : Key} {d : D} {ds : List (Key × D)} {v : V} {vs : List (Key × V)} : RD W H α d v → RKs W H α ds vs → RKs W H α ((k, d) :: ds) ((k, v) :: vs)

/-- the cell stands at a -/
inductive RC (W : Wd) (H : Hp) (α : List Addr) (a : Addr) : Cell → Prop
  | lst {ds : List D} {xs : List V} : H a = some (.lst xs) → RDs W H α ds xs → RC W H α a (.lst ds)
  | fro {ds : List D} {xs : List V} : (∃ o, H a = some (.frz o (.lst xs))) → RDs W H α ds xs → RC W H α a (.fro ds)
  | dic {ds : List (Key × D)} {xs : List (Key × V)} : H a = some (.dK xs) → RKs W H α ds xs → RC W H α a (.dic ds)

/-- the store is held -/
structure StOk (W : Wd) (H : Hp) (α : List Addr) (S : Store) : Prop where
  len : α.length = S.length
  nd : ∀ (n m : Nat) (a : Addr), α[n]? = some a → α[m]? = some a → n = m
  at_ : ∀ (n : Nat) (c : Cell) (a : Addr), S[n]? = some c → α[n]? = some a → RC W H α a c

/-- from a state to a later one -/
structure Step (W : Wd) (H : Hp) (α : List Addr) (H' : Hp) (α' : List Addr) : Prop where
  pre : ∃ β, α' = α ++ β ∧ ∀ b ∈ β, H b = none
  keep : ∀ a o, H a = some o → a ∉ α → H' a = some o
  live : ∀ a o, H a = some o → H' a ≠ none
  tups : ∀ a xs, SqT W.K H a xs → SqT W.K H' a xs

section
variable {W : Wd} {H H1 H2 : Hp} {α α1 α2 : List Addr} {S S1 : Store} {d : D} {v : V} {ds : List D} {vs : List V}
theorem Step.refl : Step W H α H α :=
  { pre := ⟨[], by simp, fun _ h => nomatch h⟩, keep := fun _ _ e _ => e, live := fun _ _ e z => by (rw [e] at z; cases z), tups := fun _ _ e => e }
theorem Step.trans (s : Step W H α H1 α1) (t : Step W H1 α1 H2 α2) : Step W H α H2 α2 := by
  obtain ⟨β, e, f⟩ := s.pre
  obtain ⟨γ, e2, g⟩ := t.pre
  have key : ∀ b, b ∉ α → ∀ o, H b = some o → b ∉ α1 := fun b hb o ho hm => by
    rw [e] at hm
    rcases List.mem_append.mp hm with z | z
    · exact hb z
    · have q := f b z
      rw [ho] at q
      cases q
  refine ⟨⟨β ++ γ, by rw [e2, e, List.append_assoc], fun b hb => ?_⟩, fun a o h n => t.keep a o (s.keep a o h n) (key a n o h), fun a o h z => ?_, fun a xs h => t.tups a xs (s.tups a xs h)⟩
  · rcases List.mem_append.mp hb with z | z
    · exact f b z
    · cases q : H b with
      | none => rfl
      | some o => exact absurd (g b z) (s.live b o q)
  · cases q : H1 a with
    | none => exact s.live a o h q
    | some u => exact t.live a u q z
theorem Step.at_ (s : Step W H α H1 α1) {n : Nat} {a : Addr} (h : α[n]? = some a) : α1[n]? = some a := by
  obtain ⟨β, e, _⟩ := s.pre
  rw [e, List.getElem?_append_left (List.getElem?_eq_some_iff.mp h).1]
  exact h
mutual
theorem RD.mono (s : Step W H α H1 α1) : ∀ {d : D} {v : V}, RD W H α d v → RD W H1 α1 d v
  | _, _, .non => .non
  | _, _, .bl b => .bl b
  | _, _, .int i => .int i
  | _, _, .str x => .str x
  | _, _, .tup h r => .tup (s.tups _ _ h) (RDs.mono s r)
  | _, _, .ref h => .ref (s.at_ h)
  | _, _, .fn h => .fn h
theorem RDs.mono (s : Step W H α H1 α1) : ∀ {ds : List D} {vs : List V}, RDs W H α ds vs → RDs W H1 α1 ds vs
  | _, _, .nil => .nil
  | _, _, .cons a b => .cons (RD.mono s a) (RDs.mono s b)
end
theorem RKs.mono (s : Step W H α H1 α1) : ∀ {ds : List (Key × D)} {vs : List (Key × V)}, RKs W H α ds vs → RKs W H1 α1 ds vs
  | _, _, .nil => .nil
  | _, _, .cons a b => .cons (a.mono s) (RKs.mono s b)
theorem RDs.length : ∀ {ds : List D} {vs : List V}, RDs W H α ds vs → ds.length = vs.length
  | _, _, .nil => rfl
  | _, _, .cons _ b => by rw [List.length_cons, List.length_cons, RDs.length b]
theorem RDs.get : ∀ {ds : List D} {vs : List V} {i : Nat} {d : D}, RDs W H α ds vs → ds[i]? = some d → ∃ v, vs[i]? = some v ∧ RD W H α d v
  | _, _, 0, _, .cons a _, e => by simp at e; subst e; exact ⟨_, rfl, a⟩
  | _, _, i + 1, d, .cons _ b, e => by
    obtain ⟨v, h1, h2⟩ := RDs.get (i := i) (d := d) b (by simpa using e)
    exact ⟨v, by simpa using h1, h2⟩
theorem RDs.getV : ∀ {ds : List D} {vs : List V} {i : Nat} {v : V}, RDs W H α ds vs → vs[i]? = some v → ∃ d, ds[i]? = some d ∧ RD W H α d v
  | _, _, 0, _, .cons a _, e => by simp at e; subst e; exact ⟨_, rfl, a⟩
  | _, _, i + 1, v, .cons _ b, e => by
    obtain ⟨d, h1, h2⟩ := RDs.getV (i := i) (v := v) b (by simpa using e)
    exact ⟨d, by simpa using h1, h2⟩
theorem RDs.append : ∀ {as bs : List D} {vs us : List V}, RDs W H α as vs → RDs W H α bs us → RDs W H α (as ++ bs) (vs ++ us)
  | _, _, _, _, .nil, s => s
  | _, _, _, _, .cons r t, s => .cons r (RDs.append t s)
theorem RDs.take : ∀ {ds : List D} {vs : List V} (n : Nat), RDs W H α ds vs → RDs W H α (ds.take n) (vs.take n)
  | _, _, 0, _ => .nil
  | _, _, _ + 1, .nil => .nil
  | _, _, n + 1, .cons r t => .cons r (RDs.take n t)
theorem RDs.drop : ∀ {ds : List D} {vs : List V} (n : Nat), RDs W H α ds vs → RDs W H α (ds.drop n) (vs.drop n)
  | _, _, 0, r => r
  | _, _, _ + 1, .nil => .nil
  | _, _, n + 1, .cons _ t => RDs.drop n t
theorem RDs.set (r : RD W H α d v) : ∀ {ds : List D} {vs : List V} (i : Nat), RDs W H α ds vs → RDs W H α (ds.set i d) (vs.set i v)
  | _, _, _, .nil => .nil
  | _, _, 0, .cons _ t => .cons r t
  | _, _, i + 1, .cons q t => .cons q (RDs.set r i t)
theorem RDs.dropLast : ∀ {ds : List D} {vs : List V}, RDs W H α ds vs → RDs W H α ds.dropLast vs.dropLast
  | _, _, .nil => .nil
  | _, _, .cons _ .nil => .nil
  | _, _, .cons a (.cons b c) => .cons a (RDs.dropLast (.cons b c))
theorem RDs.eraseIdx : ∀ {ds : List D} {vs : List V} (i : Nat), RDs W H α ds vs → RDs W H α (ds.eraseIdx i) (vs.eraseIdx i)
  | _, _, _, .nil => .nil
  | _, _, 0, .cons _ t => t
  | _, _, i + 1, .cons q t => .cons q (RDs.eraseIdx i t)
theorem RDs.reverse : ∀ {ds : List D} {vs : List V}, RDs W H α ds vs → RDs W H α ds.reverse vs.reverse
  | _, _, .nil => .nil
  | _, _, .cons a b => by
    rw [List.reverse_cons, List.reverse_cons]
    exact (RDs.reverse b).append (.cons a .nil)
theorem RC.live {a : Addr} {c : Cell} (h : RC W H α a c) : H a ≠ none := by
  cases h with
  | lst e r => rw [e]; intro z; cases z
  | fro e r => obtain ⟨o, e⟩ := e; rw [e]; intro z; cases z
  | dic e r => rw [e]; intro z; cases z
theorem RC.mono (s : Step W H α H1 α1) {a : Addr} {c : Cell} (h : RC W H α a c) (k2 : H a ≠ none → H1 a = H a) : RC W H1 α1 a c := by
  have k2 := k2 h.live
  cases h with
  | lst e r => exact .lst (by rw [k2]; exact e) (r.mono s)
  | fro e r =>
    obtain ⟨o, e⟩ := e
    exact .fro ⟨o, by rw [k2]; exact e⟩ (r.mono s)
  | dic e r => exact .dic (by rw [k2]; exact e) (r.mono s)
theorem RC.sql {a : Addr} {ds : List D} (h : RC W H α a (.lst ds) ∨ RC W H α a (.fro ds)) : ∃ xs, SqL W.K H a xs ∧ RDs W H α ds xs := by
  rcases h with h | h
  · cases h with
    | lst e r => exact ⟨_, .inl (.inl e), r⟩
  · cases h with
    | fro e r => exact ⟨_, .inl (.inr e), r⟩
theorem StOk.ex (h : StOk W H α S) {n : Nat} {c : Cell} (e : S[n]? = some c) : ∃ a, α[n]? = some a ∧ RC W H α a c := by
  have hn : n < α.length := by rw [h.len]; exact (List.getElem?_eq_some_iff.mp e).1
  exact ⟨α[n], List.getElem?_eq_getElem hn, h.at_ n c _ e (List.getElem?_eq_getElem hn)⟩
theorem StOk.cell (h : StOk W H α S) {n : Nat} {a : Addr} (e : α[n]? = some a) : ∃ c, S[n]? = some c ∧ RC W H α a c := by
  have hn : n < S.length := by rw [← h.len]; exact (List.getElem?_eq_some_iff.mp e).1
  exact ⟨S[n], List.getElem?_eq_getElem hn, h.at_ n _ a (List.getElem?_eq_getElem hn) e⟩
theorem StOk.fresh_ne (h : StOk W H α S) {p : Addr} (hp : H p = none) : p ∉ α := fun hm => by
  obtain ⟨n, hn⟩ := List.mem_iff_getElem?.mp hm
  obtain ⟨c, _, h2⟩ := h.cell hn
  exact h2.live hp
/-- SqT under an update at a place that holds no tuple -/
theorem sqT_upd {K : PySem.W.Frag} {p : Addr} {o : HO} (hn : ∀ xs, H p ≠ some (.tup xs)) (hf : ∀ ob xs, H p ≠ some (.frz ob (.tup xs))) {a : Addr} {xs : List V} (h : SqT K H a xs) : SqT K (upd H p o) a xs := by
  rcases h with h | h
  · left
    rcases h with h | ⟨ob, h⟩
    · exact .inl (by rw [upd_ne (fun e => hn xs (by rw [← e]; exact h))]; exact h)
    · exact .inr ⟨ob, by rw [upd_ne (fun e => hf ob xs (by rw [← e]; exact h))]; exact h⟩
  · exact .inr h
/-- a new thing at p that the store does not number -/
theorem Step.fresh {p : Addr} {o : HO} (hp : H p = none) : Step W H α (upd H p o) α :=
  { pre := ⟨[], by simp, fun _ h => nomatch h⟩
    keep := fun a u e _ => by rw [upd_ne (ne_of_none e hp)]; exact e
    live := fun a u e z => by rw [upd_ne (ne_of_none e hp), e] at z; cases z
    tups := fun a xs h => sqT_upd (fun _ e => by rw [hp] at e; cases e) (fun _ _ e => by rw [hp] at e; cases e) h }
/-- .. and that it does -/
theorem Step.alloc {p : Addr} {o : HO} (hp : H p = none) : Step W H α (upd H p o) (α ++ [p]) :=
  { pre := ⟨[p], rfl, fun b h => by rw [List.mem_singleton.mp h]; exact hp⟩
    keep := fun a u e _ => by rw [upd_ne (ne_of_none e hp)]; exact e
    live := fun a u e z => by rw [upd_ne (ne_of_none e hp), e] at z; cases z
    tups := fun a xs h => sqT_upd (fun _ e => by rw [hp] at e; cases e) (fun _ _ e => by rw [hp] at e; cases e) h }
theorem upd_fresh {p a : Addr} {o : HO} (hp : H p = none) (h : H a ≠ none) : upd H p o a = H a := upd_ne fun e => h (by rw [e]; exact hp)
theorem StOk.fresh {p : Addr} {o : HO} (st : StOk W H α S) (hp : H p = none) : StOk W (upd H p o) α S :=
  ⟨st.len, st.nd, fun n c a e1 e2 => (st.at_ n c a e1 e2).mono (Step.fresh hp) (upd_fresh hp)⟩
theorem StOk.alloc {p : Addr} {o : HO} {c : Cell} (st : StOk W H α S) (hp : H p = none) (hc : RC W (upd H p o) (α ++ [p]) p c) : StOk W (upd H p o) (α ++ [p]) (S ++ [c]) := by
  have old : ∀ {n : Nat} {a : Addr}, (α ++ [p])[n]? = some a → (n < S.length ∧ α[n]? = some a) ∨ (n = S.length ∧ a = p) := fun {n a} e => by
    by_cases hn : n < S.length
    · rw [List.getElem?_append_left (by rw [st.len]; exact hn)] at e
      exact .inl ⟨hn, e⟩
    · have h1 := (List.getElem?_eq_some_iff.mp e).1
      rw [List.length_append, List.length_singleton, st.len] at h1
      have e2 : n = S.length := by omega
      subst e2
      rw [← st.len] at e
      exact .inr ⟨rfl, by have q : p = a := by simpa using e
                          exact q.symm⟩
  refine ⟨by simp [st.len], fun n m a e1 e2 => ?_, fun n c' a e1 e2 => ?_⟩
  · rcases old e1 with ⟨n1, n2⟩ | ⟨n1, n2⟩
    · rcases old e2 with ⟨m1, m2⟩ | ⟨m1, m2⟩
      · exact st.nd n m a n2 m2
      · subst m2
        exact absurd (List.mem_iff_getElem?.mpr ⟨n, n2⟩) (st.fresh_ne hp)
    · rcases old e2 with ⟨m1, m2⟩ | ⟨m1, m2⟩
      · subst n2
        exact absurd (List.mem_iff_getElem?.mpr ⟨m, m2⟩) (st.fresh_ne hp)
      · exact n1.trans m1.symm
  · rcases old e2 with ⟨n1, n2⟩ | ⟨n1, n2⟩
    · rw [List.getElem?_append_left n1] at e1
      exact (st.at_ n c' a e1 n2).mono (Step.alloc hp) (upd_fresh hp)
    · subst n1 n2
      have q1 : c = c' := by simpa using e1
      subst q1
      exact hc
/-- a list of the store is written -/
theorem Step.write {a : Addr} {xs ys : List V} (ha : a ∈ α) (e : H a = some (.lst xs)) : Step W H α (upd H a (.lst ys)) α :=
  { pre := ⟨[], by simp, fun _ h => nomatch h⟩
    keep := fun b u q n => by rw [upd_ne (fun z => n (by rw [z]; exact ha))]; exact q
    live := fun b u q z => by
      by_cases hb : b = a
      · rw [hb, upd_same] at z; cases z
      · rw [upd_ne hb, q] at z; cases z
    tups := fun b zs h => sqT_upd (fun _ q => by rw [e] at q; cases q) (fun _ _ q => by rw [e] at q; cases q) h }
theorem StOk.write {n : Nat} {a : Addr} {xs ys : List V} {ds es : List D} (st : StOk W H α S) (hn : α[n]? = some a) (hS : S[n]? = some (.lst ds)) (e : H a = some (.lst xs)) (r : RDs W H α es ys) :
    StOk W (upd H a (.lst ys)) α (S.set n (.lst es)) := by
  have ha : a ∈ α := List.mem_iff_getElem?.mpr ⟨n, hn⟩
  have sp := Step.write (W := W) (ys := ys) ha e
  have hl : n < S.length := (List.getElem?_eq_some_iff.mp hS).1
  have at2 : ∀ {m : Nat} {c : Cell}, (S.set n (.lst es))[m]? = some c → (m = n ∧ c = .lst es) ∨ (m ≠ n ∧ S[m]? = some c) := fun {m c} q => by
    by_cases hm : n = m
    · subst hm
      rw [List.getElem?_set_self hl] at q
      exact .inl ⟨rfl, (Option.some.inj q).symm⟩
    · rw [List.getElem?_set_ne hm] at q
      exact .inr ⟨fun z => hm z.symm, q⟩
  refine ⟨by simp [st.len], st.nd, fun m c b e1 e2 => ?_⟩
  rcases at2 e1 with ⟨rfl, rfl⟩ | ⟨hm, q⟩
  · have eb : b = a := by rw [hn] at e2; exact (Option.some.inj e2).symm
    rw [eb]
    exact .lst upd_same (r.mono sp)
  · have hb : b ≠ a := fun z => by
      subst z
      exact hm (st.nd m n b e2 hn)
    exact (st.at_ m c b q e2).mono sp fun _ => upd_ne hb
end

/-! ### results -/
/-- the exception class numbered c, its argument -/
def XR (W : Wd) (H : Hp) (α : List Addr) (c : Nat) (a : Option D) (e : Value) (dd : Option Addr) : Prop :=
  ∃ C, W.XC c = some C ∧ e = .ref C ∧ match a with
    | none => dd = none
    | some x => ∃ ad v, dd = some ad ∧ H ad = some (.xd [("number", v)]) ∧ RD W H α x v
def okM {β : Type} (W : Wd) (E : XK) (H : Hp) (α : List Addr) (r : Res β) (Q : β → Store → Hp → List Addr → Prop) : Prop := match r with
  | .ok b S' => ∀ H' α', Step W H α H' α' → StOk W H' α' S' → Q b S' H' α'
  | .exc c a S' => ∀ e dd H' α', Step W H α H' α' → StOk W H' α' S' → XR W H' α' c a e dd → E e dd H'
  | .bad => False
section
variable {W : Wd} {E : XK} {H H1 H2 : Hp} {α α1 α2 : List Addr} {S S1 : Store} {β γ : Type}
theorem okM.mono {r : Res β} {Q Q' : β → Store → Hp → List Addr → Prop} (h : okM W E H α r Q) (k : ∀ b S' H' α', Step W H α H' α' → StOk W H' α' S' → Q b S' H' α' → Q' b S' H' α') : okM W E H α r Q' := by
  cases r with
  | ok b S' => exact fun H' α' s t => k b S' H' α' s t (h H' α' s t)
  | exc c a S' => exact h
  | bad => exact h
theorem okM.bind {m : M β} {f : β → M γ} {Q : γ → Store → Hp → List Addr → Prop} (h : okM W E H α ((m >>= f) S) Q) : okM W E H α (m S) (fun b S1 H1 α1 => okM W E H1 α1 (f b S1) Q) := by
  have e : (m >>= f) S = M.bnd m f S := rfl
  rw [e] at h
  unfold M.bnd at h
  cases hm : m S with
  | ok b S' =>
    rw [hm] at h
    intro H1 α1 s1 t1
    have h' : okM W E H α (f b S') Q := h
    cases hf : f b S' with
    | ok c S2 =>
      rw [hf] at h'
      exact fun H2 α2 s2 t2 => h' H2 α2 (s1.trans s2) t2
    | exc c a S2 =>
      rw [hf] at h'
      exact fun e dd H2 α2 s2 t2 x => h' e dd H2 α2 (s1.trans s2) t2 x
    | bad =>
      rw [hf] at h'
      exact h'
  | exc c a S' => rw [hm] at h; exact h
  | bad => rw [hm] at h; exact h
/-- moved on -/
theorem okM.step {r : Res β} {Q : β → Store → Hp → List Addr → Prop} (h : okM W E H α r Q) (s : Step W H α H1 α1) : okM W E H1 α1 r Q := by
  cases r with
  | ok b S' => exact fun H' α' s' t => h H' α' (s.trans s') t
  | exc c a S' => exact fun e dd H' α' s' t x => h e dd H' α' (s.trans s') t x
  | bad => exact h
theorem okM.ret {b : β} {Q : β → Store → Hp → List Addr → Prop} (t : StOk W H α S) (h : okM W E H α (.ok b S) Q) : Q b S H α := h H α Step.refl t
end

/-! ### the frame -/
abbrev Fr := List (Option D)
structure RE (W : Wd) (H : Hp) (α : List Addr) (env : Fr) (σ : L2.St) : Prop where
  len : env.length = σ.length
  at_ : ∀ (i : Nat) (d : D), env[i]? = some (some d) → ∃ v, σ[i]? = some (some v) ∧ RD W H α d v
section
variable {W : Wd} {H H1 : Hp} {α α1 : List Addr} {env : Fr} {σ : L2.St}
theorem RE.mono (h : RE W H α env σ) (s : Step W H α H1 α1) : RE W H1 α1 env σ :=
  ⟨h.len, fun i d e => let ⟨v, h1, h2⟩ := h.at_ i d e; ⟨v, h1, h2.mono s⟩⟩
theorem RE.set (h : RE W H α env σ) {d : D} {v : V} (r : RD W H α d v) (i : Nat) : RE W H α (env.set i (some d)) (σ.set i (some v)) := by
  refine ⟨by simp [h.len], fun j e hj => ?_⟩
  by_cases hi : i = j
  · subst hi
    by_cases hl : i < env.length
    · rw [List.getElem?_set_self hl] at hj
      have q : d = e := by simpa using hj
      subst q
      exact ⟨v, by rw [List.getElem?_set_self (by rw [← h.len]; exact hl)], r⟩
    · rw [List.getElem?_eq_none (by rw [List.length_set]; omega)] at hj
      cases hj
  · rw [List.getElem?_set_ne hi] at hj
    obtain ⟨u, h1, h2⟩ := h.at_ j e hj
    exact ⟨u, by rw [List.getElem?_set_ne hi]; exact h1, h2⟩
def wipeF (env : Fr) : List Nat → Fr
  | [] => env
  | v :: vs => (wipeF env vs).set v none
theorem RE.unset (h : RE W H α env σ) (i : Nat) : RE W H α (env.set i none) (σ.set i none) := by
  refine ⟨by simp [h.len], fun j e hj => ?_⟩
  by_cases hi : i = j
  · subst hi
    by_cases hl : i < env.length
    · rw [List.getElem?_set_self hl] at hj; cases hj
    · rw [List.getElem?_eq_none (by rw [List.length_set]; omega)] at hj; cases hj
  · rw [List.getElem?_set_ne hi] at hj
    obtain ⟨u, h1, h2⟩ := h.at_ j e hj
    exact ⟨u, by rw [List.getElem?_set_ne hi]; exact h1, h2⟩
theorem RE.wipe (h : RE W H α env σ) : ∀ vs : List Nat, RE W H α (wipeF env vs) (L2.wipe σ vs)
  | [] => h
  | v :: vs => (RE.wipe h vs).unset v
end

/-! ### readings -/
/-- an expression's reading by what it evaluates to -/
def tE (W : Wd) (E : XK) (m : Fr → M D) : TE := fun σ H Q => ∃ env S α, StOk W H α S ∧ RE W H α env σ ∧ okM W E H α (m env S) fun d _ H' α' => ∀ v, RD W H' α' d v → Q v H'
def tT (W : Wd) (E : XK) (m : Fr → M D) : TT := fun σ H Q => ∃ env S α, StOk W H α S ∧ RE W H α env σ ∧ okM W E H α (m env S) fun d _ H' _ => ∃ b, d = .bl b ∧ Q b H'
def tAs (W : Wd) (E : XK) (m : Fr → M (List D)) : TA := fun σ H Q => ∃ env S α, StOk W H α S ∧ RE W H α env σ ∧ okM W E H α (m env S) fun ds _ H' α' => ∀ vs, RDs W H' α' ds vs → Q vs H'
/-- values in, a value out -/
def vR (W : Wd) (E : XK) (f : List D → M D) : List V → Hp → VK → Prop := fun vs H Q => ∃ ds S α, StOk W H α S ∧ RDs W H α ds vs ∧ okM W E H α (f ds S) fun d _ H' α' => ∀ v, RD W H' α' d v → Q v H'
end Ev
namespace Ev
open PySem PySem.Spec PyProof.Rows L2
abbrev wd (X : Cx) (G XC : Nat → Option Addr) : Wd := ⟨X.K, G, XC⟩
abbrev LINE : Nat := 16777216
theorem line_eq : sizeLine = LINE := sizeLine_eq
/-! ### data of the store as plain data -/
def kpy : Key → PyData
  | .inl i => .int i
  | .inr z => .str z
mutual
def py : Nat → Store → D → Option PyData
  | _, _, .non => some .none
  | _, _, .bl b => some (.bool b)
  | _, _, .int i => some (.int i)
  | _, _, .str x => some (.str x)
  | n + 1, S, .tup ds => (pys n S ds).map .tuple
  | n + 1, S, .ref a => match S[a]? with
    | some (.lst ds) => (pys n S ds).map .list
    | some (.fro ds) => (pys n S ds).map .list
    | some (.dic kvs) => (pyk n S kvs).map .dict
    | none => none
  | _, _, _ => none
termination_by n _ _ => (n, 0)
def pys : Nat → Store → List D → Option (List PyData)
  | _, _, [] => some []
  | n, S, d :: ds => match py n S d, pys n S ds with
    | some x, some xs => some (x :: xs)
    | _, _ => none
termination_by n _ ds => (n, ds.length + 1)
def pyk : Nat → Store → List (Key × D) → Option (List (PyData × PyData))
  | _, _, [] => some []
  | n, S, (k, d) :: ds => match py n S d, pyk n S ds with
    | some x, some xs => some ((kpy k, x) :: xs)
    | _, _ => none
termination_by n _ ds => (n, ds.length + 1)
end
theorem py_non (n S) : py n S .non = some .none := by cases n <;> rw [py]
theorem py_bl (n S b) : py n S (.bl b) = some (.bool b) := by cases n <;> rw [py]
theorem py_int (n S i) : py n S (.int i) = some (.int i) := by cases n <;> rw [py]
theorem py_str (n S x) : py n S (.str x) = some (.str x) := by cases n <;> rw [py]
theorem py_fn (n S x) : py n S (.fn x) = none := by cases n <;> (rw [py] <;> simp)
theorem py_tup (n S ds) : py (n+1) S (.tup ds) = (pys n S ds).map .tuple := by rw [py]
theorem py_tup0 (S ds) : py 0 S (.tup ds) = none := by rw [py] <;> simp
theorem py_ref0 (S a) : py 0 S (.ref a) = none := by rw [py] <;> simp
theorem py_ref (n S a) : py (n+1) S (.ref a) = match S[a]? with
    | some (.lst ds) => (pys n S ds).map .list
    | some (.fro ds) => (pys n S ds).map .list
    | some (.dic kvs) => (pyk n S kvs).map .dict
    | none => none := by rw [py]
theorem pys_nil (n S) : pys n S [] = some [] := by rw [pys]
theorem pys_cons (n S d ds) : pys n S (d :: ds) = match py n S d, pys n S ds with
    | some x, some xs => some (x :: xs)
    | _, _ => none := by rw [pys]
theorem pyk_nil (n S) : pyk n S [] = some [] := by rw [pyk]
theorem pyk_cons (n S k d ds) : pyk n S ((k, d) :: ds) = match py n S d, pyk n S ds with
    | some x, some xs => some ((kpy k, x) :: xs)
    | _, _ => none := by rw [pyk]
section
variable {W : Wd} {H : Hp} {α : List Addr} {S : Store}
theorem pys_some {n : Nat} {d : D} {ds : List D} {xs : List PyData} (h : pys n S (d :: ds) = some xs) : ∃ x ys, py n S d = some x ∧ pys n S ds = some ys ∧ xs = x :: ys := by
  rw [pys_cons] at h
  cases e : py n S d with
  | none => rw [e] at h; simp at h
  | some x =>
    cases e2 : pys n S ds with
    | none => rw [e, e2] at h; simp at h
    | some ys =>
      rw [e, e2] at h
      exact ⟨x, ys, rfl, rfl, (by simpa using h.symm)⟩
/-- without dicts: HandS's own -/
theorem dp_of (st : StOk W H α S) : ∀ (n : Nat), (∀ (d : D) (v : V) (x : PyData), py n S d = some x → x.hasDict = false → RD W H α d v → Dp W.K H v x) ∧
    ∀ (ds : List D) (vs : List V) (xs : List PyData), pys n S ds = some xs → PyData.hasDictAll xs = false → RDs W H α ds vs → DpAll W.K H vs xs := by
  intro n
  have all : ∀ n, (∀ (d : D) (v : V) (x : PyData), py n S d = some x → x.hasDict = false → RD W H α d v → Dp W.K H v x) → ∀ (ds : List D) (vs : List V) (xs : List PyData), pys n S ds = some xs → PyData.hasDictAll xs = false → RDs W H α ds vs → DpAll W.K H vs xs := by
    intro n ih ds
    induction ds with
    | nil =>
      intro vs xs h _ r
      rw [pys_nil] at h
      cases h
      cases r
      exact .nil
    | cons d ds ih2 =>
      intro vs xs h hd r
      obtain ⟨x, ys, h1, h2, rfl⟩ := pys_some h
      rw [PyData.hasDictAll, Bool.or_eq_false_iff] at hd
      cases r with
      | cons a b => exact .cons (ih d _ x h1 hd.1 a) (ih2 _ ys h2 hd.2 b)
  have one : ∀ (n : Nat) (d : D) (v : V) (x : PyData), py n S d = some x → x.hasDict = false → RD W H α d v → Dp W.K H v x := by
    intro n
    induction n with
    | zero =>
      intro d v x h hd r
      cases r with
      | non => rw [py_non] at h; cases h; exact .non
      | bl b => rw [py_bl] at h; cases h; exact .bl b
      | int i => rw [py_int] at h; cases h; exact .int i
      | str y => rw [py_str] at h; cases h; exact .str y
      | tup _ _ => rw [py_tup0] at h; cases h
      | ref _ => rw [py_ref0] at h; cases h
      | fn _ => rw [py_fn] at h; cases h
    | succ n ih =>
      intro d v x h hd r
      cases r with
      | non => rw [py_non] at h; cases h; exact .non
      | bl b => rw [py_bl] at h; cases h; exact .bl b
      | int i => rw [py_int] at h; cases h; exact .int i
      | str y => rw [py_str] at h; cases h; exact .str y
      | tup q rs =>
        rw [py_tup, Option.map_eq_some_iff] at h
        obtain ⟨xs, h1, rfl⟩ := h
        exact .tup q (all n ih _ _ xs h1 (by rwa [PyData.hasDict] at hd) rs)
      | ref q =>
        rw [py_ref] at h
        obtain ⟨c, h1, h2⟩ := st.cell q
        rw [h1] at h
        cases c with
        | lst ds =>
          simp only [Option.map_eq_some_iff] at h
          obtain ⟨xs, h3, rfl⟩ := h
          obtain ⟨vs, h4, h5⟩ := RC.sql (.inl h2)
          exact .lst h4 (all n ih _ _ xs h3 (by rwa [PyData.hasDict] at hd) h5)
        | fro ds =>
          simp only [Option.map_eq_some_iff] at h
          obtain ⟨xs, h3, rfl⟩ := h
          obtain ⟨vs, h4, h5⟩ := RC.sql (.inr h2)
          exact .lst h4 (all n ih _ _ xs h3 (by rwa [PyData.hasDict] at hd) h5)
        | dic kvs =>
          simp only [Option.map_eq_some_iff] at h
          obtain ⟨xs, _, rfl⟩ := h
          simp only [PyData.hasDict] at hd
          cases hd
      | fn _ => rw [py_fn] at h; cases h
  exact ⟨one n, all n (one n)⟩
end
/-! ### operations on data -/
abbrev FU : Nat := 60
def alloc (c : Cell) : M D := fun S => .ok (.ref S.length) (S ++ [c])
def shp (d : PyData) : Bool := SeqAt.shaped d
def dEq (a b : D) : M D := fun S => match a, b with
  | .int i, .int j => .ok (.bl (decide (i = j))) S
  | .str x, .str y => .ok (.bl (decide (x = y))) S
  | .bl x, .bl y => .ok (.bl (decide (x = y))) S
  | .non, .non => .ok (.bl true) S
  | a, b => match py FU S a, py FU S b with
    | some x, some y => if shp x = true ∧ shp y = true then .ok (.bl (PyData.eqv x y)) S else .bad
    | _, _ => .bad
def dNot (a : D) : M D := fun S => match a with
  | .bl b => .ok (.bl (!b)) S
  | _ => .bad
def dNe (a b : D) : M D := do let c ← dEq a b; dNot c
def mulOk (i j : Int) : Prop := i.natAbs < 2 ^ 64 ∨ j.natAbs < 2 ^ 64 ∨ i.natAbs.log2 + j.natAbs.log2 < 1000000
instance (i j : Int) : Decidable (mulOk i j) := by unfold mulOk; infer_instance
def divOk (j : Int) : Prop := j ≠ 0 ∧ j.natAbs.log2 < 9000
instance (j : Int) : Decidable (divOk j) := by unfold divOk; infer_instance
def powOk (i j : Int) : Prop := 0 ≤ j ∧ j ≤ 1000000 ∧ i.natAbs < 2 ^ 64
instance (i j : Int) : Decidable (powOk i j) := by unfold powOk; infer_instance
def dAdd (a b : D) : M D := fun S => match a, b with
  | .int i, .int j => .ok (.int (i + j)) S
  | .str x, .str y => if x.length + y.length ≤ LINE then .ok (.str (x ++ y)) S else .bad
  | .tup xs, .tup ys => if xs.length + ys.length ≤ LINE then .ok (.tup (xs ++ ys)) S else .bad
  | .ref n, .ref m => match S[n]?, S[m]? with
    | some (.lst xs), some (.lst ys) => if xs.length + ys.length ≤ LINE then alloc (.lst (xs ++ ys)) S else .bad
    | some (.fro xs), some (.lst ys) => if xs.length + ys.length ≤ LINE then alloc (.lst (xs ++ ys)) S else .bad
    | _, _ => .bad
  | _, _ => .bad
def dSub (a b : D) : M D := fun S => match a, b with
  | .int i, .int j => .ok (.int (i - j)) S
  | _, _ => .bad
def dMul (a b : D) : M D := fun S => match a, b with
  | .int i, .int j => if mulOk i j then .ok (.int (i * j)) S else .bad
  | .ref n, .int k => match S[n]? with
    | some (.lst xs) => if -(2 ^ 63) ≤ k ∧ k < 2 ^ 63 ∧ xs.length * k.toNat ≤ LINE then alloc (.lst (List.replicate k.toNat xs).flatten) S else .bad
    | _ => .bad
  | _, _ => .bad
def dDiv (a b : D) : M D := fun S => match a, b with
  | .int i, .int j => if divOk j then .ok (.int (if 0 < j then i / j else i.fdiv j)) S else .bad
  | _, _ => .bad
def dMod (a b : D) : M D := fun S => match a, b with
  | .int i, .int j => if j ≠ 0 then .ok (.int (if 0 < j then i % j else i.fmod j)) S else .bad
  | _, _ => .bad
def dPow (a b : D) : M D := fun S => match a, b with
  | .int i, .int j => if powOk i j then .ok (.int (i ^ j.toNat)) S else .bad
  | _, _ => .bad
def dShl (a b : D) : M D := fun S => match a, b with
  | .int i, .int j => if powOk i j then .ok (.int (i * 2 ^ j.toNat)) S else .bad
  | _, _ => .bad
def dShr (a b : D) : M D := fun S => match a, b with
  | .int i, .int j => if 0 ≤ j then .ok (.int (i / 2 ^ j.toNat)) S else .bad
  | _, _ => .bad
def dAnd (a b : D) : M D := fun S => match a, b with
  | .int i, .int j => .ok (.int (Builtin.bitAnd i j)) S
  | _, _ => .bad
/-- tuples of ints (for <) -/
def allInts : List D → Option (List Int)
  | [] => some []
  | .int i :: r => (allInts r).map (i :: ·)
  | _ :: _ => none
def dLt (a b : D) : M D := fun S => match a, b with
  | .int i, .int j => .ok (.bl (decide (i < j))) S
  | .tup xs, .tup ys => match allInts xs, allInts ys with
    | some ns, some ms => .ok (.bl (HT.lexLt ns ms)) S
    | _, _ => .bad
  | _, _ => .bad
def dLe (a b : D) : M D := fun S => match a, b with
  | .int i, .int j => .ok (.bl (decide (i ≤ j))) S
  | _, _ => .bad
def dGt (a b : D) : M D := fun S => match a, b with
  | .int i, .int j => .ok (.bl (decide (j < i))) S
  | _, _ => .bad
def dGe (a b : D) : M D := fun S => match a, b with
  | .int i, .int j => .ok (.bl (decide (j ≤ i))) S
  | _, _ => .bad
def isNon : D → Bool
  | .non => true
  | _ => false
def dIs (a b : D) : M D := fun S => match b with
  | .non => .ok (.bl (isNon a)) S
  | .bl y => match a with
    | .bl x => .ok (.bl (decide (x = y))) S
    | _ => .bad
  | _ => .bad
def dIsNot (a b : D) : M D := fun S => match b with
  | .non => .ok (.bl (!isNon a)) S
  | .bl y => match a with
    | .bl x => .ok (.bl (!decide (x = y))) S
    | _ => .bad
  | _ => .bad
def vR1 (W : Wd) (E : XK) (f : D → M D) : V → Hp → VK → Prop := fun x H Q => ∃ a S α, StOk W H α S ∧ RD W H α a x ∧ okM W E H α (f a S) fun d _ H' α' => ∀ v, RD W H' α' d v → Q v H'
def vR2 (W : Wd) (E : XK) (f : D → D → M D) : R2 := fun x y H Q => ∃ a b S α, StOk W H α S ∧ RD W H α a x ∧ RD W H α b y ∧ okM W E H α (f a b S) fun d _ H' α' => ∀ v, RD W H' α' d v → Q v H'
section
variable {X : Cx} {G XC : Nat → Option Addr} {E : XK} {H : Hp} {α : List Addr} {S : Store} {Q : VK}
/-- a new list -/
theorem new_lst {W : Wd} {xs : List V} {ds : List D} {p : Addr} (st : StOk W H α S) (r : RDs W H α ds xs) (h : okM W E H α (alloc (.lst ds) S) fun d _ H' α' => ∀ v, RD W H' α' d v → Q v H') (hp : H p = none) : Q (.ref p) (upd H p (.lst xs)) := by
  have sp := Step.alloc (W := W) (α := α) (o := .lst xs) hp
  refine h (upd H p (.lst xs)) (α ++ [p]) sp (st.alloc hp (.lst upd_same (r.mono sp))) _ (.ref ?_)
  rw [← st.len]
  simp
/-- a new tuple -/
theorem new_tup {W : Wd} {xs : List V} {ds : List D} {p : Addr} (st : StOk W H α S) (r : RDs W H α ds xs) (h : okM W E H α (.ok (.tup ds) S) fun d _ H' α' => ∀ v, RD W H' α' d v → Q v H') (hp : H p = none) : Q (.ref p) (upd H p (.tup xs)) := by
  have sp := Step.fresh (W := W) (α := α) (o := .tup xs) hp
  exact h (upd H p (.tup xs)) α sp (st.fresh hp) _ (.tup (.inl (.inl upd_same)) (r.mono sp))
theorem same {W : Wd} {d : D} {v : V} (st : StOk W H α S) (h : okM W E H α (.ok d S) fun d _ H' α' => ∀ v, RD W H' α' d v → Q v H') (r : RD W H α d v) : Q v H := h H α Step.refl st v r
theorem sqT_len {pins : List (Addr × Obj)} {σ : L2.St} {s : Shared} {a : Addr} {xs : List V} (I : Inv X pins σ H s) (h : SqT X.K H a xs) : xs.length ≤ LINE := by
  obtain ⟨_, _, _, z⟩ := I.tuple h
  rw [← line_eq]; exact z
theorem op_catL : OpR X (binaryOp .Add) (fun x y H Q => ∃ l b xs zs, x = .ref l ∧ y = .ref b ∧ Rd H l (.lst xs) ∧ Rd H b (.lst zs) ∧ xs.length + zs.length ≤ sizeLine ∧ ∀ p, H p = none → Q (.ref p) (upd H p (.lst (xs ++ zs)))) := by
  intro pins s σ H x y v u Q I rx ry h
  obtain ⟨l, b, xs, zs, rfl, rfl, hH, hB, hz, q⟩ := h
  cases rx
  cases ry
  obtain ⟨_, its, n, r, e⟩ := hH.ok I.hok
  obtain ⟨_, its2, n2, r2, e2⟩ := hB.ok I.hok
  have hl := r.length
  have hl2 := r2.length
  refine PySem.P.add_list e e2 ?_ (by rw [List.size_toArray, List.size_toArray]; omega)
  have ea : its.toArray ++ its2.toArray = (its ++ its2).toArray := by simp
  rw [ea]
  exact ⟨.ref _, _, I.lnew (t' := s.toks) (r.append r2) (by rw [List.length_append]; omega), rfl, q _ I.fresh⟩
theorem opAdd : OpR X (binaryOp .Add) (vR2 (wd X G XC) E dAdd) := by
  intro pins s σ H x y v u Q I rx ry ⟨a, b, S, α, st, ra, rb, h⟩
  unfold dAdd at h
  split at h
  · cases ra; cases rb
    exact op_add pins s σ H _ _ v u Q I rx ry ⟨_, _, rfl, rfl, same st h (.int _)⟩
  · cases ra; cases rb
    split at h
    · rename_i hz
      exact op_add_str pins s σ H _ _ v u Q I rx ry ⟨_, _, rfl, rfl, by rw [line_eq]; exact hz, same st h (.str _)⟩
    · exact h.elim
  · split at h
    · rename_i xs ys hz
      cases ra with
      | tup ha ra =>
        cases rb with
        | tup hb rb =>
          refine op_catA pins s σ H _ _ v u Q I rx ry ⟨_, _, _, _, rfl, rfl, ha, hb, by rw [line_eq, ← ra.length, ← rb.length]; exact hz, fun e => ?_, fun _ e => ?_, fun _ _ p hp => new_tup st (ra.append rb) h hp⟩
          · subst e
            cases ra
            exact same st h (.tup hb rb)
          · subst e
            cases rb
            rw [List.append_nil] at h
            exact same st h (.tup ha ra)
    · exact h.elim
  · split at h
    · rename_i n m xs ys e1 e2
      split at h
      · rename_i hz
        cases ra with
        | ref ha =>
          cases rb with
          | ref hb =>
            have h1 := st.at_ _ _ _ e1 ha
            have h2 := st.at_ _ _ _ e2 hb
            cases h1 with
            | lst q1 r1 =>
              cases h2 with
              | lst q2 r2 =>
                exact op_cat pins s σ H _ _ v u Q I rx ry ⟨_, _, _, _, rfl, rfl, q1, q2, by rw [line_eq, ← r1.length, ← r2.length]; exact hz, fun p hp => new_lst st (r1.append r2) h hp⟩
      · exact h.elim
    · rename_i n m xs ys e1 e2
      split at h
      · rename_i hz
        cases ra with
        | ref ha =>
          cases rb with
          | ref hb =>
            have h1 := st.at_ _ _ _ e1 ha
            have h2 := st.at_ _ _ _ e2 hb
            cases h1 with
            | fro q1 r1 =>
              cases h2 with
              | lst q2 r2 =>
                exact op_catL pins s σ H _ _ v u Q I rx ry ⟨_, _, _, _, rfl, rfl, .inr q1, .inl q2, by rw [line_eq, ← r1.length, ← r2.length]; exact hz, fun p hp => new_lst st (r1.append r2) h hp⟩
      · exact h.elim
    · exact h.elim
  · exact h.elim
theorem opSub : OpR X (binaryOp .Sub) (vR2 (wd X G XC) E dSub) := by
  intro pins s σ H x y v u Q I rx ry ⟨a, b, S, α, st, ra, rb, h⟩
  unfold dSub at h
  split at h
  · cases ra; cases rb
    exact op_sub pins s σ H _ _ v u Q I rx ry ⟨_, _, rfl, rfl, same st h (.int _)⟩
  · exact h.elim
theorem opMul : OpR X (binaryOp .Mult) (vR2 (wd X G XC) E dMul) := by
  intro pins s σ H x y v u Q I rx ry ⟨a, b, S, α, st, ra, rb, h⟩
  unfold dMul at h
  split at h
  · cases ra; cases rb
    split at h
    · rename_i hm
      rcases hm with hm | hm | hm
      · exact op_mul pins s σ H _ _ v u Q I rx ry ⟨_, _, rfl, rfl, .inl (by omega), same st h (.int _)⟩
      · exact op_mul pins s σ H _ _ v u Q I rx ry ⟨_, _, rfl, rfl, .inr (by omega), same st h (.int _)⟩
      · exact op_mulW pins s σ H _ _ v u Q I rx ry ⟨_, _, rfl, rfl, hm, same st h (.int _)⟩
    · exact h.elim
  · split at h
    · rename_i n k xs e1
      split at h
      · rename_i hz
        cases rb
        cases ra with
        | ref ha =>
          have h1 := st.at_ _ _ _ e1 ha
          cases h1 with
          | lst q1 r1 =>
            have rep : ∀ (m : Nat) {ds : List D} {vs : List V}, RDs (wd X G XC) H α ds vs → RDs (wd X G XC) H α (List.replicate m ds).flatten (List.replicate m vs).flatten := fun m ds vs r => by
              induction m with
              | zero => exact .nil
              | succ m ih =>
                simp only [List.replicate_succ, List.flatten_cons]
                exact r.append ih
            refine op_rep pins s σ H _ _ v u Q I rx ry ⟨_, _, _, rfl, rfl, q1, hz.1, hz.2.1, by rw [line_eq, ← r1.length]; exact hz.2.2, fun p hp => ?_⟩
            exact new_lst st (rep _ r1) h hp
      · exact h.elim
    · exact h.elim
  · exact h.elim
theorem divAny : OpR X (binaryOp .FloorDiv) (rI (fun _ j => divOk j) fun i j => .int (if 0 < j then i / j else i.fdiv j)) := opI fun i j _ _ _ _ _ hc q => by
  have h0 : j ≠ 0 := hc.1
  refine floordiv_int h0 ?_ (.inl (PyProof.noPylong_of_log2 hc.2))
  by_cases h1 : 0 < j
  · rw [if_pos h1] at q
    rw [Int.fdiv_eq_ediv_of_nonneg i (by omega)]; exact q
  · rw [if_neg h1] at q; exact q
theorem modAny : OpR X (binaryOp .Mod) (rI (fun _ j => j ≠ 0) fun i j => .int (if 0 < j then i % j else i.fmod j)) := opI fun i j _ _ _ _ _ hc q => by
  refine mod_int' hc ?_
  by_cases h1 : 0 < j
  · rw [if_pos h1] at q
    rw [Int.fmod_eq_emod_of_nonneg i (by omega)]; exact q
  · rw [if_neg h1] at q; exact q
theorem opDiv : OpR X (binaryOp .FloorDiv) (vR2 (wd X G XC) E dDiv) := by
  intro pins s σ H x y v u Q I rx ry ⟨a, b, S, α, st, ra, rb, h⟩
  unfold dDiv at h
  split at h
  · cases ra; cases rb
    split at h
    · rename_i hz
      exact divAny pins s σ H _ _ v u Q I rx ry ⟨_, _, rfl, rfl, hz, same st h (.int _)⟩
    · exact h.elim
  · exact h.elim
theorem opMod : OpR X (binaryOp .Mod) (vR2 (wd X G XC) E dMod) := by
  intro pins s σ H x y v u Q I rx ry ⟨a, b, S, α, st, ra, rb, h⟩
  unfold dMod at h
  split at h
  · cases ra; cases rb
    split at h
    · rename_i hz
      exact modAny pins s σ H _ _ v u Q I rx ry ⟨_, _, rfl, rfl, hz, same st h (.int _)⟩
    · exact h.elim
  · exact h.elim
theorem opPow : OpR X (binaryOp .Pow) (vR2 (wd X G XC) E dPow) := by
  intro pins s σ H x y v u Q I rx ry ⟨a, b, S, α, st, ra, rb, h⟩
  unfold dPow at h
  split at h
  · cases ra; cases rb
    split at h
    · rename_i hz
      exact op_pow pins s σ H _ _ v u Q I rx ry ⟨_, _, rfl, rfl, hz, same st h (.int _)⟩
    · exact h.elim
  · exact h.elim
theorem opShl : OpR X (binaryOp .LShift) (vR2 (wd X G XC) E dShl) := by
  intro pins s σ H x y v u Q I rx ry ⟨a, b, S, α, st, ra, rb, h⟩
  unfold dShl at h
  split at h
  · cases ra; cases rb
    split at h
    · rename_i hz
      exact op_shl pins s σ H _ _ v u Q I rx ry ⟨_, _, rfl, rfl, hz, same st h (.int _)⟩
    · exact h.elim
  · exact h.elim
theorem opShr : OpR X (binaryOp .RShift) (vR2 (wd X G XC) E dShr) := by
  intro pins s σ H x y v u Q I rx ry ⟨a, b, S, α, st, ra, rb, h⟩
  unfold dShr at h
  split at h
  · cases ra; cases rb
    split at h
    · rename_i hz
      exact op_shr pins s σ H _ _ v u Q I rx ry ⟨_, _, rfl, rfl, hz, same st h (.int _)⟩
    · exact h.elim
  · exact h.elim
theorem opAnd : OpR X (binaryOp .BitAnd) (vR2 (wd X G XC) E dAnd) := by
  intro pins s σ H x y v u Q I rx ry ⟨a, b, S, α, st, ra, rb, h⟩
  unfold dAnd at h
  split at h
  · cases ra; cases rb
    exact op_and pins s σ H _ _ v u Q I rx ry ⟨_, _, rfl, rfl, same st h (.int _)⟩
  · exact h.elim
/-! ### comparisons -/
theorem ints_map {W : Wd} : ∀ {ds : List D} {ns : List Int} {xs : List V}, allInts ds = some ns → RDs W H α ds xs → xs = ns.map V.int
  | [], ns, xs, h, r => by
    cases h
    cases r
    rfl
  | .int i :: ds, ns, xs, h, r => by
    rw [allInts, Option.map_eq_some_iff] at h
    obtain ⟨ms, h1, rfl⟩ := h
    cases r with
    | cons a b =>
      cases a
      rw [ints_map h1 b]
      rfl
  | .non :: _, _, _, h, _ => by cases h
  | .bl _ :: _, _, _, h, _ => by cases h
  | .str _ :: _, _, _, h, _ => by cases h
  | .tup _ :: _, _, _, h, _ => by cases h
  | .ref _ :: _, _, _, h, _ => by cases h
  | .fn _ :: _, _, _, h, _ => by cases h
theorem opLt (hu : X.A.units < cLine) : OpR X (compareOp .Lt) (vR2 (wd X G XC) E dLt) := by
  intro pins s σ H x y v u Q I rx ry ⟨a, b, S, α, st, ra, rb, h⟩
  unfold dLt at h
  split at h
  · cases ra; cases rb
    exact op_lt pins s σ H _ _ v u Q I rx ry ⟨_, _, rfl, rfl, same st h (.bl _)⟩
  · split at h
    · rename_i xs ys ns ms e1 e2
      cases ra with
      | tup ha ra =>
        cases rb with
        | tup hb rb =>
          rw [ints_map e1 ra] at ha
          rw [ints_map e2 rb] at hb
          exact op_ltT hu pins s σ H _ _ v u Q I rx ry ⟨_, _, ns, ms, rfl, rfl, ha, hb, same st h (.bl _)⟩
    · exact h.elim
  · exact h.elim
theorem opLe : OpR X (compareOp .LtE) (vR2 (wd X G XC) E dLe) := by
  intro pins s σ H x y v u Q I rx ry ⟨a, b, S, α, st, ra, rb, h⟩
  unfold dLe at h
  split at h
  · cases ra; cases rb
    exact op_le pins s σ H _ _ v u Q I rx ry ⟨_, _, rfl, rfl, same st h (.bl _)⟩
  · exact h.elim
theorem opGt : OpR X (compareOp .Gt) (vR2 (wd X G XC) E dGt) := by
  intro pins s σ H x y v u Q I rx ry ⟨a, b, S, α, st, ra, rb, h⟩
  unfold dGt at h
  split at h
  · cases ra; cases rb
    exact op_gt pins s σ H _ _ v u Q I rx ry ⟨_, _, rfl, rfl, same st h (.bl _)⟩
  · exact h.elim
theorem opGe : OpR X (compareOp .GtE) (vR2 (wd X G XC) E dGe) := by
  intro pins s σ H x y v u Q I rx ry ⟨a, b, S, α, st, ra, rb, h⟩
  unfold dGe at h
  split at h
  · cases ra; cases rb
    exact op_ge pins s σ H _ _ v u Q I rx ry ⟨_, _, rfl, rfl, same st h (.bl _)⟩
  · exact h.elim
theorem dv_int {i j : Int} : decide (V.int i = V.int j) = decide (i = j) := by simp
theorem dv_str {i j : Str} : decide (V.str i = V.str j) = decide (i = j) := by simp
theorem dv_bl {i j : Bool} : decide (V.bl i = V.bl j) = decide (i = j) := by simp
theorem shp_nodict {x : PyData} (h : shp x = true) : x.hasDict = false := PyData.hasDict_of_canLay x (SeqAt.canLay_of_shaped h)
theorem opEq (hu : X.A.units + 64 < cLine) : OpR X (compareOp .Eq) (vR2 (wd X G XC) E dEq) := by
  intro pins s σ H x y v u Q I rx ry ⟨a, b, S, α, st, ra, rb, h⟩
  unfold dEq at h
  split at h
  · cases ra; cases rb
    exact op_eq pins s σ H _ _ v u Q I rx ry ⟨rfl, by rw [dv_int]; exact same st h (.bl _)⟩
  · cases ra; cases rb
    exact op_eq pins s σ H _ _ v u Q I rx ry ⟨rfl, by rw [dv_str]; exact same st h (.bl _)⟩
  · cases ra; cases rb
    exact op_eq pins s σ H _ _ v u Q I rx ry ⟨rfl, by rw [dv_bl]; exact same st h (.bl _)⟩
  · cases ra; cases rb
    exact op_eq pins s σ H _ _ v u Q I rx ry ⟨rfl, by simpa using same st h (.bl _)⟩
  · split at h
    · rename_i x' y' e1 e2
      split at h
      · rename_i hs
        have d1 := (dp_of st FU).1 _ _ _ e1 (shp_nodict hs.1) ra
        have d2 := (dp_of st FU).1 _ _ _ e2 (shp_nodict hs.2) rb
        exact op_eqD hu pins s σ H _ _ v u Q I rx ry ⟨_, _, d1, d2, hs.1, hs.2, same st h (.bl _)⟩
      · exact h.elim
    · exact h.elim
theorem opNe (hu : X.A.units + 64 < cLine) : OpR X (compareOp .NotEq) (vR2 (wd X G XC) E dNe) := by
  intro pins s σ H x y v u Q I rx ry ⟨a, b, S, α, st, ra, rb, h⟩
  have h := okM.bind h
  unfold dEq at h
  have fin : ∀ {c : Bool}, okM (wd X G XC) E H α (.ok (.bl c) S) (fun b S1 H1 α1 => okM (wd X G XC) E H1 α1 (dNot b S1) fun d _ H' α' => ∀ v, RD (wd X G XC) H' α' d v → Q v H') → Q (.bl !c) H := fun {c} h => by
    have h2 := okM.ret st h
    exact same st h2 (.bl _)
  split at h
  · cases ra; cases rb
    exact op_ne pins s σ H _ _ v u Q I rx ry ⟨rfl, by rw [dv_int]; exact fin h⟩
  · cases ra; cases rb
    exact op_ne pins s σ H _ _ v u Q I rx ry ⟨rfl, by rw [dv_str]; exact fin h⟩
  · cases ra; cases rb
    exact op_ne pins s σ H _ _ v u Q I rx ry ⟨rfl, by rw [dv_bl]; exact fin h⟩
  · cases ra; cases rb
    exact op_ne pins s σ H _ _ v u Q I rx ry ⟨rfl, by simpa using fin h⟩
  · split at h
    · rename_i x' y' e1 e2
      split at h
      · rename_i hs
        have d1 := (dp_of st FU).1 _ _ _ e1 (shp_nodict hs.1) ra
        have d2 := (dp_of st FU).1 _ _ _ e2 (shp_nodict hs.2) rb
        exact op_neD hu pins s σ H _ _ v u Q I rx ry ⟨_, _, d1, d2, hs.1, hs.2, fin h⟩
      · exact h.elim
    · exact h.elim
theorem RD.nonb {W : Wd} {a : D} {x : V} (r : RD W H α a x) : isNon a = decide (x = .non) := by cases r <;> simp [isNon]
theorem opIs : OpR X (compareOp .Is) (vR2 (wd X G XC) E dIs) := by
  intro pins s σ H x y v u Q I rx ry ⟨a, b, S, α, st, ra, rb, h⟩
  unfold dIs at h
  split at h
  · cases rb
    exact op_isN pins s σ H _ _ v u Q I rx ry ⟨rfl, by rw [← ra.nonb]; exact same st h (.bl _)⟩
  · split at h
    · cases ra; cases rb
      exact op_isBl pins s σ H _ _ v u Q I rx ry ⟨_, _, rfl, rfl, same st h (.bl _)⟩
    · exact h.elim
  · exact h.elim
theorem opIsNot : OpR X (compareOp .IsNot) (vR2 (wd X G XC) E dIsNot) := by
  intro pins s σ H x y v u Q I rx ry ⟨a, b, S, α, st, ra, rb, h⟩
  unfold dIsNot at h
  split at h
  · cases rb
    refine op_notN pins s σ H _ _ v u Q I rx ry ⟨rfl, ?_⟩
    rw [← ra.nonb]
    exact same st h (.bl _)
  · split at h
    · cases ra; cases rb
      exact op_notBl pins s σ H _ _ v u Q I rx ry ⟨_, _, rfl, rfl, same st h (.bl _)⟩
    · exact h.elim
  · exact h.elim
end
end Ev
namespace Ev
open PySem PySem.Spec PyProof.Rows L2
/-! ### subscripts, slices -/
def dIx (a b : D) : M D := fun S => match a, b with
  | .tup xs, .int i => match atI xs i with
    | some d => .ok d S
    | none => .bad
  | .str z, .int i => if z.length ≤ LINE then (match atI z.cps.toList i with
    | some c => .ok (.str ⟨#[c]⟩) S
    | none => .bad) else .bad
  | .ref n, .int i => match S[n]? with
    | some (.lst xs) => (match atI xs i with
      | some d => .ok d S
      | none => .bad)
    | some (.fro xs) => (match atI xs i with
      | some d => .ok d S
      | none => .bad)
    | _ => .bad
  | _, _ => .bad
def cutD (xs : List D) (lo hi : Option Int) : List D := (xs.drop (HT.sIx xs.length 0 lo)).take (HT.sIx xs.length xs.length hi - HT.sIx xs.length 0 lo)
def dSl (a : D) (lo hi : Option Int) : M D := fun S => match a with
  | .tup xs => .ok (.tup (cutD xs lo hi)) S
  | .str z => if z.length ≤ LINE then .ok (.str (cutS z lo hi)) S else .bad
  | .ref n => match S[n]? with
    | some (.lst xs) => alloc (.lst (cutD xs lo hi)) S
    | some (.fro xs) => alloc (.lst (cutD xs lo hi)) S
    | _ => .bad
  | _ => .bad
/-- o[i] = v, the store behind it -/
def dSet (o i v : D) : M Unit := fun S => match o, i with
  | .ref n, .int k => match S[n]? with
    | some (.lst xs) => (match ixN xs.length k with
      | some j => .ok () (S.set n (.lst (xs.set j v)))
      | none => .bad)
    | _ => .bad
  | _, _ => .bad
theorem cutD_len (xs : List D) (lo hi : Option Int) : (cutD xs lo hi).length ≤ xs.length := by
  unfold cutD
  rw [List.length_take, List.length_drop]
  omega
section
variable {X : Cx} {G XC : Nat → Option Addr} {E : XK} {H : Hp} {α : List Addr} {S : Store} {Q : VK}
theorem RDs.atI {W : Wd} {ds : List D} {vs : List V} {i : Int} {d : D} (r : RDs W H α ds vs) (h : L2.atI ds i = some d) : ∃ v, L2.atI vs i = some v ∧ RD W H α d v := by
  unfold L2.atI at h ⊢
  rw [← r.length]
  rw [Option.bind_eq_some_iff] at h
  obtain ⟨j, h1, h2⟩ := h
  obtain ⟨v, h3, h4⟩ := r.get h2
  exact ⟨v, by rw [h1]; exact h3, h4⟩
theorem RDs.cut {W : Wd} {ds : List D} {vs : List V} {lo hi : Option Int} (r : RDs W H α ds vs) : RDs W H α (cutD ds lo hi) (cutV vs lo hi) := by
  unfold cutD cutV
  rw [r.length]
  exact (r.drop _).take _
theorem ixAny : IxR X (vR2 (wd X G XC) E dIx) := by
  intro value slice pins s σ H x y v u Q I rx ry ⟨a, b, S, α, st, ra, rb, h⟩ hs
  have lst : ∀ {p : Addr} {ds : List D} {xs : List V} {i : Int}, SqL X.K H p xs → RDs (wd X G XC) H α ds xs → x = .ref p → y = .int i → okM (wd X G XC) E H α (match L2.atI ds i with
      | some d => .ok d S
      | none => .bad) (fun d _ H' α' => ∀ v, RD (wd X G XC) H' α' d v → Q v H') → wpAny (model X.prog X.w) X.A (subscriptTail value slice v u) (EP X pins σ Q) X.xe s := fun {p ds xs i} hq r e1 e2 h => by
    subst e1 e2
    split at h
    · rename_i d e
      obtain ⟨w', e3, r3⟩ := r.atI e
      exact ix_list value slice pins s σ H _ _ v u Q I rx ry ⟨_, _, _, _, rfl, rfl, hq, e3, same st h r3⟩ hs
    · exact h.elim
  unfold dIx at h
  split at h
  · cases ra with
    | tup ha ra =>
      cases rb
      split at h
      · rename_i e
        obtain ⟨w', e3, r3⟩ := ra.atI e
        exact ix_tup value slice pins s σ H _ _ v u Q I rx ry ⟨_, _, _, _, rfl, rfl, ha, e3, same st h r3⟩ hs
      · exact h.elim
  · cases ra; cases rb
    split at h
    · rename_i hz
      split at h
      · rename_i e
        exact ix_str value slice pins s σ H _ _ v u Q I rx ry ⟨_, _, _, rfl, rfl, by rw [line_eq]; exact hz, e, same st h (.str _)⟩ hs
      · exact h.elim
    · exact h.elim
  · split at h
    · rename_i e1
      cases ra with
      | ref ha =>
        cases rb
        obtain ⟨xs, hq, r⟩ := RC.sql (.inl (st.at_ _ _ _ e1 ha))
        exact lst hq r rfl rfl h
    · rename_i e1
      cases ra with
      | ref ha =>
        cases rb
        obtain ⟨xs, hq, r⟩ := RC.sql (.inr (st.at_ _ _ _ e1 ha))
        exact lst hq r rfl rfl h
    · exact h.elim
  · exact h.elim
def vRS (W : Wd) (E : XK) : V → Option Int → Option Int → Hp → VK → Prop := fun x lo hi H Q => ∃ a S α, StOk W H α S ∧ RD W H α a x ∧ okM W E H α (dSl a lo hi S) fun d _ H' α' => ∀ v, RD W H' α' d v → Q v H'
theorem slAny : SlR X (vRS (wd X G XC) E) := by
  intro pins s σ H x v vl vu lo hi sl Q I rx hs pl pu ⟨a, S, α, st, ra, h⟩
  unfold dSl at h
  split at h
  · rename_i xs
    cases ra with
    | tup ha ra =>
      refine sl_tupA pins s σ H _ v vl vu lo hi sl Q I rx hs pl pu ⟨_, _, rfl, ha, fun hw => ?_, fun _ p hp => new_tup st ra.cut h hp⟩
      have e : cutD xs lo hi = xs := by
        unfold cutD
        rw [ra.length, hw.1, hw.2, List.drop_zero, List.take_of_length_le (by rw [ra.length]; omega)]
      rw [e] at h
      exact same st h (.tup ha ra)
  · cases ra
    split at h
    · rename_i hz
      exact sl_str pins s σ H _ v vl vu lo hi sl Q I rx hs pl pu ⟨_, rfl, by rw [line_eq]; exact hz, same st h (.str _)⟩
    · exact h.elim
  · split at h
    · rename_i e1
      cases ra with
      | ref ha =>
        obtain ⟨xs, hq, r⟩ := RC.sql (.inl (st.at_ _ _ _ e1 ha))
        exact sl_list pins s σ H _ v vl vu lo hi sl Q I rx hs pl pu ⟨_, _, rfl, hq, fun p hp => new_lst st r.cut h hp⟩
    · rename_i e1
      cases ra with
      | ref ha =>
        obtain ⟨xs, hq, r⟩ := RC.sql (.inr (st.at_ _ _ _ e1 ha))
        exact sl_list pins s σ H _ v vl vu lo hi sl Q I rx hs pl pu ⟨_, _, rfl, hq, fun p hp => new_lst st r.cut h hp⟩
    · exact h.elim
  · exact h.elim
def vRSet (W : Wd) (E : XK) : TSet := fun o i v H Q => ∃ a b c S α, StOk W H α S ∧ RD W H α a o ∧ RD W H α b i ∧ RD W H α c v ∧ okM W E H α (dSet a b c S) fun _ _ H' _ => Q H'
theorem setAny : PSet X (vRSet (wd X G XC) E) := by
  intro pins s σ H o i v ov iv u Q I ro ri rv ⟨a, b, c, S, α, st, ra, rb, rc, h⟩
  unfold dSet at h
  split at h
  · split at h
    · rename_i e1
      split at h
      · rename_i j e2
        cases ra with
        | ref ha =>
          cases rb
          have h1 := st.at_ _ _ _ e1 ha
          cases h1 with
          | lst q r =>
            refine set_list pins s σ H _ _ v ov iv u Q I ro ri rv ⟨_, _, _, j, rfl, rfl, q, by rw [← r.length]; exact e2, ?_⟩
            exact h _ _ (Step.write (List.mem_iff_getElem?.mpr ⟨_, ha⟩) q) (st.write ha e1 q (RDs.set rc j r))
      · exact h.elim
    · exact h.elim
  · exact h.elim
end
/-! ### built-ins -/
inductive Ty where
  | int | bool | str | tuple | list | dict
  deriving DecidableEq
def Ty.name : Ty → String
  | .int => "int" | .bool => "bool" | .str => "str" | .tuple => "tuple" | .list => "list" | .dict => "dict"
/-- isinstance's answer -/
def Ty.sub : Ty → Ty → Bool
  | .bool, .int => true
  | a, b => decide (a = b)
def tyOf (d : D) (S : Store) : Option (Option Ty) := match d with
  | .non => some none
  | .bl _ => some (some .bool)
  | .int _ => some (some .int)
  | .str _ => some (some .str)
  | .tup _ => some (some .tuple)
  | .ref n => match S[n]? with
    | some (.lst _) => some (some .list)
    | some (.fro _) => some (some .list)
    | some (.dic _) => some (some .dict)
    | none => none
  | .fn _ => none
def dIsi (t : Ty) (d : D) : M D := fun S => match tyOf d S with
  | some (some u) => .ok (.bl (u.sub t)) S
  | some none => .ok (.bl false) S
  | none => .bad
def dLen (d : D) : M D := fun S => match d with
  | .str x => if x.length ≤ LINE then .ok (.int x.length) S else .bad
  | .tup xs => .ok (.int xs.length) S
  | .ref n => match S[n]? with
    | some (.lst xs) => .ok (.int xs.length) S
    | some (.fro xs) => .ok (.int xs.length) S
    | some (.dic kvs) => .ok (.int kvs.length) S
    | none => .bad
  | _ => .bad
def dAbs (d : D) : M D := fun S => match d with
  | .int i => .ok (.int (if i < 0 then -i else i)) S
  | _ => .bad
def dInt (d : D) : M D := fun S => match d with
  | .int i => .ok (.int i) S
  | .bl b => .ok (.int (if b then 1 else 0)) S
  | .str x => match PySem.intText? x with
    | some n => if x.length ≤ 640 then .ok (.int n) S else .bad
    | none => .bad
  | _ => .bad
def dStr (d : D) : M D := fun S => match d with
  | .int i => if i.natAbs.log2 < 1920 then .ok (.str (toString i)) S else .bad
  | _ => .bad
def dMax2 (a b : D) : M D := fun S => match a, b with
  | .int i, .int j => .ok (.int (if j > i then j else i)) S
  | _, _ => .bad
def dMin2 (a b : D) : M D := fun S => match a, b with
  | .int i, .int j => .ok (.int (if j < i then j else i)) S
  | _, _ => .bad
/-- the items of a list or a tuple -/
def itemsOf (d : D) (S : Store) : Option (List D) := match d with
  | .tup xs => some xs
  | .ref n => match S[n]? with
    | some (.lst xs) => some xs
    | some (.fro xs) => some xs
    | _ => none
  | _ => none
def dTuple (d : D) : M D := fun S => match itemsOf d S with
  | some xs => .ok (.tup xs) S
  | none => .bad
def dList (d : D) : M D := fun S => match itemsOf d S with
  | some xs => alloc (.lst xs) S
  | none => .bad
def bls : List D → Option (List Bool)
  | [] => some []
  | .bl i :: r => (bls r).map (i :: ·)
  | _ :: _ => none
def listOf? (d : D) (S : Store) : Option (List D) := match d with
  | .ref n => match S[n]? with
    | some (.lst xs) => some xs
    | some (.fro xs) => some xs
    | _ => none
  | _ => none
def dAll (d : D) : M D := fun S => match (listOf? d S).bind bls with
  | some bs => .ok (.bl (bs.all id)) S
  | none => .bad
def dAny (d : D) : M D := fun S => match (listOf? d S).bind bls with
  | some bs => .ok (.bl (bs.any id)) S
  | none => .bad
def dSum (d : D) : M D := fun S => match (listOf? d S).bind allInts with
  | some ns => .ok (.int ns.sum) S
  | none => .bad
def vRL (W : Wd) (E : XK) (f : List D → M D) : List V → Hp → VK → Prop := fun xs H Q => ∃ ds S α, StOk W H α S ∧ RDs W H α ds xs ∧ okM W E H α (f ds S) fun d _ H' α' => ∀ v, RD W H' α' d v → Q v H'
def on1 (f : D → M D) : List D → M D
  | [a] => f a
  | _ => M.fail
def on2 (f : D → D → M D) : List D → M D
  | [a, b] => f a b
  | _ => M.fail
section
variable {X : Cx} {G XC : Nat → Option Addr} {E : XK} {H : Hp} {α : List Addr} {S : Store} {Q : VK}
theorem callR1 {f : Value} {g : D → M D} (h : CallR X f fun xs H Q => ∃ x, xs = [x] ∧ vR1 (wd X G XC) E g x H Q) : CallR X f (vRL (wd X G XC) E (on1 g)) := by
  intro pins s σ H xs us Q I r ⟨ds, S, α, st, rs, q⟩
  match ds, rs, q with
  | [a], .cons ra .nil, q => exact h pins s σ H _ us Q I r ⟨_, rfl, a, S, α, st, ra, q⟩
  | [], .nil, q => exact q.elim
  | _ :: _ :: _, .cons _ (.cons _ _), q => exact q.elim
theorem callR2 {f : Value} {g : D → D → M D} (h : CallR X f fun xs H Q => ∃ x y, xs = [x, y] ∧ vR2 (wd X G XC) E g x y H Q) : CallR X f (vRL (wd X G XC) E (on2 g)) := by
  intro pins s σ H xs us Q I r ⟨ds, S, α, st, rs, q⟩
  match ds, rs, q with
  | [a, b], .cons ra (.cons rb .nil), q => exact h pins s σ H _ us Q I r ⟨_, _, rfl, a, b, S, α, st, ra, rb, q⟩
  | [], .nil, q => exact q.elim
  | [_], .cons _ .nil, q => exact q.elim
  | _ :: _ :: _ :: _, .cons _ (.cons _ (.cons _ _)), q => exact q.elim
theorem cLen : CallR X (.builtin "len") (vRL (wd X G XC) E (on1 dLen)) := by
  refine callR1 fun pins s σ H xs us Q I r ⟨x, e, a, S, α, st, ra, h⟩ => ?_
  subst e
  unfold dLen at h
  split at h
  · cases ra
    split at h
    · rename_i hz
      exact call_len pins s σ H _ us Q I r ⟨_, _, rfl, ⟨by rw [line_eq]; exact hz, rfl⟩, same st h (.int _)⟩
    · exact h.elim
  · cases ra with
    | tup ha ra => exact call_len pins s σ H _ us Q I r ⟨_, _, rfl, .inr ⟨_, ha, rfl⟩, by rw [← ra.length]; exact same st h (.int _)⟩
  · split at h
    · rename_i e1
      cases ra with
      | ref ha =>
        obtain ⟨xs, hq, rq⟩ := RC.sql (.inl (st.at_ _ _ _ e1 ha))
        exact call_len pins s σ H _ us Q I r ⟨_, _, rfl, .inl ⟨_, hq, rfl⟩, by rw [← rq.length]; exact same st h (.int _)⟩
    · rename_i e1
      cases ra with
      | ref ha =>
        obtain ⟨xs, hq, rq⟩ := RC.sql (.inr (st.at_ _ _ _ e1 ha))
        exact call_len pins s σ H _ us Q I r ⟨_, _, rfl, .inl ⟨_, hq, rfl⟩, by rw [← rq.length]; exact same st h (.int _)⟩
    · rename_i e1
      cases ra with
      | ref ha =>
        have h1 := st.at_ _ _ _ e1 ha
        cases h1 with
        | dic q rk =>
          have hl : ∀ {ds : List (Key × D)} {vs : List (Key × V)}, RKs (wd X G XC) H α ds vs → ds.length = vs.length := fun r => by
            induction r with
            | nil => rfl
            | cons _ _ ih => rw [List.length_cons, List.length_cons, ih]
          exact call_lenD pins s σ H _ us Q I r ⟨_, _, rfl, q, by rw [← hl rk]; exact same st h (.int _)⟩
    · exact h.elim
  · exact h.elim
theorem cAbs : CallR X (.builtin "abs") (vRL (wd X G XC) E (on1 dAbs)) := by
  refine callR1 fun pins s σ H xs us Q I r ⟨x, e, a, S, α, st, ra, h⟩ => ?_
  subst e
  unfold dAbs at h
  split at h
  · cases ra
    exact call_abs pins s σ H _ us Q I r ⟨_, rfl, same st h (.int _)⟩
  · exact h.elim
theorem cInt : CallR X (.type "int") (vRL (wd X G XC) E (on1 dInt)) := by
  refine callR1 fun pins s σ H xs us Q I r ⟨x, e, a, S, α, st, ra, h⟩ => ?_
  subst e
  unfold dInt at h
  split at h
  · cases ra
    exact call_int1 pins s σ H _ us Q I r (.inl ⟨_, rfl, same st h (.int _)⟩)
  · cases ra
    exact call_int1 pins s σ H _ us Q I r (.inr ⟨_, rfl, same st h (.int _)⟩)
  · split at h
    · rename_i e1
      split at h
      · rename_i hz
        cases ra
        exact call_int_str pins s σ H _ us Q I r ⟨_, _, rfl, e1, hz, same st h (.int _)⟩
      · exact h.elim
    · exact h.elim
  · exact h.elim
theorem cStr : CallR X (.type "str") (vRL (wd X G XC) E (on1 dStr)) := by
  refine callR1 fun pins s σ H xs us Q I r ⟨x, e, a, S, α, st, ra, h⟩ => ?_
  subst e
  unfold dStr at h
  split at h
  · cases ra
    split at h
    · rename_i hz
      exact call_str_int pins s σ H _ us Q I r ⟨_, rfl, hz, same st h (.str _)⟩
    · exact h.elim
  · exact h.elim
theorem cMax2 (hc : X.calm = true) : CallR X (.builtin "max") (vRL (wd X G XC) E (on2 dMax2)) := by
  refine callR2 fun pins s σ H xs us Q I r ⟨x, y, e, a, b, S, α, st, ra, rb, h⟩ => ?_
  subst e
  unfold dMax2 at h
  split at h
  · cases ra; cases rb
    exact call_max2 hc pins s σ H _ us Q I r ⟨_, _, rfl, same st h (.int _)⟩
  · exact h.elim
theorem cMin2 (hc : X.calm = true) : CallR X (.builtin "min") (vRL (wd X G XC) E (on2 dMin2)) := by
  refine callR2 fun pins s σ H xs us Q I r ⟨x, y, e, a, b, S, α, st, ra, rb, h⟩ => ?_
  subst e
  unfold dMin2 at h
  split at h
  · cases ra; cases rb
    exact call_min2 hc pins s σ H _ us Q I r ⟨_, _, rfl, same st h (.int _)⟩
  · exact h.elim
/-- the items stand -/
theorem items_rd {W : Wd} {d : D} {x : V} {xs : List D} (st : StOk W H α S) (r : RD W H α d x) (h : itemsOf d S = some xs) : ∃ a vs, x = .ref a ∧ RDs W H α xs vs ∧ ((SqL W.K H a vs ∧ ∀ ys, d ≠ .tup ys) ∨ (SqT W.K H a vs ∧ d = .tup xs)) := by
  unfold itemsOf at h
  split at h
  · cases h
    cases r with
    | tup ha ra => exact ⟨_, _, rfl, ra, .inr ⟨ha, rfl⟩⟩
  · split at h
    · rename_i e1
      cases h
      cases r with
      | ref ha =>
        obtain ⟨vs, hq, rq⟩ := RC.sql (.inl (st.at_ _ _ _ e1 ha))
        exact ⟨_, vs, rfl, rq, .inl ⟨hq, fun _ z => by cases z⟩⟩
    · rename_i e1
      cases h
      cases r with
      | ref ha =>
        obtain ⟨vs, hq, rq⟩ := RC.sql (.inr (st.at_ _ _ _ e1 ha))
        exact ⟨_, vs, rfl, rq, .inl ⟨hq, fun _ z => by cases z⟩⟩
    · cases h
  · cases h
theorem list_rd {W : Wd} {d : D} {x : V} {xs : List D} (st : StOk W H α S) (r : RD W H α d x) (h : listOf? d S = some xs) : ∃ a vs, x = .ref a ∧ RDs W H α xs vs ∧ SqL W.K H a vs := by
  unfold listOf? at h
  split at h
  · split at h
    · rename_i e1
      cases h
      cases r with
      | ref ha =>
        obtain ⟨vs, hq, rq⟩ := RC.sql (.inl (st.at_ _ _ _ e1 ha))
        exact ⟨_, vs, rfl, rq, hq⟩
    · rename_i e1
      cases h
      cases r with
      | ref ha =>
        obtain ⟨vs, hq, rq⟩ := RC.sql (.inr (st.at_ _ _ _ e1 ha))
        exact ⟨_, vs, rfl, rq, hq⟩
    · cases h
  · cases h
theorem cTuple : CallR X (.type "tuple") (vRL (wd X G XC) E (on1 dTuple)) := by
  refine callR1 fun pins s σ H xs us Q I r ⟨x, e, a, S, α, st, ra, h⟩ => ?_
  subst e
  unfold dTuple at h
  split at h
  · rename_i ys e1
    obtain ⟨p, vs, rfl, rs, hh⟩ := items_rd st ra e1
    refine call_tuple_of pins s σ H _ us Q I r ⟨_, vs, rfl, ?_⟩
    rcases hh with ⟨hq, _⟩ | ⟨hq, _⟩
    · exact .inl ⟨hq, fun p hp => new_tup st rs h hp⟩
    · exact .inr ⟨hq, same st h (.tup hq rs)⟩
  · exact h.elim
theorem cList : CallR X (.type "list") (vRL (wd X G XC) E (on1 dList)) := by
  refine callR1 fun pins s σ H xs us Q I r ⟨x, e, a, S, α, st, ra, h⟩ => ?_
  subst e
  unfold dList at h
  split at h
  · rename_i ys e1
    obtain ⟨p, vs, rfl, rs, hh⟩ := items_rd st ra e1
    refine call_list_of pins s σ H _ us Q I r ⟨_, vs, rfl, ?_, fun p hp => new_lst st rs h hp⟩
    rcases hh with ⟨hq, _⟩ | ⟨hq, _⟩
    · exact .inl hq
    · exact .inr hq
  · exact h.elim
theorem bls_map {W : Wd} : ∀ {ds : List D} {ns : List Bool} {xs : List V}, bls ds = some ns → RDs W H α ds xs → xs = ns.map V.bl
  | [], ns, xs, h, r => by
    cases h
    cases r
    rfl
  | .bl i :: ds, ns, xs, h, r => by
    rw [bls, Option.map_eq_some_iff] at h
    obtain ⟨ms, h1, rfl⟩ := h
    cases r with
    | cons a b =>
      cases a
      rw [bls_map h1 b]
      rfl
  | .non :: _, _, _, h, _ => by cases h
  | .int _ :: _, _, _, h, _ => by cases h
  | .str _ :: _, _, _, h, _ => by cases h
  | .tup _ :: _, _, _, h, _ => by cases h
  | .ref _ :: _, _, _, h, _ => by cases h
  | .fn _ :: _, _, _, h, _ => by cases h
theorem cAll (hc : X.calm = true) : CallR X (.builtin "all") (vRL (wd X G XC) E (on1 dAll)) := by
  refine callR1 fun pins s σ H xs us Q I r ⟨x, e, a, S, α, st, ra, h⟩ => ?_
  subst e
  unfold dAll at h
  split at h
  · rename_i bs e1
    rw [Option.bind_eq_some_iff] at e1
    obtain ⟨ys, e1, e2⟩ := e1
    obtain ⟨p, vs, rfl, rs, hq⟩ := list_rd st ra e1
    rw [bls_map e2 rs] at hq
    exact cr_all hc pins s σ H _ us Q I r ⟨_, _, rfl, hq, same st h (.bl _)⟩
  · exact h.elim
theorem cAny (hc : X.calm = true) : CallR X (.builtin "any") (vRL (wd X G XC) E (on1 dAny)) := by
  refine callR1 fun pins s σ H xs us Q I r ⟨x, e, a, S, α, st, ra, h⟩ => ?_
  subst e
  unfold dAny at h
  split at h
  · rename_i bs e1
    rw [Option.bind_eq_some_iff] at e1
    obtain ⟨ys, e1, e2⟩ := e1
    obtain ⟨p, vs, rfl, rs, hq⟩ := list_rd st ra e1
    rw [bls_map e2 rs] at hq
    exact cr_any hc pins s σ H _ us Q I r ⟨_, _, rfl, hq, same st h (.bl _)⟩
  · exact h.elim
theorem cSum (hc : X.calm = true) : CallR X (.builtin "sum") (vRL (wd X G XC) E (on1 dSum)) := by
  refine callR1 fun pins s σ H xs us Q I r ⟨x, e, a, S, α, st, ra, h⟩ => ?_
  subst e
  unfold dSum at h
  split at h
  · rename_i bs e1
    rw [Option.bind_eq_some_iff] at e1
    obtain ⟨ys, e1, e2⟩ := e1
    obtain ⟨p, vs, rfl, rs, hq⟩ := list_rd st ra e1
    rw [ints_map e2 rs] at hq
    exact cr_sum hc pins s σ H _ us Q I r ⟨_, _, rfl, hq, same st h (.int _)⟩
  · exact h.elim
theorem kitTy (K : PySem.W.Frag) (u t : Ty) : PySem.W.kitOne K (.type u.name) (.type t.name) = some (u.sub t) := by
  cases u <;> cases t <;> exact kit_ty (by decide +kernel)
theorem kitNone (K : PySem.W.Frag) (t : Ty) : PySem.W.kitOne K (.type "NoneType") (.type t.name) = some false := by
  cases t <;> exact kit_ty (by decide +kernel)
theorem tyX_tup {K : PySem.W.Frag} {a : Addr} {xs : List V} (h : SqT K H a xs) : TyX K H (.ref a) (.type "tuple") := by
  rcases h with (h | ⟨o, h⟩) | ⟨o, its, n, h, c, _⟩
  · exact .base (.tup h)
  · exact .fTuple h
  · exact .kTuple h c
theorem tyX_lst {K : PySem.W.Frag} {a : Addr} {xs : List V} (h : SqL K H a xs) : TyX K H (.ref a) (.type "list") := by
  rcases h with (h | ⟨o, h⟩) | ⟨o, its, n, h, c, _⟩
  · exact .base (.lst h)
  · exact .base (.frz h)
  · exact .kList h c
/-- isinstance(x, T): the second argument is the type -/
theorem cIsi (t : Ty) : CallR X (.builtin "isinstance") (fun xs H Q => ∃ x, xs = [x, .ty t.name] ∧ vR1 (wd X G XC) E (dIsi t) x H Q) := by
  intro pins s σ H xs us Q I r ⟨x, e, a, S, α, st, ra, h⟩
  subst e
  unfold dIsi at h
  have fin : ∀ {u : Ty}, okM (wd X G XC) E H α (.ok (.bl (u.sub t)) S) (fun d _ H' α' => ∀ v, RD (wd X G XC) H' α' d v → Q v H') → TyX X.K H x (.type u.name) → wpAny (model X.prog X.w) X.A (call (.builtin "isinstance") us) (EP X pins σ Q) X.xe s := fun {u} h ty =>
    call_isi pins s σ H _ us Q I r ⟨x, _, _, _, _, rfl, .ty _, ty, kitTy X.K u t, same st h (.bl _)⟩
  split at h
  · rename_i u e1
    unfold tyOf at e1
    split at e1
    · cases e1
    · cases e1; cases ra; exact fin h (.base (.bl _))
    · cases e1; cases ra; exact fin h (.base (.int _))
    · cases e1; cases ra; exact fin h (.base (.str _))
    · cases e1
      cases ra with
      | tup ha _ => exact fin h (tyX_tup ha)
    · split at e1
      · rename_i e2
        cases e1
        cases ra with
        | ref ha =>
          obtain ⟨vs, hq, _⟩ := RC.sql (.inl (st.at_ _ _ _ e2 ha))
          exact fin h (tyX_lst hq)
      · rename_i e2
        cases e1
        cases ra with
        | ref ha =>
          obtain ⟨vs, hq, _⟩ := RC.sql (.inr (st.at_ _ _ _ e2 ha))
          exact fin h (tyX_lst hq)
      · rename_i e2
        cases e1
        cases ra with
        | ref ha =>
          have h1 := st.at_ _ _ _ e2 ha
          cases h1 with
          | dic q _ => exact fin h (.base (.dK q))
      · cases e1
    · cases e1
  · rename_i e1
    unfold tyOf at e1
    split at e1
    · cases ra
      exact call_isi pins s σ H _ us Q I r ⟨_, _, _, _, _, rfl, .ty _, .base .non, kitNone X.K t, same st h (.bl _)⟩
    · cases e1
    · cases e1
    · cases e1
    · cases e1
    · split at e1 <;> cases e1
    · cases e1
  · exact h.elim
/-! ### methods -/
def dAppend (o : D) (d : D) : M D := fun S => match o with
  | .ref n => match S[n]? with
    | some (.lst xs) => if xs.length < LINE then .ok .non (S.set n (.lst (xs ++ [d]))) else .bad
    | _ => .bad
  | _ => .bad
def dExtend (o : D) (d : D) : M D := fun S => match o, d with
  | .ref n, .ref m => match S[n]?, S[m]? with
    | some (.lst xs), some (.lst ys) => if xs.length + ys.length ≤ LINE then .ok .non (S.set n (.lst (xs ++ ys))) else .bad
    | _, _ => .bad
  | _, _ => .bad
def dPop (o : D) : M D := fun S => match o with
  | .ref n => match S[n]? with
    | some (.lst xs) => match xs[xs.length - 1]? with
      | some d => .ok d (S.set n (.lst xs.dropLast))
      | none => .bad
    | _ => .bad
  | _ => .bad
def dPopAt (o : D) (i : D) : M D := fun S => match o, i with
  | .ref n, .int i => match S[n]? with
    | some (.lst xs) => if -(2 ^ 63) ≤ i ∧ i < 2 ^ 63 then (match seqIndex? i xs.length with
      | some k => match xs[k]? with
        | some d => .ok d (S.set n (.lst (xs.eraseIdx k)))
        | none => .bad
      | none => .bad) else .bad
    | _ => .bad
  | _, _ => .bad
/-- a method's reading -/
def vRM (W : Wd) (E : XK) (f : D → List D → M D) : V → List V → Hp → VK → Prop := fun x xs H Q => ∃ a ds S α, StOk W H α S ∧ RD W H α a x ∧ RDs W H α ds xs ∧ okM W E H α (f a ds S) fun d _ H' α' => ∀ v, RD W H' α' d v → Q v H'
def m0 (f : D → M D) : D → List D → M D
  | a, [] => f a
  | _, _ => M.fail
def m1 (f : D → D → M D) : D → List D → M D
  | a, [b] => f a b
  | _, _ => M.fail
theorem mAppend : MtR X "list.append" (vRM (wd X G XC) E (m1 dAppend)) := by
  intro pins s σ H x xs v us Q I rx rs ⟨a, ds, S, α, st, ra, rd, h⟩
  match ds, rd, h with
  | [b], .cons rb .nil, h =>
    have h : okM (wd X G XC) E H α (dAppend a b S) _ := h
    unfold dAppend at h
    split at h
    · split at h
      · rename_i e1
        split at h
        · rename_i hz
          cases ra with
          | ref ha =>
            have h1 := st.at_ _ _ _ e1 ha
            cases h1 with
            | lst q r =>
              refine mt_append pins s σ H _ _ v us Q I rx rs ⟨_, _, _, rfl, rfl, q, by rw [line_eq, ← r.length]; exact hz, ?_⟩
              exact h _ _ (Step.write (List.mem_iff_getElem?.mpr ⟨_, ha⟩) q) (st.write ha e1 q (r.append (.cons rb .nil))) _ .non
        · exact h.elim
      · exact h.elim
    · exact h.elim
  | [], .nil, h => exact h.elim
  | _ :: _ :: _, .cons _ (.cons _ _), h => exact h.elim
theorem mExtend : MtR X "list.extend" (vRM (wd X G XC) E (m1 dExtend)) := by
  intro pins s σ H x xs v us Q I rx rs ⟨a, ds, S, α, st, ra, rd, h⟩
  match ds, rd, h with
  | [b], .cons rb .nil, h =>
    have h : okM (wd X G XC) E H α (dExtend a b S) _ := h
    unfold dExtend at h
    split at h
    · split at h
      · rename_i e1 e2
        split at h
        · rename_i hz
          cases ra with
          | ref ha =>
            cases rb with
            | ref hb =>
              have h1 := st.at_ _ _ _ e1 ha
              have h2 := st.at_ _ _ _ e2 hb
              cases h1 with
              | lst q r =>
                cases h2 with
                | lst q2 r2 =>
                  refine mt_extend pins s σ H _ _ v us Q I rx rs ⟨_, _, _, _, rfl, rfl, q, q2, by rw [line_eq, ← r.length, ← r2.length]; exact hz, ?_⟩
                  exact h _ _ (Step.write (List.mem_iff_getElem?.mpr ⟨_, ha⟩) q) (st.write ha e1 q (r.append r2)) _ .non
        · exact h.elim
      · exact h.elim
    · exact h.elim
  | [], .nil, h => exact h.elim
  | _ :: _ :: _, .cons _ (.cons _ _), h => exact h.elim
theorem mPop : MtR X "list.pop" (vRM (wd X G XC) E (m0 dPop)) := by
  intro pins s σ H x xs v us Q I rx rs ⟨a, ds, S, α, st, ra, rd, h⟩
  match ds, rd, h with
  | [], .nil, h =>
    have h : okM (wd X G XC) E H α (dPop a S) _ := h
    unfold dPop at h
    split at h
    · split at h
      · rename_i e1
        split at h
        · rename_i e2
          cases ra with
          | ref ha =>
            have h1 := st.at_ _ _ _ e1 ha
            cases h1 with
            | lst q r =>
              obtain ⟨w', e3, r3⟩ := r.get e2
              refine mt_pop pins s σ H _ _ v us Q I rx rs ⟨_, _, w', rfl, rfl, q, by rw [← r.length]; exact e3, ?_⟩
              exact h _ _ (Step.write (List.mem_iff_getElem?.mpr ⟨_, ha⟩) q) (st.write ha e1 q r.dropLast) _ (r3.mono (Step.write (List.mem_iff_getElem?.mpr ⟨_, ha⟩) q))
        · exact h.elim
      · exact h.elim
    · exact h.elim
  | _ :: _, .cons _ _, h => exact h.elim
theorem mPopAt : MtR X "list.pop" (vRM (wd X G XC) E (m1 dPopAt)) := by
  intro pins s σ H x xs v us Q I rx rs ⟨a, ds, S, α, st, ra, rd, h⟩
  match ds, rd, h with
  | [b], .cons rb .nil, h =>
    have h : okM (wd X G XC) E H α (dPopAt a b S) _ := h
    unfold dPopAt at h
    split at h
    · split at h
      · rename_i e1
        split at h
        · rename_i hz
          split at h
          · rename_i e2
            split at h
            · rename_i e3
              cases ra with
              | ref ha =>
                cases rb
                have h1 := st.at_ _ _ _ e1 ha
                cases h1 with
                | lst q r =>
                  obtain ⟨w', e4, r4⟩ := r.get e3
                  refine mt_popAt pins s σ H _ _ v us Q I rx rs ⟨_, _, _, _, w', rfl, rfl, q, hz.1, hz.2, by rw [← r.length]; exact e2, e4, ?_⟩
                  exact h _ _ (Step.write (List.mem_iff_getElem?.mpr ⟨_, ha⟩) q) (st.write ha e1 q (r.eraseIdx _)) _ (r4.mono (Step.write (List.mem_iff_getElem?.mpr ⟨_, ha⟩) q))
            · exact h.elim
          · exact h.elim
        · exact h.elim
      · exact h.elim
    · exact h.elim
  | [], .nil, h => exact h.elim
  | _ :: _ :: _, .cons _ (.cons _ _), h => exact h.elim
end
/-! ### repr, in -/
def dRepr (d : D) : M D := fun S => match d with
  | .int i => if i.natAbs.log2 < 1920 then .ok (.str (toString i)) S else .bad
  | .bl b => .ok (.str (if b then "True" else "False")) S
  | .non => .ok (.str "None") S
  | .str x => if (reprText x).length ≤ LINE then .ok (.str (reprText x)) S else .bad
  | d => match py FU S d with
    | some x => if (x.hasDict = false ∧ x.showable = true) ∧ x.shown.length ≤ LINE ∧ x.depth ≤ 64 then .ok (.str x.shown) S else .bad
    | none => .bad
def strsD : List D → Option (List Str)
  | [] => some []
  | .str x :: r => (strsD r).map (x :: ·)
  | _ :: _ => none
theorem strsD_vs {W : Wd} {H : Hp} {α : List Addr} : ∀ {ds : List D} {vs : List V} {ys : List Str}, strsD ds = some ys → RDs W H α ds vs → vs = ys.map V.str
  | [], vs, ys, h, r => by cases h; cases r; rfl
  | d :: ds, vs, ys, h, r => by
    cases r with
    | cons a b =>
      cases d with
      | str x =>
        unfold strsD at h
        rw [Option.map_eq_some_iff] at h
        obtain ⟨zs, h1, rfl⟩ := h
        cases a
        rw [strsD_vs h1 b]
        rfl
      | _ => cases h
theorem intsD_vs {W : Wd} {H : Hp} {α : List Addr} : ∀ {ds : List D} {vs : List V} {ys : List Int}, allInts ds = some ys → RDs W H α ds vs → vs = ys.map V.int
  | [], vs, ys, h, r => by cases h; cases r; rfl
  | d :: ds, vs, ys, h, r => by
    cases r with
    | cons a b =>
      cases d with
      | int x =>
        unfold allInts at h
        rw [Option.map_eq_some_iff] at h
        obtain ⟨zs, h1, rfl⟩ := h
        cases a
        rw [intsD_vs h1 b]
        rfl
      | _ => cases h
def dIn (a b : D) : M D := fun S => match a, b with
  | .str x, .str y => .ok (.bl (!(Builtin.Str.occurrences y x 0 y.length 1).isEmpty)) S
  | .int i, .tup ys => match allInts ys with
    | some ns => .ok (.bl (ns.any fun j => decide (j = i))) S
    | none => .bad
  | .str x, .tup ys => match strsD ys with
    | some zs => .ok (.bl (zs.any fun z => decide (z = x))) S
    | none => .bad
  | a, .ref n => match py FU S a, py FU S (.ref n) with
    | some x, some (.list ys) => if shp x = true ∧ shp (.list ys) = true then .ok (.bl (ys.any fun z => PyData.eqv z x)) S else .bad
    | _, _ => .bad
  | _, _ => .bad
def dNotIn (a b : D) : M D := do let c ← dIn a b; dNot c
section
variable {X : Cx} {G XC : Nat → Option Addr} {E : XK} {H : Hp} {α : List Addr} {S : Store} {Q : VK}
theorem cRepr (hg : X.A.guards = some []) (hu : X.A.units + 64 < cLine) (hu2 : X.A.units + 66 < cLine) : CallR X (.builtin "repr") (vRL (wd X G XC) E (on1 dRepr)) := by
  refine callR1 fun pins s σ H xs us Q I r ⟨x, e, a, S, α, st, ra, h⟩ => ?_
  subst e
  obtain ⟨u, rfl, ru⟩ := vals1 r
  have deep : ∀ {b : Addr}, x = .ref b → okM (wd X G XC) E H α (match py FU S a with
    | some x => if (x.hasDict = false ∧ x.showable = true) ∧ x.shown.length ≤ LINE ∧ x.depth ≤ 64 then .ok (.str x.shown) S else .bad
    | none => .bad) (fun d _ H' α' => ∀ v, RD (wd X G XC) H' α' d v → Q v H') → wpAny (model X.prog X.w) X.A (call (.builtin "repr") [u]) (EP X pins σ Q) X.xe s := fun {b} hb h => by
    subst hb
    have ru : u = .ref b := ru
    subst ru
    split at h
    · rename_i z e1
      split at h
      · rename_i hz
        obtain ⟨⟨z1, z2⟩, z3, z4⟩ := hz
        obtain ⟨as, rd⟩ := Dp.reads I z _ _ ((dp_of st FU).1 _ _ _ e1 z1 ra) rfl
        exact repr_of_reads' rd z2 (PyData.noDict_hsm z1) hg (by omega) (fun _ _ e => e) (fun h' u tk hk => ⟨.str _, H, I.kept hk, ⟨_, rfl⟩, same st h (.str _)⟩) (by rw [line_eq]; exact z3)
      · exact h.elim
    · exact h.elim
  unfold dRepr at h
  split at h
  · cases ra
    split at h
    · rename_i hz
      obtain ⟨t, rfl⟩ := ru
      exact PySem.P.repr_of_int hz ⟨.str _, H, I.tok _, ⟨_, rfl⟩, same st h (.str _)⟩
    · exact h.elim
  · cases ra
    have ru : u = .bool _ := ru
    subst ru
    exact PySem.P.repr_of_bool ⟨.str _, H, I.tok _, ⟨_, rfl⟩, same st h (.str _)⟩
  · cases ra
    have ru : u = .none := ru
    subst ru
    exact PySem.P.repr_of_none ⟨.str _, H, I.tok _, ⟨_, rfl⟩, same st h (.str _)⟩
  · cases ra
    split at h
    · rename_i hz
      obtain ⟨t, rfl⟩ := ru
      exact PySem.P.repr_of_str ⟨.str _, H, I.tok _, ⟨_, rfl⟩, same st h (.str _)⟩ (by rw [line_eq]; exact hz)
    · exact h.elim
  · rename_i n1 n2 n3 n4
    cases ra with
    | non => exact (n3 rfl).elim
    | bl b => exact (n2 b rfl).elim
    | int i => exact (n1 i rfl).elim
    | str y => exact (n4 y rfl).elim
    | tup q rs => exact deep rfl h
    | ref q => exact deep rfl h
    | fn q => exact deep rfl h
theorem opIn (hu : X.A.units + 64 < cLine) (hu2 : X.A.units + 65 < cLine) : OpR X (compareOp .In) (vR2 (wd X G XC) E dIn) := by
  intro pins s σ H x y v u Q I rx ry ⟨a, b, S, α, st, ra, rb, h⟩
  unfold dIn at h
  split at h
  · cases ra; cases rb
    exact op_in_str pins s σ H _ _ v u Q I rx ry ⟨_, _, rfl, rfl, same st h (.bl _)⟩
  · split at h
    · rename_i ns e1
      cases ra
      cases rb with
      | tup hx r =>
        have ev := intsD_vs e1 r
        subst ev
        refine op_in_seq pins s σ H _ _ v u Q I rx ry ⟨_, _, rfl, .inr hx, rfl, ?_, ?_⟩
        · rw [List.all_map]
          exact List.all_eq_true.mpr fun _ _ => rfl
        · have e2 : ∀ x, inV (.int x) (ns.map V.int) = ns.any fun j => decide (j = x) := fun x => by
            unfold inV
            rw [List.any_map]
            rfl
          rw [e2]
          exact same st h (.bl _)
    · exact h.elim
  · split at h
    · rename_i ns e1
      cases ra
      cases rb with
      | tup hx r =>
        have ev := strsD_vs e1 r
        subst ev
        refine op_in_seq pins s σ H _ _ v u Q I rx ry ⟨_, _, rfl, .inr hx, rfl, ?_, ?_⟩
        · rw [List.all_map]
          exact List.all_eq_true.mpr fun _ _ => rfl
        · have e2 : ∀ x, inV (.str x) (ns.map V.str) = ns.any fun j => decide (j = x) := fun x => by
            unfold inV
            rw [List.any_map]
            rfl
          rw [e2]
          exact same st h (.bl _)
    · exact h.elim
  · split at h
    · rename_i x' ys e1 e2
      split at h
      · rename_i hs
        have d1 := (dp_of st FU).1 _ _ _ e1 (shp_nodict hs.1) ra
        have d2 := (dp_of st FU).1 _ _ _ e2 (shp_nodict hs.2) rb
        exact op_inD hu2 pins s σ H _ _ v u Q I rx ry ⟨_, _, d1, d2, hs.1, hs.2, same st h (.bl _)⟩
      · exact h.elim
    · exact h.elim
  · exact h.elim
theorem opNotIn (hu : X.A.units + 64 < cLine) (hu2 : X.A.units + 65 < cLine) : OpR X (compareOp .NotIn) (vR2 (wd X G XC) E dNotIn) := by
  intro pins s σ H x y v u Q I rx ry ⟨a, b, S, α, st, ra, rb, h⟩
  have h := okM.bind h
  have fin : ∀ {c : Bool}, okM (wd X G XC) E H α (.ok (.bl c) S) (fun b S1 H1 α1 => okM (wd X G XC) E H1 α1 (dNot b S1) fun d _ H' α' => ∀ v, RD (wd X G XC) H' α' d v → Q v H') → Q (.bl !c) H := fun {c} h => by
    have h2 := okM.ret st h
    exact same st h2 (.bl _)
  unfold dIn at h
  split at h
  · cases ra; cases rb
    exact op_notin_str pins s σ H _ _ v u Q I rx ry ⟨_, _, rfl, rfl, fin h⟩
  · split at h
    · rename_i ns e1
      cases ra
      cases rb with
      | tup hx r =>
        have ev := intsD_vs e1 r
        subst ev
        refine op_notIn_seq pins s σ H _ _ v u Q I rx ry ⟨_, _, rfl, .inr hx, rfl, ?_, ?_⟩
        · rw [List.all_map]
          exact List.all_eq_true.mpr fun _ _ => rfl
        · have e2 : ∀ x, inV (.int x) (ns.map V.int) = ns.any fun j => decide (j = x) := fun x => by
            unfold inV
            rw [List.any_map]
            rfl
          show Q (.bl (!inV _ _)) H
          rw [e2]
          exact fin h
    · exact h.elim
  · split at h
    · rename_i ns e1
      cases ra
      cases rb with
      | tup hx r =>
        have ev := strsD_vs e1 r
        subst ev
        refine op_notIn_seq pins s σ H _ _ v u Q I rx ry ⟨_, _, rfl, .inr hx, rfl, ?_, ?_⟩
        · rw [List.all_map]
          exact List.all_eq_true.mpr fun _ _ => rfl
        · have e2 : ∀ x, inV (.str x) (ns.map V.str) = ns.any fun j => decide (j = x) := fun x => by
            unfold inV
            rw [List.any_map]
            rfl
          show Q (.bl (!inV _ _)) H
          rw [e2]
          exact fin h
    · exact h.elim
  · split at h
    · rename_i x' ys e1 e2
      split at h
      · rename_i hs
        have d1 := (dp_of st FU).1 _ _ _ e1 (shp_nodict hs.1) ra
        have d2 := (dp_of st FU).1 _ _ _ e2 (shp_nodict hs.2) rb
        exact op_notInD hu2 pins s σ H _ _ v u Q I rx ry ⟨_, _, d1, d2, hs.1, hs.2, fin h⟩
      · exact h.elim
    · exact h.elim
  · exact h.elim
end
end Ev
namespace Ev
open PySem PySem.Spec PyProof.Rows L2
/-! ### x[::-1] -/
section
variable {prog : Program} {w : World} {A : Around} {E : Value → Shared → Prop} {s : Shared}
theorem sliceApplied_rev {sl : Addr} {vs : Value} {n : Nat} {Q : Int × Int × Nat → Shared → Prop} (hs : s.heap.IsSliceOf sl .none .none vs) (ps : IsPart vs (some (-1)))
    (h : Q ((n : Int) - 1, -1, n) s) : wpAny (model prog w) A (Builtin.Slice.sliceApplied (.ref sl) (pure (n : Int))) Q E s := by
  obtain ⟨os, hos, hcs, hds⟩ := id hs
  unfold Builtin.Slice.sliceApplied Builtin.Slice.sliceFields
  refine wpAny_bind (wpAny_bind (wpAny_field hos hds (x := .none) rfl (wpAny_bind (wpAny_field hos hds (x := .none) rfl (wpAny_bind (wpAny_field hos hds (x := vs) rfl (wpAny_pure ?_)))))))
  refine wpAny_bind (HT.slicePart_ ps ?_)
  show wpAny _ _ (if ((-1 : Int) == 0) = true then _ else _) _ _ s
  rw [if_neg (by decide)]
  refine wpAny_bind (slicePart_none (wpAny_bind (slicePart_none (wpAny_bind (wpAny_pure ?_)))))
  have e : Builtin.Slice.sliceAdjust none none (-1) (n : Int) = ((n : Int) - 1, -1) := rfl
  show wpAny _ _ (match Builtin.Slice.sliceAdjust none none (-1) (n : Int) with | (lo, hi) => pure (lo, (-1 : Int), Builtin.Slice.slicePlaces lo hi (-1))) _ _ s
  rw [e]
  have e2 : Builtin.Slice.slicePlaces ((n : Int) - 1) (-1) (-1) = n := by
    unfold Builtin.Slice.slicePlaces
    rw [if_neg (by decide)]
    by_cases h0 : (n : Int) - 1 > -1
    · rw [if_pos h0]
      have : ((n : Int) - 1 - -1 - 1) / (- -1) = (n : Int) - 1 := by
        rw [show (- -1 : Int) = 1 by decide, Int.ediv_one]
        omega
      rw [this]
      omega
    · rw [if_neg h0]
      omega
  show wpAny _ _ (pure ((n : Int) - 1, (-1 : Int), Builtin.Slice.slicePlaces ((n : Int) - 1) (-1) (-1))) _ _ s
  rw [e2]
  exact wpAny_pure h
theorem pick_rev (xs : Array Value) : ((List.range xs.size).filterMap fun (m : Nat) => xs[(((xs.size : Int) - 1) + (m : Int) * -1).toNat]?).toArray = xs.toList.reverse.toArray := by
  congr 1
  have e : (fun (m : Nat) => xs[(((xs.size : Int) - 1) + (m : Int) * -1).toNat]?) = (fun (k : Nat) => xs[k]?) ∘ fun (m : Nat) => (((xs.size : Int) - 1) + (m : Int) * -1).toNat := rfl
  rw [e, ← List.filterMap_map]
  have e2 : (List.range xs.size).map (fun (m : Nat) => (((xs.size : Int) - 1) + (m : Int) * -1).toNat) = (List.range xs.size).reverse := by
    rw [← PySem.W.krv_range]
    apply List.map_congr_left
    intro k hk
    have := List.mem_range.mp hk
    omega
  rw [e2, List.filterMap_reverse]
  congr 1
  exact PySem.W.krv_all xs
theorem getItem_tuple_rev {t sl : Addr} {items : Array Value} {vs : Value} {Q : Value → Shared → Prop} (ht : IsTup s.heap t items) (hs : s.heap.IsSliceOf sl .none .none vs) (ps : IsPart vs (some (-1)))
    (h : Q (.ref s.heap.objs.size) { s with heap := s.heap.push { cls := .type "tuple", data := .seq items.toList.reverse.toArray } })
    (hsz : items.size ≤ sizeLine) : wpAny (model prog w) A (getItem (.ref t) (.ref sl)) Q E s := by
  have htake : sizeOk (.seq items.toList.reverse.toArray) := by
    show items.toList.reverse.toArray.size ≤ sizeLine
    rw [List.size_toArray, List.length_reverse, Array.length_toList]
    exact hsz
  obtain ⟨os, hos, hcs, hds⟩ := id hs
  have hTs : s.TypeIs (.ref sl) "slice" := ⟨os, hos, hcs⟩
  unfold getItem
  try with_reducible refine wpAny_holding ?_
  first | refine wpAny_bind (wpAny_pure ?_) | skip
  refine wpAny_bind (wpAny_sequenceKey ht.typeIs (by decide) ?_)
  refine wpAny_bind (wpAny_callSpecial?_slot (name := Str.ofString "__getitem__") ht.typeIs PyProof.Rows.slot_tuple_getitem
    (wpAny_call_entry PyProof.Rows.slot_tuple_getitem ht.typeIs entry_tuple_getitem ?_ (args_tuple_getitem _ _)))
  show wpAny _ _ (Builtin.Tuple.tupleItemsOf (.ref t) >>= _) _ _ s
  refine wpAny_bind (tupleItemsOf_ ht ?_)
  refine wpAny_bind (wpAny_typeOf hTs ?_)
  rw [if_pos (by decide)]
  refine wpAny_bind (sliceApplied_rev hs ps ?_)
  have hno : ¬ ((((items.size : Int) - 1) == 0 && (-1 : Int) == 1 && items.size == items.size) = true) := by
    intro q
    rw [Bool.and_eq_true, Bool.and_eq_true] at q
    exact absurd q.1.2 (by decide)
  show wpAny _ _ (if (((items.size : Int) - 1) == 0 && (-1 : Int) == 1 && items.size == items.size) = true then _ else _) _ _ s
  rw [if_neg hno, pick_rev]
  first
    | exact wpAny_bind (m := Builtin.Tuple.tupleExact _) (wpAny_newObj_type (wpAny_pure ⟨_, rfl, wpAny_pure h⟩) htake)
    | exact wpAny_bind (m := Builtin.Tuple.tupleExact _) (wpAny_newObj_type (wpAny_bind (wpAny_pure (wpAny_pure ⟨_, rfl, wpAny_pure h⟩))) htake)
    | exact wpAny_bind (wpAny_bind (m := Builtin.Tuple.tupleExact _) (wpAny_newObj_type (wpAny_pure (wpAny_pure ⟨_, rfl, wpAny_pure h⟩)) htake))
    | exact wpAny_bind (wpAny_bind (m := Builtin.Tuple.tupleExact _) (wpAny_newObj_type (wpAny_pure ⟨_, rfl, wpAny_pure h⟩) htake))
end
def dRev (a : D) : M D := fun S => match a with
  | .tup xs => .ok (.tup xs.reverse) S
  | .ref n => match S[n]? with
    | some (.lst xs) => alloc (.lst xs.reverse) S
    | some (.fro xs) => alloc (.lst xs.reverse) S
    | _ => .bad
  | _ => .bad
section
variable {X : Cx} {G XC : Nat → Option Addr} {E : XK} {H : Hp} {α : List Addr} {S : Store} {Q : VK}
theorem eRev {a : Expr} {ma : Fr → M D} {k : Nat} {p1 p2 p3 pos : Pos} (he : PE X a (tE (wd X G XC) E ma)) :
    PE X (.Subscript a (.Slice none none (some (.UnaryOp .USub (.Constant (.int 1) k p1) p2)) p3) pos) (tE (wd X G XC) E fun env => do
      let x ← ma env
      dRev x) := by
  refine ⟨fun pins s σ H Q I ⟨env, S, α, st, re, h⟩ => ?_⟩
  have h1 := okM.bind h
  refine Subscript_ (thn (he.run pins s σ H (fun x H1 => ∃ d S1 α1, StOk (wd X G XC) H1 α1 S1 ∧ RD (wd X G XC) H1 α1 d x ∧ okM (wd X G XC) E H1 α1 (dRev d S1) fun d _ H' α' => ∀ v, RD (wd X G XC) H' α' d v → Q v H') I ⟨env, S, α, st, re, h1.mono fun d S1 H1 α1 sp1 st1 h2 v rv => ⟨d, S1, α1, st1, rv, h2⟩⟩) fun v s1 ⟨x, H1, I1, r1, q1⟩ => ?_)
  obtain ⟨d, S1, α1, st1, rd, h⟩ := q1
  have key : (∃ ds, d = .tup ds) ∨ ∃ (p : Addr) (xs : List V) (ds : List D), x = .ref p ∧ SqL X.K H1 p xs ∧ RDs (wd X G XC) H1 α1 ds xs ∧ okM (wd X G XC) E H1 α1 (alloc (.lst ds.reverse) S1) (fun d _ H' α' => ∀ v, RD (wd X G XC) H' α' d v → Q v H') := by
    unfold dRev at h
    split at h
    · exact .inl ⟨_, rfl⟩
    · split at h
      · rename_i e1
        cases rd with
        | ref ha =>
          obtain ⟨xs, hq, r⟩ := RC.sql (.inl (st1.at_ _ _ _ e1 ha))
          exact .inr ⟨_, xs, _, rfl, hq, r, h⟩
      · rename_i e1
        cases rd with
        | ref ha =>
          obtain ⟨xs, hq, r⟩ := RC.sql (.inr (st1.at_ _ _ _ e1 ha))
          exact .inr ⟨_, xs, _, rfl, hq, r, h⟩
      · exact h.elim
    · exact h.elim
  rcases key with ⟨ds, rfl⟩ | ⟨p, xs, ds, ex, hx, r, h⟩
  · have h : okM (wd X G XC) E H1 α1 (.ok (.tup ds.reverse) S1) (fun d _ H' α' => ∀ v, RD (wd X G XC) H' α' d v → Q v H') := h
    cases rd with
    | @tup p xs _ hx r =>
      cases r1
      have hst : PO X (some (.UnaryOp .USub (.Constant (.int 1) k p1) p2)) (tPart (tUn (rU fun i => .int (-i)) (tC (.int 1)))) := po_some (pe_un un_neg pe_int)
      refine wpAny_Slice (thn (po_none.run pins s1 σ H1 (fun o H2 => o = none ∧ H2 = H1) I1 ⟨rfl, rfl⟩) fun vl s2 ⟨l, H2, I2, pl, el, e2⟩ => ?_)
      subst el e2
      refine thn (po_none.run pins s2 σ H2 (fun o H3 => o = none ∧ H3 = H2) I2 ⟨rfl, rfl⟩) fun vu s3 ⟨u, H3, I3, pu, eu, e3⟩ => ?_
      subst eu e3
      refine thn (hst.run pins s3 σ H3 (fun o H4 => o = some (-1) ∧ H4 = H3) I3 ⟨1, rfl, -1, rfl, rfl, rfl⟩) fun vs s4 ⟨o, H4, I4, ps, eo, e4⟩ => ?_
      subst eo e4
      cases pl
      cases pu
      have I5 : Inv X pins σ H4 { s4 with heap := s4.heap.push { cls := .type "slice", data := .fields #[.none, .none, vs] } } := I4.kept (t' := s4.toks) fun b ob q => Heap.get?_push_of_some _ q
      obtain ⟨its, rr, ht, hz⟩ := I5.tuple hx
      show wpAny (model X.prog X.w) X.A (subscriptTail a (.Slice none none (some (.UnaryOp .USub (.Constant (.int 1) k p1) p2)) p3) (.ref p) (.ref s4.heap.objs.size)) (EP X pins σ Q) X.xe { s4 with heap := s4.heap.push { cls := .type "slice", data := .fields #[.none, .none, vs] } }
      refine tail_any (ops := [.ref p, .ref s4.heap.objs.size]) ht.typeIs (PyProof.Rows.slot_tuple_getitem.lookup) ?_ (by with_unfolding_all rfl)
      refine getItem_tuple_rev ht (Heap.IsSliceOf.new _ .none .none vs) ps ?_ (by rw [List.size_toArray, ← rr.length]; exact hz)
      refine ⟨.ref _, _, I5.laid (t' := s4.toks) (o := .tup xs.reverse) (fun b ob q => Heap.get?_push_of_some _ q) (Nat.le_refl _) ?_, rfl, new_tup st1 r.reverse h (I5.hok.fresh (Nat.le_refl _))⟩
      exact ⟨by rw [List.length_reverse]; exact hz, _, rr.reverse, IsTup.new _ _⟩
  · subst ex
    cases r1
    have hst : PO X (some (.UnaryOp .USub (.Constant (.int 1) k p1) p2)) (tPart (tUn (rU fun i => .int (-i)) (tC (.int 1)))) := po_some (pe_un un_neg pe_int)
    refine wpAny_Slice (thn (po_none.run pins s1 σ H1 (fun o H2 => o = none ∧ H2 = H1) I1 ⟨rfl, rfl⟩) fun vl s2 ⟨l, H2, I2, pl, el, e2⟩ => ?_)
    subst el e2
    refine thn (po_none.run pins s2 σ H2 (fun o H3 => o = none ∧ H3 = H2) I2 ⟨rfl, rfl⟩) fun vu s3 ⟨u, H3, I3, pu, eu, e3⟩ => ?_
    subst eu e3
    refine thn (hst.run pins s3 σ H3 (fun o H4 => o = some (-1) ∧ H4 = H3) I3 ⟨1, rfl, -1, rfl, rfl, rfl⟩) fun vs s4 ⟨o, H4, I4, ps, eo, e4⟩ => ?_
    subst eo e4
    have I5 : Inv X pins σ H4 { s4 with heap := s4.heap.push { cls := .type "slice", data := .fields #[vl, vu, vs] } } := I4.kept (t' := s4.toks) fun b ob q => Heap.get?_push_of_some _ q
    obtain ⟨its, rr, ht, hz⟩ := I5.list hx
    show wpAny (model X.prog X.w) X.A (subscriptTail a (.Slice none none (some (.UnaryOp .USub (.Constant (.int 1) k p1) p2)) p3) (.ref p) (.ref s4.heap.objs.size)) (EP X pins σ Q) X.xe { s4 with heap := s4.heap.push { cls := .type "slice", data := .fields #[vl, vu, vs] } }
    refine tail_any (ops := [.ref p, .ref s4.heap.objs.size]) ht.isList.typeIs (PySem.slot_list_getitem.lookup) ?_ (by with_unfolding_all rfl)
    refine wpAny_getItem_list_slice ht.isList (Heap.IsSliceOf.new _ vl vu vs) pl pu ps (by decide) ?_ (by rw [List.size_toArray, ← rr.length]; exact hz)
    rw [PySem.W.krv_pick]
    refine ⟨.ref _, _, I5.laid (t' := s4.toks) (o := .lst xs.reverse) (fun b ob q => Heap.get?_push_of_some _ q) (Nat.le_refl _) ?_, rfl, new_lst st1 r.reverse h (I5.hok.fresh (Nat.le_refl _))⟩
    exact ⟨by rw [List.length_reverse]; exact hz, _, 0, rr.reverse, Heap.get?_push_size _ rfl⟩
/-! ### join, split -/
def isStrD (d : D) (_ : Store) : Bool := match d with
  | .str _ => true
  | _ => false
def dJoin (o d : D) : M D := fun S => match o with
  | .str a => match (itemsOf d S).bind strsD with
    | some ys => if (ys.map (·.length)).sum + ys.length * a.length ≤ LINE then .ok (.str (Txt.join a ys)) S else .bad
    | none => .bad
  | _ => .bad
def dSplit (o d : D) : M D := fun S => match o, d with
  | .str a, .str b => if (b.length == 0) = false ∧ a.length + 2 ≤ LINE then alloc (.lst ((Txt.split a b).map .str)) S else .bad
  | _, _ => .bad
theorem isStr_ty {H : Hp} {α : List Addr} {S : Store} {d : D} {v : V} (st : StOk (wd X G XC) H α S) (r : RD (wd X G XC) H α d v) (h : isStrD d S = true) : tyV X.K "str" v H := by
  unfold isStrD at h
  split at h
  · cases r
    exact rfl
  · cases h
theorem mJoin : MtR X "str.join" (vRM (wd X G XC) E (m1 dJoin)) := by
  intro pins s σ H x xs v us Q I rx rs ⟨a, ds, S, α, st, ra, rd, h⟩
  match ds, rd, h with
  | [b], .cons rb .nil, h =>
    have h : okM (wd X G XC) E H α (dJoin a b S) _ := h
    unfold dJoin at h
    split at h
    · split at h
      · rename_i q
        split at h
        · rename_i hz
          cases ra
          rw [Option.bind_eq_some_iff] at q
          obtain ⟨es, q1, q2⟩ := q
          have key : ∃ p vs, ‹V› = V.ref p ∧ (SqL X.K H p vs ∨ SqT X.K H p vs) ∧ RDs (wd X G XC) H α es vs := by
            unfold itemsOf at q1
            split at q1
            · cases q1
              cases rb with
              | tup hx r => exact ⟨_, _, rfl, .inr hx, r⟩
            · split at q1
              · rename_i e1
                cases q1
                cases rb with
                | ref ha =>
                  obtain ⟨xs, hq, r⟩ := RC.sql (.inl (st.at_ _ _ _ e1 ha))
                  exact ⟨_, _, rfl, .inl hq, r⟩
              · rename_i e1
                cases q1
                cases rb with
                | ref ha =>
                  obtain ⟨xs, hq, r⟩ := RC.sql (.inr (st.at_ _ _ _ e1 ha))
                  exact ⟨_, _, rfl, .inl hq, r⟩
              · cases q1
            · cases q1
          obtain ⟨p, vs, ev, hp, r⟩ := key
          subst ev
          have := strsD_vs q2 r
          subst this
          exact mt_join pins s σ H _ _ v us Q I rx rs ⟨_, p, _, rfl, rfl, hp, hz, same st h (.str _)⟩
        · exact h.elim
      · exact h.elim
    · exact h.elim
  | [], .nil, h => exact h.elim
  | _ :: _ :: _, .cons _ (.cons _ _), h => exact h.elim
theorem rds_strs {W : Wd} : ∀ {ys : List Str}, RDs W H α (ys.map .str) (ys.map V.str)
  | [] => .nil
  | y :: ys => .cons (.str y) (rds_strs (ys := ys))
theorem mSplit : MtR X "str.split" (vRM (wd X G XC) E (m1 dSplit)) := by
  intro pins s σ H x xs v us Q I rx rs ⟨a, ds, S, α, st, ra, rd, h⟩
  match ds, rd, h with
  | [b], .cons rb .nil, h =>
    have h : okM (wd X G XC) E H α (dSplit a b S) _ := h
    unfold dSplit at h
    split at h
    · split at h
      · rename_i hz
        cases ra
        cases rb
        exact mt_split pins s σ H _ _ v us Q I rx rs ⟨_, _, rfl, rfl, hz.1, by rw [line_eq]; exact hz.2, fun p hp => new_lst st rds_strs h hp⟩
      · exact h.elim
    · exact h.elim
  | [], .nil, h => exact h.elim
  | _ :: _ :: _, .cons _ (.cons _ _), h => exact h.elim
end
end Ev
namespace Ev
open PySem PySem.Spec PyProof.Rows L2
/-! ### the small language -/
inductive Bop where | add | sub | mul | div | mod | pow | shl | shr | and
  deriving DecidableEq
inductive Cop where | eq | ne | lt | le | gt | ge | is | isNot | in_ | notIn
  deriving DecidableEq
inductive Blt where | len | abs | int | str | max2 | min2 | tuple | list | all | any | sum | repr
  deriving DecidableEq
inductive Mth where | append | extend | pop | popAt | join | split
  deriving DecidableEq
/-- what a for, a comprehension walks -/
inductive IK where | seq | rng1 | rng2 | enum | zip
  deriving DecidableEq
/-- targets -/
inductive T where | nm (i : Nat) | tup (ts : List T)
inductive E where
  | var (i : Nat) | int (i : Int) | str (x : Str) | bl (b : Bool) | non
  | tup (es : List E) | lst (es : List E)
  | bin (o : Bop) (a b : E) | neg (a : E)
  | cmp (o : Cop) (a b : E) | chain (o p : Cop) (a b c : E)
  | and (a b : E) | or (a b : E) | not (a : E) | ife (c a b : E)
  | ix (a i : E) | slLo (a lo : E) | slHi (a hi : E) | slLH (a lo hi : E)
  | call (f : Nat) (es : List E) | callv (i : Nat) (es : List E)
  | blt (b : Blt) (es : List E) | isi (t : Ty) (a : E)
  | mth (m : Mth) (o : E) (es : List E)
  | lc (own : List Nat) (tg : T) (k : IK) (es : List E) (ifs : List E) (elt : E)
  | glob (d : D) | fnv (i : Nat) | bad | rev (a : E)
inductive St where
  | set (i : Nat) (e : E) | asg (t : T) (e : E) | par2 (i j : Nat) (a b : E) | par3 (i j k : Nat) (a b c : E)
  | sub (o i e : E) | drop (e : E) | ret (e : E) | retN
  | ife (c : E) (a b : List St) | whl (c : E) (b : List St) | for (t : T) (k : IK) (es : List E) (b : List St)
  | aug (i : Nat) (o : Bop) (e : E) | pass | brk | cont | raise (c : Nat)
inductive Fl where | nx | rt (d : D) | bk | ct
/-! ### what it does -/
def Bop.run : Bop → D → D → M D
  | .add => dAdd | .sub => dSub | .mul => dMul | .div => dDiv | .mod => dMod | .pow => dPow | .shl => dShl | .shr => dShr | .and => dAnd
def Cop.run : Cop → D → D → M D
  | .eq => dEq | .ne => dNe | .lt => dLt | .le => dLe | .gt => dGt | .ge => dGe | .is => dIs | .isNot => dIsNot | .in_ => dIn | .notIn => dNotIn
def Blt.run : Blt → List D → M D
  | .len => on1 dLen | .abs => on1 dAbs | .int => on1 dInt | .str => on1 dStr | .max2 => on2 dMax2 | .min2 => on2 dMin2 | .tuple => on1 dTuple | .list => on1 dList
  | .all => on1 dAll | .any => on1 dAny | .sum => on1 dSum | .repr => on1 dRepr
def Mth.run : Mth → D → List D → M D
  | .append => m1 dAppend | .extend => m1 dExtend | .pop => m0 dPop | .popAt => m1 dPopAt | .join => m1 dJoin | .split => m1 dSplit
def chk (p : Store → Bool) : M Unit := fun S => if p S = true then .ok () S else .bad
def isLst (d : D) (S : Store) : Bool := match d with
  | .ref n => match S[n]? with
    | some (.lst _) => true
    | some (.fro _) => true
    | _ => false
  | _ => false
def Mth.kd : Mth → D → Store → Bool
  | .join => isStrD
  | .split => isStrD
  | .append => isLst
  | .extend => isLst
  | .pop => isLst
  | .popAt => isLst
def getV (env : Fr) (i : Nat) : M D := match env[i]? with
  | some (some d) => M.ret d
  | _ => M.fail
/-- a truth -/
def tru {α : Type} (d : D) (a b : M α) : M α := match d with
  | .bl true => a
  | .bl false => b
  | _ => M.fail
def dNeg (d : D) : M D := match d with
  | .int i => M.ret (.int (-i))
  | _ => M.fail
/-- x += e, x -= e: ints alone -/
def dAug (o : Bop) (d e : D) : M D := match o, d, e with
  | .add, .int i, .int j => M.ret (.int (i + j))
  | .sub, .int i, .int j => M.ret (.int (i - j))
  | _, _, _ => M.fail
def dPart (d : D) : M (Option Int) := match d with
  | .int i => M.ret (some i)
  | _ => M.fail
def onTup (n : Nat) (f : List D → M Fr) : D → M Fr
  | .tup ds => if ds.length = n then f ds else M.fail
  | _ => M.fail
mutual
/-- a value into a target -/
def T.put : T → D → Fr → M Fr
  | .nm i, d, env => M.ret (env.set i (some d))
  | .tup ts, d, env => onTup ts.length (fun ds => T.puts ts ds env) d
def T.puts : List T → List D → Fr → M Fr
  | [], [], env => M.ret env
  | [], _ :: _, _ => M.fail
  | t :: ts, d :: ds, env => do
    let env ← T.put t d env
    T.puts ts ds env
  | _ :: _, [], _ => M.fail
end
/-- the items that are walked, and what must stay -/
structure Its where
  ds : List D
  ok : Store → Prop
def chrD (x : Str) : List D := x.cps.toList.map fun c => .str ⟨#[c]⟩
def seqIts (d : D) : M Its := fun S => match d with
  | .tup xs => .ok ⟨xs, fun _ => True⟩ S
  | .str x => .ok ⟨chrD x, fun _ => True⟩ S
  | .ref n => match S[n]? with
    | some (.lst xs) => .ok ⟨xs, fun S' => S'[n]? = some (.lst xs)⟩ S
    | some (.fro xs) => .ok ⟨xs, fun S' => S'[n]? = some (.fro xs)⟩ S
    | _ => .bad
  | _ => .bad
def rngOk (i j : Int) : Prop := -(2 ^ 62) ≤ i ∧ i < 2 ^ 62 ∧ -(2 ^ 62) ≤ j ∧ j < 2 ^ 62
instance (i j : Int) : Decidable (rngOk i j) := by unfold rngOk; infer_instance
def rngD (lo : Int) (n : Nat) : List D := (List.range n).map fun (k : Nat) => .int (lo + (k : Int))
def zipD : List D → List D → List D
  | x :: xs, y :: ys => .tup [x, y] :: zipD xs ys
  | _, _ => []
def enumD : Nat → List D → List D
  | _, [] => []
  | i, x :: xs => .tup [.int i, x] :: enumD (i + 1) xs
def rng1Its (d : D) : M Its := match d with
  | .int j => if rngOk 0 j then M.ret ⟨rngD 0 j.toNat, fun _ => True⟩ else M.fail
  | _ => M.fail
def rng2Its (a b : D) : M Its := match a, b with
  | .int i, .int j => if rngOk i j then M.ret ⟨rngD i (j - i).toNat, fun _ => True⟩ else M.fail
  | _, _ => M.fail
def enumIts (d : D) : M Its := match d with
  | .ref n => do
    let it ← seqIts (.ref n)
    M.ret ⟨enumD 0 it.ds, it.ok⟩
  | _ => M.fail
def zipIts (x y : D) : M Its := match x, y with
  | .ref n, .ref m => do
    let a ← seqIts (.ref n)
    let b ← seqIts (.ref m)
    M.ret ⟨zipD a.ds b.ds, fun S => a.ok S ∧ b.ok S⟩
  | .tup xs, .tup ys => M.ret ⟨zipD xs ys, fun _ => True⟩
  | _, _ => M.fail
def its1 (f : D → M Its) : List D → M Its
  | [d] => f d
  | _ => M.fail
def its2 (f : D → D → M Its) : List D → M Its
  | [d, e] => f d e
  | _ => M.fail
def IK.its : IK → List D → M Its
  | .seq => its1 seqIts
  | .rng1 => its1 rng1Its
  | .rng2 => its2 rng2Its
  | .enum => its1 enumIts
  | .zip => its2 zipIts
open Classical in
noncomputable def guard (p : Store → Prop) : M Unit := fun S => if p S then .ok () S else .bad
/-- a for -/
noncomputable def loopF (p : Store → Prop) (tgt : D → Fr → M Fr) (body : Fr → M (Fl × Fr)) : List D → Fr → M (Fl × Fr)
  | [], env => do
    guard p
    M.ret (.nx, env)
  | d :: ds, env => do
    guard p
    let env ← tgt d env
    let r ← body env
    match r.1 with
    | .nx => loopF p tgt body ds r.2
    | .ct => loopF p tgt body ds r.2
    | .bk => M.ret (.nx, r.2)
    | .rt d => M.ret (.rt d, r.2)
/-- a comprehension's items -/
noncomputable def lcF (p : Store → Prop) (tgt : D → Fr → M Fr) (cond elt : Fr → M D) (env : Fr) : List D → List D → M (List D)
  | [], acc => do
    guard p
    M.ret acc
  | d :: ds, acc => do
    guard p
    let e2 ← tgt d env
    let c ← cond e2
    tru c (do
      let x ← elt e2
      if acc.length < LINE then lcF p tgt cond elt env ds (acc ++ [x]) else M.fail) (lcF p tgt cond elt env ds acc)
/-- an exception may not leave a comprehension -/
def noexc {α : Type} (m : M α) : M α := fun S => match m S with
  | .ok a S' => .ok a S'
  | _ => .bad
def whileN (c : Fr → M D) (b : Fr → M (Fl × Fr)) : Nat → Fr → M (Fl × Fr)
  | 0, _ => M.fail
  | n + 1, env => do
    let t ← c env
    tru t (do
      let r ← b env
      match r.1 with
      | .nx => whileN c b n r.2
      | .ct => whileN c b n r.2
      | .bk => M.ret (.nx, r.2)
      | .rt d => M.ret (.rt d, r.2)) (M.ret (.nx, env))
def Res.isBad {α : Type} : Res α → Prop
  | .bad => True
  | _ => False
open Classical in
noncomputable def whileF (c : Fr → M D) (b : Fr → M (Fl × Fr)) (env : Fr) : M (Fl × Fr) := fun S =>
  if h : ∃ n, ¬ (whileN c b n env S).isBad then whileN c b h.choose env S else .bad
section
variable (C : Nat → List D → M D)
mutual
noncomputable def evE : E → Fr → M D
  | .var i, env => getV env i
  | .int i, _ => M.ret (.int i)
  | .str x, _ => M.ret (.str x)
  | .bl b, _ => M.ret (.bl b)
  | .non, _ => M.ret .non
  | .glob d, _ => M.ret d
  | .fnv i, _ => M.ret (.fn i)
  | .bad, _ => M.fail
  | .rev a, env => do
    let x ← evE a env
    dRev x
  | .tup es, env => do
    let ds ← evEs es env
    if ds.length ≤ LINE then M.ret (.tup ds) else M.fail
  | .lst es, env => do
    let ds ← evEs es env
    if ds.length ≤ LINE then alloc (.lst ds) else M.fail
  | .bin o a b, env => do
    let x ← evE a env
    let y ← evE b env
    o.run x y
  | .neg a, env => do
    let x ← evE a env
    dNeg x
  | .cmp o a b, env => do
    let x ← evE a env
    let y ← evE b env
    o.run x y
  | .chain o p a b c, env => do
    let x ← evE a env
    let y ← evE b env
    let t ← o.run x y
    tru t (do
      let z ← evE c env
      p.run y z) (M.ret (.bl false))
  | .and a b, env => do
    let x ← evE a env
    tru x (evE b env) (M.ret (.bl false))
  | .or a b, env => do
    let x ← evE a env
    tru x (M.ret (.bl true)) (evE b env)
  | .not a, env => do
    let x ← evE a env
    dNot x
  | .ife c a b, env => do
    let x ← evE c env
    tru x (evE a env) (evE b env)
  | .ix a i, env => do
    let x ← evE a env
    let y ← evE i env
    dIx x y
  | .slLo a lo, env => do
    let x ← evE a env
    let l ← evE lo env
    let l ← dPart l
    dSl x l none
  | .slHi a hi, env => do
    let x ← evE a env
    let l ← evE hi env
    let l ← dPart l
    dSl x none l
  | .slLH a lo hi, env => do
    let x ← evE a env
    let l ← evE lo env
    let l ← dPart l
    let h ← evE hi env
    let h ← dPart h
    dSl x l h
  | .call f es, env => do
    let ds ← evEs es env
    C f ds
  | .callv i es, env => do
    let f ← getV env i
    match f with
    | .fn f => do
      let ds ← evEs es env
      C f ds
    | _ => M.fail
  | .blt b es, env => do
    let ds ← evEs es env
    b.run ds
  | .isi t a, env => do
    let x ← evE a env
    dIsi t x
  | .mth m o es, env => do
    let x ← evE o env
    chk (m.kd x)
    let ds ← evEs es env
    m.run x ds
  | .lc own tg k es ifs elt, env => do
    let it ← (do
      let ds ← evEs es env
      k.its ds)
    let xs ← noexc <| lcF it.ok tg.put (fun e => match ifs with
      | [] => M.ret (.bl true)
      | [c] => evE c e
      | _ => M.fail) (fun e => evE elt e) (wipeF env own) it.ds []
    alloc (.lst xs)
noncomputable def evEs : List E → Fr → M (List D)
  | [], _ => M.ret []
  | e :: es, env => do
    let d ← evE e env
    let ds ← evEs es env
    M.ret (d :: ds)
end
def par2 (i j : Nat) (ds : List D) (env : Fr) : M (Fl × Fr) := match ds with
  | [a, b] => M.ret (.nx, (env.set i (some a)).set j (some b))
  | _ => M.fail
def par3 (i j k : Nat) (ds : List D) (env : Fr) : M (Fl × Fr) := match ds with
  | [a, b, c] => M.ret (.nx, ((env.set i (some a)).set j (some b)).set k (some c))
  | _ => M.fail
/-- one behind the other -/
def seqM (m n : Fr → M (Fl × Fr)) (env : Fr) : M (Fl × Fr) := do
  let r ← m env
  match r.1 with
  | .nx => n r.2
  | f => M.ret (f, r.2)
mutual
noncomputable def evS : St → Fr → M (Fl × Fr)
  | .set i e, env => do
    let d ← evE C e env
    M.ret (.nx, env.set i (some d))
  | .asg t e, env => do
    let d ← evE C e env
    let env' ← t.put d env
    M.ret (.nx, env')
  | .par2 i j a b, env => do
    let ds ← evEs C [a, b] env
    par2 i j ds env
  | .par3 i j k a b c, env => do
    let ds ← evEs C [a, b, c] env
    par3 i j k ds env
  | .sub o i e, env => do
    let d ← evE C e env
    let o ← evE C o env
    let i ← evE C i env
    dSet o i d
    M.ret (.nx, env)
  | .drop e, env => do
    let _ ← evE C e env
    M.ret (.nx, env)
  | .ret e, env => do
    let d ← evE C e env
    M.ret (.rt d, env)
  | .retN, env => M.ret (.rt .non, env)
  | .ife c a b, env => do
    let t ← evE C c env
    tru t (evSs a env) (evSs b env)
  | .whl c b, env => whileF (evE C c) (evSs b) env
  | .for t k es b, env => do
    let it ← (do
      let ds ← evEs C es env
      k.its ds)
    loopF it.ok t.put (evSs b) it.ds env
  | .aug i o e, env => do
    let d ← getV env i
    let d2 ← evE C e env
    let d3 ← dAug o d d2
    M.ret (.nx, env.set i (some d3))
  | .pass, env => M.ret (.nx, env)
  | .brk, env => M.ret (.bk, env)
  | .cont, env => M.ret (.ct, env)
  | .raise _, _ => M.fail
noncomputable def evSs : List St → Fr → M (Fl × Fr)
  | [], env => M.ret (.nx, env)
  | s :: ss, env => seqM (evS s) (evSs ss) env
end
end
/-! ### a program -/
structure FD where
  ps : Nat
  slots : Nat
  body : List St
def fin : Fl → M D
  | .nx => M.ret .non
  | .rt d => M.ret d
  | _ => M.fail
/-- a call, so many calls deep at most -/
noncomputable def evF (P : Nat → Option FD) : Nat → Nat → List D → M D
  | 0, _, _ => M.fail
  | n + 1, f, ds => match P f with
    | none => M.fail
    | some fd => if ds.length = fd.ps then do
        let r ← evSs (evF P n) fd.body (ds.map some ++ List.replicate (fd.slots - ds.length) none)
        fin r.1
      else M.fail
end Ev
namespace Ev
open PySem PySem.Spec PyProof.Rows L2
/-! ### soundness of expressions -/
theorem PE.weak {X : Cx} {e : Expr} {t t' : TE} (h : PE X e t) (k : ∀ σ H Q, t' σ H Q → t σ H Q) : PE X e t' := ⟨fun pins s σ H Q I q => h.run pins s σ H Q I (k σ H Q q)⟩
theorem PT.weak {X : Cx} {e : Expr} {t t' : TT} (h : PT X e t) (k : ∀ σ H Q, t' σ H Q → t σ H Q) : PT X e t' := ⟨fun pins s σ H Q I q => h.run pins s σ H Q I (k σ H Q q)⟩
theorem PA.weak {X : Cx} {e : List Expr} {t t' : TA} (h : PA X e t) (k : ∀ σ H Q, t' σ H Q → t σ H Q) : PA X e t' := ⟨fun pos pins s σ H Q I q => h.run pos pins s σ H Q I (k σ H Q q)⟩
section
variable {W : Wd} {E : XK} {H H1 H2 : Hp} {α α1 α2 : List Addr} {S S1 : Store} {β γ : Type} {env : Fr} {σ : L2.St}
theorem tE.mono {m : Fr → M D} {Q Q' : VK} (h : tE W E m σ H Q) (k : ∀ v H', Q v H' → Q' v H') : tE W E m σ H Q' := by
  obtain ⟨env, S, α, st, re, h⟩ := h
  exact ⟨env, S, α, st, re, h.mono fun d S' H' α' _ _ q v r => k v H' (q v r)⟩
theorem tAs.mono {m : Fr → M (List D)} {Q Q' : List V → Hp → Prop} (h : tAs W E m σ H Q) (k : ∀ v H', Q v H' → Q' v H') : tAs W E m σ H Q' := by
  obtain ⟨env, S, α, st, re, h⟩ := h
  exact ⟨env, S, α, st, re, h.mono fun d S' H' α' _ _ q v r => k v H' (q v r)⟩
theorem tT.mono {m : Fr → M D} {Q Q' : Bool → Hp → Prop} (h : tT W E m σ H Q) (k : ∀ v H', Q v H' → Q' v H') : tT W E m σ H Q' := by
  obtain ⟨env, S, α, st, re, h⟩ := h
  exact ⟨env, S, α, st, re, h.mono fun d S' H' α' _ _ ⟨b, e, q⟩ => ⟨b, e, k b H' q⟩⟩
/-- the state ahead of what follows -/
abbrev At (W : Wd) (E : XK) (σ : L2.St) (env : Fr) (H : Hp) (α : List Addr) (P : D → Store → Hp → List Addr → Prop) (v : V) (H' : Hp) : Prop :=
  ∃ d S' α', Step W H α H' α' ∧ StOk W H' α' S' ∧ RE W H' α' env σ ∧ RD W H' α' d v ∧ P d S' H' α'
theorem tE_of {m : Fr → M D} {g : D → M β} {P : β → Store → Hp → List Addr → Prop} (st : StOk W H α S) (re : RE W H α env σ) (h : okM W E H α ((m env >>= g) S) P) :
    tE W E m σ H (At W E σ env H α fun d S' H' α' => okM W E H' α' (g d S') P) :=
  ⟨env, S, α, st, re, (okM.bind h).mono fun d S2 H2 α2 sp t h v r => ⟨d, S2, α2, sp, t, re.mono sp, r, h⟩⟩
theorem tE_end {m : Fr → M D} {P : D → Store → Hp → List Addr → Prop} (st : StOk W H α S) (re : RE W H α env σ) (h : okM W E H α (m env S) P) :
    tE W E m σ H (At W E σ env H α P) :=
  ⟨env, S, α, st, re, h.mono fun d S2 H2 α2 sp t h v r => ⟨d, S2, α2, sp, t, re.mono sp, r, h⟩⟩
theorem tAs_of {m : Fr → M (List D)} {g : List D → M β} {P : β → Store → Hp → List Addr → Prop} (st : StOk W H α S) (re : RE W H α env σ) (h : okM W E H α ((m env >>= g) S) P) :
    tAs W E m σ H (fun vs H' => ∃ ds S' α', Step W H α H' α' ∧ StOk W H' α' S' ∧ RE W H' α' env σ ∧ RDs W H' α' ds vs ∧ okM W E H' α' (g ds S') P) :=
  ⟨env, S, α, st, re, (okM.bind h).mono fun d S2 H2 α2 sp t h v r => ⟨d, S2, α2, sp, t, re.mono sp, r, h⟩⟩
theorem tT_of {m : Fr → M D} {a b : M β} {P : β → Store → Hp → List Addr → Prop} (st : StOk W H α S) (re : RE W H α env σ) (h : okM W E H α ((m env >>= fun d => tru d a b) S) P) :
    tT W E m σ H (fun c H' => ∃ S' α', Step W H α H' α' ∧ StOk W H' α' S' ∧ RE W H' α' env σ ∧ okM W E H' α' ((if c = true then a else b) S') P) := by
  refine ⟨env, S, α, st, re, (okM.bind h).mono fun d S2 H2 α2 sp t h => ?_⟩
  cases d with
  | bl k =>
    refine ⟨k, rfl, S2, α2, sp, t, re.mono sp, ?_⟩
    cases k with
    | true => rw [if_pos rfl]; exact h
    | false => rw [if_neg Bool.false_ne_true]; exact h
  | _ => exact h.elim
theorem okM.bnd_ret {m : M β} {P : β → Store → Hp → List Addr → Prop} (h : okM W E H α (m S) P) : okM W E H α ((m >>= fun d => M.ret d) S) P := by
  have e : (m >>= fun d => M.ret d) = m := by
    funext S
    show M.bnd m _ S = m S
    unfold M.bnd
    cases m S <;> rfl
  rw [e]
  exact h
end
section
variable {X : Cx} {G XC : Nat → Option Addr} {E : XK} {a b c e : Expr} {es : List Expr} {ma mb mc : Fr → M D} {pos : Pos}
/-- what every value tells as a test -/
theorem tT.of_tE {W : Wd} {E : XK} {m : Fr → M D} {σ : L2.St} {H : Hp} {Q : Bool → Hp → Prop} (h : tT W E m σ H Q) : tB (tE W E m) σ H Q := by
  obtain ⟨env, S, α, st, re, h⟩ := h
  refine ⟨env, S, α, st, re, h.mono fun d S' H' α' _ _ ⟨b, e, q⟩ v r => ?_⟩
  subst e
  cases r
  exact ⟨b, rfl, q⟩
theorem ptOf {e : Expr} {m : Fr → M D} (h : PE X e (tE (wd X G XC) E m)) (he : ∀ whole, isTrue e X.env whole = (do let v ← whole; standAt e.pos; holding [v] (truthy v))) : PT X e (tT (wd X G XC) E m) :=
  PT.weak (pt_val h he) fun _ _ _ q => tT.of_tE q
theorem eVar {i : Nat} {x : Str} (hN : X.N[i]? = some x) (hv : Vis X.env.scope x) (hd : (x == ("__debug__" : Str)) = false) (hcd : (x == ("__classdict__" : Str)) = false) : PE X (.Name x pos) (tE (wd X G XC) E fun env => getV env i) := by
  refine PE.weak (pe_var (i := i) hN hv hd hcd) fun σ H Q ⟨env, S, α, st, re, h⟩ => ?_
  have h : okM (wd X G XC) E H α (getV env i S) (fun d _ H' α' => ∀ v, RD (wd X G XC) H' α' d v → Q v H') := h
  unfold getV at h
  cases e : env[i]? with
  | none => rw [e] at h; exact h.elim
  | some o =>
    rw [e] at h
    cases o with
    | none => exact h.elim
    | some d =>
      obtain ⟨v, h1, h2⟩ := re.at_ i d e
      exact ⟨v, h1, h _ _ Step.refl st v h2⟩
theorem eConst {d : D} {v : V} (h : PE X e (tC v)) (r : ∀ H α, RD (wd X G XC) H α d v) : PE X e (tE (wd X G XC) E fun _ => M.ret d) :=
  PE.weak h fun σ H Q ⟨env, S, α, st, re, q⟩ => q _ _ Step.refl st v (r _ _)
theorem eBin {o : Operator} {f : D → D → M D} (ho : OpR X (binaryOp o) (vR2 (wd X G XC) E f)) (ha : PE X a (tE (wd X G XC) E ma)) (hb : PE X b (tE (wd X G XC) E mb)) :
    PE X (.BinOp a o b pos) (tE (wd X G XC) E fun env => do
      let x ← ma env
      let y ← mb env
      f x y) :=
  PE.weak (pe_op ho ha hb) fun σ H Q ⟨env, S, α, st, re, h⟩ => (tE_of st re h).mono fun x H1 ⟨d1, S1, α1, sp1, st1, re1, r1, h1⟩ =>
    (tE_of st1 re1 h1).mono fun y H2 ⟨d2, S2, α2, sp2, st2, re2, r2, h2⟩ => ⟨d1, d2, S2, α2, st2, r1.mono sp2, r2, h2⟩
theorem eCmp {o : CmpOp} {f : D → D → M D} (ho : OpR X (compareOp o) (vR2 (wd X G XC) E f)) (ha : PE X a (tE (wd X G XC) E ma)) (hb : PE X b (tE (wd X G XC) E mb)) (hm : behindInMarks o b = false) :
    PE X (.Compare a [o] [b] pos) (tE (wd X G XC) E fun env => do
      let x ← ma env
      let y ← mb env
      f x y) :=
  PE.weak (pe_cmpR ho ha hb hm) fun σ H Q ⟨env, S, α, st, re, h⟩ => (tE_of st re h).mono fun x H1 ⟨d1, S1, α1, sp1, st1, re1, r1, h1⟩ =>
    (tE_of st1 re1 h1).mono fun y H2 ⟨d2, S2, α2, sp2, st2, re2, r2, h2⟩ => ⟨d1, d2, S2, α2, st2, r1.mono sp2, r2, h2⟩
theorem eCmpT {o : CmpOp} {f : D → D → M D} (ho : OpR X (compareOp o) (vR2 (wd X G XC) E f)) (ha : PE X a (tE (wd X G XC) E ma)) (hb : PE X b (tE (wd X G XC) E mb)) (hm : behindInMarks o b = false) :
    PT X (.Compare a [o] [b] pos) (tT (wd X G XC) E fun env => do
      let x ← ma env
      let y ← mb env
      f x y) :=
  PT.weak (pt_cmpR ho ha hb hm) fun σ H Q ⟨env, S, α, st, re, h⟩ => (tE_of st re h).mono fun x H1 ⟨d1, S1, α1, sp1, st1, re1, r1, h1⟩ =>
    (tE_of st1 re1 h1).mono fun y H2 ⟨d2, S2, α2, sp2, st2, re2, r2, h2⟩ => ⟨d1, d2, S2, α2, st2, r1.mono sp2, r2, h2.mono fun d _ H' α' _ _ ⟨k, e, q⟩ v r => by
      subst e
      cases r
      exact ⟨k, rfl, q⟩⟩
/-- a truth that is handed on -/
theorem tru_bl {W : Wd} {E : XK} {H : Hp} {α : List Addr} {S : Store} {β : Type} {d : D} {v : V} {m n : M β} {P : β → Store → Hp → List Addr → Prop} (r : RD W H α d v) (h : okM W E H α (tru d m n S) P) : ∃ k, v = .bl k ∧ okM W E H α ((if k = true then m else n) S) P := by
  cases d with
  | bl k =>
    cases r
    refine ⟨k, rfl, ?_⟩
    cases k with
    | true => rw [if_pos rfl]; exact h
    | false => rw [if_neg Bool.false_ne_true]; exact h
  | _ => exact h.elim
theorem chain_core {W : Wd} {E : XK} {σ : L2.St} {H : Hp} {Q : VK} {f g : D → D → M D} (h : tE W E (fun env => do
      let x ← ma env
      let y ← mb env
      let t ← f x y
      tru t (do
        let z ← mc env
        g y z) (M.ret (.bl false))) σ H Q) : tChain (vR2 W E f) (vR2 W E g) (tE W E ma) (tE W E mb) (tE W E mc) σ H Q := by
  obtain ⟨env, S, α, st, re, h⟩ := h
  refine (tE_of st re h).mono fun x H1 ⟨d1, S1, α1, sp1, st1, re1, r1, h1⟩ => (tE_of st1 re1 h1).mono fun y H2 ⟨d2, S2, α2, sp2, st2, re2, r2, h2⟩ => ⟨d1, d2, S2, α2, st2, r1.mono sp2, r2, (okM.bind h2).mono fun d S3 H3 α3 sp3 st3 h3 v r3 => ?_⟩
  obtain ⟨k, rfl, h4⟩ := tru_bl r3 h3
  refine ⟨k, rfl, ?_⟩
  cases k with
  | false =>
    rw [if_neg Bool.false_ne_true] at h4 ⊢
    exact h4 _ _ Step.refl st3 _ (.bl _)
  | true =>
    rw [if_pos rfl] at h4 ⊢
    exact (tE_of st3 (re2.mono sp3) h4).mono fun z H4 ⟨d4, S4, α4, sp4, st4, re4, r4, h5⟩ => ⟨d2, d4, S4, α4, st4, (r2.mono sp3).mono sp4, r4, h5⟩
theorem eChain {o p : CmpOp} {f g : D → D → M D} (ho : OpR X (compareOp o) (vR2 (wd X G XC) E f)) (hp : OpR X (compareOp p) (vR2 (wd X G XC) E g)) (ha : PE X a (tE (wd X G XC) E ma)) (hb : PE X b (tE (wd X G XC) E mb)) (hc : PE X c (tE (wd X G XC) E mc))
    (hm : lastMarks [o, p] [b, c] = false) :
    PE X (.Compare a [o, p] [b, c] pos) (tE (wd X G XC) E fun env => do
      let x ← ma env
      let y ← mb env
      let t ← f x y
      tru t (do
        let z ← mc env
        g y z) (M.ret (.bl false))) :=
  PE.weak (pe_chain ho hp ha hb hc hm) fun σ H Q h => chain_core h
theorem eChainT {o p : CmpOp} {f g : D → D → M D} (ho : OpR X (compareOp o) (vR2 (wd X G XC) E f)) (hp : OpR X (compareOp p) (vR2 (wd X G XC) E g)) (ha : PE X a (tE (wd X G XC) E ma)) (hb : PE X b (tE (wd X G XC) E mb)) (hc : PE X c (tE (wd X G XC) E mc))
    (hm : lastMarks [o, p] [b, c] = false) :
    PT X (.Compare a [o, p] [b, c] pos) (tT (wd X G XC) E fun env => do
      let x ← ma env
      let y ← mb env
      let t ← f x y
      tru t (do
        let z ← mc env
        g y z) (M.ret (.bl false))) :=
  PT.weak (pt_chain ho hp ha hb hc hm) fun σ H Q h => chain_core (tT.of_tE h)
theorem eNeg (ha : PE X a (tE (wd X G XC) E ma)) : PE X (.UnaryOp .USub a pos) (tE (wd X G XC) E fun env => do
      let x ← ma env
      dNeg x) :=
  PE.weak (pe_un un_neg ha) fun σ H Q ⟨env, S, α, st, re, h⟩ => (tE_of st re h).mono fun x H1 ⟨d1, S1, α1, sp1, st1, re1, r1, h1⟩ => by
    cases d1 with
    | int i =>
      cases r1
      exact ⟨_, rfl, h1 _ _ Step.refl st1 _ (.int _)⟩
    | _ => exact h1.elim
theorem eNot (ha : PE X a (tE (wd X G XC) E ma)) : PE X (.UnaryOp .Not a pos) (tE (wd X G XC) E fun env => do
      let x ← ma env
      dNot x) :=
  PE.weak (pe_not ha) fun σ H Q ⟨env, S, α, st, re, h⟩ => (tE_of st re h).mono fun x H1 ⟨d1, S1, α1, sp1, st1, re1, r1, h1⟩ => by
    cases d1 with
    | bl k =>
      cases r1
      exact ⟨_, rfl, h1 _ _ Step.refl st1 _ (.bl _)⟩
    | _ => exact h1.elim
theorem eNotT (ha : PT X a (tT (wd X G XC) E ma)) : PT X (.UnaryOp .Not a pos) (tT (wd X G XC) E fun env => do
      let x ← ma env
      dNot x) :=
  PT.weak (pt_not ha) fun σ H Q ⟨env, S, α, st, re, h⟩ => ⟨env, S, α, st, re, (okM.bind h).mono fun d S1 H1 α1 sp1 st1 h1 => by
    cases d with
    | bl b =>
      obtain ⟨k, e, q⟩ := h1 _ _ Step.refl st1
      cases e
      exact ⟨_, rfl, q⟩
    | _ => exact h1.elim⟩
theorem eAnd {rest : List Expr} (ha : PE X a (tE (wd X G XC) E ma)) (hb : PE X (.BoolOp .And (b :: rest) pos) (tE (wd X G XC) E mb)) : PE X (.BoolOp .And (a :: b :: rest) pos) (tE (wd X G XC) E fun env => do
      let x ← ma env
      tru x (mb env) (M.ret (.bl false))) :=
  PE.weak (pe_and ha hb) fun σ H Q ⟨env, S, α, st, re, h⟩ => (tE_of st re h).mono fun x H1 ⟨d1, S1, α1, sp1, st1, re1, r1, h1⟩ => by
    obtain ⟨k, rfl, h2⟩ := tru_bl r1 h1
    refine ⟨k, rfl, ?_⟩
    cases k with
    | false =>
      rw [if_neg Bool.false_ne_true] at h2 ⊢
      exact h2 _ _ Step.refl st1 _ (.bl _)
    | true =>
      rw [if_pos rfl] at h2 ⊢
      exact ⟨env, S1, α1, st1, re1, h2⟩
theorem eOr {rest : List Expr} (ha : PE X a (tE (wd X G XC) E ma)) (hb : PE X (.BoolOp .Or (b :: rest) pos) (tE (wd X G XC) E mb)) : PE X (.BoolOp .Or (a :: b :: rest) pos) (tE (wd X G XC) E fun env => do
      let x ← ma env
      tru x (M.ret (.bl true)) (mb env)) :=
  PE.weak (pe_or ha hb) fun σ H Q ⟨env, S, α, st, re, h⟩ => (tE_of st re h).mono fun x H1 ⟨d1, S1, α1, sp1, st1, re1, r1, h1⟩ => by
    obtain ⟨k, rfl, h2⟩ := tru_bl r1 h1
    refine ⟨k, rfl, ?_⟩
    cases k with
    | true =>
      rw [if_pos rfl] at h2 ⊢
      exact h2 _ _ Step.refl st1 _ (.bl _)
    | false =>
      rw [if_neg Bool.false_ne_true] at h2 ⊢
      exact ⟨env, S1, α1, st1, re1, h2⟩
theorem eAndT {rest : List Expr} (ha : PT X a (tT (wd X G XC) E ma)) (hb : PW X (.BoolOp .And (b :: rest) pos) (tT (wd X G XC) E mb)) : PW X (.BoolOp .And (a :: b :: rest) pos) (tT (wd X G XC) E fun env => do
      let x ← ma env
      tru x (mb env) (M.ret (.bl false))) :=
  ⟨fun wh pins s σ H Q I ⟨env, S, α, st, re, h⟩ => (pw_and ha hb).run wh pins s σ H Q I <| (tT_of st re h).mono fun k H1 ⟨S1, α1, sp1, st1, re1, h2⟩ => by
    cases k with
    | false =>
      rw [if_neg Bool.false_ne_true] at h2 ⊢
      obtain ⟨k, e, q⟩ := h2 _ _ Step.refl st1
      cases e
      exact q
    | true =>
      rw [if_pos rfl] at h2 ⊢
      exact ⟨env, S1, α1, st1, re1, h2⟩⟩
theorem eOrT {rest : List Expr} (ha : PT X a (tT (wd X G XC) E ma)) (hb : PW X (.BoolOp .Or (b :: rest) pos) (tT (wd X G XC) E mb)) : PW X (.BoolOp .Or (a :: b :: rest) pos) (tT (wd X G XC) E fun env => do
      let x ← ma env
      tru x (M.ret (.bl true)) (mb env)) :=
  ⟨fun wh pins s σ H Q I ⟨env, S, α, st, re, h⟩ => (pw_or ha hb).run wh pins s σ H Q I <| (tT_of st re h).mono fun k H1 ⟨S1, α1, sp1, st1, re1, h2⟩ => by
    cases k with
    | true =>
      rw [if_pos rfl] at h2 ⊢
      obtain ⟨k, e, q⟩ := h2 _ _ Step.refl st1
      cases e
      exact q
    | false =>
      rw [if_neg Bool.false_ne_true] at h2 ⊢
      exact ⟨env, S1, α1, st1, re1, h2⟩⟩
theorem eIf (hc : PT X c (tT (wd X G XC) E mc)) (ha : PE X a (tE (wd X G XC) E ma)) (hb : PE X b (tE (wd X G XC) E mb)) : PE X (.IfExp c a b pos) (tE (wd X G XC) E fun env => do
      let x ← mc env
      tru x (ma env) (mb env)) :=
  PE.weak (pe_ifExp hc ha hb) fun σ H Q ⟨env, S, α, st, re, h⟩ => (tT_of st re h).mono fun k H1 ⟨S1, α1, sp1, st1, re1, h2⟩ => by
    cases k with
    | false =>
      rw [if_neg Bool.false_ne_true] at h2 ⊢
      exact ⟨env, S1, α1, st1, re1, h2⟩
    | true =>
      rw [if_pos rfl] at h2 ⊢
      exact ⟨env, S1, α1, st1, re1, h2⟩
theorem eIx (ha : PE X a (tE (wd X G XC) E ma)) (hb : PE X b (tE (wd X G XC) E mb)) (hs : PlainIx b) : PE X (.Subscript a b pos) (tE (wd X G XC) E fun env => do
      let x ← ma env
      let y ← mb env
      dIx x y) :=
  PE.weak (pe_ix ixAny ha hb hs) fun σ H Q ⟨env, S, α, st, re, h⟩ => (tE_of st re h).mono fun x H1 ⟨d1, S1, α1, sp1, st1, re1, r1, h1⟩ =>
    (tE_of st1 re1 h1).mono fun y H2 ⟨d2, S2, α2, sp2, st2, re2, r2, h2⟩ => ⟨d1, d2, S2, α2, st2, r1.mono sp2, r2, h2⟩
theorem dPart_int {W : Wd} {E : XK} {H : Hp} {α : List Addr} {S : Store} {β : Type} {d : D} {v : V} {g : Option Int → M β} {P : β → Store → Hp → List Addr → Prop} (st : StOk W H α S) (r : RD W H α d v) (h : okM W E H α ((dPart d >>= g) S) P) : ∃ i, v = .int i ∧ okM W E H α (g (some i) S) P := by
  have h := okM.bind h
  cases d with
  | int i =>
    cases r
    exact ⟨_, rfl, h _ _ Step.refl st⟩
  | _ => exact h.elim
theorem eSlLo {p2 : Pos} (ha : PE X a (tE (wd X G XC) E ma)) (hb : PE X b (tE (wd X G XC) E mb)) : PE X (.Subscript a (.Slice (some b) none none p2) pos) (tE (wd X G XC) E fun env => do
      let x ← ma env
      let l ← mb env
      let l ← dPart l
      dSl x l none) :=
  PE.weak (pe_slice slAny ha (po_some hb) po_none) fun σ H Q ⟨env, S, α, st, re, h⟩ => (tE_of st re h).mono fun x H1 ⟨d1, S1, α1, sp1, st1, re1, r1, h1⟩ =>
    (tE_of st1 re1 h1).mono fun y H2 ⟨d2, S2, α2, sp2, st2, re2, r2, h2⟩ => by
      obtain ⟨i, rfl, h3⟩ := dPart_int st2 r2 h2
      exact ⟨i, rfl, d1, S2, α2, st2, r1.mono sp2, h3⟩
theorem eSlHi {p2 : Pos} (ha : PE X a (tE (wd X G XC) E ma)) (hb : PE X b (tE (wd X G XC) E mb)) : PE X (.Subscript a (.Slice none (some b) none p2) pos) (tE (wd X G XC) E fun env => do
      let x ← ma env
      let l ← mb env
      let l ← dPart l
      dSl x none l) :=
  PE.weak (pe_slice slAny ha po_none (po_some hb)) fun σ H Q ⟨env, S, α, st, re, h⟩ => (tE_of st re h).mono fun x H1 ⟨d1, S1, α1, sp1, st1, re1, r1, h1⟩ =>
    (tE_of st1 re1 h1).mono fun y H2 ⟨d2, S2, α2, sp2, st2, re2, r2, h2⟩ => by
      obtain ⟨i, rfl, h3⟩ := dPart_int st2 r2 h2
      exact ⟨i, rfl, d1, S2, α2, st2, r1.mono sp2, h3⟩
theorem eSlLH {p2 : Pos} (ha : PE X a (tE (wd X G XC) E ma)) (hb : PE X b (tE (wd X G XC) E mb)) (hc : PE X c (tE (wd X G XC) E mc)) : PE X (.Subscript a (.Slice (some b) (some c) none p2) pos) (tE (wd X G XC) E fun env => do
      let x ← ma env
      let l ← mb env
      let l ← dPart l
      let h ← mc env
      let h ← dPart h
      dSl x l h) :=
  PE.weak (pe_slice slAny ha (po_some hb) (po_some hc)) fun σ H Q ⟨env, S, α, st, re, h⟩ => (tE_of st re h).mono fun x H1 ⟨d1, S1, α1, sp1, st1, re1, r1, h1⟩ =>
    (tE_of st1 re1 h1).mono fun y H2 ⟨d2, S2, α2, sp2, st2, re2, r2, h2⟩ => by
      obtain ⟨i, rfl, h3⟩ := dPart_int st2 r2 h2
      refine ⟨i, rfl, (tE_of st2 re2 h3).mono fun z H3 ⟨d3, S3, α3, sp3, st3, re3, r3, h4⟩ => ?_⟩
      obtain ⟨j, rfl, h5⟩ := dPart_int st3 r3 h4
      exact ⟨j, rfl, d1, S3, α3, st3, (r1.mono sp2).mono sp3, h5⟩
/-! ### argument lists -/
variable {ms : Fr → M (List D)}
theorem eNil : PA X [] (tAs (wd X G XC) E fun _ => M.ret []) := PA.weak pa_nil fun σ H Q ⟨env, S, α, st, re, h⟩ => h _ _ Step.refl st _ .nil
theorem eCons (ha : PE X a (tE (wd X G XC) E ma)) (hr : PA X es (tAs (wd X G XC) E ms)) (hs : starEach (a :: es) X.env = (false, eval a X.env) :: starEach es X.env) : PA X (a :: es) (tAs (wd X G XC) E fun env => do
      let d ← ma env
      let ds ← ms env
      M.ret (d :: ds)) :=
  PA.weak (pa_cons ha hr hs) fun σ H Q ⟨env, S, α, st, re, h⟩ => (tE_of st re h).mono fun x H1 ⟨d1, S1, α1, sp1, st1, re1, r1, h1⟩ =>
    (tAs_of st1 re1 h1).mono fun xs H2 ⟨ds, S2, α2, sp2, st2, re2, r2, h2⟩ => h2 _ _ Step.refl st2 _ (.cons (r1.mono sp2) r2)
theorem eTup {k : Nat} (h : PA X es (tAs (wd X G XC) E ms)) : PE X (.Tuple es k pos) (tE (wd X G XC) E fun env => do
      let ds ← ms env
      if ds.length ≤ LINE then M.ret (.tup ds) else M.fail) :=
  PE.weak (pe_tup h) fun σ H Q ⟨env, S, α, st, re, h⟩ => (tAs_of st re h).mono fun xs H2 ⟨ds, S2, α2, sp2, st2, re2, r2, h2⟩ => by
    split at h2
    · rename_i hz
      exact ⟨by rw [line_eq, ← r2.length]; exact hz, fun p hp => new_tup st2 r2 h2 hp⟩
    · exact h2.elim
theorem eLst (h : PA X es (tAs (wd X G XC) E ms)) : PE X (.List es pos) (tE (wd X G XC) E fun env => do
      let ds ← ms env
      if ds.length ≤ LINE then alloc (.lst ds) else M.fail) :=
  PE.weak (pe_lst h) fun σ H Q ⟨env, S, α, st, re, h⟩ => (tAs_of st re h).mono fun xs H2 ⟨ds, S2, α2, sp2, st2, re2, r2, h2⟩ => by
    split at h2
    · rename_i hz
      exact ⟨by rw [line_eq, ← r2.length]; exact hz, fun p hp => new_lst st2 r2 h2 hp⟩
    · exact h2.elim
/-- f(..), f a built-in -/
theorem eBltF {id : String} {x : Str} {p : Pos} {f : List D → M D} (hc : CallR X (.builtin id) (vRL (wd X G XC) E f)) (hg : Gl X x) (hm : X.mg x = none) (hv : bootBuiltins x = some (.builtin id)) (h : PA X (a :: es) (tAs (wd X G XC) E ms)) (hn : x ≠ "__name__") (hdb : (x == ("__debug__" : Str)) = false)
    (he : starEach (a :: es) X.env = (false, eval a X.env) :: starEach es X.env) (hpl : (backTo pos (starEach es X.env)).any (·.1) = false) : PE X (.Call (.Name x p) (a :: es) [] pos) (tE (wd X G XC) E fun env => do
      let ds ← ms env
      f ds) :=
  PE.weak (pe_callB hc hg hm hv h hn hdb he hpl) fun σ H Q ⟨env, S, α, st, re, h⟩ => (tAs_of st re h).mono fun xs H2 ⟨ds, S2, α2, sp2, st2, re2, r2, h2⟩ => ⟨ds, S2, α2, st2, r2, h2⟩
theorem eBltT {T : String} {x : Str} {p : Pos} {f : List D → M D} (hc : CallR X (.type T) (vRL (wd X G XC) E f)) (hg : Gl X x) (hm : X.mg x = none) (hv : bootBuiltins x = some (.type T)) (h : PA X (a :: es) (tAs (wd X G XC) E ms)) (hn : x ≠ "__name__") (hdb : (x == ("__debug__" : Str)) = false)
    (he : starEach (a :: es) X.env = (false, eval a X.env) :: starEach es X.env) (hpl : (backTo pos (starEach es X.env)).any (·.1) = false) : PE X (.Call (.Name x p) (a :: es) [] pos) (tE (wd X G XC) E fun env => do
      let ds ← ms env
      f ds) :=
  PE.weak (pe_callTy hc hg hm hv h hn hdb he hpl) fun σ H Q ⟨env, S, α, st, re, h⟩ => (tAs_of st re h).mono fun xs H2 ⟨ds, S2, α2, sp2, st2, re2, r2, h2⟩ => ⟨ds, S2, α2, st2, r2, h2⟩
/-- isinstance(a, T) -/
theorem eIsi {t : Ty} {x y : Str} {p p2 : Pos} (hx : x = "isinstance") (hg : Gl X x) (hm : X.mg x = none) (hy : bootBuiltins y = some (.type t.name)) (hgy : Gl X y) (hmy : X.mg y = none) (hny : y ≠ "__name__") (hdy : (y == ("__debug__" : Str)) = false) (ha : PE X a (tE (wd X G XC) E ma))
    (he : starEach [a, .Name y p2] X.env = (false, eval a X.env) :: starEach [.Name y p2] X.env) : PE X (.Call (.Name x p) [a, .Name y p2] [] pos) (tE (wd X G XC) E fun env => do
      let v ← ma env
      dIsi t v) := by
  subst hx
  refine PE.weak (pe_callB (cIsi (G := G) (XC := XC) (E := E) t) hg hm (by decide +kernel) (pa_cons ha (pa_cons (pe_bltn (v := .ty t.name) hgy hmy hy rfl hny hdy) pa_nil) he) (by decide) (by decide) he rfl) fun σ H Q ⟨env, S, α, st, re, h⟩ => ?_
  exact (tE_of st re h).mono fun v H1 ⟨d1, S1, α1, sp1, st1, re1, r1, h1⟩ => ⟨v, rfl, d1, S1, α1, st1, r1, h1⟩
/-! ### calls of the program's functions -/
theorem eCallG {x : Str} {p : Pos} {f : Addr} {g : List D → M D} (hc : CallR X (.ref f) (vRL (wd X G XC) E g)) (hg : Gl X x) (hm : X.mg x = some (.ref f)) (hk : PySem.W.keepIn X.K (.ref f) = true) (h : PA X (a :: es) (tAs (wd X G XC) E ms)) (hdb : (x == ("__debug__" : Str)) = false)
    (he : starEach (a :: es) X.env = (false, eval a X.env) :: starEach es X.env) (hpl : (backTo pos (starEach es X.env)).any (·.1) = false) : PE X (.Call (.Name x p) (a :: es) [] pos) (tE (wd X G XC) E fun env => do
      let ds ← ms env
      g ds) := by
  refine ⟨fun pins s σ H Q I ⟨env, S, α, st, re, q⟩ => wpAny_Call_Name_kw (ld_glob I hg hm ?_ hdb)⟩
  refine PySem.W.callWith_K I.ok.mod.kin hk ?_ he hpl
  exact thn (h.run pos pins s σ H _ I (tAs_of st re q)) fun us s1 ⟨vs, H1, I1, r, ds, S1, α1, sp1, st1, re1, r1, h1⟩ =>
    ⟨I1.kIn, hc pins s1 σ H1 vs us Q I1 r ⟨ds, S1, α1, st1, r1, h1⟩⟩
theorem eCallG0 {x : Str} {p : Pos} {f : Addr} {g : List D → M D} (hc : CallR X (.ref f) (vRL (wd X G XC) E g)) (hg : Gl X x) (hm : X.mg x = some (.ref f)) (hk : PySem.W.keepIn X.K (.ref f) = true) (hdb : (x == ("__debug__" : Str)) = false) : PE X (.Call (.Name x p) [] [] pos) (tE (wd X G XC) E fun _ => do
      let ds ← M.ret []
      g ds) := by
  refine ⟨fun pins s σ H Q I ⟨env, S, α, st, re, q⟩ => wpAny_Call_Name_kw (ld_glob I hg hm ?_ hdb)⟩
  exact PySem.W.callWith_K0 I.kIn hk (hc pins s σ H [] [] Q I .nil ⟨[], S, α, st, .nil, (okM.bind q) _ _ Step.refl st⟩)
/-- a local that holds a function -/
theorem eCallV {x : Str} {p : Pos} {i : Nat} {C : Nat → List D → M D} (hc : ∀ j f, G j = some f → CallR X (.ref f) (vRL (wd X G XC) E (C j)) ∧ PySem.W.keepIn X.K (.ref f) = true) (hN : X.N[i]? = some x) (hv : Vis X.env.scope x) (h : PA X (a :: es) (tAs (wd X G XC) E ms)) (hdb : (x == ("__debug__" : Str)) = false) (hcd : (x == ("__classdict__" : Str)) = false)
    (he : starEach (a :: es) X.env = (false, eval a X.env) :: starEach es X.env) (hpl : (backTo pos (starEach es X.env)).any (·.1) = false) : PE X (.Call (.Name x p) (a :: es) [] pos) (tE (wd X G XC) E fun env => do
      let f ← getV env i
      match f with
      | .fn f => do
        let ds ← ms env
        C f ds
      | _ => M.fail) := by
  refine ⟨fun pins s σ H Q I ⟨env, S, α, st, re, q⟩ => wpAny_Call_Name_kw ?_⟩
  refine thn ((eVar (pos := p) (G := G) (XC := XC) (E := E) hN hv hdb hcd).run pins s σ H _ I (tE_of st re q)) fun u s1 ⟨v, H1, I1, r1, d1, S1, α1, sp1, st1, re1, rd1, h1⟩ => ?_
  cases d1 with
  | fn j =>
    cases rd1 with
    | fn hj =>
      cases r1
      obtain ⟨hc1, hk⟩ := hc _ _ hj
      refine PySem.W.callWith_K I.ok.mod.kin hk ?_ he hpl
      exact thn (h.run pos pins s1 σ H1 _ I1 (tAs_of st1 re1 h1)) fun us s2 ⟨vs, H2, I2, r, ds, S2, α2, sp2, st2, re2, r2, h2⟩ =>
        ⟨I2.kIn, hc1 pins s2 σ H2 vs us Q I2 r ⟨ds, S2, α2, st2, r2, h2⟩⟩
  | _ => exact h1.elim
/-! ### methods -/
theorem chk_ok {W : Wd} {E : XK} {H : Hp} {α : List Addr} {S : Store} {β : Type} {p : Store → Bool} {g : Unit → M β} {P : β → Store → Hp → List Addr → Prop} (st : StOk W H α S) (h : okM W E H α ((chk p >>= g) S) P) : p S = true ∧ okM W E H α (g () S) P := by
  have h := okM.bind h
  unfold chk at h
  by_cases e : p S = true
  · rw [if_pos e] at h
    exact ⟨e, h _ _ Step.refl st⟩
  · rw [if_neg e] at h
    exact h.elim
theorem eMth0 {T id : String} {name : Str} {apos : Pos} {f : D → List D → M D} {kd : D → Store → Bool} (pa : PlainAttrs T) (slot : Slot T name id) (hty : typeOf (.builtin id) = pure (.type "method_descriptor")) (hm : MtR X id (vRM (wd X G XC) E f))
    (hT : ∀ {H : Hp} {α : List Addr} {S : Store} {d : D} {x : V}, StOk (wd X G XC) H α S → RD (wd X G XC) H α d x → kd d S = true → tyV X.K T x H)
    (ha : PE X a (tE (wd X G XC) E ma)) (hbase : attributeBase a name X.env (eval a X.env) = eval a X.env) (hline : (apos.endLine == pos.line) = true) : PE X (.Call (.Attribute a name apos) [] [] pos) (tE (wd X G XC) E fun env => do
      let x ← ma env
      chk (kd x)
      let ds ← M.ret []
      f x ds) :=
  PE.weak (pe_bm0 pa slot hty hm ha hbase hline) fun σ H Q ⟨env, S, α, st, re, h⟩ => (tE_of st re h).mono fun x H1 ⟨d1, S1, α1, sp1, st1, re1, r1, h1⟩ => by
    obtain ⟨k, h1⟩ := chk_ok st1 h1
    have h2 := okM.bind h1 _ _ Step.refl st1
    exact ⟨hT st1 r1 k, d1, [], S1, α1, st1, r1, .nil, h2⟩
theorem eMth {T id : String} {name : Str} {apos : Pos} {f : D → List D → M D} {kd : D → Store → Bool} (pa : PlainAttrs T) (slot : Slot T name id) (hty : typeOf (.builtin id) = pure (.type "method_descriptor")) (hm : MtR X id (vRM (wd X G XC) E f))
    (hT : ∀ {H : Hp} {α : List Addr} {S : Store} {d : D} {x : V}, StOk (wd X G XC) H α S → RD (wd X G XC) H α d x → kd d S = true → tyV X.K T x H)
    (ha : PE X a (tE (wd X G XC) E ma)) (hs : PA X (b :: es) (tAs (wd X G XC) E ms)) (hbase : attributeBase a name X.env (eval a X.env) = eval a X.env)
    (hfew : ((backTo pos (starEach (b :: es) X.env)).all (fun x => !x.1) && (backToKw pos (keywordEach [] X.env)).all (fun x => x.1.isSome)
      && decide ((b :: es).length + ([] : List Keyword).length + (if ([] : List Keyword).isEmpty then 0 else 1) < 30)) = true)
    (hline : (apos.endLine == pos.line) = true) (he : starEach (b :: es) X.env = (false, eval b X.env) :: starEach es X.env) (hpl : (backTo pos (starEach es X.env)).any (·.1) = false) : PE X (.Call (.Attribute a name apos) (b :: es) [] pos) (tE (wd X G XC) E fun env => do
      let x ← ma env
      chk (kd x)
      let ds ← ms env
      f x ds) :=
  PE.weak (pe_bm pa slot hty hm ha hs hbase hfew hline he hpl) fun σ H Q ⟨env, S, α, st, re, h⟩ => (tE_of st re h).mono fun x H1 ⟨d1, S1, α1, sp1, st1, re1, r1, h1⟩ => by
    obtain ⟨k, h1⟩ := chk_ok st1 h1
    exact ⟨hT st1 r1 k, ⟨env, S1, α1, st1, re1, (okM.bind h1).mono fun ds S2 H2 α2 sp2 st2 h2 vs r2 => ⟨d1, ds, S2, α2, st2, r1.mono sp2, r2, h2⟩⟩⟩
end
end Ev
namespace Ev
open PySem PySem.Spec PyProof.Rows L2
/-! ### what is walked -/
/-- an iterator of HandS's over such items, from a state on -/
structure ItOk (W : Wd) (H0 : Hp) (α0 : List Addr) (J : It) (it : Its) : Prop where
  go : ∀ i H α S, Step W H0 α0 H α → StOk W H α S → it.ok S → i < it.ds.length → J.go i H
  stop : ∀ i H α S, Step W H0 α0 H α → StOk W H α S → it.ok S → it.ds.length ≤ i → J.stop i H
  yld : ∀ i H α S x H', Step W H0 α0 H α → StOk W H α S → it.ok S → i < it.ds.length → J.yld i H x H' → ∃ d, it.ds[i]? = some d ∧ Step W H α H' α ∧ StOk W H' α S ∧ RD W H' α d x
def tI (W : Wd) (E : XK) (mi : Fr → M Its) : TI := fun σ H R => ∃ env S α, StOk W H α S ∧ RE W H α env σ ∧ okM W E H α (mi env S) fun it _ H' α' => ∀ J, ItOk W H' α' J it → R J H'
section
variable {W : Wd} {H : Hp} {α : List Addr} {S : Store}
theorem itl_ok {n : Nat} {a : Addr} {xs : List D} {c : Cell} (ha : α[n]? = some a) (hc : ∀ {H α}, RC W H α a c → ∃ vs, SqL W.K H a vs ∧ RDs W H α xs vs) : ItOk W H α (Itl W.K a) ⟨xs, fun S => S[n]? = some c⟩ where
  go := fun i H' α' S' sp st e hi => by
    obtain ⟨vs, q, r⟩ := hc (st.at_ n c a e (sp.at_ ha))
    obtain ⟨v, h1, _⟩ := r.get (List.getElem?_eq_getElem hi)
    exact ⟨vs, v, q, h1⟩
  stop := fun i H' α' S' sp st e hi => by
    obtain ⟨vs, q, r⟩ := hc (st.at_ n c a e (sp.at_ ha))
    exact ⟨vs, q, by rw [← r.length]; exact hi⟩
  yld := fun i H' α' S' x H2 sp st e hi y => by
    obtain ⟨vs, q, r⟩ := hc (st.at_ n c a e (sp.at_ ha))
    obtain ⟨rfl, f⟩ := y
    obtain ⟨d, h1, h2⟩ := r.getV (f vs q)
    exact ⟨d, h1, Step.refl, st, h2⟩
theorem itt_ok {a : Addr} {xs : List D} {vs : List V} (q : SqT W.K H a vs) (r : RDs W H α xs vs) : ItOk W H α (Itt W.K a) ⟨xs, fun _ => True⟩ where
  go := fun i H' α' S' sp st _ hi => by
    obtain ⟨v, h1, _⟩ := r.get (List.getElem?_eq_getElem hi)
    exact ⟨vs, v, sp.tups _ _ q, h1⟩
  stop := fun i H' α' S' sp st e hi => ⟨vs, sp.tups _ _ q, by rw [← r.length]; exact hi⟩
  yld := fun i H' α' S' x H2 sp st e hi y => by
    obtain ⟨rfl, f⟩ := y
    obtain ⟨d, h1, h2⟩ := r.getV (f vs (sp.tups _ _ q))
    exact ⟨d, h1, Step.refl, st, h2.mono sp⟩
theorem itr_ok {lo : Int} {n : Nat} : ItOk W H α (Itr lo n) ⟨rngD lo n, fun _ => True⟩ where
  go := fun i H' α' S' sp st _ hi => by
    show i < n
    simpa [rngD] using hi
  stop := fun i H' α' S' sp st e hi => by
    show n ≤ i
    simpa [rngD] using hi
  yld := fun i H' α' S' x H2 sp st e hi y => by
    obtain ⟨rfl, rfl⟩ := y
    have hi : i < n := by simpa [rngD] using hi
    exact ⟨.int (lo + (i : Int)), by simp [rngD, hi], Step.refl, st, .int _⟩
theorem enumD_len : ∀ (i : Nat) (xs : List D), (enumD i xs).length = xs.length
  | _, [] => rfl
  | i, x :: xs => by rw [enumD, List.length_cons, List.length_cons, enumD_len (i + 1) xs]
theorem enumD_get : ∀ (k : Nat) (xs : List D) (i : Nat) (d : D), xs[i]? = some d → (enumD k xs)[i]? = some (.tup [.int (k + i : Nat), d])
  | _, [], _, _, h => by simp at h
  | k, x :: xs, 0, d, h => by
    simp at h
    subst h
    rfl
  | k, x :: xs, i + 1, d, h => by
    have e := enumD_get (k + 1) xs i d (by simpa using h)
    rw [enumD, List.getElem?_cons_succ, e]
    have e2 : k + 1 + i = k + (i + 1) := by omega
    rw [e2]
theorem zipD_len : ∀ (xs ys : List D), (zipD xs ys).length = min xs.length ys.length
  | [], _ => by simp [zipD]
  | _ :: _, [] => by simp [zipD]
  | x :: xs, y :: ys => by rw [zipD, List.length_cons, zipD_len xs ys, List.length_cons, List.length_cons]; omega
theorem zipD_get : ∀ (xs ys : List D) (i : Nat) (d e : D), xs[i]? = some d → ys[i]? = some e → (zipD xs ys)[i]? = some (.tup [d, e])
  | [], _, _, _, _, h, _ => by simp at h
  | _ :: _, [], _, _, _, _, h => by simp at h
  | x :: xs, y :: ys, 0, d, e, h, h2 => by
    simp at h h2
    subst h h2
    rfl
  | x :: xs, y :: ys, i + 1, d, e, h, h2 => by
    rw [zipD, List.getElem?_cons_succ]
    exact zipD_get xs ys i d e (by simpa using h) (by simpa using h2)
theorem new_pair {H' : Hp} {T : Addr} {d e : D} {x y : V} (st : StOk W H α S) (hT : H T = none) (eH : H' = upd H T (.tup [x, y])) (r1 : RD W H α d x) (r2 : RD W H α e y) : Step W H α H' α ∧ StOk W H' α S ∧ RD W H' α (.tup [d, e]) (.ref T) := by
  subst eH
  have sp := Step.fresh (W := W) (α := α) (o := .tup [x, y]) hT
  exact ⟨sp, st.fresh hT, .tup (.inl (.inl upd_same)) (.cons (r1.mono sp) (.cons (r2.mono sp) .nil))⟩
theorem seqIts_lst {n : Nat} {xs : List D} (h : S[n]? = some (.lst xs)) : seqIts (.ref n) S = .ok ⟨xs, fun S' => S'[n]? = some (.lst xs)⟩ S := by
  unfold seqIts
  simp only [h]
theorem seqIts_fro {n : Nat} {xs : List D} (h : S[n]? = some (.fro xs)) : seqIts (.ref n) S = .ok ⟨xs, fun S' => S'[n]? = some (.fro xs)⟩ S := by
  unfold seqIts
  simp only [h]
theorem seqIts_dic {n : Nat} {xs : List (Key × D)} (h : S[n]? = some (.dic xs)) : seqIts (.ref n) S = .bad := by
  unfold seqIts
  simp only [h]
/-- what a list of the store gives -/
structure LOk (W : Wd) (a : Addr) (n : Nat) (xs : List D) (p : Store → Prop) (α : List Addr) : Prop where
  ha : α[n]? = some a
  at_ : ∀ {H α S}, StOk W H α S → α[n]? = some a → p S → ∃ vs, SqL W.K H a vs ∧ RDs W H α xs vs
theorem seq_lok {E : XK} {n : Nat} {x : V} {β : Type} {g : Its → M β} {P : β → Store → Hp → List Addr → Prop} (st : StOk W H α S) (r : RD W H α (.ref n) x) (h : okM W E H α ((seqIts (.ref n) >>= g) S) P) :
    ∃ a it, x = .ref a ∧ LOk W a n it.ds it.ok α ∧ it.ok S ∧ okM W E H α (g it S) P := by
  cases r with
  | ref ha =>
    obtain ⟨c, h1, h2⟩ := st.cell ha
    have h := okM.bind h
    cases c with
    | lst xs =>
      rw [seqIts_lst h1] at h
      exact ⟨_, ⟨xs, fun S' => S'[n]? = some (.lst xs)⟩, rfl, ⟨ha, fun st e q => RC.sql (.inl (st.at_ _ _ _ q e))⟩, h1, h _ _ Step.refl st⟩
    | fro xs =>
      rw [seqIts_fro h1] at h
      exact ⟨_, ⟨xs, fun S' => S'[n]? = some (.fro xs)⟩, rfl, ⟨ha, fun st e q => RC.sql (.inr (st.at_ _ _ _ q e))⟩, h1, h _ _ Step.refl st⟩
    | dic kvs =>
      rw [seqIts_dic h1] at h
      exact h.elim
theorem LOk.it {a : Addr} {n : Nat} {xs : List D} {p : Store → Prop} (l : LOk W a n xs p α) : ItOk W H α (Itl W.K a) ⟨xs, p⟩ where
  go := fun i H' α' S' sp st e hi => by
    obtain ⟨vs, q, r⟩ := l.at_ st (sp.at_ l.ha) e
    obtain ⟨v, h1, _⟩ := r.get (List.getElem?_eq_getElem hi)
    exact ⟨vs, v, q, h1⟩
  stop := fun i H' α' S' sp st e hi => by
    obtain ⟨vs, q, r⟩ := l.at_ st (sp.at_ l.ha) e
    exact ⟨vs, q, by rw [← r.length]; exact hi⟩
  yld := fun i H' α' S' x H2 sp st e hi y => by
    obtain ⟨vs, q, r⟩ := l.at_ st (sp.at_ l.ha) e
    obtain ⟨rfl, f⟩ := y
    obtain ⟨d, h1, h2⟩ := r.getV (f vs q)
    exact ⟨d, h1, Step.refl, st, h2⟩
theorem LOk.enum {a : Addr} {n : Nat} {xs : List D} {p : Store → Prop} (l : LOk W a n xs p α) : ItOk W H α (Ite W.K a) ⟨enumD 0 xs, p⟩ where
  go := fun i H' α' S' sp st e hi => by
    obtain ⟨vs, q, r⟩ := l.at_ st (sp.at_ l.ha) e
    have hi : i < xs.length := by rw [← enumD_len 0 xs]; exact hi
    obtain ⟨v, h1, _⟩ := r.get (List.getElem?_eq_getElem hi)
    exact ⟨vs, v, q, h1⟩
  stop := fun i H' α' S' sp st e hi => by
    obtain ⟨vs, q, r⟩ := l.at_ st (sp.at_ l.ha) e
    have hi : xs.length ≤ i := by rw [← enumD_len 0 xs]; exact hi
    exact ⟨vs, q, by rw [← r.length]; exact hi⟩
  yld := fun i H' α' S' x H2 sp st e hi y => by
    obtain ⟨vs, q, r⟩ := l.at_ st (sp.at_ l.ha) e
    obtain ⟨T, x', rfl, hT, eH, f⟩ := y
    obtain ⟨d, h1, h2⟩ := r.getV (f vs q)
    have h3 := enumD_get 0 xs i d h1
    rw [Nat.zero_add] at h3
    exact ⟨_, h3, new_pair st hT eH (.int _) h2⟩
theorem LOk.zip {a b : Addr} {n m : Nat} {xs ys : List D} {p p2 : Store → Prop} (l : LOk W a n xs p α) (l2 : LOk W b m ys p2 α) : ItOk W H α (Itz W.K a b) ⟨zipD xs ys, fun S => p S ∧ p2 S⟩ where
  go := fun i H' α' S' sp st e hi => by
    obtain ⟨vs, q, r⟩ := l.at_ st (sp.at_ l.ha) e.1
    obtain ⟨vs2, q2, r2⟩ := l2.at_ st (sp.at_ l2.ha) e.2
    have hi : i < min xs.length ys.length := by rw [← zipD_len]; exact hi
    obtain ⟨v, h1, _⟩ := r.get (List.getElem?_eq_getElem (show i < xs.length by omega))
    obtain ⟨v2, h2, _⟩ := r2.get (List.getElem?_eq_getElem (show i < ys.length by omega))
    exact ⟨vs, vs2, v, v2, q, q2, h1, h2⟩
  stop := fun i H' α' S' sp st e hi => by
    obtain ⟨vs, q, r⟩ := l.at_ st (sp.at_ l.ha) e.1
    obtain ⟨vs2, q2, r2⟩ := l2.at_ st (sp.at_ l2.ha) e.2
    have hi : min xs.length ys.length ≤ i := by rw [← zipD_len]; exact hi
    exact ⟨vs, vs2, q, q2, by rw [← r.length, ← r2.length]; omega⟩
  yld := fun i H' α' S' x H2 sp st e hi y => by
    obtain ⟨vs, q, r⟩ := l.at_ st (sp.at_ l.ha) e.1
    obtain ⟨vs2, q2, r2⟩ := l2.at_ st (sp.at_ l2.ha) e.2
    obtain ⟨T, x', y', rfl, hT, eH, f, f2⟩ := y
    obtain ⟨d, h1, h2⟩ := r.getV (f vs q)
    obtain ⟨d2, h3, h4⟩ := r2.getV (f2 vs2 q2)
    exact ⟨_, zipD_get _ _ _ _ _ h1 h3, new_pair st hT eH h2 h4⟩
theorem zipT_ok {a b : Addr} {xs ys : List D} {vs vs2 : List V} (q : SqT W.K H a vs) (r : RDs W H α xs vs) (q2 : SqT W.K H b vs2) (r2 : RDs W H α ys vs2) : ItOk W H α (RZ.ItzT W.K a b) ⟨zipD xs ys, fun _ => True⟩ where
  go := fun i H' α' S' sp st _ hi => by
    have hi : i < min xs.length ys.length := by rw [← zipD_len]; exact hi
    obtain ⟨v, h1, _⟩ := r.get (List.getElem?_eq_getElem (show i < xs.length by omega))
    obtain ⟨v2, h2, _⟩ := r2.get (List.getElem?_eq_getElem (show i < ys.length by omega))
    exact ⟨vs, vs2, v, v2, sp.tups _ _ q, sp.tups _ _ q2, h1, h2⟩
  stop := fun i H' α' S' sp st e hi => by
    have hi : min xs.length ys.length ≤ i := by rw [← zipD_len]; exact hi
    exact ⟨vs, vs2, sp.tups _ _ q, sp.tups _ _ q2, by rw [← r.length, ← r2.length]; omega⟩
  yld := fun i H' α' S' x H2 sp st e hi y => by
    obtain ⟨T, x', y', rfl, hT, eH, f, f2⟩ := y
    obtain ⟨d, h1, h2⟩ := r.getV (f vs (sp.tups _ _ q))
    obtain ⟨d2, h3, h4⟩ := r2.getV (f2 vs2 (sp.tups _ _ q2))
    exact ⟨_, zipD_get _ _ _ _ _ h1 h3, new_pair st hT eH (h2.mono sp) (h4.mono sp)⟩
end
theorem itS_ok {W : Wd} {H : Hp} {α : List Addr} (x : Str) : ItOk W H α (L2.Its x) ⟨chrD x, fun _ => True⟩ where
  go := fun i H' α' S' sp st _ hi => by
    have hi : i < (chrD x).length := hi
    unfold chrD at hi
    rw [List.length_map, Array.length_toList] at hi
    exact hi
  stop := fun i H' α' S' sp st _ hi => by
    have hi : (chrD x).length ≤ i := hi
    unfold chrD at hi
    rw [List.length_map, Array.length_toList] at hi
    exact hi
  yld := fun i H' α' S' v H2 sp st _ hi y => by
    obtain ⟨rfl, c, h1, rfl⟩ := y
    refine ⟨.str ⟨#[c]⟩, ?_, Step.refl, st, .str _⟩
    show (chrD x)[i]? = _
    unfold chrD
    rw [List.getElem?_map, Array.getElem?_toList, h1]
    rfl
section
variable {X : Cx} {G XC : Nat → Option Addr} {E : XK} {a b c e tg : Expr} {es : List Expr} {ma mb mc : Fr → M D} {ms : Fr → M (List D)} {pos p tpos : Pos}
theorem iSeq (he : PE X e (tE (wd X G XC) E ma)) : PI X tg e (tI (wd X G XC) E fun env => do
      let d ← ma env
      seqIts d) := by
  refine ⟨fun pins s σ H R I ⟨env, S, α, st, re, h⟩ => thn (he.run pins s σ H _ I (tE_of st re h)) fun v s1 ⟨x, H1, I1, r1, d1, S1, α1, sp1, st1, re1, rd1, h1⟩ => ?_⟩
  cases d1 with
  | tup xs =>
    cases rd1 with
    | tup q r =>
      cases r1
      obtain ⟨its, _, t, _⟩ := I1.tuple q
      refine wpAny_pyIter_tuple (items := its.toArray) t ?_
      exact pi_one I1 _ (turn_tuple _ _) ⟨_, Heap.get?_push_size _ rfl, rfl, rfl⟩ (h1 _ _ Step.refl st1 _ (itt_ok q r))
  | ref n =>
    obtain ⟨ad, it, rfl, l, hit, h2⟩ := seq_lok st1 rd1 (okM.bnd_ret h1)
    cases r1
    obtain ⟨vs, q, _⟩ := l.at_ st1 l.ha hit
    obtain ⟨its, _, t, _⟩ := I1.list q
    refine wpAny_pyIter_list t.isList ?_
    exact pi_one I1 _ (turn_list _ _) ⟨_, Heap.get?_push_size _ rfl, rfl, rfl⟩ (h2 _ _ Step.refl st1 _ l.it)
  | str x =>
    cases rd1
    obtain ⟨t, rfl⟩ := r1
    have q := h1 _ _ Step.refl st1 _ (itS_ok x)
    cases ha : x.cps.all (· < 128)
    · exact wpAny_pyIter_wide ha (pi_one (tk := s1.toks) I1 _ (turn_str _ x t "str_iterator" (.inr rfl)) ⟨_, Heap.get?_push_size _ rfl, rfl, rfl⟩ q)
    · exact wpAny_pyIter_ascii ha (pi_one (tk := s1.toks) I1 _ (turn_str _ x t "str_ascii_iterator" (.inl rfl)) ⟨_, Heap.get?_push_size _ rfl, rfl, rfl⟩ q)
  | _ => exact h1.elim
theorem one_of {W : Wd} {E : XK} {H : Hp} {α : List Addr} {S : Store} {f : D → M Its} {P : Its → Store → Hp → List Addr → Prop} {ds : List D} {vs : List V} (r : RDs W H α ds vs) (h : okM W E H α (its1 f ds S) P) : ∃ d v, vs = [v] ∧ RD W H α d v ∧ okM W E H α (f d S) P := by
  match ds, r, h with
  | [d], .cons a .nil, h => exact ⟨d, _, rfl, a, h⟩
  | [], _, h => exact h.elim
  | _ :: _ :: _, _, h => exact h.elim
theorem two_of {W : Wd} {E : XK} {H : Hp} {α : List Addr} {S : Store} {f : D → D → M Its} {P : Its → Store → Hp → List Addr → Prop} {ds : List D} {vs : List V} (r : RDs W H α ds vs) (h : okM W E H α (its2 f ds S) P) : ∃ d v e u, vs = [v, u] ∧ RD W H α d v ∧ RD W H α e u ∧ okM W E H α (f d e S) P := by
  match ds, r, h with
  | [d, e], .cons a (.cons b .nil), h => exact ⟨d, _, e, _, rfl, a, b, h⟩
  | [], _, h => exact h.elim
  | [_], _, h => exact h.elim
  | _ :: _ :: _ :: _, _, h => exact h.elim
theorem iRng1 (hg : Gl X "range") (hm : X.mg "range" = none) (ha : PA X [a] (tAs (wd X G XC) E ms)) (hs : starEach [a] X.env = [(false, eval a X.env)]) : PI X tg (.Call (.Name "range" p) [a] [] pos) (tI (wd X G XC) E fun env => do
      let ds ← ms env
      its1 rng1Its ds) := by
  refine ⟨fun pins s σ H R I ⟨env, S, α, st, re, h⟩ => (pi_range1 hg hm ha hs).run pins s σ H R I ((tAs_of st re h).mono fun vs H1 ⟨ds, S1, α1, sp1, st1, re1, rd1, h1⟩ => ?_)⟩
  obtain ⟨d, v, rfl, r, h1⟩ := one_of rd1 h1
  cases d with
  | int j =>
    cases r
    by_cases hj : rngOk 0 j
    · simp only [rng1Its, if_pos hj] at h1
      exact ⟨j, rfl, hj.2.2.1, hj.2.2.2, h1 _ _ Step.refl st1 _ itr_ok⟩
    · simp only [rng1Its, if_neg hj] at h1
      exact h1.elim
  | _ => exact h1.elim
theorem iRng2 (hg : Gl X "range") (hm : X.mg "range" = none) (ha : PA X [a, b] (tAs (wd X G XC) E ms)) (hs : starEach [a, b] X.env = [(false, eval a X.env), (false, eval b X.env)]) (hs2 : starEach [b] X.env = [(false, eval b X.env)]) : PI X tg (.Call (.Name "range" p) [a, b] [] pos) (tI (wd X G XC) E fun env => do
      let ds ← ms env
      its2 rng2Its ds) := by
  refine ⟨fun pins s σ H R I ⟨env, S, α, st, re, h⟩ => (pi_range2 hg hm ha hs hs2).run pins s σ H R I ((tAs_of st re h).mono fun vs H1 ⟨ds, S1, α1, sp1, st1, re1, rd1, h1⟩ => ?_)⟩
  obtain ⟨d, v, e, u, rfl, r, r2, h1⟩ := two_of rd1 h1
  cases d with
  | int i =>
    cases e with
    | int j =>
      cases r
      cases r2
      by_cases hj : rngOk i j
      · simp only [rng2Its, if_pos hj] at h1
        exact ⟨i, j, rfl, hj, h1 _ _ Step.refl st1 _ itr_ok⟩
      · simp only [rng2Its, if_neg hj] at h1
        exact h1.elim
    | _ => exact h1.elim
  | _ => exact h1.elim
theorem iEnm {elts : List Expr} {kk : Nat} (hg : Gl X "enumerate") (hm : X.mg "enumerate" = none) (ha : PA X [a] (tAs (wd X G XC) E ms)) (hs : starEach [a] X.env = [(false, eval a X.env)]) : PI X (.Tuple elts kk tpos) (.Call (.Name "enumerate" p) [a] [] pos) (tI (wd X G XC) E fun env => do
      let ds ← ms env
      its1 enumIts ds) := by
  refine ⟨fun pins s σ H R I ⟨env, S, α, st, re, h⟩ => (pi_enum hg hm ha hs).run pins s σ H R I ((tAs_of st re h).mono fun vs H1 ⟨ds, S1, α1, sp1, st1, re1, rd1, h1⟩ => ?_)⟩
  obtain ⟨d, v, rfl, r, h1⟩ := one_of rd1 h1
  cases d with
  | ref n =>
    have h1 : okM (wd X G XC) E H1 α1 ((seqIts (.ref n) >>= fun it => M.ret (Its.mk (enumD 0 it.ds) it.ok)) S1) _ := h1
    obtain ⟨ad, it, rfl, l, hit, h2⟩ := seq_lok st1 r h1
    obtain ⟨vs, q, _⟩ := l.at_ st1 l.ha hit
    exact ⟨ad, vs, rfl, q, h2 _ _ Step.refl st1 _ l.enum⟩
  | _ => exact h1.elim
theorem iZip {elts : List Expr} {kk : Nat} (hg : Gl X "zip") (hm : X.mg "zip" = none) (ha : PA X [a, b] (tAs (wd X G XC) E ms)) (hs : starEach [a, b] X.env = (false, eval a X.env) :: starEach [b] X.env) (hpl : (backTo pos (starEach [b] X.env)).any (·.1) = false) : PI X (.Tuple elts kk tpos) (.Call (.Name "zip" p) [a, b] [] pos) (tI (wd X G XC) E fun env => do
      let ds ← ms env
      its2 zipIts ds) := by
  refine ⟨fun pins s σ H R I ⟨env, S, α, st, re, h⟩ => (RZ.pi_zipA hg hm ha hs hpl).run pins s σ H R I ((tAs_of st re h).mono fun vs H1 ⟨ds, S1, α1, sp1, st1, re1, rd1, h1⟩ => ?_)⟩
  obtain ⟨d, v, e, u, rfl, r, r2, h1⟩ := two_of rd1 h1
  cases d with
  | ref n =>
    cases e with
    | ref m =>
      have h1 : okM (wd X G XC) E H1 α1 ((seqIts (.ref n) >>= fun it => seqIts (.ref m) >>= fun it2 => M.ret (Its.mk (zipD it.ds it2.ds) (fun S => it.ok S ∧ it2.ok S))) S1) _ := h1
      obtain ⟨ad, it, rfl, l, hit, h2⟩ := seq_lok st1 r h1
      obtain ⟨ad2, it2, rfl, l2, hit2, h3⟩ := seq_lok st1 r2 h2
      obtain ⟨vs, q, _⟩ := l.at_ st1 l.ha hit
      obtain ⟨vs2, q2, _⟩ := l2.at_ st1 l2.ha hit2
      exact ⟨ad, ad2, vs, vs2, rfl, .inl ⟨q, q2, h3 _ _ Step.refl st1 _ (l.zip l2)⟩⟩
    | _ => exact h1.elim
  | tup xs =>
    cases e with
    | tup ys =>
      cases r with
      | tup q rq =>
        cases r2 with
        | tup q2 rq2 => exact ⟨_, _, _, _, rfl, .inr ⟨q, q2, h1 _ _ Step.refl st1 _ (zipT_ok q rq q2 rq2)⟩⟩
    | _ => exact h1.elim
  | _ => exact h1.elim
/-! ### targets -/
/-- what the slots' stores keep: a reflexive, transitive relation -/
structure Rl where
  r : L2.St → L2.St → Prop
  rf : ∀ σ, r σ σ
  tr : ∀ σ1 σ2 σ3, r σ1 σ2 → r σ2 σ3 → r σ1 σ3
def Rl.any : Rl := ⟨fun _ _ => True, fun _ => trivial, fun _ _ _ _ _ => trivial⟩
/-- all but the slots at vs -/
def Rl.but (vs : List Nat) : Rl := ⟨fun σ σ' => L2.wipe σ' vs = L2.wipe σ vs, fun _ => rfl, fun _ _ _ a b => b.trans a⟩
def tG (Rr : Rl) (W : Wd) (E : XK) (put : D → Fr → M Fr) : TG := fun v σ H Q => ∃ d env S α, StOk W H α S ∧ RE W H α env σ ∧ RD W H α d v ∧ okM W E H α (put d env S) fun env' _ H' α' => ∀ σ', RE W H' α' env' σ' → Rr.r σ σ' → Q σ' H'
def tGs (Rr : Rl) (W : Wd) (E : XK) (put : List D → Fr → M Fr) : TGs := fun vs σ H Q => ∃ ds env S α, StOk W H α S ∧ RE W H α env σ ∧ RDs W H α ds vs ∧ okM W E H α (put ds env S) fun env' _ H' α' => ∀ σ', RE W H' α' env' σ' → Rr.r σ σ' → Q σ' H'
theorem PG.weak {t t' : TG} (h : PG X tg t) (k : ∀ v σ H Q, t' v σ H Q → t v σ H Q) : PG X tg t' := ⟨fun pins s σ H v u Q I r q => h.run pins s σ H v u Q I r (k v σ H Q q)⟩
theorem PGs.weak {es : List Expr} {t t' : TGs} (h : PGs X es t) (k : ∀ v σ H Q, t' v σ H Q → t v σ H Q) : PGs X es t' := ⟨fun pins s σ H v u Q I r q => h.run pins s σ H v u Q I r (k v σ H Q q)⟩
variable {Rr : Rl}
theorem gNm {i : Nat} {x : Str} (hN : X.N.Nodup) (hi : X.N[i]? = some x) (hx : Loc X.env.scope x) (hf : X.fn x = true ∨ X.env.scope.names.lookup x = some .local) (hR : ∀ σ v, Rr.r σ (σ.set i v)) : PG X (.Name x pos) (tG Rr (wd X G XC) E (T.put (.nm i))) :=
  PG.weak (pg_name hN hi hx hf) fun v σ H Q ⟨d, env, S, α, st, re, r, h⟩ => h _ _ Step.refl st _ (re.set r i) (hR _ _)
theorem gNil : PGs X [] (tGs Rr (wd X G XC) E (T.puts [])) :=
  PGs.weak pgs_nil fun v σ H Q ⟨d, env, S, α, st, re, r, h⟩ => by
    cases r with
    | nil =>
      rw [T.puts] at h
      exact ⟨rfl, h _ _ Step.refl st _ re (Rr.rf _)⟩
    | cons _ _ =>
      rw [T.puts] at h
      exact h.elim
theorem gCns {t : T} {ts : List T} (h1 : PG X e (tG Rr (wd X G XC) E t.put)) (h2 : PGs X es (tGs Rr (wd X G XC) E (T.puts ts))) (hs : (assignEach (e :: es) X.env).map (·.2) = assign e X.env :: (assignEach es X.env).map (·.2)) : PGs X (e :: es) (tGs Rr (wd X G XC) E (T.puts (t :: ts))) :=
  PGs.weak (pgs_cons h1 h2 hs) fun v σ H Q ⟨d, env, S, α, st, re, r, h⟩ => by
    cases r with
    | nil =>
      rw [T.puts] at h
      exact h.elim
    | cons a b =>
      rw [T.puts] at h
      exact ⟨_, _, rfl, _, env, S, α, st, re, a, (okM.bind h).mono fun env' S' H' α' sp st' q σ' re' rr => ⟨_, env', S', α', st', re', b.mono sp, q.mono fun _ _ _ _ _ _ q2 σ2 re2 rr2 => q2 σ2 re2 (Rr.tr _ _ _ rr rr2)⟩⟩
theorem gTp {k : Nat} {ts : List T} (hc : X.calm = true) (h : PGs X es (tGs Rr (wd X G XC) E (T.puts ts))) (hn : (assignEach es X.env).length = ts.length) (hst : (assignEach es X.env).findIdx? (·.1) = none) : PG X (.Tuple es k pos) (tG Rr (wd X G XC) E (T.put (.tup ts))) :=
  PG.weak (pg_tup hc h hn hst) fun v σ H Q ⟨d, env, S, α, st, re, r, h⟩ => by
    rw [T.put] at h
    cases d with
    | tup ds =>
      cases r with
      | tup q rs =>
        by_cases hl : ds.length = ts.length
        · simp only [onTup, if_pos hl] at h
          exact ⟨_, _, rfl, q, by rw [← rs.length]; exact hl, ds, env, S, α, st, re, rs, h⟩
        · simp only [onTup, if_neg hl] at h
          exact h.elim
    | _ => exact h.elim
/-! ### statements -/
/-- what follows by the flow -/
def post (W : Wd) (D : Ends) (r : Fl × Fr) (H : Hp) (α : List Addr) : Prop := match r.1 with
  | .nx => ∀ σ', RE W H α r.2 σ' → D.nx σ' H
  | .rt d => ∀ v, RD W H α d v → D.rt v H
  | .bk => ∀ σ', RE W H α r.2 σ' → D.bk σ' H
  | .ct => ∀ σ', RE W H α r.2 σ' → D.ct σ' H
def tS (W : Wd) (E : XK) (m : Fr → M (Fl × Fr)) : TS := fun D σ H => ∃ env S α, StOk W H α S ∧ RE W H α env σ ∧ okM W E H α (m env S) fun r _ H' α' => post W D r H' α'
theorem PS.weak {st : Stmt} {t t' : TS} (h : PS X st t) (k : ∀ D σ H, t' D σ H → t D σ H) : PS X st t' := ⟨fun pins s σ H D I q => h.run pins s σ H D I (k D σ H q)⟩
theorem PSs.weak {st : List Stmt} {t t' : TS} (h : PSs X st t) (k : ∀ D σ H, t' D σ H → t D σ H) : PSs X st t' := ⟨fun pins s σ H D I q => h.run pins s σ H D I (k D σ H q)⟩
variable {st : Stmt} {rest body orelse : List Stmt} {m n : Fr → M (Fl × Fr)}
theorem sNil : PSs X [] (tS (wd X G XC) E fun env => M.ret (.nx, env)) := PSs.weak pss_nil fun D σ H ⟨env, S, α, st, re, h⟩ => h _ _ Step.refl st σ re
theorem sCons (h1 : PS X st (tS (wd X G XC) E m)) (h2 : PSs X rest (tS (wd X G XC) E n)) : PSs X (st :: rest) (tS (wd X G XC) E (seqM m n)) :=
  PSs.weak (pss_cons h1 h2) fun D σ H ⟨env, S, α, st, re, h⟩ => ⟨env, S, α, st, re, (okM.bind h).mono fun r S' H' α' sp st' q => by
    obtain ⟨f, env'⟩ := r
    cases f with
    | nx => exact fun σ' re' => ⟨env', S', α', st', re', q⟩
    | rt d => exact q _ _ Step.refl st'
    | bk => exact q _ _ Step.refl st'
    | ct => exact q _ _ Step.refl st'⟩
theorem sPass : PS X (.Pass pos) (tS (wd X G XC) E fun env => M.ret (.nx, env)) := PS.weak ps_pass fun D σ H ⟨env, S, α, st, re, h⟩ => h _ _ Step.refl st σ re
theorem sBrk : PS X (.Break pos) (tS (wd X G XC) E fun env => M.ret (.bk, env)) := PS.weak ps_break fun D σ H ⟨env, S, α, st, re, h⟩ => h _ _ Step.refl st σ re
theorem sCont : PS X (.Continue pos) (tS (wd X G XC) E fun env => M.ret (.ct, env)) := PS.weak ps_continue fun D σ H ⟨env, S, α, st, re, h⟩ => h _ _ Step.refl st σ re
theorem sRet (he : PE X e (tE (wd X G XC) E ma)) : PS X (.Return (some e) pos) (tS (wd X G XC) E fun env => do
      let d ← ma env
      M.ret (.rt d, env)) :=
  PS.weak (ps_ret he) fun D σ H ⟨env, S, α, st, re, h⟩ => (tE_of st re h).mono fun v H1 ⟨d1, S1, α1, sp1, st1, re1, r1, h1⟩ => h1 _ _ Step.refl st1 v r1
theorem sRetN : PS X (.Return none pos) (tS (wd X G XC) E fun env => M.ret (.rt .non, env)) := PS.weak ps_retN fun D σ H ⟨env, S, α, st, re, h⟩ => h _ _ Step.refl st _ .non
theorem sDrop (he : PE X e (tE (wd X G XC) E ma)) (hs : swapsWith e none pos.line X.env = pure false) : PS X (.Expr e pos) (tS (wd X G XC) E fun env => do
      let _ ← ma env
      M.ret (.nx, env)) :=
  PS.weak (ps_expr he hs) fun D σ H ⟨env, S, α, st, re, h⟩ => (tE_of st re h).mono fun v H1 ⟨d1, S1, α1, sp1, st1, re1, r1, h1⟩ => h1 _ _ Step.refl st1 σ re1
theorem sIf (hc : PT X c (tT (wd X G XC) E mc)) (ha : PSs X body (tS (wd X G XC) E m)) (hb : PSs X orelse (tS (wd X G XC) E n)) : PS X (.If c body orelse pos) (tS (wd X G XC) E fun env => do
      let t ← mc env
      tru t (m env) (n env)) :=
  PS.weak (ps_if hc ha hb) fun D σ H ⟨env, S, α, st, re, h⟩ => (tT_of st re h).mono fun k H1 ⟨S1, α1, sp1, st1, re1, h1⟩ => by
    cases k with
    | true =>
      rw [if_pos rfl] at h1 ⊢
      exact ⟨env, S1, α1, st1, re1, h1⟩
    | false =>
      rw [if_neg Bool.false_ne_true] at h1 ⊢
      exact ⟨env, S1, α1, st1, re1, h1⟩
theorem sSet {i : Nat} {x : Str} {p2 : Pos} (hN : X.N.Nodup) (hi : X.N[i]? = some x) (hx : Loc X.env.scope x) (he : PE X e (tE (wd X G XC) E ma)) (hs : swapsWith e (some (.Name x p2)) pos.line X.env = pure false) (hf : X.fn x = true ∨ X.env.scope.names.lookup x = some .local) : PS X (.Assign [.Name x p2] e pos) (tS (wd X G XC) E fun env => do
      let d ← ma env
      M.ret (.nx, env.set i (some d))) :=
  PS.weak (ps_set hN hi hx he hs hf) fun D σ H ⟨env, S, α, st, re, h⟩ => (tE_of st re h).mono fun v H1 ⟨d1, S1, α1, sp1, st1, re1, r1, h1⟩ => h1 _ _ Step.refl st1 _ (re1.set r1 i)
theorem sAsg {t : T} (he : PE X e (tE (wd X G XC) E ma)) (hg : PG X tg (tG Rl.any (wd X G XC) E t.put)) (hs : swapsWithSole [tg] e pos.line X.env = pure false) (hw : swappedStores [tg] e X.env = pure none) (h1 : (assignEach [tg] X.env).map (·.2) = [assign tg X.env]) : PS X (.Assign [tg] e pos) (tS (wd X G XC) E fun env => do
      let d ← ma env
      let env' ← t.put d env
      M.ret (.nx, env')) :=
  PS.weak (ps_asg he hg hs hw h1) fun D σ H ⟨env, S, α, st, re, h⟩ => (tE_of st re h).mono fun v H1 ⟨d1, S1, α1, sp1, st1, re1, r1, h1⟩ => ⟨d1, env, S1, α1, st1, re1, r1, (okM.bind h1).mono fun env' S2 H2 α2 sp2 st2 h2 σ' re' _ => h2 _ _ Step.refl st2 σ' re'⟩
/-- o[i] = e -/
theorem sSub {p2 : Pos} (he : PE X e (tE (wd X G XC) E ma)) (ho : PE X a (tE (wd X G XC) E mb)) (hi : PE X b (tE (wd X G XC) E mc))
    (ha : ∀ v, assign (.Subscript a b p2) X.env v = (do
      let ov ← holding [v] (eval a X.env)
      let iv ← holding [v, ov] (eval b X.env)
      standAt p2
      holding [v, ov, iv] (setItem ov iv v)
      release [v, ov, iv] []))
    (hs : swapsWithSole [.Subscript a b p2] e pos.line X.env = pure false) (hw : swappedStores [.Subscript a b p2] e X.env = pure none) (h1 : (assignEach [.Subscript a b p2] X.env).map (·.2) = [assign (.Subscript a b p2) X.env]) :
    PS X (.Assign [.Subscript a b p2] e pos) (tS (wd X G XC) E fun env => do
      let d ← ma env
      let o ← mb env
      let i ← mc env
      dSet o i d
      M.ret (.nx, env)) :=
  PS.weak (ps_asg he (pg_sub ho hi (setAny (G := G) (XC := XC) (E := E)) ha) hs hw h1) fun D σ H ⟨env, S, α, st, re, h⟩ => (tE_of st re h).mono fun v H1 ⟨d1, S1, α1, sp1, st1, re1, r1, h1⟩ =>
    (tE_of st1 re1 h1).mono fun o H2 ⟨d2, S2, α2, sp2, st2, re2, r2, h2⟩ => (tE_of st2 re2 h2).mono fun i H3 ⟨d3, S3, α3, sp3, st3, re3, r3, h3⟩ =>
      ⟨d2, d3, d1, S3, α3, st3, r2.mono sp3, r3, (r1.mono sp2).mono sp3, (okM.bind h3).mono fun _ S4 H4 α4 sp4 st4 h4 => h4 _ _ Step.refl st4 σ (re3.mono sp4)⟩
end
end Ev
namespace Ev
open PySem PySem.Spec PyProof.Rows L2
section
variable {W : Wd} {E : XK} {H H1 : Hp} {α α1 : List Addr} {S S1 : Store}
mutual
/-- what a datum leans on: the tuples, the places -/
theorem RD.ext (ht : ∀ a xs, SqT W.K H a xs → SqT W.K H1 a xs) : ∀ {d : D} {v : V}, RD W H α d v → RD W H1 α d v
  | _, _, .non => .non
  | _, _, .bl b => .bl b
  | _, _, .int i => .int i
  | _, _, .str x => .str x
  | _, _, .tup h r => .tup (ht _ _ h) (RDs.ext ht r)
  | _, _, .ref h => .ref h
  | _, _, .fn h => .fn h
theorem RDs.ext (ht : ∀ a xs, SqT W.K H a xs → SqT W.K H1 a xs) : ∀ {ds : List D} {vs : List V}, RDs W H α ds vs → RDs W H1 α ds vs
  | _, _, .nil => .nil
  | _, _, .cons a b => .cons (RD.ext ht a) (RDs.ext ht b)
end
theorem RKs.ext (ht : ∀ a xs, SqT W.K H a xs → SqT W.K H1 a xs) : ∀ {ds : List (Key × D)} {vs : List (Key × V)}, RKs W H α ds vs → RKs W H1 α ds vs
  | _, _, .nil => .nil
  | _, _, .cons a b => .cons (a.ext ht) (RKs.ext ht b)
theorem RC.ext (ht : ∀ a xs, SqT W.K H a xs → SqT W.K H1 a xs) {a : Addr} {c : Cell} (h : RC W H α a c) (k2 : H1 a = H a) : RC W H1 α a c := by
  cases h with
  | lst e r => exact .lst (by rw [k2]; exact e) (r.ext ht)
  | fro e r =>
    obtain ⟨o, e⟩ := e
    exact .fro ⟨o, by rw [k2]; exact e⟩ (r.ext ht)
  | dic e r => exact .dic (by rw [k2]; exact e) (r.ext ht)
mutual
theorem RD.grow (hp : ∀ {n : Nat} {a : Addr}, α[n]? = some a → α1[n]? = some a) : ∀ {d : D} {v : V}, RD W H α d v → RD W H α1 d v
  | _, _, .non => .non
  | _, _, .bl b => .bl b
  | _, _, .int i => .int i
  | _, _, .str x => .str x
  | _, _, .tup h r => .tup h (RDs.grow hp r)
  | _, _, .ref h => .ref (hp h)
  | _, _, .fn h => .fn h
theorem RDs.grow (hp : ∀ {n : Nat} {a : Addr}, α[n]? = some a → α1[n]? = some a) : ∀ {ds : List D} {vs : List V}, RDs W H α ds vs → RDs W H α1 ds vs
  | _, _, .nil => .nil
  | _, _, .cons a b => .cons (RD.grow hp a) (RDs.grow hp b)
end
theorem RKs.grow (hp : ∀ {n : Nat} {a : Addr}, α[n]? = some a → α1[n]? = some a) : ∀ {ds : List (Key × D)} {vs : List (Key × V)}, RKs W H α ds vs → RKs W H α1 ds vs
  | _, _, .nil => .nil
  | _, _, .cons a b => .cons (a.grow hp) (RKs.grow hp b)
theorem RC.grow (hp : ∀ {n : Nat} {a : Addr}, α[n]? = some a → α1[n]? = some a) {a : Addr} {c : Cell} (h : RC W H α a c) : RC W H α1 a c := by
  cases h with
  | lst e r => exact .lst e (r.grow hp)
  | fro e r => exact .fro e (r.grow hp)
  | dic e r => exact .dic e (r.grow hp)
/-- a list that the store does not number is written -/
theorem StOk.other {p : Addr} {xs ys : List V} (st : StOk W H α S) (hp : p ∉ α) (e : H p = some (.lst xs)) : StOk W (upd H p (.lst ys)) α S :=
  ⟨st.len, st.nd, fun n c a e1 e2 => (st.at_ n c a e1 e2).ext (fun _ _ h => sqT_upd (fun _ q => by rw [e] at q; cases q) (fun _ _ q => by rw [e] at q; cases q) h) (upd_ne fun z => hp (z ▸ List.mem_iff_getElem?.mpr ⟨n, e2⟩))⟩
theorem Step.other {p : Addr} {xs ys : List V} (s : Step W H α H1 α1) (hp : H p = none) (e : H1 p = some (.lst xs)) : Step W H α (upd H1 p (.lst ys)) α1 :=
  { pre := s.pre
    keep := fun a o q n => by rw [upd_ne (ne_of_none q hp)]; exact s.keep a o q n
    live := fun a o q => by rw [upd_ne (ne_of_none q hp)]; exact s.live a o q
    tups := fun a zs q => sqT_upd (fun _ q => by rw [e] at q; cases q) (fun _ _ q => by rw [e] at q; cases q) (s.tups a zs q) }
/-- .. and is then numbered -/
theorem StOk.add {p : Addr} {xs : List V} {ds : List D} (st : StOk W H α S) (hp : p ∉ α) (e : H p = some (.lst xs)) (r : RDs W H α ds xs) : StOk W H (α ++ [p]) (S ++ [.lst ds]) := by
  have old : ∀ {n : Nat} {a : Addr}, (α ++ [p])[n]? = some a → (n < S.length ∧ α[n]? = some a) ∨ (n = S.length ∧ a = p) := fun {n a} e => by
    by_cases hn : n < S.length
    · rw [List.getElem?_append_left (by rw [st.len]; exact hn)] at e
      exact .inl ⟨hn, e⟩
    · have h1 := (List.getElem?_eq_some_iff.mp e).1
      rw [List.length_append, List.length_singleton, st.len] at h1
      have e2 : n = S.length := by omega
      subst e2
      rw [← st.len] at e
      exact .inr ⟨rfl, by have q : p = a := by simpa using e
                          exact q.symm⟩
  have up : ∀ {n : Nat} {a : Addr}, α[n]? = some a → (α ++ [p])[n]? = some a := fun {n a} q => by
    rw [List.getElem?_append_left (List.getElem?_eq_some_iff.mp q).1]; exact q
  refine ⟨by simp [st.len], fun n m a e1 e2 => ?_, fun n c a e1 e2 => ?_⟩
  · rcases old e1 with ⟨n1, n2⟩ | ⟨n1, n2⟩
    · rcases old e2 with ⟨m1, m2⟩ | ⟨m1, m2⟩
      · exact st.nd n m a n2 m2
      · subst m2
        exact absurd (List.mem_iff_getElem?.mpr ⟨n, n2⟩) hp
    · rcases old e2 with ⟨m1, m2⟩ | ⟨m1, m2⟩
      · subst n2
        exact absurd (List.mem_iff_getElem?.mpr ⟨m, m2⟩) hp
      · exact n1.trans m1.symm
  · rcases old e2 with ⟨n1, n2⟩ | ⟨n1, n2⟩
    · rw [List.getElem?_append_left n1] at e1
      exact RC.grow up (st.at_ n c a e1 n2)
    · subst n1 n2
      have q1 : Cell.lst ds = c := by simpa using e1
      subst q1
      exact .lst e (RDs.grow up r)
end
section
variable {X : Cx} {G XC : Nat → Option Addr} {E : XK} {a b c e tg iter elt : Expr} {es : List Expr} {ma mb mc me : Fr → M D} {ms : Fr → M (List D)} {mi : Fr → M Its} {pos p tpos : Pos} {st : Stmt} {rest body orelse : List Stmt} {m n : Fr → M (Fl × Fr)}
/-! ### while -/
theorem whileN_succ (k : Nat) (env : Fr) : whileN mc m (k + 1) env = (do
    let t ← mc env
    tru t (do
      let r ← m env
      match r.1 with
      | .nx => whileN mc m k r.2
      | .ct => whileN mc m k r.2
      | .bk => M.ret (.nx, r.2)
      | .rt d => M.ret (.rt d, r.2)) (M.ret (.nx, env))) := rfl
theorem sWhile (hp : PassesOwn (model X.prog X.w) X.A X.env X.xe) (hc : PT X c (tT (wd X G XC) E mc)) (hb : PSs X body (tS (wd X G XC) E m)) : PS X (.While c body [] pos) (tS (wd X G XC) E (whileF mc m)) := by
  refine PS.weak (ps_while hp hc hb) fun D σ H ⟨env, S, α, st, re, h⟩ => ?_
  unfold whileF at h
  by_cases hx : ∃ n, ¬ (whileN mc m n env S).isBad
  · rw [dif_pos hx] at h
    refine ⟨fun k σ H => ∃ env S α, StOk (wd X G XC) H α S ∧ RE (wd X G XC) H α env σ ∧ okM (wd X G XC) E H α (whileN mc m k env S) (fun r _ H' α' => post (wd X G XC) D r H' α'), ⟨_, env, S, α, st, re, h⟩, ?_⟩
    rintro k σ H ⟨env, S, α, st, re, h⟩
    cases k with
    | zero => exact h.elim
    | succ k =>
      rw [whileN_succ] at h
      refine (tT_of st re h).mono fun t H1 ⟨S1, α1, sp1, st1, re1, h1⟩ => ?_
      cases t with
      | true =>
        rw [if_pos rfl] at h1 ⊢
        refine ⟨_, fun σ' H' w => ⟨k, Nat.lt_succ_self k, w⟩, env, S1, α1, st1, re1, (okM.bind h1).mono fun r S2 H2 α2 sp2 st2 h2 => ?_⟩
        obtain ⟨f, env'⟩ := r
        cases f with
        | nx => exact fun σ' re' => ⟨env', S2, α2, st2, re', h2⟩
        | ct => exact fun σ' re' => ⟨env', S2, α2, st2, re', h2⟩
        | bk => exact h2 _ _ Step.refl st2
        | rt d => exact h2 _ _ Step.refl st2
      | false =>
        rw [if_neg Bool.false_ne_true] at h1 ⊢
        exact h1 _ _ Step.refl st1 _ re1
  · rw [dif_neg hx] at h
    exact h.elim
/-! ### for -/
theorem guard_ok {W : Wd} {E : XK} {H : Hp} {α : List Addr} {S : Store} {β : Type} {q : Store → Prop} {g : Unit → M β} {P : β → Store → Hp → List Addr → Prop} (st : StOk W H α S) (h : okM W E H α ((guard q >>= g) S) P) : q S ∧ okM W E H α (g () S) P := by
  have h := okM.bind h
  unfold guard at h
  by_cases e : q S
  · rw [if_pos e] at h
    exact ⟨e, h _ _ Step.refl st⟩
  · rw [if_neg e] at h
    exact h.elim
theorem loopF_nil {q : Store → Prop} {put : D → Fr → M Fr} (env : Fr) : loopF q put m [] env = (do
    guard q
    M.ret (.nx, env)) := rfl
theorem loopF_cons {q : Store → Prop} {put : D → Fr → M Fr} (d : D) (ds : List D) (env : Fr) : loopF q put m (d :: ds) env = (do
    guard q
    let env ← put d env
    let r ← m env
    match r.1 with
    | .nx => loopF q put m ds r.2
    | .ct => loopF q put m ds r.2
    | .bk => M.ret (.nx, r.2)
    | .rt d => M.ret (.rt d, r.2)) := rfl
theorem sFor {t : T} (hp : PassesOwn (model X.prog X.w) X.A X.env X.xe) (hc : X.calm = true) (hi : PI X tg iter (tI (wd X G XC) E mi)) (hg : PG X tg (tG Rl.any (wd X G XC) E t.put)) (hb : PSs X body (tS (wd X G XC) E m)) (hs : ∀ x, foldedSetIterable iter X.env x = pure x) :
    PS X (.For tg iter body [] pos) (tS (wd X G XC) E fun env => do
      let it ← mi env
      loopF it.ok t.put m it.ds env) := by
  refine PS.weak (ps_for hp hc hi hg hb hs) fun D σ H ⟨env, S, α, st, re, h⟩ => ⟨env, S, α, st, re, (okM.bind h).mono fun it S1 H1 α1 sp1 st1 h1 J ok => ?_⟩
  refine ⟨fun i k σ H => ∃ env S α, k = it.ds.length - i ∧ i ≤ it.ds.length ∧ Step (wd X G XC) H1 α1 H α ∧ StOk (wd X G XC) H α S ∧ RE (wd X G XC) H α env σ ∧
    okM (wd X G XC) E H α (loopF it.ok t.put m (it.ds.drop i) env S) (fun r _ H' α' => post (wd X G XC) D r H' α'), ⟨_, env, S1, α1, rfl, Nat.zero_le _, Step.refl, st1, re.mono sp1, by rw [List.drop_zero]; exact h1⟩, ?_⟩
  rintro i k σ H ⟨env, S, α, rfl, hi, sp, st, re, h⟩
  by_cases hl : i < it.ds.length
  · rw [List.drop_eq_getElem_cons hl, loopF_cons] at h
    obtain ⟨gd, h⟩ := guard_ok st h
    refine .inr ⟨ok.go i H α S sp st gd hl, fun σ' H' => ∃ env S α, i + 1 ≤ it.ds.length ∧ Step (wd X G XC) H1 α1 H' α ∧ StOk (wd X G XC) H' α S ∧ RE (wd X G XC) H' α env σ' ∧
      okM (wd X G XC) E H' α (loopF it.ok t.put m (it.ds.drop (i + 1)) env S) (fun r _ H' α' => post (wd X G XC) D r H' α'), fun σ' H' ⟨env, S, α, a1, a2, a3, a4, a5⟩ => ⟨it.ds.length - (i + 1), by omega, env, S, α, rfl, a1, a2, a3, a4, a5⟩, fun x H' y => ?_⟩
    obtain ⟨d, e1, sp2, st2, rd⟩ := ok.yld i H α S x H' sp st gd hl y
    have e2 : it.ds[i] = d := by rw [List.getElem?_eq_getElem hl] at e1; exact Option.some.inj e1
    rw [e2] at h
    refine ⟨d, env, S, α, st2, re.mono sp2, rd, (okM.bind (h.step sp2)).mono fun env' S3 H3 α3 sp3 st3 h3 σ' re' _ => ⟨env', S3, α3, st3, re', (okM.bind h3).mono fun r S4 H4 α4 sp4 st4 h4 => ?_⟩⟩
    obtain ⟨f, env4⟩ := r
    cases f with
    | nx => exact fun σ2 re2 => ⟨env4, S4, α4, hl, ((sp.trans sp2).trans sp3).trans sp4, st4, re2, h4⟩
    | ct => exact fun σ2 re2 => ⟨env4, S4, α4, hl, ((sp.trans sp2).trans sp3).trans sp4, st4, re2, h4⟩
    | bk => exact h4 _ _ Step.refl st4
    | rt d => exact h4 _ _ Step.refl st4
  · have hi2 : it.ds.length ≤ i := by omega
    rw [List.drop_of_length_le hi2, loopF_nil] at h
    obtain ⟨gd, h⟩ := guard_ok st h
    exact .inl ⟨ok.stop i H α S sp st gd hi2, h _ _ Step.refl st σ re⟩
/-! ### a comprehension -/
theorem wipe_get {σ : L2.St} : ∀ {vs : List Nat} {i : Nat}, (L2.wipe σ vs)[i]? = if i ∈ vs then (σ[i]?).map (fun _ => none) else σ[i]?
  | [], i => by simp [L2.wipe]
  | v :: vs, i => by
    unfold L2.wipe
    by_cases h : v = i
    · subst h
      rw [if_pos List.mem_cons_self]
      by_cases hl : v < σ.length
      · rw [List.getElem?_set_self (by rw [L2.wipe_length]; exact hl), List.getElem?_eq_getElem hl]
        rfl
      · rw [List.getElem?_eq_none (by rw [List.length_set, L2.wipe_length]; omega), List.getElem?_eq_none (by omega)]
        rfl
    · rw [List.getElem?_set_ne h, wipe_get (vs := vs)]
      have e : (i ∈ v :: vs) ↔ i ∈ vs := by
        rw [List.mem_cons]
        exact ⟨fun z => z.resolve_left fun q => h q.symm, .inr⟩
      simp only [e]
theorem wipe_idem {σ : L2.St} {vs : List Nat} : L2.wipe (L2.wipe σ vs) vs = L2.wipe σ vs := by
  apply List.ext_getElem?
  intro i
  rw [wipe_get, wipe_get]
  split
  · cases σ[i]? <;> rfl
  · rfl
theorem but_set {vs : List Nat} {i : Nat} (h : i ∈ vs) (σ : L2.St) (v : Option V) : (Rl.but vs).r σ (σ.set i v) := by
  show L2.wipe (σ.set i v) vs = L2.wipe σ vs
  apply List.ext_getElem?
  intro j
  rw [wipe_get, wipe_get]
  by_cases hj : j ∈ vs
  · rw [if_pos hj, if_pos hj, List.getElem?_set]
    split
    · rename_i e
      subst e
      split
      · rename_i hl
        rw [List.getElem?_eq_getElem hl]
        rfl
      · rename_i hl
        rw [List.getElem?_eq_none (by omega)]
    · rfl
  · rw [if_neg hj, if_neg hj, List.getElem?_set_ne (fun e => hj (by rw [← e]; exact h))]
theorem bnd_ok {α β : Type} {m : M α} {f : α → M β} {S S2 : Store} {b : β} (h : (m >>= f) S = .ok b S2) : ∃ a S1, m S = .ok a S1 ∧ f a S1 = .ok b S2 := by
  have h : M.bnd m f S = .ok b S2 := h
  unfold M.bnd at h
  cases e : m S with
  | ok a S1 => rw [e] at h; exact ⟨a, S1, rfl, h⟩
  | exc c a S1 => rw [e] at h; cases h
  | bad => rw [e] at h; cases h
theorem okM.of_ok {W : Wd} {E : XK} {H : Hp} {α : List Addr} {β : Type} {r : Res β} {b : β} {S' : Store} {P : β → Store → Hp → List Addr → Prop} (e : r = .ok b S') (h : ∀ H' α', Step W H α H' α' → StOk W H' α' S' → P b S' H' α') : okM W E H α r P := by
  subst e
  exact h
theorem guard_eq {q : Store → Prop} {S S2 : Store} (h : guard q S = .ok () S2) : q S ∧ S2 = S := by
  unfold guard at h
  by_cases e : q S
  · rw [if_pos e] at h
    cases h
    exact ⟨e, rfl⟩
  · rw [if_neg e] at h
    cases h
theorem tru_eq {β : Type} {d : D} {m n : M β} {S S2 : Store} {b : β} (h : tru d m n S = .ok b S2) : ∃ k, d = .bl k ∧ (if k = true then m else n) S = .ok b S2 := by
  cases d with
  | bl k =>
    refine ⟨k, rfl, ?_⟩
    cases k with
    | true => rw [if_pos rfl]; exact h
    | false => rw [if_neg Bool.false_ne_true]; exact h
  | _ => cases h
theorem lcF_cons {q : Store → Prop} {put : D → Fr → M Fr} {cond el : Fr → M D} {env : Fr} (d : D) (ds acc : List D) : lcF q put cond el env (d :: ds) acc = (do
    guard q
    let e2 ← put d env
    let c ← cond e2
    tru c (do
      let x ← el e2
      if acc.length < LINE then lcF q put cond el env ds (acc ++ [x]) else M.fail) (lcF q put cond el env ds acc)) := rfl
theorem lcF_nil {q : Store → Prop} {put : D → Fr → M Fr} {cond el : Fr → M D} {env : Fr} (acc : List D) : lcF q put cond el env [] acc = (do
    guard q
    M.ret acc) := rfl
theorem lc_read {t : T} {vs : List Nat} {mt : Fr → M D} {tt : TT} {W : Wd} {E : XK} {σ : L2.St} {H : Hp} {Q : VK} (ht : ∀ {σ H Q}, tT W E0 mt σ H Q → tt σ H Q)
    (h : tE W E (fun env => do
      let it ← mi env
      let xs ← noexc <| lcF it.ok t.put mt me (wipeF env vs) it.ds []
      alloc (.lst xs)) σ H Q) : tLc (tI W E mi) (tG (Rl.but vs) W E0 t.put) tt (tE W E0 me) vs σ H Q := by
  obtain ⟨env, S, α, st, re, h⟩ := h
  refine ⟨env, S, α, st, re, (okM.bind h).mono fun it S1 H1 α1 sp1 st1 h1 J ok D hD => ?_⟩
  -- the items are there
  obtain ⟨xs, S2, e0, hP⟩ : ∃ xs S2, lcF it.ok t.put mt me (wipeF env vs) it.ds [] S1 = .ok xs S2 ∧ (∀ H' α', Step W H1 α1 H' α' → StOk W H' α' (S2 ++ [.lst xs]) → ∀ v, RD W H' α' (.ref S2.length) v → Q v H') := by
    have h2 : okM W E H1 α1 (M.bnd (noexc (lcF it.ok t.put mt me (wipeF env vs) it.ds [])) (fun xs => alloc (.lst xs)) S1) _ := h1
    unfold M.bnd noexc at h2
    cases e : lcF it.ok t.put mt me (wipeF env vs) it.ds [] S1 with
    | ok xs S2 => rw [e] at h2; exact ⟨xs, S2, rfl, h2⟩
    | exc c a S2 => rw [e] at h2; exact h2.elim
    | bad => rw [e] at h2; exact h2.elim
  clear h1 h
  refine ⟨fun i k H => ∃ S α acc ad, k = it.ds.length - i ∧ i ≤ it.ds.length ∧ Step W H1 α1 H α ∧ StOk W H α S ∧ H D = some (.lst acc) ∧ D ∉ α ∧ RDs W H α ad acc ∧ lcF it.ok t.put mt me (wipeF env vs) (it.ds.drop i) ad S = .ok xs S2,
    ⟨_, S1, α1, [], [], rfl, Nat.zero_le _, Step.fresh hD, st1.fresh hD, upd_same, fun z => ?_, .nil, by rw [List.drop_zero]; exact e0⟩, ?_⟩
  · exact st1.fresh_ne hD z
  rintro i k H ⟨S, α, acc, ad, rfl, hi, sp, st, eD, nD, rA, e1⟩
  by_cases hl : i < it.ds.length
  · rw [List.drop_eq_getElem_cons hl, lcF_cons] at e1
    obtain ⟨_, S3, e2, e1a⟩ := bnd_ok e1
    obtain ⟨gd, e2b⟩ := guard_eq e2
    subst e2b
    clear e1 e2
    refine .inr ⟨ok.go i H α _ sp st gd hl, fun H' => ∃ S α acc ad, i + 1 ≤ it.ds.length ∧ Step W H1 α1 H' α ∧ StOk W H' α S ∧ H' D = some (.lst acc) ∧ D ∉ α ∧ RDs W H' α ad acc ∧ lcF it.ok t.put mt me (wipeF env vs) (it.ds.drop (i + 1)) ad S = .ok xs S2,
      fun H' ⟨S, α, acc, ad, a1, a2, a3, a4, a5, a6, a7⟩ => ⟨it.ds.length - (i + 1), by omega, S, α, acc, ad, rfl, a1, a2, a3, a4, a5, a6, a7⟩, fun x H' y => ?_⟩
    obtain ⟨d, e3, sp2, st2, rd⟩ := ok.yld i H α _ x H' sp st gd hl y
    have e4 : it.ds[i] = d := by rw [List.getElem?_eq_getElem hl] at e3; exact Option.some.inj e3
    rw [e4] at e1a
    obtain ⟨env2, S4, e5, e1b⟩ := bnd_ok e1a
    obtain ⟨cd, S5, e6, e1c⟩ := bnd_ok e1b
    have kD : ∀ {Ha αa Hb αb}, Step W Ha αa Hb αb → Ha D = some (.lst acc) → D ∉ αa → Hb D = some (.lst acc) ∧ D ∉ αb := fun {Ha αa Hb αb} s h1 h2 => by
      refine ⟨s.keep D _ h1 h2, fun hm => ?_⟩
      obtain ⟨β, e, f⟩ := s.pre
      rw [e] at hm
      rcases List.mem_append.mp hm with z | z
      · exact h2 z
      · have q := f D z
        rw [h1] at q; cases q
    obtain ⟨eD2, nD2⟩ := kD sp2 eD nD
    have re2 : RE W H' α (wipeF env vs) (L2.wipe σ vs) := ((re.mono (sp1.trans (sp.trans sp2))).wipe vs)
    refine ⟨d, wipeF env vs, _, α, st2, re2, rd, okM.of_ok e5 fun H3 α3 sp3 st3 σ' re' rw' => ⟨rw'.trans wipe_idem, ht ⟨env2, S4, α3, st3, re', okM.of_ok e6 fun H4 α4 sp4 st4 => ?_⟩⟩⟩
    obtain ⟨k, rfl, e7⟩ := tru_eq e1c
    refine ⟨k, rfl, ?_⟩
    obtain ⟨eD4, nD4⟩ := kD (sp3.trans sp4) eD2 nD2
    have sp14 : Step W H1 α1 H4 α4 := sp.trans (sp2.trans (sp3.trans sp4))
    have rA4 : RDs W H4 α4 ad acc := rA.mono (sp2.trans (sp3.trans sp4))
    cases k with
    | true =>
      rw [if_pos rfl] at e7 ⊢
      obtain ⟨x5, S6, e8, e9⟩ := bnd_ok e7
      refine ⟨env2, S5, α4, st4, re'.mono sp4, okM.of_ok e8 fun H5 α5 sp5 st5 y ry => ?_⟩
      obtain ⟨eD5, nD5⟩ := kD sp5 eD4 nD4
      by_cases hz : ad.length < LINE
      · rw [if_pos hz] at e9
        have tl : ∀ a zs, SqT W.K H5 a zs → SqT W.K (upd H5 D (.lst (acc ++ [y]))) a zs := fun a zs q => sqT_upd (fun _ z => by rw [eD5] at z; cases z) (fun _ _ z => by rw [eD5] at z; cases z) q
        exact ⟨acc, eD5, by rw [line_eq, ← rA.length]; exact hz, S6, α5, acc ++ [y], ad ++ [x5], hl, (sp14.trans sp5).other hD eD5, st5.other nD5 eD5, upd_same, nD5, ((rA4.mono sp5).append (.cons ry .nil)).ext tl, e9⟩
      · rw [if_neg hz] at e9
        cases e9
    | false =>
      rw [if_neg Bool.false_ne_true] at e7 ⊢
      exact ⟨S5, α4, acc, ad, hl, sp14, st4, eD4, nD4, rA4, e7⟩
  · have hi2 : it.ds.length ≤ i := by omega
    rw [List.drop_of_length_le hi2, lcF_nil] at e1
    obtain ⟨_, S3, e2, e1a⟩ := bnd_ok e1
    obtain ⟨gd, e2b⟩ := guard_eq e2
    subst e2b
    clear e1 e2
    have e1a : Res.ok ad S3 = Res.ok xs S2 := e1a
    cases e1a
    refine .inl ⟨ok.stop i H α _ sp st gd hi2, hP H (α ++ [D]) ?_ (st.add nD eD rA) _ (.ref (by rw [← st.len]; simp))⟩
    obtain ⟨β, e, f⟩ := sp.pre
    refine { pre := ⟨β ++ [D], by rw [e, List.append_assoc], fun b hb => ?_⟩, keep := sp.keep, live := sp.live, tups := sp.tups }
    rcases List.mem_append.mp hb with z | z
    · exact f b z
    · rw [List.mem_singleton.mp z]; exact hD
/-- the block's tests -/
theorem ptsNil : PTs X [] tYes := pts_nil
theorem read_nil {W : Wd} {σ : L2.St} {H : Hp} {Q : Bool → Hp → Prop} (h : tT W E0 (fun _ => M.ret (.bl true)) σ H Q) : tYes σ H Q := by
  obtain ⟨env, S, α, st, re, h⟩ := h
  obtain ⟨b, e, q⟩ := h _ _ Step.refl st
  cases e
  exact q
/-- a comprehension as a value -/
theorem eLc {t : T} {ifs : List Expr} {scope : Scope} {own : List (Str × Nat)} {mt : Fr → M D} {tt : TT} (hc : X.calm = true) (hN : X.N.Nodup) (hi : PI X tg iter (tI (wd X G XC) E mi)) (ok : BlkOk X.N X.env.scope scope own)
    (hg : ∀ (s : Shared) (H : Hp) (C : Addr) (cl : List (Str × Addr)) (fp : List Addr), PG (X.blk s H scope (compEnvC scope cl C X.env) fp) tg (tG (Rl.but (own.map (·.2))) (wd X G XC) E0 t.put))
    (ht : ∀ (s : Shared) (H : Hp) (C : Addr) (cl : List (Str × Addr)) (fp : List Addr), PTs (X.blk s H scope (compEnvC scope cl C X.env) fp) ifs tt) (htt : ∀ {σ H Q}, tT (wd X G XC) E0 mt σ H Q → tt σ H Q)
    (he : ∀ (s : Shared) (H : Hp) (C : Addr) (cl : List (Str × Addr)) (fp : List Addr), PE (X.blk s H scope (compEnvC scope cl C X.env) fp) elt (tE (wd X G XC) E0 me)) (hs : ∀ x, foldedSetIterable iter X.env x = pure x) :
    PE X (.ListComp elt [⟨tg, iter, ifs, 0⟩] scope pos) (tE (wd X G XC) E fun env => do
      let it ← mi env
      let xs ← noexc <| lcF it.ok t.put mt me (wipeF env (own.map (·.2))) it.ds []
      alloc (.lst xs)) :=
  PE.weak (pe_lc hc hN hi ok hg ht he hs) fun σ H Q h => lc_read htt h
/-- name = [..] -/
theorem sSetLc {i : Nat} {y : Str} {py spos : Pos} {t : T} {ifs : List Expr} {scope : Scope} {own : List (Str × Nat)} {mt : Fr → M D} {tt : TT} (hc : X.calm = true) (hN : X.N.Nodup) (hy : X.N[i]? = some y) (hyl : X.env.scope.names.lookup y = some .local)
    (hsw : swapsWith (.ListComp elt [⟨tg, iter, ifs, 0⟩] scope pos) (some (.Name y py)) spos.line X.env = pure true) (hi : PI X tg iter (tI (wd X G XC) E mi)) (ok : BlkOk X.N X.env.scope scope own)
    (hg : ∀ (s : Shared) (H : Hp) (C : Addr) (cl : List (Str × Addr)) (fp : List Addr), PG (X.blk s H scope (compEnvC scope cl C X.env) fp) tg (tG (Rl.but (own.map (·.2))) (wd X G XC) E0 t.put))
    (ht : ∀ (s : Shared) (H : Hp) (C : Addr) (cl : List (Str × Addr)) (fp : List Addr), PTs (X.blk s H scope (compEnvC scope cl C X.env) fp) ifs tt) (htt : ∀ {σ H Q}, tT (wd X G XC) E0 mt σ H Q → tt σ H Q)
    (he : ∀ (s : Shared) (H : Hp) (C : Addr) (cl : List (Str × Addr)) (fp : List Addr), PE (X.blk s H scope (compEnvC scope cl C X.env) fp) elt (tE (wd X G XC) E0 me)) (hs : ∀ x, foldedSetIterable iter X.env x = pure x) :
    PS X (.Assign [.Name y py] (.ListComp elt [⟨tg, iter, ifs, 0⟩] scope pos) spos) (tS (wd X G XC) E fun env => do
      let d ← (do
        let it ← mi env
        let xs ← noexc <| lcF it.ok t.put mt me (wipeF env (own.map (·.2))) it.ds []
        alloc (.lst xs))
      M.ret (.nx, env.set i (some d))) :=
  PS.weak (ps_setLc hc hN hy hyl hsw hi ok hg ht he hs) fun D σ H ⟨env, S, α, st, re, h⟩ =>
    lc_read (mi := mi) (me := me) (mt := mt) htt ((tE_of (m := fun env => (do
        let it ← mi env
        let xs ← noexc <| lcF it.ok t.put mt me (wipeF env (own.map (·.2))) it.ds []
        alloc (.lst xs))) st re h).mono fun v H1 ⟨d1, S1, α1, sp1, st1, re1, r1, h1⟩ => h1 _ _ Step.refl st1 _ (re1.set r1 i))
/-! ### paired and augmented assignments -/
theorem sPar2 {i j : Nat} {x y : Str} {px py pt : Pos} {kt k2 pt2} (hc : X.calm = true) (hN : X.N.Nodup) (hi : X.N[i]? = some x) (hj : X.N[j]? = some y) (hij : i ≠ j)
    (hx : X.env.scope.names.lookup x = some .local) (hy : X.env.scope.names.lookup y = some .local) (ha : PA X [a, b] (tAs (wd X G XC) E ms))
    (hw : swappedStores [.Tuple [.Name x px, .Name y py] kt pt] (.Tuple [a, b] k2 pt2) X.env = pure (some [x, y])) :
    PS X (.Assign [.Tuple [.Name x px, .Name y py] kt pt] (.Tuple [a, b] k2 pt2) pos) (tS (wd X G XC) E fun env => do
      let ds ← ms env
      par2 i j ds env) :=
  PS.weak (ps_par hc hN hi hj hij hx hy ha hw) fun D σ H ⟨env, S, α, st, re, h⟩ => (tAs_of st re h).mono fun vs H1 ⟨ds, S1, α1, sp1, st1, re1, r1, h1⟩ => by
    match ds, r1, h1 with
    | [d1, d2], .cons ra (.cons rb .nil), h1 => exact ⟨_, _, rfl, h1 _ _ Step.refl st1 _ ((re1.set ra i).set rb j)⟩
    | [], _, h1 => exact h1.elim
    | [_], _, h1 => exact h1.elim
    | _ :: _ :: _ :: _, _, h1 => exact h1.elim
theorem sPar3 {i j l : Nat} {x y z : Str} {px py pz pt : Pos} {kt k2 pt2} (hc : X.calm = true) (hN : X.N.Nodup) (hi : X.N[i]? = some x) (hj : X.N[j]? = some y) (hl : X.N[l]? = some z) (hij : i ≠ j) (hil : i ≠ l) (hjl : j ≠ l)
    (hx : X.env.scope.names.lookup x = some .local) (hy : X.env.scope.names.lookup y = some .local) (hz : X.env.scope.names.lookup z = some .local) (ha : PA X [a, b, c] (tAs (wd X G XC) E ms))
    (hw : swappedStores [.Tuple [.Name x px, .Name y py, .Name z pz] kt pt] (.Tuple [a, b, c] k2 pt2) X.env = pure (some [x, y, z])) :
    PS X (.Assign [.Tuple [.Name x px, .Name y py, .Name z pz] kt pt] (.Tuple [a, b, c] k2 pt2) pos) (tS (wd X G XC) E fun env => do
      let ds ← ms env
      par3 i j l ds env) :=
  PS.weak (ps_par3 hc hN hi hj hl hij hil hjl hx hy hz ha hw) fun D σ H ⟨env, S, α, st, re, h⟩ => (tAs_of st re h).mono fun vs H1 ⟨ds, S1, α1, sp1, st1, re1, r1, h1⟩ => by
    match ds, r1, h1 with
    | [d1, d2, d3], .cons ra (.cons rb (.cons rc .nil)), h1 => exact ⟨_, _, _, rfl, h1 _ _ Step.refl st1 _ (((re1.set ra i).set rb j).set rc l)⟩
    | [], _, h1 => exact h1.elim
    | [_], _, h1 => exact h1.elim
    | [_, _], _, h1 => exact h1.elim
    | _ :: _ :: _ :: _ :: _, _, h1 => exact h1.elim
/-- i -= e and i += e, ints -/
theorem sAug {i : Nat} {x : Str} {p2 : Pos} {o : Operator} {f : Int → Int → Int} {g : D → D → M D} (hip : PIp X o (ipI f)) (hg : ∀ {H α S x y} {d e : D} {P : D → Store → Hp → List Addr → Prop}, StOk (wd X G XC) H α S → RD (wd X G XC) H α d x → RD (wd X G XC) H α e y → okM (wd X G XC) E H α (g d e S) P →
      ∃ i j, x = .int i ∧ y = .int j ∧ P (.int (f i j)) S H α) (hN : X.N.Nodup) (hi : X.N[i]? = some x) (hx : Loc X.env.scope x) (he : PE X e (tE (wd X G XC) E ma)) (hf : X.fn x = true ∨ X.env.scope.names.lookup x = some .local) :
    PS X (.AugAssign (.Name x p2) o e pos) (tS (wd X G XC) E fun env => do
      let d ← getV env i
      let d2 ← ma env
      let d3 ← g d d2
      M.ret (.nx, env.set i (some d3))) :=
  PS.weak (ps_aug hN hi hx he hip hf) fun D σ H ⟨env, S, α, st, re, h⟩ => by
    have h := okM.bind h
    unfold getV at h
    cases e : env[i]? with
    | none => rw [e] at h; exact h.elim
    | some o =>
      rw [e] at h
      cases o with
      | none => exact h.elim
      | some d =>
        obtain ⟨v, h1, h2⟩ := re.at_ i d e
        refine ⟨v, h1, (tE_of st re (h _ _ Step.refl st)).mono fun u H1 ⟨d2, S1, α1, sp1, st1, re1, r1, h3⟩ => ?_⟩
        have h4 := okM.bind h3
        obtain ⟨i1, j1, rfl, rfl, k⟩ := hg st1 (h2.mono sp1) r1 h4
        exact ⟨i1, j1, rfl, rfl, k _ _ Step.refl st1 _ (re1.set (.int _) i)⟩
end
end Ev
namespace Ev
open PySem PySem.Spec PyProof.Rows L2
/-! ### from the text to the small language -/
structure Cc where
  N : List Str
  fns : List Str
  cons : List (Str × D)
def idx (x : Str) : List Str → Option Nat
  | [] => none
  | y :: r => if y = x then some 0 else (idx x r).map (· + 1)
theorem idx_get {x : Str} : ∀ {l : List Str} {i : Nat}, idx x l = some i → l[i]? = some x
  | [], _, h => by cases h
  | y :: r, i, h => by
    unfold idx at h
    split at h
    · rename_i e
      cases h
      rw [e]; rfl
    · rw [Option.map_eq_some_iff] at h
      obtain ⟨j, h1, rfl⟩ := h
      rw [List.getElem?_cons_succ]
      exact idx_get h1
def okName (x : Str) : Bool := !(x == ("__debug__" : Str)) && (!(x == ("__classdict__" : Str)) && !(x == ("__name__" : Str)))
def visB (sc : Scope) (x : Str) : Bool := match sc.names.lookup x with
  | some .local => true
  | some .cell => true
  | some .free => true
  | _ => false
def locB (sc : Scope) (x : Str) : Bool := decide (sc.names.lookup x = some .local)
def glB (sc : Scope) (x : Str) : Bool := decide (sc.names.lookup x = some .globalImplicit)
def cName (c : Cc) (sc : Scope) (x : Str) : Option E :=
  if okName x = true then (if visB sc x = true then (idx x c.N).map .var else if glB sc x = true then (match idx x c.fns with
    | some f => some (.fnv f)
    | none => (c.cons.lookup x).map .glob) else none) else none
def cConst : Const → Option E
  | .int i => some (.int i)
  | .str x => some (.str x)
  | .bool b => some (.bl b)
  | .none => some .non
  | _ => none
def kList (f : Expr → Option E) : List Expr → Option (List E)
  | [] => some []
  | e :: es => match f e, kList f es with
    | some x, some xs => some (x :: xs)
    | _, _ => none
def cBop : Operator → Option Bop
  | .Add => some .add | .Sub => some .sub | .Mult => some .mul | .FloorDiv => some .div | .Mod => some .mod | .Pow => some .pow | .LShift => some .shl | .RShift => some .shr | .BitAnd => some .and
  | _ => none
def cCop : CmpOp → Option Cop
  | .Eq => some .eq | .NotEq => some .ne | .Lt => some .lt | .LtE => some .le | .Gt => some .gt | .GtE => some .ge | .Is => some .is | .IsNot => some .isNot | .In => some .in_ | .NotIn => some .notIn
def cAnd (f : Expr → Option E) : List Expr → Option E
  | [] => none
  | [a] => f a
  | a :: b :: r => match f a, cAnd f (b :: r) with
    | some x, some y => some (.and x y)
    | _, _ => none
def cOr (f : Expr → Option E) : List Expr → Option E
  | [] => none
  | [a] => f a
  | a :: b :: r => match f a, cOr f (b :: r) with
    | some x, some y => some (.or x y)
    | _, _ => none
def tyNm (y : Str) : Option Ty :=
  if y = "int" then some .int else if y = "bool" then some .bool else if y = "str" then some .str else if y = "tuple" then some .tuple else if y = "list" then some .list else if y = "dict" then some .dict else none
def bltTab : List (Str × Nat × Blt) := [("len", 1, .len), ("abs", 1, .abs), ("int", 1, .int), ("str", 1, .str), ("max", 2, .max2), ("min", 2, .min2), ("tuple", 1, .tuple), ("list", 1, .list), ("all", 1, .all), ("any", 1, .any), ("sum", 1, .sum), ("repr", 1, .repr)]
def bltNm (x : Str) (n : Nat) : Option Blt := (bltTab.find? fun q => decide (q.1 = x ∧ q.2.1 = n)).map (·.2.2)
theorem bltNm_mem {x : Str} {n : Nat} {b : Blt} (h : bltNm x n = some b) : (x, n, b) ∈ bltTab := by
  unfold bltNm at h
  rw [Option.map_eq_some_iff] at h
  obtain ⟨⟨y, m, c⟩, h1, h2⟩ := h
  have h4 : c = b := h2
  subst h4
  have h3 : y = x ∧ m = n := by simpa using List.find?_some h1
  obtain ⟨e1, e2⟩ := h3
  subst e1 e2
  exact List.mem_of_find?_eq_some h1
def mthNm (x : Str) (n : Nat) : Option Mth :=
  if x = "append" ∧ n = 1 then some .append else if x = "extend" ∧ n = 1 then some .extend else if x = "pop" ∧ n = 0 then some .pop else if x = "pop" ∧ n = 1 then some .popAt else if x = "join" ∧ n = 1 then some .join else if x = "split" ∧ n = 1 then some .split else none
/-- the names of built-ins that a law may use -/
def bltNames : List Str := ["len", "abs", "int", "str", "bool", "max", "min", "tuple", "list", "dict", "all", "any", "sum", "range", "enumerate", "zip", "isinstance", "repr", "sorted", "set"]
def plainIx : Expr → Bool
  | .Slice _ _ _ _ => false
  | _ => true
def baseOk : Expr → Bool
  | .Call _ _ _ _ => false
  | _ => true
def isStar : Expr → Bool
  | .Starred _ _ => true
  | _ => false
/-- f(..) -/
def cCall (c : Cc) (sc : Scope) (x : Str) (args : List Expr) (es : Option (List E)) : Option E :=
  if okName x = true then match es with
    | none => (if glB sc x = true ∧ x = "isinstance" ∧ (idx x c.fns).isNone then none else none)
    | some es => if visB sc x = true then (match idx x c.N, args with
        | some i, _ :: _ => some (.callv i es)
        | _, _ => none)
      else if glB sc x = true then (match idx x c.fns with
        | some f => some (.call f es)
        | none => match args, bltNm x es.length with
          | _ :: _, some b => some (.blt b es)
          | _, _ => none)
      else none
  else none
def kIsi (c : Cc) (sc : Scope) (x y : Str) (a : Option E) : Option E :=
  if okName x = true ∧ glB sc x = true ∧ x = "isinstance" ∧ okName y = true ∧ glB sc y = true then match tyNm y, a with
    | some t, some a => some (.isi t a)
    | _, _ => none
  else none
mutual
def cT (top : Bool) (c : Cc) (sc : Scope) : Expr → Option T
  | .Name x _ => if locB sc x = true ∨ (top = true ∧ sc.names.lookup x = some .cell) then (idx x c.N).map .nm else none
  | .Tuple ts _ _ => (cTs top c sc ts).map .tup
  | _ => none
def cTs (top : Bool) (c : Cc) (sc : Scope) : List Expr → Option (List T)
  | [] => some []
  | t :: ts => match cT top c sc t, cTs top c sc ts with
    | some x, some xs => some (x :: xs)
    | _, _ => none
end
mutual
def T.all (p : Nat → Bool) : T → Bool
  | .nm i => p i
  | .tup ts => T.alls p ts
def T.alls (p : Nat → Bool) : List T → Bool
  | [] => true
  | t :: ts => T.all p t && T.alls p ts
end
mutual
/-- the names that a target binds -/
def tNames : Expr → List Str
  | .Name x _ => [x]
  | .Tuple ts _ _ => tNamess ts
  | _ => []
def tNamess : List Expr → List Str
  | [] => []
  | t :: ts => tNames t ++ tNamess ts
end
def ownOf (c : Cc) (tg : Expr) : List (Str × Nat) := (tNames tg).filterMap fun x => (idx x c.N).map fun i => (x, i)
/-- what is walked: the kind and its arguments -/
def isTup : Expr → Bool
  | .Tuple _ _ _ => true
  | _ => false
def cIt (c : Cc) (sc : Scope) (f : Expr → Option E) (tg : Expr) : Expr → Option (IK × List E)
  | .Call (.Name x p) [a] [] pos =>
    if x = "range" ∧ glB sc x = true then (f a).map fun a => (.rng1, [a])
    else if x = "enumerate" ∧ glB sc x = true then (if isTup tg = true then (f a).map fun a => (.enum, [a]) else none)
    else (f (.Call (.Name x p) [a] [] pos)).map fun e => (.seq, [e])
  | .Call (.Name x p) [a, b] [] pos =>
    if x = "range" ∧ glB sc x = true then (match f a, f b with
      | some a, some b => some (.rng2, [a, b])
      | _, _ => none)
    else if x = "zip" ∧ glB sc x = true then (if isTup tg = true then (match f a, f b with
      | some a, some b => some (.zip, [a, b])
      | _, _ => none) else none)
    else (f (.Call (.Name x p) [a, b] [] pos)).map fun e => (.seq, [e])
  | e => (f e).map fun e => (.seq, [e])
def cE : Nat → Cc → Scope → Expr → Option E
  | 0, _, _, _ => none
  | n + 1, c, sc, e => match e with
    | .Name x _ => cName c sc x
    | .Constant k _ _ => cConst k
    | .Tuple es _ _ => (kList (cE n c sc) es).map .tup
    | .List es _ => (kList (cE n c sc) es).map .lst
    | .BinOp a o b _ => match cBop o, cE n c sc a, cE n c sc b with
      | some o, some a, some b => some (.bin o a b)
      | _, _, _ => none
    | .UnaryOp .Not a _ => (cE n c sc a).map .not
    | .UnaryOp .USub a _ => (cE n c sc a).map .neg
    | .BoolOp .And vs _ => cAnd (cE n c sc) vs
    | .BoolOp .Or vs _ => cOr (cE n c sc) vs
    | .IfExp t a b _ => match cE n c sc t, cE n c sc a, cE n c sc b with
      | some t, some a, some b => some (.ife t a b)
      | _, _, _ => none
    | .Compare a [o] [b] _ => match cCop o, cE n c sc a, cE n c sc b with
      | some o, some a, some b => some (.cmp o a b)
      | _, _, _ => none
    | .Compare a [o, p] [b, d] _ => match cCop o, cCop p, cE n c sc a, cE n c sc b, cE n c sc d with
      | some o, some p, some a, some b, some d => some (.chain o p a b d)
      | _, _, _, _, _ => none
    | .Subscript a (.Slice (some l) none none _) _ => match cE n c sc a, cE n c sc l with
      | some a, some l => some (.slLo a l)
      | _, _ => none
    | .Subscript a (.Slice none (some h) none _) _ => match cE n c sc a, cE n c sc h with
      | some a, some h => some (.slHi a h)
      | _, _ => none
    | .Subscript a (.Slice (some l) (some h) none _) _ => match cE n c sc a, cE n c sc l, cE n c sc h with
      | some a, some l, some h => some (.slLH a l h)
      | _, _, _ => none
    | .Subscript a (.Slice none none (some (.UnaryOp .USub (.Constant (.int 1) _ _) _)) _) _ => (cE n c sc a).map .rev
    | .Subscript a i _ => if plainIx i = true then (match cE n c sc a, cE n c sc i with
      | some a, some i => some (.ix a i)
      | _, _ => none) else none
    | .Call (.Name x _) args [] _ => match args with
      | [a, .Name y _] => if x = "isinstance" then kIsi c sc x y (cE n c sc a) else cCall c sc x args (kList (cE n c sc) args)
      | _ => cCall c sc x args (kList (cE n c sc) args)
    | .Call (.Attribute o m apos) args [] pos => if baseOk o = true ∧ (apos.endLine == pos.line) = true ∧ args.length < 30 then (match cE n c sc o, kList (cE n c sc) args, mthNm m args.length with
      | some o, some es, some m => some (.mth m o es)
      | _, _, _ => none) else none
    | .ListComp elt [⟨tg, iter, ifs, 0⟩] scope _ =>
      if blkC c.N sc scope (ownOf c tg) = true ∧ ifs.length ≤ 1 then (match cIt c sc (cE n c sc) tg iter, cT false c (relS scope sc) tg, kList (cE n c (relS scope sc)) ifs, cE n c (relS scope sc) elt with
        | some (k, es), some t, some fs, some e => if t.all (fun i => (ownOf c tg).any fun p => p.2 == i) = true then some (.lc ((ownOf c tg).map (·.2)) t k es fs e) else none
        | _, _, _, _ => none) else none
    | _ => none
end Ev
namespace Ev
open PySem PySem.Spec PyProof.Rows L2
/-! ### functions that are called where no repr runs -/
/-- HandS's FnOk, told of the guards too -/
structure FnG (P : Program) (w : World) (K : PySem.W.Frag) (mg : Str → Option Value) (base : Heap) (CX : CXT) (k : Nat) (f : Addr) (fd : FuncData) (ps : List Str) (sp : Sp) : Prop where
  len : ∀ vs H Q E, sp vs H Q E → vs.length = ps.length
  run : ∀ (A : Around) (outer : List Env) (s : Shared) (H : Hp) (args : Args) (us : List Value) (vs : List V) (Q : VK) (E : XK), Room k A → A.guards = some [] → Env0 P w K mg base A outer s H → BindsTo s fd args (ps.zip us) →
    Vals vs us → sp vs H Q E → codeAny (model P w) A (.call (.ref f) args) (CR CX outer P w H s Q E) s
/-- what f's call promises -/
def spF (W : Wd) (g : List D → M D) : Sp := fun vs H Q E => ∃ ds S α, StOk W H α S ∧ RDs W H α ds vs ∧ okM W E H α (g ds S) fun d _ H' α' => ∀ v, RD W H' α' d v → Q v H'
structure FnsOk (P : Program) (w : World) (K : PySem.W.Frag) (mg : Str → Option Value) (base : Heap) (CX : CXT) (k : Nat) (G XC : Nat → Option Addr) (C : Nat → List D → M D) : Prop where
  fn : ∀ f a, G f = some a → PySem.W.keepIn K (.ref a) = true ∧ ∃ fd ps, FnG P w K mg base CX k a fd ps (spF ⟨K, G, XC⟩ (C f)) ∧ Binds K fd ps []
  no : ∀ outer H s e s', CX outer H s E0 e s' → False
theorem callG {X : Cx} {CX : CXT} {k : Nat} {f : Addr} {fd : FuncData} {ps : List Str} {G XC : Nat → Option Addr} {g : List D → M D} {E : XK} (F : FnG X.prog X.w X.K X.mg X.base CX k f fd ps (spF (wd X G XC) g)) (hr : Room k X.A) (hg : X.A.guards = some []) (hb : Binds X.K fd ps []) (hx : Passes CX X E) :
    CallR X (.ref f) (vRL (wd X G XC) E g) := by
  intro pins s σ H xs us Q I r h
  have hl : (us ++ []).length = ps.length := by
    rw [List.append_nil, ← r.length]
    exact F.len xs H Q E h
  have bd := hb s us I.kIn hl
  rw [List.append_nil] at bd
  refine wpAny_call (codeAny_mono (F.run X.A X.stack s H ⟨us, []⟩ us xs Q E hr hg I.env0 bd r h) fun r s' hq => ?_)
  match r, hq with
  | .error e, hq => exact hx pins σ H s e s' I hq
  | .ok (.ret u), hq => exact I.after hq
  | .ok .next, hq => exact False.elim hq
  | .ok .brk, hq => exact False.elim hq
  | .ok .cont, hq => exact False.elim hq
/-! ### the context of a text -/
structure XOk (CX : CXT) (k : Nat) (G XC : Nat → Option Addr) (C : Nat → List D → M D) (E : XK) (c : Cc) (sc : Scope) (top : Bool) (X : Cx) : Prop where
  hsc : X.env.scope = sc
  hN : X.N = c.N
  nd : c.N.Nodup
  calm : X.calm = true
  room : Room k X.A
  gd : X.A.guards = some []
  fo : FnsOk X.prog X.w X.K X.mg X.base CX k G XC C
  fns : ∀ f x, c.fns[f]? = some x → ∃ a, G f = some a ∧ X.mg x = some (.ref a)
  cons : ∀ x d, c.cons.lookup x = some d → ∃ v u, X.mg x = some u ∧ RelV v u ∧ ∀ H α, RD (wd X G XC) H α d v
  blts : ∀ x ∈ bltNames, X.mg x = none
  pass : Passes CX X E
  tp : top = true → ∀ x, X.fn x = true
section
variable {CX : CXT} {k : Nat} {G XC : Nat → Option Addr} {C : Nat → List D → M D} {E : XK} {c : Cc} {sc : Scope} {top : Bool} {X : Cx}
theorem XOk.hu (x : XOk CX k G XC C E c sc top X) : X.A.units + 64 < cLine := x.room.units
theorem XOk.call (x : XOk CX k G XC C E c sc top X) {f : Nat} {a : Addr} (h : G f = some a) : CallR X (.ref a) (vRL (wd X G XC) E (C f)) ∧ PySem.W.keepIn X.K (.ref a) = true := by
  obtain ⟨hk, fd, ps, F, hb⟩ := x.fo.fn f a h
  exact ⟨callG F x.room x.gd hb x.pass, hk⟩
theorem XOk.blk (x : XOk CX k G XC C E c sc top X) (s : Shared) (H : Hp) (scope : Scope) (D : Addr) (cl : List (Str × Addr)) (fp : List Addr) : XOk CX k G XC C E0 c (relS scope sc) false (X.blk s H scope (compEnvC scope cl D X.env) fp) where
  hsc := by rw [← x.hsc]; rfl
  hN := x.hN
  nd := x.nd
  calm := x.calm
  room := x.room
  gd := x.gd
  fo := x.fo
  fns := x.fns
  cons := x.cons
  blts := x.blts
  pass := fun pins σ H s e s' I h => (x.fo.no _ _ _ _ _ h).elim
  tp := fun h => nomatch h
end
/-! ### plain arguments -/
theorem star_cons {e : Expr} {es : List Expr} {env : Env} (h : isStar e = false) : starEach (e :: es) env = (false, eval e env) :: starEach es env := by
  cases e <;> first
    | rfl
    | cases h
theorem star_any {env : Env} {pos : Pos} : ∀ {es : List Expr}, (∀ e ∈ es, isStar e = false) → (backTo pos (starEach es env)).any (·.1) = false
  | [], _ => rfl
  | e :: es, h => by
    rw [star_cons (h e List.mem_cons_self)]
    show (false || (backTo pos (starEach es env)).any (·.1)) = false
    rw [star_any fun x hx => h x (List.mem_cons_of_mem _ hx)]
    rfl
theorem star_all {env : Env} {pos : Pos} : ∀ {es : List Expr}, (∀ e ∈ es, isStar e = false) → (backTo pos (starEach es env)).all (fun x => !x.1) = true
  | [], _ => rfl
  | e :: es, h => by
    rw [star_cons (h e List.mem_cons_self)]
    show (true && (backTo pos (starEach es env)).all (fun x => !x.1)) = true
    rw [star_all fun x hx => h x (List.mem_cons_of_mem _ hx)]
    rfl
theorem asg_cons {e : Expr} {es : List Expr} {env : Env} (h : isStar e = false) : assignEach (e :: es) env = (false, assign e env) :: assignEach es env := by
  cases e <;> first
    | rfl
    | cases h
theorem asg_len {env : Env} : ∀ {es : List Expr}, (∀ e ∈ es, isStar e = false) → (assignEach es env).length = es.length ∧ (assignEach es env).findIdx? (·.1) = none
  | [], _ => ⟨rfl, rfl⟩
  | e :: es, h => by
    obtain ⟨h1, h2⟩ := asg_len (env := env) fun x hx => h x (List.mem_cons_of_mem _ hx)
    rw [asg_cons (h e List.mem_cons_self)]
    refine ⟨by rw [List.length_cons, List.length_cons, h1], ?_⟩
    rw [List.findIdx?_cons]
    simp [h2]
section
variable {CX : CXT} {k : Nat} {G XC : Nat → Option Addr} {C : Nat → List D → M D} {E : XK} {c : Cc} {sc : Scope} {top : Bool} {X : Cx}
theorem vis_of {x : Str} (h : visB sc x = true) : Vis sc x := by
  unfold visB at h
  split at h
  · exact .inl (by assumption)
  · exact .inr (.inl (by assumption))
  · exact .inr (.inr (by assumption))
  · cases h
theorem okName_of {x : Str} (h : okName x = true) : (x == ("__debug__" : Str)) = false ∧ (x == ("__classdict__" : Str)) = false ∧ x ≠ "__name__" := by
  unfold okName at h
  simp only [Bool.and_eq_true, Bool.not_eq_true'] at h
  exact ⟨h.1, h.2.1, fun e => by rw [e] at h; exact absurd h.2.2 (by simp)⟩
theorem kList_ok {n : Nat} (ih : ∀ {e ir}, cE n c sc e = some ir → PE X e (tE (wd X G XC) E (evE C ir)) ∧ isStar e = false) : ∀ {es : List Expr} {irs : List Ev.E}, kList (cE n c sc) es = some irs → PA X es (tAs (wd X G XC) E (evEs C irs)) ∧ (∀ e ∈ es, isStar e = false) ∧ es.length = irs.length
  | [], irs, h => by
    cases h
    exact ⟨eNil, (fun _ z => by cases z), rfl⟩
  | e :: es, irs, h => by
    unfold kList at h
    split at h
    · rename_i x xs h1 h2
      cases h
      obtain ⟨i1, i2⟩ := ih h1
      obtain ⟨j1, j2, j3⟩ := kList_ok (es := es) ih h2
      exact ⟨eCons i1 j1 (star_cons i2), fun y hy => by
        rcases List.mem_cons.mp hy with z | z
        · rw [z]; exact i2
        · exact j2 y z, by rw [List.length_cons, List.length_cons, j3]⟩
    · cases h
theorem bopR (o : Operator) {b : Bop} (h : cBop o = some b) : OpR X (binaryOp o) (vR2 (wd X G XC) E b.run) := by
  cases o <;> simp only [cBop, Option.some.injEq] at h <;> first
    | (subst h; first | exact opAdd | exact opSub | exact opMul | exact opDiv | exact opMod | exact opPow | exact opShl | exact opShr | exact opAnd)
    | cases h
def notSet : Expr → Bool
  | .Set _ _ _ => false
  | _ => true
theorem marks_no {o : CmpOp} {e : Expr} (h : notSet e = true) : behindInMarks o e = false := by
  cases e <;> first
    | rfl
    | cases h
theorem copR (x : XOk CX k G XC C E c sc top X) (o : CmpOp) {b : Cop} (h : cCop o = some b) : OpR X (compareOp o) (vR2 (wd X G XC) E b.run) ∧ ∀ e, notSet e = true → behindInMarks o e = false := by
  have hu := x.hu
  have hu0 : X.A.units < cLine := by omega
  have hu1 : X.A.units + 65 < cLine := by have := x.room.un; omega
  cases o <;> simp only [cCop, Option.some.injEq] at h <;> first
    | (subst h; refine ⟨?_, fun e he => marks_no he⟩; first | exact opEq hu | exact opNe hu | exact opLt hu0 | exact opLe | exact opGt | exact opGe | exact opIs | exact opIsNot | exact opIn hu hu1 | exact opNotIn hu hu1)
    | cases h
theorem cName_ok (x : XOk CX k G XC C E c sc top X) {y : Str} {p : Pos} {ir : Ev.E} (h : cName c sc y = some ir) : PE X (.Name y p) (tE (wd X G XC) E (evE C ir)) := by
  unfold cName at h
  split at h
  · rename_i hn
    obtain ⟨n1, n2, n3⟩ := okName_of hn
    split at h
    · rename_i hv
      rw [Option.map_eq_some_iff] at h
      obtain ⟨i, h1, rfl⟩ := h
      exact eVar (by rw [x.hN]; exact idx_get h1) (by rw [x.hsc]; exact vis_of hv) n1 n2
    · split at h
      · rename_i hg
        have hg : Gl X y := by show X.env.scope.names.lookup y = _; rw [x.hsc]; exact of_decide_eq_true hg
        split at h
        · rename_i f hf
          cases h
          obtain ⟨a, g1, g2⟩ := x.fns f y (idx_get hf)
          exact eConst (v := .ref a) (pe_glob hg g2 rfl n1) fun H α => .fn g1
        · rw [Option.map_eq_some_iff] at h
          obtain ⟨d, h1, rfl⟩ := h
          obtain ⟨v, u, g1, g2, g3⟩ := x.cons y d h1
          exact eConst (pe_glob hg g1 g2 n1) g3
      · cases h
  · cases h
theorem cConst_ok {kc : Const} {j : Nat} {p : Pos} {ir : Ev.E} (h : cConst kc = some ir) : PE X (.Constant kc j p) (tE (wd X G XC) E (evE C ir)) := by
  unfold cConst at h
  split at h <;> first
    | (cases h; first
        | exact eConst pe_int fun H α => .int _
        | exact eConst pe_str fun H α => .str _
        | exact eConst pe_bl fun H α => .bl _
        | exact eConst pe_non fun H α => .non)
    | cases h
/-- and, or -/
theorem cAnd_ok {n : Nat} (ih : ∀ {e ir}, cE n c sc e = some ir → PE X e (tE (wd X G XC) E (evE C ir)) ∧ PT X e (tT (wd X G XC) E (evE C ir))) : ∀ {vs : List Expr} {ir : Ev.E} {p : Pos}, cAnd (cE n c sc) vs = some ir →
    PE X (.BoolOp .And vs p) (tE (wd X G XC) E (evE C ir)) ∧ PW X (.BoolOp .And vs p) (tT (wd X G XC) E (evE C ir))
  | [], _, _, h => by cases h
  | [a], ir, p, h => by
    obtain ⟨h1, h2⟩ := ih (e := a) (ir := ir) h
    exact ⟨pe_one h1, pw_and1 h2⟩
  | a :: b :: r, ir, p, h => by
    unfold cAnd at h
    split at h
    · rename_i x y h1 h2
      cases h
      obtain ⟨i1, i2⟩ := ih h1
      obtain ⟨j1, j2⟩ := cAnd_ok ih (p := p) h2
      exact ⟨eAnd i1 j1, eAndT i2 j2⟩
    · cases h
theorem cOr_ok {n : Nat} (ih : ∀ {e ir}, cE n c sc e = some ir → PE X e (tE (wd X G XC) E (evE C ir)) ∧ PT X e (tT (wd X G XC) E (evE C ir))) : ∀ {vs : List Expr} {ir : Ev.E} {p : Pos}, cOr (cE n c sc) vs = some ir →
    PE X (.BoolOp .Or vs p) (tE (wd X G XC) E (evE C ir)) ∧ PW X (.BoolOp .Or vs p) (tT (wd X G XC) E (evE C ir))
  | [], _, _, h => by cases h
  | [a], ir, p, h => by
    obtain ⟨h1, h2⟩ := ih (e := a) (ir := ir) h
    exact ⟨pe_one h1, pw_or1 h2⟩
  | a :: b :: r, ir, p, h => by
    unfold cOr at h
    split at h
    · rename_i x y h1 h2
      cases h
      obtain ⟨i1, i2⟩ := ih h1
      obtain ⟨j1, j2⟩ := cOr_ok ih (p := p) h2
      exact ⟨eOr i1 j1, eOrT i2 j2⟩
    · cases h
theorem blt_free (x : XOk CX k G XC C E c sc top X) {y : Str} (h : y ∈ bltNames) : X.mg y = none := x.blts y h
theorem blt_ok (x : XOk CX k G XC C E c sc top X) {y : Str} {p pos : Pos} {n : Nat} {b : Blt} {a : Expr} {es : List Expr} {ms : Fr → M (List D)} (h : bltNm y n = some b) (hg : Gl X y) (ha : PA X (a :: es) (tAs (wd X G XC) E ms)) (hs : ∀ e ∈ a :: es, isStar e = false) :
    PE X (.Call (.Name y p) (a :: es) [] pos) (tE (wd X G XC) E fun env => do
      let ds ← ms env
      b.run ds) := by
  have s1 : starEach (a :: es) X.env = (false, eval a X.env) :: starEach es X.env := star_cons (hs a List.mem_cons_self)
  have s2 : (backTo pos (starEach es X.env)).any (·.1) = false := star_any fun e he => hs e (List.mem_cons_of_mem _ he)
  have hc := x.calm
  have m := bltNm_mem h
  have key : y ∈ bltNames ∧ y ≠ "__name__" ∧ (y == ("__debug__" : Str)) = false := by
    have : ∀ q ∈ bltTab, q.1 ∈ bltNames ∧ q.1 ≠ "__name__" ∧ (q.1 == ("__debug__" : Str)) = false := by decide +kernel
    exact this _ m
  obtain ⟨k1, k2, k3⟩ := key
  have hm := blt_free x k1
  clear h
  simp only [bltTab, List.mem_cons, Prod.mk.injEq, List.not_mem_nil, or_false] at m
  rcases m with ⟨e, _, rfl⟩ | ⟨e, _, rfl⟩ | ⟨e, _, rfl⟩ | ⟨e, _, rfl⟩ | ⟨e, _, rfl⟩ | ⟨e, _, rfl⟩ | ⟨e, _, rfl⟩ | ⟨e, _, rfl⟩ | ⟨e, _, rfl⟩ | ⟨e, _, rfl⟩ | ⟨e, _, rfl⟩ | ⟨e, _, rfl⟩
  · subst e; exact eBltF cLen hg hm (by decide +kernel) ha k2 k3 s1 s2
  · subst e; exact eBltF cAbs hg hm (by decide +kernel) ha k2 k3 s1 s2
  · subst e; exact eBltT cInt hg hm (by decide +kernel) ha k2 k3 s1 s2
  · subst e; exact eBltT cStr hg hm (by decide +kernel) ha k2 k3 s1 s2
  · subst e; exact eBltF (cMax2 hc) hg hm (by decide +kernel) ha k2 k3 s1 s2
  · subst e; exact eBltF (cMin2 hc) hg hm (by decide +kernel) ha k2 k3 s1 s2
  · subst e; exact eBltT cTuple hg hm (by decide +kernel) ha k2 k3 s1 s2
  · subst e; exact eBltT Ev.cList hg hm (by decide +kernel) ha k2 k3 s1 s2
  · subst e; exact eBltF (cAll hc) hg hm (by decide +kernel) ha k2 k3 s1 s2
  · subst e; exact eBltF (cAny hc) hg hm (by decide +kernel) ha k2 k3 s1 s2
  · subst e; exact eBltF (cSum hc) hg hm (by decide +kernel) ha k2 k3 s1 s2
  · subst e; exact eBltF (cRepr x.gd x.hu (by have := x.room.un; omega)) hg hm (by decide +kernel) ha k2 k3 s1 s2
theorem tyNm_ok {y : Str} {t : Ty} (h : tyNm y = some t) : y ∈ bltNames ∧ bootBuiltins y = some (.type t.name) := by
  unfold tyNm at h
  repeat' split at h
  all_goals first
    | (rename_i e; subst e; cases h; exact ⟨by decide +kernel, by decide +kernel⟩)
    | cases h
theorem isLst_ty {H : Hp} {α : List Addr} {S : Store} {d : D} {v : V} (st : StOk (wd X G XC) H α S) (r : RD (wd X G XC) H α d v) (h : isLst d S = true) : tyV X.K "list" v H := by
  unfold isLst at h
  split at h
  · cases r with
    | ref ha =>
      split at h
      · rename_i e
        obtain ⟨vs, q, _⟩ := RC.sql (.inl (st.at_ _ _ _ e ha))
        exact .inl ⟨rfl, vs, q⟩
      · rename_i e
        obtain ⟨vs, q, _⟩ := RC.sql (.inr (st.at_ _ _ _ e ha))
        exact .inl ⟨rfl, vs, q⟩
      · cases h
  · cases h
theorem base_ok {o : Expr} {m : Str} (h : baseOk o = true) : attributeBase o m X.env (eval o X.env) = eval o X.env := by
  cases o <;> first
    | rfl
    | cases h
theorem mth_ok (x : XOk CX k G XC C E c sc top X) {m : Str} {apos pos : Pos} {b : Mth} {o : Expr} {es : List Expr} {ma : Fr → M D} {irs : List Ev.E} (h : mthNm m es.length = some b) (ho : PE X o (tE (wd X G XC) E ma)) (ha : PA X es (tAs (wd X G XC) E (evEs C irs))) (hs : ∀ e ∈ es, isStar e = false)
    (hb : baseOk o = true) (hl : (apos.endLine == pos.line) = true) (h30 : es.length < 30) (hln : es.length = irs.length) :
    PE X (.Call (.Attribute o m apos) es [] pos) (tE (wd X G XC) E fun env => do
      let x ← ma env
      chk (b.kd x)
      let ds ← evEs C irs env
      b.run x ds) := by
  have twoS : ∀ {id : String} {f : D → List D → M D}, 0 < es.length → Slot "str" m id → typeOf (.builtin id) = pure (.type "method_descriptor") → MtR X id (vRM (wd X G XC) E f) → PE X (.Call (.Attribute o m apos) es [] pos) (tE (wd X G XC) E fun env => do
      let x ← ma env
      chk (isStrD x)
      let ds ← evEs C irs env
      f x ds) := fun {id f} h0 sl ty mt => by
    cases es with
    | nil => exact absurd h0 (by simp)
    | cons e es =>
      have s1 : starEach (e :: es) X.env = (false, eval e X.env) :: starEach es X.env := star_cons (hs e List.mem_cons_self)
      have s2 : (backTo pos (starEach es X.env)).any (·.1) = false := star_any fun y hy => hs y (List.mem_cons_of_mem _ hy)
      refine eMth (kd := isStrD) PySem.F.plainAttrs_str sl ty mt isStr_ty ho ha (base_ok hb) ?_ hl s1 s2
      rw [star_all hs]
      simp only [List.length_nil, List.isEmpty_nil, if_true, Nat.add_zero]
      rw [decide_eq_true h30]
      rfl
  have two : ∀ {id : String} {f : D → List D → M D}, 0 < es.length → Slot "list" m id → typeOf (.builtin id) = pure (.type "method_descriptor") → MtR X id (vRM (wd X G XC) E f) → PE X (.Call (.Attribute o m apos) es [] pos) (tE (wd X G XC) E fun env => do
      let x ← ma env
      chk (isLst x)
      let ds ← evEs C irs env
      f x ds) := fun {id f} h0 sl ty mt => by
    cases es with
    | nil => exact absurd h0 (by simp)
    | cons e es =>
      have s1 : starEach (e :: es) X.env = (false, eval e X.env) :: starEach es X.env := star_cons (hs e List.mem_cons_self)
      have s2 : (backTo pos (starEach es X.env)).any (·.1) = false := star_any fun y hy => hs y (List.mem_cons_of_mem _ hy)
      refine eMth (kd := isLst) PySem.F.plainAttrs_list sl ty mt isLst_ty ho ha (base_ok hb) ?_ hl s1 s2
      rw [star_all hs]
      simp only [List.length_nil, List.isEmpty_nil, if_true, Nat.add_zero]
      rw [decide_eq_true h30]
      rfl
  unfold mthNm at h
  split at h
  · rename_i e; obtain ⟨rfl, e⟩ := e; cases h
    exact two (by omega) PySem.F.slot_list_append PySem.F.type_list_append mAppend
  split at h
  · rename_i e; obtain ⟨rfl, e⟩ := e; cases h
    exact two (by omega) PySem.F.slot_list_extend PySem.F.type_list_extend mExtend
  split at h
  · rename_i e; obtain ⟨rfl, e⟩ := e; cases h
    have e1 : es = [] := List.eq_nil_of_length_eq_zero e
    subst e1
    have e2 : irs = [] := List.eq_nil_of_length_eq_zero hln.symm
    subst e2
    exact eMth0 (kd := isLst) PySem.F.plainAttrs_list PySem.F.slot_list_pop PySem.F.type_list_pop mPop isLst_ty ho (base_ok hb) hl
  split at h
  · rename_i e; obtain ⟨rfl, e⟩ := e; cases h
    exact two (by omega) PySem.F.slot_list_pop PySem.F.type_list_pop mPopAt
  split at h
  · rename_i e; obtain ⟨rfl, e⟩ := e; cases h
    exact twoS (by omega) PySem.F.slot_str_join PySem.F.type_str_join mJoin
  split at h
  · rename_i e; obtain ⟨rfl, e⟩ := e; cases h
    exact twoS (by omega) PySem.F.slot_str_split PySem.F.type_str_split mSplit
  · cases h
theorem plain_ok {i : Expr} (h : plainIx i = true) : PlainIx i := by
  intro o v
  cases i <;> first
    | rfl
    | cases h
end
end Ev
namespace Ev
open PySem PySem.Spec PyProof.Rows L2
section
variable {CX : CXT} {k : Nat} {G XC : Nat → Option Addr} {C : Nat → List D → M D} {E : XK} {c : Cc} {sc : Scope} {top : Bool} {X : Cx} {Rr : Rl}
/-! ### targets -/
theorem T.noStar {t : Expr} {ir : T} (h : cT top c sc t = some ir) : isStar t = false := by
  cases t <;> first
    | rfl
    | (simp only [cT] at h; cases h)
mutual
theorem cT_ok (x : XOk CX k G XC C E c sc top X) (p : Nat → Bool) (hR : ∀ i, p i = true → ∀ σ v, Rr.r σ (σ.set i v)) : ∀ {t : Expr} {ir : T}, cT top c sc t = some ir → ir.all p = true → PG X t (tG Rr (wd X G XC) E ir.put)
  | .Name y pos, ir, h, hp => by
    simp only [cT] at h
    split at h
    · rename_i hl
      rw [Option.map_eq_some_iff] at h
      obtain ⟨i, h1, rfl⟩ := h
      rw [T.all] at hp
      have hN : X.N[i]? = some y := by rw [x.hN]; exact idx_get h1
      rcases hl with hl | ⟨ht, hl⟩
      · have hl : X.env.scope.names.lookup y = some .local := by rw [x.hsc]; exact of_decide_eq_true hl
        exact gNm (by rw [x.hN]; exact x.nd) hN (.inl hl) (.inr hl) (hR i hp)
      · have hl : X.env.scope.names.lookup y = some .cell := by rw [x.hsc]; exact hl
        exact gNm (by rw [x.hN]; exact x.nd) hN (.inr hl) (.inl (x.tp ht y)) (hR i hp)
    · cases h
  | .Tuple ts kk pos, ir, h, hp => by
    simp only [cT, Option.map_eq_some_iff] at h
    obtain ⟨irs, h1, rfl⟩ := h
    rw [T.all] at hp
    obtain ⟨g, hl, hs⟩ := cTs_ok x p hR h1 hp
    obtain ⟨a1, a2⟩ := asg_len (env := X.env) hs
    exact gTp x.calm g (by rw [a1, hl]) a2
  | .BoolOp _ _ _, _, h, _ => by simp only [cT] at h; cases h
  | .NamedExpr _ _ _, _, h, _ => by simp only [cT] at h; cases h
  | .BinOp _ _ _ _, _, h, _ => by simp only [cT] at h; cases h
  | .UnaryOp _ _ _, _, h, _ => by simp only [cT] at h; cases h
  | .Lambda _ _ _ _, _, h, _ => by simp only [cT] at h; cases h
  | .IfExp _ _ _ _, _, h, _ => by simp only [cT] at h; cases h
  | .Dict _ _ _, _, h, _ => by simp only [cT] at h; cases h
  | .Set _ _ _, _, h, _ => by simp only [cT] at h; cases h
  | .ListComp _ _ _ _, _, h, _ => by simp only [cT] at h; cases h
  | .SetComp _ _ _ _, _, h, _ => by simp only [cT] at h; cases h
  | .DictComp _ _ _ _ _, _, h, _ => by simp only [cT] at h; cases h
  | .GeneratorExp _ _ _ _, _, h, _ => by simp only [cT] at h; cases h
  | .Await _ _, _, h, _ => by simp only [cT] at h; cases h
  | .Yield _ _, _, h, _ => by simp only [cT] at h; cases h
  | .YieldFrom _ _, _, h, _ => by simp only [cT] at h; cases h
  | .Compare _ _ _ _, _, h, _ => by simp only [cT] at h; cases h
  | .Call _ _ _ _, _, h, _ => by simp only [cT] at h; cases h
  | .FormattedValue _ _ _ _, _, h, _ => by simp only [cT] at h; cases h
  | .JoinedStr _ _, _, h, _ => by simp only [cT] at h; cases h
  | .Constant _ _ _, _, h, _ => by simp only [cT] at h; cases h
  | .Attribute _ _ _, _, h, _ => by simp only [cT] at h; cases h
  | .Subscript _ _ _, _, h, _ => by simp only [cT] at h; cases h
  | .Starred _ _, _, h, _ => by simp only [cT] at h; cases h
  | .List _ _, _, h, _ => by simp only [cT] at h; cases h
  | .Slice _ _ _ _, _, h, _ => by simp only [cT] at h; cases h
theorem cTs_ok (x : XOk CX k G XC C E c sc top X) (p : Nat → Bool) (hR : ∀ i, p i = true → ∀ σ v, Rr.r σ (σ.set i v)) : ∀ {ts : List Expr} {irs : List T}, cTs top c sc ts = some irs → T.alls p irs = true → PGs X ts (tGs Rr (wd X G XC) E (T.puts irs)) ∧ ts.length = irs.length ∧ ∀ t ∈ ts, isStar t = false
  | [], irs, h, hp => by
    rw [cTs] at h
    cases h
    exact ⟨gNil, rfl, fun _ z => by cases z⟩
  | t :: ts, irs, h, hp => by
    rw [cTs] at h
    split at h
    · rename_i i is h1 h2
      cases h
      rw [T.alls, Bool.and_eq_true] at hp
      have g1 := cT_ok x p hR h1 hp.1
      obtain ⟨g2, l2, s2⟩ := cTs_ok x p hR h2 hp.2
      have st := T.noStar h1
      exact ⟨gCns g1 g2 (by rw [asg_cons st]; rfl), by rw [List.length_cons, List.length_cons, l2], fun y hy => by
        rcases List.mem_cons.mp hy with z | z
        · rw [z]; exact st
        · exact s2 y z⟩
    · cases h
end
/-! ### what is walked -/
theorem evs1 {e : Ev.E} {f : D → M Its} : (fun env => (do
    let ds ← evEs C [e] env
    its1 f ds)) = fun env => (do
    let d ← evE C e env
    f d) := by
  funext env S
  show M.bnd (evEs C [e] env) _ S = M.bnd (evE C e env) _ S
  rw [evEs, evEs]
  show M.bnd (M.bnd (evE C e env) fun d => M.bnd (M.ret []) fun ds => M.ret (d :: ds)) _ S = _
  unfold M.bnd
  cases evE C e env S <;> rfl
theorem noSet {iter : Expr} {n : Nat} {ir : Ev.E} (h : cE n c sc iter = some ir) : ∀ env x, foldedSetIterable iter env x = pure x := by
  intro env x
  cases n with
  | zero => cases h
  | succ n =>
    cases iter <;> first
      | rfl
      | (simp only [cE] at h; cases h)
theorem noSetE {e : Expr} {n : Nat} {ir : Ev.E} (h : cE n c sc e = some ir) : notSet e = true := by
  cases n with
  | zero => cases h
  | succ n =>
    cases e <;> first
      | rfl
      | (simp only [cE] at h; cases h)
theorem tI.of {W : Wd} {E : XK} {mi mj : Fr → M Its} {X : Cx} {tg iter : Expr} (h : PI X tg iter (tI W E mi)) (e : mj = mi) : PI X tg iter (tI W E mj) := by rw [e]; exact h
theorem cIt_ok (x : XOk CX k G XC C E c sc top X) {n : Nat} {tg iter : Expr} {ki : IK} {es : List Ev.E} (ih : ∀ {e ir}, cE n c sc e = some ir → PE X e (tE (wd X G XC) E (evE C ir)) ∧ isStar e = false) (h : cIt c sc (cE n c sc) tg iter = some (ki, es)) :
    PI X tg iter (tI (wd X G XC) E fun env => do
      let ds ← evEs C es env
      ki.its ds) ∧ ∀ v, foldedSetIterable iter X.env v = pure v := by
  have sq : ∀ {e : Expr}, (cE n c sc e).map (fun e => (IK.seq, [e])) = some (ki, es) → PI X tg e (tI (wd X G XC) E fun env => do
      let ds ← evEs C es env
      ki.its ds) ∧ ∀ v, foldedSetIterable e X.env v = pure v := fun {e} h => by
    rw [Option.map_eq_some_iff] at h
    obtain ⟨ir, h1, h2⟩ := h
    cases h2
    exact ⟨tI.of (iSeq (ih h1).1) evs1, noSet h1 X.env⟩
  have gl : ∀ {y : Str}, glB sc y = true → Gl X y := fun {y} hg => by show X.env.scope.names.lookup y = _; rw [x.hsc]; exact of_decide_eq_true hg
  unfold cIt at h
  split at h
  · split at h
    · rename_i e
      obtain ⟨rfl, hg⟩ := e
      rw [Option.map_eq_some_iff] at h
      obtain ⟨ir, h1, h2⟩ := h
      cases h2
      obtain ⟨i1, i2⟩ := ih h1
      exact ⟨iRng1 (gl hg) (blt_free x (by decide +kernel)) (eCons i1 eNil (star_cons i2)) (star_cons i2), fun _ => rfl⟩
    split at h
    · rename_i e
      obtain ⟨rfl, hg⟩ := e
      split at h
      · rename_i ht
        rw [Option.map_eq_some_iff] at h
        obtain ⟨ir, h1, h2⟩ := h
        cases h2
        obtain ⟨i1, i2⟩ := ih h1
        cases tg <;> first
          | exact ⟨iEnm (gl hg) (blt_free x (by decide +kernel)) (eCons i1 eNil (star_cons i2)) (star_cons i2), fun _ => rfl⟩
          | cases ht
      · cases h
    · exact sq h
  · split at h
    · rename_i e
      obtain ⟨rfl, hg⟩ := e
      split at h
      · rename_i a' b' h1 h2
        cases h
        obtain ⟨i1, i2⟩ := ih h1
        obtain ⟨j1, j2⟩ := ih h2
        have s1 := star_cons (es := []) (env := X.env) j2
        have s2 : starEach [_, _] X.env = [_, _] := (star_cons (env := X.env) i2).trans (by rw [s1]; rfl)
        exact ⟨iRng2 (gl hg) (blt_free x (by decide +kernel)) (eCons i1 (eCons j1 eNil s1) (star_cons i2)) s2 s1, fun _ => rfl⟩
      · cases h
    split at h
    · rename_i e
      obtain ⟨rfl, hg⟩ := e
      split at h
      · rename_i ht
        split at h
        · rename_i a' b' h1 h2
          cases h
          obtain ⟨i1, i2⟩ := ih h1
          obtain ⟨j1, j2⟩ := ih h2
          have s1 := star_cons (es := []) (env := X.env) j2
          cases tg <;> first
            | exact ⟨iZip (gl hg) (blt_free x (by decide +kernel)) (eCons i1 (eCons j1 eNil s1) (star_cons i2)) (star_cons i2) (by rw [s1]; rfl), fun _ => rfl⟩
            | cases ht
        · cases h
      · cases h
    · exact sq h
  · exact sq h
/-! ### expressions -/
theorem eIfT {t a b : Expr} {mt ma mb : Fr → M D} {pos : Pos} (hc : PT X t (tT (wd X G XC) E mt)) (ha : PT X a (tT (wd X G XC) E ma)) (hb : PT X b (tT (wd X G XC) E mb)) : PT X (.IfExp t a b pos) (tT (wd X G XC) E fun env => do
      let x ← mt env
      tru x (ma env) (mb env)) := by
  refine ⟨fun pins s σ H Q I ⟨env, S, α, st, re, h⟩ => ?_⟩
  show wpAny _ _ (isTrue t X.env (eval t X.env) >>= fun r => if r = true then isTrue a X.env (eval a X.env) else isTrue b X.env (eval b X.env)) _ _ s
  refine wpAny_bind (thn (hc.run pins s σ H _ I (tT_of st re h)) fun r s1 ⟨H1, I1, S1, α1, sp1, st1, re1, h1⟩ => ?_)
  cases r with
  | true =>
    rw [if_pos rfl] at h1 ⊢
    exact ha.run pins s1 σ H1 Q I1 ⟨env, S1, α1, st1, re1, h1⟩
  | false =>
    rw [if_neg Bool.false_ne_true] at h1 ⊢
    exact hb.run pins s1 σ H1 Q I1 ⟨env, S1, α1, st1, re1, h1⟩
theorem pt_plain {e : Expr} {ir : Ev.E} (h : PE X e (tE (wd X G XC) E (evE C ir))) (he : ∀ whole, isTrue e X.env whole = (do let v ← whole; standAt e.pos; holding [v] (truthy v))) (hs : isStar e = false) :
    PE X e (tE (wd X G XC) E (evE C ir)) ∧ PT X e (tT (wd X G XC) E (evE C ir)) ∧ isStar e = false := ⟨h, ptOf h he, hs⟩
theorem own_ix {tg : Expr} {p : Str × Nat} (h : p ∈ ownOf c tg) : c.N[p.2]? = some p.1 := by
  unfold ownOf at h
  obtain ⟨y, _, h2⟩ := List.mem_filterMap.mp h
  rw [Option.map_eq_some_iff] at h2
  obtain ⟨i, h3, rfl⟩ := h2
  exact idx_get h3
theorem cE_ok : ∀ (n : Nat) {E : XK} {sc : Scope} {top : Bool} {X : Cx} {e : Expr} {ir : Ev.E}, cE n c sc e = some ir → XOk CX k G XC C E c sc top X → PE X e (tE (wd X G XC) E (evE C ir)) ∧ PT X e (tT (wd X G XC) E (evE C ir)) ∧ isStar e = false := by
  intro n
  induction n with
  | zero => intro E sc top X e ir h; cases h
  | succ n ih =>
    intro E sc top X e ir h x
    have ih1 : ∀ {e ir}, cE n c sc e = some ir → PE X e (tE (wd X G XC) E (evE C ir)) ∧ isStar e = false := fun h => let ⟨a, _, b⟩ := ih h x; ⟨a, b⟩
    have ih2 : ∀ {e ir}, cE n c sc e = some ir → PE X e (tE (wd X G XC) E (evE C ir)) ∧ PT X e (tT (wd X G XC) E (evE C ir)) := fun h => let ⟨a, b, _⟩ := ih h x; ⟨a, b⟩
    have gl : ∀ {y : Str}, glB sc y = true → Gl X y := fun {y} hg => by show X.env.scope.names.lookup y = _; rw [x.hsc]; exact of_decide_eq_true hg
    have call : ∀ {y : Str} {p pos : Pos} {args : List Expr} {ir : Ev.E}, cCall c sc y args (kList (cE n c sc) args) = some ir → PE X (.Call (.Name y p) args [] pos) (tE (wd X G XC) E (evE C ir)) := fun {y p pos args ir} h => by
      unfold cCall at h
      split at h
      · rename_i hn
        obtain ⟨n1, n2, n3⟩ := okName_of hn
        split at h
        · split at h <;> cases h
        · rename_i irs e1
          obtain ⟨l1, l2, l3⟩ := kList_ok (es := args) ih1 e1
          split at h
          · rename_i hv
            split at h
            · rename_i i a as e2
              cases h
              exact eCallV (fun j f hj => x.call hj) (by rw [x.hN]; exact idx_get e2) (by rw [x.hsc]; exact vis_of hv) l1 n1 n2 (star_cons (l2 a List.mem_cons_self)) (star_any fun e he => l2 e (List.mem_cons_of_mem _ he))
            · cases h
          split at h
          · rename_i hg
            split at h
            · rename_i f e2
              cases h
              obtain ⟨a, g1, g2⟩ := x.fns f y (idx_get e2)
              obtain ⟨c1, c2⟩ := x.call g1
              cases args with
              | nil =>
                have e3 : irs = [] := List.eq_nil_of_length_eq_zero l3.symm
                subst e3
                exact eCallG0 c1 (gl hg) g2 c2 n1
              | cons a as => exact eCallG c1 (gl hg) g2 c2 l1 n1 (star_cons (l2 a List.mem_cons_self)) (star_any fun e he => l2 e (List.mem_cons_of_mem _ he))
            · split at h
              · rename_i e2
                cases h
                exact blt_ok x e2 (gl hg) l1 l2
              · cases h
          · cases h
      · cases h
    unfold cE at h
    split at h
    · exact pt_plain (cName_ok x h) (fun _ => rfl) rfl
    · exact pt_plain (cConst_ok h) (fun _ => rfl) rfl
    · rw [Option.map_eq_some_iff] at h
      obtain ⟨irs, h1, rfl⟩ := h
      exact pt_plain (eTup (kList_ok ih1 h1).1) (fun _ => rfl) rfl
    · rw [Option.map_eq_some_iff] at h
      obtain ⟨irs, h1, rfl⟩ := h
      exact pt_plain (eLst (kList_ok ih1 h1).1) (fun _ => rfl) rfl
    · split at h
      · rename_i h1 h2 h3
        cases h
        exact pt_plain (eBin (bopR _ h1) (ih1 h2).1 (ih1 h3).1) (fun _ => rfl) rfl
      · cases h
    · rw [Option.map_eq_some_iff] at h
      obtain ⟨irs, h1, rfl⟩ := h
      exact ⟨eNot (ih2 h1).1, eNotT (ih2 h1).2, rfl⟩
    · rw [Option.map_eq_some_iff] at h
      obtain ⟨irs, h1, rfl⟩ := h
      exact pt_plain (eNeg (ih1 h1).1) (fun _ => rfl) rfl
    · obtain ⟨h1, h2⟩ := cAnd_ok ih2 h
      exact ⟨h1, h2.pt, rfl⟩
    · obtain ⟨h1, h2⟩ := cOr_ok ih2 h
      exact ⟨h1, h2.pt, rfl⟩
    · split at h
      · rename_i h1 h2 h3
        cases h
        exact ⟨eIf (ih2 h1).2 (ih1 h2).1 (ih1 h3).1, eIfT (ih2 h1).2 (ih2 h2).2 (ih2 h3).2, rfl⟩
      · cases h
    · split at h
      · rename_i h1 h2 h3
        cases h
        obtain ⟨o1, o2⟩ := copR x _ h1
        exact ⟨eCmp o1 (ih1 h2).1 (ih1 h3).1 (o2 _ (noSetE h3)), eCmpT o1 (ih1 h2).1 (ih1 h3).1 (o2 _ (noSetE h3)), rfl⟩
      · cases h
    · split at h
      · rename_i h1 h2 h3 h4 h5
        cases h
        obtain ⟨o1, o2⟩ := copR x _ h1
        obtain ⟨p1, p2⟩ := copR x _ h2
        exact ⟨eChain o1 p1 (ih1 h3).1 (ih1 h4).1 (ih1 h5).1 (p2 _ (noSetE h5)), eChainT o1 p1 (ih1 h3).1 (ih1 h4).1 (ih1 h5).1 (p2 _ (noSetE h5)), rfl⟩
      · cases h
    · split at h
      · rename_i h1 h2
        cases h
        exact pt_plain (eSlLo (ih1 h1).1 (ih1 h2).1) (fun _ => rfl) rfl
      · cases h
    · split at h
      · rename_i h1 h2
        cases h
        exact pt_plain (eSlHi (ih1 h1).1 (ih1 h2).1) (fun _ => rfl) rfl
      · cases h
    · split at h
      · rename_i h1 h2 h3
        cases h
        exact pt_plain (eSlLH (ih1 h1).1 (ih1 h2).1 (ih1 h3).1) (fun _ => rfl) rfl
      · cases h
    · rw [Option.map_eq_some_iff] at h
      obtain ⟨irs, h1, rfl⟩ := h
      exact pt_plain (eRev (ih1 h1).1) (fun _ => rfl) rfl
    · split at h
      · rename_i hp
        split at h
        · rename_i h1 h2
          cases h
          exact pt_plain (eIx (ih1 h1).1 (ih1 h2).1 (plain_ok hp)) (fun _ => rfl) rfl
        · cases h
      · cases h
    · split at h
      · split at h
        · unfold kIsi at h
          split at h
          · rename_i hh
            obtain ⟨q1, q2, q3, q4, q5⟩ := hh
            split at h
            · rename_i t a e1 e2
              cases h
              obtain ⟨i1, i2⟩ := ih1 e2
              obtain ⟨t1, t2⟩ := tyNm_ok e1
              obtain ⟨n1, n2, n3⟩ := okName_of q4
              refine pt_plain (eIsi q3 (gl q2) (blt_free x (by rw [q3]; decide +kernel)) t2 (gl q5) (blt_free x t1) n3 n1 i1 (star_cons i2)) (fun _ => rfl) rfl
            · cases h
          · cases h
        · exact pt_plain (call h) (fun _ => rfl) rfl
      · exact pt_plain (call h) (fun _ => rfl) rfl
    · split at h
      · rename_i hh
        obtain ⟨q1, q2, q3⟩ := hh
        split at h
        · rename_i h1 h2 h3
          cases h
          obtain ⟨l1, l2, l3⟩ := kList_ok ih1 h2
          exact pt_plain (mth_ok x h3 (ih1 h1).1 l1 l2 q1 q2 q3 l3) (fun _ => rfl) rfl
        · cases h
      · cases h
    · split at h
      · rename_i elt tg iter ifs scope pos hh
        obtain ⟨q1, q2⟩ := hh
        split at h
        · rename_i ki es t fs el h1 h2 h3 h4
          split at h
          · rename_i ha
            cases h
            obtain ⟨w1, w2⟩ := cIt_ok x ih1 h1
            have ok : BlkOk X.N X.env.scope scope (ownOf c tg) := by rw [x.hN, x.hsc]; exact blkOk_by q1
            have tg := fun s H D cl fp => cT_ok (Rr := Rl.but ((ownOf c tg).map (·.2))) (x.blk s H scope D cl fp) (fun i => (ownOf c tg).any fun p => p.2 == i) (fun i hi => but_set (by
              rw [List.any_eq_true] at hi
              obtain ⟨p, p1, p2⟩ := hi
              exact List.mem_map.mpr ⟨p, p1, eq_of_beq p2⟩)) h2 ha
            cases ifs with
            | nil =>
              cases h3
              exact pt_plain (eLc x.calm (by rw [x.hN]; exact x.nd) w1 ok tg (fun _ _ _ _ _ => pts_nil) (fun h => read_nil h) (fun s H D cl fp => (ih h4 (x.blk s H _ D cl fp)).1) w2) (fun _ => rfl) rfl
            | cons i is =>
              have e0 : is = [] := List.eq_nil_of_length_eq_zero (by rw [List.length_cons] at q2; omega)
              subst e0
              unfold kList at h3
              split at h3
              · rename_i f fs' e1 e2
                cases h3
                cases e2
                exact pt_plain (eLc x.calm (by rw [x.hN]; exact x.nd) w1 ok tg (fun s H D cl fp => pts_one (ih e1 (x.blk s H _ D cl fp)).2.1) (fun h => h) (fun s H D cl fp => (ih h4 (x.blk s H _ D cl fp)).1) w2) (fun _ => rfl) rfl
              · cases h3
          · cases h
        · cases h
      · cases h
    · cases h
end
end Ev
namespace Ev
open PySem PySem.Spec PyProof.Rows L2
/-! ### statements: the compiler -/
def isComp : Expr → Bool
  | .ListComp _ _ _ _ => true
  | .SetComp _ _ _ _ => true
  | .DictComp _ _ _ _ _ => true
  | _ => false
def swNames (sc : Scope) (ts : List Expr) : List Str := List.filterMap (fun x => match x with
  | Expr.Name id pos => if (sc.names.lookup id == some NameKind.local && pos.line == (Option.map (fun (x : Expr) => x.pos.line) ts.head?).getD 0) = true then some id else none
  | x => none) ts
def swNone (sc : Scope) (ts vs : List Expr) : Bool :=
  (!(ts.length == 2 || ts.length == 3) || vs.length != ts.length) || (((swNames sc ts).length != ts.length || (swNames sc ts).eraseDups.length != (swNames sc ts).length) || vs.all (foldedForSure 8))
def noStarB (vs : List Expr) : Bool := vs.all fun x => !isStar x
theorem noStarB_ok {vs : List Expr} (h : noStarB vs = true) : (vs.any fun x => match x with
              | Expr.Starred value pos => true
              | x => false) = false := by
  unfold noStarB at h
  rw [List.all_eq_true] at h
  rw [List.any_eq_false]
  intro x hx
  have := h x hx
  cases x <;> simp_all [isStar]
theorem swNone_ok {env : Env} {ts vs : List Expr} {k k2 : Nat} {p p2 : Pos} (h : swNone env.scope ts vs = true) : swappedStores [.Tuple ts k p] (.Tuple vs k2 p2) env = pure none := by
  unfold swappedStores
  dsimp only
  split
  · rfl
  split
  · rfl
  rename_i h1 h2
  unfold swNone at h
  have e1 : (!(ts.length == 2 || ts.length == 3) || vs.length != ts.length) = false := by
    cases q : (!(ts.length == 2 || ts.length == 3) || vs.length != ts.length) with
    | false => rfl
    | true => rw [q] at h1; exact absurd rfl h1
  rw [e1, Bool.false_or, Bool.or_eq_true] at h
  rcases h with h | h
  · exact if_pos h
  · rw [if_pos h]
    split <;> rfl
theorem blk_fn {env : Env} (h : env.scope.kind = .function) : env.blockKind = .function := by unfold Env.blockKind; rw [h]; rfl
theorem swSome_ok {env : Env} {ts vs : List Expr} {k k2 : Nat} {p p2 : Pos} (hk : env.scope.kind = .function) (hs : noStarB vs = true) (h1 : (!(ts.length == 2 || ts.length == 3) || vs.length != ts.length) = false)
    (h2 : ((swNames env.scope ts).length != ts.length || (swNames env.scope ts).eraseDups.length != (swNames env.scope ts).length) = false) (h3 : vs.all (foldedForSure 8) = false) (h4 : vs.all (constantsAlone 8) = false) :
    swappedStores [.Tuple ts k p] (.Tuple vs k2 p2) env = pure (some (swNames env.scope ts)) := by
  unfold swappedStores
  dsimp only
  rw [if_neg (by rw [h1, blk_fn hk]; exact fun h => nomatch h)]
  split
  · rename_i q
    exact Bool.noConfusion ((noStarB_ok hs).symm.trans q)
  refine (if_neg (c := ((swNames env.scope ts).length != ts.length || (swNames env.scope ts).eraseDups.length != (swNames env.scope ts).length) = true) (by rw [h2]; exact fun h => nomatch h)).trans ?_
  rw [if_neg (by rw [h3]; exact fun h => nomatch h), if_neg (by rw [h4]; exact fun h => nomatch h)]
  rfl
/-- two, three names side by side -/
def swOk (sc : Scope) (ts vs : List Expr) : Bool :=
  decide (sc.kind = .function) && (noStarB vs && (!(!(ts.length == 2 || ts.length == 3) || vs.length != ts.length) && (!((swNames sc ts).length != ts.length || (swNames sc ts).eraseDups.length != (swNames sc ts).length) && (!(vs.all (foldedForSure 8)) && !(vs.all (constantsAlone 8))))))
theorem swOk_ok {env : Env} {ts vs : List Expr} {k k2 : Nat} {p p2 : Pos} (h : swOk env.scope ts vs = true) : swappedStores [.Tuple ts k p] (.Tuple vs k2 p2) env = pure (some (swNames env.scope ts)) := by
  unfold swOk at h
  simp only [Bool.and_eq_true, Bool.not_eq_true', decide_eq_true_eq] at h
  obtain ⟨a, b, c, d, e, f⟩ := h
  exact swSome_ok a b c d e f
def kStm (f : Stmt → Option St) : List Stmt → Option (List St)
  | [] => some []
  | e :: es => (kStm f es).map fun xs => (f e).getD (.raise 0) :: xs
def distB : List Nat → Bool
  | [a, b] => decide (a ≠ b)
  | [a, b, c] => decide (a ≠ b ∧ a ≠ c ∧ b ≠ c)
  | _ => false
/-- the swap of name = [..] -/
def lcSw (sc scope : Scope) (y : Str) (py pos : Pos) : Bool := decide (sc.names.lookup y = some .local) && (py.line == pos.line && !(scope.names.any fun (n, k) => n == y && (k == .local || k == .cell)))
def cS : Nat → Cc → Scope → Stmt → Option St
  | 0, _, _, _ => none
  | n + 1, c, sc, st => match st with
    | .Pass _ => some .pass
    | .Break _ => some .brk
    | .Continue _ => some .cont
    | .Return none _ => some .retN
    | .Return (some e) _ => (cE 40 c sc e).map .ret
    | .Expr e _ => if isComp e = true then none else (cE 40 c sc e).map .drop
    | .If t a b _ => match cE 40 c sc t, kStm (cS n c sc) a, kStm (cS n c sc) b with
      | some t, some a, some b => some (.ife t a b)
      | _, _, _ => none
    | .While t a [] _ => match cE 40 c sc t, kStm (cS n c sc) a with
      | some t, some a => some (.whl t a)
      | _, _ => none
    | .For tg it a [] _ => match cT true c sc tg, cIt c sc (cE 40 c sc) tg it, kStm (cS n c sc) a with
      | some t, some (k, es), some a => some (.for t k es a)
      | _, _, _ => none
    | .Assign [.Name x px] e pos => if locB sc x = true ∨ sc.names.lookup x = some .cell then (match e with
      | .ListComp el gs scope pe => if sc.kind = .function then (if lcSw sc scope x px pe = true ∨ decide (sc.names.lookup x = some .cell) = true then (match idx x c.N, cE 40 c sc (.ListComp el gs scope pe) with
        | some i, some e => some (.set i e)
        | _, _ => none) else none) else none
      | e => if isComp e = true then none else (match idx x c.N, cE 40 c sc e with
        | some i, some e => some (.set i e)
        | _, _ => none)) else none
    | .Assign [.Tuple ts kt pt] (.Tuple vs kv pv) pos => if swNone sc ts vs = true then (match cTs true c sc ts, cE 40 c sc (.Tuple vs kv pv) with
        | some t, some e => some (.asg (.tup t) e)
        | _, _ => none) else if swOk sc ts vs = true then (match ts, vs, kList (cE 40 c sc) vs with
          | [.Name x _, .Name y _], [a, b], some [ea, eb] => match idx x c.N, idx y c.N with
            | some i, some j => if swNames sc ts = [x, y] ∧ distB [i, j] = true ∧ locB sc x = true ∧ locB sc y = true then some (.par2 i j ea eb) else none
            | _, _ => none
          | [.Name x _, .Name y _, .Name z _], [a, b, d], some [ea, eb, ed] => match idx x c.N, idx y c.N, idx z c.N with
            | some i, some j, some l => if swNames sc ts = [x, y, z] ∧ distB [i, j, l] = true ∧ locB sc x = true ∧ locB sc y = true ∧ locB sc z = true then some (.par3 i j l ea eb ed) else none
            | _, _, _ => none
          | _, _, _ => none) else none
    | .Assign [.Tuple ts kt pt] e pos => if isTup e = true then none else (match cTs true c sc ts, cE 40 c sc e with
        | some t, some e => some (.asg (.tup t) e)
        | _, _ => none)
    | .Assign [.Subscript a i _] e _ => if plainIx i = true then (match cE 40 c sc a, cE 40 c sc i, cE 40 c sc e with
        | some a, some i, some e => some (.sub a i e)
        | _, _, _ => none) else none
    | .AugAssign (.Name x _) o e _ => if locB sc x = true ∨ sc.names.lookup x = some .cell then (match o, idx x c.N, cE 40 c sc e with
        | .Add, some i, some e => some (.aug i .add e)
        | .Sub, some i, some e => some (.aug i .sub e)
        | _, _, _ => none) else none
    | _ => none
def cSs (n : Nat) (c : Cc) (sc : Scope) (b : List Stmt) : Option (List St) := kStm (cS n c sc) b
/-! ### .. and what it reads -/
section
variable {CX : CXT} {k : Nat} {G XC : Nat → Option Addr} {C : Nat → List D → M D} {E : XK} {c : Cc} {sc : Scope} {X : Cx}
theorem swW {e : Expr} {tg : Option Expr} {l : Nat} {env : Env} (h : isComp e = false) : swapsWith e tg l env = pure false := by
  cases e <;> first
    | rfl
    | cases h
theorem swT {e : Expr} {ts : List Expr} {k : Nat} {p : Pos} {l : Nat} {env : Env} : swapsWithSole [.Tuple ts k p] e l env = pure false := by
  cases e <;> rfl
theorem swS {e a i : Expr} {p : Pos} {l : Nat} {env : Env} : swapsWithSole [.Subscript a i p] e l env = pure false := by
  cases e <;> rfl
theorem stT {e : Expr} {ts : List Expr} {k : Nat} {p : Pos} {env : Env} (h : isTup e = false) : swappedStores [.Tuple ts k p] e env = pure none := by
  cases e <;> first
    | rfl
    | cases h
theorem stS {e a i : Expr} {p : Pos} {env : Env} : swappedStores [.Subscript a i p] e env = pure none := by
  cases e <;> rfl
theorem sFail {st : Stmt} : PS X st (tS (wd X G XC) E fun _ => M.fail) := ⟨fun pins s σ H D I ⟨_, _, _, _, _, h⟩ => h.elim⟩
theorem kStm_ok {n : Nat} (ih : ∀ {s ir}, cS n c sc s = some ir → PS X s (tS (wd X G XC) E (evS C ir))) : ∀ {ss : List Stmt} {irs : List St}, kStm (cS n c sc) ss = some irs → PSs X ss (tS (wd X G XC) E (evSs C irs))
  | [], irs, h => by
    cases h
    exact sNil
  | s :: ss, irs, h => by
    unfold kStm at h
    rw [Option.map_eq_some_iff] at h
    obtain ⟨xs, h2, rfl⟩ := h
    cases h1 : cS n c sc s with
    | none => exact sCons sFail (kStm_ok ih h2)
    | some x => exact sCons (ih h1) (kStm_ok ih h2)
theorem loc_of {x : Str} (hsc : X.env.scope = sc) (h : locB sc x = true ∨ sc.names.lookup x = some .cell) : Loc X.env.scope x := by
  rw [hsc]
  rcases h with h | h
  · exact .inl (of_decide_eq_true h)
  · exact .inr h
theorem asg_one {t : Expr} {env : Env} (h : isStar t = false) : (assignEach [t] env).map (·.2) = [assign t env] := by rw [asg_cons h]; rfl
theorem T.allT : (∀ (t : T), t.all (fun _ => true) = true) := fun t => by
  refine T.rec (motive_1 := fun t => T.all (fun _ => true) t = true) (motive_2 := fun ts => T.alls (fun _ => true) ts = true) ?_ ?_ ?_ ?_ t
  · intro i; rw [T.all]
  · intro ts h; rw [T.all]; exact h
  · rw [T.alls]
  · intro t ts h1 h2; rw [T.alls, h1, h2]; rfl
theorem augAdd {W : Wd} {E : XK} {H α S x y} {d e : D} {P : D → Store → Hp → List Addr → Prop} (st : StOk W H α S) (r1 : RD W H α d x) (r2 : RD W H α e y) (h : okM W E H α (dAug .add d e S) P) : ∃ i j, x = .int i ∧ y = .int j ∧ P (.int (i + j)) S H α := by
  cases d with
  | int i =>
    cases e with
    | int j =>
      cases r1
      cases r2
      exact ⟨i, j, rfl, rfl, h _ _ Step.refl st⟩
    | _ => exact h.elim
  | _ => cases e <;> exact h.elim
theorem augSub {W : Wd} {E : XK} {H α S x y} {d e : D} {P : D → Store → Hp → List Addr → Prop} (st : StOk W H α S) (r1 : RD W H α d x) (r2 : RD W H α e y) (h : okM W E H α (dAug .sub d e S) P) : ∃ i j, x = .int i ∧ y = .int j ∧ P (.int (i - j)) S H α := by
  cases d with
  | int i =>
    cases e with
    | int j =>
      cases r1
      cases r2
      exact ⟨i, j, rfl, rfl, h _ _ Step.refl st⟩
    | _ => exact h.elim
  | _ => cases e <;> exact h.elim
theorem gTup (x : XOk CX k G XC C E c sc true X) {ts : List Expr} {irs : List T} {kt : Nat} {pt : Pos} (h : cTs true c sc ts = some irs) : PG X (.Tuple ts kt pt) (tG Rl.any (wd X G XC) E (T.put (.tup irs))) :=
  cT_ok (Rr := Rl.any) (t := .Tuple ts kt pt) (ir := .tup irs) x (fun _ => true) (fun _ _ _ _ => trivial) (by rw [cT, h]; rfl) (T.allT _)
theorem lc_parts (x : XOk CX k G XC C E c sc true X) {n : Nat} {elt : Expr} {gs : List Comprehension} {scope : Scope} {pos : Pos} {ir : Ev.E} (h : cE (n + 1) c sc (.ListComp elt gs scope pos) = some ir) :
    ∃ (tg iter : Expr) (ifs : List Expr) (own : List (Str × Nat)) (t : T) (mi : Fr → M Its) (mt me : Fr → M D) (tt : TT), gs = [⟨tg, iter, ifs, 0⟩] ∧ PI X tg iter (tI (wd X G XC) E mi) ∧ BlkOk X.N X.env.scope scope own ∧
    (∀ (s : Shared) (H : Hp) (C : Addr) (cl : List (Str × Addr)) (fp : List Addr), PG (X.blk s H scope (compEnvC scope cl C X.env) fp) tg (tG (Rl.but (own.map (·.2))) (wd X G XC) E0 t.put)) ∧
    (∀ (s : Shared) (H : Hp) (C : Addr) (cl : List (Str × Addr)) (fp : List Addr), PTs (X.blk s H scope (compEnvC scope cl C X.env) fp) ifs tt) ∧ (∀ {σ H Q}, tT (wd X G XC) E0 mt σ H Q → tt σ H Q) ∧
    (∀ (s : Shared) (H : Hp) (C : Addr) (cl : List (Str × Addr)) (fp : List Addr), PE (X.blk s H scope (compEnvC scope cl C X.env) fp) elt (tE (wd X G XC) E0 me)) ∧ (∀ x, foldedSetIterable iter X.env x = pure x) ∧
    evE C ir = (fun env => (do
      let it ← mi env
      let xs ← noexc <| lcF it.ok t.put mt me (wipeF env (own.map (·.2))) it.ds []
      alloc (.lst xs))) := by
  have ih1 : ∀ {e ir}, cE n c sc e = some ir → PE X e (tE (wd X G XC) E (evE C ir)) ∧ isStar e = false := fun h => let ⟨a, _, b⟩ := cE_ok n h x; ⟨a, b⟩
  unfold cE at h
  split at h
  all_goals first
    | (rename_i he; cases he; done)
    | (cases h; done)
    | skip
  · rename_i elt tg iter ifs scope pos he
    cases he
    split at h
    · rename_i hh
      obtain ⟨q1, q2⟩ := hh
      split at h
      · rename_i ki es t fs el h1 h2 h3 h4
        split at h
        · rename_i ha
          cases h
          obtain ⟨w1, w2⟩ := cIt_ok x ih1 h1
          have ok : BlkOk X.N X.env.scope scope (ownOf c tg) := by rw [x.hN, x.hsc]; exact blkOk_by q1
          have tg' := fun s H D cl fp => cT_ok (Rr := Rl.but ((ownOf c tg).map (·.2))) (x.blk s H scope D cl fp) (fun i => (ownOf c tg).any fun p => p.2 == i) (fun i hi => but_set (by
            rw [List.any_eq_true] at hi
            obtain ⟨p, p1, p2⟩ := hi
            exact List.mem_map.mpr ⟨p, p1, eq_of_beq p2⟩)) h2 ha
          cases ifs with
          | nil =>
            cases h3
            exact ⟨tg, iter, [], ownOf c tg, t, _, _, _, _, rfl, w1, ok, tg', (fun _ _ _ _ _ => pts_nil), (fun h => read_nil h), (fun s H D cl fp => (cE_ok n h4 (x.blk s H _ D cl fp)).1), w2, rfl⟩
          | cons i is =>
            have e0 : is = [] := List.eq_nil_of_length_eq_zero (by rw [List.length_cons] at q2; omega)
            subst e0
            unfold kList at h3
            split at h3
            · rename_i f fs' e1 e2
              cases h3
              cases e2
              exact ⟨tg, iter, [i], ownOf c tg, t, _, _, _, _, rfl, w1, ok, tg', (fun s H D cl fp => pts_one (cE_ok n e1 (x.blk s H _ D cl fp)).2.1), (fun h => h), (fun s H D cl fp => (cE_ok n h4 (x.blk s H _ D cl fp)).1), w2, rfl⟩
            · cases h3
        · cases h
      · cases h
    · cases h
theorem sw_cell {elt : Expr} {gs : List Comprehension} {scope : Scope} {pos py : Pos} {y : Str} {l : Nat} {env : Env} (hy : env.scope.names.lookup y = some .cell) : swapsWith (.ListComp elt gs scope pos) (some (.Name y py)) l env = pure false := by
  have ky : env.kindOf y = some .cell := hy
  unfold swapsWith
  simp only [ky]
  have : ((some NameKind.cell : Option NameKind) == some NameKind.local) = false := rfl
  simp only [this, Bool.and_false, Bool.false_and]
theorem cS_ok (x : XOk CX k G XC C E c sc true X) (hp : PassesOwn (model X.prog X.w) X.A X.env X.xe) : ∀ (n : Nat) {s : Stmt} {ir : St}, cS n c sc s = some ir → PS X s (tS (wd X G XC) E (evS C ir)) := by
  intro n
  have nd : X.N.Nodup := by rw [x.hN]; exact x.nd
  have ex : ∀ {e : Expr} {ir : Ev.E}, cE 40 c sc e = some ir → PE X e (tE (wd X G XC) E (evE C ir)) := fun h => (cE_ok 40 h x).1
  have ih1 : ∀ {e ir}, cE 40 c sc e = some ir → PE X e (tE (wd X G XC) E (evE C ir)) ∧ isStar e = false := fun h => let ⟨a, _, b⟩ := cE_ok 40 h x; ⟨a, b⟩
  induction n with
  | zero => intro s ir h; cases h
  | succ n ih =>
    intro s ir h
    unfold cS at h
    split at h
    · cases h; exact sPass
    · cases h; exact sBrk
    · cases h; exact sCont
    · cases h; exact sRetN
    · rw [Option.map_eq_some_iff] at h
      obtain ⟨e, h1, rfl⟩ := h
      exact sRet (ex h1)
    · split at h
      · cases h
      · rename_i hc
        rw [Option.map_eq_some_iff] at h
        obtain ⟨e, h1, rfl⟩ := h
        exact sDrop (ex h1) (swW (by simpa using hc))
    · split at h
      · rename_i h1 h2 h3
        cases h
        exact sIf (cE_ok 40 h1 x).2.1 (kStm_ok ih h2) (kStm_ok ih h3)
      · cases h
    · split at h
      · rename_i h1 h2
        cases h
        exact sWhile hp (cE_ok 40 h1 x).2.1 (kStm_ok ih h2)
      · cases h
    · split at h
      · rename_i h1 h2 h3
        cases h
        obtain ⟨i1, i2⟩ := cIt_ok x ih1 h2
        exact sFor hp x.calm i1 (cT_ok x (fun _ => true) (fun _ _ _ _ => trivial) h1 (T.allT _)) (kStm_ok ih h3) i2
      · cases h
    · rename_i y px e pos
      split at h
      · rename_i hl
        have hx := loc_of (X := X) x.hsc hl
        split at h
        · split at h
          · rename_i hk
            split at h
            · rename_i hsw
              split at h
              · rename_i h1 h2
                cases h
                have hi := idx_get h1
                rw [← x.hN] at hi
                rcases hsw with hq | hq
                · unfold lcSw at hq
                  simp only [Bool.and_eq_true, Bool.not_eq_true', decide_eq_true_eq] at hq
                  obtain ⟨r1, r2, r3⟩ := hq
                  obtain ⟨tg, iter, ifs, own, t, mi, mt, me, tt, rfl, a1, a2, a3, a4, a5, a6, a7, a8⟩ := lc_parts x h2
                  have q := sSetLc (i := _) (spos := pos) (py := px) x.calm nd hi (by rw [x.hsc]; exact r1) (sw_true (l := pos.line) (by rw [x.hsc]; exact hk) (by rw [x.hsc]; exact r1) r2 r3) a1 a2 a3 a4 a5 a6 a7
                  exact PS.weak q fun D σ H hz => by
                    obtain ⟨env, S, α, st, re, hz⟩ := hz
                    refine ⟨env, S, α, st, re, ?_⟩
                    have hz : okM _ _ H α ((evE C _ env >>= fun d => M.ret (Fl.nx, env.set _ (some d))) S) _ := hz
                    rw [a8] at hz
                    exact hz
                · exact sSet nd hi hx (ex h2) (sw_cell (by rw [x.hsc]; exact of_decide_eq_true hq)) (.inl (x.tp rfl _))
              · cases h
            · cases h
          · cases h
        · split at h
          · cases h
          · rename_i hc
            split at h
            · rename_i h1 h2
              cases h
              have hi := idx_get h1
              rw [← x.hN] at hi
              exact sSet nd hi hx (ex h2) (swW (by simpa using hc)) (.inl (x.tp rfl _))
            · cases h
      · cases h
    · split at h
      · rename_i hsw
        split at h
        · rename_i h1 h2
          cases h
          exact sAsg (ex h2) (gTup x h1) swT (swNone_ok (by rw [x.hsc]; exact hsw)) (asg_one rfl)
        · cases h
      · split at h
        · rename_i hsw
          have w := fun k k2 p p2 => swOk_ok (env := X.env) (k := k) (k2 := k2) (p := p) (p2 := p2) (by rw [x.hsc]; exact hsw)
          split at h
          · rename_i h1
            split at h
            · rename_i i j h2 h3
              split at h
              · rename_i hq
                obtain ⟨q1, q2, q3, q4⟩ := hq
                cases h
                obtain ⟨l1, l2, l3⟩ := kList_ok ih1 (by assumption)
                simp only [x.hsc, q1] at w
                exact sPar2 x.calm nd (by rw [x.hN]; exact idx_get h2) (by rw [x.hN]; exact idx_get h3) (of_decide_eq_true q2) (by rw [x.hsc]; exact of_decide_eq_true q3) (by rw [x.hsc]; exact of_decide_eq_true q4) l1 (w _ _ _ _)
              · cases h
            · cases h
          · rename_i h1
            split at h
            · rename_i i j l h2 h3 h4
              split at h
              · rename_i hq
                obtain ⟨q1, q2, q3, q4, q5⟩ := hq
                cases h
                obtain ⟨l1, l2, l3⟩ := kList_ok ih1 (by assumption)
                simp only [x.hsc, q1] at w
                obtain ⟨d1, d2, d3⟩ := of_decide_eq_true q2
                exact sPar3 x.calm nd (by rw [x.hN]; exact idx_get h2) (by rw [x.hN]; exact idx_get h3) (by rw [x.hN]; exact idx_get h4) d1 d2 d3 (by rw [x.hsc]; exact of_decide_eq_true q3) (by rw [x.hsc]; exact of_decide_eq_true q4) (by rw [x.hsc]; exact of_decide_eq_true q5) l1 (w _ _ _ _)
              · cases h
            · cases h
          · cases h
        · cases h
    · split at h
      · cases h
      · rename_i hc
        split at h
        · rename_i h1 h2
          cases h
          exact sAsg (ex h2) (gTup x h1) swT (stT (by simpa using hc)) (asg_one rfl)
        · cases h
    · split at h
      · rename_i hpl
        split at h
        · rename_i h1 h2 h3
          cases h
          exact sSub (ex h3) (ex h1) (ex h2) (by
            rename_i i _ _ _ _ _ _ _ _ _
            cases i <;> first
              | (intro v; rfl)
              | cases hpl) swS stS (asg_one rfl)
        · cases h
      · cases h
    · split at h
      · rename_i hl
        have hx := loc_of (X := X) x.hsc hl
        split at h
        · rename_i h1 h2
          cases h
          exact sAug ip_add augAdd nd (by rw [x.hN]; exact idx_get h1) hx (ex h2) (.inl (x.tp rfl _))
        · rename_i h1 h2
          cases h
          exact sAug ip_sub augSub nd (by rw [x.hN]; exact idx_get h1) hx (ex h2) (.inl (x.tp rfl _))
        · cases h
      · cases h
    · cases h
end
end Ev
namespace Ev
open PySem PySem.Spec PyProof.Rows L2
/-! ### a def of the program, a table of them -/
structure Fn where
  name : Str
  params : Arguments
  text : List Stmt
  scope : Scope
  ps : List Str
  N : List Str
  body : List St
def CXn : CXT := fun _ _ _ _ _ _ => False
def Pr (l : List Fn) : Nat → Option FD := fun i => (l[i]?).map fun f => ⟨f.ps.length, f.N.length, f.body⟩
def nms (l : List Fn) : List Str := l.map (·.name)
/-- what is checked of a def's text -/
structure Fn.Ok (names : List Str) (cons : List (Str × D)) (f : Fn) : Prop where
  sc : FnScope f.N f.ps f.scope
  bind : ∀ (kV doc pm : Value) (an : Option Addr) (cdv ct : Value) (us : List Value), us.length = f.ps.length → bindArgs (PySem.W.fnOf f.name f.name f.params f.text f.scope .none kV doc pm an cdv ct) ⟨us, []⟩ = pure (f.ps.zip us)
  ir : cSs 60 ⟨f.N, names, cons⟩ f.scope f.text = some f.body
/-! ### a def by its body -/
theorem fng_of {CX : CXT} {P : Program} {w : World} {K : PySem.W.Frag} {mg : Str → Option Value} {base : Heap} {k : Nat} {f : Addr} {name qual : Str} {params : Arguments} {body : List Stmt} {scope : Scope} {dV kV doc pm cdv ct oc : Value} {an od : Option Addr}
    {osl : Array (Option Value)} {N ps : List Str} {sp : Sp} (S : FnScope N ps scope) (lk : K.lookup f = some ⟨oc, od, .func (PySem.W.fnOf name qual params body scope dV kV doc pm an cdv ct), osl⟩)
    (hcd : PySem.W.codeIn K cdv qual = true) (lens : ∀ vs H Q E, sp vs H Q E → vs.length = ps.length)
    (hbody : ∀ (A : Around) (outer : List Env) (s : Shared) (H : Hp) (vs : List V) (Q : VK) (E : XK), Room k (A.deeper (envOfC qual scope s.heap.objs.size f cdv)) → A.guards = some [] → sp vs H Q E →
      ∃ t, PSs (cxOf CX P w K mg base N qual scope f cdv A outer s H E) body t ∧ t { nx := fun _ H' => Q .non H', rt := Q } (L2.start N vs) H) :
    FnG P w K mg base CX (k + 1) f (PySem.W.fnOf name qual params body scope dV kV doc pm an cdv ct) ps sp := by
  refine ⟨lens, fun A outer s H args us vs Q E hr hgd e0 hb r hsp => ?_⟩
  have hl := lens _ _ _ _ hsp
  have inK : K.In s.heap := e0.mod.kin.keeps fun b o e => (e0.bs b o e).1
  have kinds : ∀ y ∈ ps.zip us, scope.names.lookup y.1 = some .local ∨ (scope.names.lookup y.1 = some .cell ∧ ((cellsFrom (s.heap.objs.size + 1) scope.names []).lookup y.1).isSome = true) := fun y hy =>
    (S.par y.1 (List.of_mem_zip (a := y.1) (b := y.2) hy).1).imp id fun q => ⟨q, PySem.W.cellsFrom_some _ _ _ (.inl q)⟩
  refine codeAny_call_function hr.depth (inK _ _ lk) rfl S.co S.gen rfl (PySem.W.codeRec_of inK hcd) (hb _ _ _ _ ?_)
  refine wpAny_newFunctionEnv_cells S.kind kinds fun env he s1 x => ?_
  subst he
  refine ⟨(e0.mod.nolimit.keeps fun b o e => (e0.bs b o e).1).keeps x.toInCall.keep, codeAny_func ?_⟩
  obtain ⟨t, ht, hq⟩ := hbody A outer s H vs Q E (hr.deeper _) hgd hsp
  have I0 : Inv (cxOf CX P w K mg base N qual scope f cdv A outer s H E) [] (L2.start N vs) H s1 := inv_start S hr.hd e0 hl r x
  refine wpAny_mono (ht.run [] s1 (L2.start N vs) H _ I0 hq) (fun fl s' hs => ?_) fun _ _ hs => hs
  cases fl with
  | ret u =>
    obtain ⟨x, σx, Hx, J, rv, q⟩ := hs
    exact ⟨x, Hx, J.os, J.bare, J.base, J.hok, rv, q⟩
  | next =>
    obtain ⟨σ', H', J, q⟩ := hs
    exact ⟨V.non, H', J.os, J.bare, J.base, J.hok, rfl, q⟩
  | brk => exact hs.choose_spec.choose_spec.2.elim
  | cont => exact hs.choose_spec.choose_spec.2.elim
theorem RDs.env {W : Wd} {H : Hp} {α : List Addr} {ds : List D} {vs : List V} (r : RDs W H α ds vs) (n : Nat) : RE W H α (ds.map some ++ List.replicate (n - ds.length) none) (vs.map some ++ List.replicate (n - vs.length) none) := by
  refine ⟨by simp [r.length], fun i d e => ?_⟩
  by_cases hi : i < ds.length
  · rw [List.getElem?_append_left (by simpa using hi), List.getElem?_map] at e
    cases q : ds[i]? with
    | none => rw [q] at e; cases e
    | some x =>
      rw [q] at e
      cases e
      obtain ⟨v, h1, h2⟩ := r.get q
      refine ⟨v, ?_, h2⟩
      rw [List.getElem?_append_left (by simpa [← r.length] using hi), List.getElem?_map, h1]
      rfl
  · rw [List.getElem?_append_right (by simpa using hi), List.getElem?_replicate] at e
    split at e <;> cases e
section
variable {P : Program} {w : World} {K : PySem.W.Frag} {mg : Str → Option Value} {base : Heap} {l : List Fn} {names : List Str} {cons : List (Str × D)} {G XC : Nat → Option Addr}
/-- what the head tells -/
structure HdOk (K : PySem.W.Frag) (mg : Str → Option Value) (l : List Fn) (cons : List (Str × D)) (G XC : Nat → Option Addr) : Prop where
  fn : ∀ (i : Nat) (f : Fn) (a : Addr), l[i]? = some f → G i = some a → ∃ fd, FunD K f.name f.name f.params f.text f.scope [] [] a fd
  dom : ∀ (i : Nat) (a : Addr), G i = some a → ∃ f, l[i]? = some f
  gl : ∀ (i : Nat) (f : Fn), l[i]? = some f → ∃ a, G i = some a ∧ mg f.name = some (.ref a)
  cons : ∀ x d, cons.lookup x = some d → ∃ v u, mg x = some u ∧ RelV v u ∧ ∀ H α, RD ⟨K, G, XC⟩ H α d v
  blts : ∀ x ∈ bltNames, mg x = none
theorem fns_ok (hd : HdOk K mg l cons G XC) (hl : ∀ (i : Nat) (f : Fn), l[i]? = some f → f.Ok (nms l) cons) : ∀ n, FnsOk P w K mg base CXn n G XC (evF (Pr l) n)
  | 0 => by
    refine ⟨fun i a hi => ?_, fun _ _ _ _ _ h => h⟩
    obtain ⟨f, hf⟩ := hd.dom i a hi
    obtain ⟨fd, F⟩ := hd.fn i f a hf hi
    refine ⟨F.kp, fd, f.ps, ⟨fun vs H Q E ⟨ds, S, α, _, _, h⟩ => h.elim, fun A outer s H args us vs Q E hr hg e0 hb r ⟨ds, S, α, _, _, h⟩ => h.elim⟩, F.bindsN (hl i f hf).bind⟩
  | n + 1 => by
    have ih := fns_ok hd hl n
    refine ⟨fun i a hi => ?_, fun _ _ _ _ _ h => h⟩
    obtain ⟨f, hf⟩ := hd.dom i a hi
    obtain ⟨fd, F⟩ := hd.fn i f a hf hi
    have ok := hl i f hf
    refine ⟨F.kp, fd, f.ps, ?_, F.bindsN ok.bind⟩
    obtain ⟨oc, od, dV, kV, doc, pm, an, cdv, ct, osl, rfl, look, hcd, _, _⟩ := F.ex
    have eC : ∀ ds, evF (Pr l) (n + 1) i ds = if ds.length = f.ps.length then (do
        let r ← evSs (evF (Pr l) n) f.body (ds.map some ++ List.replicate (f.N.length - ds.length) none)
        fin r.1) else M.fail := fun ds => by
      rw [evF]
      unfold Pr
      rw [hf]
      rfl
    have lens : ∀ (vs : List V) (H : Hp) (Q : VK) (E : XK), spF ⟨K, G, XC⟩ (evF (Pr l) (n + 1) i) vs H Q E → vs.length = f.ps.length := fun vs H Q E ⟨ds, S, α, st, rd, h⟩ => by
      rw [eC] at h
      split at h
      · rename_i e
        rw [← rd.length]; exact e
      · exact h.elim
    refine fng_of ok.sc look hcd lens fun A outer s H vs Q E hr hg ⟨ds, S, α, st, rd, h⟩ => ?_
    rw [eC] at h
    split at h
    case isFalse => exact h.elim
    case isTrue e =>
    have xo : XOk CXn n G XC (evF (Pr l) n) E ⟨f.N, nms l, cons⟩ f.scope true (cxOf CXn P w K mg base f.N f.name f.scope a cdv A outer s H E).nox :=
      { hsc := rfl, hN := rfl, nd := ok.sc.nd, calm := rfl, room := hr, gd := hg, fo := ih, fns := fun j x hj => by
          have hj : (nms l)[j]? = some x := hj
          unfold nms at hj
          rw [List.getElem?_map] at hj
          cases q : l[j]? with
          | none => rw [q] at hj; cases hj
          | some g =>
            rw [q] at hj
            cases hj
            exact hd.gl j g q
        cons := hd.cons, blts := hd.blts, pass := fun _ _ _ _ _ _ _ h => h.elim, tp := fun _ _ => rfl }
    refine ⟨_, PSs.nox (kStm_ok (cS_ok xo .never 60) ok.ir), _, S, α, st, rd.env _, (okM.bind h).mono fun r S' H' α' sp st' q => ?_⟩
    obtain ⟨fl, env'⟩ := r
    cases fl with
    | nx => exact fun σ' re' => q _ _ Step.refl st' _ .non
    | rt d => exact fun v rv => q _ _ Step.refl st' v rv
    | bk => exact q.elim
    | ct => exact q.elim
end
end Ev
namespace Ev
open PySem PySem.Spec PyProof.Rows L2
/-! ### a law's end -/
def scr (ns : List Int) : Store := [.fro (ns.map .int)]
theorem rds_ints {W : Wd} {H : Hp} {α : List Addr} : ∀ {ns : List Int}, RDs W H α (ns.map .int) (ns.map V.int)
  | [] => .nil
  | n :: ns => .cons (.int n) (rds_ints (ns := ns))
theorem law_run {P : Program} {w : World} {K : PySem.W.Frag} {mg mb : Str → Option Value} {k : Nat} {fa a : Addr} {G XC : Nat → Option Addr} {g : List D → M D} {s₁ : Shared} {vs : List Value} {ns : List Int}
    (KX : K.In s₁.heap) (hns : s₁.heap.Ns mainGlobals mg) (hb : s₁.heap.Ns builtinsNs mb)
    (hbb : ∀ x : Str, x ≠ "__name__" → mb x = bootBuiltins x) (hlim : s₁.heap.NoLimit) (hg : s₁.gens = #[])
    (ha : s₁.heap.get? a = some { cls := .type "list", data := .seq vs.toArray }) (hi : IntsAre vs ns) (hl : ns.length ≤ sizeLine) (hr : Room k callerA) (hka : K.lookup a = none)
    (F : ∀ base : Heap, ∃ fd ps, FnG P w K mg base CXn k fa fd ps (spF ⟨K, G, XC⟩ g) ∧ Binds K fd ps [])
    (hC : ∃ S', g [.ref 0] (scr ns) = .ok (.bl true) S') :
    codeAny (model P w) callerA (.call (.ref fa) ⟨[.ref a], []⟩)
      (fun r z => r = .ok (.ret (.bool true)) ∧ OldK s₁.heap z.heap ∧ z.os = s₁.os ∧ AllBare z.gens) s₁ := by
  have rv := vals_ints hi
  let H : Hp := fun b => if b = a then some (.frz { cls := .type "list", data := .seq vs.toArray } (.lst (ns.map V.int))) else none
  have Ha : H a = some (.frz { cls := .type "list", data := .seq vs.toArray } (.lst (ns.map V.int))) := if_pos rfl
  have Hn : ∀ {b : Addr}, b ≠ a → H b = none := fun z => if_neg z
  have Hx : ∀ {b : Addr} {o : HO}, H b = some o → b = a := fun {b o} z => by
    by_cases hb : b = a
    · exact hb
    · rw [Hn hb] at z; cases z
  have hok : HOk P w H s₁.heap := fun b u z => by
    have e := Hx z
    subst e
    rw [Ha] at z
    cases z
    exact ⟨ha, (by rw [List.length_map]; exact hl), vs, _, rv, ha⟩
  have nd : ∀ {b : Addr} {o : Obj} {es : Array DictEntry} {ep : Nat}, s₁.heap.get? b = some o → o.data = .dict es ep → H b = none := fun {b o es ep} e d => by
    by_cases hb : b = a
    · subst hb
      rw [ha] at e
      cases e
      exact nomatch (show Data.seq vs.toArray _ = Data.dict es ep from d)
    · exact Hn hb
  have nsB : ∀ {b : Addr} {m : Str → Option Value}, s₁.heap.Ns b m → (hidT s₁.heap H).Ns b m := fun {b m} ⟨o, es, ep, e, d, r⟩ => ⟨o, es, ep, hidT_get e (nd e d), d, r⟩
  have inB : K.In (hidT s₁.heap H) := fun b o e => hidT_get (KX b o e) (Hn fun z => by rw [z, hka] at e; cases e)
  have md : Mod K mg (hidT s₁.heap H) := ⟨inB, nsB hns, ⟨mb, nsB hb, hbb⟩, let ⟨mc, h1, h2⟩ := hlim; ⟨mc, nsB h1, h2⟩⟩
  have e0 : Env0 P w K mg (hidT s₁.heap H) callerA [] s₁ H := ⟨rfl, md, fun b o e => of_hidT e, Nat.le_of_eq (hidT_size _ _), trivial, fun b hb => (nomatch hb), hok, .of_eq hg⟩
  have st : StOk ⟨K, G, XC⟩ H [a] (scr ns) := by
    refine ⟨rfl, fun n m b e1 e2 => ?_, fun n c b e1 e2 => ?_⟩
    · cases n with
      | zero =>
        cases m with
        | zero => rfl
        | succ m => cases e2
      | succ n => cases e1
    · cases n with
      | zero =>
        cases e1
        cases e2
        exact .fro ⟨_, Ha⟩ rds_ints
      | succ n => cases e2
  obtain ⟨S', hC⟩ := hC
  have sp : spF ⟨K, G, XC⟩ g [.ref a] H (fun v _ => v = .bl true) fun _ _ _ => False := ⟨[.ref 0], scr ns, [a], st, .cons (.ref rfl) .nil, by
    rw [hC]
    intro H' α' s t v r
    cases r
    rfl⟩
  obtain ⟨fd, ps, FG, hbd⟩ := F (hidT s₁.heap H)
  have bd := hbd s₁ [.ref a] KX (by rw [List.append_nil]; exact FG.len _ _ _ _ sp)
  rw [List.append_nil] at bd
  refine codeAny_mono (FG.run callerA [] s₁ H ⟨[.ref a], []⟩ [.ref a] [.ref a] _ _ hr rfl e0 bd (.cons rfl .nil) sp) fun r s' h => ?_
  match r, h with
  | .error e, h => exact h.elim
  | .ok .next, h => exact False.elim h
  | .ok .brk, h => exact False.elim h
  | .ok .cont, h => exact False.elim h
  | .ok (.ret u), h =>
    obtain ⟨v, Hz, os, bare, un, hok', r', q⟩ := h
    have q : v = .bl true := q
    subst q
    obtain rfl : u = Value.bool true := r'
    refine ⟨rfl, OldK.of_keep (fun b o e => ?_), os, bare⟩
    by_cases hb : b = a
    · subst hb
      obtain ⟨e1, _⟩ := hok b _ Ha
      obtain ⟨e2, _⟩ := hok' b _ (un.frzs b _ _ Ha)
      rw [e] at e1
      cases e1
      exact e2
    · exact un.keep b o e (Hn hb) (fun z => nomatch (show b ∈ ([] : List Addr) from z)) (by simp)
/-! ### what the head is asked -/
mutual
def relD (K : PySem.W.Frag) : D → Value → Bool
  | .non, .none => true
  | .bl b, .bool c => b == c
  | .int i, .int j _ => decide (i = j)
  | .str x, .str y _ => decide (x = y)
  | .tup ds, .ref a => match K.lookup a with
    | some ⟨.type c, _, .seq its _, _⟩ => decide (c = "tuple") && (decide (its.size ≤ sizeLine) && relDs K ds its.toList)
    | _ => false
  | _, _ => false
def relDs (K : PySem.W.Frag) : List D → List Value → Bool
  | [], [] => true
  | d :: ds, u :: us => relD K d u && relDs K ds us
  | _, _ => false
end
mutual
theorem relD_ok {W : Wd} : ∀ {d : D} {u : Value}, relD W.K d u = true → ∃ v, RelV v u ∧ ∀ H α, RD W H α d v
  | .non, u, h => by
    cases u with
    | none => exact ⟨.non, rfl, fun _ _ => .non⟩
    | _ => simp [relD] at h
  | .bl b, u, h => by
    cases u with
    | bool c =>
      rw [relD] at h
      rw [← eq_of_beq h]
      exact ⟨.bl b, rfl, fun _ _ => .bl b⟩
    | _ => simp [relD] at h
  | .int i, u, h => by
    cases u with
    | int j t =>
      rw [relD] at h
      rw [← of_decide_eq_true h]
      exact ⟨.int i, ⟨t, rfl⟩, fun _ _ => .int i⟩
    | _ => simp [relD] at h
  | .str x, u, h => by
    cases u with
    | str j t =>
      rw [relD] at h
      rw [← of_decide_eq_true h]
      exact ⟨.str x, ⟨t, rfl⟩, fun _ _ => .str x⟩
    | _ => simp [relD] at h
  | .tup ds, u, h => by
    cases u with
    | ref a =>
      rw [relD] at h
      split at h
      · rename_i c od its n sl q
        simp only [Bool.and_eq_true, decide_eq_true_eq] at h
        obtain ⟨h1, h2, h3⟩ := h
        subst h1
        obtain ⟨vs, r1, r2⟩ := relDs_ok h3
        exact ⟨.ref a, rfl, fun H α => .tup (.inr ⟨_, its, n, q, rfl, rfl, h2, r1⟩) (r2 H α)⟩
      · cases h
    | _ => simp [relD] at h
  | .ref _, u, h => by simp [relD] at h
  | .fn _, u, h => by simp [relD] at h
theorem relDs_ok {W : Wd} : ∀ {ds : List D} {us : List Value}, relDs W.K ds us = true → ∃ vs, Vals vs us ∧ ∀ H α, RDs W H α ds vs
  | [], [], _ => ⟨[], .nil, fun _ _ => .nil⟩
  | [], _ :: _, h => by simp [relDs] at h
  | _ :: _, [], h => by simp [relDs] at h
  | d :: ds, u :: us, h => by
    rw [relDs, Bool.and_eq_true] at h
    obtain ⟨v, a1, a2⟩ := relD_ok h.1
    obtain ⟨vs, b1, b2⟩ := relDs_ok h.2
    exact ⟨v :: vs, .cons a1 b1, fun H α => .cons (a2 H α) (b2 H α)⟩
end
def noLst (K : PySem.W.Frag) : Bool := K.all fun q => match q.2.cls with
  | .type c => !decide (c = "list")
  | _ => true
def consB (cons : List (Str × D)) (K : PySem.W.Frag) : Bool := cons.all fun q => match PySem.W.nsIn K mainGlobals q.1 with
  | some (some u) => relD K q.2 u
  | _ => false
def exB (cons : List (Str × D)) (K : PySem.W.Frag) : Bool := noLst K && consB cons K
def Fn.dd (f : Fn) : He.DefD := ⟨(f.name, none), f.name, f.name, f.params, f.text, f.scope, [], []⟩
def fas (l : List Fn) : List He.Fa := l.map (fun f => .glo f.name) ++ bltNames.map .free
abbrev hkE (n : Nat) (l : List Fn) (cons : List (Str × D)) : PySem.W.Hook := He.hookX n (fas l) (l.map Fn.dd) [] [] (exB cons)
def obE (n : Nat) (l : List Fn) (cons : List (Str × D)) (s : PySem.W.SharedT) : He.AlX := He.obsX n (fas l) (l.map Fn.dd) [] [] (exB cons) (HandSHeadRun.getT s)
theorem obE_eq {n : Nat} {l : List Fn} {cons : List (Str × D)} (s : PySem.W.SharedT) : obE n l cons s = (hkE n l cons).obs s.abs := He.obsX_eq (HandSHeadRun.getT_eq s)
theorem look_mem {x : Str} {d : D} : ∀ {l : List (Str × D)}, l.lookup x = some d → (x, d) ∈ l
  | [], e => by cases e
  | (y, z) :: l, e => by
    rw [List.lookup_cons] at e
    split at e
    · rename_i q
      cases e
      rw [eq_of_beq q]
      exact List.mem_cons_self
    · exact List.mem_cons_of_mem _ (look_mem e)
/-- where the defs stand -/
def gOf (K : PySem.W.Frag) (l : List Fn) : Nat → Option Addr := fun i => (l[i]?).map fun f => He.ga K f.name
section
variable {P : Program} {w : World} {K : PySem.W.Frag} {mg : Str → Option Value} {l : List Fn} {cons : List (Str × D)} {h : Heap}
theorem hd_ok (X : K.In h) (G : h.Ns mainGlobals mg) (c : He.SaysX (fas l) (l.map Fn.dd) [] [] (exB cons) w h K) : HdOk K mg l cons (gOf K l) (fun _ => none) where
  fn := fun i f a h1 h2 => by
    unfold gOf at h2
    rw [h1] at h2
    cases h2
    exact c.t.d.defs (d := f.dd) (List.mem_map.mpr ⟨f, List.mem_of_getElem? h1, rfl⟩)
  dom := fun i a h2 => by
    unfold gOf at h2
    cases q : l[i]? with
    | none => rw [q] at h2; cases h2
    | some f => exact ⟨f, rfl⟩
  gl := fun i f h1 => ⟨He.ga K f.name, by unfold gOf; rw [h1]; rfl, He.glo_ok X G (c.t.d.facts (f := .glo f.name) (List.mem_append_left _ (List.mem_map.mpr ⟨f, List.mem_of_getElem? h1, rfl⟩)))⟩
  cons := fun x d e => by
    have m := c.more
    unfold exB at m
    rw [Bool.and_eq_true] at m
    have m2 := List.all_eq_true.mp m.2 (x, d) (look_mem e)
    dsimp only at m2
    split at m2
    · rename_i u q
      obtain ⟨v, r1, r2⟩ := relD_ok (W := ⟨K, gOf K l, fun _ => none⟩) m2
      exact ⟨v, u, PySem.W.mg_of X G q, r1, r2⟩
    · cases m2
  blts := fun x hx => He.free_ok X G (c.t.d.facts (f := .free x) (List.mem_append_right _ (List.mem_map.mpr ⟨x, hx, rfl⟩)))
theorem noLst_ok {a : Addr} {vs : List Value} (X : K.In h) (m : noLst K = true) (ha : h.get? a = some { cls := .type "list", data := .seq vs.toArray }) : K.lookup a = none := by
  cases q : K.lookup a with
  | none => rfl
  | some o =>
    have e := X a o q
    rw [ha] at e
    cases e
    have := List.all_eq_true.mp m _ (He.lookup_mem q)
    simp at this
end
/-- THE END: a law by its evaluation -/
theorem walk_ofEv {lw : PySem.W.OpenLaw} {n k m : Nat} {q : Program} {loose : List Str} {XP : (Str → Option Value) → Heap → Prop} {d : DefRec} {l : List Fn} {cons : List (Str × D)} {i : Nat} {f : Fn}
    (hn : lw.most = some n) (hn2 : n ≤ sizeLine) (hdf : d.params.defaults = []) (hr : Room k callerA) (hf : l[i]? = some f) (hdn : d.name = f.name) (hl : ∀ (i : Nat) (f : Fn), l[i]? = some f → f.Ok (nms l) cons)
    (hC : ∀ ns : List Int, ns.length ≤ n → (∀ z ∈ ns, Builtin.Int.intBits z ≤ 1048576) → ∃ S', evF (Pr l) k i [.ref 0] (scr ns) = .ok (.bl true) S') :
    PySem.W.WalkO q loose XP (hkE m l cons).says lw.row.toRowW d [] (fun f vs => PySem.call f vs) := by
  refine Att.attach_callB hn hdf fun w s₀ s₁ mg mb fa o pm cd doc a vs ns G Y ho hd hcd hmg hobj
    hints hlen hbits hg => ?_
  obtain ⟨K, KX, c⟩ := Y
  have H := hd_ok KX G.T.g c
  obtain ⟨a0, g1, g2⟩ := H.gl i f hf
  rw [← hdn, hmg] at g2
  cases g2
  have m2 := c.more
  unfold exB at m2
  rw [Bool.and_eq_true] at m2
  exact law_run (G := gOf K l) (XC := fun _ => none) (g := evF (Pr l) k i) KX G.T.g G.T.b G.T.builtins G.T.nolimit hg hobj hints (Nat.le_trans hlen hn2) hr (noLst_ok KX m2.1 hobj) (fun base => ((fns_ok (P := lw.prog) (w := w) (base := base) H hl k).fn i _ g1).2) (hC ns hlen hbits)
end Ev
namespace Ev
open PySem PySem.Spec PyProof.Rows
/-! ### types of data -/
inductive Ty2
  | bot | int (lo hi : Int) | intA | bl | bc (b : Bool) | non | str (lo hi : Nat) | tup (ts : List Ty2) | seq (t : Ty2) (lo hi : Nat) | lst (t : Ty2) (lo hi : Nat) | own (t : Ty2) (lo hi : Nat) | dk | nm (k : Nat) | fnc (i : Nat) | scr (lo hi : Nat) | txt
/-- what is known of a cell: a deck, one that stays, one that its frame owns -/
inductive Kd | dk | fz (ds : List D) | ow | sc (c : Cell)
abbrev Wl := List Kd
/-- a hint: an expression, met in such a frame so deep at least, answers so -/
structure Hint where
  e : E
  G : List (Option Ty2)
  u : Ty2
  rk : Nat
/-- .. and of statements: met in such a frame they fall through (none), or answer so -/
structure HintB where
  b : List St
  G : List (Option Ty2)
  o : Option Ty2
  rk : Nat
/-- the named predicates, their Bool tests, their plain types; what a deck keeps -/
structure Prm where
  N : Nat → D → Prop
  /-- named ones to try for a list's items -/
  ks : List Nat
  /-- the defs that draw below their second argument -/
  dr : List Nat
  hs : List Hint
  bs : List HintB
  /-- a type whose values all keep it -/
  BT : Nat → Ty2 → Bool
  X : Nat → Ty2
  P : Nat → List D → Prop
  mono : ∀ {a b : Nat} {ds : List D}, P a ds → a ≤ b → P b ds
  /-- a named one's cases, told apart where it is taken apart -/
  sp : Nat → List Ty2 := fun _ => []
mutual
def HasTy (p : Prm) (W : Wl) : Ty2 → D → Prop
  | .bot, _ => False
  | .int lo hi, d => ∃ i, d = .int i ∧ lo ≤ i ∧ i ≤ hi
  | .intA, d => ∃ i, d = .int i
  | .bl, d => ∃ b, d = .bl b
  | .bc b, d => d = .bl b
  | .non, d => d = .non
  | .str lo hi, d => ∃ x, d = .str x ∧ lo ≤ x.length ∧ x.length ≤ hi ∧ PyData.strOk x = true
  | .tup ts, d => ∃ ds, d = .tup ds ∧ HasTys p W ts ds
  | .seq t lo hi, d => ∃ ds, d = .tup ds ∧ lo ≤ ds.length ∧ ds.length ≤ hi ∧ ∀ x ∈ ds, HasTy p W t x
  | .lst t lo hi, d => ∃ j ds, d = .ref j ∧ W[j]? = some (.fz ds) ∧ lo ≤ ds.length ∧ ds.length ≤ hi ∧ ∀ x ∈ ds, HasTy p W t x
  | .own _ _ _, _ => False
  | .dk, d => ∃ j : Nat, d = .ref j ∧ W[j]? = some .dk
  | .nm k, d => p.N k d
  | .fnc i, d => d = .fn i
  | .txt, d => ∃ x, d = .str x
  | .scr lo hi, d => ∃ j ds, d = .ref j ∧ W[j]? = some (.sc (.fro ds)) ∧ lo ≤ ds.length ∧ ds.length ≤ hi ∧ ∀ x ∈ ds, ∃ i : Int, x = .int i
def HasTys (p : Prm) (W : Wl) : List Ty2 → List D → Prop
  | [], ds => ds = []
  | t :: ts, ds => ∃ x xs, ds = x :: xs ∧ HasTy p W t x ∧ HasTys p W ts xs
end
def Ext (W W' : Wl) : Prop := ∀ (j : Nat) (k : Kd), W[j]? = some k → k ≠ .ow → W'[j]? = some k
theorem Ext.refl {W : Wl} : Ext W W := fun _ _ h _ => h
theorem Ext.trans {W W1 W2 : Wl} (a : Ext W W1) (b : Ext W1 W2) : Ext W W2 := fun j k h n => b j k (a j k h n) n
section
variable {p : Prm} {W W' : Wl}
mutual
theorem HasTy.mono (e : Ext W W') : ∀ {t : Ty2} {d : D}, HasTy p W t d → HasTy p W' t d
  | .bot, _, h => by simp only [HasTy] at h
  | .int _ _, _, h => by simp only [HasTy] at h ⊢; exact h
  | .intA, _, h => by simp only [HasTy] at h ⊢; exact h
  | .bl, _, h => by simp only [HasTy] at h ⊢; exact h
  | .bc _, _, h => by simp only [HasTy] at h ⊢; exact h
  | .non, _, h => by simp only [HasTy] at h ⊢; exact h
  | .str _ _, _, h => by simp only [HasTy] at h ⊢; exact h
  | .tup ts, _, h => by
    simp only [HasTy] at h ⊢
    obtain ⟨ds, rfl, h⟩ := h
    exact ⟨ds, rfl, HasTys.mono e h⟩
  | .seq t _ _, _, h => by
    simp only [HasTy] at h ⊢
    obtain ⟨ds, rfl, a, b, h⟩ := h
    exact ⟨ds, rfl, a, b, fun x hx => HasTy.mono e (h x hx)⟩
  | .lst t _ _, _, h => by
    simp only [HasTy] at h ⊢
    obtain ⟨j, ds, rfl, q, a, b, h⟩ := h
    exact ⟨j, ds, rfl, e _ _ q (fun z => nomatch z), a, b, fun x hx => HasTy.mono e (h x hx)⟩
  | .own _ _ _, _, h => by simp only [HasTy] at h
  | .dk, _, h => by
    simp only [HasTy] at h ⊢
    obtain ⟨j, rfl, q⟩ := h
    exact ⟨j, rfl, e _ _ q (fun z => nomatch z)⟩
  | .nm _, _, h => by simp only [HasTy] at h ⊢; exact h
  | .fnc _, _, h => by simp only [HasTy] at h ⊢; exact h
  | .txt, _, h => by simp only [HasTy] at h ⊢; exact h
  | .scr _ _, _, h => by
    simp only [HasTy] at h ⊢
    obtain ⟨j, ds, rfl, q, r⟩ := h
    exact ⟨j, ds, rfl, e _ _ q (fun z => nomatch z), r⟩
theorem HasTys.mono (e : Ext W W') : ∀ {ts : List Ty2} {ds : List D}, HasTys p W ts ds → HasTys p W' ts ds
  | [], _, h => by simp only [HasTys] at h ⊢; exact h
  | t :: ts, _, h => by
    simp only [HasTys] at h ⊢
    obtain ⟨x, xs, rfl, a, b⟩ := h
    exact ⟨x, xs, rfl, HasTy.mono e a, HasTys.mono e b⟩
end
theorem HasTys.length : ∀ {ts : List Ty2} {ds : List D}, HasTys p W ts ds → ds.length = ts.length
  | [], _, h => by simp only [HasTys] at h; rw [h]; rfl
  | t :: ts, _, h => by
    simp only [HasTys] at h
    obtain ⟨x, xs, rfl, a, b⟩ := h
    rw [List.length_cons, List.length_cons, HasTys.length b]
theorem HasTys.get : ∀ {ts : List Ty2} {ds : List D} {i : Nat} {t : Ty2}, HasTys p W ts ds → ts[i]? = some t → ∃ d, ds[i]? = some d ∧ HasTy p W t d
  | [], _, _, _, _, e => by cases e
  | u :: ts, _, i, t, h, e => by
    simp only [HasTys] at h
    obtain ⟨x, xs, rfl, a, b⟩ := h
    cases i with
    | zero => cases e; exact ⟨x, rfl, a⟩
    | succ i =>
      rw [List.getElem?_cons_succ] at e
      obtain ⟨d, h1, h2⟩ := HasTys.get b e
      exact ⟨d, by rw [List.getElem?_cons_succ]; exact h1, h2⟩
end
/-! ### subtypes -/
def all2 {α β : Type} (f : α → β → Bool) : List α → List β → Bool
  | [], [] => true
  | x :: xs, y :: ys => f x y && all2 f xs ys
  | _, _ => false
def sub (p : Prm) : Nat → Ty2 → Ty2 → Bool
  | 0, _, _ => false
  | n + 1, t, u => match t, u with
    | .bot, _ => true
    | .nm a, .nm b => decide (a = b)
    | .nm a, u => sub p n (p.X a) u
    | .int a b, .int c d => decide (c ≤ a) && decide (b ≤ d)
    | .int _ _, .intA => true
    | .intA, .intA => true
    | .bc a, .bc b => a == b
    | .bc _, .bl => true
    | .bl, .bl => true
    | .non, .non => true
    | .str a b, .str c d => decide (c ≤ a) && decide (b ≤ d)
    | .tup ts, .tup us => all2 (sub p n) ts us
    | .tup ts, .seq u lo hi => decide (lo ≤ ts.length) && (decide (ts.length ≤ hi) && ts.all fun t => sub p n t u)
    | .seq t a b, .seq u c d => decide (c ≤ a) && (decide (b ≤ d) && (decide (b = 0) || sub p n t u))
    | .lst t a b, .lst u c d => decide (c ≤ a) && (decide (b ≤ d) && (decide (b = 0) || sub p n t u))
    | .dk, .dk => true
    | .fnc i, .fnc j => decide (i = j)
    | .scr a b, .scr c d => decide (c ≤ a) && decide (b ≤ d)
    | .str _ _, .txt => true
    | .txt, .txt => true
    | .own _ _ _, .nm _ => false
    | t, .nm k => p.BT k t
    | _, _ => false
section
variable {p : Prm} {W : Wl}
theorem all2_ok {f : Ty2 → Ty2 → Bool} (hf : ∀ {t u : Ty2} {d : D}, f t u = true → HasTy p W t d → HasTy p W u d) : ∀ {ts us : List Ty2} {ds : List D}, all2 f ts us = true → HasTys p W ts ds → HasTys p W us ds
  | [], [], _, _, h => h
  | [], _ :: _, _, h, _ => by cases h
  | _ :: _, [], _, h, _ => by cases h
  | t :: ts, u :: us, _, h, hs => by
    simp only [HasTys] at hs ⊢
    obtain ⟨x, xs, rfl, a, b⟩ := hs
    rw [all2, Bool.and_eq_true] at h
    exact ⟨x, xs, rfl, hf h.1 a, all2_ok hf h.2 b⟩
theorem HasTys.all {u : Ty2} {f : Ty2 → Bool} (hf : ∀ {t : Ty2} {d : D}, f t = true → HasTy p W t d → HasTy p W u d) : ∀ {ts : List Ty2} {ds : List D}, ts.all f = true → HasTys p W ts ds → ∀ x ∈ ds, HasTy p W u x
  | [], _, _, hs, x, hx => by
    simp only [HasTys] at hs
    rw [hs] at hx
    cases hx
  | t :: ts, _, h, hs, x, hx => by
    simp only [HasTys] at hs
    obtain ⟨y, ys, rfl, a, b⟩ := hs
    rw [List.all_cons, Bool.and_eq_true] at h
    rcases List.mem_cons.mp hx with z | z
    · rw [z]; exact hf h.1 a
    · exact HasTys.all hf h.2 b x z
/-- the named predicates are as told -/
structure PrOk (p : Prm) : Prop where
  x : ∀ {k : Nat} {d : D} {W : Wl}, p.N k d → HasTy p W (p.X k) d
  b : ∀ {k : Nat} {t : Ty2} {d : D} {W : Wl}, p.BT k t = true → HasTy p W t d → p.N k d
  s : ∀ {k : Nat} {d : D} {W : Wl}, p.N k d → p.sp k = [] ∨ ∃ u, u ∈ p.sp k ∧ HasTy p W u d := by intros; exact .inl rfl
theorem sub_ok (hX : PrOk p) : ∀ (n : Nat) {t u : Ty2} {d : D}, sub p n t u = true → HasTy p W t d → HasTy p W u d := by
  intro n
  induction n with
  | zero => intro t u d h; cases h
  | succ n ih =>
    intro t u d h ht
    unfold sub at h
    split at h
    · simp only [HasTy] at ht
    · rw [← of_decide_eq_true h]; exact ht
    · simp only [HasTy] at ht
      exact ih h (hX.x ht)
    · simp only [Bool.and_eq_true, decide_eq_true_eq] at h
      simp only [HasTy] at ht ⊢
      obtain ⟨i, rfl, a, b⟩ := ht
      exact ⟨i, rfl, by omega, by omega⟩
    · simp only [HasTy] at ht ⊢
      obtain ⟨i, rfl, a, b⟩ := ht
      exact ⟨i, rfl⟩
    · exact ht
    · rw [← eq_of_beq h]; exact ht
    · simp only [HasTy] at ht ⊢
      exact ⟨_, ht⟩
    · exact ht
    · exact ht
    · simp only [HasTy] at ht ⊢
      obtain ⟨x, rfl, a, b, z⟩ := ht
      rw [Bool.and_eq_true, decide_eq_true_eq, decide_eq_true_eq] at h
      exact ⟨x, rfl, by omega, by omega, z⟩
    · simp only [HasTy] at ht ⊢
      obtain ⟨ds, rfl, hs⟩ := ht
      exact ⟨ds, rfl, all2_ok (fun a b => ih a b) h hs⟩
    · simp only [Bool.and_eq_true, decide_eq_true_eq] at h
      simp only [HasTy] at ht ⊢
      obtain ⟨ds, rfl, hs⟩ := ht
      have hl := hs.length
      exact ⟨ds, rfl, by omega, by omega, HasTys.all (fun a b => ih a b) h.2.2 hs⟩
    · simp only [Bool.and_eq_true, Bool.or_eq_true, decide_eq_true_eq] at h
      simp only [HasTy] at ht ⊢
      obtain ⟨ds, rfl, a, b, hs⟩ := ht
      refine ⟨ds, rfl, by omega, by omega, fun x hx => ?_⟩
      rcases h.2.2 with z | z
      · have : ds = [] := List.eq_nil_of_length_eq_zero (by omega)
        rw [this] at hx; cases hx
      · exact ih z (hs x hx)
    · simp only [Bool.and_eq_true, Bool.or_eq_true, decide_eq_true_eq] at h
      simp only [HasTy] at ht ⊢
      obtain ⟨j, ds, rfl, q, a, b, hs⟩ := ht
      refine ⟨j, ds, rfl, q, by omega, by omega, fun x hx => ?_⟩
      rcases h.2.2 with z | z
      · have : ds = [] := List.eq_nil_of_length_eq_zero (by omega)
        rw [this] at hx; cases hx
      · exact ih z (hs x hx)
    · exact ht
    · rw [← of_decide_eq_true h]; exact ht
    · simp only [Bool.and_eq_true, decide_eq_true_eq] at h
      simp only [HasTy] at ht ⊢
      obtain ⟨j, ds, rfl, q, a, b, hs⟩ := ht
      exact ⟨j, ds, rfl, q, by omega, by omega, hs⟩
    · simp only [HasTy] at ht ⊢
      obtain ⟨x, rfl, _⟩ := ht
      exact ⟨x, rfl⟩
    · exact ht
    · cases h
    · simp only [HasTy]
      exact hX.b h ht
    · cases h
end
/-- a join: checked, so that nothing need be shown of it -/
def hull : Nat → Ty2 → Ty2 → Ty2
  | 0, _, _ => .bot
  | n + 1, t, u => match t, u with
    | .bot, u => u
    | t, .bot => t
    | .nm k, _ => .nm k
    | _, .nm k => .nm k
    | .int a b, .int c d => .int (min a c) (max b d)
    | .bc a, .bc b => if a = b then .bc a else .bl
    | .bc _, .bl => .bl
    | .bl, .bc _ => .bl
    | .str a b, .str c d => .str (min a c) (max b d)
    | .str _ _, .txt => .txt
    | .tup ts, .tup us => if ts.length = us.length then .tup (List.zipWith (hull n) ts us) else .seq ((ts ++ us).foldl (hull n) .bot) (min ts.length us.length) (max ts.length us.length)
    | .tup ts, .seq u c d => .seq (ts.foldl (hull n) u) (min ts.length c) (max ts.length d)
    | .seq u c d, .tup ts => .seq (ts.foldl (hull n) u) (min ts.length c) (max ts.length d)
    | .seq t a b, .seq u c d => .seq (hull n t u) (min a c) (max b d)
    | .lst t a b, .lst u c d => .lst (hull n t u) (min a c) (max b d)
    | .own t a b, .own u c d => .own (hull n t u) (min a c) (max b d)
    | t, _ => t
def FT : Nat := 12
def subT (p : Prm) (t u : Ty2) : Bool := match t, u with
  | .own t a b, .own u c d => decide (c ≤ a) && (decide (b ≤ d) && (decide (b = 0) || sub p FT t u))
  | t, u => sub p FT t u
def cand (p : Prm) (t u v : Ty2) : Option Ty2 := if subT p t v = true ∧ subT p u v = true then some v else none
def expT (p : Prm) : Ty2 → Ty2
  | .nm k => p.X k
  | t => t
def orE {α : Type} (a b : Option α) : Option α := match a with
  | some x => some x
  | none => b
/-- named ones widened, if need be -/
def join (p : Prm) (t u : Ty2) : Option Ty2 := orE (cand p t u u) (orE (cand p t u t) (orE (cand p t u (hull FT t u)) (cand p t u (hull FT (expT p t) (expT p u)))))
/-- the join of a list's items -/
def joinL (p : Prm) : List Ty2 → Ty2 → Ty2
  | [], v => v
  | t :: ts, v => joinL p ts ((join p v t).getD v)
def pickL (p : Prm) (ts : List Ty2) : Ty2 :=
  let v := joinL p ts .bot
  match p.ks.find? fun k => ts.all (fun t => sub p FT t (.nm k)) && !(sub p FT v (.nm k)) with
  | some k => if ts.isEmpty then v else .nm k
  | none => v
theorem cand_ok {p : Prm} {t u v w : Ty2} (h : cand p t u v = some w) : subT p t w = true ∧ subT p u w = true := by
  unfold cand at h
  split at h
  · cases h; assumption
  · cases h
theorem orE_some {α : Type} {a b : Option α} {x : α} (h : orE a b = some x) : a = some x ∨ b = some x := by
  unfold orE at h
  split at h
  · exact .inl h
  · exact .inr h
theorem join_ok {p : Prm} {t u v : Ty2} (h : join p t u = some v) : subT p t v = true ∧ subT p u v = true := by
  unfold join at h
  rcases orE_some h with h | h
  · exact cand_ok h
  rcases orE_some h with h | h
  · exact cand_ok h
  rcases orE_some h with h | h
  · exact cand_ok h
  · exact cand_ok h
end Ev
namespace Ev
open PySem PySem.Spec PyProof.Rows
/-! ### a store that is as the world says -/
structure WF (p : Prm) (t : Nat) (W : Wl) (S : Store) : Prop where
  len : W.length = S.length
  fz : ∀ (j : Nat) (ds : List D), W[j]? = some (.fz ds) → S[j]? = some (.lst ds)
  sc : ∀ (j : Nat) (c : Cell), W[j]? = some (.sc c) → S[j]? = some c
  dk : ∀ (j : Nat), W[j]? = some .dk → ∃ ds, S[j]? = some (.lst ds) ∧ p.P t ds
  ow : ∀ (j : Nat), W[j]? = some .ow → ∃ ds, S[j]? = some (.lst ds)
/-- a value looked at: a list by its items -/
def PV (p : Prm) (W : Wl) (S : Store) (t : Ty2) (d : D) : Prop := match t with
  | .own t lo hi => ∃ j ds, d = .ref j ∧ S[j]? = some (.lst ds) ∧ lo ≤ ds.length ∧ ds.length ≤ hi ∧ ∀ x ∈ ds, HasTy p W t x
  | .lst t lo hi => ∃ j ds, d = .ref j ∧ S[j]? = some (.lst ds) ∧ lo ≤ ds.length ∧ ds.length ≤ hi ∧ ∀ x ∈ ds, HasTy p W t x
  | .scr lo hi => ∃ j ds, d = .ref j ∧ S[j]? = some (.fro ds) ∧ lo ≤ ds.length ∧ ds.length ≤ hi ∧ ∀ x ∈ ds, HasTy p W .intA x
  | t => HasTy p W t d
/-- what an operation answers: a value, the store as it was, or a new list -/
def TR (p : Prm) (W : Wl) (S : Store) (r : Res D) (u : Ty2) : Prop := ∃ d S', r = .ok d S' ∧ ((S' = S ∧ HasTy p W u d) ∨ ∃ t lo hi ds, u = .own t lo hi ∧ S' = S ++ [.lst ds] ∧ d = .ref S.length ∧ lo ≤ ds.length ∧ ds.length ≤ hi ∧ ∀ x ∈ ds, HasTy p W t x)
section
variable {p : Prm} {W : Wl} {S : Store} {t u v : Ty2} {d e : D}
theorem PV.of (w : WF p n W S) (h : HasTy p W t d) : PV p W S t d := by
  cases t <;> try exact h
  case own => simp only [HasTy] at h
  case lst t lo hi =>
    simp only [HasTy] at h
    obtain ⟨j, ds, rfl, q, r⟩ := h
    exact ⟨j, ds, rfl, w.fz j ds q, r⟩
  case scr lo hi =>
    simp only [HasTy] at h
    obtain ⟨j, ds, rfl, q, r1, r2, r3⟩ := h
    exact ⟨j, ds, rfl, w.sc j (.fro ds) q, r1, r2, fun x hx => by simp only [HasTy]; exact r3 x hx⟩
theorem TR.val {d : D} (h : HasTy p W u d) : TR p W S (.ok d S) u := ⟨d, S, rfl, .inl ⟨rfl, h⟩⟩
theorem TR.new {t : Ty2} {lo hi : Nat} {ds : List D} (h1 : lo ≤ ds.length) (h2 : ds.length ≤ hi) (h3 : ∀ x ∈ ds, HasTy p W t x) : TR p W S (alloc (.lst ds) S) (.own t lo hi) := ⟨_, _, rfl, .inr ⟨t, lo, hi, ds, rfl, rfl, rfl, h1, h2, h3⟩⟩
/-! ### shapes -/
def asInt (p : Prm) (t : Ty2) : Option (Int × Int) := match expT p t with
  | .int a b => some (a, b)
  | _ => none
def asL : Ty2 → Option (Ty2 × Nat × Nat)
  | .own t a b => some (t, a, b)
  | .lst t a b => some (t, a, b)
  | _ => none
/-- to read from -/
def asLr : Ty2 → Option (Ty2 × Nat × Nat)
  | .own t a b => some (t, a, b)
  | .lst t a b => some (t, a, b)
  | .scr a b => some (.intA, a, b)
  | _ => none
def asSeq (p : Prm) (t : Ty2) : Option (Ty2 × Nat × Nat) := match expT p t with
  | .seq t a b => some (t, a, b)
  | .tup ts => let v := pickL p ts; if ts.all (fun t => sub p FT t v) = true then some (v, ts.length, ts.length) else none
  | _ => none
variable (hX : PrOk p)
include hX
theorem expT_ok (h : HasTy p W t d) : HasTy p W (expT p t) d := by
  unfold expT
  split
  · simp only [HasTy] at h
    exact hX.x h
  · exact h
theorem PV.int {a b : Int} (h : PV p W S t d) (e : asInt p t = some (a, b)) : ∃ i, d = .int i ∧ a ≤ i ∧ i ≤ b := by
  unfold asInt at e
  have h2 : HasTy p W (expT p t) d := by
    cases t <;> first
      | exact expT_ok hX h
      | cases e
  split at e
  · rename_i q
    cases e
    rw [q] at h2
    simpa only [HasTy] using h2
  · cases e
omit hX in
theorem PV.lr {u : Ty2} {a b : Nat} (h : PV p W S t d) (e : asLr t = some (u, a, b)) : ∃ j ds, d = .ref j ∧ (S[j]? = some (.lst ds) ∨ S[j]? = some (.fro ds)) ∧ a ≤ ds.length ∧ ds.length ≤ b ∧ ∀ x ∈ ds, HasTy p W u x := by
  unfold asLr at e
  split at e
  · cases e
    obtain ⟨j, ds, e, q, r⟩ := h
    exact ⟨j, ds, e, .inl q, r⟩
  · cases e
    obtain ⟨j, ds, e, q, r⟩ := h
    exact ⟨j, ds, e, .inl q, r⟩
  · cases e
    obtain ⟨j, ds, e, q, r⟩ := h
    exact ⟨j, ds, e, .inr q, r⟩
  · cases e
omit hX in
theorem PV.l {u : Ty2} {a b : Nat} (h : PV p W S t d) (e : asL t = some (u, a, b)) : ∃ j ds, d = .ref j ∧ S[j]? = some (.lst ds) ∧ a ≤ ds.length ∧ ds.length ≤ b ∧ ∀ x ∈ ds, HasTy p W u x := by
  unfold asL at e
  split at e
  · cases e; exact h
  · cases e; exact h
  · cases e
theorem PV.sq {u : Ty2} {a b : Nat} (h : PV p W S t d) (e : asSeq p t = some (u, a, b)) : ∃ ds, d = .tup ds ∧ a ≤ ds.length ∧ ds.length ≤ b ∧ ∀ x ∈ ds, HasTy p W u x := by
  unfold asSeq at e
  have h2 : HasTy p W (expT p t) d := by
    cases t <;> first
      | exact expT_ok hX h
      | cases e
  split at e
  · rename_i q
    cases e
    rw [q] at h2
    simpa only [HasTy] using h2
  · rename_i ts q
    dsimp only at e
    split at e
    · rename_i z
      cases e
      rw [q] at h2
      simp only [HasTy] at h2
      obtain ⟨ds, rfl, hs⟩ := h2
      have hl := hs.length
      exact ⟨ds, rfl, by omega, by omega, HasTys.all (fun a b => sub_ok hX FT a b) z hs⟩
    · cases e
  · cases e
end
/-! ### ints -/
theorem imul {a b c d i j : Int} (h1 : a ≤ i) (h2 : i ≤ b) (h3 : c ≤ j) (h4 : j ≤ d) : min (min (a * c) (a * d)) (min (b * c) (b * d)) ≤ i * j ∧ i * j ≤ max (max (a * c) (a * d)) (max (b * c) (b * d)) := by
  have one : ∀ k : Int, (k * c ≤ k * j ∧ k * j ≤ k * d) ∨ (k * d ≤ k * j ∧ k * j ≤ k * c) := fun k => by
    by_cases hk : 0 ≤ k
    · exact .inl ⟨Int.mul_le_mul_of_nonneg_left h3 hk, Int.mul_le_mul_of_nonneg_left h4 hk⟩
    · exact .inr ⟨Int.mul_le_mul_of_nonpos_left (by omega) h4, Int.mul_le_mul_of_nonpos_left (by omega) h3⟩
  have two : (a * j ≤ i * j ∧ i * j ≤ b * j) ∨ (b * j ≤ i * j ∧ i * j ≤ a * j) := by
    by_cases hk : 0 ≤ j
    · exact .inl ⟨Int.mul_le_mul_of_nonneg_right h1 hk, Int.mul_le_mul_of_nonneg_right h2 hk⟩
    · exact .inr ⟨Int.mul_le_mul_of_nonpos_right h2 (by omega), Int.mul_le_mul_of_nonpos_right h1 (by omega)⟩
  have oa := one a
  have ob := one b
  generalize a * c = x1 at *
  generalize a * d = x2 at *
  generalize b * c = x3 at *
  generalize b * d = x4 at *
  generalize a * j = x5 at *
  generalize b * j = x6 at *
  generalize i * j = x7 at *
  omega
/-- a bound of both signs -/
def mag (a b : Int) : Nat := max a.natAbs b.natAbs
theorem mag_ok {a b i : Int} (h1 : a ≤ i) (h2 : i ≤ b) : i.natAbs ≤ mag a b := by unfold mag; omega
def mulT (a b c d : Int) : Bool := decide (mag a b < 2 ^ 64) || (decide (mag c d < 2 ^ 64) || decide ((mag a b).log2 + (mag c d).log2 < 1000000))
theorem log2_mono {a b : Nat} (h : a ≤ b) : a.log2 ≤ b.log2 := by
  by_cases ha : a = 0
  · subst ha; simp
  · exact (Nat.le_log2 (by omega)).mpr (Nat.le_trans ((Nat.le_log2 ha).mp (Nat.le_refl _)) h)
theorem mulT_ok {a b c d i j : Int} (h : mulT a b c d = true) (h1 : a ≤ i) (h2 : i ≤ b) (h3 : c ≤ j) (h4 : j ≤ d) : mulOk i j := by
  have m1 := mag_ok h1 h2
  have m2 := mag_ok h3 h4
  unfold mulT at h
  simp only [Bool.or_eq_true, decide_eq_true_eq] at h
  unfold mulOk
  rcases h with h | h | h
  · exact .inl (by omega)
  · exact .inr (.inl (by omega))
  · have l1 := log2_mono m1
    have l2 := log2_mono m2
    exact .inr (.inr (by omega))
def iBin (o : Bop) (a b c d : Int) : Option Ty2 := match o with
  | .add => some (.int (a + c) (b + d))
  | .sub => some (.int (a - d) (b - c))
  | .mul => if mulT a b c d = true then some (.int (min (min (a * c) (a * d)) (min (b * c) (b * d))) (max (max (a * c) (a * d)) (max (b * c) (b * d)))) else none
  | .div => if 0 < c ∧ d.natAbs.log2 < 9000 then some (.int (if 0 ≤ a then 0 else a) (if 0 ≤ b then b / c else 0)) else none
  | .mod => if 0 < c then some (if 0 ≤ a ∧ b < c then .int a b else .int 0 (d - 1)) else none
  | .pow => if a = b ∧ c = d ∧ 0 ≤ c ∧ c ≤ 1000 ∧ a.natAbs < 2 ^ 64 then some (.int (a ^ c.toNat) (a ^ c.toNat)) else none
  | _ => none
theorem iBin_ok {p : Prm} {W : Wl} {S : Store} {o : Bop} {a b c d i j : Int} {u : Ty2} (h : iBin o a b c d = some u) (h1 : a ≤ i) (h2 : i ≤ b) (h3 : c ≤ j) (h4 : j ≤ d) : TR p W S (o.run (.int i) (.int j) S) u := by
  unfold iBin at h
  cases o <;> simp only at h
  case add => cases h; exact TR.val (by simp only [HasTy]; exact ⟨_, rfl, by omega, by omega⟩)
  case sub => cases h; exact TR.val (by simp only [HasTy]; exact ⟨_, rfl, by omega, by omega⟩)
  case mul =>
    split at h
    · rename_i z
      cases h
      have m := mulT_ok z h1 h2 h3 h4
      have q := imul h1 h2 h3 h4
      simp only [Bop.run]
      unfold dMul
      simp only [if_pos m]
      exact TR.val (by simp only [HasTy]; exact ⟨_, rfl, q.1, q.2⟩)
    · cases h
  case div =>
    split at h
    · rename_i z
      cases h
      have l : j.natAbs.log2 ≤ d.natAbs.log2 := log2_mono (by omega)
      have hd : divOk j := ⟨by omega, by omega⟩
      simp only [Bop.run]
      unfold dDiv
      simp only [if_pos hd, if_pos (show 0 < j by omega)]
      refine TR.val ?_
      simp only [HasTy]
      refine ⟨_, rfl, ?_, ?_⟩
      · split
        · exact Int.ediv_nonneg (by omega) (by omega)
        · by_cases hi : 0 ≤ i
          · have := Int.ediv_nonneg hi (show 0 ≤ j by omega)
            omega
          · have : i ≤ i / j := by
              rw [Int.le_ediv_iff_mul_le (by omega)]
              have h5 := Int.mul_le_mul_of_nonpos_left (a := i) (b := j) (c := 1) (by omega) (by omega)
              omega
            omega
      · split
        · rename_i hb
          by_cases hi : 0 ≤ i
          · have e1 : i / j ≤ i / c := by
              rw [Int.le_ediv_iff_mul_le z.1]
              have h5 := Int.ediv_mul_le i (show j ≠ 0 by omega)
              have h6 := Int.mul_le_mul_of_nonneg_left h3 (Int.ediv_nonneg hi (show 0 ≤ j by omega))
              omega
            have e2 : i / c ≤ b / c := Int.ediv_le_ediv z.1 h2
            omega
          · have e1 : i / j < 0 := Int.ediv_neg_of_neg_of_pos (by omega) (by omega)
            have e2 := Int.ediv_nonneg hb (show 0 ≤ c by omega)
            omega
        · have e1 : i / j < 0 := Int.ediv_neg_of_neg_of_pos (by omega) (by omega)
          omega
    · cases h
  case mod =>
    split at h
    · rename_i z
      cases h
      simp only [Bop.run]
      unfold dMod
      simp only [if_pos (show j ≠ 0 by omega), if_pos (show 0 < j by omega)]
      refine TR.val ?_
      have e1 := Int.emod_nonneg i (show j ≠ 0 by omega)
      have e2 := Int.emod_lt_of_pos i (show 0 < j by omega)
      split
      · rename_i q
        simp only [HasTy]
        rw [Int.emod_eq_of_lt (by omega) (by omega)]
        exact ⟨_, rfl, h1, h2⟩
      · simp only [HasTy]
        exact ⟨_, rfl, e1, by omega⟩
    · cases h
  case pow =>
    split at h
    · rename_i z
      obtain ⟨rfl, rfl, z1, z2, z3⟩ := z
      cases h
      have e1 : i = a := by omega
      have e2 : j = c := by omega
      subst e1 e2
      have m : powOk i j := ⟨z1, by omega, z3⟩
      simp only [Bop.run]
      unfold dPow
      simp only [if_pos m]
      exact TR.val (by simp only [HasTy]; exact ⟨_, rfl, Int.le_refl _, Int.le_refl _⟩)
    · cases h
  all_goals cases h
end Ev
namespace Ev
open PySem PySem.Spec PyProof.Rows
/-! ### plain data -/
def plain (p : Prm) : Nat → Ty2 → Bool
  | 0, _ => false
  | n + 1, t => match t with
    | .bot => true
    | .int _ _ => true
    | .intA => true
    | .bl => true
    | .bc _ => true
    | .non => true
    | .str _ _ => true
    | .tup ts => ts.all (plain p n)
    | .seq t _ _ => plain p n t
    | .lst t _ _ => plain p n t
    | .own t _ _ => plain p n t
    | .nm k => plain p n (p.X k)
    | _ => false
section
variable {p : Prm} {W : Wl} {S : Store} {t u v : Ty2} {d e : D} {tm : Nat}
variable (hX : PrOk p)
theorem pys_all {m n : Nat} : ∀ {ds : List D}, (∀ x ∈ ds, ∃ y, py m S x = some y ∧ y.canLay0 = true ∧ y.depth ≤ n) → ∃ ys, pys m S ds = some ys ∧ PyData.canLayAll0 ys = true ∧ PyData.depthAll ys ≤ n
  | [], _ => ⟨[], pys_nil _ _, rfl, by simp [PyData.depthAll]⟩
  | d :: ds, h => by
    obtain ⟨y, h1, h2, h3⟩ := h d List.mem_cons_self
    obtain ⟨ys, k1, k2, k3⟩ := pys_all (ds := ds) fun x hx => h x (List.mem_cons_of_mem _ hx)
    refine ⟨y :: ys, by rw [pys_cons, h1, k1], by rw [PyData.canLayAll0, h2, k2]; rfl, ?_⟩
    simp only [PyData.depthAll]
    omega
include hX in
theorem py_plain (w : WF p tm W S) : ∀ (n : Nat) {t : Ty2} {d : D}, plain p n t = true → HasTy p W t d → ∀ m, n ≤ m → ∃ x, py m S d = some x ∧ x.canLay0 = true ∧ x.depth ≤ n := by
  intro n
  induction n with
  | zero => intro t d h; cases h
  | succ n ih =>
    intro t d h ht m hm
    unfold plain at h
    split at h
    · simp only [HasTy] at ht
    · simp only [HasTy] at ht
      obtain ⟨i, rfl, _⟩ := ht
      exact ⟨_, py_int _ _ _, rfl, by simp [PyData.depth]⟩
    · simp only [HasTy] at ht
      obtain ⟨i, rfl⟩ := ht
      exact ⟨_, py_int _ _ _, rfl, by simp [PyData.depth]⟩
    · simp only [HasTy] at ht
      obtain ⟨i, rfl⟩ := ht
      exact ⟨_, py_bl _ _ _, rfl, by simp [PyData.depth]⟩
    · simp only [HasTy] at ht
      subst ht
      exact ⟨_, py_bl _ _ _, rfl, by simp [PyData.depth]⟩
    · simp only [HasTy] at ht
      subst ht
      exact ⟨_, py_non _ _, rfl, by simp [PyData.depth]⟩
    · simp only [HasTy] at ht
      obtain ⟨x, rfl, _, _, z⟩ := ht
      exact ⟨_, py_str _ _ _, z, by simp [PyData.depth]⟩
    · rename_i ts
      simp only [HasTy] at ht
      obtain ⟨ds, rfl, hs⟩ := ht
      cases m with
      | zero => omega
      | succ m =>
        have key : ∀ x ∈ ds, ∃ y, py m S x = some y ∧ y.canLay0 = true ∧ y.depth ≤ n := by
          have ih2 : ∀ {t : Ty2} {d : D}, plain p n t = true → HasTy p W t d → ∃ x, py m S d = some x ∧ x.canLay0 = true ∧ x.depth ≤ n := fun a b => ih a b m (by omega)
          clear ih
          induction ts generalizing ds with
          | nil =>
            simp only [HasTys] at hs
            rw [hs]
            intro x hx
            cases hx
          | cons t ts ih3 =>
            simp only [HasTys] at hs
            obtain ⟨x, xs, rfl, a, b⟩ := hs
            rw [List.all_cons, Bool.and_eq_true] at h
            intro y hy
            rcases List.mem_cons.mp hy with z | z
            · rw [z]; exact ih2 h.1 a
            · exact ih3 h.2 xs b y z
        obtain ⟨ys, k1, k2, k3⟩ := pys_all key
        exact ⟨.tuple ys, by rw [py_tup, k1]; rfl, by rw [PyData.canLay0]; exact k2, by simp only [PyData.depth]; omega⟩
    · simp only [HasTy] at ht
      obtain ⟨ds, rfl, _, _, hs⟩ := ht
      cases m with
      | zero => omega
      | succ m =>
        obtain ⟨ys, k1, k2, k3⟩ := pys_all (m := m) fun x hx => ih h (hs x hx) m (by omega)
        exact ⟨.tuple ys, by rw [py_tup, k1]; rfl, by rw [PyData.canLay0]; exact k2, by simp only [PyData.depth]; omega⟩
    · simp only [HasTy] at ht
      obtain ⟨j, ds, rfl, q, _, _, hs⟩ := ht
      cases m with
      | zero => omega
      | succ m =>
        obtain ⟨ys, k1, k2, k3⟩ := pys_all (m := m) fun x hx => ih h (hs x hx) m (by omega)
        refine ⟨.list ys, ?_, by rw [PyData.canLay0]; exact k2, by simp only [PyData.depth]; omega⟩
        rw [py_ref]
        rw [w.fz j ds q]
        dsimp only
        rw [k1]; rfl
    · simp only [HasTy] at ht
    · simp only [HasTy] at ht
      obtain ⟨x, h1, h2, h3⟩ := ih h (hX.x ht) m (by omega)
      exact ⟨x, h1, h2, by omega⟩
    · cases h
include hX in
theorem pv_plain (w : WF p tm W S) (h : plain p 40 t = true) (ht : PV p W S t d) : ∃ x, py FU S d = some x ∧ shp x = true := by
  have fin : ∀ {x : PyData}, x.canLay0 = true → x.depth ≤ 40 → shp x = true := fun {x} a b => by
    unfold shp SeqAt.shaped
    rw [a, Bool.true_and]
    exact decide_eq_true (by omega)
  have lst : ∀ {t : Ty2}, plain p 39 t = true → (∃ j ds, d = .ref j ∧ S[j]? = some (.lst ds) ∧ ∀ x ∈ ds, HasTy p W t x) → ∃ x, py FU S d = some x ∧ shp x = true := fun {t} h ⟨j, ds, e, q, hs⟩ => by
    subst e
    obtain ⟨ys, k1, k2, k3⟩ := pys_all (m := 59) fun x hx => py_plain hX w 39 h (hs x hx) 59 (by omega)
    refine ⟨.list ys, ?_, fin (by rw [PyData.canLay0]; exact k2) (by simp only [PyData.depth]; omega)⟩
    show py (59 + 1) S _ = _
    rw [py_ref, q]
    dsimp only
    rw [k1]; rfl
  have gen : HasTy p W t d → ∃ x, py FU S d = some x ∧ shp x = true := fun ht => by
    obtain ⟨x, h1, h2, h3⟩ := py_plain hX w 40 h ht FU (by decide)
    exact ⟨x, h1, fin h2 h3⟩
  cases t <;> try exact gen ht
  case lst t a b =>
    obtain ⟨j, ds, e, q, _, _, r⟩ := ht
    exact lst (t := t) (by simpa only [plain] using h) ⟨j, ds, e, q, r⟩
  case own t a b =>
    obtain ⟨j, ds, e, q, _, _, r⟩ := ht
    exact lst (t := t) (by simpa only [plain] using h) ⟨j, ds, e, q, r⟩
  case scr a b => simp [plain] at h
theorem dEq_b {x y : PyData} (h1 : py FU S d = some x) (h2 : py FU S e = some y) (s1 : shp x = true) (s2 : shp y = true) : ∃ b, dEq d e S = .ok (.bl b) S := by
  unfold dEq
  split
  · exact ⟨_, rfl⟩
  · exact ⟨_, rfl⟩
  · exact ⟨_, rfl⟩
  · exact ⟨_, rfl⟩
  · rw [h1, h2]
    dsimp only
    rw [if_pos ⟨s1, s2⟩]
    exact ⟨_, rfl⟩
theorem dNe_b {b : Bool} (h : dEq d e S = .ok (.bl b) S) : dNe d e S = .ok (.bl (!b)) S := by
  show M.bnd (dEq d e) _ S = _
  unfold M.bnd
  rw [h]
  rfl
/-! ### comparisons -/
/-- a truth that is known or not -/
def tB (yes no : Bool) : Ty2 := if yes = true then .bc true else if no = true then .bc false else .bl
theorem tB_ok {yes no b : Bool} (h1 : yes = true → b = true) (h2 : no = true → b = false) : HasTy p W (tB yes no) (.bl b) := by
  unfold tB
  split
  · simp only [HasTy]; rw [h1 (by assumption)]
  split
  · simp only [HasTy]; rw [h2 (by assumption)]
  · simp only [HasTy]; exact ⟨b, rfl⟩
def iCmp (o : Cop) (a b c d : Int) : Option Ty2 := match o with
  | .eq => some (tB (decide (a = b ∧ c = d ∧ a = c)) (decide (b < c ∨ d < a)))
  | .ne => some (tB (decide (b < c ∨ d < a)) (decide (a = b ∧ c = d ∧ a = c)))
  | .lt => some (tB (decide (b < c)) (decide (d ≤ a)))
  | .le => some (tB (decide (b ≤ c)) (decide (d < a)))
  | .gt => some (tB (decide (d < a)) (decide (b ≤ c)))
  | .ge => some (tB (decide (d ≤ a)) (decide (b < c)))
  | _ => none
theorem iCmp_ok {o : Cop} {a b c d i j : Int} {u : Ty2} (h : iCmp o a b c d = some u) (h1 : a ≤ i) (h2 : i ≤ b) (h3 : c ≤ j) (h4 : j ≤ d) : TR p W S (o.run (.int i) (.int j) S) u := by
  unfold iCmp at h
  cases o <;> simp only [Option.some.injEq] at h
  case eq =>
    cases h
    refine TR.val (tB_ok (fun z => ?_) (fun z => ?_))
    · have := of_decide_eq_true z
      exact decide_eq_true (by omega)
    · have := of_decide_eq_true z
      exact decide_eq_false (by omega)
  case ne =>
    cases h
    have : dNe (.int i) (.int j) S = .ok (.bl (!decide (i = j))) S := dNe_b rfl
    simp only [Cop.run]
    rw [this]
    refine TR.val (tB_ok (fun z => ?_) (fun z => ?_))
    · have := of_decide_eq_true z
      rw [decide_eq_false (by omega)]; rfl
    · have := of_decide_eq_true z
      rw [decide_eq_true (by omega)]; rfl
  case lt =>
    cases h
    refine TR.val (tB_ok (fun z => ?_) (fun z => ?_))
    · have := of_decide_eq_true z
      exact decide_eq_true (by omega)
    · have := of_decide_eq_true z
      exact decide_eq_false (by omega)
  case le =>
    cases h
    refine TR.val (tB_ok (fun z => ?_) (fun z => ?_))
    · have := of_decide_eq_true z
      exact decide_eq_true (by omega)
    · have := of_decide_eq_true z
      exact decide_eq_false (by omega)
  case gt =>
    cases h
    refine TR.val (tB_ok (fun z => ?_) (fun z => ?_))
    · have := of_decide_eq_true z
      exact decide_eq_true (by omega)
    · have := of_decide_eq_true z
      exact decide_eq_false (by omega)
  case ge =>
    cases h
    refine TR.val (tB_ok (fun z => ?_) (fun z => ?_))
    · have := of_decide_eq_true z
      exact decide_eq_true (by omega)
    · have := of_decide_eq_true z
      exact decide_eq_false (by omega)
  all_goals cases h
/-- is it None? -/
def isNonT (p : Prm) : Ty2 → Option Bool
  | .non => some true
  | .int _ _ => some false
  | .bl => some false
  | .bc _ => some false
  | .tup _ => some false
  | .str _ _ => some false
  | .seq _ _ _ => some false
  | _ => none
theorem isNonT_ok {b : Bool} (h : isNonT p t = some b) (ht : PV p W S t d) : isNon d = b := by
  unfold isNonT at h
  split at h <;> cases h
  · have ht : HasTy p W _ d := ht
    simp only [HasTy] at ht
    rw [ht]; rfl
  · have ht : HasTy p W _ d := ht
    simp only [HasTy] at ht
    obtain ⟨_, rfl, _⟩ := ht
    rfl
  · have ht : HasTy p W _ d := ht
    simp only [HasTy] at ht
    obtain ⟨_, rfl⟩ := ht
    rfl
  · have ht : HasTy p W _ d := ht
    simp only [HasTy] at ht
    subst ht
    rfl
  · have ht : HasTy p W _ d := ht
    simp only [HasTy] at ht
    obtain ⟨_, rfl, _⟩ := ht
    rfl
  · have ht : HasTy p W _ d := ht
    simp only [HasTy] at ht
    obtain ⟨_, rfl, _⟩ := ht
    rfl
  · have ht : HasTy p W _ d := ht
    simp only [HasTy] at ht
    obtain ⟨_, rfl, _⟩ := ht
    rfl
def isT (p : Prm) (t u : Ty2) : Option Ty2 := match u with
  | .non => some (match isNonT p t with
    | some b => .bc b
    | none => .bl)
  | .bc y => (match t with
    | .bc x => some (.bc (decide (x = y)))
    | .bl => some .bl
    | _ => none)
  | _ => none
def notT : Ty2 → Option Ty2
  | .bl => some .bl
  | .bc b => some (.bc !b)
  | _ => none
theorem isT_ok (h : isT p t u = some v) (h1 : PV p W S t d) (h2 : PV p W S u e) : ∃ b, dIs d e S = .ok (.bl b) S ∧ dIsNot d e S = .ok (.bl !b) S ∧ HasTy p W v (.bl b) := by
  unfold isT at h
  split at h
  · cases h
    have h2 : HasTy p W _ e := h2
    simp only [HasTy] at h2
    subst h2
    refine ⟨isNon d, rfl, rfl, ?_⟩
    split
    · rename_i b q
      simp only [HasTy]
      rw [isNonT_ok q h1]
    · simp only [HasTy]
      exact ⟨_, rfl⟩
  · have h2 : HasTy p W _ e := h2
    simp only [HasTy] at h2
    subst h2
    split at h
    · cases h
      have h1 : HasTy p W _ d := h1
      simp only [HasTy] at h1
      subst h1
      refine ⟨_, rfl, rfl, ?_⟩
      simp only [HasTy]
    · cases h
      have h1 : HasTy p W _ d := h1
      simp only [HasTy] at h1
      obtain ⟨x, rfl⟩ := h1
      refine ⟨_, rfl, rfl, ?_⟩
      simp only [HasTy]
      exact ⟨_, rfl⟩
    · cases h
  · cases h
theorem notT_ok {b : Bool} (h : notT t = some u) (ht : HasTy p W t (.bl b)) : HasTy p W u (.bl !b) := by
  unfold notT at h
  split at h
  · cases h
    simp only [HasTy]
    exact ⟨_, rfl⟩
  · cases h
    simp only [HasTy] at ht ⊢
    cases ht
    rfl
  · cases h
def isTx : Ty2 → Bool
  | .txt => true
  | .str _ _ => true
  | _ => false
def eqT2 (p : Prm) (t u : Ty2) : Bool := (plain p 40 t && plain p 40 u) || (isTx t && isTx u)
theorem isTx_ok (h : isTx t = true) (h1 : PV p W S t d) : ∃ x, d = .str x := by
  cases t <;> first
    | (cases h; done)
    | skip
  · have h1 : HasTy p W _ d := h1
    simp only [HasTy] at h1
    obtain ⟨x, e, _⟩ := h1
    exact ⟨x, e⟩
  · have h1 : HasTy p W _ d := h1
    simp only [HasTy] at h1
    exact h1
include hX in
theorem eqT2_ok (w : WF p tm W S) (h : eqT2 p t u = true) (h1 : PV p W S t d) (h2 : PV p W S u e) : ∃ b, dEq d e S = .ok (.bl b) S := by
  unfold eqT2 at h
  rw [Bool.or_eq_true, Bool.and_eq_true, Bool.and_eq_true] at h
  rcases h with z | z
  · obtain ⟨x, k1, k2⟩ := pv_plain hX w z.1 h1
    obtain ⟨y, l1, l2⟩ := pv_plain hX w z.2 h2
    exact dEq_b k1 l1 k2 l2
  · obtain ⟨x, rfl⟩ := isTx_ok z.1 h1
    obtain ⟨y, rfl⟩ := isTx_ok z.2 h2
    exact ⟨_, rfl⟩
def tCmp (p : Prm) (o : Cop) (t u : Ty2) : Option Ty2 := match asInt p t, asInt p u with
  | some (a, b), some (c, d) => iCmp o a b c d
  | _, _ => match o with
    | .is => isT p t u
    | .isNot => (isT p t u).bind notT
    | .eq => if eqT2 p t u = true then some .bl else none
    | .ne => if eqT2 p t u = true then some .bl else none
    | .in_ => if plain p 40 t = true ∧ plain p 40 u = true ∧ (asL u).isSome = true then some .bl else none
    | .notIn => if plain p 40 t = true ∧ plain p 40 u = true ∧ (asL u).isSome = true then some .bl else none
    | _ => none
theorem dIn_b {x : PyData} {j : Nat} {ys : List PyData} (h1 : py FU S d = some x) (h2 : py FU S (.ref j) = some (.list ys)) (s1 : shp x = true) (s2 : shp (.list ys) = true) : ∃ b, dIn d (.ref j) S = .ok (.bl b) S := by
  have e0 : dIn d (.ref j) S = (match py FU S d, py FU S (.ref j) with
    | some x, some (.list ys) => if shp x = true ∧ shp (.list ys) = true then .ok (.bl (ys.any fun z => PyData.eqv z x)) S else .bad
    | _, _ => .bad) := by
    unfold dIn
    cases d <;> rfl
  rw [e0, h1, h2]
  dsimp only
  rw [if_pos ⟨s1, s2⟩]
  exact ⟨_, rfl⟩
include hX in
theorem tCmp_ok (w : WF p tm W S) {o : Cop} (h : tCmp p o t u = some v) (h1 : PV p W S t d) (h2 : PV p W S u e) : TR p W S (o.run d e S) v := by
  unfold tCmp at h
  have bl : ∀ {b : Bool}, HasTy p W .bl (.bl b) := fun {b} => by simp only [HasTy]; exact ⟨b, rfl⟩
  split at h
  · rename_i q1 q2
    obtain ⟨i, rfl, a1, a2⟩ := PV.int hX h1 q1
    obtain ⟨j, rfl, b1, b2⟩ := PV.int hX h2 q2
    exact iCmp_ok h a1 a2 b1 b2
  · have inB : plain p 40 t = true ∧ plain p 40 u = true ∧ (asL u).isSome = true → ∃ b, dIn d e S = .ok (.bl b) S := fun ⟨z1, z2, z3⟩ => by
      obtain ⟨⟨u', a, b⟩, q⟩ := Option.isSome_iff_exists.mp z3
      obtain ⟨j, ds, rfl, _⟩ := h2.l q
      obtain ⟨x, k1, k2⟩ := pv_plain hX w z1 h1
      obtain ⟨y, l1, l2⟩ := pv_plain hX w z2 h2
      obtain ⟨ys, rfl⟩ : ∃ ys, y = .list ys := by
        have l3 : py (59 + 1) S (.ref j) = some y := l1
        rw [py_ref] at l3
        obtain ⟨j', ds', e', q', _⟩ := h2.l q
        cases e'
        rw [q'] at l3
        dsimp only at l3
        rw [Option.map_eq_some_iff] at l3
        obtain ⟨ys, _, rfl⟩ := l3
        exact ⟨ys, rfl⟩
      exact dIn_b k1 l1 k2 l2
    split at h
    · obtain ⟨b, k1, _, k3⟩ := isT_ok h h1 h2
      simp only [Cop.run]
      rw [k1]
      exact TR.val k3
    · rw [Option.bind_eq_some_iff] at h
      obtain ⟨v', h3, h4⟩ := h
      obtain ⟨b, _, k2, k3⟩ := isT_ok h3 h1 h2
      simp only [Cop.run]
      rw [k2]
      exact TR.val (notT_ok h4 k3)
    · split at h
      · rename_i z
        cases h
        obtain ⟨b, q⟩ := eqT2_ok hX w z h1 h2
        simp only [Cop.run]
        rw [q]
        exact TR.val bl
      · cases h
    · split at h
      · rename_i z
        cases h
        obtain ⟨b, q⟩ := eqT2_ok hX w z h1 h2
        simp only [Cop.run]
        rw [dNe_b q]
        exact TR.val bl
      · cases h
    · split at h
      · rename_i z
        cases h
        obtain ⟨b, q⟩ := inB z
        simp only [Cop.run]
        rw [q]
        exact TR.val bl
      · cases h
    · split at h
      · rename_i z
        cases h
        obtain ⟨b, q⟩ := inB z
        simp only [Cop.run]
        have : dNotIn d e S = .ok (.bl (!b)) S := by
          show M.bnd (dIn d e) _ S = _
          unfold M.bnd
          rw [q]
          rfl
        rw [this]
        exact TR.val bl
      · cases h
    · cases h
end
end Ev
namespace Ev
open PySem PySem.Spec PyProof.Rows
section
variable {p : Prm} {W : Wl} {S : Store} {t u v : Ty2} {d e : D} {tm : Nat}
variable (hX : PrOk p)
/-! ### a + b -/
theorem HasTys.app : ∀ {ts us : List Ty2} {ds es : List D}, HasTys p W ts ds → HasTys p W us es → HasTys p W (ts ++ us) (ds ++ es)
  | [], _, _, _, h, k => by
    simp only [HasTys] at h
    subst h
    exact k
  | t :: ts, _, _, _, h, k => by
    simp only [HasTys] at h
    obtain ⟨x, xs, rfl, a, b⟩ := h
    simp only [List.cons_append, HasTys]
    exact ⟨x, _, rfl, a, HasTys.app b k⟩
theorem HasTys.drop : ∀ {ts : List Ty2} {ds : List D} (n : Nat), HasTys p W ts ds → HasTys p W (ts.drop n) (ds.drop n)
  | ts, ds, 0, h => by simpa using h
  | [], _, n + 1, h => by
    simp only [HasTys] at h
    subst h
    simp only [List.drop_nil, HasTys]
  | t :: ts, _, n + 1, h => by
    simp only [HasTys] at h
    obtain ⟨x, xs, rfl, a, b⟩ := h
    exact HasTys.drop n b
theorem HasTys.take : ∀ {ts : List Ty2} {ds : List D} (n : Nat), HasTys p W ts ds → HasTys p W (ts.take n) (ds.take n)
  | ts, ds, 0, h => by simp only [List.take_zero, HasTys]
  | [], _, n + 1, h => by
    simp only [HasTys] at h
    subst h
    simp only [List.take_nil, HasTys]
  | t :: ts, _, n + 1, h => by
    simp only [HasTys] at h
    obtain ⟨x, xs, rfl, a, b⟩ := h
    simp only [List.take_succ_cons, HasTys]
    exact ⟨x, _, rfl, a, HasTys.take n b⟩
theorem subT_ok (h1 : subT p t u = true) (hX : PrOk p) (h : HasTy p W t d) : HasTy p W u d := by
  unfold subT at h1
  split at h1
  · simp only [HasTy] at h
  · exact sub_ok hX FT h1 h
theorem LINE_eq : LINE = 16777216 := rfl
theorem strOk_app {x y : Str} (h1 : PyData.strOk x = true) (h2 : PyData.strOk y = true) : PyData.strOk (x ++ y) = true := by
  unfold PyData.strOk at *
  show (x.cps ++ y.cps).all _ = true
  rw [Array.all_append, h1, h2]
  rfl
theorem str_app_len {x y : Str} : (x ++ y).length = x.length + y.length := by
  show (x.cps ++ y.cps).size = _
  rw [Array.size_append]
  rfl
def addT (p : Prm) (t u : Ty2) : Option Ty2 := match asLr t, asL u with
  | some (t, a, b), some (u, c, d) => if b + d ≤ LINE then (join p t u).map fun v => .own v (a + c) (b + d) else none
  | _, _ => match expT p t, expT p u with
    | .tup ts, .tup us => if ts.length + us.length ≤ LINE then some (.tup (ts ++ us)) else none
    | .str a b, .str c d => if b + d ≤ LINE then some (.str (a + c) (b + d)) else none
    | _, _ => match asSeq p t, asSeq p u with
      | some (t, a, b), some (u, c, d) => if b + d ≤ LINE then (join p t u).map fun v => .seq v (a + c) (b + d) else none
      | _, _ => none
theorem all_app {P : D → Prop} {xs ys : List D} (h1 : ∀ x ∈ xs, P x) (h2 : ∀ x ∈ ys, P x) : ∀ x ∈ xs ++ ys, P x := fun x hx => by
  rcases List.mem_append.mp hx with z | z
  · exact h1 x z
  · exact h2 x z
include hX in
theorem pv_exp (h : PV p W S t d) (h2 : asLr t = none) : HasTy p W (expT p t) d := by
  cases t <;> first
    | exact expT_ok hX h
    | cases h2
def mulLT (p : Prm) (t u : Ty2) : Option Ty2 := match asL t, asInt p u with
  | some (t, a, b), some (c, d) => if 0 ≤ c ∧ d < 2 ^ 62 ∧ b * d.toNat ≤ LINE then some (.own t (a * c.toNat) (b * d.toNat)) else none
  | _, _ => none
def binT (p : Prm) (o : Bop) (t u : Ty2) : Option Ty2 := match asInt p t, asInt p u with
  | some (a, b), some (c, d) => iBin o a b c d
  | _, _ => match o with
    | .add => addT p t u
    | .mul => mulLT p t u
    | _ => none
theorem asL_exp {t u : Ty2} (h : expT p t = u) (hu : ∀ a b c, u ≠ .own a b c) (hl : ∀ a b c, u ≠ .lst a b c) (hs : ∀ a b, u ≠ .scr a b) : asLr t = none := by
  unfold expT at h
  split at h
  · rfl
  · subst h
    unfold asLr
    split
    · exact absurd rfl (hu _ _ _)
    · exact absurd rfl (hl _ _ _)
    · exact absurd rfl (hs _ _)
    · rfl
include hX in
theorem binT_ok {o : Bop} (h : binT p o t u = some v) (h1 : PV p W S t d) (h2 : PV p W S u e) : TR p W S (o.run d e S) v := by
  unfold binT at h
  split at h
  · rename_i q1 q2
    obtain ⟨i, rfl, a1, a2⟩ := PV.int hX h1 q1
    obtain ⟨j, rfl, b1, b2⟩ := PV.int hX h2 q2
    exact iBin_ok h a1 a2 b1 b2
  · split at h
    · unfold addT at h
      simp only [Bop.run]
      split at h
      · rename_i q1 q2
        split at h
        · rename_i z
          rw [Option.map_eq_some_iff] at h
          obtain ⟨w, h3, rfl⟩ := h
          obtain ⟨j1, h4⟩ := join_ok h3
          obtain ⟨j, ds, rfl, s1, l1, l2, l3⟩ := h1.lr q1
          obtain ⟨k, es, rfl, s2, m1, m2, m3⟩ := h2.l q2
          unfold dAdd
          rcases s1 with s1 | s1
          · simp only [s1, s2]
            rw [if_pos (by omega)]
            exact TR.new (by rw [List.length_append]; omega) (by rw [List.length_append]; omega) (all_app (fun x hx => subT_ok j1 hX (l3 x hx)) (fun x hx => subT_ok h4 hX (m3 x hx)))
          · simp only [s1, s2]
            rw [if_pos (by omega)]
            exact TR.new (by rw [List.length_append]; omega) (by rw [List.length_append]; omega) (all_app (fun x hx => subT_ok j1 hX (l3 x hx)) (fun x hx => subT_ok h4 hX (m3 x hx)))
        · cases h
      · split at h
        · rename_i q1 q2
          have e1 := pv_exp hX h1 (asL_exp q1 (fun _ _ _ => nofun) (fun _ _ _ => nofun) (fun _ _ => nofun))
          have e2 := pv_exp hX h2 (asL_exp q2 (fun _ _ _ => nofun) (fun _ _ _ => nofun) (fun _ _ => nofun))
          rw [q1] at e1
          rw [q2] at e2
          simp only [HasTy] at e1 e2
          obtain ⟨ds, rfl, hs⟩ := e1
          obtain ⟨es, rfl, ks⟩ := e2
          have g1 := hs.length
          have g2 := ks.length
          split at h
          · cases h
            unfold dAdd
            simp only
            rw [if_pos (by omega)]
            exact TR.val (by simp only [HasTy]; exact ⟨_, rfl, hs.app ks⟩)
          · cases h
        · rename_i q1 q2
          have e1 := pv_exp hX h1 (asL_exp q1 (fun _ _ _ => nofun) (fun _ _ _ => nofun) (fun _ _ => nofun))
          have e2 := pv_exp hX h2 (asL_exp q2 (fun _ _ _ => nofun) (fun _ _ _ => nofun) (fun _ _ => nofun))
          rw [q1] at e1
          rw [q2] at e2
          simp only [HasTy] at e1 e2
          obtain ⟨x, rfl, x1, x2, x3⟩ := e1
          obtain ⟨y, rfl, y1, y2, y3⟩ := e2
          split at h
          · cases h
            unfold dAdd
            simp only
            rw [if_pos (by omega)]
            exact TR.val (by simp only [HasTy]; exact ⟨_, rfl, by rw [str_app_len]; omega, by rw [str_app_len]; omega, strOk_app x3 y3⟩)
          · cases h
        · split at h
          · rename_i q1 q2
            split at h
            · rw [Option.map_eq_some_iff] at h
              obtain ⟨w, h3, rfl⟩ := h
              obtain ⟨j1, h4⟩ := join_ok h3
              obtain ⟨ds, rfl, l1, l2, l3⟩ := PV.sq hX h1 q1
              obtain ⟨es, rfl, m1, m2, m3⟩ := PV.sq hX h2 q2
              unfold dAdd
              simp only
              rw [if_pos (by omega)]
              exact TR.val (by simp only [HasTy]; exact ⟨_, rfl, by rw [List.length_append]; omega, by rw [List.length_append]; omega, all_app (fun x hx => subT_ok j1 hX (l3 x hx)) (fun x hx => subT_ok h4 hX (m3 x hx))⟩)
            · cases h
          · cases h
    · unfold mulLT at h
      simp only [Bop.run]
      split at h
      · rename_i q1 q2
        split at h
        · rename_i z
          cases h
          obtain ⟨j, ds, rfl, s1, l1, l2, l3⟩ := h1.l q1
          obtain ⟨i, rfl, i1, i2⟩ := PV.int hX h2 q2
          unfold dMul
          simp only [s1]
          have hl : (List.replicate i.toNat ds).flatten.length = i.toNat * ds.length := by simp
          have k1 := Nat.mul_le_mul l1 (show (_ : Nat) ≤ i.toNat from Int.toNat_le_toNat i1)
          have k2 := Nat.mul_le_mul l2 (show i.toNat ≤ (_ : Nat) from Int.toNat_le_toNat i2)
          obtain ⟨z1, z2, z3⟩ := z
          have c1 : i.toNat * ds.length = ds.length * i.toNat := Nat.mul_comm _ _
          rw [if_pos ⟨by omega, by omega, by omega⟩]
          exact TR.new (by rw [hl, c1]; exact k1) (by rw [hl, c1]; exact k2) (fun x hx => by
            rw [List.mem_flatten] at hx
            obtain ⟨l, hl1, hl2⟩ := hx
            rw [List.mem_replicate] at hl1
            rw [hl1.2] at hl2
            exact l3 x hl2)
        · cases h
      · cases h
    · cases h
/-! ### a[i] -/
theorem atI_in {α : Type} {xs : List α} {i : Int} (h1 : -(xs.length : Int) ≤ i) (h2 : i < xs.length) : ∃ x, L2.atI xs i = some x ∧ x ∈ xs := by
  unfold L2.atI L2.ixN
  by_cases h0 : 0 ≤ i
  · rw [if_pos h0, if_pos h2]
    have : i.toNat < xs.length := by omega
    exact ⟨xs[i.toNat], by simp [this], List.getElem_mem _⟩
  · rw [if_neg h0, if_pos h1]
    have : (i + (xs.length : Int)).toNat < xs.length := by omega
    exact ⟨xs[(i + (xs.length : Int)).toNat], by simp [this], List.getElem_mem _⟩
def ixT (p : Prm) (t u : Ty2) : Option Ty2 := match asInt p u with
  | some (c, d) => match asLr t with
    | some (t, a, _) => if -(a : Int) ≤ c ∧ d < a then some t else none
    | none => match expT p t with
      | .tup ts => if c = d then L2.atI ts c else match asSeq p t with
        | some (t, a, _) => if -(a : Int) ≤ c ∧ d < a then some t else none
        | none => none
      | .seq t a _ => if -(a : Int) ≤ c ∧ d < a then some t else none
      | .str a b => if -(a : Int) ≤ c ∧ d < a ∧ b ≤ LINE then some (.str 1 1) else none
      | _ => none
  | none => none
theorem HasTys.atI {ts : List Ty2} {ds : List D} {i : Int} {t : Ty2} (h : HasTys p W ts ds) (e : L2.atI ts i = some t) : ∃ d, L2.atI ds i = some d ∧ HasTy p W t d := by
  unfold L2.atI at e ⊢
  rw [h.length]
  rw [Option.bind_eq_some_iff] at e
  obtain ⟨j, h1, h2⟩ := e
  obtain ⟨v, h3, h4⟩ := h.get h2
  exact ⟨v, by rw [h1]; exact h3, h4⟩
include hX in
theorem ixT_ok (h : ixT p t u = some v) (h1 : PV p W S t d) (h2 : PV p W S u e) : TR p W S (dIx d e S) v := by
  unfold ixT at h
  split at h
  · rename_i c0 d0 q
    obtain ⟨i, rfl, i1, i2⟩ := PV.int hX h2 q
    have tupK : ∀ {ds : List D} {v : Ty2}, (∀ x ∈ ds, HasTy p W v x) → -(ds.length : Int) ≤ i → i < ds.length → TR p W S (dIx (.tup ds) (.int i) S) v := fun {ds v} hs a b => by
      obtain ⟨x, x1, x2⟩ := atI_in a b
      unfold dIx
      simp only [x1]
      exact TR.val (hs x x2)
    split at h
    · rename_i q1
      split at h
      · cases h
        obtain ⟨j, ds, rfl, s1, l1, l2, l3⟩ := h1.lr q1
        obtain ⟨x, x1, x2⟩ := atI_in (xs := ds) (i := i) (by omega) (by omega)
        unfold dIx
        rcases s1 with s1 | s1
        · simp only [s1, x1]
          exact TR.val (l3 x x2)
        · simp only [s1, x1]
          exact TR.val (l3 x x2)
      · cases h
    · rename_i q1
      have e1 := pv_exp hX h1 q1
      split at h
      · rename_i ts q2
        rw [q2] at e1
        simp only [HasTy] at e1
        obtain ⟨ds, rfl, hs⟩ := e1
        split at h
        · have : i = c0 := by omega
          subst this
          obtain ⟨x, x1, x2⟩ := hs.atI h
          unfold dIx
          simp only [x1]
          exact TR.val x2
        · split at h
          · rename_i q3
            split at h
            · cases h
              obtain ⟨es, e2, l1, l2, l3⟩ := PV.sq hX h1 q3
              cases e2
              exact tupK l3 (by omega) (by omega)
            · cases h
          · cases h
      · rename_i q2
        rw [q2] at e1
        simp only [HasTy] at e1
        obtain ⟨ds, rfl, l1, l2, l3⟩ := e1
        split at h
        · cases h
          exact tupK l3 (by omega) (by omega)
        · cases h
      · rename_i q2
        rw [q2] at e1
        simp only [HasTy] at e1
        obtain ⟨x, rfl, l1, l2, l3⟩ := e1
        split at h
        · cases h
          have hl : x.cps.toList.length = x.length := by simp [Str.length]
          obtain ⟨c, x1, x2⟩ := atI_in (xs := x.cps.toList) (i := i) (by omega) (by omega)
          unfold dIx
          simp only
          rw [if_pos (by omega)]
          simp only [x1]
          refine TR.val ?_
          simp only [HasTy]
          refine ⟨_, rfl, Nat.le_refl _, Nat.le_refl _, ?_⟩
          unfold PyData.strOk at l3 ⊢
          rw [Array.all_eq_true'] at l3
          have := l3 c (Array.mem_toList_iff.mp x2)
          simpa using this
        · cases h
      · cases h
  · cases h
/-! ### a[lo:hi] -/
def partT (p : Prm) : Option Ty2 → Option (Option (Int × Int))
  | none => some none
  | some t => (asInt p t).map some
/-- how long at the least, the most -/
def cutLen (a b : Nat) : Option (Int × Int) → Option (Int × Int) → Nat × Nat
  | none, some (c, d) => if c = d ∧ 0 ≤ c then (min a c.toNat, min b c.toNat) else if 0 ≤ c then (0, min b d.toNat) else (0, b)
  | some (c, d), none => if c = d ∧ 0 ≤ c then (a - c.toNat, b - c.toNat) else (0, b)
  | _, some (c, d) => if 0 ≤ c then (0, min b d.toNat) else (0, b)
  | _, _ => (0, b)
def inP (l : Option Int) : Option (Int × Int) → Prop
  | none => l = none
  | some (c, d) => ∃ i, l = some i ∧ c ≤ i ∧ i ≤ d
theorem cutD_length (xs : List D) (lo hi : Option Int) : (cutD xs lo hi).length = min (HT.sIx xs.length xs.length hi - HT.sIx xs.length 0 lo) (xs.length - HT.sIx xs.length 0 lo) := by
  unfold cutD
  rw [List.length_take, List.length_drop]
theorem cutLen_ok {a b : Nat} {xs : List D} {lo hi : Option Int} {l h : Option (Int × Int)} (h1 : a ≤ xs.length) (h2 : xs.length ≤ b) (hl : inP lo l) (hh : inP hi h) : (cutLen a b l h).1 ≤ (cutD xs lo hi).length ∧ (cutD xs lo hi).length ≤ (cutLen a b l h).2 := by
  have top := cutD_len xs lo hi
  have ln := cutD_length xs lo hi
  unfold cutLen
  cases h with
  | none =>
    cases l with
    | none => exact ⟨Nat.zero_le _, by dsimp only; omega⟩
    | some q =>
      obtain ⟨c, d⟩ := q
      obtain ⟨i, rfl, i1, i2⟩ := hl
      dsimp only
      split
      · rename_i z
        have e : i = c := by omega
        subst e
        have hh : hi = none := hh
        subst hh
        rw [HT.sIx_none] at ln
        have e2 : HT.sIx xs.length 0 (some i) = min i.toNat xs.length := by
          unfold HT.sIx
          dsimp only
          rw [if_neg (by omega)]
        rw [e2] at ln
        omega
      · exact ⟨Nat.zero_le _, by dsimp only; omega⟩
  | some q =>
    obtain ⟨c, d⟩ := q
    obtain ⟨i, rfl, i1, i2⟩ := hh
    have up : 0 ≤ c → (cutD xs lo (some i)).length ≤ min b d.toNat := fun z => by
      have e2 : HT.sIx xs.length xs.length (some i) = min i.toNat xs.length := by
        unfold HT.sIx
        dsimp only
        rw [if_neg (by omega)]
      rw [e2] at ln
      omega
    cases l with
    | none =>
      dsimp only
      split
      · rename_i z
        have e : i = c := by omega
        subst e
        have hl : lo = none := hl
        subst hl
        rw [HT.sIx_none] at ln
        have e2 : HT.sIx xs.length xs.length (some i) = min i.toNat xs.length := by
          unfold HT.sIx
          dsimp only
          rw [if_neg (by omega)]
        rw [e2] at ln
        omega
      · split
        · rename_i z
          exact ⟨Nat.zero_le _, up z⟩
        · exact ⟨Nat.zero_le _, by dsimp only; omega⟩
    | some q2 =>
      dsimp only
      split
      · rename_i z
        exact ⟨Nat.zero_le _, up z⟩
      · exact ⟨Nat.zero_le _, by dsimp only; omega⟩
def ptv : Option (Int × Int) → Option (Option Int)
  | none => some none
  | some (c, d) => if c = d then some (some c) else none
def slT (p : Prm) (t : Ty2) (l h : Option (Int × Int)) : Option Ty2 := match asLr t with
  | some (t, a, b) => some (.own t (cutLen a b l h).1 (cutLen a b l h).2)
  | none => match expT p t, ptv l, ptv h with
    | .tup ts, some l, some h => some (.tup ((ts.drop (HT.sIx ts.length 0 l)).take (HT.sIx ts.length ts.length h - HT.sIx ts.length 0 l)))
    | _, _, _ => match asSeq p t with
      | some (t, a, b) => some (.seq t (cutLen a b l h).1 (cutLen a b l h).2)
      | none => none
theorem ptv_ok {l : Option Int} {q : Option (Int × Int)} {r : Option Int} (h : ptv q = some r) (hl : inP l q) : l = r := by
  unfold ptv at h
  split at h
  · cases h; exact hl
  · split at h
    · cases h
      obtain ⟨i, rfl, i1, i2⟩ := hl
      congr 1
      omega
    · cases h
theorem mem_cut {xs : List D} {lo hi : Option Int} {x : D} (h : x ∈ cutD xs lo hi) : x ∈ xs := by
  unfold cutD at h
  exact List.mem_of_mem_drop (List.mem_of_mem_take h)
include hX in
theorem slT_ok {l h : Option (Int × Int)} {lo hi : Option Int} (hs : slT p t l h = some v) (h1 : PV p W S t d) (hl : inP lo l) (hh : inP hi h) : TR p W S (dSl d lo hi S) v := by
  unfold slT at hs
  split at hs
  · rename_i q1
    cases hs
    obtain ⟨j, ds, rfl, s1, l1, l2, l3⟩ := h1.lr q1
    obtain ⟨c1, c2⟩ := cutLen_ok l1 l2 hl hh
    unfold dSl
    rcases s1 with s1 | s1
    · simp only [s1]
      exact TR.new c1 c2 fun x hx => l3 x (mem_cut hx)
    · simp only [s1]
      exact TR.new c1 c2 fun x hx => l3 x (mem_cut hx)
  · rename_i q1
    have e1 := pv_exp hX h1 q1
    split at hs
    · rename_i ts l' h' q2 q3 q4
      cases hs
      have f1 := ptv_ok q3 hl
      have f2 := ptv_ok q4 hh
      subst f1 f2
      rw [q2] at e1
      simp only [HasTy] at e1
      obtain ⟨ds, rfl, ks⟩ := e1
      unfold dSl
      refine TR.val ?_
      simp only [HasTy]
      refine ⟨_, rfl, ?_⟩
      unfold cutD
      rw [ks.length]
      exact (ks.drop _).take _
    · split at hs
      · rename_i q3
        cases hs
        obtain ⟨ds, rfl, l1, l2, l3⟩ := PV.sq hX h1 q3
        obtain ⟨c1, c2⟩ := cutLen_ok l1 l2 hl hh
        unfold dSl
        refine TR.val ?_
        simp only [HasTy]
        exact ⟨_, rfl, c1, c2, fun x hx => l3 x (mem_cut hx)⟩
      · cases hs
def revT (p : Prm) (t : Ty2) : Option Ty2 := match asLr t with
  | some (t, a, b) => some (.own t a b)
  | none => match expT p t with
    | .tup ts => some (.tup ts.reverse)
    | _ => match asSeq p t with
      | some (t, a, b) => some (.seq t a b)
      | none => none
theorem HasTys.snoc {t : Ty2} {x : D} (a : HasTy p W t x) : ∀ {ts : List Ty2} {ds : List D}, HasTys p W ts ds → HasTys p W (ts ++ [t]) (ds ++ [x])
  | _, _, h => h.app (by simp only [HasTys]; exact ⟨_, _, rfl, a, rfl⟩)
theorem HasTys.rev : ∀ {ts : List Ty2} {ds : List D}, HasTys p W ts ds → HasTys p W ts.reverse ds.reverse
  | [], _, h => by
    simp only [HasTys] at h
    subst h
    simp only [List.reverse_nil, HasTys]
  | t :: ts, _, h => by
    simp only [HasTys] at h
    obtain ⟨x, xs, rfl, a, b⟩ := h
    rw [List.reverse_cons, List.reverse_cons]
    exact HasTys.snoc a (HasTys.rev b)
include hX in
theorem revT_ok (hs : revT p t = some v) (h1 : PV p W S t d) : TR p W S (dRev d S) v := by
  unfold revT at hs
  split at hs
  · rename_i q1
    cases hs
    obtain ⟨j, ds, rfl, s1, l1, l2, l3⟩ := h1.lr q1
    unfold dRev
    rcases s1 with s1 | s1
    · simp only [s1]
      exact TR.new (by rw [List.length_reverse]; exact l1) (by rw [List.length_reverse]; exact l2) fun x hx => l3 x (List.mem_reverse.mp hx)
    · simp only [s1]
      exact TR.new (by rw [List.length_reverse]; exact l1) (by rw [List.length_reverse]; exact l2) fun x hx => l3 x (List.mem_reverse.mp hx)
  · rename_i q1
    have e1 := pv_exp hX h1 q1
    split at hs
    · rename_i ts q2
      cases hs
      rw [q2] at e1
      simp only [HasTy] at e1
      obtain ⟨ds, rfl, ks⟩ := e1
      unfold dRev
      refine TR.val ?_
      simp only [HasTy]
      exact ⟨_, rfl, ks.rev⟩
    · split at hs
      · rename_i q3
        cases hs
        obtain ⟨ds, rfl, l1, l2, l3⟩ := PV.sq hX h1 q3
        unfold dRev
        refine TR.val ?_
        simp only [HasTy]
        exact ⟨_, rfl, by rw [List.length_reverse]; exact l1, by rw [List.length_reverse]; exact l2, fun x hx => l3 x (List.mem_reverse.mp hx)⟩
      · cases hs
end
end Ev
namespace Ev
open PySem PySem.Spec PyProof.Rows
inductive PVs (p : Prm) (W : Wl) (S : Store) : List Ty2 → List D → Prop
  | nil : PVs p W S [] []
  | cons {t : Ty2} {ts : List Ty2} {d : D} {ds : List D} : PV p W S t d → PVs p W S ts ds → PVs p W S (t :: ts) (d :: ds)
section
variable {p : Prm} {W : Wl} {S : Store} {t u v : Ty2} {d e : D} {tm : Nat}
variable (hX : PrOk p)
def negT (p : Prm) (t : Ty2) : Option Ty2 := (asInt p t).map fun q => .int (-q.2) (-q.1)
include hX in
theorem negT_ok (h : negT p t = some v) (h1 : PV p W S t d) : TR p W S (dNeg d S) v := by
  unfold negT at h
  rw [Option.map_eq_some_iff] at h
  obtain ⟨⟨a, b⟩, q, rfl⟩ := h
  obtain ⟨i, rfl, i1, i2⟩ := PV.int hX h1 q
  refine TR.val ?_
  simp only [HasTy]
  exact ⟨_, rfl, by omega, by omega⟩
/-- the class of a value, if the type tells -/
def clsT (p : Prm) (t : Ty2) : Option (Option Ty) := match t with
  | .own _ _ _ => some (some .list)
  | .lst _ _ _ => some (some .list)
  | .scr _ _ => some (some .list)
  | t => match expT p t with
    | .int _ _ => some (some .int)
    | .intA => some (some .int)
    | .bl => some (some .bool)
    | .bc _ => some (some .bool)
    | .non => some none
    | .str _ _ => some (some .str)
    | .tup _ => some (some .tuple)
    | .seq _ _ _ => some (some .tuple)
    | _ => none
def isiT (p : Prm) (y : Ty) (t : Ty2) : Option Ty2 := (clsT p t).map fun c => .bc (match c with
  | some u => u.sub y
  | none => false)
include hX in
theorem clsT_ok {c : Option Ty} (h : clsT p t = some c) (h1 : PV p W S t d) : tyOf d S = some c := by
  have lst : ∀ {t : Ty2} {a b : Nat}, (∃ j ds, d = .ref j ∧ (S[j]? = some (.lst ds) ∨ S[j]? = some (.fro ds)) ∧ a ≤ ds.length ∧ ds.length ≤ b ∧ ∀ x ∈ ds, HasTy p W t x) → tyOf d S = some (some .list) := fun ⟨j, ds, e, q, _⟩ => by
    subst e
    unfold tyOf
    rcases q with q | q
    · simp only [q]
    · simp only [q]
  unfold clsT at h
  split at h
  · cases h
    obtain ⟨j, ds, e, q, r⟩ := h1
    exact lst ⟨j, ds, e, .inl q, r⟩
  · cases h
    obtain ⟨j, ds, e, q, r⟩ := h1
    exact lst ⟨j, ds, e, .inl q, r⟩
  · cases h
    obtain ⟨j, ds, e, q, r⟩ := h1
    exact lst ⟨j, ds, e, .inr q, r⟩
  · rename_i n1 n2 n3
    have al : asLr t = none := by
      unfold asLr
      split
      · exact absurd rfl (n1 _ _ _)
      · exact absurd rfl (n2 _ _ _)
      · exact absurd rfl (n3 _ _)
      · rfl
    have e1 := pv_exp hX h1 al
    split at h <;> first
      | (rename_i q; cases h; rw [q] at e1; simp only [HasTy] at e1; obtain ⟨_, rfl, _⟩ := e1; rfl)
      | (rename_i q; cases h; rw [q] at e1; simp only [HasTy] at e1; obtain ⟨_, rfl⟩ := e1; rfl)
      | (rename_i q; cases h; rw [q] at e1; simp only [HasTy] at e1; subst e1; rfl)
      | cases h
include hX in
theorem isiT_ok {y : Ty} (h : isiT p y t = some v) (h1 : PV p W S t d) : TR p W S (dIsi y d S) v := by
  unfold isiT at h
  rw [Option.map_eq_some_iff] at h
  obtain ⟨c, q, rfl⟩ := h
  have e := clsT_ok hX q h1
  unfold dIsi
  rw [e]
  cases c with
  | none => exact TR.val (by simp only [HasTy])
  | some u => exact TR.val (by simp only [HasTy])
def lenT (p : Prm) (t : Ty2) : Option (Nat × Nat) := match asLr t with
  | some (_, a, b) => some (a, b)
  | none => match expT p t with
    | .tup ts => some (ts.length, ts.length)
    | .seq _ a b => some (a, b)
    | .str a b => if b ≤ LINE then some (a, b) else none
    | _ => none
include hX in
theorem lenT_ok {a b : Nat} (h : lenT p t = some (a, b)) (h1 : PV p W S t d) : ∃ n : Nat, dLen d S = .ok (.int n) S ∧ a ≤ n ∧ n ≤ b := by
  unfold lenT at h
  split at h
  · rename_i q
    cases h
    obtain ⟨j, ds, rfl, s1, l1, l2, _⟩ := h1.lr q
    refine ⟨ds.length, ?_, l1, l2⟩
    unfold dLen
    rcases s1 with s1 | s1
    · simp only [s1]
    · simp only [s1]
  · rename_i q
    have e1 := pv_exp hX h1 q
    split at h
    · rename_i q2
      cases h
      rw [q2] at e1
      simp only [HasTy] at e1
      obtain ⟨ds, rfl, hs⟩ := e1
      exact ⟨ds.length, rfl, by rw [hs.length]; exact Nat.le_refl _, by rw [hs.length]; exact Nat.le_refl _⟩
    · rename_i q2
      cases h
      rw [q2] at e1
      simp only [HasTy] at e1
      obtain ⟨ds, rfl, l1, l2, _⟩ := e1
      exact ⟨ds.length, rfl, l1, l2⟩
    · rename_i q2
      split at h
      · cases h
        rw [q2] at e1
        simp only [HasTy] at e1
        obtain ⟨x, rfl, l1, l2, _⟩ := e1
        refine ⟨x.length, ?_, l1, l2⟩
        unfold dLen
        simp only
        rw [if_pos (by omega)]
      · cases h
    · cases h
/-- a list's, a tuple's items -/
def itT (p : Prm) (t : Ty2) : Option (Ty2 × Nat × Nat) := match asLr t with
  | some q => some q
  | none => asSeq p t
include hX in
theorem itT_ok {u : Ty2} {a b : Nat} (h : itT p t = some (u, a, b)) (h1 : PV p W S t d) : ∃ ds, itemsOf d S = some ds ∧ a ≤ ds.length ∧ ds.length ≤ b ∧ ∀ x ∈ ds, HasTy p W u x := by
  unfold itT at h
  split at h
  · rename_i q
    cases h
    obtain ⟨j, ds, rfl, s1, l⟩ := h1.lr q
    refine ⟨ds, ?_, l⟩
    unfold itemsOf
    rcases s1 with s1 | s1
    · simp only [s1]
    · simp only [s1]
  · obtain ⟨ds, rfl, l⟩ := PV.sq hX h1 h
    exact ⟨ds, rfl, l⟩
/-! ### repr -/
def maxB : List (Option Nat) → Option Nat
  | [] => some 0
  | x :: xs => match x, maxB xs with
    | some a, some b => some (max a b)
    | _, _ => none
/-- how long a text shows it, at most -/
def repT (p : Prm) : Nat → Ty2 → Option Nat
  | 0, _ => none
  | n + 1, t => match t with
    | .int a b => if (mag a b).log2 < 1920 then some 1921 else none
    | .bl => some 5
    | .bc _ => some 5
    | .non => some 4
    | .str _ b => some (10 * b + 2)
    | .tup ts => (maxB (ts.map (repT p n))).map fun b => (b + 2) * ts.length + 3
    | .seq t _ h => if h = 0 then some 3 else (repT p n t).map fun b => (b + 2) * h + 3
    | .lst t _ h => if h = 0 then some 3 else (repT p n t).map fun b => (b + 2) * h + 3
    | .nm k => repT p n (p.X k)
    | _ => none
def Shn (S : Store) (m n b : Nat) (d : D) : Prop := ∃ x, py m S d = some x ∧ x.hasDict = false ∧ x.showable = true ∧ x.shown.length ≤ b ∧ x.depth ≤ n
theorem Shn.le {S : Store} {m n b c : Nat} {d : D} (h : Shn S m n b d) (hb : b ≤ c) : Shn S m n c d := by
  obtain ⟨x, h1, h2, h3, h4, h5⟩ := h
  exact ⟨x, h1, h2, h3, by omega, h5⟩
theorem pys_shn {S : Store} {m n b : Nat} : ∀ {ds : List D}, (∀ x ∈ ds, Shn S m n b x) → ∃ ys, pys m S ds = some ys ∧ PyData.hasDictAll ys = false ∧ PyData.showableAll ys = true ∧ ((PyData.shownAll ys).map (·.length)).sum ≤ b * ds.length ∧ (PyData.shownAll ys).length = ds.length ∧ PyData.depthAll ys ≤ n
  | [], _ => ⟨[], pys_nil _ _, rfl, rfl, by simp [PyData.shownAll], rfl, by simp [PyData.depthAll]⟩
  | d :: ds, h => by
    obtain ⟨y, h1, h2, h3, h4, h5⟩ := h d List.mem_cons_self
    obtain ⟨ys, k1, k2, k3, k4, k5, k6⟩ := pys_shn (ds := ds) fun x hx => h x (List.mem_cons_of_mem _ hx)
    refine ⟨y :: ys, by rw [pys_cons, h1, k1], by rw [PyData.hasDictAll, h2, k2]; rfl, by rw [PyData.showableAll, h3, k3]; rfl, ?_, ?_, ?_⟩
    · simp only [PyData.shownAll, List.map_cons, List.sum_cons, List.length_cons, Nat.mul_add, Nat.mul_one]
      omega
    · simp only [PyData.shownAll, List.length_cons, k5]
    · simp only [PyData.depthAll]
      omega
theorem shn_tup {S : Store} {m n b : Nat} {ds : List D} (h : ∀ x ∈ ds, Shn S m n b x) : Shn S (m + 1) (n + 1) ((b + 2) * ds.length + 3) (.tup ds) := by
  obtain ⟨ys, k1, k2, k3, k4, k5, k6⟩ := pys_shn h
  refine ⟨.tuple ys, by rw [py_tup, k1]; rfl, by rw [PyData.hasDict]; exact k2, by rw [PyData.showable]; exact k3, ?_, by simp only [PyData.depth]; omega⟩
  rw [PyData.shown]
  have := tupleText_len_le (PyData.shownAll ys)
  rw [k5] at this
  rw [Nat.add_mul]
  omega
theorem shn_lst {S : Store} {m n b j : Nat} {ds : List D} (e : S[j]? = some (.lst ds)) (h : ∀ x ∈ ds, Shn S m n b x) : Shn S (m + 1) (n + 1) ((b + 2) * ds.length + 3) (.ref j) := by
  obtain ⟨ys, k1, k2, k3, k4, k5, k6⟩ := pys_shn h
  refine ⟨.list ys, by rw [py_ref, e]; dsimp only; rw [k1]; rfl, by rw [PyData.hasDict]; exact k2, by rw [PyData.showable]; exact k3, ?_, by simp only [PyData.depth]; omega⟩
  rw [PyData.shown]
  have := listText_len_le (PyData.shownAll ys)
  rw [k5] at this
  rw [Nat.add_mul]
  omega
theorem maxB_ok {f : Ty2 → Option Nat} : ∀ {ts : List Ty2} {b : Nat}, maxB (ts.map f) = some b → ∀ t ∈ ts, ∃ c, f t = some c ∧ c ≤ b
  | [], _, _, t, h => nomatch h
  | u :: ts, b, h, t, ht => by
    rw [List.map_cons] at h
    unfold maxB at h
    split at h
    · rename_i a c h1 h2
      cases h
      rcases List.mem_cons.mp ht with e | e
      · subst e
        exact ⟨a, h1, by omega⟩
      · obtain ⟨x, k1, k2⟩ := maxB_ok h2 t e
        exact ⟨x, k1, by omega⟩
    · cases h
include hX in
theorem rep_ok {tm : Nat} (w : WF p tm W S) : ∀ (n : Nat) {t : Ty2} {b : Nat} {d : D}, repT p n t = some b → HasTy p W t d → ∀ m, n ≤ m → Shn S m n b d := by
  intro n
  induction n with
  | zero => intro t b d h; cases h
  | succ n ih =>
    intro t b d h ht m hm
    have many : ∀ {t : Ty2} {hi m : Nat} {ds : List D} {c : Nat}, (if hi = 0 then some 3 else (repT p n t).map fun b => (b + 2) * hi + 3) = some c → ds.length ≤ hi → (∀ x ∈ ds, HasTy p W t x) → n ≤ m → ∃ c2, (∀ x ∈ ds, Shn S m n c2 x) ∧ (c2 + 2) * ds.length + 3 ≤ c := fun {t hi m ds c} h l hs hm => by
      split at h
      · rename_i z
        cases h
        have e : ds = [] := List.eq_nil_of_length_eq_zero (by omega)
        subst e
        exact ⟨0, (fun x hx => nomatch hx), (by simp)⟩
      · rw [Option.map_eq_some_iff] at h
        obtain ⟨c2, h1, rfl⟩ := h
        exact ⟨c2, fun x hx => ih h1 (hs x hx) m hm, by have := Nat.mul_le_mul_left (c2 + 2) l; omega⟩
    unfold repT at h
    split at h
    · split at h
      · rename_i z
        cases h
        simp only [HasTy] at ht
        obtain ⟨i, rfl, i1, i2⟩ := ht
        have lg : i.natAbs.log2 < 1920 := Nat.lt_of_le_of_lt (log2_mono (mag_ok i1 i2)) z
        exact ⟨_, py_int _ _ _, rfl, by rw [PyData.showable]; exact decide_eq_true lg, int_text_len_1921 lg, by simp [PyData.depth]⟩
      · cases h
    · cases h
      simp only [HasTy] at ht
      obtain ⟨i, rfl⟩ := ht
      exact ⟨_, py_bl _ _ _, rfl, rfl, by cases i <;> decide, by simp [PyData.depth]⟩
    · cases h
      simp only [HasTy] at ht
      subst ht
      rename_i b0
      exact ⟨_, py_bl _ _ _, rfl, rfl, by cases b0 <;> decide, by simp [PyData.depth]⟩
    · cases h
      simp only [HasTy] at ht
      subst ht
      exact ⟨_, py_non _ _, rfl, rfl, by decide, by simp [PyData.depth]⟩
    · cases h
      simp only [HasTy] at ht
      obtain ⟨x, rfl, _, x2, x3⟩ := ht
      refine ⟨_, py_str _ _ _, rfl, rfl, ?_, by simp [PyData.depth]⟩
      have := PySem.StrLaws.reprText_len x (fun c hc => by
        unfold PyData.strOk at x3
        have h4 := Array.all_eq_true'.mp x3 c (by simpa using hc)
        have h5 := of_decide_eq_true h4
        exact Nat.lt_of_lt_of_le h5 (by decide))
      rw [PyData.shown]
      omega
    · rename_i ts
      rw [Option.map_eq_some_iff] at h
      obtain ⟨c, h1, rfl⟩ := h
      simp only [HasTy] at ht
      obtain ⟨ds, rfl, hs⟩ := ht
      cases m with
      | zero => omega
      | succ m =>
        have hl := hs.length
        rw [← hl]
        refine shn_tup fun x hx => ?_
        have key : ∃ t ∈ ts, HasTy p W t x := by
          clear h1 hl
          induction ts generalizing ds with
          | nil =>
            simp only [HasTys] at hs
            rw [hs] at hx
            cases hx
          | cons t ts ih3 =>
            simp only [HasTys] at hs
            obtain ⟨y, ys, rfl, a, b⟩ := hs
            rcases List.mem_cons.mp hx with z | z
            · exact ⟨t, List.mem_cons_self, by rw [z]; exact a⟩
            · obtain ⟨u, u1, u2⟩ := ih3 ys b z
              exact ⟨u, List.mem_cons_of_mem _ u1, u2⟩
        obtain ⟨t, t1, t2⟩ := key
        obtain ⟨c2, c3, c4⟩ := maxB_ok h1 t t1
        exact (ih c3 t2 m (by omega)).le c4
    · simp only [HasTy] at ht
      obtain ⟨ds, rfl, _, l2, hs⟩ := ht
      cases m with
      | zero => omega
      | succ m =>
        obtain ⟨c2, k1, k2⟩ := many h l2 hs (show n ≤ m by omega)
        exact (shn_tup k1).le k2
    · simp only [HasTy] at ht
      obtain ⟨j, ds, rfl, q, _, l2, hs⟩ := ht
      cases m with
      | zero => omega
      | succ m =>
        obtain ⟨c2, k1, k2⟩ := many h l2 hs (show n ≤ m by omega)
        exact (shn_lst (w.fz j ds q) k1).le k2
    · simp only [HasTy] at ht
      obtain ⟨x, h1, h2, h3, h4, h5⟩ := ih h (hX.x ht) m (by omega)
      exact ⟨x, h1, h2, h3, h4, by omega⟩
    · cases h
/-- an own list as one that stays -/
def ownL : Ty2 → Ty2
  | .own t a b => .lst t a b
  | t => t
def dLst : D → Store → Bool := fun d S => match d with
  | .ref _ => true
  | _ => false
theorem dRepr_shn {n b : Nat} (h : Shn S FU n b d) (hb : b ≤ LINE) (hn : n ≤ 64) : ∃ x, dRepr d S = .ok (.str x) S := by
  obtain ⟨x, h1, h2, h3, h4, h5⟩ := h
  have gen : (match py FU S d with
    | some x => if (x.hasDict = false ∧ x.showable = true) ∧ x.shown.length ≤ LINE ∧ x.depth ≤ 64 then Res.ok (D.str x.shown) S else .bad
    | none => .bad) = .ok (.str x.shown) S := by
    rw [h1]
    dsimp only
    rw [if_pos ⟨⟨h2, h3⟩, by omega, by omega⟩]
  unfold dRepr
  split
  · rw [py_int] at h1
    cases h1
    rw [PyData.showable] at h3
    rw [if_pos (of_decide_eq_true h3)]
    exact ⟨_, rfl⟩
  · exact ⟨_, rfl⟩
  · exact ⟨_, rfl⟩
  · rw [py_str] at h1
    cases h1
    rw [PyData.shown] at h4
    rw [if_pos (by omega)]
    exact ⟨_, rfl⟩
  · exact ⟨_, gen⟩
def bltT (p : Prm) (b : Blt) (ts : List Ty2) : Option Ty2 := match b, ts with
  | .len, [t] => (lenT p t).map fun q => .int q.1 q.2
  | .abs, [t] => (asInt p t).map fun q => .int (if 0 ≤ q.1 then q.1 else if q.2 ≤ 0 then -q.2 else 0) (max (-q.1) q.2)
  | .int, [t] => match asInt p t with
    | some (a, b) => some (.int a b)
    | none => match t with
      | .bl => some (.int 0 1)
      | .bc true => some (.int 1 1)
      | .bc false => some (.int 0 0)
      | _ => none
  | .max2, [t, u] => match asInt p t, asInt p u with
    | some (a, b), some (c, d) => some (.int (max a c) (max b d))
    | _, _ => none
  | .min2, [t, u] => match asInt p t, asInt p u with
    | some (a, b), some (c, d) => some (.int (min a c) (min b d))
    | _, _ => none
  | .tuple, [t] => match asLr t with
    | some (t, a, b) => some (.seq t a b)
    | none => match expT p t with
      | .tup ts => some (.tup ts)
      | .seq t a b => some (.seq t a b)
      | _ => none
  | .list, [t] => (itT p t).map fun q => .own q.1 q.2.1 q.2.2
  | .all, [t] => match asL t with
    | some (t, _, _) => if subT p t .bl = true then some .bl else none
    | none => none
  | .any, [t] => match asL t with
    | some (t, _, _) => if subT p t .bl = true then some .bl else none
    | none => none
  | .repr, [t] => match repT p 40 (ownL t) with
    | some b => if b ≤ LINE then some .txt else none
    | none => none
  | _, _ => none
theorem bls_ok : ∀ {ds : List D}, (∀ x ∈ ds, HasTy p W .bl x) → ∃ bs, bls ds = some bs
  | [], _ => ⟨[], rfl⟩
  | d :: ds, h => by
    have h1 := h d List.mem_cons_self
    simp only [HasTy] at h1
    obtain ⟨b, rfl⟩ := h1
    obtain ⟨bs, e⟩ := bls_ok (ds := ds) fun x hx => h x (List.mem_cons_of_mem _ hx)
    exact ⟨b :: bs, by rw [bls, e]; rfl⟩
include hX in
theorem bltT_ok {tm : Nat} (w : WF p tm W S) {b : Blt} {ts : List Ty2} {ds : List D} (h : bltT p b ts = some v) (h1 : PVs p W S ts ds) : TR p W S (b.run ds S) v := by
  have lb : ∀ {t t' : Ty2} {a c : Nat} {d : D}, asL t = some (t', a, c) → subT p t' .bl = true → PV p W S t d → ∃ bs, (listOf? d S).bind bls = some bs := fun {t t' a c d} q z k => by
    obtain ⟨j, ds, rfl, s1, l1, l2, l3⟩ := k.l q
    obtain ⟨bs, e⟩ := bls_ok (ds := ds) fun x hx => subT_ok z hX (l3 x hx)
    refine ⟨bs, ?_⟩
    unfold listOf?
    simp only [s1]; exact e
  unfold bltT at h
  split at h
  · cases h1 with
    | cons k1 k2 =>
      cases k2
      rw [Option.map_eq_some_iff] at h
      obtain ⟨⟨a, b⟩, q, rfl⟩ := h
      obtain ⟨n, e1, e2, e3⟩ := lenT_ok hX q k1
      simp only [Blt.run, on1]
      rw [e1]
      refine TR.val ?_
      simp only [HasTy]
      exact ⟨_, rfl, by omega, by omega⟩
  · cases h1 with
    | cons k1 k2 =>
      cases k2
      rw [Option.map_eq_some_iff] at h
      obtain ⟨⟨a, b⟩, q, rfl⟩ := h
      obtain ⟨i, rfl, i1, i2⟩ := PV.int hX k1 q
      simp only [Blt.run, on1, dAbs]
      refine TR.val ?_
      simp only [HasTy]
      refine ⟨_, rfl, ?_, ?_⟩
      · split <;> split <;> first
          | omega
          | (split <;> omega)
      · split <;> omega
  · cases h1 with
    | cons k1 k2 =>
      cases k2
      split at h
      · rename_i q
        cases h
        obtain ⟨i, rfl, i1, i2⟩ := PV.int hX k1 q
        simp only [Blt.run, on1, dInt]
        refine TR.val ?_
        simp only [HasTy]
        exact ⟨_, rfl, i1, i2⟩
      · split at h
        · cases h
          have k1 : HasTy p W _ _ := k1
          simp only [HasTy] at k1
          obtain ⟨b, rfl⟩ := k1
          simp only [Blt.run, on1, dInt]
          refine TR.val ?_
          simp only [HasTy]
          exact ⟨_, rfl, by cases b <;> decide, by cases b <;> decide⟩
        · cases h
          have k1 : HasTy p W _ _ := k1
          simp only [HasTy] at k1
          subst k1
          simp only [Blt.run, on1, dInt]
          refine TR.val ?_
          simp only [HasTy]
          exact ⟨_, rfl, by decide, by decide⟩
        · cases h
          have k1 : HasTy p W _ _ := k1
          simp only [HasTy] at k1
          subst k1
          simp only [Blt.run, on1, dInt]
          refine TR.val ?_
          simp only [HasTy]
          exact ⟨_, rfl, by decide, by decide⟩
        · cases h
  · cases h1 with
    | cons k1 k2 =>
      cases k2 with
      | cons k2 k3 =>
        cases k3
        split at h
        · rename_i q1 q2
          cases h
          obtain ⟨i, rfl, i1, i2⟩ := PV.int hX k1 q1
          obtain ⟨j, rfl, j1, j2⟩ := PV.int hX k2 q2
          simp only [Blt.run, on2, dMax2]
          refine TR.val ?_
          simp only [HasTy]
          refine ⟨_, rfl, ?_, ?_⟩ <;> split <;> omega
        · cases h
  · cases h1 with
    | cons k1 k2 =>
      cases k2 with
      | cons k2 k3 =>
        cases k3
        split at h
        · rename_i q1 q2
          cases h
          obtain ⟨i, rfl, i1, i2⟩ := PV.int hX k1 q1
          obtain ⟨j, rfl, j1, j2⟩ := PV.int hX k2 q2
          simp only [Blt.run, on2, dMin2]
          refine TR.val ?_
          simp only [HasTy]
          refine ⟨_, rfl, ?_, ?_⟩ <;> split <;> omega
        · cases h
  · cases h1 with
    | cons k1 k2 =>
      cases k2
      split at h
      · rename_i q
        cases h
        obtain ⟨j, ds, rfl, s1, l1, l2, l3⟩ := k1.lr q
        simp only [Blt.run, on1, dTuple, itemsOf]
        rcases s1 with s1 | s1
        · simp only [s1]
          refine TR.val ?_
          simp only [HasTy]
          exact ⟨_, rfl, l1, l2, l3⟩
        · simp only [s1]
          refine TR.val ?_
          simp only [HasTy]
          exact ⟨_, rfl, l1, l2, l3⟩
      · rename_i q
        have e1 := pv_exp hX k1 q
        split at h
        · rename_i q2
          cases h
          rw [q2] at e1
          have e2 := e1
          simp only [HasTy] at e2
          obtain ⟨ds, rfl, hs⟩ := e2
          exact TR.val e1
        · rename_i q2
          cases h
          rw [q2] at e1
          have e2 := e1
          simp only [HasTy] at e2
          obtain ⟨ds, rfl, hs⟩ := e2
          exact TR.val e1
        · cases h
  · cases h1 with
    | cons k1 k2 =>
      cases k2
      rw [Option.map_eq_some_iff] at h
      obtain ⟨⟨u', a, b⟩, q, rfl⟩ := h
      obtain ⟨ds, e, l1, l2, l3⟩ := itT_ok hX q k1
      simp only [Blt.run, on1, dList]
      rw [e]
      exact TR.new l1 l2 l3
  · cases h1 with
    | cons k1 k2 =>
      cases k2
      split at h
      · rename_i q
        split at h
        · rename_i z
          cases h
          obtain ⟨bs, e⟩ := lb q z k1
          simp only [Blt.run, on1, dAll]
          rw [e]
          refine TR.val ?_
          simp only [HasTy]
          exact ⟨_, rfl⟩
        · cases h
      · cases h
  · cases h1 with
    | cons k1 k2 =>
      cases k2
      split at h
      · rename_i q
        split at h
        · rename_i z
          cases h
          obtain ⟨bs, e⟩ := lb q z k1
          simp only [Blt.run, on1, dAny]
          rw [e]
          refine TR.val ?_
          simp only [HasTy]
          exact ⟨_, rfl⟩
        · cases h
      · cases h
  · cases h1 with
    | cons k1 k2 =>
      cases k2
      split at h
      · rename_i u c q
        split at h
        · rename_i z
          cases h
          have key : ∀ {t : Ty2} {d : D}, repT p 40 (ownL t) = some c → PV p W S t d → Shn S FU 40 c d := fun {t d} q k => by
            have lst : ∀ {t : Ty2} {a b : Nat}, repT p 40 (.lst t a b) = some c → (∃ j ds, d = .ref j ∧ S[j]? = some (.lst ds) ∧ a ≤ ds.length ∧ ds.length ≤ b ∧ ∀ x ∈ ds, HasTy p W t x) → Shn S FU 40 c d := fun {t a b} q ⟨j, ds, e, e1, l1, l2, l3⟩ => by
              subst e
              have q : (if b = 0 then some 3 else (repT p 39 t).map fun c => (c + 2) * b + 3) = some c := q
              split at q
              · rename_i z
                cases q
                have e : ds = [] := List.eq_nil_of_length_eq_zero (by omega)
                subst e
                exact (shn_lst (m := 59) (n := 39) (b := 0) e1 (fun x hx => nomatch hx)).le (by simp)
              · rw [Option.map_eq_some_iff] at q
                obtain ⟨c2, q1, rfl⟩ := q
                exact (shn_lst (m := 59) (n := 39) e1 (fun x hx => rep_ok hX w 39 q1 (l3 x hx) 59 (by omega))).le (by have := Nat.mul_le_mul_left (c2 + 2) l2; omega)
            cases t <;> first
              | exact rep_ok hX w 40 q k FU (by decide)
              | exact lst q k
              | (cases q; done)
          obtain ⟨x, e⟩ := dRepr_shn (key q k1) z (by decide)
          simp only [Blt.run, on1]
          rw [e]
          refine TR.val ?_
          simp only [HasTy]
          exact ⟨x, rfl⟩
        · cases h
      · cases h
  · cases h
end
end Ev
namespace Ev
open PySem PySem.Spec PyProof.Rows
/-! ### frames by types -/
abbrev En := List (Option Ty2)
def Val (p : Prm) (W : Wl) (S : Store) (t : Ty2) (d : D) : Prop := match t with
  | .own t lo hi => ∃ j ds, d = .ref j ∧ W[j]? = some .ow ∧ S[j]? = some (.lst ds) ∧ lo ≤ ds.length ∧ ds.length ≤ hi ∧ ∀ x ∈ ds, HasTy p W t x
  | t => HasTy p W t d
def isOwn : Ty2 → Bool
  | .own _ _ _ => true
  | _ => false
def Own (G : En) (env : Fr) (j : Nat) : Prop := ∃ (i : Nat) (t : Ty2), G[i]? = some (some t) ∧ isOwn t = true ∧ env[i]? = some (some (D.ref j))
structure EnvOk (p : Prm) (W : Wl) (S : Store) (G : En) (env : Fr) : Prop where
  len : env.length = G.length
  at_ : ∀ (i : Nat) (t : Ty2), G[i]? = some (some t) → ∃ d, env[i]? = some (some d) ∧ Val p W S t d
  uniq : ∀ (i k : Nat) (t u : Ty2) (d : D), G[i]? = some (some t) → isOwn t = true → G[k]? = some (some u) → isOwn u = true → env[i]? = some (some d) → env[k]? = some (some d) → i = k
/-- from a state to a later one, the frame's own lists apart -/
structure Go (p : Prm) (W : Wl) (S : Store) (t : Nat) (O : Nat → Prop) (W' : Wl) (S' : Store) (t' c : Nat) : Prop where
  ext : Ext W W'
  wf : WF p t' W' S'
  t1 : t ≤ t'
  t2 : t' ≤ t + c
  fr : ∀ (j : Nat), W[j]? = some .ow → S'[j]? = S[j]? ∧ (W'[j]? = some .ow ∨ (O j ∧ ∃ ds, W'[j]? = some (.fz ds)))
  grow : S.length ≤ S'.length
section
variable {p : Prm} {W W1 W2 : Wl} {S S1 S2 : Store} {t t1 t2 c c1 c2 : Nat} {O O1 O2 : Nat → Prop} {G G1 G2 : En} {env : Fr} {u v : Ty2} {d : D}
theorem Go.refl (w : WF p t W S) : Go p W S t O W S t 0 := ⟨.refl, w, Nat.le_refl _, Nat.le_refl _, fun _ h => ⟨rfl, .inl h⟩, Nat.le_refl _⟩
theorem Go.lt (w : WF p t W S) {j : Nat} (h : W[j]? = some .ow) : j < S.length := by
  rw [← w.len]
  exact (List.getElem?_eq_some_iff.mp h).1
theorem Go.trans (a : Go p W S t O W1 S1 t1 c1) (b : Go p W1 S1 t1 O1 W2 S2 t2 c2) (ho : ∀ j, O1 j → j < S.length → O j) (w : WF p t W S) : Go p W S t O W2 S2 t2 (c1 + c2) where
  ext := a.ext.trans b.ext
  wf := b.wf
  t1 := Nat.le_trans a.t1 b.t1
  t2 := by have := a.t2; have := b.t2; omega
  fr := fun j h => by
    obtain ⟨h1, h2⟩ := a.fr j h
    rcases h2 with h2 | ⟨h2, ds, h3⟩
    · obtain ⟨k1, k2⟩ := b.fr j h2
      refine ⟨k1.trans h1, ?_⟩
      rcases k2 with k2 | ⟨k2, k3⟩
      · exact .inl k2
      · exact .inr ⟨ho j k2 (Go.lt w h), k3⟩
    · have e := b.ext j _ h3 (fun z => nomatch z)
      exact ⟨by rw [b.wf.fz j ds e, ← h1, a.wf.fz j ds h3], .inr ⟨h2, ds, e⟩⟩
  grow := Nat.le_trans a.grow b.grow
theorem Go.weak (a : Go p W S t O W1 S1 t1 c) (h : c ≤ c1) (ho : ∀ j, O j → O1 j) : Go p W S t O1 W1 S1 t1 c1 :=
  ⟨a.ext, a.wf, a.t1, by have := a.t2; omega, fun j q => by
    obtain ⟨h1, h2⟩ := a.fr j q
    exact ⟨h1, h2.imp id fun ⟨x, y⟩ => ⟨ho j x, y⟩⟩, a.grow⟩
/-- no cell but a deck's changes -/
theorem Go.same (a : Go p W S t O W1 S1 t1 c) (w : WF p t W S) {j : Nat} {k : Kd} (h : W[j]? = some k) (hk : k ≠ .dk)  : S1[j]? = S[j]? := by
  cases k with
  | dk => exact absurd rfl hk
  | ow => exact (a.fr j h).1
  | fz ds => rw [w.fz j ds h, a.wf.fz j ds (a.ext j _ h (fun z => nomatch z))]
  | sc ds => rw [w.sc j ds h, a.wf.sc j ds (a.ext j _ h (fun z => nomatch z))]
variable (hX : PrOk p)
theorem Val.has (h : Val p W S u d) (h2 : isOwn u = false) : HasTy p W u d := by
  cases u <;> first
    | exact h
    | cases h2
theorem Val.of (h : HasTy p W u d) : Val p W S u d := by
  cases u <;> first
    | exact h
    | (simp only [HasTy] at h)
/-- a value looked at later -/
theorem Val.pv (h : Val p W S u d) (w : WF p t W S) (a : Go p W S t O W1 S1 t1 c) : PV p W1 S1 u d := by
  by_cases ho : isOwn u = true
  · cases u <;> first
      | (cases ho; done)
      | skip
    obtain ⟨j, ds, e, q1, q2, r1, r2, r3⟩ := h
    exact ⟨j, ds, e, by rw [(a.fr j q1).1]; exact q2, r1, r2, fun x hx => (r3 x hx).mono a.ext⟩
  · have ho : isOwn u = false := by simpa using ho
    exact PV.of a.wf ((h.has ho).mono a.ext)
theorem Val.pv0 (h : Val p W S u d) (w : WF p t W S) : PV p W S u d := h.pv w (Go.refl (O := fun _ => False) w)
theorem Val.go (h : Val p W S u d) (a : Go p W S t (fun _ => False) W1 S1 t1 c) : Val p W1 S1 u d := by
  by_cases ho : isOwn u = true
  · cases u <;> first
      | (cases ho; done)
      | skip
    obtain ⟨j, ds, e, q1, q2, r1, r2, r3⟩ := h
    obtain ⟨z1, z2⟩ := a.fr j q1
    rcases z2 with z2 | ⟨z2, _⟩
    · exact ⟨j, ds, e, z2, by rw [z1]; exact q2, r1, r2, fun x hx => (r3 x hx).mono a.ext⟩
    · exact z2.elim
  · have ho : isOwn u = false := by simpa using ho
    exact Val.of ((h.has ho).mono a.ext)
theorem EnvOk.go (h : EnvOk p W S G env) (a : Go p W S t (fun _ => False) W1 S1 t1 c) : EnvOk p W1 S1 G env :=
  ⟨h.len, fun i u e => by
    obtain ⟨d, h1, h2⟩ := h.at_ i u e
    exact ⟨d, h1, h2.go a⟩, h.uniq⟩
/-- the own cells are the frame's -/
theorem EnvOk.ow (h : EnvOk p W S G env) {j : Nat} (o : Own G env j) : W[j]? = some .ow := by
  obtain ⟨i, u, h1, h2, h3⟩ := o
  obtain ⟨d, e1, e2⟩ := h.at_ i u h1
  rw [h3] at e1
  cases e1
  cases u <;> first
    | (cases h2; done)
    | skip
  obtain ⟨j', ds, e, q, _⟩ := e2
  cases e
  exact q
include hX in
theorem Val.sub (h : Val p W S u d) (hs : subT p u v = true) : Val p W S v d := by
  unfold subT at hs
  split at hs
  · simp only [Bool.and_eq_true, Bool.or_eq_true, decide_eq_true_eq] at hs
    obtain ⟨j, ds, e, q1, q2, r1, r2, r3⟩ := h
    refine ⟨j, ds, e, q1, q2, by omega, by omega, fun x hx => ?_⟩
    rcases hs.2.2 with z | z
    · have : ds = [] := List.eq_nil_of_length_eq_zero (by omega)
      rw [this] at hx; cases hx
    · exact sub_ok hX FT z (r3 x hx)
  · rename_i n1
    by_cases ho : isOwn u = true
    · cases u <;> first
        | (cases ho; done)
        | skip
      -- own is below nothing else
      exfalso
      unfold FT at hs
      unfold Ev.sub at hs
      split at hs <;> first
        | (rename_i q _; cases q; done)
        | (rename_i q; cases q; done)
        | (cases hs; done)
        | (rename_i n2 _ _; exact n2 _ _ _ rfl)
        | (rename_i n2 _; exact n2 _ _ _ rfl)
        | (rename_i n2; exact n2 _ _ _ rfl)
        | simp_all
    · have ho : isOwn u = false := by simpa using ho
      exact Val.of (sub_ok hX FT hs (h.has ho))
/-- pointwise below -/
def subEn (p : Prm) : En → En → Bool
  | [], [] => true
  | _ :: a, none :: b => subEn p a b
  | some t :: a, some u :: b => subT p t u && subEn p a b
  | _, _ => false
def joinEn (p : Prm) (a b : En) : Option En := if a.length = b.length then
    let g := List.zipWith (fun x y => match x, y with
      | some t, some u => join p t u
      | _, _ => none) a b
    if subEn p a g = true ∧ subEn p b g = true then some g else none
  else none
theorem subEn_len : ∀ {a b : En}, subEn p a b = true → a.length = b.length
  | [], [], _ => rfl
  | [], _ :: _, h => by cases h
  | x :: a, none :: b, h => by
    have h : subEn p a b = true := by cases x <;> exact h
    rw [List.length_cons, List.length_cons, subEn_len h]
  | none :: a, some _ :: b, h => by cases h
  | some t :: a, some u :: b, h => by
    have h : (subT p t u && subEn p a b) = true := h
    rw [Bool.and_eq_true] at h
    rw [List.length_cons, List.length_cons, subEn_len h.2]
  | x :: _, [], h => by cases x <;> cases h
theorem subEn_at : ∀ {a b : En} {i : Nat} {u : Ty2}, subEn p a b = true → b[i]? = some (some u) → ∃ t, a[i]? = some (some t) ∧ subT p t u = true
  | [], [], _, _, _, e => by cases e
  | [], _ :: _, _, _, h, _ => by cases h
  | x :: a, none :: b, i, u, h, e => by
    have h : subEn p a b = true := by cases x <;> exact h
    cases i with
    | zero => cases e
    | succ i =>
      obtain ⟨t, h1, h2⟩ := subEn_at h (by simpa using e)
      exact ⟨t, by simpa using h1, h2⟩
  | none :: a, some _ :: b, _, _, h, _ => by cases h
  | some t :: a, some u :: b, i, v, h, e => by
    have h : (subT p t u && subEn p a b) = true := h
    rw [Bool.and_eq_true] at h
    cases i with
    | zero =>
      cases e
      exact ⟨t, rfl, h.1⟩
    | succ i =>
      obtain ⟨t, h1, h2⟩ := subEn_at h.2 (by simpa using e)
      exact ⟨t, by simpa using h1, h2⟩
  | x :: _, [], _, _, h, _ => by cases x <;> cases h
/-- nothing but an own list is below one -/
theorem sub_own (n : Nat) {t' : Ty2} {a b : Nat} (h : sub p n u (.own t' a b) = true) : u = .bot ∨ ∃ k, u = .nm k := by
  cases n with
  | zero => cases h
  | succ n =>
    unfold Ev.sub at h
    split at h <;> first
      | exact .inl rfl
      | (rename_i q; cases q; done)
      | (rename_i q _; cases q; done)
      | exact .inr ⟨_, rfl⟩
      | (cases h; done)
      | skip
theorem sub_ownF : ∀ (n : Nat) {u t' : Ty2} {a b : Nat} {d : D} (hX : PrOk p), sub p n u (.own t' a b) = true → HasTy p W u d → False := fun n {u t' a b d} hX h ht => by
  have := sub_ok hX n h ht
  simp only [HasTy] at this
include hX in
theorem EnvOk.sub (h : EnvOk p W S G env) (hs : subEn p G G1 = true) : EnvOk p W S G1 env ∧ ∀ j, Own G1 env j → Own G env j := by
  have key : ∀ (i : Nat) (u : Ty2), G1[i]? = some (some u) → isOwn u = true → ∃ t, G[i]? = some (some t) ∧ isOwn t = true := fun i u e ho => by
    obtain ⟨t, h1, h2⟩ := subEn_at hs e
    refine ⟨t, h1, ?_⟩
    obtain ⟨d, _, k2⟩ := h.at_ i t h1
    have k3 := Val.sub hX k2 h2
    by_cases hot : isOwn t = true
    · exact hot
    · exfalso
      have hot : isOwn t = false := by simpa using hot
      have k4 := k2.has hot
      cases u <;> first
        | (cases ho; done)
        | skip
      unfold subT at h2
      split at h2
      · cases hot
      · exact sub_ownF FT hX h2 k4
  refine ⟨⟨by rw [h.len]; exact subEn_len hs, fun i u e => ?_, fun i k t u d e1 o1 e2 o2 e3 e4 => ?_⟩, fun j ⟨i, u, e1, o1, e2⟩ => ?_⟩
  · obtain ⟨t, h1, h2⟩ := subEn_at hs e
    obtain ⟨d, k1, k2⟩ := h.at_ i t h1
    exact ⟨d, k1, Val.sub hX k2 h2⟩
  · obtain ⟨t', f1, f2⟩ := key i t e1 o1
    obtain ⟨u', g1, g2⟩ := key k u e2 o2
    exact h.uniq i k t' u' d f1 f2 g1 g2 e3 e4
  · obtain ⟨t', f1, f2⟩ := key i u e1 o1
    exact ⟨i, t', f1, f2, e2⟩
theorem joinEn_ok (h : joinEn p G G1 = some G2) : subEn p G G2 = true ∧ subEn p G1 G2 = true := by
  unfold joinEn at h
  split at h
  · dsimp only at h
    split at h
    · cases h; assumption
    · cases h
  · cases h
end
end Ev
namespace Ev
open PySem PySem.Spec PyProof.Rows
/-! ### to have a thing worked out before it is used -/
def fNat {α : Type} (n : Nat) (k : Nat → α) : α := match n with
  | 0 => k 0
  | m + 1 => k (m + 1)
def fInt {α : Type} (i : Int) (k : Int → α) : α := match i with
  | .ofNat n => fNat n fun n => k (.ofNat n)
  | .negSucc n => fNat n fun n => k (.negSucc n)
def fBl {α : Type} (b : Bool) (k : Bool → α) : α := match b with
  | true => k true
  | false => k false
mutual
def fTy {α : Type} : Ty2 → (Ty2 → α) → α
  | .int lo hi, k => fInt lo fun lo => fInt hi fun hi => k (.int lo hi)
  | .tup ts, k => fTys ts fun ts => k (.tup ts)
  | .seq t lo hi, k => fTy t fun t => fNat lo fun lo => fNat hi fun hi => k (.seq t lo hi)
  | .lst t lo hi, k => fTy t fun t => fNat lo fun lo => fNat hi fun hi => k (.lst t lo hi)
  | .own t lo hi, k => fTy t fun t => fNat lo fun lo => fNat hi fun hi => k (.own t lo hi)
  | .str lo hi, k => fNat lo fun lo => fNat hi fun hi => k (.str lo hi)
  | .scr lo hi, k => fNat lo fun lo => fNat hi fun hi => k (.scr lo hi)
  | .bc b, k => fBl b fun b => k (.bc b)
  | .nm n, k => fNat n fun n => k (.nm n)
  | .fnc n, k => fNat n fun n => k (.fnc n)
  | .bot, k => k .bot
  | .intA, k => k .intA
  | .bl, k => k .bl
  | .non, k => k .non
  | .dk, k => k .dk
  | .txt, k => k .txt
def fTys {α : Type} : List Ty2 → (List Ty2 → α) → α
  | [], k => k []
  | t :: ts, k => fTy t fun t => fTys ts fun ts => k (t :: ts)
end
def fEn {α : Type} : En → (En → α) → α
  | [], k => k []
  | none :: G, k => fEn G fun G => k (none :: G)
  | some t :: G, k => fTy t fun t => fEn G fun G => k (some t :: G)
theorem fNat_eq {α : Type} (n : Nat) (k : Nat → α) : fNat n k = k n := by cases n <;> rfl
theorem fInt_eq {α : Type} (i : Int) (k : Int → α) : fInt i k = k i := by
  cases i with
  | ofNat n => exact fNat_eq n fun n => k (.ofNat n)
  | negSucc n => exact fNat_eq n fun n => k (.negSucc n)
theorem fBl_eq {α : Type} (b : Bool) (k : Bool → α) : fBl b k = k b := by cases b <;> rfl
mutual
theorem fTy_eq {α : Type} : ∀ (t : Ty2) (k : Ty2 → α), fTy t k = k t
  | .int _ _, _ => by rw [fTy, fInt_eq, fInt_eq]
  | .tup ts, _ => by rw [fTy, fTys_eq]
  | .seq t _ _, _ => by rw [fTy, fTy_eq t, fNat_eq, fNat_eq]
  | .lst t _ _, _ => by rw [fTy, fTy_eq t, fNat_eq, fNat_eq]
  | .own t _ _, _ => by rw [fTy, fTy_eq t, fNat_eq, fNat_eq]
  | .str _ _, _ => by rw [fTy, fNat_eq, fNat_eq]
  | .scr _ _, _ => by rw [fTy, fNat_eq, fNat_eq]
  | .bc _, _ => by rw [fTy, fBl_eq]
  | .nm _, _ => by rw [fTy, fNat_eq]
  | .fnc _, _ => by rw [fTy, fNat_eq]
  | .bot, _ => by rw [fTy]
  | .intA, _ => by rw [fTy]
  | .bl, _ => by rw [fTy]
  | .non, _ => by rw [fTy]
  | .dk, _ => by rw [fTy]
  | .txt, _ => by rw [fTy]
theorem fTys_eq {α : Type} : ∀ (ts : List Ty2) (k : List Ty2 → α), fTys ts k = k ts
  | [], _ => by rw [fTys]
  | t :: ts, _ => by rw [fTys, fTy_eq t, fTys_eq ts]
end
theorem fEn_eq {α : Type} : ∀ (G : En) (k : En → α), fEn G k = k G
  | [], _ => by rw [fEn]
  | none :: G, _ => by rw [fEn, fEn_eq G]
  | some t :: G, _ => by rw [fEn, fTy_eq, fEn_eq G]
/-! ### what an expression answers -/
structure Rx where
  ty : Ty2
  pv : Option Nat
  G : En
  c : Nat
  tG : Option En
  fG : Option En
def mkR (t : Ty2) (pv : Option Nat) (G : En) (c : Nat) : Rx := ⟨t, pv, G, c, if t matches .bc false then none else some G, if t matches .bc true then none else some G⟩
def PvOk (n : Nat) (G : En) (env : Fr) (t : Ty2) (pv : Option Nat) (d : D) : Prop := isOwn t = true → match pv with
  | some i => G[i]? = some (some t) ∧ env[i]? = some (some d)
  | none => ∃ j : Nat, d = .ref j ∧ n ≤ j
def OkX (p : Prm) (res : Res D) (W : Wl) (S : Store) (t : Nat) (G : En) (env : Fr) (r : Rx) : Prop :=
  ∃ d S' W' t', res = .ok d S' ∧ Go p W S t (Own G env) W' S' t' r.c ∧ EnvOk p W' S' r.G env ∧ (∀ j, Own r.G env j → Own G env j) ∧ Val p W' S' r.ty d ∧ PvOk S.length r.G env r.ty r.pv d ∧
    ∀ b, d = .bl b → ∃ G', (if b = true then r.tG else r.fG) = some G' ∧ EnvOk p W' S' G' env ∧ ∀ j, Own G' env j → Own G env j
def frz (r : Rx) : Ty2 × En := match r.ty with
  | .own t a b => (.lst t a b, match r.pv with
    | some i => r.G.set i (some (.lst t a b))
    | none => r.G)
  | t => (t, r.G)
def OkF (p : Prm) (res : Res D) (W : Wl) (S : Store) (t : Nat) (G : En) (env : Fr) (u : Ty2) (G' : En) (c : Nat) : Prop :=
  ∃ d S' W' t', res = .ok d S' ∧ Go p W S t (Own G env) W' S' t' c ∧ EnvOk p W' S' G' env ∧ (∀ j, Own G' env j → Own G env j) ∧ HasTy p W' u d
section
variable {p : Prm} {W W1 W2 : Wl} {S S1 S2 : Store} {t t1 t2 c c1 c2 : Nat} {O O1 O2 : Nat → Prop} {G G1 G2 : En} {env : Fr} {u v : Ty2} {d : D} {res : Res D} {r : Rx}
theorem EnvOk.own_lt (h : EnvOk p W S G env) (w : WF p t W S) {j : Nat} (o : Own G env j) : j < S.length := Go.lt w (h.ow o)
/-- one own cell is closed -/
theorem freeze {j : Nat} {ds : List D} (w : WF p t W S) (h1 : W[j]? = some .ow) (h2 : S[j]? = some (.lst ds)) : Go p W S t (fun k => k = j) (W.set j (.fz ds)) S t 0 := by
  have hl : j < W.length := (List.getElem?_eq_some_iff.mp h1).1
  have ne : ∀ {i : Nat}, i ≠ j → (W.set j (.fz ds))[i]? = W[i]? := fun h => List.getElem?_set_ne (fun e => h e.symm)
  have eq : (W.set j (.fz ds))[j]? = some (.fz ds) := by rw [List.getElem?_set_self hl]
  refine ⟨fun i k e hk => ?_, ⟨by rw [List.length_set]; exact w.len, fun i es e => ?_, fun i es e => ?_, fun i e => ?_, fun i e => ?_⟩, Nat.le_refl _, Nat.le_refl _, fun i e => ⟨rfl, ?_⟩, Nat.le_refl _⟩
  · by_cases hi : i = j
    · subst hi
      rw [h1] at e
      cases e
      exact absurd rfl hk
    · rw [ne hi]; exact e
  · by_cases hi : i = j
    · subst hi
      rw [eq] at e
      cases e
      exact h2
    · rw [ne hi] at e
      exact w.fz i es e
  · by_cases hi : i = j
    · subst hi
      rw [eq] at e
      cases e
    · rw [ne hi] at e
      exact w.sc i es e
  · by_cases hi : i = j
    · subst hi
      rw [eq] at e
      cases e
    · rw [ne hi] at e
      exact w.dk i e
  · by_cases hi : i = j
    · subst hi
      exact ⟨ds, h2⟩
    · rw [ne hi] at e
      exact w.ow i e
  · by_cases hi : i = j
    · subst hi
      exact .inr ⟨rfl, ds, eq⟩
    · rw [ne hi]
      exact .inl e
theorem Val.go2 (h : Val p W S u d) (a : Go p W S t O W1 S1 t1 c) (hn : isOwn u = true → ∀ j, d = .ref j → ¬ O j) : Val p W1 S1 u d := by
  by_cases ho : isOwn u = true
  · cases u <;> first
      | (cases ho; done)
      | skip
    obtain ⟨j, ds, e, q1, q2, r1, r2, r3⟩ := h
    obtain ⟨z1, z2⟩ := a.fr j q1
    rcases z2 with z2 | ⟨z2, _⟩
    · exact ⟨j, ds, e, z2, by rw [z1]; exact q2, r1, r2, fun x hx => (r3 x hx).mono a.ext⟩
    · exact (hn rfl j e z2).elim
  · have ho : isOwn u = false := by simpa using ho
    exact Val.of ((h.has ho).mono a.ext)
theorem OkX.frz (w : WF p t W S) (en0 : EnvOk p W S G env) (h : OkX p res W S t G env r) : OkF p res W S t G env (Ev.frz r).1 (Ev.frz r).2 r.c := by
  obtain ⟨d, S1, W1, t1, e, go, en, ow, va, pv, _⟩ := h
  unfold Ev.frz
  split
  · rename_i u a b q
    rw [q] at va pv
    obtain ⟨j, ds, rfl, q1, q2, l1, l2, l3⟩ := va
    have pv := pv rfl
    have gf := freeze go.wf q1 q2
    have hl : j < W1.length := (List.getElem?_eq_some_iff.mp q1).1
    have hj : (W1.set j (.fz ds))[j]? = some (.fz ds) := by rw [List.getElem?_set_self hl]
    have oj : j < S.length → Own G env j := fun hlt => by
      cases qp : r.pv with
      | none =>
        rw [qp] at pv
        obtain ⟨j', e', hge⟩ := pv
        cases e'
        omega
      | some i =>
        rw [qp] at pv
        exact ow j ⟨i, _, pv.1, rfl, pv.2⟩
    have go2 : Go p W S t (Own G env) (W1.set j (.fz ds)) S1 t1 (r.c + 0) := go.trans gf (fun k hk hlt => by subst hk; exact oj hlt) w
    have hty : HasTy p (W1.set j (.fz ds)) (.lst u a b) (.ref j) := by
      simp only [HasTy]
      exact ⟨j, ds, rfl, hj, l1, l2, fun x hx => (l3 x hx).mono gf.ext⟩
    refine ⟨_, S1, _, t1, e, go2, ?_, ?_, hty⟩
    · cases qp : r.pv with
      | none =>
        rw [qp] at pv
        obtain ⟨j', e', hge⟩ := pv
        cases e'
        dsimp only
        refine ⟨en.len, fun i t ei => ?_, en.uniq⟩
        obtain ⟨x, h1, h2⟩ := en.at_ i t ei
        refine ⟨x, h1, h2.go2 gf fun ho k hk hkj => ?_⟩
        subst hk
        subst hkj
        have := en0.own_lt w (ow k ⟨i, t, ei, ho, h1⟩)
        omega
      | some i =>
        rw [qp] at pv
        dsimp only
        refine ⟨by rw [List.length_set]; exact en.len, fun k t ek => ?_, fun k l t u' x e1 o1 e2 o2 e3 e4 => ?_⟩
        · by_cases hk : k = i
          · subst hk
            have hlt : k < r.G.length := (List.getElem?_eq_some_iff.mp pv.1).1
            rw [List.getElem?_set_self hlt] at ek
            cases ek
            exact ⟨_, pv.2, Val.of hty⟩
          · rw [List.getElem?_set_ne (fun z => hk z.symm)] at ek
            obtain ⟨x, h1, h2⟩ := en.at_ k t ek
            refine ⟨x, h1, h2.go2 gf fun ho m hm hmj => ?_⟩
            subst hm
            subst hmj
            exact hk (en.uniq k i t _ _ ek ho pv.1 rfl h1 pv.2)
        · have hk : k ≠ i := fun z => by
            subst z
            have hlt : k < r.G.length := (List.getElem?_eq_some_iff.mp pv.1).1
            rw [List.getElem?_set_self hlt] at e1
            cases e1
            cases o1
          have hl : l ≠ i := fun z => by
            subst z
            have hlt : l < r.G.length := (List.getElem?_eq_some_iff.mp pv.1).1
            rw [List.getElem?_set_self hlt] at e2
            cases e2
            cases o2
          rw [List.getElem?_set_ne (fun z => hk z.symm)] at e1
          rw [List.getElem?_set_ne (fun z => hl z.symm)] at e2
          exact en.uniq k l t u' x e1 o1 e2 o2 e3 e4
    · cases qp : r.pv with
      | none => exact ow
      | some i =>
        dsimp only
        rw [qp] at pv
        intro k ⟨l, t, e1, o1, e2⟩
        have hl : l ≠ i := fun z => by
          subst z
          have hlt : l < r.G.length := (List.getElem?_eq_some_iff.mp pv.1).1
          rw [List.getElem?_set_self hlt] at e1
          cases e1
          cases o1
        rw [List.getElem?_set_ne (fun z => hl z.symm)] at e1
        exact ow k ⟨l, t, e1, o1, e2⟩
  · rename_i n1
    have ho : isOwn r.ty = false := by
      cases q : r.ty <;> first
        | rfl
        | exact (n1 _ _ _ q).elim
    exact ⟨d, S1, W1, t1, e, go, en, ow, va.has ho⟩
/-- a value that is looked at later -/
def Lv (p : Prm) (W : Wl) (S : Store) (u : Ty2) (d : D) : Prop := match u with
  | .own t lo hi => ∃ j ds, d = .ref j ∧ (W[j]? = some .ow ∨ W[j]? = some (.fz ds)) ∧ S[j]? = some (.lst ds) ∧ lo ≤ ds.length ∧ ds.length ≤ hi ∧ ∀ x ∈ ds, HasTy p W t x
  | t => HasTy p W t d
theorem Val.lv (h : Val p W S u d) : Lv p W S u d := by
  cases u <;> try exact h
  obtain ⟨j, ds, e, q1, r⟩ := h
  exact ⟨j, ds, e, .inl q1, r⟩
theorem Lv.pv (h : Lv p W S u d) (w : WF p t W S) : PV p W S u d := by
  cases u <;> try exact PV.of w h
  obtain ⟨j, ds, e, q1, r⟩ := h
  exact ⟨j, ds, e, r⟩
theorem Lv.go (h : Lv p W S u d) (w : WF p t W S) (a : Go p W S t O W1 S1 t1 c) : Lv p W1 S1 u d := by
  cases u <;> try exact HasTy.mono a.ext h
  obtain ⟨j, ds, e, q1, q2, r1, r2, r3⟩ := h
  have hs : S1[j]? = some (.lst ds) := by
    rcases q1 with q1 | q1
    · rw [(a.fr j q1).1]; exact q2
    · exact a.wf.fz j ds (a.ext j _ q1 fun z => nomatch z)
  refine ⟨j, ds, e, ?_, hs, r1, r2, fun x hx => (r3 x hx).mono a.ext⟩
  rcases q1 with q1 | q1
  · rcases (a.fr j q1).2 with z | ⟨_, ds', z⟩
    · exact .inl z
    · have := a.wf.fz j ds' z
      rw [hs] at this
      cases this
      exact .inr z
  · exact .inr (a.ext j _ q1 fun z => nomatch z)
/-- a new list -/
theorem go_alloc {ds : List D} (w : WF p t W S) : Go p W S t (fun _ => False) (W ++ [.ow]) (S ++ [.lst ds]) t 0 := by
  have old : ∀ {i : Nat}, i < S.length → (W ++ [.ow])[i]? = W[i]? ∧ (S ++ [.lst ds])[i]? = S[i]? := fun {i} h => ⟨by rw [List.getElem?_append_left (by rw [w.len]; exact h)], by rw [List.getElem?_append_left h]⟩
  have lt : ∀ {i : Nat} {k : Kd}, W[i]? = some k → i < S.length := fun h => by
    rw [← w.len]
    exact (List.getElem?_eq_some_iff.mp h).1
  have new : ∀ {i : Nat} {k : Kd}, (W ++ [.ow])[i]? = some k → (W[i]? = some k ∧ i < S.length) ∨ (i = S.length ∧ k = .ow) := fun {i k} h => by
    by_cases hi : i < S.length
    · rw [(old hi).1] at h
      exact .inl ⟨h, hi⟩
    · rw [List.getElem?_append_right (by rw [w.len]; omega)] at h
      have hl := (List.getElem?_eq_some_iff.mp h).1
      rw [List.length_singleton, w.len] at hl
      have : i = S.length := by omega
      subst this
      rw [w.len, Nat.sub_self] at h
      cases h
      exact .inr ⟨rfl, rfl⟩
  refine ⟨fun i k e hk => by rw [(old (lt e)).1]; exact e, ⟨by simp [w.len], fun i es e => ?_, fun i es e => ?_, fun i e => ?_, fun i e => ?_⟩, Nat.le_refl _, Nat.le_refl _, fun i e => ⟨(old (lt e)).2, .inl (by rw [(old (lt e)).1]; exact e)⟩, by simp⟩
  · rcases new e with ⟨h1, h2⟩ | ⟨_, h2⟩
    · rw [(old h2).2]; exact w.fz i es h1
    · cases h2
  · rcases new e with ⟨h1, h2⟩ | ⟨_, h2⟩
    · rw [(old h2).2]; exact w.sc i es h1
    · cases h2
  · rcases new e with ⟨h1, h2⟩ | ⟨_, h2⟩
    · rw [(old h2).2]; exact w.dk i h1
    · cases h2
  · rcases new e with ⟨h1, h2⟩ | ⟨h1, _⟩
    · rw [(old h2).2]; exact w.ow i h1
    · subst h1
      exact ⟨ds, by simp⟩
theorem OkX.val (w : WF p t W S) (go : Go p W S t (Own G env) W1 S1 t1 c) (en : EnvOk p W1 S1 G1 env) (ow : ∀ j, Own G1 env j → Own G env j) (h : HasTy p W1 u d) (e : res = .ok d S1) : OkX p res W S t G env (mkR u none G1 c) := by
  refine ⟨d, S1, W1, t1, e, go, en, ow, Val.of h, fun ho => ?_, fun b hb => ?_⟩
  · unfold mkR at ho
    cases u <;> first
      | (cases ho; done)
      | (simp only [HasTy] at h; done)
  · subst hb
    cases b with
    | true =>
      refine ⟨G1, ?_, en, ow⟩
      unfold mkR
      rw [if_pos rfl]
      dsimp only
      split
      · simp only [HasTy] at h
        cases h
      · rfl
    | false =>
      refine ⟨G1, ?_, en, ow⟩
      unfold mkR
      rw [if_neg Bool.false_ne_true]
      dsimp only
      split
      · simp only [HasTy] at h
        cases h
      · rfl
theorem OkX.tr (w : WF p t W S) (go : Go p W S t (Own G env) W1 S1 t1 c) (en : EnvOk p W1 S1 G1 env) (ow : ∀ j, Own G1 env j → Own G env j) (h : TR p W1 S1 res u) : OkX p res W S t G env (mkR u none G1 c) := by
  obtain ⟨d, S2, e, h⟩ := h
  rcases h with ⟨rfl, h⟩ | ⟨v, lo, hi, ds, rfl, rfl, rfl, l1, l2, l3⟩
  · exact OkX.val w go en ow h e
  · have ga := go_alloc (ds := ds) go.wf
    refine ⟨_, _, _, t1, e, go.trans ga (fun _ z => z.elim) w, en.go ga, ow, ?_, fun _ => ⟨_, rfl, go.grow⟩, fun b hb => nomatch hb⟩
    refine ⟨_, ds, rfl, ?_, by simp, l1, l2, fun x hx => (l3 x hx).mono ga.ext⟩
    rw [← go.wf.len]
    simp
/-- the first of two -/
theorem OkX.bind {m : M D} {f : D → M D} {r2 : Rx} (w : WF p t W S) (h : OkX p (m S) W S t G env r)
    (k : ∀ d S1 W1 t1, Go p W S t (Own G env) W1 S1 t1 r.c → EnvOk p W1 S1 r.G env → (∀ j, Own r.G env j → Own G env j) → Val p W1 S1 r.ty d → PvOk S.length r.G env r.ty r.pv d →
      (∀ b, d = .bl b → ∃ G', (if b = true then r.tG else r.fG) = some G' ∧ EnvOk p W1 S1 G' env ∧ ∀ j, Own G' env j → Own G env j) → OkX p (f d S1) W S t G env r2) : OkX p ((m >>= f) S) W S t G env r2 := by
  obtain ⟨d, S1, W1, t1, e, a1, a2, a3, a4, a5, a6⟩ := h
  have : (m >>= f) S = f d S1 := by
    show M.bnd m f S = _
    unfold M.bnd
    rw [e]
  rw [this]
  exact k d S1 W1 t1 a1 a2 a3 a4 a5 a6
/-- what follows, seen from the start -/
theorem OkX.from (w : WF p t W S) (go : Go p W S t (Own G env) W1 S1 t1 c) (ow : ∀ j, Own G1 env j → Own G env j) (h : OkX p res W1 S1 t1 G1 env r) : OkX p res W S t G env { r with c := c + r.c } := by
  obtain ⟨d, S2, W2, t2, e, a1, a2, a3, a4, a5, a6⟩ := h
  refine ⟨d, S2, W2, t2, e, go.trans a1 (fun j z _ => ow j z) w, a2, fun j z => ow j (a3 j z), a4, fun ho => ?_, fun b hb => ?_⟩
  · have q := a5 ho
    dsimp only at q ⊢
    cases qp : r.pv with
    | none =>
      rw [qp] at q
      obtain ⟨j, e1, e2⟩ := q
      exact ⟨j, e1, Nat.le_trans go.grow e2⟩
    | some i =>
      rw [qp] at q
      exact q
  · obtain ⟨G', q1, q2, q3⟩ := a6 b hb
    exact ⟨G', q1, q2, fun j z => ow j (q3 j z)⟩
end
end Ev
namespace Ev
open PySem PySem.Spec PyProof.Rows
/-! ### the interpreter of expressions -/
/-- signatures, so deep -/
structure Sg where
  s : Nat → List Ty2 → Option (Ty2 × Nat)
  n : Nat
instance : CoeFun Sg (fun _ => Nat → List Ty2 → Option (Ty2 × Nat)) := ⟨Sg.s⟩
def TM : Nat := 2 ^ 60
mutual
def litT : D → Option Ty2
  | .int i => some (.int i i)
  | .bl b => some (.bc b)
  | .non => some .non
  | .str x => if PyData.strOk x = true then some (.str x.length x.length) else none
  | .tup ds => (litTs ds).map .tup
  | _ => none
def litTs : List D → Option (List Ty2)
  | [] => some []
  | d :: ds => match litT d, litTs ds with
    | some t, some ts => some (t :: ts)
    | _, _ => none
end
def isBl : Ty2 → Bool
  | .bl => true
  | .bc _ => true
  | _ => false
def joinO (p : Prm) : Option En → Option En → Option (Option En)
  | none, x => some x
  | some a, none => some (some a)
  | some a, some b => (joinEn p a b).map some
/-- a truth, by what is known if it holds and if not -/
def mkC (p : Prm) (a b : Option En) (c : Nat) : Option Rx := match joinO p a b with
  | some (some g) => some ⟨match a, b with
    | some _, none => .bc true
    | none, some _ => .bc false
    | _, _ => .bl, none, g, c, a, b⟩
  | _ => none
def andX (p : Prm) (r1 : Rx) (k : En → Option Rx) : Option Rx := if isBl r1.ty = true then (match r1.tG with
  | none => mkC p none r1.fG r1.c
  | some g1 => match k g1 with
    | some r2 => if isBl r2.ty = true then (match joinO p r1.fG r2.fG with
      | some f => mkC p r2.tG f (r1.c + r2.c)
      | none => none) else none
    | none => none) else none
def orX (p : Prm) (r1 : Rx) (k : En → Option Rx) : Option Rx := if isBl r1.ty = true then (match r1.fG with
  | none => mkC p r1.tG none r1.c
  | some g1 => match k g1 with
    | some r2 => if isBl r2.ty = true then (match joinO p r1.tG r2.tG with
      | some f => mkC p f r2.fG (r1.c + r2.c)
      | none => none) else none
    | none => none) else none
def notX (p : Prm) (r1 : Rx) : Option Rx := if isBl r1.ty = true then mkC p r1.fG r1.tG r1.c else none
def frR (r : Rx) (c : Nat) : Rx := mkR (frz r).1 none (frz r).2 (c + r.c)
def ifeX (p : Prm) (r1 : Rx) (ka kb : En → Option Rx) : Option Rx := if isBl r1.ty = true then (match r1.tG, r1.fG with
  | some g, none => (ka g).map fun r => frR r r1.c
  | none, some g => (kb g).map fun r => frR r r1.c
  | some g1, some g2 => match ka g1, kb g2 with
    | some ra, some rb => match join p (frz ra).1 (frz rb).1, joinEn p (frz ra).2 (frz rb).2 with
      | some t, some g => some (mkR t none g (r1.c + max ra.c rb.c))
      | _, _ => none
    | _, _ => none
  | none, none => none) else none
/-- what is walked: the items' type, how many -/
def itsT (p : Prm) (k : IK) (ts : List Ty2) : Option (Ty2 × Nat × Nat) := match k, ts with
  | .seq, [t] => itT p t
  | .rng1, [t] => match asInt p t with
    | some (a, b) => if -(2 ^ 62) ≤ a ∧ b < 2 ^ 62 then some (.int 0 (b - 1), a.toNat, b.toNat) else none
    | none => none
  | .rng2, [t, u] => match asInt p t, asInt p u with
    | some (a, b), some (c, d) => if -(2 ^ 62) ≤ a ∧ b < 2 ^ 62 ∧ -(2 ^ 62) ≤ c ∧ d < 2 ^ 62 then some (.int a (d - 1), (c - b).toNat, (d - a).toNat) else none
    | _, _ => none
  | .enum, [t] => match asLr t with
    | some (t, a, b) => some (.tup [.int 0 (b - 1), t], a, b)
    | none => none
  | .zip, [t, u] => match asLr t, asLr u with
    | some (t, a, b), some (u, c, d) => some (.tup [t, u], min a c, min b d)
    | none, none => match asSeq p t, asSeq p u with
      | some (t, a, b), some (u, c, d) => some (.tup [t, u], min a c, min b d)
      | _, _ => none
    | _, _ => none
  | _, _ => none
mutual
def putT (p : Prm) : T → Ty2 → En → Option En
  | .nm i, t, G => if i < G.length then some (G.set i (some t)) else none
  | .tup ts, t, G => match expT p t with
    | .tup us => putTs p ts us G
    | .seq u a b => if a = b ∧ a = ts.length then putTs p ts (List.replicate a u) G else none
    | _ => none
def putTs (p : Prm) : List T → List Ty2 → En → Option En
  | [], [], G => some G
  | t :: ts, u :: us, G => match putT p t u G with
    | some G => putTs p ts us G
    | none => none
  | _, _, _ => none
end
def dropOwn (G : En) : En := G.map fun x => match x with
  | some t => if isOwn t = true then none else some t
  | none => none
def wipeEn : En → List Nat → En
  | G, [] => G
  | G, i :: is => (wipeEn G is).set i none
/-- x o k for a variable: what is then known of it -/
def refT (o : Cop) (x y k : Int) : Option Ty2 := match o with
  | .eq => if x ≤ k ∧ k ≤ y then some (.int k k) else none
  | .ne => if x = k ∧ y = k then none else if x = k then some (.int (k + 1) y) else if y = k then some (.int x (k - 1)) else some (.int x y)
  | .lt => if x < k then some (.int x (min y (k - 1))) else none
  | .le => if x ≤ k then some (.int x (min y k)) else none
  | .gt => if k < y then some (.int (max x (k + 1)) y) else none
  | .ge => if k ≤ y then some (.int (max x k) y) else none
  | _ => some (.int x y)
def negC : Cop → Cop
  | .eq => .ne | .ne => .eq | .lt => .ge | .le => .gt | .gt => .le | .ge => .lt | o => o
def isOrd : Cop → Bool
  | .eq => true | .ne => true | .lt => true | .le => true | .gt => true | .ge => true | _ => false
def refX (o : Cop) (a b : E) (r : Rx) : Rx := match a, b with
  | .var i, .int k => match r.G[i]? with
    | some (some (.int x y)) => if isOrd o = true then { r with tG := (refT o x y k).map fun t => r.G.set i (some t), fG := (refT (negC o) x y k).map fun t => r.G.set i (some t) } else r
    | _ => r
  | _, _ => r
/-- a comprehension -/
def lcX (p : Prm) (own : List Nat) (tg : T) (k : IK) (args : Option (List Ty2 × En × Nat)) (fI : En → Option (Option En × Nat × Bool)) (fE : En → Option Rx) : Option Rx := match args with
  | some (ts, G1, c) => match itsT p k ts with
    | some (t, a, b) => match putT p tg t (wipeEn (dropOwn G1) own) with
      | some G2 => match fI G2 with
        | some (some G3, c2, all) => match fE G3 with
          | some r => if b ≤ LINE then some (mkR (.own (frz r).1 (if all = true then a else 0) b) none G1 (c + b * (c2 + r.c))) else none
          | none => none
        | some (none, c2, _) => if b ≤ LINE then some (mkR (.own .bot 0 0) none G1 (c + b * c2)) else none
        | none => none
      | none => none
    | none => none
  | none => none
/-- xs[draw(deck, len(xs))] -/
def drX (p : Prm) (G : En) (a i : E) : Option Ty2 := match a, i with
  | .var v, .call f es => match es with
    | [.var k, .blt .len ws] => match ws with
      | [.var v'] => if v = v' ∧ f ∈ p.dr then (match G[v]?, G[k]? with
        | some (some t), some (some .dk) => match itT p t with
          | some (u, a, b) => if 1 ≤ a ∧ b ≤ 10 ^ 9 then some u else none
          | none => none
        | _, _ => none) else none
      | _ => none
    | _ => none
  | _, _ => none
/-- is it an empty list, an empty tuple? -/
def emptyE : E → Option Bool
  | .lst es => if es.isEmpty = true then some true else none
  | .tup es => if es.isEmpty = true then some false else none
  | _ => none
/-- with an item at the least | with none -/
def some1 : Ty2 → Option Ty2
  | .own t a b => if b = 0 then none else some (.own t (max a 1) b)
  | .lst t a b => if b = 0 then none else some (.lst t (max a 1) b)
  | .seq t a b => if b = 0 then none else some (.seq t (max a 1) b)
  | t => some t
def none0 : Ty2 → Option Ty2
  | .own t a b => if a = 0 then some (.own t 0 0) else none
  | .lst t a b => if a = 0 then some (.lst t 0 0) else none
  | .seq t a b => if a = 0 then some (.seq t 0 0) else none
  | t => some t
def kindL : Ty2 → Option Bool
  | .own _ _ _ => some true
  | .lst _ _ _ => some true
  | .seq _ _ _ => some false
  | _ => none
def refE (o : Cop) (a b : E) (r : Rx) : Rx := match a, emptyE b with
  | .var i, some k => match r.G[i]? with
    | some (some t) => if kindL t = some k then (match o with
      | .eq => { r with tG := (none0 t).map fun u => r.G.set i (some u), fG := (some1 t).map fun u => r.G.set i (some u) }
      | .ne => { r with tG := (some1 t).map fun u => r.G.set i (some u), fG := (none0 t).map fun u => r.G.set i (some u) }
      | _ => r) else r
    | _ => r
  | _, _ => r
section
variable (p : Prm) (sg : Sg)
mutual
def inE : E → En → Option Rx
  | .var i, G => match G[i]? with
    | some (some t) => some (mkR t (some i) G 0)
    | _ => none
  | .int i, G => some (mkR (.int i i) none G 0)
  | .str x, G => if PyData.strOk x = true then some (mkR (.str x.length x.length) none G 0) else none
  | .bl b, G => some (mkR (.bc b) none G 0)
  | .non, G => some (mkR .non none G 0)
  | .glob d, G => (litT d).map fun t => mkR t none G 0
  | .fnv i, G => some (mkR (.fnc i) none G 0)
  | .bad, _ => none
  | .tup es, G => match inEs es G with
    | some (ts, G1, c) => if ts.length ≤ LINE then some (mkR (.tup ts) none G1 c) else none
    | none => none
  | .lst es, G => match inEs es G with
    | some (ts, G1, c) => let v := pickL p ts
      if ts.length ≤ LINE ∧ ts.all (fun t => sub p FT t v) = true then some (mkR (.own v ts.length ts.length) none G1 c) else none
    | none => none
  | .bin o a b, G => match inE a G with
    | some r1 => match inE b r1.G with
      | some r2 => match binT p o r1.ty r2.ty with
        | some u => some (mkR u none r2.G (r1.c + r2.c))
        | none => none
      | none => none
    | none => none
  | .neg a, G => match inE a G with
    | some r1 => match negT p r1.ty with
      | some u => some (mkR u none r1.G r1.c)
      | none => none
    | none => none
  | .rev a, G => match inE a G with
    | some r1 => match revT p r1.ty with
      | some u => some (mkR u none r1.G r1.c)
      | none => none
    | none => none
  | .cmp o a b, G => match inE a G with
    | some r1 => match inE b r1.G with
      | some r2 => match tCmp p o r1.ty r2.ty with
        | some u => some (refE o a b (refX o a b (mkR u none r2.G (r1.c + r2.c))))
        | none => none
      | none => none
    | none => none
  | .chain o q a b c, G => match inE a G with
    | some r1 => match inE b r1.G with
      | some r2 => match tCmp p o r1.ty r2.ty, inE c r2.G with
        | some u, some r3 => match tCmp p q r2.ty r3.ty, joinEn p r2.G r3.G with
          | some v, some g => if isBl u = true ∧ isBl v = true then some (mkR .bl none g (r1.c + r2.c + r3.c)) else none
          | _, _ => none
        | _, _ => none
      | none => none
    | none => none
  | .and a b, G => match inE a G with
    | some r1 => andX p r1 fun g => inE b g
    | none => none
  | .or a b, G => match inE a G with
    | some r1 => orX p r1 fun g => inE b g
    | none => none
  | .not a, G => match inE a G with
    | some r1 => notX p r1
    | none => none
  | .ife c a b, G => match inE c G with
    | some r1 => ifeX p r1 (fun g => inE a g) fun g => inE b g
    | none => none
  | .ix a i, G => match inE a G with
    | some r1 => match inE i r1.G with
      | some r2 => match orE (ixT p r1.ty r2.ty) (drX p G a i) with
        | some u => some (mkR u none r2.G (r1.c + r2.c))
        | none => none
      | none => none
    | none => none
  | .slLo a l, G => match inE a G with
    | some r1 => match inE l r1.G with
      | some r2 => match asInt p r2.ty with
        | some q => match slT p r1.ty (some q) none with
          | some u => some (mkR u none r2.G (r1.c + r2.c))
          | none => none
        | none => none
      | none => none
    | none => none
  | .slHi a l, G => match inE a G with
    | some r1 => match inE l r1.G with
      | some r2 => match asInt p r2.ty with
        | some q => match slT p r1.ty none (some q) with
          | some u => some (mkR u none r2.G (r1.c + r2.c))
          | none => none
        | none => none
      | none => none
    | none => none
  | .slLH a l h, G => match inE a G with
    | some r1 => match inE l r1.G with
      | some r2 => match inE h r2.G with
        | some r3 => match asInt p r2.ty, asInt p r3.ty with
          | some q2, some q3 => match slT p r1.ty (some q2) (some q3) with
            | some u => some (mkR u none r3.G (r1.c + r2.c + r3.c))
            | none => none
          | _, _ => none
        | none => none
      | none => none
    | none => none
  | .call f es, G => match inEs es G with
    | some (ts, G1, c) => match fTys ts (fun ts => sg f ts) with
      | some (u, c1) => some (mkR u none G1 (c + c1))
      | none => none
    | none => none
  | .callv i es, G => match G[i]? with
    | some (some (.fnc f)) => match inEs es G with
      | some (ts, G1, c) => match fTys ts (fun ts => sg f ts) with
        | some (u, c1) => some (mkR u none G1 (c + c1))
        | none => none
      | none => none
    | _ => none
  | .blt b es, G => match inPs es G with
    | some (ts, G1, c) => match bltT p b ts with
      | some u => some (mkR u none G1 c)
      | none => none
    | none => none
  | .isi y a, G => match inE a G with
    | some r1 => match isiT p y r1.ty with
      | some u => some (mkR u none r1.G r1.c)
      | none => none
    | none => none
  | .mth _ _ _, _ => none
  | .lc own tg k es ifs elt, G => lcX p own tg k (inPs es G) (fun g => inIf ifs g) fun g => inE elt g
def inEs : List E → En → Option (List Ty2 × En × Nat)
  | [], G => some ([], G, 0)
  | e :: es, G => match inE e G with
    | some r => match inEs es (frz r).2 with
      | some (ts, G1, c) => some ((frz r).1 :: ts, G1, r.c + c)
      | none => none
    | none => none
def inIf : List E → En → Option (Option En × Nat × Bool)
  | [], G => some (some G, 0, true)
  | q :: qs, G => match qs with
    | [] => match inE q G with
      | some r => if isBl r.ty = true then some (r.tG, r.c, false) else none
      | none => none
    | _ :: _ => none
def inPs : List E → En → Option (List Ty2 × En × Nat)
  | [], G => some ([], G, 0)
  | e :: es, G => match inE e G with
    | some r => match inPs es r.G with
      | some (ts, G1, c) => some (r.ty :: ts, G1, r.c + c)
      | none => none
    | none => none
end
end
end Ev
namespace Ev
open PySem PySem.Spec PyProof.Rows
/-! ### equality of expressions (this text is printed by a program) -/
mutual
def eqD : D → D → Bool
  | .non, .non => true
  | .bl a0, .bl b0 => decide (a0 = b0)
  | .int a0, .int b0 => decide (a0 = b0)
  | .str a0, .str b0 => decide (a0 = b0)
  | .tup a0, .tup b0 => eqDs a0 b0
  | .ref a0, .ref b0 => decide (a0 = b0)
  | .fn a0, .fn b0 => decide (a0 = b0)
  | _, _ => false
def eqDs : List D → List D → Bool
  | [], [] => true
  | x :: xs, y :: ys => eqD x y && eqDs xs ys
  | _, _ => false
end
mutual
theorem eqD_ok : ∀ {a b : D}, eqD a b = true → a = b
  | .non, b, h => by
    cases b <;> first
      | (simp [eqD] at h; done)
      | rfl
  | .bl a0, b, h => by
    cases b <;> first
      | (simp [eqD] at h; done)
      | (rw [eqD] at h; have h0 := h; have e0 := of_decide_eq_true h0; subst e0; rfl)
  | .int a0, b, h => by
    cases b <;> first
      | (simp [eqD] at h; done)
      | (rw [eqD] at h; have h0 := h; have e0 := of_decide_eq_true h0; subst e0; rfl)
  | .str a0, b, h => by
    cases b <;> first
      | (simp [eqD] at h; done)
      | (rw [eqD] at h; have h0 := h; have e0 := of_decide_eq_true h0; subst e0; rfl)
  | .tup a0, b, h => by
    cases b <;> first
      | (simp [eqD] at h; done)
      | (rw [eqD] at h; have h0 := h; have e0 := eqDs_ok h0; subst e0; rfl)
  | .ref a0, b, h => by
    cases b <;> first
      | (simp [eqD] at h; done)
      | (rw [eqD] at h; have h0 := h; have e0 := of_decide_eq_true h0; subst e0; rfl)
  | .fn a0, b, h => by
    cases b <;> first
      | (simp [eqD] at h; done)
      | (rw [eqD] at h; have h0 := h; have e0 := of_decide_eq_true h0; subst e0; rfl)
theorem eqDs_ok : ∀ {a b : List D}, eqDs a b = true → a = b
  | [], [], _ => rfl
  | [], _ :: _, h => by simp [eqDs] at h
  | _ :: _, [], h => by simp [eqDs] at h
  | x :: xs, y :: ys, h => by
    rw [eqDs, Bool.and_eq_true] at h
    rw [eqD_ok h.1, eqDs_ok h.2]
end
mutual
def eqT : T → T → Bool
  | .nm a0, .nm b0 => decide (a0 = b0)
  | .tup a0, .tup b0 => eqTs a0 b0
  | _, _ => false
def eqTs : List T → List T → Bool
  | [], [] => true
  | x :: xs, y :: ys => eqT x y && eqTs xs ys
  | _, _ => false
end
mutual
theorem eqT_ok : ∀ {a b : T}, eqT a b = true → a = b
  | .nm a0, b, h => by
    cases b <;> first
      | (simp [eqT] at h; done)
      | (rw [eqT] at h; have h0 := h; have e0 := of_decide_eq_true h0; subst e0; rfl)
  | .tup a0, b, h => by
    cases b <;> first
      | (simp [eqT] at h; done)
      | (rw [eqT] at h; have h0 := h; have e0 := eqTs_ok h0; subst e0; rfl)
theorem eqTs_ok : ∀ {a b : List T}, eqTs a b = true → a = b
  | [], [], _ => rfl
  | [], _ :: _, h => by simp [eqTs] at h
  | _ :: _, [], h => by simp [eqTs] at h
  | x :: xs, y :: ys, h => by
    rw [eqTs, Bool.and_eq_true] at h
    rw [eqT_ok h.1, eqTs_ok h.2]
end
mutual
def eqE : E → E → Bool
  | .var a0, .var b0 => decide (a0 = b0)
  | .int a0, .int b0 => decide (a0 = b0)
  | .str a0, .str b0 => decide (a0 = b0)
  | .bl a0, .bl b0 => decide (a0 = b0)
  | .non, .non => true
  | .tup a0, .tup b0 => eqEs a0 b0
  | .lst a0, .lst b0 => eqEs a0 b0
  | .bin a0 a1 a2, .bin b0 b1 b2 => decide (a0 = b0) && (eqE a1 b1 && (eqE a2 b2))
  | .neg a0, .neg b0 => eqE a0 b0
  | .rev a0, .rev b0 => eqE a0 b0
  | .cmp a0 a1 a2, .cmp b0 b1 b2 => decide (a0 = b0) && (eqE a1 b1 && (eqE a2 b2))
  | .chain a0 a1 a2 a3 a4, .chain b0 b1 b2 b3 b4 => decide (a0 = b0) && (decide (a1 = b1) && (eqE a2 b2 && (eqE a3 b3 && (eqE a4 b4))))
  | .and a0 a1, .and b0 b1 => eqE a0 b0 && (eqE a1 b1)
  | .or a0 a1, .or b0 b1 => eqE a0 b0 && (eqE a1 b1)
  | .not a0, .not b0 => eqE a0 b0
  | .ife a0 a1 a2, .ife b0 b1 b2 => eqE a0 b0 && (eqE a1 b1 && (eqE a2 b2))
  | .ix a0 a1, .ix b0 b1 => eqE a0 b0 && (eqE a1 b1)
  | .slLo a0 a1, .slLo b0 b1 => eqE a0 b0 && (eqE a1 b1)
  | .slHi a0 a1, .slHi b0 b1 => eqE a0 b0 && (eqE a1 b1)
  | .slLH a0 a1 a2, .slLH b0 b1 b2 => eqE a0 b0 && (eqE a1 b1 && (eqE a2 b2))
  | .call a0 a1, .call b0 b1 => decide (a0 = b0) && (eqEs a1 b1)
  | .callv a0 a1, .callv b0 b1 => decide (a0 = b0) && (eqEs a1 b1)
  | .blt a0 a1, .blt b0 b1 => decide (a0 = b0) && (eqEs a1 b1)
  | .isi a0 a1, .isi b0 b1 => decide (a0 = b0) && (eqE a1 b1)
  | .mth a0 a1 a2, .mth b0 b1 b2 => decide (a0 = b0) && (eqE a1 b1 && (eqEs a2 b2))
  | .lc a0 a1 a2 a3 a4 a5, .lc b0 b1 b2 b3 b4 b5 => decide (a0 = b0) && (eqT a1 b1 && (decide (a2 = b2) && (eqEs a3 b3 && (eqEs a4 b4 && (eqE a5 b5)))))
  | .glob a0, .glob b0 => eqD a0 b0
  | .fnv a0, .fnv b0 => decide (a0 = b0)
  | .bad, .bad => true
  | _, _ => false
def eqEs : List E → List E → Bool
  | [], [] => true
  | x :: xs, y :: ys => eqE x y && eqEs xs ys
  | _, _ => false
end
mutual
theorem eqE_ok : ∀ {a b : E}, eqE a b = true → a = b
  | .var a0, b, h => by
    cases b <;> first
      | (simp [eqE] at h; done)
      | (rw [eqE] at h; have h0 := h; have e0 := of_decide_eq_true h0; subst e0; rfl)
  | .int a0, b, h => by
    cases b <;> first
      | (simp [eqE] at h; done)
      | (rw [eqE] at h; have h0 := h; have e0 := of_decide_eq_true h0; subst e0; rfl)
  | .str a0, b, h => by
    cases b <;> first
      | (simp [eqE] at h; done)
      | (rw [eqE] at h; have h0 := h; have e0 := of_decide_eq_true h0; subst e0; rfl)
  | .bl a0, b, h => by
    cases b <;> first
      | (simp [eqE] at h; done)
      | (rw [eqE] at h; have h0 := h; have e0 := of_decide_eq_true h0; subst e0; rfl)
  | .non, b, h => by
    cases b <;> first
      | (simp [eqE] at h; done)
      | rfl
  | .tup a0, b, h => by
    cases b <;> first
      | (simp [eqE] at h; done)
      | (rw [eqE] at h; have h0 := h; have e0 := eqEs_ok h0; subst e0; rfl)
  | .lst a0, b, h => by
    cases b <;> first
      | (simp [eqE] at h; done)
      | (rw [eqE] at h; have h0 := h; have e0 := eqEs_ok h0; subst e0; rfl)
  | .bin a0 a1 a2, b, h => by
    cases b <;> first
      | (simp [eqE] at h; done)
      | (rw [eqE] at h; simp only [Bool.and_eq_true] at h; obtain ⟨h0, h1, h2⟩ := h; have e0 := of_decide_eq_true h0; have e1 := eqE_ok h1; have e2 := eqE_ok h2; subst e0 e1 e2; rfl)
  | .neg a0, b, h => by
    cases b <;> first
      | (simp [eqE] at h; done)
      | (rw [eqE] at h; have h0 := h; have e0 := eqE_ok h0; subst e0; rfl)
  | .rev a0, b, h => by
    cases b <;> first
      | (simp [eqE] at h; done)
      | (rw [eqE] at h; have h0 := h; have e0 := eqE_ok h0; subst e0; rfl)
  | .cmp a0 a1 a2, b, h => by
    cases b <;> first
      | (simp [eqE] at h; done)
      | (rw [eqE] at h; simp only [Bool.and_eq_true] at h; obtain ⟨h0, h1, h2⟩ := h; have e0 := of_decide_eq_true h0; have e1 := eqE_ok h1; have e2 := eqE_ok h2; subst e0 e1 e2; rfl)
  | .chain a0 a1 a2 a3 a4, b, h => by
    cases b <;> first
      | (simp [eqE] at h; done)
      | (rw [eqE] at h; simp only [Bool.and_eq_true] at h; obtain ⟨h0, h1, h2, h3, h4⟩ := h; have e0 := of_decide_eq_true h0; have e1 := of_decide_eq_true h1; have e2 := eqE_ok h2; have e3 := eqE_ok h3; have e4 := eqE_ok h4; subst e0 e1 e2 e3 e4; rfl)
  | .and a0 a1, b, h => by
    cases b <;> first
      | (simp [eqE] at h; done)
      | (rw [eqE] at h; simp only [Bool.and_eq_true] at h; obtain ⟨h0, h1⟩ := h; have e0 := eqE_ok h0; have e1 := eqE_ok h1; subst e0 e1; rfl)
  | .or a0 a1, b, h => by
    cases b <;> first
      | (simp [eqE] at h; done)
      | (rw [eqE] at h; simp only [Bool.and_eq_true] at h; obtain ⟨h0, h1⟩ := h; have e0 := eqE_ok h0; have e1 := eqE_ok h1; subst e0 e1; rfl)
  | .not a0, b, h => by
    cases b <;> first
      | (simp [eqE] at h; done)
      | (rw [eqE] at h; have h0 := h; have e0 := eqE_ok h0; subst e0; rfl)
  | .ife a0 a1 a2, b, h => by
    cases b <;> first
      | (simp [eqE] at h; done)
      | (rw [eqE] at h; simp only [Bool.and_eq_true] at h; obtain ⟨h0, h1, h2⟩ := h; have e0 := eqE_ok h0; have e1 := eqE_ok h1; have e2 := eqE_ok h2; subst e0 e1 e2; rfl)
  | .ix a0 a1, b, h => by
    cases b <;> first
      | (simp [eqE] at h; done)
      | (rw [eqE] at h; simp only [Bool.and_eq_true] at h; obtain ⟨h0, h1⟩ := h; have e0 := eqE_ok h0; have e1 := eqE_ok h1; subst e0 e1; rfl)
  | .slLo a0 a1, b, h => by
    cases b <;> first
      | (simp [eqE] at h; done)
      | (rw [eqE] at h; simp only [Bool.and_eq_true] at h; obtain ⟨h0, h1⟩ := h; have e0 := eqE_ok h0; have e1 := eqE_ok h1; subst e0 e1; rfl)
  | .slHi a0 a1, b, h => by
    cases b <;> first
      | (simp [eqE] at h; done)
      | (rw [eqE] at h; simp only [Bool.and_eq_true] at h; obtain ⟨h0, h1⟩ := h; have e0 := eqE_ok h0; have e1 := eqE_ok h1; subst e0 e1; rfl)
  | .slLH a0 a1 a2, b, h => by
    cases b <;> first
      | (simp [eqE] at h; done)
      | (rw [eqE] at h; simp only [Bool.and_eq_true] at h; obtain ⟨h0, h1, h2⟩ := h; have e0 := eqE_ok h0; have e1 := eqE_ok h1; have e2 := eqE_ok h2; subst e0 e1 e2; rfl)
  | .call a0 a1, b, h => by
    cases b <;> first
      | (simp [eqE] at h; done)
      | (rw [eqE] at h; simp only [Bool.and_eq_true] at h; obtain ⟨h0, h1⟩ := h; have e0 := of_decide_eq_true h0; have e1 := eqEs_ok h1; subst e0 e1; rfl)
  | .callv a0 a1, b, h => by
    cases b <;> first
      | (simp [eqE] at h; done)
      | (rw [eqE] at h; simp only [Bool.and_eq_true] at h; obtain ⟨h0, h1⟩ := h; have e0 := of_decide_eq_true h0; have e1 := eqEs_ok h1; subst e0 e1; rfl)
  | .blt a0 a1, b, h => by
    cases b <;> first
      | (simp [eqE] at h; done)
      | (rw [eqE] at h; simp only [Bool.and_eq_true] at h; obtain ⟨h0, h1⟩ := h; have e0 := of_decide_eq_true h0; have e1 := eqEs_ok h1; subst e0 e1; rfl)
  | .isi a0 a1, b, h => by
    cases b <;> first
      | (simp [eqE] at h; done)
      | (rw [eqE] at h; simp only [Bool.and_eq_true] at h; obtain ⟨h0, h1⟩ := h; have e0 := of_decide_eq_true h0; have e1 := eqE_ok h1; subst e0 e1; rfl)
  | .mth a0 a1 a2, b, h => by
    cases b <;> first
      | (simp [eqE] at h; done)
      | (rw [eqE] at h; simp only [Bool.and_eq_true] at h; obtain ⟨h0, h1, h2⟩ := h; have e0 := of_decide_eq_true h0; have e1 := eqE_ok h1; have e2 := eqEs_ok h2; subst e0 e1 e2; rfl)
  | .lc a0 a1 a2 a3 a4 a5, b, h => by
    cases b <;> first
      | (simp [eqE] at h; done)
      | (rw [eqE] at h; simp only [Bool.and_eq_true] at h; obtain ⟨h0, h1, h2, h3, h4, h5⟩ := h; have e0 := of_decide_eq_true h0; have e1 := eqT_ok h1; have e2 := of_decide_eq_true h2; have e3 := eqEs_ok h3; have e4 := eqEs_ok h4; have e5 := eqE_ok h5; subst e0 e1 e2 e3 e4 e5; rfl)
  | .glob a0, b, h => by
    cases b <;> first
      | (simp [eqE] at h; done)
      | (rw [eqE] at h; have h0 := h; have e0 := eqD_ok h0; subst e0; rfl)
  | .fnv a0, b, h => by
    cases b <;> first
      | (simp [eqE] at h; done)
      | (rw [eqE] at h; have h0 := h; have e0 := of_decide_eq_true h0; subst e0; rfl)
  | .bad, b, h => by
    cases b <;> first
      | (simp [eqE] at h; done)
      | rfl
theorem eqEs_ok : ∀ {a b : List E}, eqEs a b = true → a = b
  | [], [], _ => rfl
  | [], _ :: _, h => by simp [eqEs] at h
  | _ :: _, [], h => by simp [eqEs] at h
  | x :: xs, y :: ys, h => by
    rw [eqEs, Bool.and_eq_true] at h
    rw [eqE_ok h.1, eqEs_ok h.2]
end
mutual
def eqS : St → St → Bool
  | .set a0 a1, .set b0 b1 => decide (a0 = b0) && (eqE a1 b1)
  | .asg a0 a1, .asg b0 b1 => eqT a0 b0 && (eqE a1 b1)
  | .par2 a0 a1 a2 a3, .par2 b0 b1 b2 b3 => decide (a0 = b0) && (decide (a1 = b1) && (eqE a2 b2 && (eqE a3 b3)))
  | .par3 a0 a1 a2 a3 a4 a5, .par3 b0 b1 b2 b3 b4 b5 => decide (a0 = b0) && (decide (a1 = b1) && (decide (a2 = b2) && (eqE a3 b3 && (eqE a4 b4 && (eqE a5 b5)))))
  | .sub a0 a1 a2, .sub b0 b1 b2 => eqE a0 b0 && (eqE a1 b1 && (eqE a2 b2))
  | .drop a0, .drop b0 => eqE a0 b0
  | .ret a0, .ret b0 => eqE a0 b0
  | .retN, .retN => true
  | .ife a0 a1 a2, .ife b0 b1 b2 => eqE a0 b0 && (eqSs a1 b1 && (eqSs a2 b2))
  | .whl a0 a1, .whl b0 b1 => eqE a0 b0 && (eqSs a1 b1)
  | .for a0 a1 a2 a3, .for b0 b1 b2 b3 => eqT a0 b0 && (decide (a1 = b1) && (eqEs a2 b2 && (eqSs a3 b3)))
  | .aug a0 a1 a2, .aug b0 b1 b2 => decide (a0 = b0) && (decide (a1 = b1) && (eqE a2 b2))
  | .pass, .pass => true
  | .brk, .brk => true
  | .cont, .cont => true
  | .raise a0, .raise b0 => decide (a0 = b0)
  | _, _ => false
def eqSs : List St → List St → Bool
  | [], [] => true
  | x :: xs, y :: ys => eqS x y && eqSs xs ys
  | _, _ => false
end
mutual
theorem eqS_ok : ∀ {a b : St}, eqS a b = true → a = b
  | .set a0 a1, b, h => by
    cases b <;> first
      | (simp [eqS] at h; done)
      | (rw [eqS] at h; simp only [Bool.and_eq_true] at h; obtain ⟨h0, h1⟩ := h; have e0 := of_decide_eq_true h0; have e1 := eqE_ok h1; subst e0 e1; rfl)
  | .asg a0 a1, b, h => by
    cases b <;> first
      | (simp [eqS] at h; done)
      | (rw [eqS] at h; simp only [Bool.and_eq_true] at h; obtain ⟨h0, h1⟩ := h; have e0 := eqT_ok h0; have e1 := eqE_ok h1; subst e0 e1; rfl)
  | .par2 a0 a1 a2 a3, b, h => by
    cases b <;> first
      | (simp [eqS] at h; done)
      | (rw [eqS] at h; simp only [Bool.and_eq_true] at h; obtain ⟨h0, h1, h2, h3⟩ := h; have e0 := of_decide_eq_true h0; have e1 := of_decide_eq_true h1; have e2 := eqE_ok h2; have e3 := eqE_ok h3; subst e0 e1 e2 e3; rfl)
  | .par3 a0 a1 a2 a3 a4 a5, b, h => by
    cases b <;> first
      | (simp [eqS] at h; done)
      | (rw [eqS] at h; simp only [Bool.and_eq_true] at h; obtain ⟨h0, h1, h2, h3, h4, h5⟩ := h; have e0 := of_decide_eq_true h0; have e1 := of_decide_eq_true h1; have e2 := of_decide_eq_true h2; have e3 := eqE_ok h3; have e4 := eqE_ok h4; have e5 := eqE_ok h5; subst e0 e1 e2 e3 e4 e5; rfl)
  | .sub a0 a1 a2, b, h => by
    cases b <;> first
      | (simp [eqS] at h; done)
      | (rw [eqS] at h; simp only [Bool.and_eq_true] at h; obtain ⟨h0, h1, h2⟩ := h; have e0 := eqE_ok h0; have e1 := eqE_ok h1; have e2 := eqE_ok h2; subst e0 e1 e2; rfl)
  | .drop a0, b, h => by
    cases b <;> first
      | (simp [eqS] at h; done)
      | (rw [eqS] at h; have h0 := h; have e0 := eqE_ok h0; subst e0; rfl)
  | .ret a0, b, h => by
    cases b <;> first
      | (simp [eqS] at h; done)
      | (rw [eqS] at h; have h0 := h; have e0 := eqE_ok h0; subst e0; rfl)
  | .retN, b, h => by
    cases b <;> first
      | (simp [eqS] at h; done)
      | rfl
  | .ife a0 a1 a2, b, h => by
    cases b <;> first
      | (simp [eqS] at h; done)
      | (rw [eqS] at h; simp only [Bool.and_eq_true] at h; obtain ⟨h0, h1, h2⟩ := h; have e0 := eqE_ok h0; have e1 := eqSs_ok h1; have e2 := eqSs_ok h2; subst e0 e1 e2; rfl)
  | .whl a0 a1, b, h => by
    cases b <;> first
      | (simp [eqS] at h; done)
      | (rw [eqS] at h; simp only [Bool.and_eq_true] at h; obtain ⟨h0, h1⟩ := h; have e0 := eqE_ok h0; have e1 := eqSs_ok h1; subst e0 e1; rfl)
  | .for a0 a1 a2 a3, b, h => by
    cases b <;> first
      | (simp [eqS] at h; done)
      | (rw [eqS] at h; simp only [Bool.and_eq_true] at h; obtain ⟨h0, h1, h2, h3⟩ := h; have e0 := eqT_ok h0; have e1 := of_decide_eq_true h1; have e2 := eqEs_ok h2; have e3 := eqSs_ok h3; subst e0 e1 e2 e3; rfl)
  | .aug a0 a1 a2, b, h => by
    cases b <;> first
      | (simp [eqS] at h; done)
      | (rw [eqS] at h; simp only [Bool.and_eq_true] at h; obtain ⟨h0, h1, h2⟩ := h; have e0 := of_decide_eq_true h0; have e1 := of_decide_eq_true h1; have e2 := eqE_ok h2; subst e0 e1 e2; rfl)
  | .pass, b, h => by
    cases b <;> first
      | (simp [eqS] at h; done)
      | rfl
  | .brk, b, h => by
    cases b <;> first
      | (simp [eqS] at h; done)
      | rfl
  | .cont, b, h => by
    cases b <;> first
      | (simp [eqS] at h; done)
      | rfl
  | .raise a0, b, h => by
    cases b <;> first
      | (simp [eqS] at h; done)
      | (rw [eqS] at h; have h0 := h; have e0 := of_decide_eq_true h0; subst e0; rfl)
theorem eqSs_ok : ∀ {a b : List St}, eqSs a b = true → a = b
  | [], [], _ => rfl
  | [], _ :: _, h => by simp [eqSs] at h
  | _ :: _, [], h => by simp [eqSs] at h
  | x :: xs, y :: ys, h => by
    rw [eqSs, Bool.and_eq_true] at h
    rw [eqS_ok h.1, eqSs_ok h.2]
end
/-! ### hints -/
mutual
def flatT : Ty2 → Bool
  | .bot => true
  | .int _ _ => true
  | .intA => true
  | .bl => true
  | .bc _ => true
  | .non => true
  | .str _ _ => true
  | .tup ts => flatTs ts
  | .seq t _ _ => flatT t
  | .lst _ _ _ => false
  | .own _ _ _ => false
  | .dk => false
  | .nm _ => true
  | .fnc _ => true
  | .scr _ _ => false
  | .txt => true
def flatTs : List Ty2 → Bool
  | [] => true
  | t :: ts => flatT t && flatTs ts
end
def hintR (u : Ty2) (r : Rx) : Rx := { r with ty := u, pv := none, tG := if u matches .bc false then none else r.tG, fG := if u matches .bc true then none else r.fG }
def hx (p : Prm) (sg : Sg) (e : E) (G : En) (r : Rx) : Rx := match p.hs.find? (fun h => decide (h.rk ≤ sg.n) && (eqE h.e e && (subEn p G h.G && flatT h.u))) with
  | some h => hintR h.u r
  | none => r
end Ev
namespace Ev
open PySem PySem.Spec PyProof.Rows
/-- what a hint of statements says of a run -/
def FlHas (p : Prm) (o : Option Ty2) (fl : Fl) : Prop := match o with
  | none => fl = .nx
  | some u => ∃ d, fl = .rt d ∧ ∀ W, HasTy p W u d
def flatO : Option Ty2 → Bool
  | none => true
  | some u => flatT u
/-- a draw's answer is below its second argument -/
def DrOk (p : Prm) (C : Nat → List D → M D) : Prop := ∀ f ∈ p.dr, ∀ (W : Wl) (S S' : Store) (t j : Nat) (m : Int) (d : D), WF p t W S → W[j]? = some .dk → 1 ≤ m → m ≤ 10 ^ 9 → t ≤ TM → C f [.ref j, .int m] S = .ok d S' → ∃ r : Int, d = .int r ∧ 0 ≤ r ∧ r < m
structure SgOk (p : Prm) (C : Nat → List D → M D) (sg : Sg) : Prop where
  ok : ∀ (f : Nat) (ts : List Ty2) (u : Ty2) (c : Nat), sg f ts = some (u, c) → ∀ (ds : List D) (W : Wl) (S : Store) (t : Nat), HasTys p W ts ds → WF p t W S → t + c ≤ TM →
    ∃ d S' W' t', C f ds S = .ok d S' ∧ Go p W S t (fun _ => False) W' S' t' c ∧ Val p W' S' u d ∧ (isOwn u = true → ∃ j : Nat, d = .ref j ∧ S.length ≤ j)
  dr : DrOk p C
  hs : ∀ h ∈ p.hs, h.rk ≤ sg.n → flatT h.u = true → ∀ (W : Wl) (S S' : Store) (t : Nat) (env : Fr) (d : D), EnvOk p W S h.G env → WF p t W S → evE C h.e env S = .ok d S' → ∀ W', HasTy p W' h.u d
  bs : ∀ h ∈ p.bs, h.rk ≤ sg.n → flatO h.o = true → ∀ (W : Wl) (S S' : Store) (t : Nat) (env env' : Fr) (fl : Fl), EnvOk p W S h.G env → WF p t W S → evSs C h.b env S = .ok (fl, env') S' → FlHas p h.o fl
def OkFs (p : Prm) (res : Res (List D)) (W : Wl) (S : Store) (t : Nat) (G : En) (env : Fr) (ts : List Ty2) (G' : En) (c : Nat) : Prop :=
  ∃ ds S' W' t', res = .ok ds S' ∧ Go p W S t (Own G env) W' S' t' c ∧ EnvOk p W' S' G' env ∧ (∀ j, Own G' env j → Own G env j) ∧ HasTys p W' ts ds
inductive Lvs (p : Prm) (W : Wl) (S : Store) : List Ty2 → List D → Prop
  | nil : Lvs p W S [] []
  | cons {t : Ty2} {ts : List Ty2} {d : D} {ds : List D} : Lv p W S t d → Lvs p W S ts ds → Lvs p W S (t :: ts) (d :: ds)
def OkPs (p : Prm) (res : Res (List D)) (W : Wl) (S : Store) (t : Nat) (G : En) (env : Fr) (ts : List Ty2) (G' : En) (c : Nat) : Prop :=
  ∃ ds S' W' t', res = .ok ds S' ∧ Go p W S t (Own G env) W' S' t' c ∧ EnvOk p W' S' G' env ∧ (∀ j, Own G' env j → Own G env j) ∧ Lvs p W' S' ts ds
section
variable {p : Prm} {W W1 W2 : Wl} {S S1 S2 : Store} {t t1 t2 c c1 c2 : Nat} {O O1 O2 : Nat → Prop} {G G1 G2 : En} {env : Fr} {u v : Ty2} {d : D} {res : Res D} {r : Rx}
theorem Lvs.pvs (w : WF p t W S) : ∀ {ts : List Ty2} {ds : List D}, Lvs p W S ts ds → PVs p W S ts ds
  | _, _, .nil => .nil
  | _, _, .cons a b => .cons (a.pv w) (Lvs.pvs w b)
theorem Lvs.go (w : WF p t W S) (a : Go p W S t O W1 S1 t1 c) : ∀ {ts : List Ty2} {ds : List D}, Lvs p W S ts ds → Lvs p W1 S1 ts ds
  | _, _, .nil => .nil
  | _, _, .cons x y => .cons (x.go w a) (Lvs.go w a y)
mutual
theorem litT_ok : ∀ {d : D} {u : Ty2}, litT d = some u → HasTy p W u d
  | .int i, u, h => by simp only [litT] at h; cases h; simp only [HasTy]; exact ⟨i, rfl, Int.le_refl _, Int.le_refl _⟩
  | .bl b, u, h => by simp only [litT] at h; cases h; simp only [HasTy]
  | .non, u, h => by simp only [litT] at h; cases h; simp only [HasTy]
  | .str x, u, h => by
    simp only [litT] at h
    split at h
    · cases h
      simp only [HasTy]
      exact ⟨x, rfl, Nat.le_refl _, Nat.le_refl _, by assumption⟩
    · cases h
  | .tup ds, u, h => by
    simp only [litT, Option.map_eq_some_iff] at h
    obtain ⟨ts, h1, rfl⟩ := h
    simp only [HasTy]
    exact ⟨ds, rfl, litTs_ok h1⟩
  | .ref _, u, h => by simp only [litT] at h; cases h
  | .fn _, u, h => by simp only [litT] at h; cases h
theorem litTs_ok : ∀ {ds : List D} {us : List Ty2}, litTs ds = some us → HasTys p W us ds
  | [], us, h => by simp only [litTs] at h; cases h; simp only [HasTys]
  | d :: ds, us, h => by
    simp only [litTs] at h
    split at h
    · rename_i t ts h1 h2
      cases h
      simp only [HasTys]
      exact ⟨d, ds, rfl, litT_ok h1, litTs_ok h2⟩
    · cases h
end
theorem Val.bl (h : Val p W S u d) (hb : isBl u = true) : ∃ b, d = .bl b := by
  cases u <;> first
    | (cases hb; done)
    | skip
  · have h : HasTy p W _ d := h
    simp only [HasTy] at h
    exact h
  · have h : HasTy p W _ d := h
    simp only [HasTy] at h
    exact ⟨_, h⟩
theorem OkX.lit (w : WF p t W S) (en : EnvOk p W S G env) (h : HasTy p W u d) : OkX p (M.ret d S) W S t G env (mkR u none G 0) := OkX.val w (Go.refl w) en (fun _ h => h) h rfl
variable (hX : PrOk p)
/-- what is known of a frame at a state, seen from the start -/
def Kn (p : Prm) (W : Wl) (S : Store) (G0 G : En) (env : Fr) : Prop := EnvOk p W S G env ∧ ∀ j, Own G env j → Own G0 env j
include hX in
theorem joinO_l {a b : Option En} {g : Option En} (h : joinO p a b = some g) {x : En} (ha : a = some x) (k : Kn p W S G x env) : ∃ y, g = some y ∧ Kn p W S G y env := by
  subst ha
  cases b with
  | none => cases h; exact ⟨x, rfl, k⟩
  | some b =>
    unfold joinO at h
    rw [Option.map_eq_some_iff] at h
    obtain ⟨y, h1, rfl⟩ := h
    obtain ⟨k1, k2⟩ := EnvOk.sub hX k.1 (joinEn_ok h1).1
    exact ⟨y, rfl, k1, fun j z => k.2 j (k2 j z)⟩
include hX in
theorem joinO_r {a b : Option En} {g : Option En} (h : joinO p a b = some g) {x : En} (ha : b = some x) (k : Kn p W S G x env) : ∃ y, g = some y ∧ Kn p W S G y env := by
  subst ha
  cases a with
  | none => cases h; exact ⟨x, rfl, k⟩
  | some a =>
    unfold joinO at h
    rw [Option.map_eq_some_iff] at h
    obtain ⟨y, h1, rfl⟩ := h
    obtain ⟨k1, k2⟩ := EnvOk.sub hX k.1 (joinEn_ok h1).2
    exact ⟨y, rfl, k1, fun j z => k.2 j (k2 j z)⟩
include hX in
/-- a truth that came out -/
theorem mkC_ok {a b : Option En} (h : mkC p a b c = some r) {k : Bool} (go : Go p W S t (Own G env) W1 S1 t1 c) (kn : ∃ x, (if k = true then a else b) = some x ∧ Kn p W1 S1 G x env) (e : res = .ok (.bl k) S1) : OkX p res W S t G env r := by
  unfold mkC at h
  split at h
  · rename_i g q
    cases h
    obtain ⟨x, e1, k1⟩ := kn
    have k2 : Kn p W1 S1 G g env := by
      cases k with
      | true =>
        rw [if_pos rfl] at e1
        obtain ⟨y, e2, k2⟩ := joinO_l hX q e1 k1
        cases e2
        exact k2
      | false =>
        rw [if_neg Bool.false_ne_true] at e1
        obtain ⟨y, e2, k2⟩ := joinO_r hX q e1 k1
        cases e2
        exact k2
    refine ⟨_, S1, W1, t1, e, go, k2.1, k2.2, ?_, fun ho => ?_, fun b' hb => ?_⟩
    · dsimp only
      split
      · cases k with
        | true => exact Val.of (by simp only [HasTy])
        | false => rw [if_neg Bool.false_ne_true] at e1; cases e1
      · cases k with
        | false => exact Val.of (by simp only [HasTy])
        | true => rw [if_pos rfl] at e1; cases e1
      · exact Val.of (by simp only [HasTy]; exact ⟨k, rfl⟩)
    · dsimp only at ho
      split at ho <;> cases ho
    · cases hb
      exact ⟨x, e1, k1.1, k1.2⟩
  · cases h
/-- what an OkX says of a truth -/
theorem OkX.truth (h : OkX p res W S t G env r) (hb : isBl r.ty = true) : ∃ k S1 W1 t1, res = .ok (.bl k) S1 ∧ Go p W S t (Own G env) W1 S1 t1 r.c ∧ ∃ x, (if k = true then r.tG else r.fG) = some x ∧ Kn p W1 S1 G x env := by
  obtain ⟨d, S1, W1, t1, e, go, en, ow, va, pv, tr⟩ := h
  obtain ⟨k, rfl⟩ := va.bl hb
  obtain ⟨x, e1, e2, e3⟩ := tr k rfl
  exact ⟨k, S1, W1, t1, e, go, x, e1, e2, e3⟩
theorem bnd_of {m : M D} {β : Type} {f : D → M β} (e : m S = .ok d S1) : (m >>= f) S = f d S1 := by
  show M.bnd m f S = _
  unfold M.bnd
  rw [e]
include hX in
theorem andX_ok {ma mb : M D} {r1 : Rx} {k : En → Option Rx} (w : WF p t W S) (h1 : OkX p (ma S) W S t G env r1) (h : andX p r1 k = some r) (hc : t + r.c ≤ TM)
    (hk : ∀ g r2 W1 S1 t1, k g = some r2 → WF p t1 W1 S1 → EnvOk p W1 S1 g env → t1 + r2.c ≤ TM → OkX p (mb S1) W1 S1 t1 g env r2) : OkX p ((do
      let x ← ma
      tru x mb (M.ret (D.bl false))) S) W S t G env r := by
  unfold andX at h
  split at h
  case isFalse => cases h
  case isTrue hb =>
  obtain ⟨b, S1, W1, t1, e, go, x, e1, kn⟩ := h1.truth hb
  rw [bnd_of e]
  split at h
  · rename_i q
    cases b with
    | true => rw [if_pos rfl, q] at e1; cases e1
    | false =>
      have hcc : r.c = r1.c := by
        unfold mkC at h
        split at h
        · cases h; rfl
        · cases h
      rw [if_neg Bool.false_ne_true] at e1
      exact mkC_ok hX h go (k := false) ⟨x, by rw [if_neg Bool.false_ne_true]; exact e1, kn⟩ rfl
  · rename_i g1 q
    split at h
    · rename_i r2 q2
      split at h
      case isFalse => cases h
      case isTrue hb2 =>
      split at h
      · rename_i f q3
        have hcc : r.c = r1.c + r2.c := by
          unfold mkC at h
          split at h
          · cases h; rfl
          · cases h
        cases b with
        | true =>
          rw [if_pos rfl, q] at e1
          cases e1
          have h2 := hk _ r2 W1 S1 t1 q2 go.wf kn.1 (by have := go.t2; omega)
          obtain ⟨b2, S2, W2, t2, e2, go2, x2, e3, kn2⟩ := h2.truth hb2
          have go3 := go.trans go2 (fun j z _ => kn.2 j z) w
          have kn3 : Kn p W2 S2 G x2 env := ⟨kn2.1, fun j z => kn.2 j (kn2.2 j z)⟩
          refine mkC_ok hX h go3 (k := b2) ?_ e2
          cases b2 with
          | true => exact ⟨x2, e3, kn3⟩
          | false =>
            rw [if_neg Bool.false_ne_true] at e3
            obtain ⟨y, e4, k4⟩ := joinO_r hX q3 e3 kn3
            exact ⟨y, e4, k4⟩
        | false =>
          rw [if_neg Bool.false_ne_true] at e1
          obtain ⟨y, e4, k4⟩ := joinO_l hX q3 e1 kn
          exact mkC_ok hX h (go.weak (by omega) fun _ z => z) (k := false) ⟨y, e4, k4⟩ rfl
      · cases h
    · cases h
include hX in
theorem orX_ok {ma mb : M D} {r1 : Rx} {k : En → Option Rx} (w : WF p t W S) (h1 : OkX p (ma S) W S t G env r1) (h : orX p r1 k = some r) (hc : t + r.c ≤ TM)
    (hk : ∀ g r2 W1 S1 t1, k g = some r2 → WF p t1 W1 S1 → EnvOk p W1 S1 g env → t1 + r2.c ≤ TM → OkX p (mb S1) W1 S1 t1 g env r2) : OkX p ((do
      let x ← ma
      tru x (M.ret (D.bl true)) mb) S) W S t G env r := by
  unfold orX at h
  split at h
  case isFalse => cases h
  case isTrue hb =>
  obtain ⟨b, S1, W1, t1, e, go, x, e1, kn⟩ := h1.truth hb
  rw [bnd_of e]
  split at h
  · rename_i q
    cases b with
    | false => rw [if_neg Bool.false_ne_true, q] at e1; cases e1
    | true =>
      have hcc : r.c = r1.c := by
        unfold mkC at h
        split at h
        · cases h; rfl
        · cases h
      rw [if_pos rfl] at e1
      exact mkC_ok hX h go (k := true) ⟨x, by rw [if_pos rfl]; exact e1, kn⟩ rfl
  · rename_i g1 q
    split at h
    · rename_i r2 q2
      split at h
      case isFalse => cases h
      case isTrue hb2 =>
      split at h
      · rename_i f q3
        have hcc : r.c = r1.c + r2.c := by
          unfold mkC at h
          split at h
          · cases h; rfl
          · cases h
        cases b with
        | false =>
          rw [if_neg Bool.false_ne_true, q] at e1
          cases e1
          have h2 := hk _ r2 W1 S1 t1 q2 go.wf kn.1 (by have := go.t2; omega)
          obtain ⟨b2, S2, W2, t2, e2, go2, x2, e3, kn2⟩ := h2.truth hb2
          have go3 := go.trans go2 (fun j z _ => kn.2 j z) w
          have kn3 : Kn p W2 S2 G x2 env := ⟨kn2.1, fun j z => kn.2 j (kn2.2 j z)⟩
          refine mkC_ok hX h go3 (k := b2) ?_ e2
          cases b2 with
          | false => exact ⟨x2, e3, kn3⟩
          | true =>
            rw [if_pos rfl] at e3
            obtain ⟨y, e4, k4⟩ := joinO_r hX q3 e3 kn3
            exact ⟨y, e4, k4⟩
        | true =>
          rw [if_pos rfl] at e1
          obtain ⟨y, e4, k4⟩ := joinO_l hX q3 e1 kn
          exact mkC_ok hX h (go.weak (by omega) fun _ z => z) (k := true) ⟨y, e4, k4⟩ rfl
      · cases h
    · cases h
include hX in
theorem notX_ok {ma : M D} {r1 : Rx} (h1 : OkX p (ma S) W S t G env r1) (h : notX p r1 = some r) : OkX p ((do
      let x ← ma
      dNot x) S) W S t G env r := by
  unfold notX at h
  split at h
  · rename_i hb
    obtain ⟨b, S1, W1, t1, e, go, x, e1, kn⟩ := h1.truth hb
    rw [bnd_of e]
    refine mkC_ok hX h go (k := !b) ⟨x, ?_, kn⟩ rfl
    cases b with
    | true => exact e1
    | false => exact e1
  · cases h
theorem OkX.mk (w : WF p t W S) (h : OkF p res W S t G env u G1 c) : OkX p res W S t G env (mkR u none G1 c) := by
  obtain ⟨d, S1, W1, t1, e, go, en, ow, va⟩ := h
  exact OkX.val w go en ow va e
theorem OkF.from (w : WF p t W S) (go : Go p W S t (Own G env) W1 S1 t1 c) (ow : ∀ j, Own G1 env j → Own G env j) (h : OkF p res W1 S1 t1 G1 env u G2 c1) : OkF p res W S t G env u G2 (c + c1) := by
  obtain ⟨d, S2, W2, t2, e, a1, a2, a3, a4⟩ := h
  exact ⟨d, S2, W2, t2, e, go.trans a1 (fun j z _ => ow j z) w, a2, fun j z => ow j (a3 j z), a4⟩
include hX in
theorem OkF.weak (h : OkF p res W S t G env u G1 c) (hs : subT p u v = true) (hg : subEn p G1 G2 = true) (hc : c ≤ c1) : OkF p res W S t G env v G2 c1 := by
  obtain ⟨d, S1, W1, t1, e, go, en, ow, va⟩ := h
  obtain ⟨k1, k2⟩ := EnvOk.sub hX en hg
  exact ⟨d, S1, W1, t1, e, go.weak hc fun _ z => z, k1, fun j z => ow j (k2 j z), subT_ok hs hX va⟩
include hX in
theorem ifeX_ok {mc ma mb : M D} {r1 : Rx} {ka kb : En → Option Rx} (w : WF p t W S) (h1 : OkX p (mc S) W S t G env r1) (h : ifeX p r1 ka kb = some r) (hc : t + r.c ≤ TM)
    (hka : ∀ g r2 W1 S1 t1, ka g = some r2 → WF p t1 W1 S1 → EnvOk p W1 S1 g env → t1 + r2.c ≤ TM → OkX p (ma S1) W1 S1 t1 g env r2)
    (hkb : ∀ g r2 W1 S1 t1, kb g = some r2 → WF p t1 W1 S1 → EnvOk p W1 S1 g env → t1 + r2.c ≤ TM → OkX p (mb S1) W1 S1 t1 g env r2) : OkX p ((do
      let x ← mc
      tru x ma mb) S) W S t G env r := by
  unfold ifeX at h
  split at h
  case isFalse => cases h
  case isTrue hb =>
  obtain ⟨b, S1, W1, t1, e, go, x, e1, kn⟩ := h1.truth hb
  rw [bnd_of e]
  split at h
  · rename_i g q1 q2
    rw [Option.map_eq_some_iff] at h
    obtain ⟨r2, h2, rfl⟩ := h
    cases b with
    | true =>
      rw [if_pos rfl, q1] at e1
      cases e1
      have hcc : (frR r2 r1.c).c = r1.c + r2.c := rfl
      exact OkX.mk w (((hka _ r2 W1 S1 t1 h2 go.wf kn.1 (by have := go.t2; omega)).frz go.wf kn.1).from w go kn.2)
    | false => rw [if_neg Bool.false_ne_true, q2] at e1; cases e1
  · rename_i g q1 q2
    rw [Option.map_eq_some_iff] at h
    obtain ⟨r2, h2, rfl⟩ := h
    cases b with
    | false =>
      rw [if_neg Bool.false_ne_true, q2] at e1
      cases e1
      have hcc : (frR r2 r1.c).c = r1.c + r2.c := rfl
      exact OkX.mk w (((hkb _ r2 W1 S1 t1 h2 go.wf kn.1 (by have := go.t2; omega)).frz go.wf kn.1).from w go kn.2)
    | true => rw [if_pos rfl, q1] at e1; cases e1
  · rename_i g1 g2 q1 q2
    split at h
    · rename_i ra rb h2 h3
      split at h
      · rename_i tt gg h4 h5
        cases h
        obtain ⟨s1, s2⟩ := join_ok h4
        obtain ⟨z1, z2⟩ := joinEn_ok h5
        have hcc : (mkR tt none gg (r1.c + max ra.c rb.c)).c = r1.c + max ra.c rb.c := rfl
        cases b with
        | true =>
          rw [if_pos rfl, q1] at e1
          cases e1
          exact OkX.mk w ((((hka _ ra W1 S1 t1 h2 go.wf kn.1 (by have := go.t2; omega)).frz go.wf kn.1).from w go kn.2).weak hX s1 z1 (by omega))
        | false =>
          rw [if_neg Bool.false_ne_true, q2] at e1
          cases e1
          exact OkX.mk w ((((hkb _ rb W1 S1 t1 h3 go.wf kn.1 (by have := go.t2; omega)).frz go.wf kn.1).from w go kn.2).weak hX s2 z2 (by omega))
      · cases h
    · cases h
  · cases h
end
end Ev
namespace Ev
open PySem PySem.Spec PyProof.Rows
section
variable {p : Prm} {W W1 W2 : Wl} {S S1 S2 : Store} {t t1 t2 c c1 c2 : Nat} {O O1 O2 : Nat → Prop} {G G1 G2 : En} {env : Fr} {u v : Ty2} {d : D} {res : Res D} {r : Rx}
variable (hX : PrOk p)
/-! ### slots set -/
theorem EnvOk.put {i : Nat} (h : EnvOk p W S G env) (hv : Val p W S u d) (hf : isOwn u = true → ∀ (k : Nat) (t : Ty2), k ≠ i → G[k]? = some (some t) → isOwn t = true → env[k]? ≠ some (some d)) :
    EnvOk p W S (G.set i (some u)) (env.set i (some d)) ∧ ∀ j, Own (G.set i (some u)) (env.set i (some d)) j → Own G env j ∨ (isOwn u = true ∧ d = .ref j) := by
  have get : ∀ {k : Nat} {t : Ty2}, (G.set i (some u))[k]? = some (some t) → (k = i ∧ t = u ∧ (env.set i (some d))[k]? = some (some d)) ∨ (k ≠ i ∧ G[k]? = some (some t) ∧ (env.set i (some d))[k]? = env[k]?) := fun {k t} e => by
    by_cases hk : k = i
    · subst hk
      have hl : k < (G.set k (some u)).length := (List.getElem?_eq_some_iff.mp e).1
      rw [List.length_set] at hl
      rw [List.getElem?_set_self hl] at e
      cases e
      exact .inl ⟨rfl, rfl, by rw [List.getElem?_set_self (by rw [h.len]; exact hl)]⟩
    · rw [List.getElem?_set_ne (fun z => hk z.symm)] at e
      exact .inr ⟨hk, e, by rw [List.getElem?_set_ne (fun z => hk z.symm)]⟩
  refine ⟨⟨by rw [List.length_set, List.length_set]; exact h.len, fun k t e => ?_, fun k l t t' x e1 o1 e2 o2 e3 e4 => ?_⟩, fun j ⟨k, t, e1, o1, e2⟩ => ?_⟩
  · rcases get e with ⟨rfl, rfl, e2⟩ | ⟨_, e1, e2⟩
    · exact ⟨d, e2, hv⟩
    · obtain ⟨x, h1, h2⟩ := h.at_ k t e1
      exact ⟨x, by rw [e2]; exact h1, h2⟩
  · rcases get e1 with ⟨k1, k2, k3⟩ | ⟨k1, k2, k3⟩
    · rcases get e2 with ⟨l1, l2, l3⟩ | ⟨l1, l2, l3⟩
      · rw [k1, l1]
      · exfalso
        rw [k3] at e3
        rw [l3] at e4
        cases e3
        subst k2
        exact hf o1 l t' l1 l2 o2 e4
    · rcases get e2 with ⟨l1, l2, l3⟩ | ⟨l1, l2, l3⟩
      · exfalso
        rw [k3] at e3
        rw [l3] at e4
        cases e4
        subst l2
        exact hf o2 k t k1 k2 o1 e3
      · rw [k3] at e3
        rw [l3] at e4
        exact h.uniq k l t t' x k2 o1 l2 o2 e3 e4
  · rcases get e1 with ⟨k1, k2, k3⟩ | ⟨k1, k2, k3⟩
    · rw [k3] at e2
      cases e2
      subst k2
      exact .inr ⟨o1, rfl⟩
    · rw [k3] at e2
      exact .inl ⟨k, t, k2, o1, e2⟩
theorem HasTy.notOwn (h : HasTy p W u d) : isOwn u = false := by
  cases u <;> first
    | rfl
    | (simp only [HasTy] at h)
theorem EnvOk.put1 {i : Nat} (h : EnvOk p W S G env) (hv : HasTy p W u d) : EnvOk p W S (G.set i (some u)) (env.set i (some d)) ∧ ∀ j, Own (G.set i (some u)) (env.set i (some d)) j → Own G env j := by
  have no := hv.notOwn
  obtain ⟨a, b⟩ := h.put (i := i) (Val.of hv) (fun ho => by rw [no] at ho; cases ho)
  refine ⟨a, fun j z => ?_⟩
  rcases b j z with z | ⟨z, _⟩
  · exact z
  · rw [no] at z; cases z
theorem putTs_len : ∀ {ts : List T} {us : List Ty2} {G G1 : En}, putTs p ts us G = some G1 → ts.length = us.length
  | [], [], _, _, _ => rfl
  | [], _ :: _, _, _, h => by simp [putTs] at h
  | _ :: _, [], _, _, h => by simp [putTs] at h
  | t :: ts, u :: us, G, G1, h => by
    simp only [putTs] at h
    split at h
    · rw [List.length_cons, List.length_cons, putTs_len h]
    · cases h
theorem hasTys_rep {n : Nat} : ∀ {ds : List D}, ds.length = n → (∀ x ∈ ds, HasTy p W u x) → HasTys p W (List.replicate n u) ds := by
  induction n with
  | zero => intro ds h _; simp only [List.replicate_zero, HasTys]; exact List.eq_nil_of_length_eq_zero h
  | succ n ih =>
    intro ds h hs
    cases ds with
    | nil => cases h
    | cons x xs =>
      simp only [List.replicate_succ, HasTys]
      exact ⟨x, xs, rfl, hs x List.mem_cons_self, ih (by simpa using h) fun y hy => hs y (List.mem_cons_of_mem _ hy)⟩
mutual
theorem putT_ok (hX : PrOk p) : ∀ {tg : T} {u : Ty2} {G G1 : En} {env : Fr} {d : D}, putT p tg u G = some G1 → EnvOk p W S G env → HasTy p W u d → ∃ env1, T.put tg d env S = .ok env1 S ∧ EnvOk p W S G1 env1 ∧ ∀ j, Own G1 env1 j → Own G env j
  | .nm i, u, G, G1, env, d, h, en, hv => by
    simp only [putT] at h
    split at h
    · cases h
      obtain ⟨a, b⟩ := en.put1 (i := i) hv
      exact ⟨_, by rw [T.put]; rfl, a, b⟩
    · cases h
  | .tup ts, u, G, G1, env, d, h, en, hv => by
    simp only [putT] at h
    have hv2 := expT_ok hX hv
    have fin : ∀ {us : List Ty2} {ds : List D}, putTs p ts us G = some G1 → HasTys p W us ds → ∃ env1, T.put (.tup ts) (.tup ds) env S = .ok env1 S ∧ EnvOk p W S G1 env1 ∧ ∀ j, Own G1 env1 j → Own G env j := fun {us ds} h hs => by
      obtain ⟨env1, e, a, b⟩ := putTs_ok hX h en hs
      refine ⟨env1, ?_, a, b⟩
      rw [T.put]
      have : onTup ts.length (fun ds => T.puts ts ds env) (.tup ds) = T.puts ts ds env := if_pos (by rw [hs.length, putTs_len h])
      rw [this]
      exact e
    split at h
    · rename_i us q
      rw [q] at hv2
      simp only [HasTy] at hv2
      obtain ⟨ds, rfl, hs⟩ := hv2
      exact fin h hs
    · rename_i u' a b q
      rw [q] at hv2
      simp only [HasTy] at hv2
      obtain ⟨ds, rfl, l1, l2, hs⟩ := hv2
      split at h
      · rename_i z
        exact fin h (hasTys_rep (by omega) hs)
      · cases h
    · cases h
theorem putTs_ok (hX : PrOk p) : ∀ {ts : List T} {us : List Ty2} {G G1 : En} {env : Fr} {ds : List D}, putTs p ts us G = some G1 → EnvOk p W S G env → HasTys p W us ds → ∃ env1, T.puts ts ds env S = .ok env1 S ∧ EnvOk p W S G1 env1 ∧ ∀ j, Own G1 env1 j → Own G env j
  | [], [], G, G1, env, ds, h, en, hs => by
    simp only [putTs] at h
    cases h
    simp only [HasTys] at hs
    subst hs
    exact ⟨env, by rw [T.puts]; rfl, en, fun _ z => z⟩
  | [], _ :: _, _, _, _, _, h, _, _ => by simp [putTs] at h
  | _ :: _, [], _, _, _, _, h, _, _ => by simp [putTs] at h
  | t :: ts, u :: us, G, G1, env, ds, h, en, hs => by
    simp only [putTs] at h
    simp only [HasTys] at hs
    obtain ⟨x, xs, rfl, a, b⟩ := hs
    split at h
    · rename_i G2 q
      obtain ⟨env1, e1, en1, ow1⟩ := putT_ok hX q en a
      obtain ⟨env2, e2, en2, ow2⟩ := putTs_ok hX h en1 b
      refine ⟨env2, ?_, en2, fun j z => ow1 j (ow2 j z)⟩
      rw [T.puts]
      show M.bnd (T.put t x env) _ S = _
      unfold M.bnd
      rw [e1]
      exact e2
    · cases h
end
/-! ### what is walked -/
theorem Lv.cell {a b : Nat} {v : Ty2} {B : Kd → Prop} (hf : ∀ x, B (.fz x)) (hs : ∀ x, B (.sc x)) (ho : isOwn u = true → B .ow) (h : Lv p W S u d) (w : WF p t W S) (e : asLr u = some (v, a, b)) : ∃ j ds kd, d = .ref j ∧ W[j]? = some kd ∧ B kd ∧ (S[j]? = some (.lst ds) ∨ S[j]? = some (.fro ds)) ∧ a ≤ ds.length ∧ ds.length ≤ b ∧ ∀ x ∈ ds, HasTy p W v x := by
  unfold asLr at e
  split at e
  · cases e
    obtain ⟨j, ds, e, q, s, r⟩ := h
    rcases q with q | q
    · exact ⟨j, ds, _, e, q, ho rfl, .inl s, r⟩
    · exact ⟨j, ds, _, e, q, hf _, .inl s, r⟩
  · cases e
    have h : HasTy p W _ d := h
    simp only [HasTy] at h
    obtain ⟨j, ds, e, q, r⟩ := h
    exact ⟨j, ds, _, e, q, hf _, .inl (w.fz j ds q), r⟩
  · cases e
    have h : HasTy p W _ d := h
    simp only [HasTy] at h
    obtain ⟨j, ds, e, q, r1, r2, r3⟩ := h
    exact ⟨j, ds, _, e, q, hs _, .inr (w.sc j (.fro ds) q), r1, r2, fun x hx => by simp only [HasTy]; exact r3 x hx⟩
  · cases e
theorem rngD_mem {lo : Int} {n : Nat} {x : D} (h : x ∈ rngD lo n) : ∃ k : Nat, k < n ∧ x = .int (lo + k) := by
  unfold rngD at h
  obtain ⟨k, h1, h2⟩ := List.mem_map.mp h
  exact ⟨k, List.mem_range.mp h1, h2.symm⟩
theorem enumD_mem {x : D} : ∀ {ds : List D} {i : Nat}, x ∈ enumD i ds → ∃ (k : Nat) (y : D), k < ds.length ∧ y ∈ ds ∧ x = .tup [.int ((i + k : Nat) : Int), y]
  | [], _, h => by cases h
  | d :: ds, i, h => by
    rw [enumD] at h
    rcases List.mem_cons.mp h with z | z
    · exact ⟨0, d, by simp, List.mem_cons_self, z⟩
    · obtain ⟨k, y, h1, h2, h3⟩ := enumD_mem z
      refine ⟨k + 1, y, by simpa using h1, List.mem_cons_of_mem _ h2, ?_⟩
      rw [h3, show i + 1 + k = i + (k + 1) by omega]
theorem enD_len : ∀ {ds : List D} {i : Nat}, (enumD i ds).length = ds.length
  | [], _ => rfl
  | d :: ds, i => by rw [enumD, List.length_cons, List.length_cons, enD_len]
theorem zpD_len : ∀ {xs ys : List D}, (zipD xs ys).length = min xs.length ys.length
  | [], ys => by simp [zipD]
  | _ :: _, [] => by simp [zipD]
  | x :: xs, y :: ys => by rw [zipD, List.length_cons, zpD_len, List.length_cons, List.length_cons]; omega
theorem zipD_mem {z : D} : ∀ {xs ys : List D}, z ∈ zipD xs ys → ∃ x y, x ∈ xs ∧ y ∈ ys ∧ z = .tup [x, y]
  | [], _, h => by cases h
  | _ :: _, [], h => by cases h
  | x :: xs, y :: ys, h => by
    rw [zipD] at h
    rcases List.mem_cons.mp h with e | e
    · exact ⟨x, y, List.mem_cons_self, List.mem_cons_self, e⟩
    · obtain ⟨a, b, h1, h2, h3⟩ := zipD_mem e
      exact ⟨a, b, List.mem_cons_of_mem _ h1, List.mem_cons_of_mem _ h2, h3⟩
def Stb (B : Kd → Prop) (W : Wl) (S S' : Store) : Prop := ∀ (j : Nat) (k : Kd), W[j]? = some k → B k → S'[j]? = S[j]?
theorem seqL {B : Kd → Prop} {j : Nat} {ds : List D} {kd : Kd} (h1 : W[j]? = some kd) (h2 : B kd) (h3 : S[j]? = some (.lst ds) ∨ S[j]? = some (.fro ds)) : ∃ ok : Store → Prop, seqIts (.ref j) S = .ok ⟨ds, ok⟩ S ∧ ∀ S', Stb B W S S' → ok S' := by
  rcases h3 with h3 | h3
  · exact ⟨_, by unfold seqIts; simp only [h3]; rfl, fun S' st => by show S'[j]? = _; rw [st j kd h1 h2]; exact h3⟩
  · exact ⟨_, by unfold seqIts; simp only [h3]; rfl, fun S' st => by show S'[j]? = _; rw [st j kd h1 h2]; exact h3⟩
theorem asSeq_nl {a b : Nat} (e : asSeq p u = some (v, a, b)) : asLr u = none := by
  cases u <;> first
    | rfl
    | (simp [asSeq, expT] at e)
include hX in
theorem itsT_ok {B : Kd → Prop} (hf : ∀ x, B (.fz x)) (hs : ∀ x, B (.sc x)) {k : IK} {ts : List Ty2} {ds : List D} {a b : Nat} (h : itsT p k ts = some (u, a, b)) (ho : ∀ u ∈ ts, isOwn u = true → B .ow) (hl : Lvs p W S ts ds) (w : WF p t W S) :
    ∃ it, k.its ds S = .ok it S ∧ a ≤ it.ds.length ∧ it.ds.length ≤ b ∧ (∀ x ∈ it.ds, HasTy p W u x) ∧ ∀ S', Stb B W S S' → it.ok S' := by
  unfold itsT at h
  split at h
  · cases hl with
    | cons k1 k2 =>
      cases k2
      unfold itT at h
      split at h
      · rename_i q
        cases h
        obtain ⟨j, ds, kd, rfl, h1, h2, h3, l1, l2, l3⟩ := k1.cell hf hs (ho _ (by simp)) w q
        obtain ⟨ok, e1, e2⟩ := seqL h1 h2 h3
        exact ⟨⟨ds, ok⟩, e1, l1, l2, l3, e2⟩
      · obtain ⟨ds, rfl, l1, l2, l3⟩ := PV.sq hX (k1.pv w) h
        exact ⟨⟨ds, _⟩, rfl, l1, l2, l3, fun _ _ => trivial⟩
  · cases hl with
    | cons k1 k2 =>
      cases k2
      split at h
      · rename_i x y q
        obtain ⟨i, rfl, i1, i2⟩ := PV.int hX (k1.pv w) q
        split at h
        · rename_i z
          cases h
          have hr : rngOk 0 i := by
            unfold rngOk
            have : (2 : Int) ^ 62 = 4611686018427387904 := by decide
            omega
          refine ⟨⟨rngD 0 i.toNat, fun _ => True⟩, ?_, ?_, ?_, fun x hx => ?_, fun _ _ => trivial⟩
          · simp only [IK.its, its1, rng1Its]
            rw [if_pos hr]
            rfl
          · simp only [rngD, List.length_map, List.length_range]; omega
          · simp only [rngD, List.length_map, List.length_range]; omega
          · obtain ⟨k, k1, rfl⟩ := rngD_mem hx
            simp only [HasTy]
            exact ⟨_, rfl, by omega, by omega⟩
        · cases h
      · cases h
  · cases hl with
    | cons k1 k2 =>
      cases k2 with
      | cons k2 k3 =>
        cases k3
        split at h
        · rename_i x y x' y' q q'
          obtain ⟨i, rfl, i1, i2⟩ := PV.int hX (k1.pv w) q
          obtain ⟨i', rfl, i1', i2'⟩ := PV.int hX (k2.pv w) q'
          split at h
          · rename_i z
            cases h
            have hr : rngOk i i' := by
              unfold rngOk
              have : (2 : Int) ^ 62 = 4611686018427387904 := by decide
              omega
            refine ⟨⟨rngD i (i' - i).toNat, fun _ => True⟩, ?_, ?_, ?_, fun x hx => ?_, fun _ _ => trivial⟩
            · simp only [IK.its, its2, rng2Its]
              rw [if_pos hr]
              rfl
            · simp only [rngD, List.length_map, List.length_range]; omega
            · simp only [rngD, List.length_map, List.length_range]; omega
            · obtain ⟨k, k1, rfl⟩ := rngD_mem hx
              simp only [HasTy]
              exact ⟨_, rfl, by omega, by omega⟩
          · cases h
        · cases h
  · cases hl with
    | cons k1 k2 =>
      cases k2
      split at h
      · rename_i q
        cases h
        obtain ⟨j, ds, kd, rfl, h1, h2, h3, l1, l2, l3⟩ := k1.cell hf hs (ho _ (by simp)) w q
        obtain ⟨ok, e1, e2⟩ := seqL h1 h2 h3
        refine ⟨⟨enumD 0 ds, ok⟩, ?_, by rw [enD_len]; exact l1, by rw [enD_len]; exact l2, fun x hx => ?_, e2⟩
        · simp only [IK.its, its1, enumIts]
          show M.bnd (seqIts (.ref j)) _ S = _
          unfold M.bnd
          rw [e1]
          rfl
        · obtain ⟨k, y, z1, z2, rfl⟩ := enumD_mem hx
          simp only [HasTy, HasTys]
          exact ⟨_, rfl, _, _, rfl, ⟨_, rfl, by omega, by omega⟩, _, _, rfl, l3 y z2, rfl⟩
      · cases h
  · cases hl with
    | cons k1 k2 =>
      cases k2 with
      | cons k2 k3 =>
        cases k3
        split at h
        · rename_i q q'
          cases h
          obtain ⟨j, ds, kd, rfl, h1, h2, h3, l1, l2, l3⟩ := k1.cell hf hs (ho _ (by simp)) w q
          obtain ⟨j', ds', kd', rfl, h1', h2', h3', l1', l2', l3'⟩ := k2.cell hf hs (ho _ (by simp)) w q'
          obtain ⟨ok, e1, e2⟩ := seqL h1 h2 h3
          obtain ⟨ok', e1', e2'⟩ := seqL h1' h2' h3'
          refine ⟨⟨zipD ds ds', fun S => ok S ∧ ok' S⟩, ?_, by rw [zpD_len]; omega, by rw [zpD_len]; omega, fun x hx => ?_, fun S' st => ⟨e2 S' st, e2' S' st⟩⟩
          · simp only [IK.its, its2, zipIts]
            show M.bnd (seqIts (.ref j)) _ S = _
            unfold M.bnd
            rw [e1]
            show M.bnd (seqIts (.ref j')) _ S = _
            unfold M.bnd
            rw [e1']
            rfl
          · obtain ⟨y, y', z1, z2, rfl⟩ := zipD_mem hx
            simp only [HasTy, HasTys]
            exact ⟨_, rfl, _, _, rfl, l3 y z1, _, _, rfl, l3' y' z2, rfl⟩
        · split at h
          · rename_i q q'
            cases h
            obtain ⟨ds, rfl, l1, l2, l3⟩ := PV.sq hX (k1.pv w) q
            obtain ⟨ds', rfl, l1', l2', l3'⟩ := PV.sq hX (k2.pv w) q'
            refine ⟨⟨zipD ds ds', fun _ => True⟩, rfl, by rw [zpD_len]; omega, by rw [zpD_len]; omega, fun x hx => ?_, fun _ _ => trivial⟩
            obtain ⟨y, y', z1, z2, rfl⟩ := zipD_mem hx
            simp only [HasTy, HasTys]
            exact ⟨_, rfl, _, _, rfl, l3 y z1, _, _, rfl, l3' y' z2, rfl⟩
          · cases h
        · cases h
  · cases h
/-! ### a comprehension's frame -/
theorem dropOwn_at {i : Nat} (e : (dropOwn G)[i]? = some (some u)) : G[i]? = some (some u) ∧ isOwn u = false := by
  unfold dropOwn at e
  rw [List.getElem?_map] at e
  cases q : G[i]? with
  | none => rw [q] at e; cases e
  | some x =>
    rw [q] at e
    cases x with
    | none => cases e
    | some v =>
      have e : (if isOwn v = true then none else some v) = some u := Option.some.inj e
      split at e
      · cases e
      · rename_i z
        cases e
        exact ⟨rfl, by simpa using z⟩
theorem EnvOk.dropOwn (h : EnvOk p W S G env) : EnvOk p W S (dropOwn G) env ∧ ∀ j, ¬ Own (Ev.dropOwn G) env j :=
  ⟨⟨by rw [h.len]; unfold Ev.dropOwn; rw [List.length_map], fun i u e => h.at_ i u (dropOwn_at e).1, fun i k t u d e1 o1 => by rw [(dropOwn_at e1).2] at o1; cases o1⟩, fun j ⟨i, t, e1, o1, _⟩ => by rw [(dropOwn_at e1).2] at o1; cases o1⟩
theorem wipeEn_at {i : Nat} : ∀ {is : List Nat}, (wipeEn G is)[i]? = some (some u) → G[i]? = some (some u) ∧ i ∉ is
  | [], e => ⟨e, by simp⟩
  | k :: is, e => by
    unfold wipeEn at e
    by_cases hk : i = k
    · subst hk
      have hl : i < ((wipeEn G is).set i none).length := (List.getElem?_eq_some_iff.mp e).1
      rw [List.length_set] at hl
      rw [List.getElem?_set_self hl] at e
      cases e
    · rw [List.getElem?_set_ne (fun z => hk z.symm)] at e
      obtain ⟨h1, h2⟩ := wipeEn_at e
      exact ⟨h1, by simp [hk, h2]⟩
theorem wipeEn_len : ∀ {is : List Nat}, (wipeEn G is).length = G.length
  | [] => rfl
  | k :: is => by unfold wipeEn; rw [List.length_set, wipeEn_len]
theorem wipeF_at {i : Nat} : ∀ {is : List Nat}, i ∉ is → (wipeF env is)[i]? = env[i]?
  | [], _ => rfl
  | k :: is, h => by
    unfold wipeF
    rw [List.getElem?_set_ne (fun z => h (by simp [z])), wipeF_at fun z => h (by simp [z])]
theorem wipeF_len : ∀ {is : List Nat}, (wipeF env is).length = env.length
  | [] => rfl
  | k :: is => by unfold wipeF; rw [List.length_set, wipeF_len]
theorem EnvOk.wipe {is : List Nat} (h : EnvOk p W S G env) : EnvOk p W S (wipeEn G is) (wipeF env is) ∧ ∀ j, Own (wipeEn G is) (wipeF env is) j → Own G env j :=
  ⟨⟨by rw [wipeF_len, wipeEn_len]; exact h.len, fun i u e => by
    obtain ⟨h1, h2⟩ := wipeEn_at e
    obtain ⟨d, k1, k2⟩ := h.at_ i u h1
    exact ⟨d, by rw [wipeF_at h2]; exact k1, k2⟩, fun i k t u d e1 o1 e2 o2 e3 e4 => by
    obtain ⟨h1, h2⟩ := wipeEn_at e1
    obtain ⟨h3, h4⟩ := wipeEn_at e2
    rw [wipeF_at h2] at e3
    rw [wipeF_at h4] at e4
    exact h.uniq i k t u d h1 o1 h3 o2 e3 e4⟩, fun j ⟨i, t, e1, o1, e2⟩ => by
    obtain ⟨h1, h2⟩ := wipeEn_at e1
    rw [wipeF_at h2] at e2
    exact ⟨i, t, h1, o1, e2⟩⟩
end
end Ev
namespace Ev
open PySem PySem.Spec PyProof.Rows
section
variable {p : Prm} {W W1 W2 : Wl} {S S1 S2 : Store} {t t1 t2 c c1 c2 : Nat} {O O1 O2 : Nat → Prop} {G G1 G2 : En} {env : Fr} {u v : Ty2} {d : D} {res : Res D} {r : Rx}
variable (hX : PrOk p)
theorem TR.bl (h : TR p W S res u) (hb : isBl u = true) : ∃ b, res = .ok (.bl b) S ∧ HasTy p W u (.bl b) := by
  obtain ⟨d, S', e, h⟩ := h
  rcases h with ⟨rfl, h⟩ | ⟨v, lo, hi, ds, rfl, _⟩
  · obtain ⟨b, rfl⟩ := Val.bl (S := []) (Val.of h) hb
    exact ⟨b, e, h⟩
  · cases hb
/-! ### a comparison tells of a variable -/
def ordB (o : Cop) (i k : Int) : Bool := match o with
  | .eq => decide (i = k) | .ne => !decide (i = k) | .lt => decide (i < k) | .le => decide (i ≤ k) | .gt => decide (k < i) | .ge => decide (k ≤ i) | _ => false
theorem ord_run {o : Cop} {i k : Int} (h : isOrd o = true) : o.run (.int i) (.int k) S = .ok (.bl (ordB o i k)) S := by
  cases o <;> first
    | rfl
    | (cases h; done)
theorem refT_ok {o : Cop} {x y i k : Int} (h : isOrd o = true) (h1 : x ≤ i) (h2 : i ≤ y) (hb : ordB o i k = true) : ∃ u, refT o x y k = some u ∧ HasTy p W u (.int i) := by
  cases o <;> simp only [ordB, Bool.not_eq_true', decide_eq_true_eq, decide_eq_false_iff_not] at hb <;> simp only [refT]
  case eq =>
    rw [if_pos (by omega)]
    exact ⟨_, rfl, by simp only [HasTy]; exact ⟨i, rfl, by omega, by omega⟩⟩
  case ne =>
    rw [if_neg (by omega)]
    split
    · exact ⟨_, rfl, by simp only [HasTy]; exact ⟨i, rfl, by omega, by omega⟩⟩
    · split
      · exact ⟨_, rfl, by simp only [HasTy]; exact ⟨i, rfl, by omega, by omega⟩⟩
      · exact ⟨_, rfl, by simp only [HasTy]; exact ⟨i, rfl, by omega, by omega⟩⟩
  case lt =>
    rw [if_pos (by omega)]
    exact ⟨_, rfl, by simp only [HasTy]; exact ⟨i, rfl, by omega, by omega⟩⟩
  case le =>
    rw [if_pos (by omega)]
    exact ⟨_, rfl, by simp only [HasTy]; exact ⟨i, rfl, by omega, by omega⟩⟩
  case gt =>
    rw [if_pos (by omega)]
    exact ⟨_, rfl, by simp only [HasTy]; exact ⟨i, rfl, by omega, by omega⟩⟩
  case ge =>
    rw [if_pos (by omega)]
    exact ⟨_, rfl, by simp only [HasTy]; exact ⟨i, rfl, by omega, by omega⟩⟩
  all_goals cases h
theorem negC_ord {o : Cop} (h : isOrd o = true) : isOrd (negC o) = true := by cases o <;> first | rfl | cases h
theorem negC_b {o : Cop} {i k : Int} (h : isOrd o = true) (hb : ordB o i k = false) : ordB (negC o) i k = true := by
  cases o <;> simp only [ordB, Bool.not_eq_false', decide_eq_true_eq, decide_eq_false_iff_not] at hb <;> simp only [negC, ordB, Bool.not_eq_true', decide_eq_true_eq, decide_eq_false_iff_not] <;> first
    | omega
    | cases h
theorem EnvOk.set_int {i : Nat} {j : Int} (h : EnvOk p W S G env) (he : env[i]? = some (some (.int j))) (hv : HasTy p W u (.int j)) : EnvOk p W S (G.set i (some u)) env ∧ ∀ k, Own (G.set i (some u)) env k → Own G env k := by
  have := h.put1 (i := i) hv
  have e : env.set i (some (.int j)) = env := by
    apply List.ext_getElem?
    intro k
    by_cases hk : i = k
    · subst hk
      rw [List.getElem?_set_self (List.getElem?_eq_some_iff.mp he).1, he]
    · rw [List.getElem?_set_ne hk]
  rw [e] at this
  exact this
theorem refX_ok {o : Cop} {a b : E} (h : OkX p res W S t G env r) (hk : ∀ d S', res = .ok d S' → ∀ i k j, a = .var i → b = .int k → env[i]? = some (some (.int j)) → isOrd o = true → d = .bl (ordB o j k)) : OkX p res W S t G env (refX o a b r) := by
  unfold refX
  split
  · rename_i i k
    split
    · rename_i x y q
      split
      · rename_i ho
        obtain ⟨d, S1, W1, t1, e, go, en, ow, va, pv, tr⟩ := h
        obtain ⟨z, z1, z2⟩ := en.at_ i _ q
        have z2 : HasTy p W1 _ z := z2
        simp only [HasTy] at z2
        obtain ⟨j, rfl, j1, j2⟩ := z2
        have hd := hk d S1 e i k j rfl rfl z1 ho
        refine ⟨d, S1, W1, t1, e, go, en, ow, va, pv, fun b hb => ?_⟩
        rw [hd] at hb
        have hb : ordB o j k = b := by cases hb; rfl
        cases b with
        | true =>
          obtain ⟨u, e1, e2⟩ := refT_ok (p := p) (W := W1) ho j1 j2 hb
          obtain ⟨k1, k2⟩ := en.set_int z1 e2
          refine ⟨r.G.set i (some u), ?_, k1, fun m hm => ow m (k2 m hm)⟩
          rw [if_pos rfl]
          dsimp only
          rw [e1]
          rfl
        | false =>
          obtain ⟨u, e1, e2⟩ := refT_ok (p := p) (W := W1) (negC_ord ho) j1 j2 (negC_b ho hb)
          obtain ⟨k1, k2⟩ := en.set_int z1 e2
          refine ⟨r.G.set i (some u), ?_, k1, fun m hm => ow m (k2 m hm)⟩
          rw [if_neg Bool.false_ne_true]
          dsimp only
          rw [e1]
          rfl
      · exact h
    · exact h
  · exact h
/-! ### is it empty? -/
/-- the items of a list, a tuple at a state -/
def holdsL (k : Bool) (d : D) (S : Store) (ds : List D) : Prop := if k = true then ∃ j : Nat, d = .ref j ∧ S[j]? = some (.lst ds) else d = .tup ds
theorem kind_items {k : Bool} (w : WF p t W S) (h : kindL u = some k) (hv : Val p W S u d) : ∃ ds, holdsL k d S ds ∧ (∀ v, (if ds.isEmpty = true then none0 u else some1 u) = some v → Val p W S v d ∧ isOwn v = isOwn u) ∧ (if ds.isEmpty = true then none0 u else some1 u).isSome = true := by
  unfold kindL at h
  split at h <;> cases h
  · obtain ⟨j, ds, e, q1, q2, l1, l2, l3⟩ := hv
    refine ⟨ds, by unfold holdsL; rw [if_pos rfl]; exact ⟨j, e, q2⟩, fun v hvv => ?_, ?_⟩
    · cases ds with
      | nil =>
        simp only [List.isEmpty_nil, if_true, none0] at hvv
        split at hvv
        · cases hvv
          exact ⟨⟨j, [], e, q1, q2, Nat.zero_le _, Nat.le_refl _, l3⟩, rfl⟩
        · cases hvv
      | cons x xs =>
        simp only [List.isEmpty_cons, Bool.false_eq_true, if_false, some1] at hvv
        split at hvv
        · cases hvv
        · cases hvv
          rw [List.length_cons] at l1 l2
          exact ⟨⟨j, x :: xs, e, q1, q2, by rw [List.length_cons]; omega, by rw [List.length_cons]; omega, l3⟩, rfl⟩
    · cases ds with
      | nil =>
        simp only [List.length_nil] at l1
        simp only [List.isEmpty_nil, if_true, none0]
        rw [if_pos (by omega)]
        rfl
      | cons x xs =>
        rw [List.length_cons] at l2
        simp only [List.isEmpty_cons, Bool.false_eq_true, if_false, some1]
        rw [if_neg (by omega)]
        rfl
  · have hv : HasTy p W _ d := hv
    simp only [HasTy] at hv
    obtain ⟨j, ds, e, q1, l1, l2, l3⟩ := hv
    refine ⟨ds, by unfold holdsL; rw [if_pos rfl]; exact ⟨j, e, w.fz j ds q1⟩, fun v hvv => ?_, ?_⟩
    · cases ds with
      | nil =>
        simp only [List.isEmpty_nil, if_true, none0] at hvv
        split at hvv
        · cases hvv
          exact ⟨Val.of (by simp only [HasTy]; exact ⟨j, [], e, q1, Nat.zero_le _, Nat.le_refl _, l3⟩), rfl⟩
        · cases hvv
      | cons x xs =>
        simp only [List.isEmpty_cons, Bool.false_eq_true, if_false, some1] at hvv
        split at hvv
        · cases hvv
        · cases hvv
          rw [List.length_cons] at l1 l2
          exact ⟨Val.of (by simp only [HasTy]; exact ⟨j, x :: xs, e, q1, by rw [List.length_cons]; omega, by rw [List.length_cons]; omega, l3⟩), rfl⟩
    · cases ds with
      | nil =>
        simp only [List.length_nil] at l1
        simp only [List.isEmpty_nil, if_true, none0]
        rw [if_pos (by omega)]
        rfl
      | cons x xs =>
        rw [List.length_cons] at l2
        simp only [List.isEmpty_cons, Bool.false_eq_true, if_false, some1]
        rw [if_neg (by omega)]
        rfl
  · have hv : HasTy p W _ d := hv
    simp only [HasTy] at hv
    obtain ⟨ds, e, l1, l2, l3⟩ := hv
    refine ⟨ds, by unfold holdsL; rw [if_neg Bool.false_ne_true]; exact e, fun v hvv => ?_, ?_⟩
    · cases ds with
      | nil =>
        simp only [List.isEmpty_nil, if_true, none0] at hvv
        split at hvv
        · cases hvv
          exact ⟨Val.of (by simp only [HasTy]; exact ⟨[], e, Nat.zero_le _, Nat.le_refl _, l3⟩), rfl⟩
        · cases hvv
      | cons x xs =>
        simp only [List.isEmpty_cons, Bool.false_eq_true, if_false, some1] at hvv
        split at hvv
        · cases hvv
        · cases hvv
          rw [List.length_cons] at l1 l2
          exact ⟨Val.of (by simp only [HasTy]; exact ⟨x :: xs, e, by rw [List.length_cons]; omega, by rw [List.length_cons]; omega, l3⟩), rfl⟩
    · cases ds with
      | nil =>
        simp only [List.length_nil] at l1
        simp only [List.isEmpty_nil, if_true, none0]
        rw [if_pos (by omega)]
        rfl
      | cons x xs =>
        rw [List.length_cons] at l2
        simp only [List.isEmpty_cons, Bool.false_eq_true, if_false, some1]
        rw [if_neg (by omega)]
        rfl
/-- a slot's type told anew -/
theorem EnvOk.retype {i : Nat} (h : EnvOk p W S G env) (hu : G[i]? = some (some u)) (he : env[i]? = some (some d)) (hv : Val p W S v d) (ho : isOwn v = isOwn u) : EnvOk p W S (G.set i (some v)) env ∧ ∀ k, Own (G.set i (some v)) env k → Own G env k := by
  have hl : i < G.length := (List.getElem?_eq_some_iff.mp hu).1
  have get : ∀ {k : Nat} {t : Ty2}, (G.set i (some v))[k]? = some (some t) → (k = i ∧ t = v) ∨ (k ≠ i ∧ G[k]? = some (some t)) := fun {k t} e => by
    by_cases hk : k = i
    · subst hk
      rw [List.getElem?_set_self hl] at e
      cases e
      exact .inl ⟨rfl, rfl⟩
    · rw [List.getElem?_set_ne (fun z => hk z.symm)] at e
      exact .inr ⟨hk, e⟩
  have old : ∀ {k : Nat} {t : Ty2}, (G.set i (some v))[k]? = some (some t) → isOwn t = true → ∃ t', G[k]? = some (some t') ∧ isOwn t' = true := fun {k t} e o => by
    rcases get e with ⟨rfl, rfl⟩ | ⟨_, e⟩
    · exact ⟨u, hu, by rw [← ho]; exact o⟩
    · exact ⟨t, e, o⟩
  refine ⟨⟨by rw [List.length_set]; exact h.len, fun k t e => ?_, fun k l t t' x e1 o1 e2 o2 e3 e4 => ?_⟩, fun j ⟨k, t, e1, o1, e2⟩ => ?_⟩
  · rcases get e with ⟨rfl, rfl⟩ | ⟨_, e⟩
    · exact ⟨d, he, hv⟩
    · exact h.at_ k t e
  · obtain ⟨a, a1, a2⟩ := old e1 o1
    obtain ⟨b, b1, b2⟩ := old e2 o2
    exact h.uniq k l a b x a1 a2 b1 b2 e3 e4
  · obtain ⟨a, a1, a2⟩ := old e1 o1
    exact ⟨k, a, a1, a2, e2⟩
theorem refE_ok {o : Cop} {a b : E} (h : OkX p res W S t G env r) (hk : ∀ d S', res = .ok d S' → ∀ i k x ds, a = .var i → emptyE b = some k → env[i]? = some (some x) → holdsL k x S' ds → (o = .eq → d = .bl ds.isEmpty) ∧ (o = .ne → d = .bl !ds.isEmpty)) : OkX p res W S t G env (refE o a b r) := by
  unfold refE
  split
  · rename_i i k q0
    split
    · rename_i u q
      split
      · rename_i hkd
        obtain ⟨d, S1, W1, t1, e, go, en, ow, va, pv, tr⟩ := h
        obtain ⟨x, z1, z2⟩ := en.at_ i u q
        obtain ⟨ds, hh, k1, k2⟩ := kind_items go.wf hkd z2
        have hd := hk d S1 e i k x ds rfl q0 z1 hh
        obtain ⟨v, hv⟩ := Option.isSome_iff_exists.mp k2
        obtain ⟨y1, y2⟩ := k1 v hv
        obtain ⟨n1, n2⟩ := en.retype q z1 y1 y2
        split
        · have hd := hd.1 rfl
          refine ⟨d, S1, W1, t1, e, go, en, ow, va, pv, fun b' hb' => ?_⟩
          rw [hd] at hb'
          have hb' : ds.isEmpty = b' := by cases hb'; rfl
          refine ⟨r.G.set i (some v), ?_, n1, fun m hm => ow m (n2 m hm)⟩
          rw [hb'] at hv
          cases b' with
          | true => rw [if_pos rfl] at hv ⊢; dsimp only; rw [hv]; rfl
          | false => rw [if_neg Bool.false_ne_true] at hv ⊢; dsimp only; rw [hv]; rfl
        · have hd := hd.2 rfl
          refine ⟨d, S1, W1, t1, e, go, en, ow, va, pv, fun b' hb' => ?_⟩
          rw [hd] at hb'
          have hb' : (!ds.isEmpty) = b' := by cases hb'; rfl
          refine ⟨r.G.set i (some v), ?_, n1, fun m hm => ow m (n2 m hm)⟩
          cases hz : ds.isEmpty with
          | true =>
            rw [hz] at hv hb'
            subst hb'
            rw [if_pos rfl] at hv
            show _ = _
            rw [if_neg (by decide)]
            dsimp only
            rw [hv]; rfl
          | false =>
            rw [hz] at hv hb'
            subst hb'
            rw [if_neg Bool.false_ne_true] at hv
            rw [if_pos (by decide)]
            dsimp only
            rw [hv]; rfl
        · exact ⟨d, S1, W1, t1, e, go, en, ow, va, pv, tr⟩
      · exact h
    · exact h
  · exact h
/-- an equation with an empty list, an empty tuple -/
theorem pys_len {n : Nat} : ∀ {ds : List D} {xs : List PyData}, pys n S ds = some xs → xs.length = ds.length
  | [], _, h => by rw [pys_nil] at h; cases h; rfl
  | d :: ds, _, h => by
    obtain ⟨x, ys, _, h2, rfl⟩ := pys_some h
    rw [List.length_cons, List.length_cons, pys_len h2]
theorem eqvAll_nil {xs : List PyData} : PyData.eqvAll xs [] = xs.isEmpty := by cases xs <;> rfl
theorem eq_empty {k : Bool} {x y : D} {ds : List D} {b : D} {S' : Store} (hx : holdsL k x S ds) (hy : holdsL k y S []) (h : dEq x y S = .ok b S') : b = .bl ds.isEmpty ∧ S' = S := by
  cases k with
  | true =>
    unfold holdsL at hx hy
    rw [if_pos rfl] at hx hy
    obtain ⟨i, rfl, hi⟩ := hx
    obtain ⟨j, rfl, hj⟩ := hy
    unfold dEq at h
    dsimp only at h
    have e2 : py FU S (.ref j) = some (.list []) := by
      show py (59 + 1) S _ = _
      rw [py_ref, hj]
      dsimp only
      rw [pys_nil]
      rfl
    rw [e2] at h
    split at h
    · rename_i x y q1 q2
      cases q2
      have q1 : py (59 + 1) S (.ref i) = some x := q1
      rw [py_ref, hi] at q1
      dsimp only at q1
      rw [Option.map_eq_some_iff] at q1
      obtain ⟨xs, q3, rfl⟩ := q1
      split at h
      · cases h
        refine ⟨?_, rfl⟩
        have := pys_len q3
        show D.bl (PyData.eqvAll xs []) = _
        rw [eqvAll_nil]
        cases xs <;> cases ds <;> first
          | rfl
          | (simp at this)
      · cases h
    · cases h
  | false =>
    unfold holdsL at hx hy
    rw [if_neg Bool.false_ne_true] at hx hy
    subst hx hy
    unfold dEq at h
    dsimp only at h
    have e2 : py FU S (.tup []) = some (.tuple []) := by
      show py (59 + 1) S _ = _
      rw [py_tup, pys_nil]
      rfl
    rw [e2] at h
    split at h
    · rename_i x y q1 q2
      cases q2
      have q1 : py (59 + 1) S (.tup ds) = some x := q1
      rw [py_tup, Option.map_eq_some_iff] at q1
      obtain ⟨xs, q3, rfl⟩ := q1
      split at h
      · cases h
        refine ⟨?_, rfl⟩
        have := pys_len q3
        show D.bl (PyData.eqvAll xs []) = _
        rw [eqvAll_nil]
        cases xs <;> cases ds <;> first
          | rfl
          | (simp at this)
      · cases h
    · cases h
/-! ### a comprehension -/
theorem guard_yes {q : Store → Prop} (h : q S) : guard q S = .ok () S := if_pos h
theorem lcF_ok {q : Store → Prop} {put : D → Fr → M Fr} {cond elt : Fr → M D} {G0 : En} {env0 : Fr} {it : Ty2} {cc : Nat} {all : Bool}
    (step : ∀ d W S t, HasTy p W it d → WF p t W S → EnvOk p W S G0 env0 → t + cc ≤ TM → ∃ e2 b S1 W1 t1 c1, put d env0 S = .ok e2 S ∧ cond e2 S = .ok (.bl b) S1 ∧ Go p W S t (fun _ => False) W1 S1 t1 c1 ∧ c1 ≤ cc ∧ (all = true → b = true) ∧
      (b = true → ∃ x S2 W2 t2 c2, elt e2 S1 = .ok x S2 ∧ Go p W1 S1 t1 (fun _ => False) W2 S2 t2 c2 ∧ HasTy p W2 u x ∧ c1 + c2 ≤ cc)) :
    ∀ (ds acc : List D) (W : Wl) (S : Store) (t : Nat), (∀ x ∈ ds, HasTy p W it x) → (∀ x ∈ acc, HasTy p W u x) → WF p t W S → EnvOk p W S G0 env0 → (∀ W' S' t' c', Go p W S t (fun _ => False) W' S' t' c' → q S') → acc.length + ds.length ≤ LINE → t + ds.length * cc ≤ TM →
      ∃ xs S' W' t', lcF q put cond elt env0 ds acc S = .ok xs S' ∧ Go p W S t (fun _ => False) W' S' t' (ds.length * cc) ∧ (∀ x ∈ xs, HasTy p W' u x) ∧ (if all = true then acc.length + ds.length else acc.length) ≤ xs.length ∧ xs.length ≤ acc.length + ds.length
  | [], acc, W, S, t, _, ha, w, en, hq, hl, ht => by
    refine ⟨acc, S, W, t, ?_, (Go.refl w).weak (by omega) fun _ z => z, ha, by split <;> simp, by simp⟩
    rw [lcF_nil]
    show M.bnd (guard q) _ S = _
    unfold M.bnd
    rw [guard_yes (hq W S t 0 (Go.refl w))]
    rfl
  | d :: ds, acc, W, S, t, hd, ha, w, en, hq, hl, ht => by
    have e0 : (d :: ds).length * cc = ds.length * cc + cc := by rw [List.length_cons, Nat.succ_mul]
    rw [e0] at ht
    rw [List.length_cons] at hl
    obtain ⟨e2, b, S1, W1, t1, c1, h1, h2, g1, hc1, hall, hb⟩ := step d W S t (hd d List.mem_cons_self) w en (by omega)
    have go1 : lcF q put cond elt env0 (d :: ds) acc S = tru (.bl b) (do
        let x ← elt e2
        if acc.length < LINE then lcF q put cond elt env0 ds (acc ++ [x]) else M.fail) (lcF q put cond elt env0 ds acc) S1 := by
      rw [lcF_cons]
      show M.bnd (guard q) _ S = _
      unfold M.bnd
      rw [guard_yes (hq W S t 0 (Go.refl w))]
      show M.bnd (put d env0) _ S = _
      unfold M.bnd
      rw [h1]
      show M.bnd (cond e2) _ S = _
      unfold M.bnd
      rw [h2]
    rw [go1]
    cases b with
    | true =>
      obtain ⟨x, S2, W2, t2, c2, k1, g2, kx, kc⟩ := hb rfl
      have g12 := g1.trans g2 (fun _ z _ => z) w
      have go2 : tru (.bl true) (do
          let x ← elt e2
          if acc.length < LINE then lcF q put cond elt env0 ds (acc ++ [x]) else M.fail) (lcF q put cond elt env0 ds acc) S1 = lcF q put cond elt env0 ds (acc ++ [x]) S2 := by
        show M.bnd (elt e2) _ S1 = _
        unfold M.bnd
        rw [k1]
        dsimp only
        rw [if_pos (by omega)]
      rw [go2]
      obtain ⟨xs, S', W', t', r1, r2, r3, r4, r5⟩ := lcF_ok step ds (acc ++ [x]) W2 S2 t2 (fun y hy => (hd y (List.mem_cons_of_mem _ hy)).mono g12.ext) (fun y hy => by
        rcases List.mem_append.mp hy with z | z
        · exact (ha y z).mono g12.ext
        · rw [List.mem_singleton.mp z]; exact kx) g12.wf (en.go g12) (fun W' S' t' c' g => hq W' S' t' _ (g12.trans g (fun _ z _ => z) w)) (by rw [List.length_append, List.length_singleton]; omega) (by have := g12.t2; omega)
      refine ⟨xs, S', W', t', r1, (g12.trans r2 (fun _ z _ => z) w).weak (by omega) fun _ z => z, r3, ?_, ?_⟩
      · rw [List.length_append, List.length_singleton] at r4
        rw [List.length_cons]
        split at r4 <;> split <;> first
          | omega
          | (rename_i z1 z2; exact absurd z2 z1)
          | (rename_i z1 z2; exact absurd z1 z2)
      · rw [List.length_append, List.length_singleton] at r5
        rw [List.length_cons]
        omega
    | false =>
      have na : all = false := by
        cases all with
        | false => rfl
        | true => exact absurd (hall rfl) Bool.false_ne_true
      obtain ⟨xs, S', W', t', r1, r2, r3, r4, r5⟩ := lcF_ok step ds acc W1 S1 t1 (fun y hy => (hd y (List.mem_cons_of_mem _ hy)).mono g1.ext) (fun y hy => (ha y hy).mono g1.ext) g1.wf (en.go g1) (fun W' S' t' c' g => hq W' S' t' _ (g1.trans g (fun _ z _ => z) w)) (by omega) (by have := g1.t2; omega)
      refine ⟨xs, S', W', t', r1, (g1.trans r2 (fun _ z _ => z) w).weak (by omega) fun _ z => z, r3, ?_, ?_⟩
      · rw [na] at r4 ⊢
        rw [if_neg Bool.false_ne_true] at r4 ⊢
        exact r4
      · rw [List.length_cons]; omega
end
end Ev
namespace Ev
open PySem PySem.Spec PyProof.Rows
section
variable {p : Prm} {W W1 W2 : Wl} {S S1 S2 : Store} {t t1 t2 c c1 c2 : Nat} {O O1 O2 : Nat → Prop} {G G1 G2 : En} {env : Fr} {u v : Ty2} {d : D} {res : Res D} {r : Rx}
theorem bnd_app' {α β : Type} (m : M α) (f : α → M β) (S : Store) : (m >>= f) S = (match m S with
  | .ok a S' => f a S'
  | .exc c a S' => .exc c a S'
  | .bad => .bad) := rfl
theorem ret_app' {α : Type} (a : α) : M.ret a S = .ok a S := rfl
/-- two operands, then an answer -/
theorem two_ok {ma mb : M D} {f : D → D → M D} {r1 r2 : Rx} (w : WF p t W S) (h1 : OkX p (ma S) W S t G env r1) (hc : t + (r1.c + r2.c) ≤ TM)
    (h2 : ∀ W1 S1 t1, WF p t1 W1 S1 → EnvOk p W1 S1 r1.G env → t1 + r2.c ≤ TM → OkX p (mb S1) W1 S1 t1 r1.G env r2)
    (k : ∀ d1 d2 W2 S2 t2, WF p t2 W2 S2 → PV p W2 S2 r1.ty d1 → PV p W2 S2 r2.ty d2 → TR p W2 S2 (f d1 d2 S2) u) :
    OkX p ((do
      let x ← ma
      let y ← mb
      f x y) S) W S t G env (mkR u none r2.G (r1.c + r2.c)) := by
  refine OkX.bind w h1 fun d1 S1 W1 t1 go1 en1 ow1 va1 pv1 tr1 => ?_
  have q : OkX p ((mb >>= fun y => f d1 y) S1) W1 S1 t1 r1.G env (mkR u none r2.G r2.c) :=
    OkX.bind go1.wf (h2 W1 S1 t1 go1.wf en1 (by have := go1.t2; omega)) fun d2 S2 W2 t2 go2 en2 ow2 va2 pv2 tr2 =>
      OkX.tr go1.wf go2 en2 ow2 (k d1 d2 W2 S2 t2 go2.wf ((va1.lv.go go1.wf go2).pv go2.wf) (va2.pv0 go2.wf))
  exact OkX.from w go1 ow1 q
theorem one_ok {ma : M D} {f : D → M D} {r1 : Rx} (w : WF p t W S) (h1 : OkX p (ma S) W S t G env r1) (k : ∀ d1 W1 S1 t1, WF p t1 W1 S1 → PV p W1 S1 r1.ty d1 → TR p W1 S1 (f d1 S1) u) :
    OkX p ((do
      let x ← ma
      f x) S) W S t G env (mkR u none r1.G r1.c) :=
  OkX.bind w h1 fun d1 S1 W1 t1 go1 en1 ow1 va1 pv1 tr1 => OkX.tr w go1 en1 ow1 (k d1 W1 S1 t1 go1.wf (va1.pv0 go1.wf))
theorem part_ok {i : Int} : dPart (.int i) S = .ok (some i) S := rfl
theorem bndR {α β : Type} {m : M α} {f : α → M β} {a : α} (e : m S = .ok a S1) : (m >>= f) S = f a S1 := by
  show M.bnd m f S = _
  unfold M.bnd
  rw [e]
/-- a call's answer -/
theorem call_ok {C : Nat → List D → M D} {sg : Sg} (sk : SgOk p C sg) {f : Nat} {ts : List Ty2} {ms : M (List D)} (w : WF p t W S) (h : OkFs p (ms S) W S t G env ts G1 c) (hs : sg f ts = some (u, c1)) (hc : t + (c + c1) ≤ TM) :
    OkX p ((do
      let ds ← ms
      C f ds) S) W S t G env (mkR u none G1 (c + c1)) := by
  obtain ⟨ds, S1, W1, t1, e, go, en, ow, hd⟩ := h
  rw [bndR e]
  obtain ⟨d, S2, W2, t2, e2, go2, va, ho⟩ := sk.ok f ts u c1 hs ds W1 S1 t1 hd go.wf (by have := go.t2; omega)
  refine ⟨d, S2, W2, t2, e2, go.trans go2 (fun _ z _ => z.elim) w, en.go go2, ow, va, fun hw => ?_, fun b hb => ?_⟩
  · obtain ⟨j, e3, e4⟩ := ho hw
    exact ⟨j, e3, Nat.le_trans go.grow e4⟩
  · refine ⟨G1, ?_, en.go go2, ow⟩
    subst hb
    have va2 : isOwn u = false → HasTy p W2 u (.bl b) := fun z => va.has z
    cases b with
    | true =>
      rw [if_pos rfl]
      unfold mkR
      dsimp only
      split
      · have := va2 rfl
        simp only [HasTy] at this
        cases this
      · rfl
    | false =>
      rw [if_neg Bool.false_ne_true]
      unfold mkR
      dsimp only
      split
      · have := va2 rfl
        simp only [HasTy] at this
        cases this
      · rfl
variable {C : Nat → List D → M D} {sg : Sg}
theorem refX_c {o : Cop} {a b : E} : (refX o a b r).c = r.c := by
  unfold refX
  split
  · split
    · split <;> rfl
    · rfl
  · rfl
theorem refE_c {o : Cop} {a b : E} : (refE o a b r).c = r.c := by
  unfold refE
  split
  · split
    · split
      · split <;> rfl
      · rfl
    · rfl
  · rfl
theorem dEq_st {x y b : D} {S' : Store} (h : dEq x y S = .ok b S') : S' = S := by
  unfold dEq at h
  split at h
  · cases h; rfl
  · cases h; rfl
  · cases h; rfl
  · cases h; rfl
  · split at h
    · split at h
      · cases h; rfl
      · cases h
    · cases h
theorem empty_run {C : Nat → List D → M D} {b : E} {k : Bool} (h : emptyE b = some k) : ∃ y S1, evE C b env S = .ok y S1 ∧ holdsL k y S1 [] := by
  unfold emptyE at h
  split at h
  · split at h
    · rename_i es hz
      cases h
      have : es = [] := List.isEmpty_iff.mp hz
      subst this
      refine ⟨.ref S.length, S ++ [.lst []], ?_, ?_⟩
      · rw [evE, evEs, bndR (ret_app' [])]
        rfl
      · unfold holdsL
        rw [if_pos rfl]
        exact ⟨S.length, rfl, by simp⟩
    · cases h
  · split at h
    · rename_i es hz
      cases h
      have : es = [] := List.isEmpty_iff.mp hz
      subst this
      refine ⟨.tup [], S, ?_, ?_⟩
      · rw [evE, evEs, bndR (ret_app' [])]
        rfl
      · unfold holdsL
        rw [if_neg Bool.false_ne_true]
    · cases h
  · cases h
theorem mkC_c {a b : Option En} (h : mkC p a b c = some r) : r.c = c := by
  unfold mkC at h
  split at h
  · cases h; rfl
  · cases h
theorem andX_c {r1 : Rx} {k : En → Option Rx} (h : andX p r1 k = some r) : r1.c ≤ r.c := by
  unfold andX at h
  split at h
  · split at h
    · rw [mkC_c h]; exact Nat.le_refl _
    · split at h
      · split at h
        · split at h
          · rw [mkC_c h]; omega
          · cases h
        · cases h
      · cases h
  · cases h
theorem orX_c {r1 : Rx} {k : En → Option Rx} (h : orX p r1 k = some r) : r1.c ≤ r.c := by
  unfold orX at h
  split at h
  · split at h
    · rw [mkC_c h]; exact Nat.le_refl _
    · split at h
      · split at h
        · split at h
          · rw [mkC_c h]; omega
          · cases h
        · cases h
      · cases h
  · cases h
theorem ifeX_c {r1 : Rx} {ka kb : En → Option Rx} (h : ifeX p r1 ka kb = some r) : r1.c ≤ r.c := by
  unfold ifeX at h
  split at h
  · split at h
    · rw [Option.map_eq_some_iff] at h
      obtain ⟨r2, _, rfl⟩ := h
      show r1.c ≤ r1.c + r2.c
      omega
    · rw [Option.map_eq_some_iff] at h
      obtain ⟨r2, _, rfl⟩ := h
      show r1.c ≤ r1.c + r2.c
      omega
    · split at h
      · split at h
        · cases h
          show r1.c ≤ r1.c + _
          omega
        · cases h
      · cases h
    · cases h
  · cases h
theorem notX_c {r1 : Rx} (h : notX p r1 = some r) : r.c = r1.c := by
  unfold notX at h
  split at h
  · exact mkC_c h
  · cases h
noncomputable def condF (C : Nat → List D → M D) (ifs : List E) (e : Fr) : M D := match ifs with
  | [] => M.ret (.bl true)
  | [c] => evE C c e
  | _ => M.fail
theorem lc_run {own : List Nat} {tg : T} {k : IK} {es ifs : List E} {elt : E} {ds xs : List D} {it : Its} (e1 : evEs C es env S = .ok ds S1) (e2 : k.its ds S1 = .ok it S1) (e3 : lcF it.ok tg.put (condF C ifs) (fun e => evE C elt e) (wipeF env own) it.ds [] S1 = .ok xs S2) :
    evE C (.lc own tg k es ifs elt) env S = alloc (.lst xs) S2 := by
  rw [evE]
  have e0 : ((do
      let ds ← evEs C es env
      k.its ds) : M Its) S = .ok it S1 := by
    rw [bndR e1]; exact e2
  rw [bndR e0]
  have e4 : noexc (lcF it.ok tg.put (condF C ifs) (fun e => evE C elt e) (wipeF env own) it.ds []) S1 = .ok xs S2 := by
    unfold noexc
    rw [e3]
  exact bndR e4
/-- what is walked stays -/
theorem items_keep (hX : PrOk p) {tv : Ty2} {x : D} {u' : Ty2} {a b : Nat} (w : WF p t W S) (h : Val p W S tv x) (hi : itT p tv = some (u', a, b)) (go : Go p W S t O W1 S1 t1 c) : itemsOf x S1 = itemsOf x S := by
  have ref : ∀ {j : Nat} {k : Kd}, W[j]? = some k → k ≠ .dk → itemsOf (.ref j) S1 = itemsOf (.ref j) S := fun {j k} e hk => by
    have := go.same w e hk
    unfold itemsOf
    dsimp only
    rw [this]
  have h1 := h.pv0 w
  unfold itT at hi
  split at hi
  · rename_i q
    cases tv with
    | own _ _ _ => obtain ⟨j, ds, rfl, q1, _⟩ := h; exact ref q1 (fun z => nomatch z)
    | lst _ _ _ =>
      have h : HasTy p W _ x := h
      simp only [HasTy] at h
      obtain ⟨j, ds, rfl, q1, _⟩ := h; exact ref q1 (fun z => nomatch z)
    | scr _ _ =>
      have h : HasTy p W _ x := h
      simp only [HasTy] at h
      obtain ⟨j, ds, rfl, q1, _⟩ := h; exact ref q1 (fun z => nomatch z)
    | _ => cases q
  · obtain ⟨ds, rfl, l⟩ := PV.sq hX h1 hi
    rfl
mutual
theorem inE_ok (hX : PrOk p) (sk : SgOk p C sg) : ∀ {e : E} {G : En} {r : Rx}, inE p sg e G = some r → ∀ {W : Wl} {S : Store} {t : Nat} {env : Fr}, WF p t W S → EnvOk p W S G env → t + r.c ≤ TM → OkX p (evE C e env S) W S t G env r
  | .var i, G, r, h, W, S, t, env, w, en, hc => by
    simp only [inE] at h
    split at h
    · rename_i u q
      cases h
      obtain ⟨d, h1, h2⟩ := en.at_ i u q
      have e : evE C (.var i) env S = .ok d S := by
        rw [evE]
        unfold getV
        rw [h1]
        rfl
      refine ⟨d, S, W, t, e, Go.refl w, en, fun _ z => z, h2, fun _ => ⟨q, h1⟩, fun b hb => ?_⟩
      subst hb
      refine ⟨G, ?_, en, fun _ z => z⟩
      have hv : isOwn u = false → HasTy p W u (.bl b) := fun z => h2.has z
      cases b with
      | true =>
        rw [if_pos rfl]
        unfold mkR
        dsimp only
        split
        · have := hv rfl
          simp only [HasTy] at this
          cases this
        · rfl
      | false =>
        rw [if_neg Bool.false_ne_true]
        unfold mkR
        dsimp only
        split
        · have := hv rfl
          simp only [HasTy] at this
          cases this
        · rfl
    · cases h
  | .int i, G, r, h, W, S, t, env, w, en, hc => by
    simp only [inE] at h
    cases h
    rw [evE]
    exact OkX.lit w en (by simp only [HasTy]; exact ⟨i, rfl, Int.le_refl _, Int.le_refl _⟩)
  | .str x, G, r, h, W, S, t, env, w, en, hc => by
    simp only [inE] at h
    split at h
    · cases h
      rw [evE]
      exact OkX.lit w en (by simp only [HasTy]; exact ⟨x, rfl, Nat.le_refl _, Nat.le_refl _, by assumption⟩)
    · cases h
  | .bl b, G, r, h, W, S, t, env, w, en, hc => by
    simp only [inE] at h
    cases h
    rw [evE]
    exact OkX.lit w en (by simp only [HasTy])
  | .non, G, r, h, W, S, t, env, w, en, hc => by
    simp only [inE] at h
    cases h
    rw [evE]
    exact OkX.lit w en (by simp only [HasTy])
  | .glob d, G, r, h, W, S, t, env, w, en, hc => by
    simp only [inE, Option.map_eq_some_iff] at h
    obtain ⟨u, h1, rfl⟩ := h
    rw [evE]
    exact OkX.lit w en (litT_ok h1)
  | .fnv i, G, r, h, W, S, t, env, w, en, hc => by
    simp only [inE] at h
    cases h
    rw [evE]
    exact OkX.lit w en (by simp only [HasTy])
  | .bad, G, r, h, W, S, t, env, w, en, hc => by
    simp only [inE] at h
    cases h
  | .tup es, G, r, h, W, S, t, env, w, en, hc => by
    simp only [inE] at h
    split at h
    · rename_i ts G1 c q
      split at h
      · rename_i z
        cases h
        obtain ⟨ds, S1, W1, t1, e, go, en1, ow1, hd⟩ := inEs_ok hX sk q w en hc
        rw [evE, bndR e, if_pos (by rw [hd.length]; exact z)]
        exact OkX.val w go en1 ow1 (by simp only [HasTy]; exact ⟨ds, rfl, hd⟩) rfl
      · cases h
    · cases h
  | .lst es, G, r, h, W, S, t, env, w, en, hc => by
    simp only [inE] at h
    split at h
    · rename_i ts G1 c q
      split at h
      · rename_i z
        cases h
        obtain ⟨ds, S1, W1, t1, e, go, en1, ow1, hd⟩ := inEs_ok hX sk q w en hc
        rw [evE, bndR e, if_pos (by rw [hd.length]; exact z.1)]
        exact OkX.tr w go en1 ow1 (TR.new (by rw [hd.length]; exact Nat.le_refl _) (by rw [hd.length]; exact Nat.le_refl _) (HasTys.all (fun a b => sub_ok hX FT a b) z.2 hd))
      · cases h
    · cases h
  | .bin o a b, G, r, h, W, S, t, env, w, en, hc => by
    simp only [inE] at h
    split at h
    · rename_i r1 q1
      split at h
      · rename_i r2 q2
        split at h
        · rename_i u q3
          cases h
          have hc : t + (r1.c + r2.c) ≤ TM := hc
          rw [evE]
          exact two_ok w (inE_ok hX sk q1 w en (by omega)) hc (fun W1 S1 t1 w1 en1 hc1 => inE_ok hX sk q2 w1 en1 hc1) fun d1 d2 W2 S2 t2 w2 p1 p2 => binT_ok hX q3 p1 p2
        · cases h
      · cases h
    · cases h
  | .neg a, G, r, h, W, S, t, env, w, en, hc => by
    simp only [inE] at h
    split at h
    · rename_i r1 q1
      split at h
      · rename_i u q2
        cases h
        rw [evE]
        exact one_ok w (inE_ok hX sk q1 w en hc) fun d1 W1 S1 t1 w1 p1 => negT_ok hX q2 p1
      · cases h
    · cases h
  | .rev a, G, r, h, W, S, t, env, w, en, hc => by
    simp only [inE] at h
    split at h
    · rename_i r1 q1
      split at h
      · rename_i u q2
        cases h
        rw [evE]
        exact one_ok w (inE_ok hX sk q1 w en hc) fun d1 W1 S1 t1 w1 p1 => revT_ok hX q2 p1
      · cases h
    · cases h
  | .cmp o a b, G, r, h, W, S, t, env, w, en, hc => by
    simp only [inE] at h
    split at h
    · rename_i r1 q1
      split at h
      · rename_i r2 q2
        split at h
        · rename_i u q3
          cases h
          rw [refE_c, refX_c] at hc
          have hc : t + (r1.c + r2.c) ≤ TM := hc
          refine refE_ok (refX_ok ?_ fun d S' hr i k j ha hb he ho => ?_) fun d S' hr i k x ds ha hb he hh => ?_
          · rw [evE]
            exact two_ok w (inE_ok hX sk q1 w en (by omega)) hc (fun W1 S1 t1 w1 en1 hc1 => inE_ok hX sk q2 w1 en1 hc1) fun d1 d2 W2 S2 t2 w2 p1 p2 => tCmp_ok hX w2 q3 p1 p2
          · subst ha hb
            have e1 : evE C (.var i) env S = .ok (.int j) S := by
              rw [evE]
              unfold getV
              rw [he]
              rfl
            rw [evE, bndR e1, evE] at hr
            have hr : o.run (.int j) (.int k) S = .ok d S' := hr
            rw [ord_run ho] at hr
            cases hr
            rfl
          · subst ha
            have e1 : evE C (.var i) env S = .ok x S := by
              rw [evE]
              unfold getV
              rw [he]
              rfl
            obtain ⟨y, S1, e2, hy⟩ := empty_run (C := C) (env := env) (S := S) hb
            rw [evE, bndR e1, bndR e2] at hr
            refine ⟨fun ho => ?_, fun ho => ?_⟩
            · subst ho
              have hr : dEq x y S1 = .ok d S' := hr
              have st := dEq_st hr
              subst st
              exact (eq_empty hh hy hr).1
            · subst ho
              have hr : M.bnd (dEq x y) dNot S1 = .ok d S' := hr
              unfold M.bnd at hr
              cases q : dEq x y S1 with
              | ok b' S2 =>
                rw [q] at hr
                have st := dEq_st q
                subst st
                cases b' with
                | bl bb =>
                  cases hr
                  have := (eq_empty hh hy q).1
                  cases this
                  rfl
                | _ => cases hr
              | exc _ _ _ => rw [q] at hr; cases hr
              | bad => rw [q] at hr; cases hr
        · cases h
      · cases h
    · cases h
  | .chain o q a b cc, G, r, h, W, S, t, env, w, en, hc => by
    simp only [inE] at h
    split at h
    · rename_i r1 q1
      split at h
      · rename_i r2 q2
        split at h
        · rename_i u r3 q3 q4
          split at h
          · rename_i v g q5 q6
            split at h
            · rename_i z
              cases h
              have hc : t + (r1.c + r2.c + r3.c) ≤ TM := hc
              obtain ⟨j1, j2⟩ := joinEn_ok q6
              rw [evE]
              refine OkX.bind w (inE_ok hX sk q1 w en (by omega)) fun d1 S1 W1 t1 go1 en1 ow1 va1 pv1 tr1 => ?_
              have k2 := inE_ok hX sk q2 go1.wf en1 (by have := go1.t2; omega)
              obtain ⟨d2, S2, W2, t2, e2, go2, en2, ow2, va2, pv2, tr2⟩ := k2
              rw [bndR e2]
              have go12 := go1.trans go2 (fun j z _ => ow1 j z) w
              obtain ⟨b1, e3, _⟩ := (tCmp_ok hX go2.wf q3 ((va1.lv.go go1.wf go2).pv go2.wf) (va2.pv0 go2.wf)).bl z.1
              rw [bndR e3]
              cases b1 with
              | false =>
                obtain ⟨k1, k3⟩ := EnvOk.sub hX en2 j1
                exact OkX.val w (go12.weak (by omega) fun _ z => z) k1 (fun j z => ow1 j (ow2 j (k3 j z))) (by simp only [HasTy]; exact ⟨false, rfl⟩) rfl
              | true =>
                obtain ⟨d3, S3, W3, t3, e4, go3, en3, ow3, va3, pv3, tr3⟩ := inE_ok hX sk q4 go2.wf en2 (by have := go12.t2; omega)
                have go123 := go12.trans go3 (fun j z _ => ow1 j (ow2 j z)) w
                obtain ⟨b2, e5, _⟩ := (tCmp_ok hX go3.wf q5 ((va2.lv.go go2.wf go3).pv go3.wf) (va3.pv0 go3.wf)).bl z.2
                obtain ⟨k1, k3⟩ := EnvOk.sub hX en3 j2
                refine OkX.val w go123 k1 (fun j z => ow1 j (ow2 j (ow3 j (k3 j z)))) (by simp only [HasTy]; exact ⟨b2, rfl⟩) ?_
                show M.bnd (evE C cc env) _ S2 = _
                unfold M.bnd
                rw [e4]
                exact e5
            · cases h
          · cases h
        · cases h
      · cases h
    · cases h
  | .and a b, G, r, h, W, S, t, env, w, en, hc => by
    simp only [inE] at h
    split at h
    · rename_i r1 q1
      rw [evE]
      have := andX_c h
      exact andX_ok hX w (inE_ok hX sk q1 w en (by omega)) h hc fun g r2 W1 S1 t1 q2 w1 en1 hc1 => inE_ok hX sk q2 w1 en1 hc1
    · cases h
  | .or a b, G, r, h, W, S, t, env, w, en, hc => by
    simp only [inE] at h
    split at h
    · rename_i r1 q1
      rw [evE]
      have := orX_c h
      exact orX_ok hX w (inE_ok hX sk q1 w en (by omega)) h hc fun g r2 W1 S1 t1 q2 w1 en1 hc1 => inE_ok hX sk q2 w1 en1 hc1
    · cases h
  | .not a, G, r, h, W, S, t, env, w, en, hc => by
    simp only [inE] at h
    split at h
    · rename_i r1 q1
      rw [evE]
      have := notX_c h
      exact notX_ok hX (inE_ok hX sk q1 w en (by omega)) h
    · cases h
  | .ife cc a b, G, r, h, W, S, t, env, w, en, hc => by
    simp only [inE] at h
    split at h
    · rename_i r1 q1
      rw [evE]
      have := ifeX_c h
      exact ifeX_ok hX w (inE_ok hX sk q1 w en (by omega)) h hc (fun g r2 W1 S1 t1 q2 w1 en1 hc1 => inE_ok hX sk q2 w1 en1 hc1) fun g r2 W1 S1 t1 q2 w1 en1 hc1 => inE_ok hX sk q2 w1 en1 hc1
    · cases h
  | .ix a i, G, r, h, W, S, t, env, w, en, hc => by
    simp only [inE] at h
    split at h
    · rename_i r1 q1
      split at h
      · rename_i r2 q2
        split at h
        · rename_i u q3
          cases h
          have hc : t + (r1.c + r2.c) ≤ TM := hc
          rcases orE_some q3 with q3 | q3
          · rw [evE]
            exact two_ok w (inE_ok hX sk q1 w en (by omega)) hc (fun W1 S1 t1 w1 en1 hc1 => inE_ok hX sk q2 w1 en1 hc1) fun d1 d2 W2 S2 t2 w2 p1 p2 => ixT_ok hX q3 p1 p2
          · unfold drX at q3
            split at q3
            · rename_i v f es _
              split at q3
              · rename_i k ws _
                split at q3
                · rename_i v'
                  split at q3
                  · rename_i hz
                    obtain ⟨rfl, hf⟩ := hz
                    split at q3
                    · rename_i tv gv gk
                      split at q3
                      · rename_i u' la lb qi
                        split at q3
                        · rename_i hl
                          cases q3
                          obtain ⟨x, x1, x2⟩ := en.at_ v _ gv
                          obtain ⟨dk, k1, k2⟩ := en.at_ k _ gk
                          have k2 : HasTy p W .dk dk := k2
                          simp only [HasTy] at k2
                          obtain ⟨j, rfl, kj⟩ := k2
                          obtain ⟨ds, i1, i2, i3, i4⟩ := itT_ok hX qi (x2.pv0 w)
                          have e1 : evE C (.var v) env S = .ok x S := by rw [evE]; unfold getV; rw [x1]; rfl
                          have ek : evE C (.var k) env S = .ok (.ref j) S := by rw [evE]; unfold getV; rw [k1]; rfl
                          have el : dLen x S = .ok (.int (ds.length : Nat)) S := by
                            unfold itemsOf at i1
                            unfold dLen
                            split at i1
                            · cases i1; rfl
                            · split at i1
                              · rename_i hs; cases i1; simp only [hs]
                              · rename_i hs; cases i1; simp only [hs]
                              · cases i1
                            · cases i1
                          have ea : evEs C [.var k, .blt .len [.var v]] env S = .ok [.ref j, .int (ds.length : Nat)] S := by
                            have eb : evE C (.blt .len [.var v]) env S = .ok (.int (ds.length : Nat)) S := by
                              rw [evE, evEs, evEs, bnd_app', bndR e1]
                              exact el
                            rw [evEs, bndR ek, evEs, evEs, bnd_app', bndR eb]
                            rfl
                          have g1 : r1 = mkR tv (some v) G 0 := by
                            simp only [inE, gv] at q1
                            cases q1; rfl
                          subst g1
                          have hc : t + (0 + r2.c) ≤ TM := hc
                          obtain ⟨y, S2, W2, t2, e2, go2, en2, ow2, va2, _, _⟩ := inE_ok hX sk q2 w en (by omega)
                          have e3 : C f [.ref j, .int (ds.length : Nat)] S = .ok y S2 := by
                            rw [evE, bndR ea] at e2
                            exact e2
                          obtain ⟨rr, rfl, r0, rl⟩ := sk.dr f hf W S S2 t j ds.length y w kj (by omega) (by omega) (by omega) e3
                          have ix2 := items_keep hX w x2 qi go2
                          rw [i1] at ix2
                          obtain ⟨it, h5, h6⟩ := atI_in (xs := ds) (i := rr) (by omega) (by omega)
                          have h7 : dIx x (.int rr) S2 = .ok it S2 := by
                            unfold itemsOf at ix2
                            unfold dIx
                            split at ix2
                            · cases ix2; simp only [h5]
                            · split at ix2
                              · rename_i hs; cases ix2; simp only [hs, h5]
                              · rename_i hs; cases ix2; simp only [hs, h5]
                              · cases ix2
                            · cases ix2
                          have h8 : evE C (.ix (.var v) (.call f [.var k, .blt .len [.var v]])) env S = dIx x (.int rr) S2 := by
                            rw [evE, bndR e1, bndR e2]
                          rw [h8]
                          have h9 := OkX.tr w go2 en2 ow2 (res := dIx x (.int rr) S2) ⟨it, S2, h7, .inl ⟨rfl, (i4 it h6).mono go2.ext⟩⟩
                          have h10 : (mkR tv (some v) G 0).c + r2.c = r2.c := Nat.zero_add _
                          rw [h10]
                          exact h9
                        · cases q3
                      · cases q3
                    · cases q3
                  · cases q3
                · cases q3
              · cases q3
            · cases q3
        · cases h
      · cases h
    · cases h
  | .slLo a l, G, r, h, W, S, t, env, w, en, hc => by
    simp only [inE] at h
    split at h
    · rename_i r1 q1
      split at h
      · rename_i r2 q2
        split at h
        · rename_i q q3
          split at h
          · rename_i u q4
            cases h
            have hc : t + (r1.c + r2.c) ≤ TM := hc
            rw [evE]
            refine two_ok (f := fun x l => do
              let l ← dPart l
              dSl x l none) w (inE_ok hX sk q1 w en (by omega)) hc (fun W1 S1 t1 w1 en1 hc1 => inE_ok hX sk q2 w1 en1 hc1) fun d1 d2 W2 S2 t2 w2 p1 p2 => ?_
            obtain ⟨x, y⟩ := q
            obtain ⟨i, rfl, i1, i2⟩ := PV.int hX p2 q3
            exact slT_ok hX q4 p1 ⟨i, rfl, i1, i2⟩ rfl
          · cases h
        · cases h
      · cases h
    · cases h
  | .slHi a l, G, r, h, W, S, t, env, w, en, hc => by
    simp only [inE] at h
    split at h
    · rename_i r1 q1
      split at h
      · rename_i r2 q2
        split at h
        · rename_i q q3
          split at h
          · rename_i u q4
            cases h
            have hc : t + (r1.c + r2.c) ≤ TM := hc
            rw [evE]
            refine two_ok (f := fun x l => do
              let l ← dPart l
              dSl x none l) w (inE_ok hX sk q1 w en (by omega)) hc (fun W1 S1 t1 w1 en1 hc1 => inE_ok hX sk q2 w1 en1 hc1) fun d1 d2 W2 S2 t2 w2 p1 p2 => ?_
            obtain ⟨x, y⟩ := q
            obtain ⟨i, rfl, i1, i2⟩ := PV.int hX p2 q3
            exact slT_ok hX q4 p1 rfl ⟨i, rfl, i1, i2⟩
          · cases h
        · cases h
      · cases h
    · cases h
  | .slLH a l hh, G, r, h, W, S, t, env, w, en, hc => by
    simp only [inE] at h
    split at h
    · rename_i r1 q1
      split at h
      · rename_i r2 q2
        split at h
        · rename_i r3 q3
          split at h
          · rename_i x2 x3 q4 q5
            split at h
            · rename_i u q6
              cases h
              have hc : t + (r1.c + r2.c + r3.c) ≤ TM := hc
              rw [evE]
              refine OkX.bind w (inE_ok hX sk q1 w en (by omega)) fun d1 S1 W1 t1 go1 en1 ow1 va1 pv1 tr1 => ?_
              obtain ⟨d2, S2, W2, t2, e2, go2, en2, ow2, va2, pv2, tr2⟩ := inE_ok hX sk q2 go1.wf en1 (by have := go1.t2; omega)
              rw [bndR e2]
              have go12 := go1.trans go2 (fun j z _ => ow1 j z) w
              obtain ⟨x, y⟩ := x2
              obtain ⟨i, rfl, i1, i2⟩ := PV.int hX (va2.pv0 go2.wf) q4
              rw [bndR part_ok]
              obtain ⟨d3, S3, W3, t3, e4, go3, en3, ow3, va3, pv3, tr3⟩ := inE_ok hX sk q3 go2.wf en2 (by have := go12.t2; omega)
              rw [bndR e4]
              have go123 := go12.trans go3 (fun j z _ => ow1 j (ow2 j z)) w
              obtain ⟨x', y'⟩ := x3
              obtain ⟨i', rfl, i1', i2'⟩ := PV.int hX (va3.pv0 go3.wf) q5
              rw [bndR part_ok]
              exact OkX.tr w go123 en3 (fun j z => ow1 j (ow2 j (ow3 j z))) (slT_ok hX q6 (((va1.lv.go go1.wf go2).go go2.wf go3).pv go3.wf) ⟨i, rfl, i1, i2⟩ ⟨i', rfl, i1', i2'⟩)
            · cases h
          · cases h
        · cases h
      · cases h
    · cases h
  | .call f es, G, r, h, W, S, t, env, w, en, hc => by
    simp only [inE, fTys_eq] at h
    split at h
    · rename_i ts G1 c q
      split at h
      · rename_i u c1 q2
        cases h
        have hc : t + (c + c1) ≤ TM := hc
        rw [evE]
        exact call_ok sk w (inEs_ok hX sk q w en (by omega)) q2 hc
      · cases h
    · cases h
  | .callv i es, G, r, h, W, S, t, env, w, en, hc => by
    simp only [inE, fTys_eq] at h
    split at h
    · rename_i f q0
      split at h
      · rename_i ts G1 c q
        split at h
        · rename_i u c1 q2
          cases h
          have hc : t + (c + c1) ≤ TM := hc
          obtain ⟨d, h1, h2⟩ := en.at_ i _ q0
          have h2 : HasTy p W (.fnc f) d := h2
          simp only [HasTy] at h2
          subst h2
          have e1 : getV env i S = .ok (.fn f) S := by
            unfold getV
            rw [h1]
            rfl
          rw [evE, bndR e1]
          exact call_ok sk w (inEs_ok hX sk q w en (by omega)) q2 hc
        · cases h
      · cases h
    · cases h
  | .blt b es, G, r, h, W, S, t, env, w, en, hc => by
    simp only [inE] at h
    split at h
    · rename_i ts G1 c q
      split at h
      · rename_i u q2
        cases h
        obtain ⟨ds, S1, W1, t1, e, go, en1, ow1, hd⟩ := inPs_ok hX sk q w en hc
        rw [evE, bndR e]
        exact OkX.tr w go en1 ow1 (bltT_ok hX go.wf q2 (hd.pvs go.wf))
      · cases h
    · cases h
  | .isi y a, G, r, h, W, S, t, env, w, en, hc => by
    simp only [inE] at h
    split at h
    · rename_i r1 q1
      split at h
      · rename_i u q2
        cases h
        rw [evE]
        exact one_ok w (inE_ok hX sk q1 w en hc) fun d1 W1 S1 t1 w1 p1 => isiT_ok hX q2 p1
      · cases h
    · cases h
  | .mth _ _ _, G, r, h, W, S, t, env, w, en, hc => by
    simp only [inE] at h
    cases h
  | .lc own tg k es ifs elt, G, r, h, W, S, t, env, w, en, hc => by
    simp only [inE] at h
    unfold lcX at h
    split at h
    · rename_i ts G1 c q1
      split at h
      · rename_i u a b q2
        split at h
        · rename_i G2 q3
          split at h
          · rename_i G3 c2 all q4
            split at h
            · rename_i r2 q5
              split at h
              · rename_i hb
                cases h
                have hc : t + (c + b * (c2 + r2.c)) ≤ TM := hc
                obtain ⟨ds, S1, W1, t1, e1, go1, en1, ow1, hd⟩ := inPs_ok hX sk q1 w en (by omega)
                obtain ⟨it, e2, l1, l2, l3, stb⟩ := itsT_ok (B := fun k => k ≠ .dk) hX (fun _ z => nomatch z) (fun _ z => nomatch z) q2 (fun _ _ _ z => nomatch z) hd go1.wf
                obtain ⟨en0, no0⟩ := en1.dropOwn
                obtain ⟨en0, ow0⟩ := en0.wipe (is := own)
                have no0 : ∀ j, ¬ Own (wipeEn (dropOwn G1) own) (wipeF env own) j := fun j z => no0 j (ow0 j z)
                have hm : it.ds.length * (c2 + r2.c) ≤ b * (c2 + r2.c) := Nat.mul_le_mul_right _ l2
                obtain ⟨xs, S2, W2, t2, e3, go2, x1, x2, x3⟩ := lcF_ok (u := (frz r2).1) (q := it.ok) (put := tg.put) (cond := condF C ifs) (elt := fun e => evE C elt e) (G0 := wipeEn (dropOwn G1) own) (env0 := wipeF env own) (it := u) (cc := c2 + r2.c) (all := all)
                  (fun d W S t hd w en hc => by
                    obtain ⟨e2', p1, p2, p3⟩ := putT_ok (S := S) hX q3 en hd
                    have none2 : ∀ j, ¬ Own G2 e2' j := fun j z => no0 j (p3 j z)
                    obtain ⟨k, S1, W1, t1, k1, g1, h1, h2⟩ := inIf_ok hX sk q4 w p2 (by omega)
                    refine ⟨e2', k, S1, W1, t1, c2, p1, k1, g1.weak (Nat.le_refl _) (fun j z => none2 j z), by omega, h1, fun hk => ?_⟩
                    obtain ⟨x, k2, k3⟩ := h2 hk
                    cases k2
                    obtain ⟨y, S2, W2, t2, k4, g2, _, _, k5⟩ := (inE_ok hX sk q5 g1.wf k3.1 (by have := g1.t2; omega)).frz g1.wf k3.1
                    exact ⟨y, S2, W2, t2, r2.c, k4, g2.weak (Nat.le_refl _) (fun j z => none2 j (k3.2 j z)), k5, by omega⟩) it.ds [] W1 S1 t1 l3 (fun _ z => by cases z) go1.wf en0 (fun W' S' t' c' g => stb S' fun j kd h1 h2 => g.same go1.wf h1 h2) (by simp only [List.length_nil]; omega) (by have := go1.t2; omega)
                rw [lc_run e1 e2 e3]
                have go12 := go1.trans go2 (fun _ z _ => z.elim) w
                refine OkX.tr w (go12.weak (by omega) fun _ z => z) (en1.go go2) ow1 (TR.new ?_ ?_ x1)
                · split at x2
                  · rw [if_pos (by assumption)]
                    simp only [List.length_nil] at x2
                    omega
                  · rw [if_neg (by assumption)]
                    exact Nat.zero_le _
                · simp only [List.length_nil] at x3
                  omega
              · cases h
            · cases h
          · rename_i c2 all q4
            split at h
            · rename_i hb
              cases h
              have hc : t + (c + b * c2) ≤ TM := hc
              obtain ⟨ds, S1, W1, t1, e1, go1, en1, ow1, hd⟩ := inPs_ok hX sk q1 w en (by omega)
              obtain ⟨it, e2, l1, l2, l3, stb⟩ := itsT_ok (B := fun k => k ≠ .dk) hX (fun _ z => nomatch z) (fun _ z => nomatch z) q2 (fun _ _ _ z => nomatch z) hd go1.wf
              obtain ⟨en0, no0⟩ := en1.dropOwn
              obtain ⟨en0, ow0⟩ := en0.wipe (is := own)
              have no0 : ∀ j, ¬ Own (wipeEn (dropOwn G1) own) (wipeF env own) j := fun j z => no0 j (ow0 j z)
              have hm : it.ds.length * c2 ≤ b * c2 := Nat.mul_le_mul_right _ l2
              obtain ⟨xs, S2, W2, t2, e3, go2, x1, x2, x3⟩ := lcF_ok (u := .bot) (q := it.ok) (put := tg.put) (cond := condF C ifs) (elt := fun e => evE C elt e) (G0 := wipeEn (dropOwn G1) own) (env0 := wipeF env own) (it := u) (cc := c2) (all := false)
                (fun d W S t hd w en hc => by
                  obtain ⟨e2', p1, p2, p3⟩ := putT_ok (S := S) hX q3 en hd
                  have none2 : ∀ j, ¬ Own G2 e2' j := fun j z => no0 j (p3 j z)
                  obtain ⟨k, S1, W1, t1, k1, g1, h1, h2⟩ := inIf_ok hX sk q4 w p2 (by omega)
                  refine ⟨e2', k, S1, W1, t1, c2, p1, k1, g1.weak (Nat.le_refl _) (fun j z => none2 j z), by omega, (fun z => nomatch z), fun hk => ?_⟩
                  obtain ⟨x, k2, k3⟩ := h2 hk
                  cases k2) it.ds [] W1 S1 t1 l3 (fun _ z => by cases z) go1.wf en0 (fun W' S' t' c' g => stb S' fun j kd h1 h2 => g.same go1.wf h1 h2) (by simp only [List.length_nil]; omega) (by have := go1.t2; omega)
              rw [lc_run e1 e2 e3]
              have hn : xs = [] := by
                cases xs with
                | nil => rfl
                | cons x xs =>
                  have := x1 x List.mem_cons_self
                  simp only [HasTy] at this
              subst hn
              have go12 := go1.trans go2 (fun _ z _ => z.elim) w
              exact OkX.tr w (go12.weak (by omega) fun _ z => z) (en1.go go2) ow1 (TR.new (Nat.zero_le _) (Nat.le_refl _) x1)
            · cases h
          · cases h
        · cases h
      · cases h
    · cases h
theorem inIf_ok (hX : PrOk p) (sk : SgOk p C sg) : ∀ {es : List E} {G : En} {g : Option En} {c : Nat} {all : Bool}, inIf p sg es G = some (g, c, all) → ∀ {W : Wl} {S : Store} {t : Nat} {env : Fr}, WF p t W S → EnvOk p W S G env → t + c ≤ TM →
    ∃ k S1 W1 t1, condF C es env S = .ok (.bl k) S1 ∧ Go p W S t (Own G env) W1 S1 t1 c ∧ (all = true → k = true) ∧ (k = true → ∃ x, g = some x ∧ Kn p W1 S1 G x env)
  | [], G, g, c, all, h, W, S, t, env, w, en, hc => by
    simp only [inIf] at h
    cases h
    exact ⟨true, S, W, t, rfl, Go.refl w, fun _ => rfl, fun _ => ⟨G, rfl, en, fun _ z => z⟩⟩
  | [q], G, g, c, all, h, W, S, t, env, w, en, hc => by
    simp only [inIf] at h
    split at h
    · rename_i rc q6
      split at h
      · rename_i hbl
        simp only [Option.some.injEq, Prod.mk.injEq] at h
        obtain ⟨z1, z2, z3⟩ := h
        subst z2 z3
        obtain ⟨k, S1, W1, t1, k1, g1, x, k2, k3⟩ := (inE_ok hX sk q6 w en hc).truth hbl
        refine ⟨k, S1, W1, t1, k1, g1, (fun z => nomatch z), fun hk => ?_⟩
        subst hk
        rw [if_pos rfl] at k2
        exact ⟨x, by rw [← z1]; exact k2, k3⟩
      · cases h
    · cases h
  | _ :: _ :: _, G, g, c, all, h, W, S, t, env, w, en, hc => by
    simp only [inIf] at h
    cases h
theorem inEs_ok (hX : PrOk p) (sk : SgOk p C sg) : ∀ {es : List E} {G : En} {ts : List Ty2} {G1 : En} {c : Nat}, inEs p sg es G = some (ts, G1, c) → ∀ {W : Wl} {S : Store} {t : Nat} {env : Fr}, WF p t W S → EnvOk p W S G env → t + c ≤ TM → OkFs p (evEs C es env S) W S t G env ts G1 c
  | [], G, ts, G1, c, h, W, S, t, env, w, en, hc => by
    simp only [inEs] at h
    cases h
    rw [evEs]
    exact ⟨[], S, W, t, rfl, Go.refl w, en, fun _ z => z, by simp only [HasTys]⟩
  | e :: es, G, ts, G1, c, h, W, S, t, env, w, en, hc => by
    simp only [inEs] at h
    split at h
    · rename_i r1 q1
      split at h
      · rename_i ts' G2 c2 q2
        cases h
        obtain ⟨d, S1, W1, t1, e1, go1, en1, ow1, va1⟩ := (inE_ok hX sk q1 w en (by omega)).frz w en
        obtain ⟨ds, S2, W2, t2, e2, go2, en2, ow2, hd⟩ := inEs_ok hX sk q2 go1.wf en1 (by have := go1.t2; omega)
        refine ⟨d :: ds, S2, W2, t2, ?_, go1.trans go2 (fun j z _ => ow1 j z) w, en2, fun j z => ow1 j (ow2 j z), ?_⟩
        · rw [evEs, bndR e1, bndR e2]
          rfl
        · simp only [HasTys]
          exact ⟨d, ds, rfl, va1.mono go2.ext, hd⟩
      · cases h
    · cases h
theorem inPs_ok (hX : PrOk p) (sk : SgOk p C sg) : ∀ {es : List E} {G : En} {ts : List Ty2} {G1 : En} {c : Nat}, inPs p sg es G = some (ts, G1, c) → ∀ {W : Wl} {S : Store} {t : Nat} {env : Fr}, WF p t W S → EnvOk p W S G env → t + c ≤ TM → OkPs p (evEs C es env S) W S t G env ts G1 c
  | [], G, ts, G1, c, h, W, S, t, env, w, en, hc => by
    simp only [inPs] at h
    cases h
    rw [evEs]
    exact ⟨[], S, W, t, rfl, Go.refl w, en, fun _ z => z, .nil⟩
  | e :: es, G, ts, G1, c, h, W, S, t, env, w, en, hc => by
    simp only [inPs] at h
    split at h
    · rename_i r1 q1
      split at h
      · rename_i ts' G2 c2 q2
        cases h
        obtain ⟨d, S1, W1, t1, e1, go1, en1, ow1, va1, _, _⟩ := inE_ok hX sk q1 w en (by omega)
        obtain ⟨ds, S2, W2, t2, e2, go2, en2, ow2, hd⟩ := inPs_ok hX sk q2 go1.wf en1 (by have := go1.t2; omega)
        refine ⟨d :: ds, S2, W2, t2, ?_, go1.trans go2 (fun j z _ => ow1 j z) w, en2, fun j z => ow1 j (ow2 j z), .cons (va1.lv.go go1.wf go2) hd⟩
        rw [evEs, bndR e1, bndR e2]
        rfl
      · cases h
    · cases h
end
end
end Ev
namespace Ev
open PySem PySem.Spec PyProof.Rows
/-! ### the interpreter of statements -/
structure Rs where
  nx : Option En
  bk : Option En
  ct : Option En
  rt : Option Ty2
  c : Nat
def joinR (p : Prm) : Option Ty2 → Option Ty2 → Option (Option Ty2)
  | none, x => some x
  | some a, none => some (some a)
  | some a, some b => (join p a b).map some
def joinS (p : Prm) (a b : Rs) (c : Nat) : Option Rs := match joinO p a.nx b.nx, joinO p a.bk b.bk, joinO p a.ct b.ct, joinR p a.rt b.rt with
  | some n, some k, some t, some r => some ⟨n, k, t, r, c⟩
  | _, _, _, _ => none
def setX (r : Rx) (i : Nat) : En := match r.ty, r.pv with
  | .own t a b, none => r.G.set i (some (.own t a b))
  | _, _ => (frz r).2.set i (some (frz r).1)
def nxt (G : En) (c : Nat) : Rs := ⟨some G, none, none, none, c⟩
def seqS (p : Prm) (a : Rs) (k : En → Option Rs) : Option Rs := match a.nx with
  | none => some a
  | some g => match k g with
    | some b => match joinO p a.bk b.bk, joinO p a.ct b.ct, joinR p a.rt b.rt with
      | some x, some y, some z => some ⟨b.nx, x, y, z, a.c + b.c⟩
      | _, _, _ => none
    | none => none
def ifS (p : Prm) (r : Rx) (ka kb : En → Option Rs) : Option Rs := if isBl r.ty = true then (match r.tG, r.fG with
  | some g, none => (ka g).map fun s => { s with c := r.c + s.c }
  | none, some g => (kb g).map fun s => { s with c := r.c + s.c }
  | some g1, some g2 => match ka g1, kb g2 with
    | some a, some b => joinS p a b (r.c + max a.c b.c)
    | _, _ => none
  | none, none => none) else none
/-- a for, turn by turn; lo: so many turns at the least -/
def loopX (p : Prm) (put : En → Option En) (f : En → Option Rs) : Nat → Nat → En → Option Rs
  | _, 0, G => some (nxt G 0)
  | lo, n + 1, G => match put G with
    | some G1 => match f G1 with
      | some rb => match joinO p rb.nx rb.ct with
        | some none => match joinO p (if lo = 0 then some G else none) rb.bk with
          | some x => some ⟨x, none, none, rb.rt, rb.c⟩
          | none => none
        | some (some G2) => if subEn p G2 G = true then (match joinO p (some G) rb.bk with
            | some x => some ⟨x, none, none, rb.rt, (n + 1) * rb.c⟩
            | none => none) else match loopX p put f (lo - 1) n G2 with
          | some rr => match joinO p (if lo = 0 then some G else none) rb.bk with
            | some x => match joinO p x rr.nx, joinR p rb.rt rr.rt with
              | some y, some z => some ⟨y, none, none, z, rb.c + rr.c⟩
              | _, _ => none
            | none => none
          | none => none
        | none => none
      | none => none
    | none => none
/-- l.append(e) and the like, l the frame's own -/
def appX (p : Prm) (k : Nat) (args : Option (List Ty2 × En × Nat)) : Option Rs := match args with
  | some ([u], G1, c) => match G1[k]? with
    | some (some (.own t a b)) => match join p t u with
      | some v => if b + 1 ≤ LINE then some (nxt (G1.set k (some (.own v (a + 1) (b + 1)))) c) else none
      | none => none
    | _ => none
  | _ => none
/-- l[i] = e, l the frame's own -/
def subX (p : Prm) (k : Nat) (re : Rx) (ri : En → Option Rx) : Option Rs := match ri (frz re).2 with
  | some r => match r.G[k]?, asInt p r.ty with
    | some (some (.own t a b)), some (c, d) => if -(a : Int) ≤ c ∧ d < a then (match join p t (frz re).1 with
      | some v => some (nxt (r.G.set k (some (.own v a b))) (re.c + r.c))
      | none => none) else none
    | _, _ => none
  | none => none
/-- hinted -/
def inH (p : Prm) (sg : Sg) (e : E) (G : En) : Option Rx := (inE p sg e G).map (hx p sg e G)
def inHs (p : Prm) (sg : Sg) (es : List E) (G : En) : Option (List Ty2 × En × Nat) := match es with
  | [e] => (inH p sg e G).map fun r => ([(frz r).1], (frz r).2, r.c)
  | es => inEs p sg es G
def fOE {α : Type} : Option En → (Option En → α) → α
  | none, k => k none
  | some G, k => fEn G fun G => k (some G)
def fOT {α : Type} : Option Ty2 → (Option Ty2 → α) → α
  | none, k => k none
  | some t, k => fTy t fun t => k (some t)
def fRs {α : Type} : Rs → (Rs → α) → α
  | ⟨n, b, c, r, m⟩, k => fOE n fun n => fOE b fun b => fOE c fun c => fOT r fun r => fNat m fun m => k ⟨n, b, c, r, m⟩
theorem fOE_eq {α : Type} (G : Option En) (k : Option En → α) : fOE G k = k G := by
  cases G with
  | none => rfl
  | some G => rw [fOE, fEn_eq]
theorem fOT_eq {α : Type} (G : Option Ty2) (k : Option Ty2 → α) : fOT G k = k G := by
  cases G with
  | none => rfl
  | some G => rw [fOT, fTy_eq]
theorem fRs_eq {α : Type} (r : Rs) (k : Rs → α) : fRs r k = k r := by
  cases r
  rw [fRs, fOE_eq, fOE_eq, fOE_eq, fOT_eq, fNat_eq]
def hsR : Option Ty2 → Rs → Rs
  | none, rs => { rs with rt := none, bk := none, ct := none }
  | some u, rs => { rs with nx := none, bk := none, ct := none, rt := some u }
def hsx (p : Prm) (sg : Sg) (b : List St) (G : En) (rs : Rs) : Rs := match p.bs.find? (fun h => decide (h.rk ≤ sg.n) && (eqSs h.b b && (subEn p G h.G && flatO h.o))) with
  | some h => hsR h.o rs
  | none => rs
/-! cases of what is taken apart -/
def altK (p : Prm) : Ty2 → List Ty2
  | .nm k => match p.sp k with
    | [] => [.nm k]
    | u :: us => u :: us
  | t => [t]
def altTs (p : Prm) : List Ty2 → List (List Ty2)
  | [] => [[]]
  | t :: ts => (altK p t).flatMap fun u => (altTs p ts).map (u :: ·)
def alts (p : Prm) : Ty2 → List Ty2
  | .tup ts => (altTs p ts).map .tup
  | t => altK p t
def asgOf : St → Option (T × E)
  | .asg tg e => some (tg, e)
  | _ => none
def putAll (p : Prm) (tg : T) : List Ty2 → En → Option (List En)
  | [], _ => some []
  | t :: ts, G => match putT p tg t G, putAll p tg ts G with
    | some g, some gs => some (g :: gs)
    | _, _ => none
def altOf (p : Prm) (sg : Sg) (s : St) (G : En) : Option (Nat × List En) := match asgOf s with
  | some (tg, e) => match inH p sg e G with
    | some r => match alts p (frz r).1 with
      | [] => none
      | [_] => none
      | ts => (putAll p tg ts (frz r).2).map fun gs => (r.c, gs)
    | none => none
  | none => none
def altC (p : Prm) (c : Nat) (z : Bool) (a b : Option Rs) : Option Rs := match z with
  | true => a.map fun s => { s with c := c + s.c }
  | false => match a, b with
    | some a, some b => joinS p { a with c := c + a.c } b (max (c + a.c) b.c)
    | _, _ => none
def altS (p : Prm) (c : Nat) : List En → (En → Option Rs) → Option Rs
  | [], _ => none
  | g :: gs, k => altC p c gs.isEmpty (k g) (altS p c gs k)
section
variable (p : Prm) (sg : Sg)
mutual
def inS : St → En → Option Rs
  | .set i e, G => match inH p sg e G with
    | some r => if i < r.G.length then some (nxt (setX r i) r.c) else none
    | none => none
  | .asg tg e, G => match inH p sg e G with
    | some r => match putT p tg (frz r).1 (frz r).2 with
      | some G1 => some (nxt G1 r.c)
      | none => none
    | none => none
  | .par2 i j a b, G => match inEs p sg [a, b] G with
    | some ([t, u], G1, c) => some (nxt ((G1.set i (some t)).set j (some u)) c)
    | _ => none
  | .par3 i j k a b d, G => match inEs p sg [a, b, d] G with
    | some ([t, u, v], G1, c) => some (nxt (((G1.set i (some t)).set j (some u)).set k (some v)) c)
    | _ => none
  | .sub o i e, G => match o with
    | .var k => match inE p sg e G with
      | some re => subX p k re fun g => inE p sg i g
      | none => none
    | _ => none
  | .drop e, G => match e with
    | .mth .append (.var k) es => match G[k]? with
      | some (some (.own _ _ _)) => appX p k (inHs p sg es G)
      | _ => none
    | e => match inE p sg e G with
      | some r => some (nxt r.G r.c)
      | none => none
  | .ret e, G => match inH p sg e G with
    | some r => some ⟨none, none, none, some r.ty, r.c⟩
    | none => none
  | .retN, _ => some ⟨none, none, none, some .non, 0⟩
  | .ife c a b, G => match inH p sg c G with
    | some r => ifS p r (fun g => inSs a g) fun g => inSs b g
    | none => none
  | .whl _ _, _ => none
  | .for tg k es b, G => match inEs p sg es G with
    | some (ts, G1, c) => match itsT p k ts with
      | some (t, lo, n) => match loopX p (fun g => putT p tg t g) (fun g => inSs b g) lo n G1 with
        | some r => some { r with c := c + r.c }
        | none => none
      | none => none
    | none => none
  | .aug i o e, G => match G[i]? with
    | some (some (.int a b)) => match inE p sg e G with
      | some r => match asInt p r.ty, o with
        | some (c, d), .add => some (nxt (r.G.set i (some (.int (a + c) (b + d)))) r.c)
        | some (c, d), .sub => some (nxt (r.G.set i (some (.int (a - d) (b - c)))) r.c)
        | _, _ => none
      | none => none
    | _ => none
  | .pass, G => some (nxt G 0)
  | .brk, G => some ⟨none, some G, none, none, 0⟩
  | .cont, G => some ⟨none, none, some G, none, 0⟩
  | .raise _, _ => none
def inSs : List St → En → Option Rs
  | [], G => some (nxt G 0)
  | s :: ss, G => (match altOf p sg s G with
    | some (c, Gs) => altS p c Gs fun g => fEn g fun g => inSs ss g
    | none => match inS s G with
      | some a => fRs a fun a => seqS p a fun g => inSs ss g
      | none => none).map (hsx p sg (s :: ss) G)
end
/-- a def at these types -/
def inF (fd : FD) (ts : List Ty2) : Option (Ty2 × Nat) := if ts.length = fd.ps ∧ fd.ps ≤ fd.slots then (match inSs p sg fd.body (ts.map some ++ List.replicate (fd.slots - fd.ps) none) with
  | some r => match r.bk, r.ct, joinR p r.rt (r.nx.map fun _ => .non) with
    | none, none, some (some u) => some (u, r.c)
    | _, _, _ => none
  | none => none) else none
end
/-! ### what it says -/
structure GoM (p : Prm) (W : Wl) (S : Store) (t : Nat) (O : Nat → Prop) (W' : Wl) (S' : Store) (t' c : Nat) : Prop where
  ext : Ext W W'
  wf : WF p t' W' S'
  t1 : t ≤ t'
  t2 : t' ≤ t + c
  fr : ∀ (j : Nat), W[j]? = some .ow → ¬ O j → S'[j]? = S[j]? ∧ W'[j]? = some .ow
  grow : S.length ≤ S'.length
def KnS (p : Prm) (W : Wl) (S : Store) (n : Nat) (G0 : En) (env0 : Fr) (G : En) (env : Fr) : Prop := EnvOk p W S G env ∧ ∀ j, Own G env j → Own G0 env0 j ∨ n ≤ j
def FlOk (p : Prm) (W' : Wl) (S' : Store) (n : Nat) (G : En) (env : Fr) (r : Rs) (fl : Fl) (env' : Fr) : Prop := match fl with
  | .nx => ∃ g, r.nx = some g ∧ KnS p W' S' n G env g env'
  | .bk => ∃ g, r.bk = some g ∧ KnS p W' S' n G env g env'
  | .ct => ∃ g, r.ct = some g ∧ KnS p W' S' n G env g env'
  | .rt d => ∃ u, r.rt = some u ∧ Val p W' S' u d ∧ (isOwn u = true → ∃ j : Nat, d = .ref j ∧ (Own G env j ∨ n ≤ j))
def OkS (p : Prm) (res : Res (Fl × Fr)) (W : Wl) (S : Store) (t : Nat) (G : En) (env : Fr) (r : Rs) : Prop :=
  ∃ fl env' S' W' t', res = .ok (fl, env') S' ∧ GoM p W S t (Own G env) W' S' t' r.c ∧ FlOk p W' S' S.length G env r fl env'
section
variable {p : Prm} {W W1 W2 : Wl} {S S1 S2 : Store} {t t1 t2 c c1 c2 : Nat} {O O1 O2 : Nat → Prop} {G G1 G2 : En} {env env1 : Fr} {u v : Ty2} {d : D} {res : Res D} {r : Rx} {rs : Rs}
theorem Go.m (a : Go p W S t O W1 S1 t1 c) : GoM p W S t O W1 S1 t1 c :=
  ⟨a.ext, a.wf, a.t1, a.t2, fun j h n => by
    obtain ⟨h1, h2⟩ := a.fr j h
    rcases h2 with h2 | ⟨h2, _⟩
    · exact ⟨h1, h2⟩
    · exact absurd h2 n, a.grow⟩
theorem GoM.trans (a : GoM p W S t O W1 S1 t1 c1) (b : GoM p W1 S1 t1 O1 W2 S2 t2 c2) (ho : ∀ j, O1 j → j < S.length → O j) (w : WF p t W S) : GoM p W S t O W2 S2 t2 (c1 + c2) where
  ext := a.ext.trans b.ext
  wf := b.wf
  t1 := Nat.le_trans a.t1 b.t1
  t2 := by have := a.t2; have := b.t2; omega
  fr := fun j h n => by
    obtain ⟨h1, h2⟩ := a.fr j h n
    obtain ⟨k1, k2⟩ := b.fr j h2 fun z => n (ho j z (Go.lt w h))
    exact ⟨k1.trans h1, k2⟩
  grow := Nat.le_trans a.grow b.grow
theorem GoM.weak (a : GoM p W S t O W1 S1 t1 c) (h : c ≤ c1) (ho : ∀ j, O j → O1 j) : GoM p W S t O1 W1 S1 t1 c1 :=
  ⟨a.ext, a.wf, a.t1, by have := a.t2; omega, fun j h n => a.fr j h fun z => n (ho j z), a.grow⟩
theorem KnS.lt {n : Nat} {G0 : En} {env0 : Fr} (k : KnS p W S n G0 env0 G env) {j : Nat} (h : Own G env j) (hl : j < n) : Own G0 env0 j := by
  rcases k.2 j h with z | z
  · exact z
  · omega
/-- one statement behind another -/
theorem FlOk.from {n m : Nat} {G0 : En} {env0 : Fr} {fl : Fl} {env' : Fr} (hn : n ≤ m) (k : ∀ j, Own G env j → Own G0 env0 j ∨ n ≤ j) (h : FlOk p W S m G env rs fl env') : FlOk p W S n G0 env0 rs fl env' := by
  have key : ∀ {g : En} {e : Fr}, KnS p W S m G env g e → KnS p W S n G0 env0 g e := fun ⟨a, b⟩ => ⟨a, fun j z => by
    rcases b j z with b | b
    · exact k j b
    · exact .inr (by omega)⟩
  cases fl with
  | nx => obtain ⟨g, h1, h2⟩ := h; exact ⟨g, h1, key h2⟩
  | bk => obtain ⟨g, h1, h2⟩ := h; exact ⟨g, h1, key h2⟩
  | ct => obtain ⟨g, h1, h2⟩ := h; exact ⟨g, h1, key h2⟩
  | rt d =>
    obtain ⟨u, h1, h2, h3⟩ := h
    refine ⟨u, h1, h2, fun ho => ?_⟩
    obtain ⟨j, e, z⟩ := h3 ho
    refine ⟨j, e, ?_⟩
    rcases z with z | z
    · exact k j z
    · exact .inr (by omega)
theorem OkS.from (w : WF p t W S) (go : GoM p W S t (Own G env) W1 S1 t1 c) {res : Res (Fl × Fr)} (kn : ∀ j, Own G1 env1 j → Own G env j ∨ S.length ≤ j) (h : OkS p res W1 S1 t1 G1 env1 rs) : OkS p res W S t G env { rs with c := c + rs.c } := by
  obtain ⟨fl, e', S2, W2, t2, e, go2, f⟩ := h
  refine ⟨fl, e', S2, W2, t2, e, go.trans go2 (fun j z hl => ?_) w, ?_⟩
  · rcases kn j z with q | q
    · exact q
    · omega
  · have := FlOk.from go.grow kn f
    cases fl <;> exact this
theorem okNx {res : Res (Fl × Fr)} (go : GoM p W S t (Own G env) W1 S1 t1 c) (e : res = .ok (.nx, env1) S1) (k : KnS p W1 S1 S.length G env G1 env1) : OkS p res W S t G env (nxt G1 c) := ⟨.nx, env1, S1, W1, t1, e, go, G1, rfl, k⟩
variable (hX : PrOk p)
include hX in
theorem joinO_ls {n : Nat} {G0 : En} {env0 : Fr} {a b : Option En} {g : Option En} (h : joinO p a b = some g) {x : En} (ha : a = some x) (k : KnS p W S n G0 env0 x env) : ∃ y, g = some y ∧ KnS p W S n G0 env0 y env := by
  subst ha
  cases b with
  | none => cases h; exact ⟨x, rfl, k⟩
  | some b =>
    unfold joinO at h
    rw [Option.map_eq_some_iff] at h
    obtain ⟨y, h1, rfl⟩ := h
    obtain ⟨k1, k2⟩ := EnvOk.sub hX k.1 (joinEn_ok h1).1
    exact ⟨y, rfl, k1, fun j z => k.2 j (k2 j z)⟩
include hX in
theorem joinO_rs {n : Nat} {G0 : En} {env0 : Fr} {a b : Option En} {g : Option En} (h : joinO p a b = some g) {x : En} (ha : b = some x) (k : KnS p W S n G0 env0 x env) : ∃ y, g = some y ∧ KnS p W S n G0 env0 y env := by
  subst ha
  cases a with
  | none => cases h; exact ⟨x, rfl, k⟩
  | some a =>
    unfold joinO at h
    rw [Option.map_eq_some_iff] at h
    obtain ⟨y, h1, rfl⟩ := h
    obtain ⟨k1, k2⟩ := EnvOk.sub hX k.1 (joinEn_ok h1).2
    exact ⟨y, rfl, k1, fun j z => k.2 j (k2 j z)⟩
/-- a returned value -/
def RtOk (p : Prm) (W : Wl) (S : Store) (n : Nat) (G : En) (env : Fr) (u : Ty2) (d : D) : Prop := Val p W S u d ∧ (isOwn u = true → ∃ j : Nat, d = .ref j ∧ (Own G env j ∨ n ≤ j))
theorem ownOf_ref (h : Val p W S u d) (ho : isOwn u = true) : ∃ t a b, u = .own t a b := by
  cases u <;> first
    | exact ⟨_, _, _, rfl⟩
    | cases ho
include hX in
theorem RtOk.sub {n : Nat} (h : RtOk p W S n G env u d) (hs : subT p u v = true) : RtOk p W S n G env v d := by
  refine ⟨Val.sub hX h.1 hs, fun ho => ?_⟩
  by_cases hu : isOwn u = true
  · exact h.2 hu
  · exfalso
    have hu : isOwn u = false := by simpa using hu
    have hv := Val.sub hX h.1 hs
    have k := h.1.has hu
    cases v <;> first
      | (cases ho; done)
      | skip
    unfold subT at hs
    split at hs
    · cases hu
    · exact sub_ownF FT hX hs k
include hX in
theorem joinR_l {n : Nat} {a b g : Option Ty2} (h : joinR p a b = some g) (ha : a = some u) (k : RtOk p W S n G env u d) : ∃ y, g = some y ∧ RtOk p W S n G env y d := by
  subst ha
  cases b with
  | none => cases h; exact ⟨u, rfl, k⟩
  | some b =>
    unfold joinR at h
    rw [Option.map_eq_some_iff] at h
    obtain ⟨y, h1, rfl⟩ := h
    exact ⟨y, rfl, k.sub hX (join_ok h1).1⟩
include hX in
theorem joinR_r {n : Nat} {a b g : Option Ty2} (h : joinR p a b = some g) (ha : b = some u) (k : RtOk p W S n G env u d) : ∃ y, g = some y ∧ RtOk p W S n G env y d := by
  subst ha
  cases a with
  | none => cases h; exact ⟨u, rfl, k⟩
  | some a =>
    unfold joinR at h
    rw [Option.map_eq_some_iff] at h
    obtain ⟨y, h1, rfl⟩ := h
    exact ⟨y, rfl, k.sub hX (join_ok h1).2⟩
include hX in
theorem joinS_ok {a b : Rs} {c' n : Nat} {G0 : En} {env0 : Fr} {fl : Fl} {env' : Fr} (h : joinS p a b c' = some rs) (hf : FlOk p W S n G0 env0 a fl env' ∨ FlOk p W S n G0 env0 b fl env') : FlOk p W S n G0 env0 rs fl env' ∧ rs.c = c' := by
  unfold joinS at h
  split at h
  · rename_i x y z w h1 h2 h3 h4
    cases h
    refine ⟨?_, rfl⟩
    rcases hf with hf | hf
    · cases fl with
      | nx => obtain ⟨g, e, k⟩ := hf; exact joinO_ls hX h1 e k
      | bk => obtain ⟨g, e, k⟩ := hf; exact joinO_ls hX h2 e k
      | ct => obtain ⟨g, e, k⟩ := hf; exact joinO_ls hX h3 e k
      | rt d => obtain ⟨u, e, k⟩ := hf; exact joinR_l hX h4 e k
    · cases fl with
      | nx => obtain ⟨g, e, k⟩ := hf; exact joinO_rs hX h1 e k
      | bk => obtain ⟨g, e, k⟩ := hf; exact joinO_rs hX h2 e k
      | ct => obtain ⟨g, e, k⟩ := hf; exact joinO_rs hX h3 e k
      | rt d => obtain ⟨u, e, k⟩ := hf; exact joinR_r hX h4 e k
  · cases h
end
end Ev
namespace Ev
open PySem PySem.Spec PyProof.Rows
section
variable {p : Prm} {W W1 W2 : Wl} {S S1 S2 : Store} {t t1 t2 c c1 c2 : Nat} {O O1 O2 : Nat → Prop} {G G1 G2 : En} {env env1 : Fr} {u v : Ty2} {d : D} {r : Rx} {rs : Rs}
variable (hX : PrOk p)
/-! ### a slot set -/
theorem setX_ok {res : Res D} {i : Nat} (w : WF p t W S) (en0 : EnvOk p W S G env) (h : OkX p res W S t G env r) : ∃ d S' W' t', res = .ok d S' ∧ Go p W S t (Own G env) W' S' t' r.c ∧ KnS p W' S' S.length G env (setX r i) (env.set i (some d)) := by
  have other : (setX r i = (frz r).2.set i (some (frz r).1)) → ∃ d S' W' t', res = .ok d S' ∧ Go p W S t (Own G env) W' S' t' r.c ∧ KnS p W' S' S.length G env (setX r i) (env.set i (some d)) := fun e => by
    obtain ⟨d, S1, W1, t1, e1, go, en, ow, va⟩ := h.frz w en0
    obtain ⟨k1, k2⟩ := en.put1 (i := i) va
    exact ⟨d, S1, W1, t1, e1, go, by rw [e]; exact k1, fun j z => .inl (ow j (k2 j (by rw [← e]; exact z)))⟩
  unfold setX
  split
  · rename_i u a b q1 q2
    obtain ⟨d, S1, W1, t1, e1, go, en, ow, va, pv, _⟩ := h
    rw [q1] at va pv
    rw [q2] at pv
    obtain ⟨j, e2, hge⟩ := pv rfl
    obtain ⟨k1, k2⟩ := en.put (i := i) va (fun _ k t hk e3 o3 e4 => by
      subst e2
      have := en0.own_lt w (ow j ⟨k, t, e3, o3, e4⟩)
      omega)
    refine ⟨d, S1, W1, t1, e1, go, k1, fun m z => ?_⟩
    rcases k2 m z with z | ⟨_, z⟩
    · exact .inl (ow m z)
    · rw [e2] at z
      cases z
      exact .inr hge
  · rename_i n1
    have e : setX r i = (frz r).2.set i (some (frz r).1) := by
      unfold setX
      split
      · rename_i u a b q1 q2
        exact absurd q2 (n1 u a b q1)
      · rfl
    obtain ⟨d, S1, W1, t1, e1, go, k⟩ := other e
    rw [e] at k
    exact ⟨d, S1, W1, t1, e1, go, k⟩
/-! ### an own list changed -/
theorem own_set {j : Nat} {ys : List D} (w : WF p t W S) (h1 : W[j]? = some .ow) : GoM p W S t (fun k => k = j) W (S.set j (.lst ys)) t 0 := by
  have hl : j < S.length := Go.lt w h1
  have ne : ∀ {i : Nat}, i ≠ j → (S.set j (.lst ys))[i]? = S[i]? := fun h => List.getElem?_set_ne (fun e => h e.symm)
  have nj : ∀ {i : Nat} {k : Kd}, W[i]? = some k → k ≠ .ow → i ≠ j := fun {i k} e hk z => by
    subst z
    rw [h1] at e
    cases e
    exact hk rfl
  refine ⟨.refl, ⟨by rw [List.length_set]; exact w.len, fun i es e => ?_, fun i es e => ?_, fun i e => ?_, fun i e => ?_⟩, Nat.le_refl _, Nat.le_refl _, fun i e n => ⟨ne n, e⟩, by rw [List.length_set]; exact Nat.le_refl _⟩
  · rw [ne (nj e fun z => nomatch z)]
    exact w.fz i es e
  · rw [ne (nj e fun z => nomatch z)]
    exact w.sc i es e
  · rw [ne (nj e fun z => nomatch z)]
    exact w.dk i e
  · by_cases hi : i = j
    · subst hi
      exact ⟨ys, by rw [List.getElem?_set_self hl]⟩
    · rw [ne hi]
      exact w.ow i e
theorem own_upd {j k : Nat} {ys : List D} {t' : Ty2} {a b a' b' : Nat} (w : WF p t W S) (en : EnvOk p W S G env) (hk : G[k]? = some (some (.own t' a b))) (he : env[k]? = some (some (.ref j))) (h1 : W[j]? = some .ow)
    (l1 : a' ≤ ys.length) (l2 : ys.length ≤ b') (l3 : ∀ x ∈ ys, HasTy p W v x) : EnvOk p W (S.set j (.lst ys)) (G.set k (some (.own v a' b'))) env ∧ ∀ m, Own (G.set k (some (.own v a' b'))) env m → Own G env m := by
  have hl : j < S.length := Go.lt w h1
  have hkl : k < G.length := (List.getElem?_eq_some_iff.mp hk).1
  have get : ∀ {i : Nat} {u : Ty2}, (G.set k (some (.own v a' b')))[i]? = some (some u) → (i = k ∧ u = .own v a' b') ∨ (i ≠ k ∧ G[i]? = some (some u)) := fun {i u} e => by
    by_cases hi : i = k
    · subst hi
      rw [List.getElem?_set_self hkl] at e
      cases e
      exact .inl ⟨rfl, rfl⟩
    · rw [List.getElem?_set_ne (fun z => hi z.symm)] at e
      exact .inr ⟨hi, e⟩
  refine ⟨⟨by rw [List.length_set]; exact en.len, fun i u e => ?_, fun i l u u' x e1 o1 e2 o2 e3 e4 => ?_⟩, fun m ⟨i, u, e1, o1, e2⟩ => ?_⟩
  · rcases get e with ⟨rfl, rfl⟩ | ⟨hi, e⟩
    · exact ⟨_, he, j, ys, rfl, h1, by rw [List.getElem?_set_self hl], l1, l2, l3⟩
    · obtain ⟨x, z1, z2⟩ := en.at_ i u e
      refine ⟨x, z1, ?_⟩
      by_cases hu : isOwn u = true
      · obtain ⟨t1, a1, b1, rfl⟩ := ownOf_ref z2 hu
        obtain ⟨m, ds, rfl, m1, m2, m3⟩ := z2
        have hm : m ≠ j := fun z => by
          subst z
          exact hi (en.uniq i k _ _ _ e hu hk rfl z1 he)
        exact ⟨m, ds, rfl, m1, by rw [List.getElem?_set_ne (fun z => hm z.symm)]; exact m2, m3⟩
      · exact Val.of (z2.has (by simpa using hu))
  · rcases get e1 with ⟨rfl, rfl⟩ | ⟨hi, f1⟩
    · rcases get e2 with ⟨rfl, rfl⟩ | ⟨hl2, f2⟩
      · rfl
      · exact en.uniq _ l _ u' x hk rfl f2 o2 e3 e4
    · rcases get e2 with ⟨rfl, rfl⟩ | ⟨hl2, f2⟩
      · exact en.uniq i _ u _ x f1 o1 hk rfl e3 e4
      · exact en.uniq i l u u' x f1 o1 f2 o2 e3 e4
  · rcases get e1 with ⟨rfl, rfl⟩ | ⟨hi, e1⟩
    · exact ⟨_, _, hk, rfl, e2⟩
    · exact ⟨i, u, e1, o1, e2⟩
variable {C : Nat → List D → M D} {sg : Sg}
include hX in
theorem appX_ok {k : Nat} {es : List E} {t0 : Ty2} {a0 b0 : Nat} (hk : G[k]? = some (some (.own t0 a0 b0))) {args : Option (List Ty2 × En × Nat)} (h : appX p k args = some rs) (w : WF p t W S) (en : EnvOk p W S G env)
    (ha : ∀ ts G1 c, args = some (ts, G1, c) → OkFs p (evEs C es env S) W S t G env ts G1 c) : OkS p (evS C (.drop (.mth .append (.var k) es)) env S) W S t G env rs := by
  unfold appX at h
  split at h
  · rename_i u G1 c
    obtain ⟨ds, S1, W1, t1, e1, go, en1, ow1, hd⟩ := ha _ _ _ rfl
    split at h
    · rename_i t' a b q
      split at h
      · rename_i v' q2
        split at h
        · rename_i hb
          cases h
          obtain ⟨j1, j2⟩ := join_ok q2
          obtain ⟨x0, z1, z2⟩ := en.at_ k _ hk
          obtain ⟨j, xs0, rfl, m1, m2, _⟩ := z2
          obtain ⟨x1, y1, y2⟩ := en1.at_ k _ q
          rw [z1] at y1
          cases y1
          obtain ⟨j', xs, e', n1, n2, l1, l2, l3⟩ := y2
          cases e'
          simp only [HasTys] at hd
          obtain ⟨x, _, rfl, hx, rfl⟩ := hd
          have ev : evS C (.drop (.mth .append (.var k) es)) env S = .ok (.nx, env) (S1.set j (.lst (xs ++ [x]))) := by
            rw [evS]
            have e2 : evE C (.mth .append (.var k) es) env S = .ok .non (S1.set j (.lst (xs ++ [x]))) := by
              have g : evE C (.var k) env S = .ok (.ref j) S := by
                rw [evE]
                unfold getV
                rw [z1]
                rfl
              rw [evE, bndR g]
              have ck : chk (Mth.kd .append (.ref j)) S = .ok () S := by
                unfold chk
                rw [if_pos (by simp only [Mth.kd, isLst, m2])]
              rw [bndR ck, bndR e1]
              simp only [Mth.run, Ev.m1, dAppend, n2]
              rw [if_pos (by omega)]
            rw [bndR e2]
            rfl
          have up := own_upd (v := v') (a' := a + 1) (b' := b + 1) (ys := xs ++ [x]) go.wf en1 q z1 n1 (by rw [List.length_append, List.length_singleton]; omega) (by rw [List.length_append, List.length_singleton]; omega) (all_app (fun y hy => subT_ok j1 hX (l3 y hy)) (fun y hy => by
            rw [List.mem_singleton.mp hy]
            exact subT_ok j2 hX hx))
          have oj : Own G env j := ow1 j ⟨k, _, q, rfl, z1⟩
          exact okNx (go.m.trans (own_set go.wf n1) (fun m hm _ => by subst hm; exact oj) w) ev ⟨up.1, fun m hm => .inl (ow1 m (up.2 m hm))⟩
        · cases h
      · cases h
    · cases h
  · cases h
include hX in
theorem subX_ok {k : Nat} {e i : E} {re : Rx} {ri : En → Option Rx} (h : subX p k re ri = some rs) (hc : t + rs.c ≤ TM) (w : WF p t W S) (en : EnvOk p W S G env) (h1 : OkX p (evE C e env S) W S t G env re)
    (hi : ∀ g r W S t, ri g = some r → WF p t W S → EnvOk p W S g env → t + r.c ≤ TM → OkX p (evE C i env S) W S t g env r) : OkS p (evS C (.sub (.var k) i e) env S) W S t G env rs := by
  unfold subX at h
  split at h
  · rename_i r q0
    split at h
    · rename_i t' a b cc dd q1 q2
      split at h
      · rename_i hr
        split at h
        · rename_i v' q3
          cases h
          have hc : t + (re.c + r.c) ≤ TM := hc
          obtain ⟨x, S1, W1, t1, e1, go1, en1, ow1, hx⟩ := h1.frz w en
          obtain ⟨di, S2, W2, t2, e2, go2, en2, ow2, va2, _, _⟩ := hi _ r W1 S1 t1 q0 go1.wf en1 (by have := go1.t2; omega)
          obtain ⟨ii, rfl, i1, i2⟩ := PV.int hX (va2.pv0 go2.wf) q2
          obtain ⟨j1, j2⟩ := join_ok q3
          obtain ⟨x1, y1, y2⟩ := en2.at_ k _ q1
          obtain ⟨j, xs, rfl, n1, n2, l1, l2, l3⟩ := y2
          obtain ⟨m, hm⟩ : ∃ m, L2.ixN xs.length ii = some m := by
            unfold L2.ixN
            by_cases h0 : 0 ≤ ii
            · rw [if_pos h0, if_pos (by omega)]; exact ⟨_, rfl⟩
            · rw [if_neg h0, if_pos (by omega)]; exact ⟨_, rfl⟩
          have ev : evS C (.sub (.var k) i e) env S = .ok (.nx, env) (S2.set j (.lst (xs.set m x))) := by
            rw [evS, bndR e1]
            have g : evE C (.var k) env S1 = .ok (.ref j) S1 := by
              rw [evE]
              unfold getV
              rw [y1]
              rfl
            rw [bndR g, bndR e2]
            have s : dSet (.ref j) (.int ii) x S2 = .ok () (S2.set j (.lst (xs.set m x))) := by
              unfold dSet
              simp only [n2, hm]
            rw [bndR s]
            rfl
          have up := own_upd (v := v') (a' := a) (b' := b) (ys := xs.set m x) go2.wf en2 q1 y1 n1 (by rw [List.length_set]; exact l1) (by rw [List.length_set]; exact l2) (fun y hy => by
            rcases List.mem_or_eq_of_mem_set hy with z | z
            · exact subT_ok j1 hX (l3 y z)
            · rw [z]; exact subT_ok j2 hX (hx.mono go2.ext))
          have go12 := go1.trans go2 (fun j z _ => ow1 j z) w
          have oj : Own G env j := ow1 j (ow2 j ⟨k, _, q1, rfl, y1⟩)
          exact okNx (go12.m.trans (own_set go2.wf n1) (fun m hm _ => by subst hm; exact oj) w) ev ⟨up.1, fun m hm => .inl (ow1 m (ow2 m (up.2 m hm)))⟩
        · cases h
      · cases h
    · cases h
  · cases h
/-! ### behind one another -/
include hX in
theorem seqS_ok {a : Rs} {k : En → Option Rs} {m n : Fr → M (Fl × Fr)} (h : seqS p a k = some rs) (hc : t + rs.c ≤ TM) (w : WF p t W S) (h1 : OkS p (m env S) W S t G env a)
    (hk : ∀ g b W S t env, k g = some b → WF p t W S → EnvOk p W S g env → t + b.c ≤ TM → OkS p (n env S) W S t g env b) : OkS p (seqM m n env S) W S t G env rs := by
  unfold seqS at h
  obtain ⟨fl, e1, S1, W1, t1, e, go, f⟩ := h1
  have sq : seqM m n env S = (match fl with
    | .nx => n e1 S1
    | f => .ok (f, e1) S1) := by
    unfold seqM
    rw [bndR e]
    cases fl <;> rfl
  split at h
  · rename_i q
    cases h
    cases fl with
    | nx =>
      obtain ⟨g, z, _⟩ := f
      rw [q] at z
      cases z
    | rt d => exact ⟨.rt d, e1, S1, W1, t1, sq, go, f⟩
    | bk => exact ⟨.bk, e1, S1, W1, t1, sq, go, f⟩
    | ct => exact ⟨.ct, e1, S1, W1, t1, sq, go, f⟩
  · rename_i g q
    split at h
    · rename_i b q2
      split at h
      · rename_i x y z h1 h2 h3
        cases h
        have hc : t + (a.c + b.c) ≤ TM := hc
        cases fl with
        | nx =>
          obtain ⟨g', z1, kn⟩ := f
          rw [q] at z1
          cases z1
          have o2 := OkS.from w go kn.2 (hk _ b W1 S1 t1 e1 q2 go.wf kn.1 (by have := go.t2; omega))
          obtain ⟨fl2, e2, S2, W2, t2, e', go2, f2⟩ := o2
          refine ⟨fl2, e2, S2, W2, t2, sq.trans e', go2, ?_⟩
          cases fl2 with
          | nx => exact f2
          | bk => obtain ⟨g, e, k⟩ := f2; exact joinO_rs hX h1 e k
          | ct => obtain ⟨g, e, k⟩ := f2; exact joinO_rs hX h2 e k
          | rt d => obtain ⟨u, e, k⟩ := f2; exact joinR_r hX h3 e k
        | rt d =>
          obtain ⟨u, e', k⟩ := f
          exact ⟨.rt d, e1, S1, W1, t1, sq, go.weak (by show a.c ≤ a.c + b.c; omega) fun _ z => z, joinR_l hX h3 e' k⟩
        | bk =>
          obtain ⟨g, e', k⟩ := f
          exact ⟨.bk, e1, S1, W1, t1, sq, go.weak (by show a.c ≤ a.c + b.c; omega) fun _ z => z, joinO_ls hX h1 e' k⟩
        | ct =>
          obtain ⟨g, e', k⟩ := f
          exact ⟨.ct, e1, S1, W1, t1, sq, go.weak (by show a.c ≤ a.c + b.c; omega) fun _ z => z, joinO_ls hX h2 e' k⟩
      · cases h
    · cases h
include hX in
theorem ifS_ok {mc : M D} {ma mb : M (Fl × Fr)} {ka kb : En → Option Rs} (w : WF p t W S) (h1 : OkX p (mc S) W S t G env r) (h : ifS p r ka kb = some rs) (hc : t + rs.c ≤ TM)
    (hka : ∀ g a W S t, ka g = some a → WF p t W S → EnvOk p W S g env → t + a.c ≤ TM → OkS p (ma S) W S t g env a)
    (hkb : ∀ g a W S t, kb g = some a → WF p t W S → EnvOk p W S g env → t + a.c ≤ TM → OkS p (mb S) W S t g env a) : OkS p ((do
      let x ← mc
      tru x ma mb) S) W S t G env rs := by
  unfold ifS at h
  split at h
  case isFalse => cases h
  case isTrue hb =>
  obtain ⟨b, S1, W1, t1, e, go, x, e1, kn⟩ := h1.truth hb
  rw [bndR e]
  split at h
  · rename_i g q1 q2
    rw [Option.map_eq_some_iff] at h
    obtain ⟨a, h2, rfl⟩ := h
    have hc : t + (r.c + a.c) ≤ TM := hc
    cases b with
    | true =>
      rw [if_pos rfl, q1] at e1
      cases e1
      exact OkS.from w go.m (fun j z => .inl (kn.2 j z)) (hka _ a W1 S1 t1 h2 go.wf kn.1 (by have := go.t2; omega))
    | false => rw [if_neg Bool.false_ne_true, q2] at e1; cases e1
  · rename_i g q1 q2
    rw [Option.map_eq_some_iff] at h
    obtain ⟨a, h2, rfl⟩ := h
    have hc : t + (r.c + a.c) ≤ TM := hc
    cases b with
    | false =>
      rw [if_neg Bool.false_ne_true, q2] at e1
      cases e1
      exact OkS.from w go.m (fun j z => .inl (kn.2 j z)) (hkb _ a W1 S1 t1 h2 go.wf kn.1 (by have := go.t2; omega))
    | true => rw [if_pos rfl, q1] at e1; cases e1
  · rename_i g1 g2 q1 q2
    split at h
    · rename_i a b' h2 h3
      have hcc := (joinS_ok (W := W) (S := S) (n := 0) (G0 := G) (env0 := env) (fl := .nx) (env' := env) hX h)
      have hcr : rs.c = r.c + max a.c b'.c := by
        unfold joinS at h
        split at h
        · cases h; rfl
        · cases h
      cases b with
      | true =>
        rw [if_pos rfl, q1] at e1
        cases e1
        obtain ⟨fl, e2, S2, W2, t2, e3, go2, f2⟩ := OkS.from w go.m (fun j z => .inl (kn.2 j z)) (hka _ a W1 S1 t1 h2 go.wf kn.1 (by have := go.t2; omega))
        exact ⟨fl, e2, S2, W2, t2, e3, go2.weak (by show r.c + a.c ≤ rs.c; omega) fun _ z => z, (joinS_ok hX h (.inl (by cases fl <;> exact f2))).1⟩
      | false =>
        rw [if_neg Bool.false_ne_true, q2] at e1
        cases e1
        obtain ⟨fl, e2, S2, W2, t2, e3, go2, f2⟩ := OkS.from w go.m (fun j z => .inl (kn.2 j z)) (hkb _ b' W1 S1 t1 h3 go.wf kn.1 (by have := go.t2; omega))
        exact ⟨fl, e2, S2, W2, t2, e3, go2.weak (by show r.c + b'.c ≤ rs.c; omega) fun _ z => z, (joinS_ok hX h (.inr (by cases fl <;> exact f2))).1⟩
    · cases h
  · cases h
end
end Ev
namespace Ev
open PySem PySem.Spec PyProof.Rows
section
variable {p : Prm} {W W1 W2 : Wl} {S S1 S2 : Store} {t t1 t2 c c1 c2 : Nat} {O O1 O2 : Nat → Prop} {G G1 G2 : En} {env env1 : Fr} {u v : Ty2} {d : D} {r : Rx} {rs : Rs}
theorem HasTy.lv (h : HasTy p W u d) : Lv p W S u d := by
  cases u <;> first
    | exact h
    | (simp only [HasTy] at h)
theorem HasTys.lvs : ∀ {ts : List Ty2} {ds : List D}, HasTys p W ts ds → Lvs p W S ts ds ∧ ∀ u ∈ ts, isOwn u = false
  | [], _, h => by
    simp only [HasTys] at h
    subst h
    exact ⟨.nil, fun _ z => by cases z⟩
  | t :: ts, _, h => by
    simp only [HasTys] at h
    obtain ⟨x, xs, rfl, a, b⟩ := h
    obtain ⟨k1, k2⟩ := HasTys.lvs b
    exact ⟨.cons a.lv k1, fun u hu => by
      rcases List.mem_cons.mp hu with z | z
      · rw [z]; exact a.notOwn
      · exact k2 u z⟩
theorem GoM.refl (w : WF p t W S) : GoM p W S t O W S t 0 := ⟨.refl, w, Nat.le_refl _, Nat.le_refl _, fun _ h _ => ⟨rfl, h⟩, Nat.le_refl _⟩
theorem KnS.refl {n : Nat} (en : EnvOk p W S G env) : KnS p W S n G env G env := ⟨en, fun _ z => .inl z⟩
theorem KnS.trans {n m : Nat} {G0 : En} {env0 : Fr} (k : KnS p W1 S1 m G env G1 env1) (h : ∀ j, Own G env j → Own G0 env0 j ∨ n ≤ j) (hn : n ≤ m) : KnS p W1 S1 n G0 env0 G1 env1 :=
  ⟨k.1, fun j z => by
    rcases k.2 j z with q | q
    · exact h j q
    · exact .inr (by omega)⟩
variable (hX : PrOk p)
/-! ### a for -/
section
variable {q : Store → Prop} {tgt : D → Fr → M Fr} {body : Fr → M (Fl × Fr)} {put : En → Option En} {f : En → Option Rs} {item : Ty2}
/-- one turn -/
theorem turn (hp : ∀ (G G1 : En), put G = some G1 → ∀ (d : D) (W : Wl) (S : Store) (env : Fr), EnvOk p W S G env → HasTy p W item d → ∃ env1, tgt d env S = .ok env1 S ∧ EnvOk p W S G1 env1 ∧ ∀ j, Own G1 env1 j → Own G env j)
    (hf : ∀ (G : En) (rb : Rs), f G = some rb → ∀ (W : Wl) (S : Store) (t : Nat) (env : Fr), WF p t W S → EnvOk p W S G env → t + rb.c ≤ TM → OkS p (body env S) W S t G env rb) {d : D} {ds : List D} {rb : Rs}
    (h1 : put G = some G1) (h2 : f G1 = some rb) (w : WF p t W S) (en : EnvOk p W S G env) (hd : HasTy p W item d) (hc : t + rb.c ≤ TM) (hq : q S) :
    ∃ fl e2 S1 W1 t1, loopF q tgt body (d :: ds) env S = (match fl with
      | .nx => loopF q tgt body ds e2 S1
      | .ct => loopF q tgt body ds e2 S1
      | .bk => .ok (.nx, e2) S1
      | .rt d => .ok (.rt d, e2) S1) ∧ GoM p W S t (Own G env) W1 S1 t1 rb.c ∧ FlOk p W1 S1 S.length G env rb fl e2 := by
  obtain ⟨env1, e1, en1, ow1⟩ := hp G G1 h1 d W S env en hd
  obtain ⟨fl, e2, S1, W1, t1, e, go, fk⟩ := hf G1 rb h2 W S t env1 w en1 hc
  refine ⟨fl, e2, S1, W1, t1, ?_, go.weak (Nat.le_refl _) ow1, FlOk.from (Nat.le_refl _) (fun j z => .inl (ow1 j z)) fk⟩
  rw [loopF_cons]
  rw [bndR (guard_yes hq), bndR e1, bndR e]
  cases fl <;> rfl
include hX in
theorem loop_fix (hp : ∀ (G G1 : En), put G = some G1 → ∀ (d : D) (W : Wl) (S : Store) (env : Fr), EnvOk p W S G env → HasTy p W item d → ∃ env1, tgt d env S = .ok env1 S ∧ EnvOk p W S G1 env1 ∧ ∀ j, Own G1 env1 j → Own G env j)
    (hf : ∀ (G : En) (rb : Rs), f G = some rb → ∀ (W : Wl) (S : Store) (t : Nat) (env : Fr), WF p t W S → EnvOk p W S G env → t + rb.c ≤ TM → OkS p (body env S) W S t G env rb) {rb : Rs} {x : Option En}
    (h1 : put G = some G1) (h2 : f G1 = some rb) (h3 : joinO p rb.nx rb.ct = some (some G2)) (h4 : subEn p G2 G = true) (h5 : joinO p (some G) rb.bk = some x) :
    ∀ (ds : List D) (W : Wl) (S : Store) (t : Nat) (env : Fr), (∀ y ∈ ds, HasTy p W item y) → WF p t W S → EnvOk p W S G env → t + ds.length * rb.c ≤ TM → (∀ W' S' t', Ext W W' → WF p t' W' S' → q S') →
      OkS p (loopF q tgt body ds env S) W S t G env ⟨x, none, none, rb.rt, ds.length * rb.c⟩
  | [], W, S, t, env, hd, w, en, hc, hq => by
    refine ⟨.nx, env, S, W, t, ?_, (GoM.refl w).weak (Nat.zero_le _) fun _ z => z, joinO_ls hX h5 rfl (KnS.refl en)⟩
    rw [loopF_nil, bndR (guard_yes (hq W S t .refl w))]
    rfl
  | d :: ds, W, S, t, env, hd, w, en, hc, hq => by
    rw [List.length_cons, Nat.succ_mul] at hc
    obtain ⟨fl, e2, S1, W1, t1, e, go, fk⟩ := turn (ds := ds) hp hf h1 h2 w en (hd d List.mem_cons_self) (by omega) (hq W S t .refl w)
    rw [e]
    have hcc : (d :: ds).length * rb.c = rb.c + ds.length * rb.c := by rw [List.length_cons, Nat.succ_mul]; omega
    have next : (∃ g, some G2 = some g ∧ KnS p W1 S1 S.length G env g e2) → OkS p (loopF q tgt body ds e2 S1) W S t G env ⟨x, none, none, rb.rt, (d :: ds).length * rb.c⟩ := fun ⟨g, z, kn⟩ => by
      cases z
      obtain ⟨k1, k2⟩ := EnvOk.sub hX kn.1 h4
      have ih := loop_fix hp hf h1 h2 h3 h4 h5 ds W1 S1 t1 e2 (fun y hy => (hd y (List.mem_cons_of_mem _ hy)).mono go.ext) go.wf k1 (by have := go.t2; omega) (fun W' S' t' e w => hq W' S' t' (go.ext.trans e) w)
      have := OkS.from w go (fun j z => kn.2 j (k2 j z)) ih
      rw [hcc]
      exact this
    cases fl with
    | nx =>
      obtain ⟨g, z, kn⟩ := fk
      exact next (joinO_ls hX h3 z kn)
    | ct =>
      obtain ⟨g, z, kn⟩ := fk
      exact next (joinO_rs hX h3 z kn)
    | bk =>
      obtain ⟨g, z, kn⟩ := fk
      exact ⟨.nx, e2, S1, W1, t1, rfl, go.weak (by rw [hcc]; dsimp only; omega) fun _ z => z, joinO_rs hX h5 z kn⟩
    | rt d' => exact ⟨.rt d', e2, S1, W1, t1, rfl, go.weak (by rw [hcc]; dsimp only; omega) fun _ z => z, fk⟩
theorem loopX_fl {n lo : Nat} {G : En} {rs : Rs} (h : loopX p put f lo n G = some rs) : rs.bk = none ∧ rs.ct = none := by
  cases n with
  | zero =>
    unfold loopX at h
    cases h
    exact ⟨rfl, rfl⟩
  | succ n =>
    unfold loopX at h
    repeat' split at h
    all_goals first
      | (cases h; done)
      | (cases h; exact ⟨rfl, rfl⟩)
include hX in
theorem loopX_ok (hp : ∀ (G G1 : En), put G = some G1 → ∀ (d : D) (W : Wl) (S : Store) (env : Fr), EnvOk p W S G env → HasTy p W item d → ∃ env1, tgt d env S = .ok env1 S ∧ EnvOk p W S G1 env1 ∧ ∀ j, Own G1 env1 j → Own G env j)
    (hf : ∀ (G : En) (rb : Rs), f G = some rb → ∀ (W : Wl) (S : Store) (t : Nat) (env : Fr), WF p t W S → EnvOk p W S G env → t + rb.c ≤ TM → OkS p (body env S) W S t G env rb) :
    ∀ (n lo : Nat) (G : En) (rs : Rs), loopX p put f lo n G = some rs → ∀ (ds : List D) (W : Wl) (S : Store) (t : Nat) (env : Fr), (∀ y ∈ ds, HasTy p W item y) → lo ≤ ds.length → ds.length ≤ n → WF p t W S → EnvOk p W S G env → t + rs.c ≤ TM → (∀ W' S' t', Ext W W' → WF p t' W' S' → q S') →
      OkS p (loopF q tgt body ds env S) W S t G env rs := by
  intro n
  induction n with
  | zero =>
    intro lo G rs h ds W S t env hd hlo hn w en hc hq
    unfold loopX at h
    cases h
    have : ds = [] := List.eq_nil_of_length_eq_zero (by omega)
    subst this
    refine ⟨.nx, env, S, W, t, ?_, GoM.refl w, G, rfl, KnS.refl en⟩
    rw [loopF_nil, bndR (guard_yes (hq W S t .refl w))]
    rfl
  | succ n ih =>
    intro lo G rs h ds W S t env hd hlo hn w en hc hq
    unfold loopX at h
    split at h
    · rename_i G1 h1
      split at h
      · rename_i rb h2
        -- no turn left
        have stop : ∀ {x : Option En}, joinO p (if lo = 0 then some G else none) rb.bk = some x → ds = [] → ∃ y, x = some y ∧ KnS p W S S.length G env y env := fun {x} hx hz => by
          subst hz
          have : lo = 0 := by simpa using hlo
          rw [if_pos this] at hx
          exact joinO_ls hX hx rfl (KnS.refl en)
        split at h
        · rename_i h3
          split at h
          · rename_i x h5
            cases h
            cases ds with
            | nil =>
              refine ⟨.nx, env, S, W, t, ?_, (GoM.refl w).weak (Nat.zero_le _) fun _ z => z, stop h5 rfl⟩
              rw [loopF_nil, bndR (guard_yes (hq W S t .refl w))]
              rfl
            | cons d ds =>
              obtain ⟨fl, e2, S1, W1, t1, e, go, fk⟩ := turn (ds := ds) hp hf h1 h2 w en (hd d List.mem_cons_self) hc (hq W S t .refl w)
              rw [e]
              cases fl with
              | nx =>
                obtain ⟨g, z, kn⟩ := fk
                obtain ⟨y, z2, _⟩ := joinO_ls hX h3 z kn
                cases z2
              | ct =>
                obtain ⟨g, z, kn⟩ := fk
                obtain ⟨y, z2, _⟩ := joinO_rs hX h3 z kn
                cases z2
              | bk =>
                obtain ⟨g, z, kn⟩ := fk
                exact ⟨.nx, e2, S1, W1, t1, rfl, go, joinO_rs hX h5 z kn⟩
              | rt d' => exact ⟨.rt d', e2, S1, W1, t1, rfl, go, fk⟩
          · cases h
        · rename_i G2 h3
          split at h
          · rename_i h4
            split at h
            · rename_i x h5
              cases h
              have hm : ds.length * rb.c ≤ (n + 1) * rb.c := Nat.mul_le_mul_right _ hn
              have hc : t + (n + 1) * rb.c ≤ TM := hc
              obtain ⟨fl, e2, S1, W1, t1, e, go, fk⟩ := loop_fix hX hp hf h1 h2 h3 h4 h5 ds W S t env hd w en (by omega) hq
              exact ⟨fl, e2, S1, W1, t1, e, go.weak hm fun _ z => z, by cases fl <;> exact fk⟩
            · cases h
          · split at h
            · rename_i rr h5
              split at h
              · rename_i x h6
                split at h
                · rename_i y z h7 h8
                  cases h
                  have hc : t + (rb.c + rr.c) ≤ TM := hc
                  cases ds with
                  | nil =>
                    refine ⟨.nx, env, S, W, t, ?_, (GoM.refl w).weak (Nat.zero_le _) fun _ z => z, ?_⟩
                    · rw [loopF_nil, bndR (guard_yes (hq W S t .refl w))]
                      rfl
                    · obtain ⟨y', z1, z2⟩ := stop h6 rfl
                      exact joinO_ls hX h7 z1 z2
                  | cons d ds =>
                    obtain ⟨fl, e2, S1, W1, t1, e, go, fk⟩ := turn (ds := ds) hp hf h1 h2 w en (hd d List.mem_cons_self) (by omega) (hq W S t .refl w)
                    rw [e]
                    have next : (∃ g, some G2 = some g ∧ KnS p W1 S1 S.length G env g e2) → OkS p (loopF q tgt body ds e2 S1) W S t G env ⟨y, none, none, z, rb.c + rr.c⟩ := fun ⟨g, zz, kn⟩ => by
                      cases zz
                      rw [List.length_cons] at hlo hn
                      have i2 := ih (lo - 1) G2 rr h5 ds W1 S1 t1 e2 (fun y hy => (hd y (List.mem_cons_of_mem _ hy)).mono go.ext) (by omega) (by omega) go.wf kn.1 (by have := go.t2; omega) (fun W' S' t' e w => hq W' S' t' (go.ext.trans e) w)
                      obtain ⟨fl, e3, S3, W3, t3, e, go3, fk⟩ := OkS.from w go kn.2 i2
                      refine ⟨fl, e3, S3, W3, t3, e, go3, ?_⟩
                      cases fl with
                      | nx => obtain ⟨g, z1, z2⟩ := fk; exact joinO_rs hX h7 z1 z2
                      | rt d' => obtain ⟨g, z1, z2⟩ := fk; exact joinR_r hX h8 z1 z2
                      | bk =>
                        obtain ⟨g, z1, _⟩ := fk
                        rw [show _ = none from (loopX_fl h5).1] at z1
                        cases z1
                      | ct =>
                        obtain ⟨g, z1, _⟩ := fk
                        rw [show _ = none from (loopX_fl h5).2] at z1
                        cases z1
                    cases fl with
                    | nx =>
                      obtain ⟨g, z, kn⟩ := fk
                      exact next (joinO_ls hX h3 z kn)
                    | ct =>
                      obtain ⟨g, z, kn⟩ := fk
                      exact next (joinO_rs hX h3 z kn)
                    | bk =>
                      obtain ⟨g, z1, kn⟩ := fk
                      obtain ⟨y', z2, z3⟩ := joinO_rs hX h6 z1 kn
                      exact ⟨.nx, e2, S1, W1, t1, rfl, go.weak (by show rb.c ≤ rb.c + rr.c; omega) fun _ z => z, joinO_ls hX h7 z2 z3⟩
                    | rt d' =>
                      obtain ⟨g, z1, kn⟩ := fk
                      exact ⟨.rt d', e2, S1, W1, t1, rfl, go.weak (by show rb.c ≤ rb.c + rr.c; omega) fun _ z => z, joinR_l hX h8 z1 kn⟩
                · cases h
              · cases h
            · cases h
        · cases h
      · cases h
    · cases h
end
end
end Ev
namespace Ev
open PySem PySem.Spec PyProof.Rows
section
variable {p : Prm} {W W1 W2 : Wl} {S S1 S2 : Store} {t t1 t2 c c1 c2 : Nat} {O O1 O2 : Nat → Prop} {G G1 G2 : En} {env env1 : Fr} {u v : Ty2} {d : D} {r : Rx} {rs : Rs}
variable {C : Nat → List D → M D} {sg : Sg}
theorem seqS_c {a : Rs} {k : En → Option Rs} (h : seqS p a k = some rs) : a.c ≤ rs.c := by
  unfold seqS at h
  split at h
  · cases h; exact Nat.le_refl _
  · split at h
    · split at h
      · cases h
        show a.c ≤ a.c + _
        omega
      · cases h
    · cases h
theorem ifS_c {ka kb : En → Option Rs} (h : ifS p r ka kb = some rs) : r.c ≤ rs.c := by
  unfold ifS at h
  split at h
  · split at h
    · rw [Option.map_eq_some_iff] at h
      obtain ⟨a, _, rfl⟩ := h
      show r.c ≤ r.c + a.c
      omega
    · rw [Option.map_eq_some_iff] at h
      obtain ⟨a, _, rfl⟩ := h
      show r.c ≤ r.c + a.c
      omega
    · split at h
      · unfold joinS at h
        split at h
        · cases h
          show r.c ≤ r.c + _
          omega
        · cases h
      · cases h
    · cases h
  · cases h
theorem subX_c {k : Nat} {re : Rx} {ri : En → Option Rx} (h : subX p k re ri = some rs) : re.c ≤ rs.c := by
  unfold subX at h
  split at h
  · split at h
    · split at h
      · split at h
        · cases h
          show re.c ≤ re.c + _
          omega
        · cases h
      · cases h
    · cases h
  · cases h
theorem appX_c {k : Nat} {ts : List Ty2} {G1 : En} (h : appX p k (some (ts, G1, c)) = some rs) : c = rs.c := by
  unfold appX at h
  split at h
  · rename_i e
    cases e
    split at h
    · split at h
      · split at h
        · cases h; rfl
        · cases h
      · cases h
    · cases h
  · cases h
theorem getV_ok {i : Nat} (h : env[i]? = some (some d)) : getV env i S = .ok d S := by
  unfold getV
  rw [h]
  rfl
/-- an expression that is dropped -/
theorem drop_ok {e : E} (h : OkX p (evE C e env S) W S t G env r) : OkS p (evS C (.drop e) env S) W S t G env (nxt r.G r.c) := by
  obtain ⟨d, S1, W1, t1, e1, go, en1, ow1, _⟩ := h
  refine okNx go.m ?_ ⟨en1, fun j z => .inl (ow1 j z)⟩
  rw [evS, bndR e1]
  rfl
theorem inH_ok (hX : PrOk p) (sk : SgOk p C sg) {e : E} (h : inH p sg e G = some r) (w : WF p t W S) (en : EnvOk p W S G env) (hc : t + r.c ≤ TM) : OkX p (evE C e env S) W S t G env r := by
  unfold inH at h
  rw [Option.map_eq_some_iff] at h
  obtain ⟨r0, h1, rfl⟩ := h
  unfold hx at hc ⊢
  split
  · rename_i q hq
    rw [hq] at hc
    have hc : t + r0.c ≤ TM := hc
    have hm := List.mem_of_find?_eq_some hq
    have k := List.find?_some hq
    simp only [Bool.and_eq_true, decide_eq_true_eq] at k
    obtain ⟨k1, k2, k3, k4⟩ := k
    obtain ⟨d, S1, W1, t1, e1, go, en1, ow1, va, pv, tr⟩ := inE_ok hX sk h1 w en hc
    have hd := sk.hs q hm k1 k4 W S S1 t env d (EnvOk.sub hX en k3).1 w (by rw [eqE_ok k2]; exact e1)
    have no : isOwn q.u = true → False := fun ho => by
      cases hu : q.u <;> rw [hu] at ho k4 <;> first
        | (cases ho; done)
        | (simp [flatT] at k4; done)
    refine ⟨d, S1, W1, t1, e1, go, en1, ow1, Val.of (hd W1), fun ho => (no ho).elim, fun b hb => ?_⟩
    obtain ⟨G', g1, g2⟩ := tr b hb
    refine ⟨G', ?_, g2⟩
    have hdd := hd W1
    rw [hb] at hdd
    show (if b = true then (hintR q.u r0).tG else (hintR q.u r0).fG) = some G'
    unfold hintR
    cases b with
    | true =>
      rw [if_pos rfl] at g1 ⊢
      dsimp only
      split
      · rename_i hu
        rw [hu] at hdd
        simp only [HasTy] at hdd
        cases hdd
      · exact g1
    | false =>
      rw [if_neg Bool.false_ne_true] at g1 ⊢
      dsimp only
      split
      · rename_i hu
        rw [hu] at hdd
        simp only [HasTy] at hdd
        cases hdd
      · exact g1
  · rename_i hq
    rw [hq] at hc
    exact inE_ok hX sk h1 w en hc
theorem inHs_ok (hX : PrOk p) (sk : SgOk p C sg) {es : List E} {G : En} {ts : List Ty2} {G1 : En} {c : Nat} (h : inHs p sg es G = some (ts, G1, c)) {W : Wl} {S : Store} {t : Nat} {env : Fr} (w : WF p t W S) (en : EnvOk p W S G env) (hc : t + c ≤ TM) : OkFs p (evEs C es env S) W S t G env ts G1 c := by
  unfold inHs at h
  split at h
  · rename_i e
    rw [Option.map_eq_some_iff] at h
    obtain ⟨r, h1, h2⟩ := h
    cases h2
    obtain ⟨d, S1, W1, t1, e1, go1, en1, ow1, va1⟩ := (inH_ok hX sk h1 w en hc).frz w en
    refine ⟨[d], S1, W1, t1, ?_, go1, en1, ow1, ?_⟩
    · rw [evEs, bndR e1, evEs]
      rfl
    · simp only [HasTys]
      exact ⟨d, [], rfl, va1, rfl⟩
  · exact inEs_ok hX sk h w en hc
theorem hsx_ok (hX : PrOk p) (sk : SgOk p C sg) {b : List St} {r0 : Rs} (w : WF p t W S) (en : EnvOk p W S G env) (h : OkS p (evSs C b env S) W S t G env r0) : OkS p (evSs C b env S) W S t G env (hsx p sg b G r0) := by
  unfold hsx
  split
  · rename_i q hq
    have hm := List.mem_of_find?_eq_some hq
    have k := List.find?_some hq
    simp only [Bool.and_eq_true, decide_eq_true_eq] at k
    obtain ⟨k1, k2, k3, k4⟩ := k
    obtain ⟨fl, e1, S1, W1, t1, ev, go, f⟩ := h
    have hd := sk.bs q hm k1 k4 W S S1 t env e1 fl (EnvOk.sub hX en k3).1 w (by rw [eqSs_ok k2]; exact ev)
    unfold FlHas at hd
    cases ho : q.o with
    | none =>
      rw [ho] at hd
      have hd : fl = .nx := hd
      subst hd
      exact ⟨.nx, e1, S1, W1, t1, ev, go, f⟩
    | some u =>
      rw [ho] at hd k4
      obtain ⟨d, hd, ht⟩ := hd
      subst hd
      refine ⟨.rt d, e1, S1, W1, t1, ev, go, u, rfl, Val.of (ht W1), fun hu => ?_⟩
      exfalso
      have k4 : flatT u = true := k4
      cases u <;> first
        | (cases hu; done)
        | (simp [flatT] at k4; done)
  · exact h
/-! cases -/
theorem altOf_some {s : St} {Gs : List En} (h : altOf p sg s G = some (c, Gs)) : ∃ tg e r ts, s = .asg tg e ∧ inH p sg e G = some r ∧ alts p (frz r).1 = ts ∧ putAll p tg ts (frz r).2 = some Gs ∧ c = r.c := by
  unfold altOf at h
  split at h
  · rename_i tg e q
    split at h
    · rename_i r q1
      split at h
      · cases h
      · cases h
      · rename_i q2 q3
        rw [Option.map_eq_some_iff] at h
        obtain ⟨gs, h1, h2⟩ := h
        cases h2
        refine ⟨tg, e, r, _, ?_, q1, rfl, h1, rfl⟩
        unfold asgOf at q
        split at q
        · cases q; rfl
        · cases q
    · cases h
  · cases h
theorem altS_c {k : En → Option Rs} : ∀ {Gs : List En} {rs : Rs}, altS p c Gs k = some rs → c ≤ rs.c
  | [], _, h => by cases h
  | g :: gs, rs, h => by
    rw [altS] at h
    unfold altC at h
    split at h
    · rw [Option.map_eq_some_iff] at h
      obtain ⟨a, _, rfl⟩ := h
      exact Nat.le_add_right _ _
    · split at h
      · unfold joinS at h
        split at h
        · cases h
          show c ≤ max _ _
          omega
        · cases h
      · cases h
theorem altK_ok (hX : PrOk p) {t : Ty2} {d : D} (h : HasTy p W t d) : ∃ u, u ∈ altK p t ∧ HasTy p W u d := by
  unfold altK
  split
  · rename_i k
    have h' : p.N k d := by simpa only [HasTy] using h
    rcases hX.s (W := W) h' with e | ⟨u, h1, h2⟩
    · rw [e]
      exact ⟨_, List.mem_singleton_self _, h⟩
    · cases q : p.sp k with
      | nil => rw [q] at h1; cases h1
      | cons v vs => rw [q] at h1; exact ⟨u, h1, h2⟩
  · exact ⟨_, List.mem_singleton_self _, h⟩
theorem altTs_ok (hX : PrOk p) : ∀ {ts : List Ty2} {ds : List D}, HasTys p W ts ds → ∃ us, us ∈ altTs p ts ∧ HasTys p W us ds
  | [], ds, h => ⟨[], List.mem_singleton_self _, h⟩
  | t :: ts, ds, h => by
    simp only [HasTys] at h
    obtain ⟨x, xs, rfl, h1, h2⟩ := h
    obtain ⟨u, a1, a2⟩ := altK_ok hX h1
    obtain ⟨us, b1, b2⟩ := altTs_ok hX h2
    refine ⟨u :: us, ?_, by simp only [HasTys]; exact ⟨x, xs, rfl, a2, b2⟩⟩
    rw [altTs, List.mem_flatMap]
    exact ⟨u, a1, List.mem_map.mpr ⟨us, b1, rfl⟩⟩
theorem alts_ok (hX : PrOk p) {t : Ty2} {d : D} (h : HasTy p W t d) : ∃ u, u ∈ alts p t ∧ HasTy p W u d := by
  unfold alts
  split
  · simp only [HasTy] at h
    obtain ⟨ds, rfl, h⟩ := h
    obtain ⟨us, a1, a2⟩ := altTs_ok hX h
    exact ⟨.tup us, List.mem_map.mpr ⟨us, a1, rfl⟩, by simp only [HasTy]; exact ⟨ds, rfl, a2⟩⟩
  · exact altK_ok hX h
theorem putAll_ok {tg : T} : ∀ {ts : List Ty2} {gs : List En}, putAll p tg ts G = some gs → ∀ {u : Ty2}, u ∈ ts → ∃ g, g ∈ gs ∧ putT p tg u G = some g
  | [], _, _, _, hu => nomatch hu
  | t :: ts, gs, h, u, hu => by
    rw [putAll] at h
    split at h
    · rename_i g gs' h1 h2
      cases h
      rcases List.mem_cons.mp hu with e | e
      · subst e; exact ⟨g, List.mem_cons_self, h1⟩
      · obtain ⟨g', a, b⟩ := putAll_ok h2 e
        exact ⟨g', List.mem_cons_of_mem _ a, b⟩
    · cases h
theorem altS_ok (hX : PrOk p) {k : En → Option Rs} {res : Res (Fl × Fr)} {g : En} (w : WF p t W S) (go : GoM p W S t (Own G env) W1 S1 t1 c) (kn : ∀ j, Own g env1 j → Own G env j ∨ S.length ≤ j)
    (hk : ∀ a, k g = some a → t1 + a.c ≤ TM → OkS p res W1 S1 t1 g env1 a) : ∀ {Gs : List En} {rs : Rs}, altS p c Gs k = some rs → g ∈ Gs → t + rs.c ≤ TM → OkS p res W S t G env rs
  | [], _, _, hg, _ => nomatch hg
  | x :: gs, rs, h, hg, hc => by
    rw [altS] at h
    unfold altC at h
    split at h
    · rw [Option.map_eq_some_iff] at h
      obtain ⟨a, h1, rfl⟩ := h
      rename_i q
      have q := List.isEmpty_iff.mp q
      rw [q, List.mem_singleton] at hg
      subst hg
      have hc : t + (c + a.c) ≤ TM := hc
      exact OkS.from w go kn (hk a h1 (by have := go.t2; omega))
    · split at h
      · rename_i a b h1 h2
        have hcr : rs.c = max (c + a.c) b.c := by
          unfold joinS at h
          split at h
          · cases h; rfl
          · cases h
        rcases List.mem_cons.mp hg with e | e
        · subst e
          obtain ⟨fl, e2, S2, W2, t2, e3, go2, f2⟩ := OkS.from w go kn (hk a h1 (by have := go.t2; omega))
          exact ⟨fl, e2, S2, W2, t2, e3, go2.weak (by show c + a.c ≤ rs.c; omega) fun _ z => z, (joinS_ok hX h (.inl (by cases fl <;> exact f2))).1⟩
        · obtain ⟨fl, e2, S2, W2, t2, e3, go2, f2⟩ := altS_ok hX w go kn hk h2 e (by omega)
          exact ⟨fl, e2, S2, W2, t2, e3, go2.weak (by show b.c ≤ rs.c; omega) fun _ z => z, (joinS_ok hX h (.inr (by cases fl <;> exact f2))).1⟩
      · cases h
mutual
theorem inS_ok (hX : PrOk p) (sk : SgOk p C sg) : ∀ {s : St} {G : En} {rs : Rs}, inS p sg s G = some rs → ∀ {W : Wl} {S : Store} {t : Nat} {env : Fr}, WF p t W S → EnvOk p W S G env → t + rs.c ≤ TM → OkS p (evS C s env S) W S t G env rs
  | .set i e, G, rs, h, W, S, t, env, w, en, hc => by
    simp only [inS] at h
    split at h
    · rename_i r q
      split at h
      · cases h
        obtain ⟨d, S1, W1, t1, e1, go, kn⟩ := setX_ok (i := i) w en (inH_ok hX sk q w en hc)
        refine okNx go.m ?_ kn
        rw [evS, bndR e1]
        rfl
      · cases h
    · cases h
  | .asg tg e, G, rs, h, W, S, t, env, w, en, hc => by
    simp only [inS] at h
    split at h
    · rename_i r q
      split at h
      · rename_i G1 q2
        cases h
        obtain ⟨d, S1, W1, t1, e1, go, en1, ow1, va⟩ := (inH_ok hX sk q w en hc).frz w en
        obtain ⟨env2, e2, en2, ow2⟩ := putT_ok (S := S1) hX q2 en1 va
        refine okNx go.m ?_ ⟨en2, fun j z => .inl (ow1 j (ow2 j z))⟩
        rw [evS, bndR e1, bndR e2]
        rfl
      · cases h
    · cases h
  | .par2 i j a b, G, rs, h, W, S, t, env, w, en, hc => by
    simp only [inS] at h
    split at h
    · rename_i u v G1 c q
      cases h
      obtain ⟨ds, S1, W1, t1, e1, go, en1, ow1, hd⟩ := inEs_ok hX sk q w en hc
      simp only [HasTys] at hd
      obtain ⟨x, _, rfl, hx, y, _, rfl, hy, rfl⟩ := hd
      obtain ⟨k1, k2⟩ := en1.put1 (i := i) hx
      obtain ⟨k3, k4⟩ := k1.put1 (i := j) hy
      refine okNx go.m ?_ ⟨k3, fun j z => .inl (ow1 j (k2 j (k4 j z)))⟩
      rw [evS, bndR e1]
      rfl
    · cases h
  | .par3 i j k a b cc, G, rs, h, W, S, t, env, w, en, hc => by
    simp only [inS] at h
    split at h
    · rename_i u v x G1 c q
      cases h
      obtain ⟨ds, S1, W1, t1, e1, go, en1, ow1, hd⟩ := inEs_ok hX sk q w en hc
      simp only [HasTys] at hd
      obtain ⟨x, _, rfl, hx, y, _, rfl, hy, z, _, rfl, hz, rfl⟩ := hd
      obtain ⟨k1, k2⟩ := en1.put1 (i := i) hx
      obtain ⟨k3, k4⟩ := k1.put1 (i := j) hy
      obtain ⟨k5, k6⟩ := k3.put1 (i := k) hz
      refine okNx go.m ?_ ⟨k5, fun j z => .inl (ow1 j (k2 j (k4 j (k6 j z))))⟩
      rw [evS, bndR e1]
      rfl
    · cases h
  | .sub o i e, G, rs, h, W, S, t, env, w, en, hc => by
    simp only [inS] at h
    split at h
    · rename_i k
      split at h
      · rename_i re q
        have := subX_c h
        exact subX_ok hX h hc w en (inE_ok hX sk q w en (by omega)) fun g r W S t q2 w en hc => inE_ok hX sk q2 w en hc
      · cases h
    · cases h
  | .drop e, G, rs, h, W, S, t, env, w, en, hc => by
    simp only [inS] at h
    split at h
    · rename_i k es
      split at h
      · rename_i q0
        cases qa : inHs p sg es G with
        | none =>
          rw [qa] at h
          cases h
        | some a =>
          obtain ⟨ts, G1, c⟩ := a
          have hcc : c = rs.c := appX_c (by rw [qa] at h; exact h)
          exact appX_ok hX q0 h w en fun ts' G1' c' q => by
            rw [qa] at q
            cases q
            exact inHs_ok hX sk qa w en (by omega)
      · cases h
    · split at h
      · rename_i r q
        cases h
        exact drop_ok (inE_ok hX sk q w en hc)
      · cases h
  | .ret e, G, rs, h, W, S, t, env, w, en, hc => by
    simp only [inS] at h
    split at h
    · rename_i r q
      cases h
      obtain ⟨d, S1, W1, t1, e1, go, en1, ow1, va, pv, _⟩ := inH_ok hX sk q w en hc
      refine ⟨.rt d, env, S1, W1, t1, ?_, go.m, r.ty, rfl, va, fun ho => ?_⟩
      · rw [evS, bndR e1]
        rfl
      · have pv := pv ho
        cases qp : r.pv with
        | none =>
          rw [qp] at pv
          obtain ⟨j, e2, e3⟩ := pv
          exact ⟨j, e2, .inr e3⟩
        | some i =>
          rw [qp] at pv
          obtain ⟨t', a, b, e2⟩ := ownOf_ref va ho
          rw [e2] at va
          obtain ⟨j, ds, e3, _⟩ := va
          refine ⟨j, e3, .inl (ow1 j ⟨i, r.ty, pv.1, ho, ?_⟩)⟩
          rw [← e3]
          exact pv.2
    · cases h
  | .retN, G, rs, h, W, S, t, env, w, en, hc => by
    simp only [inS] at h
    cases h
    exact ⟨.rt .non, env, S, W, t, by rw [evS]; rfl, GoM.refl w, .non, rfl, Val.of (by simp only [HasTy]), fun ho => nomatch ho⟩
  | .ife cc a b, G, rs, h, W, S, t, env, w, en, hc => by
    simp only [inS] at h
    split at h
    · rename_i r q
      have := ifS_c h
      rw [evS]
      exact ifS_ok hX w (inH_ok hX sk q w en (by omega)) h hc (fun g a W S t q2 w en hc => inSs_ok hX sk q2 w en hc) fun g a W S t q2 w en hc => inSs_ok hX sk q2 w en hc
    · cases h
  | .whl _ _, G, rs, h, W, S, t, env, w, en, hc => by
    simp only [inS] at h
    cases h
  | .for tg k es b, G, rs, h, W, S, t, env, w, en, hc => by
    simp only [inS] at h
    split at h
    · rename_i ts G1 c q
      split at h
      · rename_i u lo n q2
        split at h
        · rename_i r q3
          cases h
          have hc : t + (c + r.c) ≤ TM := hc
          obtain ⟨ds, S1, W1, t1, e1, go, en1, ow1, hd⟩ := inEs_ok hX sk q w en (by omega)
          obtain ⟨lv, no⟩ := hd.lvs (S := S1)
          obtain ⟨it, e2, l1, l2, l3, stb⟩ := itsT_ok (B := fun k => (∃ x, k = .fz x) ∨ ∃ x, k = .sc x) hX (fun x => .inl ⟨x, rfl⟩) (fun x => .inr ⟨x, rfl⟩) q2 (fun u hu ho => by rw [no u hu] at ho; cases ho) lv go.wf
          have lp := loopX_ok (q := it.ok) (tgt := tg.put) (body := evSs C b) (item := u) hX (fun G G1 h d W S env en hv => putT_ok (S := S) hX h en hv) (fun G rb h W S t env w en hc => inSs_ok hX sk h w en hc) n lo G1 r q3 it.ds W1 S1 t1 env l3 l1 l2 go.wf en1 (by have := go.t2; omega) (fun W' S' t' ex w' => stb S' fun j kd h1 h2 => by
            rcases h2 with ⟨x, rfl⟩ | ⟨x, rfl⟩
            · rw [go.wf.fz j x h1, w'.fz j x (ex j _ h1 fun z => nomatch z)]
            · rw [go.wf.sc j x h1, w'.sc j x (ex j _ h1 fun z => nomatch z)])
          have ev : evS C (.for tg k es b) env S = loopF it.ok tg.put (evSs C b) it.ds env S1 := by
            rw [evS]
            have e0 : ((do
                let ds ← evEs C es env
                k.its ds) : M Its) S = .ok it S1 := by
              rw [bndR e1]; exact e2
            rw [bndR e0]
          rw [ev]
          exact OkS.from w go.m (fun j z => .inl (ow1 j z)) lp
        · cases h
      · cases h
    · cases h
  | .aug i o e, G, rs, h, W, S, t, env, w, en, hc => by
    simp only [inS] at h
    split at h
    · rename_i a b q0
      obtain ⟨x, h1, h2⟩ := en.at_ i _ q0
      have h2 : HasTy p W _ x := h2
      simp only [HasTy] at h2
      obtain ⟨n, rfl, n1, n2⟩ := h2
      split at h
      · rename_i r q
        split at h
        · rename_i c d q2
          cases h
          obtain ⟨y, S1, W1, t1, e1, go, en1, ow1, va, _, _⟩ := inE_ok hX sk q w en hc
          obtain ⟨m, rfl, m1, m2⟩ := PV.int hX (va.pv0 go.wf) q2
          obtain ⟨k1, k2⟩ := en1.put1 (i := i) (u := .int (a + c) (b + d)) (d := .int (n + m)) (by simp only [HasTy]; exact ⟨_, rfl, by omega, by omega⟩)
          refine okNx go.m ?_ ⟨k1, fun j z => .inl (ow1 j (k2 j z))⟩
          rw [evS, bndR (getV_ok h1), bndR e1]
          rfl
        · rename_i c d q2
          cases h
          obtain ⟨y, S1, W1, t1, e1, go, en1, ow1, va, _, _⟩ := inE_ok hX sk q w en hc
          obtain ⟨m, rfl, m1, m2⟩ := PV.int hX (va.pv0 go.wf) q2
          obtain ⟨k1, k2⟩ := en1.put1 (i := i) (u := .int (a - d) (b - c)) (d := .int (n - m)) (by simp only [HasTy]; exact ⟨_, rfl, by omega, by omega⟩)
          refine okNx go.m ?_ ⟨k1, fun j z => .inl (ow1 j (k2 j z))⟩
          rw [evS, bndR (getV_ok h1), bndR e1]
          rfl
        · cases h
      · cases h
    · cases h
  | .pass, G, rs, h, W, S, t, env, w, en, hc => by
    simp only [inS] at h
    cases h
    exact okNx (GoM.refl w) (by rw [evS]; rfl) (KnS.refl en)
  | .brk, G, rs, h, W, S, t, env, w, en, hc => by
    simp only [inS] at h
    cases h
    exact ⟨.bk, env, S, W, t, by rw [evS]; rfl, GoM.refl w, G, rfl, KnS.refl en⟩
  | .cont, G, rs, h, W, S, t, env, w, en, hc => by
    simp only [inS] at h
    cases h
    exact ⟨.ct, env, S, W, t, by rw [evS]; rfl, GoM.refl w, G, rfl, KnS.refl en⟩
  | .raise _, G, rs, h, W, S, t, env, w, en, hc => by
    simp only [inS] at h
    cases h
theorem inSs_ok (hX : PrOk p) (sk : SgOk p C sg) : ∀ {ss : List St} {G : En} {rs : Rs}, inSs p sg ss G = some rs → ∀ {W : Wl} {S : Store} {t : Nat} {env : Fr}, WF p t W S → EnvOk p W S G env → t + rs.c ≤ TM → OkS p (evSs C ss env S) W S t G env rs
  | [], G, rs, h, W, S, t, env, w, en, hc => by
    simp only [inSs] at h
    cases h
    exact okNx (GoM.refl w) (by rw [evSs]; rfl) (KnS.refl en)
  | s :: ss, G, rs, h, W, S, t, env, w, en, hc => by
    simp only [inSs] at h
    rw [Option.map_eq_some_iff] at h
    obtain ⟨r0, h, rfl⟩ := h
    have hcc : (hsx p sg (s :: ss) G r0).c = r0.c := by
      unfold hsx
      split
      · rename_i q _
        cases q.o <;> rfl
      · rfl
    rw [hcc] at hc
    refine hsx_ok hX sk w en ?_
    split at h
    · rename_i c Gs q
      obtain ⟨tg, e, r, ts, rfl, q1, q2, q3, rfl⟩ := altOf_some q
      rw [evSs]
      have hcr := altS_c h
      obtain ⟨d, S1, W1, t1, e1, go, en1, ow1, va⟩ := (inH_ok hX sk q1 w en (by omega)).frz w en
      obtain ⟨u, hu, vu⟩ := alts_ok hX va
      obtain ⟨g, hg, qg⟩ := putAll_ok q3 (q2 ▸ hu)
      obtain ⟨env2, e2, en2, ow2⟩ := putT_ok (S := S1) hX qg en1 vu
      have hrun : seqM (evS C (.asg tg e)) (evSs C ss) env S = evSs C ss env2 S1 := by
        unfold seqM
        have e3 : evS C (.asg tg e) env S = .ok (.nx, env2) S1 := by
          rw [evS, bndR e1, bndR e2]
          rfl
        rw [bndR e3]
      rw [hrun]
      exact altS_ok hX w go.m (fun j z => .inl (ow1 j (ow2 j z))) (fun a k hca => by
        rw [fEn_eq] at k
        exact inSs_ok hX sk k go.wf en2 hca) h hg hc
    split at h
    · rename_i a q
      rw [fRs_eq] at h
      have := seqS_c h
      rw [evSs]
      exact seqS_ok hX h hc w (inS_ok hX sk q w en (by omega)) fun g b W S t env q2 w en hc => inSs_ok hX sk q2 w en hc
    · cases h
end
/-! ### a def at these types -/
theorem EnvOk.start {ts : List Ty2} {ds : List D} {n : Nat} (h : HasTys p W ts ds) : EnvOk p W S (ts.map some ++ List.replicate n none) (ds.map some ++ List.replicate n none) ∧ ∀ j, ¬ Own (ts.map some ++ List.replicate n none) (ds.map some ++ List.replicate n none) j := by
  have hl := h.length
  obtain ⟨lv, no⟩ := h.lvs (S := S)
  have key : ∀ {i : Nat} {u : Ty2}, (ts.map some ++ List.replicate n none)[i]? = some (some u) → ts[i]? = some u := fun {i u} e => by
    by_cases hi : i < ts.length
    · rw [List.getElem?_append_left (by simpa using hi), List.getElem?_map] at e
      cases q : ts[i]? with
      | none => rw [q] at e; cases e
      | some v => rw [q] at e; cases e; rfl
    · rw [List.getElem?_append_right (by simpa using hi), List.getElem?_replicate] at e
      split at e <;> cases e
  have nown : ∀ {i : Nat} {u : Ty2}, (ts.map some ++ List.replicate n none)[i]? = some (some u) → isOwn u = false := fun {i u} e => no u (List.mem_of_getElem? (key e))
  refine ⟨⟨by simp [hl], fun i u e => ?_, fun i k t u d e1 o1 => ?_⟩, fun j ⟨i, u, e1, o1, _⟩ => ?_⟩
  · obtain ⟨d, h1, h2⟩ := h.get (key e)
    refine ⟨d, ?_, Val.of h2⟩
    rw [List.getElem?_append_left (by simpa using (List.getElem?_eq_some_iff.mp h1).1), List.getElem?_map, h1]
    rfl
  · rw [nown e1] at o1; cases o1
  · rw [nown e1] at o1; cases o1
theorem inF_ok (hX : PrOk p) (sk : SgOk p C sg) {fd : FD} {ts : List Ty2} (h : inF p sg fd ts = some (u, c)) {ds : List D} (hd : HasTys p W ts ds) (w : WF p t W S) (hc : t + c ≤ TM) :
    ∃ d S' W' t', ((if ds.length = fd.ps then do
        let r ← evSs C fd.body (ds.map some ++ List.replicate (fd.slots - ds.length) none)
        fin r.1
      else M.fail) : M D) S = .ok d S' ∧ Go p W S t (fun _ => False) W' S' t' c ∧ Val p W' S' u d ∧ (isOwn u = true → ∃ j : Nat, d = .ref j ∧ S.length ≤ j) := by
  unfold inF at h
  split at h
  · rename_i hz
    have hl := hd.length
    split at h
    · rename_i rs q
      split at h
      · rename_i qb qc q3
        cases h
        obtain ⟨en, no⟩ := EnvOk.start (S := S) (n := fd.slots - fd.ps) hd
        obtain ⟨fl, e2, S1, W1, t1, e, go, fk⟩ := inSs_ok hX sk q w en hc
        have hlen : ds.length = fd.ps := by omega
        have ev : ((if ds.length = fd.ps then do
            let r ← evSs C fd.body (ds.map some ++ List.replicate (fd.slots - ds.length) none)
            fin r.1
          else M.fail) : M D) S = fin fl S1 := by
          rw [if_pos hlen, hlen, bndR e]
        rw [ev]
        have go2 : Go p W S t (fun _ => False) W1 S1 t1 rs.c := ⟨go.ext, go.wf, go.t1, go.t2, fun j hj => by
          obtain ⟨h1, h2⟩ := go.fr j hj (no j)
          exact ⟨h1, .inl h2⟩, go.grow⟩
        cases fl with
        | nx =>
          obtain ⟨g, z, _⟩ := fk
          obtain ⟨y, z2, k1, k2⟩ := joinR_r (W := W1) (S := S1) (n := S.length) (G := ts.map some ++ List.replicate (fd.slots - fd.ps) none) (env := ds.map some ++ List.replicate (fd.slots - fd.ps) none) (u := .non) (d := .non) hX q3 (by rw [z]; rfl) ⟨Val.of (by simp only [HasTy]), fun ho => nomatch ho⟩
          cases z2
          refine ⟨.non, S1, W1, t1, rfl, go2, k1, fun ho => ?_⟩
          obtain ⟨j, e3, e4⟩ := k2 ho
          cases e3
        | rt d =>
          obtain ⟨u', z, k⟩ := fk
          obtain ⟨y, z2, k1, k2⟩ := joinR_l hX q3 z k
          cases z2
          refine ⟨d, S1, W1, t1, rfl, go2, k1, fun ho => ?_⟩
          obtain ⟨j, e3, e4⟩ := k2 ho
          exact ⟨j, e3, e4.resolve_left (no j)⟩
        | bk =>
          obtain ⟨g, z, _⟩ := fk
          rw [qb] at z
          cases z
        | ct =>
          obtain ⟨g, z, _⟩ := fk
          rw [qc] at z
          cases z
      · cases h
    · cases h
  · cases h
end
/-! ### a program's defs -/
end Ev
namespace Ev
open PySem PySem.Spec PyProof.Rows
/-! ### by hand -/
theorem bnd_app {α β : Type} (m : M α) (f : α → M β) (S : Store) : (m >>= f) S = (match m S with
  | .ok a S' => f a S'
  | .exc c a S' => .exc c a S'
  | .bad => .bad) := rfl
theorem ret_app {α : Type} (a : α) (S : Store) : M.ret a S = .ok a S := rfl
theorem tru_t {α : Type} (a b : M α) : tru (.bl true) a b = a := rfl
theorem tru_f {α : Type} (a b : M α) : tru (.bl false) a b = b := rfl
theorem evF_eq {P : Nat → Option FD} {n f : Nat} {fd : FD} {ds : List D} (h : P f = some fd) (hl : ds.length = fd.ps) : evF P (n + 1) f ds = (do
    let r ← evSs (evF P n) fd.body (ds.map some ++ List.replicate (fd.slots - ds.length) none)
    fin r.1) := by
  rw [evF, h]
  exact if_pos hl
section
variable {C : Nat → List D → M D}
theorem step_nx {s : St} {ss : List St} {env env' : Fr} {S S' : Store} (h : evS C s env S = .ok (.nx, env') S') : evSs C (s :: ss) env S = evSs C ss env' S' := by
  rw [evSs]
  unfold seqM
  rw [bnd_app, h]
theorem step_rt {s : St} {ss : List St} {env env' : Fr} {S S' : Store} {d : D} (h : evS C s env S = .ok (.rt d, env') S') : evSs C (s :: ss) env S = .ok (.rt d, env') S' := by
  rw [evSs]
  unfold seqM
  rw [bnd_app, h]
  rfl
theorem evE_var {i : Nat} {env : Fr} : evE C (.var i) env = getV env i := by rw [evE]
theorem evE_blt {b : Blt} {es : List E} {env : Fr} : evE C (.blt b es) env = (do
    let ds ← evEs C es env
    b.run ds) := by rw [evE]
end
/-- a call's end -/
theorem call_rt {P : Nat → Option FD} {n f : Nat} {fd : FD} {ds : List D} {S S' : Store} {d : D} {env' : Fr} (h : P f = some fd) (hl : ds.length = fd.ps) (e : evSs (evF P n) fd.body (ds.map some ++ List.replicate (fd.slots - ds.length) none) S = .ok (.rt d, env') S') : evF P (n + 1) f ds S = .ok d S' := by
  rw [evF_eq h hl, bnd_app, e]
  rfl
/-! ### while -/
theorem whileN_up {c : Fr → M D} {b : Fr → M (Fl × Fr)} : ∀ (n : Nat) (env : Fr) (S : Store), ¬ (whileN c b n env S).isBad → whileN c b (n + 1) env S = whileN c b n env S
  | 0, env, S, h => absurd trivial h
  | n + 1, env, S, h => by
    rw [whileN_succ, bnd_app] at h
    rw [whileN_succ (n + 1), whileN_succ n, bnd_app, bnd_app]
    cases hc : c env S with
    | bad => rfl
    | exc a d S1 => rfl
    | ok t S1 =>
      rw [hc] at h
      dsimp only at h ⊢
      cases t with
      | bl k =>
        cases k with
        | false => rfl
        | true =>
          rw [tru_t] at h ⊢
          rw [tru_t, bnd_app, bnd_app]
          rw [bnd_app] at h
          cases hb : b env S1 with
          | bad => rfl
          | exc a d S2 => rfl
          | ok r S2 =>
            rw [hb] at h
            obtain ⟨fl, e2⟩ := r
            dsimp only at h ⊢
            cases fl with
            | nx => exact whileN_up n e2 S2 h
            | ct => exact whileN_up n e2 S2 h
            | bk => rfl
            | rt d => rfl
      | _ => rfl
theorem whileN_le {c : Fr → M D} {b : Fr → M (Fl × Fr)} {n : Nat} {env : Fr} {S : Store} (h : ¬ (whileN c b n env S).isBad) : ∀ k, whileN c b (n + k) env S = whileN c b n env S
  | 0 => rfl
  | k + 1 => by
    have ih := whileN_le h k
    have := whileN_up (c := c) (b := b) (n + k) env S (by rw [ih]; exact h)
    rw [show n + (k + 1) = n + k + 1 by omega, this, ih]
theorem whileF_ok {c : Fr → M D} {b : Fr → M (Fl × Fr)} {n : Nat} {env : Fr} {S S' : Store} {r : Fl × Fr} (h : whileN c b n env S = .ok r S') : whileF c b env S = .ok r S' := by
  have hn : ¬ (whileN c b n env S).isBad := by rw [h]; exact id
  have ex : ∃ n, ¬ (whileN c b n env S).isBad := ⟨n, hn⟩
  unfold whileF
  rw [dif_pos ex]
  have k1 := whileN_le ex.choose_spec n
  have k2 := whileN_le hn ex.choose
  rw [Nat.add_comm] at k2
  rw [← k1, k2, h]
/-! ### decks -/
section
variable {p : Prm} {W : Wl} {S : Store} {t t1 c : Nat}
/-- a deck drawn from -/
theorem dk_set {j : Nat} {ds : List D} (w : WF p t W S) (h1 : W[j]? = some .dk) (hp : p.P t1 ds) (h2 : t ≤ t1) (h3 : t1 ≤ t + c) : Go p W S t (fun _ => False) W (S.set j (.lst ds)) t1 c := by
  have hl : j < S.length := by rw [← w.len]; exact (List.getElem?_eq_some_iff.mp h1).1
  have ne : ∀ {i : Nat}, i ≠ j → (S.set j (.lst ds))[i]? = S[i]? := fun h => List.getElem?_set_ne (fun e => h e.symm)
  have nj : ∀ {i : Nat} {k : Kd}, W[i]? = some k → k ≠ .dk → i ≠ j := fun {i k} e hk z => by
    subst z
    rw [h1] at e
    cases e
    exact hk rfl
  refine ⟨.refl, ⟨by rw [List.length_set]; exact w.len, fun i es e => ?_, fun i es e => ?_, fun i e => ?_, fun i e => ?_⟩, h2, h3, fun i e => ⟨ne (nj e fun z => nomatch z), .inl e⟩, by rw [List.length_set]; exact Nat.le_refl _⟩
  · rw [ne (nj e fun z => nomatch z)]
    exact w.fz i es e
  · rw [ne (nj e fun z => nomatch z)]
    exact w.sc i es e
  · by_cases hi : i = j
    · subst hi
      exact ⟨ds, by rw [List.getElem?_set_self hl], hp⟩
    · rw [ne hi]
      obtain ⟨es, e1, e2⟩ := w.dk i e
      exact ⟨es, e1, p.mono e2 h2⟩
  · rw [ne (nj e fun z => nomatch z)]
    exact w.ow i e
/-- a new deck -/
theorem dk_new {ds : List D} (w : WF p t W S) (hp : p.P t ds) : Go p W S t (fun _ => False) (W ++ [.dk]) (S ++ [.lst ds]) t 0 := by
  have old : ∀ {i : Nat}, i < S.length → (W ++ [.dk])[i]? = W[i]? ∧ (S ++ [.lst ds])[i]? = S[i]? := fun {i} h => ⟨by rw [List.getElem?_append_left (by rw [w.len]; exact h)], by rw [List.getElem?_append_left h]⟩
  have lt : ∀ {i : Nat} {k : Kd}, W[i]? = some k → i < S.length := fun h => by
    rw [← w.len]
    exact (List.getElem?_eq_some_iff.mp h).1
  have new : ∀ {i : Nat} {k : Kd}, (W ++ [.dk])[i]? = some k → (W[i]? = some k ∧ i < S.length) ∨ (i = S.length ∧ k = .dk) := fun {i k} h => by
    by_cases hi : i < S.length
    · rw [(old hi).1] at h
      exact .inl ⟨h, hi⟩
    · rw [List.getElem?_append_right (by rw [w.len]; omega)] at h
      have hl := (List.getElem?_eq_some_iff.mp h).1
      rw [List.length_singleton, w.len] at hl
      have : i = S.length := by omega
      subst this
      rw [w.len, Nat.sub_self] at h
      cases h
      exact .inr ⟨rfl, rfl⟩
  refine ⟨fun i k e hk => by rw [(old (lt e)).1]; exact e, ⟨by simp [w.len], fun i es e => ?_, fun i es e => ?_, fun i e => ?_, fun i e => ?_⟩, Nat.le_refl _, Nat.le_refl _, fun i e => ⟨(old (lt e)).2, .inl (by rw [(old (lt e)).1]; exact e)⟩, by simp⟩
  · rcases new e with ⟨h1, h2⟩ | ⟨_, h2⟩
    · rw [(old h2).2]; exact w.fz i es h1
    · cases h2
  · rcases new e with ⟨h1, h2⟩ | ⟨_, h2⟩
    · rw [(old h2).2]; exact w.sc i es h1
    · cases h2
  · rcases new e with ⟨h1, h2⟩ | ⟨h1, _⟩
    · rw [(old h2).2]; exact w.dk i h1
    · subst h1
      exact ⟨ds, by simp, hp⟩
  · rcases new e with ⟨h1, h2⟩ | ⟨_, h2⟩
    · rw [(old h2).2]; exact w.ow i h1
    · cases h2
end
/-! ### the greatest divisor -/
/-- while b > 0 (or b != 0): a, b = b, a % b -/
theorem gcd_loop {c : Fr → M D} {b : Fr → M (Fl × Fr)} {S : Store} {E : Int → Int → Fr} (hc : ∀ (x y : Nat) (S : Store), c (E x y) S = .ok (.bl (decide (0 < y))) S) (hb : ∀ (x y : Nat) (S : Store), 0 < y → b (E x y) S = .ok (.nx, E y ((x % y : Nat) : Int)) S) :
    ∀ (y x : Nat), ∃ n, whileN c b n (E x y) S = .ok (.nx, E (Nat.gcd x y) 0) S := by
  intro y
  induction y using Nat.strongRecOn with
  | _ y ih =>
    intro x
    by_cases hy : 0 < y
    · obtain ⟨n, hn⟩ := ih (x % y) (Nat.mod_lt _ hy) y
      refine ⟨n + 1, ?_⟩
      rw [whileN_succ, bnd_app, hc]
      dsimp only
      rw [decide_eq_true hy, tru_t, bnd_app, hb x y S hy]
      dsimp only
      rw [hn, show Nat.gcd y (x % y) = Nat.gcd x y by rw [Nat.gcd_comm x y, Nat.gcd_rec y x, Nat.gcd_comm]]
    · have : y = 0 := by omega
      subst this
      refine ⟨1, ?_⟩
      rw [whileN_succ, bnd_app, hc]
      dsimp only
      rw [decide_eq_false hy, tru_f, ret_app, Nat.gcd_zero_right]
      rfl
end Ev
namespace Ev
open PySem PySem.Spec PyProof.Rows
/-! ### numbers in lowest terms -/
def nX (x y : Int) : Int := x / (Int.gcd x y : Nat)
def nY (x y : Int) : Int := y / (Int.gcd x y : Nat)
def nrm (x y : Int) : D := .tup [.int (nX x y), .int (nY x y)]
theorem gcd_pos {x y : Int} (hy : 1 ≤ y) : 0 < (Int.gcd x y : Int) := by
  have := Int.gcd_pos_of_ne_zero_right x (show y ≠ 0 by omega)
  omega
theorem gcd_le {x y : Int} (hy : 1 ≤ y) : (Int.gcd x y : Int) ≤ y := Int.le_of_dvd (by omega) (Int.gcd_dvd_right x y)
theorem divOk_of {g m : Int} (h : 0 < g) (h2 : g ≤ m) (h3 : m.natAbs.log2 < 9000) : divOk g := ⟨by omega, Nat.lt_of_le_of_lt (log2_mono (show g.natAbs ≤ m.natAbs by omega)) h3⟩
theorem nX_mul (x y : Int) : nX x y * (Int.gcd x y : Int) = x := Int.ediv_mul_cancel (Int.gcd_dvd_left x y)
theorem nY_mul (x y : Int) : nY x y * (Int.gcd x y : Int) = y := Int.ediv_mul_cancel (Int.gcd_dvd_right x y)
theorem nY_pos {x y : Int} (hy : 1 ≤ y) : 1 ≤ nY x y := by
  have g0 := gcd_pos (x := x) hy
  have h := nY_mul x y
  by_cases hn : nY x y ≤ 0
  · have := Int.mul_le_mul_of_nonneg_right hn (show 0 ≤ (Int.gcd x y : Int) by omega)
    omega
  · omega
theorem nY_le {x y : Int} (hy : 1 ≤ y) : nY x y ≤ y := by
  have g0 := gcd_pos (x := x) hy
  have h := nY_mul x y
  have p := nY_pos (x := x) hy
  have := Int.mul_le_mul_of_nonneg_left (show (1 : Int) ≤ (Int.gcd x y : Int) by omega) (show 0 ≤ nY x y by omega)
  omega
theorem nX_abs {x y : Int} (hy : 1 ≤ y) : (nX x y).natAbs ≤ x.natAbs := by
  have g0 := gcd_pos (x := x) hy
  have h := congrArg Int.natAbs (nX_mul x y)
  rw [Int.natAbs_mul] at h
  have g1 : 1 ≤ (Int.gcd x y : Int).natAbs := by omega
  have := Nat.mul_le_mul_left (nX x y).natAbs g1
  omega
theorem n_gcd {x y : Int} (hy : 1 ≤ y) : Int.gcd (nX x y) (nY x y) = 1 := Int.gcd_ediv_gcd_ediv_gcd (by have := gcd_pos (x := x) hy; omega)
/-- the value is kept -/
theorem n_val {x y : Int} (hy : 1 ≤ y) : nX x y * y = x * nY x y := by
  have h1 := nX_mul x y
  have h2 := nY_mul x y
  generalize nX x y = a at *
  generalize nY x y = b at *
  generalize (Int.gcd x y : Int) = g at *
  rw [← h1, ← h2]
  rw [Int.mul_assoc a g b, Int.mul_comm g b]
theorem cross {a b c d x y x' y' : Int} (hy : 1 ≤ y) (hy' : 1 ≤ y') (h1 : a * y = x * b) (h2 : c * y' = x' * d) (h : x * y' = x' * y) (hb : 1 ≤ b) : a * d = c * b := by
  have e : a * d * (y * y') = c * b * (y * y') := by grind
  exact Int.eq_of_mul_eq_mul_right (Int.ne_of_gt (Int.mul_pos (by omega) (by omega))) e
theorem idvd {a b d : Int} (g : Int.gcd b a = 1) (h : b ∣ a * d) : b ∣ d := by
  have h1 : b.natAbs ∣ a.natAbs * d.natAbs := by rw [← Int.natAbs_mul]; exact Int.natAbs_dvd_natAbs.mpr h
  have h2 : Nat.Coprime b.natAbs a.natAbs := g
  exact Int.natAbs_dvd_natAbs.mp (h2.dvd_of_dvd_mul_left h1)
theorem low_eq {a b c d : Int} (hb : 1 ≤ b) (hd : 1 ≤ d) (g1 : Int.gcd a b = 1) (g2 : Int.gcd c d = 1) (h : a * d = c * b) : a = c ∧ b = d := by
  have k1 : b ∣ d := by
    have : b ∣ a * d := ⟨c, by rw [h, Int.mul_comm]⟩
    exact idvd (by rw [Int.gcd_comm]; exact g1) this
  have k2 : d ∣ b := by
    have : d ∣ c * b := ⟨a, by rw [← h, Int.mul_comm]⟩
    exact idvd (by rw [Int.gcd_comm]; exact g2) this
  have e : b = d := Int.le_antisymm (Int.le_of_dvd (by omega) k1) (Int.le_of_dvd (by omega) k2)
  subst e
  exact ⟨Int.eq_of_mul_eq_mul_right (by omega) h, rfl⟩
/-- numbers of one value have one lowest form -/
theorem nrm_eq {x y x' y' : Int} (hy : 1 ≤ y) (hy' : 1 ≤ y') (h : x * y' = x' * y) : nX x y = nX x' y' ∧ nY x y = nY x' y' :=
  low_eq (nY_pos hy) (nY_pos hy') (n_gcd hy) (n_gcd hy') (cross hy hy' (n_val hy) (n_val hy') h (nY_pos hy))
/-! ### sizes -/
def Bd (k : Nat) (i : Int) : Prop := i.natAbs < 2 ^ k
theorem Bd.mono {a b : Nat} {i : Int} (h : Bd a i) (hl : a ≤ b) : Bd b i := Nat.lt_of_lt_of_le h (Nat.pow_le_pow_right (by decide) hl)
theorem Bd.mul {a b : Nat} {i j : Int} (h1 : Bd a i) (h2 : Bd b j) : Bd (a + b) (i * j) := by
  unfold Bd at *
  rw [Int.natAbs_mul, Nat.pow_add]
  exact Nat.mul_lt_mul'' h1 h2
theorem Bd.add {a : Nat} {i j : Int} (h1 : Bd a i) (h2 : Bd a j) : Bd (a + 1) (i + j) := by
  unfold Bd at *
  rw [Nat.pow_succ]
  omega
theorem Bd.sub {a : Nat} {i j : Int} (h1 : Bd a i) (h2 : Bd a j) : Bd (a + 1) (i - j) := by
  unfold Bd at *
  rw [Nat.pow_succ]
  omega
theorem Bd.log {a : Nat} {i : Int} (h : Bd a i) (ha : 0 < a) : i.natAbs.log2 < a := by
  by_cases h0 : i.natAbs = 0
  · rw [h0]; exact ha
  · exact (Nat.log2_lt h0).mpr h
theorem Bd.mulOk {a b : Nat} {i j : Int} (h1 : Bd a i) (h2 : Bd b j) (ha : 0 < a := by decide) (hb : 0 < b := by decide) (hs : a + b ≤ 1000000 := by decide) : mulOk i j :=
  .inr (.inr (by have := h1.log ha; have := h2.log hb; omega))
theorem Bd.nX {a : Nat} {x y : Int} (h : Bd a x) (hy : 1 ≤ y) : Bd a (nX x y) := Nat.lt_of_le_of_lt (nX_abs hy) h
theorem Bd.nY {a : Nat} {x y : Int} (h : Bd a y) (hy : 1 ≤ y) : Bd a (nY x y) := by
  have := nY_le (x := x) hy
  have := nY_pos (x := x) hy
  unfold Bd at *
  omega
end Ev
namespace Ev
open PySem PySem.Spec PyProof.Rows L2
/-! ### plain values: lists and dicts by value -/
inductive Pv where
  | non | bl (b : Bool) | int (i : Int) | str (x : Str) | tup (ps : List Pv) | lst (ps : List Pv) | dic (kvs : List (Key × Pv)) | fn (i : Nat)
inductive Pc where
  | lst (ps : List Pv) | dic (kvs : List (Key × Pv))
/-- the cells that stay, by what they hold -/
abbrev Pw := Nat → Option Pc
mutual
inductive Vr (W : Pw) : D → Pv → Prop
  | non : Vr W .non .non
  | bl (b : Bool) : Vr W (.bl b) (.bl b)
  | int (i : Int) : Vr W (.int i) (.int i)
  | str (x : Str) : Vr W (.str x) (.str x)
  | fn (i : Nat) : Vr W (.fn i) (.fn i)
  | tup {ds : List D} {ps : List Pv} : Vrs W ds ps → Vr W (.tup ds) (.tup ps)
  | lst {n : Nat} {ps : List Pv} : W n = some (.lst ps) → Vr W (.ref n) (.lst ps)
  | dic {n : Nat} {ks : List (Key × Pv)} : W n = some (.dic ks) → Vr W (.ref n) (.dic ks)
inductive Vrs (W : Pw) : List D → List Pv → Prop
  | nil : Vrs W [] []
  | cons {d : D} {p : Pv} {ds : List D} {ps : List Pv} : Vr W d p → Vrs W ds ps → Vrs W (d :: ds) (p :: ps)
end
inductive Vrk (W : Pw) : List (Key × D) → List (Key × Pv) → Prop
  | nil : Vrk W [] []
  | cons {k : Key} {d : D} {p : Pv} {ds : List (Key × D)} {ps : List (Key × Pv)} : Vr W d p → Vrk W ds ps → Vrk W ((k, d) :: ds) ((k, p) :: ps)
inductive Crl (W : Pw) : Cell → Pc → Prop
  | lst {ds : List D} {ps : List Pv} : Vrs W ds ps → Crl W (.lst ds) (.lst ps)
  | dic {ds : List (Key × D)} {ps : List (Key × Pv)} : Vrk W ds ps → Crl W (.dic ds) (.dic ps)
def WdOk (W : Pw) (S : Store) : Prop := ∀ n c, W n = some c → ∃ k, S[n]? = some k ∧ Crl W k c
def WdSub (W W' : Pw) : Prop := ∀ n c, W n = some c → W' n = some c
theorem WdSub.refl {W : Pw} : WdSub W W := fun _ _ h => h
theorem WdSub.trans {W W1 W2 : Pw} (a : WdSub W W1) (b : WdSub W1 W2) : WdSub W W2 := fun n c h => b n c (a n c h)
section
variable {W W' : Pw}
mutual
theorem Vr.mono (s : WdSub W W') : ∀ {d : D} {p : Pv}, Vr W d p → Vr W' d p
  | _, _, .non => .non
  | _, _, .bl b => .bl b
  | _, _, .int i => .int i
  | _, _, .str x => .str x
  | _, _, .fn i => .fn i
  | _, _, .tup h => .tup (Vrs.mono s h)
  | _, _, .lst h => .lst (s _ _ h)
  | _, _, .dic h => .dic (s _ _ h)
theorem Vrs.mono (s : WdSub W W') : ∀ {ds : List D} {ps : List Pv}, Vrs W ds ps → Vrs W' ds ps
  | _, _, .nil => .nil
  | _, _, .cons a b => .cons (Vr.mono s a) (Vrs.mono s b)
end
theorem Vrk.mono (s : WdSub W W') : ∀ {ds : List (Key × D)} {ps : List (Key × Pv)}, Vrk W ds ps → Vrk W' ds ps
  | _, _, .nil => .nil
  | _, _, .cons a b => .cons (a.mono s) (Vrk.mono s b)
theorem Crl.mono (s : WdSub W W') {k : Cell} {c : Pc} (h : Crl W k c) : Crl W' k c := by
  cases h with
  | lst r => exact .lst (r.mono s)
  | dic r => exact .dic (r.mono s)
theorem Vrs.length : ∀ {ds : List D} {ps : List Pv}, Vrs W ds ps → ds.length = ps.length
  | _, _, .nil => rfl
  | _, _, .cons _ b => by rw [List.length_cons, List.length_cons, Vrs.length b]
theorem Vrk.length : ∀ {ds : List (Key × D)} {ps : List (Key × Pv)}, Vrk W ds ps → ds.length = ps.length
  | _, _, .nil => rfl
  | _, _, .cons _ b => by rw [List.length_cons, List.length_cons, Vrk.length b]
theorem Vrs.getP : ∀ {ds : List D} {ps : List Pv} {i : Nat} {p : Pv}, Vrs W ds ps → ps[i]? = some p → ∃ d, ds[i]? = some d ∧ Vr W d p
  | _, _, 0, _, .cons a _, e => by simp at e; subst e; exact ⟨_, rfl, a⟩
  | _, _, i + 1, p, .cons _ b, e => by
    obtain ⟨d, h1, h2⟩ := Vrs.getP (i := i) (p := p) b (by simpa using e)
    exact ⟨d, by simpa using h1, h2⟩
theorem Vrs.append : ∀ {as bs : List D} {vs us : List Pv}, Vrs W as vs → Vrs W bs us → Vrs W (as ++ bs) (vs ++ us)
  | _, _, _, _, .nil, s => s
  | _, _, _, _, .cons r t, s => .cons r (Vrs.append t s)
theorem Vrs.take : ∀ {ds : List D} {vs : List Pv} (n : Nat), Vrs W ds vs → Vrs W (ds.take n) (vs.take n)
  | _, _, 0, _ => .nil
  | _, _, _ + 1, .nil => .nil
  | _, _, n + 1, .cons r t => .cons r (Vrs.take n t)
theorem Vrs.drop : ∀ {ds : List D} {vs : List Pv} (n : Nat), Vrs W ds vs → Vrs W (ds.drop n) (vs.drop n)
  | _, _, 0, r => r
  | _, _, _ + 1, .nil => .nil
  | _, _, n + 1, .cons _ t => Vrs.drop n t
theorem Vrs.set {d : D} {p : Pv} (r : Vr W d p) : ∀ {ds : List D} {vs : List Pv} (i : Nat), Vrs W ds vs → Vrs W (ds.set i d) (vs.set i p)
  | _, _, _, .nil => .nil
  | _, _, 0, .cons _ t => .cons r t
  | _, _, i + 1, .cons q t => .cons q (Vrs.set r i t)
theorem Vrs.dropLast : ∀ {ds : List D} {vs : List Pv}, Vrs W ds vs → Vrs W ds.dropLast vs.dropLast
  | _, _, .nil => .nil
  | _, _, .cons _ .nil => .nil
  | _, _, .cons a (.cons b c) => .cons a (Vrs.dropLast (.cons b c))
theorem Vrs.eraseIdx : ∀ {ds : List D} {vs : List Pv} (i : Nat), Vrs W ds vs → Vrs W (ds.eraseIdx i) (vs.eraseIdx i)
  | _, _, _, .nil => .nil
  | _, _, 0, .cons _ t => t
  | _, _, i + 1, .cons q t => .cons q (Vrs.eraseIdx i t)
theorem Vrs.flatRep {ds : List D} {ps : List Pv} (r : Vrs W ds ps) : ∀ n, Vrs W (List.replicate n ds).flatten (List.replicate n ps).flatten
  | 0 => .nil
  | n + 1 => by
    rw [List.replicate_succ, List.replicate_succ, List.flatten_cons, List.flatten_cons]
    exact r.append (Vrs.flatRep r n)
end
theorem WdOk.lt {W : Pw} {S : Store} (w : WdOk W S) {n : Nat} {c : Pc} (h : W n = some c) : n < S.length := by
  obtain ⟨k, e, _⟩ := w n c h
  exact (List.getElem?_eq_some_iff.mp e).1
theorem WdOk.none {W : Pw} {S : Store} (w : WdOk W S) {n : Nat} (h : S.length ≤ n) : W n = Option.none := by
  cases e : W n with
  | none => rfl
  | some c => have := w.lt e; omega
/-- read where it stands -/
def Tr (W : Pw) (S : Store) (d : D) : Pv → Prop
  | .lst ps => ∃ n ds, d = .ref n ∧ S[n]? = some (.lst ds) ∧ Vrs W ds ps
  | .dic ks => ∃ n ds, d = .ref n ∧ S[n]? = some (.dic ds) ∧ Vrk W ds ks
  | p => Vr W d p
theorem Vr.tr {W : Pw} {S : Store} (w : WdOk W S) {d : D} {p : Pv} (h : Vr W d p) : Tr W S d p := by
  cases h with
  | lst e =>
    obtain ⟨k, h1, h2⟩ := w _ _ e
    cases h2 with
    | lst r => exact ⟨_, _, rfl, h1, r⟩
  | dic e =>
    obtain ⟨k, h1, h2⟩ := w _ _ e
    cases h2 with
    | dic r => exact ⟨_, _, rfl, h1, r⟩
  | non => exact .non
  | bl b => exact .bl b
  | int i => exact .int i
  | str x => exact .str x
  | fn i => exact .fn i
  | tup r => exact .tup r
/-- a new one, or a frame's own -/
def Orr (W : Pw) (S : Store) (d : D) : Pv → Prop
  | .lst ps => ∃ n ds, d = .ref n ∧ W n = none ∧ S[n]? = some (.lst ds) ∧ Vrs W ds ps
  | .dic ks => ∃ n ds, d = .ref n ∧ W n = none ∧ S[n]? = some (.dic ds) ∧ Vrk W ds ks
  | _ => False
theorem Orr.tr {W : Pw} {S : Store} {d : D} : ∀ {p : Pv}, Orr W S d p → Tr W S d p
  | .lst _, ⟨n, ds, a, _, b, c⟩ => ⟨n, ds, a, b, c⟩
  | .dic _, ⟨n, ds, a, _, b, c⟩ => ⟨n, ds, a, b, c⟩
  | .non, h => h.elim
  | .bl _, h => h.elim
  | .int _, h => h.elim
  | .str _, h => h.elim
  | .tup _, h => h.elim
  | .fn _, h => h.elim
theorem Orr.ref {W : Pw} {S : Store} {d : D} : ∀ {p : Pv}, Orr W S d p → ∃ n, d = .ref n ∧ W n = none ∧ n < S.length
  | .lst _, ⟨n, ds, a, b, c, _⟩ => ⟨n, a, b, (List.getElem?_eq_some_iff.mp c).1⟩
  | .dic _, ⟨n, ds, a, b, c, _⟩ => ⟨n, a, b, (List.getElem?_eq_some_iff.mp c).1⟩
  | .non, h => h.elim
  | .bl _, h => h.elim
  | .int _, h => h.elim
  | .str _, h => h.elim
  | .tup _, h => h.elim
  | .fn _, h => h.elim
/-- from a state to a later one, all that stood unchanged -/
structure Grw (W : Pw) (S : Store) (W' : Pw) (S' : Store) : Prop where
  len : S.length ≤ S'.length
  st : ∀ j, j < S.length → S'[j]? = S[j]?
  wd : ∀ j, j < S.length → W' j = W j
  ok : WdOk W' S'
section
variable {W W1 W2 : Pw} {S S1 S2 : Store} {d : D} {p : Pv}
theorem Grw.refl (w : WdOk W S) : Grw W S W S := ⟨Nat.le_refl _, fun _ _ => rfl, fun _ _ => rfl, w⟩
theorem Grw.trans (a : Grw W S W1 S1) (b : Grw W1 S1 W2 S2) : Grw W S W2 S2 :=
  ⟨Nat.le_trans a.len b.len, fun j h => (b.st j (Nat.lt_of_lt_of_le h a.len)).trans (a.st j h), fun j h => (b.wd j (Nat.lt_of_lt_of_le h a.len)).trans (a.wd j h), b.ok⟩
theorem Grw.sub (a : Grw W S W1 S1) (w : WdOk W S) : WdSub W W1 := fun n c h => by rw [a.wd n (w.lt h)]; exact h
theorem Grw.tr (a : Grw W S W1 S1) (w : WdOk W S) : ∀ {p : Pv}, Tr W S d p → Tr W1 S1 d p
  | .lst _, ⟨n, ds, h1, h2, h3⟩ => ⟨n, ds, h1, by rw [a.st n (List.getElem?_eq_some_iff.mp h2).1]; exact h2, h3.mono (a.sub w)⟩
  | .dic _, ⟨n, ds, h1, h2, h3⟩ => ⟨n, ds, h1, by rw [a.st n (List.getElem?_eq_some_iff.mp h2).1]; exact h2, h3.mono (a.sub w)⟩
  | .non, h => Vr.mono (a.sub w) h
  | .bl _, h => Vr.mono (a.sub w) h
  | .int _, h => Vr.mono (a.sub w) h
  | .str _, h => Vr.mono (a.sub w) h
  | .tup _, h => Vr.mono (a.sub w) h
  | .fn _, h => Vr.mono (a.sub w) h
theorem Grw.or (a : Grw W S W1 S1) (w : WdOk W S) : ∀ {p : Pv}, Orr W S d p → Orr W1 S1 d p
  | .lst _, ⟨n, ds, h1, h0, h2, h3⟩ => ⟨n, ds, h1, by rw [a.wd n (List.getElem?_eq_some_iff.mp h2).1]; exact h0, by rw [a.st n (List.getElem?_eq_some_iff.mp h2).1]; exact h2, h3.mono (a.sub w)⟩
  | .dic _, ⟨n, ds, h1, h0, h2, h3⟩ => ⟨n, ds, h1, by rw [a.wd n (List.getElem?_eq_some_iff.mp h2).1]; exact h0, by rw [a.st n (List.getElem?_eq_some_iff.mp h2).1]; exact h2, h3.mono (a.sub w)⟩
  | .non, h => h.elim
  | .bl _, h => h.elim
  | .int _, h => h.elim
  | .str _, h => h.elim
  | .tup _, h => h.elim
  | .fn _, h => h.elim
/-- a new cell -/
theorem Grw.new (w : WdOk W S) (c : Cell) : Grw W S W (S ++ [c]) :=
  ⟨by simp, fun j h => List.getElem?_append_left h, fun _ _ => rfl, fun n c' h => by
    obtain ⟨k, h1, h2⟩ := w n c' h
    exact ⟨k, by rw [List.getElem?_append_left (w.lt h)]; exact h1, h2⟩⟩
/-- one more stays -/
def Pw.put (W : Pw) (n : Nat) (c : Pc) : Pw := fun j => if j = n then some c else W j
theorem Pw.put_sub {n : Nat} {c : Pc} (h : W n = none) : WdSub W (W.put n c) := fun j c' e => by
  unfold Pw.put
  by_cases hj : j = n
  · subst hj; rw [h] at e; cases e
  · rw [if_neg hj]; exact e
theorem Pw.put_self {n : Nat} {c : Pc} : W.put n c n = some c := if_pos rfl
theorem Pw.put_ne {n j : Nat} {c : Pc} (h : j ≠ n) : W.put n c j = W j := if_neg h
theorem WdOk.put (w : WdOk W S) {n : Nat} {c : Pc} {k : Cell} (h : W n = Option.none) (e : S[n]? = some k) (r : Crl W k c) : WdOk (W.put n c) S := fun j c' q => by
  by_cases hj : j = n
  · subst hj
    rw [Pw.put_self] at q
    cases q
    exact ⟨k, e, r.mono (Pw.put_sub h)⟩
  · rw [Pw.put_ne hj] at q
    obtain ⟨k', h1, h2⟩ := w j c' q
    exact ⟨k', h1, h2.mono (Pw.put_sub h)⟩
def Pv.cell : Pv → Option Pc
  | .lst ps => some (.lst ps)
  | .dic ks => some (.dic ks)
  | _ => none
/-- an own one stays from now on -/
theorem Orr.frz (w : WdOk W S) : ∀ {p : Pv}, Orr W S d p → ∃ n c, d = .ref n ∧ W n = none ∧ n < S.length ∧ WdOk (W.put n c) S ∧ Vr (W.put n c) d p
  | .lst ps, ⟨n, ds, h1, h0, h2, h3⟩ => ⟨n, .lst ps, h1, h0, (List.getElem?_eq_some_iff.mp h2).1, w.put h0 h2 (.lst h3), by rw [h1]; exact .lst Pw.put_self⟩
  | .dic ks, ⟨n, ds, h1, h0, h2, h3⟩ => ⟨n, .dic ks, h1, h0, (List.getElem?_eq_some_iff.mp h2).1, w.put h0 h2 (.dic h3), by rw [h1]; exact .dic Pw.put_self⟩
  | .non, h => h.elim
  | .bl _, h => h.elim
  | .int _, h => h.elim
  | .str _, h => h.elim
  | .tup _, h => h.elim
  | .fn _, h => h.elim
/-- a new one, kept -/
theorem Grw.frz (a : Grw W S W1 S1) {n : Nat} {c : Pc} (h : S.length ≤ n) (w : WdOk (W1.put n c) S1) : Grw W S (W1.put n c) S1 :=
  ⟨a.len, a.st, fun j hj => by rw [Pw.put_ne (by omega)]; exact a.wd j hj, w⟩
end
/-! ### as data -/
mutual
def toPD : Pv → PyData
  | .non => .none
  | .bl b => .bool b
  | .int i => .int i
  | .str x => .str x
  | .tup ps => .tuple (toPDs ps)
  | .lst ps => .list (toPDs ps)
  | .dic ks => .dict (toPDk ks)
  | .fn _ => .none
def toPDs : List Pv → List PyData
  | [] => []
  | p :: ps => toPD p :: toPDs ps
def toPDk : List (Key × Pv) → List (PyData × PyData)
  | [] => []
  | (k, p) :: ps => (kpy k, toPD p) :: toPDk ps
end
/-- py's depth is enough -/
def fits : Nat → Pv → Bool
  | 0, p => match p with
    | .non => true
    | .bl _ => true
    | .int _ => true
    | .str _ => true
    | _ => false
  | n + 1, p => match p with
    | .non => true
    | .bl _ => true
    | .int _ => true
    | .str _ => true
    | .tup ps => ps.all (fits n)
    | .lst ps => ps.all (fits n)
    | .dic ks => ks.all fun q => fits n q.2
    | .fn _ => false
theorem pyk_some {S : Store} {n : Nat} {k : Key} {d : D} {ds : List (Key × D)} {xs : List (PyData × PyData)} (h : pyk n S ((k, d) :: ds) = some xs) : ∃ x ys, py n S d = some x ∧ pyk n S ds = some ys ∧ xs = (kpy k, x) :: ys := by
  rw [pyk_cons] at h
  cases e : py n S d with
  | none => rw [e] at h; simp at h
  | some x =>
    cases e2 : pyk n S ds with
    | none => rw [e, e2] at h; simp at h
    | some ys =>
      rw [e, e2] at h
      exact ⟨x, ys, rfl, rfl, (by simpa using h.symm)⟩
section
variable {W : Pw} {S : Store}
theorem py_toPD (w : WdOk W S) : ∀ (n : Nat) {d : D} {p : Pv} {x : PyData}, Tr W S d p → py n S d = some x → x = toPD p := by
  intro n
  have alls : ∀ n, (∀ {d : D} {p : Pv} {x : PyData}, Tr W S d p → py n S d = some x → x = toPD p) → ∀ {ds : List D} {ps : List Pv} {xs : List PyData}, Vrs W ds ps → pys n S ds = some xs → xs = toPDs ps := by
    intro n ih ds
    induction ds with
    | nil =>
      intro ps xs r h
      cases r
      rw [pys_nil] at h
      cases h
      rw [toPDs]
    | cons d ds ih2 =>
      intro ps xs r h
      cases r with
      | cons a b =>
        obtain ⟨x, ys, h1, h2, rfl⟩ := pys_some h
        rw [toPDs, ih (a.tr w) h1, ih2 b h2]
  have allk : ∀ n, (∀ {d : D} {p : Pv} {x : PyData}, Tr W S d p → py n S d = some x → x = toPD p) → ∀ {ds : List (Key × D)} {ps : List (Key × Pv)} {xs : List (PyData × PyData)}, Vrk W ds ps → pyk n S ds = some xs → xs = toPDk ps := by
    intro n ih ds
    induction ds with
    | nil =>
      intro ps xs r h
      cases r
      rw [pyk_nil] at h
      cases h
      rw [toPDk]
    | cons d ds ih2 =>
      intro ps xs r h
      cases r with
      | cons a b =>
        obtain ⟨x, ys, h1, h2, rfl⟩ := pyk_some h
        rw [toPDk, ih (a.tr w) h1, ih2 b h2]
  have flat : ∀ n {d : D} {p : Pv} {x : PyData}, Vr W d p → (∀ ds, d ≠ .tup ds) → (∀ m, d ≠ .ref m) → py n S d = some x → x = toPD p := by
    intro n d p x r n1 n2 h
    cases r with
    | non => rw [py_non] at h; cases h; rw [toPD]
    | bl b => rw [py_bl] at h; cases h; rw [toPD]
    | int i => rw [py_int] at h; cases h; rw [toPD]
    | str y => rw [py_str] at h; cases h; rw [toPD]
    | fn i => rw [py_fn] at h; cases h
    | tup _ => exact absurd rfl (n1 _)
    | lst _ => exact absurd rfl (n2 _)
    | dic _ => exact absurd rfl (n2 _)
  induction n with
  | zero =>
    intro d p x r h
    have nt : ∀ ds, d ≠ .tup ds := fun ds e => by subst e; rw [py_tup0] at h; cases h
    have nr : ∀ m, d ≠ .ref m := fun m e => by subst e; rw [py_ref0] at h; cases h
    cases p with
    | lst ps => obtain ⟨m, ds, e, _⟩ := r; exact absurd e (nr m)
    | dic ks => obtain ⟨m, ds, e, _⟩ := r; exact absurd e (nr m)
    | _ => exact flat 0 r nt nr h
  | succ n ih =>
    intro d p x r h
    cases p with
    | lst ps =>
      obtain ⟨m, ds, rfl, h2, h3⟩ := r
      rw [py_ref, h2] at h
      simp only [Option.map_eq_some_iff] at h
      obtain ⟨xs, h4, rfl⟩ := h
      rw [toPD, alls n ih h3 h4]
    | dic ks =>
      obtain ⟨m, ds, rfl, h2, h3⟩ := r
      rw [py_ref, h2] at h
      simp only [Option.map_eq_some_iff] at h
      obtain ⟨xs, h4, rfl⟩ := h
      rw [toPD, allk n ih h3 h4]
    | tup ps =>
      have r : Vr W d (.tup ps) := r
      cases r with
      | tup r =>
        rw [py_tup, Option.map_eq_some_iff] at h
        obtain ⟨xs, h4, rfl⟩ := h
        rw [toPD, alls n ih r h4]
    | _ =>
      have r : Vr W d _ := r
      cases r
      all_goals first
        | (rw [py_non] at h; cases h; rw [toPD]; done)
        | (rw [py_bl] at h; cases h; rw [toPD]; done)
        | (rw [py_int] at h; cases h; rw [toPD]; done)
        | (rw [py_str] at h; cases h; rw [toPD]; done)
        | (rw [py_fn] at h; cases h; done)
theorem py_fits (w : WdOk W S) : ∀ (n : Nat) {d : D} {p : Pv}, Tr W S d p → fits n p = true → ∃ x, py n S d = some x := by
  have alls : ∀ n, (∀ {d : D} {p : Pv}, Tr W S d p → fits n p = true → ∃ x, py n S d = some x) → ∀ {ds : List D} {ps : List Pv}, Vrs W ds ps → ps.all (fits n) = true → ∃ xs, pys n S ds = some xs := by
    intro n ih ds
    induction ds with
    | nil => intro ps r h; exact ⟨[], by rw [pys_nil]⟩
    | cons d ds ih2 =>
      intro ps r h
      cases r with
      | cons a b =>
        rw [List.all_cons, Bool.and_eq_true] at h
        obtain ⟨x, h1⟩ := ih (a.tr w) h.1
        obtain ⟨xs, h2⟩ := ih2 b h.2
        exact ⟨x :: xs, by rw [pys_cons, h1, h2]⟩
  have allk : ∀ n, (∀ {d : D} {p : Pv}, Tr W S d p → fits n p = true → ∃ x, py n S d = some x) → ∀ {ds : List (Key × D)} {ps : List (Key × Pv)}, Vrk W ds ps → (ps.all fun q => fits n q.2) = true → ∃ xs, pyk n S ds = some xs := by
    intro n ih ds
    induction ds with
    | nil => intro ps r h; exact ⟨[], by rw [pyk_nil]⟩
    | cons d ds ih2 =>
      intro ps r h
      cases r with
      | cons a b =>
        rw [List.all_cons, Bool.and_eq_true] at h
        obtain ⟨x, h1⟩ := ih (a.tr w) h.1
        obtain ⟨xs, h2⟩ := ih2 b h.2
        exact ⟨_, by rw [pyk_cons, h1, h2]⟩
  intro n
  induction n with
  | zero =>
    intro d p r h
    cases p with
    | lst ps => simp [fits] at h
    | dic ks => simp [fits] at h
    | tup ps => simp [fits] at h
    | fn i => simp [fits] at h
    | non => have r : Vr W d _ := r; cases r; exact ⟨_, py_non _ _⟩
    | bl b => have r : Vr W d _ := r; cases r; exact ⟨_, py_bl _ _ _⟩
    | int b => have r : Vr W d _ := r; cases r; exact ⟨_, py_int _ _ _⟩
    | str b => have r : Vr W d _ := r; cases r; exact ⟨_, py_str _ _ _⟩
  | succ n ih =>
    intro d p r h
    cases p with
    | lst ps =>
      obtain ⟨m, ds, rfl, h2, h3⟩ := r
      have h : _ = true := h
      unfold fits at h
      dsimp only at h
      obtain ⟨xs, h4⟩ := alls n ih h3 h
      exact ⟨.list xs, by rw [py_ref, h2]; simp only [h4, Option.map_some]⟩
    | dic ks =>
      obtain ⟨m, ds, rfl, h2, h3⟩ := r
      have h : _ = true := h
      unfold fits at h
      dsimp only at h
      obtain ⟨xs, h4⟩ := allk n ih h3 h
      exact ⟨.dict xs, by rw [py_ref, h2]; simp only [h4, Option.map_some]⟩
    | tup ps =>
      have r : Vr W d _ := r
      cases r with
      | tup r =>
        have h : ps.all (fits n) = true := h
        obtain ⟨xs, h4⟩ := alls n ih r h
        exact ⟨.tuple xs, by rw [py_tup, h4, Option.map_some]⟩
    | fn i => simp [fits] at h
    | non => have r : Vr W d _ := r; cases r; exact ⟨_, py_non _ _⟩
    | bl b => have r : Vr W d _ := r; cases r; exact ⟨_, py_bl _ _ _⟩
    | int b => have r : Vr W d _ := r; cases r; exact ⟨_, py_int _ _ _⟩
    | str b => have r : Vr W d _ := r; cases r; exact ⟨_, py_str _ _ _⟩
end
end Ev
namespace Ev
open PySem PySem.Spec PyProof.Rows L2
/-! ### operations on plain values; g: with the guards -/
inductive Pz where
  | val (p : Pv) | own (p : Pv)
def Pz.pv : Pz → Pv
  | .val p => p
  | .own p => p
def gd {α : Type} (g c : Bool) (x : Option α) : Option α := match g with
  | false => x
  | true => match c with
    | true => x
    | false => none
def eqOk (a b : Pv) : Bool := fits FU a && (fits FU b && (shp (toPD a) && shp (toPD b)))
def pEq (g : Bool) (a b : Pv) : Option Pv := match a, b with
  | .int i, .int j => some (.bl (decide (i = j)))
  | .str x, .str y => some (.bl (decide (x = y)))
  | .bl x, .bl y => some (.bl (decide (x = y)))
  | .non, .non => some (.bl true)
  | a, b => gd g (eqOk a b) (some (.bl (PyData.eqv (toPD a) (toPD b))))
def pNot : Pv → Option Pv
  | .bl b => some (.bl (!b))
  | _ => none
def pNe (g : Bool) (a b : Pv) : Option Pv := (pEq g a b).bind pNot
def pAdd (g : Bool) : Pv → Pv → Option Pz
  | .int i, .int j => some (.val (.int (i + j)))
  | .str x, .str y => gd g (decide (x.length + y.length ≤ LINE)) (some (.val (.str (x ++ y))))
  | .tup xs, .tup ys => gd g (decide (xs.length + ys.length ≤ LINE)) (some (.val (.tup (xs ++ ys))))
  | .lst xs, .lst ys => gd g (decide (xs.length + ys.length ≤ LINE)) (some (.own (.lst (xs ++ ys))))
  | _, _ => none
def pSub : Pv → Pv → Option Pz
  | .int i, .int j => some (.val (.int (i - j)))
  | _, _ => none
def pMul (g : Bool) : Pv → Pv → Option Pz
  | .int i, .int j => gd g (decide (mulOk i j)) (some (.val (.int (i * j))))
  | .lst xs, .int k => gd g (decide (-(2 ^ 63) ≤ k ∧ k < 2 ^ 63 ∧ xs.length * k.toNat ≤ LINE)) (some (.own (.lst (List.replicate k.toNat xs).flatten)))
  | _, _ => none
def pDiv (g : Bool) : Pv → Pv → Option Pz
  | .int i, .int j => gd g (decide (divOk j)) (some (.val (.int (if 0 < j then i / j else i.fdiv j))))
  | _, _ => none
def pMod (g : Bool) : Pv → Pv → Option Pz
  | .int i, .int j => gd g (decide (j ≠ 0)) (some (.val (.int (if 0 < j then i % j else i.fmod j))))
  | _, _ => none
def pPow (g : Bool) : Pv → Pv → Option Pz
  | .int i, .int j => gd g (decide (powOk i j)) (some (.val (.int (i ^ j.toNat))))
  | _, _ => none
def pShl (g : Bool) : Pv → Pv → Option Pz
  | .int i, .int j => gd g (decide (powOk i j)) (some (.val (.int (i * 2 ^ j.toNat))))
  | _, _ => none
def pShr (g : Bool) : Pv → Pv → Option Pz
  | .int i, .int j => gd g (decide (0 ≤ j)) (some (.val (.int (i / 2 ^ j.toNat))))
  | _, _ => none
def pAnd : Pv → Pv → Option Pz
  | .int i, .int j => some (.val (.int (Builtin.bitAnd i j)))
  | _, _ => none
def Bop.runP (g : Bool) : Bop → Pv → Pv → Option Pz
  | .add => pAdd g | .sub => pSub | .mul => pMul g | .div => pDiv g | .mod => pMod g | .pow => pPow g | .shl => pShl g | .shr => pShr g | .and => pAnd
def pInts : List Pv → Option (List Int)
  | [] => some []
  | .int i :: r => (pInts r).map (i :: ·)
  | _ :: _ => none
def pLt : Pv → Pv → Option Pv
  | .int i, .int j => some (.bl (decide (i < j)))
  | .tup xs, .tup ys => match pInts xs, pInts ys with
    | some ns, some ms => some (.bl (HT.lexLt ns ms))
    | _, _ => none
  | _, _ => none
def pLe : Pv → Pv → Option Pv
  | .int i, .int j => some (.bl (decide (i ≤ j)))
  | _, _ => none
def pGt : Pv → Pv → Option Pv
  | .int i, .int j => some (.bl (decide (j < i)))
  | _, _ => none
def pGe : Pv → Pv → Option Pv
  | .int i, .int j => some (.bl (decide (j ≤ i)))
  | _, _ => none
def isNonP : Pv → Bool
  | .non => true
  | _ => false
def pIs (a b : Pv) : Option Pv := match b with
  | .non => some (.bl (isNonP a))
  | .bl y => match a with
    | .bl x => some (.bl (decide (x = y)))
    | _ => none
  | _ => none
def pIsNot (a b : Pv) : Option Pv := match b with
  | .non => some (.bl (!isNonP a))
  | .bl y => match a with
    | .bl x => some (.bl (!decide (x = y)))
    | _ => none
  | _ => none
def pStrs : List Pv → Option (List Str)
  | [] => some []
  | .str i :: r => (pStrs r).map (i :: ·)
  | _ :: _ => none
def pIn (g : Bool) (a b : Pv) : Option Pv := match b with
  | .tup ys => match a with
    | .int i => (pInts ys).map fun ns => .bl (ns.any fun j => decide (j = i))
    | .str x => (pStrs ys).map fun zs => .bl (zs.any fun z => decide (z = x))
    | _ => none
  | .str y => match a with
    | .str x => some (.bl (!(Builtin.Str.occurrences y x 0 y.length 1).isEmpty))
    | _ => none
  | .lst ys => gd g (eqOk a (.lst ys)) (some (.bl (ys.any fun z => PyData.eqv (toPD z) (toPD a))))
  | _ => none
def pNotIn (g : Bool) (a b : Pv) : Option Pv := (pIn g a b).bind pNot
def Cop.runP (g : Bool) : Cop → Pv → Pv → Option Pv
  | .eq => pEq g | .ne => pNe g | .lt => pLt | .le => pLe | .gt => pGt | .ge => pGe | .is => pIs | .isNot => pIsNot | .in_ => pIn g | .notIn => pNotIn g
def pNeg : Pv → Option Pv
  | .int i => some (.int (-i))
  | _ => none
def pIx (g : Bool) : Pv → Pv → Option Pv
  | .tup xs, .int i => L2.atI xs i
  | .lst xs, .int i => L2.atI xs i
  | .str z, .int i => gd g (decide (z.length ≤ LINE)) ((L2.atI z.cps.toList i).map fun c => .str ⟨#[c]⟩)
  | _, _ => none
def cutL {α : Type} (xs : List α) (lo hi : Option Int) : List α := (xs.drop (HT.sIx xs.length 0 lo)).take (HT.sIx xs.length xs.length hi - HT.sIx xs.length 0 lo)
def pSl (g : Bool) (a : Pv) (lo hi : Option Int) : Option Pz := match a with
  | .tup xs => some (.val (.tup (cutL xs lo hi)))
  | .str z => gd g (decide (z.length ≤ LINE)) (some (.val (.str (cutS z lo hi))))
  | .lst xs => some (.own (.lst (cutL xs lo hi)))
  | _ => none
def pRev (a : Pv) : Option Pz := match a with
  | .tup xs => some (.val (.tup xs.reverse))
  | .lst xs => some (.own (.lst xs.reverse))
  | _ => none
def pPart : Pv → Option (Option Int)
  | .int i => some (some i)
  | _ => none
def tyP : Pv → Option (Option Ty)
  | .non => some none
  | .bl _ => some (some .bool)
  | .int _ => some (some .int)
  | .str _ => some (some .str)
  | .tup _ => some (some .tuple)
  | .lst _ => some (some .list)
  | .dic _ => some (some .dict)
  | .fn _ => none
def pIsi (t : Ty) (p : Pv) : Option Pv := match tyP p with
  | some (some u) => some (.bl (u.sub t))
  | some none => some (.bl false)
  | none => none
def pLen (g : Bool) : Pv → Option Pv
  | .str x => gd g (decide (x.length ≤ LINE)) (some (.int x.length))
  | .tup xs => some (.int xs.length)
  | .lst xs => some (.int xs.length)
  | .dic xs => some (.int xs.length)
  | _ => none
def pAbs : Pv → Option Pv
  | .int i => some (.int (if i < 0 then -i else i))
  | _ => none
def pIntOf (g : Bool) : Pv → Option Pv
  | .int i => some (.int i)
  | .bl b => some (.int (if b then 1 else 0))
  | .str x => match PySem.intText? x with
    | some n => gd g (decide (x.length ≤ 640)) (some (.int n))
    | none => none
  | _ => none
def pStr (g : Bool) : Pv → Option Pv
  | .int i => gd g (decide (i.natAbs.log2 < 1920)) (some (.str (toString i)))
  | _ => none
def pMax2 : Pv → Pv → Option Pv
  | .int i, .int j => some (.int (if j > i then j else i))
  | _, _ => none
def pMin2 : Pv → Pv → Option Pv
  | .int i, .int j => some (.int (if j < i then j else i))
  | _, _ => none
def pItems : Pv → Option (List Pv)
  | .tup xs => some xs
  | .lst xs => some xs
  | _ => none
def chrP (x : Str) : List Pv := x.cps.toList.map fun c => .str ⟨#[c]⟩
/-- what a for walks -/
def pSeq : Pv → Option (List Pv)
  | .tup xs => some xs
  | .lst xs => some xs
  | .str x => some (chrP x)
  | _ => none
def pJoin (g : Bool) (a b : Pv) : Option Pz := match a with
  | .str x => ((pItems b).bind pStrs).bind fun ys => gd g (decide ((ys.map (·.length)).sum + ys.length * x.length ≤ LINE)) (some (.val (.str (Txt.join x ys))))
  | _ => none
def pSplit (g : Bool) (a b : Pv) : Option Pz := match a, b with
  | .str x, .str y => gd g (decide ((y.length == 0) = false ∧ x.length + 2 ≤ LINE)) (some (.own (.lst ((Txt.split x y).map .str))))
  | _, _ => none
def pMthE (g : Bool) : Mth → Pv → List Pv → Option Pz
  | .join, a, [b] => pJoin g a b
  | .split, a, [b] => pSplit g a b
  | _, _, _ => none
def pBls : List Pv → Option (List Bool)
  | [] => some []
  | .bl i :: r => (pBls r).map (i :: ·)
  | _ :: _ => none
def pLst : Pv → Option (List Pv)
  | .lst xs => some xs
  | _ => none
def pRepr (g : Bool) : Pv → Option Pv
  | .int i => gd g (decide (i.natAbs.log2 < 1920)) (some (.str (toString i)))
  | .bl b => some (.str (if b then "True" else "False"))
  | .non => some (.str "None")
  | .str x => gd g (decide ((reprText x).length ≤ LINE)) (some (.str (reprText x)))
  | p => gd g (fits FU p && decide (((toPD p).hasDict = false ∧ (toPD p).showable = true) ∧ (toPD p).shown.length ≤ LINE ∧ (toPD p).depth ≤ 64)) (some (.str (toPD p).shown))
def pv1 (f : Pv → Option Pv) : List Pv → Option Pz
  | [a] => (f a).map .val
  | _ => none
def pv2 (f : Pv → Pv → Option Pv) : List Pv → Option Pz
  | [a, b] => (f a b).map .val
  | _ => none
def pz1 (f : Pv → Option Pz) : List Pv → Option Pz
  | [a] => f a
  | _ => none
def Blt.runP (g : Bool) : Blt → List Pv → Option Pz
  | .len => pv1 (pLen g) | .abs => pv1 pAbs | .int => pv1 (pIntOf g) | .str => pv1 (pStr g) | .max2 => pv2 pMax2 | .min2 => pv2 pMin2
  | .tuple => pv1 fun p => (pItems p).map .tup
  | .list => pz1 fun p => (pItems p).map fun xs => .own (.lst xs)
  | .all => pv1 fun p => ((pLst p).bind pBls).map fun bs => .bl (bs.all id)
  | .any => pv1 fun p => ((pLst p).bind pBls).map fun bs => .bl (bs.any id)
  | .sum => pv1 fun p => ((pLst p).bind pInts).map fun ns => .int ns.sum
  | .repr => pv1 (pRepr g)
/-! ### what is walked, targets -/
def rngP (lo : Int) (n : Nat) : List Pv := (List.range n).map fun (k : Nat) => .int (lo + (k : Int))
def zipP : List Pv → List Pv → List Pv
  | x :: xs, y :: ys => .tup [x, y] :: zipP xs ys
  | _, _ => []
def enumP : Nat → List Pv → List Pv
  | _, [] => []
  | i, x :: xs => .tup [.int i, x] :: enumP (i + 1) xs
def pIts (g : Bool) : IK → List Pv → Option (List Pv)
  | .seq, [p] => pSeq p
  | .rng1, [.int j] => gd g (decide (rngOk 0 j)) (some (rngP 0 j.toNat))
  | .rng2, [.int i, .int j] => gd g (decide (rngOk i j)) (some (rngP i (j - i).toNat))
  | .enum, [.lst xs] => some (enumP 0 xs)
  | .zip, [.lst xs, .lst ys] => some (zipP xs ys)
  | .zip, [.tup xs, .tup ys] => some (zipP xs ys)
  | _, _ => none
abbrev PFr := List (Option Pz)
mutual
def T.putP : T → Pv → PFr → Option PFr
  | .nm i, p, env => some (env.set i (some (.val p)))
  | .tup ts, p, env => match p with
    | .tup ps => T.putsP ts ps env
    | _ => none
def T.putsP : List T → List Pv → PFr → Option PFr
  | [], [], env => some env
  | [], _ :: _, _ => none
  | t :: ts, p :: ps, env => match T.putP t p env with
    | some env => T.putsP ts ps env
    | none => none
  | _ :: _, [], _ => none
end
def wipeP (env : PFr) : List Nat → PFr
  | [] => env
  | v :: vs => (wipeP env vs).set v none
def lcP (tgt : Pv → PFr → Option PFr) (cond : PFr → Option Pv) (elt : PFr → Option Pv) (env : PFr) : List Pv → Option (List Pv)
  | [] => some []
  | p :: ps => match tgt p env with
    | none => none
    | some e2 => match cond e2 with
      | some (.bl true) => match elt e2 with
        | some x => (lcP tgt cond elt env ps).map (x :: ·)
        | none => none
      | some (.bl false) => lcP tgt cond elt env ps
      | _ => none
def isVarE : E → Bool
  | .var _ => true
  | _ => false
def escP (e : E) : Option Pz → Option Pv
  | some (.val p) => some p
  | some (.own p) => if isVarE e then none else some p
  | none => none
def truP {α : Type} (p : Option Pv) (a b : Option α) : Option α := match p with
  | some (.bl true) => a
  | some (.bl false) => b
  | _ => none
mutual
def dPv : D → Option Pv
  | .non => some .non
  | .bl b => some (.bl b)
  | .int i => some (.int i)
  | .str x => some (.str x)
  | .tup ds => (dPvs ds).map .tup
  | .fn i => some (.fn i)
  | .ref _ => none
def dPvs : List D → Option (List Pv)
  | [] => some []
  | d :: ds => match dPv d, dPvs ds with
    | some p, some ps => some (p :: ps)
    | _, _ => none
end
def slotP (env : PFr) (i : Nat) : Option Pz := match env[i]? with
  | some (some r) => some r
  | _ => none
def escF (x : E) (f : PFr → Option Pz) (env : PFr) : Option Pv := escP x (f env)
def pvF (f : PFr → Option Pz) (env : PFr) : Option Pv := (f env).map Pz.pv
def slotF (env : PFr) (i : Nat) : Option Nat := match slotP env i with
  | some (.val (.fn f)) => some f
  | _ => none
section
variable (g : Bool) (CP : Nat → List Pv → Option Pv)
mutual
def evP : E → PFr → Option Pz
  | .var i, env => slotP env i
  | .int i, _ => some (.val (.int i))
  | .str x, _ => some (.val (.str x))
  | .bl b, _ => some (.val (.bl b))
  | .non, _ => some (.val .non)
  | .glob d, _ => (dPv d).map .val
  | .fnv i, _ => some (.val (.fn i))
  | .bad, _ => none
  | .tup es, env => (evXs es env).bind fun ps => gd g (decide (ps.length ≤ LINE)) (some (.val (.tup ps)))
  | .lst es, env => (evXs es env).bind fun ps => gd g (decide (ps.length ≤ LINE)) (some (.own (.lst ps)))
  | .bin o a b, env => (evP a env).bind fun x => (evP b env).bind fun y => o.runP g x.pv y.pv
  | .neg a, env => (evP a env).bind fun x => (pNeg x.pv).map .val
  | .cmp o a b, env => (evP a env).bind fun x => (evP b env).bind fun y => (o.runP g x.pv y.pv).map .val
  | .chain o p a b c, env => (evP a env).bind fun x => (evP b env).bind fun y => truP (o.runP g x.pv y.pv) ((evP c env).bind fun z => (p.runP g y.pv z.pv).map .val) (some (.val (.bl false)))
  | .and a b, env => truP ((evP a env).map Pz.pv) ((escP b (evP b env)).map .val) (some (.val (.bl false)))
  | .or a b, env => truP ((evP a env).map Pz.pv) (some (.val (.bl true))) ((escP b (evP b env)).map .val)
  | .not a, env => (evP a env).bind fun x => (pNot x.pv).map .val
  | .ife c a b, env => truP ((evP c env).map Pz.pv) ((escP a (evP a env)).map .val) ((escP b (evP b env)).map .val)
  | .ix a i, env => (evP a env).bind fun x => (evP i env).bind fun y => (pIx g x.pv y.pv).map .val
  | .slLo a lo, env => (evP a env).bind fun x => (evP lo env).bind fun l => (pPart l.pv).bind fun l => pSl g x.pv l none
  | .slHi a hi, env => (evP a env).bind fun x => (evP hi env).bind fun l => (pPart l.pv).bind fun l => pSl g x.pv none l
  | .slLH a lo hi, env => (evP a env).bind fun x => (evP lo env).bind fun l => (evP hi env).bind fun h => (pPart l.pv).bind fun l => (pPart h.pv).bind fun h => pSl g x.pv l h
  | .call f es, env => (evXs es env).bind fun ps => (CP f ps).map .val
  | .callv i es, env => (slotF env i).bind fun f => (evXs es env).bind fun ps => (CP f ps).map .val
  | .blt b es, env => (evTs es env).bind fun ps => b.runP g ps
  | .isi t a, env => (evP a env).bind fun x => (pIsi t x.pv).map .val
  | .rev a, env => (evP a env).bind fun x => pRev x.pv
  | .mth m a es, env => (evP a env).bind fun x => (evTs es env).bind fun ps => pMthE g m x.pv ps
  | .lc own tg k es ifs elt, env => (evTs es env).bind fun ps => (pIts g k ps).bind fun its =>
      (lcP tg.putP (evI ifs) (escF elt (evP elt)) (wipeP env own) its).bind fun xs => gd g (decide (its.length ≤ LINE)) (some (.own (.lst xs)))
/-- that escape -/
def evXs : List E → PFr → Option (List Pv)
  | [], _ => some []
  | e :: es, env => (escP e (evP e env)).bind fun p => (evXs es env).map (p :: ·)
/-- a comprehension's condition -/
def evI : List E → PFr → Option Pv
  | [], _ => some (.bl true)
  | c :: cs, env => match cs with
    | [] => (evP c env).map Pz.pv
    | _ :: _ => none
/-- that are read alone -/
def evTs : List E → PFr → Option (List Pv)
  | [], _ => some []
  | e :: es, env => (evP e env).bind fun p => (evTs es env).map (p.pv :: ·)
end
end
/-! ### statements -/
inductive PFl where
  | nx | rt (p : Pv) | bk | ct
def rmv (own l : List Nat) : List Nat := l.filter fun i => !(own.any fun j => i == j)
/-! the variables that an expression hands on -/
mutual
def escE : Bool → E → List Nat
  | top, .var i => if top then [i] else []
  | _, .tup es => escEs true es
  | _, .lst es => escEs true es
  | _, .bin _ a b => escE false a ++ escE false b
  | _, .neg a => escE false a
  | _, .cmp _ a b => escE false a ++ escE false b
  | _, .chain _ _ a b c => escE false a ++ (escE false b ++ escE false c)
  | _, .and a b => escE false a ++ escE true b
  | _, .or a b => escE false a ++ escE true b
  | _, .not a => escE false a
  | _, .ife c a b => escE false c ++ (escE true a ++ escE true b)
  | _, .ix a i => escE false a ++ escE false i
  | _, .slLo a i => escE false a ++ escE false i
  | _, .slHi a i => escE false a ++ escE false i
  | _, .slLH a i j => escE false a ++ (escE false i ++ escE false j)
  | _, .call _ es => escEs true es
  | _, .callv _ es => escEs true es
  | _, .blt _ es => escEs false es
  | _, .isi _ a => escE false a
  | _, .mth _ a es => escE false a ++ escEs true es
  | _, .rev a => escE false a
  | _, .lc own _ _ es ifs elt => escEs false es ++ rmv own (escEs false ifs ++ escE true elt)
  | _, _ => []
def escEs : Bool → List E → List Nat
  | _, [] => []
  | top, e :: es => escE top e ++ escEs top es
end
def frzs (env : PFr) : List Nat → PFr
  | [] => env
  | v :: vs => let e := frzs env vs
    match slotP e v with
    | some (.own p) => e.set v (some (.val p))
    | _ => e
def loopP (tgt : Pv → PFr → Option PFr) (body : PFr → Option (PFl × PFr)) : List Pv → PFr → Option (PFl × PFr)
  | [], env => some (.nx, env)
  | p :: ps, env => match tgt p env with
    | none => none
    | some e1 => match body e1 with
      | none => none
      | some (.nx, e2) => loopP tgt body ps e2
      | some (.ct, e2) => loopP tgt body ps e2
      | some (.bk, e2) => some (.nx, e2)
      | some (.rt q, e2) => some (.rt q, e2)
def pWhN (c : PFr → Option Pv) (b : PFr → Option (PFl × PFr)) : Nat → PFr → Option (PFl × PFr)
  | 0, _ => none
  | n + 1, env => match c env with
    | some (.bl true) => match b env with
      | none => none
      | some (.nx, e2) => pWhN c b n e2
      | some (.ct, e2) => pWhN c b n e2
      | some (.bk, e2) => some (.nx, e2)
      | some (.rt q, e2) => some (.rt q, e2)
    | some (.bl false) => some (.nx, env)
    | _ => none
open Classical in
noncomputable def pWhF (c : PFr → Option Pv) (b : PFr → Option (PFl × PFr)) (env : PFr) : Option (PFl × PFr) :=
  if h : ∃ r n, pWhN c b n env = some r then some h.choose else none
def pAug : Bop → Pv → Pv → Option Pv
  | .add, .int i, .int j => some (.int (i + j))
  | .sub, .int i, .int j => some (.int (i - j))
  | _, _, _ => none
def pSet : Pz → Pv → Pv → Option Pz
  | .own (.lst xs), .int k, p => (L2.ixN xs.length k).map fun j => .own (.lst (xs.set j p))
  | _, _, _ => none
/-- l.append(e) and the like: the list behind it -/
def pMth (g : Bool) : Mth → Pz → List Pv → Option Pz
  | .append, .own (.lst xs), [p] => gd g (decide (xs.length < LINE)) (some (.own (.lst (xs ++ [p]))))
  | .extend, .own (.lst xs), [.lst ys] => gd g (decide (xs.length + ys.length ≤ LINE)) (some (.own (.lst (xs ++ ys))))
  | .pop, .own (.lst xs), [] => match xs[xs.length - 1]? with
    | some _ => some (.own (.lst xs.dropLast))
    | none => none
  | _, _, _ => none
def seqP (a : Option (PFl × PFr)) (k : PFr → Option (PFl × PFr)) : Option (PFl × PFr) := match a with
  | none => none
  | some (.nx, e) => k e
  | some (f, e) => some (f, e)
/-- no second name for an own one -/
def ownChk (e : E) : Pz → Option Pz
  | .val p => some (.val p)
  | .own p => if isVarE e then none else some (.own p)
def varOf : E → Option Nat
  | .var k => some k
  | _ => none
def mthOf : E → Option (Mth × Nat × List E)
  | .mth m (.var k) es => some (m, k, es)
  | _ => none
def set2 (i j : Nat) (env : PFr) : List Pv → Option (PFl × PFr)
  | [p, q] => some (.nx, (env.set i (some (.val p))).set j (some (.val q)))
  | _ => none
def set3 (i j k : Nat) (env : PFr) : List Pv → Option (PFl × PFr)
  | [p, q, r] => some (.nx, ((env.set i (some (.val p))).set j (some (.val q))).set k (some (.val r)))
  | _ => none
def optE {α β : Type} (a : Option α) (s : α → β) (n : β) : β := match a with
  | some x => s x
  | none => n
section
variable (g : Bool) (CP : Nat → List Pv → Option Pv)
def evD (e : E) (env : PFr) : Option (PFl × PFr) := optE (mthOf e)
  (fun q => (evXs g CP q.2.2 (frzs env (escEs true q.2.2))).bind fun ps => (slotP (frzs env (escEs true q.2.2)) q.2.1).bind fun r => (pMth g q.1 r ps).map fun r' => (.nx, (frzs env (escEs true q.2.2)).set q.2.1 (some r')))
  ((evP g CP e (frzs env (escE true e))).map fun _ => (.nx, frzs env (escE true e)))
mutual
noncomputable def evPS : St → PFr → Option (PFl × PFr)
  | .set i e, env => ((evP g CP e (frzs env (escE true e))).bind (ownChk e)).map fun r => (.nx, (frzs env (escE true e)).set i (some r))
  | .asg t e, env => (escP e (evP g CP e (frzs env (escE true e)))).bind fun p => (t.putP p (frzs env (escE true e))).map fun env' => (.nx, env')
  | .par2 i j a b, env => (evXs g CP [a, b] (frzs env (escEs true [a, b]))).bind fun ps => set2 i j (frzs env (escEs true [a, b])) ps
  | .par3 i j k a b c, env => (evXs g CP [a, b, c] (frzs env (escEs true [a, b, c]))).bind fun ps => set3 i j k (frzs env (escEs true [a, b, c])) ps
  | .sub o i e, env => (varOf o).bind fun k => (escP e (evP g CP e (frzs env (escE true e ++ escE false i)))).bind fun p => (evP g CP i (frzs env (escE true e ++ escE false i))).bind fun x =>
      (slotP (frzs env (escE true e ++ escE false i)) k).bind fun r => (pSet r x.pv p).map fun r' => (.nx, (frzs env (escE true e ++ escE false i)).set k (some r'))
  | .drop e, env => evD g CP e env
  | .ret e, env => (escP e (evP g CP e (frzs env (escE true e)))).map fun p => (.rt p, frzs env (escE true e))
  | .retN, env => some (.rt .non, env)
  | .ife c a b, env => truP ((evP g CP c (frzs env (escE true c))).map Pz.pv) (evPSs a (frzs env (escE true c))) (evPSs b (frzs env (escE true c)))
  | .whl c b, env => pWhF (pvF (evP g CP c)) (evPSs b) env
  | .for t k es b, env => (evXs g CP es (frzs env (escEs true es))).bind fun ps => (pIts g k ps).bind fun its => loopP t.putP (evPSs b) its (frzs env (escEs true es))
  | .aug i o e, env => (slotP (frzs env (escE true e)) i).bind fun x => (evP g CP e (frzs env (escE true e))).bind fun y => (pAug o x.pv y.pv).map fun p => (.nx, (frzs env (escE true e)).set i (some (.val p)))
  | .pass, env => some (.nx, env)
  | .brk, env => some (.bk, env)
  | .cont, env => some (.ct, env)
  | .raise _, _ => none
noncomputable def evPSs : List St → PFr → Option (PFl × PFr)
  | [], env => some (.nx, env)
  | s :: ss, env => seqP (evPS s env) (evPSs ss)
end
end
def finP : PFl → Option Pv
  | .nx => some .non
  | .rt p => some p
  | _ => none
def callP (P : Nat → Option FD) (f : Nat) (ps : List Pv) (k : FD → Option (PFl × PFr)) : Option Pv := match P f with
  | none => none
  | some fd => if ps.length = fd.ps then (k fd).bind fun r => finP r.1 else none
/-- a call -/
noncomputable def evPF (g : Bool) (P : Nat → Option FD) : Nat → Nat → List Pv → Option Pv
  | 0, _, _ => none
  | n + 1, f, ps => callP P f ps fun fd => evPSs g (evPF g P n) fd.body (ps.map (fun p => some (.val p)) ++ List.replicate (fd.slots - ps.length) none)
theorem evPF_eq {g : Bool} {P : Nat → Option FD} {n f : Nat} {ps : List Pv} {fd : FD} (h : P f = some fd) (hl : ps.length = fd.ps) :
    evPF g P (n + 1) f ps = (evPSs g (evPF g P n) fd.body (ps.map (fun p => some (.val p)) ++ List.replicate (fd.slots - ps.length) none)).bind fun r => finP r.1 := by
  rw [evPF]
  unfold callP
  rw [h]
  exact if_pos hl
theorem evP_var (g : Bool) (CP : Nat → List Pv → Option Pv) {env : PFr} {i : Nat} : evP g CP (.var i) env = slotP env i := by rw [evP]
theorem evP_int (g : Bool) (CP : Nat → List Pv → Option Pv) {env : PFr} {i : Int} : evP g CP (.int i) env = some (.val (.int i)) := by rw [evP]
theorem evP_str (g : Bool) (CP : Nat → List Pv → Option Pv) {env : PFr} {x : Str} : evP g CP (.str x) env = some (.val (.str x)) := by rw [evP]
theorem evP_bl (g : Bool) (CP : Nat → List Pv → Option Pv) {env : PFr} {b : Bool} : evP g CP (.bl b) env = some (.val (.bl b)) := by rw [evP]
theorem evP_non (g : Bool) (CP : Nat → List Pv → Option Pv) {env : PFr}  : evP g CP (.non) env = some (.val .non) := by rw [evP]
theorem evP_glob (g : Bool) (CP : Nat → List Pv → Option Pv) {env : PFr} {d : D} : evP g CP (.glob d) env = (dPv d).map .val := by rw [evP]
theorem evP_fnv (g : Bool) (CP : Nat → List Pv → Option Pv) {env : PFr} {i : Nat} : evP g CP (.fnv i) env = some (.val (.fn i)) := by rw [evP]
theorem evP_bad (g : Bool) (CP : Nat → List Pv → Option Pv) {env : PFr}  : evP g CP (.bad) env = none := by rw [evP]
theorem evP_tup (g : Bool) (CP : Nat → List Pv → Option Pv) {env : PFr} {es : List E} : evP g CP (.tup es) env = (evXs g CP es env).bind fun ps => gd g (decide (ps.length ≤ LINE)) (some (.val (.tup ps))) := by rw [evP]
theorem evP_lst (g : Bool) (CP : Nat → List Pv → Option Pv) {env : PFr} {es : List E} : evP g CP (.lst es) env = (evXs g CP es env).bind fun ps => gd g (decide (ps.length ≤ LINE)) (some (.own (.lst ps))) := by rw [evP]
theorem evP_bin (g : Bool) (CP : Nat → List Pv → Option Pv) {env : PFr} {o : Bop} {a : E} {b : E} : evP g CP (.bin o a b) env = (evP g CP a env).bind fun x => (evP g CP b env).bind fun y => o.runP g x.pv y.pv := by rw [evP]
theorem evP_neg (g : Bool) (CP : Nat → List Pv → Option Pv) {env : PFr} {a : E} : evP g CP (.neg a) env = (evP g CP a env).bind fun x => (pNeg x.pv).map .val := by rw [evP]
theorem evP_cmp (g : Bool) (CP : Nat → List Pv → Option Pv) {env : PFr} {o : Cop} {a : E} {b : E} : evP g CP (.cmp o a b) env = (evP g CP a env).bind fun x => (evP g CP b env).bind fun y => (o.runP g x.pv y.pv).map .val := by rw [evP]
theorem evP_chain (g : Bool) (CP : Nat → List Pv → Option Pv) {env : PFr} {o : Cop} {p : Cop} {a : E} {b : E} {c : E} : evP g CP (.chain o p a b c) env = (evP g CP a env).bind fun x => (evP g CP b env).bind fun y => truP (o.runP g x.pv y.pv) ((evP g CP c env).bind fun z => (p.runP g y.pv z.pv).map .val) (some (.val (.bl false))) := by rw [evP]
theorem evP_and (g : Bool) (CP : Nat → List Pv → Option Pv) {env : PFr} {a : E} {b : E} : evP g CP (.and a b) env = truP ((evP g CP a env).map Pz.pv) ((escP b (evP g CP b env)).map .val) (some (.val (.bl false))) := by rw [evP]
theorem evP_or (g : Bool) (CP : Nat → List Pv → Option Pv) {env : PFr} {a : E} {b : E} : evP g CP (.or a b) env = truP ((evP g CP a env).map Pz.pv) (some (.val (.bl true))) ((escP b (evP g CP b env)).map .val) := by rw [evP]
theorem evP_not (g : Bool) (CP : Nat → List Pv → Option Pv) {env : PFr} {a : E} : evP g CP (.not a) env = (evP g CP a env).bind fun x => (pNot x.pv).map .val := by rw [evP]
theorem evP_ife (g : Bool) (CP : Nat → List Pv → Option Pv) {env : PFr} {c : E} {a : E} {b : E} : evP g CP (.ife c a b) env = truP ((evP g CP c env).map Pz.pv) ((escP a (evP g CP a env)).map .val) ((escP b (evP g CP b env)).map .val) := by rw [evP]
theorem evP_ix (g : Bool) (CP : Nat → List Pv → Option Pv) {env : PFr} {a : E} {i : E} : evP g CP (.ix a i) env = (evP g CP a env).bind fun x => (evP g CP i env).bind fun y => (pIx g x.pv y.pv).map .val := by rw [evP]
theorem evP_slLo (g : Bool) (CP : Nat → List Pv → Option Pv) {env : PFr} {a : E} {lo : E} : evP g CP (.slLo a lo) env = (evP g CP a env).bind fun x => (evP g CP lo env).bind fun l => (pPart l.pv).bind fun l => pSl g x.pv l none := by rw [evP]
theorem evP_slHi (g : Bool) (CP : Nat → List Pv → Option Pv) {env : PFr} {a : E} {hi : E} : evP g CP (.slHi a hi) env = (evP g CP a env).bind fun x => (evP g CP hi env).bind fun l => (pPart l.pv).bind fun l => pSl g x.pv none l := by rw [evP]
theorem evP_slLH (g : Bool) (CP : Nat → List Pv → Option Pv) {env : PFr} {a : E} {lo : E} {hi : E} : evP g CP (.slLH a lo hi) env = (evP g CP a env).bind fun x => (evP g CP lo env).bind fun l => (evP g CP hi env).bind fun h => (pPart l.pv).bind fun l => (pPart h.pv).bind fun h => pSl g x.pv l h := by rw [evP]
theorem evP_call (g : Bool) (CP : Nat → List Pv → Option Pv) {env : PFr} {f : Nat} {es : List E} : evP g CP (.call f es) env = (evXs g CP es env).bind fun ps => (CP f ps).map .val := by rw [evP]
theorem evP_callv (g : Bool) (CP : Nat → List Pv → Option Pv) {env : PFr} {i : Nat} {es : List E} : evP g CP (.callv i es) env = (slotF env i).bind fun f => (evXs g CP es env).bind fun ps => (CP f ps).map .val := by rw [evP]
theorem evP_blt (g : Bool) (CP : Nat → List Pv → Option Pv) {env : PFr} {b : Blt} {es : List E} : evP g CP (.blt b es) env = (evTs g CP es env).bind fun ps => b.runP g ps := by rw [evP]
theorem evP_isi (g : Bool) (CP : Nat → List Pv → Option Pv) {env : PFr} {t : Ty} {a : E} : evP g CP (.isi t a) env = (evP g CP a env).bind fun x => (pIsi t x.pv).map .val := by rw [evP]
theorem evP_mth (g : Bool) (CP : Nat → List Pv → Option Pv) {env : PFr} {m : Mth} {a : E} {es : List E} : evP g CP (.mth m a es) env = (evP g CP a env).bind fun x => (evTs g CP es env).bind fun ps => pMthE g m x.pv ps := by rw [evP]
theorem evP_rev (g : Bool) (CP : Nat → List Pv → Option Pv) {env : PFr} {a : E} : evP g CP (.rev a) env = (evP g CP a env).bind fun x => pRev x.pv := by rw [evP]
theorem evP_lc (g : Bool) (CP : Nat → List Pv → Option Pv) {env : PFr} {own : List Nat} {tg : T} {k : IK} {es : List E} {ifs : List E} {elt : E} : evP g CP (.lc own tg k es ifs elt) env = (evTs g CP es env).bind fun ps => (pIts g k ps).bind fun its =>
      (lcP tg.putP (evI g CP ifs) (escF elt (evP g CP elt)) (wipeP env own) its).bind fun xs => gd g (decide (its.length ≤ LINE)) (some (.own (.lst xs))) := by rw [evP]
theorem evXs_nil (g : Bool) (CP : Nat → List Pv → Option Pv) {env : PFr}  : evXs g CP [] env = some [] := by rw [evXs]
theorem evXs_cons (g : Bool) (CP : Nat → List Pv → Option Pv) {env : PFr} {e : E} {es : List E} : evXs g CP (e :: es) env = (escP e (evP g CP e env)).bind fun p => (evXs g CP es env).map (p :: ·) := by rw [evXs]
theorem evI_nil (g : Bool) (CP : Nat → List Pv → Option Pv) {env : PFr}  : evI g CP [] env = some (.bl true) := by rw [evI]
theorem evTs_nil (g : Bool) (CP : Nat → List Pv → Option Pv) {env : PFr}  : evTs g CP [] env = some [] := by rw [evTs]
theorem evTs_cons (g : Bool) (CP : Nat → List Pv → Option Pv) {env : PFr} {e : E} {es : List E} : evTs g CP (e :: es) env = (evP g CP e env).bind fun p => (evTs g CP es env).map (p.pv :: ·) := by rw [evTs]
theorem evPS_set (g : Bool) (CP : Nat → List Pv → Option Pv) {env : PFr} {i : Nat} {e : E} : evPS g CP (.set i e) env = ((evP g CP e (frzs env (escE true e))).bind (ownChk e)).map fun r => (.nx, (frzs env (escE true e)).set i (some r)) := by rw [evPS]
theorem evPS_asg (g : Bool) (CP : Nat → List Pv → Option Pv) {env : PFr} {t : T} {e : E} : evPS g CP (.asg t e) env = (escP e (evP g CP e (frzs env (escE true e)))).bind fun p => (t.putP p (frzs env (escE true e))).map fun env' => (.nx, env') := by rw [evPS]
theorem evPS_par2 (g : Bool) (CP : Nat → List Pv → Option Pv) {env : PFr} {i : Nat} {j : Nat} {a : E} {b : E} : evPS g CP (.par2 i j a b) env = (evXs g CP [a, b] (frzs env (escEs true [a, b]))).bind fun ps => set2 i j (frzs env (escEs true [a, b])) ps := by rw [evPS]
theorem evPS_par3 (g : Bool) (CP : Nat → List Pv → Option Pv) {env : PFr} {i : Nat} {j : Nat} {k : Nat} {a : E} {b : E} {c : E} : evPS g CP (.par3 i j k a b c) env = (evXs g CP [a, b, c] (frzs env (escEs true [a, b, c]))).bind fun ps => set3 i j k (frzs env (escEs true [a, b, c])) ps := by rw [evPS]
theorem evPS_sub (g : Bool) (CP : Nat → List Pv → Option Pv) {env : PFr} {o : E} {i : E} {e : E} : evPS g CP (.sub o i e) env = (varOf o).bind fun k => (escP e (evP g CP e (frzs env (escE true e ++ escE false i)))).bind fun p => (evP g CP i (frzs env (escE true e ++ escE false i))).bind fun x =>
      (slotP (frzs env (escE true e ++ escE false i)) k).bind fun r => (pSet r x.pv p).map fun r' => (.nx, (frzs env (escE true e ++ escE false i)).set k (some r')) := by rw [evPS]
theorem evPS_drop (g : Bool) (CP : Nat → List Pv → Option Pv) {env : PFr} {e : E} : evPS g CP (.drop e) env = evD g CP e env := by rw [evPS]
theorem evPS_ret (g : Bool) (CP : Nat → List Pv → Option Pv) {env : PFr} {e : E} : evPS g CP (.ret e) env = (escP e (evP g CP e (frzs env (escE true e)))).map fun p => (.rt p, frzs env (escE true e)) := by rw [evPS]
theorem evPS_retN (g : Bool) (CP : Nat → List Pv → Option Pv) {env : PFr}  : evPS g CP (.retN) env = some (.rt .non, env) := by rw [evPS]
theorem evPS_ife (g : Bool) (CP : Nat → List Pv → Option Pv) {env : PFr} {c : E} {a : List St} {b : List St} : evPS g CP (.ife c a b) env = truP ((evP g CP c (frzs env (escE true c))).map Pz.pv) (evPSs g CP a (frzs env (escE true c))) (evPSs g CP b (frzs env (escE true c))) := by rw [evPS]
theorem evPS_whl (g : Bool) (CP : Nat → List Pv → Option Pv) {env : PFr} {c : E} {b : List St} : evPS g CP (.whl c b) env = pWhF (pvF (evP g CP c)) (evPSs g CP b) env := by rw [evPS]
theorem evPS_for (g : Bool) (CP : Nat → List Pv → Option Pv) {env : PFr} {t : T} {k : IK} {es : List E} {b : List St} : evPS g CP (.for t k es b) env = (evXs g CP es (frzs env (escEs true es))).bind fun ps => (pIts g k ps).bind fun its => loopP t.putP (evPSs g CP b) its (frzs env (escEs true es)) := by rw [evPS]
theorem evPS_aug (g : Bool) (CP : Nat → List Pv → Option Pv) {env : PFr} {i : Nat} {o : Bop} {e : E} : evPS g CP (.aug i o e) env = (slotP (frzs env (escE true e)) i).bind fun x => (evP g CP e (frzs env (escE true e))).bind fun y => (pAug o x.pv y.pv).map fun p => (.nx, (frzs env (escE true e)).set i (some (.val p))) := by rw [evPS]
theorem evPS_pass (g : Bool) (CP : Nat → List Pv → Option Pv) {env : PFr}  : evPS g CP (.pass) env = some (.nx, env) := by rw [evPS]
theorem evPS_brk (g : Bool) (CP : Nat → List Pv → Option Pv) {env : PFr}  : evPS g CP (.brk) env = some (.bk, env) := by rw [evPS]
theorem evPS_cont (g : Bool) (CP : Nat → List Pv → Option Pv) {env : PFr}  : evPS g CP (.cont) env = some (.ct, env) := by rw [evPS]
theorem evPS_raise (g : Bool) (CP : Nat → List Pv → Option Pv) {env : PFr} {x0 : Nat} : evPS g CP (.raise x0) env = none := by rw [evPS]
theorem evPSs_nil (g : Bool) (CP : Nat → List Pv → Option Pv) {env : PFr}  : evPSs g CP [] env = some (.nx, env) := by rw [evPSs]
theorem evPSs_cons (g : Bool) (CP : Nat → List Pv → Option Pv) {env : PFr} {s : St} {ss : List St} : evPSs g CP (s :: ss) env = seqP (evPS g CP s env) (evPSs g CP ss) := by rw [evPSs]
theorem evI_one (g : Bool) (CP : Nat → List Pv → Option Pv) {env : PFr} {c : E} : evI g CP [c] env = (evP g CP c env).map Pz.pv := by rw [evI]
/-! rows for rewriting -/
section
variable {α β : Type} {g : Bool} {CP : Nat → List Pv → Option Pv} {p q : Pv} {r : Pz} {env e : PFr} {x : Option Pz} {n : Nat}
theorem seqP_nx {k : PFr → Option (PFl × PFr)} : seqP (some (.nx, e)) k = k e := rfl
theorem seqP_rt {k : PFr → Option (PFl × PFr)} : seqP (some (.rt p, e)) k = some (.rt p, e) := rfl
theorem seqP_bk {k : PFr → Option (PFl × PFr)} : seqP (some (.bk, e)) k = some (.bk, e) := rfl
theorem seqP_ct {k : PFr → Option (PFl × PFr)} : seqP (some (.ct, e)) k = some (.ct, e) := rfl
theorem slotP_0 : slotP (some r :: env) 0 = some r := rfl
theorem slotP_s : slotP (x :: env) (n + 1) = slotP env n := rfl
theorem set_0 : List.set (x :: env) 0 (some r) = some r :: env := rfl
theorem set_s {y : Option Pz} : List.set (x :: env) (n + 1) y = x :: List.set env n y := rfl
theorem set_0n : List.set (x :: env) 0 none = none :: env := rfl
theorem pv_val : (Pz.val p).pv = p := rfl
theorem pv_own : (Pz.own p).pv = p := rfl
theorem escP_val {a : E} : escP a (some (.val p)) = some p := rfl
theorem escP_own {a : E} : escP a (some (.own p)) = if isVarE a = true then none else some p := rfl
theorem isV_var {i : Nat} : isVarE (.var i) = true := rfl
theorem isV_lst {es : List E} : isVarE (.lst es) = false := rfl
theorem isV_bin {o : Bop} {a b : E} : isVarE (.bin o a b) = false := rfl
theorem isV_blt {o : Blt} {es : List E} : isVarE (.blt o es) = false := rfl
theorem isV_rev {a : E} : isVarE (.rev a) = false := rfl
theorem isV_mth {m : Mth} {a : E} {es : List E} : isVarE (.mth m a es) = false := rfl
theorem isV_lo {a b : E} : isVarE (.slLo a b) = false := rfl
theorem isV_hi {a b : E} : isVarE (.slHi a b) = false := rfl
theorem isV_lh {a b c : E} : isVarE (.slLH a b c) = false := rfl
theorem isV_lc {o : List Nat} {t : T} {k : IK} {es ifs : List E} {a : E} : isVarE (.lc o t k es ifs a) = false := rfl
theorem optE_s {a : α} {s : α → β} {z : β} : optE (some a) s z = s a := rfl
theorem optE_n {s : α → β} {z : β} : optE none s z = z := rfl
theorem truP_t {a b : Option α} : truP (some (.bl true)) a b = a := rfl
theorem truP_f {a b : Option α} : truP (some (.bl false)) a b = b := rfl
theorem frz_n : frzs env [] = env := rfl
theorem frz_v {vs : List Nat} {v : Nat} (h : slotP (frzs env vs) v = some (.val p)) : frzs env (v :: vs) = frzs env vs := by rw [frzs]; simp only [h]
theorem frz_o {vs : List Nat} {v : Nat} (h : slotP (frzs env vs) v = some (.own p)) : frzs env (v :: vs) = (frzs env vs).set v (some (.val p)) := by rw [frzs]; simp only [h]
theorem own_v {a : E} : ownChk a (.val p) = some (.val p) := rfl
theorem own_o {a : E} : ownChk a (.own p) = if isVarE a = true then none else some (.own p) := rfl
theorem gd_f {c : Bool} {a : Option α} : gd false c a = a := rfl
theorem gd_t {a : Option α} : gd true true a = a := rfl
theorem putP_nm {i : Nat} : T.putP (.nm i) p env = some (env.set i (some (.val p))) := by rw [T.putP]
theorem putP_tup {ts : List T} {ps : List Pv} : T.putP (.tup ts) (.tup ps) env = T.putsP ts ps env := by rw [T.putP]
theorem putsP_nil : T.putsP [] [] env = some env := by rw [T.putsP]
theorem putsP_cons {t : T} {ts : List T} {ps : List Pv} : T.putsP (t :: ts) (p :: ps) env = (T.putP t p env).bind fun e => T.putsP ts ps e := by
  rw [T.putsP]
  cases T.putP t p env <;> rfl
theorem escF_at {a : E} {f : PFr → Option Pz} : escF a f env = escP a (f env) := rfl
theorem pvF_at {f : PFr → Option Pz} : pvF f env = (f env).map Pz.pv := rfl
theorem loopP_nil {t : Pv → PFr → Option PFr} {b : PFr → Option (PFl × PFr)} : loopP t b [] env = some (.nx, env) := rfl
def nextL (t : Pv → PFr → Option PFr) (b : PFr → Option (PFl × PFr)) (ps : List Pv) : Option (PFl × PFr) → Option (PFl × PFr)
  | some (.nx, e2) => loopP t b ps e2
  | some (.ct, e2) => loopP t b ps e2
  | some (.bk, e2) => some (.nx, e2)
  | some (.rt q, e2) => some (.rt q, e2)
  | none => none
theorem loopP_cons {t : Pv → PFr → Option PFr} {b : PFr → Option (PFl × PFr)} {ps : List Pv} : loopP t b (p :: ps) env = (t p env).bind fun e1 => nextL t b ps (b e1) := by
  rw [loopP]
  cases t p env with
  | none => rfl
  | some e1 =>
    dsimp only [Option.bind_some]
    cases b e1 with
    | none => rfl
    | some r => obtain ⟨f, e2⟩ := r; cases f <;> rfl
theorem nextL_nx {t : Pv → PFr → Option PFr} {b : PFr → Option (PFl × PFr)} {ps : List Pv} : nextL t b ps (some (.nx, e)) = loopP t b ps e := rfl
theorem nextL_rt {t : Pv → PFr → Option PFr} {b : PFr → Option (PFl × PFr)} {ps : List Pv} : nextL t b ps (some (.rt q, e)) = some (.rt q, e) := rfl
def fzS (env : PFr) (v : Nat) : Option Pz → PFr
  | some (.own p) => env.set v (some (.val p))
  | _ => env
theorem frz_c {vs : List Nat} {v : Nat} : frzs env (v :: vs) = fzS (frzs env vs) v (slotP (frzs env vs) v) := by
  rw [frzs]
  cases slotP (frzs env vs) v with
  | none => rfl
  | some r => cases r <;> rfl
theorem fzS_v {v : Nat} : fzS env v (some (.val p)) = env := rfl
theorem fzS_o {v : Nat} : fzS env v (some (.own p)) = env.set v (some (.val p)) := rfl
theorem fzS_n {v : Nat} : fzS env v none = env := rfl
theorem esc_v {i : Nat} : escE true (.var i) = [i] := rfl
theorem esc_f {i : Nat} : escE false (.var i) = [] := rfl
section
variable {γ : Type} {a b c d f : γ} {l : List γ}
theorem at_nat {k : Nat} (h : l[k]? = some a) : L2.atI l (k : Int) = some a := by
  have hk : k < l.length := (List.getElem?_eq_some_iff.mp h).1
  unfold L2.atI L2.ixN
  rw [if_pos (by omega), if_pos (by omega)]
  exact h
theorem at_0 : L2.atI (a :: l) 0 = some a := at_nat (k := 0) rfl
theorem at_1 : L2.atI (a :: b :: l) 1 = some b := at_nat (k := 1) rfl
theorem at_2 : L2.atI (a :: b :: c :: l) 2 = some c := at_nat (k := 2) rfl
theorem at_3 : L2.atI (a :: b :: c :: d :: l) 3 = some d := at_nat (k := 3) rfl
theorem at_4 : L2.atI (a :: b :: c :: d :: f :: l) 4 = some f := at_nat (k := 4) rfl
end
def lcS (c x : Option Pv) (r : Option (List Pv)) : Option (List Pv) := match c with
  | some (.bl true) => match x with
    | some y => r.map (y :: ·)
    | none => none
  | some (.bl false) => r
  | _ => none
theorem lcP_n {tgt : Pv → PFr → Option PFr} {cond elt : PFr → Option Pv} : lcP tgt cond elt env [] = some [] := rfl
theorem lcP_c {tgt : Pv → PFr → Option PFr} {cond elt : PFr → Option Pv} {ps : List Pv} : lcP tgt cond elt env (p :: ps) = (tgt p env).bind fun e2 => lcS (cond e2) (elt e2) (lcP tgt cond elt env ps) := by
  rw [lcP]
  cases tgt p env <;> rfl
theorem lcS_t {y : Pv} {r : Option (List Pv)} : lcS (some (.bl true)) (some y) r = r.map (y :: ·) := rfl
theorem lcS_f {x : Option Pv} {r : Option (List Pv)} : lcS (some (.bl false)) x r = r := rfl
theorem lcP_none {tgt : Pv → PFr → Option PFr} {cond elt : PFr → Option Pv} {ps : List Pv} (h : ∀ p ∈ ps, ∃ e2, tgt p env = some e2 ∧ cond e2 = some (.bl false)) : lcP tgt cond elt env ps = some [] := by
  induction ps with
  | nil => rfl
  | cons p ps ih =>
    obtain ⟨e2, h1, h2⟩ := h p List.mem_cons_self
    rw [lcP_c, h1, Option.bind_some, h2, lcS_f]
    exact ih fun q hq => h q (List.mem_cons_of_mem _ hq)
/-- a comprehension, item by item -/
theorem lcP_map {f : Pv → Option Pv} {tgt : Pv → PFr → Option PFr} {cond elt : PFr → Option Pv} {ps : List Pv} (h : ∀ p ∈ ps, ∃ e2, tgt p env = some e2 ∧ cond e2 = some (.bl true) ∧ elt e2 = f p) : lcP tgt cond elt env ps = ps.mapM f := by
  induction ps with
  | nil => rfl
  | cons p ps ih =>
    obtain ⟨e2, h1, h2, h3⟩ := h p List.mem_cons_self
    rw [lcP, h1]
    dsimp only
    rw [h2]
    dsimp only
    rw [h3, ih fun q hq => h q (List.mem_cons_of_mem _ hq), List.mapM_cons]
    cases f p with
    | none => rfl
    | some y =>
      cases List.mapM f ps <;> rfl
end
end Ev
namespace Ev
open PySem PySem.Spec PyProof.Rows L2
/-! ### operations on plain values are sound -/
def Okg {α : Type} (g : Bool) (res : Res α) (Q : α → Store → Prop) : Prop := (∃ a S', res = .ok a S' ∧ Q a S') ∨ (g = false ∧ res = .bad)
theorem gd_some {α : Type} {g c : Bool} {x : Option α} {r : α} (h : gd g c x = some r) : x = some r ∧ (g = true → c = true) := by
  cases g with
  | false => exact ⟨h, fun e => nomatch e⟩
  | true =>
    cases c with
    | true => exact ⟨h, fun _ => rfl⟩
    | false => cases h
section
variable {α β : Type} {g : Bool}
theorem Okg.ok {a : α} {S : Store} {Q : α → Store → Prop} (h : Q a S) : Okg g (.ok a S) Q := .inl ⟨a, S, rfl, h⟩
theorem Okg.mono {res : Res α} {Q Q' : α → Store → Prop} (h : Okg g res Q) (k : ∀ a S, Q a S → Q' a S) : Okg g res Q' := by
  rcases h with ⟨a, S', e, q⟩ | h
  · exact .inl ⟨a, S', e, k a S' q⟩
  · exact .inr h
theorem Okg.bind {m : M α} {f : α → M β} {S : Store} {Q : α → Store → Prop} {Q' : β → Store → Prop} (h : Okg g (m S) Q) (k : ∀ a S1, Q a S1 → Okg g (f a S1) Q') : Okg g ((m >>= f) S) Q' := by
  have e : (m >>= f) S = M.bnd m f S := rfl
  rw [e]
  unfold M.bnd
  rcases h with ⟨a, S1, h1, h2⟩ | ⟨h1, h2⟩
  · rw [h1]; exact k a S1 h2
  · rw [h2]; exact .inr ⟨h1, rfl⟩
/-- with the guard it is so; without it may be bad -/
theorem Okg.if {c : Prop} [Decidable c] {x : Res α} {Q : α → Store → Prop} (hc : g = true → c) (h : Okg g x Q) : Okg g (if c then x else .bad) Q := by
  by_cases q : c
  · rw [if_pos q]; exact h
  · rw [if_neg q]
    refine .inr ⟨?_, rfl⟩
    cases g with
    | false => rfl
    | true => exact absurd (hc rfl) q
end
theorem Res.bnd_ret {S : Store} {α : Type} (a : α) : (M.ret a : M α) S = .ok a S := rfl
section
variable {W : Pw} {S : Store} {d e : D} {p q : Pv} {g : Bool}
theorem Vr.eInt {i : Int} (h : Vr W d (.int i)) : d = .int i := by cases h; rfl
theorem Vr.eStr {x : Str} (h : Vr W d (.str x)) : d = .str x := by cases h; rfl
theorem Vr.eBl {b : Bool} (h : Vr W d (.bl b)) : d = .bl b := by cases h; rfl
theorem Vr.eNon (h : Vr W d .non) : d = .non := by cases h; rfl
theorem Vr.eFn {i : Nat} (h : Vr W d (.fn i)) : d = .fn i := by cases h; rfl
theorem Vr.eTup {ps : List Pv} (h : Vr W d (.tup ps)) : ∃ ds, d = .tup ds ∧ Vrs W ds ps := by cases h; exact ⟨_, rfl, by assumption⟩
theorem Tr.int {i : Int} (h : Tr W S d (.int i)) : d = .int i := Vr.eInt h
theorem Tr.str {x : Str} (h : Tr W S d (.str x)) : d = .str x := Vr.eStr h
theorem Tr.bl {b : Bool} (h : Tr W S d (.bl b)) : d = .bl b := Vr.eBl h
theorem Tr.non (h : Tr W S d .non) : d = .non := Vr.eNon h
theorem Tr.fn {i : Nat} (h : Tr W S d (.fn i)) : d = .fn i := Vr.eFn h
theorem Tr.tup {ps : List Pv} (h : Tr W S d (.tup ps)) : ∃ ds, d = .tup ds ∧ Vrs W ds ps := Vr.eTup h
theorem Tr.lst {ps : List Pv} (h : Tr W S d (.lst ps)) : ∃ n ds, d = .ref n ∧ S[n]? = some (.lst ds) ∧ Vrs W ds ps := h
theorem Tr.dic {ps : List (Key × Pv)} (h : Tr W S d (.dic ps)) : ∃ n ds, d = .ref n ∧ S[n]? = some (.dic ds) ∧ Vrk W ds ps := h
/-- a pure answer -/
def Rv (W : Pw) (S : Store) (p : Pv) (x : D) (S' : Store) : Prop := S' = S ∧ Vr W x p
/-- an operation's answer: a value, or a new list -/
def Ro (W : Pw) (S : Store) (r : Pz) (x : D) (S' : Store) : Prop := (∃ p, r = .val p ∧ Rv W S p x S') ∨ ∃ ps ds, r = .own (.lst ps) ∧ S' = S ++ [.lst ds] ∧ x = .ref S.length ∧ Vrs W ds ps
theorem Ro.val {x : D} {S' : Store} (h : Rv W S p x S') : Ro W S (.val p) x S' := .inl ⟨p, rfl, h⟩
theorem Rv.mk {x : D} (h : Vr W x p) : Rv W S p x S := ⟨rfl, h⟩
theorem ok_alloc {ds : List D} {ps : List Pv} (r : Vrs W ds ps) : Okg g (alloc (.lst ds) S) (Ro W S (.own (.lst ps))) := .ok (.inr ⟨ps, ds, rfl, rfl, rfl, r⟩)
/-! equality -/
theorem py_flat (d : D) (S : Store) : (∃ x, py FU S d = some x) ∨ py FU S d = none := by
  cases py FU S d with
  | none => exact .inr rfl
  | some x => exact .inl ⟨x, rfl⟩
theorem dEq_cases (d e : D) (S : Store) : dEq d e S = .bad ∨ ∃ x y, py FU S d = some x ∧ py FU S e = some y ∧ dEq d e S = .ok (.bl (PyData.eqv x y)) S := by
  unfold dEq
  split
  · refine .inr ⟨_, _, py_int _ _ _, py_int _ _ _, ?_⟩
    rw [PyData.eqv]; simp [BEq.beq]
  · refine .inr ⟨_, _, py_str _ _ _, py_str _ _ _, ?_⟩
    rw [PyData.eqv]; simp [BEq.beq]
  · refine .inr ⟨_, _, py_bl _ _ _, py_bl _ _ _, ?_⟩
    rw [PyData.eqv]; simp [BEq.beq]
  · refine .inr ⟨_, _, py_non _ _, py_non _ _, ?_⟩
    rw [PyData.eqv]
  · split
    · rename_i x y h1 h2
      split
      · exact .inr ⟨x, y, h1, h2, rfl⟩
      · exact .inl rfl
    · exact .inl rfl
theorem dEq_ok {x y : PyData} (h1 : py FU S d = some x) (h2 : py FU S e = some y) (h3 : shp x = true) (h4 : shp y = true) : dEq d e S = .ok (.bl (PyData.eqv x y)) S := by
  rcases dEq_cases d e S with h | ⟨x', y', a, b, h⟩
  · exfalso
    unfold dEq at h
    split at h
    · cases h
    · cases h
    · cases h
    · cases h
    · rw [h1, h2] at h
      dsimp only at h
      rw [if_pos ⟨h3, h4⟩] at h
      cases h
  · rw [h1] at a; rw [h2] at b
    cases a; cases b
    exact h
theorem pEq_val {r : Pv} (h : pEq g p q = some r) : r = .bl (PyData.eqv (toPD p) (toPD q)) := by
  unfold pEq at h
  split at h
  · cases h; rw [toPD, toPD, PyData.eqv]; simp [BEq.beq]
  · cases h; rw [toPD, toPD, PyData.eqv]; simp [BEq.beq]
  · cases h; rw [toPD, toPD, PyData.eqv]; simp [BEq.beq]
  · cases h; rw [toPD, PyData.eqv]
  · exact ((Option.some.inj (gd_some h).1)).symm
theorem ok_eq (w : WdOk W S) {r : Pv} (h : pEq g p q = some r) (a : Tr W S d p) (b : Tr W S e q) : Okg g (dEq d e S) (Rv W S r) := by
  have hv := pEq_val h
  rcases dEq_cases d e S with hb | ⟨x, y, h1, h2, h3⟩
  · refine .inr ⟨?_, hb⟩
    cases g with
    | false => rfl
    | true =>
      exfalso
      unfold pEq at h
      split at h
      · rw [a.int, b.int] at hb; cases hb
      · rw [a.str, b.str] at hb; cases hb
      · rw [a.bl, b.bl] at hb; cases hb
      · rw [a.non, b.non] at hb; cases hb
      · have k := (gd_some h).2 rfl
        unfold eqOk at k
        rw [Bool.and_eq_true, Bool.and_eq_true, Bool.and_eq_true] at k
        obtain ⟨k1, k2, k3, k4⟩ := k
        obtain ⟨x, h1⟩ := py_fits w FU a k1
        obtain ⟨y, h2⟩ := py_fits w FU b k2
        have e1 := py_toPD w FU a h1
        have e2 := py_toPD w FU b h2
        subst e1 e2
        rw [dEq_ok h1 h2 k3 k4] at hb
        cases hb
  · rw [h3, py_toPD w FU a h1, py_toPD w FU b h2, hv]
    exact .ok (.mk (.bl _))
theorem ok_not {r : Pv} (h : pNot p = some r) (a : Vr W d p) : Okg g (dNot d S) (Rv W S r) := by
  unfold pNot at h
  split at h
  · cases h
    rw [a.eBl]
    exact .ok (.mk (.bl _))
  · cases h
theorem ok_ne (w : WdOk W S) {r : Pv} (h : pNe g p q = some r) (a : Tr W S d p) (b : Tr W S e q) : Okg g (dNe d e S) (Rv W S r) := by
  unfold pNe at h
  rw [Option.bind_eq_some_iff] at h
  obtain ⟨c, h1, h2⟩ := h
  exact (ok_eq w h1 a b).bind fun x S1 ⟨e, v⟩ => by subst e; exact ok_not h2 v
theorem Vrs.ints : ∀ {ds : List D} {ps : List Pv}, Vrs W ds ps → ∀ {ns : List Int}, pInts ps = some ns → allInts ds = some ns
  | _, _, .nil, ns, h => by cases h; rfl
  | _, _, .cons (p := p) a b, ns, h => by
    cases p with
    | int i =>
      unfold pInts at h
      rw [Option.map_eq_some_iff] at h
      obtain ⟨ms, h1, rfl⟩ := h
      rw [a.eInt]
      unfold allInts
      rw [Vrs.ints b h1]
      rfl
    | _ => cases h
theorem Vrs.bls : ∀ {ds : List D} {ps : List Pv}, Vrs W ds ps → ∀ {ns : List Bool}, pBls ps = some ns → Ev.bls ds = some ns
  | _, _, .nil, ns, h => by cases h; rfl
  | _, _, .cons (p := p) a b, ns, h => by
    cases p with
    | bl i =>
      unfold pBls at h
      rw [Option.map_eq_some_iff] at h
      obtain ⟨ms, h1, rfl⟩ := h
      rw [a.eBl]
      unfold Ev.bls
      rw [Vrs.bls b h1]
      rfl
    | _ => cases h
theorem ok_lt {r : Pv} (h : pLt p q = some r) (a : Tr W S d p) (b : Tr W S e q) : Okg g (dLt d e S) (Rv W S r) := by
  unfold pLt at h
  split at h
  · cases h; rw [a.int, b.int]; exact .ok (.mk (.bl _))
  · split at h
    · rename_i h1 h2
      cases h
      obtain ⟨xs, rfl, r1⟩ := a.tup
      obtain ⟨ys, rfl, r2⟩ := b.tup
      unfold dLt
      dsimp only
      rw [r1.ints h1, r2.ints h2]
      exact .ok (.mk (.bl _))
    · cases h
  · cases h
theorem ok_le {r : Pv} (h : pLe p q = some r) (a : Tr W S d p) (b : Tr W S e q) : Okg g (dLe d e S) (Rv W S r) := by
  unfold pLe at h
  split at h
  · cases h; rw [a.int, b.int]; exact .ok (.mk (.bl _))
  · cases h
theorem ok_gt {r : Pv} (h : pGt p q = some r) (a : Tr W S d p) (b : Tr W S e q) : Okg g (dGt d e S) (Rv W S r) := by
  unfold pGt at h
  split at h
  · cases h; rw [a.int, b.int]; exact .ok (.mk (.bl _))
  · cases h
theorem ok_ge {r : Pv} (h : pGe p q = some r) (a : Tr W S d p) (b : Tr W S e q) : Okg g (dGe d e S) (Rv W S r) := by
  unfold pGe at h
  split at h
  · cases h; rw [a.int, b.int]; exact .ok (.mk (.bl _))
  · cases h
theorem Tr.isNon (a : Tr W S d p) : isNon d = isNonP p := by
  cases p with
  | lst _ => obtain ⟨n, ds, rfl, _⟩ := a; rfl
  | dic _ => obtain ⟨n, ds, rfl, _⟩ := a; rfl
  | non => rw [a.non]; rfl
  | bl _ => rw [a.bl]; rfl
  | int _ => rw [a.int]; rfl
  | str _ => rw [a.str]; rfl
  | fn _ => rw [a.fn]; rfl
  | tup _ => obtain ⟨ds, rfl, _⟩ := a.tup; rfl
theorem ok_is {r : Pv} (h : pIs p q = some r) (a : Tr W S d p) (b : Tr W S e q) : Okg g (dIs d e S) (Rv W S r) := by
  unfold pIs at h
  split at h
  · cases h; rw [b.non]; unfold dIs; dsimp only; rw [a.isNon]; exact .ok (.mk (.bl _))
  · split at h
    · cases h; rw [a.bl, b.bl]; exact .ok (.mk (.bl _))
    · cases h
  · cases h
theorem ok_isNot {r : Pv} (h : pIsNot p q = some r) (a : Tr W S d p) (b : Tr W S e q) : Okg g (dIsNot d e S) (Rv W S r) := by
  unfold pIsNot at h
  split at h
  · cases h; rw [b.non]; unfold dIsNot; dsimp only; rw [a.isNon]; exact .ok (.mk (.bl _))
  · split at h
    · cases h; rw [a.bl, b.bl]; exact .ok (.mk (.bl _))
    · cases h
  · cases h
theorem any_eqv (ps : List Pv) (x : PyData) : ((toPDs ps).any fun z => PyData.eqv z x) = ps.any fun z => PyData.eqv (toPD z) x := by
  induction ps with
  | nil => rw [toPDs]; rfl
  | cons p ps ih => rw [toPDs, List.any_cons, List.any_cons, ih]
theorem Vrs.strs : ∀ {ds : List D} {ps : List Pv}, Vrs W ds ps → ∀ {ns : List Str}, pStrs ps = some ns → strsD ds = some ns
  | _, _, .nil, ns, h => by cases h; rfl
  | _, _, .cons (p := p) a b, ns, h => by
    cases p with
    | str i =>
      unfold pStrs at h
      rw [Option.map_eq_some_iff] at h
      obtain ⟨ms, h1, rfl⟩ := h
      rw [a.eStr]
      unfold strsD
      rw [Vrs.strs b h1]
      rfl
    | _ => cases h
theorem ok_in (w : WdOk W S) {r : Pv} (h : pIn g p q = some r) (a : Tr W S d p) (b : Tr W S e q) : Okg g (dIn d e S) (Rv W S r) := by
  unfold pIn at h
  split at h
  · split at h
    · rw [Option.map_eq_some_iff] at h
      obtain ⟨ns, h1, rfl⟩ := h
      obtain ⟨ds, rfl, r⟩ := b.tup
      rw [a.int]
      unfold dIn
      dsimp only
      rw [r.ints h1]
      exact .ok (.mk (.bl _))
    · rw [Option.map_eq_some_iff] at h
      obtain ⟨ns, h1, rfl⟩ := h
      obtain ⟨ds, rfl, r⟩ := b.tup
      rw [a.str]
      unfold dIn
      dsimp only
      rw [r.strs h1]
      exact .ok (.mk (.bl _))
    · cases h
  · split at h
    · cases h; rw [a.str, b.str]; exact .ok (.mk (.bl _))
    · cases h
  · rename_i ys
    obtain ⟨h1, h2⟩ := gd_some h
    cases h1
    have b' := b
    obtain ⟨n, ds, rfl, e1, r1⟩ := b
    have e0 : dIn d (.ref n) S = (match py FU S d, py FU S (.ref n) with
    | some x, some (.list ys) => if shp x = true ∧ shp (.list ys) = true then .ok (.bl (ys.any fun z => PyData.eqv z x)) S else .bad
    | _, _ => .bad) := by
      unfold dIn
      cases d <;> rfl
    rw [e0]
    cases hx : py FU S d with
    | none =>
      dsimp only
      refine .inr ⟨?_, rfl⟩
      cases g with
      | false => rfl
      | true =>
        have k := h2 rfl
        unfold eqOk at k
        rw [Bool.and_eq_true] at k
        obtain ⟨x, hx'⟩ := py_fits w FU a k.1
        rw [hx] at hx'; cases hx'
    | some x =>
      cases hy : py FU S (.ref n) with
      | none =>
        dsimp only
        refine .inr ⟨?_, rfl⟩
        cases g with
        | false => rfl
        | true =>
          have k := h2 rfl
          unfold eqOk at k
          rw [Bool.and_eq_true, Bool.and_eq_true] at k
          obtain ⟨x, hx'⟩ := py_fits w FU b' k.2.1
          rw [hy] at hx'; cases hx'
      | some y =>
        have e2 := py_toPD w FU a hx
        have e3 := py_toPD w FU b' hy
        rw [toPD] at e3
        subst e2 e3
        dsimp only
        refine Okg.if (fun hg => ?_) (.ok (.mk ?_))
        · have k := h2 hg
          unfold eqOk at k
          rw [Bool.and_eq_true, Bool.and_eq_true, Bool.and_eq_true, toPD] at k
          exact ⟨k.2.2.1, k.2.2.2⟩
        · rw [any_eqv]
          exact .bl _
  · cases h
theorem ok_notIn (w : WdOk W S) {r : Pv} (h : pNotIn g p q = some r) (a : Tr W S d p) (b : Tr W S e q) : Okg g (dNotIn d e S) (Rv W S r) := by
  unfold pNotIn at h
  rw [Option.bind_eq_some_iff] at h
  obtain ⟨c, h1, h2⟩ := h
  exact (ok_in w h1 a b).bind fun x S1 ⟨e, v⟩ => by subst e; exact ok_not h2 v
theorem ok_cop (w : WdOk W S) {o : Cop} {r : Pv} (h : o.runP g p q = some r) (a : Tr W S d p) (b : Tr W S e q) : Okg g (o.run d e S) (Rv W S r) := by
  cases o with
  | eq => exact ok_eq w h a b
  | ne => exact ok_ne w h a b
  | lt => exact ok_lt h a b
  | le => exact ok_le h a b
  | gt => exact ok_gt h a b
  | ge => exact ok_ge h a b
  | is => exact ok_is h a b
  | isNot => exact ok_isNot h a b
  | in_ => exact ok_in w h a b
  | notIn => exact ok_notIn w h a b
/-! two operands -/
theorem ok_add {r : Pz} (h : pAdd g p q = some r) (a : Tr W S d p) (b : Tr W S e q) : Okg g (dAdd d e S) (Ro W S r) := by
  unfold pAdd at h
  split at h
  · cases h; rw [a.int, b.int]; exact .ok (.val (.mk (.int _)))
  · obtain ⟨h1, h2⟩ := gd_some h
    cases h1
    rw [a.str, b.str]
    exact Okg.if (fun e => of_decide_eq_true (h2 e)) (.ok (.val (.mk (.str _))))
  · obtain ⟨h1, h2⟩ := gd_some h
    cases h1
    obtain ⟨xs, rfl, r1⟩ := a.tup
    obtain ⟨ys, rfl, r2⟩ := b.tup
    refine Okg.if (fun e => ?_) (.ok (.val (.mk (.tup (r1.append r2)))))
    have := of_decide_eq_true (h2 e)
    rw [r1.length, r2.length]; exact this
  · obtain ⟨h1, h2⟩ := gd_some h
    cases h1
    obtain ⟨n, xs, rfl, e1, r1⟩ := a.lst
    obtain ⟨m, ys, rfl, e2, r2⟩ := b.lst
    unfold dAdd
    simp only [e1, e2]
    refine Okg.if (fun e => ?_) (ok_alloc (r1.append r2))
    have := of_decide_eq_true (h2 e)
    rw [r1.length, r2.length]; exact this
  · cases h
theorem ok_sub {r : Pz} (h : pSub p q = some r) (a : Tr W S d p) (b : Tr W S e q) : Okg g (dSub d e S) (Ro W S r) := by
  unfold pSub at h
  split at h
  · cases h; rw [a.int, b.int]; exact .ok (.val (.mk (.int _)))
  · cases h
theorem ok_mul {r : Pz} (h : pMul g p q = some r) (a : Tr W S d p) (b : Tr W S e q) : Okg g (dMul d e S) (Ro W S r) := by
  unfold pMul at h
  split at h
  · obtain ⟨h1, h2⟩ := gd_some h
    cases h1
    rw [a.int, b.int]
    exact Okg.if (fun e => of_decide_eq_true (h2 e)) (.ok (.val (.mk (.int _))))
  · obtain ⟨h1, h2⟩ := gd_some h
    cases h1
    obtain ⟨n, xs, rfl, e1, r1⟩ := a.lst
    rw [b.int]
    unfold dMul
    simp only [e1]
    refine Okg.if (fun e => ?_) (ok_alloc (r1.flatRep _))
    have := of_decide_eq_true (h2 e)
    rw [r1.length]; exact this
  · cases h
theorem ok_int {k : Int} {c : Prop} [Decidable c] {r : Pz} (h : gd g (decide c) (some (.val (.int k))) = some r) : Okg g (if c then .ok (.int k) S else .bad) (Ro W S r) := by
  obtain ⟨h1, h2⟩ := gd_some h
  cases h1
  exact Okg.if (fun e => of_decide_eq_true (h2 e)) (.ok (.val (.mk (.int _))))
theorem ok_bop {o : Bop} {r : Pz} (h : o.runP g p q = some r) (a : Tr W S d p) (b : Tr W S e q) : Okg g (o.run d e S) (Ro W S r) := by
  cases o with
  | add => exact ok_add h a b
  | sub => exact ok_sub h a b
  | mul => exact ok_mul h a b
  | div =>
    have h : pDiv g p q = some r := h
    unfold pDiv at h
    split at h
    · rw [a.int, b.int]; exact ok_int h
    · cases h
  | mod =>
    have h : pMod g p q = some r := h
    unfold pMod at h
    split at h
    · rw [a.int, b.int]; exact ok_int h
    · cases h
  | pow =>
    have h : pPow g p q = some r := h
    unfold pPow at h
    split at h
    · rw [a.int, b.int]; exact ok_int h
    · cases h
  | shl =>
    have h : pShl g p q = some r := h
    unfold pShl at h
    split at h
    · rw [a.int, b.int]; exact ok_int h
    · cases h
  | shr =>
    have h : pShr g p q = some r := h
    unfold pShr at h
    split at h
    · rw [a.int, b.int]; exact ok_int h
    · cases h
  | and =>
    have h : pAnd p q = some r := h
    unfold pAnd at h
    split at h
    · cases h; rw [a.int, b.int]; exact .ok (.val (.mk (.int _)))
    · cases h
theorem ok_neg {r : Pv} (h : pNeg p = some r) (a : Tr W S d p) : Okg g (dNeg d S) (Rv W S r) := by
  unfold pNeg at h
  split at h
  · cases h; rw [a.int]; exact .ok (.mk (.int _))
  · cases h
theorem ok_notT {r : Pv} (h : pNot p = some r) (a : Tr W S d p) : Okg g (dNot d S) (Rv W S r) := by
  unfold pNot at h
  split at h
  · cases h
    rw [a.bl]
    exact .ok (.mk (.bl _))
  · cases h
theorem Vrs.atI {ds : List D} {ps : List Pv} {i : Int} {p : Pv} (r : Vrs W ds ps) (h : L2.atI ps i = some p) : ∃ d, L2.atI ds i = some d ∧ Vr W d p := by
  unfold L2.atI at h ⊢
  rw [r.length]
  rw [Option.bind_eq_some_iff] at h
  obtain ⟨j, h1, h2⟩ := h
  obtain ⟨d, h3, h4⟩ := r.getP h2
  exact ⟨d, by rw [h1]; exact h3, h4⟩
theorem ok_ix {r : Pv} (h : pIx g p q = some r) (a : Tr W S d p) (b : Tr W S e q) : Okg g (dIx d e S) (Rv W S r) := by
  unfold pIx at h
  split at h
  · obtain ⟨ds, rfl, r1⟩ := a.tup
    obtain ⟨x, e1, r2⟩ := r1.atI h
    rw [b.int]
    unfold dIx
    simp only [e1]
    exact .ok (.mk r2)
  · obtain ⟨n, ds, rfl, e0, r1⟩ := a.lst
    obtain ⟨x, e1, r2⟩ := r1.atI h
    rw [b.int]
    unfold dIx
    simp only [e0, e1]
    exact .ok (.mk r2)
  · obtain ⟨h1, h2⟩ := gd_some h
    rw [Option.map_eq_some_iff] at h1
    obtain ⟨c, h1, rfl⟩ := h1
    rw [a.str, b.int]
    unfold dIx
    simp only [h1]
    exact Okg.if (fun e => of_decide_eq_true (h2 e)) (.ok (.mk (.str _)))
  · cases h
theorem Vrs.cut {ds : List D} {ps : List Pv} {lo hi : Option Int} (r : Vrs W ds ps) : Vrs W (cutD ds lo hi) (cutL ps lo hi) := by
  unfold cutD cutL
  rw [r.length]
  exact (r.drop _).take _
theorem ok_sl {lo hi : Option Int} {r : Pz} (h : pSl g p lo hi = some r) (a : Tr W S d p) : Okg g (dSl d lo hi S) (Ro W S r) := by
  unfold pSl at h
  split at h
  · cases h
    obtain ⟨ds, rfl, r1⟩ := a.tup
    exact .ok (.val (.mk (.tup r1.cut)))
  · obtain ⟨h1, h2⟩ := gd_some h
    cases h1
    rw [a.str]
    exact Okg.if (fun e => of_decide_eq_true (h2 e)) (.ok (.val (.mk (.str _))))
  · cases h
    obtain ⟨n, ds, rfl, e0, r1⟩ := a.lst
    unfold dSl
    simp only [e0]
    exact ok_alloc r1.cut
  · cases h
theorem Vrs.snoc {d : D} {p : Pv} (a : Vr W d p) {ds : List D} {ps : List Pv} (h : Vrs W ds ps) : Vrs W (ds ++ [d]) (ps ++ [p]) := h.append (.cons a .nil)
theorem Vrs.rev : ∀ {ds : List D} {ps : List Pv}, Vrs W ds ps → Vrs W ds.reverse ps.reverse
  | _, _, .nil => .nil
  | _, _, .cons a b => by
    rw [List.reverse_cons, List.reverse_cons]
    exact Vrs.snoc a (Vrs.rev b)
theorem ok_rev {r : Pz} (h : pRev p = some r) (a : Tr W S d p) : Okg g (dRev d S) (Ro W S r) := by
  unfold pRev at h
  split at h
  · cases h
    obtain ⟨ds, rfl, r1⟩ := a.tup
    exact .ok (.val (.mk (.tup r1.rev)))
  · cases h
    obtain ⟨n, ds, rfl, e0, r1⟩ := a.lst
    unfold dRev
    simp only [e0]
    exact ok_alloc r1.rev
  · cases h
theorem ok_part {r : Option Int} (h : pPart p = some r) (a : Tr W S d p) : dPart d S = .ok r S := by
  unfold pPart at h
  split at h
  · cases h; rw [a.int]; rfl
  · cases h
theorem Tr.ty {t : Option Ty} (h : tyP p = some t) (a : Tr W S d p) : tyOf d S = some t := by
  cases p with
  | lst _ => obtain ⟨n, ds, rfl, e0, _⟩ := a; cases h; unfold tyOf; simp only [e0]
  | dic _ => obtain ⟨n, ds, rfl, e0, _⟩ := a; cases h; unfold tyOf; simp only [e0]
  | non => rw [a.non]; cases h; rfl
  | bl _ => rw [a.bl]; cases h; rfl
  | int _ => rw [a.int]; cases h; rfl
  | str _ => rw [a.str]; cases h; rfl
  | fn _ => cases h
  | tup _ => obtain ⟨ds, rfl, _⟩ := a.tup; cases h; rfl
theorem ok_isi {t : Ty} {r : Pv} (h : pIsi t p = some r) (a : Tr W S d p) : Okg g (dIsi t d S) (Rv W S r) := by
  unfold pIsi at h
  split at h
  · rename_i u h1
    cases h
    unfold dIsi
    rw [a.ty h1]
    exact .ok (.mk (.bl _))
  · rename_i h1
    cases h
    unfold dIsi
    rw [a.ty h1]
    exact .ok (.mk (.bl _))
  · cases h
/-! built-ins -/
inductive Trs (W : Pw) (S : Store) : List D → List Pv → Prop
  | nil : Trs W S [] []
  | cons {d : D} {p : Pv} {ds : List D} {ps : List Pv} : Tr W S d p → Trs W S ds ps → Trs W S (d :: ds) (p :: ps)
theorem Tr.items {xs : List Pv} (h : pItems p = some xs) (a : Tr W S d p) : ∃ ds, itemsOf d S = some ds ∧ Vrs W ds xs := by
  unfold pItems at h
  split at h
  · cases h
    obtain ⟨ds, rfl, r⟩ := a.tup
    exact ⟨ds, rfl, r⟩
  · cases h
    obtain ⟨n, ds, rfl, e0, r⟩ := a.lst
    exact ⟨ds, by unfold itemsOf; simp only [e0], r⟩
  · cases h
theorem vrs_strs (l : List Str) : Vrs W (l.map .str) (l.map .str) := by
  induction l with
  | nil => exact .nil
  | cons a l ih => exact .cons (.str _) ih
theorem vrs_map {α : Type} {f : α → D} {h : α → Pv} (k : ∀ c, Vrs W [f c] [h c]) : ∀ l : List α, Vrs W (l.map f) (l.map h)
  | [] => .nil
  | c :: l => by
    cases k c with
    | cons a _ => exact .cons a (vrs_map k l)
theorem vrs_chr (x : Str) : Vrs W (chrD x) (chrP x) := vrs_map (fun c => .cons (.str _) .nil) _
theorem ok_join {r : Pz} (h : pJoin g p q = some r) (a : Tr W S d p) (b : Tr W S e q) : Okg g (dJoin d e S) (Ro W S r) := by
  unfold pJoin at h
  split at h
  · rw [Option.bind_eq_some_iff] at h
    obtain ⟨ys, h1, h2⟩ := h
    rw [Option.bind_eq_some_iff] at h1
    obtain ⟨xs, h3, h4⟩ := h1
    obtain ⟨h5, h6⟩ := gd_some h2
    cases h5
    obtain ⟨ds, e0, r1⟩ := b.items h3
    rw [a.str]
    unfold dJoin
    dsimp only
    rw [e0, Option.bind_some, r1.strs h4]
    exact Okg.if (fun e => of_decide_eq_true (h6 e)) (.ok (.val (.mk (.str _))))
  · cases h
theorem ok_split {r : Pz} (h : pSplit g p q = some r) (a : Tr W S d p) (b : Tr W S e q) : Okg g (dSplit d e S) (Ro W S r) := by
  unfold pSplit at h
  split at h
  · obtain ⟨h5, h6⟩ := gd_some h
    cases h5
    rw [a.str, b.str]
    unfold dSplit
    dsimp only
    exact Okg.if (fun e => of_decide_eq_true (h6 e)) (ok_alloc (vrs_strs _))
  · cases h
theorem ok_mthE {m : Mth} {ds : List D} {ps : List Pv} {r : Pz} (h : pMthE g m p ps = some r) (a : Tr W S d p) (b : Trs W S ds ps) : Okg g (m.run d ds S) (Ro W S r) ∧ m.kd d S = true := by
  have kd : ∀ {x : Str}, p = .str x → isStrD d S = true := fun {x} e => by
    subst e
    rw [a.str]; rfl
  unfold pMthE at h
  split at h
  · cases b with
    | cons b c =>
      cases c
      refine ⟨ok_join h a b, ?_⟩
      unfold pJoin at h
      split at h
      · exact kd rfl
      · cases h
  · cases b with
    | cons b c =>
      cases c
      refine ⟨ok_split h a b, ?_⟩
      unfold pSplit at h
      split at h
      · exact kd rfl
      · cases h
  · cases h
theorem Tr.listOf {xs : List Pv} (h : pLst p = some xs) (a : Tr W S d p) : ∃ ds, listOf? d S = some ds ∧ Vrs W ds xs := by
  unfold pLst at h
  split at h
  · cases h
    obtain ⟨n, ds, rfl, e0, r⟩ := a.lst
    exact ⟨ds, by unfold listOf?; simp only [e0], r⟩
  · cases h
theorem ok_len {r : Pv} (h : pLen g p = some r) (a : Tr W S d p) : Okg g (dLen d S) (Rv W S r) := by
  unfold pLen at h
  split at h
  · obtain ⟨h1, h2⟩ := gd_some h
    cases h1
    rw [a.str]
    exact Okg.if (fun e => of_decide_eq_true (h2 e)) (.ok (.mk (.int _)))
  · cases h
    obtain ⟨ds, rfl, r⟩ := a.tup
    rw [← r.length]
    exact .ok (.mk (.int _))
  · cases h
    obtain ⟨n, ds, rfl, e0, r⟩ := a.lst
    rw [← r.length]
    unfold dLen
    simp only [e0]
    exact .ok (.mk (.int _))
  · cases h
    obtain ⟨n, ds, rfl, e0, r⟩ := a.dic
    rw [← r.length]
    unfold dLen
    simp only [e0]
    exact .ok (.mk (.int _))
  · cases h
theorem ok_repr (w : WdOk W S) {r : Pv} (h : pRepr g p = some r) (a : Tr W S d p) : Okg g (dRepr d S) (Rv W S r) := by
  have deep : ∀ {r : Pv}, gd g (fits FU p && decide (((toPD p).hasDict = false ∧ (toPD p).showable = true) ∧ (toPD p).shown.length ≤ LINE ∧ (toPD p).depth ≤ 64)) (some (.str (toPD p).shown)) = some r → dRepr d S = (match py FU S d with
    | some x => if (x.hasDict = false ∧ x.showable = true) ∧ x.shown.length ≤ LINE ∧ x.depth ≤ 64 then .ok (.str x.shown) S else .bad
    | none => .bad) → Okg g (dRepr d S) (Rv W S r) := fun {r} h e => by
    obtain ⟨h1, h2⟩ := gd_some h
    cases h1
    rw [e]
    cases hx : py FU S d with
    | none =>
      refine .inr ⟨?_, rfl⟩
      cases g with
      | false => rfl
      | true =>
        have k := h2 rfl
        rw [Bool.and_eq_true] at k
        obtain ⟨x, hx'⟩ := py_fits w FU a k.1
        rw [hx] at hx'; cases hx'
    | some x =>
      have e1 := py_toPD w FU a hx
      subst e1
      refine Okg.if (fun hg => ?_) (.ok (.mk (.str _)))
      have k := h2 hg
      rw [Bool.and_eq_true, decide_eq_true_eq] at k
      exact k.2
  unfold pRepr at h
  split at h
  · obtain ⟨h1, h2⟩ := gd_some h
    cases h1
    rw [a.int]
    exact Okg.if (fun e => of_decide_eq_true (h2 e)) (.ok (.mk (.str _)))
  · cases h; rw [a.bl]; exact .ok (.mk (.str _))
  · cases h; rw [a.non]; exact .ok (.mk (.str _))
  · obtain ⟨h1, h2⟩ := gd_some h
    cases h1
    rw [a.str]
    exact Okg.if (fun e => of_decide_eq_true (h2 e)) (.ok (.mk (.str _)))
  · refine deep h ?_
    rename_i n1 n2 n3 n4
    cases p with
    | lst _ => obtain ⟨n, ds, rfl, _⟩ := a; rfl
    | dic _ => obtain ⟨n, ds, rfl, _⟩ := a; rfl
    | non => exact absurd rfl n3
    | bl b => exact absurd rfl (n2 b)
    | int i => exact absurd rfl (n1 i)
    | str x => exact absurd rfl (n4 x)
    | fn i => rw [a.fn]; rfl
    | tup _ => obtain ⟨ds, rfl, _⟩ := a.tup; rfl
theorem ok_pv1 {f : Pv → Option Pv} {k : D → M D} {ds : List D} {ps : List Pv} {r : Pz} (hk : ∀ {d : D} {p r : Pv}, f p = some r → Tr W S d p → Okg g (k d S) (Rv W S r)) (h : pv1 f ps = some r) (a : Trs W S ds ps) : Okg g (on1 k ds S) (Ro W S r) := by
  unfold pv1 at h
  split at h
  · rw [Option.map_eq_some_iff] at h
    obtain ⟨q, h1, rfl⟩ := h
    cases a with
    | cons a b =>
      cases b
      exact (hk h1 a).mono fun _ _ z => .val z
  · cases h
theorem ok_pv2 {f : Pv → Pv → Option Pv} {k : D → D → M D} {ds : List D} {ps : List Pv} {r : Pz} (hk : ∀ {d e : D} {p q r : Pv}, f p q = some r → Tr W S d p → Tr W S e q → Okg g (k d e S) (Rv W S r)) (h : pv2 f ps = some r) (a : Trs W S ds ps) : Okg g (on2 k ds S) (Ro W S r) := by
  unfold pv2 at h
  split at h
  · rw [Option.map_eq_some_iff] at h
    obtain ⟨q, h1, rfl⟩ := h
    cases a with
    | cons a b =>
      cases b with
      | cons b c =>
        cases c
        exact (hk h1 a b).mono fun _ _ z => .val z
  · cases h
theorem ok_blt (w : WdOk W S) {b : Blt} {ds : List D} {ps : List Pv} {r : Pz} (h : b.runP g ps = some r) (a : Trs W S ds ps) : Okg g (b.run ds S) (Ro W S r) := by
  cases b with
  | len => exact ok_pv1 (fun h a => ok_len h a) h a
  | abs =>
    refine ok_pv1 (fun {d p r} h a => ?_) h a
    unfold pAbs at h
    split at h
    · cases h; rw [a.int]; exact .ok (.mk (.int _))
    · cases h
  | int =>
    refine ok_pv1 (fun {d p r} h a => ?_) h a
    unfold pIntOf at h
    split at h
    · cases h; rw [a.int]; exact .ok (.mk (.int _))
    · cases h; rw [a.bl]; exact .ok (.mk (.int _))
    · split at h
      · rename_i n hn
        obtain ⟨h1, h2⟩ := gd_some h
        cases h1
        rw [a.str]
        unfold dInt
        simp only [hn]
        exact Okg.if (fun e => of_decide_eq_true (h2 e)) (.ok (.mk (.int _)))
      · cases h
    · cases h
  | str =>
    refine ok_pv1 (fun {d p r} h a => ?_) h a
    unfold pStr at h
    split at h
    · obtain ⟨h1, h2⟩ := gd_some h
      cases h1
      rw [a.int]
      exact Okg.if (fun e => of_decide_eq_true (h2 e)) (.ok (.mk (.str _)))
    · cases h
  | max2 =>
    refine ok_pv2 (fun {d e p q r} h a b => ?_) h a
    unfold pMax2 at h
    split at h
    · cases h; rw [a.int, b.int]; exact .ok (.mk (.int _))
    · cases h
  | min2 =>
    refine ok_pv2 (fun {d e p q r} h a b => ?_) h a
    unfold pMin2 at h
    split at h
    · cases h; rw [a.int, b.int]; exact .ok (.mk (.int _))
    · cases h
  | tuple =>
    refine ok_pv1 (fun {d p r} h a => ?_) h a
    rw [Option.map_eq_some_iff] at h
    obtain ⟨xs, h1, rfl⟩ := h
    obtain ⟨ds, e1, r1⟩ := a.items h1
    unfold dTuple
    rw [e1]
    exact .ok (.mk (.tup r1))
  | list =>
    have h : pz1 (fun p => (pItems p).map fun xs => .own (.lst xs)) ps = some r := h
    unfold pz1 at h
    split at h
    · rw [Option.map_eq_some_iff] at h
      obtain ⟨xs, h1, rfl⟩ := h
      cases a with
      | cons a b =>
        cases b
        obtain ⟨ds, e1, r1⟩ := a.items h1
        show Okg g (dList _ S) _
        unfold dList
        rw [e1]
        exact ok_alloc r1
    · cases h
  | all =>
    refine ok_pv1 (fun {d p r} h a => ?_) h a
    rw [Option.map_eq_some_iff] at h
    obtain ⟨bs, h1, rfl⟩ := h
    rw [Option.bind_eq_some_iff] at h1
    obtain ⟨xs, h1, h2⟩ := h1
    obtain ⟨ds, e1, r1⟩ := a.listOf h1
    unfold dAll
    rw [e1]
    simp only [Option.bind_some, r1.bls h2]
    exact .ok (.mk (.bl _))
  | any =>
    refine ok_pv1 (fun {d p r} h a => ?_) h a
    rw [Option.map_eq_some_iff] at h
    obtain ⟨bs, h1, rfl⟩ := h
    rw [Option.bind_eq_some_iff] at h1
    obtain ⟨xs, h1, h2⟩ := h1
    obtain ⟨ds, e1, r1⟩ := a.listOf h1
    unfold dAny
    rw [e1]
    simp only [Option.bind_some, r1.bls h2]
    exact .ok (.mk (.bl _))
  | sum =>
    refine ok_pv1 (fun {d p r} h a => ?_) h a
    rw [Option.map_eq_some_iff] at h
    obtain ⟨bs, h1, rfl⟩ := h
    rw [Option.bind_eq_some_iff] at h1
    obtain ⟨xs, h1, h2⟩ := h1
    obtain ⟨ds, e1, r1⟩ := a.listOf h1
    unfold dSum
    rw [e1]
    simp only [Option.bind_some, r1.ints h2]
    exact .ok (.mk (.int _))
  | repr => exact ok_pv1 (fun h a => ok_repr w h a) h a
end
end Ev
namespace Ev
open PySem PySem.Spec PyProof.Rows L2
/-! ### expressions over plain values are sound -/
def Zr (W : Pw) (S : Store) (d : D) : Pz → Prop
  | .val p => Vr W d p
  | .own p => Orr W S d p
structure Erel (W : Pw) (S : Store) (env : Fr) (penv : PFr) : Prop where
  len : env.length = penv.length
  at_ : ∀ (i : Nat) (r : Pz), penv[i]? = some (some r) → ∃ d, env[i]? = some (some d) ∧ Zr W S d r
/-- what an expression comes to; v: it is a variable -/
def Po (W : Pw) (S : Store) (v : Bool) (r : Pz) (d : D) (S' : Store) : Prop :=
  ∃ W', Grw W S W' S' ∧ Zr W' S' d r ∧ (v = false → ∀ p, r = .own p → ∃ j, d = .ref j ∧ S.length ≤ j)
def Pov (W : Pw) (S : Store) (p : Pv) (d : D) (S' : Store) : Prop := ∃ W', Grw W S W' S' ∧ Vr W' d p
def CallOk (g : Bool) (C : Nat → List D → M D) (CP : Nat → List Pv → Option Pv) : Prop :=
  ∀ (f : Nat) (ps : List Pv) (p : Pv), CP f ps = some p → ∀ (W : Pw) (S : Store) (ds : List D), WdOk W S → Vrs W ds ps → Okg g (C f ds S) (Pov W S p)
section
variable {W W1 W2 : Pw} {S S1 S2 : Store} {d e : D} {p q : Pv} {g : Bool} {env : Fr} {penv : PFr}
theorem Zr.tr (w : WdOk W S) : ∀ {r : Pz}, Zr W S d r → Tr W S d r.pv
  | .val _, h => Vr.tr w h
  | .own _, h => Orr.tr h
theorem Zr.mono (a : Grw W S W1 S1) (w : WdOk W S) : ∀ {r : Pz}, Zr W S d r → Zr W1 S1 d r
  | .val _, h => Vr.mono (a.sub w) h
  | .own _, h => a.or w h
theorem Erel.mono (h : Erel W S env penv) (a : Grw W S W1 S1) (w : WdOk W S) : Erel W1 S1 env penv :=
  ⟨h.len, fun i r e => let ⟨d, h1, h2⟩ := h.at_ i r e; ⟨d, h1, h2.mono a w⟩⟩
theorem Erel.set (h : Erel W S env penv) {r : Pz} (z : Zr W S d r) (i : Nat) : Erel W S (env.set i (some d)) (penv.set i (some r)) := by
  refine ⟨by simp [h.len], fun j q hj => ?_⟩
  by_cases hi : i = j
  · subst hi
    by_cases hl : i < penv.length
    · rw [List.getElem?_set_self hl] at hj
      cases hj
      exact ⟨d, by rw [List.getElem?_set_self (by rw [h.len]; exact hl)], z⟩
    · rw [List.getElem?_eq_none (by rw [List.length_set]; omega)] at hj
      cases hj
  · rw [List.getElem?_set_ne hi] at hj
    obtain ⟨u, h1, h2⟩ := h.at_ j q hj
    exact ⟨u, by rw [List.getElem?_set_ne hi]; exact h1, h2⟩
theorem Erel.unset (h : Erel W S env penv) (i : Nat) : Erel W S (env.set i none) (penv.set i none) := by
  refine ⟨by simp [h.len], fun j q hj => ?_⟩
  by_cases hi : i = j
  · subst hi
    by_cases hl : i < penv.length
    · rw [List.getElem?_set_self hl] at hj; cases hj
    · rw [List.getElem?_eq_none (by rw [List.length_set]; omega)] at hj; cases hj
  · rw [List.getElem?_set_ne hi] at hj
    obtain ⟨u, h1, h2⟩ := h.at_ j q hj
    exact ⟨u, by rw [List.getElem?_set_ne hi]; exact h1, h2⟩
theorem Erel.wipe (h : Erel W S env penv) : ∀ vs : List Nat, Erel W S (wipeF env vs) (wipeP penv vs)
  | [] => h
  | v :: vs => (Erel.wipe h vs).unset v
theorem slotP_at {i : Nat} {r : Pz} (h : slotP penv i = some r) : penv[i]? = some (some r) := by
  unfold slotP at h
  split at h
  · rename_i q; cases h; exact q
  · cases h
theorem slotF_at {i f : Nat} (h : slotF penv i = some f) : penv[i]? = some (some (.val (.fn f))) := by
  unfold slotF at h
  split at h
  · rename_i q; cases h; exact slotP_at q
  · cases h
theorem Po.of_v {v : Bool} (a : Grw W S W1 S1) (h : Vr W1 d p) : Po W S v (.val p) d S1 := ⟨W1, a, h, fun _ _ e => nomatch e⟩
theorem Rv.po {v : Bool} (w : WdOk W1 S1) (a : Grw W S W1 S1) (h : Rv W1 S1 p d S2) : Po W S v (.val p) d S2 := by
  obtain ⟨rfl, h⟩ := h
  exact .of_v a h
theorem Ro.po {v : Bool} {r : Pz} (w : WdOk W1 S1) (a : Grw W S W1 S1) (h : Ro W1 S1 r d S2) : Po W S v r d S2 := by
  rcases h with ⟨p, rfl, h⟩ | ⟨ps, ds, rfl, rfl, rfl, r⟩
  · exact h.po w a
  · exact ⟨W1, a.trans (Grw.new w _), ⟨_, ds, rfl, w.none (Nat.le_refl _), by simp, r⟩, fun _ _ _ => ⟨_, rfl, a.len⟩⟩
theorem esc_ok {x : E} {res : Res D} {r : Pz} (h : Okg g res (Po W S (isVarE x) r)) (hp : escP x (some r) = some p) : Okg g res (Pov W S p) := by
  refine h.mono fun d S1 ⟨W1, a, z, f⟩ => ?_
  cases r with
  | val q => cases hp; exact ⟨W1, a, z⟩
  | own q =>
    unfold escP at hp
    dsimp only at hp
    split at hp
    · cases hp
    · rename_i hv
      cases hp
      obtain ⟨j, e1, e2⟩ := f (by simpa using hv) _ rfl
      obtain ⟨n, c, h1, h0, h2, h3, h4⟩ := Orr.frz a.ok z
      rw [e1] at h1
      cases h1
      exact ⟨_, a.frz e2 h3, h4⟩
theorem escP_some {x : E} {o : Option Pz} (h : escP x o = some p) : ∃ r, o = some r ∧ escP x (some r) = some p := by
  cases o with
  | none => cases h
  | some r => exact ⟨r, rfl, h⟩
theorem Trs.mono (a : Grw W S W1 S1) (w : WdOk W S) : ∀ {ds : List D} {ps : List Pv}, Trs W S ds ps → Trs W1 S1 ds ps
  | _, _, .nil => .nil
  | _, _, .cons x y => .cons (a.tr w x) (Trs.mono a w y)
mutual
theorem dPv_ok : ∀ {d : D} {p : Pv}, dPv d = some p → Vr W d p
  | .non, _, h => by cases h; exact .non
  | .bl _, _, h => by cases h; exact .bl _
  | .int _, _, h => by cases h; exact .int _
  | .str _, _, h => by cases h; exact .str _
  | .fn _, _, h => by cases h; exact .fn _
  | .ref _, _, h => by cases h
  | .tup ds, _, h => by
    rw [dPv, Option.map_eq_some_iff] at h
    obtain ⟨ps, h1, rfl⟩ := h
    exact .tup (dPvs_ok h1)
theorem dPvs_ok : ∀ {ds : List D} {ps : List Pv}, dPvs ds = some ps → Vrs W ds ps
  | [], _, h => by cases h; exact .nil
  | d :: ds, ps, h => by
    rw [dPvs] at h
    split at h
    · rename_i p qs h1 h2
      cases h
      exact .cons (dPv_ok h1) (dPvs_ok h2)
    · cases h
end
mutual
theorem putP_ok : ∀ {t : T} {p : Pv} {d : D} {env : Fr} {penv penv' : PFr}, t.putP p penv = some penv' → Vr W d p → Erel W S env penv → ∃ env', t.put d env S = .ok env' S ∧ Erel W S env' penv'
  | .nm i, p, d, env, penv, penv', h, v, r => by
    rw [T.putP] at h
    cases h
    exact ⟨_, by rw [T.put]; rfl, r.set (r := .val p) v i⟩
  | .tup ts, p, d, env, penv, penv', h, v, r => by
    cases p with
    | tup ps =>
      rw [T.putP] at h
      obtain ⟨ds, rfl, rs⟩ := v.eTup
      obtain ⟨env', h1, h2, h3⟩ := putsP_ok h rs r
      refine ⟨env', ?_, h3⟩
      rw [T.put]
      have e : onTup ts.length (fun ds => T.puts ts ds env) (.tup ds) = T.puts ts ds env := if_pos (by rw [rs.length, h2])
      rw [e]
      exact h1
    | _ => simp [T.putP] at h
theorem putsP_ok : ∀ {ts : List T} {ps : List Pv} {ds : List D} {env : Fr} {penv penv' : PFr}, T.putsP ts ps penv = some penv' → Vrs W ds ps → Erel W S env penv → ∃ env', T.puts ts ds env S = .ok env' S ∧ ps.length = ts.length ∧ Erel W S env' penv'
  | [], [], ds, env, penv, penv', h, v, r => by
    cases v
    rw [T.putsP] at h
    cases h
    exact ⟨env, by rw [T.puts]; rfl, rfl, r⟩
  | [], _ :: _, _, _, _, _, h, _, _ => by rw [T.putsP] at h; cases h
  | t :: ts, [], _, _, _, _, h, _, _ => by rw [T.putsP] at h; cases h
  | t :: ts, p :: ps, ds, env, penv, penv', h, v, r => by
    cases v with
    | cons a b =>
      rw [T.putsP] at h
      split at h
      · rename_i pe h1
        obtain ⟨e1, k1, r1⟩ := putP_ok h1 a r
        obtain ⟨e2, k2, k3, r2⟩ := putsP_ok h b r1
        refine ⟨e2, ?_, by simp [k3], r2⟩
        rw [T.puts]
        show M.bnd _ _ S = _
        unfold M.bnd
        rw [k1]
        exact k2
      · cases h
end
/-! what is walked -/
theorem ok_ifM {α : Type} {a : α} {c : Prop} [Decidable c] {Q : α → Store → Prop} (hc : g = true → c) (h : Q a S) : Okg g ((if c then M.ret a else M.fail : M α) S) Q := by
  by_cases q : c
  · rw [if_pos q]; exact .ok h
  · rw [if_neg q]
    refine .inr ⟨?_, rfl⟩
    cases g with
    | false => rfl
    | true => exact absurd (hc rfl) q
def ItOkP (W : Pw) (S : Store) (ds : List D) (its : List Pv) (it : Its) (S1 : Store) : Prop := S1 = S ∧ Vrs W it.ds its ∧ ∀ S', (∀ j, D.ref j ∈ ds → S'[j]? = S[j]?) → it.ok S'
theorem vrs_rng (lo : Int) (n : Nat) : Vrs W (rngD lo n) (rngP lo n) := by
  unfold rngD rngP
  have key : ∀ l : List Nat, Vrs W (l.map fun (k : Nat) => .int (lo + (k : Int))) (l.map fun (k : Nat) => .int (lo + (k : Int))) := by
    intro l
    induction l with
    | nil => exact .nil
    | cons x l ih => exact .cons (.int _) ih
  exact key _
theorem vrs_zip : ∀ {xs ys : List D} {ps qs : List Pv}, Vrs W xs ps → Vrs W ys qs → Vrs W (zipD xs ys) (zipP ps qs)
  | _, _, _, _, .nil, _ => .nil
  | _, _, _, _, .cons _ _, .nil => .nil
  | _, _, _, _, .cons a b, .cons c d => .cons (.tup (.cons a (.cons c .nil))) (vrs_zip b d)
theorem vrs_enum : ∀ (i : Nat) {xs : List D} {ps : List Pv}, Vrs W xs ps → Vrs W (enumD i xs) (enumP i ps)
  | _, _, _, .nil => .nil
  | i, _, _, .cons a b => .cons (.tup (.cons (.int _) (.cons a .nil))) (vrs_enum (i + 1) b)
theorem lt_of_at {n : Nat} {c : Cell} (e : S[n]? = some c) : n < S.length := (List.getElem?_eq_some_iff.mp e).1
theorem ok_its {k : IK} {ds : List D} {ps its : List Pv} (h : pIts g k ps = some its) (a : Trs W S ds ps) : Okg g (k.its ds S) (ItOkP W S ds its) := by
  unfold pIts at h
  split at h
  · cases a with
    | cons a b =>
      cases b
      show Okg g (seqIts _ S) _
      unfold pSeq at h
      split at h
      · cases h
        obtain ⟨ds, rfl, r⟩ := a.tup
        exact .ok ⟨rfl, r, fun _ _ => trivial⟩
      · cases h
        obtain ⟨n, ds, rfl, e0, r⟩ := a.lst
        unfold seqIts
        simp only [e0]
        exact .ok ⟨rfl, r, fun S' k => (k n (by simp)).trans e0⟩
      · cases h
        rw [a.str]
        exact .ok ⟨rfl, vrs_chr _, fun _ _ => trivial⟩
      · cases h
  · obtain ⟨h1, h2⟩ := gd_some h
    cases h1
    cases a with
    | cons a b =>
      cases b
      rw [a.int]
      exact ok_ifM (Q := ItOkP W S _ _) (fun e => of_decide_eq_true (h2 e)) ⟨rfl, vrs_rng _ _, fun _ _ => trivial⟩
  · obtain ⟨h1, h2⟩ := gd_some h
    cases h1
    cases a with
    | cons a b =>
      cases b with
      | cons b c =>
        cases c
        rw [a.int, b.int]
        exact ok_ifM (Q := ItOkP W S _ _) (fun e => of_decide_eq_true (h2 e)) ⟨rfl, vrs_rng _ _, fun _ _ => trivial⟩
  · cases h
    cases a with
    | cons a b =>
      cases b
      obtain ⟨n, ds, rfl, e0, r⟩ := a.lst
      show Okg g ((do
        let it ← seqIts (.ref n)
        M.ret ⟨enumD 0 it.ds, it.ok⟩ : M Its) S) _
      refine Okg.bind (Q := fun it S1 => S1 = S ∧ it.ds = ds ∧ ∀ S', S'[n]? = S[n]? → it.ok S') ?_ ?_
      · unfold seqIts
        simp only [e0]
        exact .ok ⟨rfl, rfl, fun S' k => by first | exact k | exact k.trans e0⟩
      · rintro it S1 ⟨rfl, rfl, q⟩
        exact .ok ⟨rfl, vrs_enum 0 r, fun S' k => q S' (k n (by simp))⟩
  · cases h
    cases a with
    | cons a b =>
      cases b with
      | cons b c =>
        cases c
        obtain ⟨n, ds, rfl, e0, r⟩ := a.lst
        obtain ⟨m, es, rfl, e1, r1⟩ := b.lst
        show Okg g ((do
          let a ← seqIts (.ref n)
          let b ← seqIts (.ref m)
          M.ret ⟨zipD a.ds b.ds, fun S => a.ok S ∧ b.ok S⟩ : M Its) S) _
        refine Okg.bind (Q := fun it S1 => S1 = S ∧ it.ds = ds ∧ ∀ S', S'[n]? = S[n]? → it.ok S') ?_ ?_
        · unfold seqIts
          simp only [e0]
          exact .ok ⟨rfl, rfl, fun S' k => by first | exact k | exact k.trans e0⟩
        · rintro it S1 ⟨rfl, rfl, q⟩
          refine Okg.bind (Q := fun it S2 => S2 = S1 ∧ it.ds = es ∧ ∀ S', S'[m]? = S1[m]? → it.ok S') ?_ ?_
          · unfold seqIts
            simp only [e1]
            exact .ok ⟨rfl, rfl, fun S' k => by first | exact k | exact k.trans e1⟩
          · rintro it2 S2 ⟨rfl, rfl, q2⟩
            exact .ok ⟨rfl, vrs_zip r r1, fun S' k => ⟨q S' (k n (by simp)), q2 S' (k m (by simp))⟩⟩
  · cases h
    cases a with
    | cons a b =>
      cases b with
      | cons b c =>
        cases c
        obtain ⟨xs, rfl, r1⟩ := a.tup
        obtain ⟨ys, rfl, r2⟩ := b.tup
        exact .ok ⟨rfl, vrs_zip r1 r2, fun _ _ => trivial⟩
  · cases h
theorem Trs.ref_lt : ∀ {ds : List D} {ps : List Pv}, Trs W S ds ps → ∀ {j : Nat}, D.ref j ∈ ds → j < S.length := by
  intro ds ps h
  induction h with
  | nil => intro j hj; cases hj
  | @cons d p ds ps a b ih =>
    intro j hj
    rcases List.mem_cons.mp hj with e | e
    · subst e
      cases p with
      | lst _ => obtain ⟨n, xs, e, h, _⟩ := a; cases e; exact lt_of_at h
      | dic _ => obtain ⟨n, xs, e, h, _⟩ := a; cases e; exact lt_of_at h
      | non => cases a.non
      | bl _ => cases a.bl
      | int _ => cases a.int
      | str _ => cases a.str
      | fn _ => cases a.fn
      | tup _ => obtain ⟨_, e, _⟩ := a.tup; cases e
    · exact ih e
theorem ok_guard {pr : Store → Prop} {β : Type} {f : M β} {Q : β → Store → Prop} (hp : pr S) (h : Okg g (f S) Q) : Okg g ((do guard pr; f) S) Q := by
  have e : (do guard pr; f : M β) S = f S := by
    show M.bnd (guard pr) (fun _ => f) S = _
    unfold M.bnd guard
    rw [if_pos hp]
  rw [e]; exact h
theorem ok_tru {β : Type} {m : M β} {n : M β} {b : Bool} {Q : β → Store → Prop} (h1 : b = true → Okg g (m S) Q) (h2 : b = false → Okg g (n S) Q) : Okg g (tru (.bl b) m n S) Q := by
  cases b with
  | true => exact h1 rfl
  | false => exact h2 rfl
/-- a comprehension -/
theorem ok_lc {pr : Store → Prop} {t : T} {cond elt : Fr → M D} {condP eltP : PFr → Option Pv}
    (hc : ∀ {W1 : Pw} {S1 : Store} {env : Fr} {penv : PFr} {p : Pv}, condP penv = some p → WdOk W1 S1 → Erel W1 S1 env penv → Okg g (cond env S1) (fun d S' => ∃ W', Grw W1 S1 W' S' ∧ Tr W' S' d p))
    (he : ∀ {W1 : Pw} {S1 : Store} {env : Fr} {penv : PFr} {p : Pv}, eltP penv = some p → WdOk W1 S1 → Erel W1 S1 env penv → Okg g (elt env S1) (Pov W1 S1 p))
    {S0 : Store} (hp : ∀ S', (∀ j, j < S0.length → S'[j]? = S0[j]?) → pr S') :
    ∀ {its : List Pv} {ds : List D} {xs accP : List Pv} {acc : List D} {W : Pw} {S : Store}, lcP t.putP condP eltP penv its = some xs → WdOk W S → Erel W S env penv → Vrs W ds its → Vrs W acc accP → (g = true → acc.length + its.length ≤ LINE) →
      S0.length ≤ S.length → (∀ j, j < S0.length → S[j]? = S0[j]?) → Okg g (lcF pr t.put cond elt env ds acc S) (fun rs S' => ∃ W', Grw W S W' S' ∧ Vrs W' rs (accP ++ xs)) := by
  intro its
  induction its with
  | nil =>
    intro ds xs accP acc W S h w er rs ra hl h0 h1
    cases rs
    rw [lcP] at h
    cases h
    rw [lcF]
    refine ok_guard (hp _ h1) (.ok ⟨W, Grw.refl w, ?_⟩)
    rw [List.append_nil]
    exact ra
  | cons p its ih =>
    intro ds xs accP acc W S h w er rs ra hl h0 h1
    cases rs with
    | cons rp rs =>
      rw [lcP] at h
      rw [lcF]
      refine ok_guard (hp _ h1) ?_
      split at h
      · cases h
      · rename_i pe h2
        obtain ⟨e2, k1, er2⟩ := putP_ok h2 rp er
        refine Okg.bind (Q := fun e S1 => e = e2 ∧ S1 = S) (by rw [k1]; exact .ok ⟨rfl, rfl⟩) ?_
        rintro _ _ ⟨rfl, rfl⟩
        split at h
        · rename_i h3
          split at h
          · rename_i x h4
            rw [Option.map_eq_some_iff] at h
            obtain ⟨ys, h5, rfl⟩ := h
            refine Okg.bind (hc h3 w er2) fun c S2 ⟨W2, g2, t2⟩ => ?_
            rw [t2.bl]
            refine ok_tru (fun _ => ?_) (fun z => nomatch z)
            refine Okg.bind (he h4 g2.ok (er2.mono g2 w)) fun y S3 ⟨W3, g3, v3⟩ => ?_
            have g23 := g2.trans g3
            by_cases hlt : acc.length < LINE
            · rw [if_pos hlt]
              have := ih (accP := accP ++ [x]) (acc := acc ++ [y]) h5 g3.ok (er.mono g23 w) (rs.mono (g23.sub w)) ((ra.mono (g23.sub w)).append (.cons v3 .nil)) (fun hg => by have := hl hg; simp only [List.length_append, List.length_cons, List.length_nil] at this ⊢; omega) (Nat.le_trans h0 g23.len) (fun j hj => (g23.st j (Nat.lt_of_lt_of_le hj h0)).trans (h1 j hj))
              refine this.mono fun rs S4 ⟨W4, g4, v4⟩ => ⟨W4, g23.trans g4, ?_⟩
              rw [List.append_assoc] at v4
              exact v4
            · rw [if_neg hlt]
              refine .inr ⟨?_, rfl⟩
              cases g with
              | false => rfl
              | true =>
                exfalso
                have := hl rfl
                simp only [List.length_cons] at this
                omega
          · cases h
        · rename_i h3
          refine Okg.bind (hc h3 w er2) fun c S2 ⟨W2, g2, t2⟩ => ?_
          rw [t2.bl]
          refine ok_tru (fun z => nomatch z) (fun _ => ?_)
          exact (ih h g2.ok (er.mono g2 w) (rs.mono (g2.sub w)) (ra.mono (g2.sub w)) (fun hg => by have := hl hg; simp only [List.length_cons] at this; omega) (Nat.le_trans h0 g2.len) (fun j hj => (g2.st j (Nat.lt_of_lt_of_le hj h0)).trans (h1 j hj))).mono fun rs S4 ⟨W4, g4, v4⟩ => ⟨W4, g2.trans g4, v4⟩
        · cases h
theorem ok_noexc {α : Type} {m : M α} {Q : α → Store → Prop} (h : Okg g (m S) Q) : Okg g (noexc m S) Q := by
  unfold noexc
  rcases h with ⟨a, S', e, q⟩ | ⟨h1, h2⟩
  · rw [e]; exact .ok q
  · rw [h2]; exact .inr ⟨h1, rfl⟩
theorem ok_truP {β : Type} {o : Option Pv} {a b : Option β} {r : β} (h : truP o a b = some r) : ∃ c, o = some (.bl c) ∧ (if c = true then a else b) = some r := by
  unfold truP at h
  split at h
  · exact ⟨true, rfl, h⟩
  · exact ⟨false, rfl, h⟩
  · cases h
end
section
variable {g : Bool} {C : Nat → List D → M D} {CP : Nat → List Pv → Option Pv}
mutual
theorem evP_ok (hC : CallOk g C CP) : ∀ {e : E} {penv : PFr} {r : Pz}, evP g CP e penv = some r → ∀ {W : Pw} {S : Store} {env : Fr}, WdOk W S → Erel W S env penv → Okg g (evE C e env S) (Po W S (isVarE e) r)
  | .var i, penv, r, h, W, S, env, w, er => by
    rw [evP] at h
    obtain ⟨d, h1, h2⟩ := er.at_ i r (slotP_at h)
    rw [evE]
    unfold getV
    rw [h1]
    exact .ok ⟨W, Grw.refl w, h2, fun z => nomatch z⟩
  | .int i, penv, r, h, W, S, env, w, er => by
    rw [evP] at h; cases h
    rw [evE]
    exact .ok (.of_v (.refl w) (.int _))
  | .str i, penv, r, h, W, S, env, w, er => by
    rw [evP] at h; cases h
    rw [evE]
    exact .ok (.of_v (.refl w) (.str _))
  | .bl i, penv, r, h, W, S, env, w, er => by
    rw [evP] at h; cases h
    rw [evE]
    exact .ok (.of_v (.refl w) (.bl _))
  | .non, penv, r, h, W, S, env, w, er => by
    rw [evP] at h; cases h
    rw [evE]
    exact .ok (.of_v (.refl w) .non)
  | .glob d, penv, r, h, W, S, env, w, er => by
    rw [evP, Option.map_eq_some_iff] at h
    obtain ⟨p, h1, rfl⟩ := h
    rw [evE]
    exact .ok (.of_v (.refl w) (dPv_ok h1))
  | .fnv i, penv, r, h, W, S, env, w, er => by
    rw [evP] at h; cases h
    rw [evE]
    exact .ok (.of_v (.refl w) (.fn _))
  | .bad, penv, r, h, W, S, env, w, er => by rw [evP] at h; cases h
  | .tup es, penv, r, h, W, S, env, w, er => by
    rw [evP, Option.bind_eq_some_iff] at h
    obtain ⟨ps, h1, h2⟩ := h
    obtain ⟨h3, h4⟩ := gd_some h2
    cases h3
    rw [evE]
    refine Okg.bind (evXs_ok hC h1 w er) fun ds S1 ⟨W1, g1, r1⟩ => ?_
    exact ok_ifM (fun e => by rw [r1.length]; exact of_decide_eq_true (h4 e)) (.of_v g1 (.tup r1))
  | .lst es, penv, r, h, W, S, env, w, er => by
    rw [evP, Option.bind_eq_some_iff] at h
    obtain ⟨ps, h1, h2⟩ := h
    obtain ⟨h3, h4⟩ := gd_some h2
    cases h3
    rw [evE]
    refine Okg.bind (evXs_ok hC h1 w er) fun ds S1 ⟨W1, g1, r1⟩ => ?_
    by_cases hl : ds.length ≤ LINE
    · rw [if_pos hl]
      exact (ok_alloc r1).mono fun _ _ z => z.po g1.ok g1
    · rw [if_neg hl]
      refine .inr ⟨?_, rfl⟩
      cases g with
      | false => rfl
      | true => exact absurd (by rw [r1.length]; exact of_decide_eq_true (h4 rfl)) hl
  | .bin o a b, penv, r, h, W, S, env, w, er => by
    rw [evP, Option.bind_eq_some_iff] at h
    obtain ⟨x, h1, h⟩ := h
    rw [Option.bind_eq_some_iff] at h
    obtain ⟨y, h2, h⟩ := h
    rw [evE]
    refine Okg.bind (evP_ok hC h1 w er) fun d1 S1 ⟨W1, g1, z1, _⟩ => ?_
    refine Okg.bind (evP_ok hC h2 g1.ok (er.mono g1 w)) fun d2 S2 ⟨W2, g2, z2, _⟩ => ?_
    exact (ok_bop h (g2.tr g1.ok (z1.tr g1.ok)) (z2.tr g2.ok)).mono fun _ _ z => z.po g2.ok (g1.trans g2)
  | .neg a, penv, r, h, W, S, env, w, er => by
    rw [evP, Option.bind_eq_some_iff] at h
    obtain ⟨x, h1, h⟩ := h
    rw [Option.map_eq_some_iff] at h
    obtain ⟨p, h2, rfl⟩ := h
    rw [evE]
    refine Okg.bind (evP_ok hC h1 w er) fun d1 S1 ⟨W1, g1, z1, _⟩ => ?_
    exact (ok_neg h2 (z1.tr g1.ok)).mono fun _ _ z => z.po g1.ok g1
  | .cmp o a b, penv, r, h, W, S, env, w, er => by
    rw [evP, Option.bind_eq_some_iff] at h
    obtain ⟨x, h1, h⟩ := h
    rw [Option.bind_eq_some_iff] at h
    obtain ⟨y, h2, h⟩ := h
    rw [Option.map_eq_some_iff] at h
    obtain ⟨p, h3, rfl⟩ := h
    rw [evE]
    refine Okg.bind (evP_ok hC h1 w er) fun d1 S1 ⟨W1, g1, z1, _⟩ => ?_
    refine Okg.bind (evP_ok hC h2 g1.ok (er.mono g1 w)) fun d2 S2 ⟨W2, g2, z2, _⟩ => ?_
    exact (ok_cop g2.ok h3 (g2.tr g1.ok (z1.tr g1.ok)) (z2.tr g2.ok)).mono fun _ _ z => z.po g2.ok (g1.trans g2)
  | .chain o q a b c, penv, r, h, W, S, env, w, er => by
    rw [evP, Option.bind_eq_some_iff] at h
    obtain ⟨x, h1, h⟩ := h
    rw [Option.bind_eq_some_iff] at h
    obtain ⟨y, h2, h⟩ := h
    obtain ⟨k, h3, h4⟩ := ok_truP h
    rw [evE]
    refine Okg.bind (evP_ok hC h1 w er) fun d1 S1 ⟨W1, g1, z1, _⟩ => ?_
    refine Okg.bind (evP_ok hC h2 g1.ok (er.mono g1 w)) fun d2 S2 ⟨W2, g2, z2, _⟩ => ?_
    refine Okg.bind (ok_cop g2.ok h3 (g2.tr g1.ok (z1.tr g1.ok)) (z2.tr g2.ok)) fun t S3 ⟨e3, v3⟩ => ?_
    subst e3
    rw [v3.eBl]
    have g12 := g1.trans g2
    refine ok_tru (fun e => ?_) (fun e => ?_)
    · subst e
      rw [if_pos rfl, Option.bind_eq_some_iff] at h4
      obtain ⟨z, h5, h6⟩ := h4
      rw [Option.map_eq_some_iff] at h6
      obtain ⟨p, h6, rfl⟩ := h6
      refine Okg.bind (evP_ok hC h5 g2.ok (er.mono g12 w)) fun d4 S4 ⟨W4, g4, z4, _⟩ => ?_
      exact (ok_cop g4.ok h6 (g4.tr g2.ok (z2.tr g2.ok)) (z4.tr g4.ok)).mono fun _ _ z => z.po g4.ok (g12.trans g4)
    · subst e
      rw [if_neg (by simp)] at h4
      cases h4
      exact .ok (.of_v g12 (.bl _))
  | .and a b, penv, r, h, W, S, env, w, er => by
    rw [evP] at h
    obtain ⟨k, h3, h4⟩ := ok_truP h
    rw [Option.map_eq_some_iff] at h3
    obtain ⟨x, h1, h3⟩ := h3
    rw [evE]
    refine Okg.bind (evP_ok hC h1 w er) fun d1 S1 ⟨W1, g1, z1, _⟩ => ?_
    have t := z1.tr g1.ok
    rw [h3] at t
    rw [t.bl]
    refine ok_tru (fun e => ?_) (fun e => ?_)
    · subst e
      rw [if_pos rfl, Option.map_eq_some_iff] at h4
      obtain ⟨p, h5, rfl⟩ := h4
      obtain ⟨r2, h6, h7⟩ := escP_some h5
      exact (esc_ok (evP_ok hC h6 g1.ok (er.mono g1 w)) h7).mono fun _ _ ⟨W2, g2, v2⟩ => .of_v (g1.trans g2) v2
    · subst e
      rw [if_neg (by simp)] at h4
      cases h4
      exact .ok (.of_v g1 (.bl _))
  | .or a b, penv, r, h, W, S, env, w, er => by
    rw [evP] at h
    obtain ⟨k, h3, h4⟩ := ok_truP h
    rw [Option.map_eq_some_iff] at h3
    obtain ⟨x, h1, h3⟩ := h3
    rw [evE]
    refine Okg.bind (evP_ok hC h1 w er) fun d1 S1 ⟨W1, g1, z1, _⟩ => ?_
    have t := z1.tr g1.ok
    rw [h3] at t
    rw [t.bl]
    refine ok_tru (fun e => ?_) (fun e => ?_)
    · subst e
      rw [if_pos rfl] at h4
      cases h4
      exact .ok (.of_v g1 (.bl _))
    · subst e
      rw [if_neg (by simp), Option.map_eq_some_iff] at h4
      obtain ⟨p, h5, rfl⟩ := h4
      obtain ⟨r2, h6, h7⟩ := escP_some h5
      exact (esc_ok (evP_ok hC h6 g1.ok (er.mono g1 w)) h7).mono fun _ _ ⟨W2, g2, v2⟩ => .of_v (g1.trans g2) v2
  | .not a, penv, r, h, W, S, env, w, er => by
    rw [evP, Option.bind_eq_some_iff] at h
    obtain ⟨x, h1, h⟩ := h
    rw [Option.map_eq_some_iff] at h
    obtain ⟨p, h2, rfl⟩ := h
    rw [evE]
    refine Okg.bind (evP_ok hC h1 w er) fun d1 S1 ⟨W1, g1, z1, _⟩ => ?_
    exact (ok_notT h2 (z1.tr g1.ok)).mono fun _ _ z => z.po g1.ok g1
  | .ife c a b, penv, r, h, W, S, env, w, er => by
    rw [evP] at h
    obtain ⟨k, h3, h4⟩ := ok_truP h
    rw [Option.map_eq_some_iff] at h3
    obtain ⟨x, h1, h3⟩ := h3
    rw [evE]
    refine Okg.bind (evP_ok hC h1 w er) fun d1 S1 ⟨W1, g1, z1, _⟩ => ?_
    have t := z1.tr g1.ok
    rw [h3] at t
    rw [t.bl]
    refine ok_tru (fun e => ?_) (fun e => ?_)
    · subst e
      rw [if_pos rfl, Option.map_eq_some_iff] at h4
      obtain ⟨p, h5, rfl⟩ := h4
      obtain ⟨r2, h6, h7⟩ := escP_some h5
      exact (esc_ok (evP_ok hC h6 g1.ok (er.mono g1 w)) h7).mono fun _ _ ⟨W2, g2, v2⟩ => .of_v (g1.trans g2) v2
    · subst e
      rw [if_neg (by simp), Option.map_eq_some_iff] at h4
      obtain ⟨p, h5, rfl⟩ := h4
      obtain ⟨r2, h6, h7⟩ := escP_some h5
      exact (esc_ok (evP_ok hC h6 g1.ok (er.mono g1 w)) h7).mono fun _ _ ⟨W2, g2, v2⟩ => .of_v (g1.trans g2) v2
  | .ix a i, penv, r, h, W, S, env, w, er => by
    rw [evP, Option.bind_eq_some_iff] at h
    obtain ⟨x, h1, h⟩ := h
    rw [Option.bind_eq_some_iff] at h
    obtain ⟨y, h2, h⟩ := h
    rw [Option.map_eq_some_iff] at h
    obtain ⟨p, h3, rfl⟩ := h
    rw [evE]
    refine Okg.bind (evP_ok hC h1 w er) fun d1 S1 ⟨W1, g1, z1, _⟩ => ?_
    refine Okg.bind (evP_ok hC h2 g1.ok (er.mono g1 w)) fun d2 S2 ⟨W2, g2, z2, _⟩ => ?_
    exact (ok_ix h3 (g2.tr g1.ok (z1.tr g1.ok)) (z2.tr g2.ok)).mono fun _ _ z => z.po g2.ok (g1.trans g2)
  | .slLo a i, penv, r, h, W, S, env, w, er => by
    rw [evP, Option.bind_eq_some_iff] at h
    obtain ⟨x, h1, h⟩ := h
    rw [Option.bind_eq_some_iff] at h
    obtain ⟨y, h2, h⟩ := h
    rw [Option.bind_eq_some_iff] at h
    obtain ⟨l, h3, h⟩ := h
    rw [evE]
    refine Okg.bind (evP_ok hC h1 w er) fun d1 S1 ⟨W1, g1, z1, _⟩ => ?_
    refine Okg.bind (evP_ok hC h2 g1.ok (er.mono g1 w)) fun d2 S2 ⟨W2, g2, z2, _⟩ => ?_
    refine Okg.bind (Q := fun k S3 => k = l ∧ S3 = S2) (by rw [ok_part h3 (z2.tr g2.ok)]; exact .ok ⟨rfl, rfl⟩) ?_
    rintro _ _ ⟨rfl, rfl⟩
    exact (ok_sl h (g2.tr g1.ok (z1.tr g1.ok))).mono fun _ _ z => z.po g2.ok (g1.trans g2)
  | .slHi a i, penv, r, h, W, S, env, w, er => by
    rw [evP, Option.bind_eq_some_iff] at h
    obtain ⟨x, h1, h⟩ := h
    rw [Option.bind_eq_some_iff] at h
    obtain ⟨y, h2, h⟩ := h
    rw [Option.bind_eq_some_iff] at h
    obtain ⟨l, h3, h⟩ := h
    rw [evE]
    refine Okg.bind (evP_ok hC h1 w er) fun d1 S1 ⟨W1, g1, z1, _⟩ => ?_
    refine Okg.bind (evP_ok hC h2 g1.ok (er.mono g1 w)) fun d2 S2 ⟨W2, g2, z2, _⟩ => ?_
    refine Okg.bind (Q := fun k S3 => k = l ∧ S3 = S2) (by rw [ok_part h3 (z2.tr g2.ok)]; exact .ok ⟨rfl, rfl⟩) ?_
    rintro _ _ ⟨rfl, rfl⟩
    exact (ok_sl h (g2.tr g1.ok (z1.tr g1.ok))).mono fun _ _ z => z.po g2.ok (g1.trans g2)
  | .slLH a i j, penv, r, h, W, S, env, w, er => by
    rw [evP, Option.bind_eq_some_iff] at h
    obtain ⟨x, h1, h⟩ := h
    rw [Option.bind_eq_some_iff] at h
    obtain ⟨y, h2, h⟩ := h
    rw [Option.bind_eq_some_iff] at h
    obtain ⟨y3, h3, h⟩ := h
    rw [Option.bind_eq_some_iff] at h
    obtain ⟨l, h4, h⟩ := h
    rw [Option.bind_eq_some_iff] at h
    obtain ⟨l2, h5, h⟩ := h
    rw [evE]
    refine Okg.bind (evP_ok hC h1 w er) fun d1 S1 ⟨W1, g1, z1, _⟩ => ?_
    refine Okg.bind (evP_ok hC h2 g1.ok (er.mono g1 w)) fun d2 S2 ⟨W2, g2, z2, _⟩ => ?_
    refine Okg.bind (Q := fun k S3 => k = l ∧ S3 = S2) (by rw [ok_part h4 (z2.tr g2.ok)]; exact .ok ⟨rfl, rfl⟩) ?_
    rintro _ _ ⟨rfl, rfl⟩
    have g12 := g1.trans g2
    refine Okg.bind (evP_ok hC h3 g2.ok (er.mono g12 w)) fun d3 S3 ⟨W3, g3, z3, _⟩ => ?_
    refine Okg.bind (Q := fun k S4 => k = l2 ∧ S4 = S3) (by rw [ok_part h5 (z3.tr g3.ok)]; exact .ok ⟨rfl, rfl⟩) ?_
    rintro _ _ ⟨rfl, rfl⟩
    exact (ok_sl h (g3.tr g2.ok (g2.tr g1.ok (z1.tr g1.ok)))).mono fun _ _ z => z.po g3.ok (g12.trans g3)
  | .call f es, penv, r, h, W, S, env, w, er => by
    rw [evP, Option.bind_eq_some_iff] at h
    obtain ⟨ps, h1, h⟩ := h
    rw [Option.map_eq_some_iff] at h
    obtain ⟨p, h3, rfl⟩ := h
    rw [evE]
    refine Okg.bind (evXs_ok hC h1 w er) fun ds S1 ⟨W1, g1, r1⟩ => ?_
    exact (hC f ps p h3 W1 S1 ds g1.ok r1).mono fun _ _ ⟨W2, g2, v2⟩ => .of_v (g1.trans g2) v2
  | .callv i es, penv, r, h, W, S, env, w, er => by
    rw [evP, Option.bind_eq_some_iff] at h
    obtain ⟨f, h0, h⟩ := h
    rw [Option.bind_eq_some_iff] at h
    obtain ⟨ps, h1, h⟩ := h
    rw [Option.map_eq_some_iff] at h
    obtain ⟨p, h3, rfl⟩ := h
    obtain ⟨d, k1, k2⟩ := er.at_ i _ (slotF_at h0)
    have k2 : Vr W d (.fn f) := k2
    rw [k2.eFn] at k1
    rw [evE]
    refine Okg.bind (Q := fun k S3 => k = .fn f ∧ S3 = S) (by unfold getV; rw [k1]; exact .ok ⟨rfl, rfl⟩) ?_
    rintro _ _ ⟨rfl, rfl⟩
    refine Okg.bind (evXs_ok hC h1 w er) fun ds S1 ⟨W1, g1, r1⟩ => ?_
    exact (hC f ps p h3 W1 S1 ds g1.ok r1).mono fun _ _ ⟨W2, g2, v2⟩ => .of_v (g1.trans g2) v2
  | .blt b es, penv, r, h, W, S, env, w, er => by
    rw [evP, Option.bind_eq_some_iff] at h
    obtain ⟨ps, h1, h⟩ := h
    rw [evE]
    refine Okg.bind (evTs_ok hC h1 w er) fun ds S1 ⟨W1, g1, r1⟩ => ?_
    exact (ok_blt g1.ok h r1).mono fun _ _ z => z.po g1.ok g1
  | .isi t a, penv, r, h, W, S, env, w, er => by
    rw [evP, Option.bind_eq_some_iff] at h
    obtain ⟨x, h1, h⟩ := h
    rw [Option.map_eq_some_iff] at h
    obtain ⟨p, h2, rfl⟩ := h
    rw [evE]
    refine Okg.bind (evP_ok hC h1 w er) fun d1 S1 ⟨W1, g1, z1, _⟩ => ?_
    exact (ok_isi h2 (z1.tr g1.ok)).mono fun _ _ z => z.po g1.ok g1
  | .rev a, penv, r, h, W, S, env, w, er => by
    rw [evP, Option.bind_eq_some_iff] at h
    obtain ⟨x, h1, h⟩ := h
    rw [evE]
    refine Okg.bind (evP_ok hC h1 w er) fun d1 S1 ⟨W1, g1, z1, _⟩ => ?_
    exact (ok_rev h (z1.tr g1.ok)).mono fun _ _ z => z.po g1.ok g1
  | .mth m a es, penv, r, h, W, S, env, w, er => by
    rw [evP, Option.bind_eq_some_iff] at h
    obtain ⟨x, h1, h⟩ := h
    rw [Option.bind_eq_some_iff] at h
    obtain ⟨ps, h2, h⟩ := h
    rw [evE]
    refine Okg.bind (evP_ok hC h1 w er) fun d1 S1 ⟨W1, g1, z1, _⟩ => ?_
    have kd : m.kd d1 S1 = true := by
      have h' := h
      have a1 := z1.tr g1.ok
      unfold pMthE at h'
      split at h'
      · unfold pJoin at h'
        split at h'
        · rename_i q
          rw [q] at a1
          rw [a1.str]; rfl
        · cases h'
      · unfold pSplit at h'
        split at h'
        · rename_i q
          rw [q] at a1
          rw [a1.str]; rfl
        · cases h'
      · cases h'
    refine Okg.bind (Q := fun _ S2 => S2 = S1) (by unfold chk; rw [if_pos kd]; exact .ok rfl) ?_
    rintro _ _ rfl
    refine Okg.bind (evTs_ok hC h2 g1.ok (er.mono g1 w)) fun ds S2 ⟨W2, g2, r2⟩ => ?_
    exact (ok_mthE h (g2.tr g1.ok (z1.tr g1.ok)) r2).1.mono fun _ _ z => z.po g2.ok (g1.trans g2)
  | .lc own tg k es ifs elt, penv, r, h, W, S, env, w, er => by
    rw [evP, Option.bind_eq_some_iff] at h
    obtain ⟨ps, h1, h⟩ := h
    rw [Option.bind_eq_some_iff] at h
    obtain ⟨its, h2, h⟩ := h
    rw [Option.bind_eq_some_iff] at h
    obtain ⟨xs, h3, h⟩ := h
    obtain ⟨h4, h5⟩ := gd_some h
    cases h4
    rw [evE]
    refine Okg.bind (Q := fun it S1 => ∃ W1, Grw W S W1 S1 ∧ Vrs W1 it.ds its ∧ ∀ S', (∀ j, j < S1.length → S'[j]? = S1[j]?) → it.ok S') (Okg.bind (evTs_ok hC h1 w er) fun ds S1 ⟨W1, g1, r1⟩ => (ok_its h2 r1).mono fun it S2 z => ?_) ?_
    · obtain ⟨e, z1, z2⟩ := z
      subst e
      exact ⟨W1, g1, z1, fun S' k => z2 S' fun j hj => k j (r1.ref_lt hj)⟩
    rintro it S1 ⟨W1, g1, v1, o1⟩
    refine Okg.bind (ok_noexc (ok_lc (accP := []) (W := W1) (S0 := S1) ?_ ?_ o1 h3 g1.ok ((er.mono g1 w).wipe own) v1 .nil (fun hg => by have := of_decide_eq_true (h5 hg); simpa using this) (Nat.le_refl _) fun _ _ => rfl)) fun rs S2 ⟨W2, g2, v2⟩ => ?_
    · intro W3 S3 env3 penv3 p3 h6 w3 er3
      match ifs, h6 with
      | [], h6 =>
        rw [evI] at h6
        cases h6
        exact .ok ⟨W3, Grw.refl w3, Vr.bl _⟩
      | [c], h6 =>
        rw [evI, Option.map_eq_some_iff] at h6
        obtain ⟨r6, h7, rfl⟩ := h6
        exact (evP_ok hC h7 w3 er3).mono fun _ _ ⟨W4, g4, z4, _⟩ => ⟨W4, g4, z4.tr g4.ok⟩
      | _ :: _ :: _, h6 => rw [evI] at h6; cases h6
    · intro W3 S3 env3 penv3 p3 h6 w3 er3
      obtain ⟨r6, h7, h8⟩ := escP_some h6
      exact esc_ok (evP_ok hC h7 w3 er3) h8
    · exact (ok_alloc v2).mono fun _ _ z => z.po g2.ok (g1.trans g2)
theorem evXs_ok (hC : CallOk g C CP) : ∀ {es : List E} {penv : PFr} {ps : List Pv}, evXs g CP es penv = some ps → ∀ {W : Pw} {S : Store} {env : Fr}, WdOk W S → Erel W S env penv → Okg g (evEs C es env S) (fun ds S' => ∃ W', Grw W S W' S' ∧ Vrs W' ds ps)
  | [], penv, ps, h, W, S, env, w, er => by
    rw [evXs] at h; cases h
    rw [evEs]
    exact .ok ⟨W, Grw.refl w, .nil⟩
  | e :: es, penv, ps, h, W, S, env, w, er => by
    rw [evXs, Option.bind_eq_some_iff] at h
    obtain ⟨p, h1, h⟩ := h
    rw [Option.map_eq_some_iff] at h
    obtain ⟨qs, h2, rfl⟩ := h
    obtain ⟨r, h3, h4⟩ := escP_some h1
    rw [evEs]
    refine Okg.bind (esc_ok (evP_ok hC h3 w er) h4) fun d1 S1 ⟨W1, g1, v1⟩ => ?_
    refine Okg.bind (evXs_ok hC h2 g1.ok (er.mono g1 w)) fun ds S2 ⟨W2, g2, v2⟩ => ?_
    exact .ok ⟨W2, g1.trans g2, .cons (v1.mono (g2.sub g1.ok)) v2⟩
theorem evTs_ok (hC : CallOk g C CP) : ∀ {es : List E} {penv : PFr} {ps : List Pv}, evTs g CP es penv = some ps → ∀ {W : Pw} {S : Store} {env : Fr}, WdOk W S → Erel W S env penv → Okg g (evEs C es env S) (fun ds S' => ∃ W', Grw W S W' S' ∧ Trs W' S' ds ps)
  | [], penv, ps, h, W, S, env, w, er => by
    rw [evTs] at h; cases h
    rw [evEs]
    exact .ok ⟨W, Grw.refl w, .nil⟩
  | e :: es, penv, ps, h, W, S, env, w, er => by
    rw [evTs, Option.bind_eq_some_iff] at h
    obtain ⟨p, h1, h⟩ := h
    rw [Option.map_eq_some_iff] at h
    obtain ⟨qs, h2, rfl⟩ := h
    rw [evEs]
    refine Okg.bind (evP_ok hC h1 w er) fun d1 S1 ⟨W1, g1, z1, _⟩ => ?_
    refine Okg.bind (evTs_ok hC h2 g1.ok (er.mono g1 w)) fun ds S2 ⟨W2, g2, v2⟩ => ?_
    exact .ok ⟨W2, g1.trans g2, .cons (g2.tr g1.ok (z1.tr g1.ok)) v2⟩
end
end
end Ev
namespace Ev
open PySem PySem.Spec PyProof.Rows L2
/-! ### statements over plain values are sound -/
structure Eown (n0 : Nat) (env : Fr) (penv : PFr) : Prop where
  lo : ∀ (i : Nat) (p : Pv) (j : Nat), penv[i]? = some (some (.own p)) → env[i]? = some (some (.ref j)) → n0 ≤ j
  un : ∀ (i k : Nat) (p q : Pv) (d : D), penv[i]? = some (some (.own p)) → penv[k]? = some (some (.own q)) → env[i]? = some (some d) → env[k]? = some (some d) → i = k
structure GrwM (n0 : Nat) (W : Pw) (S : Store) (W' : Pw) (S' : Store) : Prop where
  len : S.length ≤ S'.length
  st : ∀ j, j < n0 → S'[j]? = S[j]?
  wd : ∀ j, j < n0 → W' j = W j
  fz : ∀ j c, W j = some c → S'[j]? = S[j]?
  sub : WdSub W W'
  ok : WdOk W' S'
inductive FlR (W : Pw) : PFl → Fl → Prop
  | nx : FlR W .nx .nx
  | bk : FlR W .bk .bk
  | ct : FlR W .ct .ct
  | rt {p : Pv} {d : D} : Vr W d p → FlR W (.rt p) (.rt d)
def PoS (n0 : Nat) (W : Pw) (S : Store) (pr : PFl × PFr) (r : Fl × Fr) (S' : Store) : Prop :=
  ∃ W', GrwM n0 W S W' S' ∧ Erel W' S' r.2 pr.2 ∧ Eown n0 r.2 pr.2 ∧ FlR W' pr.1 r.1
section
variable {n0 : Nat} {W W1 W2 : Pw} {S S1 S2 : Store} {d e : D} {p q : Pv} {g : Bool} {env : Fr} {penv : PFr}
theorem GrwM.refl (w : WdOk W S) : GrwM n0 W S W S := ⟨Nat.le_refl _, fun _ _ => rfl, fun _ _ => rfl, fun _ _ _ => rfl, .refl, w⟩
theorem GrwM.trans (a : GrwM n0 W S W1 S1) (b : GrwM n0 W1 S1 W2 S2) : GrwM n0 W S W2 S2 :=
  ⟨Nat.le_trans a.len b.len, fun j h => (b.st j h).trans (a.st j h), fun j h => (b.wd j h).trans (a.wd j h), fun j c h => (b.fz j c (a.sub j c h)).trans (a.fz j c h), a.sub.trans b.sub, b.ok⟩
theorem Grw.m (a : Grw W S W1 S1) (h : n0 ≤ S.length) (w : WdOk W S) : GrwM n0 W S W1 S1 :=
  ⟨a.len, fun j hj => a.st j (by omega), fun j hj => a.wd j (by omega), fun j c e => a.st j (w.lt e), a.sub w, a.ok⟩
theorem Orr.put_ne {n : Nat} {c : Pc} (hn : W n = none) {j : Nat} (hj : j ≠ n) : ∀ {p : Pv}, Orr W S (.ref j) p → Orr (W.put n c) S (.ref j) p
  | .lst _, ⟨m, ds, h1, h0, h2, h3⟩ => by cases h1; exact ⟨j, ds, rfl, by rw [Pw.put_ne hj]; exact h0, h2, h3.mono (Pw.put_sub hn)⟩
  | .dic _, ⟨m, ds, h1, h0, h2, h3⟩ => by cases h1; exact ⟨j, ds, rfl, by rw [Pw.put_ne hj]; exact h0, h2, h3.mono (Pw.put_sub hn)⟩
  | .non, h => h.elim
  | .bl _, h => h.elim
  | .int _, h => h.elim
  | .str _, h => h.elim
  | .tup _, h => h.elim
  | .fn _, h => h.elim
theorem frz1_ok (w : WdOk W S) (er : Erel W S env penv) (eo : Eown n0 env penv) (v : Nat) {p : Pv} (h : slotP penv v = some (.own p)) :
    ∃ W', GrwM n0 W S W' S ∧ Erel W' S env (penv.set v (some (.val p))) ∧ Eown n0 env (penv.set v (some (.val p))) := by
  have hv := slotP_at h
  have hl : v < penv.length := (List.getElem?_eq_some_iff.mp hv).1
  obtain ⟨d, h1, h2⟩ := er.at_ v _ hv
  have h2 : Orr W S d p := h2
  obtain ⟨n, c, rfl, k0, k1, k2, k3⟩ := Orr.frz w h2
  have nl := eo.lo v p n hv h1
  have old : ∀ {i : Nat} {r : Pz}, (penv.set v (some (.val p)))[i]? = some (some r) → (i = v ∧ r = .val p) ∨ (i ≠ v ∧ penv[i]? = some (some r)) := fun {i r} e => by
    by_cases hi : v = i
    · subst hi
      rw [List.getElem?_set_self hl] at e
      cases e
      exact .inl ⟨rfl, rfl⟩
    · rw [List.getElem?_set_ne hi] at e
      exact .inr ⟨fun z => hi z.symm, e⟩
  refine ⟨W.put n c, ⟨Nat.le_refl _, fun _ _ => rfl, fun j hj => Pw.put_ne (by omega), fun _ _ _ => rfl, Pw.put_sub k0, k2⟩, ⟨by simp [er.len], fun i r e => ?_⟩, ⟨fun i q j e1 e2 => ?_, fun i k q q' d e1 e2 e3 e4 => ?_⟩⟩
  · rcases old e with ⟨rfl, rfl⟩ | ⟨hi, e⟩
    · exact ⟨_, h1, k3⟩
    · obtain ⟨d', e1, e2⟩ := er.at_ i r e
      refine ⟨d', e1, ?_⟩
      cases r with
      | val q => exact Vr.mono (Pw.put_sub k0) e2
      | own q =>
        have e2 : Orr W S d' q := e2
        obtain ⟨j, rfl, _, _⟩ := e2.ref
        refine Orr.put_ne k0 (fun z => ?_) e2
        subst z
        exact hi (eo.un i v q p _ e hv e1 h1)
  · rcases old e1 with ⟨rfl, z⟩ | ⟨hi, e⟩
    · cases z
    · exact eo.lo i q j e e2
  · rcases old e1 with ⟨rfl, z⟩ | ⟨hi, e1⟩
    · cases z
    · rcases old e2 with ⟨rfl, z⟩ | ⟨hk, e2⟩
      · cases z
      · exact eo.un i k q q' d e1 e2 e3 e4
theorem frzs_ok (w : WdOk W S) (er : Erel W S env penv) (eo : Eown n0 env penv) : ∀ vs : List Nat, ∃ W', GrwM n0 W S W' S ∧ Erel W' S env (frzs penv vs) ∧ Eown n0 env (frzs penv vs)
  | [] => ⟨W, .refl w, er, eo⟩
  | v :: vs => by
    obtain ⟨W1, g1, er1, eo1⟩ := frzs_ok w er eo vs
    rw [frzs]
    split
    · rename_i q hq
      obtain ⟨W2, g2, er2, eo2⟩ := frz1_ok g1.ok er1 eo1 v hq
      exact ⟨W2, g1.trans g2, er2, eo2⟩
    · exact ⟨W1, g1, er1, eo1⟩
theorem Eown.set_v (eo : Eown n0 env penv) (hl : env.length = penv.length) (i : Nat) : Eown n0 (env.set i (some d)) (penv.set i (some (.val p))) := by
  have old : ∀ {j : Nat} {q : Pv}, (penv.set i (some (.val p)))[j]? = some (some (.own q)) → i ≠ j ∧ penv[j]? = some (some (.own q)) := fun {j q} e => by
    by_cases hi : i = j
    · subst hi
      by_cases h : i < penv.length
      · rw [List.getElem?_set_self h] at e; cases e
      · rw [List.getElem?_eq_none (by rw [List.length_set]; omega)] at e; cases e
    · rw [List.getElem?_set_ne hi] at e
      exact ⟨hi, e⟩
  refine ⟨fun j q m e1 e2 => ?_, fun j k q q' d e1 e2 e3 e4 => ?_⟩
  · obtain ⟨h1, h2⟩ := old e1
    rw [List.getElem?_set_ne h1] at e2
    exact eo.lo j q m h2 e2
  · obtain ⟨h1, h2⟩ := old e1
    obtain ⟨h3, h4⟩ := old e2
    rw [List.getElem?_set_ne h1] at e3
    rw [List.getElem?_set_ne h3] at e4
    exact eo.un j k q q' d h2 h4 e3 e4
/-- a new own one -/
theorem Eown.set_o (eo : Eown n0 env penv) (er : Erel W S env penv) {m : Nat} (h0 : n0 ≤ m) (hm : S.length ≤ m) (i : Nat) : Eown n0 (env.set i (some (.ref m))) (penv.set i (some (.own p))) := by
  have old : ∀ {j : Nat} {q : Pv}, (penv.set i (some (.own p)))[j]? = some (some (.own q)) → (i = j ∧ i < penv.length) ∨ (i ≠ j ∧ penv[j]? = some (some (.own q))) := fun {j q} e => by
    by_cases hi : i = j
    · subst hi
      by_cases h : i < penv.length
      · exact .inl ⟨rfl, h⟩
      · rw [List.getElem?_eq_none (by rw [List.length_set]; omega)] at e; cases e
    · rw [List.getElem?_set_ne hi] at e
      exact .inr ⟨hi, e⟩
  have lt : ∀ {j : Nat} {q : Pv} {k : Nat}, penv[j]? = some (some (.own q)) → env[j]? = some (some (.ref k)) → k < S.length := fun {j q k} e1 e2 => by
    obtain ⟨d, h1, h2⟩ := er.at_ j _ e1
    have h2 : Orr W S d q := h2
    obtain ⟨n, rfl, _, hn⟩ := h2.ref
    rw [e2] at h1
    cases h1
    exact hn
  refine ⟨fun j q k e1 e2 => ?_, fun j k q q' d e1 e2 e3 e4 => ?_⟩
  · rcases old e1 with ⟨rfl, h⟩ | ⟨h1, h2⟩
    · rw [List.getElem?_set_self (by rw [er.len]; exact h)] at e2
      cases e2
      exact h0
    · rw [List.getElem?_set_ne h1] at e2
      exact eo.lo j q k h2 e2
  · rcases old e1 with ⟨rfl, h⟩ | ⟨h1, h2⟩
    · rcases old e2 with ⟨rfl, _⟩ | ⟨h3, h4⟩
      · rfl
      · rw [List.getElem?_set_self (by rw [er.len]; exact h)] at e3
        cases e3
        rw [List.getElem?_set_ne h3] at e4
        have := lt h4 e4
        omega
    · rcases old e2 with ⟨rfl, h⟩ | ⟨h3, h4⟩
      · rw [List.getElem?_set_self (by rw [er.len]; exact h)] at e4
        cases e4
        rw [List.getElem?_set_ne h1] at e3
        have := lt h2 e3
        omega
      · rw [List.getElem?_set_ne h1] at e3
        rw [List.getElem?_set_ne h3] at e4
        exact eo.un j k q q' d h2 h4 e3 e4
/-- an own one written -/
theorem own_write (w : WdOk W S) (er : Erel W S env penv) (eo : Eown n0 env penv) {k n : Nat} {p : Pv} {ds' : List D} {ps' : List Pv} (hk : penv[k]? = some (some (.own p))) (he : env[k]? = some (some (.ref n))) (hw : W n = none) (hn : n < S.length) (r : Vrs W ds' ps') :
    GrwM n0 W S W (S.set n (.lst ds')) ∧ Erel W (S.set n (.lst ds')) env (penv.set k (some (.own (.lst ps')))) ∧ Eown n0 env (penv.set k (some (.own (.lst ps')))) := by
  have nl := eo.lo k p n hk he
  have hl : k < penv.length := (List.getElem?_eq_some_iff.mp hk).1
  have ne : ∀ {j : Nat}, j ≠ n → (S.set n (.lst ds'))[j]? = S[j]? := fun h => List.getElem?_set_ne (fun e => h e.symm)
  have nw : ∀ {j : Nat} {c : Pc}, W j = some c → j ≠ n := fun {j c} e z => by subst z; rw [hw] at e; cases e
  have old : ∀ {j : Nat} {r : Pz}, (penv.set k (some (.own (.lst ps'))))[j]? = some (some r) → (j = k ∧ r = .own (.lst ps')) ∨ (j ≠ k ∧ penv[j]? = some (some r)) := fun {j r} e => by
    by_cases hi : k = j
    · subst hi
      rw [List.getElem?_set_self hl] at e
      cases e
      exact .inl ⟨rfl, rfl⟩
    · rw [List.getElem?_set_ne hi] at e
      exact .inr ⟨fun z => hi z.symm, e⟩
  have oldO : ∀ {j : Nat} {q : Pv}, (penv.set k (some (.own (.lst ps'))))[j]? = some (some (.own q)) → ∃ q', penv[j]? = some (some (.own q')) := fun {j q} e => by
    rcases old e with ⟨rfl, _⟩ | ⟨_, e⟩
    · exact ⟨_, hk⟩
    · exact ⟨_, e⟩
  have wok : WdOk W (S.set n (.lst ds')) := fun j c e => by
    obtain ⟨x, h1, h2⟩ := w j c e
    exact ⟨x, by rw [ne (nw e)]; exact h1, h2⟩
  refine ⟨⟨by simp, fun j hj => ne (by omega), fun _ _ => rfl, fun j c e => ne (nw e), .refl, wok⟩, ⟨by simp [er.len], fun j x e => ?_⟩, ⟨fun j q m e1 e2 => ?_, fun j k q q' d e1 e2 e3 e4 => ?_⟩⟩
  · rcases old e with ⟨rfl, rfl⟩ | ⟨hj, e⟩
    · exact ⟨_, he, n, ds', rfl, hw, List.getElem?_set_self hn, r⟩
    · obtain ⟨d, h1, h2⟩ := er.at_ j x e
      refine ⟨d, h1, ?_⟩
      cases x with
      | val q => exact h2
      | own q =>
        have h2 : Orr W S d q := h2
        have hne : ∀ m, d = .ref m → m ≠ n := fun m e2 z => by
          subst e2 z
          exact hj (eo.un j k q p _ e hk h1 he)
        cases q with
        | lst _ =>
          obtain ⟨m, xs, rfl, k0, k1, k2⟩ := h2
          exact ⟨m, xs, rfl, k0, by rw [ne (hne m rfl)]; exact k1, k2⟩
        | dic _ =>
          obtain ⟨m, xs, rfl, k0, k1, k2⟩ := h2
          exact ⟨m, xs, rfl, k0, by rw [ne (hne m rfl)]; exact k1, k2⟩
        | _ => exact h2.elim
  · obtain ⟨q', e1⟩ := oldO e1
    exact eo.lo j q' m e1 e2
  · obtain ⟨q1, e1⟩ := oldO e1
    obtain ⟨q2, e2⟩ := oldO e2
    exact eo.un j k q1 q2 d e1 e2 e3 e4
theorem Erel.own {k : Nat} (er : Erel W S env penv) (hk : penv[k]? = some (some (.own p))) : ∃ n, env[k]? = some (some (.ref n)) ∧ W n = none ∧ n < S.length ∧ Orr W S (.ref n) p := by
  obtain ⟨d, h1, h2⟩ := er.at_ k _ hk
  have h2 : Orr W S d p := h2
  obtain ⟨n, rfl, h3, h4⟩ := h2.ref
  exact ⟨n, h1, h3, h4, h2⟩
end
mutual
theorem putP_own {n0 : Nat} {W : Pw} {S : Store} : ∀ {t : T} {p : Pv} {d : D} {env : Fr} {penv penv' : PFr}, t.putP p penv = some penv' → Vr W d p → Erel W S env penv → Eown n0 env penv → ∃ env', t.put d env S = .ok env' S ∧ Erel W S env' penv' ∧ Eown n0 env' penv'
  | .nm i, p, d, env, penv, penv', h, v, r, o => by
    rw [T.putP] at h
    cases h
    exact ⟨_, by rw [T.put]; rfl, r.set (r := .val p) v i, o.set_v r.len i⟩
  | .tup ts, p, d, env, penv, penv', h, v, r, o => by
    cases p with
    | tup ps =>
      rw [T.putP] at h
      obtain ⟨ds, rfl, rs⟩ := v.eTup
      obtain ⟨env', h1, h2, h3, h4⟩ := putsP_own h rs r o
      refine ⟨env', ?_, h3, h4⟩
      rw [T.put]
      have e : onTup ts.length (fun ds => T.puts ts ds env) (.tup ds) = T.puts ts ds env := if_pos (by rw [rs.length, h2])
      rw [e]
      exact h1
    | _ => simp [T.putP] at h
theorem putsP_own {n0 : Nat} {W : Pw} {S : Store} : ∀ {ts : List T} {ps : List Pv} {ds : List D} {env : Fr} {penv penv' : PFr}, T.putsP ts ps penv = some penv' → Vrs W ds ps → Erel W S env penv → Eown n0 env penv → ∃ env', T.puts ts ds env S = .ok env' S ∧ ps.length = ts.length ∧ Erel W S env' penv' ∧ Eown n0 env' penv'
  | [], [], ds, env, penv, penv', h, v, r, o => by
    cases v
    rw [T.putsP] at h
    cases h
    exact ⟨env, by rw [T.puts]; rfl, rfl, r, o⟩
  | [], _ :: _, _, _, _, _, h, _, _, _ => by rw [T.putsP] at h; cases h
  | t :: ts, [], _, _, _, _, h, _, _, _ => by rw [T.putsP] at h; cases h
  | t :: ts, p :: ps, ds, env, penv, penv', h, v, r, o => by
    cases v with
    | cons a b =>
      rw [T.putsP] at h
      split at h
      · rename_i pe h1
        obtain ⟨e1, k1, r1, o1⟩ := putP_own h1 a r o
        obtain ⟨e2, k2, k3, r2, o2⟩ := putsP_own h b r1 o1
        refine ⟨e2, ?_, by simp [k3], r2, o2⟩
        rw [T.puts]
        show M.bnd _ _ S = _
        unfold M.bnd
        rw [k1]
        exact k2
      · cases h
end
section
variable {n0 : Nat} {W W1 W2 : Pw} {S S1 S2 : Store} {d e : D} {p q : Pv} {g : Bool} {env : Fr} {penv : PFr}
/-- a for -/
theorem ok_loop {pr : Store → Prop} {t : T} {body : Fr → M (Fl × Fr)} {bodyP : PFr → Option (PFl × PFr)}
    (hb : ∀ {W : Pw} {S : Store} {env : Fr} {penv : PFr} {r : PFl × PFr}, bodyP penv = some r → n0 ≤ S.length → WdOk W S → Erel W S env penv → Eown n0 env penv → Okg g (body env S) (PoS n0 W S r))
    {W0 : Pw} {S0 : Store} (hp : ∀ S', (∀ j c, W0 j = some c → S'[j]? = S0[j]?) → pr S') :
    ∀ {its : List Pv} {ds : List D} {r : PFl × PFr} {W : Pw} {S : Store} {env : Fr} {penv : PFr}, loopP t.putP bodyP its penv = some r → n0 ≤ S.length → WdOk W S → Erel W S env penv → Eown n0 env penv → Vrs W ds its → WdSub W0 W → (∀ j c, W0 j = some c → S[j]? = S0[j]?) →
      Okg g (loopF pr t.put body ds env S) (PoS n0 W S r) := by
  intro its
  induction its with
  | nil =>
    intro ds r W S env penv h hn w er eo rs s0 f0
    cases rs
    rw [loopP] at h
    cases h
    rw [loopF]
    exact ok_guard (hp _ f0) (.ok ⟨W, .refl w, er, eo, .nx⟩)
  | cons p its ih =>
    intro ds r W S env penv h hn w er eo rs s0 f0
    cases rs with
    | cons rp rs =>
      rw [loopP] at h
      rw [loopF]
      refine ok_guard (hp _ f0) ?_
      split at h
      · cases h
      · rename_i pe h2
        obtain ⟨e2, k1, er2, eo2⟩ := putP_own h2 rp er eo
        refine Okg.bind (Q := fun e S1 => e = e2 ∧ S1 = S) (by rw [k1]; exact .ok ⟨rfl, rfl⟩) ?_
        rintro e' S' ⟨h5, h6⟩
        rw [h5, h6]
        have go : ∀ {pr2 : PFl × PFr}, bodyP pe = some pr2 → Okg g (body e2 S) (PoS n0 W S pr2) := fun h3 => hb h3 hn w er2 eo2
        split at h
        · cases h
        · rename_i pe2 h3
          refine Okg.bind (go h3) fun r2 S2 ⟨W2, g2, er3, eo3, fl⟩ => ?_
          obtain ⟨f2, env2⟩ := r2
          cases fl
          exact (ih h (Nat.le_trans hn g2.len) g2.ok er3 eo3 (rs.mono g2.sub) (s0.trans g2.sub) fun j c e => (g2.fz j c (s0 j c e)).trans (f0 j c e)).mono fun _ _ ⟨W3, g3, z⟩ => ⟨W3, g2.trans g3, z⟩
        · rename_i pe2 h3
          refine Okg.bind (go h3) fun r2 S2 ⟨W2, g2, er3, eo3, fl⟩ => ?_
          obtain ⟨f2, env2⟩ := r2
          cases fl
          exact (ih h (Nat.le_trans hn g2.len) g2.ok er3 eo3 (rs.mono g2.sub) (s0.trans g2.sub) fun j c e => (g2.fz j c (s0 j c e)).trans (f0 j c e)).mono fun _ _ ⟨W3, g3, z⟩ => ⟨W3, g2.trans g3, z⟩
        · rename_i pe2 h3
          cases h
          refine Okg.bind (go h3) fun r2 S2 ⟨W2, g2, er3, eo3, fl⟩ => ?_
          obtain ⟨f2, env2⟩ := r2
          cases fl
          exact .ok ⟨W2, g2, er3, eo3, .nx⟩
        · rename_i q pe2 h3
          cases h
          refine Okg.bind (go h3) fun r2 S2 ⟨W2, g2, er3, eo3, fl⟩ => ?_
          obtain ⟨f2, env2⟩ := r2
          cases fl with
          | rt v => exact .ok ⟨W2, g2, er3, eo3, .rt v⟩
theorem FlR.nxt {fl : Fl} (h : FlR W .nx fl) : fl = .nx := by cases h; rfl
/-- a while -/
theorem ok_while {c : Fr → M D} {body : Fr → M (Fl × Fr)} {cP : PFr → Option Pv} {bodyP : PFr → Option (PFl × PFr)}
    (hc : ∀ {W : Pw} {S : Store} {env : Fr} {penv : PFr} {p : Pv}, cP penv = some p → WdOk W S → Erel W S env penv → Okg g (c env S) (fun d S' => ∃ W', Grw W S W' S' ∧ Tr W' S' d p))
    (hb : ∀ {W : Pw} {S : Store} {env : Fr} {penv : PFr} {r : PFl × PFr}, bodyP penv = some r → n0 ≤ S.length → WdOk W S → Erel W S env penv → Eown n0 env penv → Okg g (body env S) (PoS n0 W S r)) :
    ∀ (n : Nat) {r : PFl × PFr} {W : Pw} {S : Store} {env : Fr} {penv : PFr}, pWhN cP bodyP n penv = some r → n0 ≤ S.length → WdOk W S → Erel W S env penv → Eown n0 env penv → ∀ k, Okg g (whileN c body (n + k) env S) (PoS n0 W S r) := by
  intro n
  induction n with
  | zero => intro r W S env penv h; rw [pWhN] at h; cases h
  | succ n ih =>
    intro r W S env penv h hn w er eo k
    rw [show n + 1 + k = (n + k) + 1 by omega, whileN]
    rw [pWhN] at h
    split at h
    · rename_i h1
      refine Okg.bind (hc h1 w er) fun d S1 ⟨W1, g1, t1⟩ => ?_
      rw [t1.bl]
      refine ok_tru (fun _ => ?_) (fun z => nomatch z)
      have g1m := g1.m hn w
      have go : ∀ {pr2 : PFl × PFr}, bodyP penv = some pr2 → Okg g (body env S1) (PoS n0 W1 S1 pr2) := fun h3 => hb h3 (Nat.le_trans hn g1.len) g1.ok (er.mono g1 w) eo
      split at h
      · cases h
      · rename_i pe2 h3
        refine Okg.bind (go h3) fun r2 S2 ⟨W2, g2, er3, eo3, fl⟩ => ?_
        obtain ⟨f2, env2⟩ := r2
        cases fl
        exact (ih h (Nat.le_trans hn (Nat.le_trans g1.len g2.len)) g2.ok er3 eo3 k).mono fun _ _ ⟨W3, g3, z⟩ => ⟨W3, g1m.trans (g2.trans g3), z⟩
      · rename_i pe2 h3
        refine Okg.bind (go h3) fun r2 S2 ⟨W2, g2, er3, eo3, fl⟩ => ?_
        obtain ⟨f2, env2⟩ := r2
        cases fl
        exact (ih h (Nat.le_trans hn (Nat.le_trans g1.len g2.len)) g2.ok er3 eo3 k).mono fun _ _ ⟨W3, g3, z⟩ => ⟨W3, g1m.trans (g2.trans g3), z⟩
      · rename_i pe2 h3
        cases h
        refine Okg.bind (go h3) fun r2 S2 ⟨W2, g2, er3, eo3, fl⟩ => ?_
        obtain ⟨f2, env2⟩ := r2
        cases fl
        exact .ok ⟨W2, g1m.trans g2, er3, eo3, .nx⟩
      · rename_i q pe2 h3
        cases h
        refine Okg.bind (go h3) fun r2 S2 ⟨W2, g2, er3, eo3, fl⟩ => ?_
        obtain ⟨f2, env2⟩ := r2
        cases fl with
        | rt v => exact .ok ⟨W2, g1m.trans g2, er3, eo3, .rt v⟩
    · rename_i h1
      cases h
      refine Okg.bind (hc h1 w er) fun d S1 ⟨W1, g1, t1⟩ => ?_
      rw [t1.bl]
      exact ok_tru (fun z => nomatch z) (fun _ => .ok ⟨W1, g1.m hn w, er.mono g1 w, eo, .nx⟩)
    · cases h
theorem pWhF_some {cP : PFr → Option Pv} {bodyP : PFr → Option (PFl × PFr)} {penv : PFr} {r : PFl × PFr} (h : pWhF cP bodyP penv = some r) : ∃ n, pWhN cP bodyP n penv = some r := by
  unfold pWhF at h
  split at h
  · rename_i k
    have := k.choose_spec
    cases h
    exact this
  · cases h
theorem pWhN_up {cP : PFr → Option Pv} {bodyP : PFr → Option (PFl × PFr)} : ∀ (n : Nat) {penv : PFr} {r : PFl × PFr}, pWhN cP bodyP n penv = some r → pWhN cP bodyP (n + 1) penv = some r
  | 0, _, _, h => by rw [pWhN] at h; cases h
  | n + 1, penv, r, h => by
    rw [pWhN] at h
    rw [pWhN]
    split at h
    · rename_i h1
      split at h
      · cases h
      · rename_i h3; exact pWhN_up n h
      · rename_i h3; exact pWhN_up n h
      · exact h
      · exact h
    · exact h
    · cases h
theorem pWhN_le {cP : PFr → Option Pv} {bodyP : PFr → Option (PFl × PFr)} {n : Nat} {penv : PFr} {r : PFl × PFr} (h : pWhN cP bodyP n penv = some r) : ∀ k, pWhN cP bodyP (n + k) penv = some r
  | 0 => h
  | k + 1 => pWhN_up _ (pWhN_le h k)
theorem pWhF_of {cP : PFr → Option Pv} {bodyP : PFr → Option (PFl × PFr)} {n : Nat} {penv : PFr} {r : PFl × PFr} (h : pWhN cP bodyP n penv = some r) : pWhF cP bodyP penv = some r := by
  unfold pWhF
  have ex : ∃ r n, pWhN cP bodyP n penv = some r := ⟨r, n, h⟩
  rw [dif_pos ex]
  obtain ⟨m, hm⟩ := ex.choose_spec
  have a := pWhN_le hm n
  have b := pWhN_le h m
  rw [Nat.add_comm] at b
  rw [a] at b
  exact b
end
end Ev
namespace Ev
open PySem PySem.Spec PyProof.Rows L2
section
variable {n0 : Nat} {W W1 W2 : Pw} {S S1 S2 : Store} {d e : D} {p q : Pv} {g : Bool} {env : Fr} {penv : PFr}
theorem ok_whileF {c : Fr → M D} {body : Fr → M (Fl × Fr)} {cP : PFr → Option Pv} {bodyP : PFr → Option (PFl × PFr)}
    (hc : ∀ {W : Pw} {S : Store} {env : Fr} {penv : PFr} {p : Pv}, cP penv = some p → WdOk W S → Erel W S env penv → Okg g (c env S) (fun d S' => ∃ W', Grw W S W' S' ∧ Tr W' S' d p))
    (hb : ∀ {W : Pw} {S : Store} {env : Fr} {penv : PFr} {r : PFl × PFr}, bodyP penv = some r → n0 ≤ S.length → WdOk W S → Erel W S env penv → Eown n0 env penv → Okg g (body env S) (PoS n0 W S r))
    {r : PFl × PFr} (h : pWhF cP bodyP penv = some r) (hn : n0 ≤ S.length) (w : WdOk W S) (er : Erel W S env penv) (eo : Eown n0 env penv) : Okg g (whileF c body env S) (PoS n0 W S r) := by
  obtain ⟨n, hr⟩ := pWhF_some h
  have key := ok_while (c := c) (body := body) hc hb n hr hn w er eo
  unfold whileF
  by_cases ex : ∃ n, ¬ (whileN c body n env S).isBad
  · rw [dif_pos ex]
    have k1 := whileN_le ex.choose_spec n
    have k2 := key ex.choose
    rw [Nat.add_comm, k1] at k2
    exact k2
  · rw [dif_neg ex]
    refine .inr ⟨?_, rfl⟩
    rcases key 0 with ⟨a, S', e, _⟩ | ⟨h1, _⟩
    · exact absurd ⟨n + 0, by rw [e]; exact id⟩ ex
    · exact h1
theorem Vrs.trs (w : WdOk W S) : ∀ {ds : List D} {ps : List Pv}, Vrs W ds ps → Trs W S ds ps
  | _, _, .nil => .nil
  | _, _, .cons a b => .cons (a.tr w) (Vrs.trs w b)
theorem Vrs.fz : ∀ {ds : List D} {ps : List Pv}, Vrs W ds ps → ∀ {j : Nat}, D.ref j ∈ ds → ∃ c, W j = some c := by
  intro ds ps h j hj
  induction ds generalizing ps with
  | nil => cases hj
  | cons d ds ih =>
    cases h with
    | cons a b =>
      rcases List.mem_cons.mp hj with e | e
      · subst e
        cases a with
        | lst e => exact ⟨_, e⟩
        | dic e => exact ⟨_, e⟩
      · exact ih b e
theorem PoS.nx {r : PFl × PFr} {env' : Fr} {penv' : PFr} (a : GrwM n0 W S W1 S1) (er : Erel W1 S1 env' penv') (eo : Eown n0 env' penv') : PoS n0 W S (.nx, penv') (.nx, env') S1 := ⟨W1, a, er, eo, .nx⟩
theorem PoS.pre {r : PFl × PFr} {x : Fl × Fr} (a : GrwM n0 W S W1 S1) (h : PoS n0 W1 S1 r x S2) : PoS n0 W S r x S2 := by
  obtain ⟨W2, g2, z⟩ := h
  exact ⟨W2, a.trans g2, z⟩
theorem mthOf_eq {e : E} {m : Mth} {k : Nat} {es : List E} (h : mthOf e = some (m, k, es)) : e = .mth m (.var k) es := by
  unfold mthOf at h
  split at h
  · cases h; rfl
  · cases h
theorem seqP_some {a : Option (PFl × PFr)} {k : PFr → Option (PFl × PFr)} {r : PFl × PFr} (h : seqP a k = some r) : (∃ e, a = some (.nx, e) ∧ k e = some r) ∨ (a = some r ∧ r.1 ≠ .nx) := by
  unfold seqP at h
  split at h
  · cases h
  · exact .inl ⟨_, rfl, h⟩
  · rename_i f e hne
    cases h
    exact .inr ⟨rfl, fun z => hne z⟩
/-- an own list's method -/
theorem mth_kd {m : Mth} {z r : Pz} {ps : List Pv} {d : D} {S : Store} (h : pMth g m z ps = some r) (k : isLst d S = true) : m.kd d S = true := by
  unfold pMth at h
  split at h
  · exact k
  · exact k
  · exact k
  · cases h
theorem ok_mth {m : Mth} {xs ps : List Pv} {ds es : List D} {r' : Pz} {n : Nat} (h : pMth g m (.own (.lst xs)) ps = some r') (e0 : S[n]? = some (.lst ds)) (r : Vrs W ds xs) (w : WdOk W S) (rs : Vrs W es ps) :
    ∃ ys, r' = .own (.lst ys) ∧ Okg g (m.run (.ref n) es S) (fun _ S' => ∃ ds', S' = S.set n (.lst ds') ∧ Vrs W ds' ys) := by
  unfold pMth at h
  split at h
  · rename_i p q
    cases q
    obtain ⟨h1, h2⟩ := gd_some h
    cases h1
    cases rs with
    | @cons d1 _ _ _ a b =>
      cases b
      refine ⟨_, rfl, ?_⟩
      show Okg g (dAppend (.ref n) d1 S) _
      unfold dAppend
      simp only [e0]
      exact Okg.if (fun e => by rw [r.length]; exact of_decide_eq_true (h2 e)) (.ok ⟨_, rfl, r.append (.cons a .nil)⟩)
  · rename_i ys q
    cases q
    obtain ⟨h1, h2⟩ := gd_some h
    cases h1
    cases rs with
    | cons a b =>
      cases b
      obtain ⟨m, zs, rfl, e1, r1⟩ := a.tr w
      refine ⟨_, rfl, ?_⟩
      show Okg g (dExtend (.ref n) (.ref m) S) _
      unfold dExtend
      simp only [e0, e1]
      exact Okg.if (fun e => by rw [r.length, r1.length]; exact of_decide_eq_true (h2 e)) (.ok ⟨_, rfl, r.append r1⟩)
  · rename_i q
    cases q
    split at h
    · rename_i y hy
      cases h
      cases rs
      refine ⟨_, rfl, ?_⟩
      show Okg g (dPop (.ref n) S) _
      unfold dPop
      obtain ⟨d, h3, h4⟩ := r.getP hy
      simp only [e0, r.length, h3]
      exact .ok ⟨_, rfl, r.dropLast⟩
    · cases h
  · cases h
theorem pMth_own {m : Mth} {r r' : Pz} {ps : List Pv} (h : pMth g m r ps = some r') : ∃ xs, r = .own (.lst xs) := by
  unfold pMth at h
  split at h
  · exact ⟨_, rfl⟩
  · exact ⟨_, rfl⟩
  · exact ⟨_, rfl⟩
  · cases h
end
section
variable {g : Bool} {C : Nat → List D → M D} {CP : Nat → List Pv → Option Pv} {n0 : Nat}
mutual
theorem evPS_ok (hC : CallOk g C CP) : ∀ {s : St} {penv : PFr} {r : PFl × PFr}, evPS g CP s penv = some r → ∀ {W : Pw} {S : Store} {env : Fr}, n0 ≤ S.length → WdOk W S → Erel W S env penv → Eown n0 env penv → Okg g (evS C s env S) (PoS n0 W S r)
  | .set i e, penv, r, h, W, S, env, hn, w, er, eo => by
    rw [evPS, Option.map_eq_some_iff] at h
    obtain ⟨x, h1, rfl⟩ := h
    rw [Option.bind_eq_some_iff] at h1
    obtain ⟨y, h1, h2⟩ := h1
    obtain ⟨W0, g0, er0, eo0⟩ := frzs_ok w er eo (escE true e)
    rw [evS]
    refine Okg.bind (evP_ok hC h1 g0.ok er0) fun d S1 ⟨W1, g1, z1, f1⟩ => ?_
    have er1 := er0.mono g1 g0.ok
    have g1m := g1.m hn g0.ok
    cases y with
    | val p =>
      cases h2
      exact .ok ⟨W1, g0.trans g1m, er1.set (r := .val p) z1 i, eo0.set_v er0.len i, .nx⟩
    | own p =>
      unfold ownChk at h2
      dsimp only at h2
      split at h2
      · cases h2
      · rename_i hv
        cases h2
        obtain ⟨j, rfl, hj⟩ := f1 (by simpa using hv) p rfl
        exact .ok ⟨W1, g0.trans g1m, er1.set (r := .own p) z1 i, eo0.set_o er0 (Nat.le_trans hn hj) hj i, .nx⟩
  | .asg t e, penv, r, h, W, S, env, hn, w, er, eo => by
    rw [evPS, Option.bind_eq_some_iff] at h
    obtain ⟨p, h1, h⟩ := h
    rw [Option.map_eq_some_iff] at h
    obtain ⟨pe, h2, rfl⟩ := h
    obtain ⟨W0, g0, er0, eo0⟩ := frzs_ok w er eo (escE true e)
    obtain ⟨y, h3, h4⟩ := escP_some h1
    rw [evS]
    refine Okg.bind (esc_ok (evP_ok hC h3 g0.ok er0) h4) fun d S1 ⟨W1, g1, v1⟩ => ?_
    obtain ⟨env', k1, er1, eo1⟩ := putP_own h2 v1 (er0.mono g1 g0.ok) eo0
    refine Okg.bind (Q := fun e S2 => e = env' ∧ S2 = S1) (by rw [k1]; exact .ok ⟨rfl, rfl⟩) ?_
    rintro e' S' ⟨h5, h6⟩
    rw [h5, h6]
    exact .ok ⟨W1, g0.trans (g1.m hn g0.ok), er1, eo1, .nx⟩
  | .par2 i j a b, penv, r, h, W, S, env, hn, w, er, eo => by
    rw [evPS, Option.bind_eq_some_iff] at h
    obtain ⟨ps, h1, h⟩ := h
    obtain ⟨W0, g0, er0, eo0⟩ := frzs_ok w er eo (escEs true [a, b])
    rw [evS]
    refine Okg.bind (evXs_ok hC h1 g0.ok er0) fun ds S1 ⟨W1, g1, v1⟩ => ?_
    unfold set2 at h
    split at h
    · cases h
      cases v1 with
      | cons v1 v2 =>
        cases v2 with
        | cons v2 v3 =>
          cases v3
          have er1 := er0.mono g1 g0.ok
          exact .ok ⟨W1, g0.trans (g1.m hn g0.ok), (er1.set (r := .val _) v1 i).set (r := .val _) v2 j, (eo0.set_v er0.len i).set_v (by simp [er0.len]) j, .nx⟩
    · cases h
  | .par3 i j k a b c, penv, r, h, W, S, env, hn, w, er, eo => by
    rw [evPS, Option.bind_eq_some_iff] at h
    obtain ⟨ps, h1, h⟩ := h
    obtain ⟨W0, g0, er0, eo0⟩ := frzs_ok w er eo (escEs true [a, b, c])
    rw [evS]
    refine Okg.bind (evXs_ok hC h1 g0.ok er0) fun ds S1 ⟨W1, g1, v1⟩ => ?_
    unfold set3 at h
    split at h
    · cases h
      cases v1 with
      | cons v1 v2 =>
        cases v2 with
        | cons v2 v3 =>
          cases v3 with
          | cons v3 v4 =>
            cases v4
            have er1 := er0.mono g1 g0.ok
            exact .ok ⟨W1, g0.trans (g1.m hn g0.ok), ((er1.set (r := .val _) v1 i).set (r := .val _) v2 j).set (r := .val _) v3 k, ((eo0.set_v er0.len i).set_v (by simp [er0.len]) j).set_v (by simp [er0.len]) k, .nx⟩
    · cases h
  | .sub o i e, penv, r, h, W, S, env, hn, w, er, eo => by
    rw [evPS, Option.bind_eq_some_iff] at h
    obtain ⟨k, h0, h⟩ := h
    rw [Option.bind_eq_some_iff] at h
    obtain ⟨p, h1, h⟩ := h
    rw [Option.bind_eq_some_iff] at h
    obtain ⟨x, h2, h⟩ := h
    rw [Option.bind_eq_some_iff] at h
    obtain ⟨y, h3, h⟩ := h
    rw [Option.map_eq_some_iff] at h
    obtain ⟨z, h4, rfl⟩ := h
    have ho : o = .var k := by
      unfold varOf at h0
      split at h0
      · cases h0; rfl
      · cases h0
    subst ho
    obtain ⟨W0, g0, er0, eo0⟩ := frzs_ok w er eo (escE true e ++ escE false i)
    obtain ⟨y1, h5, h6⟩ := escP_some h1
    generalize hx : x.pv = xp at h4
    unfold pSet at h4
    split at h4
    · rename_i xs kk q
      rw [Option.map_eq_some_iff] at h4
      obtain ⟨j, h7, rfl⟩ := h4
      have hk := slotP_at h3
      rw [evS]
      refine Okg.bind (esc_ok (evP_ok hC h5 g0.ok er0) h6) fun d S1 ⟨W1, g1, v1⟩ => ?_
      have er1 := er0.mono g1 g0.ok
      obtain ⟨n, e1, k0, k1, k2⟩ := er1.own hk
      obtain ⟨_, ds, k3, _, k4, k5⟩ := k2
      cases k3
      refine Okg.bind (Q := fun o S2 => o = .ref n ∧ S2 = S1) (by rw [evE]; unfold getV; rw [e1]; exact .ok ⟨rfl, rfl⟩) ?_
      rintro o' S' ⟨h8, h9⟩
      rw [h8, h9]
      refine Okg.bind (evP_ok hC h2 g1.ok er1) fun d2 S2 ⟨W2, g2, z2, _⟩ => ?_
      have er2 := er1.mono g2 g1.ok
      have t2 := z2.tr g2.ok
      rw [hx] at t2
      rw [t2.int]
      have k4' : S2[n]? = some (.lst ds) := (g2.st n k1).trans k4
      have k0' : W2 n = none := (g2.wd n k1).trans k0
      have k5' := k5.mono (g2.sub g1.ok)
      have g12 : GrwM n0 W0 S W2 S2 := (g1.m hn g0.ok).trans (g2.m (Nat.le_trans hn g1.len) g1.ok)
      obtain ⟨a1, a2, a3⟩ := own_write (ds' := ds.set j d) g2.ok er2 eo0 hk e1 k0' (lt_of_at k4') (k5'.set (v1.mono (g2.sub g1.ok)) j)
      refine Okg.bind (Q := fun _ S3 => S3 = S2.set n (.lst (ds.set j d))) ?_ ?_
      · unfold dSet
        simp only [k4', k5.length, h7]
        exact .ok rfl
      · intro _ S3 h10
        rw [h10]
        exact .ok ⟨W2, g0.trans (g12.trans a1), a2, a3, .nx⟩
    · cases h4
  | .drop e, penv, r, h, W, S, env, hn, w, er, eo => by
    rw [evPS] at h
    unfold evD at h
    cases hm : mthOf e with
    | some q =>
      rw [hm] at h
      obtain ⟨m, k, es⟩ := q
      have h : ((evXs g CP es (frzs penv (escEs true es))).bind fun ps => (slotP (frzs penv (escEs true es)) k).bind fun r => (pMth g m r ps).map fun r' => ((.nx, (frzs penv (escEs true es)).set k (some r')) : PFl × PFr)) = some r := h
      rw [Option.bind_eq_some_iff] at h
      obtain ⟨ps, h1, h⟩ := h
      rw [Option.bind_eq_some_iff] at h
      obtain ⟨y, h2, h⟩ := h
      rw [Option.map_eq_some_iff] at h
      obtain ⟨z, h3, rfl⟩ := h
      rw [mthOf_eq hm]
      obtain ⟨xs, rfl⟩ := pMth_own h3
      obtain ⟨W0, g0, er0, eo0⟩ := frzs_ok w er eo (escEs true es)
      have hk := slotP_at h2
      obtain ⟨n, e1, k0, k1, k2⟩ := er0.own hk
      obtain ⟨_, ds, k3, _, k4, k5⟩ := k2
      cases k3
      rw [evS, evE]
      refine Okg.bind (Q := fun _ S' => PoS n0 W S (.nx, (frzs penv (escEs true es)).set k (some z)) (.nx, env) S') ?_ fun _ _ q => .ok q
      refine Okg.bind (Q := fun o S2 => o = .ref n ∧ S2 = S) (by rw [evE]; unfold getV; rw [e1]; exact .ok ⟨rfl, rfl⟩) ?_
      rintro o' S' ⟨h8, h9⟩
      rw [h8, h9]
      refine Okg.bind (Q := fun _ S2 => S2 = S) ?_ ?_
      · unfold chk
        rw [if_pos (mth_kd h3 (by unfold isLst; simp only [k4]))]
        exact .ok rfl
      · intro _ S2 h10
        rw [h10]
        refine Okg.bind (evXs_ok hC h1 g0.ok er0) fun es' S1 ⟨W1, g1, v1⟩ => ?_
        have k4' : S1[n]? = some (.lst ds) := (g1.st n k1).trans k4
        have k0' : W1 n = none := (g1.wd n k1).trans k0
        obtain ⟨ys, rfl, h11⟩ := ok_mth h3 k4' (k5.mono (g1.sub g0.ok)) g1.ok v1
        refine h11.mono fun _ S3 ⟨ds', e3, r3⟩ => ?_
        rw [e3]
        obtain ⟨a1, a2, a3⟩ := own_write g1.ok (er0.mono g1 g0.ok) eo0 hk e1 k0' (lt_of_at k4') r3
        exact ⟨W1, g0.trans ((g1.m hn g0.ok).trans a1), a2, a3, .nx⟩
    | none =>
      rw [hm] at h
      have h : ((evP g CP e (frzs penv (escE true e))).map fun _ => ((.nx, frzs penv (escE true e)) : PFl × PFr)) = some r := h
      rw [Option.map_eq_some_iff] at h
      obtain ⟨x, h1, rfl⟩ := h
      obtain ⟨W0, g0, er0, eo0⟩ := frzs_ok w er eo (escE true e)
      rw [evS]
      refine Okg.bind (evP_ok hC h1 g0.ok er0) fun d S1 ⟨W1, g1, z1, f1⟩ => ?_
      exact .ok ⟨W1, g0.trans (g1.m hn g0.ok), er0.mono g1 g0.ok, eo0, .nx⟩
  | .ret e, penv, r, h, W, S, env, hn, w, er, eo => by
    rw [evPS, Option.map_eq_some_iff] at h
    obtain ⟨p, h1, rfl⟩ := h
    obtain ⟨W0, g0, er0, eo0⟩ := frzs_ok w er eo (escE true e)
    obtain ⟨y, h3, h4⟩ := escP_some h1
    rw [evS]
    refine Okg.bind (esc_ok (evP_ok hC h3 g0.ok er0) h4) fun d S1 ⟨W1, g1, v1⟩ => ?_
    exact .ok ⟨W1, g0.trans (g1.m hn g0.ok), er0.mono g1 g0.ok, eo0, .rt v1⟩
  | .retN, penv, r, h, W, S, env, hn, w, er, eo => by
    rw [evPS] at h
    cases h
    rw [evS]
    exact .ok ⟨W, .refl w, er, eo, .rt .non⟩
  | .ife c a b, penv, r, h, W, S, env, hn, w, er, eo => by
    rw [evPS] at h
    obtain ⟨k, h3, h4⟩ := ok_truP h
    rw [Option.map_eq_some_iff] at h3
    obtain ⟨x, h1, h3⟩ := h3
    obtain ⟨W0, g0, er0, eo0⟩ := frzs_ok w er eo (escE true c)
    rw [evS]
    refine Okg.bind (evP_ok hC h1 g0.ok er0) fun d1 S1 ⟨W1, g1, z1, _⟩ => ?_
    have t := z1.tr g1.ok
    rw [h3] at t
    rw [t.bl]
    have g01 := g0.trans (g1.m hn g0.ok)
    refine ok_tru (fun e => ?_) (fun e => ?_)
    · subst e
      rw [if_pos rfl] at h4
      exact (evPSs_ok hC h4 (Nat.le_trans hn g1.len) g1.ok (er0.mono g1 g0.ok) eo0).mono fun _ _ q => q.pre g01
    · subst e
      rw [if_neg (by simp)] at h4
      exact (evPSs_ok hC h4 (Nat.le_trans hn g1.len) g1.ok (er0.mono g1 g0.ok) eo0).mono fun _ _ q => q.pre g01
  | .whl c b, penv, r, h, W, S, env, hn, w, er, eo => by
    rw [evPS] at h
    rw [evS]
    refine ok_whileF ?_ ?_ h hn w er eo
    · intro W3 S3 env3 penv3 p3 h6 w3 er3
      have h6 : (evP g CP c penv3).map Pz.pv = some p3 := h6
      rw [Option.map_eq_some_iff] at h6
      obtain ⟨r6, h7, rfl⟩ := h6
      exact (evP_ok hC h7 w3 er3).mono fun _ _ ⟨W4, g4, z4, _⟩ => ⟨W4, g4, z4.tr g4.ok⟩
    · intro W3 S3 env3 penv3 r3 h6 hn3 w3 er3 eo3
      exact evPSs_ok hC h6 hn3 w3 er3 eo3
  | .for t k es b, penv, r, h, W, S, env, hn, w, er, eo => by
    rw [evPS, Option.bind_eq_some_iff] at h
    obtain ⟨ps, h1, h⟩ := h
    rw [Option.bind_eq_some_iff] at h
    obtain ⟨its, h2, h⟩ := h
    obtain ⟨W0, g0, er0, eo0⟩ := frzs_ok w er eo (escEs true es)
    rw [evS]
    refine Okg.bind (Q := fun it S1 => ∃ W1, Grw W0 S W1 S1 ∧ Vrs W1 it.ds its ∧ ∀ S', (∀ j c, W1 j = some c → S'[j]? = S1[j]?) → it.ok S') (Okg.bind (evXs_ok hC h1 g0.ok er0) fun ds S1 ⟨W1, g1, r1⟩ => (ok_its h2 (r1.trs g1.ok)).mono fun it S2 z => ?_) ?_
    · obtain ⟨e, z1, z2⟩ := z
      subst e
      exact ⟨W1, g1, z1, fun S' k => z2 S' fun j hj => let ⟨c, hc⟩ := r1.fz hj; k j c hc⟩
    rintro it S1 ⟨W1, g1, v1, o1⟩
    refine (ok_loop ?_ o1 h (Nat.le_trans hn g1.len) g1.ok (er0.mono g1 g0.ok) eo0 v1 .refl fun _ _ _ => rfl).mono fun _ _ q => q.pre (g0.trans (g1.m hn g0.ok))
    intro W3 S3 env3 penv3 r3 h6 hn3 w3 er3 eo3
    exact evPSs_ok hC h6 hn3 w3 er3 eo3
  | .aug i o e, penv, r, h, W, S, env, hn, w, er, eo => by
    rw [evPS, Option.bind_eq_some_iff] at h
    obtain ⟨x, h1, h⟩ := h
    rw [Option.bind_eq_some_iff] at h
    obtain ⟨y, h2, h⟩ := h
    rw [Option.map_eq_some_iff] at h
    obtain ⟨p, h3, rfl⟩ := h
    obtain ⟨W0, g0, er0, eo0⟩ := frzs_ok w er eo (escE true e)
    obtain ⟨d, k1, k2⟩ := er0.at_ i _ (slotP_at h1)
    rw [evS]
    refine Okg.bind (Q := fun o S2 => o = d ∧ S2 = S) (by unfold getV; rw [k1]; exact .ok ⟨rfl, rfl⟩) ?_
    rintro o' S' ⟨h8, h9⟩
    rw [h8, h9]
    refine Okg.bind (evP_ok hC h2 g0.ok er0) fun d2 S1 ⟨W1, g1, z1, _⟩ => ?_
    have t1 := g1.tr g0.ok (k2.tr g0.ok)
    have t2 := z1.tr g1.ok
    have key : ∃ d3, dAug o d d2 S1 = .ok d3 S1 ∧ Vr W1 d3 p := by
      unfold pAug at h3
      split at h3
      · rename_i q1 q2
        cases h3
        rw [q1] at t1
        rw [q2] at t2
        rw [t1.int, t2.int]
        exact ⟨_, rfl, .int _⟩
      · rename_i q1 q2
        cases h3
        rw [q1] at t1
        rw [q2] at t2
        rw [t1.int, t2.int]
        exact ⟨_, rfl, .int _⟩
      · cases h3
    obtain ⟨d3, k3, k4⟩ := key
    refine Okg.bind (Q := fun o S2 => o = d3 ∧ S2 = S1) (by rw [k3]; exact .ok ⟨rfl, rfl⟩) ?_
    rintro o' S' ⟨h8, h9⟩
    rw [h8, h9]
    exact .ok ⟨W1, g0.trans (g1.m hn g0.ok), (er0.mono g1 g0.ok).set (r := .val p) k4 i, eo0.set_v er0.len i, .nx⟩
  | .pass, penv, r, h, W, S, env, hn, w, er, eo => by
    rw [evPS] at h
    cases h
    rw [evS]
    exact .ok ⟨W, .refl w, er, eo, .nx⟩
  | .brk, penv, r, h, W, S, env, hn, w, er, eo => by
    rw [evPS] at h
    cases h
    rw [evS]
    exact .ok ⟨W, .refl w, er, eo, .bk⟩
  | .cont, penv, r, h, W, S, env, hn, w, er, eo => by
    rw [evPS] at h
    cases h
    rw [evS]
    exact .ok ⟨W, .refl w, er, eo, .ct⟩
  | .raise _, penv, r, h, W, S, env, hn, w, er, eo => by rw [evPS] at h; cases h
theorem evPSs_ok (hC : CallOk g C CP) : ∀ {ss : List St} {penv : PFr} {r : PFl × PFr}, evPSs g CP ss penv = some r → ∀ {W : Pw} {S : Store} {env : Fr}, n0 ≤ S.length → WdOk W S → Erel W S env penv → Eown n0 env penv → Okg g (evSs C ss env S) (PoS n0 W S r)
  | [], penv, r, h, W, S, env, hn, w, er, eo => by
    rw [evPSs] at h
    cases h
    rw [evSs]
    exact .ok ⟨W, .refl w, er, eo, .nx⟩
  | s :: ss, penv, r, h, W, S, env, hn, w, er, eo => by
    rw [evPSs] at h
    rw [evSs]
    unfold seqM
    rcases seqP_some h with ⟨pe, h1, h2⟩ | ⟨h1, h2⟩
    · refine Okg.bind (evPS_ok hC h1 hn w er eo) fun x S1 ⟨W1, g1, er1, eo1, f1⟩ => ?_
      obtain ⟨fl, env1⟩ := x
      cases f1
      exact (evPSs_ok hC h2 (Nat.le_trans hn g1.len) g1.ok er1 eo1).mono fun _ _ q => q.pre g1
    · refine Okg.bind (evPS_ok hC h1 hn w er eo) fun x S1 q => ?_
      obtain ⟨W1, g1, er1, eo1, f1⟩ := q
      obtain ⟨fl, env1⟩ := x
      obtain ⟨pfl, pe⟩ := r
      cases f1 with
      | nx => exact absurd rfl h2
      | bk => exact .ok ⟨W1, g1, er1, eo1, .bk⟩
      | ct => exact .ok ⟨W1, g1, er1, eo1, .ct⟩
      | rt v => exact .ok ⟨W1, g1, er1, eo1, .rt v⟩
end
end
theorem Vrs.frame {W : Pw} {S : Store} {ds : List D} {ps : List Pv} (r : Vrs W ds ps) (k : Nat) : Erel W S (ds.map some ++ List.replicate (k - ds.length) none) (ps.map (fun p => some (.val p)) ++ List.replicate (k - ps.length) none) := by
  refine ⟨by simp [r.length], fun i x e => ?_⟩
  by_cases hi : i < ps.length
  · rw [List.getElem?_append_left (by simpa using hi), List.getElem?_map] at e
    cases q : ps[i]? with
    | none => rw [q] at e; cases e
    | some p =>
      rw [q] at e
      cases e
      obtain ⟨d, h1, h2⟩ := r.getP q
      refine ⟨d, ?_, h2⟩
      rw [List.getElem?_append_left (by simpa [r.length] using hi), List.getElem?_map, h1]
      rfl
  · rw [List.getElem?_append_right (by simpa using hi), List.getElem?_replicate] at e
    split at e <;> cases e
theorem frame_own {n0 : Nat} {env : Fr} (ps : List Pv) (k : Nat) : Eown n0 env (ps.map (fun p => some (.val p)) ++ List.replicate k none) := by
  have key : ∀ {i : Nat} {q : Pv}, (ps.map (fun p => some (Pz.val p)) ++ List.replicate k none)[i]? = some (some (.own q)) → False := fun {i q} e => by
    by_cases hi : i < ps.length
    · rw [List.getElem?_append_left (by simpa using hi), List.getElem?_map] at e
      cases q' : ps[i]? with
      | none => rw [q'] at e; cases e
      | some p => rw [q'] at e; cases e
    · rw [List.getElem?_append_right (by simpa using hi), List.getElem?_replicate] at e
      split at e <;> cases e
  exact ⟨fun i p j e => (key e).elim, fun i _ p _ _ e => (key e).elim⟩
/-- THE END: a call on plain values -/
theorem evPF_ok {g : Bool} {P : Nat → Option FD} : ∀ n, CallOk g (evF P n) (evPF g P n)
  | 0 => fun f ps p h => by rw [evPF] at h; cases h
  | n + 1 => fun f ps p h W S ds w r => by
    rw [evPF] at h
    unfold callP at h
    rw [evF]
    split at h
    · cases h
    · rename_i fd hf
      rw [hf]
      split at h
      · rename_i hl
        rw [Option.bind_eq_some_iff] at h
        obtain ⟨x, h1, h2⟩ := h
        dsimp only
        rw [if_pos (by rw [r.length]; exact hl)]
        refine Okg.bind (evPSs_ok (n0 := S.length) (evPF_ok n) h1 (Nat.le_refl _) w (r.frame _) (frame_own _ _)) fun y S1 ⟨W1, g1, er1, eo1, f1⟩ => ?_
        have gr : Grw W S W1 S1 := ⟨g1.len, g1.st, g1.wd, g1.ok⟩
        obtain ⟨fl, env1⟩ := y
        obtain ⟨pfl, pe⟩ := x
        cases f1 with
        | nx => cases h2; exact .ok ⟨W1, gr, .non⟩
        | bk => cases h2
        | ct => cases h2
        | rt v => cases h2; exact .ok ⟨W1, gr, v⟩
      · cases h
end Ev
namespace Ev
open PySem PySem.Spec PyProof.Rows
/-! ### types of plain values -/
mutual
def HasPv (p : Prm) : Ty2 → Pv → Prop
  | .bot, _ => False
  | .int lo hi, q => ∃ i, q = .int i ∧ lo ≤ i ∧ i ≤ hi
  | .intA, q => ∃ i, q = .int i
  | .bl, q => ∃ b, q = .bl b
  | .bc b, q => q = .bl b
  | .non, q => q = .non
  | .str lo hi, q => ∃ x, q = .str x ∧ lo ≤ x.length ∧ x.length ≤ hi ∧ PyData.strOk x = true
  | .tup ts, q => ∃ ps, q = .tup ps ∧ HasPvs p ts ps
  | .seq t lo hi, q => ∃ ps, q = .tup ps ∧ lo ≤ ps.length ∧ ps.length ≤ hi ∧ ∀ x ∈ ps, HasPv p t x
  | .lst t lo hi, q => ∃ ps, q = .lst ps ∧ lo ≤ ps.length ∧ ps.length ≤ hi ∧ ∀ x ∈ ps, HasPv p t x
  | .own _ _ _, _ => False
  | .dk, _ => False
  | .nm k, q => ∃ d, dPv d = some q ∧ p.N k d
  | .fnc i, q => q = .fn i
  | .txt, q => ∃ x, q = .str x
  | .scr _ _, _ => False
def HasPvs (p : Prm) : List Ty2 → List Pv → Prop
  | [], ps => ps = []
  | t :: ts, ps => ∃ x xs, ps = x :: xs ∧ HasPv p t x ∧ HasPvs p ts xs
end
mutual
def pureT : Ty2 → Bool
  | .own _ _ _ => false
  | .dk => false
  | .scr _ _ => false
  | .tup ts => pureTs ts
  | .seq t _ _ => pureT t
  | .lst t _ _ => pureT t
  | _ => true
def pureTs : List Ty2 → Bool
  | [] => true
  | t :: ts => pureT t && pureTs ts
end
/-! a value by its world -/
mutual
inductive Vs (W : Wl) : D → Pv → Prop
  | non : Vs W .non .non
  | bl (b : Bool) : Vs W (.bl b) (.bl b)
  | int (i : Int) : Vs W (.int i) (.int i)
  | str (x : Str) : Vs W (.str x) (.str x)
  | fn (i : Nat) : Vs W (.fn i) (.fn i)
  | tup {ds : List D} {ps : List Pv} : Vss W ds ps → Vs W (.tup ds) (.tup ps)
  | lst {j : Nat} {ds : List D} {ps : List Pv} : W[j]? = some (.fz ds) → Vss W ds ps → Vs W (.ref j) (.lst ps)
inductive Vss (W : Wl) : List D → List Pv → Prop
  | nil : Vss W [] []
  | cons {d : D} {p : Pv} {ds : List D} {ps : List Pv} : Vs W d p → Vss W ds ps → Vss W (d :: ds) (p :: ps)
end
section
variable {W : Wl}
mutual
theorem Vs.uniq : ∀ {d : D} {p q : Pv}, Vs W d p → Vs W d q → p = q
  | _, _, _, .non, h => by cases h; rfl
  | _, _, _, .bl _, h => by cases h; rfl
  | _, _, _, .int _, h => by cases h; rfl
  | _, _, _, .str _, h => by cases h; rfl
  | _, _, _, .fn _, h => by cases h; rfl
  | _, _, _, .tup a, h => by
    cases h with
    | tup b => rw [Vss.uniq a b]
  | _, _, _, .lst e a, h => by
    cases h with
    | lst e' b =>
      rw [e] at e'
      cases e'
      rw [Vss.uniq a b]
theorem Vss.uniq : ∀ {ds : List D} {ps qs : List Pv}, Vss W ds ps → Vss W ds qs → ps = qs
  | _, _, _, .nil, h => by cases h; rfl
  | _, _, _, .cons a b, h => by
    cases h with
    | cons c d => rw [Vs.uniq a c, Vss.uniq b d]
end
open Classical in
noncomputable def pwOf (W : Wl) : Pw := fun j => if h : ∃ ps ds, W[j]? = some (.fz ds) ∧ Vss W ds ps then some (.lst h.choose) else none
theorem pwOf_at {j : Nat} {ds : List D} {ps : List Pv} (e : W[j]? = some (.fz ds)) (h : Vss W ds ps) : pwOf W j = some (.lst ps) := by
  have ex : ∃ ps ds, W[j]? = some (.fz ds) ∧ Vss W ds ps := ⟨ps, ds, e, h⟩
  unfold pwOf
  rw [dif_pos ex]
  obtain ⟨es, k1, k2⟩ := ex.choose_spec
  rw [e] at k1
  cases k1
  rw [Vss.uniq h k2]
theorem pwOf_none {j : Nat} (e : ∀ ds, W[j]? ≠ some (.fz ds)) : pwOf W j = none := by
  unfold pwOf
  rw [dif_neg]
  rintro ⟨_, ds, k, _⟩
  exact e ds k
mutual
theorem Vs.vr : ∀ {d : D} {p : Pv}, Vs W d p → Vr (pwOf W) d p
  | _, _, .non => .non
  | _, _, .bl _ => .bl _
  | _, _, .int _ => .int _
  | _, _, .str _ => .str _
  | _, _, .fn _ => .fn _
  | _, _, .tup a => .tup (Vss.vrs a)
  | _, _, .lst e a => .lst (pwOf_at e a)
theorem Vss.vrs : ∀ {ds : List D} {ps : List Pv}, Vss W ds ps → Vrs (pwOf W) ds ps
  | _, _, .nil => .nil
  | _, _, .cons a b => .cons (Vs.vr a) (Vss.vrs b)
end
theorem pwOf_ok {p : Prm} {t : Nat} {S : Store} (w : WF p t W S) : WdOk (pwOf W) S := fun j c h => by
  unfold pwOf at h
  split at h
  · rename_i ex
    obtain ⟨es, k1, k2⟩ := ex.choose_spec
    cases h
    exact ⟨_, w.fz j es k1, .lst k2.vrs⟩
  · cases h
mutual
theorem dPv_vs : ∀ {d : D} {p : Pv}, dPv d = some p → Vs W d p
  | .non, _, h => by cases h; exact .non
  | .bl _, _, h => by cases h; exact .bl _
  | .int _, _, h => by cases h; exact .int _
  | .str _, _, h => by cases h; exact .str _
  | .fn _, _, h => by cases h; exact .fn _
  | .ref _, _, h => by cases h
  | .tup ds, _, h => by
    rw [dPv, Option.map_eq_some_iff] at h
    obtain ⟨ps, h1, rfl⟩ := h
    exact .tup (dPvs_vs h1)
theorem dPvs_vs : ∀ {ds : List D} {ps : List Pv}, dPvs ds = some ps → Vss W ds ps
  | [], _, h => by cases h; exact .nil
  | d :: ds, ps, h => by
    rw [dPvs] at h
    split at h
    · rename_i p qs h1 h2
      cases h
      exact .cons (dPv_vs h1) (dPvs_vs h2)
    · cases h
end
mutual
theorem dPv_vr {W : Pw} : ∀ {d e : D} {p : Pv}, dPv d = some p → Vr W e p → e = d
  | .non, _, _, h, r => by cases h; cases r; rfl
  | .bl _, _, _, h, r => by cases h; cases r; rfl
  | .int _, _, _, h, r => by cases h; cases r; rfl
  | .str _, _, _, h, r => by cases h; cases r; rfl
  | .fn _, _, _, h, r => by cases h; cases r; rfl
  | .ref _, _, _, h, _ => by cases h
  | .tup ds, e, _, h, r => by
    rw [dPv, Option.map_eq_some_iff] at h
    obtain ⟨ps, h1, rfl⟩ := h
    cases r with
    | tup r => rw [dPvs_vrs h1 r]
theorem dPvs_vrs {W : Pw} : ∀ {ds es : List D} {ps : List Pv}, dPvs ds = some ps → Vrs W es ps → es = ds
  | [], _, _, h, r => by cases h; cases r; rfl
  | d :: ds, es, ps, h, r => by
    rw [dPvs] at h
    split at h
    · rename_i p qs h1 h2
      cases h
      cases r with
      | cons a b => rw [dPv_vr h1 a, dPvs_vrs h2 b]
    · cases h
end
variable {p : Prm}
/-- named ones are plain -/
def PlOk (p : Prm) : Prop := ∀ (k : Nat) (d : D), p.N k d → ∃ q, dPv d = some q
theorem vss_of {t : Ty2} (k : ∀ {d : D}, HasTy p W t d → ∃ q, HasPv p t q ∧ Vs W d q) : ∀ {ds : List D}, (∀ x ∈ ds, HasTy p W t x) → ∃ ps, Vss W ds ps ∧ ps.length = ds.length ∧ ∀ x ∈ ps, HasPv p t x
  | [], _ => ⟨[], .nil, rfl, fun _ h => nomatch h⟩
  | d :: ds, h => by
    obtain ⟨q, h1, h2⟩ := k (h d List.mem_cons_self)
    obtain ⟨ps, h3, h4, h5⟩ := vss_of k fun x hx => h x (List.mem_cons_of_mem _ hx)
    exact ⟨q :: ps, .cons h2 h3, by simp [h4], fun x hx => by
      rcases List.mem_cons.mp hx with e | e
      · rw [e]; exact h1
      · exact h5 x e⟩
mutual
theorem HasTy.pv (hF : PlOk p) : ∀ {t : Ty2} {d : D}, pureT t = true → HasTy p W t d → ∃ q, HasPv p t q ∧ Vs W d q
  | .bot, d, _, h => by simp only [HasTy] at h
  | .int lo hi, d, _, h => by
    simp only [HasTy] at h
    obtain ⟨i, rfl, h⟩ := h
    exact ⟨.int i, by simp only [HasPv]; exact ⟨i, rfl, h⟩, .int i⟩
  | .intA, d, _, h => by
    simp only [HasTy] at h
    obtain ⟨i, rfl⟩ := h
    exact ⟨.int i, by simp only [HasPv]; exact ⟨i, rfl⟩, .int i⟩
  | .bl, d, _, h => by
    simp only [HasTy] at h
    obtain ⟨i, rfl⟩ := h
    exact ⟨.bl i, by simp only [HasPv]; exact ⟨i, rfl⟩, .bl i⟩
  | .bc b, d, _, h => by
    simp only [HasTy] at h
    subst h
    exact ⟨.bl b, by simp only [HasPv], .bl b⟩
  | .non, d, _, h => by
    simp only [HasTy] at h
    subst h
    exact ⟨.non, by simp only [HasPv], .non⟩
  | .str lo hi, d, _, h => by
    simp only [HasTy] at h
    obtain ⟨x, rfl, h⟩ := h
    exact ⟨.str x, by simp only [HasPv]; exact ⟨x, rfl, h⟩, .str x⟩
  | .tup ts, d, hp, h => by
    simp only [HasTy] at h
    obtain ⟨ds, rfl, h⟩ := h
    obtain ⟨ps, h1, h2⟩ := HasTys.pv hF (by simpa [pureT] using hp) h
    exact ⟨.tup ps, by simp only [HasPv]; exact ⟨ps, rfl, h1⟩, .tup h2⟩
  | .seq t lo hi, d, hp, h => by
    simp only [HasTy] at h
    obtain ⟨ds, rfl, l1, l2, h⟩ := h
    obtain ⟨ps, h1, h2, h3⟩ := vss_of (fun h => HasTy.pv hF (by simpa [pureT] using hp) h) h
    exact ⟨.tup ps, by simp only [HasPv]; exact ⟨ps, rfl, by omega, by omega, h3⟩, .tup h1⟩
  | .lst t lo hi, d, hp, h => by
    simp only [HasTy] at h
    obtain ⟨j, ds, rfl, e, l1, l2, h⟩ := h
    obtain ⟨ps, h1, h2, h3⟩ := vss_of (fun h => HasTy.pv hF (by simpa [pureT] using hp) h) h
    exact ⟨.lst ps, by simp only [HasPv]; exact ⟨ps, rfl, by omega, by omega, h3⟩, .lst e h1⟩
  | .own _ _ _, d, hp, h => by simp [pureT] at hp
  | .dk, d, hp, h => by simp [pureT] at hp
  | .nm k, d, _, h => by
    simp only [HasTy] at h
    obtain ⟨q, hq⟩ := hF k d h
    exact ⟨q, by simp only [HasPv]; exact ⟨d, hq, h⟩, dPv_vs hq⟩
  | .fnc i, d, _, h => by
    simp only [HasTy] at h
    subst h
    exact ⟨.fn i, by simp only [HasPv], .fn i⟩
  | .scr _ _, d, hp, h => by simp [pureT] at hp
  | .txt, d, _, h => by
    simp only [HasTy] at h
    obtain ⟨x, rfl⟩ := h
    exact ⟨.str x, by simp only [HasPv]; exact ⟨x, rfl⟩, .str x⟩
theorem HasTys.pv (hF : PlOk p) : ∀ {ts : List Ty2} {ds : List D}, pureTs ts = true → HasTys p W ts ds → ∃ ps, HasPvs p ts ps ∧ Vss W ds ps
  | [], ds, _, h => by
    simp only [HasTys] at h
    subst h
    exact ⟨[], by simp only [HasPvs], .nil⟩
  | t :: ts, ds, hp, h => by
    simp only [HasTys] at h
    obtain ⟨x, xs, rfl, h1, h2⟩ := h
    rw [pureTs, Bool.and_eq_true] at hp
    obtain ⟨q, k1, k2⟩ := HasTy.pv hF hp.1 h1
    obtain ⟨ps, k3, k4⟩ := HasTys.pv hF hp.2 h2
    exact ⟨q :: ps, by simp only [HasPvs]; exact ⟨q, ps, rfl, k1, k3⟩, .cons k2 k4⟩
end
mutual
/-- back, without lists -/
theorem HasPv.ty {V : Pw} {W2 : Wl} : ∀ {t : Ty2} {q : Pv} {d : D}, flatT t = true → HasPv p t q → Vr V d q → HasTy p W2 t d
  | .bot, _, _, _, h, _ => by simp only [HasPv] at h
  | .int _ _, _, _, _, h, r => by
    simp only [HasPv] at h
    obtain ⟨i, rfl, h⟩ := h
    rw [r.eInt]
    simp only [HasTy]
    exact ⟨i, rfl, h⟩
  | .intA, _, _, _, h, r => by
    simp only [HasPv] at h
    obtain ⟨i, rfl⟩ := h
    rw [r.eInt]
    simp only [HasTy]
    exact ⟨i, rfl⟩
  | .bl, _, _, _, h, r => by
    simp only [HasPv] at h
    obtain ⟨i, rfl⟩ := h
    rw [r.eBl]
    simp only [HasTy]
    exact ⟨i, rfl⟩
  | .bc _, _, _, _, h, r => by
    simp only [HasPv] at h
    subst h
    rw [r.eBl]
    simp only [HasTy]
  | .non, _, _, _, h, r => by
    simp only [HasPv] at h
    subst h
    rw [r.eNon]
    simp only [HasTy]
  | .str _ _, _, _, _, h, r => by
    simp only [HasPv] at h
    obtain ⟨i, rfl, h⟩ := h
    rw [r.eStr]
    simp only [HasTy]
    exact ⟨i, rfl, h⟩
  | .tup ts, _, _, hf, h, r => by
    simp only [HasPv] at h
    obtain ⟨ps, rfl, h⟩ := h
    obtain ⟨ds, rfl, r2⟩ := r.eTup
    simp only [HasTy]
    exact ⟨ds, rfl, HasPvs.tys (by simpa [flatT] using hf) h r2⟩
  | .seq t _ _, _, _, hf, h, r => by
    simp only [HasPv] at h
    obtain ⟨ps, rfl, l1, l2, h⟩ := h
    obtain ⟨ds, rfl, r2⟩ := r.eTup
    simp only [HasTy]
    have hl := r2.length
    refine ⟨ds, rfl, by omega, by omega, ?_⟩
    clear l1 l2 hl r
    have hf : flatT t = true := by simpa [flatT] using hf
    induction ds generalizing ps with
    | nil => intro x hx; cases hx
    | cons d ds ih =>
      cases r2 with
      | cons a b =>
        intro x hx
        rcases List.mem_cons.mp hx with e | e
        · rw [e]; exact HasPv.ty hf (h _ List.mem_cons_self) a
        · exact ih _ (fun x hx => h x (List.mem_cons_of_mem _ hx)) b x e
  | .lst _ _ _, _, _, hf, _, _ => by simp [flatT] at hf
  | .own _ _ _, _, _, hf, _, _ => by simp [flatT] at hf
  | .dk, _, _, hf, _, _ => by simp [flatT] at hf
  | .nm k, _, _, _, h, r => by
    simp only [HasPv] at h
    obtain ⟨d, h1, h2⟩ := h
    rw [dPv_vr h1 r]
    simp only [HasTy]
    exact h2
  | .fnc _, _, _, _, h, r => by
    simp only [HasPv] at h
    subst h
    rw [r.eFn]
    simp only [HasTy]
  | .scr _ _, _, _, hf, _, _ => by simp [flatT] at hf
  | .txt, _, _, _, h, r => by
    simp only [HasPv] at h
    obtain ⟨x, rfl⟩ := h
    rw [r.eStr]
    simp only [HasTy]
    exact ⟨x, rfl⟩
theorem HasPvs.tys {V : Pw} {W2 : Wl} : ∀ {ts : List Ty2} {ps : List Pv} {ds : List D}, flatTs ts = true → HasPvs p ts ps → Vrs V ds ps → HasTys p W2 ts ds
  | [], _, _, _, h, r => by
    simp only [HasPvs] at h
    subst h
    cases r
    simp only [HasTys]
  | t :: ts, _, _, hf, h, r => by
    simp only [HasPvs] at h
    obtain ⟨x, xs, rfl, h1, h2⟩ := h
    rw [flatTs, Bool.and_eq_true] at hf
    cases r with
    | cons a b =>
      simp only [HasTys]
      exact ⟨_, _, rfl, HasPv.ty hf.1 h1 a, HasPvs.tys hf.2 h2 b⟩
end
/-! frames -/
def SlP (p : Prm) (t : Ty2) (r : Option Pz) : Prop := match t with
  | .own t lo hi => pureT t = true → ∃ ps, r = some (.own (.lst ps)) ∧ lo ≤ ps.length ∧ ps.length ≤ hi ∧ ∀ x ∈ ps, HasPv p t x
  | t => pureT t = true → ∃ q, r = some (.val q) ∧ HasPv p t q
def PEnv (p : Prm) : En → PFr → Prop
  | [], r => r = []
  | none :: G, r => ∃ x xs, r = x :: xs ∧ PEnv p G xs
  | some t :: G, r => ∃ x xs, r = x :: xs ∧ SlP p t x ∧ PEnv p G xs
theorem slot_of {S : Store} {t : Nat} (hF : PlOk p) (w : WF p t W S) {u : Ty2} {d : D} (h : Val p W S u d) : ∃ r : Option Pz, SlP p u r ∧ (∀ z, r = some z → Zr (pwOf W) S d z) ∧ ∀ q, r = some (.own q) → isOwn u = true := by
  have plain : (∀ t lo hi, u ≠ .own t lo hi) → ∃ r : Option Pz, (pureT u = true → ∃ q, r = some (.val q) ∧ HasPv p u q) ∧ (∀ z, r = some z → Zr (pwOf W) S d z) ∧ ∀ q, r = some (.own q) → isOwn u = true := fun hu => by
    have h2 : HasTy p W u d := h.has (by cases u <;> first | rfl | exact absurd rfl (hu _ _ _))
    by_cases hp : pureT u = true
    · obtain ⟨q, h3, h4⟩ := h2.pv hF hp
      exact ⟨some (.val q), fun _ => ⟨q, rfl, h3⟩, (fun z e => by cases e; exact h4.vr), fun _ e => nomatch e⟩
    · exact ⟨none, fun z => absurd z hp, fun z e => (nomatch e), fun z e => nomatch e⟩
  cases u with
  | own v lo hi =>
    obtain ⟨j, ds, rfl, k1, k2, l1, l2, k3⟩ := h
    by_cases hp : pureT v = true
    · obtain ⟨ps, h3, h4, h5⟩ := vss_of (fun h => h.pv hF hp) k3
      exact ⟨some (.own (.lst ps)), fun _ => ⟨ps, rfl, by omega, by omega, h5⟩, (fun z e => by
        cases e
        exact ⟨j, ds, rfl, pwOf_none (fun es e => (by rw [k1] at e; cases e)), k2, h3.vrs⟩), fun _ _ => rfl⟩
    · exact ⟨none, fun z => absurd z hp, fun z e => (nomatch e), fun _ _ => rfl⟩
  | _ => exact plain fun _ _ _ e => nomatch e
theorem penv_of3 {S : Store} {t : Nat} (hF : PlOk p) (w : WF p t W S) : ∀ {G : En} {env : Fr}, env.length = G.length → (∀ (i : Nat) (u : Ty2), G[i]? = some (some u) → ∃ d, env[i]? = some (some d) ∧ Val p W S u d) → ∃ penv, PEnv p G penv ∧ Erel (pwOf W) S env penv ∧ ∀ (i : Nat) (q : Pv), penv[i]? = some (some (.own q)) → ∃ u, G[i]? = some (some u) ∧ isOwn u = true
  | [], [], _, _ => ⟨[], by simp only [PEnv], ⟨rfl, fun i r e => by simp at e⟩, fun i q e => by simp at e⟩
  | [], _ :: _, h, _ => by simp at h
  | _ :: _, [], h, _ => by simp at h
  | g :: G, e :: env, hl, h => by
    obtain ⟨penv, h1, h2, h4⟩ := penv_of3 hF w (G := G) (env := env) (by simpa using hl) fun i u q => by
      have := h (i + 1) u (by simpa using q)
      simpa using this
    have build : ∀ r : Option Pz, (∀ z, r = some z → ∃ d, e = some d ∧ Zr (pwOf W) S d z) → Erel (pwOf W) S (e :: env) (r :: penv) := fun r hr => by
      refine ⟨by simp [h2.len], fun i z q => ?_⟩
      cases i with
      | zero =>
        have q : r = some z := by simpa using q
        obtain ⟨d, k1, k2⟩ := hr z q
        exact ⟨d, by simp [k1], k2⟩
      | succ i =>
        obtain ⟨d, k1, k2⟩ := h2.at_ i z (by simpa using q)
        exact ⟨d, by simpa using k1, k2⟩
    have own : ∀ r : Option Pz, (∀ q, r = some (.own q) → ∃ u, g = some u ∧ isOwn u = true) → ∀ (i : Nat) (q : Pv), (r :: penv)[i]? = some (some (.own q)) → ∃ u, (g :: G)[i]? = some (some u) ∧ isOwn u = true := fun r hr i q e => by
      cases i with
      | zero =>
        obtain ⟨u, k1, k2⟩ := hr q (by simpa using e)
        exact ⟨u, by simp [k1], k2⟩
      | succ i =>
        obtain ⟨u, k1, k2⟩ := h4 i q (by simpa using e)
        exact ⟨u, by simpa using k1, k2⟩
    cases g with
    | none => exact ⟨none :: penv, by simp only [PEnv]; exact ⟨none, penv, rfl, h1⟩, build none (fun z q => nomatch q), own none fun q e => nomatch e⟩
    | some u =>
      obtain ⟨d, k1, k2⟩ := h 0 u rfl
      have k1 : e = some d := by simpa using k1
      obtain ⟨r, k3, k4, k5⟩ := slot_of hF w k2
      exact ⟨r :: penv, by simp only [PEnv]; exact ⟨r, penv, rfl, k3, h1⟩, build r (fun z q => ⟨d, k1, k4 z q⟩), own r fun q e => ⟨u, rfl, k5 q e⟩⟩
theorem penv_of {S : Store} {t : Nat} (hF : PlOk p) (w : WF p t W S) {G : En} {env : Fr} (hl : env.length = G.length) (h : ∀ (i : Nat) (u : Ty2), G[i]? = some (some u) → ∃ d, env[i]? = some (some d) ∧ Val p W S u d) : ∃ penv, PEnv p G penv ∧ Erel (pwOf W) S env penv :=
  let ⟨penv, h1, h2, _⟩ := penv_of3 hF w hl h
  ⟨penv, h1, h2⟩
/-- .. its own lists apart -/
theorem penv_of2 {S : Store} {t : Nat} (hF : PlOk p) (w : WF p t W S) {G : En} {env : Fr} (en : EnvOk p W S G env) : ∃ penv, PEnv p G penv ∧ Erel (pwOf W) S env penv ∧ Eown 0 env penv := by
  obtain ⟨penv, h1, h2, h3⟩ := penv_of3 hF w en.len en.at_
  refine ⟨penv, h1, h2, fun i q j e1 e2 => Nat.zero_le _, fun i k q q' d e1 e2 e3 e4 => ?_⟩
  obtain ⟨u, a1, a2⟩ := h3 i q e1
  obtain ⟨v, b1, b2⟩ := h3 k q' e2
  exact en.uniq i k u v d a1 a2 b1 b2 e3 e4
end
end Ev
namespace Ev
open PySem PySem.Spec PyProof.Rows
/-! ### declared signatures, refined by plain values -/
structure Dc where
  f : Nat
  rk : Nat
  ts : List Ty2
  u : Ty2
  c : Nat
/-- f at these types answers so, by its plain values -/
structure Rf where
  f : Nat
  rk : Nat
  ts : List Ty2
  u : Ty2
abbrev Hd := Nat → Nat → Option (List Ty2 → Option (Ty2 × Nat))
def sgB (p : Prm) (L : List Dc) (hand : Hd) (n f : Nat) (ts : List Ty2) : Option (Ty2 × Nat) := match hand n f with
  | some g => g ts
  | none => (L.find? fun d => decide (d.f = f) && (decide (d.rk ≤ n) && all2 (sub p FT) ts d.ts)).map fun d => (d.u, d.c)
def rfX (p : Prm) (R : List Rf) (n f : Nat) (ts : List Ty2) (q : Ty2 × Nat) : Ty2 × Nat := match R.find? fun r => decide (r.f = f) && (decide (r.rk ≤ n) && (all2 (sub p FT) ts r.ts && (pureTs r.ts && flatT r.u))) with
  | some r => (r.u, q.2)
  | none => q
def sgD (p : Prm) (L : List Dc) (R : List Rf) (hand : Hd) (n : Nat) : Sg := ⟨fun f ts => (sgB p L hand n f ts).map (rfX p R n f ts), n⟩
def dcOk (p : Prm) (P : Nat → Option FD) (L : List Dc) (R : List Rf) (hand : Hd) (d : Dc) : Bool := decide (1 ≤ d.rk) && (match P d.f with
  | some fd => (match inF p (sgD p L R hand (d.rk - 1)) fd d.ts with
    | some (u, c) => subT p u d.u && decide (c ≤ d.c)
    | none => false)
  | none => false)
def CallT (p : Prm) (P : Nat → Option FD) (n f : Nat) (ts : List Ty2) (u : Ty2) (c : Nat) : Prop :=
  ∀ (ds : List D) (W : Wl) (S : Store) (t : Nat), HasTys p W ts ds → WF p t W S → t + c ≤ TM →
      ∃ d S' W' t', evF P n f ds S = .ok d S' ∧ Go p W S t (fun _ => False) W' S' t' c ∧ Val p W' S' u d ∧ (isOwn u = true → ∃ j : Nat, d = .ref j ∧ S.length ≤ j)
def RfOk (p : Prm) (P : Nat → Option FD) (r : Rf) : Prop := ∀ n, r.rk ≤ n → ∀ ps, HasPvs p r.ts ps → ∃ q, evPF false P n r.f ps = some q ∧ HasPv p r.u q
def HtOk (p : Prm) (P : Nat → Option FD) (h : Hint) : Prop := ∀ n, h.rk ≤ n → ∀ penv, PEnv p h.G penv → ∃ r, evP false (evPF false P n) h.e penv = some r ∧ HasPv p h.u r.pv
def PFlHas (p : Prm) (o : Option Ty2) (r : PFl × PFr) : Prop := match o with
  | none => r.1 = .nx
  | some u => ∃ q, r.1 = .rt q ∧ HasPv p u q
def BtOk (p : Prm) (P : Nat → Option FD) (h : HintB) : Prop := ∀ n, h.rk ≤ n → ∀ penv, PEnv p h.G penv → ∃ r, evPSs false (evPF false P n) h.b penv = some r ∧ PFlHas p h.o r
/-- all that is to be shown of a table -/
structure TbOk (p : Prm) (P : Nat → Option FD) (L : List Dc) (R : List Rf) (hand : Hd) : Prop where
  x : PrOk p
  fl : PlOk p
  hn : ∀ (k n f : Nat) (g : List Ty2 → Option (Ty2 × Nat)), k ≤ n → hand k f = some g → ∀ (ts : List Ty2) (u : Ty2) (c : Nat), g ts = some (u, c) → CallT p P n f ts u c
  dr : ∀ n, DrOk p (evF P n)
  dc : ∀ d ∈ L, dcOk p P L R hand d = true
  rf : ∀ r ∈ R, RfOk p P r
  ht : ∀ h ∈ p.hs, HtOk p P h
  bt : ∀ h ∈ p.bs, BtOk p P h
section
variable {p : Prm} {P : Nat → Option FD} {L : List Dc} {R : List Rf} {hand : Hd}
theorem hs_ok (T : TbOk p P L R hand) {n k : Nat} (hk : k ≤ n) : ∀ h ∈ p.hs, h.rk ≤ k → flatT h.u = true → ∀ (W : Wl) (S S' : Store) (t : Nat) (env : Fr) (d : D), EnvOk p W S h.G env → WF p t W S → evE (evF P n) h.e env S = .ok d S' → ∀ W', HasTy p W' h.u d := by
  intro h hm h1 h2 W S S' t env d en w e W'
  obtain ⟨penv, k1, k2⟩ := penv_of T.fl w en.len en.at_
  obtain ⟨r, k3, k4⟩ := T.ht h hm n (Nat.le_trans h1 hk) penv k1
  rcases evP_ok (evPF_ok (g := false) n) k3 (pwOf_ok w) k2 with ⟨d', S1, e1, W1, g1, z1, _⟩ | ⟨_, e1⟩
  · rw [e] at e1
    cases e1
    cases r with
    | val q => exact HasPv.ty h2 k4 z1
    | own q =>
      exfalso
      have z1 : Orr W1 _ _ q := z1
      have k4 : HasPv p h.u q := k4
      revert k4 h2
      cases q with
      | lst ps =>
        intro h2 k4
        cases hu : h.u <;> rw [hu] at h2 k4 <;> first
          | (simp [flatT] at h2; done)
          | (simp [HasPv] at k4; done)
          | (simp only [HasPv] at k4
             obtain ⟨d, k5, _⟩ := k4
             cases d <;> simp [dPv] at k5)
      | dic ks =>
        intro h2 k4
        cases hu : h.u <;> rw [hu] at h2 k4 <;> first
          | (simp [flatT] at h2; done)
          | (simp [HasPv] at k4; done)
          | (simp only [HasPv] at k4
             obtain ⟨d, k5, _⟩ := k4
             cases d <;> simp [dPv] at k5)
      | _ => exact z1.elim
  · rw [e] at e1; cases e1
theorem penv_own (p : Prm) : ∀ {G : En} {penv : PFr}, PEnv p G penv → True := fun _ => trivial
theorem bs_ok (T : TbOk p P L R hand) {n k : Nat} (hk : k ≤ n) : ∀ h ∈ p.bs, h.rk ≤ k → flatO h.o = true → ∀ (W : Wl) (S S' : Store) (t : Nat) (env env' : Fr) (fl : Fl), EnvOk p W S h.G env → WF p t W S → evSs (evF P n) h.b env S = .ok (fl, env') S' → FlHas p h.o fl := by
  intro h hm h1 h2 W S S' t env env' fl en w e
  obtain ⟨penv, k1, k2, k0⟩ := penv_of2 T.fl w en
  obtain ⟨r, k3, k4⟩ := T.bt h hm n (Nat.le_trans h1 hk) penv k1
  rcases evPSs_ok (n0 := 0) (evPF_ok (g := false) n) k3 (Nat.zero_le _) (pwOf_ok w) k2 k0 with ⟨x, S1, e1, W1, g1, er, eo, f1⟩ | ⟨_, e1⟩
  · rw [e] at e1
    obtain ⟨rfl, rfl⟩ := Res.ok.inj e1
    obtain ⟨rf, re⟩ := r
    unfold FlHas
    unfold PFlHas at k4
    cases ho : h.o with
    | none =>
      rw [ho] at k4
      have k4 : rf = .nx := k4
      subst k4
      cases f1
      rfl
    | some u =>
      rw [ho] at k4 h2
      obtain ⟨q, k4, k5⟩ := k4
      have k4 : rf = .rt q := k4
      subst k4
      cases f1 with
      | rt v => exact ⟨_, rfl, fun W' => HasPv.ty h2 k5 v⟩
  · rw [e] at e1; cases e1
theorem rf_ok (T : TbOk p P L R hand) {n k f : Nat} {ts : List Ty2} {q : Ty2 × Nat} (hk : k ≤ n) (h : CallT p P n f ts q.1 q.2) : CallT p P n f ts (rfX p R k f ts q).1 (rfX p R k f ts q).2 := by
  unfold rfX
  split
  · rename_i r hr
    have hm := List.mem_of_find?_eq_some hr
    have kk := List.find?_some hr
    simp only [Bool.and_eq_true, decide_eq_true_eq] at kk
    obtain ⟨rfl, k2, k3, k4, k5⟩ := kk
    intro ds W S t hd w hc
    obtain ⟨d, S1, W1, t1, e, go, va, ow⟩ := h ds W S t hd w hc
    have hd2 := all2_ok (fun a b => sub_ok T.x FT a b) k3 hd
    obtain ⟨ps, h1, h2⟩ := HasTys.pv T.fl k4 hd2
    obtain ⟨y, h3, h4⟩ := T.rf r hm n (Nat.le_trans k2 hk) ps h1
    rcases evPF_ok (g := false) (P := P) n r.f ps y h3 (pwOf W) S ds (pwOf_ok w) h2.vrs with ⟨d', S2, e1, W2, g2, v2⟩ | ⟨_, e1⟩
    · rw [e] at e1
      cases e1
      have ht : HasTy p W1 r.u d := HasPv.ty k5 h4 v2
      refine ⟨d, S1, W1, t1, e, go, Val.of ht, fun ho => ?_⟩
      exfalso
      have ho : isOwn r.u = true := ho
      cases hu : r.u <;> rw [hu] at ho k5 <;> first
        | (cases ho; done)
        | (simp [flatT] at k5; done)
    · rw [e] at e1; cases e1
  · exact h
theorem sgD_ok (T : TbOk p P L R hand) : ∀ n k, k ≤ n → SgOk p (evF P n) (sgD p L R hand k) := by
  intro n
  induction n with
  | zero =>
    intro k hk
    refine ⟨fun f ts u c h => ?_, T.dr _, hs_ok T hk, bs_ok T hk⟩
    have h : (sgB p L hand k f ts).map (rfX p R k f ts) = some (u, c) := h
    rw [Option.map_eq_some_iff] at h
    obtain ⟨q, h0, h⟩ := h
    have key : CallT p P 0 f ts q.1 q.2 := by
      unfold sgB at h0
      split at h0
      · rename_i g e
        exact T.hn k 0 f g hk e ts q.1 q.2 h0
      · rw [Option.map_eq_some_iff] at h0
        obtain ⟨d, h1, h2⟩ := h0
        have h3 := List.find?_some h1
        have h4 := T.dc d (List.mem_of_find?_eq_some h1)
        simp only [Bool.and_eq_true, decide_eq_true_eq] at h3
        unfold dcOk at h4
        rw [Bool.and_eq_true, decide_eq_true_eq] at h4
        omega
    have := rf_ok T hk key
    rw [h] at this
    exact this
  | succ n ih =>
    intro k hk
    refine ⟨fun f ts u c h => ?_, T.dr _, hs_ok T hk, bs_ok T hk⟩
    have h : (sgB p L hand k f ts).map (rfX p R k f ts) = some (u, c) := h
    rw [Option.map_eq_some_iff] at h
    obtain ⟨q, h0, h⟩ := h
    have key : CallT p P (n + 1) f ts q.1 q.2 := by
      unfold sgB at h0
      split at h0
      · rename_i g e
        exact T.hn k (n + 1) f g hk e ts q.1 q.2 h0
      · rw [Option.map_eq_some_iff] at h0
        obtain ⟨d, h1, h2⟩ := h0
        subst h2
        intro ds W S t hd w hc
        have h3 := List.find?_some h1
        have h4 := T.dc d (List.mem_of_find?_eq_some h1)
        simp only [Bool.and_eq_true, decide_eq_true_eq] at h3
        obtain ⟨rfl, h5, h6⟩ := h3
        unfold dcOk at h4
        rw [Bool.and_eq_true, decide_eq_true_eq] at h4
        obtain ⟨h7, h8⟩ := h4
        split at h8
        · rename_i fd q1
          split at h8
          · rename_i u' c' q2
            rw [Bool.and_eq_true, decide_eq_true_eq] at h8
            have hc : t + d.c ≤ TM := hc
            have h82 := h8.2
            obtain ⟨e, S', W', t', e1, go, va, ow⟩ := inF_ok T.x (ih (d.rk - 1) (by omega)) q2 (all2_ok (fun a b => sub_ok T.x FT a b) h6 hd) w (by omega)
            have rt : RtOk p W' S' S.length [] [] u' e := ⟨va, fun ho => by
              obtain ⟨j, j1, j2⟩ := ow ho
              exact ⟨j, j1, .inr j2⟩⟩
            have rt := rt.sub T.x h8.1
            refine ⟨e, S', W', t', ?_, go.weak (show c' ≤ d.c from h82) (fun _ z => z), rt.1, fun ho => ?_⟩
            · rw [evF, q1]
              exact e1
            · obtain ⟨j, j1, j2⟩ := rt.2 ho
              refine ⟨j, j1, j2.resolve_left ?_⟩
              rintro ⟨i, _, h, _⟩
              cases h
          · cases h8
        · cases h8
    have := rf_ok T hk key
    rw [h] at this
    exact this
end
end Ev
namespace Ev
open PySem PySem.Spec PyProof.Rows
/-! ### a def by its plain values, whole -/
theorem go_of {p : Prm} {W : Wl} {S S' : Store} {t c : Nat} {V V' : Pw} {O : Nat → Prop} (w : WF p t W S) (g : Grw V S V' S') : Go p W S t O (W ++ (S'.drop S.length).map .sc) S' t c := by
  have hw := w.len
  have hg := g.len
  have old : ∀ {j : Nat} {k : Kd}, (W ++ (S'.drop S.length).map Kd.sc)[j]? = some k → (∀ c, k ≠ .sc c) → W[j]? = some k ∧ j < S.length := fun {j k} e hk => by
    by_cases hj : j < W.length
    · rw [List.getElem?_append_left hj] at e
      exact ⟨e, by omega⟩
    · rw [List.getElem?_append_right (by omega), List.getElem?_map] at e
      cases q : (S'.drop S.length)[j - W.length]? with
      | none => rw [q] at e; cases e
      | some c => rw [q] at e; cases e; exact absurd rfl (hk c)
  have lt : ∀ {j : Nat} {k : Kd}, W[j]? = some k → j < S.length := fun h => by
    rw [← hw]
    exact (List.getElem?_eq_some_iff.mp h).1
  refine ⟨fun j k e _ => by rw [List.getElem?_append_left (by rw [hw]; exact lt e)]; exact e, ⟨by simp; omega, fun j ds e => ?_, fun j c e => ?_, fun j e => ?_, fun j e => ?_⟩, Nat.le_refl _, Nat.le_add_right _ _, fun j e => ⟨g.st j (lt e), .inl (by rw [List.getElem?_append_left (by rw [hw]; exact lt e)]; exact e)⟩, hg⟩
  · obtain ⟨h1, h2⟩ := old e fun _ z => nomatch z
    rw [g.st j h2]
    exact w.fz j ds h1
  · by_cases hj : j < W.length
    · rw [List.getElem?_append_left hj] at e
      rw [g.st j (by omega)]
      exact w.sc j c e
    · rw [List.getElem?_append_right (by omega), List.getElem?_map, List.getElem?_drop] at e
      rw [show S.length + (j - W.length) = j by omega] at e
      cases q : S'[j]? with
      | none => rw [q] at e; cases e
      | some x => rw [q] at e; cases e; rfl
  · obtain ⟨h1, h2⟩ := old e fun _ z => nomatch z
    rw [g.st j h2]
    exact w.dk j h1
  · obtain ⟨h1, h2⟩ := old e fun _ z => nomatch z
    rw [g.st j h2]
    exact w.ow j h1
theorem callT_of {p : Prm} {P : Nat → Option FD} {n f : Nat} {ts : List Ty2} {u : Ty2} {c : Nat} (hF : PlOk p) (hp : pureTs ts = true) (hf : flatT u = true)
    (h : ∀ ps, HasPvs p ts ps → ∃ q, evPF true P n f ps = some q ∧ HasPv p u q) : CallT p P n f ts u c := by
  intro ds W S t hd w hc
  obtain ⟨ps, h1, h2⟩ := HasTys.pv hF hp hd
  obtain ⟨y, h3, h4⟩ := h ps h1
  rcases evPF_ok (g := true) (P := P) n f ps y h3 (pwOf W) S ds (pwOf_ok w) h2.vrs with ⟨d', S2, e1, W2, g2, v2⟩ | ⟨z, _⟩
  · refine ⟨d', S2, _, t, e1, go_of w g2, Val.of (HasPv.ty hf h4 v2), fun ho => ?_⟩
    exfalso
    cases hu : u <;> rw [hu] at ho hf <;> first
      | (cases ho; done)
      | (simp [flatT] at hf; done)
  · cases z
def lawY (p : Prm) (P : Nat → Option FD) (L : List Dc) (R : List Rf) (hand : Hd) (n f : Nat) : Bool := match P f with
  | some fd => match inF p (sgD p L R hand n) fd [.scr 0 63] with
    | some (.bc true, c) => decide (c ≤ TM)
    | _ => false
  | none => false
/-- THE END: a law by its types -/
theorem spec_of {p : Prm} {P : Nat → Option FD} {L : List Dc} {R : List Rf} {hand : Hd} (T : TbOk p P L R hand) {n f : Nat} (hy : lawY p P L R hand n f = true) (ns : List Int) (h : ns.length ≤ 63) : ∃ S', evF P (n + 1) f [.ref 0] (scr ns) = .ok (.bl true) S' := by
  have w : ∀ t, WF p t [.sc (.fro (ns.map .int))] (scr ns) := fun t => by
    refine ⟨rfl, fun j ds e => ?_, fun j ds e => ?_, fun j e => ?_, fun j e => ?_⟩
    · cases j with
      | zero => cases e
      | succ j => cases e
    · cases j with
      | zero => cases e; rfl
      | succ j => cases e
    · cases j with
      | zero => cases e
      | succ j => cases e
    · cases j with
      | zero => cases e
      | succ j => cases e
  have hd : HasTys p [.sc (.fro (ns.map .int))] [.scr 0 63] [.ref 0] := by
    simp only [HasTys, HasTy]
    exact ⟨_, _, rfl, ⟨0, ns.map .int, rfl, rfl, Nat.zero_le _, by rw [List.length_map]; exact h, fun x hx => by
      obtain ⟨i, _, rfl⟩ := List.mem_map.mp hx
      exact ⟨i, rfl⟩⟩, rfl⟩
  unfold lawY at hy
  split at hy
  · rename_i fd q1
    split at hy
    · rename_i c q2
      have hc := of_decide_eq_true hy
      obtain ⟨d, S', W', t', e, _, va, _⟩ := inF_ok T.x (sgD_ok T n n (Nat.le_refl _)) q2 hd (w 0) (by omega)
      have va : HasTy p W' (.bc true) d := va
      simp only [HasTy] at va
      subst va
      exact ⟨S', by rw [evF, q1]; exact e⟩
    · cases hy
  · cases hy
/-! ### the greatest divisor -/
theorem gcdP {c : PFr → Option Pv} {b : PFr → Option (PFl × PFr)} {E : Int → Int → PFr} (hc : ∀ (x y : Nat), c (E x y) = some (.bl (decide (0 < y)))) (hb : ∀ (x y : Nat), 0 < y → b (E x y) = some (.nx, E y ((x % y : Nat) : Int))) :
    ∀ (y x : Nat), ∃ n, pWhN c b n (E x y) = some (.nx, E (Nat.gcd x y) 0) := by
  intro y
  induction y using Nat.strongRecOn with
  | _ y ih =>
    intro x
    by_cases hy : 0 < y
    · obtain ⟨n, hn⟩ := ih (x % y) (Nat.mod_lt _ hy) y
      refine ⟨n + 1, ?_⟩
      rw [pWhN, hc, decide_eq_true hy]
      dsimp only
      rw [hb x y hy]
      dsimp only
      rw [hn, show Nat.gcd y (x % y) = Nat.gcd x y by rw [Nat.gcd_comm x y, Nat.gcd_rec y x, Nat.gcd_comm]]
    · have : y = 0 := by omega
      subst this
      refine ⟨1, ?_⟩
      rw [pWhN, hc, decide_eq_false hy, Nat.gcd_zero_right]
      rfl
theorem gcdF {c : PFr → Option Pv} {b : PFr → Option (PFl × PFr)} {E : Int → Int → PFr} (hc : ∀ (x y : Nat), c (E x y) = some (.bl (decide (0 < y)))) (hb : ∀ (x y : Nat), 0 < y → b (E x y) = some (.nx, E y ((x % y : Nat) : Int))) (x y : Nat) :
    pWhF c b (E x y) = some (.nx, E (Nat.gcd x y) 0) := by
  obtain ⟨n, h⟩ := gcdP hc hb y x
  exact pWhF_of h
theorem ab_abs (z : Int) : (if z < 0 then -z else z) = (z.natAbs : Int) := by split <;> omega
/-- a worth -/
def wo (x y : Int) : Pv := .tup [.int x, .int y]
/-- in lowest terms -/
def lo (x y : Int) : Pv := .tup [.int (nX x y), .int (nY x y)]
theorem pInt_eq (i j : Int) : PyData.eqv (.int i) (.int j) = decide (i = j) := by rw [PyData.eqv]; simp [BEq.beq]
/-! typed values taken apart -/
section
variable {p : Prm} {q : Pv} {ps : List Pv} {t u v w x : Ty2}
theorem pvs1 (h : HasPvs p [t] ps) : ∃ a, ps = [a] ∧ HasPv p t a := by
  rw [HasPvs] at h
  obtain ⟨a, _, rfl, ha, h⟩ := h
  rw [HasPvs] at h
  subst h
  exact ⟨a, rfl, ha⟩
theorem pvs2 (h : HasPvs p [t, u] ps) : ∃ a b, ps = [a, b] ∧ HasPv p t a ∧ HasPv p u b := by
  rw [HasPvs] at h
  obtain ⟨a, _, rfl, ha, h⟩ := h
  obtain ⟨b, rfl, hb⟩ := pvs1 h
  exact ⟨a, b, rfl, ha, hb⟩
theorem pvs3 (h : HasPvs p [t, u, v] ps) : ∃ a b c, ps = [a, b, c] ∧ HasPv p t a ∧ HasPv p u b ∧ HasPv p v c := by
  rw [HasPvs] at h
  obtain ⟨a, _, rfl, ha, h⟩ := h
  obtain ⟨b, c, rfl, hb⟩ := pvs2 h
  exact ⟨a, b, c, rfl, ha, hb⟩
theorem pvs4 (h : HasPvs p [t, u, v, w] ps) : ∃ a b c d, ps = [a, b, c, d] ∧ HasPv p t a ∧ HasPv p u b ∧ HasPv p v c ∧ HasPv p w d := by
  rw [HasPvs] at h
  obtain ⟨a, _, rfl, ha, h⟩ := h
  obtain ⟨b, c, d, rfl, hb⟩ := pvs3 h
  exact ⟨a, b, c, d, rfl, ha, hb⟩
theorem tup2 (h : HasPv p (.tup [t, u]) q) : ∃ a b, q = .tup [a, b] ∧ HasPv p t a ∧ HasPv p u b := by
  rw [HasPv] at h
  obtain ⟨ps, rfl, h⟩ := h
  obtain ⟨a, b, rfl, k⟩ := pvs2 h
  exact ⟨a, b, rfl, k⟩
theorem tup3 (h : HasPv p (.tup [t, u, v]) q) : ∃ a b c, q = .tup [a, b, c] ∧ HasPv p t a ∧ HasPv p u b ∧ HasPv p v c := by
  rw [HasPv] at h
  obtain ⟨ps, rfl, h⟩ := h
  obtain ⟨a, b, c, rfl, k⟩ := pvs3 h
  exact ⟨a, b, c, rfl, k⟩
theorem tup4 (h : HasPv p (.tup [t, u, v, w]) q) : ∃ a b c d, q = .tup [a, b, c, d] ∧ HasPv p t a ∧ HasPv p u b ∧ HasPv p v c ∧ HasPv p w d := by
  rw [HasPv] at h
  obtain ⟨ps, rfl, h⟩ := h
  obtain ⟨a, b, c, d, rfl, k⟩ := pvs4 h
  exact ⟨a, b, c, d, rfl, k⟩
theorem int1 {a b : Int} (h : HasPv p (.int a b) q) : ∃ i, q = .int i ∧ a ≤ i ∧ i ≤ b := by
  rw [HasPv] at h
  exact h
theorem int2 {a b c d : Int} (h : HasPv p (.tup [.int a b, .int c d]) q) : ∃ x y, q = wo x y ∧ a ≤ x ∧ x ≤ b ∧ c ≤ y ∧ y ≤ d := by
  obtain ⟨_, _, rfl, h1, h2⟩ := tup2 h
  obtain ⟨x, rfl, x1, x2⟩ := int1 h1
  obtain ⟨y, rfl, y1, y2⟩ := int1 h2
  exact ⟨x, y, rfl, x1, x2, y1, y2⟩
end
end Ev
namespace Ev
open PySem PySem.Spec PyProof.Rows
/-! ### worths: the plain law -/
theorem mpos {a b : Int} (h1 : 1 ≤ a) (h2 : 1 ≤ b) : 1 ≤ a * b := by
  have := Int.mul_pos (show 0 < a by omega) (show 0 < b by omega)
  omega
theorem cancel {a b m : Int} (hm : 1 ≤ m) (h : a * m = b * m) : a = b := Int.eq_of_mul_eq_mul_right (by omega) h
theorem lo_eq {x y x' y' : Int} (hy : 1 ≤ y) (hy' : 1 ≤ y') (h : x * y' = x' * y) : lo x y = lo x' y' := by
  obtain ⟨k1, k2⟩ := nrm_eq hy hy' h
  unfold lo
  rw [k1, k2]
theorem lo_wo (x y : Int) : lo x y = wo (nX x y) (nY x y) := rfl
/-- one in lowest terms is itself -/
theorem low_self {x y : Int} (hy : 1 ≤ y) (hg : Int.gcd x y = 1) : nX x y = x ∧ nY x y = y := by
  unfold nX nY
  rw [hg]
  exact ⟨Int.ediv_one x, Int.ediv_one y⟩
/-- so far ahead, or aside, in whole numbers -/
def aR (px qx x qy : Int) : Int := px * qy - x * qx * qy
def ahN (x y a b px qx py qy : Int) : Int := a * (px * qy - x * qx * qy) + b * (py * qx - y * qx * qy)
def asN (x y a b px qx py qy : Int) : Int := a * (py * qx - y * qx * qy) - b * (px * qy - x * qx * qy)
theorem side1 {k p x q : Int} (hq : 1 ≤ q) : nX (k * nX (p * 1 - x * q) (q * 1)) (1 * nY (p * 1 - x * q) (q * 1)) * q = k * (p - x * q) * nY (k * nX (p * 1 - x * q) (q * 1)) (1 * nY (p * 1 - x * q) (q * 1)) ∧ 1 ≤ nY (k * nX (p * 1 - x * q) (q * 1)) (1 * nY (p * 1 - x * q) (q * 1)) := by
  have q1 : 1 ≤ q * 1 := by omega
  have p3 : 1 ≤ nY (p * 1 - x * q) (q * 1) := nY_pos q1
  have p3' : 1 ≤ 1 * nY (p * 1 - x * q) (q * 1) := by omega
  have v1 : nX (p * 1 - x * q) (q * 1) * (q * 1) = (p * 1 - x * q) * nY (p * 1 - x * q) (q * 1) := n_val q1
  have v2 := n_val (x := k * nX (p * 1 - x * q) (q * 1)) p3'
  refine ⟨?_, nY_pos p3'⟩
  generalize nX (k * nX (p * 1 - x * q) (q * 1)) (1 * nY (p * 1 - x * q) (q * 1)) = t0 at *
  generalize nY (k * nX (p * 1 - x * q) (q * 1)) (1 * nY (p * 1 - x * q) (q * 1)) = t1 at *
  generalize nX (p * 1 - x * q) (q * 1) = r0 at *
  generalize nY (p * 1 - x * q) (q * 1) = r1 at *
  refine cancel p3 ?_
  grind
theorem ahead_lo {x y a b px qx py qy : Int} (h1 : 1 ≤ qx) (h2 : 1 ≤ qy) :
    lo (nX (a * nX (px * 1 - x * qx) (qx * 1)) (1 * nY (px * 1 - x * qx) (qx * 1)) * nY (b * nX (py * 1 - y * qy) (qy * 1)) (1 * nY (py * 1 - y * qy) (qy * 1)) + nX (b * nX (py * 1 - y * qy) (qy * 1)) (1 * nY (py * 1 - y * qy) (qy * 1)) * nY (a * nX (px * 1 - x * qx) (qx * 1)) (1 * nY (px * 1 - x * qx) (qx * 1))) (nY (a * nX (px * 1 - x * qx) (qx * 1)) (1 * nY (px * 1 - x * qx) (qx * 1)) * nY (b * nX (py * 1 - y * qy) (qy * 1)) (1 * nY (py * 1 - y * qy) (qy * 1))) =
      lo (ahN x y a b px qx py qy) (qx * qy) := by
  obtain ⟨e1, p1⟩ := side1 (k := a) (p := px) (x := x) h1
  obtain ⟨e2, p2⟩ := side1 (k := b) (p := py) (x := y) h2
  generalize nX (a * nX (px * 1 - x * qx) (qx * 1)) (1 * nY (px * 1 - x * qx) (qx * 1)) = t0 at *
  generalize nY (a * nX (px * 1 - x * qx) (qx * 1)) (1 * nY (px * 1 - x * qx) (qx * 1)) = t1 at *
  generalize nX (b * nX (py * 1 - y * qy) (qy * 1)) (1 * nY (py * 1 - y * qy) (qy * 1)) = u0 at *
  generalize nY (b * nX (py * 1 - y * qy) (qy * 1)) (1 * nY (py * 1 - y * qy) (qy * 1)) = u1 at *
  exact lo_eq (mpos p1 p2) (mpos h1 h2) (by unfold ahN; grind)
theorem aside_lo {x y a b px qx py qy : Int} (h1 : 1 ≤ qx) (h2 : 1 ≤ qy) :
    lo (nX (a * nX (py * 1 - y * qy) (qy * 1)) (1 * nY (py * 1 - y * qy) (qy * 1)) * nY (b * nX (px * 1 - x * qx) (qx * 1)) (1 * nY (px * 1 - x * qx) (qx * 1)) - nX (b * nX (px * 1 - x * qx) (qx * 1)) (1 * nY (px * 1 - x * qx) (qx * 1)) * nY (a * nX (py * 1 - y * qy) (qy * 1)) (1 * nY (py * 1 - y * qy) (qy * 1))) (nY (a * nX (py * 1 - y * qy) (qy * 1)) (1 * nY (py * 1 - y * qy) (qy * 1)) * nY (b * nX (px * 1 - x * qx) (qx * 1)) (1 * nY (px * 1 - x * qx) (qx * 1))) =
      lo (asN x y a b px qx py qy) (qx * qy) := by
  obtain ⟨e1, p1⟩ := side1 (k := a) (p := py) (x := y) h2
  obtain ⟨e2, p2⟩ := side1 (k := b) (p := px) (x := x) h1
  generalize nX (a * nX (py * 1 - y * qy) (qy * 1)) (1 * nY (py * 1 - y * qy) (qy * 1)) = t0 at *
  generalize nY (a * nX (py * 1 - y * qy) (qy * 1)) (1 * nY (py * 1 - y * qy) (qy * 1)) = t1 at *
  generalize nX (b * nX (px * 1 - x * qx) (qx * 1)) (1 * nY (px * 1 - x * qx) (qx * 1)) = u0 at *
  generalize nY (b * nX (px * 1 - x * qx) (qx * 1)) (1 * nY (px * 1 - x * qx) (qx * 1)) = u1 at *
  exact lo_eq (mpos p1 p2) (mpos h1 h2) (by unfold asN; grind)
theorem ab_nat2 (z : Int) : ((z.natAbs : Nat) : Int) = if z < 0 then -z else z := by split <;> omega
/-- |x| / y in lowest terms -/
theorem abs_low {x y : Int} (hy : 1 ≤ y) : ((nX x y).natAbs : Int) * y = (x.natAbs : Int) * nY x y := by
  have h := n_val (x := x) hy
  have p := nY_pos (x := x) hy
  have := congrArg Int.natAbs h
  rw [Int.natAbs_mul, Int.natAbs_mul] at this
  have e1 : (y.natAbs : Int) = y := by omega
  have e2 : ((nY x y).natAbs : Int) = nY x y := by omega
  have k : ((nX x y).natAbs : Int) * (y.natAbs : Int) = (x.natAbs : Int) * ((nY x y).natAbs : Int) := by exact_mod_cast this
  rw [e1, e2] at k
  exact k
/-- less, crosswise, of numbers of the same value -/
theorem less_low {a b c d x y u v : Int} (hb : 1 ≤ b) (hd : 1 ≤ d) (hy : 1 ≤ y) (hv : 1 ≤ v) (h1 : a * y = x * b) (h2 : c * v = u * d) : (a * d < c * b) ↔ (x * v < u * y) := by
  have k1 : a * d * (y * v) = x * v * (b * d) := by grind
  have k2 : c * b * (y * v) = u * y * (b * d) := by grind
  have p1 := mpos hy hv
  have p2 := mpos hb hd
  constructor
  · intro h
    have := Int.mul_lt_mul_of_pos_right h (show 0 < y * v by omega)
    rw [k1, k2] at this
    exact Int.lt_of_mul_lt_mul_right this (by omega)
  · intro h
    have := Int.mul_lt_mul_of_pos_right h (show 0 < b * d by omega)
    rw [← k1, ← k2] at this
    exact Int.lt_of_mul_lt_mul_right this (by omega)
/-- whether a point is seen, in whole numbers -/
def seenB (x y a b s t px qx py qy : Int) : Bool := !decide (ahN x y a b px qx py qy < qx * qy) && !decide (s * ahN x y a b px qx py qy < ((asN x y a b px qx py qy).natAbs : Int) * t)
theorem seen_1 {x y a b px qx py qy : Int} (h1 : 1 ≤ qx) (h2 : 1 ≤ qy) : (nX (ahN x y a b px qx py qy) (qx * qy) * 1 < 1 * nY (ahN x y a b px qx py qy) (qx * qy)) ↔ (ahN x y a b px qx py qy < qx * qy) := by
  have hq := mpos h1 h2
  have := less_low (a := nX (ahN x y a b px qx py qy) (qx * qy)) (b := nY (ahN x y a b px qx py qy) (qx * qy)) (c := 1) (d := 1) (x := ahN x y a b px qx py qy) (y := qx * qy) (u := 1) (v := 1) (nY_pos hq) (by omega) hq (by omega) (n_val hq) rfl
  rw [this]
  constructor <;> intro h <;> omega
theorem seen_2 {s t A B q : Int} (ht : 1 ≤ t) (hq : 1 ≤ q) : (nX (s * nX A q) (t * nY A q) * nY B q < ((nX B q).natAbs : Int) * nY (s * nX A q) (t * nY A q)) ↔ (s * A < (B.natAbs : Int) * t) := by
  have pa := nY_pos (x := A) hq
  have pt := mpos ht pa
  have v1 := n_val (x := s * nX A q) pt
  have v0 := n_val (x := A) hq
  have vb := abs_low (x := B) hq
  have p1 := nY_pos (x := s * nX A q) pt
  have p2 := nY_pos (x := B) hq
  have e1 : nX (s * nX A q) (t * nY A q) * (t * q) = (s * A) * nY (s * nX A q) (t * nY A q) := by
    generalize nX (s * nX A q) (t * nY A q) = c1 at *
    generalize nY (s * nX A q) (t * nY A q) = c2 at *
    generalize nX A q = a1 at *
    generalize nY A q = a2 at *
    refine cancel pa ?_
    grind
  have := less_low (a := nX (s * nX A q) (t * nY A q)) (b := nY (s * nX A q) (t * nY A q)) (c := ((nX B q).natAbs : Int)) (d := nY B q) (x := s * A) (y := t * q) (u := (B.natAbs : Int)) (v := q) p1 p2 (mpos ht hq) hq e1 vb
  rw [this]
  constructor
  · intro h
    have h : s * A * q < (B.natAbs : Int) * t * q := by rw [Int.mul_assoc (B.natAbs : Int) t q]; exact h
    exact Int.lt_of_mul_lt_mul_right h (by omega)
  · intro h
    have := Int.mul_lt_mul_of_pos_right h (show 0 < q by omega)
    rw [Int.mul_assoc (B.natAbs : Int) t q] at this
    exact this
/-- .. by the ratio alone -/
theorem seen_ratio {A B q A' B' q' s t : Int} (ht : 1 ≤ t) (hq : 1 ≤ q) (hq' : 1 ≤ q') (h1 : A' * q = A * q') (h2 : (B'.natAbs : Int) * q = (B.natAbs : Int) * q') : (!decide (A' < q') && !decide (s * A' < (B'.natAbs : Int) * t)) = (!decide (A < q) && !decide (s * A < (B.natAbs : Int) * t)) := by
  have e1 : (A' < q') ↔ (A < q) := by
    constructor
    · intro h
      have := Int.mul_lt_mul_of_pos_right h (show 0 < q by omega)
      rw [h1, Int.mul_comm q' q] at this
      exact Int.lt_of_mul_lt_mul_right this (by omega)
    · intro h
      have := Int.mul_lt_mul_of_pos_right h (show 0 < q' by omega)
      rw [← h1, Int.mul_comm q q'] at this
      exact Int.lt_of_mul_lt_mul_right this (by omega)
  have e2 : (s * A' < (B'.natAbs : Int) * t) ↔ (s * A < (B.natAbs : Int) * t) := by
    have k1 : s * A' * q = s * A * q' := by rw [Int.mul_assoc, h1, ← Int.mul_assoc]
    have k2 : (B'.natAbs : Int) * t * q = (B.natAbs : Int) * t * q' := by
      rw [Int.mul_assoc, Int.mul_comm t q, ← Int.mul_assoc, h2, Int.mul_assoc, Int.mul_comm q' t, ← Int.mul_assoc]
    constructor
    · intro h
      have := Int.mul_lt_mul_of_pos_right h (show 0 < q by omega)
      rw [k1, k2] at this
      exact Int.lt_of_mul_lt_mul_right this (by omega)
    · intro h
      have := Int.mul_lt_mul_of_pos_right h (show 0 < q' by omega)
      rw [← k1, ← k2] at this
      exact Int.lt_of_mul_lt_mul_right this (by omega)
  rw [decide_eq_decide.mpr e1, decide_eq_decide.mpr e2]
theorem abs_ratio {B q B' q' : Int} (hq : 1 ≤ q) (hq' : 1 ≤ q') (h : B' * q = B * q' ∨ B' * q = -B * q') : (B'.natAbs : Int) * q = (B.natAbs : Int) * q' := by
  have e1 : (q.natAbs : Int) = q := by omega
  have e2 : (q'.natAbs : Int) = q' := by omega
  have key : ∀ X : Int, B' * q = X * q' → (B'.natAbs : Int) * q = (X.natAbs : Int) * q' := fun X h => by
    have := congrArg Int.natAbs h
    rw [Int.natAbs_mul, Int.natAbs_mul] at this
    have k : (B'.natAbs : Int) * (q.natAbs : Int) = (X.natAbs : Int) * (q'.natAbs : Int) := by exact_mod_cast this
    rw [e1, e2] at k
    exact k
  rcases h with h | h
  · exact key B h
  · have := key (-B) h
    rw [Int.natAbs_neg] at this
    exact this
theorem lo_neg {x y : Int} : lo (-x) y = .tup [.int (0 - nX x y), .int (nY x y)] := by
  unfold lo nX nY
  have g : Int.gcd (-x) y = Int.gcd x y := Int.neg_gcd
  rw [g, Int.neg_ediv_of_dvd (Int.gcd_dvd_left x y), Int.zero_sub]
/-- the law's own words for it -/
theorem seen_own {A B q s t : Int} : (decide (q ≤ A) && decide (t * (B.natAbs : Int) ≤ s * A)) = (!decide (A < q) && !decide (s * A < (B.natAbs : Int) * t)) := by
  have e1 : decide (q ≤ A) = !decide (A < q) := by
    rw [← decide_not]
    exact decide_eq_decide.mpr (by omega)
  have e2 : decide (t * (B.natAbs : Int) ≤ s * A) = !decide (s * A < (B.natAbs : Int) * t) := by
    rw [← decide_not, Int.mul_comm t]
    exact decide_eq_decide.mpr (by omega)
  rw [e1, e2]
/-- in the box -/
def inC (p q w : Int) : Bool := decide (0 ≤ p) && decide (p ≤ w * q)
theorem in_same {p q w : Int} : (!decide (p * 1 < 0 * q) && !decide (w * q < p * 1)) = inC p q w := by
  unfold inC
  rw [Int.mul_one, Int.zero_mul]
  by_cases h1 : p < 0
  · rw [decide_eq_true h1, decide_eq_false (show ¬ 0 ≤ p by omega)]; rfl
  · rw [decide_eq_false h1, decide_eq_true (show 0 ≤ p by omega)]
    by_cases h2 : w * q < p
    · rw [decide_eq_true h2, decide_eq_false (show ¬ p ≤ w * q by omega)] <;> rfl
    · rw [decide_eq_false h2, decide_eq_true (show p ≤ w * q by omega)] <;> rfl
/-! sightings -/
def encS (x y a b s t : Int) : Pv := .tup [wo x y, wo a b, wo s t]
def encP (px qx py qy : Int) : Pv := .tup [wo px qx, wo py qy]
/-- in the box, by the number itself or its lowest form -/
theorem inC_ratio {p q p' q' w : Int} (hq : 1 ≤ q) (hq' : 1 ≤ q') (h : p' * q = p * q') : inC p' q' w = inC p q w := by
  unfold inC
  have e1 : (0 ≤ p') ↔ (0 ≤ p) := by
    constructor
    · intro k
      have := Int.mul_nonneg k (show 0 ≤ q by omega)
      rw [h] at this
      by_cases hp : 0 ≤ p
      · exact hp
      · have := Int.mul_neg_of_neg_of_pos (show p < 0 by omega) (show 0 < q' by omega)
        omega
    · intro k
      have := Int.mul_nonneg k (show 0 ≤ q' by omega)
      rw [← h] at this
      by_cases hp : 0 ≤ p'
      · exact hp
      · have := Int.mul_neg_of_neg_of_pos (show p' < 0 by omega) (show 0 < q by omega)
        omega
  have e2 : (p' ≤ w * q') ↔ (p ≤ w * q) := by
    constructor
    · intro k
      have := Int.mul_le_mul_of_nonneg_right k (show 0 ≤ q by omega)
      rw [h, Int.mul_assoc, Int.mul_comm q' q, ← Int.mul_assoc] at this
      exact Int.le_of_mul_le_mul_right this (by omega)
    · intro k
      have := Int.mul_le_mul_of_nonneg_right k (show 0 ≤ q' by omega)
      rw [← h, Int.mul_assoc, Int.mul_comm q q', ← Int.mul_assoc] at this
      exact Int.le_of_mul_le_mul_right this (by omega)
  rw [decide_eq_decide.mpr e1, decide_eq_decide.mpr e2]
/-- turned over -/
theorem inC_flip {p q w : Int} (hq : 1 ≤ q) : inC (w * q - p) q w = inC p q w := by
  unfold inC
  rw [decide_eq_decide.mpr (show (0 ≤ w * q - p) ↔ (p ≤ w * q) by omega), decide_eq_decide.mpr (show (w * q - p ≤ w * q) ↔ (0 ≤ p) by omega), Bool.and_comm]
end Ev
namespace Ev
open PySem PySem.Spec PyProof.Rows L2
/-! ### walks over lists of any length -/
section
variable {tgt : Pv → PFr → Option PFr} {cond elt : PFr → Option Pv} {env : PFr}
theorem lcP_filter {f : Pv → Bool} : ∀ {ps : List Pv}, (∀ p ∈ ps, ∃ e2, tgt p env = some e2 ∧ cond e2 = some (.bl (f p)) ∧ elt e2 = some p) → lcP tgt cond elt env ps = some (ps.filter f)
  | [], _ => rfl
  | p :: ps, h => by
    obtain ⟨e2, h1, h2, h3⟩ := h p List.mem_cons_self
    have ih := lcP_filter (f := f) (ps := ps) fun q hq => h q (List.mem_cons_of_mem _ hq)
    rw [lcP_c, h1, Option.bind_some, h2, h3, ih]
    cases hf : f p
    · rw [List.filter_cons_of_neg (by rw [hf]; exact Bool.false_ne_true)]
      rfl
    · rw [List.filter_cons_of_pos hf]
      rfl
theorem lcP_each {f : Pv → Pv} : ∀ {ps : List Pv}, (∀ p ∈ ps, ∃ e2, tgt p env = some e2 ∧ cond e2 = some (.bl true) ∧ elt e2 = some (f p)) → lcP tgt cond elt env ps = some (ps.map f)
  | [], _ => rfl
  | p :: ps, h => by
    obtain ⟨e2, h1, h2, h3⟩ := h p List.mem_cons_self
    have ih := lcP_each (f := f) (ps := ps) fun q hq => h q (List.mem_cons_of_mem _ hq)
    rw [lcP_c, h1, Option.bind_some, h2, h3, ih]
    rfl
variable {b : PFr → Option (PFl × PFr)}
/-- each turn falls through -/
theorem loopP_all {I : PFr → Prop} : ∀ {ps : List Pv} {env : PFr}, I env → (∀ p ∈ ps, ∀ env, I env → ∃ e1 e2, tgt p env = some e1 ∧ b e1 = some (.nx, e2) ∧ I e2) → ∃ e, loopP tgt b ps env = some (.nx, e) ∧ I e
  | [], env, i, _ => ⟨env, rfl, i⟩
  | p :: ps, env, i, h => by
    obtain ⟨e1, e2, h1, h2, i2⟩ := h p List.mem_cons_self env i
    obtain ⟨e, h3, i3⟩ := loopP_all i2 fun q hq => h q (List.mem_cons_of_mem _ hq)
    exact ⟨e, by rw [loopP_cons, h1, Option.bind_some, h2, nextL_nx, h3], i3⟩
/-- a turn answers q, or falls through -/
theorem loopP_ret {I : PFr → Prop} {f : Pv → Bool} {q : Pv} : ∀ {ps : List Pv} {env : PFr}, I env → (∀ p ∈ ps, ∀ env, I env → ∃ e1 e2, tgt p env = some e1 ∧ b e1 = some (if f p = true then .rt q else .nx, e2) ∧ I e2) → ∃ e, loopP tgt b ps env = some (if ps.any f = true then .rt q else .nx, e) ∧ I e
  | [], env, i, _ => ⟨env, rfl, i⟩
  | p :: ps, env, i, h => by
    obtain ⟨e1, e2, h1, h2, i2⟩ := h p List.mem_cons_self env i
    rw [List.any_cons]
    cases hf : f p
    · rw [hf, if_neg Bool.false_ne_true] at h2
      obtain ⟨e, h3, i3⟩ := loopP_ret (f := f) (q := q) i2 fun q hq => h q (List.mem_cons_of_mem _ hq)
      exact ⟨e, by rw [loopP_cons, h1, Option.bind_some, h2, nextL_nx, h3, Bool.false_or], i3⟩
    · rw [hf, if_pos rfl] at h2
      exact ⟨e2, by rw [loopP_cons, h1, Option.bind_some, h2, nextL_rt, Bool.true_or, if_pos rfl], i2⟩
end
theorem pBls_map {α : Type} {f : α → Bool} : ∀ ps : List α, pBls (ps.map fun x => Pv.bl (f x)) = some (ps.map f)
  | [] => rfl
  | p :: ps => by
    rw [List.map_cons, pBls, pBls_map ps]
    rfl
theorem toPDs_nil : ∀ {ps : List Pv}, toPDs ps = [] → ps = []
  | [], _ => rfl
  | p :: ps, h => by rw [toPDs] at h; cases h
/-- l == [] -/
theorem pEq_nil {g : Bool} {ps : List Pv} (hg : g = false) : pEq g (.lst ps) (.lst []) = some (.bl ps.isEmpty) := by
  subst hg
  show some (Pv.bl (PyData.eqv (toPD (.lst ps)) (toPD (.lst [])))) = _
  rw [toPD, toPD, toPDs]
  cases ps with
  | nil => rw [toPDs, PyData.eqv]; rfl
  | cons p ps => rw [toPDs, PyData.eqv]; rfl
theorem pEq_niT {g : Bool} {ps : List Pv} (hg : g = false) : pEq g (.tup ps) (.tup []) = some (.bl ps.isEmpty) := by
  subst hg
  show some (Pv.bl (PyData.eqv (toPD (.tup ps)) (toPD (.tup [])))) = _
  rw [toPD, toPD, toPDs]
  cases ps with
  | nil => rw [toPDs, PyData.eqv]; rfl
  | cons p ps => rw [toPDs, PyData.eqv]; rfl
theorem isEmpty_filter {α : Type} {f : α → Bool} : ∀ ps : List α, (ps.filter f).isEmpty = !ps.any f
  | [] => rfl
  | p :: ps => by
    rw [List.any_cons]
    cases hf : f p
    · rw [List.filter_cons_of_neg (by rw [hf]; exact Bool.false_ne_true), isEmpty_filter ps, Bool.false_or]
    · rw [List.filter_cons_of_pos hf]; rfl
/-! ### sightings and points as plain values -/
def SigV (q : Pv) : Prop := ∃ x y a b s t : Int, q = encS x y a b s t ∧ 1 ≤ t
def PtV (q : Pv) : Prop := ∃ px qx py qy : Int, q = encP px qx py qy ∧ 1 ≤ qx ∧ 1 ≤ qy
def seenV : Pv → Pv → Bool
  | .tup [.tup [.int x, .int y], .tup [.int a, .int b], .tup [.int s, .int t]], .tup [.tup [.int px, .int qx], .tup [.int py, .int qy]] => seenB x y a b s t px qx py qy
  | _, _ => false
theorem seenV_enc {x y a b s t px qx py qy : Int} : seenV (encS x y a b s t) (encP px qx py qy) = seenB x y a b s t px qx py qy := rfl
/-- each sighting sees one of the points -/
def trueV (ls ts : List Pv) : Bool := ls.all fun s => ts.any fun p => seenV s p
/-! a plain value of a flat type has a datum -/
section
variable {p : Prm}
theorem dPvs_all {f : D → Prop} : ∀ {ps : List Pv}, (∀ x ∈ ps, ∃ d, dPv d = some x) → ∃ ds, dPvs ds = some ps
  | [], _ => ⟨[], rfl⟩
  | x :: ps, h => by
    obtain ⟨d, h1⟩ := h x List.mem_cons_self
    obtain ⟨ds, h2⟩ := dPvs_all (f := f) (ps := ps) fun y hy => h y (List.mem_cons_of_mem _ hy)
    exact ⟨d :: ds, by rw [dPvs, h1, h2]⟩
mutual
theorem HasPv.dp : ∀ {t : Ty2} {q : Pv}, flatT t = true → HasPv p t q → ∃ d, dPv d = some q
  | .bot, _, _, h => by simp only [HasPv] at h
  | .int _ _, _, _, h => by simp only [HasPv] at h; obtain ⟨i, rfl, _⟩ := h; exact ⟨.int i, by rw [dPv]⟩
  | .intA, _, _, h => by simp only [HasPv] at h; obtain ⟨i, rfl⟩ := h; exact ⟨.int i, by rw [dPv]⟩
  | .bl, _, _, h => by simp only [HasPv] at h; obtain ⟨i, rfl⟩ := h; exact ⟨.bl i, by rw [dPv]⟩
  | .bc b, _, _, h => by simp only [HasPv] at h; subst h; exact ⟨.bl b, by rw [dPv]⟩
  | .non, _, _, h => by simp only [HasPv] at h; subst h; exact ⟨.non, by rw [dPv]⟩
  | .str _ _, _, _, h => by simp only [HasPv] at h; obtain ⟨x, rfl, _⟩ := h; exact ⟨.str x, by rw [dPv]⟩
  | .tup ts, _, k, h => by
    simp only [HasPv] at h
    obtain ⟨ps, rfl, h⟩ := h
    rw [flatT] at k
    obtain ⟨ds, e⟩ := HasPvs.dp k h
    exact ⟨.tup ds, by rw [dPv, e]; rfl⟩
  | .seq t _ _, _, k, h => by
    simp only [HasPv] at h
    obtain ⟨ps, rfl, _, _, h⟩ := h
    rw [flatT] at k
    obtain ⟨ds, e⟩ := dPvs_all (f := fun _ => True) fun x hx => HasPv.dp k (h x hx)
    exact ⟨.tup ds, by rw [dPv, e]; rfl⟩
  | .lst _ _ _, _, k, _ => by rw [flatT] at k; cases k
  | .own _ _ _, _, k, _ => by rw [flatT] at k; cases k
  | .dk, _, k, _ => by rw [flatT] at k; cases k
  | .nm _, _, _, h => by simp only [HasPv] at h; obtain ⟨d, e, _⟩ := h; exact ⟨d, e⟩
  | .fnc i, _, _, h => by simp only [HasPv] at h; subst h; exact ⟨.fn i, by rw [dPv]⟩
  | .scr _ _, _, k, _ => by rw [flatT] at k; cases k
  | .txt, _, _, h => by simp only [HasPv] at h; obtain ⟨x, rfl⟩ := h; exact ⟨.str x, by rw [dPv]⟩
theorem HasPvs.dp : ∀ {ts : List Ty2} {ps : List Pv}, flatTs ts = true → HasPvs p ts ps → ∃ ds, dPvs ds = some ps
  | [], _, _, h => by simp only [HasPvs] at h; subst h; exact ⟨[], rfl⟩
  | t :: ts, _, k, h => by
    simp only [HasPvs] at h
    obtain ⟨x, xs, rfl, h1, h2⟩ := h
    rw [flatTs, Bool.and_eq_true] at k
    obtain ⟨d, e1⟩ := HasPv.dp k.1 h1
    obtain ⟨ds, e2⟩ := HasPvs.dp k.2 h2
    exact ⟨d :: ds, by rw [dPvs, e1, e2]⟩
end
end
end Ev
namespace Ev
open PySem PySem.Spec PyProof.Rows
namespace K30
def top (i : Nat) : Stmt := PySem.Challenge.pw_towerfires_k30_tales_that_make_true.main.body.getD i (.Pass ⟨0, 0, 0, 0⟩)
def cons : List (Str × D) := []
/-- divisor_of -/
def b0 : List St := [.set 0 (.blt .abs [.var 0]), .set 1 (.blt .abs [.var 1]), .whl (.cmp .ne (.var 1) (.int 0)) [.par2 0 1 (.var 1) (.bin .mod (.var 0) (.var 1))], .ret (.var 0)]
def f0 : Fn := ⟨"divisor_of", L2.defArgs (top 4), L2.defBody (top 4), L2.defScope (top 4), ["one", "other"], ["one", "other"], b0⟩
/-- worth_of -/
def b1 : List St := [.ife (.cmp .eq (.var 1) (.int 0)) [.raise 0] [], .set 2 (.call 0 [.var 0, .var 1]), .ife (.cmp .lt (.var 1) (.int 0)) [.set 2 (.bin .sub (.int 0) (.var 2))] [], .ret (.tup [.bin .div (.var 0) (.var 2), .bin .div (.var 1) (.var 2)])]
def f1 : Fn := ⟨"worth_of", L2.defArgs (top 5), L2.defBody (top 5), L2.defScope (top 5), ["top", "bottom"], ["top", "bottom", "by"], b1⟩
/-- summed -/
def b2 : List St := [.ret (.call 1 [.bin .add (.bin .mul (.ix (.var 0) (.int 0)) (.ix (.var 1) (.int 1))) (.bin .mul (.ix (.var 1) (.int 0)) (.ix (.var 0) (.int 1))), .bin .mul (.ix (.var 0) (.int 1)) (.ix (.var 1) (.int 1))])]
def f2 : Fn := ⟨"summed", L2.defArgs (top 6), L2.defBody (top 6), L2.defScope (top 6), ["one", "other"], ["one", "other"], b2⟩
/-- lessened -/
def b3 : List St := [.ret (.call 1 [.bin .sub (.bin .mul (.ix (.var 0) (.int 0)) (.ix (.var 1) (.int 1))) (.bin .mul (.ix (.var 1) (.int 0)) (.ix (.var 0) (.int 1))), .bin .mul (.ix (.var 0) (.int 1)) (.ix (.var 1) (.int 1))])]
def f3 : Fn := ⟨"lessened", L2.defArgs (top 7), L2.defBody (top 7), L2.defScope (top 7), ["one", "other"], ["one", "other"], b3⟩
/-- product_of -/
def b4 : List St := [.ret (.call 1 [.bin .mul (.ix (.var 0) (.int 0)) (.ix (.var 1) (.int 0)), .bin .mul (.ix (.var 0) (.int 1)) (.ix (.var 1) (.int 1))])]
def f4 : Fn := ⟨"product_of", L2.defArgs (top 8), L2.defBody (top 8), L2.defScope (top 8), ["one", "other"], ["one", "other"], b4⟩
/-- is_less -/
def b5 : List St := [.ret (.cmp .lt (.bin .mul (.ix (.var 0) (.int 0)) (.ix (.var 1) (.int 1))) (.bin .mul (.ix (.var 1) (.int 0)) (.ix (.var 0) (.int 1))))]
def f5 : Fn := ⟨"is_less", L2.defArgs (top 9), L2.defBody (top 9), L2.defScope (top 9), ["one", "other"], ["one", "other"], b5⟩
/-- times -/
def b6 : List St := [.ret (.call 4 [.tup [.var 0, .int 1], .var 1])]
def f6 : Fn := ⟨"times", L2.defArgs (top 11), L2.defBody (top 11), L2.defScope (top 11), ["number", "worth"], ["number", "worth"], b6⟩
/-- ahead_and_aside -/
def b7 : List St := [.asg (.tup [.tup [.nm 2, .nm 3], .tup [.nm 4, .nm 5], .nm 6]) (.var 0), .set 7 (.call 3 [.ix (.var 1) (.int 0), .tup [.var 2, .int 1]]), .set 8 (.call 3 [.ix (.var 1) (.int 1), .tup [.var 3, .int 1]]), .ret (.tup [.call 2 [.call 6 [.var 4, .var 7], .call 6 [.var 5, .var 8]], .call 3 [.call 6 [.var 4, .var 8], .call 6 [.var 5, .var 7]]])]
def f7 : Fn := ⟨"ahead_and_aside", L2.defArgs (top 12), L2.defBody (top 12), L2.defScope (top 12), ["sighting", "point"], ["sighting", "point", "x", "y", "a", "b", "slackness", "right", "up"], b7⟩
/-- sees -/
def b8 : List St := [.asg (.tup [.nm 2, .nm 3]) (.call 7 [.var 0, .var 1]), .ife (.call 5 [.var 2, .tup [.int 1, .int 1]]) [.ret (.bl false)] [], .ret (.not (.call 5 [.call 4 [.ix (.var 0) (.int 2), .var 2], .tup [.blt .abs [.ix (.var 3) (.int 0)], .ix (.var 3) (.int 1)]]))]
def f8 : Fn := ⟨"sees", L2.defArgs (top 13), L2.defBody (top 13), L2.defScope (top 13), ["sighting", "point"], ["sighting", "point", "ahead", "aside"], b8⟩
/-- is_true -/
def b9 : List St := [.ret (.blt .any [.lc [2] (.nm 2) .seq [.var 1] [] (.call 8 [.var 0, .var 2])])]
def f9 : Fn := ⟨"is_true", L2.defArgs (top 15), L2.defBody (top 15), L2.defScope (top 15), ["sighting", "tale"], ["sighting", "tale", "point"], b9⟩
/-- makes_true -/
def b10 : List St := [.ret (.blt .all [.lc [2] (.nm 2) .seq [.var 0] [] (.call 9 [.var 2, .var 1])])]
def f10 : Fn := ⟨"makes_true", L2.defArgs (top 16), L2.defBody (top 16), L2.defScope (top 16), ["lot", "tale"], ["lot", "tale", "sighting"], b10⟩
/-- _law_deck -/
def b11 : List St := [.ife (.cmp .lt (.var 0) (.bin .pow (.int 10) (.int 18))) [.ret (.lst [.int 0, .int 0, .bin .mod (.var 0) (.int 2147483647)])] [], .ret (.lst [.var 0, .int 0, .bin .mod (.var 0) (.int 2147483647)])]
def f11 : Fn := ⟨"_law_deck", L2.defArgs (top 18), L2.defBody (top 18), L2.defScope (top 18), ["_law_cell"], ["_law_cell"], b11⟩
/-- _law_draw -/
def b12 : List St := [.ife (.cmp .gt (.ix (.var 0) (.int 0)) (.int 0)) [.set 2 (.bin .mod (.ix (.var 0) (.int 0)) (.var 1)), .sub (.var 0) (.int 0) (.bin .div (.ix (.var 0) (.int 0)) (.var 1)), .ret (.var 2)] [], .sub (.var 0) (.int 1) (.bin .add (.ix (.var 0) (.int 1)) (.int 1)), .set 3 (.bin .mod (.bin .mul (.bin .add (.ix (.var 0) (.int 2)) (.bin .mul (.bin .mul (.int 7919) (.ix (.var 0) (.int 1))) (.ix (.var 0) (.int 1)))) (.int 48271)) (.int 2147483647)), .ret (.bin .mod (.bin .div (.bin .mod (.bin .mul (.var 3) (.bin .add (.var 3) (.int 69621))) (.int 2147483629)) (.int 8)) (.var 1))]
def f12 : Fn := ⟨"_law_draw", L2.defArgs (top 19), L2.defBody (top 19), L2.defScope (top 19), ["_law_deck_here", "_law_most"], ["_law_deck_here", "_law_most", "_law_found", "_law_mixed"], b12⟩
/-- _law_prime -/
def b13 : List St := [.par2 2 3 (.blt .abs [.var 0]) (.blt .abs [.var 1]), .whl (.cmp .gt (.var 3) (.int 0)) [.par2 2 3 (.var 3) (.bin .mod (.var 2) (.var 3))], .ife (.cmp .eq (.var 2) (.int 0)) [.ret (.tup [.int 1, .int 0])] [], .ret (.tup [.bin .div (.var 0) (.var 2), .bin .div (.var 1) (.var 2)])]
def f13 : Fn := ⟨"_law_prime", L2.defArgs (top 20), L2.defBody (top 20), L2.defScope (top 20), ["_law_a", "_law_b"], ["_law_a", "_law_b", "_law_one", "_law_other"], b13⟩
/-- _law_worth -/
def b14 : List St := [.par2 2 3 (.blt .abs [.var 0]) (.var 1), .whl (.cmp .gt (.var 3) (.int 0)) [.par2 2 3 (.var 3) (.bin .mod (.var 2) (.var 3))], .ret (.tup [.bin .div (.var 0) (.var 2), .bin .div (.var 1) (.var 2)])]
def f14 : Fn := ⟨"_law_worth", L2.defArgs (top 21), L2.defBody (top 21), L2.defScope (top 21), ["_law_top", "_law_bottom"], ["_law_top", "_law_bottom", "_law_one", "_law_other"], b14⟩
/-- _law_box -/
def b15 : List St := [.set 1 (.call 12 [.var 0, .int 4]), .ife (.cmp .eq (.var 1) (.int 0)) [.ret (.tup [.int 1, .int 1])] [], .ife (.cmp .eq (.var 1) (.int 1)) [.ret (.tup [.int 500, .int 500])] [], .ret (.tup [.bin .add (.int 1) (.call 12 [.var 0, .int 12]), .bin .add (.int 1) (.call 12 [.var 0, .int 12])])]
def f15 : Fn := ⟨"_law_box", L2.defArgs (top 22), L2.defBody (top 22), L2.defScope (top 22), ["_law_deck_here"], ["_law_deck_here", "_law_way"], b15⟩
/-- _law_tower -/
def b16 : List St := [.set 2 (.call 12 [.var 0, .int 4]), .ife (.cmp .eq (.var 2) (.int 0)) [.ret (.tup [.call 12 [.var 0, .bin .add (.ix (.var 1) (.int 0)) (.int 1)], .ix (.lst [.int 0, .ix (.var 1) (.int 1)]) (.call 12 [.var 0, .int 2])])] [], .ife (.cmp .eq (.var 2) (.int 1)) [.ret (.tup [.bin .sub (.bin .sub (.int 0) (.int 1)) (.call 12 [.var 0, .int 5]), .call 12 [.var 0, .bin .add (.ix (.var 1) (.int 1)) (.int 1)]])] [], .ife (.cmp .eq (.var 2) (.int 2)) [.ret (.tup [.bin .sub (.call 12 [.var 0, .int 1001]) (.int 500), .bin .sub (.call 12 [.var 0, .int 1001]) (.int 500)])] [], .ret (.tup [.call 12 [.var 0, .bin .add (.ix (.var 1) (.int 0)) (.int 1)], .call 12 [.var 0, .bin .add (.ix (.var 1) (.int 1)) (.int 1)]])]
def f16 : Fn := ⟨"_law_tower", L2.defArgs (top 23), L2.defBody (top 23), L2.defScope (top 23), ["_law_deck_here", "_law_box_here"], ["_law_deck_here", "_law_box_here", "_law_way"], b16⟩
/-- _law_slackness -/
def b17 : List St := [.set 1 (.call 12 [.var 0, .int 6]), .ife (.cmp .lt (.var 1) (.int 2)) [.ret (.tup [.int 0, .int 1])] [], .ife (.cmp .eq (.var 1) (.int 2)) [.ret (.call 14 [.int 1, .bin .add (.int 1) (.call 12 [.var 0, .int 1000])])] [], .ife (.cmp .eq (.var 1) (.int 3)) [.ret (.call 14 [.bin .add (.int 1) (.call 12 [.var 0, .int 1000]), .bin .add (.int 1) (.call 12 [.var 0, .int 9])])] [], .ret (.call 14 [.call 12 [.var 0, .int 7], .bin .add (.int 1) (.call 12 [.var 0, .int 9])])]
def f17 : Fn := ⟨"_law_slackness", L2.defArgs (top 24), L2.defBody (top 24), L2.defScope (top 24), ["_law_deck_here"], ["_law_deck_here", "_law_way"], b17⟩
/-- _law_look_at -/
def b18 : List St := [.set 3 (.call 16 [.var 0, .var 1]), .ret (.tup [.var 3, .call 13 [.bin .sub (.ix (.var 2) (.int 0)) (.ix (.var 3) (.int 0)), .bin .sub (.ix (.var 2) (.int 1)) (.ix (.var 3) (.int 1))], .call 17 [.var 0]])]
def f18 : Fn := ⟨"_law_look_at", L2.defArgs (top 25), L2.defBody (top 25), L2.defScope (top 25), ["_law_deck_here", "_law_box_here", "_law_point"], ["_law_deck_here", "_law_box_here", "_law_point", "_law_tower_here"], b18⟩
/-- _law_lot -/
def b19 : List St := [.set 3 (.call 12 [.var 0, .int 7]), .set 4 (.ix (.lst [.call 12 [.var 0, .bin .add (.blt .min2 [.var 2, .int 4]) (.int 1)], .var 2]) (.blt .int [.cmp .eq (.call 12 [.var 0, .int 8]) (.int 5)])), .set 5 (.lc [7] (.nm 7) .rng1 [.int 3] [] (.tup [.call 12 [.var 0, .bin .add (.ix (.var 1) (.int 0)) (.int 1)], .call 12 [.var 0, .bin .add (.ix (.var 1) (.int 1)) (.int 1)]])), .set 6 (.lst []), .for (.nm 7) .rng1 [.var 4] [.set 8 (.ix (.var 5) (.call 12 [.var 0, .ix (.lst [.int 1, .int 2, .int 3, .int 3, .int 3, .int 3, .int 3]) (.var 3)])), .set 9 (.call 18 [.var 0, .var 1, .var 8]), .ife (.or (.cmp .eq (.var 3) (.int 3)) (.and (.cmp .eq (.var 3) (.int 4)) (.cmp .eq (.bin .mod (.var 7) (.int 3)) (.int 2)))) [.set 10 (.call 13 [.bin .sub (.call 12 [.var 0, .int 21]) (.int 10), .bin .sub (.call 12 [.var 0, .int 21]) (.int 10)]), .set 9 (.tup [.ix (.var 9) (.int 0), .var 10, .ix (.var 9) (.int 2)])] [], .ife (.and (.cmp .eq (.var 3) (.int 5)) (.and (.cmp .ne (.var 6) (.lst [])) (.cmp .eq (.call 12 [.var 0, .int 3]) (.int 0)))) [.set 9 (.ix (.var 6) (.call 12 [.var 0, .blt .len [.var 6]]))] [], .ife (.cmp .eq (.var 3) (.int 6)) [.set 9 (.tup [.tup [.neg (.int 20), .bin .sub (.bin .sub (.int 0) (.bin .mul (.int 40) (.bin .add (.var 7) (.int 1)))) (.bin .mul (.bin .add (.var 7) (.int 1)) (.bin .add (.var 7) (.int 1)))], .call 13 [.int 1, .bin .add (.bin .mul (.int 2) (.var 7)) (.int 2)], .tup [.int 0, .int 1]])] [], .drop (.mth .append (.var 6) [.var 9])], .ret (.blt .tuple [.var 6])]
def f19 : Fn := ⟨"_law_lot", L2.defArgs (top 26), L2.defBody (top 26), L2.defScope (top 26), ["_law_deck_here", "_law_box_here", "_law_most"], ["_law_deck_here", "_law_box_here", "_law_most", "_law_way", "_law_many", "_law_points", "_law_found", "_law_k", "_law_point", "_law_some", "_law_bearing"], b19⟩
/-- _law_before -/
def b20 : List St := [.for (.tup [.tup [.nm 2, .nm 3], .tup [.nm 4, .nm 5]]) .zip [.var 0, .var 1] [.ife (.cmp .ne (.bin .mul (.var 2) (.var 5)) (.bin .mul (.var 4) (.var 3))) [.ret (.cmp .lt (.bin .mul (.var 2) (.var 5)) (.bin .mul (.var 4) (.var 3)))] []], .ret (.bl false)]
def f20 : Fn := ⟨"_law_before", L2.defArgs (top 27), L2.defBody (top 27), L2.defScope (top 27), ["_law_one", "_law_other"], ["_law_one", "_law_other", "_law_top", "_law_bottom", "_law_more", "_law_under"], b20⟩
/-- _law_is_in -/
def b21 : List St := [.asg (.tup [.tup [.nm 2, .nm 3], .tup [.nm 4, .nm 5]]) (.var 1), .ret (.and (.chain .le .le (.int 0) (.var 2) (.bin .mul (.ix (.var 0) (.int 0)) (.var 3))) (.chain .le .le (.int 0) (.var 4) (.bin .mul (.ix (.var 0) (.int 1)) (.var 5))))]
def f21 : Fn := ⟨"_law_is_in", L2.defArgs (top 28), L2.defBody (top 28), L2.defScope (top 28), ["_law_box_here", "_law_point"], ["_law_box_here", "_law_point", "_law_x", "_law_under", "_law_y", "_law_below"], b21⟩
/-- _law_sees -/
def b22 : List St := [.asg (.tup [.tup [.nm 2, .nm 3], .tup [.nm 4, .nm 5], .tup [.nm 6, .nm 7]]) (.var 0), .set 8 (.bin .mul (.bin .sub (.ix (.ix (.var 1) (.int 0)) (.int 0)) (.bin .mul (.var 2) (.ix (.ix (.var 1) (.int 0)) (.int 1)))) (.ix (.ix (.var 1) (.int 1)) (.int 1))), .set 9 (.bin .mul (.bin .sub (.ix (.ix (.var 1) (.int 1)) (.int 0)) (.bin .mul (.var 3) (.ix (.ix (.var 1) (.int 1)) (.int 1)))) (.ix (.ix (.var 1) (.int 0)) (.int 1))), .set 10 (.bin .mul (.ix (.ix (.var 1) (.int 0)) (.int 1)) (.ix (.ix (.var 1) (.int 1)) (.int 1))), .set 11 (.bin .add (.bin .mul (.var 4) (.var 8)) (.bin .mul (.var 5) (.var 9))), .ret (.and (.cmp .ge (.var 11) (.var 10)) (.cmp .le (.bin .mul (.var 7) (.blt .abs [.bin .sub (.bin .mul (.var 4) (.var 9)) (.bin .mul (.var 5) (.var 8))])) (.bin .mul (.var 6) (.var 11))))]
def f22 : Fn := ⟨"_law_sees", L2.defArgs (top 29), L2.defBody (top 29), L2.defScope (top 29), ["_law_sighting", "_law_point"], ["_law_sighting", "_law_point", "_law_x", "_law_y", "_law_a", "_law_b", "_law_p", "_law_q", "_law_right", "_law_up", "_law_under", "_law_ahead"], b22⟩
/-- _law_true -/
def b23 : List St := [.for (.nm 2) .seq [.var 0] [.ife (.cmp .eq (.lc [3] (.nm 3) .seq [.var 1] [.call 22 [.var 2, .var 3]] (.var 3)) (.lst [])) [.ret (.bl false)] []], .ret (.bl true)]
def f23 : Fn := ⟨"_law_true", L2.defArgs (top 30), L2.defBody (top 30), L2.defScope (top 30), ["_law_lot_here", "_law_tale_here"], ["_law_lot_here", "_law_tale_here", "_law_sighting", "_law_point"], b23⟩
/-- _law_is_point -/
def b24 : List St := [.ife (.or (.not (.isi .tuple (.var 0))) (.cmp .ne (.blt .len [.var 0]) (.int 2))) [.ret (.bl false)] [], .for (.nm 1) .seq [.var 0] [.ife (.or (.not (.isi .tuple (.var 1))) (.cmp .ne (.blt .len [.var 1]) (.int 2))) [.ret (.bl false)] [], .ife (.or (.not (.call 25 [.ix (.var 1) (.int 0)])) (.or (.not (.call 25 [.ix (.var 1) (.int 1)])) (.cmp .lt (.ix (.var 1) (.int 1)) (.int 1)))) [.ret (.bl false)] [], .ife (.cmp .ne (.call 14 [.ix (.var 1) (.int 0), .ix (.var 1) (.int 1)]) (.var 1)) [.ret (.bl false)] []], .ret (.bl true)]
def f24 : Fn := ⟨"_law_is_point", L2.defArgs (top 31), L2.defBody (top 31), L2.defScope (top 31), ["_law_thing"], ["_law_thing", "_law_worth_here"], b24⟩
/-- _law_is_whole -/
def b25 : List St := [.ret (.and (.isi .int (.var 0)) (.not (.isi .bool (.var 0))))]
def f25 : Fn := ⟨"_law_is_whole", L2.defArgs (top 32), L2.defBody (top 32), L2.defScope (top 32), ["_law_thing"], ["_law_thing"], b25⟩
/-- _law_is_tale -/
def b26 : List St := [.ife (.or (.not (.isi .tuple (.var 1))) (.cmp .ne (.lc [2] (.nm 2) .seq [.var 1] [.not (.call 24 [.var 2])] (.var 2)) (.lst []))) [.ret (.bl false)] [], .ife (.cmp .ne (.lc [2] (.nm 2) .seq [.var 1] [.not (.call 21 [.var 0, .var 2])] (.var 2)) (.lst [])) [.ret (.bl false)] [], .ret (.cmp .eq (.lc [3] (.nm 3) .rng2 [.int 1, .blt .len [.var 1]] [.not (.call 20 [.ix (.var 1) (.bin .sub (.var 3) (.int 1)), .ix (.var 1) (.var 3)])] (.var 3)) (.lst []))]
def f26 : Fn := ⟨"_law_is_tale", L2.defArgs (top 33), L2.defBody (top 33), L2.defScope (top 33), ["_law_box_here", "_law_thing"], ["_law_box_here", "_law_thing", "_law_one", "_law_k"], b26⟩
/-- _law_tale -/
def b27 : List St := [.set 3 (.lst []), .for (.nm 4) .rng1 [.call 12 [.var 0, .int 9]] [.set 5 (.tup [.call 14 [.call 12 [.var 0, .bin .add (.ix (.var 1) (.int 0)) (.int 1)], .int 1], .call 14 [.call 12 [.var 0, .bin .add (.ix (.var 1) (.int 1)) (.int 1)], .int 1]]), .ife (.and (.cmp .ne (.var 2) (.tup [])) (.cmp .gt (.call 12 [.var 0, .int 4]) (.int 0))) [.asg (.tup [.tup [.nm 6, .nm 7], .tup [.nm 8, .nm 9], .nm 10]) (.ix (.var 2) (.call 12 [.var 0, .blt .len [.var 2]])), .set 11 (.ix (.lst [.int 1, .bin .add (.int 1) (.call 12 [.var 0, .int 40]), .bin .add (.int 1) (.call 12 [.var 0, .int 400])]) (.call 12 [.var 0, .int 3])), .set 12 (.ix (.lst [.int 1, .bin .add (.bin .mul (.var 8) (.var 8)) (.bin .mul (.var 9) (.var 9)), .int 7]) (.call 12 [.var 0, .int 3])), .set 13 (.ix (.lst [.int 0, .int 0, .int 1, .neg (.int 1)]) (.call 12 [.var 0, .int 4])), .set 5 (.tup [.call 14 [.bin .sub (.bin .mul (.int 1000) (.bin .add (.bin .mul (.var 6) (.var 12)) (.bin .mul (.var 8) (.var 11)))) (.bin .mul (.var 13) (.var 9)), .bin .mul (.int 1000) (.var 12)], .call 14 [.bin .add (.bin .mul (.int 1000) (.bin .add (.bin .mul (.var 7) (.var 12)) (.bin .mul (.var 9) (.var 11)))) (.bin .mul (.var 13) (.var 8)), .bin .mul (.int 1000) (.var 12)]])] [], .ife (.call 21 [.var 1, .var 5]) [.set 14 (.lc [16] (.nm 16) .seq [.var 3] [.call 20 [.var 16, .var 5]] (.var 16)), .set 15 (.lc [16] (.nm 16) .seq [.var 3] [.call 20 [.var 5, .var 16]] (.var 16)), .set 3 (.bin .add (.bin .add (.var 14) (.lst [.var 5])) (.var 15))] []], .ret (.blt .tuple [.var 3])]
def f27 : Fn := ⟨"_law_tale", L2.defArgs (top 34), L2.defBody (top 34), L2.defScope (top 34), ["_law_deck_here", "_law_box_here", "_law_lot_here"], ["_law_deck_here", "_law_box_here", "_law_lot_here", "_law_points", "_law_turn", "_law_point", "_law_x", "_law_y", "_law_a", "_law_b", "_law_slackness_here", "_law_far", "_law_under", "_law_aside", "_law_ahead", "_law_behind", "_law_one"], b27⟩
/-- law -/
def b28 : List St := [.set 1 (.lst []), .for (.nm 2) .seq [.slHi (.bin .add (.var 0) (.lst [.int 0])) (.int 4)] [.set 3 (.call 11 [.var 2]), .set 4 (.call 15 [.var 3]), .set 5 (.call 19 [.var 3, .var 4, .int 12]), .for (.nm 6) .rng1 [.int 6] [.set 7 (.call 27 [.var 3, .var 4, .var 5]), .drop (.mth .append (.var 1) [.tup [.var 5, .var 7, .call 23 [.var 5, .var 7]]]), .drop (.mth .append (.var 1) [.tup [.slHi (.var 5) (.int 1), .var 7, .call 23 [.slHi (.var 5) (.int 1), .var 7]]]), .drop (.mth .append (.var 1) [.tup [.var 5, .slHi (.var 7) (.int 1), .call 23 [.var 5, .slHi (.var 7) (.int 1)]]])]], .for (.tup [.nm 5, .nm 7, .nm 8]) .seq [.bin .add (.var 1) (.rev (.var 1))] [.set 9 (.call 10 [.var 5, .var 7]), .ife (.or (.not (.isi .bool (.var 9))) (.cmp .ne (.var 9) (.var 8))) [.ret (.bl false)] []], .ret (.bl true)]
def f28 : Fn := ⟨"law", L2.defArgs (top 35), L2.defBody (top 35), L2.defScope (top 35), ["_law_script"], ["_law_script", "_law_asks", "_law_cell", "_law_deck_here", "_law_box_here", "_law_lot_here", "_law_turn", "_law_tale_here", "_law_due", "_law_found"], b28⟩
def fnl : List Fn := [f0, f1, f2, f3, f4, f5, f6, f7, f8, f9, f10, f11, f12, f13, f14, f15, f16, f17, f18, f19, f20, f21, f22, f23, f24, f25, f26, f27, f28]
theorem ok0 : f0.Ok (nms fnl) cons := ⟨⟨rfl, rfl, rfl, by decide +kernel, rfl, by decide +kernel, by decide +kernel⟩, fun _ _ _ _ _ _ us hl => match us, hl with | [_, _], _ => rfl, by kernel_rfl⟩
theorem ok1 : f1.Ok (nms fnl) cons := ⟨⟨rfl, rfl, rfl, by decide +kernel, rfl, by decide +kernel, by decide +kernel⟩, fun _ _ _ _ _ _ us hl => match us, hl with | [_, _], _ => rfl, by kernel_rfl⟩
theorem ok2 : f2.Ok (nms fnl) cons := ⟨⟨rfl, rfl, rfl, by decide +kernel, rfl, by decide +kernel, by decide +kernel⟩, fun _ _ _ _ _ _ us hl => match us, hl with | [_, _], _ => rfl, by kernel_rfl⟩
theorem ok3 : f3.Ok (nms fnl) cons := ⟨⟨rfl, rfl, rfl, by decide +kernel, rfl, by decide +kernel, by decide +kernel⟩, fun _ _ _ _ _ _ us hl => match us, hl with | [_, _], _ => rfl, by kernel_rfl⟩
theorem ok4 : f4.Ok (nms fnl) cons := ⟨⟨rfl, rfl, rfl, by decide +kernel, rfl, by decide +kernel, by decide +kernel⟩, fun _ _ _ _ _ _ us hl => match us, hl with | [_, _], _ => rfl, by kernel_rfl⟩
theorem ok5 : f5.Ok (nms fnl) cons := ⟨⟨rfl, rfl, rfl, by decide +kernel, rfl, by decide +kernel, by decide +kernel⟩, fun _ _ _ _ _ _ us hl => match us, hl with | [_, _], _ => rfl, by kernel_rfl⟩
theorem ok6 : f6.Ok (nms fnl) cons := ⟨⟨rfl, rfl, rfl, by decide +kernel, rfl, by decide +kernel, by decide +kernel⟩, fun _ _ _ _ _ _ us hl => match us, hl with | [_, _], _ => rfl, by kernel_rfl⟩
theorem ok7 : f7.Ok (nms fnl) cons := ⟨⟨rfl, rfl, rfl, by decide +kernel, rfl, by decide +kernel, by decide +kernel⟩, fun _ _ _ _ _ _ us hl => match us, hl with | [_, _], _ => rfl, by kernel_rfl⟩
theorem ok8 : f8.Ok (nms fnl) cons := ⟨⟨rfl, rfl, rfl, by decide +kernel, rfl, by decide +kernel, by decide +kernel⟩, fun _ _ _ _ _ _ us hl => match us, hl with | [_, _], _ => rfl, by kernel_rfl⟩
theorem ok9 : f9.Ok (nms fnl) cons := ⟨⟨rfl, rfl, rfl, by decide +kernel, rfl, by decide +kernel, by decide +kernel⟩, fun _ _ _ _ _ _ us hl => match us, hl with | [_, _], _ => rfl, by kernel_rfl⟩
theorem ok10 : f10.Ok (nms fnl) cons := ⟨⟨rfl, rfl, rfl, by decide +kernel, rfl, by decide +kernel, by decide +kernel⟩, fun _ _ _ _ _ _ us hl => match us, hl with | [_, _], _ => rfl, by kernel_rfl⟩
theorem ok11 : f11.Ok (nms fnl) cons := ⟨⟨rfl, rfl, rfl, by decide +kernel, rfl, by decide +kernel, by decide +kernel⟩, fun _ _ _ _ _ _ us hl => match us, hl with | [_], _ => rfl, by kernel_rfl⟩
theorem ok12 : f12.Ok (nms fnl) cons := ⟨⟨rfl, rfl, rfl, by decide +kernel, rfl, by decide +kernel, by decide +kernel⟩, fun _ _ _ _ _ _ us hl => match us, hl with | [_, _], _ => rfl, by kernel_rfl⟩
theorem ok13 : f13.Ok (nms fnl) cons := ⟨⟨rfl, rfl, rfl, by decide +kernel, rfl, by decide +kernel, by decide +kernel⟩, fun _ _ _ _ _ _ us hl => match us, hl with | [_, _], _ => rfl, by kernel_rfl⟩
theorem ok14 : f14.Ok (nms fnl) cons := ⟨⟨rfl, rfl, rfl, by decide +kernel, rfl, by decide +kernel, by decide +kernel⟩, fun _ _ _ _ _ _ us hl => match us, hl with | [_, _], _ => rfl, by kernel_rfl⟩
theorem ok15 : f15.Ok (nms fnl) cons := ⟨⟨rfl, rfl, rfl, by decide +kernel, rfl, by decide +kernel, by decide +kernel⟩, fun _ _ _ _ _ _ us hl => match us, hl with | [_], _ => rfl, by kernel_rfl⟩
theorem ok16 : f16.Ok (nms fnl) cons := ⟨⟨rfl, rfl, rfl, by decide +kernel, rfl, by decide +kernel, by decide +kernel⟩, fun _ _ _ _ _ _ us hl => match us, hl with | [_, _], _ => rfl, by kernel_rfl⟩
theorem ok17 : f17.Ok (nms fnl) cons := ⟨⟨rfl, rfl, rfl, by decide +kernel, rfl, by decide +kernel, by decide +kernel⟩, fun _ _ _ _ _ _ us hl => match us, hl with | [_], _ => rfl, by kernel_rfl⟩
theorem ok18 : f18.Ok (nms fnl) cons := ⟨⟨rfl, rfl, rfl, by decide +kernel, rfl, by decide +kernel, by decide +kernel⟩, fun _ _ _ _ _ _ us hl => match us, hl with | [_, _, _], _ => rfl, by kernel_rfl⟩
theorem ok19 : f19.Ok (nms fnl) cons := ⟨⟨rfl, rfl, rfl, by decide +kernel, rfl, by decide +kernel, by decide +kernel⟩, fun _ _ _ _ _ _ us hl => match us, hl with | [_, _, _], _ => rfl, by kernel_rfl⟩
theorem ok20 : f20.Ok (nms fnl) cons := ⟨⟨rfl, rfl, rfl, by decide +kernel, rfl, by decide +kernel, by decide +kernel⟩, fun _ _ _ _ _ _ us hl => match us, hl with | [_, _], _ => rfl, by kernel_rfl⟩
theorem ok21 : f21.Ok (nms fnl) cons := ⟨⟨rfl, rfl, rfl, by decide +kernel, rfl, by decide +kernel, by decide +kernel⟩, fun _ _ _ _ _ _ us hl => match us, hl with | [_, _], _ => rfl, by kernel_rfl⟩
theorem ok22 : f22.Ok (nms fnl) cons := ⟨⟨rfl, rfl, rfl, by decide +kernel, rfl, by decide +kernel, by decide +kernel⟩, fun _ _ _ _ _ _ us hl => match us, hl with | [_, _], _ => rfl, by kernel_rfl⟩
theorem ok23 : f23.Ok (nms fnl) cons := ⟨⟨rfl, rfl, rfl, by decide +kernel, rfl, by decide +kernel, by decide +kernel⟩, fun _ _ _ _ _ _ us hl => match us, hl with | [_, _], _ => rfl, by kernel_rfl⟩
theorem ok24 : f24.Ok (nms fnl) cons := ⟨⟨rfl, rfl, rfl, by decide +kernel, rfl, by decide +kernel, by decide +kernel⟩, fun _ _ _ _ _ _ us hl => match us, hl with | [_], _ => rfl, by kernel_rfl⟩
theorem ok25 : f25.Ok (nms fnl) cons := ⟨⟨rfl, rfl, rfl, by decide +kernel, rfl, by decide +kernel, by decide +kernel⟩, fun _ _ _ _ _ _ us hl => match us, hl with | [_], _ => rfl, by kernel_rfl⟩
theorem ok26 : f26.Ok (nms fnl) cons := ⟨⟨rfl, rfl, rfl, by decide +kernel, rfl, by decide +kernel, by decide +kernel⟩, fun _ _ _ _ _ _ us hl => match us, hl with | [_, _], _ => rfl, by kernel_rfl⟩
theorem ok27 : f27.Ok (nms fnl) cons := ⟨⟨rfl, rfl, rfl, by decide +kernel, rfl, by decide +kernel, by decide +kernel⟩, fun _ _ _ _ _ _ us hl => match us, hl with | [_, _, _], _ => rfl, by kernel_rfl⟩
theorem ok28 : f28.Ok (nms fnl) cons := ⟨⟨rfl, rfl, rfl, by decide +kernel, rfl, by decide +kernel, by decide +kernel⟩, fun _ _ _ _ _ _ us hl => match us, hl with | [_], _ => rfl, by kernel_rfl⟩
theorem oks : ∀ (i : Nat) (f : Fn), fnl[i]? = some f → f.Ok (nms fnl) cons
  | 0, _, h => by cases h; exact ok0
  | 1, _, h => by cases h; exact ok1
  | 2, _, h => by cases h; exact ok2
  | 3, _, h => by cases h; exact ok3
  | 4, _, h => by cases h; exact ok4
  | 5, _, h => by cases h; exact ok5
  | 6, _, h => by cases h; exact ok6
  | 7, _, h => by cases h; exact ok7
  | 8, _, h => by cases h; exact ok8
  | 9, _, h => by cases h; exact ok9
  | 10, _, h => by cases h; exact ok10
  | 11, _, h => by cases h; exact ok11
  | 12, _, h => by cases h; exact ok12
  | 13, _, h => by cases h; exact ok13
  | 14, _, h => by cases h; exact ok14
  | 15, _, h => by cases h; exact ok15
  | 16, _, h => by cases h; exact ok16
  | 17, _, h => by cases h; exact ok17
  | 18, _, h => by cases h; exact ok18
  | 19, _, h => by cases h; exact ok19
  | 20, _, h => by cases h; exact ok20
  | 21, _, h => by cases h; exact ok21
  | 22, _, h => by cases h; exact ok22
  | 23, _, h => by cases h; exact ok23
  | 24, _, h => by cases h; exact ok24
  | 25, _, h => by cases h; exact ok25
  | 26, _, h => by cases h; exact ok26
  | 27, _, h => by cases h; exact ok27
  | 28, _, h => by cases h; exact ok28
  | n + 29, _, h => nomatch h
end K30
end Ev
namespace Ev
namespace K30
open PySem PySem.Spec PyProof.Rows L2
theorem s_divisor {g : Bool} {n : Nat} (hn : 1 ≤ n) (x y : Int) : evPF g (Pr fnl) n 0 [.int x, .int y] = some (.int (Int.gcd x y : Nat)) := by
  obtain ⟨m, rfl⟩ : ∃ m, n = m + 1 := ⟨n - 1, by omega⟩
  rw [evPF_eq (fd := ⟨2, 2, b0⟩) rfl rfl]
  generalize evPF g (Pr fnl) m = C
  have w := gcdF (c := pvF (evP g C (.cmp .ne (.var 1) (.int 0)))) (b := evPSs g C [.par2 0 1 (.var 1) (.bin .mod (.var 0) (.var 1))]) (E := fun a b => [some (.val (.int a)), some (.val (.int b))])
    (fun x y => by
      cases y <;> simp [pvF, evP, slotP, Cop.runP, pNe, pEq, pNot, Pz.pv] <;> omega)
    (fun x y hy => by
      have h1 : (y : Int) ≠ 0 := by omega
      have h2 : (0 : Int) < y := by omega
      have h3 : y ≠ 0 := by omega
      cases g <;> simp [evPSs, evPS, evXs, evP, slotP, Bop.runP, pMod, seqP, frzs, escEs, escE, escP, isVarE, Pz.pv, set2, gd, h1, h2, h3, hy]) x.natAbs y.natAbs
  simp only [b0, evP_var, evP_int, evP_str, evP_bl, evP_non, evP_glob, evP_fnv, evP_bad, evP_tup, evP_lst, evP_bin, evP_neg, evP_cmp, evP_chain, evP_and, evP_or, evP_not, evP_ife, evP_ix, evP_slLo, evP_slHi, evP_slLH, evP_call, evP_callv, evP_blt, evP_isi, evP_mth, evP_rev, evP_lc, evXs_nil, evXs_cons, evI_nil, evTs_nil, evTs_cons, evPS_set, evPS_asg, evPS_par2, evPS_par3, evPS_sub, evPS_drop, evPS_ret, evPS_retN, evPS_ife, evPS_whl, evPS_for, evPS_aug, evPS_pass, evPS_brk, evPS_cont, evPS_raise, evPSs_nil, evPSs_cons, evI_one, seqP_nx, seqP_rt, seqP_bk, seqP_ct, slotP_0, slotP_s, set_0, set_s, set_0n, pv_val, pv_own, escP_val, escP_own, isV_var, isV_lst, isV_bin, isV_blt, isV_lo, isV_rev, isV_mth, isV_hi, isV_lh, isV_lc, optE_s, optE_n, truP_t, truP_f, frz_n, frz_c, fzS_v, fzS_o, fzS_n, esc_v, esc_f, escE, escEs, rmv, List.filter_cons, List.filter_nil, List.any_cons, List.any_nil, Nat.reduceBEq, Bool.or_false, Bool.or_true, Bool.true_or, Bool.false_or, beq_self_eq_true, List.append_nil, List.nil_append, List.cons_append, own_v, own_o, gd_f, Option.bind_some, Option.map_some, evD, mthOf, varOf, set2, set3, pMth, pSet, Bop.runP, pAdd, pSub, pMul, pDiv, pMod, pPow, Cop.runP, pLt, pLe, pGt, pGe, pNot, pNeg, pIx, at_0, at_1, at_2, at_3, at_4, Blt.runP, pv1, pv2, pz1, pAbs, pItems, pSeq, pMax2, pMin2, wipeP, putP_nm, putP_tup, putsP_nil, putsP_cons, escF_at, pvF_at, pIts, loopP_cons, loopP_nil, lcP_n, lcP_c, lcS_t, lcS_f, pBls, pLst, nextL_nx, nextL_rt, finP, dPv, dPvs, List.map_cons, List.map_nil, List.replicate, List.length_cons, List.length_nil, Nat.reduceAdd, Nat.reduceSub, reduceIte, pAug, pMthE, pRev, pIsi, tyP, Ty.sub, pLen, zipP, Bool.false_eq_true, Bool.not_true, Bool.not_false, ne_eq, not_false_eq_true, ab_abs]
  rw [w]
  simp only [evP_var, evP_int, evP_str, evP_bl, evP_non, evP_glob, evP_fnv, evP_bad, evP_tup, evP_lst, evP_bin, evP_neg, evP_cmp, evP_chain, evP_and, evP_or, evP_not, evP_ife, evP_ix, evP_slLo, evP_slHi, evP_slLH, evP_call, evP_callv, evP_blt, evP_isi, evP_mth, evP_rev, evP_lc, evXs_nil, evXs_cons, evI_nil, evTs_nil, evTs_cons, evPS_set, evPS_asg, evPS_par2, evPS_par3, evPS_sub, evPS_drop, evPS_ret, evPS_retN, evPS_ife, evPS_whl, evPS_for, evPS_aug, evPS_pass, evPS_brk, evPS_cont, evPS_raise, evPSs_nil, evPSs_cons, evI_one, seqP_nx, seqP_rt, seqP_bk, seqP_ct, slotP_0, slotP_s, set_0, set_s, set_0n, pv_val, pv_own, escP_val, escP_own, isV_var, isV_lst, isV_bin, isV_blt, isV_lo, isV_rev, isV_mth, isV_hi, isV_lh, isV_lc, optE_s, optE_n, truP_t, truP_f, frz_n, frz_c, fzS_v, fzS_o, fzS_n, esc_v, esc_f, escE, escEs, rmv, List.filter_cons, List.filter_nil, List.any_cons, List.any_nil, Nat.reduceBEq, Bool.or_false, Bool.or_true, Bool.true_or, Bool.false_or, beq_self_eq_true, List.append_nil, List.nil_append, List.cons_append, own_v, own_o, gd_f, Option.bind_some, Option.map_some, evD, mthOf, varOf, set2, set3, pMth, pSet, Bop.runP, pAdd, pSub, pMul, pDiv, pMod, pPow, Cop.runP, pLt, pLe, pGt, pGe, pNot, pNeg, pIx, at_0, at_1, at_2, at_3, at_4, Blt.runP, pv1, pv2, pz1, pAbs, pItems, pSeq, pMax2, pMin2, wipeP, putP_nm, putP_tup, putsP_nil, putsP_cons, escF_at, pvF_at, pIts, loopP_cons, loopP_nil, lcP_n, lcP_c, lcS_t, lcS_f, pBls, pLst, nextL_nx, nextL_rt, finP, dPv, dPvs, List.map_cons, List.map_nil, List.replicate, List.length_cons, List.length_nil, Nat.reduceAdd, Nat.reduceSub, reduceIte, pAug, pMthE, pRev, pIsi, tyP, Ty.sub, pLen, zipP, Bool.false_eq_true, Bool.not_true, Bool.not_false, ne_eq, not_false_eq_true]
  rfl
theorem s_worthG {g : Bool} {n : Nat} (hn : 2 ≤ n) (x y : Int) (hy : 1 ≤ y) (hg : g = true → y.natAbs.log2 < 9000) : evPF g (Pr fnl) n 1 [.int x, .int y] = some (lo x y) := by
  obtain ⟨m, rfl⟩ : ∃ m, n = m + 1 := ⟨n - 1, by omega⟩
  rw [evPF_eq (fd := ⟨2, 3, b1⟩) rfl rfl]
  have h1 := s_divisor (g := g) (n := m) (by omega) x y
  generalize evPF g (Pr fnl) m = C at *
  have e1 : decide (y = 0) = false := by simp; omega
  have e2 : decide (y < 0) = false := by simp; omega
  have g0 := gcd_pos (x := x) hy
  have gd1 : g = true → divOk (Int.gcd x y : Nat) := fun h => divOk_of g0 (gcd_le hy) (hg h)
  have k : ∀ z : Option Pz, gd g (decide (divOk (Int.gcd x y : Nat))) z = z := fun z => by
    cases g with
    | false => rfl
    | true => rw [decide_eq_true (gd1 rfl)]; rfl
  simp only [b1, evP_var, evP_int, evP_str, evP_bl, evP_non, evP_glob, evP_fnv, evP_bad, evP_tup, evP_lst, evP_bin, evP_neg, evP_cmp, evP_chain, evP_and, evP_or, evP_not, evP_ife, evP_ix, evP_slLo, evP_slHi, evP_slLH, evP_call, evP_callv, evP_blt, evP_isi, evP_mth, evP_rev, evP_lc, evXs_nil, evXs_cons, evI_nil, evTs_nil, evTs_cons, evPS_set, evPS_asg, evPS_par2, evPS_par3, evPS_sub, evPS_drop, evPS_ret, evPS_retN, evPS_ife, evPS_whl, evPS_for, evPS_aug, evPS_pass, evPS_brk, evPS_cont, evPS_raise, evPSs_nil, evPSs_cons, evI_one, seqP_nx, seqP_rt, seqP_bk, seqP_ct, slotP_0, slotP_s, set_0, set_s, set_0n, pv_val, pv_own, escP_val, escP_own, isV_var, isV_lst, isV_bin, isV_blt, isV_lo, isV_rev, isV_mth, isV_hi, isV_lh, isV_lc, optE_s, optE_n, truP_t, truP_f, frz_n, frz_c, fzS_v, fzS_o, fzS_n, esc_v, esc_f, escE, escEs, rmv, List.filter_cons, List.filter_nil, List.any_cons, List.any_nil, Nat.reduceBEq, Bool.or_false, Bool.or_true, Bool.true_or, Bool.false_or, beq_self_eq_true, List.append_nil, List.nil_append, List.cons_append, own_v, own_o, gd_f, Option.bind_some, Option.map_some, evD, mthOf, varOf, set2, set3, pMth, pSet, Bop.runP, pAdd, pSub, pMul, pDiv, pMod, pPow, Cop.runP, pLt, pLe, pGt, pGe, pNot, pNeg, pIx, at_0, at_1, at_2, at_3, at_4, Blt.runP, pv1, pv2, pz1, pAbs, pItems, pSeq, pMax2, pMin2, wipeP, putP_nm, putP_tup, putsP_nil, putsP_cons, escF_at, pvF_at, pIts, loopP_cons, loopP_nil, lcP_n, lcP_c, lcS_t, lcS_f, pBls, pLst, nextL_nx, nextL_rt, finP, dPv, dPvs, List.map_cons, List.map_nil, List.replicate, List.length_cons, List.length_nil, Nat.reduceAdd, Nat.reduceSub, reduceIte, pAug, pMthE, pRev, pIsi, tyP, Ty.sub, pLen, zipP, Bool.false_eq_true, Bool.not_true, Bool.not_false, ne_eq, not_false_eq_true, pEq, e1, e2, h1, k, if_pos g0, LINE]
  cases g <;> rfl
theorem s_worth {n : Nat} (hn : 2 ≤ n) (x y : Int) (hy : 1 ≤ y) : evPF false (Pr fnl) n 1 [.int x, .int y] = some (lo x y) := s_worthG hn x y hy (fun h => nomatch h)
theorem s_summed {n : Nat} (hn : 3 ≤ n) (a b c d : Int) (hb : 1 ≤ b) (hd : 1 ≤ d) : evPF false (Pr fnl) n 2 [wo a b, wo c d] = some (lo (a * d + c * b) (b * d)) := by
  obtain ⟨m, rfl⟩ : ∃ m, n = m + 1 := ⟨n - 1, by omega⟩
  rw [evPF_eq (fd := ⟨2, 2, b2⟩) rfl rfl]
  have h1 := s_worth (n := m) (by omega) (a * d + c * b) (b * d) (mpos hb hd)
  generalize evPF false (Pr fnl) m = C at *
  simp only [b2, wo, evP_var, evP_int, evP_str, evP_bl, evP_non, evP_glob, evP_fnv, evP_bad, evP_tup, evP_lst, evP_bin, evP_neg, evP_cmp, evP_chain, evP_and, evP_or, evP_not, evP_ife, evP_ix, evP_slLo, evP_slHi, evP_slLH, evP_call, evP_callv, evP_blt, evP_isi, evP_mth, evP_rev, evP_lc, evXs_nil, evXs_cons, evI_nil, evTs_nil, evTs_cons, evPS_set, evPS_asg, evPS_par2, evPS_par3, evPS_sub, evPS_drop, evPS_ret, evPS_retN, evPS_ife, evPS_whl, evPS_for, evPS_aug, evPS_pass, evPS_brk, evPS_cont, evPS_raise, evPSs_nil, evPSs_cons, evI_one, seqP_nx, seqP_rt, seqP_bk, seqP_ct, slotP_0, slotP_s, set_0, set_s, set_0n, pv_val, pv_own, escP_val, escP_own, isV_var, isV_lst, isV_bin, isV_blt, isV_lo, isV_rev, isV_mth, isV_hi, isV_lh, isV_lc, optE_s, optE_n, truP_t, truP_f, frz_n, frz_c, fzS_v, fzS_o, fzS_n, esc_v, esc_f, escE, escEs, rmv, List.filter_cons, List.filter_nil, List.any_cons, List.any_nil, Nat.reduceBEq, Bool.or_false, Bool.or_true, Bool.true_or, Bool.false_or, beq_self_eq_true, List.append_nil, List.nil_append, List.cons_append, own_v, own_o, gd_f, Option.bind_some, Option.map_some, evD, mthOf, varOf, set2, set3, pMth, pSet, Bop.runP, pAdd, pSub, pMul, pDiv, pMod, pPow, Cop.runP, pLt, pLe, pGt, pGe, pNot, pNeg, pIx, at_0, at_1, at_2, at_3, at_4, Blt.runP, pv1, pv2, pz1, pAbs, pItems, pSeq, pMax2, pMin2, wipeP, putP_nm, putP_tup, putsP_nil, putsP_cons, escF_at, pvF_at, pIts, loopP_cons, loopP_nil, lcP_n, lcP_c, lcS_t, lcS_f, pBls, pLst, nextL_nx, nextL_rt, finP, dPv, dPvs, List.map_cons, List.map_nil, List.replicate, List.length_cons, List.length_nil, Nat.reduceAdd, Nat.reduceSub, reduceIte, pAug, pMthE, pRev, pIsi, tyP, Ty.sub, pLen, zipP, Bool.false_eq_true, Bool.not_true, Bool.not_false, ne_eq, not_false_eq_true, h1]
theorem s_lessened {n : Nat} (hn : 3 ≤ n) (a b c d : Int) (hb : 1 ≤ b) (hd : 1 ≤ d) : evPF false (Pr fnl) n 3 [wo a b, wo c d] = some (lo (a * d - c * b) (b * d)) := by
  obtain ⟨m, rfl⟩ : ∃ m, n = m + 1 := ⟨n - 1, by omega⟩
  rw [evPF_eq (fd := ⟨2, 2, b3⟩) rfl rfl]
  have h1 := s_worth (n := m) (by omega) (a * d - c * b) (b * d) (mpos hb hd)
  generalize evPF false (Pr fnl) m = C at *
  simp only [b3, wo, evP_var, evP_int, evP_str, evP_bl, evP_non, evP_glob, evP_fnv, evP_bad, evP_tup, evP_lst, evP_bin, evP_neg, evP_cmp, evP_chain, evP_and, evP_or, evP_not, evP_ife, evP_ix, evP_slLo, evP_slHi, evP_slLH, evP_call, evP_callv, evP_blt, evP_isi, evP_mth, evP_rev, evP_lc, evXs_nil, evXs_cons, evI_nil, evTs_nil, evTs_cons, evPS_set, evPS_asg, evPS_par2, evPS_par3, evPS_sub, evPS_drop, evPS_ret, evPS_retN, evPS_ife, evPS_whl, evPS_for, evPS_aug, evPS_pass, evPS_brk, evPS_cont, evPS_raise, evPSs_nil, evPSs_cons, evI_one, seqP_nx, seqP_rt, seqP_bk, seqP_ct, slotP_0, slotP_s, set_0, set_s, set_0n, pv_val, pv_own, escP_val, escP_own, isV_var, isV_lst, isV_bin, isV_blt, isV_lo, isV_rev, isV_mth, isV_hi, isV_lh, isV_lc, optE_s, optE_n, truP_t, truP_f, frz_n, frz_c, fzS_v, fzS_o, fzS_n, esc_v, esc_f, escE, escEs, rmv, List.filter_cons, List.filter_nil, List.any_cons, List.any_nil, Nat.reduceBEq, Bool.or_false, Bool.or_true, Bool.true_or, Bool.false_or, beq_self_eq_true, List.append_nil, List.nil_append, List.cons_append, own_v, own_o, gd_f, Option.bind_some, Option.map_some, evD, mthOf, varOf, set2, set3, pMth, pSet, Bop.runP, pAdd, pSub, pMul, pDiv, pMod, pPow, Cop.runP, pLt, pLe, pGt, pGe, pNot, pNeg, pIx, at_0, at_1, at_2, at_3, at_4, Blt.runP, pv1, pv2, pz1, pAbs, pItems, pSeq, pMax2, pMin2, wipeP, putP_nm, putP_tup, putsP_nil, putsP_cons, escF_at, pvF_at, pIts, loopP_cons, loopP_nil, lcP_n, lcP_c, lcS_t, lcS_f, pBls, pLst, nextL_nx, nextL_rt, finP, dPv, dPvs, List.map_cons, List.map_nil, List.replicate, List.length_cons, List.length_nil, Nat.reduceAdd, Nat.reduceSub, reduceIte, pAug, pMthE, pRev, pIsi, tyP, Ty.sub, pLen, zipP, Bool.false_eq_true, Bool.not_true, Bool.not_false, ne_eq, not_false_eq_true, h1]
theorem s_product {n : Nat} (hn : 3 ≤ n) (a b c d : Int) (hb : 1 ≤ b) (hd : 1 ≤ d) : evPF false (Pr fnl) n 4 [wo a b, wo c d] = some (lo (a * c) (b * d)) := by
  obtain ⟨m, rfl⟩ : ∃ m, n = m + 1 := ⟨n - 1, by omega⟩
  rw [evPF_eq (fd := ⟨2, 2, b4⟩) rfl rfl]
  have h1 := s_worth (n := m) (by omega) (a * c) (b * d) (mpos hb hd)
  generalize evPF false (Pr fnl) m = C at *
  simp only [b4, wo, evP_var, evP_int, evP_str, evP_bl, evP_non, evP_glob, evP_fnv, evP_bad, evP_tup, evP_lst, evP_bin, evP_neg, evP_cmp, evP_chain, evP_and, evP_or, evP_not, evP_ife, evP_ix, evP_slLo, evP_slHi, evP_slLH, evP_call, evP_callv, evP_blt, evP_isi, evP_mth, evP_rev, evP_lc, evXs_nil, evXs_cons, evI_nil, evTs_nil, evTs_cons, evPS_set, evPS_asg, evPS_par2, evPS_par3, evPS_sub, evPS_drop, evPS_ret, evPS_retN, evPS_ife, evPS_whl, evPS_for, evPS_aug, evPS_pass, evPS_brk, evPS_cont, evPS_raise, evPSs_nil, evPSs_cons, evI_one, seqP_nx, seqP_rt, seqP_bk, seqP_ct, slotP_0, slotP_s, set_0, set_s, set_0n, pv_val, pv_own, escP_val, escP_own, isV_var, isV_lst, isV_bin, isV_blt, isV_lo, isV_rev, isV_mth, isV_hi, isV_lh, isV_lc, optE_s, optE_n, truP_t, truP_f, frz_n, frz_c, fzS_v, fzS_o, fzS_n, esc_v, esc_f, escE, escEs, rmv, List.filter_cons, List.filter_nil, List.any_cons, List.any_nil, Nat.reduceBEq, Bool.or_false, Bool.or_true, Bool.true_or, Bool.false_or, beq_self_eq_true, List.append_nil, List.nil_append, List.cons_append, own_v, own_o, gd_f, Option.bind_some, Option.map_some, evD, mthOf, varOf, set2, set3, pMth, pSet, Bop.runP, pAdd, pSub, pMul, pDiv, pMod, pPow, Cop.runP, pLt, pLe, pGt, pGe, pNot, pNeg, pIx, at_0, at_1, at_2, at_3, at_4, Blt.runP, pv1, pv2, pz1, pAbs, pItems, pSeq, pMax2, pMin2, wipeP, putP_nm, putP_tup, putsP_nil, putsP_cons, escF_at, pvF_at, pIts, loopP_cons, loopP_nil, lcP_n, lcP_c, lcS_t, lcS_f, pBls, pLst, nextL_nx, nextL_rt, finP, dPv, dPvs, List.map_cons, List.map_nil, List.replicate, List.length_cons, List.length_nil, Nat.reduceAdd, Nat.reduceSub, reduceIte, pAug, pMthE, pRev, pIsi, tyP, Ty.sub, pLen, zipP, Bool.false_eq_true, Bool.not_true, Bool.not_false, ne_eq, not_false_eq_true, h1]
theorem s_is_less {n : Nat} (hn : 1 ≤ n) (a b c d : Int) : evPF false (Pr fnl) n 5 [wo a b, wo c d] = some (.bl (decide (a * d < c * b))) := by
  obtain ⟨m, rfl⟩ : ∃ m, n = m + 1 := ⟨n - 1, by omega⟩
  rw [evPF_eq (fd := ⟨2, 2, b5⟩) rfl rfl]
  simp only [b5, wo, evP_var, evP_int, evP_str, evP_bl, evP_non, evP_glob, evP_fnv, evP_bad, evP_tup, evP_lst, evP_bin, evP_neg, evP_cmp, evP_chain, evP_and, evP_or, evP_not, evP_ife, evP_ix, evP_slLo, evP_slHi, evP_slLH, evP_call, evP_callv, evP_blt, evP_isi, evP_mth, evP_rev, evP_lc, evXs_nil, evXs_cons, evI_nil, evTs_nil, evTs_cons, evPS_set, evPS_asg, evPS_par2, evPS_par3, evPS_sub, evPS_drop, evPS_ret, evPS_retN, evPS_ife, evPS_whl, evPS_for, evPS_aug, evPS_pass, evPS_brk, evPS_cont, evPS_raise, evPSs_nil, evPSs_cons, evI_one, seqP_nx, seqP_rt, seqP_bk, seqP_ct, slotP_0, slotP_s, set_0, set_s, set_0n, pv_val, pv_own, escP_val, escP_own, isV_var, isV_lst, isV_bin, isV_blt, isV_lo, isV_rev, isV_mth, isV_hi, isV_lh, isV_lc, optE_s, optE_n, truP_t, truP_f, frz_n, frz_c, fzS_v, fzS_o, fzS_n, esc_v, esc_f, escE, escEs, rmv, List.filter_cons, List.filter_nil, List.any_cons, List.any_nil, Nat.reduceBEq, Bool.or_false, Bool.or_true, Bool.true_or, Bool.false_or, beq_self_eq_true, List.append_nil, List.nil_append, List.cons_append, own_v, own_o, gd_f, Option.bind_some, Option.map_some, evD, mthOf, varOf, set2, set3, pMth, pSet, Bop.runP, pAdd, pSub, pMul, pDiv, pMod, pPow, Cop.runP, pLt, pLe, pGt, pGe, pNot, pNeg, pIx, at_0, at_1, at_2, at_3, at_4, Blt.runP, pv1, pv2, pz1, pAbs, pItems, pSeq, pMax2, pMin2, wipeP, putP_nm, putP_tup, putsP_nil, putsP_cons, escF_at, pvF_at, pIts, loopP_cons, loopP_nil, lcP_n, lcP_c, lcS_t, lcS_f, pBls, pLst, nextL_nx, nextL_rt, finP, dPv, dPvs, List.map_cons, List.map_nil, List.replicate, List.length_cons, List.length_nil, Nat.reduceAdd, Nat.reduceSub, reduceIte, pAug, pMthE, pRev, pIsi, tyP, Ty.sub, pLen, zipP, Bool.false_eq_true, Bool.not_true, Bool.not_false, ne_eq, not_false_eq_true]
theorem s_times {n : Nat} (hn : 4 ≤ n) (k c d : Int) (hd : 1 ≤ d) : evPF false (Pr fnl) n 6 [.int k, wo c d] = some (lo (k * c) (1 * d)) := by
  obtain ⟨m, rfl⟩ : ∃ m, n = m + 1 := ⟨n - 1, by omega⟩
  rw [evPF_eq (fd := ⟨2, 2, b6⟩) rfl rfl]
  have h1 := s_product (n := m) (by omega) k 1 c d (by omega) hd
  generalize evPF false (Pr fnl) m = C at *
  simp only [wo] at h1
  simp only [b6, wo, evP_var, evP_int, evP_str, evP_bl, evP_non, evP_glob, evP_fnv, evP_bad, evP_tup, evP_lst, evP_bin, evP_neg, evP_cmp, evP_chain, evP_and, evP_or, evP_not, evP_ife, evP_ix, evP_slLo, evP_slHi, evP_slLH, evP_call, evP_callv, evP_blt, evP_isi, evP_mth, evP_rev, evP_lc, evXs_nil, evXs_cons, evI_nil, evTs_nil, evTs_cons, evPS_set, evPS_asg, evPS_par2, evPS_par3, evPS_sub, evPS_drop, evPS_ret, evPS_retN, evPS_ife, evPS_whl, evPS_for, evPS_aug, evPS_pass, evPS_brk, evPS_cont, evPS_raise, evPSs_nil, evPSs_cons, evI_one, seqP_nx, seqP_rt, seqP_bk, seqP_ct, slotP_0, slotP_s, set_0, set_s, set_0n, pv_val, pv_own, escP_val, escP_own, isV_var, isV_lst, isV_bin, isV_blt, isV_lo, isV_rev, isV_mth, isV_hi, isV_lh, isV_lc, optE_s, optE_n, truP_t, truP_f, frz_n, frz_c, fzS_v, fzS_o, fzS_n, esc_v, esc_f, escE, escEs, rmv, List.filter_cons, List.filter_nil, List.any_cons, List.any_nil, Nat.reduceBEq, Bool.or_false, Bool.or_true, Bool.true_or, Bool.false_or, beq_self_eq_true, List.append_nil, List.nil_append, List.cons_append, own_v, own_o, gd_f, Option.bind_some, Option.map_some, evD, mthOf, varOf, set2, set3, pMth, pSet, Bop.runP, pAdd, pSub, pMul, pDiv, pMod, pPow, Cop.runP, pLt, pLe, pGt, pGe, pNot, pNeg, pIx, at_0, at_1, at_2, at_3, at_4, Blt.runP, pv1, pv2, pz1, pAbs, pItems, pSeq, pMax2, pMin2, wipeP, putP_nm, putP_tup, putsP_nil, putsP_cons, escF_at, pvF_at, pIts, loopP_cons, loopP_nil, lcP_n, lcP_c, lcS_t, lcS_f, pBls, pLst, nextL_nx, nextL_rt, finP, dPv, dPvs, List.map_cons, List.map_nil, List.replicate, List.length_cons, List.length_nil, Nat.reduceAdd, Nat.reduceSub, reduceIte, pAug, pMthE, pRev, pIsi, tyP, Ty.sub, pLen, zipP, Bool.false_eq_true, Bool.not_true, Bool.not_false, ne_eq, not_false_eq_true, h1]
theorem s_ahead {n : Nat} (hn : 5 ≤ n) (x y a b px qx py qy : Int) (sl : Pv) (h1 : 1 ≤ qx) (h2 : 1 ≤ qy) : evPF false (Pr fnl) n 7 [.tup [wo x y, wo a b, sl], .tup [wo px qx, wo py qy]] = some (.tup [lo (ahN x y a b px qx py qy) (qx * qy), lo (asN x y a b px qx py qy) (qx * qy)]) := by
  obtain ⟨m, rfl⟩ : ∃ m, n = m + 1 := ⟨n - 1, by omega⟩
  rw [evPF_eq (fd := ⟨2, 9, b7⟩) rfl rfl]
  have q1 : 1 ≤ qx * 1 := by omega
  have q2 : 1 ≤ qy * 1 := by omega
  have pr : 1 ≤ nY (px * 1 - x * qx) (qx * 1) := nY_pos q1
  have pu : 1 ≤ nY (py * 1 - y * qy) (qy * 1) := nY_pos q2
  have k1 := s_lessened (n := m) (by omega) px qx x 1 h1 (by omega)
  have k2 := s_lessened (n := m) (by omega) py qy y 1 h2 (by omega)
  have k3 := s_times (n := m) (by omega) a (nX (px * 1 - x * qx) (qx * 1)) (nY (px * 1 - x * qx) (qx * 1)) pr
  have k4 := s_times (n := m) (by omega) b (nX (py * 1 - y * qy) (qy * 1)) (nY (py * 1 - y * qy) (qy * 1)) pu
  have k5 := s_times (n := m) (by omega) a (nX (py * 1 - y * qy) (qy * 1)) (nY (py * 1 - y * qy) (qy * 1)) pu
  have k6 := s_times (n := m) (by omega) b (nX (px * 1 - x * qx) (qx * 1)) (nY (px * 1 - x * qx) (qx * 1)) pr
  have k7 := s_summed (n := m) (by omega) (nX (a * nX (px * 1 - x * qx) (qx * 1)) (1 * nY (px * 1 - x * qx) (qx * 1))) (nY (a * nX (px * 1 - x * qx) (qx * 1)) (1 * nY (px * 1 - x * qx) (qx * 1))) (nX (b * nX (py * 1 - y * qy) (qy * 1)) (1 * nY (py * 1 - y * qy) (qy * 1))) (nY (b * nX (py * 1 - y * qy) (qy * 1)) (1 * nY (py * 1 - y * qy) (qy * 1))) (nY_pos (by omega)) (nY_pos (by omega))
  have k8 := s_lessened (n := m) (by omega) (nX (a * nX (py * 1 - y * qy) (qy * 1)) (1 * nY (py * 1 - y * qy) (qy * 1))) (nY (a * nX (py * 1 - y * qy) (qy * 1)) (1 * nY (py * 1 - y * qy) (qy * 1))) (nX (b * nX (px * 1 - x * qx) (qx * 1)) (1 * nY (px * 1 - x * qx) (qx * 1))) (nY (b * nX (px * 1 - x * qx) (qx * 1)) (1 * nY (px * 1 - x * qx) (qx * 1))) (nY_pos (by omega)) (nY_pos (by omega))
  rw [ahead_lo h1 h2] at k7
  rw [aside_lo h1 h2] at k8
  generalize evPF false (Pr fnl) m = C at *
  generalize lo (ahN x y a b px qx py qy) (qx * qy) = AA at *
  generalize lo (asN x y a b px qx py qy) (qx * qy) = BB at *
  simp only [lo_wo] at k1 k2 k3 k4 k5 k6
  simp only [wo] at k1 k2 k3 k4 k5 k6 k7 k8
  simp only [b7, wo, evP_var, evP_int, evP_str, evP_bl, evP_non, evP_glob, evP_fnv, evP_bad, evP_tup, evP_lst, evP_bin, evP_neg, evP_cmp, evP_chain, evP_and, evP_or, evP_not, evP_ife, evP_ix, evP_slLo, evP_slHi, evP_slLH, evP_call, evP_callv, evP_blt, evP_isi, evP_mth, evP_rev, evP_lc, evXs_nil, evXs_cons, evI_nil, evTs_nil, evTs_cons, evPS_set, evPS_asg, evPS_par2, evPS_par3, evPS_sub, evPS_drop, evPS_ret, evPS_retN, evPS_ife, evPS_whl, evPS_for, evPS_aug, evPS_pass, evPS_brk, evPS_cont, evPS_raise, evPSs_nil, evPSs_cons, evI_one, seqP_nx, seqP_rt, seqP_bk, seqP_ct, slotP_0, slotP_s, set_0, set_s, set_0n, pv_val, pv_own, escP_val, escP_own, isV_var, isV_lst, isV_bin, isV_blt, isV_lo, isV_rev, isV_mth, isV_hi, isV_lh, isV_lc, optE_s, optE_n, truP_t, truP_f, frz_n, frz_c, fzS_v, fzS_o, fzS_n, esc_v, esc_f, escE, escEs, rmv, List.filter_cons, List.filter_nil, List.any_cons, List.any_nil, Nat.reduceBEq, Bool.or_false, Bool.or_true, Bool.true_or, Bool.false_or, beq_self_eq_true, List.append_nil, List.nil_append, List.cons_append, own_v, own_o, gd_f, Option.bind_some, Option.map_some, evD, mthOf, varOf, set2, set3, pMth, pSet, Bop.runP, pAdd, pSub, pMul, pDiv, pMod, pPow, Cop.runP, pLt, pLe, pGt, pGe, pNot, pNeg, pIx, at_0, at_1, at_2, at_3, at_4, Blt.runP, pv1, pv2, pz1, pAbs, pItems, pSeq, pMax2, pMin2, wipeP, putP_nm, putP_tup, putsP_nil, putsP_cons, escF_at, pvF_at, pIts, loopP_cons, loopP_nil, lcP_n, lcP_c, lcS_t, lcS_f, pBls, pLst, nextL_nx, nextL_rt, finP, dPv, dPvs, List.map_cons, List.map_nil, List.replicate, List.length_cons, List.length_nil, Nat.reduceAdd, Nat.reduceSub, reduceIte, pAug, pMthE, pRev, pIsi, tyP, Ty.sub, pLen, zipP, Bool.false_eq_true, Bool.not_true, Bool.not_false, ne_eq, not_false_eq_true, k1, k2, k3, k4, k5, k6, k7, k8]
theorem s_sees {n : Nat} (hn : 6 ≤ n) (x y a b s t px qx py qy : Int) (ht : 1 ≤ t) (h1 : 1 ≤ qx) (h2 : 1 ≤ qy) : evPF false (Pr fnl) n 8 [.tup [wo x y, wo a b, wo s t], .tup [wo px qx, wo py qy]] = some (.bl (seenB x y a b s t px qx py qy)) := by
  obtain ⟨m, rfl⟩ : ∃ m, n = m + 1 := ⟨n - 1, by omega⟩
  rw [evPF_eq (fd := ⟨2, 4, b8⟩) rfl rfl]
  have hq := mpos h1 h2
  have k0 := s_ahead (n := m) (by omega) x y a b px qx py qy (wo s t) h1 h2
  have k1 := s_is_less (n := m) (by omega) (nX (ahN x y a b px qx py qy) (qx * qy)) (nY (ahN x y a b px qx py qy) (qx * qy)) 1 1
  have k2 := s_product (n := m) (by omega) s t (nX (ahN x y a b px qx py qy) (qx * qy)) (nY (ahN x y a b px qx py qy) (qx * qy)) ht (nY_pos hq)
  have k3 := s_is_less (n := m) (by omega) (nX (s * nX (ahN x y a b px qx py qy) (qx * qy)) (t * nY (ahN x y a b px qx py qy) (qx * qy))) (nY (s * nX (ahN x y a b px qx py qy) (qx * qy)) (t * nY (ahN x y a b px qx py qy) (qx * qy))) ((nX (asN x y a b px qx py qy) (qx * qy)).natAbs : Int) (nY (asN x y a b px qx py qy) (qx * qy))
  simp only [decide_eq_decide.mpr (seen_1 (x := x) (y := y) (a := a) (b := b) (px := px) (py := py) h1 h2)] at k1
  simp only [decide_eq_decide.mpr (seen_2 (s := s) (A := ahN x y a b px qx py qy) (B := asN x y a b px qx py qy) ht hq)] at k3
  unfold seenB
  generalize evPF false (Pr fnl) m = C at *
  simp only [lo_wo] at k0 k2
  generalize decide (ahN x y a b px qx py qy < qx * qy) = d1 at *
  generalize decide (s * ahN x y a b px qx py qy < ((asN x y a b px qx py qy).natAbs : Int) * t) = d2 at *
  simp only [wo] at k0 k1 k2 k3
  simp only [b8, wo, evP_var, evP_int, evP_str, evP_bl, evP_non, evP_glob, evP_fnv, evP_bad, evP_tup, evP_lst, evP_bin, evP_neg, evP_cmp, evP_chain, evP_and, evP_or, evP_not, evP_ife, evP_ix, evP_slLo, evP_slHi, evP_slLH, evP_call, evP_callv, evP_blt, evP_isi, evP_mth, evP_rev, evP_lc, evXs_nil, evXs_cons, evI_nil, evTs_nil, evTs_cons, evPS_set, evPS_asg, evPS_par2, evPS_par3, evPS_sub, evPS_drop, evPS_ret, evPS_retN, evPS_ife, evPS_whl, evPS_for, evPS_aug, evPS_pass, evPS_brk, evPS_cont, evPS_raise, evPSs_nil, evPSs_cons, evI_one, seqP_nx, seqP_rt, seqP_bk, seqP_ct, slotP_0, slotP_s, set_0, set_s, set_0n, pv_val, pv_own, escP_val, escP_own, isV_var, isV_lst, isV_bin, isV_blt, isV_lo, isV_rev, isV_mth, isV_hi, isV_lh, isV_lc, optE_s, optE_n, truP_t, truP_f, frz_n, frz_c, fzS_v, fzS_o, fzS_n, esc_v, esc_f, escE, escEs, rmv, List.filter_cons, List.filter_nil, List.any_cons, List.any_nil, Nat.reduceBEq, Bool.or_false, Bool.or_true, Bool.true_or, Bool.false_or, beq_self_eq_true, List.append_nil, List.nil_append, List.cons_append, own_v, own_o, gd_f, Option.bind_some, Option.map_some, evD, mthOf, varOf, set2, set3, pMth, pSet, Bop.runP, pAdd, pSub, pMul, pDiv, pMod, pPow, Cop.runP, pLt, pLe, pGt, pGe, pNot, pNeg, pIx, at_0, at_1, at_2, at_3, at_4, Blt.runP, pv1, pv2, pz1, pAbs, pItems, pSeq, pMax2, pMin2, wipeP, putP_nm, putP_tup, putsP_nil, putsP_cons, escF_at, pvF_at, pIts, loopP_cons, loopP_nil, lcP_n, lcP_c, lcS_t, lcS_f, pBls, pLst, nextL_nx, nextL_rt, finP, dPv, dPvs, List.map_cons, List.map_nil, List.replicate, List.length_cons, List.length_nil, Nat.reduceAdd, Nat.reduceSub, reduceIte, pAug, pMthE, pRev, pIsi, tyP, Ty.sub, pLen, zipP, Bool.false_eq_true, Bool.not_true, Bool.not_false, ne_eq, not_false_eq_true, k0, k1]
  cases d1
  · simp only [evP_var, evP_int, evP_str, evP_bl, evP_non, evP_glob, evP_fnv, evP_bad, evP_tup, evP_lst, evP_bin, evP_neg, evP_cmp, evP_chain, evP_and, evP_or, evP_not, evP_ife, evP_ix, evP_slLo, evP_slHi, evP_slLH, evP_call, evP_callv, evP_blt, evP_isi, evP_mth, evP_rev, evP_lc, evXs_nil, evXs_cons, evI_nil, evTs_nil, evTs_cons, evPS_set, evPS_asg, evPS_par2, evPS_par3, evPS_sub, evPS_drop, evPS_ret, evPS_retN, evPS_ife, evPS_whl, evPS_for, evPS_aug, evPS_pass, evPS_brk, evPS_cont, evPS_raise, evPSs_nil, evPSs_cons, evI_one, seqP_nx, seqP_rt, seqP_bk, seqP_ct, slotP_0, slotP_s, set_0, set_s, set_0n, pv_val, pv_own, escP_val, escP_own, isV_var, isV_lst, isV_bin, isV_blt, isV_lo, isV_rev, isV_mth, isV_hi, isV_lh, isV_lc, optE_s, optE_n, truP_t, truP_f, frz_n, frz_c, fzS_v, fzS_o, fzS_n, esc_v, esc_f, escE, escEs, rmv, List.filter_cons, List.filter_nil, List.any_cons, List.any_nil, Nat.reduceBEq, Bool.or_false, Bool.or_true, Bool.true_or, Bool.false_or, beq_self_eq_true, List.append_nil, List.nil_append, List.cons_append, own_v, own_o, gd_f, Option.bind_some, Option.map_some, evD, mthOf, varOf, set2, set3, pMth, pSet, Bop.runP, pAdd, pSub, pMul, pDiv, pMod, pPow, Cop.runP, pLt, pLe, pGt, pGe, pNot, pNeg, pIx, at_0, at_1, at_2, at_3, at_4, Blt.runP, pv1, pv2, pz1, pAbs, pItems, pSeq, pMax2, pMin2, wipeP, putP_nm, putP_tup, putsP_nil, putsP_cons, escF_at, pvF_at, pIts, loopP_cons, loopP_nil, lcP_n, lcP_c, lcS_t, lcS_f, pBls, pLst, nextL_nx, nextL_rt, finP, dPv, dPvs, List.map_cons, List.map_nil, List.replicate, List.length_cons, List.length_nil, Nat.reduceAdd, Nat.reduceSub, reduceIte, pAug, pMthE, pRev, pIsi, tyP, Ty.sub, pLen, zipP, Bool.false_eq_true, Bool.not_true, Bool.not_false, ne_eq, not_false_eq_true, ab_abs, k2, k3, Bool.not_false, Bool.true_and]
  · simp only [evP_var, evP_int, evP_str, evP_bl, evP_non, evP_glob, evP_fnv, evP_bad, evP_tup, evP_lst, evP_bin, evP_neg, evP_cmp, evP_chain, evP_and, evP_or, evP_not, evP_ife, evP_ix, evP_slLo, evP_slHi, evP_slLH, evP_call, evP_callv, evP_blt, evP_isi, evP_mth, evP_rev, evP_lc, evXs_nil, evXs_cons, evI_nil, evTs_nil, evTs_cons, evPS_set, evPS_asg, evPS_par2, evPS_par3, evPS_sub, evPS_drop, evPS_ret, evPS_retN, evPS_ife, evPS_whl, evPS_for, evPS_aug, evPS_pass, evPS_brk, evPS_cont, evPS_raise, evPSs_nil, evPSs_cons, evI_one, seqP_nx, seqP_rt, seqP_bk, seqP_ct, slotP_0, slotP_s, set_0, set_s, set_0n, pv_val, pv_own, escP_val, escP_own, isV_var, isV_lst, isV_bin, isV_blt, isV_lo, isV_rev, isV_mth, isV_hi, isV_lh, isV_lc, optE_s, optE_n, truP_t, truP_f, frz_n, frz_c, fzS_v, fzS_o, fzS_n, esc_v, esc_f, escE, escEs, rmv, List.filter_cons, List.filter_nil, List.any_cons, List.any_nil, Nat.reduceBEq, Bool.or_false, Bool.or_true, Bool.true_or, Bool.false_or, beq_self_eq_true, List.append_nil, List.nil_append, List.cons_append, own_v, own_o, gd_f, Option.bind_some, Option.map_some, evD, mthOf, varOf, set2, set3, pMth, pSet, Bop.runP, pAdd, pSub, pMul, pDiv, pMod, pPow, Cop.runP, pLt, pLe, pGt, pGe, pNot, pNeg, pIx, at_0, at_1, at_2, at_3, at_4, Blt.runP, pv1, pv2, pz1, pAbs, pItems, pSeq, pMax2, pMin2, wipeP, putP_nm, putP_tup, putsP_nil, putsP_cons, escF_at, pvF_at, pIts, loopP_cons, loopP_nil, lcP_n, lcP_c, lcS_t, lcS_f, pBls, pLst, nextL_nx, nextL_rt, finP, dPv, dPvs, List.map_cons, List.map_nil, List.replicate, List.length_cons, List.length_nil, Nat.reduceAdd, Nat.reduceSub, reduceIte, pAug, pMthE, pRev, pIsi, tyP, Ty.sub, pLen, zipP, Bool.false_eq_true, Bool.not_true, Bool.not_false, ne_eq, not_false_eq_true, Bool.not_true, Bool.false_and]
theorem s_lowest {g : Bool} {n : Nat} (hn : 1 ≤ n) (x y : Int) (hy : 1 ≤ y) (hg : g = true → y.natAbs.log2 < 9000) : evPF g (Pr fnl) n 14 [.int x, .int y] = some (lo x y) := by
  obtain ⟨m, rfl⟩ : ∃ m, n = m + 1 := ⟨n - 1, by omega⟩
  rw [evPF_eq (fd := ⟨2, 4, b14⟩) rfl rfl]
  generalize evPF g (Pr fnl) m = C
  have w := gcdF (c := pvF (evP g C (.cmp .gt (.var 3) (.int 0)))) (b := evPSs g C [.par2 2 3 (.var 3) (.bin .mod (.var 2) (.var 3))]) (E := fun a b => [some (.val (.int x)), some (.val (.int y)), some (.val (.int a)), some (.val (.int b))])
    (fun x y => by
      simp only [evP_var, evP_int, evP_str, evP_bl, evP_non, evP_glob, evP_fnv, evP_bad, evP_tup, evP_lst, evP_bin, evP_neg, evP_cmp, evP_chain, evP_and, evP_or, evP_not, evP_ife, evP_ix, evP_slLo, evP_slHi, evP_slLH, evP_call, evP_callv, evP_blt, evP_isi, evP_mth, evP_rev, evP_lc, evXs_nil, evXs_cons, evI_nil, evTs_nil, evTs_cons, evPS_set, evPS_asg, evPS_par2, evPS_par3, evPS_sub, evPS_drop, evPS_ret, evPS_retN, evPS_ife, evPS_whl, evPS_for, evPS_aug, evPS_pass, evPS_brk, evPS_cont, evPS_raise, evPSs_nil, evPSs_cons, evI_one, seqP_nx, seqP_rt, seqP_bk, seqP_ct, slotP_0, slotP_s, set_0, set_s, set_0n, pv_val, pv_own, escP_val, escP_own, isV_var, isV_lst, isV_bin, isV_blt, isV_lo, isV_rev, isV_mth, isV_hi, isV_lh, isV_lc, optE_s, optE_n, truP_t, truP_f, frz_n, frz_c, fzS_v, fzS_o, fzS_n, esc_v, esc_f, escE, escEs, rmv, List.filter_cons, List.filter_nil, List.any_cons, List.any_nil, Nat.reduceBEq, Bool.or_false, Bool.or_true, Bool.true_or, Bool.false_or, beq_self_eq_true, List.append_nil, List.nil_append, List.cons_append, own_v, own_o, gd_f, Option.bind_some, Option.map_some, evD, mthOf, varOf, set2, set3, pMth, pSet, Bop.runP, pAdd, pSub, pMul, pDiv, pMod, pPow, Cop.runP, pLt, pLe, pGt, pGe, pNot, pNeg, pIx, at_0, at_1, at_2, at_3, at_4, Blt.runP, pv1, pv2, pz1, pAbs, pItems, pSeq, pMax2, pMin2, wipeP, putP_nm, putP_tup, putsP_nil, putsP_cons, escF_at, pvF_at, pIts, loopP_cons, loopP_nil, lcP_n, lcP_c, lcS_t, lcS_f, pBls, pLst, nextL_nx, nextL_rt, finP, dPv, dPvs, List.map_cons, List.map_nil, List.replicate, List.length_cons, List.length_nil, Nat.reduceAdd, Nat.reduceSub, reduceIte, pAug, pMthE, pRev, pIsi, tyP, Ty.sub, pLen, zipP, Bool.false_eq_true, Bool.not_true, Bool.not_false, ne_eq, not_false_eq_true]
      congr 2
      exact decide_eq_decide.mpr (by omega))
    (fun x y hy => by
      have h1 : (y : Int) ≠ 0 := by omega
      have h2 : (0 : Int) < y := by omega
      have h3 : y ≠ 0 := by omega
      cases g <;> simp [evPSs, evPS, evXs, evP, slotP, Bop.runP, pMod, seqP, frzs, escEs, escE, escP, isVarE, Pz.pv, set2, gd, h1, h2, h3, hy]) x.natAbs y.natAbs
  have g0 := gcd_pos (x := x) hy
  have e : (y.natAbs : Int) = y := by omega
  rw [e] at w
  have g1 : ((Nat.gcd x.natAbs y.natAbs : Nat) : Int) = (Int.gcd x y : Nat) := rfl
  rw [g1] at w
  have gd1 : g = true → divOk (Int.gcd x y : Nat) := fun h => divOk_of g0 (gcd_le hy) (hg h)
  simp only [b14, evP_var, evP_int, evP_str, evP_bl, evP_non, evP_glob, evP_fnv, evP_bad, evP_tup, evP_lst, evP_bin, evP_neg, evP_cmp, evP_chain, evP_and, evP_or, evP_not, evP_ife, evP_ix, evP_slLo, evP_slHi, evP_slLH, evP_call, evP_callv, evP_blt, evP_isi, evP_mth, evP_rev, evP_lc, evXs_nil, evXs_cons, evI_nil, evTs_nil, evTs_cons, evPS_set, evPS_asg, evPS_par2, evPS_par3, evPS_sub, evPS_drop, evPS_ret, evPS_retN, evPS_ife, evPS_whl, evPS_for, evPS_aug, evPS_pass, evPS_brk, evPS_cont, evPS_raise, evPSs_nil, evPSs_cons, evI_one, seqP_nx, seqP_rt, seqP_bk, seqP_ct, slotP_0, slotP_s, set_0, set_s, set_0n, pv_val, pv_own, escP_val, escP_own, isV_var, isV_lst, isV_bin, isV_blt, isV_lo, isV_rev, isV_mth, isV_hi, isV_lh, isV_lc, optE_s, optE_n, truP_t, truP_f, frz_n, frz_c, fzS_v, fzS_o, fzS_n, esc_v, esc_f, escE, escEs, rmv, List.filter_cons, List.filter_nil, List.any_cons, List.any_nil, Nat.reduceBEq, Bool.or_false, Bool.or_true, Bool.true_or, Bool.false_or, beq_self_eq_true, List.append_nil, List.nil_append, List.cons_append, own_v, own_o, gd_f, Option.bind_some, Option.map_some, evD, mthOf, varOf, set2, set3, pMth, pSet, Bop.runP, pAdd, pSub, pMul, pDiv, pMod, pPow, Cop.runP, pLt, pLe, pGt, pGe, pNot, pNeg, pIx, at_0, at_1, at_2, at_3, at_4, Blt.runP, pv1, pv2, pz1, pAbs, pItems, pSeq, pMax2, pMin2, wipeP, putP_nm, putP_tup, putsP_nil, putsP_cons, escF_at, pvF_at, pIts, loopP_cons, loopP_nil, lcP_n, lcP_c, lcS_t, lcS_f, pBls, pLst, nextL_nx, nextL_rt, finP, dPv, dPvs, List.map_cons, List.map_nil, List.replicate, List.length_cons, List.length_nil, Nat.reduceAdd, Nat.reduceSub, reduceIte, pAug, pMthE, pRev, pIsi, tyP, Ty.sub, pLen, zipP, Bool.false_eq_true, Bool.not_true, Bool.not_false, ne_eq, not_false_eq_true, ab_abs]
  rw [w]
  have k : ∀ z : Option Pz, gd g (decide (divOk (Int.gcd x y : Nat))) z = z := fun z => by
    cases g with
    | false => rfl
    | true => rw [decide_eq_true (gd1 rfl)]; rfl
  simp only [evP_var, evP_int, evP_str, evP_bl, evP_non, evP_glob, evP_fnv, evP_bad, evP_tup, evP_lst, evP_bin, evP_neg, evP_cmp, evP_chain, evP_and, evP_or, evP_not, evP_ife, evP_ix, evP_slLo, evP_slHi, evP_slLH, evP_call, evP_callv, evP_blt, evP_isi, evP_mth, evP_rev, evP_lc, evXs_nil, evXs_cons, evI_nil, evTs_nil, evTs_cons, evPS_set, evPS_asg, evPS_par2, evPS_par3, evPS_sub, evPS_drop, evPS_ret, evPS_retN, evPS_ife, evPS_whl, evPS_for, evPS_aug, evPS_pass, evPS_brk, evPS_cont, evPS_raise, evPSs_nil, evPSs_cons, evI_one, seqP_nx, seqP_rt, seqP_bk, seqP_ct, slotP_0, slotP_s, set_0, set_s, set_0n, pv_val, pv_own, escP_val, escP_own, isV_var, isV_lst, isV_bin, isV_blt, isV_lo, isV_rev, isV_mth, isV_hi, isV_lh, isV_lc, optE_s, optE_n, truP_t, truP_f, frz_n, frz_c, fzS_v, fzS_o, fzS_n, esc_v, esc_f, escE, escEs, rmv, List.filter_cons, List.filter_nil, List.any_cons, List.any_nil, Nat.reduceBEq, Bool.or_false, Bool.or_true, Bool.true_or, Bool.false_or, beq_self_eq_true, List.append_nil, List.nil_append, List.cons_append, own_v, own_o, gd_f, Option.bind_some, Option.map_some, evD, mthOf, varOf, set2, set3, pMth, pSet, Bop.runP, pAdd, pSub, pMul, pDiv, pMod, pPow, Cop.runP, pLt, pLe, pGt, pGe, pNot, pNeg, pIx, at_0, at_1, at_2, at_3, at_4, Blt.runP, pv1, pv2, pz1, pAbs, pItems, pSeq, pMax2, pMin2, wipeP, putP_nm, putP_tup, putsP_nil, putsP_cons, escF_at, pvF_at, pIts, loopP_cons, loopP_nil, lcP_n, lcP_c, lcS_t, lcS_f, pBls, pLst, nextL_nx, nextL_rt, finP, dPv, dPvs, List.map_cons, List.map_nil, List.replicate, List.length_cons, List.length_nil, Nat.reduceAdd, Nat.reduceSub, reduceIte, pAug, pMthE, pRev, pIsi, tyP, Ty.sub, pLen, zipP, Bool.false_eq_true, Bool.not_true, Bool.not_false, ne_eq, not_false_eq_true, k, if_pos g0, LINE]
  cases g <;> rfl
theorem s_reduced {g : Bool} {n : Nat} (hn : 1 ≤ n) (x y : Int) (hg : g = true → x.natAbs.log2 < 9000 ∧ y.natAbs.log2 < 9000) : evPF g (Pr fnl) n 13 [.int x, .int y] = some (if Int.gcd x y = 0 then wo 1 0 else lo x y) := by
  obtain ⟨m, rfl⟩ : ∃ m, n = m + 1 := ⟨n - 1, by omega⟩
  rw [evPF_eq (fd := ⟨2, 4, b13⟩) rfl rfl]
  generalize evPF g (Pr fnl) m = C
  have w := gcdF (c := pvF (evP g C (.cmp .gt (.var 3) (.int 0)))) (b := evPSs g C [.par2 2 3 (.var 3) (.bin .mod (.var 2) (.var 3))]) (E := fun a b => [some (.val (.int x)), some (.val (.int y)), some (.val (.int a)), some (.val (.int b))])
    (fun x y => by
      simp only [evP_var, evP_int, evP_str, evP_bl, evP_non, evP_glob, evP_fnv, evP_bad, evP_tup, evP_lst, evP_bin, evP_neg, evP_cmp, evP_chain, evP_and, evP_or, evP_not, evP_ife, evP_ix, evP_slLo, evP_slHi, evP_slLH, evP_call, evP_callv, evP_blt, evP_isi, evP_mth, evP_rev, evP_lc, evXs_nil, evXs_cons, evI_nil, evTs_nil, evTs_cons, evPS_set, evPS_asg, evPS_par2, evPS_par3, evPS_sub, evPS_drop, evPS_ret, evPS_retN, evPS_ife, evPS_whl, evPS_for, evPS_aug, evPS_pass, evPS_brk, evPS_cont, evPS_raise, evPSs_nil, evPSs_cons, evI_one, seqP_nx, seqP_rt, seqP_bk, seqP_ct, slotP_0, slotP_s, set_0, set_s, set_0n, pv_val, pv_own, escP_val, escP_own, isV_var, isV_lst, isV_bin, isV_blt, isV_lo, isV_rev, isV_mth, isV_hi, isV_lh, isV_lc, optE_s, optE_n, truP_t, truP_f, frz_n, frz_c, fzS_v, fzS_o, fzS_n, esc_v, esc_f, escE, escEs, rmv, List.filter_cons, List.filter_nil, List.any_cons, List.any_nil, Nat.reduceBEq, Bool.or_false, Bool.or_true, Bool.true_or, Bool.false_or, beq_self_eq_true, List.append_nil, List.nil_append, List.cons_append, own_v, own_o, gd_f, Option.bind_some, Option.map_some, evD, mthOf, varOf, set2, set3, pMth, pSet, Bop.runP, pAdd, pSub, pMul, pDiv, pMod, pPow, Cop.runP, pLt, pLe, pGt, pGe, pNot, pNeg, pIx, at_0, at_1, at_2, at_3, at_4, Blt.runP, pv1, pv2, pz1, pAbs, pItems, pSeq, pMax2, pMin2, wipeP, putP_nm, putP_tup, putsP_nil, putsP_cons, escF_at, pvF_at, pIts, loopP_cons, loopP_nil, lcP_n, lcP_c, lcS_t, lcS_f, pBls, pLst, nextL_nx, nextL_rt, finP, dPv, dPvs, List.map_cons, List.map_nil, List.replicate, List.length_cons, List.length_nil, Nat.reduceAdd, Nat.reduceSub, reduceIte, pAug, pMthE, pRev, pIsi, tyP, Ty.sub, pLen, zipP, Bool.false_eq_true, Bool.not_true, Bool.not_false, ne_eq, not_false_eq_true]
      congr 2
      exact decide_eq_decide.mpr (by omega))
    (fun x y hy => by
      have h1 : (y : Int) ≠ 0 := by omega
      have h2 : (0 : Int) < y := by omega
      have h3 : y ≠ 0 := by omega
      cases g <;> simp [evPSs, evPS, evXs, evP, slotP, Bop.runP, pMod, seqP, frzs, escEs, escE, escP, isVarE, Pz.pv, set2, gd, h1, h2, h3, hy]) x.natAbs y.natAbs
  have g1 : ((Nat.gcd x.natAbs y.natAbs : Nat) : Int) = (Int.gcd x y : Nat) := rfl
  rw [g1] at w
  simp only [b13, evP_var, evP_int, evP_str, evP_bl, evP_non, evP_glob, evP_fnv, evP_bad, evP_tup, evP_lst, evP_bin, evP_neg, evP_cmp, evP_chain, evP_and, evP_or, evP_not, evP_ife, evP_ix, evP_slLo, evP_slHi, evP_slLH, evP_call, evP_callv, evP_blt, evP_isi, evP_mth, evP_rev, evP_lc, evXs_nil, evXs_cons, evI_nil, evTs_nil, evTs_cons, evPS_set, evPS_asg, evPS_par2, evPS_par3, evPS_sub, evPS_drop, evPS_ret, evPS_retN, evPS_ife, evPS_whl, evPS_for, evPS_aug, evPS_pass, evPS_brk, evPS_cont, evPS_raise, evPSs_nil, evPSs_cons, evI_one, seqP_nx, seqP_rt, seqP_bk, seqP_ct, slotP_0, slotP_s, set_0, set_s, set_0n, pv_val, pv_own, escP_val, escP_own, isV_var, isV_lst, isV_bin, isV_blt, isV_lo, isV_rev, isV_mth, isV_hi, isV_lh, isV_lc, optE_s, optE_n, truP_t, truP_f, frz_n, frz_c, fzS_v, fzS_o, fzS_n, esc_v, esc_f, escE, escEs, rmv, List.filter_cons, List.filter_nil, List.any_cons, List.any_nil, Nat.reduceBEq, Bool.or_false, Bool.or_true, Bool.true_or, Bool.false_or, beq_self_eq_true, List.append_nil, List.nil_append, List.cons_append, own_v, own_o, gd_f, Option.bind_some, Option.map_some, evD, mthOf, varOf, set2, set3, pMth, pSet, Bop.runP, pAdd, pSub, pMul, pDiv, pMod, pPow, Cop.runP, pLt, pLe, pGt, pGe, pNot, pNeg, pIx, at_0, at_1, at_2, at_3, at_4, Blt.runP, pv1, pv2, pz1, pAbs, pItems, pSeq, pMax2, pMin2, wipeP, putP_nm, putP_tup, putsP_nil, putsP_cons, escF_at, pvF_at, pIts, loopP_cons, loopP_nil, lcP_n, lcP_c, lcS_t, lcS_f, pBls, pLst, nextL_nx, nextL_rt, finP, dPv, dPvs, List.map_cons, List.map_nil, List.replicate, List.length_cons, List.length_nil, Nat.reduceAdd, Nat.reduceSub, reduceIte, pAug, pMthE, pRev, pIsi, tyP, Ty.sub, pLen, zipP, Bool.false_eq_true, Bool.not_true, Bool.not_false, ne_eq, not_false_eq_true, ab_abs]
  rw [w]
  by_cases h0 : Int.gcd x y = 0
  · have e0 : decide (((Int.gcd x y : Nat) : Int) = 0) = true := by simp [h0]
    simp only [evP_var, evP_int, evP_str, evP_bl, evP_non, evP_glob, evP_fnv, evP_bad, evP_tup, evP_lst, evP_bin, evP_neg, evP_cmp, evP_chain, evP_and, evP_or, evP_not, evP_ife, evP_ix, evP_slLo, evP_slHi, evP_slLH, evP_call, evP_callv, evP_blt, evP_isi, evP_mth, evP_rev, evP_lc, evXs_nil, evXs_cons, evI_nil, evTs_nil, evTs_cons, evPS_set, evPS_asg, evPS_par2, evPS_par3, evPS_sub, evPS_drop, evPS_ret, evPS_retN, evPS_ife, evPS_whl, evPS_for, evPS_aug, evPS_pass, evPS_brk, evPS_cont, evPS_raise, evPSs_nil, evPSs_cons, evI_one, seqP_nx, seqP_rt, seqP_bk, seqP_ct, slotP_0, slotP_s, set_0, set_s, set_0n, pv_val, pv_own, escP_val, escP_own, isV_var, isV_lst, isV_bin, isV_blt, isV_lo, isV_rev, isV_mth, isV_hi, isV_lh, isV_lc, optE_s, optE_n, truP_t, truP_f, frz_n, frz_c, fzS_v, fzS_o, fzS_n, esc_v, esc_f, escE, escEs, rmv, List.filter_cons, List.filter_nil, List.any_cons, List.any_nil, Nat.reduceBEq, Bool.or_false, Bool.or_true, Bool.true_or, Bool.false_or, beq_self_eq_true, List.append_nil, List.nil_append, List.cons_append, own_v, own_o, gd_f, Option.bind_some, Option.map_some, evD, mthOf, varOf, set2, set3, pMth, pSet, Bop.runP, pAdd, pSub, pMul, pDiv, pMod, pPow, Cop.runP, pLt, pLe, pGt, pGe, pNot, pNeg, pIx, at_0, at_1, at_2, at_3, at_4, Blt.runP, pv1, pv2, pz1, pAbs, pItems, pSeq, pMax2, pMin2, wipeP, putP_nm, putP_tup, putsP_nil, putsP_cons, escF_at, pvF_at, pIts, loopP_cons, loopP_nil, lcP_n, lcP_c, lcS_t, lcS_f, pBls, pLst, nextL_nx, nextL_rt, finP, dPv, dPvs, List.map_cons, List.map_nil, List.replicate, List.length_cons, List.length_nil, Nat.reduceAdd, Nat.reduceSub, reduceIte, pAug, pMthE, pRev, pIsi, tyP, Ty.sub, pLen, zipP, Bool.false_eq_true, Bool.not_true, Bool.not_false, ne_eq, not_false_eq_true, pEq, e0, if_pos h0, wo, LINE]
    cases g <;> rfl
  · have e0 : decide (((Int.gcd x y : Nat) : Int) = 0) = false := by simp [h0]
    have g0 : 0 < ((Int.gcd x y : Nat) : Int) := by omega
    have gd1 : g = true → divOk (Int.gcd x y : Nat) := fun h => by
      obtain ⟨k1, k2⟩ := hg h
      refine ⟨by omega, ?_⟩
      by_cases hx : x = 0
      · subst hx
        simpa using k2
      · have : Int.gcd x y ≤ x.natAbs := Nat.gcd_le_left _ (Int.natAbs_pos.mpr hx)
        exact Nat.lt_of_le_of_lt (log2_mono this) k1
    have k : ∀ z : Option Pz, gd g (decide (divOk (Int.gcd x y : Nat))) z = z := fun z => by
      cases g with
      | false => rfl
      | true => rw [decide_eq_true (gd1 rfl)]; rfl
    simp only [evP_var, evP_int, evP_str, evP_bl, evP_non, evP_glob, evP_fnv, evP_bad, evP_tup, evP_lst, evP_bin, evP_neg, evP_cmp, evP_chain, evP_and, evP_or, evP_not, evP_ife, evP_ix, evP_slLo, evP_slHi, evP_slLH, evP_call, evP_callv, evP_blt, evP_isi, evP_mth, evP_rev, evP_lc, evXs_nil, evXs_cons, evI_nil, evTs_nil, evTs_cons, evPS_set, evPS_asg, evPS_par2, evPS_par3, evPS_sub, evPS_drop, evPS_ret, evPS_retN, evPS_ife, evPS_whl, evPS_for, evPS_aug, evPS_pass, evPS_brk, evPS_cont, evPS_raise, evPSs_nil, evPSs_cons, evI_one, seqP_nx, seqP_rt, seqP_bk, seqP_ct, slotP_0, slotP_s, set_0, set_s, set_0n, pv_val, pv_own, escP_val, escP_own, isV_var, isV_lst, isV_bin, isV_blt, isV_lo, isV_rev, isV_mth, isV_hi, isV_lh, isV_lc, optE_s, optE_n, truP_t, truP_f, frz_n, frz_c, fzS_v, fzS_o, fzS_n, esc_v, esc_f, escE, escEs, rmv, List.filter_cons, List.filter_nil, List.any_cons, List.any_nil, Nat.reduceBEq, Bool.or_false, Bool.or_true, Bool.true_or, Bool.false_or, beq_self_eq_true, List.append_nil, List.nil_append, List.cons_append, own_v, own_o, gd_f, Option.bind_some, Option.map_some, evD, mthOf, varOf, set2, set3, pMth, pSet, Bop.runP, pAdd, pSub, pMul, pDiv, pMod, pPow, Cop.runP, pLt, pLe, pGt, pGe, pNot, pNeg, pIx, at_0, at_1, at_2, at_3, at_4, Blt.runP, pv1, pv2, pz1, pAbs, pItems, pSeq, pMax2, pMin2, wipeP, putP_nm, putP_tup, putsP_nil, putsP_cons, escF_at, pvF_at, pIts, loopP_cons, loopP_nil, lcP_n, lcP_c, lcS_t, lcS_f, pBls, pLst, nextL_nx, nextL_rt, finP, dPv, dPvs, List.map_cons, List.map_nil, List.replicate, List.length_cons, List.length_nil, Nat.reduceAdd, Nat.reduceSub, reduceIte, pAug, pMthE, pRev, pIsi, tyP, Ty.sub, pLen, zipP, Bool.false_eq_true, Bool.not_true, Bool.not_false, ne_eq, not_false_eq_true, pEq, e0, k, if_pos g0, if_neg h0, LINE]
    cases g <;> rfl
end K30
end Ev
namespace Ev
namespace K30
open PySem PySem.Spec PyProof.Rows L2
theorem s_lsees {n : Nat} (hn : 1 ≤ n) (x y a b s t px qx py qy : Int) : evPF false (Pr fnl) n 22 [encS x y a b s t, encP px qx py qy] = some (.bl (seenB x y a b s t px qx py qy)) := by
  obtain ⟨m, rfl⟩ : ∃ m, n = m + 1 := ⟨n - 1, by omega⟩
  rw [evPF_eq (fd := ⟨2, 12, b22⟩) rfl rfl]
  have e1 : a * ((px - x * qx) * qy) + b * ((py - y * qy) * qx) = ahN x y a b px qx py qy := by unfold ahN; grind
  have e2 : a * ((py - y * qy) * qx) - b * ((px - x * qx) * qy) = asN x y a b px qx py qy := by unfold asN; grind
  have k3 : seenB x y a b s t px qx py qy = (decide (qx * qy ≤ ahN x y a b px qx py qy) && decide (t * ((asN x y a b px qx py qy).natAbs : Int) ≤ s * ahN x y a b px qx py qy)) := by
    rw [seen_own]; rfl
  rw [k3]
  generalize evPF false (Pr fnl) m = C at *
  simp only [b22, encS, encP, wo, evP_var, evP_int, evP_str, evP_bl, evP_non, evP_glob, evP_fnv, evP_bad, evP_tup, evP_lst, evP_bin, evP_neg, evP_cmp, evP_chain, evP_and, evP_or, evP_not, evP_ife, evP_ix, evP_slLo, evP_slHi, evP_slLH, evP_call, evP_callv, evP_blt, evP_isi, evP_mth, evP_rev, evP_lc, evXs_nil, evXs_cons, evI_nil, evTs_nil, evTs_cons, evPS_set, evPS_asg, evPS_par2, evPS_par3, evPS_sub, evPS_drop, evPS_ret, evPS_retN, evPS_ife, evPS_whl, evPS_for, evPS_aug, evPS_pass, evPS_brk, evPS_cont, evPS_raise, evPSs_nil, evPSs_cons, evI_one, seqP_nx, seqP_rt, seqP_bk, seqP_ct, slotP_0, slotP_s, set_0, set_s, set_0n, pv_val, pv_own, escP_val, escP_own, isV_var, isV_lst, isV_bin, isV_blt, isV_lo, isV_rev, isV_mth, isV_hi, isV_lh, isV_lc, optE_s, optE_n, truP_t, truP_f, frz_n, frz_c, fzS_v, fzS_o, fzS_n, esc_v, esc_f, escE, escEs, rmv, List.filter_cons, List.filter_nil, List.any_cons, List.any_nil, Nat.reduceBEq, Bool.or_false, Bool.or_true, Bool.true_or, Bool.false_or, beq_self_eq_true, List.append_nil, List.nil_append, List.cons_append, own_v, own_o, gd_f, Option.bind_some, Option.map_some, evD, mthOf, varOf, set2, set3, pMth, pSet, Bop.runP, pAdd, pSub, pMul, pDiv, pMod, pPow, Cop.runP, pLt, pLe, pGt, pGe, pNot, pNeg, pIx, at_0, at_1, at_2, at_3, at_4, Blt.runP, pv1, pv2, pz1, pAbs, pItems, pSeq, pMax2, pMin2, wipeP, putP_nm, putP_tup, putsP_nil, putsP_cons, escF_at, pvF_at, pIts, loopP_cons, loopP_nil, lcP_n, lcP_c, lcS_t, lcS_f, pBls, pLst, nextL_nx, nextL_rt, finP, dPv, dPvs, List.map_cons, List.map_nil, List.replicate, List.length_cons, List.length_nil, Nat.reduceAdd, Nat.reduceSub, reduceIte, pAug, pMthE, pRev, pIsi, tyP, Ty.sub, pLen, zipP, Bool.false_eq_true, Bool.not_true, Bool.not_false, ne_eq, not_false_eq_true, e1, e2, ab_abs]
  cases decide (qx * qy ≤ ahN x y a b px qx py qy)
  · simp only [evP_var, evP_int, evP_str, evP_bl, evP_non, evP_glob, evP_fnv, evP_bad, evP_tup, evP_lst, evP_bin, evP_neg, evP_cmp, evP_chain, evP_and, evP_or, evP_not, evP_ife, evP_ix, evP_slLo, evP_slHi, evP_slLH, evP_call, evP_callv, evP_blt, evP_isi, evP_mth, evP_rev, evP_lc, evXs_nil, evXs_cons, evI_nil, evTs_nil, evTs_cons, evPS_set, evPS_asg, evPS_par2, evPS_par3, evPS_sub, evPS_drop, evPS_ret, evPS_retN, evPS_ife, evPS_whl, evPS_for, evPS_aug, evPS_pass, evPS_brk, evPS_cont, evPS_raise, evPSs_nil, evPSs_cons, evI_one, seqP_nx, seqP_rt, seqP_bk, seqP_ct, slotP_0, slotP_s, set_0, set_s, set_0n, pv_val, pv_own, escP_val, escP_own, isV_var, isV_lst, isV_bin, isV_blt, isV_lo, isV_rev, isV_mth, isV_hi, isV_lh, isV_lc, optE_s, optE_n, truP_t, truP_f, frz_n, frz_c, fzS_v, fzS_o, fzS_n, esc_v, esc_f, escE, escEs, rmv, List.filter_cons, List.filter_nil, List.any_cons, List.any_nil, Nat.reduceBEq, Bool.or_false, Bool.or_true, Bool.true_or, Bool.false_or, beq_self_eq_true, List.append_nil, List.nil_append, List.cons_append, own_v, own_o, gd_f, Option.bind_some, Option.map_some, evD, mthOf, varOf, set2, set3, pMth, pSet, Bop.runP, pAdd, pSub, pMul, pDiv, pMod, pPow, Cop.runP, pLt, pLe, pGt, pGe, pNot, pNeg, pIx, at_0, at_1, at_2, at_3, at_4, Blt.runP, pv1, pv2, pz1, pAbs, pItems, pSeq, pMax2, pMin2, wipeP, putP_nm, putP_tup, putsP_nil, putsP_cons, escF_at, pvF_at, pIts, loopP_cons, loopP_nil, lcP_n, lcP_c, lcS_t, lcS_f, pBls, pLst, nextL_nx, nextL_rt, finP, dPv, dPvs, List.map_cons, List.map_nil, List.replicate, List.length_cons, List.length_nil, Nat.reduceAdd, Nat.reduceSub, reduceIte, pAug, pMthE, pRev, pIsi, tyP, Ty.sub, pLen, zipP, Bool.false_eq_true, Bool.not_true, Bool.not_false, ne_eq, not_false_eq_true, Bool.false_and]
  · simp only [evP_var, evP_int, evP_str, evP_bl, evP_non, evP_glob, evP_fnv, evP_bad, evP_tup, evP_lst, evP_bin, evP_neg, evP_cmp, evP_chain, evP_and, evP_or, evP_not, evP_ife, evP_ix, evP_slLo, evP_slHi, evP_slLH, evP_call, evP_callv, evP_blt, evP_isi, evP_mth, evP_rev, evP_lc, evXs_nil, evXs_cons, evI_nil, evTs_nil, evTs_cons, evPS_set, evPS_asg, evPS_par2, evPS_par3, evPS_sub, evPS_drop, evPS_ret, evPS_retN, evPS_ife, evPS_whl, evPS_for, evPS_aug, evPS_pass, evPS_brk, evPS_cont, evPS_raise, evPSs_nil, evPSs_cons, evI_one, seqP_nx, seqP_rt, seqP_bk, seqP_ct, slotP_0, slotP_s, set_0, set_s, set_0n, pv_val, pv_own, escP_val, escP_own, isV_var, isV_lst, isV_bin, isV_blt, isV_lo, isV_rev, isV_mth, isV_hi, isV_lh, isV_lc, optE_s, optE_n, truP_t, truP_f, frz_n, frz_c, fzS_v, fzS_o, fzS_n, esc_v, esc_f, escE, escEs, rmv, List.filter_cons, List.filter_nil, List.any_cons, List.any_nil, Nat.reduceBEq, Bool.or_false, Bool.or_true, Bool.true_or, Bool.false_or, beq_self_eq_true, List.append_nil, List.nil_append, List.cons_append, own_v, own_o, gd_f, Option.bind_some, Option.map_some, evD, mthOf, varOf, set2, set3, pMth, pSet, Bop.runP, pAdd, pSub, pMul, pDiv, pMod, pPow, Cop.runP, pLt, pLe, pGt, pGe, pNot, pNeg, pIx, at_0, at_1, at_2, at_3, at_4, Blt.runP, pv1, pv2, pz1, pAbs, pItems, pSeq, pMax2, pMin2, wipeP, putP_nm, putP_tup, putsP_nil, putsP_cons, escF_at, pvF_at, pIts, loopP_cons, loopP_nil, lcP_n, lcP_c, lcS_t, lcS_f, pBls, pLst, nextL_nx, nextL_rt, finP, dPv, dPvs, List.map_cons, List.map_nil, List.replicate, List.length_cons, List.length_nil, Nat.reduceAdd, Nat.reduceSub, reduceIte, pAug, pMthE, pRev, pIsi, tyP, Ty.sub, pLen, zipP, Bool.false_eq_true, Bool.not_true, Bool.not_false, ne_eq, not_false_eq_true, Bool.true_and]
theorem s_is_true {n : Nat} (hn : 7 ≤ n) {q : Pv} {ts : List Pv} (hq : SigV q) (ht : ∀ p ∈ ts, PtV p) : evPF false (Pr fnl) n 9 [q, .tup ts] = some (.bl (ts.any fun p => seenV q p)) := by
  obtain ⟨m, rfl⟩ : ∃ m, n = m + 1 := ⟨n - 1, by omega⟩
  rw [evPF_eq (fd := ⟨2, 3, b9⟩) rfl rfl]
  obtain ⟨x, y, a, b, s, t, rfl, ht1⟩ := hq
  have k1 : ∀ p ∈ ts, evPF false (Pr fnl) m 8 [encS x y a b s t, p] = some (.bl (seenV (encS x y a b s t) p)) := fun p hp => by
    obtain ⟨px, qx, py, qy, rfl, h1, h2⟩ := ht p hp
    exact s_sees (n := m) (by omega) x y a b s t px qx py qy ht1 h1 h2
  generalize evPF false (Pr fnl) m = C at *
  generalize encS x y a b s t = S at *
  simp only [b9, evP_var, evP_int, evP_str, evP_bl, evP_non, evP_glob, evP_fnv, evP_bad, evP_tup, evP_lst, evP_bin, evP_neg, evP_cmp, evP_chain, evP_and, evP_or, evP_not, evP_ife, evP_ix, evP_slLo, evP_slHi, evP_slLH, evP_call, evP_callv, evP_blt, evP_isi, evP_mth, evP_rev, evP_lc, evXs_nil, evXs_cons, evI_nil, evTs_nil, evTs_cons, evPS_set, evPS_asg, evPS_par2, evPS_par3, evPS_sub, evPS_drop, evPS_ret, evPS_retN, evPS_ife, evPS_whl, evPS_for, evPS_aug, evPS_pass, evPS_brk, evPS_cont, evPS_raise, evPSs_nil, evPSs_cons, evI_one, seqP_nx, seqP_rt, seqP_bk, seqP_ct, slotP_0, slotP_s, set_0, set_s, set_0n, pv_val, pv_own, escP_val, escP_own, isV_var, isV_lst, isV_bin, isV_blt, isV_lo, isV_rev, isV_mth, isV_hi, isV_lh, isV_lc, optE_s, optE_n, truP_t, truP_f, frz_n, frz_c, fzS_v, fzS_o, fzS_n, esc_v, esc_f, escE, escEs, rmv, List.filter_cons, List.filter_nil, List.any_cons, List.any_nil, Nat.reduceBEq, Bool.or_false, Bool.or_true, Bool.true_or, Bool.false_or, beq_self_eq_true, List.append_nil, List.nil_append, List.cons_append, own_v, own_o, gd_f, Option.bind_some, Option.map_some, evD, mthOf, varOf, set2, set3, pMth, pSet, Bop.runP, pAdd, pSub, pMul, pDiv, pMod, pPow, Cop.runP, pLt, pLe, pGt, pGe, pNot, pNeg, pIx, at_0, at_1, at_2, at_3, at_4, Blt.runP, pv1, pv2, pz1, pAbs, pItems, pSeq, pMax2, pMin2, wipeP, putP_nm, putP_tup, putsP_nil, putsP_cons, escF_at, pvF_at, pIts, loopP_cons, loopP_nil, lcP_n, lcP_c, lcS_t, lcS_f, pBls, pLst, nextL_nx, nextL_rt, finP, dPv, dPvs, List.map_cons, List.map_nil, List.replicate, List.length_cons, List.length_nil, Nat.reduceAdd, Nat.reduceSub, reduceIte, pAug, pMthE, pRev, pIsi, tyP, Ty.sub, pLen, zipP, Bool.false_eq_true, Bool.not_true, Bool.not_false, ne_eq, not_false_eq_true]
  rw [lcP_each (f := fun p => .bl (seenV S p)) fun p hp => ⟨_, by rw [putP_nm], by simp only [evP_var, evP_int, evP_str, evP_bl, evP_non, evP_glob, evP_fnv, evP_bad, evP_tup, evP_lst, evP_bin, evP_neg, evP_cmp, evP_chain, evP_and, evP_or, evP_not, evP_ife, evP_ix, evP_slLo, evP_slHi, evP_slLH, evP_call, evP_callv, evP_blt, evP_isi, evP_mth, evP_rev, evP_lc, evXs_nil, evXs_cons, evI_nil, evTs_nil, evTs_cons, evPS_set, evPS_asg, evPS_par2, evPS_par3, evPS_sub, evPS_drop, evPS_ret, evPS_retN, evPS_ife, evPS_whl, evPS_for, evPS_aug, evPS_pass, evPS_brk, evPS_cont, evPS_raise, evPSs_nil, evPSs_cons, evI_one, seqP_nx, seqP_rt, seqP_bk, seqP_ct, slotP_0, slotP_s, set_0, set_s, set_0n, pv_val, pv_own, escP_val, escP_own, isV_var, isV_lst, isV_bin, isV_blt, isV_lo, isV_rev, isV_mth, isV_hi, isV_lh, isV_lc, optE_s, optE_n, truP_t, truP_f, frz_n, frz_c, fzS_v, fzS_o, fzS_n, esc_v, esc_f, escE, escEs, rmv, List.filter_cons, List.filter_nil, List.any_cons, List.any_nil, Nat.reduceBEq, Bool.or_false, Bool.or_true, Bool.true_or, Bool.false_or, beq_self_eq_true, List.append_nil, List.nil_append, List.cons_append, own_v, own_o, gd_f, Option.bind_some, Option.map_some, evD, mthOf, varOf, set2, set3, pMth, pSet, Bop.runP, pAdd, pSub, pMul, pDiv, pMod, pPow, Cop.runP, pLt, pLe, pGt, pGe, pNot, pNeg, pIx, at_0, at_1, at_2, at_3, at_4, Blt.runP, pv1, pv2, pz1, pAbs, pItems, pSeq, pMax2, pMin2, wipeP, putP_nm, putP_tup, putsP_nil, putsP_cons, escF_at, pvF_at, pIts, loopP_cons, loopP_nil, lcP_n, lcP_c, lcS_t, lcS_f, pBls, pLst, nextL_nx, nextL_rt, finP, dPv, dPvs, List.map_cons, List.map_nil, List.replicate, List.length_cons, List.length_nil, Nat.reduceAdd, Nat.reduceSub, reduceIte, pAug, pMthE, pRev, pIsi, tyP, Ty.sub, pLen, zipP, Bool.false_eq_true, Bool.not_true, Bool.not_false, ne_eq, not_false_eq_true], by simp only [evP_var, evP_int, evP_str, evP_bl, evP_non, evP_glob, evP_fnv, evP_bad, evP_tup, evP_lst, evP_bin, evP_neg, evP_cmp, evP_chain, evP_and, evP_or, evP_not, evP_ife, evP_ix, evP_slLo, evP_slHi, evP_slLH, evP_call, evP_callv, evP_blt, evP_isi, evP_mth, evP_rev, evP_lc, evXs_nil, evXs_cons, evI_nil, evTs_nil, evTs_cons, evPS_set, evPS_asg, evPS_par2, evPS_par3, evPS_sub, evPS_drop, evPS_ret, evPS_retN, evPS_ife, evPS_whl, evPS_for, evPS_aug, evPS_pass, evPS_brk, evPS_cont, evPS_raise, evPSs_nil, evPSs_cons, evI_one, seqP_nx, seqP_rt, seqP_bk, seqP_ct, slotP_0, slotP_s, set_0, set_s, set_0n, pv_val, pv_own, escP_val, escP_own, isV_var, isV_lst, isV_bin, isV_blt, isV_lo, isV_rev, isV_mth, isV_hi, isV_lh, isV_lc, optE_s, optE_n, truP_t, truP_f, frz_n, frz_c, fzS_v, fzS_o, fzS_n, esc_v, esc_f, escE, escEs, rmv, List.filter_cons, List.filter_nil, List.any_cons, List.any_nil, Nat.reduceBEq, Bool.or_false, Bool.or_true, Bool.true_or, Bool.false_or, beq_self_eq_true, List.append_nil, List.nil_append, List.cons_append, own_v, own_o, gd_f, Option.bind_some, Option.map_some, evD, mthOf, varOf, set2, set3, pMth, pSet, Bop.runP, pAdd, pSub, pMul, pDiv, pMod, pPow, Cop.runP, pLt, pLe, pGt, pGe, pNot, pNeg, pIx, at_0, at_1, at_2, at_3, at_4, Blt.runP, pv1, pv2, pz1, pAbs, pItems, pSeq, pMax2, pMin2, wipeP, putP_nm, putP_tup, putsP_nil, putsP_cons, escF_at, pvF_at, pIts, loopP_cons, loopP_nil, lcP_n, lcP_c, lcS_t, lcS_f, pBls, pLst, nextL_nx, nextL_rt, finP, dPv, dPvs, List.map_cons, List.map_nil, List.replicate, List.length_cons, List.length_nil, Nat.reduceAdd, Nat.reduceSub, reduceIte, pAug, pMthE, pRev, pIsi, tyP, Ty.sub, pLen, zipP, Bool.false_eq_true, Bool.not_true, Bool.not_false, ne_eq, not_false_eq_true, k1 p hp]⟩]
  simp only [evP_var, evP_int, evP_str, evP_bl, evP_non, evP_glob, evP_fnv, evP_bad, evP_tup, evP_lst, evP_bin, evP_neg, evP_cmp, evP_chain, evP_and, evP_or, evP_not, evP_ife, evP_ix, evP_slLo, evP_slHi, evP_slLH, evP_call, evP_callv, evP_blt, evP_isi, evP_mth, evP_rev, evP_lc, evXs_nil, evXs_cons, evI_nil, evTs_nil, evTs_cons, evPS_set, evPS_asg, evPS_par2, evPS_par3, evPS_sub, evPS_drop, evPS_ret, evPS_retN, evPS_ife, evPS_whl, evPS_for, evPS_aug, evPS_pass, evPS_brk, evPS_cont, evPS_raise, evPSs_nil, evPSs_cons, evI_one, seqP_nx, seqP_rt, seqP_bk, seqP_ct, slotP_0, slotP_s, set_0, set_s, set_0n, pv_val, pv_own, escP_val, escP_own, isV_var, isV_lst, isV_bin, isV_blt, isV_lo, isV_rev, isV_mth, isV_hi, isV_lh, isV_lc, optE_s, optE_n, truP_t, truP_f, frz_n, frz_c, fzS_v, fzS_o, fzS_n, esc_v, esc_f, escE, escEs, rmv, List.filter_cons, List.filter_nil, List.any_cons, List.any_nil, Nat.reduceBEq, Bool.or_false, Bool.or_true, Bool.true_or, Bool.false_or, beq_self_eq_true, List.append_nil, List.nil_append, List.cons_append, own_v, own_o, gd_f, Option.bind_some, Option.map_some, evD, mthOf, varOf, set2, set3, pMth, pSet, Bop.runP, pAdd, pSub, pMul, pDiv, pMod, pPow, Cop.runP, pLt, pLe, pGt, pGe, pNot, pNeg, pIx, at_0, at_1, at_2, at_3, at_4, Blt.runP, pv1, pv2, pz1, pAbs, pItems, pSeq, pMax2, pMin2, wipeP, putP_nm, putP_tup, putsP_nil, putsP_cons, escF_at, pvF_at, pIts, loopP_cons, loopP_nil, lcP_n, lcP_c, lcS_t, lcS_f, pBls, pLst, nextL_nx, nextL_rt, finP, dPv, dPvs, List.map_cons, List.map_nil, List.replicate, List.length_cons, List.length_nil, Nat.reduceAdd, Nat.reduceSub, reduceIte, pAug, pMthE, pRev, pIsi, tyP, Ty.sub, pLen, zipP, Bool.false_eq_true, Bool.not_true, Bool.not_false, ne_eq, not_false_eq_true, pBls_map, List.any_map]
  rfl
theorem s_makes {n : Nat} (hn : 8 ≤ n) {ls ts : List Pv} (hs : ∀ q ∈ ls, SigV q) (ht : ∀ p ∈ ts, PtV p) : evPF false (Pr fnl) n 10 [.tup ls, .tup ts] = some (.bl (trueV ls ts)) := by
  obtain ⟨m, rfl⟩ : ∃ m, n = m + 1 := ⟨n - 1, by omega⟩
  rw [evPF_eq (fd := ⟨2, 3, b10⟩) rfl rfl]
  have k1 : ∀ q ∈ ls, evPF false (Pr fnl) m 9 [q, .tup ts] = some (.bl (ts.any fun p => seenV q p)) := fun q hq => s_is_true (by omega) (hs q hq) ht
  generalize evPF false (Pr fnl) m = C at *
  simp only [b10, evP_var, evP_int, evP_str, evP_bl, evP_non, evP_glob, evP_fnv, evP_bad, evP_tup, evP_lst, evP_bin, evP_neg, evP_cmp, evP_chain, evP_and, evP_or, evP_not, evP_ife, evP_ix, evP_slLo, evP_slHi, evP_slLH, evP_call, evP_callv, evP_blt, evP_isi, evP_mth, evP_rev, evP_lc, evXs_nil, evXs_cons, evI_nil, evTs_nil, evTs_cons, evPS_set, evPS_asg, evPS_par2, evPS_par3, evPS_sub, evPS_drop, evPS_ret, evPS_retN, evPS_ife, evPS_whl, evPS_for, evPS_aug, evPS_pass, evPS_brk, evPS_cont, evPS_raise, evPSs_nil, evPSs_cons, evI_one, seqP_nx, seqP_rt, seqP_bk, seqP_ct, slotP_0, slotP_s, set_0, set_s, set_0n, pv_val, pv_own, escP_val, escP_own, isV_var, isV_lst, isV_bin, isV_blt, isV_lo, isV_rev, isV_mth, isV_hi, isV_lh, isV_lc, optE_s, optE_n, truP_t, truP_f, frz_n, frz_c, fzS_v, fzS_o, fzS_n, esc_v, esc_f, escE, escEs, rmv, List.filter_cons, List.filter_nil, List.any_cons, List.any_nil, Nat.reduceBEq, Bool.or_false, Bool.or_true, Bool.true_or, Bool.false_or, beq_self_eq_true, List.append_nil, List.nil_append, List.cons_append, own_v, own_o, gd_f, Option.bind_some, Option.map_some, evD, mthOf, varOf, set2, set3, pMth, pSet, Bop.runP, pAdd, pSub, pMul, pDiv, pMod, pPow, Cop.runP, pLt, pLe, pGt, pGe, pNot, pNeg, pIx, at_0, at_1, at_2, at_3, at_4, Blt.runP, pv1, pv2, pz1, pAbs, pItems, pSeq, pMax2, pMin2, wipeP, putP_nm, putP_tup, putsP_nil, putsP_cons, escF_at, pvF_at, pIts, loopP_cons, loopP_nil, lcP_n, lcP_c, lcS_t, lcS_f, pBls, pLst, nextL_nx, nextL_rt, finP, dPv, dPvs, List.map_cons, List.map_nil, List.replicate, List.length_cons, List.length_nil, Nat.reduceAdd, Nat.reduceSub, reduceIte, pAug, pMthE, pRev, pIsi, tyP, Ty.sub, pLen, zipP, Bool.false_eq_true, Bool.not_true, Bool.not_false, ne_eq, not_false_eq_true]
  rw [lcP_each (f := fun q => .bl (ts.any fun p => seenV q p)) fun q hq => ⟨_, by rw [putP_nm], by simp only [evP_var, evP_int, evP_str, evP_bl, evP_non, evP_glob, evP_fnv, evP_bad, evP_tup, evP_lst, evP_bin, evP_neg, evP_cmp, evP_chain, evP_and, evP_or, evP_not, evP_ife, evP_ix, evP_slLo, evP_slHi, evP_slLH, evP_call, evP_callv, evP_blt, evP_isi, evP_mth, evP_rev, evP_lc, evXs_nil, evXs_cons, evI_nil, evTs_nil, evTs_cons, evPS_set, evPS_asg, evPS_par2, evPS_par3, evPS_sub, evPS_drop, evPS_ret, evPS_retN, evPS_ife, evPS_whl, evPS_for, evPS_aug, evPS_pass, evPS_brk, evPS_cont, evPS_raise, evPSs_nil, evPSs_cons, evI_one, seqP_nx, seqP_rt, seqP_bk, seqP_ct, slotP_0, slotP_s, set_0, set_s, set_0n, pv_val, pv_own, escP_val, escP_own, isV_var, isV_lst, isV_bin, isV_blt, isV_lo, isV_rev, isV_mth, isV_hi, isV_lh, isV_lc, optE_s, optE_n, truP_t, truP_f, frz_n, frz_c, fzS_v, fzS_o, fzS_n, esc_v, esc_f, escE, escEs, rmv, List.filter_cons, List.filter_nil, List.any_cons, List.any_nil, Nat.reduceBEq, Bool.or_false, Bool.or_true, Bool.true_or, Bool.false_or, beq_self_eq_true, List.append_nil, List.nil_append, List.cons_append, own_v, own_o, gd_f, Option.bind_some, Option.map_some, evD, mthOf, varOf, set2, set3, pMth, pSet, Bop.runP, pAdd, pSub, pMul, pDiv, pMod, pPow, Cop.runP, pLt, pLe, pGt, pGe, pNot, pNeg, pIx, at_0, at_1, at_2, at_3, at_4, Blt.runP, pv1, pv2, pz1, pAbs, pItems, pSeq, pMax2, pMin2, wipeP, putP_nm, putP_tup, putsP_nil, putsP_cons, escF_at, pvF_at, pIts, loopP_cons, loopP_nil, lcP_n, lcP_c, lcS_t, lcS_f, pBls, pLst, nextL_nx, nextL_rt, finP, dPv, dPvs, List.map_cons, List.map_nil, List.replicate, List.length_cons, List.length_nil, Nat.reduceAdd, Nat.reduceSub, reduceIte, pAug, pMthE, pRev, pIsi, tyP, Ty.sub, pLen, zipP, Bool.false_eq_true, Bool.not_true, Bool.not_false, ne_eq, not_false_eq_true], by simp only [evP_var, evP_int, evP_str, evP_bl, evP_non, evP_glob, evP_fnv, evP_bad, evP_tup, evP_lst, evP_bin, evP_neg, evP_cmp, evP_chain, evP_and, evP_or, evP_not, evP_ife, evP_ix, evP_slLo, evP_slHi, evP_slLH, evP_call, evP_callv, evP_blt, evP_isi, evP_mth, evP_rev, evP_lc, evXs_nil, evXs_cons, evI_nil, evTs_nil, evTs_cons, evPS_set, evPS_asg, evPS_par2, evPS_par3, evPS_sub, evPS_drop, evPS_ret, evPS_retN, evPS_ife, evPS_whl, evPS_for, evPS_aug, evPS_pass, evPS_brk, evPS_cont, evPS_raise, evPSs_nil, evPSs_cons, evI_one, seqP_nx, seqP_rt, seqP_bk, seqP_ct, slotP_0, slotP_s, set_0, set_s, set_0n, pv_val, pv_own, escP_val, escP_own, isV_var, isV_lst, isV_bin, isV_blt, isV_lo, isV_rev, isV_mth, isV_hi, isV_lh, isV_lc, optE_s, optE_n, truP_t, truP_f, frz_n, frz_c, fzS_v, fzS_o, fzS_n, esc_v, esc_f, escE, escEs, rmv, List.filter_cons, List.filter_nil, List.any_cons, List.any_nil, Nat.reduceBEq, Bool.or_false, Bool.or_true, Bool.true_or, Bool.false_or, beq_self_eq_true, List.append_nil, List.nil_append, List.cons_append, own_v, own_o, gd_f, Option.bind_some, Option.map_some, evD, mthOf, varOf, set2, set3, pMth, pSet, Bop.runP, pAdd, pSub, pMul, pDiv, pMod, pPow, Cop.runP, pLt, pLe, pGt, pGe, pNot, pNeg, pIx, at_0, at_1, at_2, at_3, at_4, Blt.runP, pv1, pv2, pz1, pAbs, pItems, pSeq, pMax2, pMin2, wipeP, putP_nm, putP_tup, putsP_nil, putsP_cons, escF_at, pvF_at, pIts, loopP_cons, loopP_nil, lcP_n, lcP_c, lcS_t, lcS_f, pBls, pLst, nextL_nx, nextL_rt, finP, dPv, dPvs, List.map_cons, List.map_nil, List.replicate, List.length_cons, List.length_nil, Nat.reduceAdd, Nat.reduceSub, reduceIte, pAug, pMthE, pRev, pIsi, tyP, Ty.sub, pLen, zipP, Bool.false_eq_true, Bool.not_true, Bool.not_false, ne_eq, not_false_eq_true, k1 q hq]⟩]
  simp only [evP_var, evP_int, evP_str, evP_bl, evP_non, evP_glob, evP_fnv, evP_bad, evP_tup, evP_lst, evP_bin, evP_neg, evP_cmp, evP_chain, evP_and, evP_or, evP_not, evP_ife, evP_ix, evP_slLo, evP_slHi, evP_slLH, evP_call, evP_callv, evP_blt, evP_isi, evP_mth, evP_rev, evP_lc, evXs_nil, evXs_cons, evI_nil, evTs_nil, evTs_cons, evPS_set, evPS_asg, evPS_par2, evPS_par3, evPS_sub, evPS_drop, evPS_ret, evPS_retN, evPS_ife, evPS_whl, evPS_for, evPS_aug, evPS_pass, evPS_brk, evPS_cont, evPS_raise, evPSs_nil, evPSs_cons, evI_one, seqP_nx, seqP_rt, seqP_bk, seqP_ct, slotP_0, slotP_s, set_0, set_s, set_0n, pv_val, pv_own, escP_val, escP_own, isV_var, isV_lst, isV_bin, isV_blt, isV_lo, isV_rev, isV_mth, isV_hi, isV_lh, isV_lc, optE_s, optE_n, truP_t, truP_f, frz_n, frz_c, fzS_v, fzS_o, fzS_n, esc_v, esc_f, escE, escEs, rmv, List.filter_cons, List.filter_nil, List.any_cons, List.any_nil, Nat.reduceBEq, Bool.or_false, Bool.or_true, Bool.true_or, Bool.false_or, beq_self_eq_true, List.append_nil, List.nil_append, List.cons_append, own_v, own_o, gd_f, Option.bind_some, Option.map_some, evD, mthOf, varOf, set2, set3, pMth, pSet, Bop.runP, pAdd, pSub, pMul, pDiv, pMod, pPow, Cop.runP, pLt, pLe, pGt, pGe, pNot, pNeg, pIx, at_0, at_1, at_2, at_3, at_4, Blt.runP, pv1, pv2, pz1, pAbs, pItems, pSeq, pMax2, pMin2, wipeP, putP_nm, putP_tup, putsP_nil, putsP_cons, escF_at, pvF_at, pIts, loopP_cons, loopP_nil, lcP_n, lcP_c, lcS_t, lcS_f, pBls, pLst, nextL_nx, nextL_rt, finP, dPv, dPvs, List.map_cons, List.map_nil, List.replicate, List.length_cons, List.length_nil, Nat.reduceAdd, Nat.reduceSub, reduceIte, pAug, pMthE, pRev, pIsi, tyP, Ty.sub, pLen, zipP, Bool.false_eq_true, Bool.not_true, Bool.not_false, ne_eq, not_false_eq_true, pBls_map, List.all_map]
  rfl
theorem s_ltrue {n : Nat} (hn : 2 ≤ n) {ls ts : List Pv} (hs : ∀ q ∈ ls, SigV q) (ht : ∀ p ∈ ts, PtV p) : evPF false (Pr fnl) n 23 [.tup ls, .tup ts] = some (.bl (trueV ls ts)) := by
  obtain ⟨m, rfl⟩ : ∃ m, n = m + 1 := ⟨n - 1, by omega⟩
  rw [evPF_eq (fd := ⟨2, 4, b23⟩) rfl rfl]
  have k1 : ∀ q ∈ ls, ∀ p ∈ ts, evPF false (Pr fnl) m 22 [q, p] = some (.bl (seenV q p)) := fun q hq p hp => by
    obtain ⟨x, y, a, b, s, t, rfl, ht1⟩ := hs q hq
    obtain ⟨px, qx, py, qy, rfl, h1, h2⟩ := ht p hp
    exact s_lsees (n := m) (by omega) x y a b s t px qx py qy
  generalize evPF false (Pr fnl) m = C at *
  simp only [b23, evP_var, evP_int, evP_str, evP_bl, evP_non, evP_glob, evP_fnv, evP_bad, evP_tup, evP_lst, evP_bin, evP_neg, evP_cmp, evP_chain, evP_and, evP_or, evP_not, evP_ife, evP_ix, evP_slLo, evP_slHi, evP_slLH, evP_call, evP_callv, evP_blt, evP_isi, evP_mth, evP_rev, evP_lc, evXs_nil, evXs_cons, evI_nil, evTs_nil, evTs_cons, evPS_set, evPS_asg, evPS_par2, evPS_par3, evPS_sub, evPS_drop, evPS_ret, evPS_retN, evPS_ife, evPS_whl, evPS_for, evPS_aug, evPS_pass, evPS_brk, evPS_cont, evPS_raise, evPSs_nil, evPSs_cons, evI_one, seqP_nx, seqP_rt, seqP_bk, seqP_ct, slotP_0, slotP_s, set_0, set_s, set_0n, pv_val, pv_own, escP_val, escP_own, isV_var, isV_lst, isV_bin, isV_blt, isV_lo, isV_rev, isV_mth, isV_hi, isV_lh, isV_lc, optE_s, optE_n, truP_t, truP_f, frz_n, frz_c, fzS_v, fzS_o, fzS_n, esc_v, esc_f, escE, escEs, rmv, List.filter_cons, List.filter_nil, List.any_cons, List.any_nil, Nat.reduceBEq, Bool.or_false, Bool.or_true, Bool.true_or, Bool.false_or, beq_self_eq_true, List.append_nil, List.nil_append, List.cons_append, own_v, own_o, gd_f, Option.bind_some, Option.map_some, evD, mthOf, varOf, set2, set3, pMth, pSet, Bop.runP, pAdd, pSub, pMul, pDiv, pMod, pPow, Cop.runP, pLt, pLe, pGt, pGe, pNot, pNeg, pIx, at_0, at_1, at_2, at_3, at_4, Blt.runP, pv1, pv2, pz1, pAbs, pItems, pSeq, pMax2, pMin2, wipeP, putP_nm, putP_tup, putsP_nil, putsP_cons, escF_at, pvF_at, pIts, loopP_cons, loopP_nil, lcP_n, lcP_c, lcS_t, lcS_f, pBls, pLst, nextL_nx, nextL_rt, finP, dPv, dPvs, List.map_cons, List.map_nil, List.replicate, List.length_cons, List.length_nil, Nat.reduceAdd, Nat.reduceSub, reduceIte, pAug, pMthE, pRev, pIsi, tyP, Ty.sub, pLen, zipP, Bool.false_eq_true, Bool.not_true, Bool.not_false, ne_eq, not_false_eq_true]
  obtain ⟨e, h1, _⟩ := loopP_ret (I := fun env => ∃ a c d, env = [a, some (.val (.tup ts)), c, d]) (f := fun q => !(ts.any fun p => seenV q p)) (q := .bl false) (ps := ls) (env := [some (.val (.tup ls)), some (.val (.tup ts)), none, none]) (tgt := (T.nm 2).putP)
    (b := evPSs false C [.ife (.cmp .eq (.lc [3] (.nm 3) .seq [.var 1] [.call 22 [.var 2, .var 3]] (.var 3)) (.lst [])) [.ret (.bl false)] []])
    ⟨_, _, _, rfl⟩ (fun q hq env ⟨a, c, d, he⟩ => by
      subst he
      have lc : lcP (T.nm 3).putP (evI false C [.call 22 [.var 2, .var 3]]) (escF (.var 3) (evP false C (.var 3))) (wipeP [a, some (.val (.tup ts)), some (.val q), d] [3]) ts = some (ts.filter fun p => seenV q p) :=
        lcP_filter fun p hp => ⟨_, by rw [putP_nm], by simp only [evP_var, evP_int, evP_str, evP_bl, evP_non, evP_glob, evP_fnv, evP_bad, evP_tup, evP_lst, evP_bin, evP_neg, evP_cmp, evP_chain, evP_and, evP_or, evP_not, evP_ife, evP_ix, evP_slLo, evP_slHi, evP_slLH, evP_call, evP_callv, evP_blt, evP_isi, evP_mth, evP_rev, evP_lc, evXs_nil, evXs_cons, evI_nil, evTs_nil, evTs_cons, evPS_set, evPS_asg, evPS_par2, evPS_par3, evPS_sub, evPS_drop, evPS_ret, evPS_retN, evPS_ife, evPS_whl, evPS_for, evPS_aug, evPS_pass, evPS_brk, evPS_cont, evPS_raise, evPSs_nil, evPSs_cons, evI_one, seqP_nx, seqP_rt, seqP_bk, seqP_ct, slotP_0, slotP_s, set_0, set_s, set_0n, pv_val, pv_own, escP_val, escP_own, isV_var, isV_lst, isV_bin, isV_blt, isV_lo, isV_rev, isV_mth, isV_hi, isV_lh, isV_lc, optE_s, optE_n, truP_t, truP_f, frz_n, frz_c, fzS_v, fzS_o, fzS_n, esc_v, esc_f, escE, escEs, rmv, List.filter_cons, List.filter_nil, List.any_cons, List.any_nil, Nat.reduceBEq, Bool.or_false, Bool.or_true, Bool.true_or, Bool.false_or, beq_self_eq_true, List.append_nil, List.nil_append, List.cons_append, own_v, own_o, gd_f, Option.bind_some, Option.map_some, evD, mthOf, varOf, set2, set3, pMth, pSet, Bop.runP, pAdd, pSub, pMul, pDiv, pMod, pPow, Cop.runP, pLt, pLe, pGt, pGe, pNot, pNeg, pIx, at_0, at_1, at_2, at_3, at_4, Blt.runP, pv1, pv2, pz1, pAbs, pItems, pSeq, pMax2, pMin2, wipeP, putP_nm, putP_tup, putsP_nil, putsP_cons, escF_at, pvF_at, pIts, loopP_cons, loopP_nil, lcP_n, lcP_c, lcS_t, lcS_f, pBls, pLst, nextL_nx, nextL_rt, finP, dPv, dPvs, List.map_cons, List.map_nil, List.replicate, List.length_cons, List.length_nil, Nat.reduceAdd, Nat.reduceSub, reduceIte, pAug, pMthE, pRev, pIsi, tyP, Ty.sub, pLen, zipP, Bool.false_eq_true, Bool.not_true, Bool.not_false, ne_eq, not_false_eq_true, k1 q hq p hp], by simp only [evP_var, evP_int, evP_str, evP_bl, evP_non, evP_glob, evP_fnv, evP_bad, evP_tup, evP_lst, evP_bin, evP_neg, evP_cmp, evP_chain, evP_and, evP_or, evP_not, evP_ife, evP_ix, evP_slLo, evP_slHi, evP_slLH, evP_call, evP_callv, evP_blt, evP_isi, evP_mth, evP_rev, evP_lc, evXs_nil, evXs_cons, evI_nil, evTs_nil, evTs_cons, evPS_set, evPS_asg, evPS_par2, evPS_par3, evPS_sub, evPS_drop, evPS_ret, evPS_retN, evPS_ife, evPS_whl, evPS_for, evPS_aug, evPS_pass, evPS_brk, evPS_cont, evPS_raise, evPSs_nil, evPSs_cons, evI_one, seqP_nx, seqP_rt, seqP_bk, seqP_ct, slotP_0, slotP_s, set_0, set_s, set_0n, pv_val, pv_own, escP_val, escP_own, isV_var, isV_lst, isV_bin, isV_blt, isV_lo, isV_rev, isV_mth, isV_hi, isV_lh, isV_lc, optE_s, optE_n, truP_t, truP_f, frz_n, frz_c, fzS_v, fzS_o, fzS_n, esc_v, esc_f, escE, escEs, rmv, List.filter_cons, List.filter_nil, List.any_cons, List.any_nil, Nat.reduceBEq, Bool.or_false, Bool.or_true, Bool.true_or, Bool.false_or, beq_self_eq_true, List.append_nil, List.nil_append, List.cons_append, own_v, own_o, gd_f, Option.bind_some, Option.map_some, evD, mthOf, varOf, set2, set3, pMth, pSet, Bop.runP, pAdd, pSub, pMul, pDiv, pMod, pPow, Cop.runP, pLt, pLe, pGt, pGe, pNot, pNeg, pIx, at_0, at_1, at_2, at_3, at_4, Blt.runP, pv1, pv2, pz1, pAbs, pItems, pSeq, pMax2, pMin2, wipeP, putP_nm, putP_tup, putsP_nil, putsP_cons, escF_at, pvF_at, pIts, loopP_cons, loopP_nil, lcP_n, lcP_c, lcS_t, lcS_f, pBls, pLst, nextL_nx, nextL_rt, finP, dPv, dPvs, List.map_cons, List.map_nil, List.replicate, List.length_cons, List.length_nil, Nat.reduceAdd, Nat.reduceSub, reduceIte, pAug, pMthE, pRev, pIsi, tyP, Ty.sub, pLen, zipP, Bool.false_eq_true, Bool.not_true, Bool.not_false, ne_eq, not_false_eq_true]⟩
      refine ⟨_, ?e2, by rw [putP_nm], ?_, ?_⟩
      case e2 => exact [a, some (.val (.tup ts)), some (.val q), d]
      · simp only [evP_var, evP_int, evP_str, evP_bl, evP_non, evP_glob, evP_fnv, evP_bad, evP_tup, evP_lst, evP_bin, evP_neg, evP_cmp, evP_chain, evP_and, evP_or, evP_not, evP_ife, evP_ix, evP_slLo, evP_slHi, evP_slLH, evP_call, evP_callv, evP_blt, evP_isi, evP_mth, evP_rev, evP_lc, evXs_nil, evXs_cons, evI_nil, evTs_nil, evTs_cons, evPS_set, evPS_asg, evPS_par2, evPS_par3, evPS_sub, evPS_drop, evPS_ret, evPS_retN, evPS_ife, evPS_whl, evPS_for, evPS_aug, evPS_pass, evPS_brk, evPS_cont, evPS_raise, evPSs_nil, evPSs_cons, evI_one, seqP_nx, seqP_rt, seqP_bk, seqP_ct, slotP_0, slotP_s, set_0, set_s, set_0n, pv_val, pv_own, escP_val, escP_own, isV_var, isV_lst, isV_bin, isV_blt, isV_lo, isV_rev, isV_mth, isV_hi, isV_lh, isV_lc, optE_s, optE_n, truP_t, truP_f, frz_n, frz_c, fzS_v, fzS_o, fzS_n, esc_v, esc_f, escE, escEs, rmv, List.filter_cons, List.filter_nil, List.any_cons, List.any_nil, Nat.reduceBEq, Bool.or_false, Bool.or_true, Bool.true_or, Bool.false_or, beq_self_eq_true, List.append_nil, List.nil_append, List.cons_append, own_v, own_o, gd_f, Option.bind_some, Option.map_some, evD, mthOf, varOf, set2, set3, pMth, pSet, Bop.runP, pAdd, pSub, pMul, pDiv, pMod, pPow, Cop.runP, pLt, pLe, pGt, pGe, pNot, pNeg, pIx, at_0, at_1, at_2, at_3, at_4, Blt.runP, pv1, pv2, pz1, pAbs, pItems, pSeq, pMax2, pMin2, wipeP, putP_nm, putP_tup, putsP_nil, putsP_cons, escF_at, pvF_at, pIts, loopP_cons, loopP_nil, lcP_n, lcP_c, lcS_t, lcS_f, pBls, pLst, nextL_nx, nextL_rt, finP, dPv, dPvs, List.map_cons, List.map_nil, List.replicate, List.length_cons, List.length_nil, Nat.reduceAdd, Nat.reduceSub, reduceIte, pAug, pMthE, pRev, pIsi, tyP, Ty.sub, pLen, zipP, Bool.false_eq_true, Bool.not_true, Bool.not_false, ne_eq, not_false_eq_true] at lc ⊢
        rw [lc]
        simp only [evP_var, evP_int, evP_str, evP_bl, evP_non, evP_glob, evP_fnv, evP_bad, evP_tup, evP_lst, evP_bin, evP_neg, evP_cmp, evP_chain, evP_and, evP_or, evP_not, evP_ife, evP_ix, evP_slLo, evP_slHi, evP_slLH, evP_call, evP_callv, evP_blt, evP_isi, evP_mth, evP_rev, evP_lc, evXs_nil, evXs_cons, evI_nil, evTs_nil, evTs_cons, evPS_set, evPS_asg, evPS_par2, evPS_par3, evPS_sub, evPS_drop, evPS_ret, evPS_retN, evPS_ife, evPS_whl, evPS_for, evPS_aug, evPS_pass, evPS_brk, evPS_cont, evPS_raise, evPSs_nil, evPSs_cons, evI_one, seqP_nx, seqP_rt, seqP_bk, seqP_ct, slotP_0, slotP_s, set_0, set_s, set_0n, pv_val, pv_own, escP_val, escP_own, isV_var, isV_lst, isV_bin, isV_blt, isV_lo, isV_rev, isV_mth, isV_hi, isV_lh, isV_lc, optE_s, optE_n, truP_t, truP_f, frz_n, frz_c, fzS_v, fzS_o, fzS_n, esc_v, esc_f, escE, escEs, rmv, List.filter_cons, List.filter_nil, List.any_cons, List.any_nil, Nat.reduceBEq, Bool.or_false, Bool.or_true, Bool.true_or, Bool.false_or, beq_self_eq_true, List.append_nil, List.nil_append, List.cons_append, own_v, own_o, gd_f, Option.bind_some, Option.map_some, evD, mthOf, varOf, set2, set3, pMth, pSet, Bop.runP, pAdd, pSub, pMul, pDiv, pMod, pPow, Cop.runP, pLt, pLe, pGt, pGe, pNot, pNeg, pIx, at_0, at_1, at_2, at_3, at_4, Blt.runP, pv1, pv2, pz1, pAbs, pItems, pSeq, pMax2, pMin2, wipeP, putP_nm, putP_tup, putsP_nil, putsP_cons, escF_at, pvF_at, pIts, loopP_cons, loopP_nil, lcP_n, lcP_c, lcS_t, lcS_f, pBls, pLst, nextL_nx, nextL_rt, finP, dPv, dPvs, List.map_cons, List.map_nil, List.replicate, List.length_cons, List.length_nil, Nat.reduceAdd, Nat.reduceSub, reduceIte, pAug, pMthE, pRev, pIsi, tyP, Ty.sub, pLen, zipP, Bool.false_eq_true, Bool.not_true, Bool.not_false, ne_eq, not_false_eq_true, pEq_nil rfl, isEmpty_filter]
        cases (!ts.any fun p => seenV q p) <;> simp only [evP_var, evP_int, evP_str, evP_bl, evP_non, evP_glob, evP_fnv, evP_bad, evP_tup, evP_lst, evP_bin, evP_neg, evP_cmp, evP_chain, evP_and, evP_or, evP_not, evP_ife, evP_ix, evP_slLo, evP_slHi, evP_slLH, evP_call, evP_callv, evP_blt, evP_isi, evP_mth, evP_rev, evP_lc, evXs_nil, evXs_cons, evI_nil, evTs_nil, evTs_cons, evPS_set, evPS_asg, evPS_par2, evPS_par3, evPS_sub, evPS_drop, evPS_ret, evPS_retN, evPS_ife, evPS_whl, evPS_for, evPS_aug, evPS_pass, evPS_brk, evPS_cont, evPS_raise, evPSs_nil, evPSs_cons, evI_one, seqP_nx, seqP_rt, seqP_bk, seqP_ct, slotP_0, slotP_s, set_0, set_s, set_0n, pv_val, pv_own, escP_val, escP_own, isV_var, isV_lst, isV_bin, isV_blt, isV_lo, isV_rev, isV_mth, isV_hi, isV_lh, isV_lc, optE_s, optE_n, truP_t, truP_f, frz_n, frz_c, fzS_v, fzS_o, fzS_n, esc_v, esc_f, escE, escEs, rmv, List.filter_cons, List.filter_nil, List.any_cons, List.any_nil, Nat.reduceBEq, Bool.or_false, Bool.or_true, Bool.true_or, Bool.false_or, beq_self_eq_true, List.append_nil, List.nil_append, List.cons_append, own_v, own_o, gd_f, Option.bind_some, Option.map_some, evD, mthOf, varOf, set2, set3, pMth, pSet, Bop.runP, pAdd, pSub, pMul, pDiv, pMod, pPow, Cop.runP, pLt, pLe, pGt, pGe, pNot, pNeg, pIx, at_0, at_1, at_2, at_3, at_4, Blt.runP, pv1, pv2, pz1, pAbs, pItems, pSeq, pMax2, pMin2, wipeP, putP_nm, putP_tup, putsP_nil, putsP_cons, escF_at, pvF_at, pIts, loopP_cons, loopP_nil, lcP_n, lcP_c, lcS_t, lcS_f, pBls, pLst, nextL_nx, nextL_rt, finP, dPv, dPvs, List.map_cons, List.map_nil, List.replicate, List.length_cons, List.length_nil, Nat.reduceAdd, Nat.reduceSub, reduceIte, pAug, pMthE, pRev, pIsi, tyP, Ty.sub, pLen, zipP, Bool.false_eq_true, Bool.not_true, Bool.not_false, ne_eq, not_false_eq_true]
      · exact ⟨_, _, _, rfl⟩)
  simp only [h1]
  have e1 : (ls.any fun q => !(ts.any fun p => seenV q p)) = !trueV ls ts := by
    unfold trueV
    rw [List.all_eq_not_any_not, Bool.not_not]
  rw [e1]
  cases trueV ls ts <;> simp only [evP_var, evP_int, evP_str, evP_bl, evP_non, evP_glob, evP_fnv, evP_bad, evP_tup, evP_lst, evP_bin, evP_neg, evP_cmp, evP_chain, evP_and, evP_or, evP_not, evP_ife, evP_ix, evP_slLo, evP_slHi, evP_slLH, evP_call, evP_callv, evP_blt, evP_isi, evP_mth, evP_rev, evP_lc, evXs_nil, evXs_cons, evI_nil, evTs_nil, evTs_cons, evPS_set, evPS_asg, evPS_par2, evPS_par3, evPS_sub, evPS_drop, evPS_ret, evPS_retN, evPS_ife, evPS_whl, evPS_for, evPS_aug, evPS_pass, evPS_brk, evPS_cont, evPS_raise, evPSs_nil, evPSs_cons, evI_one, seqP_nx, seqP_rt, seqP_bk, seqP_ct, slotP_0, slotP_s, set_0, set_s, set_0n, pv_val, pv_own, escP_val, escP_own, isV_var, isV_lst, isV_bin, isV_blt, isV_lo, isV_rev, isV_mth, isV_hi, isV_lh, isV_lc, optE_s, optE_n, truP_t, truP_f, frz_n, frz_c, fzS_v, fzS_o, fzS_n, esc_v, esc_f, escE, escEs, rmv, List.filter_cons, List.filter_nil, List.any_cons, List.any_nil, Nat.reduceBEq, Bool.or_false, Bool.or_true, Bool.true_or, Bool.false_or, beq_self_eq_true, List.append_nil, List.nil_append, List.cons_append, own_v, own_o, gd_f, Option.bind_some, Option.map_some, evD, mthOf, varOf, set2, set3, pMth, pSet, Bop.runP, pAdd, pSub, pMul, pDiv, pMod, pPow, Cop.runP, pLt, pLe, pGt, pGe, pNot, pNeg, pIx, at_0, at_1, at_2, at_3, at_4, Blt.runP, pv1, pv2, pz1, pAbs, pItems, pSeq, pMax2, pMin2, wipeP, putP_nm, putP_tup, putsP_nil, putsP_cons, escF_at, pvF_at, pIts, loopP_cons, loopP_nil, lcP_n, lcP_c, lcS_t, lcS_f, pBls, pLst, nextL_nx, nextL_rt, finP, dPv, dPvs, List.map_cons, List.map_nil, List.replicate, List.length_cons, List.length_nil, Nat.reduceAdd, Nat.reduceSub, reduceIte, pAug, pMthE, pRev, pIsi, tyP, Ty.sub, pLen, zipP, Bool.false_eq_true, Bool.not_true, Bool.not_false, ne_eq, not_false_eq_true]
end K30
end Ev
namespace Ev
namespace K30
open PySem PySem.Spec PyProof.Rows
def BB : Int := ((10 ^ 41 : Nat) : Int)
def boxT : Ty2 := .tup [.int 1 1000, .int 1 1000]
def spT : Ty2 := .tup [.int 0 1000, .int 0 1000]
def towT : Ty2 := .tup [.int (-2001) 2001, .int (-2001) 2001]
def beaT : Ty2 := .nm 2
def sigT : Ty2 := .tup [towT, beaT, .nm 0]
def ptT : Ty2 := .tup [.nm 0, .nm 0]
def lotT : Ty2 := .seq sigT 0 12
def talT : Ty2 := .seq ptT 0 1000
def askT : Ty2 := .tup [lotT, talT, .bl]
def blk : List St := [.for (.tup [.nm 5, .nm 7, .nm 8]) .seq [.bin .add (.var 1) (.rev (.var 1))] [.set 9 (.call 10 [.var 5, .var 7]), .ife (.or (.not (.isi .bool (.var 9))) (.cmp .ne (.var 9) (.var 8))) [.ret (.bl false)] []], .ret (.bl true)]
def ask1 : E := .tup [.var 5, .var 7, .call 23 [.var 5, .var 7]]
def ask2 : E := .tup [.slHi (.var 5) (.int 1), .var 7, .call 23 [.slHi (.var 5) (.int 1), .var 7]]
def ask3 : E := .tup [.var 5, .slHi (.var 7) (.int 1), .call 23 [.var 5, .slHi (.var 7) (.int 1)]]
def askG : List (Option Ty2) := [none, none, none, none, none, some lotT, none, some talT, none, none]
def N0 : D → Prop := fun d => ∃ x y : Int, d = .tup [.int x, .int y] ∧ -BB ≤ x ∧ x ≤ BB ∧ 1 ≤ y ∧ y ≤ BB ∧ Int.gcd x y = 1
def N2 : D → Prop := fun d => ∃ a b : Int, d = .tup [.int a, .int b] ∧ -4001 ≤ a ∧ a ≤ 4001 ∧ -4001 ≤ b ∧ b ≤ 4001 ∧ ¬(a = 0 ∧ b = 0)
def prm0 : Prm where
  dr := []
  hs := []
  bs := []
  N := fun k d => (k = 0 ∧ N0 d) ∨ (k = 2 ∧ N2 d)
  ks := [0]
  BT := fun _ _ => false
  X := fun _ => .tup [.int (-BB) BB, .int 1 BB]
  P := fun _ _ => False
  mono := fun h _ => h
/-- an ask: a lot, a tale, and whether the tale makes the lot true -/
def AskV (q : Pv) : Prop := ∃ ls ts : List Pv, q = .tup [.tup ls, .tup ts, .bl (trueV ls ts)] ∧ HasPv prm0 lotT (.tup ls) ∧ HasPv prm0 talT (.tup ts)
def prm : Prm where
  dr := [12]
  hs := [⟨ask1, askG, .nm 1, 2⟩, ⟨ask2, askG, .nm 1, 2⟩, ⟨ask3, askG, .nm 1, 2⟩]
  bs := [⟨blk, [none, some (.own (.nm 1) 0 100), none, none, none, none, none, none, none, none], some (.bc true), 12⟩]
  N := fun k d => (k = 0 ∧ N0 d) ∨ (k = 2 ∧ N2 d) ∨ (k = 1 ∧ ∃ q, dPv d = some q ∧ AskV q)
  ks := [0]
  BT := fun k t => match k, t with
    | 0, .tup [.int a b, .int c d] => decide (-BB ≤ a ∧ b ≤ BB ∧ ((c = 1 ∧ d = 1) ∨ (a = b ∧ c = d ∧ 1 ≤ c ∧ c ≤ BB ∧ Int.gcd a c = 1)))
    | _, _ => false
  X := fun k => match k with
    | 0 => .tup [.int (-BB) BB, .int 1 BB]
    | 1 => askT
    | _ => .tup [.int (-4001) 4001, .int (-4001) 4001]
  P := fun t ds => ∃ a b c : Int, ds = [.int a, .int b, .int c] ∧ 0 ≤ a ∧ 0 ≤ c ∧ c < 2147483647 ∧ 0 ≤ b ∧ b ≤ (t : Int)
  mono := fun ⟨a, b, c, h⟩ hl => ⟨a, b, c, h.1, h.2.1, h.2.2.1, h.2.2.2.1, h.2.2.2.2.1, by omega⟩
  sp := fun k => match k with
    | 2 => [.tup [.int 1 4001, .int 0 4001], .tup [.int 1 4001, .int (-4001) 0], .tup [.int (-4001) (-1), .int 0 4001], .tup [.int (-4001) (-1), .int (-4001) 0], .tup [.int 0 0, .int 1 4001], .tup [.int 0 0, .int (-4001) (-1)]]
    | _ => []
def hand : Hd := fun n f =>
  if f = 11 then some fun ts => match ts with
    | [t] => if sub prm FT t .intA = true ∧ 10 ≤ n then some (.dk, 0) else none
    | _ => none
  else if f = 12 then some fun ts => match ts with
    | [.dk, .int a b] => if 1 ≤ a ∧ b ≤ 1000000000 ∧ 10 ≤ n then some (.int 0 (b - 1), 1) else none
    | _ => none
  else if f = 14 then some fun ts => match ts with
    | [.int a b, .int c d] => if -BB ≤ a ∧ b ≤ BB ∧ 1 ≤ c ∧ d ≤ BB ∧ 10 ≤ n then some (.nm 0, 0) else if mag a b ≤ 10 ^ 1600 ∧ 1 ≤ c ∧ d ≤ ((10 ^ 1600 : Nat) : Int) ∧ 10 ≤ n then some (.tup [.int (-(mag a b : Nat) : Int) (mag a b), .int 1 d], 0) else none
    | _ => none
  else if f = 13 then some fun ts => match ts with
    | [.int a b, .int c d] => if mag a b ≤ 4001 ∧ mag c d ≤ 4001 ∧ 10 ≤ n then some (.nm 2, 0) else none
    | _ => none
  else if f = 1 then some fun ts => match ts with
    | [.int a b, .int c d] => if mag a b ≤ 10 ^ 1600 ∧ 1 ≤ c ∧ d ≤ ((10 ^ 1600 : Nat) : Int) ∧ 10 ≤ n then some (.tup [.int (-(mag a b : Nat) : Int) (mag a b), .int 1 d], 0) else none
    | _ => none
  else none
def tn (k : Nat) : Int := ((10 ^ k : Nat) : Int)
def W (k : Nat) : Ty2 := .tup [.int (-(tn k)) (tn k), .int 1 (tn k)]
def rfs : List Rf := []
def dL : List Dc := [
  ⟨3, 14, [W 42, W 4], W 47, 0⟩,
  ⟨3, 14, [W 52, W 52], W 105, 0⟩,
  ⟨2, 14, [W 52, W 52], W 105, 0⟩,
  ⟨6, 15, [.int (-10000) 10000, W 47], W 52, 0⟩,
  ⟨4, 14, [W 4, W 47], W 52, 0⟩,
  ⟨4, 14, [W 42, W 105], W 150, 0⟩,
  ⟨5, 14, [W 160, W 160], .bl, 0⟩,
  ⟨7, 17, [sigT, ptT], .tup [W 105, W 105], 0⟩,
  ⟨8, 18, [sigT, ptT], .bl, 0⟩,
  ⟨9, 19, [sigT, talT], .bl, 0⟩,
  ⟨10, 20, [lotT, talT], .bl, 0⟩,
  ⟨22, 14, [sigT, ptT], .bl, 0⟩,
  ⟨23, 15, [lotT, talT], .bl, 0⟩,
  ⟨20, 12, [ptT, ptT], .bl, 0⟩,
  ⟨21, 12, [boxT, ptT], .bl, 0⟩,
  ⟨15, 12, [.dk], boxT, 12⟩,
  ⟨16, 13, [.dk, boxT], towT, 12⟩,
  ⟨17, 13, [.dk], .nm 0, 12⟩,
  ⟨18, 14, [.dk, boxT, spT], sigT, 80⟩,
  ⟨19, 15, [.dk, boxT, .int 12 12], lotT, 3000⟩,
  ⟨27, 15, [.dk, boxT, lotT], talT, 3000⟩]
def okD (i : Nat) : Bool := match dL[i]? with
  | some d => dcOk prm (Pr fnl) dL rfs hand d
  | none => false
def shw (n f : Nat) (ts : List Ty2) : Option (Ty2 × Nat) := match Pr fnl f with
  | some fd => inF prm (sgD prm dL rfs hand n) fd ts
  | none => none
theorem d0 : okD 0 = true := by decide +kernel
theorem d1 : okD 1 = true := by decide +kernel
theorem d2 : okD 2 = true := by decide +kernel
theorem d3 : okD 3 = true := by decide +kernel
theorem d4 : okD 4 = true := by decide +kernel
theorem d5 : okD 5 = true := by decide +kernel
theorem d6 : okD 6 = true := by decide +kernel
theorem d7 : okD 7 = true := by decide +kernel
theorem d8 : okD 8 = true := by decide +kernel
theorem d9 : okD 9 = true := by decide +kernel
theorem d10 : okD 10 = true := by decide +kernel
theorem d11 : okD 11 = true := by decide +kernel
theorem d12 : okD 12 = true := by decide +kernel
theorem d13 : okD 13 = true := by decide +kernel
theorem d14 : okD 14 = true := by decide +kernel
theorem d15 : okD 15 = true := by decide +kernel
theorem d16 : okD 16 = true := by decide +kernel
theorem d17 : okD 17 = true := by decide +kernel
theorem d18 : okD 18 = true := by decide +kernel
theorem d19 : okD 19 = true := by decide +kernel
theorem d20 : okD 20 = true := by decide +kernel
theorem dcs : ∀ d ∈ dL, dcOk prm (Pr fnl) dL rfs hand d = true := by
  have h : ∀ i, i < dL.length → okD i = true := by
    have : dL.length = 21 := rfl
    rw [this]
    intro i hi
    match i, hi with
    | 0, _ => exact d0
    | 1, _ => exact d1
    | 2, _ => exact d2
    | 3, _ => exact d3
    | 4, _ => exact d4
    | 5, _ => exact d5
    | 6, _ => exact d6
    | 7, _ => exact d7
    | 8, _ => exact d8
    | 9, _ => exact d9
    | 10, _ => exact d10
    | 11, _ => exact d11
    | 12, _ => exact d12
    | 13, _ => exact d13
    | 14, _ => exact d14
    | 15, _ => exact d15
    | 16, _ => exact d16
    | 17, _ => exact d17
    | 18, _ => exact d18
    | 19, _ => exact d19
    | 20, _ => exact d20
    | n + 21, h => omega
  intro d hd
  obtain ⟨i, hi, e⟩ := List.getElem_of_mem hd
  have := h i hi
  unfold okD at this
  rw [List.getElem?_eq_getElem hi, e] at this
  exact this
theorem chk : lawY prm (Pr fnl) dL rfs hand 39 28 = true := by decide +kernel
end K30
end Ev
namespace Ev
namespace K30
open PySem PySem.Spec PyProof.Rows
theorem n0_ty {p : Prm} {W : Wl} {d : D} (h : N0 d) : HasTy p W (.tup [.int (-BB) BB, .int 1 BB]) d := by
  obtain ⟨x, y, rfl, h1, h2, h3, h4, _⟩ := h
  simp only [HasTy, HasTys]
  exact ⟨_, rfl, _, _, rfl, ⟨x, rfl, h1, h2⟩, _, _, rfl, ⟨y, rfl, h3, h4⟩, rfl⟩
theorem n2_ty {p : Prm} {W : Wl} {d : D} (h : N2 d) : HasTy p W (.tup [.int (-4001) 4001, .int (-4001) 4001]) d := by
  obtain ⟨x, y, rfl, h1, h2, h3, h4, _⟩ := h
  simp only [HasTy, HasTys]
  exact ⟨_, rfl, _, _, rfl, ⟨x, rfl, h1, h2⟩, _, _, rfl, ⟨y, rfl, h3, h4⟩, rfl⟩
theorem n0_d {d : D} (h : N0 d) : ∃ q, dPv d = some q := by
  obtain ⟨x, y, rfl, _⟩ := h
  exact ⟨_, rfl⟩
theorem n2_d {d : D} (h : N2 d) : ∃ q, dPv d = some q := by
  obtain ⟨x, y, rfl, _⟩ := h
  exact ⟨_, rfl⟩
/-- the plain predicates say the same in both tables -/
theorem up0 {q : Pv} (h : HasPv prm0 (.nm 0) q) : HasPv prm (.nm 0) q := by
  simp only [HasPv] at h ⊢
  obtain ⟨d, h1, h2 | h2⟩ := h
  · exact ⟨d, h1, .inl h2⟩
  · exact ⟨d, h1, .inr (.inl h2)⟩
theorem up2 {q : Pv} (h : HasPv prm0 (.nm 2) q) : HasPv prm (.nm 2) q := by
  simp only [HasPv] at h ⊢
  obtain ⟨d, h1, h2 | h2⟩ := h
  · exact ⟨d, h1, .inl h2⟩
  · exact ⟨d, h1, .inr (.inl h2)⟩
theorem dn0 {q : Pv} (h : HasPv prm (.nm 0) q) : HasPv prm0 (.nm 0) q := by
  simp only [HasPv] at h ⊢
  obtain ⟨d, h1, h2 | h2 | h2⟩ := h
  · exact ⟨d, h1, .inl h2⟩
  · exact ⟨d, h1, .inr h2⟩
  · exact absurd h2.1 (by decide)
theorem dn2 {q : Pv} (h : HasPv prm (.nm 2) q) : HasPv prm0 (.nm 2) q := by
  simp only [HasPv] at h ⊢
  obtain ⟨d, h1, h2 | h2 | h2⟩ := h
  · exact ⟨d, h1, .inl h2⟩
  · exact ⟨d, h1, .inr h2⟩
  · exact absurd h2.1 (by decide)
section
variable {p p' : Prm} (h0 : ∀ {q : Pv}, HasPv p (.nm 0) q → HasPv p' (.nm 0) q) (h2 : ∀ {q : Pv}, HasPv p (.nm 2) q → HasPv p' (.nm 2) q)
include h0 h2 in
theorem sig_mv {q : Pv} (h : HasPv p sigT q) : HasPv p' sigT q := by
  obtain ⟨a, b, c, rfl, k1, k2, k3⟩ := tup3 h
  have k2 := h2 k2
  have k3 := h0 k3
  simp only [sigT, beaT, HasPv, HasPvs] at k2 k3 ⊢
  refine ⟨_, rfl, a, _, rfl, ?_, b, _, rfl, k2, c, _, rfl, k3, rfl⟩
  simpa only [towT, HasPv, HasPvs] using k1
include h0 in
theorem pt_mv {q : Pv} (h : HasPv p ptT q) : HasPv p' ptT q := by
  obtain ⟨a, b, rfl, k1, k2⟩ := tup2 h
  have k1 := h0 k1
  have k2 := h0 k2
  simp only [ptT, HasPv, HasPvs] at k1 k2 ⊢
  exact ⟨_, rfl, a, _, rfl, k1, b, _, rfl, k2, rfl⟩
include h0 h2 in
theorem lot_mv {q : Pv} (h : HasPv p lotT q) : HasPv p' lotT q := by
  simp only [lotT] at h ⊢
  rw [HasPv] at h ⊢
  obtain ⟨ps, rfl, l1, l2, l3⟩ := h
  exact ⟨ps, rfl, l1, l2, fun x hx => sig_mv h0 h2 (l3 x hx)⟩
include h0 in
theorem tal_mv {q : Pv} (h : HasPv p talT q) : HasPv p' talT q := by
  simp only [talT] at h ⊢
  rw [HasPv] at h ⊢
  obtain ⟨ps, rfl, l1, l2, l3⟩ := h
  exact ⟨ps, rfl, l1, l2, fun x hx => pt_mv h0 (l3 x hx)⟩
end
theorem ask_pv {q : Pv} (h : AskV q) : HasPv prm askT q := by
  obtain ⟨ls, ts, rfl, h1, h2⟩ := h
  have h1 := lot_mv up0 up2 h1
  have h2 := tal_mv up0 h2
  simp only [askT]
  rw [HasPv]
  refine ⟨_, rfl, ?_⟩
  simp only [HasPvs]
  refine ⟨_, _, rfl, h1, _, _, rfl, h2, _, _, rfl, ?_, rfl⟩
  simp only [HasPv]
  exact ⟨_, rfl⟩
theorem prOk : PrOk prm where
  x := fun {k d W} h => by
    rcases h with ⟨rfl, h⟩ | ⟨rfl, h⟩ | ⟨rfl, q, e, h⟩
    · exact n0_ty h
    · exact n2_ty h
    · exact HasPv.ty (V := fun _ => none) (p := prm) (by decide) (ask_pv h) (dPv_ok e)
  b := fun {k t d W} h ht => by
    simp only [prm] at h
    split at h
    · rename_i a b c d'
      have h := of_decide_eq_true h
      simp only [HasTy, HasTys] at ht
      obtain ⟨_, rfl, _, _, rfl, ⟨x, rfl, x1, x2⟩, _, _, rfl, ⟨y, rfl, y1, y2⟩, rfl⟩ := ht
      have bb : (1 : Int) ≤ BB := by decide
      obtain ⟨h1, h2, h3⟩ := h
      refine .inl ⟨rfl, ?_⟩
      rcases h3 with ⟨rfl, rfl⟩ | ⟨rfl, rfl, h3, h4, h5⟩
      · have : y = 1 := by omega
        subst this
        exact ⟨x, 1, rfl, by omega, by omega, by omega, bb, by simp⟩
      · have e1 : x = a := by omega
        have e2 : y = c := by omega
        subst e1 e2
        exact ⟨x, y, rfl, by omega, by omega, by omega, by omega, h5⟩
    · cases h
  s := fun {k d W} h => by
    rcases h with ⟨rfl, h⟩ | ⟨rfl, h⟩ | ⟨rfl, q, e, h⟩
    · exact .inl rfl
    · refine .inr ?_
      obtain ⟨a, b, rfl, a1, a2, b1, b2, nz⟩ := h
      have mk : ∀ {l1 h1 l2 h2 : Int}, l1 ≤ a → a ≤ h1 → l2 ≤ b → b ≤ h2 → HasTy prm W (.tup [.int l1 h1, .int l2 h2]) (.tup [.int a, .int b]) := fun p1 p2 p3 p4 => by
        simp only [HasTy, HasTys]
        exact ⟨_, rfl, _, _, rfl, ⟨a, rfl, p1, p2⟩, _, _, rfl, ⟨b, rfl, p3, p4⟩, rfl⟩
      have mem : ∀ {u : Ty2}, u ∈ prm.sp 2 → HasTy prm W u (.tup [.int a, .int b]) → ∃ u, u ∈ prm.sp 2 ∧ HasTy prm W u (.tup [.int a, .int b]) := fun x y => ⟨_, x, y⟩
      by_cases p1 : 1 ≤ a
      · by_cases p2 : 0 ≤ b
        · exact mem (List.mem_cons_self) (mk p1 a2 p2 b2)
        · exact mem (List.mem_cons_of_mem _ List.mem_cons_self) (mk p1 a2 b1 (by omega))
      · by_cases p3 : a ≤ -1
        · by_cases p2 : 0 ≤ b
          · exact mem (List.mem_cons_of_mem _ (List.mem_cons_of_mem _ List.mem_cons_self)) (mk a1 p3 p2 b2)
          · exact mem (List.mem_cons_of_mem _ (List.mem_cons_of_mem _ (List.mem_cons_of_mem _ List.mem_cons_self))) (mk a1 p3 b1 (by omega))
        · by_cases p2 : 1 ≤ b
          · exact mem (List.mem_cons_of_mem _ (List.mem_cons_of_mem _ (List.mem_cons_of_mem _ (List.mem_cons_of_mem _ List.mem_cons_self)))) (mk (by omega) (by omega) p2 b2)
          · exact mem (List.mem_cons_of_mem _ (List.mem_cons_of_mem _ (List.mem_cons_of_mem _ (List.mem_cons_of_mem _ (List.mem_cons_of_mem _ List.mem_cons_self))))) (mk (by omega) (by omega) b1 (by omega))
    · exact .inl rfl
theorem plOk : PlOk prm := fun k d h => by
  rcases h with ⟨rfl, h⟩ | ⟨rfl, h⟩ | ⟨rfl, q, e, h⟩
  · exact n0_d h
  · exact n2_d h
  · exact ⟨q, e⟩
end K30
end Ev
namespace Ev
namespace K30
open PySem PySem.Spec PyProof.Rows
theorem draw_run {n j : Nat} {S : Store} {a b c m : Int} (h : S[j]? = some (.lst [.int a, .int b, .int c])) (ha : 0 ≤ a) (hb : 0 ≤ b) (hm : 1 ≤ m) (hm2 : m ≤ 10 ^ 9) (hb2 : b < 2 ^ 61) :
    ∃ r a' b' : Int, evF (Pr fnl) (n + 1) 12 [.ref j, .int m] S = .ok (.int r) (S.set j (.lst [.int a', .int b', .int c])) ∧ 0 ≤ r ∧ r < m ∧ 0 ≤ a' ∧ b ≤ b' ∧ b' ≤ b + 1 := by
  rw [evF_eq (fd := ⟨2, 4, b12⟩) rfl rfl]
  have hj : j < S.length := (List.getElem?_eq_some_iff.mp h).1
  have m0 : m ≠ 0 := by omega
  have mp : 0 < m := by omega
  have hd : divOk m := ⟨m0, Nat.lt_of_le_of_lt (log2_mono (show m.natAbs ≤ 10 ^ 9 by omega)) (by decide)⟩
  by_cases h0 : 0 < a
  · refine ⟨a % m, a / m, b, ?_, Int.emod_nonneg a m0, Int.emod_lt_of_pos a mp, Int.ediv_nonneg ha (by omega), Int.le_refl _, by omega⟩
    simp [b12, evSs, evS, evE, evEs, seqM, bnd_app, ret_app, getV, dIx, h, L2.atI, L2.ixN, Cop.run, dGt, h0, tru_t, Bop.run, dMod, dDiv, dSet, m0, mp, hd, fin]
  · have big : ∀ {x y : Int}, x.natAbs < 2 ^ 64 ∨ y.natAbs < 2 ^ 64 → mulOk x y := fun h => h.elim .inl fun h => .inr (.inl h)
    have k1 : mulOk 7919 (b + 1) := big (.inl (by decide))
    have k2 : ∀ x : Int, mulOk x (b + 1) := fun x => big (.inr (by omega))
    have k3 : ∀ x : Int, mulOk x 48271 := fun x => big (.inr (by decide))
    have k4 : ∀ x y : Int, mulOk (x % 2147483647) y := fun x y => big (.inl (by omega))
    have e8 : divOk 8 := ⟨by decide, by decide⟩
    have hset : ∀ x : Cell, (List.set S j x)[j]? = some x := fun x => List.getElem?_set_self hj
    have lo : ∀ x : Int, 0 ≤ x % m := fun x => Int.emod_nonneg x m0
    have hi : ∀ x : Int, x % m < m := fun x => Int.emod_lt_of_pos x mp
    have a0 : a = 0 := by omega
    subst a0
    refine ⟨?r, 0, b + 1, ?_, ?_⟩
    case r => exact ((((c + 7919 * (b + 1) * (b + 1)) * 48271 % 2147483647) * (((c + 7919 * (b + 1) * (b + 1)) * 48271 % 2147483647) + 69621)) % 2147483629) / 8 % m
    · simp [b12, evSs, evS, evE, evEs, seqM, bnd_app, ret_app, getV, dIx, h, L2.atI, L2.ixN, Cop.run, dGt, tru_f, Bop.run, dMod, dDiv, dSet, m0, mp, hd, fin, dAdd, dMul, k1, k2, k3, k4, e8, hset]
    · exact ⟨lo _, hi _, by omega, by omega, by omega⟩
theorem dr_ok : ∀ n, DrOk prm (evF (Pr fnl) n) := fun n f hf W S S' t j m d w hj h1 h2 ht e => by
  have hf : f ∈ [12] := hf
  rw [List.mem_singleton] at hf
  subst hf
  cases n with
  | zero => rw [evF] at e; cases e
  | succ n =>
    obtain ⟨ds, e1, a, b, c, rfl, p1, p2, p3, p4, p5⟩ := w.dk j hj
    have tm : (TM : Int) = 1152921504606846976 := by decide
    obtain ⟨r, a', b', e2, r1, r2, _⟩ := draw_run (n := n) e1 p1 p4 h1 h2 (by omega)
    rw [e2] at e
    cases e
    exact ⟨r, rfl, r1, r2⟩
theorem log16 {z : Int} (h : z.natAbs ≤ 10 ^ 1600) : z.natAbs.log2 < 9000 := Nat.lt_of_le_of_lt (log2_mono h) (by decide)
theorem lo_ty {x y : Int} (hy : 1 ≤ y) {a b c d : Int} (h1 : a ≤ x) (h2 : x ≤ b) (h4 : y ≤ d) : HasPv prm (.tup [.int (-(mag a b : Nat) : Int) (mag a b), .int 1 d]) (lo x y) := by
  have m1 := mag_ok h1 h2
  have a1 := nX_abs (x := x) hy
  have a2 := nY_pos (x := x) hy
  have a3 := nY_le (x := x) hy
  simp only [HasPv, HasPvs]
  exact ⟨_, rfl, _, _, rfl, ⟨_, rfl, by omega, by omega⟩, _, _, rfl, ⟨_, rfl, by omega, by omega⟩, rfl⟩
theorem lo_nm {x y : Int} (hy : 1 ≤ y) (h1 : -BB ≤ x) (h2 : x ≤ BB) (h3 : y ≤ BB) : HasPv prm (.nm 0) (lo x y) := by
  have a1 := nX_abs (x := x) hy
  have a2 := nY_pos (x := x) hy
  have a3 := nY_le (x := x) hy
  simp only [HasPv]
  exact ⟨.tup [.int (nX x y), .int (nY x y)], rfl, .inl ⟨rfl, nX x y, nY x y, rfl, by omega, by omega, a2, by omega, n_gcd hy⟩⟩
theorem BBval : BB = ((10 ^ 41 : Nat) : Int) := rfl
theorem BB_nat {y : Int} (h1 : 1 ≤ y) (h : y ≤ BB) : y.natAbs ≤ 10 ^ 1600 := by
  have hb : (10 ^ 41 : Nat) ≤ 10 ^ 1600 := Nat.pow_le_pow_right (by decide) (by decide)
  have h : y ≤ ((10 ^ 41 : Nat) : Int) := h
  generalize (10 ^ 41 : Nat) = B1 at *
  generalize (10 ^ 1600 : Nat) = B2 at *
  omega
theorem h_deck {k n : Nat} (hk : 10 ≤ k) (hn : k ≤ n) (ty : Ty2) (hz : sub prm FT ty .intA = true) : CallT prm (Pr fnl) n 11 [ty] .dk 0 := by
  intro ds W S t hty w hc2
  obtain ⟨m, rfl⟩ : ∃ m, n = m + 1 := ⟨n - 1, by omega⟩
  simp only [HasTys] at hty
  obtain ⟨_, _, rfl, hv, rfl⟩ := hty
  have hv := sub_ok prOk FT hz hv
  simp only [HasTy] at hv
  obtain ⟨i, rfl⟩ := hv
  have run : ∃ a : Int, 0 ≤ a ∧ evF (Pr fnl) (m + 1) 11 [.int i] S = .ok (.ref S.length) (S ++ [.lst [.int a, .int 0, .int (i % 2147483647)]]) := by
    rw [evF_eq (fd := ⟨1, 1, b11⟩) rfl rfl]
    have pk : powOk 10 18 := by decide
    have e18 : ((10 : Int) ^ (18 : Int).toNat) = 1000000000000000000 := by decide
    by_cases h0 : i < (1000000000000000000 : Int)
    · refine ⟨0, by omega, ?_⟩
      simp [b11, evSs, evS, evE, evEs, seqM, bnd_app, ret_app, getV, Cop.run, dLt, Bop.run, dMod, dPow, pk, h0, fin, alloc, LINE, tru_t]
    · refine ⟨i, by omega, ?_⟩
      simp [b11, evSs, evS, evE, evEs, seqM, bnd_app, ret_app, getV, Cop.run, dLt, Bop.run, dMod, dPow, pk, h0, fin, alloc, LINE, tru_f]
  obtain ⟨a, a0, e⟩ := run
  have nw := dk_new (p := prm) (ds := [.int a, .int 0, .int (i % 2147483647)]) w ⟨a, 0, i % 2147483647, rfl, a0, by omega, by omega, by omega, by omega⟩
  refine ⟨_, _, _, t, e, nw, Val.of ?_, fun ho => nomatch ho⟩
  simp only [HasTy]
  exact ⟨_, rfl, by rw [← w.len]; simp⟩
theorem h_draw {k n : Nat} (hk : 10 ≤ k) (hn : k ≤ n) (a b : Int) (ha : 1 ≤ a) (hb : b ≤ 1000000000) : CallT prm (Pr fnl) n 12 [.dk, .int a b] (.int 0 (b - 1)) 1 := by
  intro ds W S t hty w hc2
  obtain ⟨m, rfl⟩ : ∃ m, n = m + 1 := ⟨n - 1, by omega⟩
  simp only [HasTys, HasTy] at hty
  obtain ⟨_, _, rfl, ⟨j, rfl, hj⟩, _, _, rfl, ⟨q, rfl, m1, m2⟩, rfl⟩ := hty
  obtain ⟨es, e1, x, y, z, rfl, p1, p2, p3, p4, p5⟩ := w.dk j hj
  have tm : (TM : Int) = 1152921504606846976 := by decide
  obtain ⟨r, x', y', e, r1, r2, r3, r4, r5⟩ := draw_run (n := m) e1 p1 p4 (m := q) (by omega) (by omega) (by omega)
  refine ⟨_, _, W, t + 1, e, dk_set w hj ⟨x', y', z, rfl, r3, p2, p3, by omega, by omega⟩ (by omega) (by omega), Val.of (by simp only [HasTy]; exact ⟨r, rfl, r1, by omega⟩), fun ho => nomatch ho⟩
theorem low_both {f n : Nat} (hs : ∀ x y : Int, 1 ≤ y → y.natAbs.log2 < 9000 → evPF true (Pr fnl) n f [.int x, .int y] = some (lo x y)) {a b c d : Int} (hc : 1 ≤ c) (hd : d ≤ ((10 ^ 1600 : Nat) : Int)) : CallT prm (Pr fnl) n f [.int a b, .int c d] (.tup [.int (-(mag a b : Nat) : Int) (mag a b), .int 1 d]) 0 :=
  callT_of plOk rfl rfl fun ps hp => by
    simp only [HasPvs, HasPv] at hp
    obtain ⟨_, _, rfl, ⟨x, rfl, x1, x2⟩, _, _, rfl, ⟨y, rfl, y1, y2⟩, rfl⟩ := hp
    refine ⟨_, hs x y (by omega) (log16 ?_), lo_ty (c := c) (by omega) x1 x2 y2⟩
    generalize (10 ^ 1600 : Nat) = B2 at *
    omega
theorem low_nm {f n : Nat} (hs : ∀ x y : Int, 1 ≤ y → y.natAbs.log2 < 9000 → evPF true (Pr fnl) n f [.int x, .int y] = some (lo x y)) {a b c d : Int} (ha : -BB ≤ a) (hb : b ≤ BB) (hc : 1 ≤ c) (hd : d ≤ BB) : CallT prm (Pr fnl) n f [.int a b, .int c d] (.nm 0) 0 :=
  callT_of plOk rfl rfl fun ps hp => by
    simp only [HasPvs, HasPv] at hp
    obtain ⟨_, _, rfl, ⟨x, rfl, x1, x2⟩, _, _, rfl, ⟨y, rfl, y1, y2⟩, rfl⟩ := hp
    exact ⟨_, hs x y (by omega) (log16 (BB_nat (by omega) (by omega))), lo_nm (by omega) (by omega) (by omega) (by omega)⟩
theorem h_reduced {k n : Nat} (hk : 10 ≤ k) (hn : k ≤ n) {a b c d : Int} (h1 : mag a b ≤ 4001) (h2 : mag c d ≤ 4001) : CallT prm (Pr fnl) n 13 [.int a b, .int c d] (.nm 2) 0 :=
  callT_of plOk rfl rfl fun ps hp => by
    simp only [HasPvs, HasPv] at hp
    obtain ⟨_, _, rfl, ⟨x, rfl, x1, x2⟩, _, _, rfl, ⟨y, rfl, y1, y2⟩, rfl⟩ := hp
    have m1 := mag_ok x1 x2
    have m2 := mag_ok y1 y2
    have k1 : x.natAbs.log2 < 9000 := Nat.lt_of_le_of_lt (log2_mono (Nat.le_trans m1 h1)) (by decide)
    have k2 : y.natAbs.log2 < 9000 := Nat.lt_of_le_of_lt (log2_mono (Nat.le_trans m2 h2)) (by decide)
    refine ⟨_, s_reduced (g := true) (n := n) (by omega) x y (fun _ => ⟨k1, k2⟩), ?_⟩
    simp only [HasPv]
    by_cases h0 : Int.gcd x y = 0
    · rw [if_pos h0]
      exact ⟨.tup [.int 1, .int 0], rfl, .inr (.inl ⟨rfl, 1, 0, rfl, by omega, by omega, by omega, by omega, by omega⟩)⟩
    · rw [if_neg h0]
      have gp : 0 < ((Int.gcd x y : Nat) : Int) := by omega
      have dv : ∀ z : Int, ((Int.gcd x y : Nat) : Int) ∣ z → (z / ((Int.gcd x y : Nat) : Int)).natAbs ≤ z.natAbs := fun z hz => by
        have e := Int.ediv_mul_cancel hz
        have := congrArg Int.natAbs e
        rw [Int.natAbs_mul] at this
        have g1 : 1 ≤ ((Int.gcd x y : Nat) : Int).natAbs := by omega
        have := Nat.mul_le_mul_left (z / ((Int.gcd x y : Nat) : Int)).natAbs g1
        omega
      have d1 := dv x (Int.gcd_dvd_left x y)
      have d2 := dv y (Int.gcd_dvd_right x y)
      refine ⟨.tup [.int (nX x y), .int (nY x y)], rfl, .inr (.inl ⟨rfl, nX x y, nY x y, rfl, by unfold nX; omega, by unfold nX; omega, by unfold nY; omega, by unfold nY; omega, fun ⟨z1, z2⟩ => h0 ?_⟩)⟩
      have e1 := Int.ediv_mul_cancel (Int.gcd_dvd_left x y)
      have e2 := Int.ediv_mul_cancel (Int.gcd_dvd_right x y)
      have z1 : x / ((Int.gcd x y : Nat) : Int) = 0 := z1
      have z2 : y / ((Int.gcd x y : Nat) : Int) = 0 := z2
      rw [z1, Int.zero_mul] at e1
      rw [z2, Int.zero_mul] at e2
      rw [← e1, ← e2]
      rfl
end K30
end Ev
namespace Ev
namespace K30
open PySem PySem.Spec PyProof.Rows L2
theorem nm0_pv {q : Pv} (h : HasPv prm (.nm 0) q) : ∃ x y : Int, q = wo x y ∧ 1 ≤ y := by
  have h := dn0 h
  simp only [HasPv] at h
  obtain ⟨d, h1, ⟨_, x, y, rfl, _, _, y1, _⟩ | ⟨z, _⟩⟩ := h
  · cases h1
    exact ⟨x, y, rfl, y1⟩
  · exact absurd z (by decide)
theorem nm2_pv {q : Pv} (h : HasPv prm (.nm 2) q) : ∃ x y : Int, q = wo x y := by
  have h := dn2 h
  simp only [HasPv] at h
  obtain ⟨d, h1, ⟨z, _⟩ | ⟨_, x, y, rfl, _⟩⟩ := h
  · exact absurd z (by decide)
  · cases h1
    exact ⟨x, y, rfl⟩
theorem sig_v {q : Pv} (h : HasPv prm sigT q) : SigV q := by
  obtain ⟨_, _, _, rfl, h1, h2, h3⟩ := tup3 h
  obtain ⟨x, y, rfl, _⟩ := int2 h1
  obtain ⟨a, b, rfl⟩ := nm2_pv h2
  obtain ⟨s, t, rfl, ht⟩ := nm0_pv h3
  exact ⟨x, y, a, b, s, t, rfl, ht⟩
theorem pt_v {q : Pv} (h : HasPv prm ptT q) : PtV q := by
  obtain ⟨_, _, rfl, hx, hy⟩ := tup2 h
  obtain ⟨px, qx, rfl, h1⟩ := nm0_pv hx
  obtain ⟨py, qy, rfl, h2⟩ := nm0_pv hy
  exact ⟨px, qx, py, qy, rfl, h1, h2⟩
theorem lot_v {q : Pv} (h : HasPv prm lotT q) : ∃ ls, q = .tup ls ∧ ls.length ≤ 12 ∧ ∀ x ∈ ls, HasPv prm sigT x := by
  simp only [lotT] at h
  rw [HasPv] at h
  obtain ⟨ls, rfl, _, l, h⟩ := h
  exact ⟨ls, rfl, l, h⟩
theorem tal_v {q : Pv} (h : HasPv prm talT q) : ∃ ls, q = .tup ls ∧ ls.length ≤ 1000 ∧ ∀ x ∈ ls, HasPv prm ptT x := by
  simp only [talT] at h
  rw [HasPv] at h
  obtain ⟨ls, rfl, _, l, h⟩ := h
  exact ⟨ls, rfl, l, h⟩
theorem lot_mk {ls : List Pv} (l : ls.length ≤ 12) (h : ∀ x ∈ ls, HasPv prm sigT x) : HasPv prm lotT (.tup ls) := by
  simp only [lotT]
  rw [HasPv]
  exact ⟨ls, rfl, Nat.zero_le _, l, h⟩
theorem tal_mk {ls : List Pv} (l : ls.length ≤ 1000) (h : ∀ x ∈ ls, HasPv prm ptT x) : HasPv prm talT (.tup ls) := by
  simp only [talT]
  rw [HasPv]
  exact ⟨ls, rfl, Nat.zero_le _, l, h⟩
theorem ask_mk {ls ts : List Pv} (l1 : ls.length ≤ 12) (h1 : ∀ x ∈ ls, HasPv prm sigT x) (l2 : ts.length ≤ 1000) (h2 : ∀ x ∈ ts, HasPv prm ptT x) : HasPv prm (.nm 1) (.tup [.tup ls, .tup ts, .bl (trueV ls ts)]) := by
  have a : AskV (.tup [.tup ls, .tup ts, .bl (trueV ls ts)]) := ⟨ls, ts, rfl, lot_mv dn0 dn2 (lot_mk l1 h1), tal_mv dn0 (tal_mk l2 h2)⟩
  obtain ⟨d, e⟩ := HasPv.dp (p := prm) (t := askT) (by decide) (ask_pv a)
  rw [HasPv]
  exact ⟨d, e, .inr (.inr ⟨rfl, _, e, a⟩)⟩
theorem cut1 {α : Type} (xs : List α) : cutL xs none (some 1) = xs.take (HT.sIx xs.length xs.length (some 1) - HT.sIx xs.length 0 none) := by
  unfold cutL
  rw [show HT.sIx xs.length 0 none = 0 from rfl, List.drop_zero]
theorem cut_mem {xs : List Pv} {P : Pv → Prop} (h : ∀ x ∈ xs, P x) : ∀ x ∈ cutL xs none (some 1), P x := fun x hx => by
  rw [cut1] at hx
  exact h x (List.mem_of_mem_take hx)
theorem cut_len {xs : List Pv} {k : Nat} (h : xs.length ≤ k) : (cutL xs none (some 1)).length ≤ k := by
  rw [cut1, List.length_take]
  omega
theorem asks {n : Nat} (hn : 2 ≤ n) {penv : PFr} (hp : PEnv prm askG penv) : ∃ (ls ts : List Pv) (e0 e1 e2 e3 e4 e6 e8 e9 : Option Pz), penv = [e0, e1, e2, e3, e4, some (.val (.tup ls)), e6, some (.val (.tup ts)), e8, e9] ∧ ls.length ≤ 12 ∧ ts.length ≤ 1000 ∧ (∀ x ∈ ls, HasPv prm sigT x) ∧ ∀ x ∈ ts, HasPv prm ptT x := by
  simp only [askG, PEnv] at hp
  obtain ⟨e0, _, rfl, e1, _, rfl, e2, _, rfl, e3, _, rfl, e4, _, rfl, e5, _, rfl, h5, e6, _, rfl, e7, _, rfl, h7, e8, _, rfl, e9, _, rfl, rfl⟩ := hp
  obtain ⟨l, rfl, hl⟩ := h5 rfl
  obtain ⟨t, rfl, ht⟩ := h7 rfl
  obtain ⟨ls, rfl, l1, l2⟩ := lot_v hl
  obtain ⟨ts, rfl, t1, t2⟩ := tal_v ht
  exact ⟨ls, ts, e0, e1, e2, e3, e4, e6, e8, e9, rfl, l1, t1, l2, t2⟩
theorem ht1 : HtOk prm (Pr fnl) ⟨ask1, askG, .nm 1, 2⟩ := fun n hn penv hp => by
  have hn : 2 ≤ n := hn
  obtain ⟨ls, ts, e0, e1, e2, e3, e4, e6, e8, e9, rfl, l1, t1, l2, t2⟩ := asks hn hp
  have k1 := s_ltrue (n := n) hn (ls := ls) (ts := ts) (fun q hq => sig_v (l2 q hq)) (fun q hq => pt_v (t2 q hq))
  generalize evPF false (Pr fnl) n = C at *
  refine ⟨.val (.tup [.tup ls, .tup ts, .bl (trueV ls ts)]), ?_, ask_mk l1 l2 t1 t2⟩
  simp only [ask1, evP_var, evP_int, evP_str, evP_bl, evP_non, evP_glob, evP_fnv, evP_bad, evP_tup, evP_lst, evP_bin, evP_neg, evP_cmp, evP_chain, evP_and, evP_or, evP_not, evP_ife, evP_ix, evP_slLo, evP_slHi, evP_slLH, evP_call, evP_callv, evP_blt, evP_isi, evP_mth, evP_rev, evP_lc, evXs_nil, evXs_cons, evI_nil, evTs_nil, evTs_cons, evPS_set, evPS_asg, evPS_par2, evPS_par3, evPS_sub, evPS_drop, evPS_ret, evPS_retN, evPS_ife, evPS_whl, evPS_for, evPS_aug, evPS_pass, evPS_brk, evPS_cont, evPS_raise, evPSs_nil, evPSs_cons, evI_one, seqP_nx, seqP_rt, seqP_bk, seqP_ct, slotP_0, slotP_s, set_0, set_s, set_0n, pv_val, pv_own, escP_val, escP_own, isV_var, isV_lst, isV_bin, isV_blt, isV_lo, isV_rev, isV_mth, isV_hi, isV_lh, isV_lc, optE_s, optE_n, truP_t, truP_f, frz_n, frz_c, fzS_v, fzS_o, fzS_n, esc_v, esc_f, escE, escEs, rmv, List.filter_cons, List.filter_nil, List.any_cons, List.any_nil, Nat.reduceBEq, Bool.or_false, Bool.or_true, Bool.true_or, Bool.false_or, beq_self_eq_true, List.append_nil, List.nil_append, List.cons_append, own_v, own_o, gd_f, Option.bind_some, Option.map_some, evD, mthOf, varOf, set2, set3, pMth, pSet, Bop.runP, pAdd, pSub, pMul, pDiv, pMod, pPow, Cop.runP, pLt, pLe, pGt, pGe, pNot, pNeg, pIx, at_0, at_1, at_2, at_3, at_4, Blt.runP, pv1, pv2, pz1, pAbs, pItems, pSeq, pMax2, pMin2, wipeP, putP_nm, putP_tup, putsP_nil, putsP_cons, escF_at, pvF_at, pIts, loopP_cons, loopP_nil, lcP_n, lcP_c, lcS_t, lcS_f, pBls, pLst, nextL_nx, nextL_rt, finP, dPv, dPvs, List.map_cons, List.map_nil, List.replicate, List.length_cons, List.length_nil, Nat.reduceAdd, Nat.reduceSub, reduceIte, pAug, pMthE, pRev, pIsi, tyP, Ty.sub, pLen, zipP, Bool.false_eq_true, Bool.not_true, Bool.not_false, ne_eq, not_false_eq_true, k1]
theorem ht2 : HtOk prm (Pr fnl) ⟨ask2, askG, .nm 1, 2⟩ := fun n hn penv hp => by
  have hn : 2 ≤ n := hn
  obtain ⟨ls, ts, e0, e1, e2, e3, e4, e6, e8, e9, rfl, l1, t1, l2, t2⟩ := asks hn hp
  have k1 := s_ltrue (n := n) hn (ls := cutL ls none (some 1)) (ts := ts) (fun q hq => sig_v (cut_mem l2 q hq)) (fun q hq => pt_v (t2 q hq))
  generalize evPF false (Pr fnl) n = C at *
  refine ⟨.val (.tup [.tup (cutL ls none (some 1)), .tup ts, .bl (trueV (cutL ls none (some 1)) ts)]), ?_, ask_mk (cut_len l1) (cut_mem l2) t1 t2⟩
  simp only [ask2, evP_var, evP_int, evP_str, evP_bl, evP_non, evP_glob, evP_fnv, evP_bad, evP_tup, evP_lst, evP_bin, evP_neg, evP_cmp, evP_chain, evP_and, evP_or, evP_not, evP_ife, evP_ix, evP_slLo, evP_slHi, evP_slLH, evP_call, evP_callv, evP_blt, evP_isi, evP_mth, evP_rev, evP_lc, evXs_nil, evXs_cons, evI_nil, evTs_nil, evTs_cons, evPS_set, evPS_asg, evPS_par2, evPS_par3, evPS_sub, evPS_drop, evPS_ret, evPS_retN, evPS_ife, evPS_whl, evPS_for, evPS_aug, evPS_pass, evPS_brk, evPS_cont, evPS_raise, evPSs_nil, evPSs_cons, evI_one, seqP_nx, seqP_rt, seqP_bk, seqP_ct, slotP_0, slotP_s, set_0, set_s, set_0n, pv_val, pv_own, escP_val, escP_own, isV_var, isV_lst, isV_bin, isV_blt, isV_lo, isV_rev, isV_mth, isV_hi, isV_lh, isV_lc, optE_s, optE_n, truP_t, truP_f, frz_n, frz_c, fzS_v, fzS_o, fzS_n, esc_v, esc_f, escE, escEs, rmv, List.filter_cons, List.filter_nil, List.any_cons, List.any_nil, Nat.reduceBEq, Bool.or_false, Bool.or_true, Bool.true_or, Bool.false_or, beq_self_eq_true, List.append_nil, List.nil_append, List.cons_append, own_v, own_o, gd_f, Option.bind_some, Option.map_some, evD, mthOf, varOf, set2, set3, pMth, pSet, Bop.runP, pAdd, pSub, pMul, pDiv, pMod, pPow, Cop.runP, pLt, pLe, pGt, pGe, pNot, pNeg, pIx, at_0, at_1, at_2, at_3, at_4, Blt.runP, pv1, pv2, pz1, pAbs, pItems, pSeq, pMax2, pMin2, wipeP, putP_nm, putP_tup, putsP_nil, putsP_cons, escF_at, pvF_at, pIts, loopP_cons, loopP_nil, lcP_n, lcP_c, lcS_t, lcS_f, pBls, pLst, nextL_nx, nextL_rt, finP, dPv, dPvs, List.map_cons, List.map_nil, List.replicate, List.length_cons, List.length_nil, Nat.reduceAdd, Nat.reduceSub, reduceIte, pAug, pMthE, pRev, pIsi, tyP, Ty.sub, pLen, zipP, Bool.false_eq_true, Bool.not_true, Bool.not_false, ne_eq, not_false_eq_true, pPart, pSl, k1]
theorem ht3 : HtOk prm (Pr fnl) ⟨ask3, askG, .nm 1, 2⟩ := fun n hn penv hp => by
  have hn : 2 ≤ n := hn
  obtain ⟨ls, ts, e0, e1, e2, e3, e4, e6, e8, e9, rfl, l1, t1, l2, t2⟩ := asks hn hp
  have k1 := s_ltrue (n := n) hn (ls := ls) (ts := cutL ts none (some 1)) (fun q hq => sig_v (l2 q hq)) (fun q hq => pt_v (cut_mem t2 q hq))
  generalize evPF false (Pr fnl) n = C at *
  refine ⟨.val (.tup [.tup ls, .tup (cutL ts none (some 1)), .bl (trueV ls (cutL ts none (some 1)))]), ?_, ask_mk l1 l2 (cut_len t1) (cut_mem t2)⟩
  simp only [ask3, evP_var, evP_int, evP_str, evP_bl, evP_non, evP_glob, evP_fnv, evP_bad, evP_tup, evP_lst, evP_bin, evP_neg, evP_cmp, evP_chain, evP_and, evP_or, evP_not, evP_ife, evP_ix, evP_slLo, evP_slHi, evP_slLH, evP_call, evP_callv, evP_blt, evP_isi, evP_mth, evP_rev, evP_lc, evXs_nil, evXs_cons, evI_nil, evTs_nil, evTs_cons, evPS_set, evPS_asg, evPS_par2, evPS_par3, evPS_sub, evPS_drop, evPS_ret, evPS_retN, evPS_ife, evPS_whl, evPS_for, evPS_aug, evPS_pass, evPS_brk, evPS_cont, evPS_raise, evPSs_nil, evPSs_cons, evI_one, seqP_nx, seqP_rt, seqP_bk, seqP_ct, slotP_0, slotP_s, set_0, set_s, set_0n, pv_val, pv_own, escP_val, escP_own, isV_var, isV_lst, isV_bin, isV_blt, isV_lo, isV_rev, isV_mth, isV_hi, isV_lh, isV_lc, optE_s, optE_n, truP_t, truP_f, frz_n, frz_c, fzS_v, fzS_o, fzS_n, esc_v, esc_f, escE, escEs, rmv, List.filter_cons, List.filter_nil, List.any_cons, List.any_nil, Nat.reduceBEq, Bool.or_false, Bool.or_true, Bool.true_or, Bool.false_or, beq_self_eq_true, List.append_nil, List.nil_append, List.cons_append, own_v, own_o, gd_f, Option.bind_some, Option.map_some, evD, mthOf, varOf, set2, set3, pMth, pSet, Bop.runP, pAdd, pSub, pMul, pDiv, pMod, pPow, Cop.runP, pLt, pLe, pGt, pGe, pNot, pNeg, pIx, at_0, at_1, at_2, at_3, at_4, Blt.runP, pv1, pv2, pz1, pAbs, pItems, pSeq, pMax2, pMin2, wipeP, putP_nm, putP_tup, putsP_nil, putsP_cons, escF_at, pvF_at, pIts, loopP_cons, loopP_nil, lcP_n, lcP_c, lcS_t, lcS_f, pBls, pLst, nextL_nx, nextL_rt, finP, dPv, dPvs, List.map_cons, List.map_nil, List.replicate, List.length_cons, List.length_nil, Nat.reduceAdd, Nat.reduceSub, reduceIte, pAug, pMthE, pRev, pIsi, tyP, Ty.sub, pLen, zipP, Bool.false_eq_true, Bool.not_true, Bool.not_false, ne_eq, not_false_eq_true, pPart, pSl, k1]
theorem ask_of {q : Pv} (h : HasPv prm (.nm 1) q) : AskV q := by
  rw [HasPv] at h
  obtain ⟨d, e, ⟨z, _⟩ | ⟨z, _⟩ | ⟨_, q', e', a⟩⟩ := h
  · exact absurd z (by decide)
  · exact absurd z (by decide)
  · rw [e] at e'
    cases e'
    exact a
theorem bt_ok : BtOk prm (Pr fnl) ⟨blk, [none, some (.own (.nm 1) 0 100), none, none, none, none, none, none, none, none], some (.bc true), 12⟩ := fun n hn penv hp => by
  have hn : 12 ≤ n := hn
  simp only [PEnv] at hp
  obtain ⟨e0, _, rfl, e1, _, rfl, h1, e2, _, rfl, e3, _, rfl, e4, _, rfl, e5, _, rfl, e6, _, rfl, e7, _, rfl, e8, _, rfl, e9, _, rfl, rfl⟩ := hp
  obtain ⟨ps, rfl, _, _, hps⟩ := h1 rfl
  have k1 : ∀ {ls ts : List Pv}, HasPv prm0 lotT (.tup ls) → HasPv prm0 talT (.tup ts) → evPF false (Pr fnl) n 10 [.tup ls, .tup ts] = some (.bl (trueV ls ts)) := fun {ls ts} h1 h2 => by
    obtain ⟨_, z1, l1, l2⟩ := lot_v (lot_mv up0 up2 h1)
    obtain ⟨_, z2, t1, t2⟩ := tal_v (tal_mv up0 h2)
    cases z1; cases z2
    exact s_makes (n := n) (by omega) (fun q hq => sig_v (l2 q hq)) (fun q hq => pt_v (t2 q hq))
  have all : ∀ x ∈ ps ++ ps.reverse, AskV x := fun x hx => by
    rcases List.mem_append.mp hx with h | h
    · exact ask_of (hps x h)
    · exact ask_of (hps x (List.mem_reverse.mp h))
  generalize evPF false (Pr fnl) n = C at *
  obtain ⟨e, h1, _⟩ := loopP_all (I := fun env => ∃ e0 e1 e2 e3 e4 e5 e6 e7 e8 e9, env = [e0, e1, e2, e3, e4, e5, e6, e7, e8, e9]) (ps := ps ++ ps.reverse) (env := [e0, some (.own (.lst ps)), e2, e3, e4, e5, e6, e7, e8, e9]) (tgt := (T.tup [.nm 5, .nm 7, .nm 8]).putP)
    (b := evPSs false C [.set 9 (.call 10 [.var 5, .var 7]), .ife (.or (.not (.isi .bool (.var 9))) (.cmp .ne (.var 9) (.var 8))) [.ret (.bl false)] []])
    ⟨_, _, _, _, _, _, _, _, _, _, rfl⟩ (fun q hq env ⟨e0, e1, e2, e3, e4, e5, e6, e7, e8, e9, he⟩ => by
      subst he
      obtain ⟨ls, ts, rfl, a1, a2⟩ := all q hq
      refine ⟨[e0, e1, e2, e3, e4, some (.val (.tup ls)), e6, some (.val (.tup ts)), some (.val (.bl (trueV ls ts))), e9], [e0, e1, e2, e3, e4, some (.val (.tup ls)), e6, some (.val (.tup ts)), some (.val (.bl (trueV ls ts))), some (.val (.bl (trueV ls ts)))], by simp only [evP_var, evP_int, evP_str, evP_bl, evP_non, evP_glob, evP_fnv, evP_bad, evP_tup, evP_lst, evP_bin, evP_neg, evP_cmp, evP_chain, evP_and, evP_or, evP_not, evP_ife, evP_ix, evP_slLo, evP_slHi, evP_slLH, evP_call, evP_callv, evP_blt, evP_isi, evP_mth, evP_rev, evP_lc, evXs_nil, evXs_cons, evI_nil, evTs_nil, evTs_cons, evPS_set, evPS_asg, evPS_par2, evPS_par3, evPS_sub, evPS_drop, evPS_ret, evPS_retN, evPS_ife, evPS_whl, evPS_for, evPS_aug, evPS_pass, evPS_brk, evPS_cont, evPS_raise, evPSs_nil, evPSs_cons, evI_one, seqP_nx, seqP_rt, seqP_bk, seqP_ct, slotP_0, slotP_s, set_0, set_s, set_0n, pv_val, pv_own, escP_val, escP_own, isV_var, isV_lst, isV_bin, isV_blt, isV_lo, isV_rev, isV_mth, isV_hi, isV_lh, isV_lc, optE_s, optE_n, truP_t, truP_f, frz_n, frz_c, fzS_v, fzS_o, fzS_n, esc_v, esc_f, escE, escEs, rmv, List.filter_cons, List.filter_nil, List.any_cons, List.any_nil, Nat.reduceBEq, Bool.or_false, Bool.or_true, Bool.true_or, Bool.false_or, beq_self_eq_true, List.append_nil, List.nil_append, List.cons_append, own_v, own_o, gd_f, Option.bind_some, Option.map_some, evD, mthOf, varOf, set2, set3, pMth, pSet, Bop.runP, pAdd, pSub, pMul, pDiv, pMod, pPow, Cop.runP, pLt, pLe, pGt, pGe, pNot, pNeg, pIx, at_0, at_1, at_2, at_3, at_4, Blt.runP, pv1, pv2, pz1, pAbs, pItems, pSeq, pMax2, pMin2, wipeP, putP_nm, putP_tup, putsP_nil, putsP_cons, escF_at, pvF_at, pIts, loopP_cons, loopP_nil, lcP_n, lcP_c, lcS_t, lcS_f, pBls, pLst, nextL_nx, nextL_rt, finP, dPv, dPvs, List.map_cons, List.map_nil, List.replicate, List.length_cons, List.length_nil, Nat.reduceAdd, Nat.reduceSub, reduceIte, pAug, pMthE, pRev, pIsi, tyP, Ty.sub, pLen, zipP, Bool.false_eq_true, Bool.not_true, Bool.not_false, ne_eq, not_false_eq_true], ?_, ⟨_, _, _, _, _, _, _, _, _, _, rfl⟩⟩
      simp only [evP_var, evP_int, evP_str, evP_bl, evP_non, evP_glob, evP_fnv, evP_bad, evP_tup, evP_lst, evP_bin, evP_neg, evP_cmp, evP_chain, evP_and, evP_or, evP_not, evP_ife, evP_ix, evP_slLo, evP_slHi, evP_slLH, evP_call, evP_callv, evP_blt, evP_isi, evP_mth, evP_rev, evP_lc, evXs_nil, evXs_cons, evI_nil, evTs_nil, evTs_cons, evPS_set, evPS_asg, evPS_par2, evPS_par3, evPS_sub, evPS_drop, evPS_ret, evPS_retN, evPS_ife, evPS_whl, evPS_for, evPS_aug, evPS_pass, evPS_brk, evPS_cont, evPS_raise, evPSs_nil, evPSs_cons, evI_one, seqP_nx, seqP_rt, seqP_bk, seqP_ct, slotP_0, slotP_s, set_0, set_s, set_0n, pv_val, pv_own, escP_val, escP_own, isV_var, isV_lst, isV_bin, isV_blt, isV_lo, isV_rev, isV_mth, isV_hi, isV_lh, isV_lc, optE_s, optE_n, truP_t, truP_f, frz_n, frz_c, fzS_v, fzS_o, fzS_n, esc_v, esc_f, escE, escEs, rmv, List.filter_cons, List.filter_nil, List.any_cons, List.any_nil, Nat.reduceBEq, Bool.or_false, Bool.or_true, Bool.true_or, Bool.false_or, beq_self_eq_true, List.append_nil, List.nil_append, List.cons_append, own_v, own_o, gd_f, Option.bind_some, Option.map_some, evD, mthOf, varOf, set2, set3, pMth, pSet, Bop.runP, pAdd, pSub, pMul, pDiv, pMod, pPow, Cop.runP, pLt, pLe, pGt, pGe, pNot, pNeg, pIx, at_0, at_1, at_2, at_3, at_4, Blt.runP, pv1, pv2, pz1, pAbs, pItems, pSeq, pMax2, pMin2, wipeP, putP_nm, putP_tup, putsP_nil, putsP_cons, escF_at, pvF_at, pIts, loopP_cons, loopP_nil, lcP_n, lcP_c, lcS_t, lcS_f, pBls, pLst, nextL_nx, nextL_rt, finP, dPv, dPvs, List.map_cons, List.map_nil, List.replicate, List.length_cons, List.length_nil, Nat.reduceAdd, Nat.reduceSub, reduceIte, pAug, pMthE, pRev, pIsi, tyP, Ty.sub, pLen, zipP, Bool.false_eq_true, Bool.not_true, Bool.not_false, ne_eq, not_false_eq_true, k1 a1 a2, pNe, pEq, decide_true])
  refine ⟨(.rt (.bl true), e), ?_, .bl true, rfl, by simp only [HasPv]⟩
  simp only [blk, evP_var, evP_int, evP_str, evP_bl, evP_non, evP_glob, evP_fnv, evP_bad, evP_tup, evP_lst, evP_bin, evP_neg, evP_cmp, evP_chain, evP_and, evP_or, evP_not, evP_ife, evP_ix, evP_slLo, evP_slHi, evP_slLH, evP_call, evP_callv, evP_blt, evP_isi, evP_mth, evP_rev, evP_lc, evXs_nil, evXs_cons, evI_nil, evTs_nil, evTs_cons, evPS_set, evPS_asg, evPS_par2, evPS_par3, evPS_sub, evPS_drop, evPS_ret, evPS_retN, evPS_ife, evPS_whl, evPS_for, evPS_aug, evPS_pass, evPS_brk, evPS_cont, evPS_raise, evPSs_nil, evPSs_cons, evI_one, seqP_nx, seqP_rt, seqP_bk, seqP_ct, slotP_0, slotP_s, set_0, set_s, set_0n, pv_val, pv_own, escP_val, escP_own, isV_var, isV_lst, isV_bin, isV_blt, isV_lo, isV_rev, isV_mth, isV_hi, isV_lh, isV_lc, optE_s, optE_n, truP_t, truP_f, frz_n, frz_c, fzS_v, fzS_o, fzS_n, esc_v, esc_f, escE, escEs, rmv, List.filter_cons, List.filter_nil, List.any_cons, List.any_nil, Nat.reduceBEq, Bool.or_false, Bool.or_true, Bool.true_or, Bool.false_or, beq_self_eq_true, List.append_nil, List.nil_append, List.cons_append, own_v, own_o, gd_f, Option.bind_some, Option.map_some, evD, mthOf, varOf, set2, set3, pMth, pSet, Bop.runP, pAdd, pSub, pMul, pDiv, pMod, pPow, Cop.runP, pLt, pLe, pGt, pGe, pNot, pNeg, pIx, at_0, at_1, at_2, at_3, at_4, Blt.runP, pv1, pv2, pz1, pAbs, pItems, pSeq, pMax2, pMin2, wipeP, putP_nm, putP_tup, putsP_nil, putsP_cons, escF_at, pvF_at, pIts, loopP_cons, loopP_nil, lcP_n, lcP_c, lcS_t, lcS_f, pBls, pLst, nextL_nx, nextL_rt, finP, dPv, dPvs, List.map_cons, List.map_nil, List.replicate, List.length_cons, List.length_nil, Nat.reduceAdd, Nat.reduceSub, reduceIte, pAug, pMthE, pRev, pIsi, tyP, Ty.sub, pLen, zipP, Bool.false_eq_true, Bool.not_true, Bool.not_false, ne_eq, not_false_eq_true] at h1 ⊢
  simp only [h1, evP_var, evP_int, evP_str, evP_bl, evP_non, evP_glob, evP_fnv, evP_bad, evP_tup, evP_lst, evP_bin, evP_neg, evP_cmp, evP_chain, evP_and, evP_or, evP_not, evP_ife, evP_ix, evP_slLo, evP_slHi, evP_slLH, evP_call, evP_callv, evP_blt, evP_isi, evP_mth, evP_rev, evP_lc, evXs_nil, evXs_cons, evI_nil, evTs_nil, evTs_cons, evPS_set, evPS_asg, evPS_par2, evPS_par3, evPS_sub, evPS_drop, evPS_ret, evPS_retN, evPS_ife, evPS_whl, evPS_for, evPS_aug, evPS_pass, evPS_brk, evPS_cont, evPS_raise, evPSs_nil, evPSs_cons, evI_one, seqP_nx, seqP_rt, seqP_bk, seqP_ct, slotP_0, slotP_s, set_0, set_s, set_0n, pv_val, pv_own, escP_val, escP_own, isV_var, isV_lst, isV_bin, isV_blt, isV_lo, isV_rev, isV_mth, isV_hi, isV_lh, isV_lc, optE_s, optE_n, truP_t, truP_f, frz_n, frz_c, fzS_v, fzS_o, fzS_n, esc_v, esc_f, escE, escEs, rmv, List.filter_cons, List.filter_nil, List.any_cons, List.any_nil, Nat.reduceBEq, Bool.or_false, Bool.or_true, Bool.true_or, Bool.false_or, beq_self_eq_true, List.append_nil, List.nil_append, List.cons_append, own_v, own_o, gd_f, Option.bind_some, Option.map_some, evD, mthOf, varOf, set2, set3, pMth, pSet, Bop.runP, pAdd, pSub, pMul, pDiv, pMod, pPow, Cop.runP, pLt, pLe, pGt, pGe, pNot, pNeg, pIx, at_0, at_1, at_2, at_3, at_4, Blt.runP, pv1, pv2, pz1, pAbs, pItems, pSeq, pMax2, pMin2, wipeP, putP_nm, putP_tup, putsP_nil, putsP_cons, escF_at, pvF_at, pIts, loopP_cons, loopP_nil, lcP_n, lcP_c, lcS_t, lcS_f, pBls, pLst, nextL_nx, nextL_rt, finP, dPv, dPvs, List.map_cons, List.map_nil, List.replicate, List.length_cons, List.length_nil, Nat.reduceAdd, Nat.reduceSub, reduceIte, pAug, pMthE, pRev, pIsi, tyP, Ty.sub, pLen, zipP, Bool.false_eq_true, Bool.not_true, Bool.not_false, ne_eq, not_false_eq_true]
end K30
end Ev
namespace Ev
namespace K30
open PySem PySem.Spec PyProof.Rows L2
theorem hands (k n f : Nat) (g : List Ty2 → Option (Ty2 × Nat)) (hk : k ≤ n) (hg : hand k f = some g) (ts : List Ty2) (u : Ty2) (c : Nat) (h : g ts = some (u, c)) : CallT prm (Pr fnl) n f ts u c := by
  unfold hand at hg
  split at hg
  · rename_i e; subst e; cases hg; dsimp only at h
    split at h
    · split at h
      · rename_i z; cases h; exact h_deck z.2 hk _ z.1
      · cases h
    · cases h
  · split at hg
    · rename_i e; subst e; cases hg; dsimp only at h
      split at h
      · split at h
        · rename_i z; cases h; exact h_draw z.2.2 hk _ _ z.1 z.2.1
        · cases h
      · cases h
    · split at hg
      · rename_i e; subst e; cases hg; dsimp only at h
        split at h
        · split at h
          · rename_i z; cases h; exact low_nm (fun x y hy hl => s_lowest (by omega) x y hy fun _ => hl) z.1 z.2.1 z.2.2.1 z.2.2.2.1
          · split at h
            · rename_i z; cases h; exact low_both (fun x y hy hl => s_lowest (by omega) x y hy fun _ => hl) z.2.1 z.2.2.1
            · cases h
        · cases h
      · split at hg
        · rename_i e; subst e; cases hg; dsimp only at h
          split at h
          · split at h
            · rename_i z; cases h; exact h_reduced z.2.2 hk z.1 z.2.1
            · cases h
          · cases h
        · split at hg
          · rename_i e; subst e; cases hg; dsimp only at h
            split at h
            · split at h
              · rename_i z; cases h; exact low_both (fun x y hy hl => s_worthG (by omega) x y hy fun _ => hl) z.2.1 z.2.2.1
              · cases h
            · cases h
          · cases hg
theorem tbOk : TbOk prm (Pr fnl) dL rfs hand where
  x := prOk
  fl := plOk
  hn := hands
  dr := dr_ok
  dc := dcs
  rf := fun r hr => nomatch hr
  ht := fun h hh => by
    have hh : h ∈ [_, _, _] := hh
    rcases List.mem_cons.mp hh with e | hh
    · subst e; exact ht1
    rcases List.mem_cons.mp hh with e | hh
    · subst e; exact ht2
    rw [List.mem_singleton] at hh
    subst hh
    exact ht3
  bt := fun h hh => by
    have hh : h ∈ [_] := hh
    rw [List.mem_singleton] at hh
    subst hh
    exact bt_ok
end K30
end Ev
namespace Ev
namespace K30
open PySem PySem.Spec PyProof.Rows L2
theorem spec (ns : List Int) (h : ns.length ≤ 63) (hb : ∀ z ∈ ns, Builtin.Int.intBits z ≤ 1048576) : ∃ S', evF (Pr fnl) 40 28 [.ref 0] (scr ns) = .ok (.bl true) S' := spec_of tbOk chk ns h
abbrev R : PySem.W.OpenRow := PySem.W.OpenLaw.row PySem.Challenge.rw_towerfires_k30_tales_that_make_true
def loose : List Str := ("FireError" : Str) :: ("NoWorth" : Str) :: ("divisor_of" : Str) :: ("worth_of" : Str) :: ("summed" : Str) :: ("lessened" : Str) :: ("product_of" : Str) :: ("is_less" : Str) :: ("times" : Str) :: ("ahead_and_aside" : Str) :: ("sees" : Str) :: ("is_true" : Str) :: ("makes_true" : Str) :: ("_law_deck" : Str) :: ("_law_draw" : Str) :: ("_law_prime" : Str) :: ("_law_worth" : Str) :: ("_law_box" : Str) :: ("_law_tower" : Str) :: ("_law_slackness" : Str) :: ("_law_look_at" : Str) :: ("_law_lot" : Str) :: ("_law_before" : Str) :: ("_law_is_in" : Str) :: ("_law_sees" : Str) :: ("_law_true" : Str) :: ("_law_is_point" : Str) :: ("_law_is_whole" : Str) :: ("_law_is_tale" : Str) :: ("_law_tale" : Str) :: []
theorem runK (w : World) : HandSHeadRun.RunEq R (PySem.W.view R.prog [35]) (hkE 5 fnl cons) (obE 5 fnl cons) 6000 loose w := by
  intro os
  kernel_rfl
end K30
end Ev
open PySem PySem.W PySem.Calls PyProof.Rows
theorem PySem.Challenge.cw_towerfires_k30_tales_that_make_true_holds : PySem.Challenge.rw_towerfires_k30_tales_that_make_true.Holds := by
  w_on; o_law
  refine HandSHeadRun.head_any (r := OpenLaw.row PySem.Challenge.rw_towerfires_k30_tales_that_make_true) (q := view (OpenLaw.row PySem.Challenge.rw_towerfires_k30_tales_that_make_true).prog [35]) (H := Ev.hkE 5 Ev.K30.fnl Ev.K30.cons) (ob := Ev.obE 5 Ev.K30.fnl Ev.K30.cons) (M := 6000) (loose := Ev.K30.loose) (d := HandSHeadRun.topDef (OpenLaw.row PySem.Challenge.rw_towerfires_k30_tales_that_make_true).prog 35) (kwd := []) Ev.obE_eq
    (by kernel_rfl) (fun s => by kernel_rfl) Ev.K30.runK (by kernel_rfl) (by kernel_rfl) (by kernel_rfl) (by rfl) (by first | assumption | decide +kernel) (by decide +kernel) ⟨rfl, rfl, rfl, rfl, rfl, by decide +kernel⟩ ?hw ?hc
  case hw => w_witness2
  case hc =>
    exact Ev.walk_ofEv (n := 63) (k := 40) (m := 5) (i := 28) (l := Ev.K30.fnl) (cons := Ev.K30.cons) (f := Ev.K30.f28) rfl (by decide) (by kernel_rfl) ⟨rfl, by decide, by decide⟩ rfl (by kernel_rfl) Ev.K30.oks Ev.K30.spec
