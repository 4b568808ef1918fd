import PyProof.Rows.All
import Wide.All
import OpenK.AllK
import Wide.FinOn
import HandS.ForMost
import HandS.Exc
import HandS.ExcOwn
import HandS.ExcIs
import HandS.IsInst
import HandS.Gcd
import HandS.Wide
import HandS.TupMul
import HandS.TupAny
import HandS.Style
import HandS.Zip
import HandS.WordsExc
import HandS.EndBits
import PySem.Challenge.RW_leastbounds_k00_fractions
set_option Elab.async false
set_option linter.all false
set_option maxRecDepth 100000
set_option autoImplicit false
/-! Pd: pure data over the hand layer. A value is denoted by a tree D; lists and dicts that change stand in slots that own them; a reading is a function on slots. -/
namespace Pd
open PySem L2

inductive D where
  | non | bl (b : Bool) | int (i : Int) | str (x : Str) | tup (ds : List D) | lst (ds : List D) | dct (ks : List Key) (ds : List D) | scr (ns : List Int)

/-- a list of ints that nobody changes: the script -/
def Scr (K : PySem.W.Frag) (H : Hp) (a : Addr) (ns : List Int) : Prop :=
  (∃ o, H a = some (.frz o (.lst (ns.map V.int)))) ∨
    ∃ (o : Obj) (its : Array Value) (n : Nat), K.lookup a = some o ∧ o.cls = .type "list" ∧ o.dict = none ∧ o.data = .seq its n ∧ its.size ≤ sizeLine ∧ L2.Vals (ns.map V.int) its.toList
theorem Scr.seq {K : PySem.W.Frag} {H : Hp} {a : Addr} {ns : List Int} : Scr K H a ns → SqL K H a (ns.map V.int)
  | .inl h => .inl (.inr h)
  | .inr h => .inr h

mutual
def Den (Z : Addr → Prop) (K : PySem.W.Frag) (H : Hp) : D → V → Prop
  | .non, v => v = .non
  | .bl b, v => v = .bl b
  | .int i, v => v = .int i
  | .str x, v => v = .str x
  | .tup ds, v => ∃ a xs, v = .ref a ∧ SqT K H a xs ∧ Dens Z K H ds xs
  | .lst ds, v => ∃ a xs, v = .ref a ∧ ¬ Z a ∧ H a = some (.lst xs) ∧ Dens Z K H ds xs
  | .dct ks ds, v => ∃ a kvs, v = .ref a ∧ ¬ Z a ∧ H a = some (.dK kvs) ∧ kvs.map (·.1) = ks ∧ Dens Z K H ds (kvs.map (·.2))
  | .scr ns, v => ∃ a, v = .ref a ∧ Scr K H a ns
def Dens (Z : Addr → Prop) (K : PySem.W.Frag) (H : Hp) : List D → List V → Prop
  | [], xs => xs = []
  | d :: ds, xs => ∃ v r, xs = v :: r ∧ Den Z K H d v ∧ Dens Z K H ds r
end

/-- from one heap to a later one: all that is not in F stands -/
structure Step (F : Addr → Prop) (H H' : Hp) : Prop where
  keep : ∀ a o, H a = some o → ¬ F a → H' a = some o
  tup : ∀ a xs, H a = some (.tup xs) → H' a = some (.tup xs)
  frz : ∀ a o u, H a = some (.frz o u) → H' a = some (.frz o u)
  dom : ∀ a o, H a = some o → ∃ o', H' a = some o'
theorem Step.refl {F : Addr → Prop} {H : Hp} : Step F H H := ⟨fun _ _ h _ => h, fun _ _ h => h, fun _ _ _ h => h, fun _ o h => ⟨o, h⟩⟩
theorem Step.none_of {F : Addr → Prop} {H H' : Hp} (s : Step F H H') {a : Addr} (h : H' a = none) : H a = none := by
  cases q : H a with
  | none => rfl
  | some o =>
    obtain ⟨o', e⟩ := s.dom a o q
    rw [h] at e
    cases e
theorem Step.trans {F F1 : Addr → Prop} {H H1 H2 : Hp} (s : Step F H H1) (t : Step F1 H1 H2) (hf : ∀ a, F1 a → F a ∨ H a = none) : Step F H H2 where
  keep := fun a o h n => t.keep a o (s.keep a o h n) fun f1 => (hf a f1).elim n fun e => by rw [h] at e; cases e
  tup := fun a xs h => t.tup a xs (s.tup a xs h)
  frz := fun a o u h => t.frz a o u (s.frz a o u h)
  dom := fun a o h => by
    obtain ⟨o', e⟩ := s.dom a o h
    exact t.dom a o' e
theorem Step.of_same {F : Addr → Prop} {H H' : Hp} (s : Same H H') : Step F H H' := ⟨fun a o h _ => s a o h, fun a xs h => s a _ h, fun a o u h => s a _ h, fun a o h => ⟨o, s a o h⟩⟩
theorem Step.wider {F F' : Addr → Prop} {H H' : Hp} (s : Step F H H') (h : ∀ a, F a → F' a) : Step F' H H' := ⟨fun a o e n => s.keep a o e fun f => n (h a f), s.tup, s.frz, s.dom⟩
theorem same_new {H : Hp} {p : Addr} {o : HO} (h : H p = none) : Same H (upd H p o) := fun b u e => by
  rw [upd_ne (ne_of_none e h)]
  exact e

section
variable {Z Z' F : Addr → Prop} {K : PySem.W.Frag} {H H' : Hp}
theorem Step.seqT (s : Step F H H') {a : Addr} {xs : List V} (h : SqT K H a xs) : SqT K H' a xs := by
  rcases h with (h | ⟨o, h⟩) | h
  · exact .inl (.inl (s.tup _ _ h))
  · exact .inl (.inr ⟨o, s.frz _ _ _ h⟩)
  · exact .inr h
mutual
theorem Den.move (s : Step F H H') (hF : ∀ a, F a → Z a) (hz : ∀ a, Z' a → Z a ∨ H a = none) : ∀ (d : D) {v : V}, Den Z K H d v → Den Z' K H' d v
  | .non, _, h => h
  | .bl _, _, h => h
  | .int _, _, h => h
  | .str _, _, h => h
  | .tup ds, _, h => by
    obtain ⟨a, xs, e, q, r⟩ := h
    exact ⟨a, xs, e, s.seqT q, Dens.move s hF hz ds r⟩
  | .lst ds, _, h => by
    obtain ⟨a, xs, e, n, q, r⟩ := h
    refine ⟨a, xs, e, fun z => ?_, s.keep _ _ q fun f => n (hF a f), Dens.move s hF hz ds r⟩
    rcases hz a z with z | z
    · exact n z
    · rw [z] at q; cases q
  | .dct ks ds, _, h => by
    obtain ⟨a, kvs, e, n, q, r, t⟩ := h
    refine ⟨a, kvs, e, fun z => ?_, s.keep _ _ q fun f => n (hF a f), r, Dens.move s hF hz ds t⟩
    rcases hz a z with z | z
    · exact n z
    · rw [z] at q; cases q
  | .scr ns, _, h => by
    obtain ⟨a, e, q⟩ := h
    refine ⟨a, e, ?_⟩
    rcases q with ⟨o, q⟩ | q
    · exact .inl ⟨o, s.frz _ _ _ q⟩
    · exact .inr q
theorem Dens.move (s : Step F H H') (hF : ∀ a, F a → Z a) (hz : ∀ a, Z' a → Z a ∨ H a = none) : ∀ (ds : List D) {xs : List V}, Dens Z K H ds xs → Dens Z' K H' ds xs
  | [], _, h => h
  | d :: ds, _, h => by
    obtain ⟨v, r, e, h1, h2⟩ := h
    exact ⟨v, r, e, Den.move s hF hz d h1, Dens.move s hF hz ds h2⟩
end
theorem Den.less {d : D} {v : V} (h : Den Z K H d v) (hz : ∀ a, Z' a → Z a) : Den Z' K H d v := Den.move (F := fun _ => False) (.of_same (Same.refl H)) (fun _ f => f.elim) (fun a z => .inl (hz a z)) d h
theorem Dens.less {d : List D} {v : List V} (h : Dens Z K H d v) (hz : ∀ a, Z' a → Z a) : Dens Z' K H d v := Dens.move (F := fun _ => False) (.of_same (Same.refl H)) (fun _ f => f.elim) (fun a z => .inl (hz a z)) d h
theorem Den.same {d : D} {v : V} (s : Same H H') (h : Den Z K H d v) : Den Z K H' d v := Den.move (F := fun _ => False) (.of_same s) (fun _ f => f.elim) (fun a z => .inl z) d h
theorem Dens.same {d : List D} {v : List V} (s : Same H H') (h : Dens Z K H d v) : Dens Z K H' d v := Dens.move (F := fun _ => False) (.of_same s) (fun _ f => f.elim) (fun a z => .inl z) d h
theorem Dens.length : ∀ {ds : List D} {xs : List V}, Dens Z K H ds xs → ds.length = xs.length
  | [], _, h => by
    cases h
    rfl
  | d :: ds, _, h => by
    obtain ⟨v, r, rfl, _, h2⟩ := h
    simp [Dens.length h2]
theorem Dens.cons {d : D} {v : V} {ds : List D} {xs : List V} (h : Den Z K H d v) (t : Dens Z K H ds xs) : Dens Z K H (d :: ds) (v :: xs) := ⟨v, xs, rfl, h, t⟩
theorem Dens.nil : Dens Z K H [] [] := rfl
theorem Dens.get : ∀ {ds : List D} {xs : List V} {i : Nat} {d : D}, Dens Z K H ds xs → ds[i]? = some d → ∃ v, xs[i]? = some v ∧ Den Z K H d v
  | [], _, _, _, _, e => by simp at e
  | d :: ds, _, 0, _, h, e => by
    obtain ⟨v, r, rfl, h1, _⟩ := h
    simp at e
    subst e
    exact ⟨v, rfl, h1⟩
  | d :: ds, _, i + 1, _, h, e => by
    obtain ⟨v, r, rfl, _, h2⟩ := h
    obtain ⟨v', e', q⟩ := Dens.get (i := i) h2 (by simpa using e)
    exact ⟨v', by simpa using e', q⟩
theorem Dens.append : ∀ {ds es : List D} {xs ys : List V}, Dens Z K H ds xs → Dens Z K H es ys → Dens Z K H (ds ++ es) (xs ++ ys)
  | [], _, _, _, h, g => by
    cases h
    exact g
  | d :: ds, _, _, _, h, g => by
    obtain ⟨v, r, rfl, h1, h2⟩ := h
    exact .cons h1 (Dens.append h2 g)
theorem Dens.take : ∀ {ds : List D} {xs : List V} (n : Nat), Dens Z K H ds xs → Dens Z K H (ds.take n) (xs.take n)
  | _, _, 0, _ => by
    simp
    exact Dens.nil
  | [], _, n + 1, h => by
    cases h
    exact Dens.nil
  | d :: ds, _, n + 1, h => by
    obtain ⟨v, r, rfl, h1, h2⟩ := h
    exact .cons h1 (Dens.take n h2)
theorem Dens.drop : ∀ {ds : List D} {xs : List V} (n : Nat), Dens Z K H ds xs → Dens Z K H (ds.drop n) (xs.drop n)
  | _, _, 0, h => by simpa using h
  | [], _, n + 1, h => by
    cases h
    exact Dens.nil
  | d :: ds, _, n + 1, h => by
    obtain ⟨v, r, rfl, h1, h2⟩ := h
    simpa using Dens.drop n h2
theorem Dens.set : ∀ {ds : List D} {xs : List V} {d : D} {v : V} (n : Nat), Dens Z K H ds xs → Den Z K H d v → Dens Z K H (ds.set n d) (xs.set n v)
  | [], _, _, _, _, h, _ => by
    cases h
    exact Dens.nil
  | d :: ds, _, _, _, 0, h, g => by
    obtain ⟨v, r, rfl, h1, h2⟩ := h
    exact .cons g h2
  | d :: ds, _, _, _, n + 1, h, g => by
    obtain ⟨v, r, rfl, h1, h2⟩ := h
    exact .cons h1 (Dens.set n h2 g)
theorem Dens.rep {ds : List D} {xs : List V} (h : Dens Z K H ds xs) : ∀ n : Nat, Dens Z K H (List.replicate n ds).flatten (List.replicate n xs).flatten
  | 0 => Dens.nil
  | n + 1 => by
    rw [List.replicate_succ, List.replicate_succ, List.flatten_cons, List.flatten_cons]
    exact h.append (Dens.rep h n)
theorem Dens.reverse : ∀ {ds : List D} {xs : List V}, Dens Z K H ds xs → Dens Z K H ds.reverse xs.reverse
  | [], _, h => by
    cases h
    exact Dens.nil
  | d :: ds, _, h => by
    obtain ⟨v, r, rfl, h1, h2⟩ := h
    rw [List.reverse_cons, List.reverse_cons]
    exact (Dens.reverse h2).append (.cons h1 .nil)
theorem Dens.ints : ∀ {ns : List Int} {xs : List V}, Dens Z K H (ns.map D.int) xs → xs = ns.map V.int
  | [], _, h => h
  | n :: ns, _, h => by
    obtain ⟨v, r, rfl, h1, h2⟩ := h
    have e : v = V.int n := h1
    rw [e, Dens.ints h2]
    rfl
theorem Dens.bls : ∀ {ns : List Bool} {xs : List V}, Dens Z K H (ns.map D.bl) xs → xs = ns.map V.bl
  | [], _, h => h
  | n :: ns, _, h => by
    obtain ⟨v, r, rfl, h1, h2⟩ := h
    have e : v = V.bl n := h1
    rw [e, Dens.bls h2]
    rfl
theorem dens_of_ints : ∀ (ns : List Int), Dens Z K H (ns.map D.int) (ns.map V.int)
  | [] => .nil
  | n :: ns => .cons (d := .int n) (v := .int n) rfl (dens_of_ints ns)
end

/-! ### slots -/
inductive Slot where
  | no | val (d : D) | own (fix : Bool) (d : D)
abbrev Sto := List Slot
def Fo (η : Sto) (σ : St) : Addr → Prop := fun a => ∃ (i : Nat) (b : Bool) (d : D), η[i]? = some (Slot.own b d) ∧ σ[i]? = some (some (V.ref a))
def Zo (G : Addr → Prop) (η : Sto) (σ : St) : Addr → Prop := fun a => G a ∨ Fo η σ a
def Cell (Z : Addr → Prop) (K : PySem.W.Frag) (H : Hp) (p : Addr) : D → Prop
  | .lst ds => ∃ xs, H p = some (.lst xs) ∧ Dens Z K H ds xs
  | .dct ks ds => ∃ kvs, H p = some (.dK kvs) ∧ kvs.map (·.1) = ks ∧ Dens Z K H ds (kvs.map (·.2))
  | _ => False
theorem Cell.there {Z : Addr → Prop} {K : PySem.W.Frag} {H : Hp} {p : Addr} : ∀ {d : D}, Cell Z K H p d → ∃ o, H p = some o
  | .lst _, ⟨_, e, _⟩ => ⟨_, e⟩
  | .dct _ _, ⟨_, e, _⟩ => ⟨_, e⟩
theorem Cell.move {Z Z' F : Addr → Prop} {K : PySem.W.Frag} {H H' : Hp} {p : Addr} (s : Step F H H') (hF : ∀ a, F a → Z a) (hz : ∀ a, Z' a → Z a ∨ H a = none) (hp : ∀ o, H p = some o → H' p = some o) : ∀ {d : D}, Cell Z K H p d → Cell Z' K H' p d
  | .lst ds, ⟨xs, e, h⟩ => ⟨xs, hp _ e, Dens.move s hF hz ds h⟩
  | .dct ks ds, ⟨kvs, e, r, h⟩ => ⟨kvs, hp _ e, r, Dens.move s hF hz ds h⟩

structure Ok (G : Addr → Prop) (K : PySem.W.Frag) (η : Sto) (σ : St) (H : Hp) : Prop where
  len : η.length = σ.length
  val : ∀ (i : Nat) (d : D), η[i]? = some (Slot.val d) → ∃ v, σ[i]? = some (some v) ∧ Den (Zo G η σ) K H d v
  own : ∀ (i : Nat) (b : Bool) (d : D), η[i]? = some (Slot.own b d) → ∃ p, σ[i]? = some (some (.ref p)) ∧ Cell (Zo G η σ) K H p d
  inj : ∀ (i j : Nat) (b b' : Bool) (d d' : D) (p : Addr), η[i]? = some (Slot.own b d) → η[j]? = some (Slot.own b' d') → σ[i]? = some (some (.ref p)) → σ[j]? = some (some (.ref p)) → i = j
  dom : ∀ a, G a → ∃ o, H a = some o
  dis : ∀ a, G a → ¬ Fo η σ a
section
variable {G : Addr → Prop} {K : PySem.W.Frag} {η η' : Sto} {σ : St} {H H' : Hp}
theorem Ok.domZ (ok : Ok G K η σ H) {a : Addr} (z : Zo G η σ a) : ∃ o, H a = some o := by
  rcases z with z | ⟨i, b, d, e, q⟩
  · exact ok.dom a z
  · obtain ⟨p, e', c⟩ := ok.own i b d e
    rw [q] at e'
    cases e'
    exact c.there
/-- nothing owned is changed -/
theorem Ok.same (ok : Ok G K η σ H) (s : Same H H') : Ok G K η σ H' where
  len := ok.len
  val := fun i d e => by
    obtain ⟨v, e', h⟩ := ok.val i d e
    exact ⟨v, e', h.same s⟩
  own := fun i b d e => by
    obtain ⟨p, e', h⟩ := ok.own i b d e
    exact ⟨p, e', Cell.move (F := fun _ => False) (.of_same s) (fun _ f => f.elim) (fun a z => .inl z) (fun o q => s _ _ q) h⟩
  inj := ok.inj
  dom := fun a g => by
    obtain ⟨o, e⟩ := ok.dom a g
    exact ⟨o, s a o e⟩
  dis := ok.dis
end

/-- a new object that no slot speaks of -/
theorem Ok.guard {G : Addr → Prop} {K : PySem.W.Frag} {η : Sto} {σ : St} {H H' : Hp} {p : Addr} {o : HO} (ok : Ok G K η σ H) (hp : H p = none) (s : Same H H') (hp' : H' p = some o) : Ok (fun a => G a ∨ a = p) K η σ H' where
  len := ok.len
  val := fun i d e => by
    obtain ⟨v, e', h⟩ := ok.val i d e
    refine ⟨v, e', Den.move (F := fun _ => False) (.of_same s) (fun _ f => f.elim) (fun a z => ?_) d h⟩
    rcases z with (z | z) | z
    · exact .inl (.inl z)
    · exact .inr (by rw [z]; exact hp)
    · exact .inl (.inr z)
  own := fun i b d e => by
    obtain ⟨q, e', h⟩ := ok.own i b d e
    refine ⟨q, e', Cell.move (F := fun _ => False) (.of_same s) (fun _ f => f.elim) (fun a z => ?_) (fun o q => s _ _ q) h⟩
    rcases z with (z | z) | z
    · exact .inl (.inl z)
    · exact .inr (by rw [z]; exact hp)
    · exact .inl (.inr z)
  inj := ok.inj
  dom := fun a g => by
    rcases g with g | g
    · obtain ⟨o, e⟩ := ok.dom a g
      exact ⟨o, s a o e⟩
    · exact ⟨o, by rw [g]; exact hp'⟩
  dis := fun a g f => by
    rcases g with g | g
    · exact ok.dis a g f
    · obtain ⟨o, e⟩ := ok.domZ (.inr f)
      rw [g, hp] at e
      cases e
/-- an expression leaves the slots, or less of them owned -/
structure Shr (η η' : Sto) : Prop where
  sub : ∀ (i : Nat) (b : Bool) (d : D), η'[i]? = some (Slot.own b d) → ∃ d', η[i]? = some (Slot.own b d')
  fix : ∀ (i : Nat) (d : D), η[i]? = some (Slot.own true d) → ∃ d', η'[i]? = some (Slot.own true d')
  val : ∀ (i : Nat) (d : D), η'[i]? = some (Slot.val d) → η[i]? = some (Slot.val d)
theorem Shr.refl {η : Sto} : Shr η η := ⟨fun _ _ d h => ⟨d, h⟩, fun _ d h => ⟨d, h⟩, fun _ _ h => h⟩
theorem Shr.trans {η η1 η2 : Sto} (a : Shr η η1) (b : Shr η1 η2) : Shr η η2 :=
  ⟨fun i c d h => let ⟨d', h'⟩ := b.sub i c d h; a.sub i c d' h', fun i d h => let ⟨d', h'⟩ := a.fix i d h; b.fix i d' h', fun i d h => a.val i d (b.val i d h)⟩
theorem Shr.fo {η η' : Sto} (s : Shr η η') {σ : St} {a : Addr} : Fo η' σ a → Fo η σ a := fun ⟨i, b, d, e, q⟩ => let ⟨d', e'⟩ := s.sub i b d e; ⟨i, b, d', e', q⟩

inductive Res (α : Type) where
  | ok (a : α) (η : Sto) | exc (c : Str) (η : Sto) | bad
def M (α : Type) := Sto → Res α
def M.bind {α β : Type} (m : M α) (k : α → M β) : M β := fun η => match m η with
  | .ok a η' => k a η'
  | .exc c η' => .exc c η'
  | .bad => .bad
def M.pure {α : Type} (a : α) : M α := fun η => .ok a η
instance : Monad M where
  pure := M.pure
  bind := M.bind
def M.of {α : Type} : Option α → M α
  | some a => M.pure a
  | none => fun _ => .bad

/-- what is asked of a result so that Q holds behind it -/
def Post {α β : Type} (X : Cx) (W : WX) (G : Addr → Prop) (η : Sto) (σ : St) (H : Hp) (R : Sto → Hp → α → β → Prop) (Q : β → Hp → Prop) : Res α → Prop
  | .ok a η' => ∀ b H', Shr η η' → Step (Fo η σ) H H' → Ok G X.K η' σ H' → R η' H' a b → Q b H'
  | .exc c η' => ∀ C H', X.mg c = some (.ref C) → Shr η η' → Step (Fo η σ) H H' → Ok G X.K η' σ H' → W (.ref C) none σ H'
  | .bad => False
section
variable {α β γ δ : Type} {X : Cx} {W : WX} {G : Addr → Prop} {η η1 : Sto} {σ : St} {H H1 : Hp} {R : Sto → Hp → α → β → Prop} {R' : Sto → Hp → γ → δ → Prop} {Q Q' : β → Hp → Prop} {Qd : δ → Hp → Prop}
theorem Post.imp {r : Res α} (h : Post X W G η σ H R Q r) (i : ∀ b H, Q b H → Q' b H) : Post X W G η σ H R Q' r := by
  cases r with
  | ok a η' => exact fun b H' s1 s2 o r => i b H' (h b H' s1 s2 o r)
  | exc c η' => exact h
  | bad => exact h
theorem Post.later {r : Res α} (h : Post X W G η σ H R Q r) (s : Shr η η1) (t : Step (Fo η σ) H H1) : Post X W G η1 σ H1 R Q r := by
  have tr : ∀ {H'}, Step (Fo η1 σ) H1 H' → Step (Fo η σ) H H' := fun u => t.trans u fun a f => .inl (s.fo f)
  cases r with
  | ok a η' => exact fun b H' s1 s2 o r => h b H' (s.trans s1) (tr s2) o r
  | exc c η' => exact fun C H' m s1 s2 o => h C H' m (s.trans s1) (tr s2) o
  | bad => exact h
/-- .. where the wanted relation may be shown for the earlier start -/
theorem Post.rel {R2 : Sto → Hp → α → β → Prop} {r : Res α} (h : Post X W G η σ H R Q r) (i : ∀ η' H' a b, Shr η η' → Step (Fo η σ) H H' → Ok G X.K η' σ H' → R2 η' H' a b → R η' H' a b) : Post X W G η σ H R2 Q r := by
  cases r with
  | ok a η' => exact fun b H' s1 s2 o r => h b H' s1 s2 o (i _ _ _ _ s1 s2 o r)
  | exc c η' => exact h
  | bad => exact h
structure At (X : Cx) (W : WX) (G : Addr → Prop) (η : Sto) (σ : St) (H : Hp) (m : M α) (R : Sto → Hp → α → β → Prop) (R' : Sto → Hp → γ → δ → Prop) (Qd : δ → Hp → Prop) (k : α → M γ) (b : β) (H1 : Hp) (η1 : Sto) (a : α) : Prop where
  eq : m η = .ok a η1
  shr : Shr η η1
  st : Step (Fo η σ) H H1
  ok : Ok G X.K η1 σ H1
  r : R η1 H1 a b
  post : Post X W G η1 σ H1 R' Qd (k a η1)
theorem Post.bind {m : M α} {k : α → M γ} (h : Post X W G η σ H R' Qd ((m >>= k) η)) : Post X W G η σ H R (fun b H1 => ∃ η1 a, At X W G η σ H m R R' Qd k b H1 η1 a) (m η) := by
  have e : (m >>= k) η = M.bind m k η := rfl
  rw [e] at h
  unfold M.bind at h
  cases q : m η with
  | ok a η' =>
    rw [q] at h
    exact fun b H' s1 s2 o r => ⟨η', a, q, s1, s2, o, r, h.later s1 s2⟩
  | exc c η' =>
    rw [q] at h
    exact h
  | bad =>
    rw [q] at h
    exact h
end

/-! ### the judgements -/
def RD (X : Cx) (G : Addr → Prop) (σ : St) : Sto → Hp → D → V → Prop := fun η H d v => Den (Zo G η σ) X.K H d v
def RB : Sto → Hp → Bool → Bool → Prop := fun _ _ a b => a = b
/-- a list that was made behind H0: nothing else speaks of it -/
def RF (X : Cx) (G : Addr → Prop) (σ : St) (H0 : Hp) : Sto → Hp → D → V → Prop := fun η H d v => ∃ p, v = .ref p ∧ H0 p = none ∧ Cell (fun a => Zo G η σ a ∨ a = p) X.K H p d ∧ Ok (fun a => G a ∨ a = p) X.K η σ H
def tE (X : Cx) (W : WX) (m : M D) : TE := fun σ H Q => ∃ G η, Ok G X.K η σ H ∧ Post X W G η σ H (RD X G σ) Q (m η)
def tT (X : Cx) (W : WX) (m : M Bool) : TT := fun σ H Q => ∃ G η, Ok G X.K η σ H ∧ Post X W G η σ H RB Q (m η)
def tF (X : Cx) (W : WX) (m : M D) : TE := fun σ H Q => ∃ G η, Ok G X.K η σ H ∧ Post X W G η σ H (RF X G σ H) Q (m η)
def PEd (X : Cx) (W : WX) (e : Expr) (m : M D) : Prop := PE X e (tE X W m)
def PTd (X : Cx) (W : WX) (e : Expr) (m : M Bool) : Prop := PT X e (tT X W m)
def PFd (X : Cx) (W : WX) (e : Expr) (m : M D) : Prop := PE X e (tF X W m)
theorem PE.weak {X : Cx} {e : Expr} {t u : TE} (h : PE X e t) (i : ∀ σ H Q, u σ H Q → t σ H Q) : PE X e u := ⟨fun pins s σ H Q I q => h.run pins s σ H Q I (i σ H Q q)⟩
theorem PT.weak {X : Cx} {e : Expr} {t u : TT} (h : PT X e t) (i : ∀ σ H Q, u σ H Q → t σ H Q) : PT X e u := ⟨fun pins s σ H Q I q => h.run pins s σ H Q I (i σ H Q q)⟩
theorem PW.weak {X : Cx} {e : Expr} {t u : TT} (h : PW X e t) (i : ∀ σ H Q, u σ H Q → t σ H Q) : PW X e u := ⟨fun wh pins s σ H Q I q => h.run wh pins s σ H Q I (i σ H Q q)⟩
theorem PA.weak {X : Cx} {e : List Expr} {t u : TA} (h : PA X e t) (i : ∀ σ H Q, u σ H Q → t σ H Q) : PA X e u := ⟨fun wh pins s σ H Q I q => h.run wh pins s σ H Q I (i σ H Q q)⟩
theorem PS.weak {X : Cx} {e : Stmt} {t u : TS} (h : PS X e t) (i : ∀ σ H Q, u σ H Q → t σ H Q) : PS X e u := ⟨fun pins s σ H D I q => h.run pins s σ H D I (i D σ H q)⟩
theorem PSs.weak {X : Cx} {e : List Stmt} {t u : TS} (h : PSs X e t) (i : ∀ σ H Q, u σ H Q → t σ H Q) : PSs X e u := ⟨fun pins s σ H D I q => h.run pins s σ H D I (i D σ H q)⟩
end Pd

namespace Pd
open PySem L2
def lenOk (n : Nat) : Bool := decide (n ≤ 1000000)
theorem lenOk_line {n : Nat} (h : lenOk n = true) : n ≤ sizeLine := by
  have := of_decide_eq_true h
  rw [sizeLine_eq]
  omega
theorem lenOk_lt {n : Nat} (h : lenOk n = true) : n < sizeLine := by
  have := of_decide_eq_true h
  rw [sizeLine_eq]
  omega
section
variable {X : Cx} {W : WX} {G : Addr → Prop} {η η1 : Sto} {σ : St} {H H1 : Hp}
theorem Shr.zo {η η' : Sto} (s : Shr η η') {a : Addr} : Zo G η' σ a → Zo G η σ a := fun z => z.elim .inl fun f => .inr (s.fo f)
theorem carry {d : D} {v : V} (s : Shr η η1) (t : Step (Fo η σ) H H1) (h : Den (Zo G η σ) X.K H d v) : Den (Zo G η1 σ) X.K H1 d v :=
  Den.move t (fun _ f => .inr f) (fun _ z => .inl (s.zo z)) d h
theorem carries {d : List D} {v : List V} (s : Shr η η1) (t : Step (Fo η σ) H H1) (h : Dens (Zo G η σ) X.K H d v) : Dens (Zo G η1 σ) X.K H1 d v :=
  Dens.move t (fun _ f => .inr f) (fun _ z => .inl (s.zo z)) d h
theorem Post.of {o : Option D} {Q : VK} (ok : Ok G X.K η σ H) (h : Post X W G η σ H (RD X G σ) Q (M.of o η)) :
    ∃ g, o = some g ∧ ∀ v H', Same H H' → Den (Zo G η σ) X.K H' g v → Q v H' := by
  cases o with
  | none => exact h.elim
  | some g => exact ⟨g, rfl, fun v H' s dn => h v H' .refl (.of_same s) (ok.same s) dn⟩
theorem Post.ofB {o : Option Bool} {Q : Bool → Hp → Prop} (ok : Ok G X.K η σ H) (h : Post X W G η σ H RB Q (M.of o η)) : ∃ k, o = some k ∧ Q k H := by
  cases o with
  | none => exact h.elim
  | some k => exact ⟨k, rfl, h k H .refl .refl ok rfl⟩
end

/-! ### names, constants -/
def getV (i : Nat) : M D := fun η => match η[i]? with
  | some (.val d) => .ok d η
  | _ => .bad
section
variable {X : Cx} {W : WX} {e a b : Expr} {es : List Expr} {pos : Pos}
theorem pd_var (i : Nat) {x : Str} (hN : X.N[i]? = some x := by rfl) (hv : Vis X.env.scope x := by first | exact Or.inl rfl | exact Or.inr (Or.inl rfl) | exact Or.inr (Or.inr rfl))
    (hd : (x == ("__debug__" : Str)) = false := by decide) (hcd : (x == ("__classdict__" : Str)) = false := by decide) : PEd X W (.Name x pos) (getV i) :=
  PE.weak (pe_var hN hv hd hcd) fun σ H Q ⟨G, η, ok, h⟩ => by
    unfold getV at h
    split at h
    · rename_i d e
      obtain ⟨v, e', dn⟩ := ok.val i d e
      exact ⟨v, e', h v H .refl .refl ok dn⟩
    · exact h.elim
theorem pd_c {v : V} {d : D} (h : PE X e (tC v)) (hd : ∀ Z H, Den Z X.K H d v) : PEd X W e (M.pure d) :=
  PE.weak h fun σ H Q ⟨G, η, ok, h⟩ => h v H .refl .refl ok (hd _ _)
theorem pd_int {i : Int} {j : Nat} : PEd X W (.Constant (.int i) j pos) (M.pure (.int i)) := pd_c pe_int fun _ _ => rfl
theorem pd_bl {i : Bool} {j : Nat} : PEd X W (.Constant (.bool i) j pos) (M.pure (.bl i)) := pd_c pe_bl fun _ _ => rfl
theorem pd_non {j : Nat} : PEd X W (.Constant .none j pos) (M.pure .non) := pd_c pe_non fun _ _ => rfl
theorem pd_str {x : Str} {j : Nat} : PEd X W (.Constant (.str x) j pos) (M.pure (.str x)) := pd_c pe_str fun _ _ => rfl
/-- a tuple that the module's top has made -/
theorem pd_glob {x : Str} {a : Addr} {o : Obj} {its : Array Value} {n : Nat} {ds : List D} {xs : List V} (hg : Gl X x) (hm : X.mg x = some (.ref a)) (lk : X.K.lookup a = some o) (hc : o.cls = .type "tuple") (hd : o.data = .seq its n)
    (hz : its.size ≤ sizeLine) (r : L2.Vals xs its.toList) (dn : ∀ Z H, Dens Z X.K H ds xs) (hdb : (x == ("__debug__" : Str)) = false := by decide) : PEd X W (.Name x pos) (M.pure (.tup ds)) :=
  pd_c (pe_glob hg hm (v := .ref a) rfl hdb) fun Z H => ⟨a, xs, rfl, .inr ⟨o, its, n, lk, hc, hd, hz, r⟩, dn Z H⟩

/-! ### arguments, displays -/
def RDs (X : Cx) (G : Addr → Prop) (σ : St) : Sto → Hp → List D → List V → Prop := fun η H d v => Dens (Zo G η σ) X.K H d v
def tA (X : Cx) (W : WX) (m : M (List D)) : TA := fun σ H Q => ∃ G η, Ok G X.K η σ H ∧ Post X W G η σ H (RDs X G σ) Q (m η)
def PAd (X : Cx) (W : WX) (es : List Expr) (m : M (List D)) : Prop := PA X es (tA X W m)
theorem pad_nil : PAd X W [] (M.pure []) := PA.weak pa_nil fun σ H Q ⟨G, η, ok, h⟩ => h [] H .refl .refl ok .nil
theorem pad_cons {m : M D} {ms : M (List D)} (ha : PEd X W e m) (hr : PAd X W es ms) (hs : starEach (e :: es) X.env = (false, eval e X.env) :: starEach es X.env := by rfl) : PAd X W (e :: es) (do let d ← m; let ds ← ms; pure (d :: ds)) :=
  PA.weak (pa_cons ha hr hs) fun σ H Q ⟨G, η, ok, h⟩ => ⟨G, η, ok, (Post.bind (R := RD X G σ) h).imp fun x H1 ⟨η1, d, a1⟩ => ⟨G, η1, a1.ok, (Post.bind (R := RDs X G σ) a1.post).imp fun xs H2 ⟨η2, ds, a2⟩ =>
    a2.post (x :: xs) H2 .refl .refl a2.ok (.cons (carry a2.shr a2.st a1.r) a2.r)⟩⟩
theorem pd_tup {m : M (List D)} {x1 : Nat} (h : PAd X W es m) : PEd X W (.Tuple es x1 pos) (m >>= fun ds => M.of (if lenOk ds.length = true then some (.tup ds) else none)) :=
  PE.weak (pe_tup h) fun σ H Q ⟨G, η, ok, h⟩ => ⟨G, η, ok, (Post.bind (R := RDs X G σ) h).imp fun xs H1 ⟨η1, ds, a1⟩ => by
    obtain ⟨g, e, k⟩ := Post.of a1.ok a1.post
    split at e
    · rename_i hl
      cases e
      have el : ds.length = xs.length := Dens.length a1.r
      refine ⟨by rw [← el]; exact lenOk_line hl, fun p hp => k _ _ (same_new hp) ⟨p, xs, rfl, .of upd_same, Dens.same (same_new hp) a1.r⟩⟩
    · cases e⟩
theorem pf_lst {m : M (List D)} {x1 : Nat} (h : PAd X W es m) : PFd X W (.List es pos) (m >>= fun ds => M.of (if lenOk ds.length = true then some (.lst ds) else none)) :=
  PE.weak (pe_lst h) fun σ H Q ⟨G, η, ok, h⟩ => ⟨G, η, ok, (Post.bind (R := RDs X G σ) h).imp fun xs H1 ⟨η1, ds, a1⟩ => by
    have q := a1.post
    by_cases hl : lenOk ds.length = true
    · rw [if_pos hl] at q
      have el : ds.length = xs.length := Dens.length a1.r
      refine ⟨by rw [← el]; exact lenOk_line hl, fun p hp => q _ _ .refl (.of_same (same_new hp)) (a1.ok.same (same_new hp)) ⟨p, rfl, a1.st.none_of hp, ⟨xs, upd_same, ?_⟩, a1.ok.guard hp (same_new hp) upd_same⟩⟩
      exact Dens.move (F := fun _ => False) (.of_same (same_new hp)) (fun _ f => f.elim) (fun a z => z.imp id fun e => by rw [e]; exact hp) _ a1.r
    · rw [if_neg hl] at q
      exact q.elim⟩
theorem PFd.plain {m : M D} (h : PFd X W e m) : PEd X W e m := PE.weak h fun σ H Q ⟨G, η, ok, h⟩ => ⟨G, η, ok, h.rel fun η' H' d v s1 s2 o ⟨p, ev, hn, c, _⟩ => by
  have np : ¬ Zo G η' σ p := fun z => by
    obtain ⟨o, e⟩ := ok.domZ (s1.zo z)
    rw [hn] at e
    cases e
  cases d with
  | lst ds =>
    obtain ⟨xs, e, q⟩ := c
    exact ⟨p, xs, ev, np, e, q.less fun a z => .inl z⟩
  | dct ks ds =>
    obtain ⟨kvs, e, r, q⟩ := c
    exact ⟨p, kvs, ev, np, e, r, q.less fun a z => .inl z⟩
  | _ => exact False.elim c⟩

/-! ### operators -/
def DenT (Z : Addr → Prop) (K : PySem.W.Frag) (H : Hp) : D → V → Prop
  | .non, v => v = .non
  | .bl b, v => v = .bl b
  | .int i, v => v = .int i
  | .str x, v => v = .str x
  | .tup ds, v => ∃ a xs, v = .ref a ∧ SqT K H a xs ∧ Dens Z K H ds xs
  | .lst ds, v => ∃ a xs, v = .ref a ∧ H a = some (.lst xs) ∧ Dens Z K H ds xs
  | .dct ks ds, v => ∃ a kvs, v = .ref a ∧ H a = some (.dK kvs) ∧ kvs.map (·.1) = ks ∧ Dens Z K H ds (kvs.map (·.2))
  | .scr ns, v => ∃ a, v = .ref a ∧ Scr K H a ns
theorem Den.t {Z : Addr → Prop} {K : PySem.W.Frag} {H : Hp} : ∀ {d : D} {v : V}, Den Z K H d v → DenT Z K H d v
  | .non, _, h => h
  | .bl _, _, h => h
  | .int _, _, h => h
  | .str _, _, h => h
  | .tup _, _, h => h
  | .lst _, _, ⟨a, xs, e, _, q, r⟩ => ⟨a, xs, e, q, r⟩
  | .dct _ _, _, ⟨a, xs, e, _, q, r, t⟩ => ⟨a, xs, e, q, r, t⟩
  | .scr _, _, h => h
def DomOk (Z : Addr → Prop) (H : Hp) : Prop := ∀ a, Z a → ∃ o, H a = some o
theorem Ok.domOk {G : Addr → Prop} {K : PySem.W.Frag} {η : Sto} {σ : St} {H : Hp} (ok : Ok G K η σ H) : DomOk (Zo G η σ) H := fun _ z => ok.domZ z
/-- a list made anew -/
theorem DomOk.fresh {Z : Addr → Prop} {H : Hp} (h : DomOk Z H) {p : Addr} (hp : H p = none) : ¬ Z p := fun z => by
  obtain ⟨o, e⟩ := h p z
  rw [hp] at e
  cases e
theorem den_new {Z : Addr → Prop} {K : PySem.W.Frag} {H : Hp} {p : Addr} {ds : List D} {xs : List V} (hz : DomOk Z H) (hp : H p = none) (h : Dens Z K H ds xs) : Den Z K (upd H p (.lst xs)) (.lst ds) (.ref p) :=
  ⟨p, xs, rfl, hz.fresh hp, upd_same, Dens.same (same_new hp) h⟩
theorem den_newT {Z : Addr → Prop} {K : PySem.W.Frag} {H : Hp} {p : Addr} {ds : List D} {xs : List V} (hp : H p = none) (h : Dens Z K H ds xs) : Den Z K (upd H p (.tup xs)) (.tup ds) (.ref p) :=
  ⟨p, xs, rfl, .of upd_same, Dens.same (same_new hp) h⟩
def OpD (X : Cx) (r : R2) (f : D → D → Option D) : Prop := ∀ (Z : Addr → Prop) (H : Hp) (x y : V) (d e g : D) (Q : VK), DomOk Z H → DenT Z X.K H d x → DenT Z X.K H e y → f d e = some g →
  (∀ v H', Same H H' → Den Z X.K H' g v → Q v H') → r x y H Q
def CmpD (X : Cx) (r : R2) (f : D → D → Option Bool) : Prop := ∀ (Z : Addr → Prop) (H : Hp) (x y : V) (d e : D) (k : Bool) (Q : VK), DomOk Z H → DenT Z X.K H d x → DenT Z X.K H e y → f d e = some k →
  Q (.bl k) H → r x y H Q
def UnD (X : Cx) (r : V → Hp → VK → Prop) (f : D → Option D) : Prop := ∀ (Z : Addr → Prop) (H : Hp) (x : V) (d g : D) (Q : VK), DomOk Z H → DenT Z X.K H d x → f d = some g →
  (∀ v H', Same H H' → Den Z X.K H' g v → Q v H') → r x H Q
/-- two operands, then what a rule asks -/
theorem two_of {r : R2} {f : D → D → Option D} {m1 m2 : M D} (hs : OpD X r f) {σ : St} {H : Hp} {Q : VK} (h : tE X W (do let d ← m1; let e ← m2; M.of (f d e)) σ H Q) : tOp r (tE X W m1) (tE X W m2) σ H Q := by
  obtain ⟨G, η, ok, h⟩ := h
  refine ⟨G, η, ok, (Post.bind (R := RD X G σ) h).imp fun x H1 ⟨η1, d, a1⟩ => ⟨G, η1, a1.ok, (Post.bind (R := RD X G σ) a1.post).imp fun y H2 ⟨η2, e, a2⟩ => ?_⟩⟩
  obtain ⟨g, eg, k⟩ := Post.of a2.ok a2.post
  exact hs _ H2 x y d e g Q a2.ok.domOk (carry a2.shr a2.st a1.r).t (Den.t a2.r) eg k
theorem twoC_of {r : R2} {f : D → D → Option Bool} {m1 m2 : M D} (hs : CmpD X r f) {σ : St} {H : Hp} {Q : VK} (h : tE X W (do let d ← m1; let e ← m2; M.of ((f d e).map D.bl)) σ H Q) : tOp r (tE X W m1) (tE X W m2) σ H Q := by
  obtain ⟨G, η, ok, h⟩ := h
  refine ⟨G, η, ok, (Post.bind (R := RD X G σ) h).imp fun x H1 ⟨η1, d, a1⟩ => ⟨G, η1, a1.ok, (Post.bind (R := RD X G σ) a1.post).imp fun y H2 ⟨η2, e, a2⟩ => ?_⟩⟩
  obtain ⟨g, eg, k⟩ := Post.of a2.ok a2.post
  cases ek : f d e with
  | none => rw [ek] at eg; cases eg
  | some c =>
    rw [ek] at eg
    cases eg
    exact hs _ H2 x y d e c Q a2.ok.domOk (carry a2.shr a2.st a1.r).t (Den.t a2.r) ek (k _ _ (Same.refl _) rfl)
theorem pd_bin {op : Operator} {r : R2} {f : D → D → Option D} {m1 m2 : M D} (hop : OpR X (binaryOp op) r) (hs : OpD X r f) (ha : PEd X W a m1) (hb : PEd X W b m2) : PEd X W (.BinOp a op b pos) (do let d ← m1; let e ← m2; M.of (f d e)) :=
  PE.weak (pe_op hop ha hb) fun σ H Q h => two_of hs h
theorem pd_un {op : UnaryOp} {r : V → Hp → VK → Prop} {f : D → Option D} {m1 : M D} (hop : UnR X (unaryOp op) r) (hs : UnD X r f) (ha : PEd X W a m1) : PEd X W (.UnaryOp op a pos) (do let d ← m1; M.of (f d)) :=
  PE.weak (pe_un hop ha) fun σ H Q ⟨G, η, ok, h⟩ => ⟨G, η, ok, (Post.bind (R := RD X G σ) h).imp fun x H1 ⟨η1, d, a1⟩ => by
    obtain ⟨g, eg, k⟩ := Post.of a1.ok a1.post
    exact hs _ H1 x d g Q a1.ok.domOk (Den.t a1.r) eg k⟩
theorem pd_cmp {op : CmpOp} {r : R2} {f : D → D → Option Bool} {m1 m2 : M D} (hop : OpR X (compareOp op) r) (hs : CmpD X r f) (ha : PEd X W a m1) (hb : PEd X W b m2) (hm : behindInMarks op b = false) :
    PEd X W (.Compare a [op] [b] pos) (do let d ← m1; let e ← m2; M.of ((f d e).map D.bl)) := PE.weak (pe_cmpR hop ha hb hm) fun σ H Q h => twoC_of hs h
theorem ptd_cmp {op : CmpOp} {r : R2} {f : D → D → Option Bool} {m1 m2 : M D} (hop : OpR X (compareOp op) r) (hs : CmpD X r f) (ha : PEd X W a m1) (hb : PEd X W b m2) (hm : behindInMarks op b = false) :
    PTd X W (.Compare a [op] [b] pos) (do let d ← m1; let e ← m2; M.of (f d e)) := PT.weak (pt_cmpR hop ha hb hm) fun σ H Q ⟨G, η, ok, h⟩ => by
  show tOp r (tE X W m1) (tE X W m2) σ H fun x H' => ∃ k, x = .bl k ∧ Q k H'
  refine ⟨G, η, ok, (Post.bind (R := RD X G σ) h).imp fun x H1 ⟨η1, d, a1⟩ => ⟨G, η1, a1.ok, (Post.bind (R := RD X G σ) a1.post).imp fun y H2 ⟨η2, e, a2⟩ => ?_⟩⟩
  obtain ⟨c, ek, k⟩ := Post.ofB a2.ok a2.post
  exact hs _ H2 x y d e c _ a2.ok.domOk (carry a2.shr a2.st a1.r).t (Den.t a2.r) ek ⟨c, rfl, k⟩

/-! ### tests -/
def asB : D → Option Bool
  | .bl b => some b
  | _ => none
theorem asB_some {d : D} {k : Bool} (h : asB d = some k) : d = .bl k := by
  cases d <;> cases h
  rfl
def PWd (X : Cx) (W : WX) (e : Expr) (m : M Bool) : Prop := PW X e (tT X W m)
theorem PWd.pt {m : M Bool} (h : PWd X W e m) : PTd X W e m := PW.pt h
theorem ptd_val {m : M D} (h : PEd X W e m) (he : ∀ whole, isTrue e X.env whole = (do let v ← whole; standAt e.pos; holding [v] (truthy v)) := by intro _; rfl) : PTd X W e (do let d ← m; M.of (asB d)) :=
  PT.weak (pt_val h he) fun σ H Q ⟨G, η, ok, h⟩ => ⟨G, η, ok, (Post.bind (R := RD X G σ) h).imp fun x H1 ⟨η1, d, a1⟩ => by
    obtain ⟨k, ek, q⟩ := Post.ofB a1.ok a1.post
    have e := asB_some ek
    subst e
    exact ⟨k, a1.r, q⟩⟩
theorem pwd_and1 {m : M Bool} (h : PTd X W a m) : PWd X W (.BoolOp .And [a] pos) m := pw_and1 h
theorem pwd_or1 {m : M Bool} (h : PTd X W a m) : PWd X W (.BoolOp .Or [a] pos) m := pw_or1 h
theorem pwd_and {m1 m2 : M Bool} {rest : List Expr} (ha : PTd X W a m1) (hb : PWd X W (.BoolOp .And (b :: rest) pos) m2) : PWd X W (.BoolOp .And (a :: b :: rest) pos) (do let c ← m1; if c = true then m2 else pure false) :=
  PW.weak (pw_and ha hb) fun σ H Q ⟨G, η, ok, h⟩ => ⟨G, η, ok, (Post.bind (R := RB) h).imp fun c H1 ⟨η1, d, a1⟩ => by
    have e : d = c := a1.r
    subst e
    cases d with
    | true => exact iteT ⟨G, η1, a1.ok, a1.post⟩
    | false => exact iteF (a1.post false H1 .refl .refl a1.ok rfl)⟩
theorem pwd_or {m1 m2 : M Bool} {rest : List Expr} (ha : PTd X W a m1) (hb : PWd X W (.BoolOp .Or (b :: rest) pos) m2) : PWd X W (.BoolOp .Or (a :: b :: rest) pos) (do let c ← m1; if c = true then pure true else m2) :=
  PW.weak (pw_or ha hb) fun σ H Q ⟨G, η, ok, h⟩ => ⟨G, η, ok, (Post.bind (R := RB) h).imp fun c H1 ⟨η1, d, a1⟩ => by
    have e : d = c := a1.r
    subst e
    cases d with
    | true => exact iteT (a1.post true H1 .refl .refl a1.ok rfl)
    | false => exact iteF ⟨G, η1, a1.ok, a1.post⟩⟩
theorem ptd_not {m : M Bool} (h : PTd X W a m) : PTd X W (.UnaryOp .Not a pos) (do let c ← m; pure (!c)) :=
  PT.weak (pt_not h) fun σ H Q ⟨G, η, ok, h⟩ => ⟨G, η, ok, (Post.bind (R := RB) h).imp fun c H1 ⟨η1, d, a1⟩ => by
    have e : d = c := a1.r
    subst e
    exact a1.post (!d) H1 .refl .refl a1.ok rfl⟩
theorem pd_not {m : M D} (h : PEd X W a m) : PEd X W (.UnaryOp .Not a pos) (do let d ← m; let c ← M.of (asB d); pure (.bl (!c))) :=
  PE.weak (pe_not h) fun σ H Q ⟨G, η, ok, h⟩ => ⟨G, η, ok, (Post.bind (R := RD X G σ) h).imp fun x H1 ⟨η1, d, a1⟩ => by
    obtain ⟨k, ek, q⟩ := Post.ofB a1.ok (Post.bind (R := RB) a1.post)
    have e := asB_some ek
    subst e
    obtain ⟨η2, c, a2⟩ := q
    have e : c = k := a2.r
    subst e
    exact ⟨c, a1.r, a2.post _ _ .refl .refl a2.ok rfl⟩⟩
theorem pd_one {op : BoolOp} {m : M D} (h : PEd X W a m) : PEd X W (.BoolOp op [a] pos) m := pe_one h
theorem pd_and {m1 m2 : M D} {rest : List Expr} (ha : PEd X W a m1) (hb : PEd X W (.BoolOp .And (b :: rest) pos) m2) :
    PEd X W (.BoolOp .And (a :: b :: rest) pos) (do let d ← m1; let c ← M.of (asB d); if c = true then m2 else pure (.bl false)) :=
  PE.weak (pe_and ha hb) fun σ H Q ⟨G, η, ok, h⟩ => ⟨G, η, ok, (Post.bind (R := RD X G σ) h).imp fun x H1 ⟨η1, d, a1⟩ => by
    obtain ⟨k, ek, q⟩ := Post.ofB a1.ok (Post.bind (R := RB) a1.post)
    have e := asB_some ek
    subst e
    obtain ⟨η2, c, a2⟩ := q
    have e : c = k := a2.r
    subst e
    refine ⟨c, a1.r, ?_⟩
    cases c with
    | true => exact iteT ⟨G, η2, a2.ok, a2.post⟩
    | false => exact iteF (a2.post _ _ .refl .refl a2.ok rfl)⟩
theorem pd_or {m1 m2 : M D} {rest : List Expr} (ha : PEd X W a m1) (hb : PEd X W (.BoolOp .Or (b :: rest) pos) m2) :
    PEd X W (.BoolOp .Or (a :: b :: rest) pos) (do let d ← m1; let c ← M.of (asB d); if c = true then pure (.bl true) else m2) :=
  PE.weak (pe_or ha hb) fun σ H Q ⟨G, η, ok, h⟩ => ⟨G, η, ok, (Post.bind (R := RD X G σ) h).imp fun x H1 ⟨η1, d, a1⟩ => by
    obtain ⟨k, ek, q⟩ := Post.ofB a1.ok (Post.bind (R := RB) a1.post)
    have e := asB_some ek
    subst e
    obtain ⟨η2, c, a2⟩ := q
    have e : c = k := a2.r
    subst e
    refine ⟨c, a1.r, ?_⟩
    cases c with
    | true => exact iteT (a2.post _ _ .refl .refl a2.ok rfl)
    | false => exact iteF ⟨G, η2, a2.ok, a2.post⟩⟩
theorem pd_if {c : Expr} {mc : M Bool} {m1 m2 : M D} (hc : PTd X W c mc) (ha : PEd X W a m1) (hb : PEd X W b m2) : PEd X W (.IfExp c a b pos) (do let k ← mc; if k = true then m1 else m2) :=
  PE.weak (pe_ifExp hc ha hb) fun σ H Q ⟨G, η, ok, h⟩ => ⟨G, η, ok, (Post.bind (R := RB) h).imp fun c H1 ⟨η1, d, a1⟩ => by
    have e : d = c := a1.r
    subst e
    cases d with
    | true => exact iteT ⟨G, η1, a1.ok, a1.post⟩
    | false => exact iteF ⟨G, η1, a1.ok, a1.post⟩⟩
end
end Pd

namespace Pd
open PySem L2
/-! ### what the operators do on data -/
def mulOk (i j : Int) : Bool := decide (i.natAbs.log2 + j.natAbs.log2 < 100000000)
def divOk (j : Int) : Bool := decide (j ≠ 0) && decide (j.natAbs.log2 < 9000)
def powOk (i j : Int) : Bool := decide (0 ≤ j) && decide (j ≤ 1000000) && decide (i.natAbs < 2 ^ 64)
def addD : D → D → Option D
  | .int i, .int j => some (.int (i + j))
  | .tup a, .tup b => if lenOk (a.length + b.length) = true then some (.tup (a ++ b)) else none
  | .lst a, .lst b => if lenOk (a.length + b.length) = true then some (.lst (a ++ b)) else none
  | .lst a, .scr b => if lenOk (a.length + b.length) = true then some (.lst (a ++ b.map D.int)) else none
  | .str a, .str b => if lenOk (a.length + b.length) = true then some (.str (a ++ b)) else none
  | _, _ => none
def subD : D → D → Option D
  | .int i, .int j => some (.int (i - j))
  | _, _ => none
def repOk (n : Nat) (k : Int) : Bool := decide (0 ≤ k) && decide (k ≤ 1000) && decide (n ≤ 1000)
def mulD : D → D → Option D
  | .int i, .int j => if mulOk i j = true then some (.int (i * j)) else none
  | .lst a, .int k => if repOk a.length k = true then some (.lst (List.replicate k.toNat a).flatten) else none
  | .tup a, .int k => if (repOk a.length k && decide (2 ≤ k) && !a.isEmpty) = true then some (.tup (List.replicate k.toNat a).flatten) else none
  | _, _ => none
def fdivD : D → D → Option D
  | .int i, .int j => if divOk j = true then some (.int (i.fdiv j)) else none
  | _, _ => none
def modD : D → D → Option D
  | .int i, .int j => if j ≠ 0 then some (.int (i.fmod j)) else none
  | _, _ => none
def powD : D → D → Option D
  | .int i, .int j => if powOk i j = true then some (.int (i ^ j.toNat)) else none
  | _, _ => none
def negD : D → Option D
  | .int i => some (.int (-i))
  | _ => none

section
variable {X : Cx}
theorem op_fdivZ : OpR X (binaryOp .FloorDiv) (rI (fun _ j => j ≠ 0 ∧ j.natAbs.log2 < 9000) fun i j => .int (i.fdiv j)) :=
  opI fun _ _ _ _ _ _ _ hc q => PyProof.Rows.floordiv_int hc.1 q (.inl (PyProof.noPylong_of_log2 hc.2))
/-- list + list, whatever the two objects' slots are -/
theorem list_add_any (l b : Addr) (items items2 : Array Value) (n n2 : Nat) (sl sl2 : Array (Option Value)) (hsz : items.size + items2.size ≤ sizeLine) :
    Meets (Builtin.«list.__add__» ⟨[.ref l, .ref b], []⟩) (fun _ R s => s.heap.get? l = some { cls := .type "list", dict := none, data := .seq items n, slots := sl } ∧ s.heap.get? b = some { cls := .type "list", dict := none, data := .seq items2 n2, slots := sl2 } ∧
      R (.ok (.ret (Value.ref s.heap.objs.size))) { s with heap := s.heap.push { cls := Value.type "list", data := Data.seq (items ++ items2) }, toks := s.toks }) :=
  .of_wp fun prog w A R s h => by
    obtain ⟨hp, g, d, tk, os⟩ := s
    obtain ⟨hl, hb, h⟩ := h
    have f1 := AutoSeq1.sub_list_list
    have f2 := AutoSeq1.idx_int
    wp_walk using wpAny_loadPart' hl, wpAny_loadPart' hb
    exact ⟨_, rfl, h⟩
def rCatR (K : PySem.W.Frag) : R2 := fun x y H Q => ∃ l b xs zs, x = .ref l ∧ y = .ref b ∧ SqL K H l xs ∧ SqL K H b zs ∧ xs.length + zs.length ≤ sizeLine ∧ ∀ p, H p = none → Q (.ref p) (upd H p (.lst (xs ++ zs)))
theorem op_catR : OpR X (binaryOp .Add) (rCatR X.K) := by
  intro pins s σ H x y v u Q I rx ry h
  obtain ⟨l, b, xs, zs, rfl, rfl, hA, hB, hz, q⟩ := h
  cases rx
  cases ry
  obtain ⟨its, r, pa, _⟩ := I.list hA
  obtain ⟨its2, r2, pb, _⟩ := I.list hB
  obtain ⟨⟨c1, d1, t1, s1⟩, n1, e1, ec1, ed1, et1⟩ := pa
  obtain ⟨⟨c2, d2, t2, s2⟩, n2, e2, ec2, ed2, et2⟩ := pb
  simp only at ec1 ed1 et1 ec2 ed2 et2
  subst ec1 ed1 et1 ec2 ed2 et2
  have hl := r.length
  have hl2 := r2.length
  refine concat_meets ⟨_, e1, rfl⟩ ⟨_, e2, rfl⟩ noFill_list_add seq_list_add PySem.F.slot_list_add PySem.F.entry_list_add (PySem.F.args_list_add_2 _ _)
    (list_add_any l b its.toArray its2.toArray n1 n2 s1 s2 (by rw [List.size_toArray, List.size_toArray]; omega)) ⟨e1, e2, ?_⟩
  rw [List.append_toArray]
  exact ⟨.ref _, _, I.lnew (t' := s.toks) (r.append r2) (by rw [List.length_append]; omega), rfl, q _ I.fresh⟩

/-! ### the operators keep what their functions say -/
theorem Scr.dens {Z : Addr → Prop} {K : PySem.W.Frag} {H : Hp} (ns : List Int) : Dens Z K H (ns.map D.int) (ns.map V.int) := dens_of_ints ns
def rAddD (K : PySem.W.Frag) : R2 := fun x y H Q => rI0 (fun i j => .int (i + j)) x y H Q ∨ rCatA K x y H Q ∨ rCatR K x y H Q ∨ (∃ i j, x = .str i ∧ y = .str j ∧ i.length + j.length ≤ sizeLine ∧ Q (.str (i ++ j)) H)
theorem op_addD : OpR X (binaryOp .Add) (rAddD X.K) := OpR.or op_add (OpR.or op_catA (OpR.or op_catR op_add_str))
theorem add_ok : OpD X (rAddD X.K) addD := by
  intro Z H x y d e g Q hz hx hy hf k
  unfold addD at hf
  split at hf
  · cases hf
    exact .inl ⟨_, _, hx, hy, k _ _ (Same.refl _) rfl⟩
  · rename_i a b
    split at hf
    · rename_i hl
      cases hf
      obtain ⟨p, xs, rfl, hp, dp⟩ := hx
      obtain ⟨q, ys, rfl, hq, dq⟩ := hy
      have e1 := dp.length
      have e2 := dq.length
      have hs := lenOk_line hl
      refine .inr (.inl ⟨p, q, xs, ys, rfl, rfl, hp, hq, by omega, fun e => ?_, fun _ e => ?_, fun _ _ r hr => ?_⟩)
      · subst e
        have : a = [] := by cases a with | nil => rfl | cons _ _ => simp at e1
        subst this
        exact k _ _ (Same.refl _) ⟨q, ys, rfl, hq, dq⟩
      · subst e
        have : b = [] := by cases b with | nil => rfl | cons _ _ => simp at e2
        subst this
        rw [List.append_nil] at k
        exact k _ _ (Same.refl _) ⟨p, xs, rfl, hp, dp⟩
      · exact k _ _ (same_new hr) (den_newT hr (dp.append dq))
    · cases hf
  · rename_i a b
    split at hf
    · rename_i hl
      cases hf
      obtain ⟨p, xs, rfl, hp, dp⟩ := hx
      obtain ⟨q, ys, rfl, hq, dq⟩ := hy
      have e1 := dp.length
      have e2 := dq.length
      have hs := lenOk_line hl
      exact .inr (.inr (.inl ⟨p, q, xs, ys, rfl, rfl, .of hp, .of hq, by omega, fun r hr => k _ _ (same_new hr) (den_new hz hr (dp.append dq))⟩))
    · cases hf
  · rename_i a b
    split at hf
    · rename_i hl
      cases hf
      obtain ⟨p, xs, rfl, hp, dp⟩ := hx
      obtain ⟨q, rfl, hq⟩ := hy
      have e1 := dp.length
      have hs := lenOk_line hl
      exact .inr (.inr (.inl ⟨p, q, xs, b.map V.int, rfl, rfl, .of hp, hq.seq, by rw [List.length_map]; omega, fun r hr => k _ _ (same_new hr) (den_new hz hr (dp.append (dens_of_ints b)))⟩))
    · cases hf
  · rename_i a b
    split at hf
    · rename_i hl
      cases hf
      exact .inr (.inr (.inr ⟨a, b, hx, hy, lenOk_line hl, k _ _ (Same.refl _) rfl⟩))
    · cases hf
  · cases hf
theorem sub_ok : OpD X (rI0 fun i j => .int (i - j)) subD := by
  intro Z H x y d e g Q hz hx hy hf k
  unfold subD at hf
  split at hf
  · cases hf
    exact ⟨_, _, hx, hy, k _ _ (Same.refl _) rfl⟩
  · cases hf
theorem mul_fits {i j : Int} (h : i.natAbs.log2 + j.natAbs.log2 < 100000000) : IntMulOk i j := by
  have bits : ∀ x : Int, Builtin.Int.intBits x ≤ x.natAbs.log2 + 1 := fun x => by
    unfold Builtin.Int.intBits
    split <;> omega
  have hi := bits i
  have hj := bits j
  unfold IntMulOk
  intro z
  rw [Bool.and_eq_true] at z
  have z2 := z.2
  unfold Builtin.Int.intTooBig at z2
  have z3 := of_decide_eq_true z2
  have e : bitsLine = 134217728 := by decide
  rw [e] at z3
  omega
theorem op_mulZ : OpR X (binaryOp .Mult) (rI (fun i j => i.natAbs.log2 + j.natAbs.log2 < 100000000) fun i j => .int (i * j)) := opI fun _ _ _ _ _ _ _ hc q => PyProof.Rows.mul_int q (mul_fits hc)
def rMulD (K : PySem.W.Frag) : R2 := fun x y H Q => rI (fun i j => i.natAbs.log2 + j.natAbs.log2 < 100000000) (fun i j => .int (i * j)) x y H Q ∨ rRep x y H Q ∨ rRepT K x y H Q
theorem op_mulD : OpR X (binaryOp .Mult) (rMulD X.K) := OpR.or op_mulZ (OpR.or op_rep op_repT)
theorem mul_ok : OpD X (rMulD X.K) mulD := by
  intro Z H x y d e g Q hz hx hy hf k
  unfold mulD at hf
  split at hf
  · split at hf
    · rename_i hl
      cases hf
      unfold mulOk at hl
      have hl2 := of_decide_eq_true hl
      exact .inl ⟨_, _, hx, hy, hl2, k _ _ (Same.refl _) rfl⟩
    · cases hf
  · rename_i a b
    split at hf
    · rename_i hl
      cases hf
      obtain ⟨p, xs, rfl, hp, dp⟩ := hx
      unfold repOk at hl
      simp only [Bool.and_eq_true, decide_eq_true_eq] at hl
      have e1 := dp.length
      refine .inr (.inl ⟨p, b, xs, rfl, hy, hp, by omega, by omega, ?_, fun r hr => k _ _ (same_new hr) (den_new hz hr (dp.rep b.toNat))⟩)
      rw [sizeLine_eq]
      have : xs.length * b.toNat ≤ 1000 * 1000 := Nat.mul_le_mul (by omega) (by omega)
      omega
    · cases hf
  · rename_i a b
    split at hf
    · rename_i hl
      cases hf
      obtain ⟨p, xs, rfl, hp, dp⟩ := hx
      unfold repOk at hl
      simp only [Bool.and_eq_true, decide_eq_true_eq, Bool.not_eq_true'] at hl
      have e1 := dp.length
      refine .inr (.inr ⟨p, b, xs, rfl, hy, hp, ?_, by omega, by omega, by omega, fun r hr => k _ _ (same_new hr) (den_newT hr (dp.rep b.toNat))⟩)
      intro e
      subst e
      have : a = [] := by cases a with | nil => rfl | cons _ _ => simp at e1
      subst this
      simp at hl
    · cases hf
  · cases hf
theorem fdiv_ok : OpD X (rI (fun _ j => j ≠ 0 ∧ j.natAbs.log2 < 9000) fun i j => .int (i.fdiv j)) fdivD := by
  intro Z H x y d e g Q hz hx hy hf k
  unfold fdivD at hf
  split at hf
  · split at hf
    · rename_i hl
      cases hf
      unfold divOk at hl
      simp only [Bool.and_eq_true, decide_eq_true_eq] at hl
      exact ⟨_, _, hx, hy, hl, k _ _ (Same.refl _) rfl⟩
    · cases hf
  · cases hf
theorem mod_ok : OpD X (rI (fun _ j => j ≠ 0) fun i j => .int (i.fmod j)) modD := by
  intro Z H x y d e g Q hz hx hy hf k
  unfold modD at hf
  split at hf
  · split at hf
    · rename_i hl
      cases hf
      exact ⟨_, _, hx, hy, hl, k _ _ (Same.refl _) rfl⟩
    · cases hf
  · cases hf
theorem pow_ok : OpD X (rI CPow fun i j => .int (i ^ j.toNat)) powD := by
  intro Z H x y d e g Q hz hx hy hf k
  unfold powD at hf
  split at hf
  · split at hf
    · rename_i hl
      cases hf
      unfold powOk at hl
      simp only [Bool.and_eq_true, decide_eq_true_eq] at hl
      exact ⟨_, _, hx, hy, ⟨hl.1.1, hl.1.2, hl.2⟩, k _ _ (Same.refl _) rfl⟩
    · cases hf
  · cases hf
theorem neg_ok : UnD X (rU fun i => .int (-i)) negD := by
  intro Z H x d g Q hz hx hf k
  unfold negD at hf
  split at hf
  · cases hf
    exact ⟨_, hx, k _ _ (Same.refl _) rfl⟩
  · cases hf
section
variable {W : WX} {a b : Expr} {pos : Pos} {m1 m2 : M D}
theorem pd_add (ha : PEd X W a m1) (hb : PEd X W b m2) : PEd X W (.BinOp a .Add b pos) (do let d ← m1; let e ← m2; M.of (addD d e)) := pd_bin op_addD add_ok ha hb
theorem pd_sub (ha : PEd X W a m1) (hb : PEd X W b m2) : PEd X W (.BinOp a .Sub b pos) (do let d ← m1; let e ← m2; M.of (subD d e)) := pd_bin op_sub sub_ok ha hb
theorem pd_mul (ha : PEd X W a m1) (hb : PEd X W b m2) : PEd X W (.BinOp a .Mult b pos) (do let d ← m1; let e ← m2; M.of (mulD d e)) := pd_bin op_mulD mul_ok ha hb
theorem pd_fdiv (ha : PEd X W a m1) (hb : PEd X W b m2) : PEd X W (.BinOp a .FloorDiv b pos) (do let d ← m1; let e ← m2; M.of (fdivD d e)) := pd_bin op_fdivZ fdiv_ok ha hb
theorem pd_mod (ha : PEd X W a m1) (hb : PEd X W b m2) : PEd X W (.BinOp a .Mod b pos) (do let d ← m1; let e ← m2; M.of (modD d e)) := pd_bin op_modN mod_ok ha hb
theorem pd_pow (ha : PEd X W a m1) (hb : PEd X W b m2) : PEd X W (.BinOp a .Pow b pos) (do let d ← m1; let e ← m2; M.of (powD d e)) := pd_bin op_pow pow_ok ha hb
theorem pd_neg (ha : PEd X W a m1) : PEd X W (.UnaryOp .USub a pos) (do let d ← m1; M.of (negD d)) := pd_un un_neg neg_ok ha
end

/-! ### comparisons -/
mutual
def toPy : D → Option PyData
  | .non => some .none
  | .bl b => some (.bool b)
  | .int i => some (.int i)
  | .str x => some (.str x)
  | .tup ds => (toPys ds).map PyData.tuple
  | .lst ds => (toPys ds).map PyData.list
  | .dct _ _ => none
  | .scr _ => none
def toPys : List D → Option (List PyData)
  | [] => some []
  | d :: ds => (toPy d).bind fun p => (toPys ds).map fun ps => p :: ps
end
mutual
theorem dp_of {Z : Addr → Prop} {K : PySem.W.Frag} {H : Hp} : ∀ (d : D) {v : V} {p : PyData}, Den Z K H d v → toPy d = some p → Dp K H v p
  | .non, _, _, h, e => by cases e; cases (show _ = V.non from h); exact .non
  | .bl b, _, _, h, e => by cases e; cases (show _ = V.bl b from h); exact .bl b
  | .int i, _, _, h, e => by cases e; cases (show _ = V.int i from h); exact .int i
  | .str x, _, _, h, e => by cases e; cases (show _ = V.str x from h); exact .str x
  | .tup ds, _, _, h, e => by
    obtain ⟨a, xs, rfl, hs, r⟩ := h
    unfold toPy at e
    cases q : toPys ds with
    | none => rw [q] at e; cases e
    | some ps =>
      rw [q] at e
      cases e
      exact .tup hs (dps_of ds r q)
  | .lst ds, _, _, h, e => by
    obtain ⟨a, xs, rfl, _, hs, r⟩ := h
    unfold toPy at e
    cases q : toPys ds with
    | none => rw [q] at e; cases e
    | some ps =>
      rw [q] at e
      cases e
      exact .lst (.of hs) (dps_of ds r q)
  | .dct _ _, _, _, _, e => by cases e
  | .scr _, _, _, _, e => by cases e
theorem dps_of {Z : Addr → Prop} {K : PySem.W.Frag} {H : Hp} : ∀ (ds : List D) {xs : List V} {ps : List PyData}, Dens Z K H ds xs → toPys ds = some ps → DpAll K H xs ps
  | [], _, _, h, e => by
    cases h
    cases e
    exact .nil
  | d :: ds, _, _, h, e => by
    obtain ⟨v, r, rfl, h1, h2⟩ := h
    unfold toPys at e
    cases q : toPy d with
    | none => rw [q] at e; cases e
    | some p =>
      rw [q] at e
      cases q2 : toPys ds with
      | none => rw [q2] at e; cases e
      | some ps =>
        rw [q2] at e
        cases e
        exact .cons (dp_of d h1 q) (dps_of ds h2 q2)
end
theorem dp_ofT {Z : Addr → Prop} {K : PySem.W.Frag} {H : Hp} : ∀ (d : D) {v : V} {p : PyData}, DenT Z K H d v → toPy d = some p → Dp K H v p
  | .non, _, _, h, e => dp_of (Z := Z) .non h e
  | .bl b, _, _, h, e => dp_of (Z := Z) (.bl b) h e
  | .int i, _, _, h, e => dp_of (Z := Z) (.int i) h e
  | .str x, _, _, h, e => dp_of (Z := Z) (.str x) h e
  | .tup ds, _, _, h, e => dp_of (Z := Z) (.tup ds) h e
  | .lst ds, _, _, h, e => by
    obtain ⟨a, xs, rfl, hs, r⟩ := h
    unfold toPy at e
    cases q : toPys ds with
    | none => rw [q] at e; cases e
    | some ps =>
      rw [q] at e
      cases e
      exact .lst (.of hs) (dps_of ds r q)
  | .dct _ _, _, _, _, e => by cases e
  | .scr _, _, _, _, e => by cases e
def eqD (d e : D) : Option Bool := match toPy d, toPy e with
  | some p, some q => if SeqAt.shaped p && SeqAt.shaped q then some (PyData.eqv p q) else none
  | _, _ => none
def neD (d e : D) : Option Bool := (eqD d e).map not
theorem eq_ok : CmpD X (rEqD X.K) eqD := by
  intro Z H x y d e k Q hz hx hy hf q
  unfold eqD at hf
  split at hf
  · rename_i p p' e1 e2
    split at hf
    · rename_i hs
      cases hf
      rw [Bool.and_eq_true] at hs
      exact ⟨p, p', dp_ofT d hx e1, dp_ofT e hy e2, hs.1, hs.2, q⟩
    · cases hf
  · cases hf
theorem ne_ok : CmpD X (rNeD X.K) neD := by
  intro Z H x y d e k Q hz hx hy hf q
  unfold neD eqD at hf
  split at hf
  · rename_i p p' e1 e2
    split at hf
    · rename_i hs
      cases hf
      rw [Bool.and_eq_true] at hs
      exact ⟨p, p', dp_ofT d hx e1, dp_ofT e hy e2, hs.1, hs.2, q⟩
    · cases hf
  · cases hf
def ltD : D → D → Option Bool
  | .int i, .int j => some (decide (i < j))
  | _, _ => none
def leD : D → D → Option Bool
  | .int i, .int j => some (decide (i ≤ j))
  | _, _ => none
def gtD : D → D → Option Bool
  | .int i, .int j => some (decide (j < i))
  | _, _ => none
def geD : D → D → Option Bool
  | .int i, .int j => some (decide (j ≤ i))
  | _, _ => none
theorem lt_ok : CmpD X (rI0 fun i j => .bl (decide (i < j))) ltD := by
  intro Z H x y d e k Q hz hx hy hf q
  unfold ltD at hf
  split at hf
  · cases hf
    exact ⟨_, _, hx, hy, q⟩
  · cases hf
theorem le_ok : CmpD X (rI0 fun i j => .bl (decide (i ≤ j))) leD := by
  intro Z H x y d e k Q hz hx hy hf q
  unfold leD at hf
  split at hf
  · cases hf
    exact ⟨_, _, hx, hy, q⟩
  · cases hf
theorem gt_ok : CmpD X (rI0 fun i j => .bl (decide (j < i))) gtD := by
  intro Z H x y d e k Q hz hx hy hf q
  unfold gtD at hf
  split at hf
  · cases hf
    exact ⟨_, _, hx, hy, q⟩
  · cases hf
theorem ge_ok : CmpD X (rI0 fun i j => .bl (decide (j ≤ i))) geD := by
  intro Z H x y d e k Q hz hx hy hf q
  unfold geD at hf
  split at hf
  · cases hf
    exact ⟨_, _, hx, hy, q⟩
  · cases hf
def isNon : D → Bool
  | .non => true
  | _ => false
theorem isNon_v {Z : Addr → Prop} {K : PySem.W.Frag} {H : Hp} {d : D} {v : V} (h : DenT Z K H d v) : decide (v = .non) = isNon d := by
  cases d with
  | non => cases (show v = .non from h); rfl
  | bl b => cases (show v = .bl b from h); rfl
  | int b => cases (show v = .int b from h); rfl
  | str b => cases (show v = .str b from h); rfl
  | tup b => obtain ⟨a, _, rfl, _⟩ := h; rfl
  | lst b => obtain ⟨a, _, rfl, _⟩ := h; rfl
  | dct b c => obtain ⟨a, _, rfl, _⟩ := h; rfl
  | scr b => obtain ⟨a, rfl, _⟩ := h; rfl
def isD (d e : D) : Option Bool := if isNon e = true then some (isNon d) else none
def isntD (d e : D) : Option Bool := if isNon e = true then some (!isNon d) else none
theorem is_ok : CmpD X (fun x y H Q => y = .non ∧ Q (.bl (decide (x = .non))) H) isD := by
  intro Z H x y d e k Q hz hx hy hf q
  unfold isD at hf
  split at hf
  · rename_i hn
    cases hf
    have := isNon_v hy
    rw [hn] at this
    exact ⟨of_decide_eq_true this, by rw [isNon_v hx]; exact q⟩
  · cases hf
theorem isnt_ok : CmpD X (fun x y H Q => y = .non ∧ Q (.bl (!decide (x = .non))) H) isntD := by
  intro Z H x y d e k Q hz hx hy hf q
  unfold isntD at hf
  split at hf
  · rename_i hn
    cases hf
    have := isNon_v hy
    rw [hn] at this
    exact ⟨of_decide_eq_true this, by rw [isNon_v hx]; exact q⟩
  · cases hf
end
end Pd

namespace Pd
open PySem L2
/-! ### operands: a value, or a slot that owns its list -/
inductive AV where
  | val (d : D) | bor (i : Nat)
def ownV (i : Nat) : M D := fun η => match η[i]? with
  | some (.own _ d) => .ok d η
  | _ => .bad
def borV (i : Nat) : M AV := fun η => match η[i]? with
  | some (.own _ _) => .ok (.bor i) η
  | _ => .bad
def AV.res : AV → M D
  | .val d => pure d
  | .bor i => ownV i
def RV (X : Cx) (G : Addr → Prop) (σ : St) : Sto → Hp → AV → V → Prop := fun η H a v => match a with
  | .val d => Den (Zo G η σ) X.K H d v
  | .bor i => σ[i]? = some (some v)
def tV (X : Cx) (W : WX) (m : M AV) : TE := fun σ H Q => ∃ G η, Ok G X.K η σ H ∧ Post X W G η σ H (RV X G σ) Q (m η)
def PVd (X : Cx) (W : WX) (e : Expr) (m : M AV) : Prop := PE X e (tV X W m)
theorem Cell.t {Z : Addr → Prop} {K : PySem.W.Frag} {H : Hp} {p : Addr} : ∀ {d : D}, Cell Z K H p d → DenT Z K H d (.ref p)
  | .lst _, ⟨xs, e, q⟩ => ⟨p, xs, rfl, e, q⟩
  | .dct _ _, ⟨xs, e, r, q⟩ => ⟨p, xs, rfl, e, r, q⟩
section
variable {X : Cx} {W : WX} {G : Addr → Prop} {η η1 : Sto} {σ : St} {H H1 : Hp}
theorem carryV {a : AV} {v : V} (s : Shr η η1) (t : Step (Fo η σ) H H1) (h : RV X G σ η H a v) : RV X G σ η1 H1 a v := by
  cases a with
  | val d => exact carry s t h
  | bor i => exact h
theorem ownV_ok {i : Nat} {d : D} {η2 : Sto} (h : ownV i η = .ok d η2) : η2 = η ∧ ∃ b, η[i]? = some (.own b d) := by
  unfold ownV at h
  split at h
  · rename_i b d' e
    cases h
    exact ⟨rfl, b, e⟩
  · cases h
theorem AV.res_ok {a : AV} {v : V} {d : D} {η2 : Sto} (ok : Ok G X.K η σ H) (h : a.res η = .ok d η2) (r : RV X G σ η H a v) : η2 = η ∧ DenT (Zo G η σ) X.K H d v := by
  cases a with
  | val d' =>
    cases h
    exact ⟨rfl, Den.t r⟩
  | bor i =>
    obtain ⟨e, b, eb⟩ := ownV_ok h
    obtain ⟨p, ep, c⟩ := ok.own i b d eb
    have r' : σ[i]? = some (some v) := r
    rw [ep] at r'
    cases r'
    exact ⟨e, c.t⟩
theorem AV.res_noexc {a : AV} {c : Str} {η2 : Sto} (h : a.res η = .exc c η2) : False := by
  cases a with
  | val d' => cases h
  | bor i =>
    unfold AV.res ownV at h
    simp only at h
    split at h <;> cases h
/-- an operand is looked at -/
theorem Post.res {β γ : Type} {a : AV} {v : V} {k : D → M γ} {R : Sto → Hp → γ → β → Prop} {Q : β → Hp → Prop} (ok : Ok G X.K η σ H) (r : RV X G σ η H a v) (h : Post X W G η σ H R Q ((a.res >>= k) η)) :
    ∃ d, DenT (Zo G η σ) X.K H d v ∧ Post X W G η σ H R Q (k d η) := by
  have e : (a.res >>= k) η = M.bind a.res k η := rfl
  rw [e] at h
  unfold M.bind at h
  cases q : a.res η with
  | ok d η2 =>
    rw [q] at h
    obtain ⟨e2, dn⟩ := AV.res_ok ok q r
    subst e2
    exact ⟨d, dn, h⟩
  | exc c η2 => exact (AV.res_noexc q).elim
  | bad =>
    rw [q] at h
    exact h.elim
end
section
variable {X : Cx} {W : WX} {e a b : Expr} {es : List Expr} {pos : Pos}
theorem PEd.v {m : M D} (h : PEd X W e m) : PVd X W e (do let d ← m; pure (.val d)) := PE.weak h fun σ H Q ⟨G, η, ok, h⟩ => ⟨G, η, ok, (Post.bind (R := RD X G σ) h).imp fun x H1 ⟨η1, d, a1⟩ =>
  a1.post x H1 .refl .refl a1.ok a1.r⟩
theorem pv_own (i : Nat) {x : Str} (hN : X.N[i]? = some x := by rfl) (hv : Vis X.env.scope x := by first | exact Or.inl rfl | exact Or.inr (Or.inl rfl) | exact Or.inr (Or.inr rfl))
    (hd : (x == ("__debug__" : Str)) = false := by decide) (hcd : (x == ("__classdict__" : Str)) = false := by decide) : PVd X W (.Name x pos) (borV i) :=
  PE.weak (pe_var hN hv hd hcd) fun σ H Q ⟨G, η, ok, h⟩ => by
    unfold borV at h
    split at h
    · rename_i b d e
      obtain ⟨p, ep, _⟩ := ok.own i b d e
      exact ⟨_, ep, h _ H .refl .refl ok ep⟩
    · exact h.elim
theorem twoV_of {r : R2} {f : D → D → Option D} {m1 m2 : M AV} (hs : OpD X r f) {σ : St} {H : Hp} {Q : VK} (h : tE X W (do let a ← m1; let b ← m2; let d ← a.res; let e ← b.res; M.of (f d e)) σ H Q) : tOp r (tV X W m1) (tV X W m2) σ H Q := by
  obtain ⟨G, η, ok, h⟩ := h
  refine ⟨G, η, ok, (Post.bind (R := RV X G σ) h).imp fun x H1 ⟨η1, d, a1⟩ => ⟨G, η1, a1.ok, (Post.bind (R := RV X G σ) a1.post).imp fun y H2 ⟨η2, e, a2⟩ => ?_⟩⟩
  obtain ⟨d', dn, h2⟩ := Post.res a2.ok (carryV a2.shr a2.st a1.r) a2.post
  obtain ⟨e', en, h3⟩ := Post.res a2.ok a2.r h2
  obtain ⟨g, eg, k⟩ := Post.of a2.ok h3
  exact hs _ H2 x y d' e' g Q a2.ok.domOk dn en eg k
theorem twoCV_of {r : R2} {f : D → D → Option Bool} {m1 m2 : M AV} (hs : CmpD X r f) {σ : St} {H : Hp} {Q : VK} (h : tE X W (do let a ← m1; let b ← m2; let d ← a.res; let e ← b.res; M.of ((f d e).map D.bl)) σ H Q) : tOp r (tV X W m1) (tV X W m2) σ H Q := by
  obtain ⟨G, η, ok, h⟩ := h
  refine ⟨G, η, ok, (Post.bind (R := RV X G σ) h).imp fun x H1 ⟨η1, d, a1⟩ => ⟨G, η1, a1.ok, (Post.bind (R := RV X G σ) a1.post).imp fun y H2 ⟨η2, e, a2⟩ => ?_⟩⟩
  obtain ⟨d', dn, h2⟩ := Post.res a2.ok (carryV a2.shr a2.st a1.r) a2.post
  obtain ⟨e', en, h3⟩ := Post.res a2.ok a2.r h2
  obtain ⟨g, eg, k⟩ := Post.of a2.ok h3
  cases ek : f d' e' with
  | none => rw [ek] at eg; cases eg
  | some c =>
    rw [ek] at eg
    cases eg
    exact hs _ H2 x y d' e' c Q a2.ok.domOk dn en ek (k _ _ (Same.refl _) rfl)
theorem pv_bin {op : Operator} {r : R2} {f : D → D → Option D} {m1 m2 : M AV} (hop : OpR X (binaryOp op) r) (hs : OpD X r f) (ha : PVd X W a m1) (hb : PVd X W b m2) : PEd X W (.BinOp a op b pos) (do let a ← m1; let b ← m2; let d ← a.res; let e ← b.res; M.of (f d e)) :=
  PE.weak (pe_op hop ha hb) fun σ H Q h => twoV_of hs h
theorem pv_cmp {op : CmpOp} {r : R2} {f : D → D → Option Bool} {m1 m2 : M AV} (hop : OpR X (compareOp op) r) (hs : CmpD X r f) (ha : PVd X W a m1) (hb : PVd X W b m2) (hm : behindInMarks op b = false) :
    PEd X W (.Compare a [op] [b] pos) (do let a ← m1; let b ← m2; let d ← a.res; let e ← b.res; M.of ((f d e).map D.bl)) := PE.weak (pe_cmpR hop ha hb hm) fun σ H Q h => twoCV_of hs h
theorem ptv_cmp {op : CmpOp} {r : R2} {f : D → D → Option Bool} {m1 m2 : M AV} (hop : OpR X (compareOp op) r) (hs : CmpD X r f) (ha : PVd X W a m1) (hb : PVd X W b m2) (hm : behindInMarks op b = false) :
    PTd X W (.Compare a [op] [b] pos) (do let a ← m1; let b ← m2; let d ← a.res; let e ← b.res; M.of (f d e)) := PT.weak (pt_cmpR hop ha hb hm) fun σ H Q ⟨G, η, ok, h⟩ => by
  show tOp r (tV X W m1) (tV X W m2) σ H fun x H' => ∃ k, x = .bl k ∧ Q k H'
  refine ⟨G, η, ok, (Post.bind (R := RV X G σ) h).imp fun x H1 ⟨η1, d, a1⟩ => ⟨G, η1, a1.ok, (Post.bind (R := RV X G σ) a1.post).imp fun y H2 ⟨η2, e, a2⟩ => ?_⟩⟩
  obtain ⟨d', dn, h2⟩ := Post.res a2.ok (carryV a2.shr a2.st a1.r) a2.post
  obtain ⟨e', en, h3⟩ := Post.res a2.ok a2.r h2
  obtain ⟨c, ek, k⟩ := Post.ofB a2.ok h3
  exact hs _ H2 x y d' e' c _ a2.ok.domOk dn en ek ⟨c, rfl, k⟩

/-! ### comparisons by name -/
variable {m1 m2 m3 : M D} {c : Expr}
theorem pd_eq (hu : X.A.units + 64 < cLine) (ha : PEd X W a m1) (hb : PEd X W b m2) : PEd X W (.Compare a [.Eq] [b] pos) (do let d ← m1; let e ← m2; M.of ((eqD d e).map D.bl)) := pd_cmp (op_eqD hu) eq_ok ha hb (nomark _)
theorem pd_ne (hu : X.A.units + 64 < cLine) (ha : PEd X W a m1) (hb : PEd X W b m2) : PEd X W (.Compare a [.NotEq] [b] pos) (do let d ← m1; let e ← m2; M.of ((neD d e).map D.bl)) := pd_cmp (op_neD hu) ne_ok ha hb (nomark _)
theorem pd_lt (ha : PEd X W a m1) (hb : PEd X W b m2) : PEd X W (.Compare a [.Lt] [b] pos) (do let d ← m1; let e ← m2; M.of ((ltD d e).map D.bl)) := pd_cmp op_lt lt_ok ha hb (nomark _)
theorem pd_le (ha : PEd X W a m1) (hb : PEd X W b m2) : PEd X W (.Compare a [.LtE] [b] pos) (do let d ← m1; let e ← m2; M.of ((leD d e).map D.bl)) := pd_cmp op_le le_ok ha hb (nomark _)
theorem pd_gt (ha : PEd X W a m1) (hb : PEd X W b m2) : PEd X W (.Compare a [.Gt] [b] pos) (do let d ← m1; let e ← m2; M.of ((gtD d e).map D.bl)) := pd_cmp op_gt gt_ok ha hb (nomark _)
theorem pd_ge (ha : PEd X W a m1) (hb : PEd X W b m2) : PEd X W (.Compare a [.GtE] [b] pos) (do let d ← m1; let e ← m2; M.of ((geD d e).map D.bl)) := pd_cmp op_ge ge_ok ha hb (nomark _)
theorem pd_is (ha : PEd X W a m1) (hb : PEd X W b m2) : PEd X W (.Compare a [.Is] [b] pos) (do let d ← m1; let e ← m2; M.of ((isD d e).map D.bl)) := pd_cmp op_isN is_ok ha hb (nomark _)
theorem pd_isnt (ha : PEd X W a m1) (hb : PEd X W b m2) : PEd X W (.Compare a [.IsNot] [b] pos) (do let d ← m1; let e ← m2; M.of ((isntD d e).map D.bl)) := pd_cmp op_notN isnt_ok ha hb (nomark _)
theorem ptd_eq (hu : X.A.units + 64 < cLine) (ha : PEd X W a m1) (hb : PEd X W b m2) : PTd X W (.Compare a [.Eq] [b] pos) (do let d ← m1; let e ← m2; M.of (eqD d e)) := ptd_cmp (op_eqD hu) eq_ok ha hb (nomark _)
theorem ptd_ne (hu : X.A.units + 64 < cLine) (ha : PEd X W a m1) (hb : PEd X W b m2) : PTd X W (.Compare a [.NotEq] [b] pos) (do let d ← m1; let e ← m2; M.of (neD d e)) := ptd_cmp (op_neD hu) ne_ok ha hb (nomark _)
theorem ptd_lt (ha : PEd X W a m1) (hb : PEd X W b m2) : PTd X W (.Compare a [.Lt] [b] pos) (do let d ← m1; let e ← m2; M.of (ltD d e)) := ptd_cmp op_lt lt_ok ha hb (nomark _)
theorem ptd_le (ha : PEd X W a m1) (hb : PEd X W b m2) : PTd X W (.Compare a [.LtE] [b] pos) (do let d ← m1; let e ← m2; M.of (leD d e)) := ptd_cmp op_le le_ok ha hb (nomark _)
theorem ptd_gt (ha : PEd X W a m1) (hb : PEd X W b m2) : PTd X W (.Compare a [.Gt] [b] pos) (do let d ← m1; let e ← m2; M.of (gtD d e)) := ptd_cmp op_gt gt_ok ha hb (nomark _)
theorem ptd_ge (ha : PEd X W a m1) (hb : PEd X W b m2) : PTd X W (.Compare a [.GtE] [b] pos) (do let d ← m1; let e ← m2; M.of (geD d e)) := ptd_cmp op_ge ge_ok ha hb (nomark _)
theorem ptd_is (ha : PEd X W a m1) (hb : PEd X W b m2) : PTd X W (.Compare a [.Is] [b] pos) (do let d ← m1; let e ← m2; M.of (isD d e)) := ptd_cmp op_isN is_ok ha hb (nomark _)
theorem ptd_isnt (ha : PEd X W a m1) (hb : PEd X W b m2) : PTd X W (.Compare a [.IsNot] [b] pos) (do let d ← m1; let e ← m2; M.of (isntD d e)) := ptd_cmp op_notN isnt_ok ha hb (nomark _)
/-- a op b op' c, as a test -/
theorem ptd_chain {op op' : CmpOp} {r r' : R2} {f f' : D → D → Option Bool} (ho : OpR X (compareOp op) r) (ho' : OpR X (compareOp op') r') (hs : CmpD X r f) (hs' : CmpD X r' f') (ha : PEd X W a m1) (hb : PEd X W b m2) (hc : PEd X W c m3)
    (hm : lastMarks [op, op'] [b, c] = false := by with_unfolding_all rfl) : PTd X W (.Compare a [op, op'] [b, c] pos) (do let d ← m1; let e ← m2; let k ← M.of (f d e); if k = true then (do let g ← m3; M.of (f' e g)) else pure false) :=
  PT.weak (pt_chain ho ho' ha hb hc hm) fun σ H Q ⟨G, η, ok, h⟩ => by
    show tChain r r' (tE X W m1) (tE X W m2) (tE X W m3) σ H fun x H' => ∃ k, x = .bl k ∧ Q k H'
    refine ⟨G, η, ok, (Post.bind (R := RD X G σ) h).imp fun x H1 ⟨η1, d, a1⟩ => ⟨G, η1, a1.ok, (Post.bind (R := RD X G σ) a1.post).imp fun y H2 ⟨η2, e, a2⟩ => ?_⟩⟩
    obtain ⟨k, ek, η3, k', a3⟩ := Post.ofB a2.ok (Post.bind (R := RB) a2.post)
    have e3 : k' = k := a3.r
    subst e3
    refine hs _ H2 x y d e k' _ a2.ok.domOk (carry a2.shr a2.st a1.r).t (Den.t a2.r) ek ⟨k', rfl, ?_⟩
    cases k' with
    | false => exact iteF ⟨false, rfl, a3.post _ _ .refl .refl a3.ok rfl⟩
    | true =>
      refine iteT ⟨G, η3, a3.ok, (Post.bind (R := RD X G σ) a3.post).imp fun z H4 ⟨η4, g, a4⟩ => ?_⟩
      obtain ⟨k2, ek2, q⟩ := Post.ofB a4.ok a4.post
      exact hs' _ H4 y z e g k2 _ a4.ok.domOk (carry (a3.shr.trans a4.shr) (a3.st.trans a4.st fun a f => .inl (a3.shr.fo f)) a2.r).t (Den.t a4.r) ek2 ⟨k2, rfl, q⟩
/-- .. as a value -/
theorem pd_chain {op op' : CmpOp} {r r' : R2} {f f' : D → D → Option Bool} (ho : OpR X (compareOp op) r) (ho' : OpR X (compareOp op') r') (hs : CmpD X r f) (hs' : CmpD X r' f') (ha : PEd X W a m1) (hb : PEd X W b m2) (hc : PEd X W c m3)
    (hm : lastMarks [op, op'] [b, c] = false := by with_unfolding_all rfl) : PEd X W (.Compare a [op, op'] [b, c] pos) (do let d ← m1; let e ← m2; let k ← M.of (f d e); if k = true then (do let g ← m3; M.of ((f' e g).map D.bl)) else pure (.bl false)) :=
  PE.weak (pe_chain ho ho' ha hb hc hm) fun σ H Q ⟨G, η, ok, h⟩ => by
    refine ⟨G, η, ok, (Post.bind (R := RD X G σ) h).imp fun x H1 ⟨η1, d, a1⟩ => ⟨G, η1, a1.ok, (Post.bind (R := RD X G σ) a1.post).imp fun y H2 ⟨η2, e, a2⟩ => ?_⟩⟩
    obtain ⟨k, ek, η3, k', a3⟩ := Post.ofB a2.ok (Post.bind (R := RB) a2.post)
    have e3 : k' = k := a3.r
    subst e3
    refine hs _ H2 x y d e k' _ a2.ok.domOk (carry a2.shr a2.st a1.r).t (Den.t a2.r) ek ⟨k', rfl, ?_⟩
    cases k' with
    | false => exact iteF (a3.post _ _ .refl .refl a3.ok rfl)
    | true =>
      refine iteT ⟨G, η3, a3.ok, (Post.bind (R := RD X G σ) a3.post).imp fun z H4 ⟨η4, g, a4⟩ => ?_⟩
      obtain ⟨g2, ek2, q⟩ := Post.of a4.ok a4.post
      cases ek3 : f' e g with
      | none => rw [ek3] at ek2; cases ek2
      | some k2 =>
        rw [ek3] at ek2
        cases ek2
        exact hs' _ H4 y z e g k2 _ a4.ok.domOk (carry (a3.shr.trans a4.shr) (a3.st.trans a4.st fun a f => .inl (a3.shr.fo f)) a2.r).t (Den.t a4.r) ek3 (q _ _ (Same.refl _) rfl)

/-! ### subscripts -/
def idxD : D → D → Option D
  | .tup ds, .int i => atI ds i
  | .lst ds, .int i => atI ds i
  | .str x, .int i => if lenOk x.length = true then (atI x.cps.toList i).map fun c => .str ⟨#[c]⟩ else none
  | _, _ => none
theorem at_dens {Z : Addr → Prop} {K : PySem.W.Frag} {H : Hp} {ds : List D} {xs : List V} {i : Int} {d : D} (h : Dens Z K H ds xs) (e : atI ds i = some d) : ∃ v, atI xs i = some v ∧ Den Z K H d v := by
  unfold atI at e ⊢
  rw [← h.length]
  cases q : ixN ds.length i with
  | none => rw [q] at e; cases e
  | some j =>
    rw [q] at e
    exact h.get e
theorem idx_ok : OpD X (rIx X.K) idxD := by
  intro Z H x y d e g Q hz hx hy hf k
  unfold idxD at hf
  split at hf
  · obtain ⟨p, xs, rfl, hp, dp⟩ := hx
    obtain ⟨v, ev, dv⟩ := at_dens dp hf
    exact .inr (.inl ⟨p, xs, _, v, rfl, hy, hp, ev, k _ _ (Same.refl _) dv⟩)
  · obtain ⟨p, xs, rfl, hp, dp⟩ := hx
    obtain ⟨v, ev, dv⟩ := at_dens dp hf
    exact .inl ⟨p, xs, _, v, rfl, hy, .of hp, ev, k _ _ (Same.refl _) dv⟩
  · split at hf
    · rename_i x' i hl
      cases q : atI x'.cps.toList i with
      | none => rw [q] at hf; cases hf
      | some c =>
        rw [q] at hf
        cases hf
        exact .inr (.inr ⟨x', i, c, hx, hy, lenOk_line hl, q, k _ _ (Same.refl _) rfl⟩)
    · cases hf
  · cases hf
theorem pd_ix (ha : PEd X W a m1) (hb : PEd X W b m2) (hs : PlainIx b := by exact fun _ _ => rfl) : PEd X W (.Subscript a b pos) (do let d ← m1; let e ← m2; M.of (idxD d e)) :=
  PE.weak (pe_ix ix_seq ha hb hs) fun σ H Q h => two_of idx_ok h
theorem pv_ix {m1 m2 : M AV} (ha : PVd X W a m1) (hb : PVd X W b m2) (hs : PlainIx b := by exact fun _ _ => rfl) : PEd X W (.Subscript a b pos) (do let a ← m1; let b ← m2; let d ← a.res; let e ← b.res; M.of (idxD d e)) :=
  PE.weak (pe_ix ix_seq ha hb hs) fun σ H Q h => twoV_of idx_ok h

/-! ### slices -/
def cutL {α : Type} (xs : List α) (lo hi : Option Int) : List α := (xs.drop (HT.sIx xs.length 0 lo)).take (HT.sIx xs.length xs.length hi - HT.sIx xs.length 0 lo)
theorem cut_dens {Z : Addr → Prop} {K : PySem.W.Frag} {H : Hp} {ds : List D} {xs : List V} {lo hi : Option Int} (h : Dens Z K H ds xs) : Dens Z K H (cutL ds lo hi) (cutV xs lo hi) := by
  unfold cutL cutV
  rw [← h.length]
  exact (h.drop _).take _
def tO (X : Cx) (W : WX) (m : M (Option Int)) : TO := fun σ H Q => ∃ G η, Ok G X.K η σ H ∧ Post X W G η σ H (fun _ _ a b => a = b) Q (m η)
def POd (X : Cx) (W : WX) (e : Option Expr) (m : M (Option Int)) : Prop := PO X e (tO X W m)
def asI : D → Option Int
  | .int i => some i
  | _ => none
theorem asI_some {d : D} {k : Int} (h : asI d = some k) : d = .int k := by
  cases d <;> cases h
  rfl
theorem PO.weak {e : Option Expr} {t u : TO} (h : PO X e t) (i : ∀ σ H Q, u σ H Q → t σ H Q) : PO X e u := ⟨fun pins s σ H Q I q => h.run pins s σ H Q I (i σ H Q q)⟩
theorem pod_none : POd X W none (pure none) := PO.weak po_none fun σ H Q ⟨G, η, ok, h⟩ => h none H .refl .refl ok rfl
theorem pod_some {m : M D} (h : PEd X W e m) : POd X W (some e) (do let d ← m; M.of ((asI d).map some)) := PO.weak (po_some h) fun σ H Q ⟨G, η, ok, h⟩ => ⟨G, η, ok, (Post.bind (R := RD X G σ) h).imp fun x H1 ⟨η1, d, a1⟩ => by
  have q := a1.post
  cases ei : asI d with
  | none => rw [ei] at q; exact q.elim
  | some i =>
    rw [ei] at q
    have e := asI_some ei
    subst e
    exact ⟨i, a1.r, q _ _ .refl .refl a1.ok rfl⟩⟩
def cutD (d : D) (lo hi : Option Int) : Option D := match d with
  | .tup ds => some (.tup (cutL ds lo hi))
  | .lst ds => some (.lst (cutL ds lo hi))
  | _ => none
def rSlD (K : PySem.W.Frag) : V → Option Int → Option Int → Hp → VK → Prop := fun x lo hi H Q => rSlA K x lo hi H Q ∨ rSlL K x lo hi H Q
theorem cutL_all {α : Type} {xs : List α} {lo hi : Option Int} (h : HT.sIx xs.length 0 lo = 0 ∧ HT.sIx xs.length xs.length hi = xs.length) : cutL xs lo hi = xs := by
  unfold cutL
  rw [h.1, h.2]
  simp
theorem cut_ok {Z : Addr → Prop} {H : Hp} {x : V} {d g : D} {lo hi : Option Int} {Q : VK} (hz : DomOk Z H) (hx : DenT Z X.K H d x) (hf : cutD d lo hi = some g) (k : ∀ v H', Same H H' → Den Z X.K H' g v → Q v H') : rSlD X.K x lo hi H Q := by
  unfold cutD at hf
  split at hf
  · cases hf
    rename_i ds
    obtain ⟨p, xs, rfl, hp, dp⟩ := hx
    have el : ds.length = xs.length := dp.length
    refine .inl ⟨p, xs, rfl, hp, fun w => ?_, fun _ r hr => k _ _ (same_new hr) (den_newT hr (cut_dens dp))⟩
    rw [cutL_all (by rw [el]; exact w)] at k
    exact k _ _ (Same.refl _) ⟨p, xs, rfl, hp, dp⟩
  · cases hf
    obtain ⟨p, xs, rfl, hp, dp⟩ := hx
    exact .inr ⟨p, xs, rfl, .of hp, fun r hr => k _ _ (same_new hr) (den_new hz hr (cut_dens dp))⟩
  · cases hf
theorem pd_slice {lo hi : Option Expr} {p2 : Pos} {ml mh : M (Option Int)} (he : PEd X W e m1) (hl : POd X W lo ml) (hh : POd X W hi mh) :
    PEd X W (.Subscript e (.Slice lo hi none p2) pos) (do let d ← m1; let l ← ml; let h ← mh; M.of (cutD d l h)) :=
  PE.weak (pe_slice (SlR.or sl_tupA sl_list) he hl hh) fun σ H Q ⟨G, η, ok, h⟩ => by
    refine ⟨G, η, ok, (Post.bind (R := RD X G σ) h).imp fun x H1 ⟨η1, d, a1⟩ => ⟨G, η1, a1.ok, (Post.bind (R := fun _ _ a b => a = b) a1.post).imp fun l H2 ⟨η2, l', a2⟩ => ⟨G, η2, a2.ok, (Post.bind (R := fun _ _ a b => a = b) a2.post).imp fun u H3 ⟨η3, u', a3⟩ => ?_⟩⟩⟩
    have e1 : l' = l := a2.r
    have e2 : u' = u := a3.r
    subst e1 e2
    obtain ⟨g, eg, k⟩ := Post.of a3.ok a3.post
    exact cut_ok a3.ok.domOk (carry (a2.shr.trans a3.shr) (a2.st.trans a3.st fun a f => .inl (a2.shr.fo f)) a1.r).t eg k
theorem pv_slice {lo hi : Option Expr} {p2 : Pos} {m1 : M AV} {ml mh : M (Option Int)} (he : PVd X W e m1) (hl : POd X W lo ml) (hh : POd X W hi mh) :
    PEd X W (.Subscript e (.Slice lo hi none p2) pos) (do let a ← m1; let l ← ml; let h ← mh; let d ← a.res; M.of (cutD d l h)) :=
  PE.weak (pe_slice (SlR.or sl_tupA sl_list) he hl hh) fun σ H Q ⟨G, η, ok, h⟩ => by
    refine ⟨G, η, ok, (Post.bind (R := RV X G σ) h).imp fun x H1 ⟨η1, d, a1⟩ => ⟨G, η1, a1.ok, (Post.bind (R := fun _ _ a b => a = b) a1.post).imp fun l H2 ⟨η2, l', a2⟩ => ⟨G, η2, a2.ok, (Post.bind (R := fun _ _ a b => a = b) a2.post).imp fun u H3 ⟨η3, u', a3⟩ => ?_⟩⟩⟩
    have e1 : l' = l := a2.r
    have e2 : u' = u := a3.r
    subst e1 e2
    obtain ⟨d', dn, h2⟩ := Post.res a3.ok (carryV (a2.shr.trans a3.shr) (a2.st.trans a3.st fun a f => .inl (a2.shr.fo f)) a1.r) a3.post
    obtain ⟨g, eg, k⟩ := Post.of a3.ok h2
    exact cut_ok a3.ok.domOk dn eg k
end
end Pd

namespace Pd
open PySem L2
/-! ### calls of built-in functions -/
inductive DensT (Z : Addr → Prop) (K : PySem.W.Frag) (H : Hp) : List D → List V → Prop where
  | nil : DensT Z K H [] []
  | cons {d : D} {v : V} {ds : List D} {vs : List V} : DenT Z K H d v → DensT Z K H ds vs → DensT Z K H (d :: ds) (v :: vs)
def RVs (X : Cx) (G : Addr → Prop) (σ : St) : Sto → Hp → List AV → List V → Prop := fun η H a v => Paired (RV X G σ η H) a v
def tVs (X : Cx) (W : WX) (m : M (List AV)) : TA := fun σ H Q => ∃ G η, Ok G X.K η σ H ∧ Post X W G η σ H (RVs X G σ) Q (m η)
def PVAd (X : Cx) (W : WX) (es : List Expr) (m : M (List AV)) : Prop := PA X es (tVs X W m)
def resAll : List AV → M (List D)
  | [] => pure []
  | a :: r => do let d ← a.res; let ds ← resAll r; pure (d :: ds)
section
variable {X : Cx} {W : WX} {e a b : Expr} {es : List Expr} {pos : Pos} {G : Addr → Prop} {η η1 : Sto} {σ : St} {H H1 : Hp}
theorem dens_t {Z : Addr → Prop} {K : PySem.W.Frag} : ∀ {ds : List D} {vs : List V}, Dens Z K H ds vs → DensT Z K H ds vs
  | [], _, h => by cases h; exact .nil
  | d :: ds, _, h => by
    obtain ⟨v, r, rfl, h1, h2⟩ := h
    exact .cons h1.t (dens_t h2)
theorem pva_nil : PVAd X W [] (M.pure []) := PA.weak pa_nil fun σ H Q ⟨G, η, ok, h⟩ => h [] H .refl .refl ok .nil
theorem pva_cons {m : M AV} {ms : M (List AV)} (ha : PVd X W e m) (hr : PVAd X W es ms) (hs : starEach (e :: es) X.env = (false, eval e X.env) :: starEach es X.env := by rfl) : PVAd X W (e :: es) (do let d ← m; let ds ← ms; pure (d :: ds)) :=
  PA.weak (pa_cons ha hr hs) fun σ H Q ⟨G, η, ok, h⟩ => ⟨G, η, ok, (Post.bind (R := RV X G σ) h).imp fun x H1 ⟨η1, d, a1⟩ => ⟨G, η1, a1.ok, (Post.bind (R := RVs X G σ) a1.post).imp fun xs H2 ⟨η2, ds, a2⟩ =>
    a2.post (x :: xs) H2 .refl .refl a2.ok (.cons (carryV a2.shr a2.st a1.r) a2.r)⟩⟩
theorem M.assoc {α β γ : Type} (m : M α) (f : α → M β) (g : β → M γ) : ((m >>= f) >>= g) = (m >>= fun a => f a >>= g) := by
  funext η
  show M.bind (M.bind m f) g η = M.bind m (fun a => M.bind (f a) g) η
  unfold M.bind
  cases m η <;> rfl
theorem Post.resAll {β γ : Type} {R : Sto → Hp → γ → β → Prop} {Q : β → Hp → Prop} (ok : Ok G X.K η σ H) : ∀ {as : List AV} {vs : List V} {k : List D → M γ}, Paired (RV X G σ η H) as vs → Post X W G η σ H R Q ((resAll as >>= k) η) →
    ∃ ds, DensT (Zo G η σ) X.K H ds vs ∧ Post X W G η σ H R Q (k ds η)
  | [], _, k, .nil, h => ⟨[], .nil, h⟩
  | a :: as, _, k, .cons r rs, h => by
    unfold Pd.resAll at h
    rw [M.assoc] at h
    obtain ⟨d, dn, h2⟩ := Post.res ok r h
    rw [M.assoc] at h2
    obtain ⟨ds, dns, h3⟩ := Post.resAll ok rs h2
    exact ⟨d :: ds, .cons dn dns, h3⟩
def CallD (X : Cx) (r : List V → Hp → VK → Prop) (f : List D → Option D) : Prop := ∀ (Z : Addr → Prop) (H : Hp) (xs : List V) (ds : List D) (g : D) (Q : VK), DomOk Z H → DensT Z X.K H ds xs → f ds = some g →
  (∀ v H', Same H H' → Den Z X.K H' g v → Q v H') → r xs H Q
variable {r : List V → Hp → VK → Prop} {f : List D → Option D} {x : Str} {p : Pos} {m : M (List D)}
theorem callT_of (hs : CallD X r f) {Q : VK} (h : tE X W (m >>= fun ds => M.of (f ds)) σ H Q) : tCB r (tA X W m) σ H Q := by
  obtain ⟨G, η, ok, h⟩ := h
  refine ⟨G, η, ok, (Post.bind (R := RDs X G σ) h).imp fun xs H1 ⟨η1, ds, a1⟩ => ?_⟩
  obtain ⟨g, eg, k⟩ := Post.of a1.ok a1.post
  exact hs _ H1 xs ds g Q a1.ok.domOk (dens_t a1.r) eg k
theorem callV_of {m : M (List AV)} (hs : CallD X r f) {Q : VK} (h : tE X W (m >>= fun as => resAll as >>= fun ds => M.of (f ds)) σ H Q) : tCB r (tVs X W m) σ H Q := by
  obtain ⟨G, η, ok, h⟩ := h
  refine ⟨G, η, ok, (Post.bind (R := RVs X G σ) h).imp fun xs H1 ⟨η1, as, a1⟩ => ?_⟩
  obtain ⟨ds, dns, h2⟩ := Post.resAll a1.ok a1.r a1.post
  obtain ⟨g, eg, k⟩ := Post.of a1.ok h2
  exact hs _ H1 xs ds g Q a1.ok.domOk dns eg k
theorem pd_callB {id : String} (hc : CallR X (.builtin id) r) (hs : CallD X r f) (hg : Gl X x) (hm : X.mg x = none) (hv : bootBuiltins x = some (.builtin id)) (ha : PAd X W (e :: es) m) (hn : x ≠ "__name__" := by decide) (hdb : (x == ("__debug__" : Str)) = false := by decide)
    (he : starEach (e :: es) X.env = (false, eval e X.env) :: starEach es X.env := by rfl) (hpl : (backTo pos (starEach es X.env)).any (·.1) = false := by rfl) : PEd X W (.Call (.Name x p) (e :: es) [] pos) (m >>= fun ds => M.of (f ds)) :=
  PE.weak (pe_callB hc hg hm hv ha hn hdb he hpl) fun σ H Q h => callT_of hs h
theorem pd_callTy {T : String} (hc : CallR X (.type T) r) (hs : CallD X r f) (hg : Gl X x) (hm : X.mg x = none) (hv : bootBuiltins x = some (.type T)) (ha : PAd X W (e :: es) m) (hn : x ≠ "__name__" := by decide) (hdb : (x == ("__debug__" : Str)) = false := by decide)
    (he : starEach (e :: es) X.env = (false, eval e X.env) :: starEach es X.env := by rfl) (hpl : (backTo pos (starEach es X.env)).any (·.1) = false := by rfl) : PEd X W (.Call (.Name x p) (e :: es) [] pos) (m >>= fun ds => M.of (f ds)) :=
  PE.weak (pe_callTy hc hg hm hv ha hn hdb he hpl) fun σ H Q h => callT_of hs h
theorem pv_callB {m : M (List AV)} {id : String} (hc : CallR X (.builtin id) r) (hs : CallD X r f) (hg : Gl X x) (hm : X.mg x = none) (hv : bootBuiltins x = some (.builtin id)) (ha : PVAd X W (e :: es) m) (hn : x ≠ "__name__" := by decide) (hdb : (x == ("__debug__" : Str)) = false := by decide)
    (he : starEach (e :: es) X.env = (false, eval e X.env) :: starEach es X.env := by rfl) (hpl : (backTo pos (starEach es X.env)).any (·.1) = false := by rfl) : PEd X W (.Call (.Name x p) (e :: es) [] pos) (m >>= fun as => resAll as >>= fun ds => M.of (f ds)) :=
  PE.weak (pe_callB hc hg hm hv ha hn hdb he hpl) fun σ H Q h => callV_of hs h
theorem pv_callTy {m : M (List AV)} {T : String} (hc : CallR X (.type T) r) (hs : CallD X r f) (hg : Gl X x) (hm : X.mg x = none) (hv : bootBuiltins x = some (.type T)) (ha : PVAd X W (e :: es) m) (hn : x ≠ "__name__" := by decide) (hdb : (x == ("__debug__" : Str)) = false := by decide)
    (he : starEach (e :: es) X.env = (false, eval e X.env) :: starEach es X.env := by rfl) (hpl : (backTo pos (starEach es X.env)).any (·.1) = false := by rfl) : PEd X W (.Call (.Name x p) (e :: es) [] pos) (m >>= fun as => resAll as >>= fun ds => M.of (f ds)) :=
  PE.weak (pe_callTy hc hg hm hv ha hn hdb he hpl) fun σ H Q h => callV_of hs h
/-- f(..), f a module's name for a built-in function -/
theorem pd_callM {id : String} (hc : CallR X (.builtin id) r) (hs : CallD X r f) (hg : Gl X x) (hm : X.mg x = some (.builtin id)) (ha : PAd X W (e :: es) m) (hdb : (x == ("__debug__" : Str)) = false := by decide)
    (he : starEach (e :: es) X.env = (false, eval e X.env) :: starEach es X.env := by rfl) (hpl : (backTo pos (starEach es X.env)).any (·.1) = false := by rfl) : PEd X W (.Call (.Name x p) (e :: es) [] pos) (m >>= fun ds => M.of (f ds)) :=
  PE.weak (pe_callBfun hc hg hm ha hdb he hpl) fun σ H Q h => callT_of hs h

/-! ### which ones, and what they give -/
def lenD : List D → Option D
  | [.tup ds] => some (.int ds.length)
  | [.lst ds] => some (.int ds.length)
  | [.str x] => if lenOk x.length = true then some (.int x.length) else none
  | [.scr ds] => some (.int ds.length)
  | _ => none
theorem len_ok : CallD X (fun xs H Q => ∃ x n, xs = [x] ∧ LenV X.K x H n ∧ Q (.int n) H) lenD := by
  intro Z H xs ds g Q hz h hf k
  unfold lenD at hf
  split at hf
  · cases hf
    cases h with
    | cons h1 h2 =>
      cases h2
      obtain ⟨p, ys, rfl, hp, dp⟩ := h1
      exact ⟨_, _, rfl, .inr ⟨ys, hp, rfl⟩, by rw [← dp.length]; exact k _ _ (Same.refl _) rfl⟩
  · cases hf
    cases h with
    | cons h1 h2 =>
      cases h2
      obtain ⟨p, ys, rfl, hp, dp⟩ := h1
      exact ⟨_, _, rfl, .inl ⟨ys, .of hp, rfl⟩, by rw [← dp.length]; exact k _ _ (Same.refl _) rfl⟩
  · split at hf
    · rename_i hl
      cases hf
      cases h with
      | cons h1 h2 =>
        cases h2
        cases (show _ = V.str _ from h1)
        exact ⟨_, _, rfl, ⟨lenOk_line hl, rfl⟩, k _ _ (Same.refl _) rfl⟩
    · cases hf
  · cases hf
    cases h with
    | cons h1 h2 =>
      cases h2
      obtain ⟨p, rfl, hp⟩ := h1
      exact ⟨_, _, rfl, .inl ⟨_, hp.seq, by rw [List.length_map]⟩, k _ _ (Same.refl _) rfl⟩
  · cases hf
def absD : List D → Option D
  | [.int i] => some (.int (if i < 0 then -i else i))
  | _ => none
theorem abs_ok : CallD X (fun xs H Q => ∃ i, xs = [.int i] ∧ Q (.int (if i < 0 then -i else i)) H) absD := by
  intro Z H xs ds g Q hz h hf k
  unfold absD at hf
  split at hf
  · cases hf
    cases h with
    | cons h1 h2 =>
      cases h2
      cases (show _ = V.int _ from h1)
      exact ⟨_, rfl, k _ _ (Same.refl _) rfl⟩
  · cases hf
def max2D : List D → Option D
  | [.int i, .int j] => some (.int (if j > i then j else i))
  | _ => none
theorem max2_ok : CallD X (fun xs H Q => ∃ i j, xs = [.int i, .int j] ∧ Q (.int (if j > i then j else i)) H) max2D := by
  intro Z H xs ds g Q hz h hf k
  unfold max2D at hf
  split at hf
  · cases hf
    cases h with
    | cons h1 h2 =>
      cases h2 with
      | cons h2 h3 =>
        cases h3
        cases (show _ = V.int _ from h1)
        cases (show _ = V.int _ from h2)
        exact ⟨_, _, rfl, k _ _ (Same.refl _) rfl⟩
  · cases hf
def min2D : List D → Option D
  | [.int i, .int j] => some (.int (if j < i then j else i))
  | _ => none
theorem min2_ok : CallD X (fun xs H Q => ∃ i j, xs = [.int i, .int j] ∧ Q (.int (if j < i then j else i)) H) min2D := by
  intro Z H xs ds g Q hz h hf k
  unfold min2D at hf
  split at hf
  · cases hf
    cases h with
    | cons h1 h2 =>
      cases h2 with
      | cons h2 h3 =>
        cases h3
        cases (show _ = V.int _ from h1)
        cases (show _ = V.int _ from h2)
        exact ⟨_, _, rfl, k _ _ (Same.refl _) rfl⟩
  · cases hf
def intD : List D → Option D
  | [.int i] => some (.int i)
  | [.bl b] => some (.int (if b then 1 else 0))
  | _ => none
theorem int_ok : CallD X (fun xs H Q => (∃ i, xs = [.int i] ∧ Q (.int i) H) ∨ ∃ k, xs = [.bl k] ∧ Q (.int (if k then 1 else 0)) H) intD := by
  intro Z H xs ds g Q hz h hf k
  unfold intD at hf
  split at hf
  · cases hf
    cases h with
    | cons h1 h2 =>
      cases h2
      cases (show _ = V.int _ from h1)
      exact .inl ⟨_, rfl, k _ _ (Same.refl _) rfl⟩
  · cases hf
    cases h with
    | cons h1 h2 =>
      cases h2
      cases (show _ = V.bl _ from h1)
      exact .inr ⟨_, rfl, k _ _ (Same.refl _) rfl⟩
  · cases hf
def gcdD : List D → Option D
  | [.int i, .int j] => some (.int ((Nat.gcd i.natAbs j.natAbs : Nat) : Int))
  | _ => none
theorem gcd_ok : CallD X rGcd gcdD := by
  intro Z H xs ds g Q hz h hf k
  unfold gcdD at hf
  split at hf
  · cases hf
    cases h with
    | cons h1 h2 =>
      cases h2 with
      | cons h2 h3 =>
        cases h3
        cases (show _ = V.int _ from h1)
        cases (show _ = V.int _ from h2)
        exact ⟨_, _, rfl, k _ _ (Same.refl _) rfl⟩
  · cases hf
def listD : List D → Option D
  | [.tup ds] => some (.lst ds)
  | [.lst ds] => some (.lst ds)
  | _ => none
theorem list_ok : CallD X (fun xs H Q => ∃ p ys, xs = [.ref p] ∧ (SqL X.K H p ys ∨ SqT X.K H p ys) ∧ ∀ l, H l = none → Q (.ref l) (upd H l (.lst ys))) listD := by
  intro Z H xs ds g Q hz h hf k
  unfold listD at hf
  split at hf
  · cases hf
    cases h with
    | cons h1 h2 =>
      cases h2
      obtain ⟨p, ys, rfl, hp, dp⟩ := h1
      exact ⟨p, ys, rfl, .inr hp, fun l hl => k _ _ (same_new hl) (den_new hz hl dp)⟩
  · cases hf
    cases h with
    | cons h1 h2 =>
      cases h2
      obtain ⟨p, ys, rfl, hp, dp⟩ := h1
      exact ⟨p, ys, rfl, .inl (.of hp), fun l hl => k _ _ (same_new hl) (den_new hz hl dp)⟩
  · cases hf
def tupleD : List D → Option D
  | [.tup ds] => some (.tup ds)
  | [.lst ds] => some (.tup ds)
  | _ => none
theorem tuple_ok : CallD X (fun xs H Q => ∃ p ys, xs = [.ref p] ∧ ((SqL X.K H p ys ∧ ∀ l, H l = none → Q (.ref l) (upd H l (.tup ys))) ∨ (SqT X.K H p ys ∧ Q (.ref p) H))) tupleD := by
  intro Z H xs ds g Q hz h hf k
  unfold tupleD at hf
  split at hf
  · cases hf
    cases h with
    | cons h1 h2 =>
      cases h2
      obtain ⟨p, ys, rfl, hp, dp⟩ := h1
      exact ⟨p, ys, rfl, .inr ⟨hp, k _ _ (Same.refl _) ⟨p, ys, rfl, hp, dp⟩⟩⟩
  · cases hf
    cases h with
    | cons h1 h2 =>
      cases h2
      obtain ⟨p, ys, rfl, hp, dp⟩ := h1
      exact ⟨p, ys, rfl, .inl ⟨.of hp, fun l hl => k _ _ (same_new hl) (den_newT hl dp)⟩⟩
  · cases hf
def bls : List D → Option (List Bool)
  | [] => some []
  | .bl b :: r => (bls r).map fun bs => b :: bs
  | _ => none
theorem bls_some : ∀ {ds : List D} {bs : List Bool}, bls ds = some bs → ds = bs.map D.bl
  | [], _, h => by cases h; rfl
  | .bl b :: r, bs, h => by
    unfold bls at h
    cases q : bls r with
    | none => rw [q] at h; cases h
    | some cs =>
      rw [q] at h
      cases h
      rw [bls_some q]
      rfl
  | .non :: r, _, h => by cases h
  | .int _ :: r, _, h => by cases h
  | .str _ :: r, _, h => by cases h
  | .tup _ :: r, _, h => by cases h
  | .lst _ :: r, _, h => by cases h
  | .dct _ _ :: r, _, h => by cases h
  | .scr _ :: r, _, h => by cases h
def allD : List D → Option D
  | [.lst ds] => (bls ds).map fun bs => .bl (bs.all id)
  | _ => none
def anyD : List D → Option D
  | [.lst ds] => (bls ds).map fun bs => .bl (bs.any id)
  | _ => none
theorem all_ok : CallD X (rAll X.K) allD := by
  intro Z H xs ds g Q hz h hf k
  unfold allD at hf
  split at hf
  · rename_i ds'
    cases q : bls ds' with
    | none => rw [q] at hf; cases hf
    | some bs =>
      rw [q] at hf
      cases hf
      have e := bls_some q
      subst e
      cases h with
      | cons h1 h2 =>
        cases h2
        obtain ⟨p, ys, rfl, hp, dp⟩ := h1
        have e := dp.bls
        subst e
        exact ⟨p, bs, rfl, .of hp, k _ _ (Same.refl _) rfl⟩
  · cases hf
theorem any_ok : CallD X (rAny X.K) anyD := by
  intro Z H xs ds g Q hz h hf k
  unfold anyD at hf
  split at hf
  · rename_i ds'
    cases q : bls ds' with
    | none => rw [q] at hf; cases hf
    | some bs =>
      rw [q] at hf
      cases hf
      have e := bls_some q
      subst e
      cases h with
      | cons h1 h2 =>
        cases h2
        obtain ⟨p, ys, rfl, hp, dp⟩ := h1
        have e := dp.bls
        subst e
        exact ⟨p, bs, rfl, .of hp, k _ _ (Same.refl _) rfl⟩
  · cases hf
def tyOf : D → String
  | .non => "NoneType"
  | .bl _ => "bool"
  | .int _ => "int"
  | .str _ => "str"
  | .tup _ => "tuple"
  | .lst _ => "list"
  | .dct _ _ => "dict"
  | .scr _ => "list"
theorem ty_of {Z : Addr → Prop} {K : PySem.W.Frag} : ∀ {d : D} {v : V}, DenT Z K H d v → TyX K H v (.type (tyOf d))
  | .non, _, h => by cases (show _ = V.non from h); exact .base .non
  | .bl b, _, h => by cases (show _ = V.bl b from h); exact .base (.bl b)
  | .int b, _, h => by cases (show _ = V.int b from h); exact .base (.int b)
  | .str b, _, h => by cases (show _ = V.str b from h); exact .base (.str b)
  | .tup _, _, ⟨a, xs, e, h, _⟩ => by
    subst e
    rcases h with (h | ⟨o, h⟩) | ⟨o, its, n, h, hc, _⟩
    · exact .base (.tup h)
    · exact .fTuple h
    · exact .kTuple h hc
  | .lst _, _, ⟨a, xs, e, h, _⟩ => by
    subst e
    exact .base (.lst h)
  | .dct _ _, _, ⟨a, xs, e, h, _⟩ => by
    subst e
    exact .base (.dK h)
  | .scr _, _, ⟨a, e, h⟩ => by
    subst e
    rcases h with ⟨o, h⟩ | ⟨o, its, n, h, hc, _⟩
    · exact .base (.frz h)
    · exact .kList h hc
def isiD (T : String) (d : D) : Option D := (kitB (tyOf d) T).map D.bl
/-- isinstance(e, T), T a built-in class -/
theorem pv_isi {T : String} {t : Str} {p1 p2 : Pos} {m : M AV} (ha : PVd X W a m) (hg : Gl X "isinstance") (hm : X.mg "isinstance" = none) (hgT : Gl X t) (hmT : X.mg t = none) (hvT : bootBuiltins t = some (.type T)) (hnT : t ≠ "__name__" := by decide) (hdbT : (t == ("__debug__" : Str)) = false := by decide)
    (he : starEach (a :: [.Name t p1]) X.env = (false, eval a X.env) :: starEach [.Name t p1] X.env := by rfl) (he2 : starEach ([.Name t p1]) X.env = (false, eval (.Name t p1) X.env) :: starEach [] X.env := by rfl) (hpl : (backTo pos (starEach [.Name t p1] X.env)).any (·.1) = false := by rfl) :
    PEd X W (.Call (.Name "isinstance" p2) [a, .Name t p1] [] pos) (do let a ← m; let d ← a.res; M.of (isiD T d)) :=
  PE.weak (pe_callB call_isi hg hm (by decide +kernel) (pa_cons ha (pa_cons (pe_bltn (v := .ty T) hgT hmT hvT rfl hnT hdbT) pa_nil he2) he) (by decide) (by decide) he hpl) fun σ H Q ⟨G, η, ok, h⟩ => by
    refine ⟨G, η, ok, (Post.bind (R := RV X G σ) h).imp fun x H1 ⟨η1, d, a1⟩ => ?_⟩
    obtain ⟨d', dn, h2⟩ := Post.res a1.ok a1.r a1.post
    obtain ⟨g, eg, k⟩ := Post.of a1.ok h2
    unfold isiD at eg
    cases q : kitB (tyOf d') T with
    | none => rw [q] at eg; cases eg
    | some b =>
      rw [q] at eg
      cases eg
      exact ⟨x, .ty T, _, _, b, rfl, .ty T, ty_of dn, kit_ty q, k _ _ (Same.refl _) rfl⟩
theorem pd_isi {T : String} {t : Str} {p1 p2 : Pos} {m : M D} (ha : PEd X W a m) (hg : Gl X "isinstance") (hm : X.mg "isinstance" = none) (hgT : Gl X t) (hmT : X.mg t = none) (hvT : bootBuiltins t = some (.type T)) (hnT : t ≠ "__name__" := by decide) (hdbT : (t == ("__debug__" : Str)) = false := by decide)
    (he : starEach (a :: [.Name t p1]) X.env = (false, eval a X.env) :: starEach [.Name t p1] X.env := by rfl) (he2 : starEach ([.Name t p1]) X.env = (false, eval (.Name t p1) X.env) :: starEach [] X.env := by rfl) (hpl : (backTo pos (starEach [.Name t p1] X.env)).any (·.1) = false := by rfl) :
    PEd X W (.Call (.Name "isinstance" p2) [a, .Name t p1] [] pos) (do let d ← m; M.of (isiD T d)) :=
  PE.weak (pv_isi ha.v hg hm hgT hmT hvT hnT hdbT he he2 hpl) fun σ H Q ⟨G, η, ok, h⟩ => ⟨G, η, ok, by rw [M.assoc]; exact h⟩
end
end Pd

namespace Pd
open PySem L2
/-! ### what a def promises -/
def PostF (K : PySem.W.Frag) (mg : Str → Option Value) (G : Addr → Prop) (as : Sto) (σ : St) (H : Hp) (R : Sto → Hp → D → V → Prop) (Q : VK) (E : XK) : Res D → Prop
  | .ok d as' => ∀ v H', Shr as as' → Step (Fo as σ) H H' → Ok G K as' σ H' → R as' H' d v → Q v H'
  | .exc c as' => ∀ C H', mg c = some (.ref C) → Shr as as' → Step (Fo as σ) H H' → Ok G K as' σ H' → E (.ref C) none H'
  | .bad => False
def spD (K : PySem.W.Frag) (mg : Str → Option Value) (n : Nat) (m : M D) : Sp := fun vs H Q E => ∃ G as, vs.length = n ∧ Ok G K as (vs.map some) H ∧ PostF K mg G as (vs.map some) H (fun η H' d v => Den (Zo G η (vs.map some)) K H' d v) Q E (m as)
def spF (K : PySem.W.Frag) (mg : Str → Option Value) (n : Nat) (m : M D) : Sp := fun vs H Q E => ∃ G as, vs.length = n ∧ Ok G K as (vs.map some) H ∧ PostF K mg G as (vs.map some) H
  (fun η H' d v => ∃ p, v = .ref p ∧ H p = none ∧ Cell (fun a => Zo G η (vs.map some) a ∨ a = p) K H' p d ∧ Ok (fun a => G a ∨ a = p) K η (vs.map some) H') Q E (m as)
theorem PostF.imp {K : PySem.W.Frag} {mg : Str → Option Value} {G : Addr → Prop} {as : Sto} {σ : St} {H : Hp} {R R' : Sto → Hp → D → V → Prop} {Q : VK} {E : XK} {r : Res D} (h : PostF K mg G as σ H R Q E r)
    (i : ∀ as' H' d v, Shr as as' → Step (Fo as σ) H H' → Ok G K as' σ H' → R' as' H' d v → R as' H' d v) : PostF K mg G as σ H R' Q E r := by
  cases r with
  | ok d as' => exact fun v H' a b c q => h v H' a b c (i _ _ _ _ a b c q)
  | exc c as' => exact h
  | bad => exact h
/-- another function that says the same where it says something -/
def Says (m m' : M D) : Prop := ∀ as, m' as = .bad ∨ m as = m' as
theorem spD.says {K : PySem.W.Frag} {mg : Str → Option Value} {n : Nat} {m m' : M D} (h : Says m m') (vs : List V) (H : Hp) (Q : VK) (E : XK) : spD K mg n m' vs H Q E → spD K mg n m vs H Q E := fun ⟨G, as, hn, ok, q⟩ => by
  refine ⟨G, as, hn, ok, ?_⟩
  rcases h as with e | e
  · rw [e] at q
    exact q.elim
  · rw [e]
    exact q
theorem spF.says {K : PySem.W.Frag} {mg : Str → Option Value} {n : Nat} {m m' : M D} (h : Says m m') (vs : List V) (H : Hp) (Q : VK) (E : XK) : spF K mg n m' vs H Q E → spF K mg n m vs H Q E := fun ⟨G, as, hn, ok, q⟩ => by
  refine ⟨G, as, hn, ok, ?_⟩
  rcases h as with e | e
  · rw [e] at q
    exact q.elim
  · rw [e]
    exact q

/-! ### data without lists -/
mutual
def noLst : D → Bool
  | .lst _ => false
  | .dct _ _ => false
  | .tup ds => noLsts ds
  | _ => true
def noLsts : List D → Bool
  | [] => true
  | d :: ds => noLst d && noLsts ds
end
section
variable {Z Z' : Addr → Prop} {K : PySem.W.Frag} {H : Hp}
mutual
theorem Den.free : ∀ {d : D} {v : V}, noLst d = true → Den Z K H d v → Den Z' K H d v
  | .non, _, _, h => h
  | .bl _, _, _, h => h
  | .int _, _, _, h => h
  | .str _, _, _, h => h
  | .scr _, _, _, h => h
  | .tup ds, _, n, h => by
    obtain ⟨a, xs, e, q, r⟩ := h
    unfold noLst at n
    exact ⟨a, xs, e, q, Dens.free n r⟩
  | .lst _, _, n, _ => by unfold noLst at n; cases n
  | .dct _ _, _, n, _ => by unfold noLst at n; cases n
theorem Dens.free : ∀ {ds : List D} {xs : List V}, noLsts ds = true → Dens Z K H ds xs → Dens Z' K H ds xs
  | [], _, _, h => h
  | d :: ds, _, n, h => by
    obtain ⟨v, r, e, h1, h2⟩ := h
    unfold noLsts at n
    rw [Bool.and_eq_true] at n
    exact ⟨v, r, e, Den.free n.1 h1, Dens.free n.2 h2⟩
end
end
/-- .. within a list or dict -/
def noLstIn : D → Bool
  | .lst ds => noLsts ds
  | .dct _ ds => noLsts ds
  | _ => true
theorem Cell.free {Z Z' : Addr → Prop} {K : PySem.W.Frag} {H : Hp} {p : Addr} : ∀ {d : D}, noLstIn d = true → Cell Z K H p d → Cell Z' K H p d
  | .lst ds, n, ⟨xs, e, q⟩ => ⟨xs, e, q.free n⟩
  | .dct _ ds, n, ⟨xs, e, r, q⟩ => ⟨xs, e, r, q.free n⟩
theorem Cell.less {Z Z' : Addr → Prop} {K : PySem.W.Frag} {H : Hp} {p : Addr} (hz : ∀ a, Z' a → Z a) : ∀ {d : D}, Cell Z K H p d → Cell Z' K H p d
  | .lst ds, ⟨xs, e, q⟩ => ⟨xs, e, q.less hz⟩
  | .dct _ ds, ⟨xs, e, r, q⟩ => ⟨xs, e, r, q.less hz⟩

/-! ### a call of a def: its arguments; jo tells which one it may change -/
def mkA (η : Sto) : Option Nat → List AV → Option Sto
  | _, [] => some []
  | some 0, .bor i :: r => match η[i]? with
    | some (.own _ d) => (mkA η none r).map fun as => .own true d :: as
    | _ => none
  | some 0, .val _ :: _ => none
  | some (j + 1), .bor i :: r => match η[i]? with
    | some (.own _ d) => (mkA η (some j) r).map fun as => .val d :: as
    | _ => none
  | none, .bor i :: r => match η[i]? with
    | some (.own _ d) => (mkA η none r).map fun as => .val d :: as
    | _ => none
  | some (j + 1), .val d :: r => (mkA η (some j) r).map fun as => .val d :: as
  | none, .val d :: r => (mkA η none r).map fun as => .val d :: as
/-- the slots that are only read -/
def bors : Option Nat → List AV → List Nat
  | _, [] => []
  | some 0, _ :: r => bors none r
  | some (j + 1), .bor i :: r => i :: bors (some j) r
  | none, .bor i :: r => i :: bors none r
  | some (j + 1), .val _ :: r => bors (some j) r
  | none, .val _ :: r => bors none r
def ioIx (jo : Option Nat) (avs : List AV) : Option Nat := match jo with
  | none => none
  | some j => match avs[j]? with
    | some (.bor i) => some i
    | _ => none
def chk (jo : Option Nat) (avs : List AV) : Bool := match ioIx jo avs with
  | none => true
  | some i => !(bors jo avs).contains i
def ioD (jo : Option Nat) (as : Sto) : D := match jo with
  | none => .non
  | some j => match as[j]? with
    | some (.own _ d) => d
    | _ => .non
def clean (n : D → Bool) (jo : Option Nat) (avs : List AV) (d : D) (as : Sto) : Bool := (bors jo avs).isEmpty || (n d && noLstIn (ioD jo as))
def wb (η : Sto) (jo : Option Nat) (avs : List AV) (as : Sto) : Sto := match ioIx jo avs with
  | none => η
  | some i => match η[i]? with
    | some (.own b _) => η.set i (.own b (ioD jo as))
    | _ => η
def finM (n : D → Bool) (η : Sto) (jo : Option Nat) (avs : List AV) : Res D → Res D
  | .ok d as => if clean n jo avs d as = true then .ok d (wb η jo avs as) else .bad
  | .exc c as => if clean n jo avs .non as = true then .exc c (wb η jo avs as) else .bad
  | .bad => .bad
def callM (n : D → Bool) (f : M D) (jo : Option Nat) (avs : List AV) : M D := fun η => match mkA η jo avs with
  | none => .bad
  | some as => if chk jo avs = true then finM n η jo avs (f as) else .bad
theorem mkA_get {η : Sto} : ∀ {avs : List AV} {jo : Option Nat} {as : Sto}, mkA η jo avs = some as → as.length = avs.length ∧ ∀ (j : Nat) (s : Slot), as[j]? = some s →
    (∃ d, avs[j]? = some (.val d) ∧ s = .val d ∧ jo ≠ some j) ∨ (∃ i b d, avs[j]? = some (.bor i) ∧ η[i]? = some (.own b d) ∧ s = .val d ∧ i ∈ bors jo avs ∧ jo ≠ some j) ∨ (∃ i b d, avs[j]? = some (.bor i) ∧ η[i]? = some (.own b d) ∧ s = .own true d ∧ jo = some j)
  | [], jo, as, h => by
    have e : as = [] := by
      cases jo with
      | none => cases h; rfl
      | some j => cases j <;> (cases h; rfl)
    subst e
    exact ⟨rfl, fun j s e => by simp at e⟩
  | .val d :: r, jo, as, h => by
    have step : ∀ (jo' : Option Nat) (as' : Sto), mkA η jo' r = some as' → as = .val d :: as' → (∀ j, jo = some (j + 1) ↔ jo' = some j) → jo ≠ some 0 → (∀ i, i ∈ bors jo' r → i ∈ bors jo (.val d :: r)) →
        as.length = (AV.val d :: r).length ∧ ∀ (j : Nat) (s : Slot), as[j]? = some s →
          (∃ d', (AV.val d :: r)[j]? = some (.val d') ∧ s = .val d' ∧ jo ≠ some j) ∨ (∃ i b d', (AV.val d :: r)[j]? = some (.bor i) ∧ η[i]? = some (.own b d') ∧ s = .val d' ∧ i ∈ bors jo (.val d :: r) ∧ jo ≠ some j) ∨
            (∃ i b d', (AV.val d :: r)[j]? = some (.bor i) ∧ η[i]? = some (.own b d') ∧ s = .own true d' ∧ jo = some j) := by
      intro jo' as' h1 e h2 h3 h4
      obtain ⟨l, g⟩ := mkA_get h1
      subst e
      refine ⟨by simp [l], fun j s es => ?_⟩
      cases j with
      | zero =>
        simp at es
        subst es
        exact .inl ⟨d, rfl, rfl, h3⟩
      | succ j =>
        rcases g j s (by simpa using es) with ⟨d', q1, q2, q3⟩ | ⟨i, b, d', q1, q2, q3, q4, q5⟩ | ⟨i, b, d', q1, q2, q3, q4⟩
        · exact .inl ⟨d', by simpa using q1, q2, fun z => q3 ((h2 j).mp z)⟩
        · exact .inr (.inl ⟨i, b, d', by simpa using q1, q2, q3, h4 i q4, fun z => q5 ((h2 j).mp z)⟩)
        · exact .inr (.inr ⟨i, b, d', by simpa using q1, q2, q3, (h2 j).mpr q4⟩)
    cases jo with
    | none =>
      unfold mkA at h
      cases q : mkA η none r with
      | none => rw [q] at h; cases h
      | some as' =>
        rw [q] at h
        cases h
        exact step none as' q rfl (by simp) (by simp) (fun i z => z)
    | some n =>
      cases n with
      | zero => cases h
      | succ n =>
        unfold mkA at h
        cases q : mkA η (some n) r with
        | none => rw [q] at h; cases h
        | some as' =>
          rw [q] at h
          cases h
          exact step (some n) as' q rfl (by simp) (by simp) (fun i z => z)
  | .bor i0 :: r, jo, as, h => by
    have step : ∀ (jo' : Option Nat) (as' : Sto) (b : Bool) (d : D) (s0 : Slot), mkA η jo' r = some as' → η[i0]? = some (.own b d) → as = s0 :: as' → (∀ j, jo = some (j + 1) ↔ jo' = some j) →
        ((s0 = .val d ∧ jo ≠ some 0 ∧ i0 ∈ bors jo (.bor i0 :: r)) ∨ (s0 = .own true d ∧ jo = some 0)) → (∀ i, i ∈ bors jo' r → i ∈ bors jo (.bor i0 :: r)) →
        as.length = (AV.bor i0 :: r).length ∧ ∀ (j : Nat) (s : Slot), as[j]? = some s →
          (∃ d', (AV.bor i0 :: r)[j]? = some (.val d') ∧ s = .val d' ∧ jo ≠ some j) ∨ (∃ i b d', (AV.bor i0 :: r)[j]? = some (.bor i) ∧ η[i]? = some (.own b d') ∧ s = .val d' ∧ i ∈ bors jo (.bor i0 :: r) ∧ jo ≠ some j) ∨
            (∃ i b d', (AV.bor i0 :: r)[j]? = some (.bor i) ∧ η[i]? = some (.own b d') ∧ s = .own true d' ∧ jo = some j) := by
      intro jo' as' b d s0 h1 e0 e h2 h3 h4
      obtain ⟨l, g⟩ := mkA_get h1
      subst e
      refine ⟨by simp [l], fun j s es => ?_⟩
      cases j with
      | zero =>
        simp at es
        subst es
        rcases h3 with ⟨z1, z2, z3⟩ | ⟨z1, z2⟩
        · exact .inr (.inl ⟨i0, b, d, rfl, e0, z1, z3, z2⟩)
        · exact .inr (.inr ⟨i0, b, d, rfl, e0, z1, z2⟩)
      | succ j =>
        rcases g j s (by simpa using es) with ⟨d', q1, q2, q3⟩ | ⟨i, b, d', q1, q2, q3, q4, q5⟩ | ⟨i, b, d', q1, q2, q3, q4⟩
        · exact .inl ⟨d', by simpa using q1, q2, fun z => q3 ((h2 j).mp z)⟩
        · exact .inr (.inl ⟨i, b, d', by simpa using q1, q2, q3, h4 i q4, fun z => q5 ((h2 j).mp z)⟩)
        · exact .inr (.inr ⟨i, b, d', by simpa using q1, q2, q3, (h2 j).mpr q4⟩)
    cases jo with
    | none =>
      unfold mkA at h
      split at h
      · rename_i b d e0
        cases q : mkA η none r with
        | none => rw [q] at h; cases h
        | some as' =>
          rw [q] at h
          cases h
          exact step none as' b d _ q e0 rfl (by simp) (.inl ⟨rfl, by simp, by unfold bors; simp⟩) (fun i z => by unfold bors; simp [z])
      · cases h
    | some n =>
      cases n with
      | zero =>
        unfold mkA at h
        split at h
        · rename_i b d e0
          cases q : mkA η none r with
          | none => rw [q] at h; cases h
          | some as' =>
            rw [q] at h
            cases h
            exact step none as' b d _ q e0 rfl (by simp) (.inr ⟨rfl, rfl⟩) (fun i z => by unfold bors; exact z)
        · cases h
      | succ n =>
        unfold mkA at h
        split at h
        · rename_i b d e0
          cases q : mkA η (some n) r with
          | none => rw [q] at h; cases h
          | some as' =>
            rw [q] at h
            cases h
            exact step (some n) as' b d _ q e0 rfl (by simp) (.inl ⟨rfl, by simp, by unfold bors; simp⟩) (fun i z => by unfold bors; simp [z])
        · cases h
theorem paired_get {α β : Type} {R : α → β → Prop} : ∀ {l : List α} {m : List β} {j : Nat} {a : α}, Paired R l m → l[j]? = some a → ∃ b, m[j]? = some b ∧ R a b
  | _, _, _, _, .nil, e => by simp at e
  | _, _, 0, _, .cons r _, e => by simp at e; subst e; exact ⟨_, rfl, r⟩
  | _, _, j + 1, _, .cons _ t, e => by
    obtain ⟨b, h1, h2⟩ := paired_get (j := j) t (by simpa using e)
    exact ⟨b, by simpa using h1, h2⟩
theorem bors_ne {jo : Option Nat} {avs : List AV} {i j : Nat} (h : avs[j]? = some (.bor i)) (hj : jo = some j) (hc : chk jo avs = true) : i ∉ bors jo avs := by
  subst hj
  unfold chk ioIx at hc
  simp only [h] at hc
  simpa using hc
end Pd

namespace Pd
open PySem L2
theorem mapsome {vs : List V} {j : Nat} {v : V} : (vs.map some)[j]? = some (some v) ↔ vs[j]? = some v := by
  rw [List.getElem?_map]
  cases vs[j]? <;> simp
section
variable {X : Cx} {G : Addr → Prop} {η : Sto} {σ : St} {H H' : Hp} {jo : Option Nat} {avs : List AV} {vs : List V} {as as' : Sto}
/-- what the callee must leave alone -/
def Guard (G : Addr → Prop) (η : Sto) (σ : St) (avs : List AV) (vs : List V) : Addr → Prop := fun a => Zo G η σ a ∧ ¬ ∃ (j i : Nat), avs[j]? = some (AV.bor i) ∧ vs[j]? = some (V.ref a)
theorem call_fo (r : Paired (RV X G σ η H) avs vs) (hm : mkA η jo avs = some as) {a : Addr} (f : Fo as (vs.map some) a) :
    Fo η σ a ∧ ∃ j i, avs[j]? = some (AV.bor i) ∧ vs[j]? = some (V.ref a) ∧ jo = some j ∧ σ[i]? = some (some (V.ref a)) := by
  obtain ⟨j, b, d, e, q⟩ := f
  have q' := mapsome.mp q
  rcases (mkA_get hm).2 j _ e with ⟨d', _, z, _⟩ | ⟨i, b', d', _, _, z, _⟩ | ⟨i, b', d', h1, h2, z, hj⟩
  · cases z
  · cases z
  · obtain ⟨v, e1, e2⟩ := paired_get r h1
    rw [q'] at e1
    cases e1
    have e2' : σ[i]? = some (some (V.ref a)) := e2
    exact ⟨⟨i, b', d', h2, e2'⟩, j, i, h1, q', hj, e2'⟩
theorem call_zo (r : Paired (RV X G σ η H) avs vs) (hm : mkA η jo avs = some as) {a : Addr} (z : Zo (Guard G η σ avs vs) as (vs.map some) a) : Zo G η σ a := by
  rcases z with z | z
  · exact z.1
  · exact .inr (call_fo r hm z).1
theorem call_ok (ok : Ok G X.K η σ H) (r : Paired (RV X G σ η H) avs vs) (hm : mkA η jo avs = some as) (hc : chk jo avs = true) : Ok (Guard G η σ avs vs) X.K as (vs.map some) H := by
  have hl := (mkA_get hm).1
  have hp := r.length
  refine ⟨by rw [List.length_map, hl, hp], fun j d e => ?_, fun j b d e => ?_, fun j j' b b' d d' p e e' q q' => ?_, fun a g => ok.domZ g.1, fun a g f => ?_⟩
  · rcases (mkA_get hm).2 j _ e with ⟨d', h1, z, _⟩ | ⟨i, b', d', h1, h2, z, hb, hj⟩ | ⟨i, b', d', _, _, z, _⟩
    · cases z
      obtain ⟨v, e1, e2⟩ := paired_get r h1
      exact ⟨v, mapsome.mpr e1, Den.less e2 fun a z => call_zo r hm z⟩
    · cases z
      obtain ⟨v, e1, e2⟩ := paired_get r h1
      obtain ⟨p, ep, c⟩ := ok.own i b' d h2
      have e2' : σ[i]? = some (some v) := e2
      rw [ep] at e2'
      cases e2'
      have np : ¬ Zo (Guard G η σ avs vs) as (vs.map some) p := fun z => by
        rcases z with z | z
        · exact z.2 ⟨j, i, h1, e1⟩
        · obtain ⟨_, j2, i2, k1, k2, k3, k4⟩ := call_fo r hm z
          obtain ⟨⟨i3, b3, d3, k5, k6⟩, _⟩ := call_fo r hm z
          -- both slots own p
          have own2 : ∃ b2 d2, η[i2]? = some (.own b2 d2) := by
            have hlt : j2 < as.length := by
              rw [hl]
              exact (List.getElem?_eq_some_iff.mp k1).1
            rcases (mkA_get hm).2 j2 _ (List.getElem?_eq_getElem hlt) with ⟨d', h1', _, _⟩ | ⟨i', b'', d', h1', h2', _⟩ | ⟨i', b'', d', h1', h2', _⟩
            · rw [k1] at h1'; cases h1'
            · rw [k1] at h1'; cases h1'; exact ⟨_, _, h2'⟩
            · rw [k1] at h1'; cases h1'; exact ⟨_, _, h2'⟩
          obtain ⟨b2, d2, k7⟩ := own2
          have ei := ok.inj i i2 _ _ _ _ p h2 k7 ep k4
          subst ei
          exact bors_ne k1 k3 hc hb
      refine ⟨.ref p, mapsome.mpr e1, ?_⟩
      cases d with
      | lst ds =>
        obtain ⟨xs, e3, q⟩ := c
        exact ⟨p, xs, rfl, np, e3, q.less fun a z => call_zo r hm z⟩
      | dct ks ds =>
        obtain ⟨kvs, e3, q0, q⟩ := c
        exact ⟨p, kvs, rfl, np, e3, q0, q.less fun a z => call_zo r hm z⟩
      | _ => exact False.elim c
    · cases z
  · rcases (mkA_get hm).2 j _ e with ⟨d', _, z, _⟩ | ⟨i, b', d', _, _, z, _⟩ | ⟨i, b', d', h1, h2, z, hj⟩
    · cases z
    · cases z
    · cases z
      obtain ⟨v, e1, e2⟩ := paired_get r h1
      obtain ⟨p, ep, c⟩ := ok.own i b' d h2
      have e2' : σ[i]? = some (some v) := e2
      rw [ep] at e2'
      cases e2'
      exact ⟨p, mapsome.mpr e1, c.less fun a z => call_zo r hm z⟩
  · rcases (mkA_get hm).2 j _ e with ⟨_, _, z, _⟩ | ⟨_, _, _, _, _, z, _⟩ | ⟨i, _, _, _, _, _, hj⟩
    · cases z
    · cases z
    · rcases (mkA_get hm).2 j' _ e' with ⟨_, _, z, _⟩ | ⟨_, _, _, _, _, z, _⟩ | ⟨i', _, _, _, _, _, hj'⟩
      · cases z
      · cases z
      · rw [hj] at hj'
        cases hj'
        rfl
  · obtain ⟨_, j, i, h1, h2, _⟩ := call_fo r hm f
    exact g.2 ⟨j, i, h1, h2⟩
theorem call_zo2 (r : Paired (RV X G σ η H) avs vs) (hm : mkA η jo avs = some as) (s : Shr as as') (hb : (bors jo avs).isEmpty = true) {a : Addr} (z : Zo G η σ a) : Zo (Guard G η σ avs vs) as' (vs.map some) a := by
  by_cases h : ∃ (j i : Nat), avs[j]? = some (AV.bor i) ∧ vs[j]? = some (V.ref a)
  · obtain ⟨j, i, h1, h2⟩ := h
    have hlt : j < as.length := by
      rw [(mkA_get hm).1]
      exact (List.getElem?_eq_some_iff.mp h1).1
    rcases (mkA_get hm).2 j _ (List.getElem?_eq_getElem hlt) with ⟨d', h1', _, _⟩ | ⟨i', b'', d', h1', h2', _, hb', _⟩ | ⟨i', b'', d', h1', h2', e, _⟩
    · rw [h1] at h1'; cases h1'
    · rw [List.isEmpty_iff.mp hb] at hb'
      cases hb'
    · have e' : as[j]? = some (.own true d') := by rw [List.getElem?_eq_getElem hlt, e]
      obtain ⟨d2, e2⟩ := s.fix j d' e'
      exact .inr ⟨j, true, d2, e2, mapsome.mpr h2⟩
  · exact .inl ⟨z, h⟩
/-- what stands behind the call -/
structure Behind (G : Addr → Prop) (K : PySem.W.Frag) (η η2 : Sto) (σ : St) (H H' : Hp) : Prop where
  ok : Ok G K η2 σ H'
  shr : Shr η η2
  fo : ∀ a, Fo η2 σ a ↔ Fo η σ a
theorem call_behind (P : Addr → Prop) (hP : ∀ a, P a → H a = none ∧ ∃ o, H' a = some o) (ok : Ok G X.K η σ H) (r : Paired (RV X G σ η H) avs vs) (hm : mkA η jo avs = some as) (s : Shr as as') (st : Step (Fo as (vs.map some)) H H')
    (ok' : Ok (fun a => Guard G η σ avs vs a ∨ P a) X.K as' (vs.map some) H') (hcl : (bors jo avs).isEmpty = true ∨ noLstIn (ioD jo as') = true) : Behind (fun a => G a ∨ P a) X.K η (wb η jo avs as') σ H H' := by
  have hFZ : ∀ a, Fo as (vs.map some) a → Zo G η σ a := fun a f => .inr (call_fo r hm f).1
  have dom' : ∀ a, (G a ∨ P a) → ∃ o, H' a = some o := fun a g => by
    rcases g with g | g
    · obtain ⟨o, e⟩ := ok.dom a g
      exact st.dom a o e
    · exact (hP a g).2
  have dis' : ∀ a, (G a ∨ P a) → ¬ Fo η σ a := fun a g f => by
    rcases g with g | g
    · exact ok.dis a g f
    · obtain ⟨o, e⟩ := ok.domZ (.inr f)
      rw [(hP a g).1] at e
      cases e
  have ztr : ∀ a, Zo (fun a => G a ∨ P a) η σ a → Zo G η σ a ∨ H a = none := fun a z => by
    rcases z with (z | z) | z
    · exact .inl (.inl z)
    · exact .inr (hP a z).1
    · exact .inl (.inr z)
  cases hio : ioIx jo avs with
  | none =>
    have ew : wb η jo avs as' = η := by unfold wb; rw [hio]
    rw [ew]
    have nofo : ∀ a, ¬ Fo as (vs.map some) a := fun a f => by
      obtain ⟨_, j, i, h1, _, h3, _⟩ := call_fo r hm f
      subst h3
      unfold ioIx at hio
      simp only [h1] at hio
      cases hio
    refine ⟨⟨ok.len, fun i d e => ?_, fun i b d e => ?_, ok.inj, dom', dis'⟩, .refl, fun a => Iff.rfl⟩
    · obtain ⟨v, e', dn⟩ := ok.val i d e
      exact ⟨v, e', Den.move st hFZ ztr d dn⟩
    · obtain ⟨p, e', c⟩ := ok.own i b d e
      exact ⟨p, e', Cell.move st hFZ ztr (fun o q => st.keep p o q (nofo p)) c⟩
  | some i0 =>
    obtain ⟨j0, hj0, ha0⟩ : ∃ j0, jo = some j0 ∧ avs[j0]? = some (.bor i0) := by
      cases jo with
      | none => cases hio
      | some j0 =>
        refine ⟨j0, rfl, ?_⟩
        unfold ioIx at hio
        simp only at hio
        split at hio
        · rename_i i e
          cases hio
          exact e
        · cases hio
    have hlt : j0 < as.length := by
      rw [(mkA_get hm).1]
      exact (List.getElem?_eq_some_iff.mp ha0).1
    obtain ⟨b0, d0, e0, ea0⟩ : ∃ b0 d0, η[i0]? = some (.own b0 d0) ∧ as[j0]? = some (.own true d0) := by
      rcases (mkA_get hm).2 j0 _ (List.getElem?_eq_getElem hlt) with ⟨d', h1', _, _⟩ | ⟨i', b'', d', h1', h2', _, _, hj⟩ | ⟨i', b'', d', h1', h2', e, _⟩
      · rw [ha0] at h1'; cases h1'
      · exact absurd hj0 hj
      · rw [ha0] at h1'
        cases h1'
        exact ⟨b'', d', h2', by rw [List.getElem?_eq_getElem hlt, e]⟩
    obtain ⟨d1, ea1⟩ := s.fix j0 d0 ea0
    have ed : ioD jo as' = d1 := by
      unfold ioD
      subst hj0
      simp only [ea1]
    have hi0 : i0 < η.length := (List.getElem?_eq_some_iff.mp e0).1
    have ew : wb η jo avs as' = η.set i0 (.own b0 d1) := by
      unfold wb
      rw [hio]
      simp only [e0, ed]
    rw [ew]
    have same : ∀ i, i ≠ i0 → (η.set i0 (Slot.own b0 d1))[i]? = η[i]? := fun i n => List.getElem?_set_ne (Ne.symm n)
    have self : (η.set i0 (Slot.own b0 d1))[i0]? = some (.own b0 d1) := List.getElem?_set_self hi0
    have sh : Shr η (η.set i0 (.own b0 d1)) := ⟨fun i b d e => by
      by_cases n : i = i0
      · subst n
        rw [self] at e
        cases e
        exact ⟨d0, e0⟩
      · rw [same i n] at e
        exact ⟨d, e⟩, fun i d e => by
      by_cases n : i = i0
      · subst n
        rw [e0] at e
        cases e
        exact ⟨d1, self⟩
      · exact ⟨d, by rw [same i n]; exact e⟩, fun i d e => by
      by_cases n : i = i0
      · subst n
        rw [self] at e
        cases e
      · rw [same i n] at e
        exact e⟩
    have fo : ∀ a, Fo (η.set i0 (.own b0 d1)) σ a ↔ Fo η σ a := fun a => ⟨sh.fo, fun ⟨i, b, d, e, q⟩ => by
      by_cases n : i = i0
      · subst n
        rw [e0] at e
        cases e
        exact ⟨i, _, d1, self, q⟩
      · exact ⟨i, b, d, by rw [same i n]; exact e, q⟩⟩
    have zo : ∀ a, Zo (fun a => G a ∨ P a) (η.set i0 (.own b0 d1)) σ a → Zo (fun a => G a ∨ P a) η σ a := fun a z => z.imp id fun f => (fo a).mp f
    have zg : ∀ a, Zo (fun a => G a ∨ P a) η σ a → (bors jo avs).isEmpty = true → Zo (fun a => Guard G η σ avs vs a ∨ P a) as' (vs.map some) a := fun a z hb => by
      rcases z with (z | z) | z
      · exact (call_zo2 r hm s hb (.inl z)).imp .inl id
      · exact .inl (.inr z)
      · exact (call_zo2 r hm s hb (.inr z)).imp .inl id
    obtain ⟨p0, ep0, c0⟩ := ok'.own j0 true d1 ea1
    have evs := mapsome.mp ep0
    have es0 : σ[i0]? = some (some (V.ref p0)) := by
      obtain ⟨v, e1, e2⟩ := paired_get r ha0
      rw [evs] at e1
      cases e1
      exact e2
    refine ⟨⟨by rw [List.length_set]; exact ok.len, fun i d e => ?_, fun i b d e => ?_, fun i j b b' d d' p e e' q q' => ?_, dom', fun a g f => dis' a g ((fo a).mp f)⟩, sh, fo⟩
    · by_cases n : i = i0
      · subst n
        rw [self] at e
        cases e
      · rw [same i n] at e
        obtain ⟨v, e', dn⟩ := ok.val i d e
        exact ⟨v, e', Den.move st hFZ (fun a z => ztr a (zo a z)) d dn⟩
    · by_cases n : i = i0
      · subst n
        rw [self] at e
        cases e
        refine ⟨p0, es0, ?_⟩
        rcases hcl with hb | hn
        · exact c0.less fun a z => zg a (zo a z) hb
        · rw [ed] at hn
          exact c0.free hn
      · rw [same i n] at e
        obtain ⟨p, e', c⟩ := ok.own i b d e
        refine ⟨p, e', Cell.move st hFZ (fun a z => ztr a (zo a z)) (fun o q => st.keep p o q fun f => ?_) c⟩
        obtain ⟨_, j, i2, h1, h2, h3, h4⟩ := call_fo r hm f
        rw [hj0] at h3
        cases h3
        rw [ha0] at h1
        cases h1
        exact n (ok.inj i i0 _ _ _ _ p e e0 e' h4)
    · obtain ⟨d2, k2⟩ := sh.sub i b d e
      obtain ⟨d3, k3⟩ := sh.sub j b' d' e'
      exact ok.inj i j _ _ _ _ p k2 k3 q q'
end
theorem Ok.noP {G : Addr → Prop} {K : PySem.W.Frag} {η : Sto} {σ : St} {H : Hp} (ok : Ok G K η σ H) : Ok (fun a => G a ∨ False) K η σ H := by
  have e : (fun a => G a ∨ False) = G := funext fun a => propext ⟨fun z => z.elim id False.elim, .inl⟩
  rw [e]
  exact ok
theorem Behind.noP {G : Addr → Prop} {K : PySem.W.Frag} {η η2 : Sto} {σ : St} {H H' : Hp} (b : Behind (fun a => G a ∨ False) K η η2 σ H H') : Behind G K η η2 σ H H' := by
  have e : (fun a => G a ∨ False) = G := funext fun a => propext ⟨fun z => z.elim id False.elim, .inl⟩
  rw [e] at b
  exact b
section
variable {X : Cx} {W : WX} {e : Expr} {es : List Expr} {pos p : Pos} {k n : Nat} {f : Addr} {fd : FuncData} {ps : List Str} {x : Str} {fm : M D} {jo : Option Nat} {m : M (List AV)} {σ : St} {H : Hp} {Q : VK}
theorem call_len {G : Addr → Prop} {η : Sto} {avs : List AV} {vs : List V} (r : Paired (RV X G σ η H) avs vs) : avs.length = vs.length := r.length
/-- from the arguments to the promise -/
theorem call_sp {G : Addr → Prop} {η : Sto} {avs : List AV} {vs : List V} (hn : avs.length = n) (ok : Ok G X.K η σ H) (r : Paired (RV X G σ η H) avs vs) (h : Post X W G η σ H (RD X G σ) Q (callM noLst fm jo avs η)) : spD X.K X.mg n fm vs H Q (WE W σ) := by
  unfold callM at h
  cases hm : mkA η jo avs with
  | none => rw [hm] at h; exact h.elim
  | some as =>
    rw [hm] at h
    simp only at h
    by_cases hc : chk jo avs = true
    · rw [if_pos hc] at h
      refine ⟨Guard G η σ avs vs, as, by rw [← r.length]; exact hn, call_ok ok r hm hc, ?_⟩
      cases q : fm as with
      | bad => rw [q] at h; exact h.elim
      | ok d as' =>
        rw [q] at h
        unfold finM at h
        simp only at h
        by_cases hcl : clean noLst jo avs d as' = true
        · rw [if_pos hcl] at h
          intro v H' s st ok' dn
          unfold clean at hcl
          rw [Bool.or_eq_true, Bool.and_eq_true] at hcl
          have B := (call_behind (fun _ => False) (fun _ z => z.elim) ok r hm s st ok'.noP (hcl.imp id (·.2))).noP
          refine h v H' B.shr (st.wider fun a z => (call_fo r hm z).1) B.ok ?_
          rcases hcl with hb | hn
          · exact Den.less dn fun a z => call_zo2 r hm s hb (z.imp id fun f => (B.fo a).mp f)
          · exact Den.free hn.1 dn
        · rw [if_neg hcl] at h
          exact h.elim
      | exc c as' =>
        rw [q] at h
        unfold finM at h
        simp only at h
        by_cases hcl : clean noLst jo avs .non as' = true
        · rw [if_pos hcl] at h
          intro C H' hC s st ok'
          unfold clean at hcl
          rw [Bool.or_eq_true, Bool.and_eq_true] at hcl
          have B := (call_behind (fun _ => False) (fun _ z => z.elim) ok r hm s st ok'.noP (hcl.imp id (·.2))).noP
          exact h C H' hC B.shr (st.wider fun a z => (call_fo r hm z).1) B.ok
        · rw [if_neg hcl] at h
          exact h.elim
    · rw [if_neg hc] at h
      exact h.elim
theorem call_spF {G : Addr → Prop} {η : Sto} {H0 : Hp} {avs : List AV} {vs : List V} (hn : avs.length = n) (ok : Ok G X.K η σ H) (h0 : ∀ p, H p = none → H0 p = none) (r : Paired (RV X G σ η H) avs vs) (h : Post X W G η σ H (RF X G σ H0) Q (callM noLstIn fm jo avs η)) : spF X.K X.mg n fm vs H Q (WE W σ) := by
  unfold callM at h
  cases hm : mkA η jo avs with
  | none => rw [hm] at h; exact h.elim
  | some as =>
    rw [hm] at h
    simp only at h
    by_cases hc : chk jo avs = true
    · rw [if_pos hc] at h
      refine ⟨Guard G η σ avs vs, as, by rw [← r.length]; exact hn, call_ok ok r hm hc, ?_⟩
      cases q : fm as with
      | bad => rw [q] at h; exact h.elim
      | ok d as' =>
        rw [q] at h
        unfold finM at h
        simp only at h
        by_cases hcl : clean noLstIn jo avs d as' = true
        · rw [if_pos hcl] at h
          intro v H' s st ok' ⟨p, ev, hp, c, okp⟩
          unfold clean at hcl
          rw [Bool.or_eq_true, Bool.and_eq_true] at hcl
          have B := (call_behind (fun _ => False) (fun _ z => z.elim) ok r hm s st ok'.noP (hcl.imp id (·.2))).noP
          have B2 := call_behind (fun a => a = p) (fun a z => by subst z; exact ⟨hp, c.there⟩) ok r hm s st okp (hcl.imp id (·.2))
          refine h v H' B.shr (st.wider fun a z => (call_fo r hm z).1) B.ok ⟨p, ev, h0 p hp, ?_, B2.ok⟩
          rcases hcl with hb | hn
          · exact c.less fun a z => z.imp (fun z => call_zo2 r hm s hb (z.imp id fun f => (B.fo a).mp f)) id
          · exact c.free hn.1
        · rw [if_neg hcl] at h
          exact h.elim
      | exc c as' =>
        rw [q] at h
        unfold finM at h
        simp only at h
        by_cases hcl : clean noLstIn jo avs .non as' = true
        · rw [if_pos hcl] at h
          intro C H' hC s st ok'
          unfold clean at hcl
          rw [Bool.or_eq_true, Bool.and_eq_true] at hcl
          have B := (call_behind (fun _ => False) (fun _ z => z.elim) ok r hm s st ok'.noP (hcl.imp id (·.2))).noP
          exact h C H' hC B.shr (st.wider fun a z => (call_fo r hm z).1) B.ok
        · rw [if_neg hcl] at h
          exact h.elim
    · rw [if_neg hc] at h
      exact h.elim
/-- the number of arguments is the number of parameters -/
def lenM (n : Nat) (as : List AV) : M (List AV) := M.of (if as.length = n then some as else none)
theorem Post.ofBind {α β γ : Type} {G : Addr → Prop} {η : Sto} {o : Option α} {c : α → M γ} {R : Sto → Hp → γ → β → Prop} {Q : β → Hp → Prop} (h : Post X W G η σ H R Q ((M.of o >>= c) η)) : ∃ a, o = some a ∧ Post X W G η σ H R Q (c a η) := by
  cases o with
  | none => exact False.elim h
  | some a => exact ⟨a, rfl, h⟩
theorem lenM_post {β γ : Type} {G : Addr → Prop} {η : Sto} {avs : List AV} {c : List AV → M γ} {R : Sto → Hp → γ → β → Prop} {Q : β → Hp → Prop} (h : Post X W G η σ H R Q ((lenM n avs >>= c) η)) : avs.length = n ∧ Post X W G η σ H R Q (c avs η) := by
  obtain ⟨a, e, q⟩ := Post.ofBind h
  split at e
  · rename_i hl
    cases e
    exact ⟨hl, q⟩
  · cases e
theorem pd_call (F : FnOk X.prog X.w X.K X.mg X.base (L2.CX X.prog X.w) k f fd ps (spD X.K X.mg n fm)) (jo : Option Nat) (tk : Takes X W) (hr : Room k X.A) (hg : Gl X x) (hm : X.mg x = some (.ref f)) (hk : PySem.W.keepIn X.K (.ref f) = true) (hb : Binds X.K fd ps [])
    (ha : PVAd X W (e :: es) m) (hdb : (x == ("__debug__" : Str)) = false := by decide) (he : starEach (e :: es) X.env = (false, eval e X.env) :: starEach es X.env := by rfl) (hpl : (backTo pos (starEach es X.env)).any (·.1) = false := by rfl) :
    PEd X W (.Call (.Name x p) (e :: es) [] pos) (do let as ← m; let as ← lenM n as; callM noLst fm jo as) :=
  PE.weak (pe_callS F hr hg hm hk hb (fun σ => passAt tk σ) ha hdb he hpl) fun σ H Q ⟨G, η, ok, h⟩ => ⟨G, η, ok, (Post.bind (R := RVs X G σ) h).imp fun vs H1 ⟨η1, avs, a1⟩ =>
    let q := lenM_post a1.post; call_sp q.1 a1.ok a1.r q.2⟩
theorem pf_call (F : FnOk X.prog X.w X.K X.mg X.base (L2.CX X.prog X.w) k f fd ps (spF X.K X.mg n fm)) (jo : Option Nat) (tk : Takes X W) (hr : Room k X.A) (hg : Gl X x) (hm : X.mg x = some (.ref f)) (hk : PySem.W.keepIn X.K (.ref f) = true) (hb : Binds X.K fd ps [])
    (ha : PVAd X W (e :: es) m) (hdb : (x == ("__debug__" : Str)) = false := by decide) (he : starEach (e :: es) X.env = (false, eval e X.env) :: starEach es X.env := by rfl) (hpl : (backTo pos (starEach es X.env)).any (·.1) = false := by rfl) :
    PFd X W (.Call (.Name x p) (e :: es) [] pos) (do let as ← m; let as ← lenM n as; callM noLstIn fm jo as) :=
  PE.weak (pe_callS F hr hg hm hk hb (fun σ => passAt tk σ) ha hdb he hpl) fun σ H Q ⟨G, η, ok, h⟩ => ⟨G, η, ok, (Post.bind (R := RVs X G σ) h).imp fun vs H1 ⟨η1, avs, a1⟩ =>
    let q := lenM_post a1.post; call_spF q.1 a1.ok (fun p hp => a1.st.none_of hp) a1.r q.2⟩
end
end Pd

namespace Pd
open PySem L2
/-! ### statements -/
inductive SRes where
  | nx (η : Sto) | bk (η : Sto) | ct (η : Sto) | rt (d : D) (η : Sto) | exc (c : Str) (η : Sto) | bad
abbrev MS := Sto → SRes
structure StepS (η : Sto) (σ : St) (H : Hp) (η' : Sto) (σ' : St) (H' : Hp) : Prop where
  st : Step (Fo η σ) H H'
  grow : ∀ a, Fo η' σ' a → Fo η σ a ∨ H a = none
  fix : ∀ (i : Nat) (d : D), η[i]? = some (Slot.own true d) → (∃ d', η'[i]? = some (Slot.own true d')) ∧ σ'[i]? = σ[i]?
theorem StepS.refl {η : Sto} {σ : St} {H : Hp} : StepS η σ H η σ H := ⟨.refl, fun _ f => .inl f, fun _ d e => ⟨⟨d, e⟩, rfl⟩⟩
theorem StepS.trans {η η1 η2 : Sto} {σ σ1 σ2 : St} {H H1 H2 : Hp} (a : StepS η σ H η1 σ1 H1) (b : StepS η1 σ1 H1 η2 σ2 H2) : StepS η σ H η2 σ2 H2 where
  st := a.st.trans b.st a.grow
  grow := fun x f => (b.grow x f).elim (a.grow x) fun e => .inr (a.st.none_of e)
  fix := fun i d e => by
    obtain ⟨⟨d1, e1⟩, q1⟩ := a.fix i d e
    obtain ⟨e2, q2⟩ := b.fix i d1 e1
    exact ⟨e2, q2.trans q1⟩
theorem StepS.of {η η1 : Sto} {σ : St} {H H1 : Hp} (s : Shr η η1) (t : Step (Fo η σ) H H1) : StepS η σ H η1 σ H1 := ⟨t, fun _ f => .inl (s.fo f), fun i d e => ⟨s.fix i d e, rfl⟩⟩
/-- a def's start -/
structure S0 where
  η : Sto
  σ : St
  H : Hp
  top : ∀ (i : Nat) (b : Bool) (d : D), η[i]? = some (Slot.own b d) → b = true
def S0.to (S : S0) (η : Sto) (σ : St) (H : Hp) : Prop := StepS S.η S.σ S.H η σ H
/-- what a return hands on: fr: a list that was made behind the def's start -/
def RT (X : Cx) (S : S0) (fr : Bool) (G : Addr → Prop) (η : Sto) (σ : St) (H : Hp) (d : D) (v : V) : Prop :=
  if fr = true then ∃ p, v = .ref p ∧ S.H p = none ∧ Cell (fun a => Zo G η σ a ∨ a = p) X.K H p d ∧ Ok (fun a => G a ∨ a = p) X.K η σ H else Den (Zo G η σ) X.K H d v
def PostS (X : Cx) (W : WX) (S : S0) (fr : Bool) (G : Addr → Prop) (Dn : Ends) (η : Sto) (σ : St) (H : Hp) : SRes → Prop
  | .nx η' => ∀ σ' H', StepS η σ H η' σ' H' → Ok G X.K η' σ' H' → Dn.nx σ' H'
  | .bk η' => ∀ σ' H', StepS η σ H η' σ' H' → Ok G X.K η' σ' H' → Dn.bk σ' H'
  | .ct η' => ∀ σ' H', StepS η σ H η' σ' H' → Ok G X.K η' σ' H' → Dn.ct σ' H'
  | .rt d η' => ∀ v σ' H', StepS η σ H η' σ' H' → Ok G X.K η' σ' H' → RT X S fr G η' σ' H' d v → Dn.rt v H'
  | .exc c η' => ∀ C σ' H', X.mg c = some (.ref C) → StepS η σ H η' σ' H' → Ok G X.K η' σ' H' → W (.ref C) none σ' H'
  | .bad => False
section
variable {X : Cx} {W : WX} {S : S0} {fr : Bool} {G : Addr → Prop} {Dn : Ends} {η η1 : Sto} {σ σ1 : St} {H H1 : Hp}
theorem PostS.later {r : SRes} (h : PostS X W S fr G Dn η σ H r) (s : StepS η σ H η1 σ1 H1) : PostS X W S fr G Dn η1 σ1 H1 r := by
  cases r with
  | nx η' => exact fun σ' H' t o => h σ' H' (s.trans t) o
  | bk η' => exact fun σ' H' t o => h σ' H' (s.trans t) o
  | ct η' => exact fun σ' H' t o => h σ' H' (s.trans t) o
  | rt d η' => exact fun v σ' H' t o r => h v σ' H' (s.trans t) o r
  | exc c η' => exact fun C σ' H' m t o => h C σ' H' m (s.trans t) o
  | bad => exact h
/-- other ends -/
theorem PostS.ends {Dn' : Ends} {r : SRes} (h : PostS X W S fr G Dn η σ H r) (h1 : ∀ σ H, Dn.nx σ H → Dn'.nx σ H) (h2 : ∀ σ H, Dn.bk σ H → Dn'.bk σ H) (h3 : ∀ σ H, Dn.ct σ H → Dn'.ct σ H) (h4 : ∀ v H, Dn.rt v H → Dn'.rt v H) : PostS X W S fr G Dn' η σ H r := by
  cases r with
  | nx η' => exact fun σ' H' t o => h1 _ _ (h σ' H' t o)
  | bk η' => exact fun σ' H' t o => h2 _ _ (h σ' H' t o)
  | ct η' => exact fun σ' H' t o => h3 _ _ (h σ' H' t o)
  | rt d η' => exact fun v σ' H' t o r => h4 _ _ (h v σ' H' t o r)
  | exc c η' => exact h
  | bad => exact h
end
def tS (X : Cx) (W : WX) (S : S0) (fr : Bool) (mb : MS) : TS := fun Dn σ H => ∃ G η, S.to η σ H ∧ Ok G X.K η σ H ∧ PostS X W S fr G Dn η σ H (mb η)
def PSd (X : Cx) (W : WX) (S : S0) (fr : Bool) (st : Stmt) (mb : MS) : Prop := PS X st (tS X W S fr mb)
def PSsd (X : Cx) (W : WX) (S : S0) (fr : Bool) (st : List Stmt) (mb : MS) : Prop := PSs X st (tS X W S fr mb)
def seqS (a b : MS) : MS := fun η => match a η with
  | .nx η' => b η'
  | r => r
/-- from an expression to what follows -/
def thenS {α : Type} (m : M α) (k : α → MS) : MS := fun η => match m η with
  | .ok a η' => k a η'
  | .exc c η' => .exc c η'
  | .bad => .bad
section
variable {X : Cx} {W : WX} {S : S0} {fr : Bool} {G : Addr → Prop} {Dn : Ends} {η η1 : Sto} {σ σ1 : St} {H H1 : Hp}
structure AtS {α β : Type} (X : Cx) (W : WX) (S : S0) (fr : Bool) (G : Addr → Prop) (Dn : Ends) (η : Sto) (σ : St) (H : Hp) (R : Sto → Hp → α → β → Prop) (k : α → MS) (b : β) (H1 : Hp) (η1 : Sto) (a : α) : Prop where
  shr : Shr η η1
  st : Step (Fo η σ) H H1
  ok : Ok G X.K η1 σ H1
  r : R η1 H1 a b
  post : PostS X W S fr G Dn η1 σ H1 (k a η1)
theorem PostS.bind {α β : Type} {m : M α} {k : α → MS} {R : Sto → Hp → α → β → Prop} (h : PostS X W S fr G Dn η σ H (thenS m k η)) : Post X W G η σ H R (fun b H1 => ∃ η1 a, AtS X W S fr G Dn η σ H R k b H1 η1 a) (m η) := by
  unfold thenS at h
  cases q : m η with
  | ok a η' =>
    rw [q] at h
    exact fun b H' s1 s2 o r => ⟨η', a, s1, s2, o, r, h.later (.of s1 s2)⟩
  | exc c η' =>
    rw [q] at h
    exact fun C H' m s1 s2 o => h C σ H' m (.of s1 s2) o
  | bad =>
    rw [q] at h
    exact h
theorem AtS.to {α β : Type} {R : Sto → Hp → α → β → Prop} {k : α → MS} {b : β} {a : α} (x : AtS X W S fr G Dn η σ H R k b H1 η1 a) (t : S.to η σ H) : S.to η1 σ H1 := StepS.trans t (.of x.shr x.st)
end
section
variable {X : Cx} {W : WX} {S : S0} {fr : Bool} {st : Stmt} {rest body : List Stmt} {e tg : Expr} {pos : Pos} {mb mc : MS} {m : M D}
theorem psd_nil : PSsd X W S fr [] (fun η => .nx η) := PSs.weak pss_nil fun Dn σ H ⟨G, η, t, ok, h⟩ => h σ H .refl ok
theorem psd_cons (h1 : PSd X W S fr st mb) (h2 : PSsd X W S fr rest mc) : PSsd X W S fr (st :: rest) (seqS mb mc) := PSs.weak (pss_cons h1 h2) fun Dn σ H ⟨G, η, t, ok, h⟩ => by
  refine ⟨G, η, t, ok, ?_⟩
  unfold seqS at h
  cases q : mb η with
  | nx η' =>
    rw [q] at h
    exact fun σ' H' s o => ⟨G, η', StepS.trans t s, o, h.later s⟩
  | bk η' => rw [q] at h; exact h
  | ct η' => rw [q] at h; exact h
  | rt d η' => rw [q] at h; exact h
  | exc c η' => rw [q] at h; exact h
  | bad => rw [q] at h; exact h
theorem psd_one (h1 : PSd X W S fr st mb) : PSsd X W S fr [st] mb := pss_one h1
theorem psd_pass : PSd X W S fr (.Pass pos) (fun η => .nx η) := PS.weak ps_pass fun Dn σ H ⟨G, η, t, ok, h⟩ => h σ H .refl ok
theorem psd_break : PSd X W S fr (.Break pos) (fun η => .bk η) := PS.weak ps_break fun Dn σ H ⟨G, η, t, ok, h⟩ => h σ H .refl ok
theorem psd_continue : PSd X W S fr (.Continue pos) (fun η => .ct η) := PS.weak ps_continue fun Dn σ H ⟨G, η, t, ok, h⟩ => h σ H .refl ok
theorem psd_if {c : Expr} {a b : List Stmt} {mt : M Bool} (hc : PTd X W c mt) (ha : PSsd X W S fr a mb) (hb : PSsd X W S fr b mc) : PSd X W S fr (.If c a b pos) (thenS mt fun k => if k = true then mb else mc) :=
  PS.weak (ps_if hc ha hb) fun Dn σ H ⟨G, η, t, ok, h⟩ => ⟨G, η, ok, (PostS.bind (R := RB) h).imp fun k H1 ⟨η1, k', a1⟩ => by
    have e : k' = k := a1.r
    subst e
    have q := a1.post
    cases k' with
    | true => exact iteT ⟨G, η1, a1.to t, a1.ok, q⟩
    | false => exact iteF ⟨G, η1, a1.to t, a1.ok, q⟩⟩
theorem psd_expr (h : PEd X W e m) (hs : swapsWith e none pos.line X.env = pure false := by rfl) : PSd X W S fr (.Expr e pos) (thenS m fun _ η => .nx η) :=
  PS.weak (ps_expr h hs) fun Dn σ H ⟨G, η, t, ok, h⟩ => ⟨G, η, ok, (PostS.bind (R := RD X G σ) h).imp fun x H1 ⟨η1, d, a1⟩ => a1.post σ H1 .refl a1.ok⟩
theorem psd_ret (h : PEd X W e m) : PSd X W S false (.Return (some e) pos) (thenS m fun d η => .rt d η) :=
  PS.weak (ps_ret h) fun Dn σ H ⟨G, η, t, ok, h⟩ => ⟨G, η, ok, (PostS.bind (R := RD X G σ) h).imp fun x H1 ⟨η1, d, a1⟩ => a1.post x σ H1 .refl a1.ok (by unfold RT; rw [if_neg (by decide)]; exact a1.r)⟩
theorem psd_retN : PSd X W S false (.Return none pos) (fun η => .rt .non η) :=
  PS.weak ps_retN fun Dn σ H ⟨G, η, t, ok, h⟩ => h .non σ H .refl ok (by unfold RT; rw [if_neg (by decide)]; exact rfl)
/-- return of what was made in the statement itself -/
theorem psf_ret (h : PFd X W e m) : PSd X W S true (.Return (some e) pos) (thenS m fun d η => .rt d η) :=
  PS.weak (ps_ret h) fun Dn σ H ⟨G, η, t, ok, h⟩ => ⟨G, η, ok, (PostS.bind (R := RF X G σ H) h).imp fun x H1 ⟨η1, d, a1⟩ => a1.post x σ H1 .refl a1.ok (by
    unfold RT
    rw [if_pos rfl]
    obtain ⟨p, ev, hp, c, o⟩ := a1.r
    exact ⟨p, ev, t.st.none_of hp, c, o⟩)⟩
/-! ### targets -/
def canSet (η : Sto) (i : Nat) : Bool := match η[i]? with
  | some (.own true _) => false
  | some _ => true
  | none => false
def setS (i : Nat) (d : D) : MS := fun η => if canSet η i = true then .nx (η.set i (.val d)) else .bad
theorem canSet_lt {η : Sto} {i : Nat} (h : canSet η i = true) : i < η.length := by
  unfold canSet at h
  cases q : η[i]? with
  | none => rw [q] at h; cases h
  | some s => exact (List.getElem?_eq_some_iff.mp q).1
theorem canSet_no {η : Sto} {i : Nat} (h : canSet η i = true) (d : D) : η[i]? ≠ some (.own true d) := fun e => by
  unfold canSet at h
  rw [e] at h
  cases h
theorem set_ok {G : Addr → Prop} {η : Sto} {σ : St} {H : Hp} {i : Nat} {d : D} {v : V} (hc : canSet η i = true) (ok : Ok G X.K η σ H) (dn : Den (Zo G η σ) X.K H d v) :
    Ok G X.K (η.set i (.val d)) (σ.set i (some v)) H ∧ StepS η σ H (η.set i (.val d)) (σ.set i (some v)) H ∧ ∀ a, Fo (η.set i (.val d)) (σ.set i (some v)) a → Fo η σ a := by
  have hi := canSet_lt hc
  have hi' : i < σ.length := by rw [← ok.len]; exact hi
  have fo : ∀ a, Fo (η.set i (.val d)) (σ.set i (some v)) a → Fo η σ a := fun a ⟨j, b, d', e, q⟩ => by
    by_cases hj : j = i
    · subst hj
      rw [List.getElem?_set_self hi] at e
      cases e
    · rw [List.getElem?_set_ne (Ne.symm hj)] at e q
      exact ⟨j, b, d', e, q⟩
  have zo : ∀ a, Zo G (η.set i (.val d)) (σ.set i (some v)) a → Zo G η σ a := fun a z => z.imp id (fo a)
  refine ⟨⟨by rw [List.length_set, List.length_set]; exact ok.len, fun j d' e => ?_, fun j b d' e => ?_, fun j k b b' d' d2 p e e' q q' => ?_, ok.dom, fun a g f => ok.dis a g (fo a f)⟩,
    ⟨.refl, fun a f => .inl (fo a f), fun j d' e => ?_⟩, fo⟩
  · by_cases hj : j = i
    · subst hj
      rw [List.getElem?_set_self hi] at e
      cases e
      exact ⟨v, List.getElem?_set_self hi', dn.less zo⟩
    · rw [List.getElem?_set_ne (Ne.symm hj)] at e
      obtain ⟨w, e', q⟩ := ok.val j d' e
      exact ⟨w, by rw [List.getElem?_set_ne (Ne.symm hj)]; exact e', q.less zo⟩
  · by_cases hj : j = i
    · subst hj
      rw [List.getElem?_set_self hi] at e
      cases e
    · rw [List.getElem?_set_ne (Ne.symm hj)] at e
      obtain ⟨p, e', q⟩ := ok.own j b d' e
      exact ⟨p, by rw [List.getElem?_set_ne (Ne.symm hj)]; exact e', q.less zo⟩
  · have nj : j ≠ i := fun z => by
      subst z
      rw [List.getElem?_set_self hi] at e
      cases e
    have nk : k ≠ i := fun z => by
      subst z
      rw [List.getElem?_set_self hi] at e'
      cases e'
    rw [List.getElem?_set_ne (Ne.symm nj)] at e q
    rw [List.getElem?_set_ne (Ne.symm nk)] at e' q'
    exact ok.inj j k _ _ _ _ p e e' q q'
  · have hj : j ≠ i := fun z => by
      subst z
      exact canSet_no hc d' e
    rw [List.getElem?_set_ne (Ne.symm hj), List.getElem?_set_ne (Ne.symm hj)]
    exact ⟨⟨d', e⟩, rfl⟩
/-- behind a target: ix, the slots that it stores -/
def PostG (X : Cx) (G : Addr → Prop) (ix : List Nat) (Q : St → Hp → Prop) (η : Sto) (σ : St) (H : Hp) : SRes → Prop
  | .nx η' => ∀ σ' H', StepS η σ H η' σ' H' → Ok G X.K η' σ' H' → (σ'.length = σ.length ∧ ∀ j, j ∉ ix → σ'[j]? = σ[j]? ∧ η'[j]? = η[j]?) → Q σ' H'
  | _ => False
def tGt (X : Cx) (ix : List Nat) (g : D → MS) : TG := fun v σ H Q => ∃ G η d, Ok G X.K η σ H ∧ Den (Zo G η σ) X.K H d v ∧ PostG X G ix Q η σ H (g d η)
def tGs (X : Cx) (ix : List Nat) (g : List D → MS) : TGs := fun v σ H Q => ∃ G η d, Ok G X.K η σ H ∧ Dens (Zo G η σ) X.K H d v ∧ PostG X G ix Q η σ H (g d η)
def PGd (X : Cx) (tg : Expr) (ix : List Nat) (g : D → MS) : Prop := PG X tg (tGt X ix g)
def PGsd (X : Cx) (tg : List Expr) (ix : List Nat) (g : List D → MS) : Prop := PGs X tg (tGs X ix g)
theorem PG.weak {X : Cx} {e : Expr} {t u : TG} (h : PG X e t) (i : ∀ v σ H Q, u v σ H Q → t v σ H Q) : PG X e u := ⟨fun pins s σ H v w Q I r q => h.run pins s σ H v w Q I r (i v σ H Q q)⟩
theorem PGs.weak {X : Cx} {e : List Expr} {t u : TGs} (h : PGs X e t) (i : ∀ v σ H Q, u v σ H Q → t v σ H Q) : PGs X e u := ⟨fun pins s σ H v w Q I r q => h.run pins s σ H v w Q I r (i v σ H Q q)⟩
theorem pgd_name (i : Nat) {x : Str} (hN : X.N.Nodup) (hi : X.N[i]? = some x := by rfl) (hx : Loc X.env.scope x := by first | exact Or.inl rfl | exact Or.inr rfl) (hf : X.fn x = true ∨ X.env.scope.names.lookup x = some .local := by first | exact .inl rfl | exact .inr rfl | assumption) : PGd X (.Name x pos) [i] (setS i) :=
  PG.weak (pg_name hN hi hx hf) fun v σ H Q ⟨G, η, d, ok, dn, h⟩ => by
    unfold setS at h
    by_cases hc : canSet η i = true
    · rw [if_pos hc] at h
      obtain ⟨o, s, _⟩ := set_ok hc ok dn
      exact h _ _ s o ⟨List.length_set, fun j hj => ⟨List.getElem?_set_ne (fun e => hj (by simp [e])), List.getElem?_set_ne (fun e => hj (by simp [e]))⟩⟩
    · rw [if_neg hc] at h
      exact h.elim
theorem pgsd_nil : PGsd X [] [] (fun ds η => if ds.isEmpty = true then .nx η else .bad) := PGs.weak pgs_nil fun v σ H Q ⟨G, η, d, ok, dn, h⟩ => by
  cases d with
  | nil =>
    cases dn
    exact ⟨rfl, h σ H .refl ok ⟨rfl, fun _ _ => ⟨rfl, rfl⟩⟩⟩
  | cons d ds => exact False.elim h
theorem pgsd_cons {es : List Expr} {ix ixs : List Nat} {g : D → MS} {gs : List D → MS} (h1 : PGd X e ix g) (h2 : PGsd X es ixs gs) (hs : (assignEach (e :: es) X.env).map (·.2) = assign e X.env :: (assignEach es X.env).map (·.2) := by rfl) :
    PGsd X (e :: es) (ix ++ ixs) (fun ds => match ds with | d :: ds => seqS (g d) (gs ds) | [] => fun _ => .bad) := PGs.weak (pgs_cons h1 h2 hs) fun v σ H Q ⟨G, η, d, ok, dn, h⟩ => by
  cases d with
  | nil => exact False.elim h
  | cons d ds =>
    obtain ⟨w, r, rfl, q1, q2⟩ := dn
    refine ⟨w, r, rfl, G, η, d, ok, q1, ?_⟩
    have h' : PostG X G (ix ++ ixs) Q η σ H (seqS (g d) (gs ds) η) := h
    unfold seqS at h'
    cases q : g d η with
    | nx η' =>
      rw [q] at h'
      intro σ' H' s o u
      refine ⟨G, η', ds, o, Dens.move s.st (fun _ f => .inr f) (fun a z => z.elim (fun g => .inl (.inl g)) fun f => (s.grow a f).imp .inr id) ds q2, ?_⟩
      simp only at h'
      cases q2' : gs ds η' with
      | nx η2 =>
        rw [q2'] at h'
        intro σ2 H2 s2 o2 u2
        exact h' σ2 H2 (s.trans s2) o2 ⟨u2.1.trans u.1, fun j hj => ⟨(u2.2 j fun z => hj (List.mem_append_right _ z)).1.trans (u.2 j fun z => hj (List.mem_append_left _ z)).1, (u2.2 j fun z => hj (List.mem_append_right _ z)).2.trans (u.2 j fun z => hj (List.mem_append_left _ z)).2⟩⟩
      | _ =>
        rw [q2'] at h'
        exact False.elim h'
    | _ => rw [q] at h'; exact False.elim h'
theorem pgd_tup {es : List Expr} {ix : List Nat} {k n : Nat} {gs : List D → MS} (hc : X.calm = true) (h : PGsd X es ix gs) (hn : (assignEach es X.env).length = n := by rfl) (hst : (assignEach es X.env).findIdx? (·.1) = none := by rfl) :
    PGd X (.Tuple es k pos) ix (fun d => match d with | .tup ds => if ds.length = n then gs ds else fun _ => .bad | _ => fun _ => .bad) := PG.weak (pg_tup hc h hn hst) fun v σ H Q ⟨G, η, d, ok, dn, h⟩ => by
  cases d with
  | tup ds =>
    by_cases hl : ds.length = n
    · have h' : PostG X G ix Q η σ H ((if ds.length = n then gs ds else fun _ => .bad) η) := h
      rw [if_pos hl] at h'
      obtain ⟨a, xs, rfl, hs, r⟩ := dn
      exact ⟨a, xs, rfl, hs, by rw [← r.length]; exact hl, G, η, ds, ok, r, h'⟩
    · have h' : PostG X G ix Q η σ H ((if ds.length = n then gs ds else fun _ => .bad) η) := h
      rw [if_neg hl] at h'
      exact False.elim h'
  | _ => exact False.elim h
/-- a target's function only stores -/
def onlyNx (r : SRes) : SRes := match r with
  | .nx η => .nx η
  | _ => .bad
theorem onlyNx_post {G : Addr → Prop} {ix : List Nat} {Dn : Ends} {η : Sto} {σ : St} {H : Hp} {r : SRes} (h : PostS X W S fr G Dn η σ H (onlyNx r)) : PostG X G ix Dn.nx η σ H r := by
  cases r with
  | nx η' => exact fun σ' H' s o _ => h σ' H' s o
  | _ => exact False.elim h
theorem psd_asg {ix : List Nat} {g : D → MS} (he : PEd X W e m) (hg : PGd X tg ix g) (hs : swapsWithSole [tg] e pos.line X.env = pure false := by rfl) (hw : swappedStores [tg] e X.env = pure none := by rfl)
    (h1 : (assignEach [tg] X.env).map (·.2) = [assign tg X.env] := by rfl) : PSd X W S fr (.Assign [tg] e pos) (thenS m fun d η => onlyNx (g d η)) :=
  PS.weak (ps_asg he hg hs hw h1) fun Dn σ H ⟨G, η, t, ok, h⟩ => ⟨G, η, ok, (PostS.bind (R := RD X G σ) h).imp fun x H1 ⟨η1, d, a1⟩ => ⟨G, η1, d, a1.ok, a1.r, onlyNx_post a1.post⟩⟩
theorem psd_set (i : Nat) {x : Str} {pos' : Pos} (hN : X.N.Nodup) (he : PEd X W e m) (hi : X.N[i]? = some x := by rfl) (hx : Loc X.env.scope x := by first | exact Or.inl rfl | exact Or.inr rfl) (hs : swapsWith e (some (.Name x pos')) pos.line X.env = pure false := by rfl)
    (hf : X.fn x = true ∨ X.env.scope.names.lookup x = some .local := by first | exact .inl rfl | exact .inr rfl | assumption) : PSd X W S fr (.Assign [.Name x pos'] e pos) (thenS m fun d => setS i d) :=
  PS.weak (ps_set hN hi hx he hs hf) fun Dn σ H ⟨G, η, t, ok, h⟩ => ⟨G, η, ok, (PostS.bind (R := RD X G σ) h).imp fun x H1 ⟨η1, d, a1⟩ => by
    have q := a1.post
    unfold setS at q
    by_cases hc : canSet η1 i = true
    · rw [if_pos hc] at q
      obtain ⟨o, s, _⟩ := set_ok hc a1.ok a1.r
      exact q _ _ s o
    · rw [if_neg hc] at q
      exact q.elim⟩
/-- a, b = x, y -/
theorem psd_par (i j : Nat) {x y : Str} {a b : Expr} {ms : M (List D)} {px py pt : Pos} {kt k2 : Nat} {pt2 : Pos} (hc : X.calm = true) (hN : X.N.Nodup) (ha : PAd X W [a, b] ms) (hij : i ≠ j := by decide) (hi : X.N[i]? = some x := by rfl) (hj : X.N[j]? = some y := by rfl)
    (hx : X.env.scope.names.lookup x = some .local := by rfl) (hy : X.env.scope.names.lookup y = some .local := by rfl)
    (hw : swappedStores [.Tuple [.Name x px, .Name y py] kt pt] (.Tuple [a, b] k2 pt2) X.env = pure (some [x, y]) := by rfl)
    (hs : swapsWithSole [.Tuple [.Name x px, .Name y py] kt pt] (.Tuple [a, b] k2 pt2) pos.line X.env = pure false := by rfl) :
    PSd X W S fr (.Assign [.Tuple [.Name x px, .Name y py] kt pt] (.Tuple [a, b] k2 pt2) pos) (thenS ms fun ds => match ds with | [d, e] => seqS (setS i d) (setS j e) | _ => fun _ => .bad) :=
  PS.weak (ps_par hc hN hi hj hij hx hy ha hw hs) fun Dn σ H ⟨G, η, t, ok, h⟩ => ⟨G, η, ok, (PostS.bind (R := RDs X G σ) h).imp fun vs H1 ⟨η1, ds, a1⟩ => by
    match ds, a1 with
    | [d, e], a1 =>
      obtain ⟨v, r, rfl, q1, w, r2, rfl, q2, e3⟩ := a1.r
      have e3' : r2 = [] := e3
      subst e3'
      refine ⟨v, w, rfl, ?_⟩
      have q : PostS X W S fr G Dn η1 σ H1 (seqS (setS i d) (setS j e) η1) := a1.post
      unfold seqS setS at q
      by_cases hc : canSet η1 i = true
      · rw [if_pos hc] at q
        simp only at q
        obtain ⟨o1, s1, f1⟩ := set_ok hc a1.ok q1
        by_cases hc2 : canSet (η1.set i (.val d)) j = true
        · rw [if_pos hc2] at q
          obtain ⟨o2, s2, _⟩ := set_ok hc2 o1 (q2.less fun a z => z.imp id (f1 a))
          exact q _ _ (s1.trans s2) o2
        · rw [if_neg hc2] at q
          exact q.elim
      · rw [if_neg hc] at q
        exact q.elim
    | [], a1 => exact False.elim a1.post
    | [_], a1 => exact False.elim a1.post
    | _ :: _ :: _ :: _, a1 => exact False.elim a1.post⟩
end
end Pd

namespace Pd
open PySem L2
section
variable {X : Cx} {W : WX} {S : S0} {fr : Bool} {st : Stmt} {rest body : List Stmt} {e tg iter : Expr} {pos : Pos} {mb mc : MS} {m : M D} {G : Addr → Prop} {Dn : Ends} {η η1 : Sto} {σ σ1 : St} {H H1 : Hp}
/-! ### a slot that owns -/
def isCell : D → Bool
  | .lst _ => true
  | .dct _ _ => true
  | _ => false
def ownS (i : Nat) (d : D) : MS := fun η => if canSet η i = true then .nx (η.set i (.own false d)) else .bad
theorem own_ok {i : Nat} {d : D} {v : V} {η0 : Sto} {H0 : Hp} (ok0 : Ok G X.K η0 σ H0) (shr : Shr η0 η) (st : Step (Fo η0 σ) H0 H) (hc : canSet η i = true) (ok : Ok G X.K η σ H) (r : RF X G σ H0 η H d v) :
    Ok G X.K (η.set i (.own false d)) (σ.set i (some v)) H ∧ StepS η0 σ H0 (η.set i (.own false d)) (σ.set i (some v)) H := by
  obtain ⟨p, rfl, hp, c, okp⟩ := r
  have hi := canSet_lt hc
  have hi' : i < σ.length := by rw [← ok.len]; exact hi
  have fo : ∀ a, Fo (η.set i (.own false d)) (σ.set i (some (V.ref p))) a → Fo η σ a ∨ a = p := fun a ⟨j, b, d', e, q⟩ => by
    by_cases hj : j = i
    · subst hj
      rw [List.getElem?_set_self hi'] at q
      cases q
      exact .inr rfl
    · rw [List.getElem?_set_ne (Ne.symm hj)] at e q
      exact .inl ⟨j, b, d', e, q⟩
  have zo : ∀ a, Zo G (η.set i (.own false d)) (σ.set i (some (V.ref p))) a → Zo (fun a => G a ∨ a = p) η σ a := fun a z => by
    rcases z with z | z
    · exact .inl (.inl z)
    · rcases fo a z with z | z
      · exact .inr z
      · exact .inl (.inr z)
  have zo2 : ∀ a, Zo G (η.set i (.own false d)) (σ.set i (some (V.ref p))) a → (Zo G η σ a ∨ a = p) := fun a z => by
    rcases zo a z with (z | z) | z
    · exact .inl (.inl z)
    · exact .inr z
    · exact .inl (.inr z)
  refine ⟨⟨by rw [List.length_set, List.length_set]; exact ok.len, fun j d' e => ?_, fun j b d' e => ?_, fun j k b b' d' d2 q e e' q1 q2 => ?_, ok.dom, fun a g f => ?_⟩, ⟨st, fun a f => ?_, fun j d' e => ?_⟩⟩
  · have hj : j ≠ i := fun z => by
      subst z
      rw [List.getElem?_set_self hi] at e
      cases e
    rw [List.getElem?_set_ne (Ne.symm hj)] at e
    obtain ⟨w, e', q⟩ := okp.val j d' e
    exact ⟨w, by rw [List.getElem?_set_ne (Ne.symm hj)]; exact e', q.less zo⟩
  · by_cases hj : j = i
    · subst hj
      rw [List.getElem?_set_self hi] at e
      cases e
      exact ⟨p, List.getElem?_set_self hi', c.less zo2⟩
    · rw [List.getElem?_set_ne (Ne.symm hj)] at e
      obtain ⟨q, e', k⟩ := okp.own j b d' e
      exact ⟨q, by rw [List.getElem?_set_ne (Ne.symm hj)]; exact e', k.less zo⟩
  · by_cases hj : j = i
    · by_cases hk : k = i
      · rw [hj, hk]
      · subst hj
        rw [List.getElem?_set_self hi'] at q1
        cases q1
        rw [List.getElem?_set_ne (Ne.symm hk)] at e' q2
        exact absurd ⟨k, b', d2, e', q2⟩ (okp.dis _ (.inr rfl))
    · by_cases hk : k = i
      · subst hk
        rw [List.getElem?_set_self hi'] at q2
        cases q2
        rw [List.getElem?_set_ne (Ne.symm hj)] at e q1
        exact absurd ⟨j, b, d', e, q1⟩ (okp.dis _ (.inr rfl))
      · rw [List.getElem?_set_ne (Ne.symm hj)] at e q1
        rw [List.getElem?_set_ne (Ne.symm hk)] at e' q2
        exact ok.inj j k _ _ _ _ q e e' q1 q2
  · rcases fo a f with z | z
    · exact ok.dis a g z
    · subst z
      obtain ⟨o, e⟩ := ok0.dom a g
      rw [hp] at e
      cases e
  · rcases fo a f with z | z
    · exact .inl (shr.fo z)
    · subst z
      exact .inr hp
  · obtain ⟨d2, e2⟩ := shr.fix j d' e
    have hj : j ≠ i := fun z => by
      subst z
      exact canSet_no hc d2 e2
    rw [List.getElem?_set_ne (Ne.symm hj), List.getElem?_set_ne (Ne.symm hj)]
    exact ⟨⟨d2, e2⟩, rfl⟩
/-- what an own assignment asks of its value -/
theorem own_post {i : Nat} (ok : Ok G X.K η σ H) (h : PostS X W S fr G Dn η σ H (thenS m (fun d => ownS i d) η)) : Post X W G η σ H (RF X G σ H) (fun x H1 => Dn.nx (σ.set i (some x)) H1) (m η) := by
  unfold thenS at h
  cases q : m η with
  | ok d η1 =>
    rw [q] at h
    intro v H1 s1 s2 o r
    have h' : PostS X W S fr G Dn η σ H (ownS i d η1) := h
    unfold ownS at h'
    by_cases hc : canSet η1 i = true
    · rw [if_pos hc] at h'
      obtain ⟨o2, t2⟩ := own_ok ok s1 s2 hc o r
      exact h' _ _ t2 o2
    · rw [if_neg hc] at h'
      exact h'.elim
  | exc c η1 =>
    rw [q] at h
    exact fun C H' m s1 s2 o => h C σ H' m (.of s1 s2) o
  | bad =>
    rw [q] at h
    exact h
theorem psd_own (i : Nat) {x : Str} {pos' : Pos} (hN : X.N.Nodup) (he : PFd X W e m) (hi : X.N[i]? = some x := by rfl) (hx : Loc X.env.scope x := by first | exact Or.inl rfl | exact Or.inr rfl) (hs : swapsWith e (some (.Name x pos')) pos.line X.env = pure false := by rfl)
    (hf : X.fn x = true ∨ X.env.scope.names.lookup x = some .local := by first | exact .inl rfl | exact .inr rfl | assumption) : PSd X W S fr (.Assign [.Name x pos'] e pos) (thenS m fun d => ownS i d) :=
  PS.weak (ps_set hN hi hx he hs hf) fun Dn σ H ⟨G, η, t, ok, h⟩ => ⟨G, η, ok, own_post ok h⟩
/-- an owned list is let go: from here on it stays as it is -/
def relS (i : Nat) (η : Sto) : Sto := match η[i]? with
  | some (.own false d) => η.set i (.val d)
  | _ => η
theorem rel_ok (i : Nat) (ok : Ok G X.K η σ H) : Ok G X.K (relS i η) σ H ∧ StepS η σ H (relS i η) σ H := by
  unfold relS
  split
  · rename_i d e
    have hi : i < η.length := (List.getElem?_eq_some_iff.mp e).1
    have fo : ∀ a, Fo (η.set i (.val d)) σ a → Fo η σ a := fun a ⟨j, b, d', e', q⟩ => by
      by_cases hj : j = i
      · subst hj
        rw [List.getElem?_set_self hi] at e'
        cases e'
      · rw [List.getElem?_set_ne (Ne.symm hj)] at e'
        exact ⟨j, b, d', e', q⟩
    have zo : ∀ a, Zo G (η.set i (.val d)) σ a → Zo G η σ a := fun a z => z.imp id (fo a)
    obtain ⟨p, ep, c⟩ := ok.own i false d e
    have np : ¬ Zo G (η.set i (.val d)) σ p := fun z => by
      rcases z with z | ⟨j, b, d', e', q⟩
      · exact ok.dis p z ⟨i, false, d, e, ep⟩
      · by_cases hj : j = i
        · subst hj
          rw [List.getElem?_set_self hi] at e'
          cases e'
        · rw [List.getElem?_set_ne (Ne.symm hj)] at e'
          exact hj (ok.inj j i _ _ _ _ p e' e q ep)
    refine ⟨⟨by rw [List.length_set]; exact ok.len, fun j d' e' => ?_, fun j b d' e' => ?_, fun j k b b' d' d2 q e1 e2 q1 q2 => ?_, ok.dom, fun a g f => ok.dis a g (fo a f)⟩, ⟨.refl, fun a f => .inl (fo a f), fun j d' e' => ?_⟩⟩
    · by_cases hj : j = i
      · subst hj
        rw [List.getElem?_set_self hi] at e'
        cases e'
        refine ⟨_, ep, ?_⟩
        cases d with
        | lst ds =>
          obtain ⟨xs, e3, q⟩ := c
          exact ⟨p, xs, rfl, np, e3, q.less zo⟩
        | dct ks ds =>
          obtain ⟨kvs, e3, r, q⟩ := c
          exact ⟨p, kvs, rfl, np, e3, r, q.less zo⟩
        | _ => exact False.elim c
      · rw [List.getElem?_set_ne (Ne.symm hj)] at e'
        obtain ⟨v, e2, q⟩ := ok.val j d' e'
        exact ⟨v, e2, q.less zo⟩
    · have hj : j ≠ i := fun z => by
        subst z
        rw [List.getElem?_set_self hi] at e'
        cases e'
      rw [List.getElem?_set_ne (Ne.symm hj)] at e'
      obtain ⟨q, e2, c2⟩ := ok.own j b d' e'
      exact ⟨q, e2, c2.less zo⟩
    · have hj : j ≠ i := fun z => by
        subst z
        rw [List.getElem?_set_self hi] at e1
        cases e1
      have hk : k ≠ i := fun z => by
        subst z
        rw [List.getElem?_set_self hi] at e2
        cases e2
      rw [List.getElem?_set_ne (Ne.symm hj)] at e1
      rw [List.getElem?_set_ne (Ne.symm hk)] at e2
      exact ok.inj j k _ _ _ _ q e1 e2 q1 q2
    · have hj : j ≠ i := fun z => by
        subst z
        rw [e] at e'
        cases e'
      rw [List.getElem?_set_ne (Ne.symm hj)]
      exact ⟨⟨d', e'⟩, rfl⟩
  · exact ⟨ok, .refl⟩
theorem psd_rel (i : Nat) (h : PSd X W S fr st mb) : PSd X W S fr st (fun η => mb (relS i η)) := PS.weak h fun Dn σ H ⟨G, η, t, ok, h⟩ => by
  obtain ⟨o, s⟩ := rel_ok i ok
  exact ⟨G, relS i η, StepS.trans t s, o, h.later s⟩
/-- the return of an owned list from a def that promises a new one -/
theorem psf_retO (i : Nat) {x : Str} {pos' : Pos} (hN : X.N[i]? = some x := by rfl) (hv : Vis X.env.scope x := by first | exact Or.inl rfl | exact Or.inr (Or.inl rfl) | exact Or.inr (Or.inr rfl))
    (hd : (x == ("__debug__" : Str)) = false := by decide) (hcd : (x == ("__classdict__" : Str)) = false := by decide) :
    PSd X W S true (.Return (some (.Name x pos')) pos) (fun η => match η[i]? with | some (.own false d) => .rt d (η.set i .no) | _ => .bad) :=
  PS.weak (ps_ret (pe_var hN hv hd hcd)) fun Dn σ H ⟨G, η, t, ok, h⟩ => by
    simp only at h
    split at h
    · rename_i d e
      have hi : i < η.length := (List.getElem?_eq_some_iff.mp e).1
      obtain ⟨p, ep, c⟩ := ok.own i false d e
      refine ⟨_, ep, ?_⟩
      have ne : ∀ (j : Nat) (s : Slot), (η.set i Slot.no)[j]? = some s → s ≠ .no → j ≠ i ∧ η[j]? = some s := fun j s e' hs => by
        by_cases hj : j = i
        · subst hj
          rw [List.getElem?_set_self hi] at e'
          cases e'
          exact absurd rfl hs
        · rw [List.getElem?_set_ne (Ne.symm hj)] at e'
          exact ⟨hj, e'⟩
      have fo : ∀ a, Fo (η.set i .no) σ a → Fo η σ a ∧ a ≠ p := fun a ⟨j, b, d', e', q⟩ => by
        obtain ⟨hj, e2⟩ := ne j _ e' (by intro z; cases z)
        exact ⟨⟨j, b, d', e2, q⟩, fun z => hj (ok.inj j i _ _ _ _ p e2 e (by rw [← z]; exact q) ep)⟩
      have zo : ∀ a, Zo (fun a => G a ∨ a = p) (η.set i .no) σ a → Zo G η σ a := fun a z => by
        rcases z with (z | z) | z
        · exact .inl z
        · exact .inr ⟨i, false, d, e, by rw [z]; exact ep⟩
        · exact .inr (fo a z).1
      have zo1 : ∀ a, Zo G (η.set i .no) σ a → Zo G η σ a := fun a z => z.imp id fun f => (fo a f).1
      have len : (η.set i Slot.no).length = σ.length := by rw [List.length_set]; exact ok.len
      have nG : ¬ G p := fun g => ok.dis p g ⟨i, false, d, e, ep⟩
      have okp : Ok (fun a => G a ∨ a = p) X.K (η.set i .no) σ H := ⟨len, fun j d' e' => by
          obtain ⟨hj, e2⟩ := ne j _ e' (by intro z; cases z)
          obtain ⟨v, e3, q⟩ := ok.val j d' e2
          exact ⟨v, e3, q.less zo⟩, fun j b d' e' => by
          obtain ⟨hj, e2⟩ := ne j _ e' (by intro z; cases z)
          obtain ⟨v, e3, q⟩ := ok.own j b d' e2
          exact ⟨v, e3, q.less zo⟩, fun j k b b' d' d2 q e1 e2 q1 q2 => ok.inj j k _ _ _ _ q (ne j _ e1 (by intro z; cases z)).2 (ne k _ e2 (by intro z; cases z)).2 q1 q2, fun a g => by
          rcases g with g | g
          · exact ok.dom a g
          · subst g
            exact c.there, fun a g f => by
          rcases g with g | g
          · exact ok.dis a g (fo a f).1
          · exact (fo a f).2 g⟩
      have okn : Ok G X.K (η.set i .no) σ H := ⟨len, fun j d' e' => by
          obtain ⟨v, e3, q⟩ := okp.val j d' e'
          exact ⟨v, e3, q.less fun a z => z.imp .inl id⟩, fun j b d' e' => by
          obtain ⟨v, e3, q⟩ := okp.own j b d' e'
          exact ⟨v, e3, q.less fun a z => z.imp .inl id⟩, okp.inj, ok.dom, fun a g => okp.dis a (.inl g)⟩
      have stp : StepS η σ H (η.set i .no) σ H := ⟨.refl, fun a f => .inl (fo a f).1, fun j d' e' => by
        have hj : j ≠ i := fun z => by
          subst z
          rw [e] at e'
          cases e'
        rw [List.getElem?_set_ne (Ne.symm hj)]
        exact ⟨⟨d', e'⟩, rfl⟩⟩
      refine h (.ref p) σ H stp okn ?_
      unfold RT
      rw [if_pos rfl]
      refine ⟨p, rfl, ?_, c.less fun a z => ?_, okp⟩
      · rcases t.grow p ⟨i, false, d, e, ep⟩ with ⟨j, b, d', e', q⟩ | z
        · have hb := S.top j b d' e'
          subst hb
          obtain ⟨⟨d2, e2⟩, q2⟩ := t.fix j d' e'
          have hj := ok.inj j i _ _ _ _ p e2 e (by rw [q2]; exact q) ep
          subst hj
          rw [e] at e2
          cases e2
        · exact z
      · rcases z with z | z
        · exact zo1 a z
        · exact .inr ⟨i, false, d, e, by rw [z]; exact ep⟩
    · exact h.elim
/-- an owned list or dict is written -/
theorem write_ok {i : Nat} {b : Bool} {c c' : D} {p : Addr} {o : HO} (ok : Ok G X.K η σ H) (e : η[i]? = some (.own b c)) (ep : σ[i]? = some (some (V.ref p))) (ht : ∀ xs, H p ≠ some (.tup xs)) (hf : ∀ o' u, H p ≠ some (.frz o' u))
    (hc : Cell (Zo G η σ) X.K (upd H p o) p c') : Ok G X.K (η.set i (.own b c')) σ (upd H p o) ∧ Shr η (η.set i (.own b c')) ∧ Step (Fo η σ) H (upd H p o) := by
  have hi : i < η.length := (List.getElem?_eq_some_iff.mp e).1
  have fp : Fo η σ p := ⟨i, b, c, e, ep⟩
  have st : Step (Fo η σ) H (upd H p o) := ⟨fun a u h n => by rw [upd_ne (fun z => n (by rw [z]; exact fp))]; exact h, fun a xs h => by rw [upd_ne (fun z => ht xs (by rw [← z]; exact h))]; exact h, fun a u w h => by rw [upd_ne (fun z => hf u w (by rw [← z]; exact h))]; exact h,
    fun a u h => by
      by_cases z : a = p
      · subst z
        exact ⟨o, upd_same⟩
      · exact ⟨u, by rw [upd_ne z]; exact h⟩⟩
  have self : (η.set i (Slot.own b c'))[i]? = some (.own b c') := List.getElem?_set_self hi
  have same : ∀ j, j ≠ i → (η.set i (Slot.own b c'))[j]? = η[j]? := fun j n => List.getElem?_set_ne (Ne.symm n)
  have shr : Shr η (η.set i (.own b c')) := ⟨fun j b' d h => by
      by_cases n : j = i
      · subst n
        rw [self] at h
        cases h
        exact ⟨c, e⟩
      · rw [same j n] at h
        exact ⟨d, h⟩, fun j d h => by
      by_cases n : j = i
      · subst n
        rw [e] at h
        cases h
        exact ⟨c', self⟩
      · exact ⟨d, by rw [same j n]; exact h⟩, fun j d h => by
      by_cases n : j = i
      · subst n
        rw [self] at h
        cases h
      · rw [same j n] at h
        exact h⟩
  have zo : ∀ a, Zo G (η.set i (.own b c')) σ a → Zo G η σ a := fun a z => z.imp id fun f => shr.fo f
  refine ⟨⟨by rw [List.length_set]; exact ok.len, fun j d h => ?_, fun j b' d h => ?_, fun j k b1 b2 d1 d2 q h1 h2 q1 q2 => ?_, fun a g => ?_, fun a g f => ok.dis a g (shr.fo f)⟩, shr, st⟩
  · obtain ⟨v, e', q⟩ := ok.val j d (shr.val j d h)
    exact ⟨v, e', Den.move st (fun _ f => .inr f) (fun a z => .inl (zo a z)) d q⟩
  · by_cases n : j = i
    · subst n
      rw [self] at h
      cases h
      exact ⟨p, ep, hc.less zo⟩
    · rw [same j n] at h
      obtain ⟨q, e', k⟩ := ok.own j b' d h
      refine ⟨q, e', Cell.move st (fun _ f => .inr f) (fun a z => .inl (zo a z)) (fun u hu => ?_) k⟩
      rw [upd_ne (fun z => n (ok.inj j i _ _ _ _ p h e (by rw [← z]; exact e') ep))]
      exact hu
  · obtain ⟨d3, k1⟩ := shr.sub j b1 d1 h1
    obtain ⟨d4, k2⟩ := shr.sub k b2 d2 h2
    exact ok.inj j k _ _ _ _ q k1 k2 q1 q2
  · obtain ⟨u, hu⟩ := ok.dom a g
    exact st.dom a u hu
def putL (c k d : D) : Option D := match c, k with
  | .lst ds, .int i => (ixN ds.length i).map fun j => .lst (ds.set j d)
  | _, _ => none
/-- xs[k] = e, xs owned -/
def storeS (i : Nat) (d k : D) : MS := fun η => match η[i]? with
  | some (.own b c) => (match putL c k d with | some c' => .nx (η.set i (.own b c')) | none => .bad)
  | _ => .bad
theorem psd_store (i : Nat) {x : Str} {ix : Expr} {px p2 : Pos} {mk : M D} (he : PEd X W e m) (hx : PEd X W ix mk) (hN : X.N[i]? = some x := by rfl) (hv : Vis X.env.scope x := by first | exact Or.inl rfl | exact Or.inr (Or.inl rfl) | exact Or.inr (Or.inr rfl))
    (hd : (x == ("__debug__" : Str)) = false := by decide) (hcd : (x == ("__classdict__" : Str)) = false := by decide)
    (ha : ∀ v, assign (.Subscript (.Name x px) ix p2) X.env v = (do
      let ov ← holding [v] (eval (.Name x px) X.env)
      let iv ← holding [v, ov] (eval ix X.env)
      standAt p2
      holding [v, ov, iv] (setItem ov iv v)
      release [v, ov, iv] []) := by intro _; rfl)
    (hs : swapsWithSole [.Subscript (.Name x px) ix p2] e pos.line X.env = pure false := by rfl) (hw : swappedStores [.Subscript (.Name x px) ix p2] e X.env = pure none := by rfl)
    (h1 : (assignEach [.Subscript (.Name x px) ix p2] X.env).map (·.2) = [assign (.Subscript (.Name x px) ix p2) X.env] := by rfl) :
    PSd X W S fr (.Assign [.Subscript (.Name x px) ix p2] e pos) (thenS (do let d ← m; let _ ← ownV i; let k ← mk; pure (d, k)) fun (d, k) => storeS i d k) :=
  PS.weak (ps_asg he (pg_sub (pe_var hN hv hd hcd) hx set_list ha) hs hw h1) fun Dn σ H ⟨G, η, t, ok, h⟩ => by
    have h' : PostS X W S fr G Dn η σ H (thenS m (fun d => thenS (ownV i) fun _ => thenS mk fun k => storeS i d k) η) := by
      have e : thenS (do let d ← m; let _ ← ownV i; let k ← mk; pure (d, k)) (fun (d, k) => storeS i d k) η = thenS m (fun d => thenS (ownV i) fun _ => thenS mk fun k => storeS i d k) η := by
        show thenS (M.bind m fun d => M.bind (ownV i) fun _ => M.bind mk fun k => M.pure (d, k)) _ η = _
        unfold thenS M.bind M.pure
        cases m η with
        | ok d η1 =>
          simp only
          cases ownV i η1 with
          | ok c η2 =>
            simp only
            cases mk η2 <;> rfl
          | _ => rfl
        | _ => rfl
      rw [← e]
      exact h
    refine ⟨G, η, ok, (PostS.bind (R := RD X G σ) h').imp fun v H1 ⟨η1, d, a1⟩ => ?_⟩
    -- the list's name, then the index
    have q1 := a1.post
    unfold thenS at q1
    cases qo : ownV i η1 with
    | ok c η2 =>
      rw [qo] at q1
      simp only at q1
      obtain ⟨e2, b, eb⟩ := ownV_ok qo
      subst e2
      obtain ⟨p, ep, _⟩ := a1.ok.own i b c eb
      refine ⟨_, ep, G, η2, a1.ok, (PostS.bind (R := RD X G σ) q1).imp fun kv H2 ⟨η3, k, a2⟩ => ?_⟩
      have q2 := a2.post
      unfold storeS at q2
      split at q2
      · rename_i b3 c3 e3
        split at q2
        · rename_i c' ec
          obtain ⟨p3, ep3, c3d⟩ := a2.ok.own i b3 c3 e3
          rw [ep] at ep3
          cases ep3
          unfold putL at ec
          split at ec
          · rename_i ds j
            cases ei : ixN ds.length j with
            | none => rw [ei] at ec; cases ec
            | some j' =>
              rw [ei] at ec
              cases ec
              obtain ⟨xs, hxs, dn⟩ := c3d
              have hk : kv = .int j := a2.r
              have dv : Den (Zo G η3 σ) X.K H2 d v := carry a2.shr a2.st a1.r
              refine ⟨p, xs, j, j', rfl, hk, hxs, by rw [← dn.length]; exact ei, ?_⟩
              have new : Same H2 H2 := Same.refl _
              have mv : ∀ {d0 : D} {v0 : V}, Den (Zo G η3 σ) X.K H2 d0 v0 → Den (Zo G η3 σ) X.K (upd H2 p (.lst (xs.set j' v))) d0 v0 := fun {d0 v0} q => by
                refine Den.move (F := fun a => a = p) ⟨fun a u h n => by rw [upd_ne n]; exact h, fun a ys h => by rw [upd_ne (fun z => by rw [z, hxs] at h; cases h)]; exact h, fun a u w h => by rw [upd_ne (fun z => by rw [z, hxs] at h; cases h)]; exact h, fun a u h => ?_⟩
                  (fun a z => by rw [z]; exact .inr ⟨i, b3, _, e3, ep⟩) (fun a z => .inl z) d0 q
                by_cases z : a = p
                · subst z; exact ⟨_, upd_same⟩
                · exact ⟨u, by rw [upd_ne z]; exact h⟩
              have mvs : Dens (Zo G η3 σ) X.K (upd H2 p (.lst (xs.set j' v))) ds xs := by
                refine Dens.move (F := fun a => a = p) ⟨fun a u h n => by rw [upd_ne n]; exact h, fun a ys h => by rw [upd_ne (fun z => by rw [z, hxs] at h; cases h)]; exact h, fun a u w h => by rw [upd_ne (fun z => by rw [z, hxs] at h; cases h)]; exact h, fun a u h => ?_⟩
                  (fun a z => by rw [z]; exact .inr ⟨i, b3, _, e3, ep⟩) (fun a z => .inl z) ds dn
                by_cases z : a = p
                · subst z; exact ⟨_, upd_same⟩
                · exact ⟨u, by rw [upd_ne z]; exact h⟩
              obtain ⟨o3, s3, t3⟩ := write_ok (c' := .lst (ds.set j' d)) a2.ok e3 ep (fun ys z => by rw [hxs] at z; cases z) (fun u w z => by rw [hxs] at z; cases z) ⟨_, upd_same, Dens.set j' mvs (mv dv)⟩
              exact q2 σ _ (.of s3 t3) o3
          · cases ec
        · exact q2.elim
      · exact q2.elim
    | exc c η2 =>
      exfalso
      unfold ownV at qo
      split at qo <;> cases qo
    | bad =>
      rw [qo] at q1
      exact q1.elim
end
end Pd

namespace Pd
open PySem L2
section
variable {X : Cx} {W : WX} {S : S0} {fr : Bool} {st : Stmt} {rest body : List Stmt} {e tg iter : Expr} {pos : Pos} {mb mc : MS} {m : M D} {G : Addr → Prop} {Dn : Ends} {η η1 : Sto} {σ σ1 : St} {H H1 : Hp}
/-- xs.append(e), xs owned -/
def appS (i : Nat) (d : D) : MS := fun η => match η[i]? with
  | some (.own b (.lst ds)) => if lenOk ds.length = true then .nx (η.set i (.own b (.lst (ds ++ [d])))) else .bad
  | _ => .bad
theorem same_but {p : Addr} {xs : List V} {o : HO} (h : H p = some (.lst xs)) : Step (fun a => a = p) H (upd H p o) :=
  ⟨fun a u e n => by rw [upd_ne n]; exact e, fun a ys e => by rw [upd_ne (fun z => by rw [z, h] at e; cases e)]; exact e, fun a u w e => by rw [upd_ne (fun z => by rw [z, h] at e; cases e)]; exact e, fun a u e => by
    by_cases z : a = p
    · subst z; exact ⟨_, upd_same⟩
    · exact ⟨u, by rw [upd_ne z]; exact e⟩⟩
def ownL (i : Nat) : M (List D) := fun η => match η[i]? with
  | some (.own _ (.lst ds)) => .ok ds η
  | _ => .bad
/-- first the slot is looked at -/
theorem PostS.ownL {i : Nat} {k : MS} (ok : Ok G X.K η σ H) (h : PostS X W S fr G Dn η σ H (thenS (ownL i) (fun _ => k) η)) : ∃ p ds xs b, σ[i]? = some (some (V.ref p)) ∧ η[i]? = some (.own b (.lst ds)) ∧ H p = some (.lst xs) ∧ Dens (Zo G η σ) X.K H ds xs ∧ PostS X W S fr G Dn η σ H (k η) := by
  unfold thenS Pd.ownL at h
  cases q : η[i]? with
  | none => rw [q] at h; exact h.elim
  | some s =>
    cases s with
    | own b d =>
      cases d with
      | lst ds =>
        rw [q] at h
        obtain ⟨p, ep, xs, hx, dn⟩ := ok.own i b _ q
        exact ⟨p, ds, xs, b, ep, rfl, hx, dn, h⟩
      | _ => rw [q] at h; exact h.elim
    | _ => rw [q] at h; exact h.elim
theorem psd_append (i : Nat) {x : Str} {px pa : Pos} {pos' : Pos} (he : PEd X W e m) (hN : X.N[i]? = some x := by rfl) (hv : Vis X.env.scope x := by first | exact Or.inl rfl | exact Or.inr (Or.inl rfl) | exact Or.inr (Or.inr rfl))
    (hd : (x == ("__debug__" : Str)) = false := by decide) (hcd : (x == ("__classdict__" : Str)) = false := by decide) (hst : starEach (e :: []) X.env = (false, eval e X.env) :: starEach [] X.env := by rfl)
    (hbase : attributeBase (.Name x px) "append" X.env (eval (.Name x px) X.env) = eval (.Name x px) X.env := by rfl)
    (hfew : ((backTo pos (starEach (e :: []) X.env)).all (fun x => !x.1) && (backToKw pos (keywordEach [] X.env)).all (fun x => x.1.isSome)
      && decide ((e :: []).length + ([] : List Keyword).length + (if ([] : List Keyword).isEmpty then 0 else 1) < 30)) = true := by rfl)
    (hline : (pa.endLine == pos.line) = true := by rfl) (hplain : (backTo pos (starEach [] X.env)).any (·.1) = false := by rfl)
    (hsw : swapsWith (.Call (.Attribute (.Name x px) "append" pa) [e] [] pos) none pos'.line X.env = pure false := by rfl) :
    PSd X W S fr (.Expr (.Call (.Attribute (.Name x px) "append" pa) [e] [] pos) pos') (thenS (ownL i) fun _ => thenS m fun d => appS i d) :=
  PS.weak (ps_expr (pe_bm PySem.F.plainAttrs_list PySem.F.slot_list_append PySem.F.type_list_append mt_append (pe_var hN hv hd hcd) (pa_cons he pa_nil hst) hbase hfew hline hst hplain) hsw) fun Dn σ H ⟨G, η, t, ok, h⟩ => by
    obtain ⟨p, ds, xs, b, ep, eb, hx, dn, h2⟩ := PostS.ownL ok h
    refine ⟨_, ep, .inl ⟨rfl, xs, .of hx⟩, G, η, ok, (PostS.bind (R := RD X G σ) h2).imp fun v H1 ⟨η1, d, a1⟩ => ?_⟩
    have q := a1.post
    unfold appS at q
    split at q
    · rename_i b1 ds1 e1
      obtain ⟨p1, ep1, xs1, hx1, dn1⟩ := a1.ok.own i b1 _ e1
      rw [ep] at ep1
      cases ep1
      split at q
      · rename_i hl
        refine ⟨p, xs1, v, rfl, rfl, hx1, by rw [← dn1.length]; exact lenOk_lt hl, ?_⟩
        have fp : ∀ a, a = p → Zo G η1 σ a := fun a z => by rw [z]; exact .inr ⟨i, b1, _, e1, ep⟩
        have mvs : Dens (Zo G η1 σ) X.K (upd H1 p (.lst (xs1 ++ [v]))) (ds1 ++ [d]) (xs1 ++ [v]) :=
          (Dens.move (same_but hx1) fp (fun a z => .inl z) ds1 dn1).append (.cons (Den.move (same_but hx1) fp (fun a z => .inl z) d a1.r) .nil)
        obtain ⟨o3, s3, t3⟩ := write_ok (c' := .lst (ds1 ++ [d])) a1.ok e1 ep (fun ys z => by rw [hx1] at z; cases z) (fun u w z => by rw [hx1] at z; cases z) ⟨_, upd_same, mvs⟩
        exact q σ _ (.of s3 t3) o3
      · exact q.elim
    · exact q.elim

/-! ### what a loop walks -/
/-- at every later heap J hands out the values of ds, one by one -/
def Feeds (K : PySem.W.Frag) (Z : Addr → Prop) (H : Hp) (ds : List D) (J : It) : Prop := ∀ (F Z1 : Addr → Prop) (H1 : Hp), Step F H H1 → (∀ a, F a → Z a) → (∀ a, Z1 a → Z a ∨ H a = none) →
  ∀ i, (i < ds.length → J.go i H1) ∧ (ds.length ≤ i → J.stop i H1) ∧ ∀ d x H2, ds[i]? = some d → J.yld i H1 x H2 → Same H1 H2 ∧ Den Z1 K H2 d x
def tI (X : Cx) (W : WX) (mi : M (List D)) : TI := fun σ H R => ∃ G η, Ok G X.K η σ H ∧ Post X W G η σ H (fun η' H' ds J => Feeds X.K (Zo G η' σ) H' ds J) R (mi η)
def PId (X : Cx) (W : WX) (tg iter : Expr) (mi : M (List D)) : Prop := PI X tg iter (tI X W mi)
theorem PI.weak {t u : TI} (h : PI X tg e t) (i : ∀ σ H Q, u σ H Q → t σ H Q) : PI X tg e u := ⟨fun pins s σ H Q I q => h.run pins s σ H Q I (i σ H Q q)⟩
def itemsD : D → Option (List D)
  | .tup ds => some ds
  | .lst ds => some ds
  | .scr ns => some (ns.map D.int)
  | _ => none
/-- a list or a tuple -/
theorem pi_seqA {l : Expr} {tl : TE} (hl : PE X l tl) : PI X tg l (fun σ H R => tl σ H fun x H1 => ∃ a, x = .ref a ∧ ((∃ xs, SqL X.K H1 a xs ∧ R (Itl X.K a) H1) ∨ ∃ xs, SqT X.K H1 a xs ∧ R (Itt X.K a) H1)) := by
  refine ⟨fun pins s σ H R I h => thn (hl.run pins s σ H _ I h) fun v s1 ⟨x, H1, I1, r1, a, ex, q1⟩ => ?_⟩
  subst ex
  cases r1
  rcases q1 with ⟨xs, hq, q⟩ | ⟨xs, hq, q⟩
  · obtain ⟨its, rv, pl, hz⟩ := I1.list hq
    refine wpAny_pyIter_list pl.isList ⟨s1.heap.objs.size, [s1.heap.objs.size], _, _, H1, rfl, I1.kept (t' := s1.toks) fun b o e => Heap.get?_push_of_some _ e, turn_list a _, ⟨_, Heap.get?_push_size _ rfl, rfl, rfl⟩, fun b hb => ?_, q⟩
    obtain rfl : b = s1.heap.objs.size := by simpa using hb
    exact I1.fpOk (Nat.le_refl _) (I1.hok.fresh (Nat.le_refl _))
  · obtain ⟨its, rv, pl, hz⟩ := I1.tuple hq
    refine wpAny_pyIter_tuple (show s1.heap.IsTuple a its.toArray from pl) ⟨s1.heap.objs.size, [s1.heap.objs.size], _, _, H1, rfl, I1.kept (t' := s1.toks) fun b o e => Heap.get?_push_of_some _ e, turn_tuple a _, ⟨_, Heap.get?_push_size _ rfl, rfl, rfl⟩, fun b hb => ?_, q⟩
    obtain rfl : b = s1.heap.objs.size := by simpa using hb
    exact I1.fpOk (Nat.le_refl _) (I1.hok.fresh (Nat.le_refl _))
theorem feeds_list {Z : Addr → Prop} {a : Addr} {xs : List V} {ds : List D} (hl : ∀ F H1, Step F H H1 → (∀ a, F a → Z a) → SqL X.K H1 a xs) (dn : Dens Z X.K H ds xs) (inj : ∀ {H1 : Hp} {ys : List V}, SqL X.K H1 a xs → SqL X.K H1 a ys → True) : Feeds X.K Z H ds (Itl X.K a) := by
  intro F Z1 H1 st hF hz i
  have hs := hl F H1 st hF
  refine ⟨fun hi => ⟨xs, xs[i]'(by rw [← dn.length]; exact hi), hs, List.getElem?_eq_getElem _⟩, fun hi => ⟨xs, hs, by rw [← dn.length]; exact hi⟩, fun d x H2 ed hy => ?_⟩
  obtain ⟨e, y⟩ := hy
  subst e
  obtain ⟨v, ev, dv⟩ := dn.get ed
  have e2 := y xs hs
  rw [ev] at e2
  cases e2
  exact ⟨Same.refl _, Den.move st hF hz d dv⟩
theorem feeds_tup {Z : Addr → Prop} {a : Addr} {xs : List V} {ds : List D} (hl : SqT X.K H a xs) (dn : Dens Z X.K H ds xs) : Feeds X.K Z H ds (Itt X.K a) := by
  intro F Z1 H1 st hF hz i
  have hs := st.seqT hl
  refine ⟨fun hi => ⟨xs, xs[i]'(by rw [← dn.length]; exact hi), hs, List.getElem?_eq_getElem _⟩, fun hi => ⟨xs, hs, by rw [← dn.length]; exact hi⟩, fun d x H2 ed hy => ?_⟩
  obtain ⟨e, y⟩ := hy
  subst e
  obtain ⟨v, ev, dv⟩ := dn.get ed
  have e2 := y xs hs
  rw [ev] at e2
  cases e2
  exact ⟨Same.refl _, Den.move st hF hz d dv⟩
theorem Scr.step {F : Addr → Prop} {a : Addr} {ns : List Int} (s : Step F H H1) (h : Scr X.K H a ns) : Scr X.K H1 a ns := by
  rcases h with ⟨o, h⟩ | h
  · exact .inl ⟨o, s.frz _ _ _ h⟩
  · exact .inr h
theorem pid_seq (he : PEd X W iter m) : PId X W tg iter (do let d ← m; M.of (itemsD d)) := PI.weak (pi_seqA he) fun σ H R ⟨G, η, ok, h⟩ => ⟨G, η, ok, (Post.bind (R := RD X G σ) h).imp fun x H1 ⟨η1, d, a1⟩ => by
  have q := a1.post
  cases d with
  | tup ds =>
    obtain ⟨a, xs, rfl, hs, dn⟩ := a1.r
    exact ⟨a, rfl, .inr ⟨xs, hs, q _ _ .refl .refl a1.ok (feeds_tup hs dn)⟩⟩
  | lst ds =>
    obtain ⟨a, xs, rfl, nz, hs, dn⟩ := a1.r
    exact ⟨a, rfl, .inl ⟨xs, .of hs, q _ _ .refl .refl a1.ok (feeds_list (fun F H2 st hF => .of (st.keep _ _ hs fun f => nz (hF a f))) dn fun _ _ => trivial)⟩⟩
  | scr ns =>
    obtain ⟨a, rfl, hs⟩ := a1.r
    exact ⟨a, rfl, .inl ⟨_, hs.seq, q _ _ .refl .refl a1.ok (feeds_list (fun F H2 st hF => (hs.step (X := X) st).seq) (dens_of_ints ns) fun _ _ => trivial)⟩⟩
  | _ => exact False.elim q⟩
def rangeL (lo : Int) (n : Nat) : List D := (List.range n).map fun (i : Nat) => D.int (lo + (i : Int))
theorem rangeL_get {lo : Int} {n i : Nat} {d : D} (h : (rangeL lo n)[i]? = some d) : d = .int (lo + i) := by
  unfold rangeL at h
  rw [List.getElem?_map] at h
  cases q : (List.range n)[i]? with
  | none => rw [q] at h; cases h
  | some j =>
    rw [q] at h
    cases h
    obtain ⟨hlt, e⟩ := List.getElem?_eq_some_iff.mp q
    rw [List.getElem_range] at e
    rw [e]
theorem feeds_range {Z : Addr → Prop} (lo : Int) (n : Nat) : Feeds X.K Z H (rangeL lo n) (Itr lo n) := by
  intro F Z1 H1 st hF hz i
  have hl : (rangeL lo n).length = n := by unfold rangeL; rw [List.length_map, List.length_range]
  refine ⟨fun hi => by rw [hl] at hi; exact hi, fun hi => by rw [hl] at hi; exact hi, fun d x H2 ed hy => ?_⟩
  obtain ⟨e, y⟩ := hy
  subst e
  rw [rangeL_get ed, y]
  exact ⟨Same.refl _, rfl⟩
def range1D : List D → Option (List D)
  | [.int j] => if -(2 ^ 62) ≤ j ∧ j < 2 ^ 62 then some (rangeL 0 j.toNat) else none
  | _ => none
def range2D : List D → Option (List D)
  | [.int i, .int j] => if -(2 ^ 62) ≤ i ∧ i < 2 ^ 62 ∧ -(2 ^ 62) ≤ j ∧ j < 2 ^ 62 then some (rangeL i (j - i).toNat) else none
  | _ => none
theorem pid_range1 {a : Expr} {p : Pos} {ms : M (List D)} (hm : X.mg "range" = none) (ha : PAd X W [a] ms) (hg : Gl X "range" := by rfl) (hs : starEach [a] X.env = [(false, eval a X.env)] := by rfl) : PId X W tg (.Call (.Name "range" p) [a] [] pos) (do let ds ← ms; M.of (range1D ds)) :=
  PI.weak (pi_range1 hg hm ha hs) fun σ H R ⟨G, η, ok, h⟩ => ⟨G, η, ok, (Post.bind (R := RDs X G σ) h).imp fun xs H1 ⟨η1, ds, a1⟩ => by
    have q := a1.post
    unfold range1D at q
    split at q
    · rename_i j
      split at q
      · rename_i hj
        obtain ⟨v, r, rfl, h1, h2⟩ := a1.r
        have e2 : r = [] := h2
        subst e2
        have e1 : v = .int j := h1
        subst e1
        exact ⟨j, rfl, hj.1, hj.2, q _ _ .refl .refl a1.ok (feeds_range 0 j.toNat)⟩
      · exact False.elim q
    · exact False.elim q⟩
theorem pid_range2 {a b : Expr} {p : Pos} {ms : M (List D)} (hm : X.mg "range" = none) (ha : PAd X W [a, b] ms) (hg : Gl X "range" := by rfl) (hs : starEach [a, b] X.env = [(false, eval a X.env), (false, eval b X.env)] := by rfl) (hs2 : starEach [b] X.env = [(false, eval b X.env)] := by rfl) :
    PId X W tg (.Call (.Name "range" p) [a, b] [] pos) (do let ds ← ms; M.of (range2D ds)) :=
  PI.weak (pi_range2 hg hm ha hs hs2) fun σ H R ⟨G, η, ok, h⟩ => ⟨G, η, ok, (Post.bind (R := RDs X G σ) h).imp fun xs H1 ⟨η1, ds, a1⟩ => by
    have q := a1.post
    unfold range2D at q
    split at q
    · rename_i i j
      split at q
      · rename_i hj
        obtain ⟨v, r, rfl, h1, w, r2, rfl, h2, h3⟩ := a1.r
        have e3 : r2 = [] := h3
        subst e3
        have e1 : v = .int i := h1
        have e2 : w = .int j := h2
        subst e1 e2
        exact ⟨i, j, rfl, hj, q _ _ .refl .refl a1.ok (feeds_range i (j - i).toNat)⟩
      · exact False.elim q
    · exact False.elim q⟩

/-! ### loops -/
def forS (f : D → MS) : List D → MS
  | [] => fun η => .nx η
  | d :: r => fun η => match f d η with
    | .nx η' => forS f r η'
    | .ct η' => forS f r η'
    | .bk η' => .nx η'
    | x => x
def turnS (g : D → MS) (mb : MS) (d : D) : MS := seqS (fun η => onlyNx (g d η)) mb
theorem psd_for {ix : List Nat} {g : D → MS} {mi : M (List D)} (hp : PassesOwn (model X.prog X.w) X.A X.env X.xe) (hc : X.calm = true) (hi : PId X W tg iter mi) (hg : PGd X tg ix g) (hb : PSsd X W S fr body mb) (hs : ∀ x, foldedSetIterable iter X.env x = pure x := by intro _; rfl) :
    PSd X W S fr (.For tg iter body [] pos) (thenS mi fun ds => forS (turnS g mb) ds) :=
  PS.weak (ps_for hp hc hi hg hb hs) fun Dn σ H ⟨G, η, t, ok, h⟩ => by
    refine ⟨G, η, ok, (PostS.bind (R := fun η' H' ds J => Feeds X.K (Zo G η' σ) H' ds J) h).imp fun J H1 ⟨η1, ds, a1⟩ => ?_⟩
    have hfeed := a1.r
    refine ⟨fun i m σ' H' => m = ds.length - i ∧ i ≤ ds.length ∧ ∃ η', StepS η1 σ H1 η' σ' H' ∧ Ok G X.K η' σ' H' ∧ PostS X W S fr G Dn η' σ' H' (forS (turnS g mb) (ds.drop i) η'), ⟨ds.length, by simp, Nat.zero_le _, η1, .refl, a1.ok, by rw [List.drop_zero]; exact a1.post⟩, ?_⟩
    rintro i m σ' H' ⟨rfl, hle, η', s', ok', p'⟩
    have hf := hfeed (Fo η1 σ) (Zo G η' σ') H' s'.st (fun a f => .inr f) (fun a z => z.elim (fun g => .inl (.inl g)) fun f => (s'.grow a f).imp .inr id) i
    by_cases hlt : i < ds.length
    · obtain ⟨d, ed⟩ : ∃ d, ds[i]? = some d := ⟨ds[i], List.getElem?_eq_getElem hlt⟩
      have edr : ds.drop i = d :: ds.drop (i + 1) := by
        rw [List.drop_eq_getElem_cons hlt]
        rw [List.getElem?_eq_getElem hlt] at ed
        cases ed
        rfl
      rw [edr] at p'
      refine .inr ⟨hf.1 hlt, fun σ2 H2 => ∃ η2, StepS η1 σ H1 η2 σ2 H2 ∧ Ok G X.K η2 σ2 H2 ∧ PostS X W S fr G Dn η2 σ2 H2 (forS (turnS g mb) (ds.drop (i + 1)) η2), fun σ2 H2 ⟨η2, q⟩ => ⟨ds.length - (i + 1), by omega, rfl, hlt, η2, q⟩, fun x H2 hy => ?_⟩
      obtain ⟨same, dn⟩ := hf.2.2 d x H2 ed hy
      have ok2 := ok'.same same
      have s2 : StepS η' σ' H' η' σ' H2 := .of .refl (.of_same same)
      refine ⟨G, η', d, ok2, dn, ?_⟩
      have p0 : PostS X W S fr G Dn η' σ' H' (match turnS g mb d η' with | .nx η' => forS (turnS g mb) (ds.drop (i + 1)) η' | .ct η' => forS (turnS g mb) (ds.drop (i + 1)) η' | .bk η' => .nx η' | x => x) := p'
      have et : turnS g mb d η' = match onlyNx (g d η') with | .nx η' => mb η' | r => r := rfl
      rw [et] at p0
      cases qg : g d η' with
      | nx η3 =>
        rw [qg] at p0
        intro σ3 H3 s3 o3 _
        have p3 : PostS X W S fr G Dn η' σ' H' (match mb η3 with | .nx η' => forS (turnS g mb) (ds.drop (i + 1)) η' | .ct η' => forS (turnS g mb) (ds.drop (i + 1)) η' | .bk η' => .nx η' | x => x) := p0
        have p4 := p3.later (s2.trans s3)
        have s13 : StepS η1 σ H1 η3 σ3 H3 := s'.trans (s2.trans s3)
        refine ⟨G, η3, StepS.trans (StepS.trans t (.of a1.shr a1.st)) s13, o3, ?_⟩
        cases qb : mb η3 with
        | nx η4 =>
          rw [qb] at p4
          exact fun σ4 H4 s4 o4 => ⟨η4, s13.trans s4, o4, p4.later s4⟩
        | ct η4 =>
          rw [qb] at p4
          exact fun σ4 H4 s4 o4 => ⟨η4, s13.trans s4, o4, p4.later s4⟩
        | bk η4 =>
          rw [qb] at p4
          exact fun σ4 H4 s4 o4 => p4 σ4 H4 s4 o4
        | rt d η4 =>
          rw [qb] at p4
          exact p4
        | exc c η4 =>
          rw [qb] at p4
          exact p4
        | bad =>
          rw [qb] at p4
          exact p4.elim
      | _ =>
        rw [qg] at p0
        exact False.elim p0
    · have e : i = ds.length := by omega
      subst e
      rw [List.drop_length] at p'
      exact .inl ⟨hf.2.1 (Nat.le_refl _), p' σ' H' .refl ok'⟩
def whileS (c : M Bool) (b : MS) : Nat → MS
  | 0 => fun _ => .bad
  | n + 1 => thenS c fun k => if k = true then (fun η => match b η with
    | .nx η' => whileS c b n η'
    | .ct η' => whileS c b n η'
    | .bk η' => .nx η'
    | x => x) else fun η => .nx η
theorem psd_while {c : Expr} {mt : M Bool} (fuel : Sto → Nat) (hp : PassesOwn (model X.prog X.w) X.A X.env X.xe) (hc : PTd X W c mt) (hb : PSsd X W S fr body mb) : PSd X W S fr (.While c body [] pos) (fun η => whileS mt mb (fuel η) η) :=
  PS.weak (ps_while hp hc hb) fun Dn σ H ⟨G, η, t, ok, h⟩ => by
    refine ⟨fun m σ' H' => ∃ η', StepS η σ H η' σ' H' ∧ Ok G X.K η' σ' H' ∧ PostS X W S fr G Dn η' σ' H' (whileS mt mb m η'), ⟨fuel η, η, .refl, ok, h⟩, ?_⟩
    rintro m σ' H' ⟨η', s', ok', p'⟩
    cases m with
    | zero => exact p'.elim
    | succ n =>
      unfold whileS at p'
      refine ⟨G, η', ok', (PostS.bind (R := RB) p').imp fun b H1 ⟨η1, b', a1⟩ => ?_⟩
      have e : b' = b := a1.r
      subst e
      have q := a1.post
      have s1 : StepS η σ H η1 σ' H1 := s'.trans (.of a1.shr a1.st)
      cases b' with
      | false => exact iteF (q σ' H1 .refl a1.ok)
      | true =>
        refine iteT ⟨fun σ2 H2 => ∃ η2, StepS η σ H η2 σ2 H2 ∧ Ok G X.K η2 σ2 H2 ∧ PostS X W S fr G Dn η2 σ2 H2 (whileS mt mb n η2), fun σ2 H2 q => ⟨n, Nat.lt_succ_self n, q⟩, G, η1, StepS.trans t s1, a1.ok, ?_⟩
        have p3 : PostS X W S fr G Dn η1 σ' H1 (match mb η1 with | .nx η' => whileS mt mb n η' | .ct η' => whileS mt mb n η' | .bk η' => .nx η' | x => x) := q
        cases qb : mb η1 with
        | nx η4 =>
          rw [qb] at p3
          exact fun σ4 H4 s4 o4 => ⟨η4, s1.trans s4, o4, p3.later s4⟩
        | ct η4 =>
          rw [qb] at p3
          exact fun σ4 H4 s4 o4 => ⟨η4, s1.trans s4, o4, p3.later s4⟩
        | bk η4 =>
          rw [qb] at p3
          exact fun σ4 H4 s4 o4 => p3 σ4 H4 s4 o4
        | rt d η4 =>
          rw [qb] at p3
          exact p3
        | exc c η4 =>
          rw [qb] at p3
          exact p3
        | bad =>
          rw [qb] at p3
          exact p3.elim

/-! ### exceptions -/
theorem psd_raise {x ms : Str} {C : Addr} {bmB : List Value} {B newId initId : String} {j : Nat} {p p2 : Pos} {pos2 : Pos} (hc : X.calm = true) (tk : Takes X W) (F : ExcBaseFacts B newId initId bmB) (q : PySem.W.excIn X.K C bmB newId = true) (gC : X.mg x = some (.ref C))
    (kC : PySem.W.keepIn X.K (.ref C) = true) (r : Raises X (.ref C)) (hg : Gl X x := by rfl) (hdb : (x == ("__debug__" : Str)) = false := by decide) : PSd X W S fr (.Raise (some (.Call (.Name x p) [.Constant (.str ms) j p2] [] pos)) none pos2) (fun η => .exc x η) :=
  PS.weak (ps_raise hc tk (pmk_own F q gC kC r hg hdb)) fun Dn σ H ⟨G, η, t, ok, h⟩ => h C σ H gC .refl ok
end
end Pd

namespace Pd
open PySem L2
/-! ### defs -/
def back : Sto → Sto → Sto
  | .own true _ :: as, s :: η => s :: back as η
  | a :: as, _ :: η => a :: back as η
  | as, _ => as
theorem back_nil (as : Sto) : back as [] = as := by
  cases as with
  | nil => rfl
  | cons a as => cases a with
    | own b d => cases b <;> rfl
    | _ => rfl
theorem back_get : ∀ {as η : Sto} {i : Nat}, (back as η)[i]? = (match as[i]? with | some (.own true d) => some ((η[i]?).getD (.own true d)) | s => s)
  | [], η, i => by cases η <;> simp [back]
  | a :: as, [], i => by
    rw [back_nil]
    cases (a :: as)[i]? with
    | none => rfl
    | some s => cases s with
      | own b d => cases b <;> simp
      | _ => rfl
  | a :: as, s :: η, 0 => by
    cases a with
    | own b d => cases b <;> rfl
    | _ => rfl
  | a :: as, s :: η, i + 1 => by
    have e := back_get (as := as) (η := η) (i := i)
    cases a with
    | own b d => cases b <;> simpa [back] using e
    | _ => simpa [back] using e
theorem back_len : ∀ {as η : Sto}, (back as η).length = as.length
  | [], η => by cases η <;> rfl
  | a :: as, [] => by rw [back_nil]
  | a :: as, s :: η => by
    cases a with
    | own b d => cases b <;> simp [back, back_len (as := as) (η := η)]
    | _ => simp [back, back_len (as := as) (η := η)]
def allFix (as : Sto) : Bool := as.all fun s => match s with | .own false _ => false | _ => true
theorem allFix_get {as : Sto} (h : allFix as = true) {i : Nat} {b : Bool} {d : D} (e : as[i]? = some (.own b d)) : b = true := by
  have := List.all_eq_true.mp h _ (List.mem_of_getElem? e)
  cases b with
  | true => rfl
  | false => cases this
/-- a def's function from its body's -/
def fnM (n N : Nat) (mb : MS) : M D := fun as => if (decide (as.length = n) && allFix as) = true then (match mb (as ++ List.replicate (N - n) .no) with
    | .nx η => .ok .non (back as η)
    | .rt d η => .ok d (back as η)
    | .exc c η => .exc c (back as η)
    | _ => .bad) else .bad
/-- .. of one that promises a new list -/
def fnF (n N : Nat) (mb : MS) : M D := fun as => if (decide (as.length = n) && allFix as) = true then (match mb (as ++ List.replicate (N - n) .no) with
    | .rt d η => .ok d (back as η)
    | .exc c η => .exc c (back as η)
    | _ => .bad) else .bad
section
variable {G G' : Addr → Prop} {K : PySem.W.Frag} {as η' : Sto} {vs : List V} {H H' : Hp} {N : List Str} {σ' : St}
theorem start_get {i : Nat} (h : i < vs.length) : (L2.start N vs)[i]? = (vs.map some)[i]? := by
  unfold L2.start
  rw [List.getElem?_append_left (by simpa using h)]
theorem grow_get {i n : Nat} (h : i < as.length) : (as ++ List.replicate n Slot.no)[i]? = as[i]? := List.getElem?_append_left h
theorem grow_own {n i : Nat} {s : Slot} (e : (as ++ List.replicate n Slot.no)[i]? = some s) (hs : s ≠ .no) : as[i]? = some s := by
  by_cases h : i < as.length
  · rw [grow_get h] at e
    exact e
  · rw [List.getElem?_append_right (by omega), List.getElem?_replicate] at e
    split at e
    · cases e
      exact absurd rfl hs
    · cases e
theorem start_fo (hl : as.length = vs.length) {n : Nat} {a : Addr} : Fo (as ++ List.replicate n .no) (L2.start N vs) a ↔ Fo as (vs.map some) a := by
  constructor
  · rintro ⟨i, b, d, e, q⟩
    have e' := grow_own e (by intro z; cases z)
    have hi : i < vs.length := by rw [← hl]; exact (List.getElem?_eq_some_iff.mp e').1
    rw [start_get hi] at q
    exact ⟨i, b, d, e', q⟩
  · rintro ⟨i, b, d, e, q⟩
    have hi : i < as.length := (List.getElem?_eq_some_iff.mp e).1
    exact ⟨i, b, d, by rw [grow_get hi]; exact e, by rw [start_get (by rw [← hl]; exact hi)]; exact q⟩
theorem start_ok (ok : Ok G K as (vs.map some) H) (hN : vs.length ≤ N.length) : Ok G K (as ++ List.replicate (N.length - as.length) .no) (L2.start N vs) H := by
  have hl : as.length = vs.length := by rw [ok.len, List.length_map]
  have lt : ∀ {i : Nat} {s : Slot}, as[i]? = some s → i < vs.length := fun e => by rw [← hl]; exact (List.getElem?_eq_some_iff.mp e).1
  have zo : ∀ a, Zo G (as ++ List.replicate (N.length - as.length) .no) (L2.start N vs) a → Zo G as (vs.map some) a := fun a z => z.imp id (start_fo hl).mp
  refine ⟨?_, fun i d e => ?_, fun i b d e => ?_, fun i j b b' d d' p e e' q q' => ?_, ok.dom, fun a g f => ok.dis a g ((start_fo hl).mp f)⟩
  · unfold L2.start
    rw [List.length_append, List.length_append, List.length_map, List.length_replicate, List.length_replicate]
    omega
  · have e' := grow_own e (by intro z; cases z)
    obtain ⟨v, q, r⟩ := ok.val i d e'
    exact ⟨v, by rw [start_get (lt e')]; exact q, r.less zo⟩
  · have e' := grow_own e (by intro z; cases z)
    obtain ⟨v, q, r⟩ := ok.own i b d e'
    exact ⟨v, by rw [start_get (lt e')]; exact q, r.less zo⟩
  · have e1 := grow_own e (by intro z; cases z)
    have e2 := grow_own e' (by intro z; cases z)
    rw [start_get (lt e1)] at q
    rw [start_get (lt e2)] at q'
    exact ok.inj i j _ _ _ _ p e1 e2 q q'
theorem back_ok (ok : Ok G K as (vs.map some) H) (hfx : allFix as = true) (hN : vs.length ≤ N.length) (s : StepS (as ++ List.replicate (N.length - as.length) .no) (L2.start N vs) H η' σ' H') (ok' : Ok G' K η' σ' H') (hG : ∀ a, G' a → G a ∨ H a = none) :
    Ok G' K (back as η') (vs.map some) H' ∧ Shr as (back as η') ∧ (∀ a, Fo (back as η') (vs.map some) a → Fo η' σ' a) ∧ Step (Fo as (vs.map some)) H H' := by
  have hl : as.length = vs.length := by rw [ok.len, List.length_map]
  have lt : ∀ {i : Nat} {s : Slot}, as[i]? = some s → i < vs.length := fun e => by rw [← hl]; exact (List.getElem?_eq_some_iff.mp e).1
  have st : Step (Fo as (vs.map some)) H H' := s.st.wider fun a f => (start_fo hl).mp f
  -- a slot of back: an owned one is η's, at its old address; another one is the argument itself
  have bo : ∀ (i : Nat) (b : Bool) (d : D), (back as η')[i]? = some (.own b d) → (∃ d0, as[i]? = some (.own true d0)) ∧ η'[i]? = some (.own b d) ∧ b = true ∧ σ'[i]? = (vs.map some)[i]? := fun i b d e => by
    rw [back_get] at e
    cases q : as[i]? with
    | none => rw [q] at e; cases e
    | some a =>
      rw [q] at e
      cases a with
      | own b0 d0 =>
        have hb := allFix_get hfx q
        subst hb
        have hi := lt q
        obtain ⟨⟨d1, e1⟩, q1⟩ := s.fix i d0 (by rw [grow_get (by rw [hl]; exact hi)]; exact q)
        simp only [e1, Option.getD_some] at e
        cases e
        exact ⟨⟨d0, rfl⟩, e1, rfl, by rw [q1, start_get hi]⟩
      | val d0 => cases e
      | no => cases e
  have bv : ∀ (i : Nat) (d : D), (back as η')[i]? = some (.val d) → as[i]? = some (.val d) := fun i d e => by
    rw [back_get] at e
    cases q : as[i]? with
    | none => rw [q] at e; cases e
    | some a =>
      rw [q] at e
      cases a with
      | own b0 d0 =>
        have hb := allFix_get hfx q
        subst hb
        obtain ⟨⟨d1, e1⟩, q1⟩ := s.fix i d0 (by rw [grow_get (by rw [hl]; exact lt q)]; exact q)
        simp only [e1, Option.getD_some] at e
        cases e
      | val d0 => exact e
      | no => cases e
  have fo : ∀ a, Fo (back as η') (vs.map some) a → Fo η' σ' a := fun a ⟨i, b, d, e, q⟩ => by
    obtain ⟨_, e1, _, q1⟩ := bo i b d e
    exact ⟨i, b, d, e1, by rw [q1]; exact q⟩
  have fo2 : ∀ a, Fo (back as η') (vs.map some) a → Fo as (vs.map some) a := fun a ⟨i, b, d, e, q⟩ => by
    obtain ⟨⟨d0, e0⟩, _⟩ := bo i b d e
    exact ⟨i, _, d0, e0, q⟩
  have zo : ∀ a, Zo G' (back as η') (vs.map some) a → Zo G as (vs.map some) a ∨ H a = none := fun a z => by
    rcases z with z | z
    · exact (hG a z).imp .inl id
    · exact .inl (.inr (fo2 a z))
  refine ⟨⟨by rw [back_len]; exact ok.len, fun i d e => ?_, fun i b d e => ?_, fun i j b b' d d' p e e' q q' => ?_, ok'.dom, fun a g f => ok'.dis a g (fo a f)⟩, ⟨fun i b d e => ?_, fun i d e => ?_, fun i d e => bv i d e⟩, fo, st⟩
  · obtain ⟨v, e', q⟩ := ok.val i d (bv i d e)
    exact ⟨v, e', Den.move st (fun _ f => .inr f) zo d q⟩
  · obtain ⟨_, e1, _, q1⟩ := bo i b d e
    obtain ⟨p, e', q⟩ := ok'.own i b d e1
    exact ⟨p, by rw [← q1]; exact e', q.less fun a z => z.imp id (fo a)⟩
  · obtain ⟨_, e1, _, q1⟩ := bo i b d e
    obtain ⟨_, e2, _, q2⟩ := bo j b' d' e'
    exact ok'.inj i j _ _ _ _ p e1 e2 (by rw [q1]; exact q) (by rw [q2]; exact q')
  · obtain ⟨⟨d0, e0⟩, _, hb, _⟩ := bo i b d e
    subst hb
    exact ⟨d0, e0⟩
  · have hi := lt e
    obtain ⟨⟨d1, e1⟩, _⟩ := s.fix i d (by rw [grow_get (by rw [hl]; exact hi)]; exact e)
    exact ⟨d1, by rw [back_get, e]; simp only [e1, Option.getD_some]⟩
end
section
open PySem.Calls PySem.W
variable {P : Program} {w : World} {K : PySem.W.Frag} {mg : Str → Option Value} {base : Heap} {x qual : Str} {st : Stmt} {f : Addr} {fd : FuncData} {N ps : List Str} {k : Nat} {mb : MS}
/-- THE RULE for a def -/
theorem fn_ok (F : Fun K x qual st f fd) (Sc : FnScope N ps (defScope st))
    (hbody : ∀ (cdv : Value) (A : Around) (outer : List PySem.Env) (s : Shared) (H : Hp) (E : XK) (S : S0), Room k (cxOf (L2.CX P w) P w K mg base N qual (defScope st) f cdv A outer s H E).A →
      PSsd (cxOf (L2.CX P w) P w K mg base N qual (defScope st) f cdv A outer s H E) (fun cls d _ H' => E cls d H') S false (defBody st) mb) :
    FnOk P w K mg base (L2.CX P w) (k + 1) f fd ps (spD K mg ps.length (fnM ps.length N.length mb)) := by
  refine F.okX Sc (fun vs H Q E h => ?_) (fun cdv A outer s H vs Q E hr h => ?_)
  · obtain ⟨G, as, hn, _⟩ := h
    exact hn
  · obtain ⟨G, as, hn, ok, q⟩ := h
    have hl : as.length = vs.length := by rw [ok.len, List.length_map]
    have hpl : ps.length ≤ N.length := by
      have := congrArg List.length Sc.pre
      rw [List.length_take] at this
      omega
    unfold fnM at q
    by_cases hc : (decide (as.length = ps.length) && allFix as) = true
    · rw [if_pos hc] at q
      rw [Bool.and_eq_true, decide_eq_true_eq] at hc
      have hNv : vs.length ≤ N.length := by omega
      have ok0 := start_ok (N := N) ok hNv
      have ea : N.length - ps.length = N.length - as.length := by rw [hc.1]
      rw [ea] at q
      refine ⟨_, hbody cdv A outer s H E ⟨as ++ List.replicate (N.length - as.length) Slot.no, L2.start N vs, H, fun i b d e => allFix_get hc.2 (grow_own e (by intro z; cases z))⟩ hr, G, as ++ List.replicate (N.length - as.length) Slot.no, .refl, ok0, ?_⟩
      cases qb : mb (as ++ List.replicate (N.length - as.length) .no) with
      | nx η' =>
        rw [qb] at q
        intro σ' H' s1 o1
        obtain ⟨b1, b2, b3, b4⟩ := back_ok ok hc.2 hNv s1 o1 (fun a g => .inl g)
        exact q .non H' b2 b4 b1 rfl
      | rt d η' =>
        rw [qb] at q
        intro v σ' H' s1 o1 r
        obtain ⟨b1, b2, b3, b4⟩ := back_ok ok hc.2 hNv s1 o1 (fun a g => .inl g)
        have r' : Den (Zo G η' σ') K H' d v := by
          unfold RT at r
          rw [if_neg (by decide)] at r
          exact r
        exact q v H' b2 b4 b1 (r'.less fun a z => z.imp id (b3 a))
      | exc c η' =>
        rw [qb] at q
        intro C σ' H' hC s1 o1
        obtain ⟨b1, b2, b3, b4⟩ := back_ok ok hc.2 hNv s1 o1 (fun a g => .inl g)
        exact q C H' hC b2 b4 b1
      | bk η' => rw [qb] at q; exact q.elim
      | ct η' => rw [qb] at q; exact q.elim
      | bad => rw [qb] at q; exact q.elim
    · rw [if_neg hc] at q
      exact q.elim
theorem fnF_ok (F : Fun K x qual st f fd) (Sc : FnScope N ps (defScope st))
    (hbody : ∀ (cdv : Value) (A : Around) (outer : List PySem.Env) (s : Shared) (H : Hp) (E : XK) (S : S0), Room k (cxOf (L2.CX P w) P w K mg base N qual (defScope st) f cdv A outer s H E).A →
      PSsd (cxOf (L2.CX P w) P w K mg base N qual (defScope st) f cdv A outer s H E) (fun cls d _ H' => E cls d H') S true (defBody st) mb) :
    FnOk P w K mg base (L2.CX P w) (k + 1) f fd ps (spF K mg ps.length (fnF ps.length N.length mb)) := by
  refine F.okX Sc (fun vs H Q E h => ?_) (fun cdv A outer s H vs Q E hr h => ?_)
  · obtain ⟨G, as, hn, _⟩ := h
    exact hn
  · obtain ⟨G, as, hn, ok, q⟩ := h
    have hl : as.length = vs.length := by rw [ok.len, List.length_map]
    have hpl : ps.length ≤ N.length := by
      have := congrArg List.length Sc.pre
      rw [List.length_take] at this
      omega
    unfold fnF at q
    by_cases hc : (decide (as.length = ps.length) && allFix as) = true
    · rw [if_pos hc] at q
      rw [Bool.and_eq_true, decide_eq_true_eq] at hc
      have hNv : vs.length ≤ N.length := by omega
      have ok0 := start_ok (N := N) ok hNv
      have ea : N.length - ps.length = N.length - as.length := by rw [hc.1]
      rw [ea] at q
      refine ⟨_, hbody cdv A outer s H E ⟨as ++ List.replicate (N.length - as.length) Slot.no, L2.start N vs, H, fun i b d e => allFix_get hc.2 (grow_own e (by intro z; cases z))⟩ hr, G, as ++ List.replicate (N.length - as.length) Slot.no, .refl, ok0, ?_⟩
      cases qb : mb (as ++ List.replicate (N.length - as.length) .no) with
      | rt d η' =>
        rw [qb] at q
        intro v σ' H' s1 o1 r
        obtain ⟨b1, b2, b3, b4⟩ := back_ok ok hc.2 hNv s1 o1 (fun a g => .inl g)
        unfold RT at r
        rw [if_pos rfl] at r
        obtain ⟨p, ev, hp, c, okp⟩ := r
        obtain ⟨c1, c2, c3, c4⟩ := back_ok ok hc.2 hNv s1 okp (fun a g => g.imp id fun z => by rw [z]; exact hp)
        exact q v H' b2 b4 b1 ⟨p, ev, hp, c.less fun a z => z.imp (fun z => z.imp id (b3 a)) id, c1⟩
      | exc c η' =>
        rw [qb] at q
        intro C σ' H' hC s1 o1
        obtain ⟨b1, b2, b3, b4⟩ := back_ok ok hc.2 hNv s1 o1 (fun a g => .inl g)
        exact q C H' hC b2 b4 b1
      | nx η' => rw [qb] at q; exact q.elim
      | bk η' => rw [qb] at q; exact q.elim
      | ct η' => rw [qb] at q; exact q.elim
      | bad => rw [qb] at q; exact q.elim
    · rw [if_neg hc] at q
      exact q.elim
end
end Pd

namespace Pd
open PySem L2
/-! ### comprehensions -/
def W0 : WX := fun _ _ _ _ => False
def wipeS (η : Sto) : List Nat → Sto
  | [] => η
  | v :: vs => (wipeS η vs).set v .no
def noOwn (η : Sto) (vs : List Nat) : Bool := vs.all fun v => match η[v]? with | some (.own _ _) => false | _ => true
/-- behind a turn the block's own slots are as they were -/
def restS (η ηb : Sto) (vs : List Nat) : Sto := ηb.mapIdx fun i s => if vs.contains i = true then (η[i]?).getD .no else s
def turnC (vs : List Nat) (g : D → MS) (mt : M Bool) (me : M D) (d : D) : M (Option D) := fun η => if noOwn η vs = true then (match g d (wipeS η vs) with
    | .nx η1 => (match mt η1 with
      | .ok true η2 => (match me η2 with
        | .ok y η3 => .ok (some y) (restS η η3 vs)
        | _ => .bad)
      | .ok false η2 => .ok none (restS η η2 vs)
      | _ => .bad)
    | _ => .bad) else .bad
def growC (acc : List D) : Option D → Option (List D)
  | some y => if lenOk acc.length = true then some (acc ++ [y]) else none
  | none => some acc
def compM (f : D → M (Option D)) : List D → List D → M (List D)
  | acc, [] => M.pure acc
  | acc, d :: r => M.bind (f d) fun o => M.bind (M.of (growC acc o)) fun acc' => compM f acc' r
theorem wipeS_get {η : Sto} {i : Nat} : ∀ {vs : List Nat}, (wipeS η vs)[i]? = if i ∈ vs then (η[i]?).map fun _ => Slot.no else η[i]?
  | [] => by simp [wipeS]
  | v :: vs => by
    unfold wipeS
    have ih := wipeS_get (η := η) (i := i) (vs := vs)
    by_cases hv : v = i
    · subst hv
      have el : (wipeS η vs).length = η.length := by
        clear ih
        induction vs with
        | nil => rfl
        | cons a vs ih => unfold wipeS; rw [List.length_set, ih]
      rw [if_pos List.mem_cons_self]
      by_cases hl : v < η.length
      · rw [List.getElem?_set_self (by rw [el]; exact hl), List.getElem?_eq_getElem hl]
        rfl
      · rw [List.getElem?_eq_none (by rw [List.length_set, el]; omega), List.getElem?_eq_none (by omega)]
        rfl
    · rw [List.getElem?_set_ne hv, ih]
      by_cases hm : i ∈ vs
      · rw [if_pos hm, if_pos (List.mem_cons_of_mem _ hm)]
      · rw [if_neg hm, if_neg (by simp only [List.mem_cons, not_or]; exact ⟨fun z => hv z.symm, hm⟩)]
theorem wipeS_len {η : Sto} : ∀ {vs : List Nat}, (wipeS η vs).length = η.length
  | [] => rfl
  | v :: vs => by unfold wipeS; rw [List.length_set, wipeS_len]
theorem wipe_get {σ : St} {i : Nat} : ∀ {vs : List Nat}, i ∉ vs → (wipe σ vs)[i]? = σ[i]?
  | [], _ => rfl
  | v :: vs, h => by
    simp only [List.mem_cons, not_or] at h
    unfold wipe
    rw [List.getElem?_set_ne (Ne.symm h.1), wipe_get h.2]
theorem wipe_eq {σ σ2 : St} : ∀ {vs : List Nat}, σ2.length = σ.length → (∀ j, j ∉ vs → σ2[j]? = (wipe σ vs)[j]?) → wipe σ2 vs = wipe σ vs := by
  intro vs hl h
  apply List.ext_getElem?
  intro i
  by_cases hi : i ∈ vs
  · have z : ∀ (τ : St), (wipe τ vs)[i]? = if i < τ.length then some none else none := by
      intro τ
      clear h
      induction vs with
      | nil => cases hi
      | cons v vs ih =>
        unfold wipe
        by_cases hv : v = i
        · subst hv
          by_cases hlt : v < τ.length
          · rw [List.getElem?_set_self (by rw [wipe_length]; exact hlt), if_pos hlt]
          · rw [List.getElem?_eq_none (by rw [List.length_set, wipe_length]; omega), if_neg hlt]
        · rw [List.getElem?_set_ne hv]
          exact ih ((List.mem_cons.mp hi).resolve_left fun z => hv z.symm)
    rw [z, z, hl]
  · rw [wipe_get hi]
    exact h i hi
theorem restS_get {η ηb : Sto} {vs : List Nat} {i : Nat} : (restS η ηb vs)[i]? = (ηb[i]?).map fun s => if i ∈ vs then (η[i]?).getD .no else s := by
  unfold restS
  rw [List.getElem?_mapIdx]
  cases ηb[i]? with
  | none => rfl
  | some s =>
    by_cases h : i ∈ vs
    · simp [h]
    · simp [h]
theorem noOwn_get {η : Sto} {vs : List Nat} (h : noOwn η vs = true) {i : Nat} {b : Bool} {d : D} (hi : i ∈ vs) : η[i]? ≠ some (.own b d) := fun e => by
  have := List.all_eq_true.mp h i hi
  rw [e] at this
  cases this
section
variable {X : Cx} {W : WX} {G : Addr → Prop} {η η1 : Sto} {σ σ1 : St} {H H1 : Hp} {vs : List Nat}
theorem wipe_fo (hn : noOwn η vs = true) {a : Addr} : Fo (wipeS η vs) (wipe σ vs) a ↔ Fo η σ a := by
  constructor
  · rintro ⟨i, b, d, e, q⟩
    rw [wipeS_get] at e
    by_cases hi : i ∈ vs
    · rw [if_pos hi] at e
      cases hx : η[i]? with
      | none => rw [hx] at e; cases e
      | some s => rw [hx] at e; cases e
    · rw [if_neg hi] at e
      rw [wipe_get hi] at q
      exact ⟨i, b, d, e, q⟩
  · rintro ⟨i, b, d, e, q⟩
    have hi : i ∉ vs := fun hi => noOwn_get hn hi e
    exact ⟨i, b, d, by rw [wipeS_get, if_neg hi]; exact e, by rw [wipe_get hi]; exact q⟩
theorem wipe_ok (hn : noOwn η vs = true) (ok : Ok G X.K η σ H) : Ok G X.K (wipeS η vs) (wipe σ vs) H := by
  have zo : ∀ a, Zo G (wipeS η vs) (wipe σ vs) a → Zo G η σ a := fun a z => z.imp id (wipe_fo hn).mp
  have get : ∀ (i : Nat) (s : Slot), (wipeS η vs)[i]? = some s → s ≠ .no → i ∉ vs ∧ η[i]? = some s := fun i s e hs => by
    rw [wipeS_get] at e
    by_cases hi : i ∈ vs
    · rw [if_pos hi] at e
      cases hx : η[i]? with
      | none => rw [hx] at e; cases e
      | some s' => rw [hx] at e; cases e; exact absurd rfl hs
    · rw [if_neg hi] at e
      exact ⟨hi, e⟩
  refine ⟨by rw [wipeS_len, wipe_length]; exact ok.len, fun i d e => ?_, fun i b d e => ?_, fun i j b b' d d' p e e' q q' => ?_, ok.dom, fun a g f => ok.dis a g ((wipe_fo hn).mp f)⟩
  · obtain ⟨hi, e1⟩ := get i _ e (by intro z; cases z)
    obtain ⟨v, e2, q⟩ := ok.val i d e1
    exact ⟨v, by rw [wipe_get hi]; exact e2, q.less zo⟩
  · obtain ⟨hi, e1⟩ := get i _ e (by intro z; cases z)
    obtain ⟨v, e2, q⟩ := ok.own i b d e1
    exact ⟨v, by rw [wipe_get hi]; exact e2, q.less zo⟩
  · obtain ⟨hi, e1⟩ := get i _ e (by intro z; cases z)
    obtain ⟨hj, e2⟩ := get j _ e' (by intro z; cases z)
    rw [wipe_get hi] at q
    rw [wipe_get hj] at q'
    exact ok.inj i j _ _ _ _ p e1 e2 q q'
/-- a turn's end: the slots outside of the block -/
theorem rest_ok {η2 : Sto} {σ2 : St} {H5 : Hp} (ok : Ok G X.K η σ H) (hn : noOwn η vs = true) (st : Step (Fo η σ) H H5) (ok5 : Ok G X.K η2 σ2 H5) (hσ : ∀ j, j ∉ vs → σ2[j]? = σ[j]?) (hl : σ2.length = σ.length)
    (sub : ∀ (j : Nat) (b : Bool) (d : D), j ∉ vs → η2[j]? = some (.own b d) → ∃ d', η[j]? = some (.own b d')) (fix : ∀ (j : Nat) (d : D), j ∉ vs → η[j]? = some (.own true d) → ∃ d', η2[j]? = some (.own true d'))
    (val : ∀ (j : Nat) (d : D), j ∉ vs → η2[j]? = some (.val d) → η[j]? = some (.val d)) : Ok G X.K (restS η η2 vs) σ H5 ∧ Shr η (restS η η2 vs) ∧ ∀ a, Fo (restS η η2 vs) σ a → Fo η2 σ2 a := by
  have len : η2.length = η.length := by rw [ok5.len, hl, ok.len]
  have gin : ∀ (i : Nat), i ∈ vs → (restS η η2 vs)[i]? = η[i]? := fun i hi => by
    rw [restS_get]
    cases q : η2[i]? with
    | none =>
      have : η.length ≤ i := by rw [← len]; exact List.getElem?_eq_none_iff.mp q
      rw [List.getElem?_eq_none this]
      rfl
    | some s =>
      have hlt : i < η.length := by rw [← len]; exact (List.getElem?_eq_some_iff.mp q).1
      rw [List.getElem?_eq_getElem hlt]
      simp [hi]
  have gout : ∀ (i : Nat), i ∉ vs → (restS η η2 vs)[i]? = η2[i]? := fun i hi => by
    rw [restS_get]
    cases η2[i]? with
    | none => rfl
    | some s => simp [hi]
  have fo : ∀ a, Fo (restS η η2 vs) σ a → Fo η2 σ2 a := fun a ⟨i, b, d, e, q⟩ => by
    by_cases hi : i ∈ vs
    · rw [gin i hi] at e
      exact absurd e (noOwn_get hn hi)
    · rw [gout i hi] at e
      exact ⟨i, b, d, e, by rw [hσ i hi]; exact q⟩
  have shr : Shr η (restS η η2 vs) := ⟨fun i b d e => by
      by_cases hi : i ∈ vs
      · rw [gin i hi] at e
        exact ⟨d, e⟩
      · rw [gout i hi] at e
        exact sub i b d hi e, fun i d e => by
      by_cases hi : i ∈ vs
      · exact ⟨d, by rw [gin i hi]; exact e⟩
      · obtain ⟨d', e'⟩ := fix i d hi e
        exact ⟨d', by rw [gout i hi]; exact e'⟩, fun i d e => by
      by_cases hi : i ∈ vs
      · rw [gin i hi] at e
        exact e
      · rw [gout i hi] at e
        exact val i d hi e⟩
  have zo : ∀ a, Zo G (restS η η2 vs) σ a → Zo G η2 σ2 a := fun a z => z.imp id (fo a)
  refine ⟨⟨by unfold restS; rw [List.length_mapIdx, len]; exact ok.len, fun i d e => ?_, fun i b d e => ?_, fun i j b b' d d' p e e' q q' => ?_, ok5.dom, fun a g f => ok5.dis a g (fo a f)⟩, shr, fo⟩
  · by_cases hi : i ∈ vs
    · rw [gin i hi] at e
      obtain ⟨v, e', q⟩ := ok.val i d e
      exact ⟨v, e', Den.move st (fun _ f => .inr f) (fun a z => .inl (shr.zo z)) d q⟩
    · rw [gout i hi] at e
      obtain ⟨v, e', q⟩ := ok5.val i d e
      exact ⟨v, by rw [← hσ i hi]; exact e', q.less zo⟩
  · by_cases hi : i ∈ vs
    · rw [gin i hi] at e
      exact absurd e (noOwn_get hn hi)
    · rw [gout i hi] at e
      obtain ⟨v, e', q⟩ := ok5.own i b d e
      exact ⟨v, by rw [← hσ i hi]; exact e', q.less zo⟩
  · have hi : i ∉ vs := fun hi => by rw [gin i hi] at e; exact noOwn_get hn hi e
    have hj : j ∉ vs := fun hj => by rw [gin j hj] at e'; exact noOwn_get hn hj e'
    rw [gout i hi] at e
    rw [gout j hj] at e'
    exact ok5.inj i j _ _ _ _ p e e' (by rw [hσ i hi]; exact q) (by rw [hσ j hj]; exact q')
/-- a tracked list that no slot owns and G guards, with one item more -/
theorem push_ok {p : Addr} {xs : List V} {v : V} (ok : Ok G X.K η σ H) (gp : G p) (hp : H p = some (.lst xs)) : Ok G X.K η σ (upd H p (.lst (xs ++ [v]))) ∧ Step (fun a => a = p) H (upd H p (.lst (xs ++ [v]))) := by
  have st : Step (fun a => a = p) H (upd H p (.lst (xs ++ [v]))) := same_but hp
  have fz : ∀ a, a = p → Zo G η σ a := fun a z => by rw [z]; exact .inl gp
  refine ⟨⟨ok.len, fun i d e => ?_, fun i b d e => ?_, ok.inj, fun a g => ?_, ok.dis⟩, st⟩
  · obtain ⟨w, e', q⟩ := ok.val i d e
    exact ⟨w, e', Den.move st fz (fun a z => .inl z) d q⟩
  · obtain ⟨q, e', c⟩ := ok.own i b d e
    refine ⟨q, e', Cell.move st fz (fun a z => .inl z) (fun o h => ?_) c⟩
    rw [upd_ne (fun z => ok.dis p gp ⟨i, b, d, e, by rw [← z]; exact e'⟩)]
    exact h
  · obtain ⟨o, e⟩ := ok.dom a g
    exact st.dom a o e
end
structure PTsd (X : Cx) (ifs : List Expr) (m : M Bool) : Prop where
  run : PTs X ifs (tT X W0 m)
theorem ptsd_nil {X : Cx} : PTsd X [] (M.pure true) := ⟨⟨fun pins s σ H Q I ⟨G, η, ok, h⟩ => pts_nil.run pins s σ H Q I (h true H .refl .refl ok rfl)⟩⟩
theorem ptsd_one {X : Cx} {c : Expr} {m : M Bool} (h : PTd X W0 c m) : PTsd X [c] m := ⟨pts_one h⟩
section
variable {X : Cx} {W : WX} {e tg iter elt : Expr} {ifs : List Expr} {pos : Pos} {g : D → MS} {ix vs : List Nat} {mi : M (List D)} {mt : M Bool} {me : M D} {σ : St} {H : Hp} {Q : VK}
def compL (vs : List Nat) (mi : M (List D)) (g : D → MS) (mt : M Bool) (me : M D) : M D := mi >>= fun ds => compM (turnC vs g mt me) [] ds >>= fun ys => pure (.lst ys)
/-- what a comprehension asks -/
theorem comp_read (hix : ∀ i ∈ ix, i ∈ vs) (h : tF X W (compL vs mi g mt me) σ H Q) : tLc (tI X W mi) (tGt X ix g) (tT X W0 mt) (tE X W0 me) vs σ H Q := by
  obtain ⟨G, η, ok, h⟩ := h
  refine ⟨G, η, ok, (Post.bind (R := fun η' H' ds J => Feeds X.K (Zo G η' σ) H' ds J) h).imp fun J H1 ⟨η1, ds, a1⟩ p hp => ?_⟩
  have hfeed := a1.r
  have hp0 : H p = none := a1.st.none_of hp
  refine ⟨fun i m H' => m = ds.length - i ∧ i ≤ ds.length ∧ ∃ η' acc xs, Shr η1 η' ∧ Step (Fo η1 σ) H1 H' ∧ Ok (fun a => G a ∨ a = p) X.K η' σ H' ∧ H' p = some (.lst xs) ∧ Dens (Zo (fun a => G a ∨ a = p) η' σ) X.K H' acc xs ∧
    Post X W G η1 σ H1 (RF X G σ H) Q ((compM (turnC vs g mt me) acc (ds.drop i) >>= fun ys => pure (.lst ys)) η'), ⟨ds.length, by simp, Nat.zero_le _, η1, [], [], .refl, .of_same (same_new hp), a1.ok.guard hp (same_new hp) upd_same, upd_same, .nil, by rw [List.drop_zero]; exact a1.post⟩, ?_⟩
  rintro i m H' ⟨rfl, hle, η', acc, xs, shr, st, ok', hp', dn, p'⟩
  have okG : Ok G X.K η' σ H' := ⟨ok'.len, fun i d e => by
      obtain ⟨v, e', q⟩ := ok'.val i d e
      exact ⟨v, e', q.less fun a z => z.imp .inl id⟩, fun i b d e => by
      obtain ⟨v, e', q⟩ := ok'.own i b d e
      exact ⟨v, e', q.less fun a z => z.imp .inl id⟩, ok'.inj, fun a g => ok'.dom a (.inl g), fun a g => ok'.dis a (.inl g)⟩
  have hf := hfeed (Fo η1 σ) (Zo (fun a => G a ∨ a = p) η' σ) H' st (fun a f => .inr f) (fun a z => by
    rcases z with (z | z) | z
    · exact .inl (.inl z)
    · exact .inr (by rw [z]; exact hp)
    · exact .inl (.inr (shr.fo z))) i
  by_cases hlt : i < ds.length
  · obtain ⟨d, ed⟩ : ∃ d, ds[i]? = some d := ⟨ds[i], List.getElem?_eq_getElem hlt⟩
    have edr : ds.drop i = d :: ds.drop (i + 1) := by
      rw [List.drop_eq_getElem_cons hlt]
      rw [List.getElem?_eq_getElem hlt] at ed
      cases ed
      rfl
    rw [edr] at p'
    refine .inr ⟨hf.1 hlt, fun H2 => ∃ η2 acc xs, Shr η1 η2 ∧ Step (Fo η1 σ) H1 H2 ∧ Ok (fun a => G a ∨ a = p) X.K η2 σ H2 ∧ H2 p = some (.lst xs) ∧ Dens (Zo (fun a => G a ∨ a = p) η2 σ) X.K H2 acc xs ∧
      Post X W G η1 σ H1 (RF X G σ H) Q ((compM (turnC vs g mt me) acc (ds.drop (i + 1)) >>= fun ys => pure (.lst ys)) η2), fun H2 q => ⟨ds.length - (i + 1), by omega, rfl, hlt, q⟩, fun x H2 hy => ?_⟩
    obtain ⟨same, dx⟩ := hf.2.2 d x H2 ed hy
    have ok2 := ok'.same same
    have dn2 := dn.same same
    have hp2 := same _ _ hp'
    -- the turn's function at η'
    have p0 : Post X W G η1 σ H1 (RF X G σ H) Q (M.bind (M.bind (turnC vs g mt me d) fun o => M.bind (M.of (growC acc o)) fun acc' => compM (turnC vs g mt me) acc' (ds.drop (i + 1))) (fun ys => M.pure (.lst ys)) η') := p'
    have et : turnC vs g mt me d η' = if noOwn η' vs = true then (match g d (wipeS η' vs) with
      | .nx η1 => (match mt η1 with
        | .ok true η2 => (match me η2 with
          | .ok y η3 => .ok (some y) (restS η' η3 vs)
          | _ => .bad)
        | .ok false η2 => .ok none (restS η' η2 vs)
        | _ => .bad)
      | _ => .bad) else .bad := rfl
    have eb : ∀ (r : Res (Option D)), turnC vs g mt me d η' = r → Post X W G η1 σ H1 (RF X G σ H) Q (match r with | .ok o η'' => ((M.of (growC acc o) >>= fun acc' => compM (turnC vs g mt me) acc' (ds.drop (i + 1))) >>= fun ys => pure (.lst ys)) η'' | .exc c η'' => .exc c η'' | .bad => .bad) := fun r e => by
      have q := p0
      unfold M.bind at q
      rw [e] at q
      cases r with
      | ok o η'' => exact q
      | exc c η'' => exact q
      | bad => exact q
    have p0 := eb _ rfl
    rw [et] at p0
    by_cases hn : noOwn η' vs = true
    · rw [if_pos hn] at p0
      have okw := wipe_ok (vs := vs) hn ok2
      refine ⟨fun a => G a ∨ a = p, wipeS η' vs, d, okw, dx.less fun a z => z.imp id (wipe_fo hn).mp, ?_⟩
      cases qg : g d (wipeS η' vs) with
      | nx η2 =>
        rw [qg] at p0
        intro σ2 H3 s3 ok3 u3
        have hσ : ∀ j, j ∉ vs → σ2[j]? = σ[j]? := fun j hj => (u3.2 j fun z => hj (hix j z)).1.trans (wipe_get hj)
        have hη : ∀ j, j ∉ vs → η2[j]? = η'[j]? := fun j hj => by
          rw [(u3.2 j fun z => hj (hix j z)).2, wipeS_get, if_neg hj]
        have hl : σ2.length = σ.length := u3.1.trans (wipe_length σ vs)
        have stw : Step (Fo η' σ) H2 H3 := s3.st.wider fun a f => (wipe_fo hn).mp f
        have fo23 : ∀ a, Fo η2 σ2 a → Fo η' σ a ∨ H2 a = none := fun a f => (s3.grow a f).imp (wipe_fo hn).mp id
        -- behind the test, the element: back to the outer slots
        have fin : ∀ {η4 : Sto} {H5 : Hp}, Shr η2 η4 → Step (Fo η2 σ2) H3 H5 → Ok (fun a => G a ∨ a = p) X.K η4 σ2 H5 →
            Ok (fun a => G a ∨ a = p) X.K (restS η' η4 vs) σ H5 ∧ Shr η' (restS η' η4 vs) ∧ (∀ a, Fo (restS η' η4 vs) σ a → Fo η4 σ2 a) ∧ Step (Fo η' σ) H2 H5 := fun {η4 H5} s4 t4 ok5 => by
          have t5 : Step (Fo η' σ) H2 H5 := stw.trans t4 fo23
          obtain ⟨r1, r2, r3⟩ := rest_ok ok2 hn t5 ok5 hσ hl (fun j b d hj e => by
            obtain ⟨d', e'⟩ := s4.sub j b d e
            rw [hη j hj] at e'
            exact ⟨d', e'⟩) (fun j d hj e => s4.fix j d (by rw [hη j hj]; exact e)) (fun j d hj e => by
            have := s4.val j d e
            rw [hη j hj] at this
            exact this)
          exact ⟨r1, r2, r3, t5⟩
        have stp : ∀ {H5 : Hp}, Step (Fo η' σ) H2 H5 → Step (Fo η1 σ) H1 H5 := fun {H5} t5 => (st.trans (Step.of_same (F := fun _ => False) same) fun a f => f.elim).trans t5 fun a f => .inl (shr.fo f)
        have keepp : ∀ {H5 : Hp}, Step (Fo η' σ) H2 H5 → H5 p = some (.lst xs) := fun {H5} t5 => t5.keep p _ hp2 (ok2.dis p (.inr rfl))
        refine ⟨wipe_eq hl fun j hj => (hσ j hj).trans (wipe_get hj).symm, fun a => G a ∨ a = p, η2, ok3, ?_⟩
        simp only at p0
        cases qt : mt η2 with
        | ok b η3 =>
          rw [qt] at p0
          intro b' H4 s4 t4 ok4 eb
          have eb' : b = b' := eb
          subst eb'
          cases b with
          | false =>
            refine iteF ?_
            obtain ⟨r1, r2, r3, t5⟩ := fin s4 t4 ok4
            have p1 : Post X W G η1 σ H1 (RF X G σ H) Q ((compM (turnC vs g mt me) acc (ds.drop (i + 1)) >>= fun ys => pure (.lst ys)) (restS η' η3 vs)) := p0
            exact ⟨_, acc, xs, shr.trans r2, stp t5, r1, keepp t5, Dens.move t5 (fun _ f => .inr f) (fun a z => .inl (r2.zo z)) acc dn2, p1⟩
          | true =>
            refine iteT ⟨fun a => G a ∨ a = p, η3, ok4, ?_⟩
            simp only at p0
            cases qe : me η3 with
            | ok y η4 =>
              rw [qe] at p0
              intro v H5 s5 t5 ok5 dv
              obtain ⟨r1, r2, r3, t6⟩ := fin (s4.trans s5) (t4.trans t5 fun a f => .inl (s4.fo f)) ok5
              have p1 : Post X W G η1 σ H1 (RF X G σ H) Q (((M.of (growC acc (some y)) >>= fun acc' => compM (turnC vs g mt me) acc' (ds.drop (i + 1))) >>= fun ys => pure (.lst ys)) (restS η' η4 vs)) := p0
              unfold growC at p1
              simp only at p1
              by_cases hlen : lenOk acc.length = true
              · rw [if_pos hlen] at p1
                obtain ⟨k1, k2⟩ := push_ok (v := v) r1 (.inr rfl) (keepp t6)
                have fz : ∀ a, a = p → Zo (fun a => G a ∨ a = p) (restS η' η4 vs) σ a := fun a z => .inl (.inr z)
                refine ⟨xs, keepp t6, by rw [← dn.length]; exact lenOk_lt hlen, restS η' η4 vs, acc ++ [y], xs ++ [v], shr.trans r2, (stp t6).trans k2 fun a z => .inr (by rw [z]; exact hp), k1, upd_same, ?_, p1⟩
                refine Dens.append (Dens.move k2 fz (fun a z => .inl z) acc (Dens.move t6 (fun _ f => .inr f) (fun a z => .inl (r2.zo z)) acc dn2)) (.cons (Den.move k2 fz (fun a z => .inl z) y (dv.less fun a z => z.imp id (r3 a))) .nil)
              · rw [if_neg hlen] at p1
                exact p1.elim
            | exc c η4 => rw [qe] at p0; exact False.elim p0
            | bad => rw [qe] at p0; exact False.elim p0
        | exc c η3 => rw [qt] at p0; exact False.elim p0
        | bad => rw [qt] at p0; exact False.elim p0
      | _ =>
        rw [qg] at p0
        exact False.elim p0
    · rw [if_neg hn] at p0
      exact p0.elim
  · have e : i = ds.length := by omega
    subst e
    rw [List.drop_length] at p'
    refine .inl ⟨hf.2.1 (Nat.le_refl _), ?_⟩
    have p2 : Post X W G η1 σ H1 (RF X G σ H) Q (.ok (.lst acc) η') := p'
    refine p2 (.ref p) H' shr st okG ⟨p, rfl, hp0, ⟨xs, hp', dn.less fun a z => ?_⟩, ok'⟩
    rcases z with z | z
    · exact z.imp .inl id
    · exact .inl (.inr z)
/-- [elt for target in iter if ..] -/
theorem pf_comp {scope : Scope} {own : List (Str × Nat)} (hc : X.calm = true) (hN : X.N.Nodup) (hi : PId X W tg iter mi) (ok : BlkOk X.N X.env.scope scope own)
    (hg : ∀ (s : Shared) (H : Hp) (C : Addr) (cl : List (Str × Addr)) (fp : List Addr), PGd (X.blk s H scope (compEnvC scope cl C X.env) fp) tg ix g)
    (ht : ∀ (s : Shared) (H : Hp) (C : Addr) (cl : List (Str × Addr)) (fp : List Addr), PTsd (X.blk s H scope (compEnvC scope cl C X.env) fp) ifs mt)
    (he : ∀ (s : Shared) (H : Hp) (C : Addr) (cl : List (Str × Addr)) (fp : List Addr), PEd (X.blk s H scope (compEnvC scope cl C X.env) fp) W0 elt me)
    (hix : ∀ i ∈ ix, i ∈ own.map (·.2) := by decide) (hs : ∀ x, foldedSetIterable iter X.env x = pure x := by intro _; rfl) :
    PFd X W (.ListComp elt [⟨tg, iter, ifs, 0⟩] scope pos) (compL (own.map (·.2)) mi g mt me) :=
  PE.weak (pe_lc (g := tGt X ix g) (tt := tT X W0 mt) (te := tE X W0 me) hc hN hi ok hg (fun s H C cl fp => (ht s H C cl fp).run) he hs) fun σ H Q h => comp_read hix h
variable {S : S0} {fr : Bool}
/-- x = [..], x owned from here on -/
theorem psd_ownC (i : Nat) {y : Str} {py : Pos} {scope : Scope} {own : List (Str × Nat)} {spos : Pos} (hc : X.calm = true) (hN : X.N.Nodup)
    (hsw : swapsWith (.ListComp elt [⟨tg, iter, ifs, 0⟩] scope pos) (some (.Name y py)) spos.line X.env = pure true) (hi : PId X W tg iter mi) (ok : BlkOk X.N X.env.scope scope own)
    (hg : ∀ (s : Shared) (H : Hp) (C : Addr) (cl : List (Str × Addr)) (fp : List Addr), PGd (X.blk s H scope (compEnvC scope cl C X.env) fp) tg ix g)
    (ht : ∀ (s : Shared) (H : Hp) (C : Addr) (cl : List (Str × Addr)) (fp : List Addr), PTsd (X.blk s H scope (compEnvC scope cl C X.env) fp) ifs mt)
    (he : ∀ (s : Shared) (H : Hp) (C : Addr) (cl : List (Str × Addr)) (fp : List Addr), PEd (X.blk s H scope (compEnvC scope cl C X.env) fp) W0 elt me)
    (hix : ∀ i ∈ ix, i ∈ own.map (·.2) := by decide) (hy : X.N[i]? = some y := by rfl) (hyl : X.env.scope.names.lookup y = some .local := by rfl) (hs : ∀ x, foldedSetIterable iter X.env x = pure x := by intro _; rfl) :
    PSd X W S fr (.Assign [.Name y py] (.ListComp elt [⟨tg, iter, ifs, 0⟩] scope pos) spos) (thenS (compL (own.map (·.2)) mi g mt me) fun d => ownS i d) :=
  PS.weak (ps_setLc (g := tGt X ix g) (tt := tT X W0 mt) (te := tE X W0 me) hc hN hy hyl hsw hi ok hg (fun s H C cl fp => (ht s H C cl fp).run) he hs) fun Dn σ H ⟨G, η, t, ok, h⟩ => comp_read hix (Q := fun x H1 => gName i x σ H1 Dn.nx) ⟨G, η, ok, own_post ok h⟩
/-- x = [..] -/
theorem psd_setC (i : Nat) {y : Str} {py : Pos} {scope : Scope} {own : List (Str × Nat)} {spos : Pos} (hc : X.calm = true) (hN : X.N.Nodup)
    (hsw : swapsWith (.ListComp elt [⟨tg, iter, ifs, 0⟩] scope pos) (some (.Name y py)) spos.line X.env = pure true) (hi : PId X W tg iter mi) (ok : BlkOk X.N X.env.scope scope own)
    (hg : ∀ (s : Shared) (H : Hp) (C : Addr) (cl : List (Str × Addr)) (fp : List Addr), PGd (X.blk s H scope (compEnvC scope cl C X.env) fp) tg ix g)
    (ht : ∀ (s : Shared) (H : Hp) (C : Addr) (cl : List (Str × Addr)) (fp : List Addr), PTsd (X.blk s H scope (compEnvC scope cl C X.env) fp) ifs mt)
    (he : ∀ (s : Shared) (H : Hp) (C : Addr) (cl : List (Str × Addr)) (fp : List Addr), PEd (X.blk s H scope (compEnvC scope cl C X.env) fp) W0 elt me)
    (hix : ∀ i ∈ ix, i ∈ own.map (·.2) := by decide) (hy : X.N[i]? = some y := by rfl) (hyl : X.env.scope.names.lookup y = some .local := by rfl) (hs : ∀ x, foldedSetIterable iter X.env x = pure x := by intro _; rfl) :
    PSd X W S fr (.Assign [.Name y py] (.ListComp elt [⟨tg, iter, ifs, 0⟩] scope pos) spos) (thenS (compL (own.map (·.2)) mi g mt me) fun d => setS i d) :=
  PS.weak (ps_setLc (g := tGt X ix g) (tt := tT X W0 mt) (te := tE X W0 me) hc hN hy hyl hsw hi ok hg (fun s H C cl fp => (ht s H C cl fp).run) he hs) fun Dn σ H ⟨G, η, t, ok, h⟩ => comp_read hix (Q := fun x H1 => gName i x σ H1 Dn.nx) ⟨G, η, ok, by
    have h2 : Post X W G η σ H (RD X G σ) (fun x H1 => Dn.nx (σ.set i (some x)) H1) (compL (own.map (·.2)) mi g mt me η) := (PostS.bind (R := RD X G σ) h).imp fun x H1 ⟨η1, d, a1⟩ => by
      have q := a1.post
      unfold setS at q
      by_cases hc : canSet η1 i = true
      · rw [if_pos hc] at q
        obtain ⟨o, s, _⟩ := set_ok hc a1.ok a1.r
        exact q _ _ s o
      · rw [if_neg hc] at q
        exact q.elim
    exact h2.rel fun η' H' d v s1 s2 o ⟨p, ev, hn, c, _⟩ => by
      have np : ¬ Zo G η' σ p := fun z => by
        obtain ⟨o, e⟩ := ok.domZ (s1.zo z)
        rw [hn] at e
        cases e
      cases d with
      | lst ds =>
        obtain ⟨xs, e, q⟩ := c
        exact ⟨p, xs, ev, np, e, q.less fun a z => .inl z⟩
      | dct ks ds =>
        obtain ⟨kvs, e, r, q⟩ := c
        exact ⟨p, kvs, ev, np, e, r, q.less fun a z => .inl z⟩
      | _ => exact False.elim c⟩
end
end Pd

namespace Pd
open PySem L2
/-! ### further calls -/
section
variable {X : Cx} {W : WX} {e : Expr} {es : List Expr} {pos p kpos : Pos} {k n n1 : Nat} {f : Addr} {fd : FuncData} {ps ks : List Str} {x : Str} {fm : M D} {jo : Option Nat} {m mk : M (List AV)} {m1 : M AV} {kws : List Keyword} {nm : Option Str}
/-- what may not be raised here -/
def noX {α : Type} (m : M α) : M α := fun η => match m η with
  | .exc _ _ => .bad
  | r => r
theorem noX_post {α β : Type} {G : Addr → Prop} {η : Sto} {σ : St} {H : Hp} {R : Sto → Hp → α → β → Prop} {Q : β → Hp → Prop} {m : M α} (h : Post X W G η σ H R Q (noX m η)) : Post X W0 G η σ H R Q (m η) := by
  unfold noX at h
  cases q : m η with
  | ok a η' => rw [q] at h; exact h
  | exc c η' => rw [q] at h; exact h.elim
  | bad => rw [q] at h; exact h
theorem passN {X : Cx} {σ : St} : Passes (L2.CX X.prog X.w) X (WE W0 σ) := passL
/-- f() -/
theorem pd_call0 (F : FnOk X.prog X.w X.K X.mg X.base (L2.CX X.prog X.w) k f fd ps (spD X.K X.mg 0 fm)) (hr : Room k X.A) (hg : Gl X x) (hm : X.mg x = some (.ref f)) (hk : PySem.W.keepIn X.K (.ref f) = true) (hb : Binds X.K fd ps [])
    (hdb : (x == ("__debug__" : Str)) = false := by decide) : PEd X W (.Call (.Name x p) [] [] pos) (noX (callM noLst fm none [])) :=
  PE.weak (pe_call0 (E := E0) (dvs := []) F hr hg hm hk hb .nil passL hdb) fun σ H Q ⟨G, η, ok, h⟩ => call_sp (W := W0) (σ := σ) rfl ok .nil (noX_post h)
/-- keywords in the parameters' order -/
structure KB (K : PySem.W.Frag) (fd : FuncData) (ps ks : List Str) (n1 : Nat) : Prop where
  to : ∀ (s : Shared) (us ws : List Value), K.In s.heap → us.length = n1 → ws.length = ks.length → BindsTo s fd ⟨us, ks.zip ws⟩ (ps.zip (us ++ ws))
def PVKd (X : Cx) (W : WX) (kws : List Keyword) (m : M (List AV)) : Prop := PK X kws (tVs X W m)
theorem PK.weak {t u : TA} (h : PK X kws t) (i : ∀ σ H Q, u σ H Q → t σ H Q) : PK X kws u := ⟨fun wh pins s σ H Q I q => h.run wh pins s σ H Q I (i σ H Q q)⟩
theorem pvk_nil : PVKd X W [] (M.pure []) := PK.weak pk_nil fun σ H Q ⟨G, η, ok, h⟩ => h [] H .refl .refl ok .nil
theorem pvk_cons {ms : M (List AV)} (ha : PVd X W e m1) (hr : PVKd X W kws ms) : PVKd X W (⟨nm, e, kpos⟩ :: kws) (do let d ← m1; let ds ← ms; pure (d :: ds)) :=
  PK.weak (pk_cons ha hr) fun σ H Q ⟨G, η, ok, h⟩ => ⟨G, η, ok, (Post.bind (R := RV X G σ) h).imp fun x H1 ⟨η1, d, a1⟩ => ⟨G, η1, a1.ok, (Post.bind (R := RVs X G σ) a1.post).imp fun xs H2 ⟨η2, ds, a2⟩ =>
    a2.post (x :: xs) H2 .refl .refl a2.ok (.cons (carryV a2.shr a2.st a1.r) a2.r)⟩⟩
theorem paired_append {α β : Type} {R : α → β → Prop} : ∀ {l l' : List α} {m m' : List β}, Paired R l m → Paired R l' m' → Paired R (l ++ l') (m ++ m')
  | _, _, _, _, .nil, h => h
  | _, _, _, _, .cons r t, h => .cons r (paired_append t h)
theorem paired_map {α β : Type} {R R' : α → β → Prop} (i : ∀ a b, R a b → R' a b) : ∀ {l : List α} {m : List β}, Paired R l m → Paired R' l m
  | _, _, .nil => .nil
  | _, _, .cons r t => .cons (i _ _ r) (paired_map i t)
def tKW (n1 n2 : Nat) (sp : Sp) (E : St → XK) (t tk : TA) : TE := fun σ H Q => t σ H fun vs H1 => tk σ H1 fun zs H2 => vs.length = n1 ∧ zs.length = n2 ∧ sp (vs ++ zs) H2 Q (E σ)
theorem run_kw {pins : List (Addr × Obj)} {σ : St} {H : Hp} {s : Shared} {Q : VK} {us ws : List Value} {vs zs : List V} {sp : Sp} {E : St → XK} (F : FnOk X.prog X.w X.K X.mg X.base (L2.CX X.prog X.w) k f fd ps sp) (hr : Room k X.A) (hb : KB X.K fd ps ks n1) (hx : PassesAt (L2.CX X.prog X.w) X σ (E σ))
    (I : Inv X pins σ H s) (r : L2.Vals vs us) (rz : L2.Vals zs ws) (h1 : vs.length = n1) (h2 : zs.length = ks.length) (h : sp (vs ++ zs) H Q (E σ)) : wpAny (model X.prog X.w) X.A (call (.ref f) us (ks.zip ws)) (EP X pins σ Q) X.xe s := by
  refine wpAny_call (codeAny_mono (F.run X.A X.stack s H ⟨us, ks.zip ws⟩ (us ++ ws) (vs ++ zs) Q (E σ) hr I.env0 (hb.to s us ws I.kIn (r.length.symm.trans h1) (rz.length.symm.trans h2)) (r.append rz) h) fun r s' hq => ?_)
  match r, hq with
  | .error e, hq => exact hx pins H s e s' I hq
  | .ok (.ret u), hq => exact I.after hq
theorem pe_kw {sp : Sp} {E : St → XK} {t tk : TA} (F : FnOk X.prog X.w X.K X.mg X.base (L2.CX X.prog X.w) k f fd ps sp) (hr : Room k X.A) (hg : Gl X x) (hm : X.mg x = some (.ref f)) (hk : PySem.W.keepIn X.K (.ref f) = true) (hb : KB X.K fd ps ks n1) (hx : ∀ σ, PassesAt (L2.CX X.prog X.w) X σ (E σ))
    (ha : PA X (e :: es) t) (hkw : PK X kws tk) (hall : (backToKw pos (keywordEach kws X.env)).all (·.1.isSome) = true := by rfl) (hks : (backToKw pos (keywordEach kws X.env)).filterMap (·.1) = ks := by rfl)
    (hdb : (x == ("__debug__" : Str)) = false := by decide) (he : starEach (e :: es) X.env = (false, eval e X.env) :: starEach es X.env := by rfl)
    (hpl : ((backTo pos (starEach (e :: es) X.env)).any (·.1) || (backToKw pos (keywordEach kws X.env)).any (·.1.isNone)) = false := by rfl) : PE X (.Call (.Name x p) (e :: es) kws pos) (tKW n1 ks.length sp E t tk) := by
  refine ⟨fun pins s σ H Q I h => wpAny_Call_Name_kw (ld_glob I hg hm (PySem.W.callWith_KW (h₀ := X.base) I.ok.mod.kin hk hall (thn (ha.run pos pins s σ H _ I h) fun us s1 ⟨vs, H1, I1, r, q⟩ =>
    thn (hkw.run pos pins s1 σ H1 _ I1 q) fun ws s2 ⟨zs, H2, I2, rz, l1, l2, q2⟩ => ⟨I2.kIn, ?_⟩) hpl he) hdb)⟩
  rw [hks]
  exact run_kw F hr hb (hx σ) I2 r rz l1 l2 q2
theorem pe_kw0 {sp : Sp} {E : St → XK} {tk : TA} (F : FnOk X.prog X.w X.K X.mg X.base (L2.CX X.prog X.w) k f fd ps sp) (hr : Room k X.A) (hg : Gl X x) (hm : X.mg x = some (.ref f)) (hk : PySem.W.keepIn X.K (.ref f) = true) (hb : KB X.K fd ps ks 0) (hx : ∀ σ, PassesAt (L2.CX X.prog X.w) X σ (E σ))
    (hkw : PK X kws tk) (hall : (backToKw pos (keywordEach kws X.env)).all (·.1.isSome) = true := by rfl) (hks : (backToKw pos (keywordEach kws X.env)).filterMap (·.1) = ks := by rfl)
    (hdb : (x == ("__debug__" : Str)) = false := by decide)
    (hpl : ((backTo pos (starEach [] X.env)).any (·.1) || (backToKw pos (keywordEach kws X.env)).any (·.1.isNone)) = false := by rfl) : PE X (.Call (.Name x p) [] kws pos) (tKW 0 ks.length sp E tNil tk) := by
  refine ⟨fun pins s σ H Q I h => wpAny_Call_Name_kw (ld_glob I hg hm (PySem.W.callWith_KW0 (h₀ := X.base) I.ok.mod.kin hk hall (thn (hkw.run pos pins s σ H _ I h) fun ws s2 ⟨zs, H2, I2, rz, l1, l2, q2⟩ => ⟨I2.kIn, ?_⟩) hpl) hdb)⟩
  rw [hks]
  exact run_kw (us := []) F hr hb (hx σ) I2 .nil rz rfl l2 q2
/-- f(e, .., k = v, ..), the keywords in the parameters' order -/
theorem pd_callK (F : FnOk X.prog X.w X.K X.mg X.base (L2.CX X.prog X.w) k f fd ps (spD X.K X.mg n fm)) (jo : Option Nat) (tk : Takes X W) (hr : Room k X.A) (hg : Gl X x) (hm : X.mg x = some (.ref f)) (hk : PySem.W.keepIn X.K (.ref f) = true) (hb : KB X.K fd ps ks n1)
    (ha : PVAd X W (e :: es) m) (hkw : PVKd X W kws mk) (hall : (backToKw pos (keywordEach kws X.env)).all (·.1.isSome) = true := by rfl) (hks : (backToKw pos (keywordEach kws X.env)).filterMap (·.1) = ks := by rfl)
    (hdb : (x == ("__debug__" : Str)) = false := by decide) (he : starEach (e :: es) X.env = (false, eval e X.env) :: starEach es X.env := by rfl)
    (hpl : ((backTo pos (starEach (e :: es) X.env)).any (·.1) || (backToKw pos (keywordEach kws X.env)).any (·.1.isNone)) = false := by rfl) :
    PEd X W (.Call (.Name x p) (e :: es) kws pos) (do let as ← m; let as ← lenM n1 as; let zs ← mk; let zs ← lenM ks.length zs; let as ← lenM n (as ++ zs); callM noLst fm jo as) :=
  PE.weak (pe_kw F hr hg hm hk hb (fun σ => passAt tk σ) ha hkw hall hks hdb he hpl) fun σ H Q ⟨G, η, ok, h⟩ => ⟨G, η, ok, (Post.bind (R := RVs X G σ) h).imp fun vs H1 ⟨η1, avs, a1⟩ =>
    let q := lenM_post a1.post; ⟨G, η1, a1.ok, (Post.bind (R := RVs X G σ) q.2).imp fun zs H2 ⟨η2, azs, a2⟩ => by
      have q2 := lenM_post a2.post
      have q3 := lenM_post q2.2
      have r1 : Paired (RV X G σ η2 H2) avs vs := paired_map (fun a b r => carryV a2.shr a2.st r) a1.r
      exact ⟨by rw [← r1.length]; exact q.1, by rw [← a2.r.length]; exact q2.1, call_sp q3.1 a2.ok (paired_append r1 a2.r) q3.2⟩⟩⟩
theorem pd_callK0 (F : FnOk X.prog X.w X.K X.mg X.base (L2.CX X.prog X.w) k f fd ps (spD X.K X.mg n fm)) (jo : Option Nat) (tk : Takes X W) (hr : Room k X.A) (hg : Gl X x) (hm : X.mg x = some (.ref f)) (hk : PySem.W.keepIn X.K (.ref f) = true) (hb : KB X.K fd ps ks 0)
    (hkw : PVKd X W kws mk) (hall : (backToKw pos (keywordEach kws X.env)).all (·.1.isSome) = true := by rfl) (hks : (backToKw pos (keywordEach kws X.env)).filterMap (·.1) = ks := by rfl)
    (hdb : (x == ("__debug__" : Str)) = false := by decide) (hpl : ((backTo pos (starEach [] X.env)).any (·.1) || (backToKw pos (keywordEach kws X.env)).any (·.1.isNone)) = false := by rfl) :
    PEd X W (.Call (.Name x p) [] kws pos) (do let zs ← mk; let zs ← lenM ks.length zs; let as ← lenM n zs; callM noLst fm jo as) :=
  PE.weak (pe_kw0 F hr hg hm hk hb (fun σ => passAt tk σ) hkw hall hks hdb hpl) fun σ H Q ⟨G, η, ok, h⟩ => ⟨G, η, ok, (Post.bind (R := RVs X G σ) h).imp fun zs H2 ⟨η2, azs, a2⟩ => by
      have q2 := lenM_post a2.post
      have q3 := lenM_post q2.2
      exact ⟨rfl, by rw [← a2.r.length]; exact q2.1, call_sp q3.1 a2.ok a2.r q3.2⟩⟩
/-- {} -/
theorem pf_emp : PFd X W (.Dict [] [] pos) (M.pure (.dct [] [])) := PE.weak pe_dnewK fun σ H Q ⟨G, η, ok, h⟩ => fun d hd => h (.ref d) _ .refl (.of_same (same_new hd)) (ok.same (same_new hd)) ⟨d, rfl, hd, ⟨[], upd_same, rfl, .nil⟩, ok.guard hd (same_new hd) upd_same⟩
end

/-! ### try -/
section
open PySem.W
variable {X : Cx} {W : WX} {S : S0} {fr : Bool} {body suite : List Stmt} {b₀ : Stmt} {np pos pos' : Pos} {mb : MS} {G : Addr → Prop} {Dn : Ends} {η : Sto} {σ : St} {H : Hp}
/-- a slot of no use is changed -/
theorem no_ok {i : Nat} {x : Option V} (ok : Ok G X.K η σ H) (hc : canSet η i = true) : Ok G X.K (η.set i .no) (σ.set i x) H ∧ StepS η σ H (η.set i .no) (σ.set i x) H := by
  have hi := canSet_lt hc
  have get : ∀ (j : Nat) (s : Slot), (η.set i Slot.no)[j]? = some s → s ≠ .no → j ≠ i ∧ η[j]? = some s := fun j s e hs => by
    by_cases hj : j = i
    · subst hj
      rw [List.getElem?_set_self hi] at e
      cases e
      exact absurd rfl hs
    · rw [List.getElem?_set_ne (Ne.symm hj)] at e
      exact ⟨hj, e⟩
  have gs : ∀ j, j ≠ i → (σ.set i x)[j]? = σ[j]? := fun j hj => List.getElem?_set_ne (Ne.symm hj)
  have fo : ∀ a, Fo (η.set i .no) (σ.set i x) a → Fo η σ a := fun a ⟨j, b, d, e, q⟩ => by
    obtain ⟨hj, e'⟩ := get j _ e (by intro z; cases z)
    rw [gs j hj] at q
    exact ⟨j, b, d, e', q⟩
  have zo : ∀ a, Zo G (η.set i .no) (σ.set i x) a → Zo G η σ a := fun a z => z.imp id (fo a)
  refine ⟨⟨by rw [List.length_set, List.length_set]; exact ok.len, fun j d e => ?_, fun j b d e => ?_, fun j k b b' d d' p e e' q q' => ?_, ok.dom, fun a g f => ok.dis a g (fo a f)⟩, ⟨.refl, fun a f => .inl (fo a f), fun j d e => ?_⟩⟩
  · obtain ⟨hj, e'⟩ := get j _ e (by intro z; cases z)
    obtain ⟨v, e2, q⟩ := ok.val j d e'
    exact ⟨v, by rw [gs j hj]; exact e2, q.less zo⟩
  · obtain ⟨hj, e'⟩ := get j _ e (by intro z; cases z)
    obtain ⟨v, e2, q⟩ := ok.own j b d e'
    exact ⟨v, by rw [gs j hj]; exact e2, q.less zo⟩
  · obtain ⟨hj, e1⟩ := get j _ e (by intro z; cases z)
    obtain ⟨hk, e2⟩ := get k _ e' (by intro z; cases z)
    rw [gs j hj] at q
    rw [gs k hk] at q'
    exact ok.inj j k _ _ _ _ p e1 e2 q q'
  · have hj : j ≠ i := fun z => by
      subst z
      exact canSet_no hc d e
    rw [gs j hj, List.getElem?_set_ne (Ne.symm hj)]
    exact ⟨⟨d, e⟩, rfl⟩
/-- what a handler's suite reads: slot i holds the exception at a, of the class called c -/
def tXs (X : Cx) (S : S0) (fr : Bool) (i : Nat) (a : Addr) (mc : MS) : TS := fun Dn σ H => ∃ G η, S.to η σ H ∧ Ok G X.K η σ H ∧ σ[i]? = some (some (V.ref a)) ∧ PostS X W0 S fr G Dn η σ H (mc η)
def sufS (i : Nat) : SRes → SRes
  | .nx η => if canSet η i = true then .nx (η.set i .no) else .bad
  | .rt d η => .rt d η
  | _ => .bad
/-- cl: what the clause does with an exception of a name: none, if the name is not looked at; some b: whether it is taken -/
def tryS (cl : Str → Option Bool) (i : Nat) (mb : MS) (ms : Str → MS) : MS := fun η => match mb η with
  | .exc c η' => (match cl c with
    | some true => if canSet η' i = true then sufS i (ms c (η'.set i .no)) else .bad
    | some false => .exc c η'
    | none => .bad)
  | r => r
theorem psd_try_as (i : Nat) {x n : Str} {C : Addr} (cl : Str → Option Bool) (ms : Str → MS) (hs : X.stack = X.env :: X.outer) (hf : X.env.frame = some X.env.locals) (hN : X.N.Nodup) (tk : Takes X W) (hc : Names X x (.ref C))
    (hcl : ∀ c D b, cl c = some b → X.mg c = some (.ref D) → exmOne X.K (.ref D) (.ref C) = some b)
    (hb : ∀ (W' : WX) (pn : List (Addr × Obj)) (xe : Value → Shared → Prop), Takes (X.tr pn xe) W' → PassesOwn (model X.prog X.w) X.A X.env xe → PSsd (X.tr pn xe) W' S fr body mb)
    (hsu : ∀ (a : Addr) (oe : Obj) (pn : List (Addr × Obj)) (c : Str) (D : Addr), Zc (.ref D) none oe → (∃ vs, oe.data = .fields vs) → X.mg c = some (.ref D) → cl c = some true → PSs (X.suite a ((a, oe) :: pn)) (b₀ :: suite) (tXs X S fr i a (ms c)))
    (hi : X.N[i]? = some n := by rfl) (hln : X.env.kindOf n = some .local := by rfl) :
    PSd X W S fr (.Try body [.ExceptHandler (some (.Name x np)) (some n) (b₀ :: suite) pos'] [] [] pos) (tryS cl i mb ms) := by
  refine PS.weak (ps_try_as (i := i) (tb := fun W' => tS X W' S fr mb) (ts := fun a cls d => fun Dn σ H => ∃ c D, cls = .ref D ∧ d = none ∧ X.mg c = some (.ref D) ∧ cl c = some true ∧ tXs X S fr i a (ms c) Dn σ H) (Wout := W) hs hf hN hi hln hc tk
    (fun W' pn xe t p => hb W' pn xe t p) (fun a oe cls d pn hz hfd => ⟨fun pins s σ H D I ⟨c, D', e1, e2, hm, hcl', q⟩ => ?_⟩)) fun Dn σ H ⟨G, η, t, ok, h⟩ => ?_
  · subst e1 e2
    exact (hsu a oe pn c D' hz hfd hm hcl').run pins s σ H D I q
  · refine ⟨G, η, t, ok, ?_⟩
    unfold tryS at h
    cases qb : mb η with
    | exc c η' =>
      rw [qb] at h
      intro D σ' H' hD s1 o1
      simp only at h
      cases qc : cl c with
      | none => rw [qc] at h; exact h.elim
      | some b =>
        rw [qc] at h
        refine ⟨b, hcl c D b qc hD, fun e a ha => ?_, fun e => ?_⟩
        · subst e
          simp only at h
          by_cases hcs : canSet η' i = true
          · rw [if_pos hcs] at h
            have hi' : i < σ'.length := by rw [← o1.len]; exact canSet_lt hcs
            obtain ⟨o2, s2⟩ := no_ok (x := some (V.ref a)) o1 hcs
            refine ⟨c, D, rfl, rfl, hD, qc, G, η'.set i .no, StepS.trans t (s1.trans s2), o2, List.getElem?_set_self hi', ?_⟩
            have h2 := h.later (s1.trans s2)
            cases qm : ms c (η'.set i .no) with
            | nx η3 =>
              rw [qm] at h2
              intro σ3 H3 s3 o3
              unfold sufS at h2
              simp only at h2
              by_cases hc3 : canSet η3 i = true
              · rw [if_pos hc3] at h2
                obtain ⟨o4, s4⟩ := no_ok (x := none) o3 hc3
                exact h2 _ _ (s3.trans s4) o4
              · rw [if_neg hc3] at h2
                exact h2.elim
            | rt d η3 =>
              rw [qm] at h2
              exact h2
            | bk η3 => rw [qm] at h2; exact False.elim h2
            | ct η3 => rw [qm] at h2; exact False.elim h2
            | exc c3 η3 => rw [qm] at h2; exact False.elim h2
            | bad => rw [qm] at h2; exact False.elim h2
          · rw [if_neg hcs] at h
            exact h.elim
        · subst e
          exact h D σ' H' hD s1 o1
    | nx η' => rw [qb] at h; exact h
    | bk η' => rw [qb] at h; exact h
    | ct η' => rw [qb] at h; exact h
    | rt d η' => rw [qb] at h; exact h
    | bad => rw [qb] at h; exact h
/-! ### within a handler's suite: the caught exception is looked at -/
def tXe (X : Cx) (i : Nat) (a : Addr) (m : M D) : TE := fun σ H Q => σ[i]? = some (some (V.ref a)) ∧ tE X W0 m σ H Q
def PXd (X : Cx) (i : Nat) (a : Addr) (e : Expr) (m : M D) : Prop := PE X e (tXe X i a m)
variable {i : Nat} {a : Addr} {e e1 e2 : Expr} {m m1 m2 : M D}
theorem PEd.x (h : PEd X W0 e m) : PXd X i a e m := PE.weak h fun σ H Q q => q.2
theorem px_isi {oe : Obj} {pn : List (Addr × Obj)} {D : Addr} {t n : Str} {tv : V} {cv : Value} {b : Bool} {p1 p2 p3 : Pos} (C : ExcC X.K D) (hz : Zc (.ref D) none oe) (hf : ∃ vs, oe.data = .fields vs) (hN : X.N[i]? = some n := by rfl) (hv : Vis X.env.scope n := by first | exact Or.inl rfl | exact Or.inr (Or.inl rfl) | exact Or.inr (Or.inr rfl))
    (hm : X.mg "isinstance" = none) (ht : PE (X.suite a ((a, oe) :: pn)) (.Name t p1) (tC tv)) (hrel : ∀ u, RelV tv u → u = cv) (hk : kitOne X.K (.ref D) cv = some b) (hg : Gl X "isinstance" := by rfl)
    (hd : (n == ("__debug__" : Str)) = false := by decide) (hcd : (n == ("__classdict__" : Str)) = false := by decide)
    (he : starEach (.Name n p2 :: [.Name t p1]) X.env = (false, eval (.Name n p2) X.env) :: starEach [.Name t p1] X.env := by rfl) (he2 : starEach ([.Name t p1]) X.env = (false, eval (.Name t p1) X.env) :: starEach [] X.env := by rfl) (hpl : (backTo pos (starEach [.Name t p1] X.env)).any (·.1) = false := by rfl) :
    PXd (X.suite a ((a, oe) :: pn)) i a (.Call (.Name "isinstance" p3) [.Name n p2, .Name t p1] [] pos) (M.pure (.bl b)) :=
  PE.weak (pe_callB (X := X.suite a ((a, oe) :: pn)) (call_isE C hz hf) hg hm (by decide +kernel) (pa_cons (pe_var (i := i) hN hv hd hcd) (pa_cons ht pa_nil he2) he) (by decide) (by decide) he hpl) fun σ H Q ⟨hx, G, η, ok, h⟩ =>
    ⟨_, hx, tv, cv, b, rfl, hrel, hk, h _ _ .refl .refl ok rfl⟩
theorem px_not (h : PXd X i a e m) : PXd X i a (.UnaryOp .Not e pos) (do let d ← m; let c ← M.of (asB d); pure (.bl (!c))) :=
  PE.weak (pe_not h) fun σ H Q ⟨hx, G, η, ok, h⟩ => ⟨hx, G, η, ok, (Post.bind (R := RD X G σ) h).imp fun x H1 ⟨η1, d, a1⟩ => by
    obtain ⟨k, ek, q⟩ := Post.ofBind a1.post
    have e := asB_some ek
    subst e
    exact ⟨k, a1.r, q _ _ .refl .refl a1.ok rfl⟩⟩
theorem px_one {op : BoolOp} (h : PXd X i a e m) : PXd X i a (.BoolOp op [e] pos) m := pe_one h
theorem px_and {rest : List Expr} (h1 : PXd X i a e1 m1) (h2 : PXd X i a (.BoolOp .And (e2 :: rest) pos) m2) : PXd X i a (.BoolOp .And (e1 :: e2 :: rest) pos) (do let d ← m1; let c ← M.of (asB d); if c = true then m2 else pure (.bl false)) :=
  PE.weak (pe_and h1 h2) fun σ H Q ⟨hx, G, η, ok, h⟩ => ⟨hx, G, η, ok, (Post.bind (R := RD X G σ) h).imp fun x H1 ⟨η1, d, a1⟩ => by
    obtain ⟨k, ek, q⟩ := Post.ofBind a1.post
    have e := asB_some ek
    subst e
    refine ⟨k, a1.r, ?_⟩
    cases k with
    | true => exact iteT ⟨hx, G, η1, a1.ok, q⟩
    | false => exact iteF (q _ _ .refl .refl a1.ok rfl)⟩
theorem pxs_set (j : Nat) {y : Str} {py : Pos} {oe : Obj} {pn : List (Addr × Obj)} (hN : X.N.Nodup) (he : PXd (X.suite a ((a, oe) :: pn)) i a e m) (hi : X.N[j]? = some y := by rfl) (hx : Loc X.env.scope y := by first | exact Or.inl rfl | exact Or.inr rfl)
    (hs : swapsWith e (some (.Name y py)) pos.line X.env = pure false := by rfl) (hf : X.fn y = true ∨ X.env.scope.names.lookup y = some .local := by first | exact .inl rfl | exact .inr rfl | assumption) :
    PSs (X.suite a ((a, oe) :: pn)) [.Assign [.Name y py] e pos] (tXs X S fr i a (thenS m fun d => setS j d)) :=
  PSs.weak (pss_one (ps_set (X := X.suite a ((a, oe) :: pn)) (i := j) hN hi hx he hs hf)) fun Dn σ H ⟨G, η, t, ok, hxa, h⟩ => ⟨hxa, G, η, ok, (PostS.bind (R := RD X G σ) h).imp fun x H1 ⟨η1, d, a1⟩ => by
    have q := a1.post
    unfold setS at q
    by_cases hc : canSet η1 j = true
    · rw [if_pos hc] at q
      obtain ⟨o, s, _⟩ := set_ok hc a1.ok a1.r
      exact q _ _ s o
    · rw [if_neg hc] at q
      exact q.elim⟩
end
end Pd

namespace Pd
open PySem L2
/-! ### defs by name -/
theorem _root_.L2.Fun.lk {K : PySem.W.Frag} {x qual : Str} {st : Stmt} {f : Addr} {fd : FuncData} (F : Fun K x qual st f fd) : ∃ oc od osl, K.lookup f = some ⟨oc, od, .func fd, osl⟩ := by
  obtain ⟨oc, od, kV, doc, pm, an, cdv, ct, osl, rfl, l, _⟩ := F.ex
  exact ⟨oc, od, osl, l⟩
/-- the text of a def, as the module has made it -/
structure FunX (K : PySem.W.Frag) (mg : Str → Option Value) (x : Str) (st : Stmt) (ps : List Str) (kn : List Nat) : Prop where
  ex : ∃ f fd, Fun K x x st f fd ∧ mg x = some (.ref f) ∧ Binds K fd ps [] ∧ ∀ n1 ∈ kn, KB K fd ps (ps.drop n1) n1
/-- a def that may be called, and what it promises -/
structure Def (P : Program) (w : World) (K : PySem.W.Frag) (mg : Str → Option Value) (base : Heap) (x : Str) (ps : List Str) (kn : List Nat) (k : Nat) (sp : Sp) : Prop where
  ex : ∃ f fd, mg x = some (.ref f) ∧ PySem.W.keepIn K (.ref f) = true ∧ Binds K fd ps [] ∧ (∀ n1 ∈ kn, KB K fd ps (ps.drop n1) n1) ∧ (∃ oc od osl, K.lookup f = some ⟨oc, od, .func fd, osl⟩) ∧ FnOk P w K mg base (L2.CX P w) k f fd ps sp
/-- a class of exceptions without its own __init__ -/
structure ExcX (K : PySem.W.Frag) (mg : Str → Option Value) (x : Str) : Prop where
  ex : ∃ (C : Addr) (bmB : List Value) (B newId initId : String), mg x = some (.ref C) ∧ ExcBaseFacts B newId initId bmB ∧ PySem.W.excIn K C bmB newId = true ∧ PySem.W.keepIn K (.ref C) = true ∧
    PySem.W.subIn K (.ref C) (.type "BaseException") = some true ∧ PySem.W.typeIn K (.ref C) = some (.type "type")
/-- except t: .. of an exception of the class c -/
structure ExmX (K : PySem.W.Frag) (mg : Str → Option Value) (c t : Str) (b : Bool) : Prop where
  ex : ∃ (D C : Addr), mg c = some (.ref D) ∧ mg t = some (.ref C) ∧ PySem.W.exmOne K (.ref D) (.ref C) = some b
section
variable {P : Program} {w : World} {K : PySem.W.Frag} {mg : Str → Option Value} {base : Heap} {x : Str} {st : Stmt} {N ps : List Str} {kn : List Nat} {k j n : Nat} {mb : MS} {sp sp' : Sp} {fm : M D}
theorem Def.mono (D : Def P w K mg base x ps kn j sp) (h : j ≤ k) : Def P w K mg base x ps kn k sp := by
  obtain ⟨f, fd, a, b, c, d, l, F⟩ := D.ex
  exact ⟨f, fd, a, b, c, d, l, F.mono h⟩
theorem Def.imp (D : Def P w K mg base x ps kn k sp) (h : ∀ vs H Q E, sp' vs H Q E → sp vs H Q E) : Def P w K mg base x ps kn k sp' := by
  obtain ⟨f, fd, a, b, c, d, l, F⟩ := D.ex
  exact ⟨f, fd, a, b, c, d, l, F.imp h⟩
theorem def_ok (T : FunX K mg x st ps kn) (Sc : FnScope N ps (defScope st))
    (hbody : ∀ (f : Addr) (cdv : Value) (A : Around) (outer : List PySem.Env) (s : Shared) (H : Hp) (E : XK) (S : S0), Room k (cxOf (L2.CX P w) P w K mg base N x (defScope st) f cdv A outer s H E).A →
      PSsd (cxOf (L2.CX P w) P w K mg base N x (defScope st) f cdv A outer s H E) (fun cls d _ H' => E cls d H') S false (defBody st) mb) :
    Def P w K mg base x ps kn (k + 1) (spD K mg ps.length (fnM ps.length N.length mb)) := by
  obtain ⟨f, fd, F, hm, hb, hk⟩ := T.ex
  exact ⟨f, fd, hm, F.kp, hb, hk, F.lk, fn_ok F Sc (hbody f)⟩
theorem defF_ok (T : FunX K mg x st ps kn) (Sc : FnScope N ps (defScope st))
    (hbody : ∀ (f : Addr) (cdv : Value) (A : Around) (outer : List PySem.Env) (s : Shared) (H : Hp) (E : XK) (S : S0), Room k (cxOf (L2.CX P w) P w K mg base N x (defScope st) f cdv A outer s H E).A →
      PSsd (cxOf (L2.CX P w) P w K mg base N x (defScope st) f cdv A outer s H E) (fun cls d _ H' => E cls d H') S true (defBody st) mb) :
    Def P w K mg base x ps kn (k + 1) (spF K mg ps.length (fnF ps.length N.length mb)) := by
  obtain ⟨f, fd, F, hm, hb, hk⟩ := T.ex
  exact ⟨f, fd, hm, F.kp, hb, hk, F.lk, fnF_ok F Sc (hbody f)⟩
/-- nothing is promised -/
def badM : M D := fun _ => .bad
theorem def_bad (T : FunX K mg x st ps kn) (k : Nat) : Def P w K mg base x ps kn k (spD K mg ps.length badM) := by
  obtain ⟨f, fd, F, hm, hb, hk⟩ := T.ex
  exact ⟨f, fd, hm, F.kp, hb, hk, F.lk, ⟨fun vs H Q E ⟨_, _, _, _, q⟩ => q.elim, fun A outer s H args us vs Q E _ _ _ _ ⟨_, _, _, _, q⟩ => q.elim⟩⟩
theorem takesN {X : Cx} : Takes X W0 := fun _ _ ⟨_, _, _, _, _, _, _, _, _, _, _, _, _, _, _, _, q⟩ => q.elim
end
section
variable {X : Cx} {W : WX} {S : S0} {fr : Bool} {e : Expr} {es : List Expr} {kws : List Keyword} {x : Str} {ps : List Str} {kn : List Nat} {p pos : Pos} {j k n n1 : Nat} {fm : M D} {m mk : M (List AV)}
def cal (n : Nat) (fm : M D) (jo : Option Nat) (m : M (List AV)) : M D := do let as ← m; let as ← lenM n as; callM noLst fm jo as
def calF (n : Nat) (fm : M D) (jo : Option Nat) (m : M (List AV)) : M D := do let as ← m; let as ← lenM n as; callM noLstIn fm jo as
def calK (n n1 n2 : Nat) (fm : M D) (jo : Option Nat) (m mk : M (List AV)) : M D := do let as ← m; let as ← lenM n1 as; let zs ← mk; let zs ← lenM n2 zs; let as ← lenM n (as ++ zs); callM noLst fm jo as
def calK0 (n n2 : Nat) (fm : M D) (jo : Option Nat) (mk : M (List AV)) : M D := do let zs ← mk; let zs ← lenM n2 zs; let as ← lenM n zs; callM noLst fm jo as
def cal0 (fm : M D) : M D := noX (callM noLst fm none [])
theorem pd_cal (D : Def X.prog X.w X.K X.mg X.base x ps kn j (spD X.K X.mg n fm)) (jo : Option Nat) (tk : Takes X W) (hr : Room k X.A) (hjk : j ≤ k) (hg : Gl X x)
    (ha : PVAd X W (e :: es) m) (hdb : (x == ("__debug__" : Str)) = false := by decide) (he : starEach (e :: es) X.env = (false, eval e X.env) :: starEach es X.env := by rfl) (hpl : (backTo pos (starEach es X.env)).any (·.1) = false := by rfl) :
    PEd X W (.Call (.Name x p) (e :: es) [] pos) (cal n fm jo m) := by
  obtain ⟨f, fd, hm, hk, hb, _, _, F⟩ := D.ex
  exact pd_call F jo tk (hr.mono hjk) hg hm hk hb ha hdb he hpl
theorem pf_cal (D : Def X.prog X.w X.K X.mg X.base x ps kn j (spF X.K X.mg n fm)) (jo : Option Nat) (tk : Takes X W) (hr : Room k X.A) (hjk : j ≤ k) (hg : Gl X x)
    (ha : PVAd X W (e :: es) m) (hdb : (x == ("__debug__" : Str)) = false := by decide) (he : starEach (e :: es) X.env = (false, eval e X.env) :: starEach es X.env := by rfl) (hpl : (backTo pos (starEach es X.env)).any (·.1) = false := by rfl) :
    PFd X W (.Call (.Name x p) (e :: es) [] pos) (calF n fm jo m) := by
  obtain ⟨f, fd, hm, hk, hb, _, _, F⟩ := D.ex
  exact pf_call F jo tk (hr.mono hjk) hg hm hk hb ha hdb he hpl
theorem pd_cal0 (D : Def X.prog X.w X.K X.mg X.base x ps kn j (spD X.K X.mg 0 fm)) (hr : Room k X.A) (hjk : j ≤ k) (hg : Gl X x) (hdb : (x == ("__debug__" : Str)) = false := by decide) :
    PEd X W (.Call (.Name x p) [] [] pos) (cal0 fm) := by
  obtain ⟨f, fd, hm, hk, hb, _, _, F⟩ := D.ex
  exact pd_call0 F (hr.mono hjk) hg hm hk hb hdb
theorem pd_calK (D : Def X.prog X.w X.K X.mg X.base x ps kn j (spD X.K X.mg n fm)) (n1 : Nat) (jo : Option Nat) (tk : Takes X W) (hr : Room k X.A) (hjk : j ≤ k) (hg : Gl X x)
    (ha : PVAd X W (e :: es) m) (hkw : PVKd X W kws mk) (hn : n1 ∈ kn := by decide) (hall : (backToKw pos (keywordEach kws X.env)).all (·.1.isSome) = true := by rfl) (hks : (backToKw pos (keywordEach kws X.env)).filterMap (·.1) = ps.drop n1 := by rfl)
    (hdb : (x == ("__debug__" : Str)) = false := by decide) (he : starEach (e :: es) X.env = (false, eval e X.env) :: starEach es X.env := by rfl)
    (hpl : ((backTo pos (starEach (e :: es) X.env)).any (·.1) || (backToKw pos (keywordEach kws X.env)).any (·.1.isNone)) = false := by rfl) :
    PEd X W (.Call (.Name x p) (e :: es) kws pos) (calK n n1 (ps.drop n1).length fm jo m mk) := by
  obtain ⟨f, fd, hm, hk, hb, hK, _, F⟩ := D.ex
  exact pd_callK F jo tk (hr.mono hjk) hg hm hk (hK n1 hn) ha hkw hall hks hdb he hpl
theorem pd_calK0 (D : Def X.prog X.w X.K X.mg X.base x ps kn j (spD X.K X.mg n fm)) (jo : Option Nat) (tk : Takes X W) (hr : Room k X.A) (hjk : j ≤ k) (hg : Gl X x)
    (hkw : PVKd X W kws mk) (hn : 0 ∈ kn := by decide) (hall : (backToKw pos (keywordEach kws X.env)).all (·.1.isSome) = true := by rfl) (hks : (backToKw pos (keywordEach kws X.env)).filterMap (·.1) = ps.drop 0 := by rfl)
    (hdb : (x == ("__debug__" : Str)) = false := by decide)
    (hpl : ((backTo pos (starEach [] X.env)).any (·.1) || (backToKw pos (keywordEach kws X.env)).any (·.1.isNone)) = false := by rfl) :
    PEd X W (.Call (.Name x p) [] kws pos) (calK0 n (ps.drop 0).length fm jo mk) := by
  obtain ⟨f, fd, hm, hk, hb, hK, _, F⟩ := D.ex
  exact pd_callK0 F jo tk (hr.mono hjk) hg hm hk (hK 0 hn) hkw hall hks hdb hpl
/-- raise X('..') -/
theorem psd_raiseX {ms : Str} {i : Nat} {p2 : Pos} {pos2 : Pos} (T : ExcX X.K X.mg x) (hc : X.calm = true) (tk : Takes X W) (hg : Gl X x := by rfl) (hdb : (x == ("__debug__" : Str)) = false := by decide) :
    PSd X W S fr (.Raise (some (.Call (.Name x p) [.Constant (.str ms) i p2] [] pos)) none pos2) (fun η => .exc x η) := by
  obtain ⟨C, bmB, B, newId, initId, gC, F, q, kC, h1, h2⟩ := T.ex
  exact psd_raise hc tk F q gC kC (raises_own h1 h2) hg hdb
end
end Pd

namespace Pd
open PySem L2
/-! ### handlers by name -/
def NamesC (mg : Str → Option Value) (t : Str) (tv : V) (cv : Value) : Prop :=
  (∃ C : Addr, mg t = some (.ref C) ∧ tv = .ref C ∧ cv = .ref C) ∨ (mg t = none ∧ ∃ T : String, bootBuiltins t = some (.type T) ∧ tv = .ty T ∧ cv = .type T)
/-- isinstance(e, t), e of the class c -/
structure KitX (K : PySem.W.Frag) (mg : Str → Option Value) (c t : Str) (b : Bool) : Prop where
  ex : ∃ (D : Addr) (tv : V) (cv : Value), mg c = some (.ref D) ∧ ExcC K D ∧ NamesC mg t tv cv ∧ PySem.W.kitOne K (.ref D) cv = some b
def kitT (l : List (Str × Bool)) (c : Str) : M D := match l.lookup c with
  | some b => M.pure (.bl b)
  | none => fun _ => .bad
def clOf (l : List (Str × Bool)) (c : Str) : Option Bool := l.lookup c
theorem lookup_mem {α β : Type} [BEq α] [LawfulBEq α] : ∀ {l : List (α × β)} {c : α} {b : β}, l.lookup c = some b → (c, b) ∈ l
  | [], _, _, h => by cases h
  | (a, b') :: r, c, b, h => by
    rw [List.lookup_cons] at h
    split at h
    · rename_i e
      cases h
      rw [beq_iff_eq] at e
      rw [e]
      exact List.mem_cons_self
    · exact List.mem_cons_of_mem _ (lookup_mem h)
section
open PySem.W
variable {X : Cx} {W : WX} {S : S0} {fr : Bool} {body suite : List Stmt} {b₀ : Stmt} {np pos pos' : Pos} {mb : MS} {i : Nat} {a : Addr}
theorem psd_tryX (i : Nat) {x n : Str} (l : List (Str × Bool)) (ms : Str → MS) (hs : X.stack = X.env :: X.outer) (hf : X.env.frame = some X.env.locals) (hN : X.N.Nodup) (tk : Takes X W)
    (hcl : ∀ p ∈ l, ExmX X.K X.mg p.1 x p.2) (hx : ExcX X.K X.mg x)
    (hb : ∀ (W' : WX) (pn : List (Addr × Obj)) (xe : Value → Shared → Prop), Takes (X.tr pn xe) W' → PassesOwn (model X.prog X.w) X.A X.env xe → PSsd (X.tr pn xe) W' S fr body mb)
    (hsu : ∀ (a : Addr) (oe : Obj) (pn : List (Addr × Obj)) (c : Str) (D : Addr), Zc (.ref D) none oe → (∃ vs, oe.data = .fields vs) → X.mg c = some (.ref D) → PSs (X.suite a ((a, oe) :: pn)) (b₀ :: suite) (tXs X S fr i a (ms c)))
    (hg : Gl X x := by rfl) (hdb : (x == ("__debug__" : Str)) = false := by decide)
    (hi : X.N[i]? = some n := by rfl) (hln : X.env.kindOf n = some .local := by rfl) :
    PSd X W S fr (.Try body [.ExceptHandler (some (.Name x np)) (some n) (b₀ :: suite) pos'] [] [] pos) (tryS (clOf l) i mb ms) := by
  obtain ⟨C, bmB, B, newId, initId, gC, F, q, kC, h1, h2⟩ := hx.ex
  refine psd_try_as i (clOf l) ms hs hf hN tk ⟨hg, hdb, .inl gC⟩ (fun c D b h hD => ?_) hb (fun a oe pn c D z hf hm _ => hsu a oe pn c D z hf hm) hi hln
  obtain ⟨D', C', e1, e2, e3⟩ := (hcl (c, b) (lookup_mem h)).ex
  rw [hD] at e1
  rw [gC] at e2
  cases e1
  cases e2
  exact e3
theorem px_kit {oe : Obj} {pn : List (Addr × Obj)} {c t n : Str} {D : Addr} {p1 p2 p3 : Pos} (l : List (Str × Bool)) (hl : ∀ p ∈ l, KitX X.K X.mg p.1 t p.2) (hm : X.mg c = some (.ref D)) (hz : Zc (.ref D) none oe) (hf : ∃ vs, oe.data = .fields vs)
    (hi : X.mg "isinstance" = none) (hgt : Gl X t := by rfl) (hN : X.N[i]? = some n := by rfl) (hv : Vis X.env.scope n := by first | exact Or.inl rfl | exact Or.inr (Or.inl rfl) | exact Or.inr (Or.inr rfl))
    (hg : Gl X "isinstance" := by rfl) (hdt : (t == ("__debug__" : Str)) = false := by decide) (hnt : t ≠ "__name__" := by decide)
    (hd : (n == ("__debug__" : Str)) = false := by decide) (hcd : (n == ("__classdict__" : Str)) = false := by decide)
    (he : starEach (.Name n p2 :: [.Name t p1]) X.env = (false, eval (.Name n p2) X.env) :: starEach [.Name t p1] X.env := by rfl) (he2 : starEach ([.Name t p1]) X.env = (false, eval (.Name t p1) X.env) :: starEach [] X.env := by rfl) (hpl : (backTo pos (starEach [.Name t p1] X.env)).any (·.1) = false := by rfl) :
    PXd (X.suite a ((a, oe) :: pn)) i a (.Call (.Name "isinstance" p3) [.Name n p2, .Name t p1] [] pos) (kitT l c) := by
  unfold kitT
  cases q : l.lookup c with
  | none => exact ⟨fun pins s σ H Q I ⟨_, _, _, _, h⟩ => h.elim⟩
  | some b =>
    obtain ⟨D', tv, cv, e1, ec, nc, kt⟩ := (hl (c, b) (lookup_mem q)).ex
    rw [hm] at e1
    cases e1
    rcases nc with ⟨C, g1, rfl, rfl⟩ | ⟨g1, T, g2, rfl, rfl⟩
    · exact px_isi (tv := .ref C) (cv := .ref C) ec hz hf hN hv hi (pe_glob (X := X.suite a ((a, oe) :: pn)) (u := .ref C) hgt g1 rfl hdt) (fun u r => r) kt hg hd hcd he he2 hpl
    · exact px_isi (tv := .ty T) (cv := .type T) ec hz hf hN hv hi (pe_bltn (X := X.suite a ((a, oe) :: pn)) (u := .type T) hgt g1 g2 rfl hnt hdt) (fun u r => r) kt hg hd hcd he he2 hpl
end
end Pd

namespace Pd
open PySem L2
/-! ### the words in which the functions of the readings are written -/
def opD (f : D → D → Option D) (m1 m2 : M D) : M D := do let d ← m1; let e ← m2; M.of (f d e)
def opV (f : D → D → Option D) (m1 m2 : M AV) : M D := do let a ← m1; let b ← m2; let d ← a.res; let e ← b.res; M.of (f d e)
def cmD (f : D → D → Option Bool) (m1 m2 : M D) : M D := do let d ← m1; let e ← m2; M.of ((f d e).map D.bl)
def cmT (f : D → D → Option Bool) (m1 m2 : M D) : M Bool := do let d ← m1; let e ← m2; M.of (f d e)
def cmVD (f : D → D → Option Bool) (m1 m2 : M AV) : M D := do let a ← m1; let b ← m2; let d ← a.res; let e ← b.res; M.of ((f d e).map D.bl)
def cmVT (f : D → D → Option Bool) (m1 m2 : M AV) : M Bool := do let a ← m1; let b ← m2; let d ← a.res; let e ← b.res; M.of (f d e)
def chT (f f' : D → D → Option Bool) (m1 m2 m3 : M D) : M Bool := do let d ← m1; let e ← m2; let k ← M.of (f d e); if k = true then (do let g ← m3; M.of (f' e g)) else pure false
def chD (f f' : D → D → Option Bool) (m1 m2 m3 : M D) : M D := do let d ← m1; let e ← m2; let k ← M.of (f d e); if k = true then (do let g ← m3; M.of ((f' e g).map D.bl)) else pure (.bl false)
def unD (f : D → Option D) (m1 : M D) : M D := do let d ← m1; M.of (f d)
def tsT (m : M D) : M Bool := do let d ← m; M.of (asB d)
def anT (m1 m2 : M Bool) : M Bool := do let c ← m1; if c = true then m2 else pure false
def orT (m1 m2 : M Bool) : M Bool := do let c ← m1; if c = true then pure true else m2
def ntT (m : M Bool) : M Bool := do let c ← m; pure (!c)
def ntD (m : M D) : M D := do let d ← m; let c ← M.of (asB d); pure (.bl (!c))
def anD (m1 m2 : M D) : M D := do let d ← m1; let c ← M.of (asB d); if c = true then m2 else pure (.bl false)
def orD (m1 m2 : M D) : M D := do let d ← m1; let c ← M.of (asB d); if c = true then pure (.bl true) else m2
def ifD (mc : M Bool) (m1 m2 : M D) : M D := do let k ← mc; if k = true then m1 else m2
def vlV (m : M D) : M AV := do let d ← m; pure (.val d)
def smI (m : M D) : M (Option Int) := do let d ← m; M.of ((asI d).map some)
def noI : M (Option Int) := pure none
def slD (m : M D) (ml mh : M (Option Int)) : M D := do let d ← m; let l ← ml; let h ← mh; M.of (cutD d l h)
def slV (m : M AV) (ml mh : M (Option Int)) : M D := do let a ← m; let l ← ml; let h ← mh; let d ← a.res; M.of (cutD d l h)
def bltD (f : List D → Option D) (m : M (List D)) : M D := m >>= fun ds => M.of (f ds)
def bltV (f : List D → Option D) (m : M (List AV)) : M D := m >>= fun as => resAll as >>= fun ds => M.of (f ds)
def isiM (T : String) (m : M D) : M D := do let d ← m; M.of (isiD T d)
def isiV (T : String) (m : M AV) : M D := do let a ← m; let d ← a.res; M.of (isiD T d)
def nlD : M (List D) := M.pure []
def csD (m : M D) (ms : M (List D)) : M (List D) := do let d ← m; let ds ← ms; pure (d :: ds)
def nlV : M (List AV) := M.pure []
def csV (m : M AV) (ms : M (List AV)) : M (List AV) := do let d ← m; let ds ← ms; pure (d :: ds)
def tpD (m : M (List D)) : M D := m >>= fun ds => M.of (if lenOk ds.length = true then some (.tup ds) else none)
def lsD (m : M (List D)) : M D := m >>= fun ds => M.of (if lenOk ds.length = true then some (.lst ds) else none)
def itD (m : M D) : M (List D) := do let d ← m; M.of (itemsD d)
def rg1 (m : M (List D)) : M (List D) := do let ds ← m; M.of (range1D ds)
def rg2 (m : M (List D)) : M (List D) := do let ds ← m; M.of (range2D ds)
def cD (d : D) : M D := M.pure d
/-! statements -/
def stS (i : Nat) (m : M D) : MS := thenS m fun d => setS i d
def owS (i : Nat) (m : M D) : MS := thenS m fun d => ownS i d
def rtS (m : M D) : MS := thenS m fun d η => .rt d η
def exS (m : M D) : MS := thenS m fun _ η => .nx η
def ifS (mt : M Bool) (a b : MS) : MS := thenS mt fun k => if k = true then a else b
def paS (i j : Nat) (ms : M (List D)) : MS := thenS ms fun ds => match ds with | [d, e] => seqS (setS i d) (setS j e) | _ => fun _ => .bad
def asS (m : M D) (g : D → MS) : MS := thenS m fun d η => onlyNx (g d η)
def soS (i : Nat) (m mk : M D) : MS := thenS (do let d ← m; let _ ← ownV i; let k ← mk; pure (d, k)) fun (d, k) => storeS i d k
def apS (i : Nat) (m : M D) : MS := thenS (ownL i) fun _ => thenS m fun d => appS i d
def foS (mi : M (List D)) (g : D → MS) (mb : MS) : MS := thenS mi fun ds => forS (turnS g mb) ds
def whS (mt : M Bool) (mb : MS) (fuel : Sto → Nat) : MS := fun η => whileS mt mb (fuel η) η
def nxS : MS := fun η => .nx η
def bkS : MS := fun η => .bk η
def ctS : MS := fun η => .ct η
def rnS : MS := fun η => .rt .non η
def raS (x : Str) : MS := fun η => .exc x η
def rlS (i : Nat) (mb : MS) : MS := fun η => mb (relS i η)
def roS (i : Nat) : MS := fun η => match η[i]? with | some (.own false d) => .rt d (η.set i .no) | _ => .bad
def tgN : List D → MS := fun ds η => if ds.isEmpty = true then .nx η else .bad
def tgC (g : D → MS) (gs : List D → MS) : List D → MS := fun ds => match ds with | d :: ds => seqS (g d) (gs ds) | [] => fun _ => .bad
def tgT (n : Nat) (gs : List D → MS) : D → MS := fun d => match d with | .tup ds => if ds.length = n then gs ds else fun _ => .bad | _ => fun _ => .bad
end Pd

namespace Pd
open PySem L2
/-! ### what the module has made: from the written part -/
def BindsAll (x : Str) (st : Stmt) (ps : List Str) : Prop := ∀ (kV doc pm : Value) (an : Option Addr) (cdv ct : Value) (us : List Value), us.length = ps.length → bindArgs (PySem.W.fnOf x x (defArgs st) (defBody st) (defScope st) .none kV doc pm an cdv ct) ⟨us, []⟩ = pure (ps.zip us)
def KBAll (x : Str) (st : Stmt) (ps : List Str) (n1 : Nat) : Prop := ∀ (kV doc pm : Value) (an : Option Addr) (cdv ct : Value) (us ws : List Value), us.length = n1 → ws.length = (ps.drop n1).length → bindArgs (PySem.W.fnOf x x (defArgs st) (defBody st) (defScope st) .none kV doc pm an cdv ct) ⟨us, (ps.drop n1).zip ws⟩ = pure (ps.zip (us ++ ws))
section
variable {K : PySem.W.Frag} {h : Heap} {mg : Str → Option Value} {x c t : Str} {st : Stmt} {ps : List Str} {kn : List Nat} {f C D : Addr}
theorem funX_mk {oc : Value} {od an : Option Addr} {osl : Array (Option Value)} {kV doc pm cdv ct : Value} (X : K.In h) (G : h.Ns mainGlobals mg) (a : PySem.W.nsIn K mainGlobals x = some (some (.ref f)))
    (l : K.lookup f = some ⟨oc, od, .func (PySem.W.fnOf x x (defArgs st) (defBody st) (defScope st) .none kV doc pm an cdv ct), osl⟩) (cc : PySem.W.codeIn K cdv x = true) (k : PySem.W.keepIn K (.ref f) = true)
    (hb : BindsAll x st ps) (hk : ∀ n1 ∈ kn, KBAll x st ps n1) : FunX K mg x st ps kn := by
  have F := fun_mk (st := st) l cc k
  exact ⟨f, _, F, PySem.W.mg_of X G a, F.binds hb, fun n1 hn => ⟨fun s us ws _ h1 h2 => .of_eq (hk n1 hn kV doc pm an cdv ct us ws h1 h2)⟩⟩
theorem excX_mk {bmB : List Value} {B newId initId : String} (X : K.In h) (G : h.Ns mainGlobals mg) (F : ExcBaseFacts B newId initId bmB) (a : PySem.W.nsIn K mainGlobals x = some (some (.ref C))) (q : PySem.W.excIn K C bmB newId = true) (k : PySem.W.keepIn K (.ref C) = true)
    (b : PySem.W.subIn K (.ref C) (.type "BaseException") = some true) (t : PySem.W.typeIn K (.ref C) = some (.type "type")) : ExcX K mg x := ⟨C, bmB, B, newId, initId, PySem.W.mg_of X G a, F, q, k, b, t⟩
theorem exmX_mk {b : Bool} (X : K.In h) (G : h.Ns mainGlobals mg) (ac : PySem.W.nsIn K mainGlobals c = some (some (.ref D))) (at' : PySem.W.nsIn K mainGlobals t = some (some (.ref C)))
    (h1 : PySem.W.subIn K (.ref C) (.type "BaseException") = some true) (h2 : PySem.W.isClsIn K C = true) (h3 : PySem.W.typeIn K (.ref C) = some (.type "type")) (h4 : PySem.W.subIn K (.ref D) (.ref C) = some b) : ExmX K mg c t b := by
  refine ⟨D, C, PySem.W.mg_of X G ac, PySem.W.mg_of X G at', ?_⟩
  have e1 : (PySem.W.subIn K (.ref C) (.type "BaseException") == some true) = true := by rw [h1] <;> rfl
  have e2 : ((PySem.W.clsIn K C).isSome && PySem.W.typeIn K (.ref C) == some (.type "type")) = true := by
    have h2' : (PySem.W.clsIn K C).isSome = true := h2
    rw [h2', h3] <;> rfl
  show (if (PySem.W.subIn K (.ref C) (.type "BaseException") == some true) = true then (if ((PySem.W.clsIn K C).isSome && PySem.W.typeIn K (.ref C) == some (.type "type")) = true then PySem.W.subIn K (.ref D) (.ref C) else none) else none) = some b
  rw [if_pos e1, if_pos e2]
  exact h4
/-- isinstance of a caught exception: the class's own facts -/
theorem kitX_cls {b : Bool} (X : K.In h) (G : h.Ns mainGlobals mg) (ec : ExcC K D) (ac : PySem.W.nsIn K mainGlobals c = some (some (.ref D))) (at' : PySem.W.nsIn K mainGlobals t = some (some (.ref C)))
    (h2 : PySem.W.isClsIn K C = true) (h3 : PySem.W.typeIn K (.ref C) = some (.type "type")) (h4 : PySem.W.subIn K (.ref D) (.ref C) = some b) (hne : (Value.ref D == Value.ref C) = false ∨ b = true) : KitX K mg c t b := by
  refine ⟨D, .ref C, .ref C, PySem.W.mg_of X G ac, ec, .inl ⟨C, PySem.W.mg_of X G at', rfl, rfl⟩, ?_⟩
  have e2 : ((PySem.W.clsIn K C).isSome && PySem.W.typeIn K (.ref C) == some (.type "type")) = true := by
    have h2' : (PySem.W.clsIn K C).isSome = true := h2
    rw [h2', h3] <;> rfl
  show (if (Value.ref D == Value.ref C) = true then some true else (if ((PySem.W.clsIn K C).isSome && PySem.W.typeIn K (.ref C) == some (.type "type")) = true then PySem.W.subIn K (.ref D) (.ref C) else none)) = some b
  rcases hne with q | q
  · rw [q, if_neg (by decide), if_pos e2]
    exact h4
  · subst q
    rw [if_pos e2]
    split
    · rfl
    · exact h4
theorem kitX_ty {T : String} {b : Bool} (X : K.In h) (G : h.Ns mainGlobals mg) (ec : ExcC K D) (ac : PySem.W.nsIn K mainGlobals c = some (some (.ref D))) (at' : PySem.W.nsIn K mainGlobals t = some none) (hT : bootBuiltins t = some (.type T)) (hM : PySem.W.kitMeta T = true)
    (h4 : PySem.W.subIn K (.ref D) (.type T) = some b) : KitX K mg c t b := by
  refine ⟨D, .ty T, .type T, PySem.W.mg_of X G ac, ec, .inr ⟨PySem.W.mg_none_of X G at', T, hT, rfl, rfl⟩, ?_⟩
  show (if (Value.ref D == Value.type T) = true then some true else (if PySem.W.kitMeta T = true then PySem.W.subIn K (.ref D) (.type T) else none)) = some b
  rw [if_neg (fun z => by cases (show (Value.ref D == Value.type T) = false from rfl).symm.trans z), if_pos hM]
  exact h4
abbrev FunXT {K : PySem.W.Frag} {h : Heap} (_ : K.In h) (mg : Str → Option Value) (x : Str) (st : Stmt) (ps : List Str) (kn : List Nat) : Prop := FunX K mg x st ps kn
abbrev ExcXT {K : PySem.W.Frag} {h : Heap} (_ : K.In h) (mg : Str → Option Value) (x : Str) : Prop := ExcX K mg x
abbrev ExmXT {K : PySem.W.Frag} {h : Heap} (_ : K.In h) (mg : Str → Option Value) (c t : Str) (b : Bool) : Prop := ExmX K mg c t b
abbrev KitXT {K : PySem.W.Frag} {h : Heap} (_ : K.In h) (mg : Str → Option Value) (c t : Str) (b : Bool) : Prop := KitX K mg c t b
theorem all_nil {α : Type} {Q : α → Prop} : ∀ p ∈ ([] : List α), Q p := fun _ h => nomatch h
theorem all_cons {α : Type} {Q : α → Prop} {a : α} {l : List α} (h : Q a) (t : ∀ p ∈ l, Q p) : ∀ p ∈ a :: l, Q p := fun p hp => by
  rcases List.mem_cons.mp hp with e | e
  · rw [e]
    exact h
  · exact t p e
end
/-- law's: a list of at most 63 ints, none of them very long, is handed in; True comes out -/
def spLaw (K : PySem.W.Frag) : Sp := fun vs H Q _ => ∃ (a : Addr) (ns : List Int), vs = [.ref a] ∧ Scr K H a ns ∧ ns.length ≤ 63 ∧ (∀ z ∈ ns, Builtin.Int.intBits z ≤ 1048576) ∧ ∀ H', Q (.bl true) H'
theorem scr_of {K : PySem.W.Frag} {H : Hp} {a : Addr} {ns : List Int} (hO : Only H) (h : SqL K H a (ns.map V.int)) : Scr K H a ns := by
  rcases h with (h | ⟨o, h⟩) | h
  · rcases hO a with e | ⟨o, xs, e⟩
    · rw [e] at h
      cases h
    · rw [e] at h
      cases h
  · exact .inl ⟨o, h⟩
  · exact .inr h
theorem law_sp {K : PySem.W.Frag} {mg : Str → Option Value} {m : M D} (hl : ∀ ns : List Int, ns.length ≤ 63 → (∀ z ∈ ns, Builtin.Int.intBits z ≤ 1048576) → ∃ as', m [.val (.scr ns)] = .ok (.bl true) as') :
    ∀ vs H Q E, spLaw K vs H Q E → spD K mg 1 m vs H Q E := by
  rintro vs H Q E ⟨a, ns, rfl, hs, h1, h2, k⟩
  obtain ⟨as', e⟩ := hl ns h1 h2
  have no : ∀ (i : Nat) (b : Bool) (d : D), ([Slot.val (.scr ns)] : Sto)[i]? = some (.own b d) → False := fun i b d q => by
    cases i with
    | zero => cases q
    | succ i => cases q
  refine ⟨fun _ => False, [.val (.scr ns)], rfl, ⟨rfl, fun i d q => ?_, fun i b d q => (no i b d q).elim, fun i j b b' d d' p q => (no i b d q).elim, fun a g => g.elim, fun a g => g.elim⟩, ?_⟩
  · cases i with
    | zero =>
      cases q
      exact ⟨_, rfl, a, rfl, hs⟩
    | succ i => cases q
  · rw [e]
    intro v H' _ _ _ r
    cases (show v = .bl true from r)
    exact k H'
/-- THE HEAD -/
theorem walk {l : PySem.W.OpenLaw} {k : Nat} {q : Program} {loose : List Str} {XP : (Str → Option Value) → Heap → Prop} {YP : World → Heap → Prop} {d : DefRec} {K : Params → PySem.W.Frag} {m : M D} (hn : l.most = some 63) (hdf : d.params.defaults = []) (hr : Room k callerA) (hd : d.name = "law")
    (hY : ∀ (w : World) (h : Heap), YP w h → (K w.params).In h)
    (hl : ∀ ns : List Int, ns.length ≤ 63 → (∀ z ∈ ns, Builtin.Int.intBits z ≤ 1048576) → ∃ as', m [.val (.scr ns)] = .ok (.bl true) as')
    {st : Stmt} {kn : List Nat} (hb : BindsAll "law" st ["script"])
    (F : ∀ (w : World) (mg : Str → Option Value) (h : Heap), (K w.params).In h → h.Ns mainGlobals mg → FunX (K w.params) mg "law" st ["script"] kn ∧ ∀ base : Heap, Def l.prog w (K w.params) mg base "law" ["script"] kn k (spD (K w.params) mg 1 m)) :
    PySem.W.WalkO q loose XP YP l.row.toRowW d [] (fun f vs => PySem.call f vs) :=
  L2.walk_ofB (n := 63) (k := k) (x := "script") (CX := fun w => L2.CX l.prog w) (sp := fun w => spLaw (K w.params)) hn (by decide) hdf hr hY
    (fun w mg fa h KX G hmg => by
      obtain ⟨⟨f, fd, Fn, hm, hB, _⟩, FD⟩ := F w mg h KX G
      rw [hd, hm] at hmg
      cases hmg
      obtain ⟨oc1, od1, osl1, l1⟩ := Fn.lk
      obtain ⟨oc, od, kV, doc, pm, an, cdv, ct, osl, efd, _, _⟩ := Fn.ex
      refine ⟨fd, fun s u => ?_, fun base _ _ => ?_⟩
      · rw [efd]
        exact .of_eq (hb kV doc pm an cdv ct [u] rfl)
      · obtain ⟨f2, fd2, hm2, _, _, _, ⟨oc2, od2, osl2, l2⟩, FO⟩ := (FD base).ex
        rw [hm] at hm2
        cases hm2
        rw [l1] at l2
        cases l2
        exact FO.imp (law_sp hl))
    (fun w H a ns h1 h2 hO hS => ⟨a, ns, rfl, scr_of hO hS, h1, h2, fun _ => rfl⟩)
    (fun w H s e s' ⟨_, _, _, _, _, _, _, _, _, _, _, _, z⟩ => z)
end Pd

namespace Pd
open PySem L2
/-! ### evaluation: what the functions of the readings are, applied -/
section
variable {α β : Type} {η η' : Sto} {a : α} {d e : D} {i : Nat} {c : Str}
def Res.bind (r : Res α) (k : α → M β) : Res β := match r with
  | .ok a η' => k a η'
  | .exc c η' => .exc c η'
  | .bad => .bad
def Res.thn (r : Res α) (k : α → MS) : SRes := match r with
  | .ok a η' => k a η'
  | .exc c η' => .exc c η'
  | .bad => .bad
def SRes.seq (r : SRes) (b : MS) : SRes := match r with
  | .nx η' => b η'
  | r => r
theorem ev_bind (m : M α) (k : α → M β) (η : Sto) : (m >>= k) η = (m η).bind k := rfl
theorem ev_mbind (m : M α) (k : α → M β) (η : Sto) : M.bind m k η = (m η).bind k := rfl
theorem ev_bind_ok (k : α → M β) : (Res.ok a η).bind k = k a η := rfl
theorem ev_bind_exc (k : α → M β) : (Res.exc c η).bind k = .exc c η := rfl
theorem ev_pure : (pure a : M α) η = .ok a η := rfl
theorem ev_mpure : (M.pure a : M α) η = .ok a η := rfl
theorem ev_of : M.of (some a) η = .ok a η := rfl
theorem ev_thenS (m : M α) (k : α → MS) : thenS m k η = (m η).thn k := rfl
theorem ev_thn (k : α → MS) : (Res.ok a η).thn k = k a η := rfl
theorem ev_thn_exc (k : α → MS) : (Res.exc c η).thn k = .exc c η := rfl
theorem ev_seqS (a b : MS) : seqS a b η = (a η).seq b := rfl
theorem ev_seq (b : MS) : (SRes.nx η).seq b = b η := rfl
theorem ev_seq_rt (b : MS) : (SRes.rt d η).seq b = .rt d η := rfl
theorem ev_seq_bk (b : MS) : (SRes.bk η).seq b = .bk η := rfl
theorem ev_seq_ct (b : MS) : (SRes.ct η).seq b = .ct η := rfl
theorem ev_seq_exc (b : MS) : (SRes.exc c η).seq b = .exc c η := rfl
theorem ev_iteM (p : Prop) [Decidable p] (f g : M α) : (if p then f else g) η = if p then f η else g η := by split <;> rfl
theorem ev_iteS (p : Prop) [Decidable p] (f g : MS) : (if p then f else g) η = if p then f η else g η := by split <;> rfl
def getVs : Option Slot → Sto → Res D
  | some (.val d), η => .ok d η
  | _, _ => .bad
theorem ev_getV : getV i η = getVs η[i]? η := by
  unfold getV getVs
  cases η[i]? with
  | none => rfl
  | some s => cases s <;> rfl
theorem ev_getVs : getVs (some (.val d)) η = .ok d η := rfl
def canSets : Option Slot → Bool
  | some (.own true _) => false
  | some _ => true
  | none => false
theorem ev_canSet : canSet η i = canSets η[i]? := by
  unfold canSet canSets
  cases η[i]? with
  | none => rfl
  | some s => cases s with
    | own b d => cases b <;> rfl
    | _ => rfl
theorem ev_canSets_val : canSets (some (.val d)) = true := rfl
theorem ev_canSets_no : canSets (some .no) = true := rfl
theorem ev_canSets_own : canSets (some (.own false d)) = true := rfl
theorem ev_setS : setS i d η = if canSet η i = true then .nx (η.set i (.val d)) else .bad := rfl
theorem ev_ownS : ownS i d η = if canSet η i = true then .nx (η.set i (.own false d)) else .bad := rfl
def ownVs : Option Slot → Sto → Res D
  | some (.own _ d), η => .ok d η
  | _, _ => .bad
theorem ev_ownV : ownV i η = ownVs η[i]? η := by
  unfold ownV ownVs
  cases η[i]? with
  | none => rfl
  | some s => cases s <;> rfl
theorem ev_ownVs {b : Bool} : ownVs (some (.own b d)) η = .ok d η := rfl
def borVs (i : Nat) : Option Slot → Sto → Res AV
  | some (.own _ _), η => .ok (.bor i) η
  | _, _ => .bad
theorem ev_borV : borV i η = borVs i η[i]? η := by
  unfold borV borVs
  cases η[i]? with
  | none => rfl
  | some s => cases s <;> rfl
theorem ev_borVs {b : Bool} : borVs i (some (.own b d)) η = .ok (.bor i) η := rfl
theorem ev_res_val : (AV.val d).res η = .ok d η := rfl
theorem ev_res_bor : (AV.bor i).res η = ownV i η := rfl
theorem ev_onlyNx : onlyNx (.nx η) = .nx η := rfl
/-- a def's end -/
def fnOut (as : Sto) : SRes → Res D
  | .nx η => .ok .non (back as η)
  | .rt d η => .ok d (back as η)
  | .exc c η => .exc c (back as η)
  | _ => .bad
theorem ev_fnM {n N : Nat} {mb : MS} {as : Sto} : fnM n N mb as = if (decide (as.length = n) && allFix as) = true then fnOut as (mb (as ++ List.replicate (N - n) .no)) else .bad := by
  unfold fnM fnOut
  split
  · cases mb (as ++ List.replicate (N - n) .no) <;> rfl
  · rfl
theorem ev_fnOut_rt {as : Sto} : fnOut as (.rt d η) = .ok d (back as η) := rfl
theorem ev_fnOut_nx {as : Sto} : fnOut as (.nx η) = .ok .non (back as η) := rfl
theorem ev_fnOut_exc {as : Sto} : fnOut as (.exc c η) = .exc c (back as η) := rfl
end
/-! ### a def by what it does where a premise holds -/
/-- at enc x, where P x: out x; elsewhere nothing is said -/
noncomputable def specM {α : Type} (P : α → Prop) (enc : α → Sto) (out : α → Res D) : M D := fun as =>
  open Classical in if h : ∃ x, P x ∧ as = enc x then out (Classical.choose h) else .bad
theorem specM_eq {α : Type} {P : α → Prop} {enc : α → Sto} {out : α → Res D} (inj : ∀ x y, enc x = enc y → out x = out y) {x : α} (h : P x) : specM P enc out (enc x) = out x := by
  unfold specM
  have h' : ∃ y, P y ∧ enc x = enc y := ⟨x, h, rfl⟩
  rw [dif_pos h']
  exact inj _ _ (Classical.choose_spec h').2.symm
theorem says_spec {α : Type} {P : α → Prop} {enc : α → Sto} {out : α → Res D} {m : M D} (h : ∀ x, P x → m (enc x) = out x) : Says m (specM P enc out) := fun as => by
  by_cases e : ∃ x, P x ∧ as = enc x
  · right
    unfold specM
    rw [dif_pos e]
    obtain ⟨h1, h2⟩ := Classical.choose_spec e
    rw [show m as = m (enc (Classical.choose e)) from congrArg m h2]
    exact h _ h1
  · left
    unfold specM
    rw [dif_neg e]
end Pd

namespace Pd
open PySem L2
/-! ### what a function of the readings does, by what is asked of its results -/
@[irreducible] def wp {α : Type} (m : M α) (Q : α → Sto → Prop) (E : Str → Sto → Prop) (η : Sto) : Prop := match m η with
  | .ok a η' => Q a η'
  | .exc c η' => E c η'
  | .bad => False
structure Kt where
  nx : Sto → Prop
  bk : Sto → Prop
  ct : Sto → Prop
  rt : D → Sto → Prop
  ex : Str → Sto → Prop
@[irreducible] def wps (m : MS) (K : Kt) (η : Sto) : Prop := match m η with
  | .nx η' => K.nx η'
  | .bk η' => K.bk η'
  | .ct η' => K.ct η'
  | .rt d η' => K.rt d η'
  | .exc c η' => K.ex c η'
  | .bad => False
/-- a way that is not gone -/
def Nv (_ : Sto) : Prop := False
def NvE (_ : Str) (_ : Sto) : Prop := False
/-- two ways -/
def Br (c : Bool) (A B : Prop) : Prop := (c = true → A) ∧ (c = false → B)
theorem Br.t {A B : Prop} (h : A) : Br true A B := ⟨fun _ => h, fun e => nomatch e⟩
theorem Br.f {A B : Prop} (h : B) : Br false A B := ⟨fun e => (nomatch e), fun _ => h⟩
theorem Br.dec {p : Prop} [Decidable p] {A B : Prop} (h : p → A) (g : ¬ p → B) : Br (decide p) A B := ⟨fun e => h (of_decide_eq_true e), fun e => g (of_decide_eq_false e)⟩
theorem Br.decT {p : Prop} [Decidable p] {A B : Prop} (h : p) (g : A) : Br (decide p) A B := ⟨fun _ => g, fun e => absurd h (of_decide_eq_false e)⟩
theorem Br.decF {p : Prop} [Decidable p] {A B : Prop} (h : ¬ p) (g : B) : Br (decide p) A B := ⟨fun e => absurd (of_decide_eq_true e) h, fun _ => g⟩
theorem Br.no {c : Bool} {A B : Prop} (h : Br c B A) : Br (!c) A B := by
  cases c with
  | true => exact .f (h.1 rfl)
  | false => exact .t (h.2 rfl)
theorem Br.both {c : Bool} {A B : Prop} (h : c = true → A) (g : c = false → B) : Br c A B := ⟨h, g⟩
theorem Br.is {c : Bool} {A B : Prop} (e : c = true) (h : A) : Br c A B := by subst e; exact .t h
theorem Br.isnt {c : Bool} {A B : Prop} (e : c = false) (h : B) : Br c A B := by subst e; exact .f h
/-- p, by computing; then q -/
structure Rf (p q : Prop) : Prop where
  a : p
  b : q
/-- p, a fact of sizes; then q -/
structure Sd (p q : Prop) : Prop where
  a : p
  b : q
section
variable {α β : Type} {m : M α} {Q : α → Sto → Prop} {E : Str → Sto → Prop} {η : Sto} {a : α} {d e : D} {i n N : Nat} {K : Kt}
theorem wp_eq {η' : Sto} (h : m η = .ok a η') (q : Q a η') : wp m Q E η := by unfold wp; rw [h]; exact q
theorem wp_imp {Q' : α → Sto → Prop} {E' : Str → Sto → Prop} (h : wp m Q E η) (k : ∀ a η', Q a η' → Q' a η') (l : ∀ c η', E c η' → E' c η') : wp m Q' E' η := by
  unfold wp at h ⊢
  cases q : m η with
  | ok a η' => rw [q] at h; exact k _ _ h
  | exc c η' => rw [q] at h; exact l _ _ h
  | bad => rw [q] at h; exact h
theorem wps_eq {m : MS} {η' : Sto} (e : m η = .nx η') (h : K.nx η') : wps m K η := by unfold wps; rw [e]; exact h
theorem wps_imp {m : MS} {K' : Kt} (h : wps m K η) (h1 : ∀ η, K.nx η → K'.nx η) (h2 : ∀ η, K.bk η → K'.bk η) (h3 : ∀ η, K.ct η → K'.ct η) (h4 : ∀ d η, K.rt d η → K'.rt d η) (h5 : ∀ c η, K.ex c η → K'.ex c η) : wps m K' η := by
  unfold wps at h ⊢
  cases q : m η with
  | nx η' => rw [q] at h; exact h1 _ h
  | bk η' => rw [q] at h; exact h2 _ h
  | ct η' => rw [q] at h; exact h3 _ h
  | rt d η' => rw [q] at h; exact h4 _ _ h
  | exc c η' => rw [q] at h; exact h5 _ _ h
  | bad => rw [q] at h; exact h
theorem wp_ok (h : ∃ as', wp m (fun d _ => d = a) NvE η ∧ as' = η) : ∃ η', m η = .ok a η' := by
  obtain ⟨_, h, _⟩ := h
  unfold wp at h
  cases q : m η with
  | ok b η' => rw [q] at h; cases (show b = a from h); exact ⟨_, rfl⟩
  | exc c η' => rw [q] at h; exact h.elim
  | bad => rw [q] at h; exact h.elim
theorem wp_pure (h : Q a η) : wp (pure a : M α) Q E η := by unfold wp; exact h
theorem wp_mpure (h : Q a η) : wp (M.pure a) Q E η := by unfold wp; exact h
theorem wp_bind {k : α → M β} {Q : β → Sto → Prop} (h : wp m (fun a η' => wp (k a) Q E η') E η) : wp (m >>= k) Q E η := by
  show wp (M.bind m k) Q E η
  unfold wp M.bind
  unfold wp at h
  cases q : m η with
  | ok a η' => rw [q] at h; exact h
  | exc c η' => rw [q] at h; exact h
  | bad => rw [q] at h; exact h
theorem wp_of {o : Option α} (h : ∃ a, o = some a ∧ Q a η) : wp (M.of o) Q E η := by
  obtain ⟨a, rfl, h⟩ := h
  exact wp_eq rfl h
theorem wp_thenS {k : α → MS} (h : wp m (fun a η' => wps (k a) K η') K.ex η) : wps (thenS m k) K η := by
  unfold wp at h
  unfold wps thenS
  cases q : m η with
  | ok a η' => rw [q] at h; unfold wps at h; exact h
  | exc c η' => rw [q] at h; exact h
  | bad => rw [q] at h; exact h
theorem wps_seq {a b : MS} (h : wps a ⟨fun η' => wps b K η', K.bk, K.ct, K.rt, K.ex⟩ η) : wps (seqS a b) K η := by
  unfold wps seqS
  unfold wps at h
  cases q : a η with
  | nx η' => rw [q] at h; exact h
  | bk η' => rw [q] at h; exact h
  | ct η' => rw [q] at h; exact h
  | rt d η' => rw [q] at h; exact h
  | exc c η' => rw [q] at h; exact h
  | bad => rw [q] at h; exact h
end
section
variable {Q : D → Sto → Prop} {QB : Bool → Sto → Prop} {E : Str → Sto → Prop} {η : Sto} {d e : D} {i j n N : Nat} {K : Kt} {m m1 m2 m3 mk : M D} {t t1 t2 : M Bool} {ms : M (List D)} {f f' : D → D → Option Bool} {g : D → D → Option D}
theorem wp_cD (h : Q d η) : wp (cD d) Q E η := wp_eq rfl h
theorem wp_getV (h : η[i]? = some (.val d)) (q : Q d η) : wp (getV i) Q E η := by unfold wp getV; rw [h]; exact q
theorem wp_opD (h : wp m1 (fun d η1 => wp m2 (fun e η2 => ∃ x, g d e = some x ∧ Q x η2) E η1) E η) : wp (opD g m1 m2) Q E η :=
  wp_bind (wp_imp h (fun d η1 h => wp_bind (wp_imp h (fun e η2 h => wp_of h) fun _ _ h => h)) fun _ _ h => h)
theorem wp_cmD (h : wp m1 (fun d η1 => wp m2 (fun e η2 => ∃ x, f d e = some x ∧ Q (.bl x) η2) E η1) E η) : wp (cmD f m1 m2) Q E η :=
  wp_bind (wp_imp h (fun d η1 h => wp_bind (wp_imp h (fun e η2 ⟨x, e1, h⟩ => wp_of ⟨_, by rw [e1]; rfl, h⟩) fun _ _ h => h)) fun _ _ h => h)
theorem wp_cmT (h : wp m1 (fun d η1 => wp m2 (fun e η2 => ∃ x, f d e = some x ∧ QB x η2) E η1) E η) : wp (cmT f m1 m2) QB E η :=
  wp_bind (wp_imp h (fun d η1 h => wp_bind (wp_imp h (fun e η2 h => wp_of h) fun _ _ h => h)) fun _ _ h => h)
theorem wp_iteM {α : Type} {k : Bool} {a b : M α} {Q : α → Sto → Prop} (h : Br k (wp a Q E η) (wp b Q E η)) : wp (if k = true then a else b) Q E η := by
  cases k with
  | true => exact h.1 rfl
  | false => exact h.2 rfl
theorem wp_chT (h : wp m1 (fun d η1 => wp m2 (fun e η2 => ∃ x, f d e = some x ∧ Br x (wp m3 (fun z η3 => ∃ y, f' e z = some y ∧ QB y η3) E η2) (QB false η2)) E η1) E η) : wp (chT f f' m1 m2 m3) QB E η :=
  wp_bind (wp_imp h (fun d η1 h => wp_bind (wp_imp h (fun e η2 ⟨x, e1, h⟩ => wp_bind (wp_of ⟨x, e1, wp_iteM ⟨fun z => wp_bind (wp_imp (h.1 z) (fun _ _ h => wp_of h) fun _ _ h => h), fun z => wp_eq rfl (h.2 z)⟩⟩)) fun _ _ h => h)) fun _ _ h => h)
theorem wp_chD (h : wp m1 (fun d η1 => wp m2 (fun e η2 => ∃ x, f d e = some x ∧ Br x (wp m3 (fun z η3 => ∃ y, f' e z = some y ∧ Q (.bl y) η3) E η2) (Q (.bl false) η2)) E η1) E η) : wp (chD f f' m1 m2 m3) Q E η :=
  wp_bind (wp_imp h (fun d η1 h => wp_bind (wp_imp h (fun e η2 ⟨x, e1, h⟩ => wp_bind (wp_of ⟨x, e1, wp_iteM ⟨fun z => wp_bind (wp_imp (h.1 z) (fun _ _ ⟨y, e2, h⟩ => wp_of ⟨_, by rw [e2]; rfl, h⟩) fun _ _ h => h), fun z => wp_eq rfl (h.2 z)⟩⟩)) fun _ _ h => h)) fun _ _ h => h)
theorem wp_unD {u : D → Option D} (h : wp m (fun d η1 => ∃ x, u d = some x ∧ Q x η1) E η) : wp (unD u m) Q E η := wp_bind (wp_imp h (fun d η1 h => wp_of h) fun _ _ h => h)
theorem wp_tsT (h : wp m (fun d η1 => ∃ x, asB d = some x ∧ QB x η1) E η) : wp (tsT m) QB E η := wp_bind (wp_imp h (fun d η1 h => wp_of h) fun _ _ h => h)
theorem wp_anT (h : wp t1 (fun c η1 => Br c (wp t2 QB E η1) (QB false η1)) E η) : wp (anT t1 t2) QB E η := wp_bind (wp_imp h (fun d η1 h => wp_iteM ⟨h.1, fun z => wp_eq rfl (h.2 z)⟩) fun _ _ h => h)
theorem wp_orT (h : wp t1 (fun c η1 => Br c (QB true η1) (wp t2 QB E η1)) E η) : wp (orT t1 t2) QB E η := wp_bind (wp_imp h (fun d η1 h => wp_iteM ⟨fun z => wp_eq rfl (h.1 z), h.2⟩) fun _ _ h => h)
theorem wp_ntT (h : wp t (fun c η1 => QB (!c) η1) E η) : wp (ntT t) QB E η := wp_bind (wp_imp h (fun _ _ h => wp_eq rfl h) fun _ _ h => h)
theorem wp_ntD (h : wp m (fun d η1 => ∃ x, asB d = some x ∧ Q (.bl (!x)) η1) E η) : wp (ntD m) Q E η := wp_bind (wp_imp h (fun d η1 ⟨x, e, h⟩ => wp_bind (wp_of ⟨x, e, wp_eq rfl h⟩)) fun _ _ h => h)
theorem wp_anD (h : wp m1 (fun d η1 => ∃ c, asB d = some c ∧ Br c (wp m2 Q E η1) (Q (.bl false) η1)) E η) : wp (anD m1 m2) Q E η := wp_bind (wp_imp h (fun d η1 ⟨x, e, h⟩ => wp_bind (wp_of ⟨x, e, wp_iteM ⟨h.1, fun z => wp_eq rfl (h.2 z)⟩⟩)) fun _ _ h => h)
theorem wp_orD (h : wp m1 (fun d η1 => ∃ c, asB d = some c ∧ Br c (Q (.bl true) η1) (wp m2 Q E η1)) E η) : wp (orD m1 m2) Q E η := wp_bind (wp_imp h (fun d η1 ⟨x, e, h⟩ => wp_bind (wp_of ⟨x, e, wp_iteM ⟨fun z => wp_eq rfl (h.1 z), h.2⟩⟩)) fun _ _ h => h)
theorem wp_ifD (h : wp t (fun c η1 => Br c (wp m1 Q E η1) (wp m2 Q E η1)) E η) : wp (ifD t m1 m2) Q E η := wp_bind (wp_imp h (fun d η1 h => wp_iteM h) fun _ _ h => h)
theorem wp_vlV {QV : AV → Sto → Prop} (h : wp m (fun d η1 => QV (.val d) η1) E η) : wp (vlV m) QV E η := wp_bind (wp_imp h (fun _ _ h => wp_eq rfl h) fun _ _ h => h)
theorem wp_borV {QV : AV → Sto → Prop} {b : Bool} (h : η[i]? = some (.own b d)) (q : QV (.bor i) η) : wp (borV i) QV E η := by unfold wp borV; rw [h]; exact q
theorem wp_resv (q : Q d η) : wp (AV.val d).res Q E η := wp_eq rfl q
theorem wp_resb {b : Bool} (h : η[i]? = some (.own b d)) (q : Q d η) : wp (AV.bor i).res Q E η := by
  show wp (ownV i) Q E η
  unfold wp ownV
  rw [h]
  exact q
theorem wp_opV {a b : M AV} (h : wp a (fun x η1 => wp b (fun y η2 => wp x.res (fun d η3 => wp y.res (fun e η4 => ∃ z, g d e = some z ∧ Q z η4) E η3) E η2) E η1) E η) : wp (opV g a b) Q E η :=
  wp_bind (wp_imp h (fun _ _ h => wp_bind (wp_imp h (fun _ _ h => wp_bind (wp_imp h (fun _ _ h => wp_bind (wp_imp h (fun _ _ h => wp_of h) fun _ _ h => h)) fun _ _ h => h)) fun _ _ h => h)) fun _ _ h => h)
theorem wp_cmVT {a b : M AV} (h : wp a (fun x η1 => wp b (fun y η2 => wp x.res (fun d η3 => wp y.res (fun e η4 => ∃ z, f d e = some z ∧ QB z η4) E η3) E η2) E η1) E η) : wp (cmVT f a b) QB E η :=
  wp_bind (wp_imp h (fun _ _ h => wp_bind (wp_imp h (fun _ _ h => wp_bind (wp_imp h (fun _ _ h => wp_bind (wp_imp h (fun _ _ h => wp_of h) fun _ _ h => h)) fun _ _ h => h)) fun _ _ h => h)) fun _ _ h => h)
theorem wp_cmVD {a b : M AV} (h : wp a (fun x η1 => wp b (fun y η2 => wp x.res (fun d η3 => wp y.res (fun e η4 => ∃ z, f d e = some z ∧ Q (.bl z) η4) E η3) E η2) E η1) E η) : wp (cmVD f a b) Q E η :=
  wp_bind (wp_imp h (fun _ _ h => wp_bind (wp_imp h (fun _ _ h => wp_bind (wp_imp h (fun _ _ h => wp_bind (wp_imp h (fun _ _ ⟨z, e1, h⟩ => wp_of ⟨_, by rw [e1]; rfl, h⟩) fun _ _ h => h)) fun _ _ h => h)) fun _ _ h => h)) fun _ _ h => h)
theorem wp_noI {QI : Option Int → Sto → Prop} (h : QI none η) : wp noI QI E η := wp_eq rfl h
theorem wp_smI {QI : Option Int → Sto → Prop} (h : wp m (fun d η1 => ∃ k, asI d = some k ∧ QI (some k) η1) E η) : wp (smI m) QI E η := wp_bind (wp_imp h (fun _ _ ⟨k, e, h⟩ => wp_of ⟨_, by rw [e]; rfl, h⟩) fun _ _ h => h)
theorem wp_slD {l h' : M (Option Int)} (h : wp m (fun d η1 => wp l (fun lo η2 => wp h' (fun hi η3 => ∃ x, cutD d lo hi = some x ∧ Q x η3) E η2) E η1) E η) : wp (slD m l h') Q E η :=
  wp_bind (wp_imp h (fun _ _ h => wp_bind (wp_imp h (fun _ _ h => wp_bind (wp_imp h (fun _ _ h => wp_of h) fun _ _ h => h)) fun _ _ h => h)) fun _ _ h => h)
theorem wp_slV {a : M AV} {l h' : M (Option Int)} (h : wp a (fun x η1 => wp l (fun lo η2 => wp h' (fun hi η3 => wp x.res (fun d η4 => ∃ x, cutD d lo hi = some x ∧ Q x η4) E η3) E η2) E η1) E η) : wp (slV a l h') Q E η :=
  wp_bind (wp_imp h (fun _ _ h => wp_bind (wp_imp h (fun _ _ h => wp_bind (wp_imp h (fun _ _ h => wp_bind (wp_imp h (fun _ _ h => wp_of h) fun _ _ h => h)) fun _ _ h => h)) fun _ _ h => h)) fun _ _ h => h)
theorem wp_bltD {b : List D → Option D} (h : wp ms (fun ds η1 => ∃ x, b ds = some x ∧ Q x η1) E η) : wp (bltD b ms) Q E η := wp_bind (wp_imp h (fun _ _ h => wp_of h) fun _ _ h => h)
theorem wp_bltV {b : List D → Option D} {as : M (List AV)} (h : wp as (fun vs η1 => wp (resAll vs) (fun ds η2 => ∃ x, b ds = some x ∧ Q x η2) E η1) E η) : wp (bltV b as) Q E η :=
  wp_bind (wp_imp h (fun _ _ h => wp_bind (wp_imp h (fun _ _ h => wp_of h) fun _ _ h => h)) fun _ _ h => h)
theorem wp_resN {QL : List D → Sto → Prop} (h : QL [] η) : wp (resAll []) QL E η := wp_eq rfl h
theorem wp_resC {QL : List D → Sto → Prop} {a : AV} {as : List AV} (h : wp a.res (fun d η1 => wp (resAll as) (fun ds η2 => QL (d :: ds) η2) E η1) E η) : wp (resAll (a :: as)) QL E η :=
  wp_bind (wp_imp h (fun _ _ h => wp_bind (wp_imp h (fun _ _ h => wp_eq rfl h) fun _ _ h => h)) fun _ _ h => h)
theorem wp_isiM {T : String} (h : wp m (fun d η1 => ∃ x, isiD T d = some x ∧ Q x η1) E η) : wp (isiM T m) Q E η := wp_bind (wp_imp h (fun _ _ h => wp_of h) fun _ _ h => h)
theorem wp_nlD {QL : List D → Sto → Prop} (h : QL [] η) : wp nlD QL E η := wp_eq rfl h
theorem wp_csD {QL : List D → Sto → Prop} (h : wp m (fun d η1 => wp ms (fun ds η2 => QL (d :: ds) η2) E η1) E η) : wp (csD m ms) QL E η := wp_bind (wp_imp h (fun _ _ h => wp_bind (wp_imp h (fun _ _ h => wp_eq rfl h) fun _ _ h => h)) fun _ _ h => h)
theorem wp_nlV {QL : List AV → Sto → Prop} (h : QL [] η) : wp nlV QL E η := wp_eq rfl h
theorem wp_csV {QL : List AV → Sto → Prop} {a : M AV} {as : M (List AV)} (h : wp a (fun d η1 => wp as (fun ds η2 => QL (d :: ds) η2) E η1) E η) : wp (csV a as) QL E η := wp_bind (wp_imp h (fun _ _ h => wp_bind (wp_imp h (fun _ _ h => wp_eq rfl h) fun _ _ h => h)) fun _ _ h => h)
theorem wp_tpD (h : wp ms (fun ds η1 => Rf (lenOk ds.length = true) (Q (.tup ds) η1)) E η) : wp (tpD ms) Q E η := wp_bind (wp_imp h (fun _ _ ⟨e, h⟩ => wp_of ⟨_, if_pos e, h⟩) fun _ _ h => h)
theorem wp_lsD (h : wp ms (fun ds η1 => Rf (lenOk ds.length = true) (Q (.lst ds) η1)) E η) : wp (lsD ms) Q E η := wp_bind (wp_imp h (fun _ _ ⟨e, h⟩ => wp_of ⟨_, if_pos e, h⟩) fun _ _ h => h)
theorem wp_itD {QL : List D → Sto → Prop} (h : wp m (fun d η1 => ∃ ds, itemsD d = some ds ∧ QL ds η1) E η) : wp (itD m) QL E η := wp_bind (wp_imp h (fun _ _ h => wp_of h) fun _ _ h => h)
theorem wp_rg1 {QL : List D → Sto → Prop} (h : wp ms (fun d η1 => ∃ ds, range1D d = some ds ∧ QL ds η1) E η) : wp (rg1 ms) QL E η := wp_bind (wp_imp h (fun _ _ h => wp_of h) fun _ _ h => h)
theorem wp_rg2 {QL : List D → Sto → Prop} (h : wp ms (fun d η1 => ∃ ds, range2D d = some ds ∧ QL ds η1) E η) : wp (rg2 ms) QL E η := wp_bind (wp_imp h (fun _ _ h => wp_of h) fun _ _ h => h)
/-! statements -/
theorem wps_stS (h : wp m (fun d η1 => Rf (canSet η1 i = true) (K.nx (η1.set i (.val d)))) K.ex η) : wps (stS i m) K η := wp_thenS (wp_imp h (fun d η1 ⟨e, h⟩ => by unfold wps setS; rw [if_pos e]; exact h) fun _ _ h => h)
theorem wps_owS (h : wp m (fun d η1 => Rf (canSet η1 i = true) (K.nx (η1.set i (.own false d)))) K.ex η) : wps (owS i m) K η := wp_thenS (wp_imp h (fun d η1 ⟨e, h⟩ => by unfold wps ownS; rw [if_pos e]; exact h) fun _ _ h => h)
theorem wps_rtS (h : wp m K.rt K.ex η) : wps (rtS m) K η := wp_thenS (wp_imp h (fun _ _ h => by unfold wps; exact h) fun _ _ h => h)
theorem wps_exS (h : wp m (fun _ η1 => K.nx η1) K.ex η) : wps (exS m) K η := wp_thenS (wp_imp h (fun _ _ h => by unfold wps; exact h) fun _ _ h => h)
theorem wps_ite {k : Bool} {a b : MS} (h : Br k (wps a K η) (wps b K η)) : wps (if k = true then a else b) K η := by
  cases k with
  | true => exact h.1 rfl
  | false => exact h.2 rfl
theorem wps_ifS {a b : MS} (h : wp t (fun c η1 => Br c (wps a K η1) (wps b K η1)) K.ex η) : wps (ifS t a b) K η := wp_thenS (wp_imp h (fun _ _ h => wps_ite h) fun _ _ h => h)
theorem wps_setS (e : canSet η i = true) (h : K.nx (η.set i (.val d))) : wps (setS i d) K η := by unfold wps setS; rw [if_pos e]; exact h
theorem wps_paS (h : wp ms (fun ds η1 => ∃ d e, ds = [d, e] ∧ canSet η1 i = true ∧ canSet (η1.set i (.val d)) j = true ∧ K.nx ((η1.set i (.val d)).set j (.val e))) K.ex η) : wps (paS i j ms) K η :=
  wp_thenS (wp_imp h (fun ds η1 ⟨d, e, e1, h1, h2, h⟩ => by subst e1; exact wps_seq (wps_setS h1 (wps_setS h2 h))) fun _ _ h => h)
/-- a target -/
def wpg (g : MS) (Q : Sto → Prop) (η : Sto) : Prop := ∃ η', g η = .nx η' ∧ Q η'
theorem wpg_set {Q : Sto → Prop} (e : canSet η i = true) (h : Q (η.set i (.val d))) : wpg (setS i d) Q η := ⟨_, by unfold setS; rw [if_pos e], h⟩
theorem wpg_seq {a b : MS} {Q : Sto → Prop} (h : wpg a (wpg b Q) η) : wpg (seqS a b) Q η := by
  obtain ⟨η1, e1, η2, e2, h⟩ := h
  exact ⟨η2, by unfold seqS; rw [e1]; exact e2, h⟩
theorem wpg_N {Q : Sto → Prop} (h : Q η) : wpg (tgN []) Q η := ⟨η, rfl, h⟩
theorem wpg_C {Q : Sto → Prop} {g : D → MS} {gs : List D → MS} {ds : List D} (h : wpg (g d) (wpg (gs ds) Q) η) : wpg (tgC g gs (d :: ds)) Q η := wpg_seq h
theorem wpg_T {Q : Sto → Prop} {gs : List D → MS} {ds : List D} (e : ds.length = n) (h : wpg (gs ds) Q η) : wpg (tgT n gs (.tup ds)) Q η := by
  obtain ⟨η', e1, h⟩ := h
  exact ⟨η', by unfold tgT; simp only [if_pos e]; exact e1, h⟩
theorem wps_asS {g : D → MS} (h : wp m (fun d η1 => wpg (g d) K.nx η1) K.ex η) : wps (asS m g) K η := wp_thenS (wp_imp h (fun d η1 ⟨η', e, h⟩ => by unfold wps; simp only [e, onlyNx]; exact h) fun _ _ h => h)
theorem wps_soS (h : wp m (fun d η1 => wp (ownV i) (fun _ η2 => wp mk (fun k η3 => ∃ b c c', η3[i]? = some (.own b c) ∧ putL c k d = some c' ∧ K.nx (η3.set i (.own b c'))) K.ex η2) K.ex η1) K.ex η) : wps (soS i m mk) K η :=
  wp_thenS (wp_bind (wp_imp h (fun d η1 h => wp_bind (wp_imp h (fun _ η2 h => wp_bind (wp_imp h (fun k η3 ⟨b, c, c', e1, e2, h⟩ => by
    refine wp_eq rfl ?_
    show wps (storeS i d k) K η3
    unfold wps storeS
    rw [e1]
    simp only
    rw [e2]
    exact h) fun _ _ h => h)) fun _ _ h => h)) fun _ _ h => h))
theorem wp_ownV {b : Bool} (h : η[i]? = some (.own b d)) (q : Q d η) : wp (ownV i) Q E η := wp_resb h q
theorem wps_apS (h : ∃ b ds, η[i]? = some (.own b (.lst ds)) ∧ wp m (fun d η1 => ∃ b ds, η1[i]? = some (.own b (.lst ds)) ∧ lenOk ds.length = true ∧ K.nx (η1.set i (.own b (.lst (ds ++ [d]))))) K.ex η) : wps (apS i m) K η := by
  obtain ⟨b, ds, e, h⟩ := h
  refine wp_thenS ?_
  unfold wp ownL
  rw [e]
  refine wp_thenS (wp_imp h (fun d η1 ⟨b, ds, e1, e2, h⟩ => ?_) fun _ _ h => h)
  unfold wps appS
  rw [e1]
  simp only
  rw [if_pos e2]
  exact h
theorem wps_nxS (h : K.nx η) : wps nxS K η := by unfold wps; exact h
theorem wps_bkS (h : K.bk η) : wps bkS K η := by unfold wps; exact h
theorem wps_ctS (h : K.ct η) : wps ctS K η := by unfold wps; exact h
theorem wps_rnS (h : K.rt .non η) : wps rnS K η := by unfold wps; exact h
theorem wps_raS {x : Str} (h : K.ex x η) : wps (raS x) K η := by unfold wps; exact h
theorem wps_rlS {mb : MS} (h : wps mb K (relS i η)) : wps (rlS i mb) K η := by unfold wps at h ⊢; exact h
theorem wps_roS (e : η[i]? = some (.own false d)) (h : K.rt d (η.set i .no)) : wps (roS i) K η := by
  unfold wps roS
  rw [e]
  exact h
theorem wps_turn {g : D → MS} {mb : MS} (h : wpg (g d) (wps mb K) η) : wps (turnS g mb d) K η := by
  obtain ⟨η', e, h⟩ := h
  exact wps_seq (wps_eq (by show onlyNx (g d η) = _; rw [e]; rfl) h)
theorem wps_forL {fb : D → MS} (I : Nat → Sto → Prop) : ∀ {ds : List D} {η : Sto} (k : Nat), (∀ i d η', ds[i]? = some d → I (k + i) η' → wps (fb d) ⟨I (k + i + 1), K.nx, I (k + i + 1), K.rt, K.ex⟩ η') → I k η → (∀ η', I (k + ds.length) η' → K.nx η') → wps (forS fb ds) K η
  | [], η, k, _, h0, h1 => by unfold wps; exact h1 η h0
  | d :: ds, η, k, hs, h0, h1 => by
    have h := hs 0 d η rfl h0
    have ih : ∀ η', I (k + 1) η' → wps (forS fb ds) K η' := fun η' hi => wps_forL I (k + 1) (fun i d' η2 e h2 => by
      have e2 : k + 1 + i = k + (i + 1) := by omega
      rw [e2] at h2 ⊢
      exact hs (i + 1) d' η2 (by simpa using e) h2) hi (fun η2 h2 => h1 η2 (by rw [List.length_cons, show k + (ds.length + 1) = k + 1 + ds.length by omega]; exact h2))
    unfold wps at h ⊢
    unfold forS
    cases q : fb d η with
    | nx η' => rw [q] at h; have g := ih η' h; unfold wps at g; exact g
    | bk η' => rw [q] at h; exact h
    | ct η' => rw [q] at h; have g := ih η' h; unfold wps at g; exact g
    | rt d η' => rw [q] at h; exact h
    | exc c η' => rw [q] at h; exact h
    | bad => rw [q] at h; exact h
theorem wps_foS {mi : M (List D)} {g : D → MS} {mb : MS} (h : wp mi (fun ds η1 => wps (forS (turnS g mb) ds) K η1) K.ex η) : wps (foS mi g mb) K η := wp_thenS h
/-- a loop by what holds ahead of each turn -/
theorem wps_for {fb : D → MS} {ds : List D} (I : Nat → Sto → Prop) (h0 : I 0 η) (hs : ∀ i d η', ds[i]? = some d → I i η' → wps (fb d) ⟨I (i + 1), K.nx, I (i + 1), K.rt, K.ex⟩ η') (h1 : ∀ η', I ds.length η' → K.nx η') : wps (forS fb ds) K η :=
  wps_forL I 0 (fun i d η' e h => by rw [Nat.zero_add] at h ⊢; exact hs i d η' e h) h0 (fun η' h => h1 η' (by rw [Nat.zero_add] at h; exact h))
theorem wps_for0 {fb : D → MS} (h : K.nx η) : wps (forS fb []) K η := by unfold wps; exact h
theorem wps_for1 {fb : D → MS} {ds : List D} (h : wps (fb d) ⟨fun η' => wps (forS fb ds) K η', K.nx, fun η' => wps (forS fb ds) K η', K.rt, K.ex⟩ η) : wps (forS fb (d :: ds)) K η := by
  unfold wps at h ⊢
  unfold forS
  cases q : fb d η with
  | nx η' => rw [q] at h; exact h
  | bk η' => rw [q] at h; exact h
  | ct η' => rw [q] at h; exact h
  | rt d η' => rw [q] at h; exact h
  | exc c η' => rw [q] at h; exact h
  | bad => rw [q] at h; exact h
theorem wps_whS {mb : MS} {fuel : Sto → Nat} (h : wps (whileS t mb (fuel η)) K η) : wps (whS t mb fuel) K η := by unfold wps at h ⊢; exact h
theorem wps_while {mb : MS} (I : Nat → Sto → Prop) (hs : ∀ n η', I n η' → wp t (fun c η1 => Br c (wps mb ⟨fun η2 => ∃ k, k < n ∧ I k η2, K.nx, fun η2 => ∃ k, k < n ∧ I k η2, K.rt, K.ex⟩ η1) (K.nx η1)) K.ex η') : ∀ (n : Nat) {f : Nat} {η : Sto}, n < f → I n η → wps (whileS t mb f) K η
  | n, 0, η, hf, _ => absurd hf (Nat.not_lt_zero _)
  | n, f + 1, η, hf, h0 => by
    refine wp_thenS (wp_imp (hs n η h0) (fun c η1 h => ?_) fun _ _ h => h)
    refine wps_ite ⟨fun e => ?_, fun e => wps_eq rfl (h.2 e)⟩
    have h := h.1 e
    have ih : ∀ η', (∃ k, k < n ∧ I k η') → wps (whileS t mb f) K η' := fun η' ⟨k, hk, hi⟩ => wps_while I hs k (by omega) hi
    unfold wps at h ⊢
    cases q : mb η1 with
    | nx η' => rw [q] at h; simp only [q]; have g := ih η' h; unfold wps at g; exact g
    | bk η' => rw [q] at h; simp only [q]; exact h
    | ct η' => rw [q] at h; simp only [q]; have g := ih η' h; unfold wps at g; exact g
    | rt d η' => rw [q] at h; simp only [q]; exact h
    | exc c η' => rw [q] at h; simp only [q]; exact h
    | bad => rw [q] at h; exact False.elim h
theorem wps_try {cl : Str → Option Bool} {mb : MS} {ms : Str → MS} (h : wps mb ⟨K.nx, K.bk, K.ct, K.rt, fun c η' => ∃ b, cl c = some b ∧ Br b (Rf (canSet η' i = true) (wps (ms c) ⟨fun η'' => Rf (canSet η'' i = true) (K.nx (η''.set i .no)), Nv, Nv, K.rt, NvE⟩ (η'.set i .no))) (K.ex c η')⟩ η) : wps (tryS cl i mb ms) K η := by
  unfold wps at h ⊢
  unfold tryS
  cases q : mb η with
  | nx η' => rw [q] at h; exact h
  | bk η' => rw [q] at h; exact h
  | ct η' => rw [q] at h; exact h
  | rt d η' => rw [q] at h; exact h
  | bad => rw [q] at h; exact h
  | exc c η' =>
    rw [q] at h
    obtain ⟨b, e, h⟩ := h
    simp only
    rw [e]
    cases b with
    | false => exact h.2 rfl
    | true =>
      obtain ⟨e1, h⟩ := h.1 rfl
      simp only
      rw [if_pos e1]
      cases q2 : ms c (η'.set i .no) with
      | nx η3 =>
        rw [q2] at h
        obtain ⟨e3, h⟩ := h
        unfold sufS
        simp only
        rw [if_pos e3]
        exact h
      | rt d η3 => rw [q2] at h; exact h
      | bk η3 => rw [q2] at h; exact h.elim
      | ct η3 => rw [q2] at h; exact h.elim
      | exc c3 η3 => rw [q2] at h; exact h.elim
      | bad => rw [q2] at h; exact h.elim
/-! defs -/
theorem wp_fnM {mb : MS} {as : Sto} (h1 : as.length = n) (h2 : allFix as = true) (h : wps mb ⟨fun η => Q .non (back as η), Nv, Nv, fun d η => Q d (back as η), fun c η => E c (back as η)⟩ (as ++ List.replicate (N - n) .no)) : wp (fnM n N mb) Q E as := by
  unfold wps at h
  unfold wp fnM
  rw [if_pos (by rw [h2, decide_eq_true h1]; rfl)]
  cases q : mb (as ++ List.replicate (N - n) .no) with
  | nx η' => rw [q] at h; exact h
  | bk η' => rw [q] at h; exact h
  | ct η' => rw [q] at h; exact h
  | rt d η' => rw [q] at h; exact h
  | exc c η' => rw [q] at h; exact h
  | bad => rw [q] at h; exact h
theorem wp_fnF {mb : MS} {as : Sto} (h1 : as.length = n) (h2 : allFix as = true) (h : wps mb ⟨Nv, Nv, Nv, fun d η => Q d (back as η), fun c η => E c (back as η)⟩ (as ++ List.replicate (N - n) .no)) : wp (fnF n N mb) Q E as := by
  unfold wps at h
  unfold wp fnF
  rw [if_pos (by rw [h2, decide_eq_true h1]; rfl)]
  cases q : mb (as ++ List.replicate (N - n) .no) with
  | nx η' => rw [q] at h; exact h.elim
  | bk η' => rw [q] at h; exact h
  | ct η' => rw [q] at h; exact h
  | rt d η' => rw [q] at h; exact h
  | exc c η' => rw [q] at h; exact h
  | bad => rw [q] at h; exact h
/-! calls -/
variable {fm : M D} {jo : Option Nat} {ma mz : M (List AV)} {avs : List AV} {nl : D → Bool}
theorem wp_lenM {QL : List AV → Sto → Prop} (e : avs.length = n) (h : QL avs η) : wp (lenM n avs) QL E η := wp_of ⟨avs, if_pos e, h⟩
theorem wp_cal (h : wp ma (fun as η1 => Rf (as.length = n) (wp (callM noLst fm jo as) Q E η1)) E η) : wp (cal n fm jo ma) Q E η := wp_bind (wp_imp h (fun as η1 ⟨e, h⟩ => wp_bind (wp_lenM e h)) fun _ _ h => h)
theorem wp_calF (h : wp ma (fun as η1 => Rf (as.length = n) (wp (callM noLstIn fm jo as) Q E η1)) E η) : wp (calF n fm jo ma) Q E η := wp_bind (wp_imp h (fun as η1 ⟨e, h⟩ => wp_bind (wp_lenM e h)) fun _ _ h => h)
theorem wp_cal0 (h : wp (callM noLst fm none []) Q NvE η) : wp (cal0 fm) Q E η := by
  unfold wp cal0 noX
  unfold wp at h
  cases q : callM noLst fm none [] η with
  | ok a η' => rw [q] at h; exact h
  | exc c η' => rw [q] at h; exact h.elim
  | bad => rw [q] at h; exact h
theorem wp_calK {n1 n2 : Nat} (h : wp ma (fun as η1 => Rf (as.length = n1) (wp mz (fun zs η2 => Rf (zs.length = n2) (Rf ((as ++ zs).length = n) (wp (callM noLst fm jo (as ++ zs)) Q E η2))) E η1)) E η) : wp (calK n n1 n2 fm jo ma mz) Q E η :=
  wp_bind (wp_imp h (fun as η1 ⟨e, h⟩ => wp_bind (wp_lenM e (wp_bind (wp_imp h (fun zs η2 ⟨e1, ⟨e2, h⟩⟩ => wp_bind (wp_lenM e1 (wp_bind (wp_lenM e2 h)))) fun _ _ h => h)))) fun _ _ h => h)
theorem wp_calK0 {n2 : Nat} (h : wp mz (fun zs η2 => Rf (zs.length = n2) (Rf (zs.length = n) (wp (callM noLst fm jo zs) Q E η2))) E η) : wp (calK0 n n2 fm jo mz) Q E η :=
  wp_bind (wp_imp h (fun zs η2 ⟨e1, ⟨e2, h⟩⟩ => wp_bind (wp_lenM e1 (wp_bind (wp_lenM e2 h)))) fun _ _ h => h)
def avVal : AV → Option D
  | .val d => some d
  | .bor _ => none
def avVals : List AV → Option (List D)
  | [] => some []
  | .val d :: r => (avVals r).map (d :: ·)
  | .bor _ :: _ => none
theorem mkA_vals : ∀ {avs : List AV} {ds : List D}, avVals avs = some ds → mkA η none avs = some (ds.map Slot.val) ∧ bors none avs = []
  | [], ds, h => by cases h; exact ⟨rfl, rfl⟩
  | .val d :: r, ds, h => by
    unfold avVals at h
    cases q : avVals r with
    | none => rw [q] at h; cases h
    | some es =>
      rw [q] at h
      cases h
      obtain ⟨h1, h2⟩ := mkA_vals q
      refine ⟨?_, by unfold bors; exact h2⟩
      simp only [mkA, h1, Option.map_some, List.map_cons]
  | .bor i :: r, ds, h => by cases h
/-- a call with values alone -/
theorem wp_vals {ds : List D} (e : avVals avs = some ds) (h : wp fm (fun d _ => Q d η) (fun c _ => E c η) (ds.map Slot.val)) : wp (callM nl fm none avs) Q E η := by
  obtain ⟨e1, e2⟩ := mkA_vals (η := η) e
  unfold wp at h ⊢
  unfold callM
  rw [e1]
  simp only
  rw [if_pos (by rfl)]
  cases q : fm (ds.map Slot.val) with
  | ok d as =>
    rw [q] at h
    unfold finM clean
    rw [e2]
    exact h
  | exc c as =>
    rw [q] at h
    unfold finM clean
    rw [e2]
    exact h
  | bad => rw [q] at h; exact h
/-- a call whose first argument is changed -/
theorem wp_io {ds : List D} {b : Bool} {c0 : D} (e : avVals avs = some ds) (e0 : η[i]? = some (.own b c0))
    (h : wp fm (fun d as => ∃ c r, as = .own true c :: r ∧ Q d (η.set i (.own b c))) (fun x as => ∃ c r, as = .own true c :: r ∧ E x (η.set i (.own b c))) (.own true c0 :: ds.map Slot.val)) : wp (callM nl fm (some 0) (.bor i :: avs)) Q E η := by
  obtain ⟨e1, e2⟩ := mkA_vals (η := η) e
  have em : mkA η (some 0) (.bor i :: avs) = some (.own true c0 :: ds.map Slot.val) := by
    simp only [mkA, e0, e1, Option.map_some]
  have eb : bors (some 0) (.bor i :: avs) = [] := by unfold bors; exact e2
  have ei : ioIx (some 0) (.bor i :: avs) = some i := rfl
  unfold wp at h ⊢
  unfold callM
  rw [em]
  simp only
  rw [if_pos (by unfold chk; rw [ei, eb]; rfl)]
  have ew : ∀ c r, wb η (some 0) (.bor i :: avs) (.own true c :: r) = η.set i (.own b c) := fun c r => by
    unfold wb
    rw [ei]
    simp only
    rw [e0]
    rfl
  cases q : fm (.own true c0 :: ds.map Slot.val) with
  | ok d as =>
    rw [q] at h
    obtain ⟨c, r, rfl, h⟩ := h
    unfold finM clean
    simp only [eb, ew, List.isEmpty_nil, Bool.true_or, if_true]
    exact h
  | exc x as =>
    rw [q] at h
    obtain ⟨c, r, rfl, h⟩ := h
    unfold finM clean
    simp only [eb, ew, List.isEmpty_nil, Bool.true_or, if_true]
    exact h
  | bad => rw [q] at h; exact h
theorem wp_kitT {l : List (Str × Bool)} {c : Str} {b : Bool} (e : l.lookup c = some b) (h : Q (.bl b) η) : wp (kitT l c) Q E η := by
  unfold kitT
  rw [e]
  exact wp_eq rfl h
/-! comprehensions -/
variable {vs : List Nat} {mi : M (List D)} {gt : D → MS} {mt : M Bool} {me : M D}
theorem wp_turnC {QO : Option D → Sto → Prop} (hn : noOwn η vs = true) (h : wpg (gt d) (fun η1 => wp mt (fun c η2 => Br c (wp me (fun y η3 => QO (some y) (restS η η3 vs)) NvE η2) (QO none (restS η η2 vs))) NvE η1) (wipeS η vs)) : wp (turnC vs gt mt me d) QO E η := by
  obtain ⟨η1, e1, h⟩ := h
  unfold wp at h ⊢
  unfold turnC
  rw [if_pos hn, e1]
  simp only
  cases q : mt η1 with
  | ok c η2 =>
    rw [q] at h
    cases c with
    | true =>
      have h := h.1 rfl
      simp only
      unfold wp at h
      cases q2 : me η2 with
      | ok y η3 => rw [q2] at h; exact h
      | exc c3 η3 => rw [q2] at h; exact h.elim
      | bad => rw [q2] at h; exact h.elim
    | false => exact h.2 rfl
  | exc c2 η2 => rw [q] at h; exact h.elim
  | bad => rw [q] at h; exact h.elim
theorem wp_compM {ft : D → M (Option D)} (I : Nat → List D → Sto → Prop) {QL : List D → Sto → Prop} : ∀ {ds acc : List D} {η : Sto} (k : Nat),
    (∀ i d acc η', ds[i]? = some d → I (k + i) acc η' → wp (ft d) (fun o η2 => ∃ acc', growC acc o = some acc' ∧ I (k + i + 1) acc' η2) E η') → I k acc η → (∀ acc η', I (k + ds.length) acc η' → QL acc η') → wp (compM ft acc ds) QL E η
  | [], acc, η, k, _, h0, h1 => wp_eq rfl (h1 acc η h0)
  | d :: ds, acc, η, k, hs, h0, h1 => by
    refine wp_bind (m := ft d) (wp_imp (hs 0 d acc η rfl h0) (fun o η2 ⟨acc', e, h⟩ => ?_) fun _ _ h => h)
    refine wp_bind (m := M.of (growC acc o)) (wp_of ⟨acc', e, ?_⟩)
    refine wp_compM I (k + 1) (fun i d' acc2 η3 e h2 => ?_) h (fun acc2 η3 h2 => h1 acc2 η3 (by rw [List.length_cons, show k + (ds.length + 1) = k + 1 + ds.length by omega]; exact h2))
    have e2 : k + 1 + i = k + (i + 1) := by omega
    rw [e2] at h2 ⊢
    exact hs (i + 1) d' acc2 η3 (by simpa using e) h2
theorem wp_compL (h : wp mi (fun ds η1 => wp (compM (turnC vs gt mt me) [] ds) (fun ys η2 => Q (.lst ys) η2) E η1) E η) : wp (compL vs mi gt mt me) Q E η := wp_bind (wp_imp h (fun _ _ h => wp_bind (wp_imp h (fun _ _ h => wp_eq rfl h) fun _ _ h => h)) fun _ _ h => h)
/-- a comprehension that leaves the slots as they are, item by item -/
theorem wp_compF {ds : List D} (F : Nat → D → Option D) (hl : lenOk ds.length = true) (hs : ∀ i d, ds[i]? = some d → wp (turnC vs gt mt me d) (fun o η2 => o = F i d ∧ η2 = η) NvE η) {QL : List D → Sto → Prop}
    (h1 : QL ((ds.mapIdx F).filterMap id) η) : wp (compM (turnC vs gt mt me) [] ds) QL E η := by
  have hle : ∀ l : List (Option D), (l.filterMap id).length ≤ l.length := fun l => List.length_filterMap_le _ _
  refine wp_compM (fun k acc η' => η' = η ∧ acc = ((ds.mapIdx F).take k).filterMap id) 0 (fun i d acc η' e ⟨e1, e2⟩ => ?_) ⟨rfl, by simp⟩ (fun acc η' ⟨e1, e2⟩ => ?_)
  · rw [e1]
    refine wp_imp (hs i d e) (fun o η2 ⟨ho, h2⟩ => ?_) fun _ _ h => h.elim
    have ht : (ds.mapIdx F).take (i + 1) = (ds.mapIdx F).take i ++ [F i d] := by
      rw [List.take_add_one, List.getElem?_mapIdx, e]
      rfl
    rw [Nat.zero_add] at e2 ⊢
    rw [ho]
    cases q : F i d with
    | none => exact ⟨acc, rfl, h2, by rw [ht, List.filterMap_append, q, e2]; simp⟩
    | some y =>
      refine ⟨acc ++ [y], ?_, h2, by rw [ht, List.filterMap_append, q, e2]; simp⟩
      unfold growC
      simp only
      rw [if_pos]
      unfold lenOk at hl ⊢
      have hl2 := of_decide_eq_true hl
      refine decide_eq_true (Nat.le_trans ?_ hl2)
      rw [e2]
      refine Nat.le_trans (hle _) ?_
      rw [List.length_take, List.length_mapIdx]
      omega
  · rw [e1, e2, Nat.zero_add, List.take_of_length_le (by simp)]
    exact h1
end
end Pd

namespace Pd
open PySem L2
/-! ### sizes -/
def Sm (k : Nat) (x : Int) : Prop := x.natAbs < 2 ^ k
theorem Sm.mono {k l : Nat} {x : Int} (h : Sm k x) (e : k ≤ l) : Sm l x := Nat.lt_of_lt_of_le h (Nat.pow_le_pow_right (by decide) e)
theorem Sm.mul {k l : Nat} {x y : Int} (h : Sm k x) (g : Sm l y) : Sm (k + l) (x * y) := by
  unfold Sm at *
  rw [Int.natAbs_mul, Nat.pow_add]
  exact Nat.mul_lt_mul'' h g
theorem Sm.neg {k : Nat} {x : Int} (h : Sm k x) : Sm k (-x) := by
  unfold Sm at *
  rw [Int.natAbs_neg]
  exact h
theorem Sm.add {k l : Nat} {x y : Int} (h : Sm k x) (g : Sm l y) : Sm (k + l + 1) (x + y) := by
  unfold Sm at *
  have h1 : 2 ^ k ≤ 2 ^ (k + l) := Nat.pow_le_pow_right (by decide) (by omega)
  have h2 : 2 ^ l ≤ 2 ^ (k + l) := Nat.pow_le_pow_right (by decide) (by omega)
  have h3 : 2 ^ (k + l + 1) = 2 ^ (k + l) * 2 := Nat.pow_succ _ _
  have := Int.natAbs_add_le x y
  omega
theorem Sm.sub {k l : Nat} {x y : Int} (h : Sm k x) (g : Sm l y) : Sm (k + l + 1) (x - y) := by
  rw [Int.sub_eq_add_neg]
  exact h.add g.neg
theorem Sm.log {k : Nat} {x : Int} (h : Sm k x) : x.natAbs.log2 ≤ k := by
  unfold Sm at h
  by_cases e : x.natAbs = 0
  · rw [e]
    exact Nat.zero_le _
  · have := (Nat.log2_lt e).mpr h
    omega
theorem Sm.of_le {k : Nat} {x y : Int} (h : Sm k y) (e : x.natAbs ≤ y.natAbs) : Sm k x := Nat.lt_of_le_of_lt e h
theorem Sm.rng {k : Nat} {x y : Int} (h : Sm k y) (h0 : 0 ≤ x) (h1 : x ≤ y) : Sm k x := h.of_le (by omega)
theorem Sm.bits {k : Nat} {x : Int} (h : Builtin.Int.intBits x ≤ k) : Sm (k + 1) x := by
  unfold Builtin.Int.intBits at h
  unfold Sm
  by_cases e : x.natAbs = 0
  · rw [e]
    exact Nat.pow_pos (by decide)
  · have e' : x ≠ 0 := fun z => e (by rw [z]; rfl)
    refine (Nat.log2_lt e).mp ?_
    split at h
    · rename_i z
      simp at z
      exact absurd z e'
    · omega
theorem mulOk_sm {k l : Nat} {x y : Int} (h : Sm k x) (g : Sm l y) (e : k + l < 100000000) : mulOk x y = true := by
  have h1 := h.log
  have h2 := g.log
  exact decide_eq_true (by omega)
theorem divOk_sm {k : Nat} {y : Int} (g : Sm k y) (e : k < 9000) (h0 : y ≠ 0) : divOk y = true := by
  have h2 := g.log
  unfold divOk
  rw [decide_eq_true h0, decide_eq_true (show y.natAbs.log2 < 9000 by omega)]
  rfl
/-! ### leaves -/
def isTup : D → Bool
  | .tup _ => true
  | _ => false
def isLst : D → Bool
  | .lst _ => true
  | .scr _ => true
  | _ => false
def isBl : D → Bool
  | .bl _ => true
  | _ => false
def isInt : D → Bool
  | .int _ => true
  | .bl _ => true
  | _ => false
def isStr : D → Bool
  | .str _ => true
  | _ => false
def isDct : D → Bool
  | .dct _ _ => true
  | _ => false
section
variable {Q : D → Prop} {QB : Bool → Prop} {d e : D} {i j n N : Nat} {a b : Int}
theorem add_i (h : Q (.int (a + b))) : ∃ x, addD (.int a) (.int b) = some x ∧ Q x := ⟨_, rfl, h⟩
theorem sub_i (h : Q (.int (a - b))) : ∃ x, subD (.int a) (.int b) = some x ∧ Q x := ⟨_, rfl, h⟩
theorem mul_i (e : mulOk a b = true) (h : Q (.int (a * b))) : ∃ x, mulD (.int a) (.int b) = some x ∧ Q x := ⟨_, if_pos e, h⟩
theorem div_i (e : divOk b = true) (h : Q (.int (a.fdiv b))) : ∃ x, fdivD (.int a) (.int b) = some x ∧ Q x := ⟨_, if_pos e, h⟩
theorem mod_i (e : decide (b ≠ 0) = true) (h : Q (.int (a.fmod b))) : ∃ x, modD (.int a) (.int b) = some x ∧ Q x := ⟨_, by unfold modD; simpa using e, h⟩
theorem pow_i {c : Int} (e : powOk a b = true) (ec : a ^ b.toNat = c) (h : Q (.int c)) : ∃ x, powD (.int a) (.int b) = some x ∧ Q x := ⟨_, if_pos e, by rw [ec]; exact h⟩
theorem neg_i (h : Q (.int (-a))) : ∃ x, negD (.int a) = some x ∧ Q x := ⟨_, rfl, h⟩
theorem eq_i (h : QB (decide (a = b))) : ∃ x, eqD (.int a) (.int b) = some x ∧ QB x := ⟨_, by
  show some (PyData.eqv (.int a) (.int b)) = _
  congr 1, h⟩
theorem ne_i (h : QB (!decide (a = b))) : ∃ x, neD (.int a) (.int b) = some x ∧ QB x := by
  obtain ⟨x, e, h⟩ := eq_i (QB := fun x => QB (!x)) h
  exact ⟨_, by unfold neD; rw [e]; rfl, h⟩
theorem isi_ {T : String} {b : Bool} (e : kitB (tyOf d) T = some b) (h : Q (.bl b)) : ∃ x, isiD T d = some x ∧ Q x := ⟨_, by unfold isiD; rw [e]; rfl, h⟩
theorem isi_tuple (h : Q (.bl (isTup d))) : ∃ x, isiD "tuple" d = some x ∧ Q x := isi_ (by cases d <;> (simp only [tyOf, isTup, isLst, isBl, isInt, isStr, isDct]; decide +kernel)) h
theorem isi_list (h : Q (.bl (isLst d))) : ∃ x, isiD "list" d = some x ∧ Q x := isi_ (by cases d <;> (simp only [tyOf, isTup, isLst, isBl, isInt, isStr, isDct]; decide +kernel)) h
theorem isi_bool (h : Q (.bl (isBl d))) : ∃ x, isiD "bool" d = some x ∧ Q x := isi_ (by cases d <;> (simp only [tyOf, isTup, isLst, isBl, isInt, isStr, isDct]; decide +kernel)) h
theorem isi_int (h : Q (.bl (isInt d))) : ∃ x, isiD "int" d = some x ∧ Q x := isi_ (by cases d <;> (simp only [tyOf, isTup, isLst, isBl, isInt, isStr, isDct]; decide +kernel)) h
theorem isi_str (h : Q (.bl (isStr d))) : ∃ x, isiD "str" d = some x ∧ Q x := isi_ (by cases d <;> (simp only [tyOf, isTup, isLst, isBl, isInt, isStr, isDct]; decide +kernel)) h
theorem isi_dict (h : Q (.bl (isDct d))) : ∃ x, isiD "dict" d = some x ∧ Q x := isi_ (by cases d <;> (simp only [tyOf, isTup, isLst, isBl, isInt, isStr, isDct]; decide +kernel)) h
theorem asB_b {c : Bool} (h : QB c) : ∃ x, asB (.bl c) = some x ∧ QB x := ⟨_, rfl, h⟩
theorem asI_i {QI : Option Int → Prop} (h : QI (some a)) : ∃ x, asI (.int a) = some x ∧ QI (some x) := ⟨_, rfl, h⟩
theorem lt_i (h : QB (decide (a < b))) : ∃ x, ltD (.int a) (.int b) = some x ∧ QB x := ⟨_, rfl, h⟩
theorem le_i (h : QB (decide (a ≤ b))) : ∃ x, leD (.int a) (.int b) = some x ∧ QB x := ⟨_, rfl, h⟩
theorem gt_i (h : QB (decide (b < a))) : ∃ x, gtD (.int a) (.int b) = some x ∧ QB x := ⟨_, rfl, h⟩
theorem ge_i (h : QB (decide (b ≤ a))) : ∃ x, geD (.int a) (.int b) = some x ∧ QB x := ⟨_, rfl, h⟩
theorem lt_d (h : Q (.bl (decide (a < b)))) : ∃ x, ltD (.int a) (.int b) = some x ∧ Q (.bl x) := ⟨_, rfl, h⟩
theorem is_n (h : QB (isNon d)) : ∃ x, isD d .non = some x ∧ QB x := ⟨_, rfl, h⟩
theorem len_t {ds : List D} (h : Q (.int ds.length)) : ∃ x, lenD [.tup ds] = some x ∧ Q x := ⟨_, rfl, h⟩
theorem len_l {ds : List D} (h : Q (.int ds.length)) : ∃ x, lenD [.lst ds] = some x ∧ Q x := ⟨_, rfl, h⟩
theorem int_i (h : Q (.int a)) : ∃ x, intD [.int a] = some x ∧ Q x := ⟨_, rfl, h⟩
theorem gcd_i (h : Q (.int ((Nat.gcd a.natAbs b.natAbs : Nat) : Int))) : ∃ x, gcdD [.int a, .int b] = some x ∧ Q x := ⟨_, rfl, h⟩
theorem abs_i (h : Q (.int (if a < 0 then -a else a))) : ∃ x, absD [.int a] = some x ∧ Q x := ⟨_, rfl, h⟩
theorem max_i (h : Q (.int (if b > a then b else a))) : ∃ x, max2D [.int a, .int b] = some x ∧ Q x := ⟨_, rfl, h⟩
theorem min_i (h : Q (.int (if b < a then b else a))) : ∃ x, min2D [.int a, .int b] = some x ∧ Q x := ⟨_, rfl, h⟩
/-- an index, given -/
theorem ix_t {ds : List D} {k : Nat} (e0 : ixN ds.length a = some k) (e : ds[k]? = some d) (h : Q d) : ∃ x, idxD (.tup ds) (.int a) = some x ∧ Q x := ⟨_, by show (ixN ds.length a).bind _ = _; rw [e0]; exact e, h⟩
theorem ix_l {ds : List D} {k : Nat} (e0 : ixN ds.length a = some k) (e : ds[k]? = some d) (h : Q d) : ∃ x, idxD (.lst ds) (.int a) = some x ∧ Q x := ⟨_, by show (ixN ds.length a).bind _ = _; rw [e0]; exact e, h⟩
theorem ixN_nat {n : Nat} {a : Int} (h0 : 0 ≤ a) (h1 : a < n) : ixN n a = some a.toNat := by unfold ixN; rw [if_pos h0, if_pos h1]
theorem and_i {A B : Prop} (a : A) (b : B) : A ∧ B := ⟨a, b⟩
end
end Pd

namespace Pd
open PySem L2
/-! ### steps by instances: B is asked in place of A -/
class PR (A : Prop) (B : outParam Prop) : Prop where
  imp : B → A
theorem pr {A B : Prop} [i : PR A B] (h : B) : A := i.imp h
/-- o is there, and Q of it -/
def Som {α : Type} (o : Option α) (Q : α → Prop) : Prop := ∃ x, o = some x ∧ Q x
theorem som_i {α : Type} {o : Option α} {Q : α → Prop} {x : α} (e : o = some x) (h : Q x) : Som o Q := ⟨x, e, h⟩
theorem som_id {α : Type} {o : Option α} {Q : α → Prop} (h : Som o Q) : Som o Q := h
theorem rf_i {p q : Prop} (a : p) (b : q) : Rf p q := ⟨a, b⟩
theorem sd_i {p q : Prop} (a : p) (b : q) : Sd p q := ⟨a, b⟩
theorem canSet_of {η : Sto} {i : Nat} {s : Slot} (e : η[i]? = some s) (h : canSets (some s) = true) : canSet η i = true := by
  rw [ev_canSet, e]
  exact h
def vals : Option Slot → Option D
  | some (.val d) => some d
  | _ => none
def owns : Option Slot → Option D
  | some (.own _ d) => some d
  | _ => none
theorem vals_some {s : Option Slot} {d : D} (h : vals s = some d) : s = some (.val d) := by
  unfold vals at h
  split at h
  · cases h; rfl
  · cases h
theorem owns_some {s : Option Slot} {d : D} (h : owns s = some d) : ∃ b, s = some (.own b d) := by
  unfold owns at h
  split at h
  · cases h; exact ⟨_, rfl⟩
  · cases h
def Kt.sq (b : MS) (K : Kt) : Kt := ⟨fun η' => wps b K η', K.bk, K.ct, K.rt, K.ex⟩
section
variable {α : Type} {Q : D → Sto → Prop} {QB : Bool → Sto → Prop} {QL : List D → Sto → Prop} {QV : AV → Sto → Prop} {QA : List AV → Sto → Prop} {QI : Option Int → Sto → Prop} {E : Str → Sto → Prop} {η : Sto} {d e : D} {i j n N : Nat} {K : Kt} {m m1 m2 m3 mk : M D} {t t1 t2 : M Bool} {ms : M (List D)} {f f' : D → D → Option Bool} {g : D → D → Option D} {A B : Prop} {c : Bool} {x y : AV} {a b : M AV} {as : M (List AV)}
-- the ways on
instance {b' : MS} : PR ((Kt.sq b' K).nx η) (wps b' K η) := ⟨fun h => h⟩
instance {b' : MS} : PR ((Kt.sq b' K).bk η) (K.bk η) := ⟨fun h => h⟩
instance {b' : MS} : PR ((Kt.sq b' K).ct η) (K.ct η) := ⟨fun h => h⟩
instance {b' : MS} : PR ((Kt.sq b' K).rt d η) (K.rt d η) := ⟨fun h => h⟩
instance {b' : MS} {x : Str} : PR ((Kt.sq b' K).ex x η) (K.ex x η) := ⟨fun h => h⟩
def BrD (p : Prop) (A B : Prop) : Prop := (p → A) ∧ (¬ p → B)
theorem BrD.id {p A B : Prop} (h : BrD p A B) : BrD p A B := h
theorem Br.id {c : Bool} {A B : Prop} (h : Br c A B) : Br c A B := h
theorem BrD.dec {p A B : Prop} (h : p → A) (g : ¬ p → B) : BrD p A B := ⟨h, g⟩
theorem BrD.yes {p A B : Prop} (h : p) (g : A) : BrD p A B := ⟨fun _ => g, fun e => absurd h e⟩
theorem BrD.no {p A B : Prop} (h : ¬ p) (g : B) : BrD p A B := ⟨fun e => absurd e h, fun _ => g⟩
instance {p : Prop} [Decidable p] : PR (Br (decide p) A B) (BrD p A B) := ⟨fun h => Br.dec h.1 h.2⟩
instance : PR (Br true A B) A := ⟨Br.t⟩
instance : PR (Br false A B) B := ⟨Br.f⟩
instance : PR (Br (!c) A B) (Br c B A) := ⟨Br.no⟩
-- expressions
instance : PR (wp (cD d) Q E η) (Q d η) := ⟨fun h => wp_eq rfl h⟩
instance : PR (wp (pure d : M D) Q E η) (Q d η) := ⟨fun h => wp_eq rfl h⟩
instance : PR (wp (M.pure true) QB E η) (QB true η) := ⟨fun h => wp_eq rfl h⟩
instance : PR (wp (getV i) Q E η) (Som (vals η[i]?) fun d => Q d η) := ⟨fun ⟨d, e, h⟩ => wp_getV (vals_some e) h⟩
instance : PR (wp (opD g m1 m2) Q E η) (wp m1 (fun d η1 => wp m2 (fun e η2 => Som (g d e) fun x => Q x η2) E η1) E η) := ⟨fun h => wp_opD h⟩
instance : PR (wp (cmD f m1 m2) Q E η) (wp m1 (fun d η1 => wp m2 (fun e η2 => Som (f d e) fun x => Q (.bl x) η2) E η1) E η) := ⟨fun h => wp_cmD h⟩
instance : PR (wp (cmT f m1 m2) QB E η) (wp m1 (fun d η1 => wp m2 (fun e η2 => Som (f d e) fun x => QB x η2) E η1) E η) := ⟨fun h => wp_cmT h⟩
instance : PR (wp (chT f f' m1 m2 m3) QB E η) (wp m1 (fun d η1 => wp m2 (fun e η2 => Som (f d e) fun x => Br x (wp m3 (fun z η3 => Som (f' e z) fun y => QB y η3) E η2) (QB false η2)) E η1) E η) := ⟨fun h => wp_chT h⟩
instance : PR (wp (chD f f' m1 m2 m3) Q E η) (wp m1 (fun d η1 => wp m2 (fun e η2 => Som (f d e) fun x => Br x (wp m3 (fun z η3 => Som (f' e z) fun y => Q (.bl y) η3) E η2) (Q (.bl false) η2)) E η1) E η) := ⟨fun h => wp_chD h⟩
instance {u : D → Option D} : PR (wp (unD u m) Q E η) (wp m (fun d η1 => Som (u d) fun x => Q x η1) E η) := ⟨fun h => wp_unD h⟩
instance : PR (wp (tsT m) QB E η) (wp m (fun d η1 => Som (asB d) fun x => QB x η1) E η) := ⟨fun h => wp_tsT h⟩
instance : PR (wp (anT t1 t2) QB E η) (wp t1 (fun c η1 => Br c (wp t2 QB E η1) (QB false η1)) E η) := ⟨fun h => wp_anT h⟩
instance : PR (wp (orT t1 t2) QB E η) (wp t1 (fun c η1 => Br c (QB true η1) (wp t2 QB E η1)) E η) := ⟨fun h => wp_orT h⟩
instance : PR (wp (ntT t) QB E η) (wp t (fun c η1 => QB (!c) η1) E η) := ⟨fun h => wp_ntT h⟩
instance : PR (wp (ntD m) Q E η) (wp m (fun d η1 => Som (asB d) fun x => Q (.bl (!x)) η1) E η) := ⟨fun h => wp_ntD h⟩
instance : PR (wp (anD m1 m2) Q E η) (wp m1 (fun d η1 => Som (asB d) fun c => Br c (wp m2 Q E η1) (Q (.bl false) η1)) E η) := ⟨fun h => wp_anD h⟩
instance : PR (wp (orD m1 m2) Q E η) (wp m1 (fun d η1 => Som (asB d) fun c => Br c (Q (.bl true) η1) (wp m2 Q E η1)) E η) := ⟨fun h => wp_orD h⟩
instance : PR (wp (ifD t m1 m2) Q E η) (wp t (fun c η1 => Br c (wp m1 Q E η1) (wp m2 Q E η1)) E η) := ⟨fun h => wp_ifD h⟩
instance : PR (wp (vlV m) QV E η) (wp m (fun d η1 => QV (.val d) η1) E η) := ⟨fun h => wp_vlV h⟩
instance : PR (wp (borV i) QV E η) (Som (owns η[i]?) fun _ => QV (.bor i) η) := ⟨fun ⟨d, e, h⟩ => let ⟨_, e⟩ := owns_some e; wp_borV e h⟩
instance : PR (wp (AV.val d).res Q E η) (Q d η) := ⟨fun h => wp_eq rfl h⟩
instance : PR (wp (AV.bor i).res Q E η) (Som (owns η[i]?) fun d => Q d η) := ⟨fun ⟨d, e, h⟩ => let ⟨_, e⟩ := owns_some e; wp_resb e h⟩
instance : PR (wp (ownV i) Q E η) (Som (owns η[i]?) fun d => Q d η) := ⟨fun ⟨d, e, h⟩ => let ⟨_, e⟩ := owns_some e; wp_resb e h⟩
instance : PR (wp (opV g a b) Q E η) (wp a (fun x η1 => wp b (fun y η2 => wp x.res (fun d η3 => wp y.res (fun e η4 => Som (g d e) fun z => Q z η4) E η3) E η2) E η1) E η) := ⟨fun h => wp_opV h⟩
instance : PR (wp (cmVT f a b) QB E η) (wp a (fun x η1 => wp b (fun y η2 => wp x.res (fun d η3 => wp y.res (fun e η4 => Som (f d e) fun z => QB z η4) E η3) E η2) E η1) E η) := ⟨fun h => wp_cmVT h⟩
instance : PR (wp (cmVD f a b) Q E η) (wp a (fun x η1 => wp b (fun y η2 => wp x.res (fun d η3 => wp y.res (fun e η4 => Som (f d e) fun z => Q (.bl z) η4) E η3) E η2) E η1) E η) := ⟨fun h => wp_cmVD h⟩
instance : PR (wp noI QI E η) (QI none η) := ⟨fun h => wp_eq rfl h⟩
instance : PR (wp (smI m) QI E η) (wp m (fun d η1 => Som (asI d) fun k => QI (some k) η1) E η) := ⟨fun h => wp_smI h⟩
instance {l h' : M (Option Int)} : PR (wp (slD m l h') Q E η) (wp m (fun d η1 => wp l (fun lo η2 => wp h' (fun hi η3 => Som (cutD d lo hi) fun x => Q x η3) E η2) E η1) E η) := ⟨fun h => wp_slD h⟩
instance {l h' : M (Option Int)} : PR (wp (slV a l h') Q E η) (wp a (fun x η1 => wp l (fun lo η2 => wp h' (fun hi η3 => wp x.res (fun d η4 => Som (cutD d lo hi) fun x => Q x η4) E η3) E η2) E η1) E η) := ⟨fun h => wp_slV h⟩
instance {b : List D → Option D} : PR (wp (bltD b ms) Q E η) (wp ms (fun ds η1 => Som (b ds) fun x => Q x η1) E η) := ⟨fun h => wp_bltD h⟩
instance {b : List D → Option D} : PR (wp (bltV b as) Q E η) (wp as (fun vs η1 => wp (resAll vs) (fun ds η2 => Som (b ds) fun x => Q x η2) E η1) E η) := ⟨fun h => wp_bltV h⟩
instance : PR (wp (resAll []) QL E η) (QL [] η) := ⟨fun h => wp_eq rfl h⟩
instance {v : AV} {vs : List AV} : PR (wp (resAll (v :: vs)) QL E η) (wp v.res (fun d η1 => wp (resAll vs) (fun ds η2 => QL (d :: ds) η2) E η1) E η) := ⟨fun h => wp_resC h⟩
instance {T : String} : PR (wp (isiM T m) Q E η) (wp m (fun d η1 => Som (isiD T d) fun x => Q x η1) E η) := ⟨fun h => wp_isiM h⟩
instance : PR (wp nlD QL E η) (QL [] η) := ⟨fun h => wp_eq rfl h⟩
instance : PR (wp (csD m ms) QL E η) (wp m (fun d η1 => wp ms (fun ds η2 => QL (d :: ds) η2) E η1) E η) := ⟨fun h => wp_csD h⟩
instance : PR (wp nlV QA E η) (QA [] η) := ⟨fun h => wp_eq rfl h⟩
instance : PR (wp (csV a as) QA E η) (wp a (fun d η1 => wp as (fun ds η2 => QA (d :: ds) η2) E η1) E η) := ⟨fun h => wp_csV h⟩
instance : PR (wp (tpD ms) Q E η) (wp ms (fun ds η1 => Rf (lenOk ds.length = true) (Q (.tup ds) η1)) E η) := ⟨fun h => wp_tpD h⟩
instance : PR (wp (lsD ms) Q E η) (wp ms (fun ds η1 => Rf (lenOk ds.length = true) (Q (.lst ds) η1)) E η) := ⟨fun h => wp_lsD h⟩
instance : PR (wp (itD m) QL E η) (wp m (fun d η1 => Som (itemsD d) fun ds => QL ds η1) E η) := ⟨fun h => wp_itD h⟩
instance : PR (wp (rg1 ms) QL E η) (wp ms (fun d η1 => Som (range1D d) fun ds => QL ds η1) E η) := ⟨fun h => wp_rg1 h⟩
instance : PR (wp (rg2 ms) QL E η) (wp ms (fun d η1 => Som (range2D d) fun ds => QL ds η1) E η) := ⟨fun h => wp_rg2 h⟩
instance {vs : List Nat} {mi : M (List D)} {gt : D → MS} {mt : M Bool} {me : M D} : PR (wp (compL vs mi gt mt me) Q E η) (wp mi (fun ds η1 => wp (compM (turnC vs gt mt me) [] ds) (fun ys η2 => Q (.lst ys) η2) E η1) E η) := ⟨fun h => wp_compL h⟩
instance {vs : List Nat} {gt : D → MS} {mt : M Bool} {me : M D} {QO : Option D → Sto → Prop} : PR (wp (turnC vs gt mt me d) QO E η) (Rf (noOwn η vs = true) (wpg (gt d) (fun η1 => wp mt (fun c η2 => Br c (wp me (fun y η3 => QO (some y) (restS η η3 vs)) NvE η2) (QO none (restS η η2 vs))) NvE η1) (wipeS η vs))) := ⟨fun h => wp_turnC h.1 h.2⟩
instance {l : List (Str × Bool)} {c : Str} : PR (wp (kitT l c) Q E η) (Som (l.lookup c) fun b => Q (.bl b) η) := ⟨fun ⟨_, e, h⟩ => wp_kitT e h⟩
-- calls
variable {fm : M D} {jo : Option Nat} {ma mz : M (List AV)} {avs : List AV} {nl : D → Bool}
instance : PR (wp (cal n fm jo ma) Q E η) (wp ma (fun as η1 => Rf (as.length = n) (wp (callM noLst fm jo as) Q E η1)) E η) := ⟨fun h => wp_cal h⟩
instance : PR (wp (calF n fm jo ma) Q E η) (wp ma (fun as η1 => Rf (as.length = n) (wp (callM noLstIn fm jo as) Q E η1)) E η) := ⟨fun h => wp_calF h⟩
instance : PR (wp (cal0 fm) Q E η) (wp (callM noLst fm none []) Q NvE η) := ⟨fun h => wp_cal0 h⟩
instance {n1 n2 : Nat} : PR (wp (calK n n1 n2 fm jo ma mz) Q E η) (wp ma (fun as η1 => Rf (as.length = n1) (wp mz (fun zs η2 => Rf (zs.length = n2) (Rf ((as ++ zs).length = n) (wp (callM noLst fm jo (as ++ zs)) Q E η2))) E η1)) E η) := ⟨fun h => wp_calK h⟩
instance {n2 : Nat} : PR (wp (calK0 n n2 fm jo mz) Q E η) (wp mz (fun zs η2 => Rf (zs.length = n2) (Rf (zs.length = n) (wp (callM noLst fm jo zs) Q E η2))) E η) := ⟨fun h => wp_calK0 h⟩
instance : PR (wp (callM nl fm none avs) Q E η) (Som (avVals avs) fun ds => wp fm (fun d _ => Q d η) (fun c _ => E c η) (ds.map Slot.val)) := ⟨fun ⟨_, e, h⟩ => wp_vals e h⟩
-- statements
variable {b1 b2 : MS}
instance : PR (wps (seqS b1 b2) K η) (wps b1 (Kt.sq b2 K) η) := ⟨fun h => wps_seq h⟩
instance : PR (wps (stS i m) K η) (wp m (fun d η1 => Rf (canSet η1 i = true) (K.nx (η1.set i (.val d)))) K.ex η) := ⟨fun h => wps_stS h⟩
instance : PR (wps (owS i m) K η) (wp m (fun d η1 => Rf (canSet η1 i = true) (K.nx (η1.set i (.own false d)))) K.ex η) := ⟨fun h => wps_owS h⟩
instance : PR (wps (rtS m) K η) (wp m (fun d η1 => K.rt d η1) K.ex η) := ⟨fun h => wps_rtS h⟩
instance : PR (wps (exS m) K η) (wp m (fun _ η1 => K.nx η1) K.ex η) := ⟨fun h => wps_exS h⟩
instance : PR (wps (ifS t b1 b2) K η) (wp t (fun c η1 => Br c (wps b1 K η1) (wps b2 K η1)) K.ex η) := ⟨fun h => wps_ifS h⟩
theorem wps_paS' (h : wp ms (fun ds η1 => match ds with | [d, e] => Rf (canSet η1 i = true) (Rf (canSet (η1.set i (.val d)) j = true) (K.nx ((η1.set i (.val d)).set j (.val e)))) | _ => False) K.ex η) : wps (paS i j ms) K η :=
  wps_paS (wp_imp h (fun ds η1 h => match ds, h with | [d, e], ⟨h1, h2, h3⟩ => ⟨d, e, rfl, h1, h2, h3⟩) fun _ _ h => h)
instance {m1 m2 : M D} : PR (wps (paS i j (csD m1 (csD m2 nlD))) K η) (wp m1 (fun d η1 => wp m2 (fun e η2 => Rf (canSet η2 i = true) (Rf (canSet (η2.set i (.val d)) j = true) (K.nx ((η2.set i (.val d)).set j (.val e))))) K.ex η1) K.ex η) :=
  ⟨fun h => wps_paS' (wp_csD (wp_imp h (fun _ _ h => wp_csD (wp_imp h (fun _ _ h => wp_eq rfl h) fun _ _ h => h)) fun _ _ h => h))⟩
instance {gt : D → MS} : PR (wps (asS m gt) K η) (wp m (fun d η1 => wpg (gt d) K.nx η1) K.ex η) := ⟨fun h => wps_asS h⟩
variable {QS : Sto → Prop} {gt : D → MS} {gs : List D → MS} {ds : List D}
instance : PR (wpg (setS i d) QS η) (Rf (canSet η i = true) (QS (η.set i (.val d)))) := ⟨fun h => wpg_set h.1 h.2⟩
instance : PR (wpg (tgN []) QS η) (QS η) := ⟨fun h => wpg_N h⟩
instance : PR (wpg (tgC gt gs (d :: ds)) QS η) (wpg (gt d) (wpg (gs ds) QS) η) := ⟨fun h => wpg_C h⟩
instance : PR (wpg (tgT n gs (.tup ds)) QS η) (Rf (ds.length = n) (wpg (gs ds) QS η)) := ⟨fun h => wpg_T h.1 h.2⟩
/-- an owned slot is written -/
def putO (d : D) (k : D) : Option Slot → Option Slot
  | some (.own b c) => (putL c k d).map (Slot.own b)
  | _ => none
instance : PR (wps (soS i m mk) K η) (wp m (fun d η1 => wp (ownV i) (fun _ η2 => wp mk (fun k η3 => Som (putO d k η3[i]?) fun s => K.nx (η3.set i s)) K.ex η2) K.ex η1) K.ex η) :=
  ⟨fun h => wps_soS (wp_imp h (fun d η1 h => wp_imp h (fun _ η2 h => wp_imp h (fun k η3 ⟨s, e, h⟩ => by
    unfold putO at e
    split at e
    · rename_i b c q
      cases q2 : putL c k d with
      | none => rw [q2] at e; cases e
      | some c' =>
        rw [q2] at e
        cases e
        exact ⟨b, c, c', q, q2, h⟩
    · cases e) fun _ _ h => h) fun _ _ h => h) fun _ _ h => h)⟩
def ownLs : Option Slot → Option (List D)
  | some (.own _ (.lst ds)) => some ds
  | _ => none
def appO (d : D) : Option Slot → Option Slot
  | some (.own b (.lst ds)) => if lenOk ds.length = true then some (.own b (.lst (ds ++ [d]))) else none
  | _ => none
instance : PR (wps (apS i m) K η) (Som (ownLs η[i]?) fun _ => wp m (fun d η1 => Som (appO d η1[i]?) fun s => K.nx (η1.set i s)) K.ex η) :=
  ⟨fun ⟨ds, e, h⟩ => by
    unfold ownLs at e
    split at e
    · rename_i b ds' q
      refine wps_apS ⟨b, ds', q, wp_imp h (fun d η1 ⟨s, e, h⟩ => ?_) fun _ _ h => h⟩
      unfold appO at e
      split at e
      · rename_i b ds' q
        split at e
        · rename_i hl
          cases e
          exact ⟨b, ds', q, hl, h⟩
        · cases e
      · cases e
    · cases e⟩
instance : PR (wps nxS K η) (K.nx η) := ⟨wps_nxS⟩
instance : PR (wps bkS K η) (K.bk η) := ⟨wps_bkS⟩
instance : PR (wps ctS K η) (K.ct η) := ⟨wps_ctS⟩
instance : PR (wps rnS K η) (K.rt .non η) := ⟨wps_rnS⟩
instance {x : Str} : PR (wps (raS x) K η) (K.ex x η) := ⟨wps_raS⟩
instance : PR (wps (rlS i b1) K η) (wps b1 K (relS i η)) := ⟨wps_rlS⟩
def freeO : Option Slot → Option D
  | some (.own false d) => some d
  | _ => none
instance : PR (wps (roS i) K η) (Som (freeO η[i]?) fun d => K.rt d (η.set i .no)) := ⟨fun ⟨d, e, h⟩ => by
  unfold freeO at e
  split at e
  · rename_i q
    cases e
    exact wps_roS q h
  · cases e⟩
instance {mi : M (List D)} : PR (wps (foS mi gt b1) K η) (wp mi (fun ds η1 => wps (forS (turnS gt b1) ds) K η1) K.ex η) := ⟨fun h => wps_foS h⟩
instance : PR (wps (turnS gt b1 d) K η) (wpg (gt d) (wps b1 K) η) := ⟨fun h => wps_turn h⟩
instance {cl : Str → Option Bool} {mS : Str → MS} : PR (wps (tryS cl i b1 mS) K η) (wps b1 ⟨K.nx, K.bk, K.ct, K.rt, fun c η' => Som (cl c) fun b => Br b (Rf (canSet η' i = true) (wps (mS c) ⟨fun η'' => Rf (canSet η'' i = true) (K.nx (η''.set i .no)), Nv, Nv, K.rt, NvE⟩ (η'.set i .no))) (K.ex c η')⟩ η) := ⟨fun h => wps_try h⟩
end
section
variable {Q : D → Prop} {QB : Bool → Prop} {QI : Option Int → Prop} {d e : D} {a b : Int} {c : Bool} {ds es : List D}
instance : PR (Som (addD (.int a) (.int b)) Q) (Q (.int (a + b))) := ⟨fun h => ⟨_, rfl, h⟩⟩
instance : PR (Som (addD (.lst ds) (.lst es)) Q) (Rf (lenOk (ds.length + es.length) = true) (Q (.lst (ds ++ es)))) := ⟨fun ⟨e, h⟩ => ⟨_, if_pos e, h⟩⟩
instance : PR (Som (addD (.tup ds) (.tup es)) Q) (Rf (lenOk (ds.length + es.length) = true) (Q (.tup (ds ++ es)))) := ⟨fun ⟨e, h⟩ => ⟨_, if_pos e, h⟩⟩
instance : PR (Som (subD (.int a) (.int b)) Q) (Q (.int (a - b))) := ⟨fun h => ⟨_, rfl, h⟩⟩
instance : PR (Som (mulD (.int a) (.int b)) Q) (Sd (mulOk a b = true) (Q (.int (a * b)))) := ⟨fun ⟨e, h⟩ => ⟨_, if_pos e, h⟩⟩
instance : PR (Som (fdivD (.int a) (.int b)) Q) (Sd (divOk b = true) (Q (.int (a.fdiv b)))) := ⟨fun ⟨e, h⟩ => ⟨_, if_pos e, h⟩⟩
instance : PR (Som (modD (.int a) (.int b)) Q) (Sd (b ≠ 0) (Q (.int (a.fmod b)))) := ⟨fun ⟨e, h⟩ => mod_i (decide_eq_true e) h⟩
instance : PR (Som (powD (.int a) (.int b)) Q) (Rf (powOk a b = true) (Q (.int (a ^ b.toNat)))) := ⟨fun ⟨e, h⟩ => ⟨_, if_pos e, h⟩⟩
instance : PR (Som (negD (.int a)) Q) (Q (.int (-a))) := ⟨fun h => ⟨_, rfl, h⟩⟩
instance : PR (Som (eqD (.int a) (.int b)) QB) (QB (decide (a = b))) := ⟨fun h => eq_i h⟩
instance : PR (Som (neD (.int a) (.int b)) QB) (QB (!decide (a = b))) := ⟨fun h => ne_i h⟩
instance : PR (Som (ltD (.int a) (.int b)) QB) (QB (decide (a < b))) := ⟨fun h => ⟨_, rfl, h⟩⟩
instance : PR (Som (leD (.int a) (.int b)) QB) (QB (decide (a ≤ b))) := ⟨fun h => ⟨_, rfl, h⟩⟩
instance : PR (Som (gtD (.int a) (.int b)) QB) (QB (decide (b < a))) := ⟨fun h => ⟨_, rfl, h⟩⟩
instance : PR (Som (geD (.int a) (.int b)) QB) (QB (decide (b ≤ a))) := ⟨fun h => ⟨_, rfl, h⟩⟩
instance : PR (Som (isD d .non) QB) (QB (isNon d)) := ⟨fun h => ⟨_, rfl, h⟩⟩
instance : PR (Som (isntD d .non) QB) (QB (!isNon d)) := ⟨fun h => ⟨_, rfl, h⟩⟩
instance : PR (Som (isiD "tuple" d) Q) (Q (.bl (isTup d))) := ⟨isi_tuple⟩
instance : PR (Som (isiD "list" d) Q) (Q (.bl (isLst d))) := ⟨isi_list⟩
instance : PR (Som (isiD "bool" d) Q) (Q (.bl (isBl d))) := ⟨isi_bool⟩
instance : PR (Som (isiD "int" d) Q) (Q (.bl (isInt d))) := ⟨isi_int⟩
instance : PR (Som (isiD "str" d) Q) (Q (.bl (isStr d))) := ⟨isi_str⟩
instance : PR (Som (isiD "dict" d) Q) (Q (.bl (isDct d))) := ⟨isi_dict⟩
instance : PR (Som (asB (.bl c)) QB) (QB c) := ⟨fun h => ⟨_, rfl, h⟩⟩
instance {QJ : Int → Prop} : PR (Som (asI (.int a)) QJ) (QJ a) := ⟨fun h => ⟨_, rfl, h⟩⟩
instance : PR (Som (lenD [.tup ds]) Q) (Q (.int ds.length)) := ⟨fun h => ⟨_, rfl, h⟩⟩
instance : PR (Som (lenD [.lst ds]) Q) (Q (.int ds.length)) := ⟨fun h => ⟨_, rfl, h⟩⟩
instance : PR (Som (intD [.int a]) Q) (Q (.int a)) := ⟨fun h => ⟨_, rfl, h⟩⟩
instance : PR (Som (gcdD [.int a, .int b]) Q) (Q (.int ((Nat.gcd a.natAbs b.natAbs : Nat) : Int))) := ⟨fun h => ⟨_, rfl, h⟩⟩
instance : PR (Som (absD [.int a]) Q) (Q (.int (if a < 0 then -a else a))) := ⟨fun h => ⟨_, rfl, h⟩⟩
instance : PR (Som (max2D [.int a, .int b]) Q) (Q (.int (if b > a then b else a))) := ⟨fun h => ⟨_, rfl, h⟩⟩
instance : PR (Som (min2D [.int a, .int b]) Q) (Q (.int (if b < a then b else a))) := ⟨fun h => ⟨_, rfl, h⟩⟩
end
theorem rangeL_len (lo : Int) : ∀ n : Nat, (rangeL lo n).length = n := fun n => by unfold rangeL; simp
theorem rangeL_at {lo : Int} {n i : Nat} {d : D} (h : (rangeL lo n)[i]? = some d) : i < n ∧ d = .int (lo + i) := by
  have hl := (List.getElem?_eq_some_iff.mp h).1
  rw [rangeL_len] at hl
  exact ⟨hl, rangeL_get h⟩
/-- a loop over a range -/
theorem wps_range {fb : D → MS} {lo : Int} {n : Nat} {K : Kt} {η : Sto} (I : Nat → Sto → Prop) (h0 : I 0 η) (hs : ∀ (i : Nat) (η' : Sto), i < n → I i η' → wps (fb (.int (lo + i))) ⟨I (i + 1), K.nx, I (i + 1), K.rt, K.ex⟩ η') (h1 : ∀ η', I n η' → K.nx η') : wps (forS fb (rangeL lo n)) K η :=
  wps_for I h0 (fun i d η' e h => by
    obtain ⟨h2, rfl⟩ := rangeL_at e
    exact hs i η' h2 h) (fun η' h => h1 η' (by rw [rangeL_len] at h; exact h))
instance {j : Int} {QL : List D → Prop} : PR (Som (range1D [.int j]) QL) (Sd (-(2 ^ 62) ≤ j ∧ j < 2 ^ 62) (QL (rangeL 0 j.toNat))) := ⟨fun ⟨e, h⟩ => ⟨_, if_pos e, h⟩⟩
instance {i j : Int} {QL : List D → Prop} : PR (Som (range2D [.int i, .int j]) QL) (Sd (-(2 ^ 62) ≤ i ∧ i < 2 ^ 62 ∧ -(2 ^ 62) ≤ j ∧ j < 2 ^ 62) (QL (rangeL i (j - i).toNat))) := ⟨fun ⟨e, h⟩ => ⟨_, if_pos e, h⟩⟩
theorem eqD_bl (a b : Bool) : eqD (.bl a) (.bl b) = some (a == b) := by cases a <;> cases b <;> decide
theorem eqD_str {x : Str} (h : PyData.strOk x = true) : eqD (.str x) (.str x) = some true := by
  unfold eqD toPy
  simp only
  rw [if_pos (by simp [SeqAt.shaped, PyData.canLay0, PyData.depth, h])]
  simp [PyData.eqv]
instance {a b : Bool} {QB : Bool → Prop} : PR (Som (eqD (.bl a) (.bl b)) QB) (QB (a == b)) := ⟨fun h => ⟨_, eqD_bl a b, h⟩⟩
instance {a b : Bool} {QB : Bool → Prop} : PR (Som (neD (.bl a) (.bl b)) QB) (QB (!(a == b))) := ⟨fun h => ⟨_, by unfold neD; rw [eqD_bl]; rfl, h⟩⟩
instance {x : Str} {QB : Bool → Prop} : PR (Som (eqD (.str x) (.str x)) QB) (Rf (PyData.strOk x = true) (QB true)) := ⟨fun ⟨e, h⟩ => ⟨_, eqD_str e, h⟩⟩
theorem bls_rep : ∀ n : Nat, bls (List.replicate n (.bl true)) = some (List.replicate n true)
  | 0 => rfl
  | n + 1 => by
    rw [List.replicate_succ, List.replicate_succ]
    unfold bls
    rw [bls_rep n]
    rfl
theorem all_rep (n : Nat) : allD [.lst (List.replicate n (.bl true))] = some (.bl true) := by
  show (bls (List.replicate n (.bl true))).map (fun bs => D.bl (bs.all id)) = _
  rw [bls_rep]
  simp
theorem filterMap_const {l : List D} {d : D} : ((l.mapIdx fun _ _ => some d).filterMap id) = List.replicate l.length d := by
  induction l with
  | nil => rfl
  | cons a l ih =>
    rw [List.mapIdx_cons, List.filterMap_cons]
    simp only [id]
    rw [show (List.mapIdx (fun i x => (fun (_ : Nat) (_ : D) => some d) (i + 1) x) l) = List.mapIdx (fun _ _ => some d) l from rfl, ih, List.length_cons, List.replicate_succ]
instance {n : Nat} {Q : D → Prop} : PR (Som (allD [.lst (List.replicate n (.bl true))]) Q) (Q (.bl true)) := ⟨fun h => ⟨_, all_rep n, h⟩⟩
section
variable {η : Sto} {E : Str → Sto → Prop} {vs : List Nat} {gt : D → MS} {mt : M Bool} {me : M D} {n : Nat} {lo : Int} {QL : List D → Sto → Prop}
/-- a comprehension over a range whose items are all True -/
theorem wp_compT (hl : n ≤ 1000000) (hs : ∀ i : Nat, i < n → wp (turnC vs gt mt me (.int (lo + i))) (fun o η2 => o = some (.bl true) ∧ η2 = η) NvE η) (h1 : QL (List.replicate n (.bl true)) η) : wp (compM (turnC vs gt mt me) [] (rangeL lo n)) QL E η :=
  wp_compF (fun _ _ => some (.bl true)) (by rw [rangeL_len]; exact decide_eq_true hl) (fun i d e => by
    obtain ⟨hi, rfl⟩ := rangeL_at e
    exact hs i hi) (by rw [filterMap_const, rangeL_len]; exact h1)
end
end Pd

namespace K00
open PySem L2 Pd
def topS (i : Nat) : Stmt := PySem.Challenge.pw_leastbounds_k00_fractions.main.body.getD i (.Pass ⟨0, 0, 0, 0⟩)
def exm_InvalidFraction : List (Str × Bool) := [("InvalidFraction", true)]
def kit_BoundError : List (Str × Bool) := [("InvalidFraction", true)]
def kit_ValueError : List (Str × Bool) := [("InvalidFraction", true)]
def kit_InvalidPoint : List (Str × Bool) := [("InvalidFraction", false)]
abbrev s_made : Stmt := topS 6
theorem sc_made : FnScope ["n", "d", "common"] ["n", "d"] (defScope s_made) := ⟨rfl, rfl, rfl, by decide +kernel, rfl, by decide +kernel, by decide +kernel⟩
theorem bn_made : BindsAll "made" s_made ["n", "d"] := fun _ _ _ _ _ _ us hl => match us, hl with | [_, _], _ => rfl
abbrev s_plus : Stmt := topS 7
theorem sc_plus : FnScope ["one", "other"] ["one", "other"] (defScope s_plus) := ⟨rfl, rfl, rfl, by decide +kernel, rfl, by decide +kernel, by decide +kernel⟩
theorem bn_plus : BindsAll "plus" s_plus ["one", "other"] := fun _ _ _ _ _ _ us hl => match us, hl with | [_, _], _ => rfl
abbrev s_minus : Stmt := topS 8
theorem sc_minus : FnScope ["one", "other"] ["one", "other"] (defScope s_minus) := ⟨rfl, rfl, rfl, by decide +kernel, rfl, by decide +kernel, by decide +kernel⟩
theorem bn_minus : BindsAll "minus" s_minus ["one", "other"] := fun _ _ _ _ _ _ us hl => match us, hl with | [_, _], _ => rfl
abbrev s_mult : Stmt := topS 9
theorem sc_mult : FnScope ["one", "other"] ["one", "other"] (defScope s_mult) := ⟨rfl, rfl, rfl, by decide +kernel, rfl, by decide +kernel, by decide +kernel⟩
theorem bn_mult : BindsAll "mult" s_mult ["one", "other"] := fun _ _ _ _ _ _ us hl => match us, hl with | [_, _], _ => rfl
abbrev s_over : Stmt := topS 10
theorem sc_over : FnScope ["one", "other"] ["one", "other"] (defScope s_over) := ⟨rfl, rfl, rfl, by decide +kernel, rfl, by decide +kernel, by decide +kernel⟩
theorem bn_over : BindsAll "over" s_over ["one", "other"] := fun _ _ _ _ _ _ us hl => match us, hl with | [_, _], _ => rfl
abbrev s_below : Stmt := topS 11
theorem sc_below : FnScope ["one", "other"] ["one", "other"] (defScope s_below) := ⟨rfl, rfl, rfl, by decide +kernel, rfl, by decide +kernel, by decide +kernel⟩
theorem bn_below : BindsAll "below" s_below ["one", "other"] := fun _ _ _ _ _ _ us hl => match us, hl with | [_, _], _ => rfl
abbrev s_is_int : Stmt := topS 13
theorem sc_is_int : FnScope ["value"] ["value"] (defScope s_is_int) := ⟨rfl, rfl, rfl, by decide +kernel, rfl, by decide +kernel, by decide +kernel⟩
theorem bn_is_int : BindsAll "is_int" s_is_int ["value"] := fun _ _ _ _ _ _ us hl => match us, hl with | [_], _ => rfl
abbrev s_is_row : Stmt := topS 14
theorem sc_is_row : FnScope ["value", "size"] ["value", "size"] (defScope s_is_row) := ⟨rfl, rfl, rfl, by decide +kernel, rfl, by decide +kernel, by decide +kernel⟩
theorem bn_is_row : BindsAll "is_row" s_is_row ["value", "size"] := fun _ _ _ _ _ _ us hl => match us, hl with | [_, _], _ => rfl
abbrev s_fits_fraction : Stmt := topS 15
theorem sc_fits_fraction : FnScope ["value"] ["value"] (defScope s_fits_fraction) := ⟨rfl, rfl, rfl, by decide +kernel, rfl, by decide +kernel, by decide +kernel⟩
theorem bn_fits_fraction : BindsAll "fits_fraction" s_fits_fraction ["value"] := fun _ _ _ _ _ _ us hl => match us, hl with | [_], _ => rfl
abbrev s_check_fraction : Stmt := topS 17
theorem sc_check_fraction : FnScope ["one"] ["one"] (defScope s_check_fraction) := ⟨rfl, rfl, rfl, by decide +kernel, rfl, by decide +kernel, by decide +kernel⟩
theorem bn_check_fraction : BindsAll "check_fraction" s_check_fraction ["one"] := fun _ _ _ _ _ _ us hl => match us, hl with | [_], _ => rfl
abbrev s_is_fraction : Stmt := topS 19
theorem sc_is_fraction : FnScope ["value"] ["value"] (defScope s_is_fraction) := ⟨rfl, rfl, rfl, by decide +kernel, rfl, by decide +kernel, by decide +kernel⟩
theorem bn_is_fraction : BindsAll "is_fraction" s_is_fraction ["value"] := fun _ _ _ _ _ _ us hl => match us, hl with | [_], _ => rfl
abbrev s_fraction : Stmt := topS 20
theorem sc_fraction : FnScope ["n", "d"] ["n", "d"] (defScope s_fraction) := ⟨rfl, rfl, rfl, by decide +kernel, rfl, by decide +kernel, by decide +kernel⟩
theorem bn_fraction : BindsAll "fraction" s_fraction ["n", "d"] := fun _ _ _ _ _ _ us hl => match us, hl with | [_, _], _ => rfl
theorem kb_fraction_0 : KBAll "fraction" s_fraction ["n", "d"] 0 := fun _ _ _ _ _ _ us ws h1 h2 => match us, ws, h1, h2 with | [], [_, _], _, _ => rfl
abbrev s_check_pair : Stmt := topS 21
theorem sc_check_pair : FnScope ["one", "other"] ["one", "other"] (defScope s_check_pair) := ⟨rfl, rfl, rfl, by decide +kernel, rfl, by decide +kernel, by decide +kernel⟩
theorem bn_check_pair : BindsAll "check_pair" s_check_pair ["one", "other"] := fun _ _ _ _ _ _ us hl => match us, hl with | [_, _], _ => rfl
abbrev s_added : Stmt := topS 22
theorem sc_added : FnScope ["one", "other"] ["one", "other"] (defScope s_added) := ⟨rfl, rfl, rfl, by decide +kernel, rfl, by decide +kernel, by decide +kernel⟩
theorem bn_added : BindsAll "added" s_added ["one", "other"] := fun _ _ _ _ _ _ us hl => match us, hl with | [_, _], _ => rfl
abbrev s_taken_off : Stmt := topS 23
theorem sc_taken_off : FnScope ["one", "other"] ["one", "other"] (defScope s_taken_off) := ⟨rfl, rfl, rfl, by decide +kernel, rfl, by decide +kernel, by decide +kernel⟩
theorem bn_taken_off : BindsAll "taken_off" s_taken_off ["one", "other"] := fun _ _ _ _ _ _ us hl => match us, hl with | [_, _], _ => rfl
theorem kb_taken_off_1 : KBAll "taken_off" s_taken_off ["one", "other"] 1 := fun _ _ _ _ _ _ us ws h1 h2 => match us, ws, h1, h2 with | [_], [_], _, _ => rfl
abbrev s_multiplied : Stmt := topS 24
theorem sc_multiplied : FnScope ["one", "other"] ["one", "other"] (defScope s_multiplied) := ⟨rfl, rfl, rfl, by decide +kernel, rfl, by decide +kernel, by decide +kernel⟩
theorem bn_multiplied : BindsAll "multiplied" s_multiplied ["one", "other"] := fun _ _ _ _ _ _ us hl => match us, hl with | [_, _], _ => rfl
theorem kb_multiplied_0 : KBAll "multiplied" s_multiplied ["one", "other"] 0 := fun _ _ _ _ _ _ us ws h1 h2 => match us, ws, h1, h2 with | [], [_, _], _, _ => rfl
abbrev s_divided : Stmt := topS 25
theorem sc_divided : FnScope ["one", "other"] ["one", "other"] (defScope s_divided) := ⟨rfl, rfl, rfl, by decide +kernel, rfl, by decide +kernel, by decide +kernel⟩
theorem bn_divided : BindsAll "divided" s_divided ["one", "other"] := fun _ _ _ _ _ _ us hl => match us, hl with | [_, _], _ => rfl
abbrev s_is_less : Stmt := topS 26
theorem sc_is_less : FnScope ["one", "other"] ["one", "other"] (defScope s_is_less) := ⟨rfl, rfl, rfl, by decide +kernel, rfl, by decide +kernel, by decide +kernel⟩
theorem bn_is_less : BindsAll "is_less" s_is_less ["one", "other"] := fun _ _ _ _ _ _ us hl => match us, hl with | [_, _], _ => rfl
abbrev s_floor_of : Stmt := topS 27
theorem sc_floor_of : FnScope ["one"] ["one"] (defScope s_floor_of) := ⟨rfl, rfl, rfl, by decide +kernel, rfl, by decide +kernel, by decide +kernel⟩
theorem bn_floor_of : BindsAll "floor_of" s_floor_of ["one"] := fun _ _ _ _ _ _ us hl => match us, hl with | [_], _ => rfl
abbrev s_ceiling_of : Stmt := topS 28
theorem sc_ceiling_of : FnScope ["one"] ["one"] (defScope s_ceiling_of) := ⟨rfl, rfl, rfl, by decide +kernel, rfl, by decide +kernel, by decide +kernel⟩
theorem bn_ceiling_of : BindsAll "ceiling_of" s_ceiling_of ["one"] := fun _ _ _ _ _ _ us hl => match us, hl with | [_], _ => rfl
theorem kb_ceiling_of_0 : KBAll "ceiling_of" s_ceiling_of ["one"] 0 := fun _ _ _ _ _ _ us ws h1 h2 => match us, ws, h1, h2 with | [], [_], _, _ => rfl
abbrev s__law_pool : Stmt := topS 30
theorem sc__law_pool : FnScope ["cell"] ["cell"] (defScope s__law_pool) := ⟨rfl, rfl, rfl, by decide +kernel, rfl, by decide +kernel, by decide +kernel⟩
theorem bn__law_pool : BindsAll "_law_pool" s__law_pool ["cell"] := fun _ _ _ _ _ _ us hl => match us, hl with | [_], _ => rfl
abbrev s__law_next : Stmt := topS 31
theorem sc__law_next : FnScope ["pool", "many", "found"] ["pool", "many"] (defScope s__law_next) := ⟨rfl, rfl, rfl, by decide +kernel, rfl, by decide +kernel, by decide +kernel⟩
theorem bn__law_next : BindsAll "_law_next" s__law_next ["pool", "many"] := fun _ _ _ _ _ _ us hl => match us, hl with | [_, _], _ => rfl
abbrev s__law_one_of : Stmt := topS 32
theorem sc__law_one_of : FnScope ["pool", "row"] ["pool", "row"] (defScope s__law_one_of) := ⟨rfl, rfl, rfl, by decide +kernel, rfl, by decide +kernel, by decide +kernel⟩
theorem bn__law_one_of : BindsAll "_law_one_of" s__law_one_of ["pool", "row"] := fun _ _ _ _ _ _ us hl => match us, hl with | [_, _], _ => rfl
abbrev s__law_same : Stmt := topS 33
theorem sc__law_same : FnScope ["found", "due", "k"] ["found", "due"] (defScope s__law_same) := ⟨rfl, rfl, rfl, by decide +kernel, rfl, by decide +kernel, by decide +kernel⟩
theorem bn__law_same : BindsAll "_law_same" s__law_same ["found", "due"] := fun _ _ _ _ _ _ us hl => match us, hl with | [_, _], _ => rfl
abbrev s__law_bent : Stmt := topS 34
theorem sc__law_bent : FnScope ["pool", "value", "odd", "k", "way"] ["pool", "value", "odd"] (defScope s__law_bent) := ⟨rfl, rfl, rfl, by decide +kernel, rfl, by decide +kernel, by decide +kernel⟩
theorem bn__law_bent : BindsAll "_law_bent" s__law_bent ["pool", "value", "odd"] := fun _ _ _ _ _ _ us hl => match us, hl with | [_, _, _], _ => rfl
abbrev s__law_odd : Stmt := topS 35
theorem sc__law_odd : FnScope [] [] (defScope s__law_odd) := ⟨rfl, rfl, rfl, by decide +kernel, rfl, by decide +kernel, by decide +kernel⟩
theorem bn__law_odd : BindsAll "_law_odd" s__law_odd [] := fun _ _ _ _ _ _ us hl => match us, hl with | [], _ => rfl
abbrev s__law_gcd : Stmt := topS 36
theorem sc__law_gcd : FnScope ["a", "b", "turn"] ["a", "b"] (defScope s__law_gcd) := ⟨rfl, rfl, rfl, by decide +kernel, rfl, by decide +kernel, by decide +kernel⟩
theorem bn__law_gcd : BindsAll "_law_gcd" s__law_gcd ["a", "b"] := fun _ _ _ _ _ _ us hl => match us, hl with | [_, _], _ => rfl
abbrev s__law_made : Stmt := topS 37
theorem sc__law_made : FnScope ["n", "d", "common"] ["n", "d"] (defScope s__law_made) := ⟨rfl, rfl, rfl, by decide +kernel, rfl, by decide +kernel, by decide +kernel⟩
theorem bn__law_made : BindsAll "_law_made" s__law_made ["n", "d"] := fun _ _ _ _ _ _ us hl => match us, hl with | [_, _], _ => rfl
abbrev s__law_is_int : Stmt := topS 38
theorem sc__law_is_int : FnScope ["value"] ["value"] (defScope s__law_is_int) := ⟨rfl, rfl, rfl, by decide +kernel, rfl, by decide +kernel, by decide +kernel⟩
theorem bn__law_is_int : BindsAll "_law_is_int" s__law_is_int ["value"] := fun _ _ _ _ _ _ us hl => match us, hl with | [_], _ => rfl
abbrev s__law_is_tuple : Stmt := topS 39
theorem sc__law_is_tuple : FnScope ["value", "size"] ["value", "size"] (defScope s__law_is_tuple) := ⟨rfl, rfl, rfl, by decide +kernel, rfl, by decide +kernel, by decide +kernel⟩
theorem bn__law_is_tuple : BindsAll "_law_is_tuple" s__law_is_tuple ["value", "size"] := fun _ _ _ _ _ _ us hl => match us, hl with | [_, _], _ => rfl
abbrev s__law_is_fraction : Stmt := topS 40
theorem sc__law_is_fraction : FnScope ["value"] ["value"] (defScope s__law_is_fraction) := ⟨rfl, rfl, rfl, by decide +kernel, rfl, by decide +kernel, by decide +kernel⟩
theorem bn__law_is_fraction : BindsAll "_law_is_fraction" s__law_is_fraction ["value"] := fun _ _ _ _ _ _ us hl => match us, hl with | [_], _ => rfl
abbrev s__law_great : Stmt := topS 41
theorem sc__law_great : FnScope ["pool", "sizes", "size", "n", "d"] ["pool", "sizes"] (defScope s__law_great) := ⟨rfl, rfl, rfl, by decide +kernel, rfl, by decide +kernel, by decide +kernel⟩
theorem bn__law_great : BindsAll "_law_great" s__law_great ["pool", "sizes"] := fun _ _ _ _ _ _ us hl => match us, hl with | [_, _], _ => rfl
abbrev s__law_refused : Stmt := topS 42
theorem sc__law_refused : FnScope ["which", "one", "other", "refused", "e"] ["which", "one", "other"] (defScope s__law_refused) := ⟨rfl, rfl, rfl, by decide +kernel, rfl, by decide +kernel, by decide +kernel⟩
theorem bn__law_refused : BindsAll "_law_refused" s__law_refused ["which", "one", "other"] := fun _ _ _ _ _ _ us hl => match us, hl with | [_, _, _], _ => rfl
abbrev s__law_reckoned : Stmt := topS 43
theorem sc__law_reckoned : FnScope ["one", "other", "found"] ["one", "other"] (defScope s__law_reckoned) := ⟨rfl, rfl, rfl, by decide +kernel, rfl, by decide +kernel, by decide +kernel⟩
theorem bn__law_reckoned : BindsAll "_law_reckoned" s__law_reckoned ["one", "other"] := fun _ _ _ _ _ _ us hl => match us, hl with | [_, _], _ => rfl
abbrev s__law_due : Stmt := topS 44
theorem sc__law_due : FnScope ["one", "other", "a", "b", "c", "d", "due"] ["one", "other"] (defScope s__law_due) := ⟨rfl, rfl, rfl, by decide +kernel, rfl, by decide +kernel, by decide +kernel⟩
theorem bn__law_due : BindsAll "_law_due" s__law_due ["one", "other"] := fun _ _ _ _ _ _ us hl => match us, hl with | [_, _], _ => rfl
abbrev s_law : Stmt := topS 45
theorem sc_law : FnScope ["script", "odd", "sizes", "cell", "pool", "one", "other", "way", "told", "total", "n", "d", "turn", "near", "thing", "which"] ["script"] (defScope s_law) := ⟨rfl, rfl, rfl, by decide +kernel, rfl, by decide +kernel, by decide +kernel⟩
theorem bn_law : BindsAll "law" s_law ["script"] := fun _ _ _ _ _ _ us hl => match us, hl with | [_], _ => rfl
/-- what the module has made -/
structure Txt (K : PySem.W.Frag) (mg : Str → Option Value) : Prop where
  f_made : FunX K mg "made" s_made ["n", "d"] []
  f_plus : FunX K mg "plus" s_plus ["one", "other"] []
  f_minus : FunX K mg "minus" s_minus ["one", "other"] []
  f_mult : FunX K mg "mult" s_mult ["one", "other"] []
  f_over : FunX K mg "over" s_over ["one", "other"] []
  f_below : FunX K mg "below" s_below ["one", "other"] []
  f_is_int : FunX K mg "is_int" s_is_int ["value"] []
  f_is_row : FunX K mg "is_row" s_is_row ["value", "size"] []
  f_fits_fraction : FunX K mg "fits_fraction" s_fits_fraction ["value"] []
  f_check_fraction : FunX K mg "check_fraction" s_check_fraction ["one"] []
  f_is_fraction : FunX K mg "is_fraction" s_is_fraction ["value"] []
  f_fraction : FunX K mg "fraction" s_fraction ["n", "d"] [0]
  f_check_pair : FunX K mg "check_pair" s_check_pair ["one", "other"] []
  f_added : FunX K mg "added" s_added ["one", "other"] []
  f_taken_off : FunX K mg "taken_off" s_taken_off ["one", "other"] [1]
  f_multiplied : FunX K mg "multiplied" s_multiplied ["one", "other"] [0]
  f_divided : FunX K mg "divided" s_divided ["one", "other"] []
  f_is_less : FunX K mg "is_less" s_is_less ["one", "other"] []
  f_floor_of : FunX K mg "floor_of" s_floor_of ["one"] []
  f_ceiling_of : FunX K mg "ceiling_of" s_ceiling_of ["one"] [0]
  f__law_pool : FunX K mg "_law_pool" s__law_pool ["cell"] []
  f__law_next : FunX K mg "_law_next" s__law_next ["pool", "many"] []
  f__law_one_of : FunX K mg "_law_one_of" s__law_one_of ["pool", "row"] []
  f__law_same : FunX K mg "_law_same" s__law_same ["found", "due"] []
  f__law_bent : FunX K mg "_law_bent" s__law_bent ["pool", "value", "odd"] []
  f__law_odd : FunX K mg "_law_odd" s__law_odd [] []
  f__law_gcd : FunX K mg "_law_gcd" s__law_gcd ["a", "b"] []
  f__law_made : FunX K mg "_law_made" s__law_made ["n", "d"] []
  f__law_is_int : FunX K mg "_law_is_int" s__law_is_int ["value"] []
  f__law_is_tuple : FunX K mg "_law_is_tuple" s__law_is_tuple ["value", "size"] []
  f__law_is_fraction : FunX K mg "_law_is_fraction" s__law_is_fraction ["value"] []
  f__law_great : FunX K mg "_law_great" s__law_great ["pool", "sizes"] []
  f__law_refused : FunX K mg "_law_refused" s__law_refused ["which", "one", "other"] []
  f__law_reckoned : FunX K mg "_law_reckoned" s__law_reckoned ["one", "other"] []
  f__law_due : FunX K mg "_law_due" s__law_due ["one", "other"] []
  f_law : FunX K mg "law" s_law ["script"] []
  z_abs : mg "abs" = none
  z_all : mg "all" = none
  z_bool : mg "bool" = none
  z_gcd : mg "gcd" = some (.builtin "math.gcd")
  z_int : mg "int" = none
  z_isinstance : mg "isinstance" = none
  z_len : mg "len" = none
  z_list : mg "list" = none
  z_max : mg "max" = none
  z_range : mg "range" = none
  z_str : mg "str" = none
  z_tuple : mg "tuple" = none
  x_InvalidFraction : ExcX K mg "InvalidFraction"
  exm_InvalidFraction : ∀ p ∈ exm_InvalidFraction, ExmX K mg p.1 "InvalidFraction" p.2
  kit_BoundError : ∀ p ∈ kit_BoundError, KitX K mg p.1 "BoundError" p.2
  kit_ValueError : ∀ p ∈ kit_ValueError, KitX K mg p.1 "ValueError" p.2
  kit_InvalidPoint : ∀ p ∈ kit_InvalidPoint, KitX K mg p.1 "InvalidPoint" p.2
section
variable {P : Program} {w : World} {K : PySem.W.Frag} {mg : Str → Option Value} {base : Heap}
/-! made -/
def b_made : MS :=
  (seqS (stS 2 (bltD gcdD (csD (getV 0) (csD (getV 1) nlD))))
  (seqS (ifS (cmT ltD (getV 1) (cD (.int 0)))
  (stS 2 (unD negD (getV 2)))
  nxS)
  (rtS (tpD (csD (opD fdivD (getV 0) (getV 2)) (csD (opD fdivD (getV 1) (getV 2)) nlD))))))
def r_made : M D := fnM 2 3 b_made
theorem ok_made (T : Txt K mg) : Def P w K mg base "made" ["n", "d"] [] 1 (spD K mg 2 r_made) :=
  def_ok T.f_made sc_made (fun f cdv A outer s H E S hr => by
    have hu := hr.units
    have sc := sc_made
    exact (psd_cons (psd_set 2 sc.nd (pd_callM cr_gcd gcd_ok (by rfl) T.z_gcd (pad_cons (pd_var 0) (pad_cons (pd_var 1) pad_nil))))
  (psd_cons (psd_if (ptd_lt (pd_var 1) pd_int)
  (psd_one (psd_set 2 sc.nd (pd_neg (pd_var 2))))
  psd_nil)
  (psd_one (psd_ret (pd_tup (pad_cons (pd_fdiv (pd_var 0) (pd_var 2)) (pad_cons (pd_fdiv (pd_var 1) (pd_var 2)) pad_nil))))))))
/-! plus -/
def b_plus_t1 : MS :=
  (rtS (tpD (csD (opD addD (opD idxD (getV 0) (cD (.int 0))) (opD idxD (getV 1) (cD (.int 0)))) (csD (cD (.int 1)) nlD))))
def b_plus : MS :=
  (seqS (ifS (anT (cmT eqD (opD idxD (getV 0) (cD (.int 1))) (cD (.int 1))) (cmT eqD (opD idxD (getV 1) (cD (.int 1))) (cD (.int 1))))
  b_plus_t1
  nxS)
  (rtS (cal 2 (r_made) none (csV (vlV (opD addD (opD mulD (opD idxD (getV 0) (cD (.int 0))) (opD idxD (getV 1) (cD (.int 1)))) (opD mulD (opD idxD (getV 1) (cD (.int 0))) (opD idxD (getV 0) (cD (.int 1)))))) (csV (vlV (opD mulD (opD idxD (getV 0) (cD (.int 1))) (opD idxD (getV 1) (cD (.int 1))))) nlV)))))
def r_plus : M D := fnM 2 2 b_plus
theorem ok_plus (T : Txt K mg) : Def P w K mg base "plus" ["one", "other"] [] 2 (spD K mg 2 r_plus) :=
  def_ok T.f_plus sc_plus (fun f cdv A outer s H E S hr => by
    have hu := hr.units
    have sc := sc_plus
    exact (psd_cons (psd_if (PWd.pt (pwd_and (ptd_eq hu (pd_ix (pd_var 0) pd_int) pd_int) (pwd_and1 (ptd_eq hu (pd_ix (pd_var 1) pd_int) pd_int))))
  (psd_one (psd_ret (pd_tup (pad_cons (pd_add (pd_ix (pd_var 0) pd_int) (pd_ix (pd_var 1) pd_int)) (pad_cons pd_int pad_nil)))))
  psd_nil)
  (psd_one (psd_ret (pd_cal (ok_made T) none (takes_of rfl rfl rfl rfl) hr (by decide) (by rfl) (pva_cons (PEd.v (pd_add (pd_mul (pd_ix (pd_var 0) pd_int) (pd_ix (pd_var 1) pd_int)) (pd_mul (pd_ix (pd_var 1) pd_int) (pd_ix (pd_var 0) pd_int)))) (pva_cons (PEd.v (pd_mul (pd_ix (pd_var 0) pd_int) (pd_ix (pd_var 1) pd_int))) pva_nil)))))))
/-! minus -/
def b_minus : MS :=
  (rtS (cal 2 (r_plus) none (csV (vlV (getV 0)) (csV (vlV (tpD (csD (unD negD (opD idxD (getV 1) (cD (.int 0)))) (csD (opD idxD (getV 1) (cD (.int 1))) nlD)))) nlV))))
def r_minus : M D := fnM 2 2 b_minus
theorem ok_minus (T : Txt K mg) : Def P w K mg base "minus" ["one", "other"] [] 3 (spD K mg 2 r_minus) :=
  def_ok T.f_minus sc_minus (fun f cdv A outer s H E S hr => by
    have hu := hr.units
    have sc := sc_minus
    exact (psd_one (psd_ret (pd_cal (ok_plus T) none (takes_of rfl rfl rfl rfl) hr (by decide) (by rfl) (pva_cons (PEd.v (pd_var 0)) (pva_cons (PEd.v (pd_tup (pad_cons (pd_neg (pd_ix (pd_var 1) pd_int)) (pad_cons (pd_ix (pd_var 1) pd_int) pad_nil)))) pva_nil))))))
/-! mult -/
def b_mult_t1 : MS :=
  (rtS (tpD (csD (opD mulD (opD idxD (getV 0) (cD (.int 0))) (opD idxD (getV 1) (cD (.int 0)))) (csD (cD (.int 1)) nlD))))
def b_mult : MS :=
  (seqS (ifS (anT (cmT eqD (opD idxD (getV 0) (cD (.int 1))) (cD (.int 1))) (cmT eqD (opD idxD (getV 1) (cD (.int 1))) (cD (.int 1))))
  b_mult_t1
  nxS)
  (rtS (cal 2 (r_made) none (csV (vlV (opD mulD (opD idxD (getV 0) (cD (.int 0))) (opD idxD (getV 1) (cD (.int 0))))) (csV (vlV (opD mulD (opD idxD (getV 0) (cD (.int 1))) (opD idxD (getV 1) (cD (.int 1))))) nlV)))))
def r_mult : M D := fnM 2 2 b_mult
theorem ok_mult (T : Txt K mg) : Def P w K mg base "mult" ["one", "other"] [] 2 (spD K mg 2 r_mult) :=
  def_ok T.f_mult sc_mult (fun f cdv A outer s H E S hr => by
    have hu := hr.units
    have sc := sc_mult
    exact (psd_cons (psd_if (PWd.pt (pwd_and (ptd_eq hu (pd_ix (pd_var 0) pd_int) pd_int) (pwd_and1 (ptd_eq hu (pd_ix (pd_var 1) pd_int) pd_int))))
  (psd_one (psd_ret (pd_tup (pad_cons (pd_mul (pd_ix (pd_var 0) pd_int) (pd_ix (pd_var 1) pd_int)) (pad_cons pd_int pad_nil)))))
  psd_nil)
  (psd_one (psd_ret (pd_cal (ok_made T) none (takes_of rfl rfl rfl rfl) hr (by decide) (by rfl) (pva_cons (PEd.v (pd_mul (pd_ix (pd_var 0) pd_int) (pd_ix (pd_var 1) pd_int))) (pva_cons (PEd.v (pd_mul (pd_ix (pd_var 0) pd_int) (pd_ix (pd_var 1) pd_int))) pva_nil)))))))
/-! over -/
def b_over : MS :=
  (rtS (cal 2 (r_made) none (csV (vlV (opD mulD (opD idxD (getV 0) (cD (.int 0))) (opD idxD (getV 1) (cD (.int 1))))) (csV (vlV (opD mulD (opD idxD (getV 0) (cD (.int 1))) (opD idxD (getV 1) (cD (.int 0))))) nlV))))
def r_over : M D := fnM 2 2 b_over
theorem ok_over (T : Txt K mg) : Def P w K mg base "over" ["one", "other"] [] 2 (spD K mg 2 r_over) :=
  def_ok T.f_over sc_over (fun f cdv A outer s H E S hr => by
    have hu := hr.units
    have sc := sc_over
    exact (psd_one (psd_ret (pd_cal (ok_made T) none (takes_of rfl rfl rfl rfl) hr (by decide) (by rfl) (pva_cons (PEd.v (pd_mul (pd_ix (pd_var 0) pd_int) (pd_ix (pd_var 1) pd_int))) (pva_cons (PEd.v (pd_mul (pd_ix (pd_var 0) pd_int) (pd_ix (pd_var 1) pd_int))) pva_nil))))))
/-! below -/
def b_below : MS :=
  (rtS (cmD ltD (opD mulD (opD idxD (getV 0) (cD (.int 0))) (opD idxD (getV 1) (cD (.int 1)))) (opD mulD (opD idxD (getV 1) (cD (.int 0))) (opD idxD (getV 0) (cD (.int 1))))))
def r_below : M D := fnM 2 2 b_below
theorem ok_below (T : Txt K mg) : Def P w K mg base "below" ["one", "other"] [] 1 (spD K mg 2 r_below) :=
  def_ok T.f_below sc_below (fun f cdv A outer s H E S hr => by
    have hu := hr.units
    have sc := sc_below
    exact (psd_one (psd_ret (pd_lt (pd_mul (pd_ix (pd_var 0) pd_int) (pd_ix (pd_var 1) pd_int)) (pd_mul (pd_ix (pd_var 1) pd_int) (pd_ix (pd_var 0) pd_int))))))
/-! is_int -/
def b_is_int : MS :=
  (rtS (anD (isiM "int" (getV 0)) (ntD (isiM "bool" (getV 0)))))
def r_is_int : M D := fnM 1 1 b_is_int
theorem ok_is_int (T : Txt K mg) : Def P w K mg base "is_int" ["value"] [] 1 (spD K mg 1 r_is_int) :=
  def_ok T.f_is_int sc_is_int (fun f cdv A outer s H E S hr => by
    have hu := hr.units
    have sc := sc_is_int
    exact (psd_one (psd_ret (pd_and (pd_isi (T := "int") (pd_var 0) (by rfl) T.z_isinstance (by rfl) T.z_int (by decide +kernel)) (pd_one (pd_not (pd_isi (T := "bool") (pd_var 0) (by rfl) T.z_isinstance (by rfl) T.z_bool (by decide +kernel))))))))
/-! is_row -/
def b_is_row : MS :=
  (rtS (anD (isiM "tuple" (getV 0)) (cmD eqD (bltD lenD (csD (getV 0) nlD)) (getV 1))))
def r_is_row : M D := fnM 2 2 b_is_row
theorem ok_is_row (T : Txt K mg) : Def P w K mg base "is_row" ["value", "size"] [] 1 (spD K mg 2 r_is_row) :=
  def_ok T.f_is_row sc_is_row (fun f cdv A outer s H E S hr => by
    have hu := hr.units
    have sc := sc_is_row
    exact (psd_one (psd_ret (pd_and (pd_isi (T := "tuple") (pd_var 0) (by rfl) T.z_isinstance (by rfl) T.z_tuple (by decide +kernel)) (pd_one (pd_eq hu (pd_callB call_len len_ok (by rfl) T.z_len (by decide +kernel) (pad_cons (pd_var 0) pad_nil)) (pd_var 1)))))))
/-! fits_fraction -/
def b_fits_fraction : MS :=
  (seqS (ifS (orT (ntT (tsT (cal 2 (r_is_row) none (csV (vlV (getV 0)) (csV (vlV (cD (.int 2))) nlV))))) (orT (ntT (tsT (cal 1 (r_is_int) none (csV (vlV (opD idxD (getV 0) (cD (.int 0)))) nlV)))) (ntT (tsT (cal 1 (r_is_int) none (csV (vlV (opD idxD (getV 0) (cD (.int 1)))) nlV))))))
  (rtS (cD (.bl false)))
  nxS)
  (rtS (anD (cmD geD (opD idxD (getV 0) (cD (.int 1))) (cD (.int 1))) (cmD eqD (bltD gcdD (csD (opD idxD (getV 0) (cD (.int 0))) (csD (opD idxD (getV 0) (cD (.int 1))) nlD))) (cD (.int 1))))))
def r_fits_fraction : M D := fnM 1 1 b_fits_fraction
theorem ok_fits_fraction (T : Txt K mg) : Def P w K mg base "fits_fraction" ["value"] [] 2 (spD K mg 1 r_fits_fraction) :=
  def_ok T.f_fits_fraction sc_fits_fraction (fun f cdv A outer s H E S hr => by
    have hu := hr.units
    have sc := sc_fits_fraction
    exact (psd_cons (psd_if (PWd.pt (pwd_or (ptd_not (ptd_val (pd_cal (ok_is_row T) none (takes_of rfl rfl rfl rfl) hr (by decide) (by rfl) (pva_cons (PEd.v (pd_var 0)) (pva_cons (PEd.v pd_int) pva_nil))))) (pwd_or (ptd_not (ptd_val (pd_cal (ok_is_int T) none (takes_of rfl rfl rfl rfl) hr (by decide) (by rfl) (pva_cons (PEd.v (pd_ix (pd_var 0) pd_int)) pva_nil)))) (pwd_or1 (ptd_not (ptd_val (pd_cal (ok_is_int T) none (takes_of rfl rfl rfl rfl) hr (by decide) (by rfl) (pva_cons (PEd.v (pd_ix (pd_var 0) pd_int)) pva_nil))))))))
  (psd_one (psd_ret pd_bl))
  psd_nil)
  (psd_one (psd_ret (pd_and (pd_ge (pd_ix (pd_var 0) pd_int) pd_int) (pd_one (pd_eq hu (pd_callM cr_gcd gcd_ok (by rfl) T.z_gcd (pad_cons (pd_ix (pd_var 0) pd_int) (pad_cons (pd_ix (pd_var 0) pd_int) pad_nil))) pd_int)))))))
/-! check_fraction -/
def b_check_fraction : MS :=
  (ifS (ntT (tsT (cal 1 (r_fits_fraction) none (csV (vlV (getV 0)) nlV))))
  (raS "InvalidFraction")
  nxS)
def r_check_fraction : M D := fnM 1 1 b_check_fraction
theorem ok_check_fraction (T : Txt K mg) : Def P w K mg base "check_fraction" ["one"] [] 3 (spD K mg 1 r_check_fraction) :=
  def_ok T.f_check_fraction sc_check_fraction (fun f cdv A outer s H E S hr => by
    have hu := hr.units
    have sc := sc_check_fraction
    exact (psd_one (psd_if (ptd_not (ptd_val (pd_cal (ok_fits_fraction T) none (takes_of rfl rfl rfl rfl) hr (by decide) (by rfl) (pva_cons (PEd.v (pd_var 0)) pva_nil))))
  (psd_one (psd_raiseX T.x_InvalidFraction rfl (takes_of rfl rfl rfl rfl)))
  psd_nil)))
/-! is_fraction -/
def b_is_fraction : MS :=
  (rtS (cal 1 (r_fits_fraction) none (csV (vlV (getV 0)) nlV)))
def r_is_fraction : M D := fnM 1 1 b_is_fraction
theorem ok_is_fraction (T : Txt K mg) : Def P w K mg base "is_fraction" ["value"] [] 3 (spD K mg 1 r_is_fraction) :=
  def_ok T.f_is_fraction sc_is_fraction (fun f cdv A outer s H E S hr => by
    have hu := hr.units
    have sc := sc_is_fraction
    exact (psd_one (psd_ret (pd_cal (ok_fits_fraction T) none (takes_of rfl rfl rfl rfl) hr (by decide) (by rfl) (pva_cons (PEd.v (pd_var 0)) pva_nil)))))
/-! fraction -/
def b_fraction : MS :=
  (seqS (ifS (orT (ntT (tsT (cal 1 (r_is_int) none (csV (vlV (getV 0)) nlV)))) (orT (ntT (tsT (cal 1 (r_is_int) none (csV (vlV (getV 1)) nlV)))) (cmT eqD (getV 1) (cD (.int 0)))))
  (raS "InvalidFraction")
  nxS)
  (rtS (cal 2 (r_made) none (csV (vlV (getV 0)) (csV (vlV (getV 1)) nlV)))))
def r_fraction : M D := fnM 2 2 b_fraction
theorem ok_fraction (T : Txt K mg) : Def P w K mg base "fraction" ["n", "d"] [0] 2 (spD K mg 2 r_fraction) :=
  def_ok T.f_fraction sc_fraction (fun f cdv A outer s H E S hr => by
    have hu := hr.units
    have sc := sc_fraction
    exact (psd_cons (psd_if (PWd.pt (pwd_or (ptd_not (ptd_val (pd_cal (ok_is_int T) none (takes_of rfl rfl rfl rfl) hr (by decide) (by rfl) (pva_cons (PEd.v (pd_var 0)) pva_nil)))) (pwd_or (ptd_not (ptd_val (pd_cal (ok_is_int T) none (takes_of rfl rfl rfl rfl) hr (by decide) (by rfl) (pva_cons (PEd.v (pd_var 1)) pva_nil)))) (pwd_or1 (ptd_eq hu (pd_var 1) pd_int)))))
  (psd_one (psd_raiseX T.x_InvalidFraction rfl (takes_of rfl rfl rfl rfl)))
  psd_nil)
  (psd_one (psd_ret (pd_cal (ok_made T) none (takes_of rfl rfl rfl rfl) hr (by decide) (by rfl) (pva_cons (PEd.v (pd_var 0)) (pva_cons (PEd.v (pd_var 1)) pva_nil)))))))
/-! check_pair -/
def b_check_pair : MS :=
  (seqS (exS (cal 1 (r_check_fraction) none (csV (vlV (getV 0)) nlV)))
  (exS (cal 1 (r_check_fraction) none (csV (vlV (getV 1)) nlV))))
def r_check_pair : M D := fnM 2 2 b_check_pair
theorem ok_check_pair (T : Txt K mg) : Def P w K mg base "check_pair" ["one", "other"] [] 4 (spD K mg 2 r_check_pair) :=
  def_ok T.f_check_pair sc_check_pair (fun f cdv A outer s H E S hr => by
    have hu := hr.units
    have sc := sc_check_pair
    exact (psd_cons (psd_expr (pd_cal (ok_check_fraction T) none (takes_of rfl rfl rfl rfl) hr (by decide) (by rfl) (pva_cons (PEd.v (pd_var 0)) pva_nil)))
  (psd_one (psd_expr (pd_cal (ok_check_fraction T) none (takes_of rfl rfl rfl rfl) hr (by decide) (by rfl) (pva_cons (PEd.v (pd_var 1)) pva_nil))))))
/-! added -/
def b_added : MS :=
  (seqS (exS (cal 2 (r_check_pair) none (csV (vlV (getV 0)) (csV (vlV (getV 1)) nlV))))
  (rtS (cal 2 (r_plus) none (csV (vlV (getV 0)) (csV (vlV (getV 1)) nlV)))))
def r_added : M D := fnM 2 2 b_added
theorem ok_added (T : Txt K mg) : Def P w K mg base "added" ["one", "other"] [] 5 (spD K mg 2 r_added) :=
  def_ok T.f_added sc_added (fun f cdv A outer s H E S hr => by
    have hu := hr.units
    have sc := sc_added
    exact (psd_cons (psd_expr (pd_cal (ok_check_pair T) none (takes_of rfl rfl rfl rfl) hr (by decide) (by rfl) (pva_cons (PEd.v (pd_var 0)) (pva_cons (PEd.v (pd_var 1)) pva_nil))))
  (psd_one (psd_ret (pd_cal (ok_plus T) none (takes_of rfl rfl rfl rfl) hr (by decide) (by rfl) (pva_cons (PEd.v (pd_var 0)) (pva_cons (PEd.v (pd_var 1)) pva_nil)))))))
/-! taken_off -/
def b_taken_off : MS :=
  (seqS (exS (cal 2 (r_check_pair) none (csV (vlV (getV 0)) (csV (vlV (getV 1)) nlV))))
  (rtS (cal 2 (r_minus) none (csV (vlV (getV 0)) (csV (vlV (getV 1)) nlV)))))
def r_taken_off : M D := fnM 2 2 b_taken_off
theorem ok_taken_off (T : Txt K mg) : Def P w K mg base "taken_off" ["one", "other"] [1] 5 (spD K mg 2 r_taken_off) :=
  def_ok T.f_taken_off sc_taken_off (fun f cdv A outer s H E S hr => by
    have hu := hr.units
    have sc := sc_taken_off
    exact (psd_cons (psd_expr (pd_cal (ok_check_pair T) none (takes_of rfl rfl rfl rfl) hr (by decide) (by rfl) (pva_cons (PEd.v (pd_var 0)) (pva_cons (PEd.v (pd_var 1)) pva_nil))))
  (psd_one (psd_ret (pd_cal (ok_minus T) none (takes_of rfl rfl rfl rfl) hr (by decide) (by rfl) (pva_cons (PEd.v (pd_var 0)) (pva_cons (PEd.v (pd_var 1)) pva_nil)))))))
/-! multiplied -/
def b_multiplied : MS :=
  (seqS (exS (cal 2 (r_check_pair) none (csV (vlV (getV 0)) (csV (vlV (getV 1)) nlV))))
  (rtS (cal 2 (r_mult) none (csV (vlV (getV 0)) (csV (vlV (getV 1)) nlV)))))
def r_multiplied : M D := fnM 2 2 b_multiplied
theorem ok_multiplied (T : Txt K mg) : Def P w K mg base "multiplied" ["one", "other"] [0] 5 (spD K mg 2 r_multiplied) :=
  def_ok T.f_multiplied sc_multiplied (fun f cdv A outer s H E S hr => by
    have hu := hr.units
    have sc := sc_multiplied
    exact (psd_cons (psd_expr (pd_cal (ok_check_pair T) none (takes_of rfl rfl rfl rfl) hr (by decide) (by rfl) (pva_cons (PEd.v (pd_var 0)) (pva_cons (PEd.v (pd_var 1)) pva_nil))))
  (psd_one (psd_ret (pd_cal (ok_mult T) none (takes_of rfl rfl rfl rfl) hr (by decide) (by rfl) (pva_cons (PEd.v (pd_var 0)) (pva_cons (PEd.v (pd_var 1)) pva_nil)))))))
/-! divided -/
def b_divided : MS :=
  (seqS (exS (cal 2 (r_check_pair) none (csV (vlV (getV 0)) (csV (vlV (getV 1)) nlV))))
  (seqS (ifS (cmT eqD (opD idxD (getV 1) (cD (.int 0))) (cD (.int 0)))
  (raS "InvalidFraction")
  nxS)
  (rtS (cal 2 (r_over) none (csV (vlV (getV 0)) (csV (vlV (getV 1)) nlV))))))
def r_divided : M D := fnM 2 2 b_divided
theorem ok_divided (T : Txt K mg) : Def P w K mg base "divided" ["one", "other"] [] 5 (spD K mg 2 r_divided) :=
  def_ok T.f_divided sc_divided (fun f cdv A outer s H E S hr => by
    have hu := hr.units
    have sc := sc_divided
    exact (psd_cons (psd_expr (pd_cal (ok_check_pair T) none (takes_of rfl rfl rfl rfl) hr (by decide) (by rfl) (pva_cons (PEd.v (pd_var 0)) (pva_cons (PEd.v (pd_var 1)) pva_nil))))
  (psd_cons (psd_if (ptd_eq hu (pd_ix (pd_var 1) pd_int) pd_int)
  (psd_one (psd_raiseX T.x_InvalidFraction rfl (takes_of rfl rfl rfl rfl)))
  psd_nil)
  (psd_one (psd_ret (pd_cal (ok_over T) none (takes_of rfl rfl rfl rfl) hr (by decide) (by rfl) (pva_cons (PEd.v (pd_var 0)) (pva_cons (PEd.v (pd_var 1)) pva_nil))))))))
/-! is_less -/
def b_is_less : MS :=
  (seqS (exS (cal 2 (r_check_pair) none (csV (vlV (getV 0)) (csV (vlV (getV 1)) nlV))))
  (rtS (cal 2 (r_below) none (csV (vlV (getV 0)) (csV (vlV (getV 1)) nlV)))))
def r_is_less : M D := fnM 2 2 b_is_less
theorem ok_is_less (T : Txt K mg) : Def P w K mg base "is_less" ["one", "other"] [] 5 (spD K mg 2 r_is_less) :=
  def_ok T.f_is_less sc_is_less (fun f cdv A outer s H E S hr => by
    have hu := hr.units
    have sc := sc_is_less
    exact (psd_cons (psd_expr (pd_cal (ok_check_pair T) none (takes_of rfl rfl rfl rfl) hr (by decide) (by rfl) (pva_cons (PEd.v (pd_var 0)) (pva_cons (PEd.v (pd_var 1)) pva_nil))))
  (psd_one (psd_ret (pd_cal (ok_below T) none (takes_of rfl rfl rfl rfl) hr (by decide) (by rfl) (pva_cons (PEd.v (pd_var 0)) (pva_cons (PEd.v (pd_var 1)) pva_nil)))))))
/-! floor_of -/
def b_floor_of : MS :=
  (seqS (exS (cal 1 (r_check_fraction) none (csV (vlV (getV 0)) nlV)))
  (rtS (opD fdivD (opD idxD (getV 0) (cD (.int 0))) (opD idxD (getV 0) (cD (.int 1))))))
def r_floor_of : M D := fnM 1 1 b_floor_of
theorem ok_floor_of (T : Txt K mg) : Def P w K mg base "floor_of" ["one"] [] 4 (spD K mg 1 r_floor_of) :=
  def_ok T.f_floor_of sc_floor_of (fun f cdv A outer s H E S hr => by
    have hu := hr.units
    have sc := sc_floor_of
    exact (psd_cons (psd_expr (pd_cal (ok_check_fraction T) none (takes_of rfl rfl rfl rfl) hr (by decide) (by rfl) (pva_cons (PEd.v (pd_var 0)) pva_nil)))
  (psd_one (psd_ret (pd_fdiv (pd_ix (pd_var 0) pd_int) (pd_ix (pd_var 0) pd_int))))))
/-! ceiling_of -/
def b_ceiling_of : MS :=
  (seqS (exS (cal 1 (r_check_fraction) none (csV (vlV (getV 0)) nlV)))
  (rtS (unD negD (opD fdivD (unD negD (opD idxD (getV 0) (cD (.int 0)))) (opD idxD (getV 0) (cD (.int 1)))))))
def r_ceiling_of : M D := fnM 1 1 b_ceiling_of
theorem ok_ceiling_of (T : Txt K mg) : Def P w K mg base "ceiling_of" ["one"] [0] 4 (spD K mg 1 r_ceiling_of) :=
  def_ok T.f_ceiling_of sc_ceiling_of (fun f cdv A outer s H E S hr => by
    have hu := hr.units
    have sc := sc_ceiling_of
    exact (psd_cons (psd_expr (pd_cal (ok_check_fraction T) none (takes_of rfl rfl rfl rfl) hr (by decide) (by rfl) (pva_cons (PEd.v (pd_var 0)) pva_nil)))
  (psd_one (psd_ret (pd_neg (pd_fdiv (pd_neg (pd_ix (pd_var 0) pd_int)) (pd_ix (pd_var 0) pd_int)))))))
/-! _law_pool -/
def b__law_pool : MS :=
  (seqS (stS 0 (bltD intD (csD (getV 0) nlD)))
  (rtS (lsD (csD (bltD max2D (csD (cD (.int 0)) (csD (opD subD (getV 0) (opD powD (cD (.int 10)) (cD (.int 24)))) nlD))) (csD (opD modD (bltD intD (csD (opD addD (opD mulD (getV 0) (cD (.int 6364136223))) (cD (.int 1442695))) nlD)) (cD (.int 2305843009213693951))) (csD (cD (.int 1)) nlD))))))
def r__law_pool : M D := fnF 1 1 b__law_pool
theorem ok__law_pool (T : Txt K mg) : Def P w K mg base "_law_pool" ["cell"] [] 1 (spF K mg 1 r__law_pool) :=
  defF_ok T.f__law_pool sc__law_pool (fun f cdv A outer s H E S hr => by
    have hu := hr.units
    have sc := sc__law_pool
    exact (psd_cons (psd_set 0 sc.nd (pd_callTy call_int1 int_ok (by rfl) T.z_int (by decide +kernel) (pad_cons (pd_var 0) pad_nil)))
  (psd_one (psf_ret (pf_lst (x1 := 0) (pad_cons (pd_callB (call_max2 rfl) max2_ok (by rfl) T.z_max (by decide +kernel) (pad_cons pd_int (pad_cons (pd_sub (pd_var 0) (pd_pow pd_int pd_int)) pad_nil))) (pad_cons (pd_mod (pd_callTy call_int1 int_ok (by rfl) T.z_int (by decide +kernel) (pad_cons (pd_add (pd_mul (pd_var 0) pd_int) pd_int) pad_nil)) pd_int) (pad_cons pd_int pad_nil))))))))
/-! _law_next -/
def b__law_next_t1 : MS :=
  (seqS (stS 2 (opD modD (bltD intD (csD (opV idxD (borV 0) (vlV (cD (.int 0)))) nlD)) (getV 1)))
  (seqS (soS 0 (opD fdivD (bltD intD (csD (opV idxD (borV 0) (vlV (cD (.int 0)))) nlD)) (getV 1)) (cD (.int 0)))
  (rtS (getV 2))))
def b__law_next : MS :=
  (seqS (soS 0 (opD addD (opV idxD (borV 0) (vlV (cD (.int 2)))) (cD (.int 1))) (cD (.int 2)))
  (seqS (ifS (cmT gtD (opV idxD (borV 0) (vlV (cD (.int 0)))) (cD (.int 0)))
  b__law_next_t1
  nxS)
  (seqS (soS 0 (opD modD (bltD intD (csD (opD addD (opD addD (opD mulD (opV idxD (borV 0) (vlV (cD (.int 1)))) (cD (.int 48271131))) (opD mulD (opD mulD (opV idxD (borV 0) (vlV (cD (.int 2)))) (opV idxD (borV 0) (vlV (cD (.int 2))))) (cD (.int 65537)))) (cD (.int 9176))) nlD)) (cD (.int 2305843009213693951))) (cD (.int 1)))
  (rtS (opD modD (opD fdivD (bltD intD (csD (opV idxD (borV 0) (vlV (cD (.int 1)))) nlD)) (cD (.int 524288))) (getV 1))))))
def r__law_next : M D := fnM 2 3 b__law_next
theorem ok__law_next (T : Txt K mg) : Def P w K mg base "_law_next" ["pool", "many"] [] 1 (spD K mg 2 r__law_next) :=
  def_ok T.f__law_next sc__law_next (fun f cdv A outer s H E S hr => by
    have hu := hr.units
    have sc := sc__law_next
    exact (psd_cons (psd_store 0 (pd_add (pv_ix (pv_own 0) (PEd.v pd_int)) pd_int) pd_int)
  (psd_cons (psd_if (ptd_gt (pv_ix (pv_own 0) (PEd.v pd_int)) pd_int)
  (psd_cons (psd_set 2 sc.nd (pd_mod (pd_callTy call_int1 int_ok (by rfl) T.z_int (by decide +kernel) (pad_cons (pv_ix (pv_own 0) (PEd.v pd_int)) pad_nil)) (pd_var 1)))
  (psd_cons (psd_store 0 (pd_fdiv (pd_callTy call_int1 int_ok (by rfl) T.z_int (by decide +kernel) (pad_cons (pv_ix (pv_own 0) (PEd.v pd_int)) pad_nil)) (pd_var 1)) pd_int)
  (psd_one (psd_ret (pd_var 2)))))
  psd_nil)
  (psd_cons (psd_store 0 (pd_mod (pd_callTy call_int1 int_ok (by rfl) T.z_int (by decide +kernel) (pad_cons (pd_add (pd_add (pd_mul (pv_ix (pv_own 0) (PEd.v pd_int)) pd_int) (pd_mul (pd_mul (pv_ix (pv_own 0) (PEd.v pd_int)) (pv_ix (pv_own 0) (PEd.v pd_int))) pd_int)) pd_int) pad_nil)) pd_int) pd_int)
  (psd_one (psd_ret (pd_mod (pd_fdiv (pd_callTy call_int1 int_ok (by rfl) T.z_int (by decide +kernel) (pad_cons (pv_ix (pv_own 0) (PEd.v pd_int)) pad_nil)) pd_int) (pd_var 1))))))))
/-! _law_one_of -/
def b__law_one_of : MS :=
  (rtS (opD idxD (getV 1) (cal 2 (r__law_next) (some 0) (csV (borV 0) (csV (vlV (bltD lenD (csD (getV 1) nlD))) nlV)))))
def r__law_one_of : M D := fnM 2 2 b__law_one_of
theorem ok__law_one_of (T : Txt K mg) : Def P w K mg base "_law_one_of" ["pool", "row"] [] 2 (spD K mg 2 r__law_one_of) :=
  def_ok T.f__law_one_of sc__law_one_of (fun f cdv A outer s H E S hr => by
    have hu := hr.units
    have sc := sc__law_one_of
    exact (psd_one (psd_ret (pd_ix (pd_var 1) (pd_cal (ok__law_next T) (some 0) (takes_of rfl rfl rfl rfl) hr (by decide) (by rfl) (pva_cons (pv_own 0) (pva_cons (PEd.v (pd_callB call_len len_ok (by rfl) T.z_len (by decide +kernel) (pad_cons (pd_var 1) pad_nil))) pva_nil)))))))
/-! _law_same -/
def b__law_same_t1 (rc : M D) : MS :=
  (seqS (ifS (orT (cmT neD (isiM "tuple" (getV 0)) (isiM "tuple" (getV 1))) (cmT neD (isiM "list" (getV 0)) (isiM "list" (getV 1))))
  (rtS (cD (.bl false)))
  nxS)
  (rtS (anD (cmD eqD (bltD lenD (csD (getV 0) nlD)) (bltD lenD (csD (getV 1) nlD))) (bltD allD (csD (compL [2] (rg1 (csD (bltD lenD (csD (getV 1) nlD)) nlD)) (setS 2) (M.pure true) (cal 2 rc none (csV (vlV (opD idxD (getV 0) (getV 2))) (csV (vlV (opD idxD (getV 1) (getV 2))) nlV)))) nlD)))))
def b__law_same_t2 (rc : M D) : MS :=
  (rtS (anD (isiM "bool" (getV 0)) (cmD eqD (getV 0) (getV 1))))
def b__law_same_t3 (rc : M D) : MS :=
  (rtS (anD (isiM "int" (getV 0)) (anD (ntD (isiM "bool" (getV 0))) (cmD eqD (getV 0) (getV 1)))))
def b__law_same (rc : M D) : MS :=
  (seqS (ifS (orT (tsT (isiM "tuple" (getV 1))) (tsT (isiM "list" (getV 1))))
  (b__law_same_t1 rc)
  nxS)
  (seqS (ifS (cmT isD (getV 1) (cD .non))
  (rtS (cmD isD (getV 0) (cD .non)))
  nxS)
  (seqS (ifS (tsT (isiM "bool" (getV 1)))
  (b__law_same_t2 rc)
  nxS)
  (seqS (ifS (tsT (isiM "int" (getV 1)))
  (b__law_same_t3 rc)
  nxS)
  (rtS (anD (isiM "str" (getV 0)) (cmD eqD (getV 0) (getV 1))))))))
def r__law_same : Nat → M D
  | 0 => badM
  | i + 1 => fnM 2 3 (b__law_same (r__law_same i))
theorem okr__law_same (T : Txt K mg) {k : Nat} (hk : 0 ≤ k) {rc : M D} (D0 : Def P w K mg base "_law_same" ["found", "due"] [] k (spD K mg 2 rc)) : Def P w K mg base "_law_same" ["found", "due"] [] (k + 1) (spD K mg 2 (fnM 2 3 (b__law_same rc))) :=
  def_ok T.f__law_same sc__law_same (fun f cdv A outer s H E S hr => by
    have hu := hr.units
    have sc := sc__law_same
    exact (psd_cons (psd_if (PWd.pt (pwd_or (ptd_val (pd_isi (T := "tuple") (pd_var 1) (by rfl) T.z_isinstance (by rfl) T.z_tuple (by decide +kernel))) (pwd_or1 (ptd_val (pd_isi (T := "list") (pd_var 1) (by rfl) T.z_isinstance (by rfl) T.z_list (by decide +kernel))))))
  (psd_cons (psd_if (PWd.pt (pwd_or (ptd_ne hu (pd_isi (T := "tuple") (pd_var 0) (by rfl) T.z_isinstance (by rfl) T.z_tuple (by decide +kernel)) (pd_isi (T := "tuple") (pd_var 1) (by rfl) T.z_isinstance (by rfl) T.z_tuple (by decide +kernel))) (pwd_or1 (ptd_ne hu (pd_isi (T := "list") (pd_var 0) (by rfl) T.z_isinstance (by rfl) T.z_list (by decide +kernel)) (pd_isi (T := "list") (pd_var 1) (by rfl) T.z_isinstance (by rfl) T.z_list (by decide +kernel))))))
  (psd_one (psd_ret pd_bl))
  psd_nil)
  (psd_one (psd_ret (pd_and (pd_eq hu (pd_callB call_len len_ok (by rfl) T.z_len (by decide +kernel) (pad_cons (pd_var 0) pad_nil)) (pd_callB call_len len_ok (by rfl) T.z_len (by decide +kernel) (pad_cons (pd_var 1) pad_nil))) (pd_one (pd_callB (cr_all rfl) all_ok (by rfl) T.z_all (by decide +kernel) (pad_cons ((pf_comp (own := [("k", 2)]) rfl sc.nd (pid_range1 T.z_range (pad_cons (pd_callB call_len len_ok (by rfl) T.z_len (by decide +kernel) (pad_cons (pd_var 1) pad_nil)) pad_nil)) (blkOk_by (by rfl)) (fun s0 H0 C0 cl0 fp0 => (pgd_name 2 sc.nd)) (fun s0 H0 C0 cl0 fp0 => ptsd_nil) (fun s0 H0 C0 cl0 fp0 => (pd_cal D0 none takesN hr (Nat.le_refl _) (by rfl) (pva_cons (PEd.v (pd_ix (pd_var 0) (pd_var 2))) (pva_cons (PEd.v (pd_ix (pd_var 1) (pd_var 2))) pva_nil)))))).plain pad_nil)))))))
  psd_nil)
  (psd_cons (psd_if (ptd_is (pd_var 1) pd_non)
  (psd_one (psd_ret (pd_is (pd_var 0) pd_non)))
  psd_nil)
  (psd_cons (psd_if (ptd_val (pd_isi (T := "bool") (pd_var 1) (by rfl) T.z_isinstance (by rfl) T.z_bool (by decide +kernel)))
  (psd_one (psd_ret (pd_and (pd_isi (T := "bool") (pd_var 0) (by rfl) T.z_isinstance (by rfl) T.z_bool (by decide +kernel)) (pd_one (pd_eq hu (pd_var 0) (pd_var 1))))))
  psd_nil)
  (psd_cons (psd_if (ptd_val (pd_isi (T := "int") (pd_var 1) (by rfl) T.z_isinstance (by rfl) T.z_int (by decide +kernel)))
  (psd_one (psd_ret (pd_and (pd_isi (T := "int") (pd_var 0) (by rfl) T.z_isinstance (by rfl) T.z_int (by decide +kernel)) (pd_and (pd_not (pd_isi (T := "bool") (pd_var 0) (by rfl) T.z_isinstance (by rfl) T.z_bool (by decide +kernel))) (pd_one (pd_eq hu (pd_var 0) (pd_var 1)))))))
  psd_nil)
  (psd_one (psd_ret (pd_and (pd_isi (T := "str") (pd_var 0) (by rfl) T.z_isinstance (by rfl) T.z_str (by decide +kernel)) (pd_one (pd_eq hu (pd_var 0) (pd_var 1)))))))))))
theorem ok__law_same (T : Txt K mg) : ∀ i : Nat, Def P w K mg base "_law_same" ["found", "due"] [] (0 + i) (spD K mg 2 (r__law_same i))
  | 0 => def_bad T.f__law_same 0
  | i + 1 => okr__law_same T (Nat.le_add_right _ _) (ok__law_same T i)
/-! _law_bent -/
def b__law_bent_t1 (rc : M D) : MS :=
  (rtS (cal 2 (r__law_one_of) (some 0) (csV (borV 0) (csV (vlV (getV 2)) nlV))))
def b__law_bent_t2 (rc : M D) : MS :=
  (rtS (opD addD (slD (getV 1) noI (smI (getV 3))) (slD (getV 1) (smI (opD addD (getV 3) (cD (.int 1)))) noI)))
def b__law_bent_t3 (rc : M D) : MS :=
  (rtS (opD addD (slD (getV 1) noI (smI (opD addD (getV 3) (cD (.int 1))))) (slD (getV 1) (smI (getV 3)) noI)))
def b__law_bent_t4 (rc : M D) : MS :=
  (rtS (opD addD (slD (getV 1) (smI (getV 3)) noI) (slD (getV 1) noI (smI (getV 3)))))
def b__law_bent (rc : M D) : MS :=
  (seqS (ifS (orT (ntT (tsT (isiM "tuple" (getV 1)))) (orT (cmT eqD (getV 1) (tpD nlD)) (cmT eqD (cal 2 (r__law_next) (some 0) (csV (borV 0) (csV (vlV (cD (.int 6))) nlV))) (cD (.int 0)))))
  (b__law_bent_t1 rc)
  nxS)
  (seqS (paS 3 4 (csD (cal 2 (r__law_next) (some 0) (csV (borV 0) (csV (vlV (bltD lenD (csD (getV 1) nlD))) nlV))) (csD (cal 2 (r__law_next) (some 0) (csV (borV 0) (csV (vlV (cD (.int 8))) nlV))) nlD)))
  (seqS (ifS (cmT eqD (getV 4) (cD (.int 0)))
  (b__law_bent_t2 rc)
  nxS)
  (seqS (ifS (cmT eqD (getV 4) (cD (.int 1)))
  (b__law_bent_t3 rc)
  nxS)
  (seqS (ifS (cmT eqD (getV 4) (cD (.int 2)))
  (b__law_bent_t4 rc)
  nxS)
  (seqS (ifS (cmT eqD (getV 4) (cD (.int 3)))
  (rtS (bltD listD (csD (getV 1) nlD)))
  nxS)
  (rtS (opD addD (opD addD (slD (getV 1) noI (smI (getV 3))) (tpD (csD (cal 3 rc (some 0) (csV (borV 0) (csV (vlV (opD idxD (getV 1) (getV 3))) (csV (vlV (getV 2)) nlV)))) nlD))) (slD (getV 1) (smI (opD addD (getV 3) (cD (.int 1)))) noI)))))))))
def r__law_bent : Nat → M D
  | 0 => badM
  | i + 1 => fnM 3 5 (b__law_bent (r__law_bent i))
theorem okr__law_bent (T : Txt K mg) {k : Nat} (hk : 2 ≤ k) {rc : M D} (D0 : Def P w K mg base "_law_bent" ["pool", "value", "odd"] [] k (spD K mg 3 rc)) : Def P w K mg base "_law_bent" ["pool", "value", "odd"] [] (k + 1) (spD K mg 3 (fnM 3 5 (b__law_bent rc))) :=
  def_ok T.f__law_bent sc__law_bent (fun f cdv A outer s H E S hr => by
    have hu := hr.units
    have sc := sc__law_bent
    exact (psd_cons (psd_if (PWd.pt (pwd_or (ptd_not (ptd_val (pd_isi (T := "tuple") (pd_var 1) (by rfl) T.z_isinstance (by rfl) T.z_tuple (by decide +kernel)))) (pwd_or (ptd_eq hu (pd_var 1) (pd_tup pad_nil)) (pwd_or1 (ptd_eq hu (pd_cal (ok__law_next T) (some 0) (takes_of rfl rfl rfl rfl) hr (Nat.le_trans (by decide) hk) (by rfl) (pva_cons (pv_own 0) (pva_cons (PEd.v pd_int) pva_nil))) pd_int)))))
  (psd_one (psd_ret (pd_cal (ok__law_one_of T) (some 0) (takes_of rfl rfl rfl rfl) hr (Nat.le_trans (by decide) hk) (by rfl) (pva_cons (pv_own 0) (pva_cons (PEd.v (pd_var 2)) pva_nil)))))
  psd_nil)
  (psd_cons (psd_par 3 4 rfl sc.nd (pad_cons (pd_cal (ok__law_next T) (some 0) (takes_of rfl rfl rfl rfl) hr (Nat.le_trans (by decide) hk) (by rfl) (pva_cons (pv_own 0) (pva_cons (PEd.v (pd_callB call_len len_ok (by rfl) T.z_len (by decide +kernel) (pad_cons (pd_var 1) pad_nil))) pva_nil))) (pad_cons (pd_cal (ok__law_next T) (some 0) (takes_of rfl rfl rfl rfl) hr (Nat.le_trans (by decide) hk) (by rfl) (pva_cons (pv_own 0) (pva_cons (PEd.v pd_int) pva_nil))) pad_nil)))
  (psd_cons (psd_if (ptd_eq hu (pd_var 4) pd_int)
  (psd_one (psd_ret (pd_add (pd_slice (pd_var 1) pod_none (pod_some (pd_var 3))) (pd_slice (pd_var 1) (pod_some (pd_add (pd_var 3) pd_int)) pod_none))))
  psd_nil)
  (psd_cons (psd_if (ptd_eq hu (pd_var 4) pd_int)
  (psd_one (psd_ret (pd_add (pd_slice (pd_var 1) pod_none (pod_some (pd_add (pd_var 3) pd_int))) (pd_slice (pd_var 1) (pod_some (pd_var 3)) pod_none))))
  psd_nil)
  (psd_cons (psd_if (ptd_eq hu (pd_var 4) pd_int)
  (psd_one (psd_ret (pd_add (pd_slice (pd_var 1) (pod_some (pd_var 3)) pod_none) (pd_slice (pd_var 1) pod_none (pod_some (pd_var 3))))))
  psd_nil)
  (psd_cons (psd_if (ptd_eq hu (pd_var 4) pd_int)
  (psd_one (psd_ret (pd_callTy call_list_of list_ok (by rfl) T.z_list (by decide +kernel) (pad_cons (pd_var 1) pad_nil))))
  psd_nil)
  (psd_one (psd_ret (pd_add (pd_add (pd_slice (pd_var 1) pod_none (pod_some (pd_var 3))) (pd_tup (pad_cons (pd_cal D0 (some 0) (takes_of rfl rfl rfl rfl) hr (Nat.le_refl _) (by rfl) (pva_cons (pv_own 0) (pva_cons (PEd.v (pd_ix (pd_var 1) (pd_var 3))) (pva_cons (PEd.v (pd_var 2)) pva_nil)))) pad_nil))) (pd_slice (pd_var 1) (pod_some (pd_add (pd_var 3) pd_int)) pod_none)))))))))))
theorem ok__law_bent (T : Txt K mg) : ∀ i : Nat, Def P w K mg base "_law_bent" ["pool", "value", "odd"] [] (2 + i) (spD K mg 3 (r__law_bent i))
  | 0 => def_bad T.f__law_bent 2
  | i + 1 => okr__law_bent T (Nat.le_add_right _ _) (ok__law_bent T i)
/-! _law_odd -/
def b__law_odd : MS :=
  (rtS (lsD (csD (cD .non) (csD (cD (.bl true)) (csD (cD (.bl false)) (csD (cD (.int 0)) (csD (cD (.int 1)) (csD (unD negD (cD (.int 1))) (csD (cD (.int 2)) (csD (cD (.str "")) (csD (cD (.str "a")) (csD (cD (.str "none")) (csD (cD (.str "all")) (csD (cD (.str "x")) (csD (tpD nlD) (csD (lsD nlD) (csD (cD (.dct [] [])) (csD (tpD (csD (tpD nlD) nlD)) (csD (tpD (csD (cD (.int 0)) nlD)) (csD (tpD (csD (cD (.int 0)) (csD (cD (.int 0)) nlD))) (csD (tpD (csD (cD (.int 2)) (csD (cD (.int 4)) nlD))) (csD (tpD (csD (cD (.int 1)) (csD (cD (.int 0)) nlD))) (csD (tpD (csD (cD (.int 1)) (csD (unD negD (cD (.int 1))) nlD))) (csD (tpD (csD (cD (.bl true)) (csD (cD (.int 1)) nlD))) (csD (tpD (csD (cD (.int 0)) (csD (cD (.int 1)) nlD))) (csD (tpD (csD (unD negD (cD (.int 1))) (csD (cD (.int 1)) nlD))) (csD (tpD (csD (cD (.int 1)) (csD (cD (.int 2)) nlD))) (csD (tpD (csD (tpD (csD (cD (.int 0)) (csD (cD (.int 1)) nlD))) nlD)) (csD (tpD (csD (tpD (csD (cD (.int 1)) (csD (cD (.int 1)) nlD))) (csD (tpD (csD (cD (.int 0)) (csD (cD (.int 1)) nlD))) nlD))) nlD)))))))))))))))))))))))))))))
def r__law_odd : M D := fnM 0 0 b__law_odd
theorem ok__law_odd (T : Txt K mg) : Def P w K mg base "_law_odd" [] [] 1 (spD K mg 0 r__law_odd) :=
  def_ok T.f__law_odd sc__law_odd (fun f cdv A outer s H E S hr => by
    have hu := hr.units
    have sc := sc__law_odd
    exact (psd_one (psd_ret ((pf_lst (x1 := 0) (pad_cons pd_non (pad_cons pd_bl (pad_cons pd_bl (pad_cons pd_int (pad_cons pd_int (pad_cons (pd_neg pd_int) (pad_cons pd_int (pad_cons pd_str (pad_cons pd_str (pad_cons pd_str (pad_cons pd_str (pad_cons pd_str (pad_cons (pd_tup pad_nil) (pad_cons ((pf_lst (x1 := 0) pad_nil)).plain (pad_cons (pf_emp).plain (pad_cons (pd_tup (pad_cons (pd_tup pad_nil) pad_nil)) (pad_cons (pd_tup (pad_cons pd_int pad_nil)) (pad_cons (pd_tup (pad_cons pd_int (pad_cons pd_int pad_nil))) (pad_cons (pd_tup (pad_cons pd_int (pad_cons pd_int pad_nil))) (pad_cons (pd_tup (pad_cons pd_int (pad_cons pd_int pad_nil))) (pad_cons (pd_tup (pad_cons pd_int (pad_cons (pd_neg pd_int) pad_nil))) (pad_cons (pd_tup (pad_cons pd_bl (pad_cons pd_int pad_nil))) (pad_cons (pd_tup (pad_cons pd_int (pad_cons pd_int pad_nil))) (pad_cons (pd_tup (pad_cons (pd_neg pd_int) (pad_cons pd_int pad_nil))) (pad_cons (pd_tup (pad_cons pd_int (pad_cons pd_int pad_nil))) (pad_cons (pd_tup (pad_cons (pd_tup (pad_cons pd_int (pad_cons pd_int pad_nil))) pad_nil)) (pad_cons (pd_tup (pad_cons (pd_tup (pad_cons pd_int (pad_cons pd_int pad_nil))) (pad_cons (pd_tup (pad_cons pd_int (pad_cons pd_int pad_nil))) pad_nil))) pad_nil))))))))))))))))))))))))))))).plain)))
/-! _law_gcd -/
def b__law_gcd_f1 : MS :=
  (seqS (ifS (cmT eqD (getV 1) (cD (.int 0)))
  bkS
  nxS)
  (paS 0 1 (csD (getV 1) (csD (opD modD (bltD intD (csD (getV 0) nlD)) (getV 1)) nlD))))
def b__law_gcd : MS :=
  (seqS (paS 0 1 (csD (bltD absD (csD (getV 0) nlD)) (csD (bltD absD (csD (getV 1) nlD)) nlD)))
  (seqS (foS (rg1 (csD (cD (.int 20000)) nlD)) (setS 2) b__law_gcd_f1)
  (rtS (getV 0))))
def r__law_gcd : M D := fnM 2 3 b__law_gcd
theorem ok__law_gcd (T : Txt K mg) : Def P w K mg base "_law_gcd" ["a", "b"] [] 1 (spD K mg 2 r__law_gcd) :=
  def_ok T.f__law_gcd sc__law_gcd (fun f cdv A outer s H E S hr => by
    have hu := hr.units
    have sc := sc__law_gcd
    exact (psd_cons (psd_par 0 1 rfl sc.nd (pad_cons (pd_callB call_abs abs_ok (by rfl) T.z_abs (by decide +kernel) (pad_cons (pd_var 0) pad_nil)) (pad_cons (pd_callB call_abs abs_ok (by rfl) T.z_abs (by decide +kernel) (pad_cons (pd_var 1) pad_nil)) pad_nil)))
  (psd_cons (psd_for (passes_of rfl) rfl (pid_range1 T.z_range (pad_cons pd_int pad_nil)) (pgd_name 2 sc.nd)
  (psd_cons (psd_if (ptd_eq hu (pd_var 1) pd_int)
  (psd_one psd_break)
  psd_nil)
  (psd_one (psd_par 0 1 rfl sc.nd (pad_cons (pd_var 1) (pad_cons (pd_mod (pd_callTy call_int1 int_ok (by rfl) T.z_int (by decide +kernel) (pad_cons (pd_var 0) pad_nil)) (pd_var 1)) pad_nil))))))
  (psd_one (psd_ret (pd_var 0))))))
/-! _law_made -/
def b__law_made : MS :=
  (seqS (stS 2 (cal 2 (r__law_gcd) none (csV (vlV (getV 0)) (csV (vlV (getV 1)) nlV))))
  (seqS (ifS (cmT ltD (getV 1) (cD (.int 0)))
  (stS 2 (unD negD (getV 2)))
  nxS)
  (rtS (tpD (csD (opD fdivD (getV 0) (getV 2)) (csD (opD fdivD (getV 1) (getV 2)) nlD))))))
def r__law_made : M D := fnM 2 3 b__law_made
theorem ok__law_made (T : Txt K mg) : Def P w K mg base "_law_made" ["n", "d"] [] 2 (spD K mg 2 r__law_made) :=
  def_ok T.f__law_made sc__law_made (fun f cdv A outer s H E S hr => by
    have hu := hr.units
    have sc := sc__law_made
    exact (psd_cons (psd_set 2 sc.nd (pd_cal (ok__law_gcd T) none (takes_of rfl rfl rfl rfl) hr (by decide) (by rfl) (pva_cons (PEd.v (pd_var 0)) (pva_cons (PEd.v (pd_var 1)) pva_nil))))
  (psd_cons (psd_if (ptd_lt (pd_var 1) pd_int)
  (psd_one (psd_set 2 sc.nd (pd_neg (pd_var 2))))
  psd_nil)
  (psd_one (psd_ret (pd_tup (pad_cons (pd_fdiv (pd_var 0) (pd_var 2)) (pad_cons (pd_fdiv (pd_var 1) (pd_var 2)) pad_nil))))))))
/-! _law_is_int -/
def b__law_is_int : MS :=
  (rtS (anD (isiM "int" (getV 0)) (ntD (isiM "bool" (getV 0)))))
def r__law_is_int : M D := fnM 1 1 b__law_is_int
theorem ok__law_is_int (T : Txt K mg) : Def P w K mg base "_law_is_int" ["value"] [] 1 (spD K mg 1 r__law_is_int) :=
  def_ok T.f__law_is_int sc__law_is_int (fun f cdv A outer s H E S hr => by
    have hu := hr.units
    have sc := sc__law_is_int
    exact (psd_one (psd_ret (pd_and (pd_isi (T := "int") (pd_var 0) (by rfl) T.z_isinstance (by rfl) T.z_int (by decide +kernel)) (pd_one (pd_not (pd_isi (T := "bool") (pd_var 0) (by rfl) T.z_isinstance (by rfl) T.z_bool (by decide +kernel))))))))
/-! _law_is_tuple -/
def b__law_is_tuple : MS :=
  (rtS (anD (isiM "tuple" (getV 0)) (cmD eqD (bltD lenD (csD (getV 0) nlD)) (getV 1))))
def r__law_is_tuple : M D := fnM 2 2 b__law_is_tuple
theorem ok__law_is_tuple (T : Txt K mg) : Def P w K mg base "_law_is_tuple" ["value", "size"] [] 1 (spD K mg 2 r__law_is_tuple) :=
  def_ok T.f__law_is_tuple sc__law_is_tuple (fun f cdv A outer s H E S hr => by
    have hu := hr.units
    have sc := sc__law_is_tuple
    exact (psd_one (psd_ret (pd_and (pd_isi (T := "tuple") (pd_var 0) (by rfl) T.z_isinstance (by rfl) T.z_tuple (by decide +kernel)) (pd_one (pd_eq hu (pd_callB call_len len_ok (by rfl) T.z_len (by decide +kernel) (pad_cons (pd_var 0) pad_nil)) (pd_var 1)))))))
/-! _law_is_fraction -/
def b__law_is_fraction : MS :=
  (seqS (ifS (orT (ntT (tsT (cal 2 (r__law_is_tuple) none (csV (vlV (getV 0)) (csV (vlV (cD (.int 2))) nlV))))) (orT (ntT (tsT (cal 1 (r__law_is_int) none (csV (vlV (opD idxD (getV 0) (cD (.int 0)))) nlV)))) (ntT (tsT (cal 1 (r__law_is_int) none (csV (vlV (opD idxD (getV 0) (cD (.int 1)))) nlV))))))
  (rtS (cD (.bl false)))
  nxS)
  (rtS (anD (cmD gtD (opD idxD (getV 0) (cD (.int 1))) (cD (.int 0))) (cmD eqD (cal 2 (r__law_gcd) none (csV (vlV (opD idxD (getV 0) (cD (.int 0)))) (csV (vlV (opD idxD (getV 0) (cD (.int 1)))) nlV))) (cD (.int 1))))))
def r__law_is_fraction : M D := fnM 1 1 b__law_is_fraction
theorem ok__law_is_fraction (T : Txt K mg) : Def P w K mg base "_law_is_fraction" ["value"] [] 2 (spD K mg 1 r__law_is_fraction) :=
  def_ok T.f__law_is_fraction sc__law_is_fraction (fun f cdv A outer s H E S hr => by
    have hu := hr.units
    have sc := sc__law_is_fraction
    exact (psd_cons (psd_if (PWd.pt (pwd_or (ptd_not (ptd_val (pd_cal (ok__law_is_tuple T) none (takes_of rfl rfl rfl rfl) hr (by decide) (by rfl) (pva_cons (PEd.v (pd_var 0)) (pva_cons (PEd.v pd_int) pva_nil))))) (pwd_or (ptd_not (ptd_val (pd_cal (ok__law_is_int T) none (takes_of rfl rfl rfl rfl) hr (by decide) (by rfl) (pva_cons (PEd.v (pd_ix (pd_var 0) pd_int)) pva_nil)))) (pwd_or1 (ptd_not (ptd_val (pd_cal (ok__law_is_int T) none (takes_of rfl rfl rfl rfl) hr (by decide) (by rfl) (pva_cons (PEd.v (pd_ix (pd_var 0) pd_int)) pva_nil))))))))
  (psd_one (psd_ret pd_bl))
  psd_nil)
  (psd_one (psd_ret (pd_and (pd_gt (pd_ix (pd_var 0) pd_int) pd_int) (pd_one (pd_eq hu (pd_cal (ok__law_gcd T) none (takes_of rfl rfl rfl rfl) hr (by decide) (by rfl) (pva_cons (PEd.v (pd_ix (pd_var 0) pd_int)) (pva_cons (PEd.v (pd_ix (pd_var 0) pd_int)) pva_nil))) pd_int)))))))
/-! _law_great -/
def b__law_great : MS :=
  (seqS (stS 2 (cal 2 (r__law_one_of) (some 0) (csV (borV 0) (csV (vlV (getV 1)) nlV))))
  (seqS (stS 3 (opD modD (bltD intD (csD (opD addD (opD addD (opD mulD (cal 2 (r__law_next) (some 0) (csV (borV 0) (csV (vlV (opD powD (cD (.int 10)) (cD (.int 10)))) nlV))) (opD powD (cD (.int 10)) (cD (.int 20)))) (opD mulD (cal 2 (r__law_next) (some 0) (csV (borV 0) (csV (vlV (opD powD (cD (.int 10)) (cD (.int 10)))) nlV))) (opD powD (cD (.int 10)) (cD (.int 10))))) (cal 2 (r__law_next) (some 0) (csV (borV 0) (csV (vlV (opD powD (cD (.int 10)) (cD (.int 10)))) nlV)))) nlD)) (getV 2)))
  (seqS (stS 4 (opD addD (cD (.int 1)) (opD modD (bltD intD (csD (opD addD (opD addD (opD mulD (cal 2 (r__law_next) (some 0) (csV (borV 0) (csV (vlV (opD powD (cD (.int 10)) (cD (.int 10)))) nlV))) (opD powD (cD (.int 10)) (cD (.int 20)))) (opD mulD (cal 2 (r__law_next) (some 0) (csV (borV 0) (csV (vlV (opD powD (cD (.int 10)) (cD (.int 10)))) nlV))) (opD powD (cD (.int 10)) (cD (.int 10))))) (cal 2 (r__law_next) (some 0) (csV (borV 0) (csV (vlV (opD powD (cD (.int 10)) (cD (.int 10)))) nlV)))) nlD)) (opD subD (getV 2) (cD (.int 1))))))
  (rtS (cal 2 (r__law_made) none (csV (vlV (ifD (cmT eqD (cal 2 (r__law_next) (some 0) (csV (borV 0) (csV (vlV (cD (.int 2))) nlV))) (cD (.int 0))) (getV 3) (unD negD (getV 3)))) (csV (vlV (ifD (cmT gtD (cal 2 (r__law_next) (some 0) (csV (borV 0) (csV (vlV (cD (.int 3))) nlV))) (cD (.int 0))) (getV 4) (cD (.int 1)))) nlV)))))))
def r__law_great : M D := fnM 2 5 b__law_great
theorem ok__law_great (T : Txt K mg) : Def P w K mg base "_law_great" ["pool", "sizes"] [] 3 (spD K mg 2 r__law_great) :=
  def_ok T.f__law_great sc__law_great (fun f cdv A outer s H E S hr => by
    have hu := hr.units
    have sc := sc__law_great
    exact (psd_cons (psd_set 2 sc.nd (pd_cal (ok__law_one_of T) (some 0) (takes_of rfl rfl rfl rfl) hr (by decide) (by rfl) (pva_cons (pv_own 0) (pva_cons (PEd.v (pd_var 1)) pva_nil))))
  (psd_cons (psd_set 3 sc.nd (pd_mod (pd_callTy call_int1 int_ok (by rfl) T.z_int (by decide +kernel) (pad_cons (pd_add (pd_add (pd_mul (pd_cal (ok__law_next T) (some 0) (takes_of rfl rfl rfl rfl) hr (by decide) (by rfl) (pva_cons (pv_own 0) (pva_cons (PEd.v (pd_pow pd_int pd_int)) pva_nil))) (pd_pow pd_int pd_int)) (pd_mul (pd_cal (ok__law_next T) (some 0) (takes_of rfl rfl rfl rfl) hr (by decide) (by rfl) (pva_cons (pv_own 0) (pva_cons (PEd.v (pd_pow pd_int pd_int)) pva_nil))) (pd_pow pd_int pd_int))) (pd_cal (ok__law_next T) (some 0) (takes_of rfl rfl rfl rfl) hr (by decide) (by rfl) (pva_cons (pv_own 0) (pva_cons (PEd.v (pd_pow pd_int pd_int)) pva_nil)))) pad_nil)) (pd_var 2)))
  (psd_cons (psd_set 4 sc.nd (pd_add pd_int (pd_mod (pd_callTy call_int1 int_ok (by rfl) T.z_int (by decide +kernel) (pad_cons (pd_add (pd_add (pd_mul (pd_cal (ok__law_next T) (some 0) (takes_of rfl rfl rfl rfl) hr (by decide) (by rfl) (pva_cons (pv_own 0) (pva_cons (PEd.v (pd_pow pd_int pd_int)) pva_nil))) (pd_pow pd_int pd_int)) (pd_mul (pd_cal (ok__law_next T) (some 0) (takes_of rfl rfl rfl rfl) hr (by decide) (by rfl) (pva_cons (pv_own 0) (pva_cons (PEd.v (pd_pow pd_int pd_int)) pva_nil))) (pd_pow pd_int pd_int))) (pd_cal (ok__law_next T) (some 0) (takes_of rfl rfl rfl rfl) hr (by decide) (by rfl) (pva_cons (pv_own 0) (pva_cons (PEd.v (pd_pow pd_int pd_int)) pva_nil)))) pad_nil)) (pd_sub (pd_var 2) pd_int))))
  (psd_one (psd_ret (pd_cal (ok__law_made T) none (takes_of rfl rfl rfl rfl) hr (by decide) (by rfl) (pva_cons (PEd.v (pd_if (ptd_eq hu (pd_cal (ok__law_next T) (some 0) (takes_of rfl rfl rfl rfl) hr (by decide) (by rfl) (pva_cons (pv_own 0) (pva_cons (PEd.v pd_int) pva_nil))) pd_int) (pd_var 3) (pd_neg (pd_var 3)))) (pva_cons (PEd.v (pd_if (ptd_gt (pd_cal (ok__law_next T) (some 0) (takes_of rfl rfl rfl rfl) hr (by decide) (by rfl) (pva_cons (pv_own 0) (pva_cons (PEd.v pd_int) pva_nil))) pd_int) (pd_var 4) pd_int)) pva_nil)))))))))
/-! _law_refused -/
def b__law_refused_t1 : MS :=
  (exS (ifD (cmT eqD (getV 0) (cD (.int 0))) (cal 2 (r_fraction) none (csV (vlV (getV 1)) (csV (vlV (getV 2)) nlV))) (cal 2 (r_added) none (csV (vlV (getV 1)) (csV (vlV (getV 2)) nlV)))))
def b__law_refused_t2 : MS :=
  (exS (ifD (cmT eqD (getV 0) (cD (.int 2))) (calK 2 1 1 (r_taken_off) none (csV (vlV (getV 1)) nlV) (csV (vlV (getV 2)) nlV)) (calK0 2 2 (r_multiplied) none (csV (vlV (getV 1)) (csV (vlV (getV 2)) nlV)))))
def b__law_refused_t3 : MS :=
  (exS (ifD (cmT eqD (getV 0) (cD (.int 4))) (cal 2 (r_divided) none (csV (vlV (getV 1)) (csV (vlV (getV 2)) nlV))) (cal 2 (r_is_less) none (csV (vlV (getV 1)) (csV (vlV (getV 2)) nlV)))))
def b__law_refused_e4 : MS :=
  (exS (ifD (cmT eqD (getV 0) (cD (.int 6))) (cal 1 (r_floor_of) none (csV (vlV (getV 1)) nlV)) (calK0 1 1 (r_ceiling_of) none (csV (vlV (getV 1)) nlV))))
def b__law_refused_e5 : MS :=
  (ifS (cmT ltD (getV 0) (cD (.int 6)))
  b__law_refused_t3
  b__law_refused_e4)
def b__law_refused_e6 : MS :=
  (ifS (cmT ltD (getV 0) (cD (.int 4)))
  b__law_refused_t2
  b__law_refused_e5)
def b__law_refused_y7 : MS :=
  (ifS (cmT ltD (getV 0) (cD (.int 2)))
  b__law_refused_t1
  b__law_refused_e6)
def b__law_refused : MS :=
  (seqS (stS 3 (cD (.bl false)))
  (seqS (tryS (clOf exm_InvalidFraction) 4 b__law_refused_y7 (fun c => (stS 3 (anD (kitT kit_BoundError c) (anD (kitT kit_ValueError c) (ntD (kitT kit_InvalidPoint c)))))))
  (rtS (getV 3))))
def r__law_refused : M D := fnM 3 5 b__law_refused
theorem ok__law_refused (T : Txt K mg) : Def P w K mg base "_law_refused" ["which", "one", "other"] [] 6 (spD K mg 3 r__law_refused) :=
  def_ok T.f__law_refused sc__law_refused (fun f cdv A outer s H E S hr => by
    have hu := hr.units
    have sc := sc__law_refused
    exact (psd_cons (psd_set 3 sc.nd pd_bl)
  (psd_cons (psd_tryX 4 exm_InvalidFraction (fun c => (stS 3 (anD (kitT kit_BoundError c) (anD (kitT kit_ValueError c) (ntD (kitT kit_InvalidPoint c)))))) rfl rfl sc.nd (takes_of rfl rfl rfl rfl) T.exm_InvalidFraction T.x_InvalidFraction (fun W1 pn1 xe1 tkt hpt => (psd_one (psd_if (ptd_lt (pd_var 0) pd_int)
  (psd_one (psd_expr (pd_if (ptd_eq hu (pd_var 0) pd_int) (pd_cal (ok_fraction T) none tkt hr (by decide) (by rfl) (pva_cons (PEd.v (pd_var 1)) (pva_cons (PEd.v (pd_var 2)) pva_nil))) (pd_cal (ok_added T) none tkt hr (by decide) (by rfl) (pva_cons (PEd.v (pd_var 1)) (pva_cons (PEd.v (pd_var 2)) pva_nil))))))
  (psd_one (psd_if (ptd_lt (pd_var 0) pd_int)
  (psd_one (psd_expr (pd_if (ptd_eq hu (pd_var 0) pd_int) (pd_calK (ok_taken_off T) 1 none tkt hr (by decide) (by rfl) (pva_cons (PEd.v (pd_var 1)) pva_nil) (pvk_cons (PEd.v (pd_var 2)) pvk_nil)) (pd_calK0 (ok_multiplied T) none tkt hr (by decide) (by rfl) (pvk_cons (PEd.v (pd_var 1)) (pvk_cons (PEd.v (pd_var 2)) pvk_nil))))))
  (psd_one (psd_if (ptd_lt (pd_var 0) pd_int)
  (psd_one (psd_expr (pd_if (ptd_eq hu (pd_var 0) pd_int) (pd_cal (ok_divided T) none tkt hr (by decide) (by rfl) (pva_cons (PEd.v (pd_var 1)) (pva_cons (PEd.v (pd_var 2)) pva_nil))) (pd_cal (ok_is_less T) none tkt hr (by decide) (by rfl) (pva_cons (PEd.v (pd_var 1)) (pva_cons (PEd.v (pd_var 2)) pva_nil))))))
  (psd_one (psd_expr (pd_if (ptd_eq hu (pd_var 0) pd_int) (pd_cal (ok_floor_of T) none tkt hr (by decide) (by rfl) (pva_cons (PEd.v (pd_var 1)) pva_nil)) (pd_calK0 (ok_ceiling_of T) none tkt hr (by decide) (by rfl) (pvk_cons (PEd.v (pd_var 1)) pvk_nil))))))))))))
  (fun a1 oe1 pn1 c D1 hz1 hf1 hm1 => (pxs_set 3 sc.nd (px_and (px_kit kit_BoundError T.kit_BoundError hm1 hz1 hf1 T.z_isinstance) (px_and (px_kit kit_ValueError T.kit_ValueError hm1 hz1 hf1 T.z_isinstance) (px_one (px_not (px_kit kit_InvalidPoint T.kit_InvalidPoint hm1 hz1 hf1 T.z_isinstance))))))))
  (psd_one (psd_ret (pd_var 3))))))
/-! _law_reckoned -/
def b__law_reckoned : MS :=
  (seqS (stS 2 (lsD (csD (cal 2 (r_added) none (csV (vlV (getV 0)) (csV (vlV (getV 1)) nlV))) (csD (cal 2 (r_taken_off) none (csV (vlV (getV 0)) (csV (vlV (getV 1)) nlV))) (csD (cal 2 (r_multiplied) none (csV (vlV (getV 0)) (csV (vlV (getV 1)) nlV))) (csD (cal 2 (r_is_less) none (csV (vlV (getV 0)) (csV (vlV (getV 1)) nlV))) (csD (cal 2 (r_is_less) none (csV (vlV (getV 1)) (csV (vlV (getV 0)) nlV))) (csD (cal 2 (r_is_less) none (csV (vlV (getV 0)) (csV (vlV (getV 0)) nlV))) nlD))))))))
  (rtS (opD addD (getV 2) (lsD (csD (cal 1 (r_floor_of) none (csV (vlV (getV 0)) nlV)) (csD (cal 1 (r_ceiling_of) none (csV (vlV (getV 0)) nlV)) (csD (cal 2 (r_fraction) none (csV (vlV (opD idxD (getV 0) (cD (.int 0)))) (csV (vlV (opD idxD (getV 0) (cD (.int 1)))) nlV))) (csD (cal 1 (r_is_fraction) none (csV (vlV (getV 0)) nlV)) (csD (cal 1 (r_is_fraction) none (csV (vlV (getV 1)) nlV)) nlD)))))))))
def r__law_reckoned : M D := fnM 2 3 b__law_reckoned
theorem ok__law_reckoned (T : Txt K mg) : Def P w K mg base "_law_reckoned" ["one", "other"] [] 6 (spD K mg 2 r__law_reckoned) :=
  def_ok T.f__law_reckoned sc__law_reckoned (fun f cdv A outer s H E S hr => by
    have hu := hr.units
    have sc := sc__law_reckoned
    exact (psd_cons (psd_set 2 sc.nd ((pf_lst (x1 := 0) (pad_cons (pd_cal (ok_added T) none (takes_of rfl rfl rfl rfl) hr (by decide) (by rfl) (pva_cons (PEd.v (pd_var 0)) (pva_cons (PEd.v (pd_var 1)) pva_nil))) (pad_cons (pd_cal (ok_taken_off T) none (takes_of rfl rfl rfl rfl) hr (by decide) (by rfl) (pva_cons (PEd.v (pd_var 0)) (pva_cons (PEd.v (pd_var 1)) pva_nil))) (pad_cons (pd_cal (ok_multiplied T) none (takes_of rfl rfl rfl rfl) hr (by decide) (by rfl) (pva_cons (PEd.v (pd_var 0)) (pva_cons (PEd.v (pd_var 1)) pva_nil))) (pad_cons (pd_cal (ok_is_less T) none (takes_of rfl rfl rfl rfl) hr (by decide) (by rfl) (pva_cons (PEd.v (pd_var 0)) (pva_cons (PEd.v (pd_var 1)) pva_nil))) (pad_cons (pd_cal (ok_is_less T) none (takes_of rfl rfl rfl rfl) hr (by decide) (by rfl) (pva_cons (PEd.v (pd_var 1)) (pva_cons (PEd.v (pd_var 0)) pva_nil))) (pad_cons (pd_cal (ok_is_less T) none (takes_of rfl rfl rfl rfl) hr (by decide) (by rfl) (pva_cons (PEd.v (pd_var 0)) (pva_cons (PEd.v (pd_var 0)) pva_nil))) pad_nil)))))))).plain)
  (psd_one (psd_ret (pd_add (pd_var 2) ((pf_lst (x1 := 0) (pad_cons (pd_cal (ok_floor_of T) none (takes_of rfl rfl rfl rfl) hr (by decide) (by rfl) (pva_cons (PEd.v (pd_var 0)) pva_nil)) (pad_cons (pd_cal (ok_ceiling_of T) none (takes_of rfl rfl rfl rfl) hr (by decide) (by rfl) (pva_cons (PEd.v (pd_var 0)) pva_nil)) (pad_cons (pd_cal (ok_fraction T) none (takes_of rfl rfl rfl rfl) hr (by decide) (by rfl) (pva_cons (PEd.v (pd_ix (pd_var 0) pd_int)) (pva_cons (PEd.v (pd_ix (pd_var 0) pd_int)) pva_nil))) (pad_cons (pd_cal (ok_is_fraction T) none (takes_of rfl rfl rfl rfl) hr (by decide) (by rfl) (pva_cons (PEd.v (pd_var 0)) pva_nil)) (pad_cons (pd_cal (ok_is_fraction T) none (takes_of rfl rfl rfl rfl) hr (by decide) (by rfl) (pva_cons (PEd.v (pd_var 1)) pva_nil)) pad_nil))))))).plain)))))
/-! _law_due -/
def b__law_due : MS :=
  (seqS (asS (tpD (csD (getV 0) (csD (getV 1) nlD))) (tgT 2 (tgC (tgT 2 (tgC (setS 2) (tgC (setS 3) tgN))) (tgC (tgT 2 (tgC (setS 4) (tgC (setS 5) tgN))) tgN))))
  (seqS (stS 6 (lsD (csD (cal 2 (r__law_made) none (csV (vlV (opD addD (opD mulD (getV 2) (getV 5)) (opD mulD (getV 4) (getV 3)))) (csV (vlV (opD mulD (getV 3) (getV 5))) nlV))) (csD (cal 2 (r__law_made) none (csV (vlV (opD subD (opD mulD (getV 2) (getV 5)) (opD mulD (getV 4) (getV 3)))) (csV (vlV (opD mulD (getV 3) (getV 5))) nlV))) (csD (cal 2 (r__law_made) none (csV (vlV (opD mulD (getV 2) (getV 4))) (csV (vlV (opD mulD (getV 3) (getV 5))) nlV))) (csD (cmD ltD (opD mulD (getV 2) (getV 5)) (opD mulD (getV 4) (getV 3))) (csD (cmD ltD (opD mulD (getV 4) (getV 3)) (opD mulD (getV 2) (getV 5))) (csD (cD (.bl false)) nlD))))))))
  (rtS (opD addD (getV 6) (lsD (csD (opD fdivD (getV 2) (getV 3)) (csD (unD negD (opD fdivD (unD negD (getV 2)) (getV 3))) (csD (getV 0) (csD (cD (.bl true)) (csD (cD (.bl true)) nlD))))))))))
def r__law_due : M D := fnM 2 7 b__law_due
theorem ok__law_due (T : Txt K mg) : Def P w K mg base "_law_due" ["one", "other"] [] 3 (spD K mg 2 r__law_due) :=
  def_ok T.f__law_due sc__law_due (fun f cdv A outer s H E S hr => by
    have hu := hr.units
    have sc := sc__law_due
    exact (psd_cons (psd_asg (pd_tup (pad_cons (pd_var 0) (pad_cons (pd_var 1) pad_nil))) (pgd_tup (n := 2) rfl (pgsd_cons (pgd_tup (n := 2) rfl (pgsd_cons (pgd_name 2 sc.nd) (pgsd_cons (pgd_name 3 sc.nd) pgsd_nil))) (pgsd_cons (pgd_tup (n := 2) rfl (pgsd_cons (pgd_name 4 sc.nd) (pgsd_cons (pgd_name 5 sc.nd) pgsd_nil))) pgsd_nil))))
  (psd_cons (psd_set 6 sc.nd ((pf_lst (x1 := 0) (pad_cons (pd_cal (ok__law_made T) none (takes_of rfl rfl rfl rfl) hr (by decide) (by rfl) (pva_cons (PEd.v (pd_add (pd_mul (pd_var 2) (pd_var 5)) (pd_mul (pd_var 4) (pd_var 3)))) (pva_cons (PEd.v (pd_mul (pd_var 3) (pd_var 5))) pva_nil))) (pad_cons (pd_cal (ok__law_made T) none (takes_of rfl rfl rfl rfl) hr (by decide) (by rfl) (pva_cons (PEd.v (pd_sub (pd_mul (pd_var 2) (pd_var 5)) (pd_mul (pd_var 4) (pd_var 3)))) (pva_cons (PEd.v (pd_mul (pd_var 3) (pd_var 5))) pva_nil))) (pad_cons (pd_cal (ok__law_made T) none (takes_of rfl rfl rfl rfl) hr (by decide) (by rfl) (pva_cons (PEd.v (pd_mul (pd_var 2) (pd_var 4))) (pva_cons (PEd.v (pd_mul (pd_var 3) (pd_var 5))) pva_nil))) (pad_cons (pd_lt (pd_mul (pd_var 2) (pd_var 5)) (pd_mul (pd_var 4) (pd_var 3))) (pad_cons (pd_lt (pd_mul (pd_var 4) (pd_var 3)) (pd_mul (pd_var 2) (pd_var 5))) (pad_cons pd_bl pad_nil)))))))).plain)
  (psd_one (psd_ret (pd_add (pd_var 6) ((pf_lst (x1 := 0) (pad_cons (pd_fdiv (pd_var 2) (pd_var 3)) (pad_cons (pd_neg (pd_fdiv (pd_neg (pd_var 2)) (pd_var 3))) (pad_cons (pd_var 0) (pad_cons pd_bl (pad_cons pd_bl pad_nil))))))).plain))))))
/-! law -/
def b_law_t1 : MS :=
  (stS 6 (ifD (anT (cmT ltD (opD idxD (getV 5) (cD (.int 1))) (opD powD (cD (.int 10)) (cD (.int 14)))) (cmT ltD (bltD absD (csD (opD idxD (getV 5) (cD (.int 0))) nlD)) (opD powD (cD (.int 10)) (cD (.int 14))))) (cal 2 (r__law_made) none (csV (vlV (opD addD (opD mulD (opD idxD (getV 5) (cD (.int 0))) (opD idxD (getV 5) (cD (.int 1)))) (cD (.int 1)))) (csV (vlV (opD mulD (opD idxD (getV 5) (cD (.int 1))) (opD idxD (getV 5) (cD (.int 1))))) nlV))) (getV 5)))
def b_law_t2 : MS :=
  (stS 6 (tpD (csD (unD negD (opD idxD (getV 5) (cD (.int 0)))) (csD (opD idxD (getV 5) (cD (.int 1))) nlD))))
def b_law_t3 : MS :=
  (seqS (stS 8 (cal 2 (r_divided) none (csV (vlV (getV 5)) (csV (vlV (getV 6)) nlV))))
  (ifS (orT (ntT (tsT (cal 2 (r__law_same 12) none (csV (vlV (getV 8)) (csV (vlV (cal 2 (r__law_made) none (csV (vlV (opD mulD (opD idxD (getV 5) (cD (.int 0))) (opD idxD (getV 6) (cD (.int 1))))) (csV (vlV (opD mulD (opD idxD (getV 5) (cD (.int 1))) (opD idxD (getV 6) (cD (.int 0))))) nlV)))) nlV))))) (ntT (tsT (cal 2 (r__law_same 12) none (csV (vlV (cal 2 (r_multiplied) none (csV (vlV (getV 8)) (csV (vlV (getV 6)) nlV)))) (csV (vlV (getV 5)) nlV))))))
  (rtS (cD (.bl false)))
  nxS))
def b_law_e4 : MS :=
  (ifS (ntT (tsT (cal 3 (r__law_refused) none (csV (vlV (cD (.int 4))) (csV (vlV (getV 5)) (csV (vlV (getV 6)) nlV))))))
  (rtS (cD (.bl false)))
  nxS)
def b_law_f5 : MS :=
  (ifS (anT (ntT (tsT (cal 1 (r__law_is_fraction) none (csV (vlV (getV 14)) nlV)))) (ntT (anT (tsT (cal 3 (r__law_refused) none (csV (vlV (getV 15)) (csV (vlV (getV 14)) (csV (vlV (getV 6)) nlV))))) (orT (cmT gtD (getV 15) (cD (.int 5))) (tsT (cal 3 (r__law_refused) none (csV (vlV (getV 15)) (csV (vlV (getV 5)) (csV (vlV (getV 14)) nlV)))))))))
  (rtS (cD (.bl false)))
  nxS)
def b_law_f6 : MS :=
  (seqS (stS 13 (lsD (csD (tpD (csD (opD mulD (opD idxD (getV 5) (cD (.int 0))) (cD (.int 2))) (csD (opD mulD (opD idxD (getV 5) (cD (.int 1))) (cD (.int 2))) nlD))) (csD (tpD (csD (opD idxD (getV 5) (cD (.int 0))) (csD (unD negD (opD idxD (getV 5) (cD (.int 1)))) nlD))) (csD (opD idxD (getV 5) (cD (.int 0))) (csD (lsD (csD (opD idxD (getV 5) (cD (.int 0))) (csD (opD idxD (getV 5) (cD (.int 1))) nlD))) (csD (tpD (csD (opD idxD (getV 5) (cD (.int 0))) (csD (opD idxD (getV 5) (cD (.int 1))) (csD (cD (.int 1)) nlD)))) (csD (tpD (csD (getV 5) (csD (getV 6) nlD))) nlD))))))))
  (seqS (stS 14 (cal 3 (r__law_bent 12) (some 0) (csV (borV 4) (csV (vlV (getV 5)) (csV (vlV (opD addD (getV 1) (getV 13))) nlV)))))
  (seqS (ifS (ntT (tsT (cal 2 (r__law_same 12) none (csV (vlV (cal 1 (r_is_fraction) none (csV (vlV (getV 14)) nlV))) (csV (vlV (cal 1 (r__law_is_fraction) none (csV (vlV (getV 14)) nlV))) nlV)))))
  (rtS (cD (.bl false)))
  nxS)
  (seqS (foS (rg2 (csD (cD (.int 1)) (csD (cD (.int 8)) nlD))) (setS 15) b_law_f5)
  (ifS (anT (ntT (tsT (cal 1 (r__law_is_int) none (csV (vlV (getV 14)) nlV)))) (ntT (anT (tsT (cal 3 (r__law_refused) none (csV (vlV (cD (.int 0))) (csV (vlV (getV 14)) (csV (vlV (cD (.int 3))) nlV))))) (tsT (cal 3 (r__law_refused) none (csV (vlV (cD (.int 0))) (csV (vlV (cD (.int 3))) (csV (vlV (getV 14)) nlV))))))))
  (rtS (cD (.bl false)))
  nxS)))))
def b_law_k7 : MS :=
  (foS (rg1 (csD (cD (.int 6)) nlD)) (setS 12) b_law_f6)
def b_law_k8 : MS :=
  (seqS (paS 10 11 (csD (opD idxD (cal 2 (r__law_great) (some 0) (csV (borV 4) (csV (vlV (getV 2)) nlV))) (cD (.int 0))) (csD (cal 2 (r__law_one_of) (some 0) (csV (borV 4) (csV (vlV (lsD (csD (cD (.int 1)) (csD (unD negD (cD (.int 1))) (csD (cD (.int 2)) (csD (unD negD (cD (.int 6))) (csD (cD (.int 12)) (csD (opD idxD (getV 5) (cD (.int 1))) (csD (opD mulD (unD negD (opD idxD (getV 5) (cD (.int 1)))) (cD (.int 3))) (csD (opD mulD (opD idxD (getV 6) (cD (.int 1))) (cD (.int 4))) nlD)))))))))) nlV))) nlD)))
  (seqS (ifS (orT (ntT (tsT (cal 2 (r__law_same 12) none (csV (vlV (lsD (csD (cal 2 (r_fraction) none (csV (vlV (getV 10)) (csV (vlV (getV 11)) nlV))) (csD (calK0 2 2 (r_fraction) none (csV (vlV (opD mulD (getV 10) (cD (.int 6)))) (csV (vlV (opD mulD (getV 11) (cD (.int 6)))) nlV))) nlD)))) (csV (vlV (opD mulD (lsD (csD (cal 2 (r__law_made) none (csV (vlV (getV 10)) (csV (vlV (getV 11)) nlV))) nlD)) (cD (.int 2)))) nlV))))) (ntT (tsT (cal 3 (r__law_refused) none (csV (vlV (cD (.int 0))) (csV (vlV (getV 10)) (csV (vlV (cD (.int 0))) nlV)))))))
  (rtS (cD (.bl false)))
  nxS)
  b_law_k7))
def b_law_k9 : MS :=
  (seqS (stS 9 (cal 2 (r_added) none (csV (vlV (getV 5)) (csV (vlV (getV 6)) nlV))))
  (seqS (ifS (ntT (tsT (cal 2 (r__law_same 12) none (csV (vlV (lsD (csD (cal 2 (r_taken_off) none (csV (vlV (getV 9)) (csV (vlV (getV 6)) nlV))) (csD (cal 2 (r_added) none (csV (vlV (getV 6)) (csV (vlV (getV 5)) nlV))) (csD (cal 2 (r_is_less) none (csV (vlV (getV 5)) (csV (vlV (getV 9)) nlV))) nlD))))) (csV (vlV (lsD (csD (getV 5) (csD (getV 9) (csD (cmD gtD (opD idxD (getV 6) (cD (.int 0))) (cD (.int 0))) nlD))))) nlV)))))
  (rtS (cD (.bl false)))
  nxS)
  b_law_k8))
def b_law_k10 : MS :=
  (seqS (ifS (cmT neD (opD idxD (getV 6) (cD (.int 0))) (cD (.int 0)))
  b_law_t3
  b_law_e4)
  b_law_k9)
def b_law_k11 : MS :=
  (seqS (ifS (ntT (tsT (cal 2 (r__law_same 12) none (csV (vlV (cal 2 (r__law_reckoned) none (csV (vlV (getV 5)) (csV (vlV (getV 6)) nlV)))) (csV (vlV (cal 2 (r__law_due) none (csV (vlV (getV 5)) (csV (vlV (getV 6)) nlV)))) nlV)))))
  (rtS (cD (.bl false)))
  nxS)
  b_law_k10)
def b_law_k12 : MS :=
  (seqS (ifS (cmT eqD (getV 7) (cD (.int 1)))
  b_law_t2
  nxS)
  b_law_k11)
def b_law_f13 : MS :=
  (seqS (owS 4 (calF 1 (r__law_pool) none (csV (vlV (getV 3)) nlV)))
  (seqS (paS 5 6 (csD (cal 2 (r__law_great) (some 0) (csV (borV 4) (csV (vlV (getV 2)) nlV))) (csD (cal 2 (r__law_great) (some 0) (csV (borV 4) (csV (vlV (getV 2)) nlV))) nlD)))
  (seqS (stS 7 (cal 2 (r__law_next) (some 0) (csV (borV 4) (csV (vlV (cD (.int 6))) nlV))))
  (seqS (ifS (cmT eqD (getV 7) (cD (.int 0)))
  b_law_t1
  nxS)
  b_law_k12))))
def b_law : MS :=
  (seqS (stS 1 (cal0 (r__law_odd)))
  (seqS (stS 2 (lsD (csD (cD (.int 10)) (csD (cD (.int 10)) (csD (cD (.int 1000)) (csD (opD powD (cD (.int 10)) (cD (.int 9))) (csD (opD powD (cD (.int 10)) (cD (.int 28))) nlD)))))))
  (seqS (foS (itD (slD (opD addD (lsD (csD (cD (.int 977)) nlD)) (getV 0)) noI (smI (cD (.int 8))))) (setS 3) b_law_f13)
  (rtS (cD (.bl true))))))
def r_law : M D := fnM 1 16 b_law
theorem ok_law (T : Txt K mg) : Def P w K mg base "law" ["script"] [] 16 (spD K mg 1 r_law) :=
  def_ok T.f_law sc_law (fun f cdv A outer s H E S hr => by
    have hu := hr.units
    have sc := sc_law
    exact (psd_cons (psd_set 1 sc.nd (pd_cal0 (ok__law_odd T) hr (by decide) (by rfl)))
  (psd_cons (psd_set 2 sc.nd ((pf_lst (x1 := 0) (pad_cons pd_int (pad_cons pd_int (pad_cons pd_int (pad_cons (pd_pow pd_int pd_int) (pad_cons (pd_pow pd_int pd_int) pad_nil))))))).plain)
  (psd_cons (psd_for (passes_of rfl) rfl (pid_seq (pd_slice (pd_add ((pf_lst (x1 := 0) (pad_cons pd_int pad_nil))).plain (pd_var 0)) pod_none (pod_some pd_int))) (pgd_name 3 sc.nd)
  (psd_cons (psd_own 4 sc.nd (pf_cal (ok__law_pool T) none (takes_of rfl rfl rfl rfl) hr (by decide) (by rfl) (pva_cons (PEd.v (pd_var 3)) pva_nil)))
  (psd_cons (psd_par 5 6 rfl sc.nd (pad_cons (pd_cal (ok__law_great T) (some 0) (takes_of rfl rfl rfl rfl) hr (by decide) (by rfl) (pva_cons (pv_own 4) (pva_cons (PEd.v (pd_var 2)) pva_nil))) (pad_cons (pd_cal (ok__law_great T) (some 0) (takes_of rfl rfl rfl rfl) hr (by decide) (by rfl) (pva_cons (pv_own 4) (pva_cons (PEd.v (pd_var 2)) pva_nil))) pad_nil)))
  (psd_cons (psd_set 7 sc.nd (pd_cal (ok__law_next T) (some 0) (takes_of rfl rfl rfl rfl) hr (by decide) (by rfl) (pva_cons (pv_own 4) (pva_cons (PEd.v pd_int) pva_nil))))
  (psd_cons (psd_if (ptd_eq hu (pd_var 7) pd_int)
  (psd_one (psd_set 6 sc.nd (pd_if (PWd.pt (pwd_and (ptd_lt (pd_ix (pd_var 5) pd_int) (pd_pow pd_int pd_int)) (pwd_and1 (ptd_lt (pd_callB call_abs abs_ok (by rfl) T.z_abs (by decide +kernel) (pad_cons (pd_ix (pd_var 5) pd_int) pad_nil)) (pd_pow pd_int pd_int))))) (pd_cal (ok__law_made T) none (takes_of rfl rfl rfl rfl) hr (by decide) (by rfl) (pva_cons (PEd.v (pd_add (pd_mul (pd_ix (pd_var 5) pd_int) (pd_ix (pd_var 5) pd_int)) pd_int)) (pva_cons (PEd.v (pd_mul (pd_ix (pd_var 5) pd_int) (pd_ix (pd_var 5) pd_int))) pva_nil))) (pd_var 5))))
  psd_nil)
  (psd_cons (psd_if (ptd_eq hu (pd_var 7) pd_int)
  (psd_one (psd_set 6 sc.nd (pd_tup (pad_cons (pd_neg (pd_ix (pd_var 5) pd_int)) (pad_cons (pd_ix (pd_var 5) pd_int) pad_nil)))))
  psd_nil)
  (psd_cons (psd_if (ptd_not (ptd_val (pd_cal (ok__law_same T 12) none (takes_of rfl rfl rfl rfl) hr (by decide) (by rfl) (pva_cons (PEd.v (pd_cal (ok__law_reckoned T) none (takes_of rfl rfl rfl rfl) hr (by decide) (by rfl) (pva_cons (PEd.v (pd_var 5)) (pva_cons (PEd.v (pd_var 6)) pva_nil)))) (pva_cons (PEd.v (pd_cal (ok__law_due T) none (takes_of rfl rfl rfl rfl) hr (by decide) (by rfl) (pva_cons (PEd.v (pd_var 5)) (pva_cons (PEd.v (pd_var 6)) pva_nil)))) pva_nil)))))
  (psd_one (psd_ret pd_bl))
  psd_nil)
  (psd_cons (psd_if (ptd_ne hu (pd_ix (pd_var 6) pd_int) pd_int)
  (psd_cons (psd_set 8 sc.nd (pd_cal (ok_divided T) none (takes_of rfl rfl rfl rfl) hr (by decide) (by rfl) (pva_cons (PEd.v (pd_var 5)) (pva_cons (PEd.v (pd_var 6)) pva_nil))))
  (psd_one (psd_if (PWd.pt (pwd_or (ptd_not (ptd_val (pd_cal (ok__law_same T 12) none (takes_of rfl rfl rfl rfl) hr (by decide) (by rfl) (pva_cons (PEd.v (pd_var 8)) (pva_cons (PEd.v (pd_cal (ok__law_made T) none (takes_of rfl rfl rfl rfl) hr (by decide) (by rfl) (pva_cons (PEd.v (pd_mul (pd_ix (pd_var 5) pd_int) (pd_ix (pd_var 6) pd_int))) (pva_cons (PEd.v (pd_mul (pd_ix (pd_var 5) pd_int) (pd_ix (pd_var 6) pd_int))) pva_nil)))) pva_nil))))) (pwd_or1 (ptd_not (ptd_val (pd_cal (ok__law_same T 12) none (takes_of rfl rfl rfl rfl) hr (by decide) (by rfl) (pva_cons (PEd.v (pd_cal (ok_multiplied T) none (takes_of rfl rfl rfl rfl) hr (by decide) (by rfl) (pva_cons (PEd.v (pd_var 8)) (pva_cons (PEd.v (pd_var 6)) pva_nil)))) (pva_cons (PEd.v (pd_var 5)) pva_nil))))))))
  (psd_one (psd_ret pd_bl))
  psd_nil)))
  (psd_one (psd_if (ptd_not (ptd_val (pd_cal (ok__law_refused T) none (takes_of rfl rfl rfl rfl) hr (by decide) (by rfl) (pva_cons (PEd.v pd_int) (pva_cons (PEd.v (pd_var 5)) (pva_cons (PEd.v (pd_var 6)) pva_nil))))))
  (psd_one (psd_ret pd_bl))
  psd_nil)))
  (psd_cons (psd_set 9 sc.nd (pd_cal (ok_added T) none (takes_of rfl rfl rfl rfl) hr (by decide) (by rfl) (pva_cons (PEd.v (pd_var 5)) (pva_cons (PEd.v (pd_var 6)) pva_nil))))
  (psd_cons (psd_if (ptd_not (ptd_val (pd_cal (ok__law_same T 12) none (takes_of rfl rfl rfl rfl) hr (by decide) (by rfl) (pva_cons (PEd.v ((pf_lst (x1 := 0) (pad_cons (pd_cal (ok_taken_off T) none (takes_of rfl rfl rfl rfl) hr (by decide) (by rfl) (pva_cons (PEd.v (pd_var 9)) (pva_cons (PEd.v (pd_var 6)) pva_nil))) (pad_cons (pd_cal (ok_added T) none (takes_of rfl rfl rfl rfl) hr (by decide) (by rfl) (pva_cons (PEd.v (pd_var 6)) (pva_cons (PEd.v (pd_var 5)) pva_nil))) (pad_cons (pd_cal (ok_is_less T) none (takes_of rfl rfl rfl rfl) hr (by decide) (by rfl) (pva_cons (PEd.v (pd_var 5)) (pva_cons (PEd.v (pd_var 9)) pva_nil))) pad_nil))))).plain) (pva_cons (PEd.v ((pf_lst (x1 := 0) (pad_cons (pd_var 5) (pad_cons (pd_var 9) (pad_cons (pd_gt (pd_ix (pd_var 6) pd_int) pd_int) pad_nil))))).plain) pva_nil)))))
  (psd_one (psd_ret pd_bl))
  psd_nil)
  (psd_cons (psd_par 10 11 rfl sc.nd (pad_cons (pd_ix (pd_cal (ok__law_great T) (some 0) (takes_of rfl rfl rfl rfl) hr (by decide) (by rfl) (pva_cons (pv_own 4) (pva_cons (PEd.v (pd_var 2)) pva_nil))) pd_int) (pad_cons (pd_cal (ok__law_one_of T) (some 0) (takes_of rfl rfl rfl rfl) hr (by decide) (by rfl) (pva_cons (pv_own 4) (pva_cons (PEd.v ((pf_lst (x1 := 0) (pad_cons pd_int (pad_cons (pd_neg pd_int) (pad_cons pd_int (pad_cons (pd_neg pd_int) (pad_cons pd_int (pad_cons (pd_ix (pd_var 5) pd_int) (pad_cons (pd_mul (pd_neg (pd_ix (pd_var 5) pd_int)) pd_int) (pad_cons (pd_mul (pd_ix (pd_var 6) pd_int) pd_int) pad_nil)))))))))).plain) pva_nil))) pad_nil)))
  (psd_cons (psd_if (PWd.pt (pwd_or (ptd_not (ptd_val (pd_cal (ok__law_same T 12) none (takes_of rfl rfl rfl rfl) hr (by decide) (by rfl) (pva_cons (PEd.v ((pf_lst (x1 := 0) (pad_cons (pd_cal (ok_fraction T) none (takes_of rfl rfl rfl rfl) hr (by decide) (by rfl) (pva_cons (PEd.v (pd_var 10)) (pva_cons (PEd.v (pd_var 11)) pva_nil))) (pad_cons (pd_calK0 (ok_fraction T) none (takes_of rfl rfl rfl rfl) hr (by decide) (by rfl) (pvk_cons (PEd.v (pd_mul (pd_var 10) pd_int)) (pvk_cons (PEd.v (pd_mul (pd_var 11) pd_int)) pvk_nil))) pad_nil)))).plain) (pva_cons (PEd.v (pd_mul ((pf_lst (x1 := 0) (pad_cons (pd_cal (ok__law_made T) none (takes_of rfl rfl rfl rfl) hr (by decide) (by rfl) (pva_cons (PEd.v (pd_var 10)) (pva_cons (PEd.v (pd_var 11)) pva_nil))) pad_nil))).plain pd_int)) pva_nil))))) (pwd_or1 (ptd_not (ptd_val (pd_cal (ok__law_refused T) none (takes_of rfl rfl rfl rfl) hr (by decide) (by rfl) (pva_cons (PEd.v pd_int) (pva_cons (PEd.v (pd_var 10)) (pva_cons (PEd.v pd_int) pva_nil)))))))))
  (psd_one (psd_ret pd_bl))
  psd_nil)
  (psd_one (psd_for (passes_of rfl) rfl (pid_range1 T.z_range (pad_cons pd_int pad_nil)) (pgd_name 12 sc.nd)
  (psd_cons (psd_set 13 sc.nd ((pf_lst (x1 := 0) (pad_cons (pd_tup (pad_cons (pd_mul (pd_ix (pd_var 5) pd_int) pd_int) (pad_cons (pd_mul (pd_ix (pd_var 5) pd_int) pd_int) pad_nil))) (pad_cons (pd_tup (pad_cons (pd_ix (pd_var 5) pd_int) (pad_cons (pd_neg (pd_ix (pd_var 5) pd_int)) pad_nil))) (pad_cons (pd_ix (pd_var 5) pd_int) (pad_cons ((pf_lst (x1 := 0) (pad_cons (pd_ix (pd_var 5) pd_int) (pad_cons (pd_ix (pd_var 5) pd_int) pad_nil)))).plain (pad_cons (pd_tup (pad_cons (pd_ix (pd_var 5) pd_int) (pad_cons (pd_ix (pd_var 5) pd_int) (pad_cons pd_int pad_nil)))) (pad_cons (pd_tup (pad_cons (pd_var 5) (pad_cons (pd_var 6) pad_nil))) pad_nil)))))))).plain)
  (psd_cons (psd_set 14 sc.nd (pd_cal (ok__law_bent T 12) (some 0) (takes_of rfl rfl rfl rfl) hr (by decide) (by rfl) (pva_cons (pv_own 4) (pva_cons (PEd.v (pd_var 5)) (pva_cons (PEd.v (pd_add (pd_var 1) (pd_var 13))) pva_nil)))))
  (psd_cons (psd_if (ptd_not (ptd_val (pd_cal (ok__law_same T 12) none (takes_of rfl rfl rfl rfl) hr (by decide) (by rfl) (pva_cons (PEd.v (pd_cal (ok_is_fraction T) none (takes_of rfl rfl rfl rfl) hr (by decide) (by rfl) (pva_cons (PEd.v (pd_var 14)) pva_nil))) (pva_cons (PEd.v (pd_cal (ok__law_is_fraction T) none (takes_of rfl rfl rfl rfl) hr (by decide) (by rfl) (pva_cons (PEd.v (pd_var 14)) pva_nil))) pva_nil)))))
  (psd_one (psd_ret pd_bl))
  psd_nil)
  (psd_cons (psd_for (passes_of rfl) rfl (pid_range2 T.z_range (pad_cons pd_int (pad_cons pd_int pad_nil))) (pgd_name 15 sc.nd)
  (psd_one (psd_if (PWd.pt (pwd_and (ptd_not (ptd_val (pd_cal (ok__law_is_fraction T) none (takes_of rfl rfl rfl rfl) hr (by decide) (by rfl) (pva_cons (PEd.v (pd_var 14)) pva_nil)))) (pwd_and1 (ptd_not (PWd.pt (pwd_and (ptd_val (pd_cal (ok__law_refused T) none (takes_of rfl rfl rfl rfl) hr (by decide) (by rfl) (pva_cons (PEd.v (pd_var 15)) (pva_cons (PEd.v (pd_var 14)) (pva_cons (PEd.v (pd_var 6)) pva_nil))))) (pwd_and1 (PWd.pt (pwd_or (ptd_gt (pd_var 15) pd_int) (pwd_or1 (ptd_val (pd_cal (ok__law_refused T) none (takes_of rfl rfl rfl rfl) hr (by decide) (by rfl) (pva_cons (PEd.v (pd_var 15)) (pva_cons (PEd.v (pd_var 5)) (pva_cons (PEd.v (pd_var 14)) pva_nil)))))))))))))))
  (psd_one (psd_ret pd_bl))
  psd_nil)))
  (psd_one (psd_if (PWd.pt (pwd_and (ptd_not (ptd_val (pd_cal (ok__law_is_int T) none (takes_of rfl rfl rfl rfl) hr (by decide) (by rfl) (pva_cons (PEd.v (pd_var 14)) pva_nil)))) (pwd_and1 (ptd_not (PWd.pt (pwd_and (ptd_val (pd_cal (ok__law_refused T) none (takes_of rfl rfl rfl rfl) hr (by decide) (by rfl) (pva_cons (PEd.v pd_int) (pva_cons (PEd.v (pd_var 14)) (pva_cons (PEd.v pd_int) pva_nil))))) (pwd_and1 (ptd_val (pd_cal (ok__law_refused T) none (takes_of rfl rfl rfl rfl) hr (by decide) (by rfl) (pva_cons (PEd.v pd_int) (pva_cons (PEd.v pd_int) (pva_cons (PEd.v (pd_var 14)) pva_nil))))))))))))
  (psd_one (psd_ret pd_bl))
  psd_nil))))))))))))))))))))
  (psd_one (psd_ret pd_bl))))))
end
end K00

/-! fractions in plain Lean -/
namespace Frac
open Pd
def com (n d : Int) : Int := if d < 0 then -((Nat.gcd n.natAbs d.natAbs : Nat) : Int) else ((Nat.gcd n.natAbs d.natAbs : Nat) : Int)
def mk (n d : Int) : Int × Int := (n.fdiv (com n d), d.fdiv (com n d))
/-- in lowest terms, and below 2^k -/
structure Fr (k : Nat) (p : Int × Int) : Prop where
  pos : 0 < p.2
  cop : Nat.gcd p.1.natAbs p.2.natAbs = 1
  s1 : Sm k p.1
  s2 : Sm k p.2
theorem com_ne {n d : Int} (h : d ≠ 0) : com n d ≠ 0 := by
  have : 0 < Nat.gcd n.natAbs d.natAbs := Nat.gcd_pos_of_pos_right _ (by omega)
  unfold com
  split <;> omega
theorem com_n {n d : Int} : com n d ∣ n := by
  unfold com
  have : ((Nat.gcd n.natAbs d.natAbs : Nat) : Int) ∣ n := Int.ofNat_dvd_left.mpr (Nat.gcd_dvd_left _ _)
  split
  · exact Int.neg_dvd.mpr this
  · exact this
theorem com_d {n d : Int} : com n d ∣ d := by
  unfold com
  have : ((Nat.gcd n.natAbs d.natAbs : Nat) : Int) ∣ d := Int.ofNat_dvd_left.mpr (Nat.gcd_dvd_right _ _)
  split
  · exact Int.neg_dvd.mpr this
  · exact this
theorem com_abs {n d : Int} : (com n d).natAbs = Nat.gcd n.natAbs d.natAbs := by
  unfold com
  split <;> simp
theorem com_le {k : Nat} {n d : Int} (h : d ≠ 0) (hd : Sm k d) : Sm k (com n d) := by
  unfold Sm at *
  rw [com_abs]
  exact Nat.lt_of_le_of_lt (Nat.gcd_le_right _ (by omega)) hd
theorem fdiv_mul {a b : Int} (h : b ∣ a) : a.fdiv b * b = a := by
  rw [Int.fdiv_eq_ediv_of_dvd h]
  exact Int.ediv_mul_cancel h
theorem mk_n {n d : Int} : (mk n d).1 * com n d = n := fdiv_mul com_n
theorem mk_d {n d : Int} : (mk n d).2 * com n d = d := fdiv_mul com_d
theorem mk_pos {n d : Int} (h : d ≠ 0) : 0 < (mk n d).2 := by
  have e := mk_d (n := n) (d := d)
  have hc := com_ne (n := n) h
  by_cases hd : d < 0
  · have : com n d < 0 := by unfold com at hc ⊢; rw [if_pos hd] at hc ⊢; omega
    by_cases z : 0 < (mk n d).2
    · exact z
    · have := Int.mul_nonneg_of_nonpos_of_nonpos (show (mk n d).2 ≤ 0 by omega) (show com n d ≤ 0 by omega)
      omega
  · have : 0 < com n d := by unfold com at hc ⊢; rw [if_neg hd] at hc ⊢; omega
    by_cases z : 0 < (mk n d).2
    · exact z
    · have := Int.mul_nonpos_of_nonpos_of_nonneg (show (mk n d).2 ≤ 0 by omega) (show 0 ≤ com n d by omega)
      omega
theorem mk_cop {n d : Int} (h : d ≠ 0) : Nat.gcd (mk n d).1.natAbs (mk n d).2.natAbs = 1 := by
  have e1 := congrArg Int.natAbs (mk_n (n := n) (d := d))
  have e2 := congrArg Int.natAbs (mk_d (n := n) (d := d))
  rw [Int.natAbs_mul, com_abs] at e1 e2
  have hg : 0 < Nat.gcd n.natAbs d.natAbs := Nat.gcd_pos_of_pos_right _ (by omega)
  have := Nat.gcd_mul_right (mk n d).1.natAbs (Nat.gcd n.natAbs d.natAbs) (mk n d).2.natAbs
  rw [e1, e2] at this
  exact Nat.eq_of_mul_eq_mul_right hg (by rw [← this, Nat.one_mul])
theorem Sm.div {k : Nat} {a b : Int} (h : b ≠ 0) (e : b ∣ a) (s : Sm k a) : Sm k (a.fdiv b) := by
  unfold Sm at *
  refine Nat.lt_of_le_of_lt ?_ s
  have e := congrArg Int.natAbs (fdiv_mul e)
  rw [Int.natAbs_mul] at e
  rw [← e]
  exact Nat.le_mul_of_pos_right _ (by omega)
theorem mk_fr {k : Nat} {n d : Int} (h : d ≠ 0) (hn : Sm k n) (hd : Sm k d) : Fr k (mk n d) :=
  ⟨mk_pos h, mk_cop h, Sm.div (com_ne h) com_n hn, Sm.div (com_ne h) com_d hd⟩
theorem cop_eq {p q : Int × Int} (hp : 0 < p.2) (hq : 0 < q.2) (cp : Nat.gcd p.1.natAbs p.2.natAbs = 1) (cq : Nat.gcd q.1.natAbs q.2.natAbs = 1) (e : p.1 * q.2 = q.1 * p.2) : p = q := by
  have e1 : p.1.natAbs * q.2.natAbs = q.1.natAbs * p.2.natAbs := by rw [← Int.natAbs_mul, ← Int.natAbs_mul, e]
  have d1 : p.2.natAbs ∣ q.2.natAbs := (Nat.Coprime.symm cp : Nat.Coprime p.2.natAbs p.1.natAbs).dvd_of_dvd_mul_left (by rw [e1]; exact Nat.dvd_mul_left _ _)
  have d2 : q.2.natAbs ∣ p.2.natAbs := (Nat.Coprime.symm cq : Nat.Coprime q.2.natAbs q.1.natAbs).dvd_of_dvd_mul_left (by rw [← e1]; exact Nat.dvd_mul_left _ _)
  have e2 : p.2.natAbs = q.2.natAbs := Nat.dvd_antisymm d1 d2
  have e3 : p.2 = q.2 := by omega
  rw [← e3] at e
  have e4 := Int.eq_of_mul_eq_mul_right (by omega) e
  exact Prod.ext e4 e3
theorem mk_eq {n d n' d' : Int} (h : d ≠ 0) (h' : d' ≠ 0) (e : n * d' = n' * d) : mk n d = mk n' d' := by
  refine cop_eq (mk_pos h) (mk_pos h') (mk_cop h) (mk_cop h') ?_
  have a1 := mk_n (n := n) (d := d)
  have a2 := mk_d (n := n) (d := d)
  have b1 := mk_n (n := n') (d := d')
  have b2 := mk_d (n := n') (d := d')
  have c1 := com_ne (n := n) h
  have c2 := com_ne (n := n') h'
  generalize mk n d = p at *
  generalize mk n' d' = q at *
  generalize com n d = g at *
  generalize com n' d' = g' at *
  have : (p.1 * q.2) * (g * g') = (q.1 * p.2) * (g * g') := by subst a1 a2 b1 b2; grind
  exact Int.eq_of_mul_eq_mul_right (Int.mul_ne_zero c1 c2) this
theorem mk_self {k : Nat} {p : Int × Int} (h : Fr k p) : mk p.1 p.2 = p := by
  have hp := h.pos
  have : com p.1 p.2 = 1 := by
    unfold com
    rw [if_neg (by omega), h.cop]
    rfl
  unfold mk
  rw [this]
  simp
theorem mk_of {k : Nat} {n d : Int} {p : Int × Int} (hd : d ≠ 0) (h : Fr k p) (e : n * p.2 = p.1 * d) : mk n d = p := by
  have hp := h.pos
  rw [← mk_self h]
  exact mk_eq hd (by omega) e
theorem mk_cross {n d : Int} : (mk n d).1 * d = n * (mk n d).2 := by
  have a1 := mk_n (n := n) (d := d)
  have a2 := mk_d (n := n) (d := d)
  generalize mk n d = p at *
  generalize com n d = g at *
  subst a1 a2
  grind
theorem mk_one {n : Int} : mk n 1 = (n, 1) := by
  have : com n 1 = 1 := by
    unfold com
    rw [if_neg (by decide)]
    simp
  unfold mk
  rw [this]
  simp
theorem Fr.mono {k l : Nat} {p : Int × Int} (h : Fr k p) (e : k ≤ l) : Fr l p := ⟨h.pos, h.cop, h.s1.mono e, h.s2.mono e⟩
/-- the sum, the product -/
def sumF (p q : Int × Int) : Int × Int := mk (p.1 * q.2 + q.1 * p.2) (p.2 * q.2)
def mulF (p q : Int × Int) : Int × Int := mk (p.1 * q.1) (p.2 * q.2)
def negF (p : Int × Int) : Int × Int := (-p.1, p.2)
def divF (p q : Int × Int) : Int × Int := mk (p.1 * q.2) (p.2 * q.1)
theorem pp {p q : Int × Int} (hp : 0 < p.2) (hq : 0 < q.2) : p.2 * q.2 ≠ 0 := Int.mul_ne_zero (by omega) (by omega)
theorem neg_fr {k : Nat} {p : Int × Int} (h : Fr k p) : Fr k (negF p) := ⟨h.pos, by have := h.cop; unfold negF; simpa using this, h.s1.neg, h.s2⟩
theorem sum_fr {k : Nat} {p q : Int × Int} (h : Fr k p) (g : Fr k q) : Fr (4 * k + 1) (sumF p q) :=
  mk_fr (pp h.pos g.pos) (((h.s1.mul g.s2).add (g.s1.mul h.s2)).mono (by omega)) ((h.s2.mul g.s2).mono (by omega))
theorem mul_fr {k : Nat} {p q : Int × Int} (h : Fr k p) (g : Fr k q) : Fr (2 * k) (mulF p q) := mk_fr (pp h.pos g.pos) ((h.s1.mul g.s1).mono (by omega)) ((h.s2.mul g.s2).mono (by omega))
theorem div_fr {k : Nat} {p q : Int × Int} (h : Fr k p) (g : Fr k q) (hn : q.1 ≠ 0) : Fr (2 * k) (divF p q) :=
  mk_fr (Int.mul_ne_zero (by have := h.pos; omega) hn) ((h.s1.mul g.s2).mono (by omega)) ((h.s2.mul g.s1).mono (by omega))
theorem mul_div {k : Nat} {p q : Int × Int} (h : Fr k p) (g : Fr k q) (hn : q.1 ≠ 0) : mulF (divF p q) q = p := by
  have d := div_fr h g hn
  have e : (divF p q).1 * (p.2 * q.1) = (p.1 * q.2) * (divF p q).2 := mk_cross
  refine mk_of (pp d.pos g.pos) h ?_
  generalize divF p q = t at *
  grind
theorem sum_neg {k : Nat} {p q : Int × Int} (h : Fr k p) (g : Fr k q) : sumF (sumF p q) (negF q) = p := by
  have d := sum_fr h g
  have e : (sumF p q).1 * (p.2 * q.2) = (p.1 * q.2 + q.1 * p.2) * (sumF p q).2 := mk_cross
  refine mk_of (pp d.pos g.pos) h ?_
  unfold negF
  generalize sumF p q = t at *
  simp only
  grind
theorem sum_comm (p q : Int × Int) : sumF q p = sumF p q := by
  unfold sumF
  rw [Int.add_comm, Int.mul_comm q.2]
theorem less_sum {k : Nat} {p q : Int × Int} (h : Fr k p) (g : Fr k q) : decide (p.1 * (sumF p q).2 < (sumF p q).1 * p.2) = decide (0 < q.1) := by
  have d := sum_fr h g
  have e : (sumF p q).1 * (p.2 * q.2) = (p.1 * q.2 + q.1 * p.2) * (sumF p q).2 := mk_cross
  have hp := h.pos
  have hq := g.pos
  have ht := d.pos
  generalize sumF p q = t at *
  have e2 : (t.1 * p.2 - p.1 * t.2) * q.2 = q.1 * (p.2 * t.2) := by grind
  have hpt : 0 < p.2 * t.2 := Int.mul_pos hp ht
  refine decide_eq_decide.mpr ⟨fun z => ?_, fun z => ?_⟩
  · have z1 : 0 < t.1 * p.2 - p.1 * t.2 := by omega
    have z2 := Int.mul_pos z1 hq
    rw [e2] at z2
    exact Int.pos_of_mul_pos_left z2 hpt |> fun h => h
  · have z2 := Int.mul_pos z hpt
    rw [← e2] at z2
    have := Int.pos_of_mul_pos_left z2 hq
    omega
theorem mk_six {n d : Int} (h : d ≠ 0) : mk (n * 6) (d * 6) = mk n d := mk_eq (by omega) h (by grind)
end Frac

section
open PySem L2 Pd
end
local macro_rules | `(tactic| walk_at "sm") => `(tactic| first
  | assumption
  | exact (show Pd.Sm 64 _ from by show Int.natAbs _ < 2 ^ 64; decide)
  | exact (show Pd.Sm 400 _ from by show Int.natAbs _ < 2 ^ 400; decide)
  | exact Pd.Sm.mul (by walk_at "sm") (by walk_at "sm")
  | exact Pd.Sm.add (by walk_at "sm") (by walk_at "sm")
  | exact Pd.Sm.sub (by walk_at "sm") (by walk_at "sm")
  | exact Pd.Sm.neg (by walk_at "sm"))
local macro_rules | `(tactic| walk_at "sz") => `(tactic| first
  | assumption
  | omega
  | exact Pd.mulOk_sm (by walk_at "sm") (by walk_at "sm") (by decide)
  | exact Pd.divOk_sm (by walk_at "sm") (by decide) (by first | assumption | omega)
  | decide
  | omega)
local macro_rules | `(tactic| walk_at "wn") => `(tactic| dsimp only [List.set_cons_zero, List.set_cons_succ, List.cons_append, List.nil_append, List.replicate, List.length_cons, List.length_nil, Nat.reduceAdd, Nat.reduceSub, Pd.back, Pd.relS, List.map, Pd.wipeS])
local macro_rules | `(tactic| walk_at "wx") => `(tactic| first
  | with_reducible refine Pd.pr ?_
  | ((with_reducible refine Pd.rf_i ?_ ?_); (focus first | rfl | (refine Pd.canSet_of rfl ?_; assumption)); try dsimp only [List.set_cons_zero, List.set_cons_succ, List.cons_append, List.nil_append, List.replicate, List.length_cons, List.length_nil, Nat.reduceAdd, Nat.reduceSub, Pd.back, Pd.relS, List.map, Pd.wipeS])
  | ((with_reducible refine Pd.som_id ?_); refine Pd.som_i (by rfl) ?_; try dsimp only [List.set_cons_zero, List.set_cons_succ, List.cons_append, List.nil_append, List.replicate, List.length_cons, List.length_nil, Nat.reduceAdd, Nat.reduceSub, Pd.back, Pd.relS, List.map, Pd.wipeS])
  | ((with_reducible refine Pd.sd_i ?_ ?_); (focus walk_at "sz"))
  | ((with_reducible refine Pd.BrD.id ?_); first | refine Pd.BrD.yes (by decide) ?_ | refine Pd.BrD.no (by decide) ?_)
  | ((with_reducible refine Pd.Br.id ?_); first | refine Pd.Br.is (by rfl) ?_ | refine Pd.Br.isnt (by rfl) ?_))
local macro_rules | `(tactic| walk_at "wg") => `(tactic| repeat first
  | with_reducible refine Pd.pr ?_
  | ((with_reducible refine Pd.rf_i ?_ ?_); (focus first | rfl | (refine Pd.canSet_of rfl ?_; assumption)); try dsimp only [List.set_cons_zero, List.set_cons_succ, List.cons_append, List.nil_append, List.replicate, List.length_cons, List.length_nil, Nat.reduceAdd, Nat.reduceSub, Pd.back, Pd.relS, List.map, Pd.wipeS])
  | ((with_reducible refine Pd.som_id ?_); refine Pd.som_i (by rfl) ?_; try dsimp only [List.set_cons_zero, List.set_cons_succ, List.cons_append, List.nil_append, List.replicate, List.length_cons, List.length_nil, Nat.reduceAdd, Nat.reduceSub, Pd.back, Pd.relS, List.map, Pd.wipeS])
  | ((with_reducible refine Pd.sd_i ?_ ?_); (focus walk_at "sz"))
  | ((with_reducible refine Pd.BrD.id ?_); first | refine Pd.BrD.yes (by decide) ?_ | refine Pd.BrD.no (by decide) ?_)
  | ((with_reducible refine Pd.Br.id ?_); first | refine Pd.Br.is (by rfl) ?_ | refine Pd.Br.isnt (by rfl) ?_))

namespace K00
open PySem L2 Pd Frac
section
variable {Q : D → Sto → Prop} {E : Str → Sto → Prop} {η : Sto}
def frD (p : Int × Int) : D := .tup [.int p.1, .int p.2]
theorem sp_made {n d : Int} (h : divOk (com n d) = true) (k : Q (frD (mk n d)) [.val (.int n), .val (.int d)]) : wp r_made Q E [.val (.int n), .val (.int d)] := by
  refine wp_fnM rfl rfl ?_
  walk_at "wn"
  unfold b_made
  walk_at "wg"
  unfold com at h
  refine BrD.dec (fun hd => ?_) (fun hd => ?_)
  · rw [if_pos hd] at h
    walk_at "wg"
    unfold frD mk com at k
    rw [if_pos hd] at k
    exact k
  · rw [if_neg hd] at h
    walk_at "wg"
    unfold frD mk com at k
    rw [if_neg hd] at k
    exact k
theorem divOk_com {k : Nat} {n d : Int} (h : d ≠ 0) (hd : Sm k d) (hk : k < 9000) : divOk (com n d) = true := divOk_sm (com_le h hd) hk (com_ne h)
theorem sp_plus {k : Nat} {p q : Int × Int} (hp : Fr k p) (hq : Fr k q) (hk : k < 4000) (h : Q (frD (sumF p q)) [.val (frD p), .val (frD q)]) : wp r_plus Q E [.val (frD p), .val (frD q)] := by
  obtain ⟨a, b⟩ := p
  obtain ⟨c, d⟩ := q
  obtain ⟨p1, p2, p3, p4⟩ := hp
  obtain ⟨q1, q2, q3, q4⟩ := hq
  simp only at p1 p2 p3 p4 q1 q2 q3 q4
  have hbd : b * d ≠ 0 := Int.mul_ne_zero (by omega) (by omega)
  have main : divOk (com (a * d + c * b) (b * d)) = true := divOk_com hbd (p4.mul q4) (by omega)
  have m1 : mulOk a d = true := mulOk_sm p3 q4 (by omega)
  have m2 : mulOk c b = true := mulOk_sm q3 p4 (by omega)
  have m3 : mulOk b d = true := mulOk_sm p4 q4 (by omega)
  refine wp_fnM rfl rfl ?_
  simp only [frD] at *
  walk_at "wn"
  unfold b_plus
  walk_at "wg"
  refine BrD.dec (fun h1 => ?_) (fun h1 => ?_)
  · walk_at "wg"
    refine BrD.dec (fun h2 => ?_) (fun h2 => ?_)
    · unfold b_plus_t1
      walk_at "wg"
      subst h1 h2
      have e : sumF (a, 1) (c, 1) = (a + c, 1) := by
        unfold sumF
        simp only [Int.mul_one]
        exact mk_one
      rw [e] at h
      exact h
    · walk_at "wg"
      exact sp_made main h
  · walk_at "wg"
    exact sp_made main h
theorem sp_minus {k : Nat} {p q : Int × Int} (hp : Fr k p) (hq : Fr k q) (hk : k < 4000) (h : Q (frD (sumF p (negF q))) [.val (frD p), .val (frD q)]) : wp r_minus Q E [.val (frD p), .val (frD q)] := by
  have := sp_plus (E := fun c _ => E c [.val (frD p), .val (frD q)]) (Q := fun d _ => Q d [.val (frD p), .val (frD q)]) hp (neg_fr hq) hk h
  obtain ⟨a, b⟩ := p
  obtain ⟨c, d⟩ := q
  refine wp_fnM rfl rfl ?_
  simp only [frD, negF] at *
  walk_at "wn"
  unfold b_minus
  walk_at "wg"
  exact this
theorem sp_mult {k : Nat} {p q : Int × Int} (hp : Fr k p) (hq : Fr k q) (hk : k < 4000) (h : Q (frD (mulF p q)) [.val (frD p), .val (frD q)]) : wp r_mult Q E [.val (frD p), .val (frD q)] := by
  obtain ⟨a, b⟩ := p
  obtain ⟨c, d⟩ := q
  obtain ⟨p1, p2, p3, p4⟩ := hp
  obtain ⟨q1, q2, q3, q4⟩ := hq
  simp only at p1 p2 p3 p4 q1 q2 q3 q4
  have hbd : b * d ≠ 0 := Int.mul_ne_zero (by omega) (by omega)
  have main : divOk (com (a * c) (b * d)) = true := divOk_com hbd (p4.mul q4) (by omega)
  have m1 : mulOk a c = true := mulOk_sm p3 q3 (by omega)
  have m3 : mulOk b d = true := mulOk_sm p4 q4 (by omega)
  refine wp_fnM rfl rfl ?_
  simp only [frD] at *
  walk_at "wn"
  unfold b_mult
  walk_at "wg"
  refine BrD.dec (fun h1 => ?_) (fun h1 => ?_)
  · walk_at "wg"
    refine BrD.dec (fun h2 => ?_) (fun h2 => ?_)
    · unfold b_mult_t1
      walk_at "wg"
      subst h1 h2
      have e : mulF (a, 1) (c, 1) = (a * c, 1) := by
        unfold mulF
        simp only [Int.mul_one]
        exact mk_one
      rw [e] at h
      exact h
    · walk_at "wg"
      exact sp_made main h
  · walk_at "wg"
    exact sp_made main h
theorem sp_over {k : Nat} {p q : Int × Int} (hp : Fr k p) (hq : Fr k q) (hk : k < 4000) (hn : q.1 ≠ 0) (h : Q (frD (divF p q)) [.val (frD p), .val (frD q)]) : wp r_over Q E [.val (frD p), .val (frD q)] := by
  obtain ⟨a, b⟩ := p
  obtain ⟨c, d⟩ := q
  obtain ⟨p1, p2, p3, p4⟩ := hp
  obtain ⟨q1, q2, q3, q4⟩ := hq
  simp only at p1 p2 p3 p4 q1 q2 q3 q4 hn
  have hbd : b * c ≠ 0 := Int.mul_ne_zero (by omega) hn
  have main : divOk (com (a * d) (b * c)) = true := divOk_com hbd (p4.mul q3) (by omega)
  have m1 : mulOk a d = true := mulOk_sm p3 q4 (by omega)
  have m3 : mulOk b c = true := mulOk_sm p4 q3 (by omega)
  refine wp_fnM rfl rfl ?_
  simp only [frD] at *
  walk_at "wn"
  unfold b_over
  walk_at "wg"
  exact sp_made main h
def lessF (p q : Int × Int) : Bool := decide (p.1 * q.2 < q.1 * p.2)
theorem sp_below {k : Nat} {p q : Int × Int} (hp : Fr k p) (hq : Fr k q) (hk : k < 4000) (h : Q (.bl (lessF p q)) [.val (frD p), .val (frD q)]) : wp r_below Q E [.val (frD p), .val (frD q)] := by
  obtain ⟨a, b⟩ := p
  obtain ⟨c, d⟩ := q
  obtain ⟨p1, p2, p3, p4⟩ := hp
  obtain ⟨q1, q2, q3, q4⟩ := hq
  simp only at p1 p2 p3 p4 q1 q2 q3 q4
  have m1 : mulOk a d = true := mulOk_sm p3 q4 (by omega)
  have m2 : mulOk c b = true := mulOk_sm q3 p4 (by omega)
  refine wp_fnM rfl rfl ?_
  simp only [frD] at *
  walk_at "wn"
  unfold b_below
  walk_at "wg"
  exact h
def isI : D → Bool
  | .int _ => true
  | _ => false
theorem sp_is_int {d : D} (h : Q (.bl (isI d)) [.val d]) : wp r_is_int Q E [.val d] := by
  refine wp_fnM rfl rfl ?_
  walk_at "wn"
  unfold b_is_int
  cases d <;> (walk_at "wg"; exact h)
def is2 : D → Bool
  | .tup [_, _] => true
  | _ => false
theorem sp_is_row2 {d : D} (h : Q (.bl (is2 d)) [.val d, .val (.int 2)]) : wp r_is_row Q E [.val d, .val (.int 2)] := by
  refine wp_fnM rfl rfl ?_
  walk_at "wn"
  unfold b_is_row
  cases d with
  | tup ds =>
    walk_at "wg"
    have e : decide ((ds.length : Int) = 2) = is2 (.tup ds) := by
      match ds with
      | [] => rfl
      | [_] => rfl
      | [_, _] => rfl
      | _ :: _ :: _ :: r =>
        simp only [is2, List.length_cons, decide_eq_false_iff_not]
        omega
    rw [e]
    exact h
  | _ => walk_at "wg"; exact h
def isFr : D → Bool
  | .tup [.int a, .int b] => decide (1 ≤ b) && decide (((Nat.gcd a.natAbs b.natAbs : Nat) : Int) = 1)
  | _ => false
theorem isFr_fr {k : Nat} {p : Int × Int} (h : Fr k p) : isFr (frD p) = true := by
  have := h.pos
  unfold frD isFr
  simp only [Bool.and_eq_true, decide_eq_true_eq]
  exact ⟨by omega, by rw [h.cop]; rfl⟩
theorem isFr_no {d : D} (h : is2 d = false) : isFr d = false := by
  unfold isFr
  split
  · cases h
  · rfl
instance {d : D} : PR (wp r_is_int Q E [.val d]) (Q (.bl (isI d)) [.val d]) := ⟨sp_is_int⟩
instance {d : D} : PR (wp r_is_row Q E [.val d, .val (.int 2)]) (Q (.bl (is2 d)) [.val d, .val (.int 2)]) := ⟨sp_is_row2⟩
theorem sp_fits {d : D} (h : Q (.bl (isFr d)) [.val d]) : wp r_fits_fraction Q E [.val d] := by
  refine wp_fnM rfl rfl ?_
  walk_at "wn"
  unfold b_fits_fraction
  walk_at "wg"
  cases e : is2 d with
  | false =>
    walk_at "wg"
    rw [isFr_no e] at h
    exact h
  | true =>
    unfold is2 at e
    split at e
    · rename_i x y
      walk_at "wg"
      cases x with
      | int a =>
        walk_at "wg"
        cases y with
        | int b =>
          walk_at "wg"
          have ei : isFr (.tup [.int a, .int b]) = (decide (1 ≤ b) && decide (((Nat.gcd a.natAbs b.natAbs : Nat) : Int) = 1)) := rfl
          rw [ei] at h
          refine BrD.dec (fun hb => ?_) (fun hb => ?_)
          · walk_at "wg"
            rw [decide_eq_true hb, Bool.true_and] at h
            exact h
          · walk_at "wg"
            rw [decide_eq_false hb, Bool.false_and] at h
            exact h
        | _ => walk_at "wg"; exact h
      | _ => walk_at "wg"; exact h
    · cases e
instance {d : D} : PR (wp r_fits_fraction Q E [.val d]) (Q (.bl (isFr d)) [.val d]) := ⟨sp_fits⟩
theorem sp_check {d : D} (h1 : isFr d = true → Q .non [.val d]) (h2 : isFr d = false → E "InvalidFraction" [.val d]) : wp r_check_fraction Q E [.val d] := by
  refine wp_fnM rfl rfl ?_
  walk_at "wn"
  unfold b_check_fraction
  walk_at "wg"
  refine Br.both (fun e => ?_) (fun e => ?_)
  · walk_at "wg"
    exact h1 e
  · walk_at "wg"
    exact h2 e
theorem sp_check_y {k : Nat} {p : Int × Int} (hp : Fr k p) (h : Q .non [.val (frD p)]) : wp r_check_fraction Q E [.val (frD p)] := sp_check (fun _ => h) (fun e => by rw [isFr_fr hp] at e; cases e)
theorem sp_isfr {d : D} (h : Q (.bl (isFr d)) [.val d]) : wp r_is_fraction Q E [.val d] := by
  refine wp_fnM rfl rfl ?_
  walk_at "wn"
  unfold b_is_fraction
  walk_at "wg"
  exact h
theorem sp_pair_y {k : Nat} {p q : Int × Int} (hp : Fr k p) (hq : Fr k q) (h : Q .non [.val (frD p), .val (frD q)]) : wp r_check_pair Q E [.val (frD p), .val (frD q)] := by
  refine wp_fnM rfl rfl ?_
  walk_at "wn"
  unfold b_check_pair
  walk_at "wg"
  refine sp_check_y hp ?_
  walk_at "wg"
  refine sp_check_y hq ?_
  exact h
theorem sp_pair_n {x y : D} (h : (isFr x && isFr y) = false) (k : E "InvalidFraction" [.val x, .val y]) : wp r_check_pair Q E [.val x, .val y] := by
  refine wp_fnM rfl rfl ?_
  walk_at "wn"
  unfold b_check_pair
  walk_at "wg"
  refine sp_check (fun e => ?_) (fun e => k)
  walk_at "wg"
  refine sp_check (fun e2 => ?_) (fun e => k)
  rw [e, e2] at h
  cases h
theorem sp_added {k : Nat} {p q : Int × Int} (hp : Fr k p) (hq : Fr k q) (hk : k < 4000) (h : Q (frD (sumF p q)) [.val (frD p), .val (frD q)]) : wp r_added Q E [.val (frD p), .val (frD q)] := by
  refine wp_fnM rfl rfl ?_
  walk_at "wn"
  unfold b_added
  walk_at "wg"
  refine sp_pair_y hp hq ?_
  walk_at "wg"
  exact sp_plus hp hq hk h
theorem sp_taken {k : Nat} {p q : Int × Int} (hp : Fr k p) (hq : Fr k q) (hk : k < 4000) (h : Q (frD (sumF p (negF q))) [.val (frD p), .val (frD q)]) : wp r_taken_off Q E [.val (frD p), .val (frD q)] := by
  refine wp_fnM rfl rfl ?_
  walk_at "wn"
  unfold b_taken_off
  walk_at "wg"
  refine sp_pair_y hp hq ?_
  walk_at "wg"
  exact sp_minus hp hq hk h
theorem sp_multiplied {k : Nat} {p q : Int × Int} (hp : Fr k p) (hq : Fr k q) (hk : k < 4000) (h : Q (frD (mulF p q)) [.val (frD p), .val (frD q)]) : wp r_multiplied Q E [.val (frD p), .val (frD q)] := by
  refine wp_fnM rfl rfl ?_
  walk_at "wn"
  unfold b_multiplied
  walk_at "wg"
  refine sp_pair_y hp hq ?_
  walk_at "wg"
  exact sp_mult hp hq hk h
theorem sp_divided {k : Nat} {p q : Int × Int} (hp : Fr k p) (hq : Fr k q) (hk : k < 4000) (hn : q.1 ≠ 0) (h : Q (frD (divF p q)) [.val (frD p), .val (frD q)]) : wp r_divided Q E [.val (frD p), .val (frD q)] := by
  refine wp_fnM rfl rfl ?_
  walk_at "wn"
  unfold b_divided
  walk_at "wg"
  refine sp_pair_y hp hq ?_
  unfold frD
  walk_at "wg"
  refine BrD.no hn ?_
  walk_at "wg"
  exact sp_over hp hq hk hn h
theorem sp_divided0 {k : Nat} {p q : Int × Int} (hp : Fr k p) (hq : Fr k q) (hn : q.1 = 0) (h : E "InvalidFraction" [.val (frD p), .val (frD q)]) : wp r_divided Q E [.val (frD p), .val (frD q)] := by
  refine wp_fnM rfl rfl ?_
  walk_at "wn"
  unfold b_divided
  walk_at "wg"
  refine sp_pair_y hp hq ?_
  unfold frD
  walk_at "wg"
  refine BrD.yes hn ?_
  walk_at "wg"
  exact h
theorem sp_less {k : Nat} {p q : Int × Int} (hp : Fr k p) (hq : Fr k q) (hk : k < 4000) (h : Q (.bl (lessF p q)) [.val (frD p), .val (frD q)]) : wp r_is_less Q E [.val (frD p), .val (frD q)] := by
  refine wp_fnM rfl rfl ?_
  walk_at "wn"
  unfold b_is_less
  walk_at "wg"
  refine sp_pair_y hp hq ?_
  walk_at "wg"
  exact sp_below hp hq hk h
theorem sp_added_n {x y : D} (h : (isFr x && isFr y) = false) (k : E "InvalidFraction" [.val x, .val y]) : wp r_added Q E [.val x, .val y] := by
  refine wp_fnM rfl rfl ?_
  walk_at "wn"
  unfold b_added
  walk_at "wg"
  exact sp_pair_n h k
theorem sp_taken_n {x y : D} (h : (isFr x && isFr y) = false) (k : E "InvalidFraction" [.val x, .val y]) : wp r_taken_off Q E [.val x, .val y] := by
  refine wp_fnM rfl rfl ?_
  walk_at "wn"
  unfold b_taken_off
  walk_at "wg"
  exact sp_pair_n h k
theorem sp_multiplied_n {x y : D} (h : (isFr x && isFr y) = false) (k : E "InvalidFraction" [.val x, .val y]) : wp r_multiplied Q E [.val x, .val y] := by
  refine wp_fnM rfl rfl ?_
  walk_at "wn"
  unfold b_multiplied
  walk_at "wg"
  exact sp_pair_n h k
theorem sp_divided_n {x y : D} (h : (isFr x && isFr y) = false) (k : E "InvalidFraction" [.val x, .val y]) : wp r_divided Q E [.val x, .val y] := by
  refine wp_fnM rfl rfl ?_
  walk_at "wn"
  unfold b_divided
  walk_at "wg"
  exact sp_pair_n h k
theorem sp_less_n {x y : D} (h : (isFr x && isFr y) = false) (k : E "InvalidFraction" [.val x, .val y]) : wp r_is_less Q E [.val x, .val y] := by
  refine wp_fnM rfl rfl ?_
  walk_at "wn"
  unfold b_is_less
  walk_at "wg"
  exact sp_pair_n h k
theorem sp_floor {k : Nat} {p : Int × Int} (hp : Fr k p) (hk : k < 4000) (h : Q (.int (p.1.fdiv p.2)) [.val (frD p)]) : wp r_floor_of Q E [.val (frD p)] := by
  have m1 : divOk p.2 = true := divOk_sm hp.s2 (by omega) (by have := hp.pos; omega)
  refine wp_fnM rfl rfl ?_
  walk_at "wn"
  unfold b_floor_of
  walk_at "wg"
  refine sp_check_y hp ?_
  unfold frD
  walk_at "wg"
  exact h
theorem sp_ceiling {k : Nat} {p : Int × Int} (hp : Fr k p) (hk : k < 4000) (h : Q (.int (-((-p.1).fdiv p.2))) [.val (frD p)]) : wp r_ceiling_of Q E [.val (frD p)] := by
  have m1 : divOk p.2 = true := divOk_sm hp.s2 (by omega) (by have := hp.pos; omega)
  refine wp_fnM rfl rfl ?_
  walk_at "wn"
  unfold b_ceiling_of
  walk_at "wg"
  refine sp_check_y hp ?_
  unfold frD
  walk_at "wg"
  exact h
theorem sp_floor_n {x : D} (h : isFr x = false) (k : E "InvalidFraction" [.val x]) : wp r_floor_of Q E [.val x] := by
  refine wp_fnM rfl rfl ?_
  walk_at "wn"
  unfold b_floor_of
  walk_at "wg"
  exact sp_check (fun e => by rw [h] at e; cases e) (fun _ => k)
theorem sp_ceiling_n {x : D} (h : isFr x = false) (k : E "InvalidFraction" [.val x]) : wp r_ceiling_of Q E [.val x] := by
  refine wp_fnM rfl rfl ?_
  walk_at "wn"
  unfold b_ceiling_of
  walk_at "wg"
  exact sp_check (fun e => by rw [h] at e; cases e) (fun _ => k)
theorem sp_fraction {k : Nat} {n d : Int} (hd : d ≠ 0) (hs : Sm k d) (hk : k < 4000) (h : Q (frD (mk n d)) [.val (.int n), .val (.int d)]) : wp r_fraction Q E [.val (.int n), .val (.int d)] := by
  refine wp_fnM rfl rfl ?_
  walk_at "wn"
  unfold b_fraction
  walk_at "wg"
  refine BrD.no hd ?_
  walk_at "wg"
  exact sp_made (divOk_com hd hs (by omega)) h
theorem sp_fraction_n {x y : D} (hd : (isI x && isI y) = false ∨ y = .int 0) (h : E "InvalidFraction" [.val x, .val y]) : wp r_fraction Q E [.val x, .val y] := by
  refine wp_fnM rfl rfl ?_
  walk_at "wn"
  unfold b_fraction
  walk_at "wg"
  cases x with
  | int a =>
    walk_at "wg"
    cases y with
    | int b =>
      walk_at "wg"
      refine BrD.yes ?_ ?_
      · rcases hd with hd | hd
        · cases hd
        · cases hd
          rfl
      · walk_at "wg"
        exact h
    | _ => walk_at "wg"; exact h
  | _ => walk_at "wg"; exact h
end
end K00

namespace K00
open PySem L2 Pd Frac
section
variable {Q : D → Sto → Prop} {E : Str → Sto → Prop} {η : Sto}
instance {d : D} : PR (wp r_is_fraction Q E [.val d]) (Q (.bl (isFr d)) [.val d]) := ⟨sp_isfr⟩
def RefC (w : Int) (x y : D) : Prop := (w = 0 ∧ ((isI x && isI y) = false ∨ y = .int 0)) ∨ (1 ≤ w ∧ w ≤ 5 ∧ (isFr x && isFr y) = false) ∨ (w = 4 ∧ ∃ k p q, Fr k p ∧ Fr k q ∧ q.1 = 0 ∧ x = frD p ∧ y = frD q) ∨ ((w = 6 ∨ w = 7) ∧ isFr x = false)
theorem refused_body {K : Kt} {w : Int} {x y : D} {s t : Slot} (h : RefC w x y) (k : K.ex "InvalidFraction" [.val (.int w), .val x, .val y, s, t]) : wps b__law_refused_y7 K [.val (.int w), .val x, .val y, s, t] := by
  rcases h with ⟨h1, h⟩ | ⟨h1, h2, h⟩ | ⟨h1, k', p, q, hp, hq, h, rfl, rfl⟩ | ⟨h1, h⟩
  · subst h1
    unfold b__law_refused_y7
    walk_at "wg"
    unfold b__law_refused_t1
    walk_at "wg"
    exact sp_fraction_n h k
  · have sw : w = 1 ∨ w = 2 ∨ w = 3 ∨ w = 4 ∨ w = 5 := by omega
    rcases sw with h1 | h1 | h1 | h1 | h1 <;> subst h1
    · unfold b__law_refused_y7
      walk_at "wg"
      unfold b__law_refused_t1
      walk_at "wg"
      exact sp_added_n h k
    · unfold b__law_refused_y7
      walk_at "wg"
      unfold b__law_refused_e6
      walk_at "wg"
      unfold b__law_refused_t2
      walk_at "wg"
      exact sp_taken_n h k
    · unfold b__law_refused_y7
      walk_at "wg"
      unfold b__law_refused_e6
      walk_at "wg"
      unfold b__law_refused_t2
      walk_at "wg"
      exact sp_multiplied_n h k
    · unfold b__law_refused_y7
      walk_at "wg"
      unfold b__law_refused_e6
      walk_at "wg"
      unfold b__law_refused_e5
      walk_at "wg"
      unfold b__law_refused_t3
      walk_at "wg"
      exact sp_divided_n h k
    · unfold b__law_refused_y7
      walk_at "wg"
      unfold b__law_refused_e6
      walk_at "wg"
      unfold b__law_refused_e5
      walk_at "wg"
      unfold b__law_refused_t3
      walk_at "wg"
      exact sp_less_n h k
  · subst h1
    unfold b__law_refused_y7
    walk_at "wg"
    unfold b__law_refused_e6
    walk_at "wg"
    unfold b__law_refused_e5
    walk_at "wg"
    unfold b__law_refused_t3
    walk_at "wg"
    exact sp_divided0 hp hq h k
  · rcases h1 with h1 | h1 <;> subst h1
    · unfold b__law_refused_y7
      walk_at "wg"
      unfold b__law_refused_e6
      walk_at "wg"
      unfold b__law_refused_e5
      walk_at "wg"
      unfold b__law_refused_e4
      walk_at "wg"
      exact sp_floor_n h k
    · unfold b__law_refused_y7
      walk_at "wg"
      unfold b__law_refused_e6
      walk_at "wg"
      unfold b__law_refused_e5
      walk_at "wg"
      unfold b__law_refused_e4
      walk_at "wg"
      exact sp_ceiling_n h k
theorem sp_refused {w : Int} {x y : D} (h : RefC w x y) (k : Q (.bl true) [.val (.int w), .val x, .val y]) : wp r__law_refused Q E [.val (.int w), .val x, .val y] := by
  refine wp_fnM rfl rfl ?_
  walk_at "wn"
  unfold b__law_refused
  walk_at "wg"
  refine refused_body h ?_
  walk_at "wg"
  exact k
/-! the pool -/
def poD (a b c : Int) : D := .lst [.int a, .int b, .int c]
structure Pool (k : Nat) (a b c : Int) : Prop where
  a0 : 0 ≤ a
  as : Sm 1100000 a
  b0 : 0 ≤ b
  b1 : b < 2305843009213693951
  c0 : 0 ≤ c
  c1 : c ≤ k
theorem Pool.mono {k l : Nat} {a b c : Int} (h : Pool k a b c) (e : k ≤ l) : Pool l a b c := ⟨h.a0, h.as, h.b0, h.b1, h.c0, by have := h.c1; omega⟩
theorem ten24 : (10 : Int) ^ (24 : Int).toNat = 1000000000000000000000000 := by decide
theorem sp_pool {z : Int} (hz : Sm 1048577 z) (k : ∀ a b c, Pool 1 a b c → Q (poD a b c) [.val (.int z)]) : wp r__law_pool Q E [.val (.int z)] := by
  refine wp_fnF rfl rfl ?_
  walk_at "wn"
  unfold b__law_pool
  walk_at "wg"
  refine k _ _ 1 ⟨?_, ?_, ?_, ?_, by decide, by decide⟩
  · split <;> omega
  · rw [ten24]
    split
    · exact (hz.sub (show Sm 80 1000000000000000000000000 by unfold Sm; decide)).mono (by decide)
    · exact (show Sm 64 0 by unfold Sm; decide).mono (by decide)
  · exact Int.fmod_nonneg_of_pos _ (by decide)
  · exact Int.fmod_lt_of_pos _ (by decide)
theorem sp_next {k : Nat} {a b c many : Int} (hp : Pool k a b c) (hk : k < 1000000) (hm : 0 < many) (hs : Sm 400 many) (q : ∀ v a b c, 0 ≤ v → v < many → Pool (k + 1) a b c → Q (.int v) [.own true (poD a b c), .val (.int many)]) : wp r__law_next Q E [.own true (poD a b c), .val (.int many)] := by
  obtain ⟨a0, as, b0, b1, c0, c1⟩ := hp
  have hb : Sm 64 b := by unfold Sm; omega
  have hc : Sm 64 (c + 1) := by unfold Sm; omega
  refine wp_fnM rfl rfl ?_
  unfold poD
  walk_at "wn"
  unfold b__law_next
  walk_at "wg"
  refine BrD.dec (fun h => ?_) (fun h => ?_)
  · unfold b__law_next_t1
    walk_at "wg"
    refine q _ _ _ _ (Int.fmod_nonneg_of_pos _ hm) (Int.fmod_lt_of_pos _ hm) ⟨?_, ?_, b0, b1, by omega, by omega⟩
    · exact Int.fdiv_nonneg (by omega) (by omega)
    · refine Sm.rng as (Int.fdiv_nonneg (by omega) (by omega)) ?_
      rw [Int.fdiv_eq_ediv_of_nonneg _ (by omega)]
      exact Int.ediv_le_self _ (by omega)
  · walk_at "wg"
    refine q _ _ _ _ (Int.fmod_nonneg_of_pos _ hm) (Int.fmod_lt_of_pos _ hm) ⟨a0, as, Int.fmod_nonneg_of_pos _ (by decide), Int.fmod_lt_of_pos _ (by decide), by omega, by omega⟩
/-- a draw, in a caller -/
theorem cal_next {k i : Nat} {bb : Bool} {a b c many : Int} (e : η[i]? = some (.own bb (poD a b c))) (hp : Pool k a b c) (hk : k < 1000000) (hm : 0 < many) (hs : Sm 400 many)
    (q : ∀ v a b c, 0 ≤ v → v < many → Pool (k + 1) a b c → Q (.int v) (η.set i (.own bb (poD a b c)))) : wp (callM noLst r__law_next (some 0) [.bor i, .val (.int many)]) Q E η :=
  wp_io (ds := [.int many]) rfl e (sp_next hp hk hm hs fun v a b c h0 h1 h2 => ⟨_, _, rfl, q v a b c h0 h1 h2⟩)
theorem sp_one {k : Nat} {a b c : Int} {ds : List D} (hp : Pool k a b c) (hk : k < 1000000) (hm : 0 < ds.length) (hs : ds.length < 1000) (q : ∀ d a b c, d ∈ ds → Pool (k + 1) a b c → Q d [.own true (poD a b c), .val (.lst ds)]) : wp r__law_one_of Q E [.own true (poD a b c), .val (.lst ds)] := by
  refine wp_fnM rfl rfl ?_
  walk_at "wn"
  unfold b__law_one_of
  walk_at "wg"
  refine cal_next rfl hp hk (by omega) (by unfold Sm; omega) fun v a b c h0 h1 h2 => ?_
  walk_at "wn"
  walk_at "wg"
  refine som_i (x := ds[v.toNat]'(by omega)) ?_ ?_
  · show (ixN ds.length v).bind (fun j => ds[j]?) = _
    rw [ixN_nat h0 (by omega)]
    exact List.getElem?_eq_getElem _
  · walk_at "wg"
    exact q _ _ _ _ (List.getElem_mem _) h2
theorem cal_one {k i : Nat} {bb : Bool} {a b c : Int} {ds : List D} (e : η[i]? = some (.own bb (poD a b c))) (hp : Pool k a b c) (hk : k < 1000000) (hm : 0 < ds.length) (hs : ds.length < 1000)
    (q : ∀ d a b c, d ∈ ds → Pool (k + 1) a b c → Q d (η.set i (.own bb (poD a b c)))) : wp (callM noLst r__law_one_of (some 0) [.bor i, .val (.lst ds)]) Q E η :=
  wp_io (ds := [.lst ds]) rfl e (sp_one hp hk hm hs fun v a b c h1 h2 => ⟨_, _, rfl, q v a b c h1 h2⟩)
/-! the law's own divisor -/
def absI (a : Int) : Int := if a < 0 then -a else a
theorem absI_nat (a : Int) : absI a = (a.natAbs : Int) := by unfold absI; split <;> omega
/-- ahead of a turn -/
def GInv (K : Nat) (n d : Int) (i : Nat) (η : Sto) : Prop := ∃ (a b : Nat) (t : Slot), η = [.val (.int a), .val (.int b), t] ∧ canSets (some t) = true ∧ Nat.gcd a b = Nat.gcd n.natAbs d.natAbs ∧ (i = 0 → a * b < 2 ^ K) ∧ (0 < i → b ≤ a ∧ (b = 0 ∨ a * b < 2 ^ (K + 1 - i))) ∧ a < 2 ^ K ∧ b < 2 ^ K
theorem half {a b : Nat} (h : b ≤ a) (hb : 0 < b) {m : Nat} (e : a * b < 2 ^ (m + 1)) : b * (a % b) < 2 ^ m := by
  have h1 := Nat.div_add_mod a b
  have h2 := Nat.mod_lt a hb
  have h3 : 1 ≤ a / b := Nat.div_pos h hb
  have h4 : b * 1 ≤ b * (a / b) := Nat.mul_le_mul_left b h3
  have h5 : 2 * (a % b) ≤ a := by omega
  have h6 : b * (2 * (a % b)) ≤ b * a := Nat.mul_le_mul_left b h5
  have h7 : b * (2 * (a % b)) = 2 * (b * (a % b)) := by rw [Nat.mul_left_comm]
  rw [Nat.mul_comm b a] at h6
  rw [Nat.pow_succ] at e
  omega
theorem sp_gcd {k : Nat} {n d : Int} (hn : Sm k n) (hd : Sm k d) (hk : k < 9000) (q : Q (.int ((Nat.gcd n.natAbs d.natAbs : Nat) : Int)) [.val (.int n), .val (.int d)]) : wp r__law_gcd Q E [.val (.int n), .val (.int d)] := by
  refine wp_fnM rfl rfl ?_
  walk_at "wn"
  unfold b__law_gcd
  walk_at "wg"
  refine wps_range (n := 20000) (GInv (2 * k) n d) ?_ ?_ ?_
  · refine ⟨n.natAbs, d.natAbs, .no, ?_, rfl, rfl, fun _ => ?_, fun h => absurd h (by decide), ?_, ?_⟩
    · have e1 := absI_nat n
      have e2 := absI_nat d
      unfold absI at e1 e2
      rw [e1, e2]
    · unfold Sm at hn hd
      have := Nat.mul_lt_mul'' hn hd
      rw [← Nat.pow_add, show k + k = 2 * k by omega] at this
      exact this
    · exact Nat.lt_of_lt_of_le hn (Nat.pow_le_pow_right (by decide) (by omega))
    · exact Nat.lt_of_lt_of_le hd (Nat.pow_le_pow_right (by decide) (by omega))
  · rintro i η' hi ⟨a, b, t, rfl, ht, hg, h0, hm, ha, hb⟩
    have hc : canSet [Slot.val (.int a), Slot.val (.int b), t] 2 = true := by
      rw [ev_canSet]
      exact ht
    walk_at "wg"
    unfold b__law_gcd_f1
    walk_at "wg"
    refine BrD.dec (fun h => ?_) (fun h => ?_)
    · walk_at "wg"
      have hb0 : b = 0 := by omega
      subst hb0
      rw [Nat.gcd_zero_right] at hg
      rw [← hg] at q
      exact q
    · walk_at "wg"
      have hb0 : 0 < b := by omega
      refine ⟨b, a % b, .val (.int (0 + (i : Int))), ?_, rfl, ?_, fun z => absurd z (by omega), fun _ => ⟨Nat.le_of_lt (Nat.mod_lt _ hb0), ?_⟩, hb, Nat.lt_trans (Nat.mod_lt _ hb0) hb⟩
      · rw [Int.fmod_eq_emod_of_nonneg _ (by omega)]
        rfl
      · rw [← hg, Nat.gcd_comm b, ← Nat.gcd_rec, Nat.gcd_comm]
      · right
        by_cases hi0 : i = 0
        · have h0 := h0 hi0
          have h3 : b * (a % b) ≤ b * a := Nat.mul_le_mul_left b (Nat.mod_le a b)
          rw [Nat.mul_comm b a] at h3
          subst hi0
          rw [show 2 * k + 1 - (0 + 1) = 2 * k by omega]
          omega
        · obtain ⟨h3, h4⟩ := hm (by omega)
          have h4 : a * b < 2 ^ (2 * k + 1 - i) := h4.resolve_left (by omega)
          by_cases hz : 2 * k + 1 - i = 0
          · rw [hz] at h4
            have := Nat.mul_pos (show 0 < a by omega) hb0
            omega
          · rw [show 2 * k + 1 - (i + 1) = 2 * k - i by omega]
            exact half h3 hb0 (by rw [show 2 * k - i + 1 = 2 * k + 1 - i by omega]; exact h4)
  · rintro η' ⟨a, b, t, rfl, ht, hg, h0, hm, ha, hb⟩
    obtain ⟨h3, h4⟩ := hm (by decide)
    have hb0 : b = 0 := by
      rcases h4 with h4 | h4
      · exact h4
      · rw [show 2 * k + 1 - 20000 = 0 by omega] at h4
        by_cases z : b = 0
        · exact z
        · have := Nat.mul_pos (show 0 < a by omega) (show 0 < b by omega)
          omega
    subst hb0
    rw [Nat.gcd_zero_right] at hg
    rw [← hg] at q
    walk_at "wg"
    exact q
theorem sp_lmade {k : Nat} {n d : Int} (hn : Sm k n) (hd : Sm k d) (hz : d ≠ 0) (hk : k < 9000) (q : Q (frD (mk n d)) [.val (.int n), .val (.int d)]) : wp r__law_made Q E [.val (.int n), .val (.int d)] := by
  have h : divOk (com n d) = true := divOk_com hz hd hk
  refine wp_fnM rfl rfl ?_
  walk_at "wn"
  unfold b__law_made
  walk_at "wg"
  refine sp_gcd hn hd hk ?_
  walk_at "wg"
  unfold com at h
  refine BrD.dec (fun hd => ?_) (fun hd => ?_)
  · rw [if_pos hd] at h
    walk_at "wg"
    unfold frD mk com at q
    rw [if_pos hd] at q
    exact q
  · rw [if_neg hd] at h
    walk_at "wg"
    unfold frD mk com at q
    rw [if_neg hd] at q
    exact q
theorem sp_lis_int {d : D} (h : Q (.bl (isI d)) [.val d]) : wp r__law_is_int Q E [.val d] := by
  refine wp_fnM rfl rfl ?_
  walk_at "wn"
  unfold b__law_is_int
  cases d <;> (walk_at "wg"; exact h)
instance {d : D} : PR (wp r__law_is_int Q E [.val d]) (Q (.bl (isI d)) [.val d]) := ⟨sp_lis_int⟩
theorem sp_lis_tup {d : D} (h : Q (.bl (is2 d)) [.val d, .val (.int 2)]) : wp r__law_is_tuple Q E [.val d, .val (.int 2)] := by
  refine wp_fnM rfl rfl ?_
  walk_at "wn"
  unfold b__law_is_tuple
  cases d with
  | tup ds =>
    walk_at "wg"
    have e : decide ((ds.length : Int) = 2) = is2 (.tup ds) := by
      match ds with
      | [] => rfl
      | [_] => rfl
      | [_, _] => rfl
      | _ :: _ :: _ :: r =>
        simp only [is2, List.length_cons, decide_eq_false_iff_not]
        omega
    rw [e]
    exact h
  | _ => walk_at "wg"; exact h
instance {d : D} : PR (wp r__law_is_tuple Q E [.val d, .val (.int 2)]) (Q (.bl (is2 d)) [.val d, .val (.int 2)]) := ⟨sp_lis_tup⟩
/-- the ints of a pair are small -/
def SmP (k : Nat) (d : D) : Prop := ∀ a b, d = .tup [.int a, .int b] → Sm k a ∧ Sm k b
theorem sp_lfr {k : Nat} {d : D} (hd : SmP k d) (hk : k < 9000) (h : Q (.bl (isFr d)) [.val d]) : wp r__law_is_fraction Q E [.val d] := by
  refine wp_fnM rfl rfl ?_
  walk_at "wn"
  unfold b__law_is_fraction
  walk_at "wg"
  cases e : is2 d with
  | false =>
    walk_at "wg"
    rw [isFr_no e] at h
    exact h
  | true =>
    unfold is2 at e
    split at e
    · rename_i x y
      walk_at "wg"
      cases x with
      | int a =>
        walk_at "wg"
        cases y with
        | int b =>
          walk_at "wg"
          have ei : isFr (.tup [.int a, .int b]) = (decide (1 ≤ b) && decide (((Nat.gcd a.natAbs b.natAbs : Nat) : Int) = 1)) := rfl
          rw [ei] at h
          obtain ⟨s1, s2⟩ := hd a b rfl
          refine BrD.dec (fun hb => ?_) (fun hb => ?_)
          · walk_at "wg"
            refine sp_gcd s1 s2 hk ?_
            walk_at "wg"
            rw [decide_eq_true (show 1 ≤ b by omega), Bool.true_and] at h
            exact h
          · walk_at "wg"
            rw [decide_eq_false (show ¬ 1 ≤ b by omega), Bool.false_and] at h
            exact h
        | _ => walk_at "wg"; exact h
      | _ => walk_at "wg"; exact h
    · cases e
end
end K00

namespace K00
open PySem L2 Pd Frac
section
variable {Q : D → Sto → Prop} {E : Str → Sto → Prop} {η : Sto}
/-- nested tuples and lists of plain values, not deep, not long -/
def Pl : Nat → D → Prop
  | _, .non => True
  | _, .bl _ => True
  | _, .int _ => True
  | n + 1, .tup ds => ds.length ≤ 1000 ∧ ∀ d ∈ ds, Pl n d
  | n + 1, .lst ds => ds.length ≤ 1000 ∧ ∀ d ∈ ds, Pl n d
  | _, _ => False
theorem ix_tup {ds : List D} {i : Nat} (hi : i < ds.length) : idxD (.tup ds) (.int (0 + (i : Int))) = some ds[i] := by
  show (ixN ds.length (0 + (i : Int))).bind (fun j => ds[j]?) = _
  rw [ixN_nat (by omega) (by omega)]
  show ds[(0 + (i : Int)).toNat]? = _
  rw [show (0 + (i : Int)).toNat = i by omega]
  exact List.getElem?_eq_getElem _
theorem ix_lst {ds : List D} {i : Nat} (hi : i < ds.length) : idxD (.lst ds) (.int (0 + (i : Int))) = some ds[i] := ix_tup hi
theorem sp_same_seq {n : Nat} {ds : List D} {d : D} (hd : d = .tup ds ∨ d = .lst ds) (hl : ds.length ≤ 1000) (ih : ∀ x ∈ ds, ∀ (Q : D → Sto → Prop) (E : Str → Sto → Prop), Q (.bl true) [.val x, .val x] → wp (r__law_same n) Q E [.val x, .val x])
    (h : Q (.bl true) [.val d, .val d]) : wp (r__law_same (n + 1)) Q E [.val d, .val d] := by
  refine wp_fnM rfl rfl ?_
  walk_at "wn"
  unfold b__law_same
  rcases hd with rfl | rfl
  · walk_at "wg"
    unfold b__law_same_t1
    walk_at "wg"
    refine BrD.yes rfl ?_
    walk_at "wg"
    refine wp_compT (n := ds.length) (by omega) (fun i hi => ?_) ?_
    · walk_at "wg"
      refine som_i (ix_tup hi) ?_
      walk_at "wg"
      refine som_i (ix_tup hi) ?_
      walk_at "wg"
      exact ih _ (List.getElem_mem _) _ _ ⟨rfl, rfl⟩
    · walk_at "wg"
      exact h
  · walk_at "wg"
    unfold b__law_same_t1
    walk_at "wg"
    refine BrD.yes rfl ?_
    walk_at "wg"
    refine wp_compT (n := ds.length) (by omega) (fun i hi => ?_) ?_
    · walk_at "wg"
      refine som_i (ix_lst hi) ?_
      walk_at "wg"
      refine som_i (ix_lst hi) ?_
      walk_at "wg"
      exact ih _ (List.getElem_mem _) _ _ ⟨rfl, rfl⟩
    · walk_at "wg"
      exact h
theorem sp_same_at {n : Nat} {d : D} (hd : d = .non ∨ (∃ b, d = .bl b) ∨ ∃ i, d = .int i) (h : Q (.bl true) [.val d, .val d]) : wp (r__law_same (n + 1)) Q E [.val d, .val d] := by
  refine wp_fnM rfl rfl ?_
  walk_at "wn"
  unfold b__law_same
  rcases hd with rfl | ⟨b, rfl⟩ | ⟨i, rfl⟩
  · walk_at "wg"
    exact h
  · walk_at "wg"
    unfold b__law_same_t2
    walk_at "wg"
    rw [show (b == b) = true by cases b <;> rfl]
    exact h
  · walk_at "wg"
    unfold b__law_same_t3
    walk_at "wg"
    rw [decide_eq_true (rfl : i = i)]
    exact h
theorem sp_same : ∀ (n : Nat) {d : D} (Q : D → Sto → Prop) (E : Str → Sto → Prop), Pl n d → Q (.bl true) [.val d, .val d] → wp (r__law_same (n + 1)) Q E [.val d, .val d]
  | n, .non, _, _, _, h => sp_same_at (.inl rfl) h
  | n, .bl b, _, _, _, h => sp_same_at (.inr (.inl ⟨b, rfl⟩)) h
  | n, .int b, _, _, _, h => sp_same_at (.inr (.inr ⟨b, rfl⟩)) h
  | n, .str b, _, _, hp, h => by cases n <;> exact hp.elim
  | n, .dct _ _, _, _, hp, h => by cases n <;> exact hp.elim
  | n, .scr _, _, _, hp, h => by cases n <;> exact hp.elim
  | 0, .tup _, _, _, hp, _ => hp.elim
  | 0, .lst _, _, _, hp, _ => hp.elim
  | n + 1, .tup ds, _, _, hp, h => sp_same_seq (.inl rfl) hp.1 (fun x hx Q E hq => sp_same n Q E (hp.2 x hx) hq) h
  | n + 1, .lst ds, _, _, hp, h => sp_same_seq (.inr rfl) hp.1 (fun x hx Q E hq => sp_same n Q E (hp.2 x hx) hq) h
/-- where the two are the same -/
theorem same_12 {d e : D} (he : d = e) (hp : Pl 11 d) (h : Q (.bl true) [.val d, .val e]) : wp (r__law_same 12) Q E [.val d, .val e] := by
  subst he
  exact sp_same 11 Q E hp h
/-! a bent value -/
def SmE (k : Nat) (d : D) : Prop := SmP k d ∧ ∀ z, d = .int z → Sm k z
theorem bent_int {k m n : Nat} {a b c z : Int} {odd : List D} (hp : Pool k a b c) (hk : k < 999990) (h0 : 0 < odd.length) (h1 : odd.length < 1000)
    (q : ∀ d a b c, d ∈ odd → Pool (k + 1) a b c → Q d [.own true (poD a b c), .val (.int z), .val (.lst odd)]) : wp (r__law_bent (n + 1)) Q E [.own true (poD a b c), .val (.int z), .val (.lst odd)] := by
  refine wp_fnM rfl rfl ?_
  walk_at "wn"
  unfold b__law_bent
  walk_at "wg"
  unfold b__law_bent_t1
  walk_at "wg"
  refine cal_one rfl hp (by omega) h0 h1 fun d a b c hd h2 => ?_
  walk_at "wn"
  walk_at "wg"
  exact q d a b c hd h2
theorem SmP.no {k : Nat} {d : D} (h : is2 d = false) : SmP k d := fun a b e => by subst e; cases h
theorem pair_sm {m : Nat} {x y : Int} (hx : Sm m x) (hy : Sm m y) : SmP m (.tup [.int x, .int y]) := fun a b e => by cases e; exact ⟨hx, hy⟩
theorem sp_bent {k m : Nat} {a b c x y : Int} {odd : List D} (hp : Pool k a b c) (hk : k < 999980) (h0 : 0 < odd.length) (h1 : odd.length < 1000) (ho : ∀ d ∈ odd, SmE m d) (hx : Sm m x) (hy : Sm m y)
    (q : ∀ d a b c, SmP m d → Pool (k + 4) a b c → Q d [.own true (poD a b c), .val (.tup [.int x, .int y]), .val (.lst odd)]) : wp (r__law_bent 12) Q E [.own true (poD a b c), .val (.tup [.int x, .int y]), .val (.lst odd)] := by
  refine wp_fnM rfl rfl ?_
  walk_at "wn"
  unfold b__law_bent
  walk_at "wg"
  refine cal_next rfl hp (by omega) (by decide) (by walk_at "sm") fun v a b c h2 h3 hp1 => ?_
  walk_at "wn"
  walk_at "wg"
  refine BrD.dec (fun hv => ?_) (fun hv => ?_)
  · unfold b__law_bent_t1
    walk_at "wg"
    refine cal_one rfl hp1 (by omega) h0 h1 fun d a b c hd h2 => ?_
    walk_at "wn"
    walk_at "wg"
    exact q d a b c (ho d hd).1 (h2.mono (by omega))
  walk_at "wg"
  refine cal_next rfl hp1 (by omega) (by decide) (show Sm 400 2 by unfold Sm; decide) fun v1 a b c h4 h5 hp2 => ?_
  walk_at "wn"
  walk_at "wg"
  refine cal_next rfl hp2 (by omega) (by decide) (by walk_at "sm") fun way a b c h6 h7 hp3 => ?_
  walk_at "wn"
  walk_at "wg"
  have hk01 : v1 = 0 ∨ v1 = 1 := by
    have : v1 < 2 := h5
    omega
  rcases hk01 with rfl | rfl
  all_goals
    refine BrD.dec (fun hw => ?_) (fun hw => ?_)
    · unfold b__law_bent_t2
      walk_at "wg"
      exact q _ _ _ _ (SmP.no rfl) (hp3.mono (by omega))
    walk_at "wg"
    refine BrD.dec (fun hw => ?_) (fun hw => ?_)
    · unfold b__law_bent_t3
      walk_at "wg"
      exact q _ _ _ _ (SmP.no rfl) (hp3.mono (by omega))
    walk_at "wg"
    refine BrD.dec (fun hw => ?_) (fun hw => ?_)
    · unfold b__law_bent_t4
      walk_at "wg"
      first
        | exact q _ _ _ _ (pair_sm hx hy) (hp3.mono (by omega))
        | exact q _ _ _ _ (pair_sm hy hx) (hp3.mono (by omega))
    walk_at "wg"
    refine BrD.dec (fun hw => ?_) (fun hw => ?_)
    · walk_at "wg"
      exact q _ _ _ _ (SmP.no rfl) (hp3.mono (by omega))
    walk_at "wg"
    refine wp_io (ds := [.int _, .lst odd]) rfl rfl (bent_int (k := k + 1 + 1 + 1) (m := m) hp3 (by omega) h0 h1 fun d a b c hd h2 => ⟨_, _, rfl, ?_⟩)
    walk_at "wn"
    walk_at "wg"
    refine q _ _ _ _ (fun x' y' e => ?_) (h2.mono (by omega))
    have ho := (ho d hd).2
    cases e
    first
      | exact ⟨ho _ rfl, hy⟩
      | exact ⟨hx, ho _ rfl⟩
def sizesL : List D := [.int 10, .int 10, .int 1000, .int (10 ^ (9 : Int).toNat), .int (10 ^ (28 : Int).toNat)]
theorem sizes_at {d : D} (h : d ∈ sizesL) : ∃ s : Int, d = .int s ∧ 10 ≤ s ∧ s ≤ 10 ^ 28 := by
  unfold sizesL at h
  simp only [List.mem_cons, List.not_mem_nil, or_false] at h
  rcases h with rfl | rfl | rfl | rfl | rfl
  all_goals exact ⟨_, rfl, by decide, by decide⟩
theorem sm28 {s : Int} (h0 : 0 ≤ s) (h : s ≤ 10 ^ 28) : Sm 94 s := by unfold Sm; omega
theorem sm10 {v : Int} (h0 : 0 ≤ v) (h : v < 10 ^ (10 : Int).toNat) : Sm 40 v := by
  have e : (10 : Int) ^ (10 : Int).toNat = 10000000000 := by decide
  rw [e] at h
  unfold Sm
  omega
theorem sp_great {k : Nat} {a b c : Int} (hp : Pool k a b c) (hk : k < 999980) (q : ∀ p a b c, Fr 94 p → Pool (k + 9) a b c → Q (frD p) [.own true (poD a b c), .val (.lst sizesL)]) : wp r__law_great Q E [.own true (poD a b c), .val (.lst sizesL)] := by
  refine wp_fnM rfl rfl ?_
  walk_at "wn"
  unfold b__law_great
  walk_at "wg"
  refine cal_one rfl hp (by omega) (by decide) (by decide) fun d a b c hd hp1 => ?_
  obtain ⟨s, rfl, hs0, hs1⟩ := sizes_at hd
  have hss := sm28 (by omega) hs1
  walk_at "wn"
  walk_at "wg"
  refine cal_next rfl hp1 (by omega) (by decide) (by walk_at "sm") fun v1 a b c h1 h2 hp2 => ?_
  have e1 := sm10 h1 h2
  walk_at "wn"
  walk_at "wg"
  refine cal_next rfl hp2 (by omega) (by decide) (by walk_at "sm") fun v2 a b c h1 h2 hp3 => ?_
  have e2 := sm10 h1 h2
  walk_at "wn"
  walk_at "wg"
  refine cal_next rfl hp3 (by omega) (by decide) (by walk_at "sm") fun v3 a b c h1 h2 hp4 => ?_
  walk_at "wn"
  walk_at "wg"
  generalize hN : (v1 * 10 ^ Int.toNat 20 + v2 * 10 ^ Int.toNat 10 + v3).fmod s = N
  have n0 : 0 ≤ N := by rw [← hN]; exact Int.fmod_nonneg_of_pos _ (by omega)
  have n1 : N < s := by rw [← hN]; exact Int.fmod_lt_of_pos _ (by omega)
  clear hN
  refine cal_next rfl hp4 (by omega) (by decide) (by walk_at "sm") fun v4 a b c h1 h2 hp5 => ?_
  have e4 := sm10 h1 h2
  walk_at "wn"
  walk_at "wg"
  refine cal_next rfl hp5 (by omega) (by decide) (by walk_at "sm") fun v5 a b c h1 h2 hp6 => ?_
  have e5 := sm10 h1 h2
  walk_at "wn"
  walk_at "wg"
  refine cal_next rfl hp6 (by omega) (by decide) (by walk_at "sm") fun v6 a b c h1 h2 hp7 => ?_
  walk_at "wn"
  walk_at "wg"
  generalize hM : (v4 * 10 ^ Int.toNat 20 + v5 * 10 ^ Int.toNat 10 + v6).fmod (s - 1) = M
  have m0 : 0 ≤ M := by rw [← hM]; exact Int.fmod_nonneg_of_pos _ (by omega)
  have m1 : M < s - 1 := by rw [← hM]; exact Int.fmod_lt_of_pos _ (by omega)
  clear hM
  have sN : Sm 94 N := sm28 n0 (by omega)
  have sM : Sm 94 (1 + M) := sm28 (by omega) (by omega)
  refine cal_next rfl hp7 (by omega) (by decide) (by walk_at "sm") fun v7 a b c _ _ hp8 => ?_
  walk_at "wn"
  walk_at "wg"
  refine BrD.dec (fun hv => ?_) (fun hv => ?_)
  all_goals
    walk_at "wg"
    refine cal_next rfl hp8 (by omega) (by decide) (by walk_at "sm") fun v8 a b c _ _ hp9 => ?_
    walk_at "wn"
    walk_at "wg"
    refine BrD.dec (fun hw => ?_) (fun hw => ?_)
    all_goals
      walk_at "wg"
      first
        | refine sp_lmade sN sM (by omega) (by decide) ?_
        | refine sp_lmade sN.neg sM (by omega) (by decide) ?_
        | refine sp_lmade sN (show Sm 94 1 by unfold Sm; decide) (by decide) (by decide) ?_
        | refine sp_lmade sN.neg (show Sm 94 1 by unfold Sm; decide) (by decide) (by decide) ?_
      walk_at "wg"
      first
        | exact q _ _ _ _ (mk_fr (by omega) sN sM) (hp9.mono (by omega))
        | exact q _ _ _ _ (mk_fr (by omega) sN.neg sM) (hp9.mono (by omega))
        | exact q _ _ _ _ (mk_fr (by decide) sN (show Sm 94 1 by unfold Sm; decide)) (hp9.mono (by omega))
        | exact q _ _ _ _ (mk_fr (by decide) sN.neg (show Sm 94 1 by unfold Sm; decide)) (hp9.mono (by omega))
end
end K00

namespace K00
open PySem L2 Pd Frac
section
variable {Q : D → Sto → Prop} {E : Str → Sto → Prop} {η : Sto}
def recL (p q : Int × Int) : List D := [frD (sumF p q), frD (sumF p (negF q)), frD (mulF p q), .bl (lessF p q), .bl (lessF q p), .bl false] ++ [.int (p.1.fdiv p.2), .int (-((-p.1).fdiv p.2)), frD p, .bl true, .bl true]
theorem lessF_self (p : Int × Int) : lessF p p = false := by unfold lessF; simp
theorem sp_rec {k : Nat} {p q : Int × Int} (hp : Fr k p) (hq : Fr k q) (hk : k < 4000) (h : Q (.lst (recL p q)) [.val (frD p), .val (frD q)]) : wp r__law_reckoned Q E [.val (frD p), .val (frD q)] := by
  refine wp_fnM rfl rfl ?_
  walk_at "wn"
  unfold b__law_reckoned
  walk_at "wg"
  refine sp_added hp hq hk ?_
  walk_at "wg"
  refine sp_taken hp hq hk ?_
  walk_at "wg"
  refine sp_multiplied hp hq hk ?_
  walk_at "wg"
  refine sp_less hp hq hk ?_
  walk_at "wg"
  refine sp_less hq hp hk ?_
  walk_at "wg"
  refine sp_less hp hp hk ?_
  walk_at "wg"
  refine sp_floor hp hk ?_
  walk_at "wg"
  refine sp_ceiling hp hk ?_
  walk_at "wg"
  refine sp_fraction (by have := hp.pos; omega) hp.s2 hk ?_
  walk_at "wg"
  unfold recL at h
  rw [lessF_self, mk_self hp, isFr_fr hp, isFr_fr hq]
  exact h
theorem sp_due {k : Nat} {p q : Int × Int} (hp : Fr k p) (hq : Fr k q) (hk : k < 2000) (h : Q (.lst (recL p q)) [.val (frD p), .val (frD q)]) : wp r__law_due Q E [.val (frD p), .val (frD q)] := by
  obtain ⟨a, b⟩ := p
  obtain ⟨c, d⟩ := q
  have hb := hp.pos
  have hd := hq.pos
  have p3 := hp.s1
  have p4 := hp.s2
  have q3 := hq.s1
  have q4 := hq.s2
  simp only at hb hd p3 p4 q3 q4
  have hbd : b * d ≠ 0 := Int.mul_ne_zero (by omega) (by omega)
  have m1 : mulOk a d = true := mulOk_sm p3 q4 (by omega)
  have m2 : mulOk c b = true := mulOk_sm q3 p4 (by omega)
  have m3 : mulOk b d = true := mulOk_sm p4 q4 (by omega)
  have m4 : mulOk a c = true := mulOk_sm p3 q3 (by omega)
  have m5 : divOk b = true := divOk_sm p4 (by omega) (by omega)
  have s1 := ((p3.mul q4).add (q3.mul p4)).mono (show k + k + (k + k) + 1 ≤ 8010 by omega)
  have s2 := ((p3.mul q4).sub (q3.mul p4)).mono (show k + k + (k + k) + 1 ≤ 8010 by omega)
  have s3 := (p4.mul q4).mono (show k + k ≤ 8010 by omega)
  have s4 := (p3.mul q3).mono (show k + k ≤ 8010 by omega)
  have e2 : mk (a * d - c * b) (b * d) = sumF (a, b) (negF (c, d)) := by
    unfold sumF negF
    simp only
    rw [Int.sub_eq_add_neg, Int.neg_mul]
  refine wp_fnM rfl rfl ?_
  unfold frD at *
  walk_at "wn"
  unfold b__law_due
  walk_at "wg"
  refine sp_lmade s1 s3 hbd (by decide) ?_
  walk_at "wg"
  refine sp_lmade s2 s3 hbd (by decide) ?_
  walk_at "wg"
  refine sp_lmade s4 s3 hbd (by decide) ?_
  walk_at "wg"
  rw [e2]
  exact h
def oddL : List D := [.non, .bl true, .bl false, .int 0, .int 1, .int (-1), .int 2, .str "", .str "a", .str "none", .str "all", .str "x", .tup [], .lst [], .dct [] [], .tup [.tup []], .tup [.int 0], .tup [.int 0, .int 0], .tup [.int 2, .int 4], .tup [.int 1, .int 0], .tup [.int 1, .int (-1)], .tup [.bl true, .int 1], .tup [.int 0, .int 1], .tup [.int (-1), .int 1], .tup [.int 1, .int 2], .tup [.tup [.int 0, .int 1]], .tup [.tup [.int 1, .int 1], .tup [.int 0, .int 1]]]
theorem sp_odd (h : Q (.lst oddL) []) : wp r__law_odd Q E [] := by
  refine wp_fnM rfl rfl ?_
  walk_at "wn"
  unfold b__law_odd
  walk_at "wg"
  exact h
instance : PR (wp r__law_odd Q E []) (Q (.lst oddL) []) := ⟨sp_odd⟩
def smEb : D → Bool
  | .int z => decide (z.natAbs < 2 ^ 100)
  | .tup [.int a, .int b] => decide (a.natAbs < 2 ^ 100) && decide (b.natAbs < 2 ^ 100)
  | _ => true
theorem smEb_ok {d : D} (h : smEb d = true) : SmE 100 d := by
  refine ⟨fun a b e => ?_, fun z e => ?_⟩
  · subst e
    unfold smEb at h
    simp only [Bool.and_eq_true, decide_eq_true_eq] at h
    exact h
  · subst e
    unfold smEb at h
    unfold Sm
    exact of_decide_eq_true h
theorem odd_sm : ∀ d ∈ oddL, SmE 200 d := fun d hd => by
  have h : smEb d = true := by
    have : oddL.all smEb = true := by decide
    exact List.all_eq_true.mp this d hd
  have h := smEb_ok h
  exact ⟨fun a b e => let ⟨x, y⟩ := h.1 a b e; ⟨x.mono (by decide), y.mono (by decide)⟩, fun z e => (h.2 z e).mono (by decide)⟩
def nearL (p q : Int × Int) : List D := [.tup [.int (p.1 * 2), .int (p.2 * 2)], .tup [.int p.1, .int (-p.2)], .int p.1, .lst [.int p.1, .int p.2], .tup [.int p.1, .int p.2, .int 1], .tup [frD p, frD q]]
theorem near_sm {p q : Int × Int} (hp : Fr 100 p) : ∀ d ∈ nearL p q, SmE 200 d := fun d hd => by
  have h1 := hp.s1.mono (show 100 ≤ 200 by decide)
  have h2 := hp.s2.mono (show 100 ≤ 200 by decide)
  have t2 : Sm 10 2 := by unfold Sm; decide
  unfold nearL at hd
  simp only [List.mem_cons, List.not_mem_nil, or_false] at hd
  rcases hd with rfl | rfl | rfl | rfl | rfl | rfl
  · exact ⟨pair_sm ((hp.s1.mul t2).mono (by decide)) ((hp.s2.mul t2).mono (by decide)), fun z e => nomatch e⟩
  · exact ⟨pair_sm h1 h2.neg, fun z e => nomatch e⟩
  · exact ⟨fun a b e => (nomatch e), fun z e => by cases e; exact h1⟩
  · exact ⟨fun a b e => (nomatch e), fun z e => nomatch e⟩
  · exact ⟨fun a b e => (nomatch e), fun z e => nomatch e⟩
  · exact ⟨fun a b e => (nomatch e), fun z e => nomatch e⟩
end
end K00

namespace K00
open PySem L2 Pd Frac
section
variable {Q : D → Sto → Prop} {E : Str → Sto → Prop} {η : Sto}
/-- a slot that may be set -/
abbrev Jk (s : Slot) : Prop := canSets (some s) = true
/-- ahead of a turn of the inner loop -/
structure In6 (ns : List Int) (p q : Int × Int) (k : Nat) (η : Sto) : Prop where
  ex : ∃ (cell : D) (a b c : Int) (s7 s8 s9 s10 s11 s12 s13 s14 s15 : Slot), η = [.val (.scr ns), .val (.lst oddL), .val (.lst sizesL), .val cell, .own false (poD a b c), .val (frD p), .val (frD q), s7, s8, s9, s10, s11, s12, s13, s14, s15] ∧
    Pool k a b c ∧ Jk s7 ∧ Jk s8 ∧ Jk s9 ∧ Jk s10 ∧ Jk s11 ∧ Jk s12 ∧ Jk s13 ∧ Jk s14 ∧ Jk s15
theorem f5_ok {K : Kt} {ns : List Int} {p q : Int × Int} {cell thing : D} {a b c : Int} {s7 s8 s9 s10 s11 s12 s13 : Slot} (i : Nat) (hi : i < 7) (hp : Fr 100 p) (hq : Fr 100 q) (ht : SmP 200 thing)
    (k : K.nx [.val (.scr ns), .val (.lst oddL), .val (.lst sizesL), .val cell, .own false (poD a b c), .val (frD p), .val (frD q), s7, s8, s9, s10, s11, s12, s13, .val thing, .val (.int (1 + (i : Int)))]) :
    wps b_law_f5 K [.val (.scr ns), .val (.lst oddL), .val (.lst sizesL), .val cell, .own false (poD a b c), .val (frD p), .val (frD q), s7, s8, s9, s10, s11, s12, s13, .val thing, .val (.int (1 + (i : Int)))] := by
  unfold b_law_f5
  walk_at "wg"
  refine sp_lfr ht (by decide) ?_
  walk_at "wg"
  refine Br.both (fun e => ?_) (fun e => ?_)
  · walk_at "wg"
    exact k
  · walk_at "wg"
    refine sp_refused ?_ ?_
    · by_cases h : i < 5
      · exact .inr (.inl ⟨by omega, by omega, by rw [e]; rfl⟩)
      · exact .inr (.inr (.inr ⟨by omega, e⟩))
    walk_at "wg"
    refine BrD.dec (fun h => ?_) (fun h => ?_)
    · walk_at "wg"
      exact k
    · walk_at "wg"
      refine sp_refused ?_ ?_
      · exact .inr (.inl ⟨by omega, by omega, by rw [e]; cases isFr (frD p) <;> rfl⟩)
      walk_at "wg"
      exact k
theorem f6_ok {K : Kt} {ns : List Int} {p q : Int × Int} {k : Nat} (hk : k < 900000) (hp : Fr 100 p) (hq : Fr 100 q) (h : In6 ns p q k η) (kk : ∀ η', In6 ns p q (k + 4) η' → K.nx η') : wps b_law_f6 K η := by
  obtain ⟨cell, a, b, c, s7, s8, s9, s10, s11, s12, s13, s14, s15, rfl, hpo, j7, j8, j9, j10, j11, j12, j13, j14, j15⟩ := h
  have h1 := hp.s1
  have h2 := hp.s2
  have t2 : Sm 10 2 := by unfold Sm; decide
  have m1 : mulOk p.1 2 = true := mulOk_sm h1 t2 (by decide)
  have m2 : mulOk p.2 2 = true := mulOk_sm h2 t2 (by decide)
  unfold b_law_f6
  walk_at "wg"
  refine wp_io (ds := [frD p, .lst (oddL ++ nearL p q)]) rfl rfl (sp_bent (k := k) (m := 200) hpo (by omega) (by simp [oddL]) (by simp [oddL, nearL]) (fun d hd => ?_) (h1.mono (by decide)) (h2.mono (by decide)) fun thing a b c hth hp1 => ⟨_, _, rfl, ?_⟩)
  · rcases List.mem_append.mp hd with hd | hd
    · exact odd_sm d hd
    · exact near_sm hp d hd
  walk_at "wn"
  walk_at "wg"
  refine sp_lfr hth (by decide) ?_
  walk_at "wg"
  refine same_12 rfl (by trivial) ?_
  walk_at "wg"
  refine wps_range (n := 7) (fun _ η => ∃ s15, Jk s15 ∧ η = [.val (.scr ns), .val (.lst oddL), .val (.lst sizesL), .val cell, .own false (poD a b c), .val (frD p), .val (frD q), s7, s8, s9, s10, s11, s12,
      .val (.lst (nearL p q)), .val thing, s15]) ⟨s15, j15, rfl⟩ ?_ ?_
  · rintro i η' hi ⟨s15, j15, rfl⟩
    walk_at "wg"
    refine f5_ok i hi hp hq hth ?_
    exact ⟨_, rfl, rfl⟩
  · rintro η' ⟨s15, j15, rfl⟩
    have fin : K.nx [.val (.scr ns), .val (.lst oddL), .val (.lst sizesL), .val cell, .own false (poD a b c), .val (frD p), .val (frD q), s7, s8, s9, s10, s11, s12,
      .val (.lst (nearL p q)), .val thing, s15] := kk _ ⟨cell, a, b, c, s7, s8, s9, s10, s11, s12, _, _, s15, rfl, hp1, j7, j8, j9, j10, j11, j12, rfl, rfl, j15⟩
    walk_at "wg"
    refine Br.both (fun e => ?_) (fun e => ?_)
    · walk_at "wg"
      exact fin
    · walk_at "wg"
      refine sp_refused (.inl ⟨rfl, .inl (by rw [e]; rfl)⟩) ?_
      walk_at "wg"
      refine sp_refused (.inl ⟨rfl, .inl (by rw [e]; rfl)⟩) ?_
      walk_at "wg"
      exact fin
/-! a cell -/
def Turn (ns : List Int) (_ : Nat) (η : Sto) : Prop := ∃ s3 s4 s5 s6 s7 s8 s9 s10 s11 s12 s13 s14 s15 : Slot, η = [.val (.scr ns), .val (.lst oddL), .val (.lst sizesL), s3, s4, s5, s6, s7, s8, s9, s10, s11, s12, s13, s14, s15] ∧
  Jk s3 ∧ Jk s4 ∧ Jk s5 ∧ Jk s6 ∧ Jk s7 ∧ Jk s8 ∧ Jk s9 ∧ Jk s10 ∧ Jk s11 ∧ Jk s12 ∧ Jk s13 ∧ Jk s14 ∧ Jk s15
end
end K00

namespace K00
open PySem L2 Pd Frac
section
variable {Q : D → Sto → Prop} {E : Str → Sto → Prop} {η : Sto}
theorem pl_i {n : Nat} {i : Int} : Pl n (.int i) := by cases n <;> trivial
theorem pl_b {n : Nat} {i : Bool} : Pl n (.bl i) := by cases n <;> trivial
theorem pl_fr (n : Nat) (p : Int × Int) : Pl (n + 1) (frD p) := ⟨Nat.le_of_ble_eq_true rfl, all_cons pl_i (all_cons pl_i all_nil)⟩
theorem recL_pl (p q : Int × Int) : Pl 11 (.lst (recL p q)) :=
  ⟨Nat.le_of_ble_eq_true rfl, all_cons (pl_fr _ _) (all_cons (pl_fr _ _) (all_cons (pl_fr _ _) (all_cons pl_b (all_cons pl_b (all_cons pl_b (all_cons pl_i (all_cons pl_i (all_cons (pl_fr _ _) (all_cons pl_b (all_cons pl_b all_nil))))))))))⟩
theorem pl_2 {n : Nat} {p q : Int × Int} : Pl (n + 2) (.lst [frD p, frD q]) := ⟨Nat.le_of_ble_eq_true rfl, all_cons (pl_fr _ _) (all_cons (pl_fr _ _) all_nil)⟩
theorem pl_3 {n : Nat} {p q : Int × Int} {b : Bool} : Pl (n + 2) (.lst [frD p, frD q, .bl b]) := ⟨Nat.le_of_ble_eq_true rfl, all_cons (pl_fr _ _) (all_cons (pl_fr _ _) (all_cons pl_b all_nil))⟩
theorem sixI {d : Int} (h : d ≠ 0) : d * 6 ≠ 0 := by omega
/-- what stands between the statements of a cell -/
structure Mid (ns : List Int) (p q : Int × Int) (k : Nat) (η : Sto) : Prop where
  ex : ∃ (cell : D) (a b c : Int) (s7 s8 s9 s10 s11 s12 s13 s14 s15 : Slot), η = [.val (.scr ns), .val (.lst oddL), .val (.lst sizesL), .val cell, .own false (poD a b c), .val (frD p), .val (frD q), s7, s8, s9, s10, s11, s12, s13, s14, s15] ∧
    Pool k a b c ∧ Jk s7 ∧ Jk s8 ∧ Jk s9 ∧ Jk s10 ∧ Jk s11 ∧ Jk s12 ∧ Jk s13 ∧ Jk s14 ∧ Jk s15
theorem k7_ok {K : Kt} {ns : List Int} {i k : Nat} {p q : Int × Int} (hk : k < 100) (hp : Fr 100 p) (hq : Fr 100 q) (h : Mid ns p q k η) (kk : ∀ η', Turn ns i η' → K.nx η') : wps b_law_k7 K η := by
  obtain ⟨cell, a, b, c, s7, s8, s9, s10, s11, s12, s13, s14, s15, rfl, hpo, j7, j8, j9, j10, j11, j12, j13, j14, j15⟩ := h
  unfold b_law_k7
  walk_at "wg"
  refine wps_range (n := 6) (fun t η => In6 ns p q (k + 4 * t) η) ⟨cell, a, b, c, s7, s8, s9, s10, s11, s12, s13, s14, s15, rfl, hpo, j7, j8, j9, j10, j11, j12, j13, j14, j15⟩ ?_ ?_
  · rintro t η' ht ⟨cell, a, b, c, s7, s8, s9, s10, s11, s12, s13, s14, s15, rfl, hpo, j7, j8, j9, j10, j11, j12, j13, j14, j15⟩
    walk_at "wg"
    exact f6_ok (k := k + 4 * t) (by omega) hp hq ⟨cell, a, b, c, s7, s8, s9, s10, s11, _, s13, s14, s15, rfl, hpo, j7, j8, j9, j10, j11, rfl, j13, j14, j15⟩ fun η' h => h
  · rintro η' ⟨cell, a, b, c, s7, s8, s9, s10, s11, s12, s13, s14, s15, rfl, hpo, j7, j8, j9, j10, j11, j12, j13, j14, j15⟩
    exact kk _ ⟨_, _, _, _, s7, s8, s9, s10, s11, s12, s13, s14, s15, rfl, rfl, rfl, rfl, rfl, j7, j8, j9, j10, j11, j12, j13, j14, j15⟩
def dL (p q : Int × Int) : List D := [.int 1, .int (-1), .int 2, .int (-6), .int 12, .int p.2, .int (-p.2 * 3), .int (q.2 * 4)]
theorem dL_at {p q : Int × Int} (hp : Fr 100 p) (hq : Fr 100 q) {d : D} (h : d ∈ dL p q) : ∃ z, d = .int z ∧ z ≠ 0 ∧ Sm 110 z := by
  have h1 := hp.pos
  have h2 := hq.pos
  unfold dL at h
  simp only [List.mem_cons, List.not_mem_nil, or_false] at h
  rcases h with rfl | rfl | rfl | rfl | rfl | rfl | rfl | rfl
  · exact ⟨_, rfl, by decide, by unfold Sm; decide⟩
  · exact ⟨_, rfl, by decide, by unfold Sm; decide⟩
  · exact ⟨_, rfl, by decide, by unfold Sm; decide⟩
  · exact ⟨_, rfl, by decide, by unfold Sm; decide⟩
  · exact ⟨_, rfl, by decide, by unfold Sm; decide⟩
  · exact ⟨_, rfl, by omega, hp.s2.mono (by decide)⟩
  · exact ⟨_, rfl, by omega, (hp.s2.neg.mul (show Sm 4 3 by unfold Sm; decide)).mono (by decide)⟩
  · exact ⟨_, rfl, by omega, (hq.s2.mul (show Sm 4 4 by unfold Sm; decide)).mono (by decide)⟩
theorem k8_ok {K : Kt} {ns : List Int} {i k : Nat} {p q : Int × Int} (hk : k < 80) (hp : Fr 100 p) (hq : Fr 100 q) (h : Mid ns p q k η) (kk : ∀ η', Turn ns i η' → K.nx η') : wps b_law_k8 K η := by
  obtain ⟨cell, a, b, c, s7, s8, s9, s10, s11, s12, s13, s14, s15, rfl, hpo, j7, j8, j9, j10, j11, j12, j13, j14, j15⟩ := h
  have m1 : mulOk (-p.2) 3 = true := mulOk_sm hp.s2.neg (show Sm 4 3 by unfold Sm; decide) (by decide)
  have m2 : mulOk q.2 4 = true := mulOk_sm hq.s2 (show Sm 4 4 by unfold Sm; decide) (by decide)
  unfold b_law_k8
  walk_at "wg"
  refine wp_io (ds := [.lst sizesL]) rfl rfl (sp_great hpo (by omega) fun p2 a b c hp2 hp1 => ⟨_, _, rfl, ?_⟩)
  walk_at "wn"
  walk_at "wg"
  refine cal_one (ds := dL p q) rfl hp1 (by omega) (by simp [dL]) (by simp [dL]) fun d a b c hd hpo2 => ?_
  obtain ⟨z, rfl, hz0, hz⟩ := dL_at hp hq hd
  have hn := hp2.s1
  have m3 : mulOk p2.1 6 = true := mulOk_sm hn (show Sm 4 6 by unfold Sm; decide) (by decide)
  have m4 : mulOk z 6 = true := mulOk_sm hz (show Sm 4 6 by unfold Sm; decide) (by decide)
  walk_at "wn"
  walk_at "wg"
  refine sp_fraction hz0 hz (by decide) ?_
  walk_at "wg"
  refine sp_fraction (sixI hz0) ((hz.mul (show Sm 4 6 by unfold Sm; decide)).mono (show 110 + 4 ≤ 200 by decide)) (by decide) ?_
  walk_at "wg"
  refine sp_lmade (hn.mono (show 94 ≤ 110 by decide)) hz hz0 (by decide) ?_
  walk_at "wg"
  refine same_12 (by rw [mk_six hz0]; rfl) (by exact pl_2) ?_
  walk_at "wg"
  refine sp_refused (.inl ⟨rfl, .inr rfl⟩) ?_
  walk_at "wg"
  exact k7_ok (k := k + 9 + 1) (by omega) hp hq ⟨cell, a, b, c, s7, s8, s9, _, _, s12, s13, s14, s15, rfl, hpo2, j7, j8, j9, rfl, rfl, j12, j13, j14, j15⟩ kk
theorem k9_ok {K : Kt} {ns : List Int} {i k : Nat} {p q : Int × Int} (hk : k < 80) (hp : Fr 100 p) (hq : Fr 100 q) (h : Mid ns p q k η) (kk : ∀ η', Turn ns i η' → K.nx η') : wps b_law_k9 K η := by
  obtain ⟨cell, a, b, c, s7, s8, s9, s10, s11, s12, s13, s14, s15, rfl, hpo, j7, j8, j9, j10, j11, j12, j13, j14, j15⟩ := h
  have ht := sum_fr hp hq
  have hq' := hq.mono (show 100 ≤ 4 * 100 + 1 by decide)
  have hp' := hp.mono (show 100 ≤ 4 * 100 + 1 by decide)
  unfold b_law_k9
  walk_at "wg"
  refine sp_added hp hq (by decide) ?_
  walk_at "wg"
  refine sp_taken ht hq' (by decide) ?_
  walk_at "wg"
  refine sp_added hq hp (by decide) ?_
  walk_at "wg"
  refine sp_less hp' ht (by decide) ?_
  walk_at "wg"
  refine same_12 (by rw [sum_neg hp hq, sum_comm p q]; unfold lessF; rw [less_sum hp hq]) (by exact pl_3) ?_
  walk_at "wg"
  exact k8_ok hk hp hq ⟨cell, a, b, c, s7, s8, _, s10, s11, s12, s13, s14, s15, rfl, hpo, j7, j8, rfl, j10, j11, j12, j13, j14, j15⟩ kk
theorem k10_ok {K : Kt} {ns : List Int} {i k : Nat} {p q : Int × Int} (hk : k < 80) (hp : Fr 100 p) (hq : Fr 100 q) (h : Mid ns p q k η) (kk : ∀ η', Turn ns i η' → K.nx η') : wps b_law_k10 K η := by
  obtain ⟨cell, a, b, c, s7, s8, s9, s10, s11, s12, s13, s14, s15, rfl, hpo, j7, j8, j9, j10, j11, j12, j13, j14, j15⟩ := h
  have hpp := hp.pos
  have m1 : mulOk p.1 q.2 = true := mulOk_sm hp.s1 hq.s2 (by decide)
  have m2 : mulOk p.2 q.1 = true := mulOk_sm hp.s2 hq.s1 (by decide)
  unfold b_law_k10
  walk_at "wg"
  refine BrD.dec (fun hz => ?_) (fun hz => ?_)
  · unfold b_law_e4
    walk_at "wg"
    refine sp_refused (.inr (.inr (.inl ⟨rfl, 100, p, q, hp, hq, hz, rfl, rfl⟩))) ?_
    walk_at "wg"
    exact k9_ok hk hp hq ⟨cell, a, b, c, s7, s8, s9, s10, s11, s12, s13, s14, s15, rfl, hpo, j7, j8, j9, j10, j11, j12, j13, j14, j15⟩ kk
  · have hd := div_fr hp hq hz
    unfold b_law_t3
    walk_at "wg"
    refine sp_divided hp hq (by decide) hz ?_
    walk_at "wg"
    refine sp_lmade ((hp.s1.mul hq.s2).mono (show 100 + 100 ≤ 200 by decide)) ((hp.s2.mul hq.s1).mono (by decide)) (Int.mul_ne_zero (by omega) hz) (by decide) ?_
    walk_at "wg"
    refine same_12 (by rfl) (by exact pl_fr _ _) ?_
    walk_at "wg"
    refine sp_multiplied hd (hq.mono (by decide)) (by decide) ?_
    walk_at "wg"
    refine same_12 (by rw [mul_div hp hq hz]) (by exact pl_fr _ _) ?_
    walk_at "wg"
    exact k9_ok hk hp hq ⟨cell, a, b, c, s7, _, s9, s10, s11, s12, s13, s14, s15, rfl, hpo, j7, rfl, j9, j10, j11, j12, j13, j14, j15⟩ kk
theorem tail_ok {K : Kt} {ns : List Int} {i k : Nat} {cell : D} {a b c : Int} {p q : Int × Int} {s7 s8 s9 s10 s11 s12 s13 s14 s15 : Slot} (hk : k < 80) (hp0 : Pool k a b c) (hp : Fr 100 p) (hq : Fr 100 q) (j7 : Jk s7) (j8 : Jk s8) (j9 : Jk s9) (j10 : Jk s10) (j11 : Jk s11) (j12 : Jk s12) (j13 : Jk s13) (j14 : Jk s14) (j15 : Jk s15)
    (kk : ∀ η', Turn ns i η' → K.nx η') : wps b_law_k11 K [.val (.scr ns), .val (.lst oddL), .val (.lst sizesL), .val cell, .own false (poD a b c), .val (frD p), .val (frD q), s7, s8, s9, s10, s11, s12, s13, s14, s15] := by
  unfold b_law_k11
  walk_at "wg"
  refine sp_rec hp hq (by decide) ?_
  walk_at "wg"
  refine sp_due hp hq (by decide) ?_
  walk_at "wg"
  refine same_12 (by rfl) (by exact recL_pl _ _) ?_
  walk_at "wg"
  exact k10_ok hk hp hq ⟨cell, a, b, c, s7, s8, s9, s10, s11, s12, s13, s14, s15, rfl, hp0, j7, j8, j9, j10, j11, j12, j13, j14, j15⟩ kk
theorem f13_ok {K : Kt} {ns : List Int} {z : Int} {i : Nat} {s4 s5 s6 s7 s8 s9 s10 s11 s12 s13 s14 s15 : Slot} (hz : Sm 1048577 z) (j4 : Jk s4) (j5 : Jk s5) (j6 : Jk s6) (j7 : Jk s7) (j8 : Jk s8) (j9 : Jk s9) (j10 : Jk s10) (j11 : Jk s11) (j12 : Jk s12) (j13 : Jk s13) (j14 : Jk s14) (j15 : Jk s15)
    (kk : ∀ η', Turn ns i η' → K.nx η') : wps b_law_f13 K [.val (.scr ns), .val (.lst oddL), .val (.lst sizesL), .val (.int z), s4, s5, s6, s7, s8, s9, s10, s11, s12, s13, s14, s15] := by
  unfold b_law_f13
  walk_at "wg"
  refine sp_pool hz fun a b c hp0 => ?_
  walk_at "wg"
  refine wp_io (ds := [.lst sizesL]) rfl rfl (sp_great hp0 (by omega) fun p a b c hp hp1 => ⟨_, _, rfl, ?_⟩)
  walk_at "wn"
  walk_at "wg"
  refine wp_io (ds := [.lst sizesL]) rfl rfl (sp_great hp1 (by omega) fun q a b c hq hp2 => ⟨_, _, rfl, ?_⟩)
  walk_at "wn"
  walk_at "wg"
  refine cal_next rfl hp2 (by omega) (by decide) (by walk_at "sm") fun way a b c h0 h1 hp3 => ?_
  walk_at "wn"
  walk_at "wg"
  have hp' := hp.mono (show 94 ≤ 100 by decide)
  have hq' := hq.mono (show 94 ≤ 100 by decide)
  have hpp := hp.pos
  refine BrD.dec (fun hw => ?_) (fun hw => ?_)
  · subst hw
    unfold b_law_t1
    walk_at "wg"
    refine BrD.dec (fun e1 => ?_) (fun e1 => ?_)
    · walk_at "wg"
      refine BrD.dec (fun e2 => ?_) (fun e2 => ?_)
      · have e14 : (10 : Int) ^ Int.toNat 14 = 100000000000000 := by decide
        rw [e14] at e1 e2
        have sa : Sm 47 p.1 := by unfold Sm; split at e2 <;> omega
        have sb : Sm 47 p.2 := by unfold Sm; omega
        have m1 : mulOk p.1 p.2 = true := mulOk_sm sa sb (by decide)
        have m2 : mulOk p.2 p.2 = true := mulOk_sm sb sb (by decide)
        have hz : p.2 * p.2 ≠ 0 := Int.mul_ne_zero (by omega) (by omega)
        have s1 : Sm 100 (p.1 * p.2 + 1) := ((sa.mul sb).add (show Sm 4 1 by unfold Sm; decide)).mono (by decide)
        have s2 : Sm 100 (p.2 * p.2) := (sb.mul sb).mono (by decide)
        walk_at "wg"
        refine sp_lmade s1 s2 hz (by decide) ?_
        walk_at "wg"
        unfold b_law_k12
        walk_at "wg"
        exact tail_ok (k := 1 + 9 + 9 + 1) (by decide) hp3 hp' (mk_fr hz s1 s2) (by rfl) j8 j9 j10 j11 j12 j13 j14 j15 kk
      · walk_at "wg"
        unfold b_law_k12
        walk_at "wg"
        exact tail_ok (k := 1 + 9 + 9 + 1) (by decide) hp3 hp' hp' (by rfl) j8 j9 j10 j11 j12 j13 j14 j15 kk
    · walk_at "wg"
      unfold b_law_k12
      walk_at "wg"
      exact tail_ok (k := 1 + 9 + 9 + 1) (by decide) hp3 hp' hp' (by rfl) j8 j9 j10 j11 j12 j13 j14 j15 kk
  walk_at "wg"
  unfold b_law_k12
  walk_at "wg"
  refine BrD.dec (fun hw => ?_) (fun hw => ?_)
  · unfold b_law_t2
    walk_at "wg"
    exact tail_ok (k := 1 + 9 + 9 + 1) (by decide) hp3 hp' (neg_fr hp') (by rfl) j8 j9 j10 j11 j12 j13 j14 j15 kk
  walk_at "wg"
  exact tail_ok (k := 1 + 9 + 9 + 1) (by decide) hp3 hp' hq' (by rfl) j8 j9 j10 j11 j12 j13 j14 j15 kk
end
end K00

namespace K00
open PySem L2 Pd Frac
theorem wp_done {m : M D} {η : Sto} {a : D} (h : wp m (fun d _ => d = a) NvE η) : ∃ η', m η = .ok a η' := by
  unfold wp at h
  cases q : m η with
  | ok b η' => rw [q] at h; cases (show b = a from h); exact ⟨_, rfl⟩
  | exc c η' => rw [q] at h; exact h.elim
  | bad => rw [q] at h; exact h.elim
theorem law_wp {ns : List Int} (hl : ns.length ≤ 63) (hb : ∀ z ∈ ns, Builtin.Int.intBits z ≤ 1048576) : wp r_law (fun d _ => d = .bl true) NvE [.val (.scr ns)] := by
  refine wp_fnM rfl rfl ?_
  walk_at "wn"
  unfold b_law
  walk_at "wg"
  refine som_i (x := .lst ([.int 977] ++ ns.map D.int)) ?_ ?_
  · show (if lenOk (1 + ns.length) = true then some (D.lst ([.int 977] ++ ns.map D.int)) else none) = _
    rw [if_pos (show lenOk (1 + ns.length) = true from decide_eq_true (by omega))]
  walk_at "wg"
  refine wps_for (fun i η => Turn ns i η) ⟨.no, .no, .no, .no, .no, .no, .no, .no, .no, .no, .no, .no, .no, rfl, rfl, rfl, rfl, rfl, rfl, rfl, rfl, rfl, rfl, rfl, rfl, rfl, rfl⟩ ?_ ?_
  · rintro i d η' hi ⟨s3, s4, s5, s6, s7, s8, s9, s10, s11, s12, s13, s14, s15, rfl, j3, j4, j5, j6, j7, j8, j9, j10, j11, j12, j13, j14, j15⟩
    have hz : ∃ z : Int, d = .int z ∧ Sm 1048577 z := by
      have hm := List.mem_of_getElem? hi
      unfold cutL at hm
      have hm := List.mem_of_mem_drop (List.mem_of_mem_take hm)
      rcases List.mem_cons.mp hm with hm | hm
      · exact ⟨977, hm, (show Sm 64 977 by unfold Sm; decide).mono (by decide)⟩
      · obtain ⟨z, hz, rfl⟩ := List.mem_map.mp hm
        exact ⟨z, rfl, Sm.bits (hb z hz)⟩
    obtain ⟨z, rfl, hz⟩ := hz
    walk_at "wg"
    exact f13_ok (i := i + 1) hz j4 j5 j6 j7 j8 j9 j10 j11 j12 j13 j14 j15 fun η' h => h
  · rintro η' ⟨s3, s4, s5, s6, s7, s8, s9, s10, s11, s12, s13, s14, s15, rfl, _⟩
    walk_at "wg"
    rfl
theorem law_plain : ∀ ns : List Int, ns.length ≤ 63 → (∀ z ∈ ns, Builtin.Int.intBits z ≤ 1048576) → ∃ as', r_law [.val (.scr ns)] = .ok (.bl true) as' := fun ns hl hb => wp_done (law_wp hl hb)
end K00

open PySem PySem.W PyProof.Rows
set_option maxRecDepth 100000 in
set_option maxHeartbeats 0 in
theorem PySem.Challenge.cw_leastbounds_k00_fractions_holds : PySem.Challenge.rw_leastbounds_k00_fractions.Holds := by
  w_on; o_law; k_head; (case hw => w_witness2)
  k_fill
  refine Pd.walk (l := PySem.Challenge.rw_leastbounds_k00_fractions) (k := 16) (m := K00.r_law) (st := K00.s_law) (kn := []) rfl rfl ⟨rfl, by decide, by decide⟩ rfl (fun w h Y => PySem.W.kIn_of Y) K00.law_plain K00.bn_law ?F
  case F =>
    intro w mg h KX G
    have f_made : Pd.FunXT KX mg "made" K00.s_made ["n", "d"] [] := by
      refine' Pd.funX_mk KX G ?a_1 ?l_1 ?c_1 ?k_1 K00.bn_made Pd.all_nil
      (case a_1 => k_is); (case l_1 => k_is); (case c_1 => k_is); (case k_1 => k_is)
    have f_plus : Pd.FunXT KX mg "plus" K00.s_plus ["one", "other"] [] := by
      refine' Pd.funX_mk KX G ?a_2 ?l_2 ?c_2 ?k_2 K00.bn_plus Pd.all_nil
      (case a_2 => k_is); (case l_2 => k_is); (case c_2 => k_is); (case k_2 => k_is)
    have f_minus : Pd.FunXT KX mg "minus" K00.s_minus ["one", "other"] [] := by
      refine' Pd.funX_mk KX G ?a_3 ?l_3 ?c_3 ?k_3 K00.bn_minus Pd.all_nil
      (case a_3 => k_is); (case l_3 => k_is); (case c_3 => k_is); (case k_3 => k_is)
    have f_mult : Pd.FunXT KX mg "mult" K00.s_mult ["one", "other"] [] := by
      refine' Pd.funX_mk KX G ?a_4 ?l_4 ?c_4 ?k_4 K00.bn_mult Pd.all_nil
      (case a_4 => k_is); (case l_4 => k_is); (case c_4 => k_is); (case k_4 => k_is)
    have f_over : Pd.FunXT KX mg "over" K00.s_over ["one", "other"] [] := by
      refine' Pd.funX_mk KX G ?a_5 ?l_5 ?c_5 ?k_5 K00.bn_over Pd.all_nil
      (case a_5 => k_is); (case l_5 => k_is); (case c_5 => k_is); (case k_5 => k_is)
    have f_below : Pd.FunXT KX mg "below" K00.s_below ["one", "other"] [] := by
      refine' Pd.funX_mk KX G ?a_6 ?l_6 ?c_6 ?k_6 K00.bn_below Pd.all_nil
      (case a_6 => k_is); (case l_6 => k_is); (case c_6 => k_is); (case k_6 => k_is)
    have f_is_int : Pd.FunXT KX mg "is_int" K00.s_is_int ["value"] [] := by
      refine' Pd.funX_mk KX G ?a_7 ?l_7 ?c_7 ?k_7 K00.bn_is_int Pd.all_nil
      (case a_7 => k_is); (case l_7 => k_is); (case c_7 => k_is); (case k_7 => k_is)
    have f_is_row : Pd.FunXT KX mg "is_row" K00.s_is_row ["value", "size"] [] := by
      refine' Pd.funX_mk KX G ?a_8 ?l_8 ?c_8 ?k_8 K00.bn_is_row Pd.all_nil
      (case a_8 => k_is); (case l_8 => k_is); (case c_8 => k_is); (case k_8 => k_is)
    have f_fits_fraction : Pd.FunXT KX mg "fits_fraction" K00.s_fits_fraction ["value"] [] := by
      refine' Pd.funX_mk KX G ?a_9 ?l_9 ?c_9 ?k_9 K00.bn_fits_fraction Pd.all_nil
      (case a_9 => k_is); (case l_9 => k_is); (case c_9 => k_is); (case k_9 => k_is)
    have f_check_fraction : Pd.FunXT KX mg "check_fraction" K00.s_check_fraction ["one"] [] := by
      refine' Pd.funX_mk KX G ?a_10 ?l_10 ?c_10 ?k_10 K00.bn_check_fraction Pd.all_nil
      (case a_10 => k_is); (case l_10 => k_is); (case c_10 => k_is); (case k_10 => k_is)
    have f_is_fraction : Pd.FunXT KX mg "is_fraction" K00.s_is_fraction ["value"] [] := by
      refine' Pd.funX_mk KX G ?a_11 ?l_11 ?c_11 ?k_11 K00.bn_is_fraction Pd.all_nil
      (case a_11 => k_is); (case l_11 => k_is); (case c_11 => k_is); (case k_11 => k_is)
    have f_fraction : Pd.FunXT KX mg "fraction" K00.s_fraction ["n", "d"] [0] := by
      refine' Pd.funX_mk KX G ?a_12 ?l_12 ?c_12 ?k_12 K00.bn_fraction (Pd.all_cons K00.kb_fraction_0 Pd.all_nil)
      (case a_12 => k_is); (case l_12 => k_is); (case c_12 => k_is); (case k_12 => k_is)
    have f_check_pair : Pd.FunXT KX mg "check_pair" K00.s_check_pair ["one", "other"] [] := by
      refine' Pd.funX_mk KX G ?a_13 ?l_13 ?c_13 ?k_13 K00.bn_check_pair Pd.all_nil
      (case a_13 => k_is); (case l_13 => k_is); (case c_13 => k_is); (case k_13 => k_is)
    have f_added : Pd.FunXT KX mg "added" K00.s_added ["one", "other"] [] := by
      refine' Pd.funX_mk KX G ?a_14 ?l_14 ?c_14 ?k_14 K00.bn_added Pd.all_nil
      (case a_14 => k_is); (case l_14 => k_is); (case c_14 => k_is); (case k_14 => k_is)
    have f_taken_off : Pd.FunXT KX mg "taken_off" K00.s_taken_off ["one", "other"] [1] := by
      refine' Pd.funX_mk KX G ?a_15 ?l_15 ?c_15 ?k_15 K00.bn_taken_off (Pd.all_cons K00.kb_taken_off_1 Pd.all_nil)
      (case a_15 => k_is); (case l_15 => k_is); (case c_15 => k_is); (case k_15 => k_is)
    have f_multiplied : Pd.FunXT KX mg "multiplied" K00.s_multiplied ["one", "other"] [0] := by
      refine' Pd.funX_mk KX G ?a_16 ?l_16 ?c_16 ?k_16 K00.bn_multiplied (Pd.all_cons K00.kb_multiplied_0 Pd.all_nil)
      (case a_16 => k_is); (case l_16 => k_is); (case c_16 => k_is); (case k_16 => k_is)
    have f_divided : Pd.FunXT KX mg "divided" K00.s_divided ["one", "other"] [] := by
      refine' Pd.funX_mk KX G ?a_17 ?l_17 ?c_17 ?k_17 K00.bn_divided Pd.all_nil
      (case a_17 => k_is); (case l_17 => k_is); (case c_17 => k_is); (case k_17 => k_is)
    have f_is_less : Pd.FunXT KX mg "is_less" K00.s_is_less ["one", "other"] [] := by
      refine' Pd.funX_mk KX G ?a_18 ?l_18 ?c_18 ?k_18 K00.bn_is_less Pd.all_nil
      (case a_18 => k_is); (case l_18 => k_is); (case c_18 => k_is); (case k_18 => k_is)
    have f_floor_of : Pd.FunXT KX mg "floor_of" K00.s_floor_of ["one"] [] := by
      refine' Pd.funX_mk KX G ?a_19 ?l_19 ?c_19 ?k_19 K00.bn_floor_of Pd.all_nil
      (case a_19 => k_is); (case l_19 => k_is); (case c_19 => k_is); (case k_19 => k_is)
    have f_ceiling_of : Pd.FunXT KX mg "ceiling_of" K00.s_ceiling_of ["one"] [0] := by
      refine' Pd.funX_mk KX G ?a_20 ?l_20 ?c_20 ?k_20 K00.bn_ceiling_of (Pd.all_cons K00.kb_ceiling_of_0 Pd.all_nil)
      (case a_20 => k_is); (case l_20 => k_is); (case c_20 => k_is); (case k_20 => k_is)
    have f__law_pool : Pd.FunXT KX mg "_law_pool" K00.s__law_pool ["cell"] [] := by
      refine' Pd.funX_mk KX G ?a_21 ?l_21 ?c_21 ?k_21 K00.bn__law_pool Pd.all_nil
      (case a_21 => k_is); (case l_21 => k_is); (case c_21 => k_is); (case k_21 => k_is)
    have f__law_next : Pd.FunXT KX mg "_law_next" K00.s__law_next ["pool", "many"] [] := by
      refine' Pd.funX_mk KX G ?a_22 ?l_22 ?c_22 ?k_22 K00.bn__law_next Pd.all_nil
      (case a_22 => k_is); (case l_22 => k_is); (case c_22 => k_is); (case k_22 => k_is)
    have f__law_one_of : Pd.FunXT KX mg "_law_one_of" K00.s__law_one_of ["pool", "row"] [] := by
      refine' Pd.funX_mk KX G ?a_23 ?l_23 ?c_23 ?k_23 K00.bn__law_one_of Pd.all_nil
      (case a_23 => k_is); (case l_23 => k_is); (case c_23 => k_is); (case k_23 => k_is)
    have f__law_same : Pd.FunXT KX mg "_law_same" K00.s__law_same ["found", "due"] [] := by
      refine' Pd.funX_mk KX G ?a_24 ?l_24 ?c_24 ?k_24 K00.bn__law_same Pd.all_nil
      (case a_24 => k_is); (case l_24 => k_is); (case c_24 => k_is); (case k_24 => k_is)
    have f__law_bent : Pd.FunXT KX mg "_law_bent" K00.s__law_bent ["pool", "value", "odd"] [] := by
      refine' Pd.funX_mk KX G ?a_25 ?l_25 ?c_25 ?k_25 K00.bn__law_bent Pd.all_nil
      (case a_25 => k_is); (case l_25 => k_is); (case c_25 => k_is); (case k_25 => k_is)
    have f__law_odd : Pd.FunXT KX mg "_law_odd" K00.s__law_odd [] [] := by
      refine' Pd.funX_mk KX G ?a_26 ?l_26 ?c_26 ?k_26 K00.bn__law_odd Pd.all_nil
      (case a_26 => k_is); (case l_26 => k_is); (case c_26 => k_is); (case k_26 => k_is)
    have f__law_gcd : Pd.FunXT KX mg "_law_gcd" K00.s__law_gcd ["a", "b"] [] := by
      refine' Pd.funX_mk KX G ?a_27 ?l_27 ?c_27 ?k_27 K00.bn__law_gcd Pd.all_nil
      (case a_27 => k_is); (case l_27 => k_is); (case c_27 => k_is); (case k_27 => k_is)
    have f__law_made : Pd.FunXT KX mg "_law_made" K00.s__law_made ["n", "d"] [] := by
      refine' Pd.funX_mk KX G ?a_28 ?l_28 ?c_28 ?k_28 K00.bn__law_made Pd.all_nil
      (case a_28 => k_is); (case l_28 => k_is); (case c_28 => k_is); (case k_28 => k_is)
    have f__law_is_int : Pd.FunXT KX mg "_law_is_int" K00.s__law_is_int ["value"] [] := by
      refine' Pd.funX_mk KX G ?a_29 ?l_29 ?c_29 ?k_29 K00.bn__law_is_int Pd.all_nil
      (case a_29 => k_is); (case l_29 => k_is); (case c_29 => k_is); (case k_29 => k_is)
    have f__law_is_tuple : Pd.FunXT KX mg "_law_is_tuple" K00.s__law_is_tuple ["value", "size"] [] := by
      refine' Pd.funX_mk KX G ?a_30 ?l_30 ?c_30 ?k_30 K00.bn__law_is_tuple Pd.all_nil
      (case a_30 => k_is); (case l_30 => k_is); (case c_30 => k_is); (case k_30 => k_is)
    have f__law_is_fraction : Pd.FunXT KX mg "_law_is_fraction" K00.s__law_is_fraction ["value"] [] := by
      refine' Pd.funX_mk KX G ?a_31 ?l_31 ?c_31 ?k_31 K00.bn__law_is_fraction Pd.all_nil
      (case a_31 => k_is); (case l_31 => k_is); (case c_31 => k_is); (case k_31 => k_is)
    have f__law_great : Pd.FunXT KX mg "_law_great" K00.s__law_great ["pool", "sizes"] [] := by
      refine' Pd.funX_mk KX G ?a_32 ?l_32 ?c_32 ?k_32 K00.bn__law_great Pd.all_nil
      (case a_32 => k_is); (case l_32 => k_is); (case c_32 => k_is); (case k_32 => k_is)
    have f__law_refused : Pd.FunXT KX mg "_law_refused" K00.s__law_refused ["which", "one", "other"] [] := by
      refine' Pd.funX_mk KX G ?a_33 ?l_33 ?c_33 ?k_33 K00.bn__law_refused Pd.all_nil
      (case a_33 => k_is); (case l_33 => k_is); (case c_33 => k_is); (case k_33 => k_is)
    have f__law_reckoned : Pd.FunXT KX mg "_law_reckoned" K00.s__law_reckoned ["one", "other"] [] := by
      refine' Pd.funX_mk KX G ?a_34 ?l_34 ?c_34 ?k_34 K00.bn__law_reckoned Pd.all_nil
      (case a_34 => k_is); (case l_34 => k_is); (case c_34 => k_is); (case k_34 => k_is)
    have f__law_due : Pd.FunXT KX mg "_law_due" K00.s__law_due ["one", "other"] [] := by
      refine' Pd.funX_mk KX G ?a_35 ?l_35 ?c_35 ?k_35 K00.bn__law_due Pd.all_nil
      (case a_35 => k_is); (case l_35 => k_is); (case c_35 => k_is); (case k_35 => k_is)
    have f_law : Pd.FunXT KX mg "law" K00.s_law ["script"] [] := by
      refine' Pd.funX_mk KX G ?a_36 ?l_36 ?c_36 ?k_36 K00.bn_law Pd.all_nil
      (case a_36 => k_is); (case l_36 => k_is); (case c_36 => k_is); (case k_36 => k_is)
    have z_abs : mg "abs" = none := by
      refine' PySem.W.mg_none_of KX G ?a_37
      (case a_37 => k_is)
    have z_all : mg "all" = none := by
      refine' PySem.W.mg_none_of KX G ?a_38
      (case a_38 => k_is)
    have z_bool : mg "bool" = none := by
      refine' PySem.W.mg_none_of KX G ?a_39
      (case a_39 => k_is)
    have z_gcd : mg "gcd" = some (.builtin "math.gcd") := by
      refine' PySem.W.mg_of KX G ?a_40
      (case a_40 => k_is)
    have z_int : mg "int" = none := by
      refine' PySem.W.mg_none_of KX G ?a_41
      (case a_41 => k_is)
    have z_isinstance : mg "isinstance" = none := by
      refine' PySem.W.mg_none_of KX G ?a_42
      (case a_42 => k_is)
    have z_len : mg "len" = none := by
      refine' PySem.W.mg_none_of KX G ?a_43
      (case a_43 => k_is)
    have z_list : mg "list" = none := by
      refine' PySem.W.mg_none_of KX G ?a_44
      (case a_44 => k_is)
    have z_max : mg "max" = none := by
      refine' PySem.W.mg_none_of KX G ?a_45
      (case a_45 => k_is)
    have z_range : mg "range" = none := by
      refine' PySem.W.mg_none_of KX G ?a_46
      (case a_46 => k_is)
    have z_str : mg "str" = none := by
      refine' PySem.W.mg_none_of KX G ?a_47
      (case a_47 => k_is)
    have z_tuple : mg "tuple" = none := by
      refine' PySem.W.mg_none_of KX G ?a_48
      (case a_48 => k_is)
    have x_InvalidFraction : Pd.ExcXT KX mg "InvalidFraction" := by
      refine' Pd.excX_mk KX G PySem.F.excBase_ValueError ?a_49 ?q_49 ?k_49 ?b_49 ?t_49
      (case a_49 => k_is); (case q_49 => k_exc); (case k_49 => k_is); (case b_49 => k_is); (case t_49 => k_is)
    have m_InvalidFraction_0 : Pd.ExmXT KX mg "InvalidFraction" "InvalidFraction" true := by
      refine' Pd.exmX_mk KX G ?ac_50 ?at2_50 ?b_50 ?i_50 ?t_50 ?s_50
      (case ac_50 => k_is); (case at2_50 => k_is); (case b_50 => k_is); (case i_50 => k_is); (case t_50 => k_is); (case s_50 => first | rfl | k_is)
    have t_BoundError_0 : Pd.KitXT KX mg "InvalidFraction" "BoundError" true := by
      refine' Pd.kitX_cls KX G ⟨?e1_51, ?e2_51, ?e3_51, ?e4_51, ?e5_51, ?e6_51, ?e7_51, ?e8_51⟩ ?ac_51 ?at2_51 ?i_51 ?t_51 ?s_51 ?ne_51
      (case ac_51 => k_is); (case at2_51 => k_is); (case i_51 => k_is); (case t_51 => k_is); (case s_51 => first | rfl | k_is); (case ne_51 => first | exact .inr rfl | exact .inl (by decide +kernel))
      (case e1_51 => k_is); (case e2_51 => k_is); (case e3_51 => k_is); (case e4_51 => k_is); (case e5_51 => k_is); (case e6_51 => k_is); (case e7_51 => k_is); (case e8_51 => k_is)
    have t_ValueError_0 : Pd.KitXT KX mg "InvalidFraction" "ValueError" true := by
      refine' Pd.kitX_ty (T := "ValueError") KX G ⟨?e1_52, ?e2_52, ?e3_52, ?e4_52, ?e5_52, ?e6_52, ?e7_52, ?e8_52⟩ ?ac_52 ?at2_52 (by decide +kernel) (by decide +kernel) ?s_52
      (case ac_52 => k_is); (case at2_52 => k_is); (case s_52 => first | rfl | k_is)
      (case e1_52 => k_is); (case e2_52 => k_is); (case e3_52 => k_is); (case e4_52 => k_is); (case e5_52 => k_is); (case e6_52 => k_is); (case e7_52 => k_is); (case e8_52 => k_is)
    have t_InvalidPoint_0 : Pd.KitXT KX mg "InvalidFraction" "InvalidPoint" false := by
      refine' Pd.kitX_cls KX G ⟨?e1_53, ?e2_53, ?e3_53, ?e4_53, ?e5_53, ?e6_53, ?e7_53, ?e8_53⟩ ?ac_53 ?at2_53 ?i_53 ?t_53 ?s_53 ?ne_53
      (case ac_53 => k_is); (case at2_53 => k_is); (case i_53 => k_is); (case t_53 => k_is); (case s_53 => first | rfl | k_is); (case ne_53 => first | exact .inr rfl | exact .inl (by decide +kernel))
      (case e1_53 => k_is); (case e2_53 => k_is); (case e3_53 => k_is); (case e4_53 => k_is); (case e5_53 => k_is); (case e6_53 => k_is); (case e7_53 => k_is); (case e8_53 => k_is)
    exact ⟨f_law, fun base => K00.ok_law { f_made := f_made, f_plus := f_plus, f_minus := f_minus, f_mult := f_mult, f_over := f_over, f_below := f_below, f_is_int := f_is_int, f_is_row := f_is_row, f_fits_fraction := f_fits_fraction, f_check_fraction := f_check_fraction, f_is_fraction := f_is_fraction, f_fraction := f_fraction, f_check_pair := f_check_pair, f_added := f_added, f_taken_off := f_taken_off, f_multiplied := f_multiplied, f_divided := f_divided, f_is_less := f_is_less, f_floor_of := f_floor_of, f_ceiling_of := f_ceiling_of, f__law_pool := f__law_pool, f__law_next := f__law_next, f__law_one_of := f__law_one_of, f__law_same := f__law_same, f__law_bent := f__law_bent, f__law_odd := f__law_odd, f__law_gcd := f__law_gcd, f__law_made := f__law_made, f__law_is_int := f__law_is_int, f__law_is_tuple := f__law_is_tuple, f__law_is_fraction := f__law_is_fraction, f__law_great := f__law_great, f__law_refused := f__law_refused, f__law_reckoned := f__law_reckoned, f__law_due := f__law_due, f_law := f_law, z_abs := z_abs, z_all := z_all, z_bool := z_bool, z_gcd := z_gcd, z_int := z_int, z_isinstance := z_isinstance, z_len := z_len, z_list := z_list, z_max := z_max, z_range := z_range, z_str := z_str, z_tuple := z_tuple, x_InvalidFraction := x_InvalidFraction, exm_InvalidFraction := (Pd.all_cons m_InvalidFraction_0 Pd.all_nil), kit_BoundError := (Pd.all_cons t_BoundError_0 Pd.all_nil), kit_ValueError := (Pd.all_cons t_ValueError_0 Pd.all_nil), kit_InvalidPoint := (Pd.all_cons t_InvalidPoint_0 Pd.all_nil) }⟩
